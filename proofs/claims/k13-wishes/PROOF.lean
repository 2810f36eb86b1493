import PyProof.Rows.All
import Wide.All
import OpenK.AllK
import Wide.FinOn
import PyProof.Logic
import HandS.ForMost
import HandS.ForExc
import HandS.SetKeys
import PyProof.ToksMono
import HandS.Call
import HandS.Iter
import HandS.Style
import HandS.Wide
import HandS.TupAny
import HandS.List
import PyProof.StrOps
import HandS.Flow
import HandS.IsInst
import HandS.TupLe
import HandS.StrMore
import HandS.ExcOwn
import HandS.Steps
import PyProof.StrOps2
import HandS.Deep
import HandS.CallSlots
import HandS.Comp
import HandS.Text
import PyProof.SliceStr2
import HandS.RaiseMore
import HandS.Replace
import PyProof.StrReplace2
import HandS.Dict
import HandS.EndBits
import PyProof.ReprRoads
import PyProof.EqKinds
import PyProof.P3In
import PyProof.NeKinds
import HandS.Codes
import HandS.SetFor
import HandS.Walk
import HandS.Conv
import HandS.Defaults
import PyProof.Rows.RegReprOcc
import PyProof.Rows.StrFit
import PyProof.Rows.RegFStrParts
import HandS.ReplaceList
import PySem.Challenge.RW_tailnames_k13_wishes_by_form
set_option Elab.async false
set_option linter.all false
set_option maxRecDepth 100000
/-! a run has one end -/
namespace L3
open PySem
theorem runs_det {M : Model} {Γ : Ctx} {p : Pos} {t : Sem Fin} {fs : List Frame} {s s1 : Shared} {e1 : End} (h : Runs M Γ p t fs s e1 s1) : ∀ {e2 : End} {s2 : Shared}, Runs M Γ p t fs s e2 s2 → e1 = e2 ∧ s1 = s2 := by
  induction h with
  | done => intro e2 s2 h2; cases h2; exact ⟨rfl, rfl⟩
  | raise => intro e2 s2 h2; cases h2; exact ⟨rfl, rfl⟩
  | again _ _ ih => intro e2 s2 h2; cases h2 with | again _ h => exact ih h
  | rule _ ih => intro e2 s2 h2; cases h2 with | rule h => exact ih h
  | «at» _ ih => intro e2 s2 h2; cases h2 with | «at» h => exact ih h
  | load ho _ ih => intro e2 s2 h2; cases h2 with | load ho2 h => rw [ho] at ho2; cases ho2; exact ih h
  | update _ _ ih => intro e2 s2 h2; cases h2 with | update _ h => exact ih h
  | loadIfAlive _ ih => intro e2 s2 h2; cases h2 with | loadIfAlive h => exact ih h
  | point _ ih => intro e2 s2 h2; cases h2 with | point h => exact ih h
  | alloc _ ih => intro e2 s2 h2; cases h2 with | alloc h => exact ih h
  | fresh _ ih => intro e2 s2 h2; cases h2 with | fresh h => exact ih h
  | ask _ ih => intro e2 s2 h2; cases h2 with | ask h => exact ih h
  | choose _ _ ih => intro e2 s2 h2; cases h2 with | choose _ h => exact ih h
  | os _ ih => intro e2 s2 h2; cases h2 with | os h => exact ih h
  | handled _ ih => intro e2 s2 h2; cases h2 with | handled h => exact ih h
  | genState hg _ ih => intro e2 s2 h2; cases h2 with | genState hg2 h => rw [hg] at hg2; cases hg2; exact ih h
  | stack _ ih => intro e2 s2 h2; cases h2 with | stack h => exact ih h
  | thread _ ih => intro e2 s2 h2; cases h2 with | thread h => exact ih h
  | newGen _ ih => intro e2 s2 h2; cases h2 with | newGen h => exact ih h
  | call _ _ ih1 ih2 =>
    intro e2 s2 h2
    cases h2 with
    | call a b => obtain ⟨e, rfl⟩ := ih1 a; cases e; exact ih2 b
    | callSusp a => obtain ⟨e, _⟩ := ih1 a; cases e
  | callSusp _ ih1 =>
    intro e2 s2 h2
    cases h2 with
    | call a b => obtain ⟨e, _⟩ := ih1 a; cases e
    | callSusp a => obtain ⟨e, rfl⟩ := ih1 a; cases e; exact ⟨rfl, rfl⟩
  | yield => intro e2 s2 h2; cases h2; exact ⟨rfl, rfl⟩
  | resumeFresh hg _ _ _ ih1 ih2 =>
    intro e2 s2 h2
    cases h2 with
    | resumeFresh hg2 a _ b => rw [hg] at hg2; cases hg2; obtain ⟨rfl, rfl⟩ := ih1 a; exact ih2 b
    | resumeSuspended hg2 a _ b => rw [hg] at hg2; cases hg2
    | resumeJustStarted _ hv _ => exact absurd rfl hv
    | resumeRunning hg2 _ => rw [hg] at hg2; cases hg2
    | resumeFinished hg2 _ => rw [hg] at hg2; cases hg2
  | resumeSuspended hg _ _ _ ih1 ih2 =>
    intro e2 s2 h2
    cases h2 with
    | resumeFresh hg2 a _ b => rw [hg] at hg2; cases hg2
    | resumeSuspended hg2 a _ b => rw [hg] at hg2; cases hg2; obtain ⟨rfl, rfl⟩ := ih1 a; exact ih2 b
    | resumeJustStarted hg2 hv _ => rw [hg] at hg2; cases hg2
    | resumeThrowFresh hg2 _ => rw [hg] at hg2; cases hg2
    | resumeRunning hg2 _ => rw [hg] at hg2; cases hg2
    | resumeFinished hg2 _ => rw [hg] at hg2; cases hg2
  | resumeJustStarted hg hv _ ih =>
    intro e2 s2 h2
    cases h2 with
    | resumeFresh hg2 a _ b => exact absurd rfl hv
    | resumeSuspended hg2 a _ b => rw [hg] at hg2; cases hg2
    | resumeJustStarted _ _ b => exact ih b
    | resumeRunning hg2 _ => rw [hg] at hg2; cases hg2
    | resumeFinished hg2 _ => rw [hg] at hg2; cases hg2
  | resumeThrowFresh hg _ ih =>
    intro e2 s2 h2
    cases h2 with
    | resumeSuspended hg2 a _ b => rw [hg] at hg2; cases hg2
    | resumeThrowFresh _ b => exact ih b
    | resumeRunning hg2 _ => rw [hg] at hg2; cases hg2
    | resumeFinished hg2 _ => rw [hg] at hg2; cases hg2
  | resumeRunning hg _ ih =>
    intro e2 s2 h2
    cases h2 with
    | resumeFresh hg2 a _ b => rw [hg] at hg2; cases hg2
    | resumeSuspended hg2 a _ b => rw [hg] at hg2; cases hg2
    | resumeJustStarted hg2 hv _ => rw [hg] at hg2; cases hg2
    | resumeThrowFresh hg2 _ => rw [hg] at hg2; cases hg2
    | resumeRunning _ b => exact ih b
    | resumeFinished hg2 _ => rw [hg] at hg2; cases hg2
  | resumeFinished hg _ ih =>
    intro e2 s2 h2
    cases h2 with
    | resumeFresh hg2 a _ b => rw [hg] at hg2; cases hg2
    | resumeSuspended hg2 a _ b => rw [hg] at hg2; cases hg2
    | resumeJustStarted hg2 hv _ => rw [hg] at hg2; cases hg2
    | resumeThrowFresh hg2 _ => rw [hg] at hg2; cases hg2
    | resumeRunning hg2 _ => rw [hg] at hg2; cases hg2
    | resumeFinished _ b => exact ih b
  | segRet _ _ ih1 ih2 =>
    intro e2 s2 h2
    cases h2 with
    | segRet a b => obtain ⟨e, rfl⟩ := ih1 a; cases e; exact ih2 b
    | segSuspOut _ a => obtain ⟨e, _⟩ := ih1 a; cases e
    | segSuspGen _ a _ _ => obtain ⟨e, _⟩ := ih1 a; cases e
  | segGen _ _ ih1 ih2 =>
    intro e2 s2 h2
    cases h2 with
    | segGen a b => obtain ⟨e, rfl⟩ := ih1 a; cases e; exact ih2 b
    | segSuspOut _ a => obtain ⟨e, _⟩ := ih1 a; cases e
    | segSuspGen _ a _ _ => obtain ⟨e, _⟩ := ih1 a; cases e
  | segSuspOut hs _ ih1 =>
    intro e2 s2 h2
    cases h2 with
    | segRet a b => obtain ⟨e, _⟩ := ih1 a; cases e
    | segGen a b => obtain ⟨e, _⟩ := ih1 a; cases e
    | segSuspOut _ a => obtain ⟨e, rfl⟩ := ih1 a; cases e; exact ⟨rfl, rfl⟩
    | segSuspGen hs2 a _ _ => rw [hs] at hs2; cases hs2
  | segSuspGen hs _ _ _ ih1 ih2 =>
    intro e2 s2 h2
    cases h2 with
    | segRet a b => obtain ⟨e, _⟩ := ih1 a; cases e
    | segGen a b => obtain ⟨e, _⟩ := ih1 a; cases e
    | segSuspOut hs2 a => rw [hs] at hs2; cases hs2
    | segSuspGen hs2 a _ b => rw [hs] at hs2; cases hs2; obtain ⟨e, rfl⟩ := ih1 a; cases e; exact ih2 b
theorem wakes_det {M : Model} {Γ : Ctx} {p : Pos} {g : Nat} {r : Resume} {s s1 s2 : Shared} {a b : GenResult} (h : Wakes M Γ p g r s a s1) (h' : Wakes M Γ p g r s b s2) : a = b ∧ s1 = s2 := by
  unfold Wakes at h h'
  cases hg : s.gens[g]? with
  | none => rw [hg] at h; exact h.elim
  | some st =>
    rw [hg] at h h'
    cases st with
    | fresh c =>
      cases r with
      | send v =>
        by_cases hv : v = .none
        · subst hv
          obtain ⟨e, t, a1, _, rfl, rfl⟩ := h
          obtain ⟨e', t', a2, _, rfl, rfl⟩ := h'
          obtain ⟨rfl, rfl⟩ := runs_det a1 a2
          exact ⟨rfl, rfl⟩
        · have k : a = .justStarted ∧ s1 = s := by cases v <;> first | exact absurd rfl hv | exact h
          have k' : b = .justStarted ∧ s2 = s := by cases v <;> first | exact absurd rfl hv | exact h'
          exact ⟨k.1.trans k'.1.symm, k.2.trans k'.2.symm⟩
      | throw x => exact ⟨h.1.trans h'.1.symm, h.2.trans h'.2.symm⟩
    | suspended k l c q fs cl =>
      obtain ⟨e, t, a1, _, rfl, rfl⟩ := h
      obtain ⟨e', t', a2, _, rfl, rfl⟩ := h'
      obtain ⟨rfl, rfl⟩ := runs_det a1 a2
      exact ⟨rfl, rfl⟩
    | running => exact ⟨h.1.trans h'.1.symm, h.2.trans h'.2.symm⟩
    | finished => exact ⟨h.1.trans h'.1.symm, h.2.trans h'.2.symm⟩
theorem wp_and {α : Type} (M : Model) (Γ : Ctx) (t : Sem α) : ∀ (Q Q' : α → Pos → Shared → Prop) (E E' : Value → Pos → Shared → Prop) (p : Pos) (s : Shared), Sem.wp M Γ t Q E p s → Sem.wp M Γ t Q' E' p s →
    Sem.wp M Γ t (fun a p' s' => Q a p' s' ∧ Q' a p' s') (fun e p' s' => E e p' s' ∧ E' e p' s') p s := by
  induction t with
  | pure a => intro Q Q' E E' p s h h'; exact ⟨h, h'⟩
  | raise e => intro Q Q' E E' p s h h'; exact ⟨h, h'⟩
  | unsupported _ => intro Q Q' E E' p s h h'; exact h
  | finish _ => intro Q Q' E E' p s h h'; exact h
  | rule _ k ih => intro Q Q' E E' p s h h'; exact ih () Q Q' E E' p s h h'
  | «at» p' k ih => intro Q Q' E E' p s h h'; exact ih () Q Q' E E' p' s h h'
  | load a _ k ih =>
    intro Q Q' E E' p s h h'
    obtain ⟨o, ho, h⟩ := h
    obtain ⟨o', ho', h'⟩ := h'
    rw [ho] at ho'; cases ho'
    exact ⟨o, ho, ih o Q Q' E E' p s h h'⟩
  | update a _ f k ih => intro Q Q' E E' p s h h'; exact ⟨h.1, ih () Q Q' E E' p _ h.2 h'.2⟩
  | loadIfAlive a k ih => intro Q Q' E E' p s h h'; exact ih _ Q Q' E E' p s h h'
  | point _ k ih => intro Q Q' E E' p s h h'; exact ih () Q Q' E E' p s h h'
  | register _ _ => intro Q Q' E E' p s h h'; exact h
  | alloc o k ih => intro Q Q' E E' p s h h'; exact ih _ Q Q' E E' p _ h h'
  | fresh k ih => intro Q Q' E E' p s h h'; exact ih _ Q Q' E E' p _ h h'
  | ask k ih => intro Q Q' E E' p s h h'; exact ih _ Q Q' E E' p s h h'
  | choose src m k ih => intro Q Q' E E' p s h h'; exact ⟨h.1, ih _ Q Q' E E' p _ h.2 h'.2⟩
  | os q _ k ih => intro Q Q' E E' p s h h'; exact ih _ Q Q' E E' p _ h h'
  | call c hd _ _ k ih =>
    intro Q Q' E E' p s h h'
    obtain ⟨r, s1, hr, h⟩ := h
    obtain ⟨r', s1', hr', h'⟩ := h'
    obtain ⟨e, rfl⟩ := runs_det hr hr'
    cases e
    exact ⟨r, s1, hr, ih r Q Q' E E' p s1 h h'⟩
  | handled own k ih => intro Q Q' E E' p s h h'; exact ih _ Q Q' E E' p s h h'
  | genState g k ih =>
    intro Q Q' E E' p s h h'
    obtain ⟨st, hs, h⟩ := h
    obtain ⟨st', hs', h'⟩ := h'
    rw [hs] at hs'; cases hs'
    exact ⟨st, hs, ih _ Q Q' E E' p s h h'⟩
  | newGen c k ih => intro Q Q' E E' p s h h'; exact ih _ Q Q' E E' p _ h h'
  | resume g r _ k ih =>
    intro Q Q' E E' p s h h'
    obtain ⟨res, s1, hw, h⟩ := h
    obtain ⟨res', s1', hw', h'⟩ := h'
    obtain ⟨rfl, rfl⟩ := wakes_det hw hw'
    exact ⟨res, s1, hw, ih res Q Q' E E' p s1 h h'⟩
  | yield _ _ _ _ => intro Q Q' E E' p s h h'; exact h
  | stack k ih => intro Q Q' E E' p s h h'; exact ih _ Q Q' E E' p s h h'
  | fork _ _ => intro Q Q' E E' p s h h'; exact h
  | thread k ih => intro Q Q' E E' p s h h'; exact ih _ Q Q' E E' p s h h'
  | await _ _ _ _ _ => intro Q Q' E E' p s h h'; exact h
section
variable {α : Type} {M : Model} {A : Around} {s : Shared}
theorem wpAny_and {t : Sem α} {Q Q' : α → Shared → Prop} {E E' : Value → Shared → Prop} (h : wpAny M A t Q E s) (h' : wpAny M A t Q' E' s) : wpAny M A t (fun a s' => Q a s' ∧ Q' a s') (fun e s' => E e s' ∧ E' e s') s :=
  fun Γ p hΓ => wp_and M Γ t _ _ _ _ p s (h Γ p hΓ) (h' Γ p hΓ)
theorem codeAny_and {c : Code} {R R' : Result → Shared → Prop} (h : codeAny M A c R s) (h' : codeAny M A c R' s) : codeAny M A c (fun r s' => R r s' ∧ R' r s') s := fun Γ p hc hΓ => by
  obtain ⟨r, s1, hr, q⟩ := h Γ p hc hΓ
  obtain ⟨r', s1', hr', q'⟩ := h' Γ p hc hΓ
  obtain ⟨e, rfl⟩ := runs_det hr hr'
  cases e
  exact ⟨r, s1, hr, q, q'⟩
end
end L3

/-! L3 with tokens: every text that a def holds has a token that is out. -/
namespace L3
open PySem L2 PyProof.Rows

/-- a value whose token (if it is a text) is out -/
def gv (k : Nat) (u : Value) : Prop := ∀ x t, u = .str x t → 0 < t ∧ t < k
def gvs (k : Nat) (us : List Value) : Prop := ∀ u, u ∈ us → gv k u
theorem gv.mono {k k' : Nat} {u : Value} (h : gv k u) (e : k ≤ k') : gv k' u := fun x t z => ⟨(h x t z).1, Nat.lt_of_lt_of_le (h x t z).2 e⟩
theorem gvs.mono {k k' : Nat} {us : List Value} (h : gvs k us) (e : k ≤ k') : gvs k' us := fun u m => (h u m).mono e
theorem gv_int {k : Nat} {i : Int} {t : Tok} : gv k (.int i t) := fun _ _ z => nomatch z
theorem gv_bool {k : Nat} {b : Bool} : gv k (.bool b) := fun _ _ z => nomatch z
theorem gv_none {k : Nat} : gv k .none := fun _ _ z => nomatch z
theorem gv_ref {k : Nat} {a : Addr} : gv k (.ref a) := fun _ _ z => nomatch z
theorem gv_type {k : Nat} {a : String} : gv k (.type a) := fun _ _ z => nomatch z
theorem gv_str {k t : Nat} {x : Str} (h : 0 < t) (h' : t < k) : gv k (.str x t) := fun _ _ z => by cases z; exact ⟨h, h'⟩
theorem gvs_nil {k : Nat} : gvs k [] := fun _ m => by cases m
theorem gvs_cons {k : Nat} {u : Value} {us : List Value} (h : gv k u) (t : gvs k us) : gvs k (u :: us) := fun v m => by
  rcases List.mem_cons.mp m with e | m
  · rw [e]; exact h
  · exact t v m
theorem gvs.app {k : Nat} {us vs : List Value} (h : gvs k us) (t : gvs k vs) : gvs k (us ++ vs) := fun v m => (List.mem_append.mp m).elim (h v) (t v)
/-- no text: nothing to say -/
theorem gv_of {k : Nat} {v : V} {u : Value} (r : L2.RelV v u) (h : ∀ x, v ≠ .str x) : gv k u := by
  cases v with
  | str x => exact absurd rfl (h x)
  | non => cases r; exact gv_none
  | bl b => cases r; exact gv_bool
  | int i => obtain ⟨t, rfl⟩ := r; exact gv_int
  | byt b => obtain ⟨t, rfl⟩ := r; exact fun _ _ z => nomatch z
  | flt b => obtain ⟨t, rfl⟩ := r; exact fun _ _ z => nomatch z
  | ref a => cases r; exact gv_ref
  | ty n => cases r; exact gv_type

/-- the value, and its token out -/
def RelV (k : Nat) (v : V) (u : Value) : Prop := L2.RelV v u ∧ gv k u
def Vals (k : Nat) (vs : List V) (us : List Value) : Prop := L2.Vals vs us ∧ gvs k us
theorem RelV.mono {k k' : Nat} {v : V} {u : Value} (r : RelV k v u) (e : k ≤ k') : RelV k' v u := ⟨r.1, r.2.mono e⟩
theorem Vals.mono {k k' : Nat} {v : List V} {u : List Value} (r : Vals k v u) (e : k ≤ k') : Vals k' v u := ⟨r.1, r.2.mono e⟩
theorem Vals.nil {k : Nat} : Vals k [] [] := ⟨.nil, gvs_nil⟩
theorem Vals.cons {k : Nat} {v : V} {u : Value} {vs : List V} {us : List Value} (r : RelV k v u) (t : Vals k vs us) : Vals k (v :: vs) (u :: us) := ⟨.cons r.1 t.1, gvs_cons r.2 t.2⟩
theorem RelV.bl {k : Nat} {b : Bool} : RelV k (.bl b) (.bool b) := ⟨rfl, gv_bool⟩
theorem RelV.non {k : Nat} : RelV k .non .none := ⟨rfl, gv_none⟩
theorem RelV.int {k : Nat} {i : Int} {t : Tok} : RelV k (.int i) (.int i t) := ⟨⟨t, rfl⟩, gv_int⟩
theorem RelV.ref {k : Nat} {a : Addr} : RelV k (.ref a) (.ref a) := ⟨rfl, gv_ref⟩
theorem RelV.str {k t : Nat} {x : Str} (h : 0 < t) (h' : t < k) : RelV k (.str x) (.str x t) := ⟨⟨t, rfl⟩, gv_str h h'⟩

/-- a tracked object's texts -/
def HoG (h : Heap) (k : Nat) (a : Addr) : HO → Prop
  | .lst _ => ∀ o its n, h.get? a = some o → o.data = .seq its n → gvs k its.toList
  | .tup _ => ∀ o its n, h.get? a = some o → o.data = .seq its n → gvs k its.toList
  | .dK kvs => (∀ kv ∈ kvs, ∃ b, kv.2 = V.ref b) → ∀ o es ep, h.get? a = some o → o.data = .dict es ep → ∀ e, e ∈ es.toList → gv k e.key
  | .own _ => ∀ m, h.Ns a m → ∀ x u, m x = some u → gv k u
  | .frz _ u => HoG h k a u
  | _ => True
def HpG (H : Hp) (h : Heap) (k : Nat) : Prop := ∀ a o, H a = some o → HoG h k a o
def FrG (X : Cx) (h : Heap) (k : Nat) : Prop := (∀ m, h.Ns X.env.locals m → ∀ x u, m x = some u → gv k u) ∧ ∀ x c u, X.env.cells.lookup x = some c → h.IsCell c (some u) → gv k u

theorem ns_data {h h' : Heap} {a : Addr} {o o' : Obj} {m : Str → Option Value} (e : h.get? a = some o) (e' : h'.get? a = some o') (d : o'.data = o.data) (n : h'.Ns a m) : h.Ns a m := by
  obtain ⟨o2, es, ep, ho, hd, r⟩ := n
  rw [e'] at ho; cases ho
  exact ⟨o, es, ep, e, d ▸ hd, r⟩
theorem cell_data {h h' : Heap} {a : Addr} {o o' : Obj} {v : Option Value} (e : h.get? a = some o) (e' : h'.get? a = some o') (d : o'.data = o.data) (n : h'.IsCell a v) : h.IsCell a v := by
  obtain ⟨o2, ho, hd⟩ := n
  rw [e'] at ho; cases ho
  exact ⟨o, e, d ▸ hd⟩
/-- an object that is kept (but for its slots) -/
theorem HoG.keep {h h' : Heap} {k k' : Nat} {a : Addr} {o : HO} {ob ob' : Obj} (g : HoG h k a o) (hk : k ≤ k') (e : h.get? a = some ob) (e' : h'.get? a = some ob') (d : ob'.data = ob.data) : HoG h' k' a o := by
  induction o with
  | lst xs =>
    intro o its n z y
    rw [e'] at z; cases z
    exact (g ob its n e (d ▸ y)).mono hk
  | tup xs =>
    intro o its n z y
    rw [e'] at z; cases z
    exact (g ob its n e (d ▸ y)).mono hk
  | dK xs =>
    intro rf o es ep z y x m
    rw [e'] at z; cases z
    exact (g rf ob es ep e (d ▸ y) x m).mono hk
  | own y =>
    intro m n x u q
    exact (g m (ns_data e e' d n) x u q).mono hk
  | frz o u ih => exact ih g
  | _ => trivial
theorem FrG.keep {X : Cx} {h h' : Heap} {k k' : Nat} (f : FrG X h k) (hk : k ≤ k') (hL : ∃ o o', h.get? X.env.locals = some o ∧ h'.get? X.env.locals = some o' ∧ o'.data = o.data)
    (hc : ∀ x c, X.env.cells.lookup x = some c → ∃ o o', h.get? c = some o ∧ h'.get? c = some o' ∧ o'.data = o.data) : FrG X h' k' := by
  obtain ⟨o, o', e, e', d⟩ := hL
  refine ⟨fun m n x u q => (f.1 m (ns_data e e' d n) x u q).mono hk, fun x c u l n => ?_⟩
  obtain ⟨o, o', e, e', d⟩ := hc x c l
  exact (f.2 x c u l (cell_data e e' d n)).mono hk

/-- the state of a def's body: the hand layer's word, the frame's texts, the tracked objects' texts -/
structure Inv (X : Cx) (pins : List (Addr × Obj)) (σ : List (Option V)) (H : Hp) (s : Shared) : Prop where
  i : L2.Inv X pins σ H s
  f : FrG X s.heap s.toks
  g : HpG H s.heap s.toks
  p : 0 < s.toks

section
variable {X : Cx} {pins : List (Addr × Obj)} {σ : List (Option V)} {H H' : Hp} {s : Shared} {h' : Heap}
theorem Inv.ok (I : Inv X pins σ H s) : X.Ok := I.i.ok
theorem Inv.hok (I : Inv X pins σ H s) : HOk X.prog X.w H s.heap := I.i.hok
theorem Inv.kIn (I : Inv X pins σ H s) : X.K.In s.heap := I.i.kIn
theorem Inv.mod (I : Inv X pins σ H s) : Mod X.K X.mg X.base := I.i.mod
theorem Inv.free (I : Inv X pins σ H s) : H X.env.locals = none := I.i.free
theorem Inv.lt (I : Inv X pins σ H s) : X.env.locals < s.heap.objs.size := I.i.lt
theorem Inv.fresh (I : Inv X pins σ H s) {a : Addr} (h : s.heap.objs.size ≤ a) : H a = none := I.i.hok.fresh h
theorem Inv.quiet (I : Inv X pins σ H s) : interactive X.env = false := I.i.quiet
theorem Inv.locAt (I : Inv X pins σ H s) : ∃ o, s.heap.get? X.env.locals = some o := by
  obtain ⟨m, ⟨o, _, _, e, _⟩, _⟩ := I.i.loc
  exact ⟨o, e⟩
theorem Inv.cellAt (I : Inv X pins σ H s) {x : Str} {c : Addr} (l : X.env.cells.lookup x = some c) : ∃ o, s.heap.get? c = some o := by
  obtain ⟨v, o, e, _⟩ := I.i.cell x c l
  exact ⟨o, e⟩
theorem trAt0 {P : Program} {w : World} {H : Hp} {h : Heap} (hok : HOk P w H h) {a : Addr} {o : HO} (e : H a = some o) : ∃ ob, h.get? a = some ob := by
  have hl := hok.lt e
  have := hok a o e
  clear hl
  induction o with
  | lst xs => obtain ⟨_, _, _, _, e⟩ := this; exact ⟨_, e⟩
  | tup xs => obtain ⟨_, _, _, p⟩ := this; obtain ⟨o, e, _⟩ := p; exact ⟨_, e⟩
  | dK kvs => obtain ⟨_, _, _, _, o, _, _, e, _⟩ := this; exact ⟨_, e⟩
  | dT kvs => obtain ⟨_, _, _, _, o, _, _, e, _⟩ := this; exact ⟨_, e⟩
  | set S n => obtain ⟨o, _, _, _, e, _⟩ := this; exact ⟨_, e⟩
  | ins C dx fs => obtain ⟨_, _, _, e, _⟩ := this; exact ⟨_, e⟩
  | own y => obtain ⟨_, e⟩ := this; exact ⟨_, e⟩
  | xd fs => obtain ⟨_, ⟨_, _, _, e, _⟩, _⟩ := this; exact ⟨_, e⟩
  | rng lo hi => obtain ⟨_, _, _, e⟩ := this; exact ⟨_, e⟩
  | frz ob u => obtain ⟨e, _⟩ := this; exact ⟨_, e⟩
  | tbl ps => exact ⟨_, show h.get? a = some _ from this⟩
  | met f y => exact ⟨_, show h.get? a = some _ from this⟩
  | ext φ => obtain ⟨_, ⟨_, e⟩, _⟩ := this; exact ⟨_, e⟩
theorem Inv.trAt (I : Inv X pins σ H s) {a : Addr} {o : HO} (e : H a = some o) : ∃ ob, s.heap.get? a = some ob := trAt0 I.i.hok e
theorem Inv.tok (I : Inv X pins σ H s) {t : Nat} (h : s.toks ≤ t) : Inv X pins σ H { s with toks := t } := by
  refine ⟨I.i.tok t, ?_, fun a o e => ?_, Nat.lt_of_lt_of_le I.p h⟩
  · obtain ⟨o, e⟩ := I.locAt
    refine I.f.keep h ⟨o, o, e, e, rfl⟩ fun x c l => ?_
    obtain ⟨o, e⟩ := I.cellAt l
    exact ⟨o, o, e, e, rfl⟩
  · obtain ⟨ob, q⟩ := I.trAt e
    exact (I.g a o e).keep h q q rfl
theorem Inv.kept {t' : Nat} (I : Inv X pins σ H s) (k : ∀ b u, s.heap.get? b = some u → h'.get? b = some u) (h : s.toks ≤ t') : Inv X pins σ H { s with heap := h', toks := t' } := by
  refine ⟨I.i.kept (t' := t') k, ?_, fun a o e => ?_, Nat.lt_of_lt_of_le I.p h⟩
  · obtain ⟨o, e⟩ := I.locAt
    refine I.f.keep h ⟨o, o, e, k _ _ e, rfl⟩ fun x c l => ?_
    obtain ⟨o, e⟩ := I.cellAt l
    exact ⟨o, o, e, k _ _ e, rfl⟩
  · obtain ⟨ob, q⟩ := I.trAt e
    exact (I.g a o e).keep h q (k _ _ q) rfl
theorem Inv.laid {a : Addr} {o : HO} {t' : Nat} (I : Inv X pins σ H s) (k : ∀ b u, s.heap.get? b = some u → h'.get? b = some u) (hp : s.heap.objs.size ≤ a) (new : ObjOk X.prog X.w (upd H a o) h' a o) (ng : HoG h' t' a o) (h : s.toks ≤ t') :
    Inv X pins σ (upd H a o) { s with heap := h', toks := t' } := by
  refine ⟨I.i.laid (t' := t') k hp new, (I.kept (t' := t') k h).f, fun b u e => ?_, Nat.lt_of_lt_of_le I.p h⟩
  by_cases hb : b = a
  · subst hb; rw [upd_same] at e; cases e; exact ng
  · rw [upd_ne hb] at e
    obtain ⟨ob, q⟩ := I.trAt e
    exact (I.g b u e).keep h q (k _ _ q) rfl
/-- an object written: x itself, or the dict of the instance x -/
theorem Inv.write {x e : Addr} {o : HO} {t' : Nat} (I : Inv X pins σ H s) (mu : Mut (H x)) (he : e = x ∨ H e = some (.own x)) (k : ∀ b u, b ≠ e → s.heap.get? b = some u → h'.get? b = some u) (heo : ∃ u, h'.get? e = some u)
    (new : ObjOk X.prog X.w (upd H x o) h' x o) (ng : HoG h' t' x o) (nge : e ≠ x → HoG h' t' e (.own x)) (h : s.toks ≤ t') : Inv X pins σ (upd H x o) { s with heap := h', toks := t' } := by
  have hLe : X.env.locals ≠ e := fun z => by
    have := I.free
    rw [z] at this
    rcases he with r | r
    · rw [r] at this; rw [this] at mu; exact mu
    · rw [this] at r; cases r
  have hce : ∀ y c, X.env.cells.lookup y = some c → c ≠ e := fun y c l z => by
    have := I.i.freeC y c l
    rw [z] at this
    rcases he with r | r
    · rw [r] at this; rw [this] at mu; exact mu
    · rw [this] at r; cases r
  refine ⟨I.i.write (t' := t') mu he k heo new, ?_, fun b u q => ?_, Nat.lt_of_lt_of_le I.p h⟩
  · obtain ⟨o, e⟩ := I.locAt
    refine I.f.keep h ⟨o, o, e, k _ _ hLe e, rfl⟩ fun x c l => ?_
    obtain ⟨o, e⟩ := I.cellAt l
    exact ⟨o, o, e, k _ _ (hce _ _ l) e, rfl⟩
  · by_cases hb : b = x
    · subst hb; rw [upd_same] at q; cases q; exact ng
    · rw [upd_ne hb] at q
      by_cases hbe : b = e
      · have hex : e ≠ x := fun z => hb (hbe.trans z)
        have q' : H e = some (.own x) := he.resolve_left hex
        rw [hbe, q'] at q; cases q
        rw [hbe]; exact nge hex
      · obtain ⟨ob, z⟩ := I.trAt q
        exact (I.g b u q).keep h z (k _ _ hbe z) rfl
/-- an untracked record of ours (an iterator) has turned -/
theorem Inv.turned {t' : Nat} {it : Addr} (I : Inv X pins σ H s) (k : ∀ b o, b ≠ it → s.heap.get? b = some o → h'.get? b = some o) (hn : H it = none) (hL : it ≠ X.env.locals)
    (h1 : it ∈ X.ex ∨ X.s_0.heap.objs.size ≤ it) (h2 : ∀ x c, X.env.cells.lookup x = some c → c ≠ it) (h3 : ∀ p ∈ X.pn ++ pins, p.1 ≠ it) (h : s.toks ≤ t') : Inv X pins σ H { s with heap := h', toks := t' } := by
  refine ⟨I.i.turned (t' := t') k hn hL h1 h2 h3, ?_, fun b u q => ?_, Nat.lt_of_lt_of_le I.p h⟩
  · obtain ⟨o, e⟩ := I.locAt
    refine I.f.keep h ⟨o, o, e, k _ _ (Ne.symm hL) e, rfl⟩ fun x c l => ?_
    obtain ⟨o, e⟩ := I.cellAt l
    exact ⟨o, o, e, k _ _ (h2 _ _ l) e, rfl⟩
  · obtain ⟨ob, z⟩ := I.trAt q
    refine (I.g b u q).keep h z (k _ _ (fun e => ?_) z) rfl
    rw [e, hn] at q; cases q
/-- behind a call or a block -/
theorem Inv.call {s' : Shared} {ch : List Addr} (I : Inv X pins σ H s) (ho : s'.os = s.os) (u : Un (frs X.stack) ch H H' s.heap s'.heap) (hok : HOk X.prog X.w H' s'.heap) (hg : AllBare s'.gens) (hG : HpG H' s'.heap s'.toks) (h : s.toks ≤ s'.toks)
    (hch : ∀ b ∈ ch, (b ∈ X.ex ∨ X.s_0.heap.objs.size ≤ b) ∧ b ≠ X.env.locals ∧ (∀ x c, X.env.cells.lookup x = some c → c ≠ b) ∧ ∀ p ∈ X.pn ++ pins, p.1 ≠ b) : Inv X pins σ H' s' := by
  refine ⟨I.i.call' ho u hok hg hch, ?_, hG, Nat.lt_of_lt_of_le I.p h⟩
  obtain ⟨o, e⟩ := I.locAt
  obtain ⟨sl, q⟩ := u.any e I.free fun z => (hch _ z).2.1 rfl
  refine I.f.keep h ⟨o, _, e, q, rfl⟩ fun x c l => ?_
  obtain ⟨o, e⟩ := I.cellAt l
  obtain ⟨sl, q⟩ := u.any e (I.i.freeC x c l) fun z => (hch _ z).2.2.1 x c l rfl
  exact ⟨o, _, e, q, rfl⟩
theorem Inv.pins_of {pins' : List (Addr × Obj)} (I : Inv X pins σ H s) (h : ∀ p ∈ pins', s.heap.get? p.1 = some p.2 ∧ H p.1 = none ∧ p.1 ≠ X.env.locals ∧ p.1 ∉ X.fs ∧ ∀ v, p.2.data ≠ .cell v) : Inv X pins' σ H s := ⟨I.i.pins_of h, I.f, I.g, I.p⟩
theorem Inv.weak {σ' : List (Option V)} (I : Inv X pins σ H s) (hl : σ'.length = σ.length) (w : ∀ (i : Nat) v, σ'[i]? = some (some v) → σ[i]? = some (some v)) : Inv X pins σ' H s := ⟨I.i.weak hl w, I.f, I.g, I.p⟩
theorem Inv.pinned {fp : List Addr} (I : Inv X pins σ H s) (hf : ∀ b ∈ fp, FpOk X pins H b) (ho : ∀ b ∈ fp, ∃ o, s.heap.get? b = some o ∧ ∀ v, o.data ≠ .cell v) : Inv X (pins ++ pinsAt fp s.heap) σ H s := ⟨I.i.pinned hf ho, I.f, I.g, I.p⟩
theorem Inv.unpinned {pl : List (Addr × Obj)} (I : Inv X (pins ++ pl) σ H s) : Inv X pins σ H s := ⟨I.i.unpinned, I.f, I.g, I.p⟩
theorem Inv.fpOk {b : Addr} (I : Inv X pins σ H s) (hb : s.heap.objs.size ≤ b) (hn : H' b = none) : FpOk X pins H' b := I.i.fpOk hb hn
theorem Inv.wish (I : Inv X pins σ H s) (E : Value → Shared → Prop) : Inv (X.wish E) pins σ H s := ⟨I.i.wish E, I.f, I.g, I.p⟩
theorem Inv.unwish {E : Value → Shared → Prop} (I : Inv (X.wish E) pins σ H s) : Inv X pins σ H s := ⟨I.i.unwish, I.f, I.g, I.p⟩
theorem cell_inj {h : Heap} {c : Addr} {v w : Option Value} (a : h.IsCell c v) (b : h.IsCell c w) : v = w := by
  obtain ⟨o, e, d⟩ := a
  obtain ⟨o', e', d'⟩ := b
  rw [e] at e'; cases e'
  rw [d] at d'; cases d'; rfl
theorem ns_inj {h : Heap} {c : Addr} {m m' : Str → Option Value} (a : h.Ns c m) (b : h.Ns c m') : m = m' := by
  obtain ⟨o, es, ep, e, d, _, q⟩ := a
  obtain ⟨o', es', ep', e', d', _, q'⟩ := b
  rw [e] at e'; cases e'
  rw [d] at d'; cases d'
  funext x
  rw [← q x, ← q' x]
/-- a name is stored: what the hand layer says of it, and what the heap says -/
theorem store_ok2 {M : Model} {A : Around} {E : Value → Shared → Prop} {i : Nat} {x : Str} {v : V} {u : Value} {Q : Unit → Shared → Prop} (I : Inv X pins σ H s) (hN : X.N.Nodup) (hi : X.N[i]? = some x) (hx : Loc X.env.scope x) (r : RelV s.toks v u)
    (h : ∀ s', Inv X pins (σ.set i (some v)) H s' → (∃ a, Heap.SameBut a s.heap s'.heap ∧ (a = X.env.locals ∨ X.env.cells.lookup x = some a)) → Q () s') (hf : X.fn x = true ∨ X.env.scope.names.lookup x = some .local := by first | exact .inl rfl | exact .inr rfl | assumption) : wpAny M A (storeName X.env x u) Q E s := by
  have one : wpAny M A (storeName X.env x u) (fun _ s' => L2.Inv X pins (σ.set i (some v)) H s' ∧ ∃ a, Heap.SameBut a s.heap s'.heap ∧ (a = X.env.locals ∨ X.env.cells.lookup x = some a)) E s := L2.store_ok2 I.i hN hi hx r.1 (fun _ q z => ⟨q, z⟩) hf
  obtain ⟨m, hn, _⟩ := id I.i.loc
  have cne := I.i.cne
  have two : wpAny M A (storeName X.env x u) (fun _ s' => FrG X s'.heap s'.toks ∧ s.toks ≤ s'.toks ∧ ∃ a, H a = none ∧ Heap.SameBut a s.heap s'.heap) E s := by
    rcases hx with hk | hk
    · refine wpAny_storeName_local hk hn (fun h' hn' hs => ⟨⟨fun m' n' y w q => ?_, fun y c w l z => ?_⟩, Nat.le_succ _, _, I.free, hs⟩) (by rw [I.ok.kind]; rfl)
      · have e := ns_inj n' hn'
        subst e
        have q : (if y = x then some u else m y) = some w := q
        by_cases hy : y = x
        · rw [if_pos hy] at q; cases q; exact r.2.mono (Nat.le_succ _)
        · rw [if_neg hy] at q; exact (I.f.1 m hn y w q).mono (Nat.le_succ _)
      · obtain ⟨w', z'⟩ := I.i.cell y c l
        have e := cell_inj z (z'.sameBut hs (cne y c l))
        subst e
        exact (I.f.2 y c w l z').mono (Nat.le_succ _)
    · obtain ⟨c, hc⟩ := I.ok.has x (.inl hk)
      obtain ⟨w', z⟩ := I.i.cell x c hc
      refine wpAny_storeName_cell I.ok.kind hk hc z fun h' hc' hs => ⟨⟨fun m' n' y w q => ?_, fun y c' w l z2 => ?_⟩, Nat.le_refl _, c, I.i.freeC x c hc, hs⟩
      · have e := ns_inj n' (hn.sameBut hs (Ne.symm (cne x c hc)))
        subst e
        exact I.f.1 _ hn y w q
      · by_cases hcc : c' = c
        · subst hcc
          cases cell_inj z2 hc'
          exact r.2
        · obtain ⟨w3, z3⟩ := I.i.cell y c' l
          have e := cell_inj z2 (z3.sameBut hs hcc)
          subst e
          exact I.f.2 y c' w l z3
  refine wpAny_mono (wpAny_and one two) (fun _ s' q => h s' ?_ q.1.2) fun _ _ q => q.1
  obtain ⟨⟨I2, _⟩, f, hk, a, ha, hs⟩ := q
  refine ⟨I2, f, fun b o e => ?_, Nat.lt_of_lt_of_le I.p hk⟩
  obtain ⟨ob, z⟩ := I.trAt e
  refine (I.g b o e).keep hk z ((hs.2 b fun y => ?_).trans z) rfl
  rw [y, ha] at e; cases e
theorem store_ok {M : Model} {A : Around} {E : Value → Shared → Prop} {i : Nat} {x : Str} {v : V} {u : Value} {Q : Unit → Shared → Prop} (I : Inv X pins σ H s) (hN : X.N.Nodup) (hi : X.N[i]? = some x) (hx : Loc X.env.scope x) (r : RelV s.toks v u)
    (h : ∀ s', Inv X pins (σ.set i (some v)) H s' → Q () s') (hf : X.fn x = true ∨ X.env.scope.names.lookup x = some .local := by first | exact .inl rfl | exact .inr rfl | assumption) : wpAny M A (storeName X.env x u) Q E s := store_ok2 I hN hi hx r (fun s' q _ => h s' q) hf
end
end L3

namespace L3
open PySem L2 PyProof.Rows

/-! ### what comes out of a piece -/
theorem thk {α : Type} {t : Sem α} {Q Q' : α → Shared → Prop} {M : Model} {A : Around} {E : Value → Shared → Prop} {s : Shared} (h : wpAny M A t Q E s) (hQ : ∀ a s', s.toks ≤ s'.toks → Q a s' → Q' a s') : wpAny M A t Q' E s :=
  wpAny_mono (PySem.wpAny_toks h) (fun a s' q => hQ a s' q.1 q.2) fun _ _ z => z.2
def EP (X : Cx) (pins : List (Addr × Obj)) (σ : L2.St) (Q : VK) (u : Value) (s' : Shared) : Prop := ∃ v H', Inv X pins σ H' s' ∧ RelV s'.toks v u ∧ Q v H'
def TP (X : Cx) (pins : List (Addr × Obj)) (σ : L2.St) (Q : Bool → Hp → Prop) (b : Bool) (s' : Shared) : Prop := ∃ H', Inv X pins σ H' s' ∧ Q b H'
def AP (X : Cx) (pins : List (Addr × Obj)) (σ : L2.St) (Q : List V → Hp → Prop) (us : List Value) (s' : Shared) : Prop := ∃ vs H', Inv X pins σ H' s' ∧ Vals s'.toks vs us ∧ Q vs H'
def SPt (X : Cx) (pins : List (Addr × Obj)) (D : Ends) (f : Flow) (s' : Shared) : Prop :=
  match f with
  | .next => ∃ σ' H', Inv X pins σ' H' s' ∧ D.nx σ' H'
  | .brk => ∃ σ' H', Inv X pins σ' H' s' ∧ D.bk σ' H'
  | .cont => ∃ σ' H', Inv X pins σ' H' s' ∧ D.ct σ' H'
  | .ret u => ∃ v σ' H', Inv X pins σ' H' s' ∧ RelV s'.toks v u ∧ D.rt v H'
structure PE (X : Cx) (e : Expr) (t : TE) : Prop where
  run : ∀ (pins : List (Addr × Obj)) (s : Shared) (σ : L2.St) (H : Hp) (Q : VK), Inv X pins σ H s → t σ H Q → wpAny (model X.prog X.w) X.A (eval e X.env) (EP X pins σ Q) X.xe s
structure PT (X : Cx) (e : Expr) (t : TT) : Prop where
  run : ∀ (pins : List (Addr × Obj)) (s : Shared) (σ : L2.St) (H : Hp) (Q : Bool → Hp → Prop), Inv X pins σ H s → t σ H Q → wpAny (model X.prog X.w) X.A (isTrue e X.env (eval e X.env)) (TP X pins σ Q) X.xe s
structure PW (X : Cx) (e : Expr) (t : TT) : Prop where
  run : ∀ (whole : Sem Value) (pins : List (Addr × Obj)) (s : Shared) (σ : L2.St) (H : Hp) (Q : Bool → Hp → Prop), Inv X pins σ H s → t σ H Q → wpAny (model X.prog X.w) X.A (isTrue e X.env whole) (TP X pins σ Q) X.xe s
theorem PW.pt {X : Cx} {e : Expr} {t : TT} (h : PW X e t) : PT X e t := ⟨h.run _⟩
structure PA (X : Cx) (es : List Expr) (t : TA) : Prop where
  run : ∀ (pos : Pos) (pins : List (Addr × Obj)) (s : Shared) (σ : L2.St) (H : Hp) (Q : List V → Hp → Prop), Inv X pins σ H s → t σ H Q → wpAny (model X.prog X.w) X.A (spliced (backTo pos (starEach es X.env))) (AP X pins σ Q) X.xe s
structure PS (X : Cx) (st : Stmt) (t : TS) : Prop where
  run : ∀ (pins : List (Addr × Obj)) (s : Shared) (σ : L2.St) (H : Hp) (D : Ends), Inv X pins σ H s → t D σ H → wpAny (model X.prog X.w) X.A (exec st X.env) (SPt X pins D) X.xe s
structure PSs (X : Cx) (st : List Stmt) (t : TS) : Prop where
  run : ∀ (pins : List (Addr × Obj)) (s : Shared) (σ : L2.St) (H : Hp) (D : Ends), Inv X pins σ H s → t D σ H → wpAny (model X.prog X.w) X.A (execs st X.env) (SPt X pins D) X.xe s
structure PC (X : Cx) (op : CmpOp) (a b : Expr) (t : TE) : Prop where
  run : ∀ (pins : List (Addr × Obj)) (s : Shared) (σ : L2.St) (H : Hp) (Q : VK), Inv X pins σ H s → t σ H Q →
    wpAny (model X.prog X.w) X.A (eval a X.env) (fun v s₁ => wpAny (model X.prog X.w) X.A (eval b X.env) (fun u s₂ => wpAny (model X.prog X.w) X.A (compareOp op v u) (EP X pins σ Q) X.xe s₂) X.xe s₁) X.xe s
theorem endB {X : Cx} {pins : List (Addr × Obj)} {σ : L2.St} {H : Hp} {s : Shared} {Q : VK} {b : Bool} (I : Inv X pins σ H s) (q : Q (.bl b) H) : EP X pins σ Q (.bool b) s := ⟨.bl b, H, I, .bl, q⟩
theorem endI {X : Cx} {pins : List (Addr × Obj)} {σ : L2.St} {H : Hp} {s : Shared} {Q : VK} {i : Int} {t k : Nat} (I : Inv X pins σ H s) (h : s.toks ≤ k) (q : Q (.int i) H) : EP X pins σ Q (.int i t) { s with toks := k } := ⟨.int i, H, I.tok h, .int, q⟩
/-- a text made just now -/
theorem endS {X : Cx} {pins : List (Addr × Obj)} {σ : L2.St} {H : Hp} {s : Shared} {Q : VK} {x : Str} (I : Inv X pins σ H s) (q : Q (.str x) H) : EP X pins σ Q (.str x s.toks) { s with toks := s.toks + 1 } := ⟨.str x, H, I.tok (Nat.le_succ _), .str I.p (Nat.lt_succ_self _), q⟩

/-! ### names, constants -/
section
variable {X : Cx} {a b : Expr} {ta tb : TE} {pos : Pos}
theorem pe_var {i : Nat} {x : Str} {pos : Pos} (hN : X.N[i]? = some x) (hv : Vis X.env.scope x) (hd : (x == ("__debug__" : Str)) = false := by decide) (hcd : (x == ("__classdict__" : Str)) = false := by decide) : PE X (.Name x pos) (tVar i) := by
  constructor
  intro pins s σ H Q I ⟨v, e, q⟩
  obtain ⟨m, hn, hl⟩ := I.i.loc
  obtain ⟨u, r, l⟩ := hl i x v hN e hv
  rcases l with ⟨hk, hm⟩ | ⟨hk, c, hc, hcell⟩
  · exact wpAny_Name (wpAny_loadName_local I.ok.kind hk hn hm ⟨v, H, I, ⟨r, I.f.1 m hn x u hm⟩, q⟩) hd
  · have fin : EP X pins σ Q u s := ⟨v, H, I, ⟨r, I.f.2 x c u hc hcell⟩, q⟩
    rcases hk with hk | hk
    · exact wpAny_Name (wpAny_loadName_cell I.ok.kind hk hc hcell fin) hd
    · exact wpAny_Name (wpAny_loadName_free I.ok.kind hk hc hcell fin hcd) hd
theorem pe_int {i j pos} : PE X (.Constant (.int i) j pos) (tC (.int i)) := ⟨fun _ _ _ _ _ I q => wpAny_Constant_int (endI I (Nat.le_succ _) q)⟩
theorem pe_bl {b j pos} : PE X (.Constant (.bool b) j pos) (tC (.bl b)) := ⟨fun _ _ _ _ _ I q => Constant_bool (endB I q)⟩
theorem pe_non {j pos} : PE X (.Constant .none j pos) (tC .non) := ⟨fun _ _ _ H _ I q => Constant_none ⟨.non, H, I, .non, q⟩⟩
theorem pe_str {x j pos} : PE X (.Constant (.str x) j pos) (tC (.str x)) := ⟨fun _ _ _ _ _ I q => Calls.Constant_str (endS I q)⟩
theorem ld_glob {E : Value → Shared → Prop} {pins : List (Addr × Obj)} {s : Shared} {σ : L2.St} {H : Hp} {x : Str} {u : Value} {pos : Pos} {Q : Value → Shared → Prop} (I : Inv X pins σ H s) (hg : Gl X x) (hm : X.mg x = some u) (h : Q u s)
    (hd : (x == ("__debug__" : Str)) = false := by decide) : wpAny (model X.prog X.w) X.A (eval (.Name x pos) X.env) Q E s := L2.ld_glob I.i hg hm h hd
theorem ld_blt {E : Value → Shared → Prop} {pins : List (Addr × Obj)} {s : Shared} {σ : L2.St} {H : Hp} {x : Str} {u : Value} {pos : Pos} {Q : Value → Shared → Prop} (I : Inv X pins σ H s) (hg : Gl X x) (hm : X.mg x = none) (hv : bootBuiltins x = some u) (h : Q u s)
    (hn : x ≠ "__name__" := by decide) (hd : (x == ("__debug__" : Str)) = false := by decide) : wpAny (model X.prog X.w) X.A (eval (.Name x pos) X.env) Q E s := L2.ld_blt I.i hg hm hv h hn hd
/-- a module's number, class, function -/
theorem pe_glob {x : Str} {v : V} {u : Value} {pos : Pos} (hg : Gl X x) (hm : X.mg x = some u) (r : L2.RelV v u) (ns : ∀ z, v ≠ .str z) (hd : (x == ("__debug__" : Str)) = false := by decide) : PE X (.Name x pos) (tC v) :=
  ⟨fun _ _ _ H _ I h => ld_glob I hg hm ⟨v, H, I, ⟨r, gv_of r ns⟩, h⟩ hd⟩
theorem pe_bltn {x : Str} {v : V} {u : Value} {pos : Pos} (hg : Gl X x) (hm : X.mg x = none) (hv : bootBuiltins x = some u) (r : L2.RelV v u) (ns : ∀ z, v ≠ .str z) (hn : x ≠ "__name__" := by decide) (hd : (x == ("__debug__" : Str)) = false := by decide) : PE X (.Name x pos) (tC v) :=
  ⟨fun _ _ _ H _ I h => ld_blt I hg hm hv ⟨v, H, I, ⟨r, gv_of r ns⟩, h⟩ hn hd⟩

/-! ### operations by their values -/
def OpR (X : Cx) (f : Value → Value → Sem Value) (r : R2) : Prop :=
  ∀ (pins : List (Addr × Obj)) (s : Shared) (σ : L2.St) (H : Hp) (x y : V) (v u : Value) (Q : VK), Inv X pins σ H s → RelV s.toks x v → RelV s.toks y u → r x y H Q →
    wpAny (model X.prog X.w) X.A (f v u) (EP X pins σ Q) X.xe s
def UnR (X : Cx) (f : Value → Sem Value) (r : V → Hp → VK → Prop) : Prop :=
  ∀ (pins : List (Addr × Obj)) (s : Shared) (σ : L2.St) (H : Hp) (x : V) (v : Value) (Q : VK), Inv X pins σ H s → RelV s.toks x v → r x H Q →
    wpAny (model X.prog X.w) X.A (f v) (EP X pins σ Q) X.xe s
def CallR (X : Cx) (f : Value) (r : List V → Hp → VK → Prop) : Prop :=
  ∀ (pins : List (Addr × Obj)) (s : Shared) (σ : L2.St) (H : Hp) (xs : List V) (us : List Value) (Q : VK), Inv X pins σ H s → Vals s.toks xs us → r xs H Q →
    wpAny (model X.prog X.w) X.A (call f us) (EP X pins σ Q) X.xe s
def TruR (X : Cx) (r : V → Hp → (Bool → Hp → Prop) → Prop) : Prop :=
  ∀ (pins : List (Addr × Obj)) (s : Shared) (σ : L2.St) (H : Hp) (x : V) (v : Value) (Q : Bool → Hp → Prop), Inv X pins σ H s → RelV s.toks x v → r x H Q →
    wpAny (model X.prog X.w) X.A (truthy v) (TP X pins σ Q) X.xe s
theorem bin {α : Type} {Q : α → Shared → Prop} {f : Value → Value → Sem α} {pins : List (Addr × Obj)} {s : Shared} {σ : L2.St} {H : Hp} {R : V → V → Hp → Prop} (ha : PE X a ta) (hb : PE X b tb) (I : Inv X pins σ H s) (h : ta σ H fun x H1 => tb σ H1 fun y H2 => R x y H2)
    (hf : ∀ v u s2 x y H2, Inv X pins σ H2 s2 → RelV s2.toks x v → RelV s2.toks y u → R x y H2 → wpAny (model X.prog X.w) X.A (f v u) Q X.xe s2) :
    wpAny (model X.prog X.w) X.A (eval a X.env) (fun v s₁ => wpAny (model X.prog X.w) X.A (eval b X.env) (fun u s₂ => wpAny (model X.prog X.w) X.A (f v u) Q X.xe s₂) X.xe s₁) X.xe s := by
  refine thn (ha.run pins s σ H _ I h) fun v s1 z => ?_
  obtain ⟨x, H1, I1, r1, q1⟩ := z
  refine thk (hb.run pins s1 σ H1 _ I1 q1) fun u s2 hk z => ?_
  obtain ⟨y, H2, I2, r2, q2⟩ := z
  exact hf v u s2 x y H2 I2 (r1.mono hk) r2 q2
theorem pe_op {op : Operator} {r : R2} (ho : OpR X (binaryOp op) r) (ha : PE X a ta) (hb : PE X b tb) : PE X (.BinOp a op b pos) (tOp r ta tb) :=
  ⟨fun pins s σ H Q I h => wpAny_BinOp (bin ha hb I h fun v u s2 x y H2 I2 rx ry q => ho pins s2 σ H2 x y v u Q I2 rx ry q)⟩
theorem pe_un {op : UnaryOp} {r : V → Hp → VK → Prop} (ho : UnR X (unaryOp op) r) (ha : PE X a ta) : PE X (.UnaryOp op a pos) (tUn r ta) := by
  constructor
  intro pins s σ H Q I h
  refine UnaryOp_ (thn (ha.run pins s σ H _ I h) fun v s1 z => ?_)
  obtain ⟨x, H1, I1, r1, q1⟩ := z
  exact ho pins s1 σ H1 x v Q I1 r1 q1
theorem pc_of {op : CmpOp} {r : R2} (ho : OpR X (compareOp op) r) (ha : PE X a ta) (hb : PE X b tb) : PC X op a b (tOp r ta tb) := ⟨fun pins s σ H Q I h => bin ha hb I h fun v u s2 x y H2 I2 rx ry q => ho pins s2 σ H2 x y v u Q I2 rx ry q⟩
theorem pe_cmp {op : CmpOp} {t : TE} (h : PC X op a b t) (h1 : behindInMarks op b = false := by first | exact nobehind _ (by decide) (by decide) | rfl) : PE X (.Compare a [op] [b] pos) t := ⟨fun pins s σ H Q I hw => wpAny_Compare1 (h.run pins s σ H Q I hw) h1⟩
theorem pt_cmp {op : CmpOp} {t : TE} (h : PC X op a b t) (h1 : behindInMarks op b = false := by first | exact nobehind _ (by decide) (by decide) | rfl) : PT X (.Compare a [op] [b] pos) (tB t) := by
  constructor
  intro pins s σ H Q I hw
  refine wpAny_isTrue_Compare1 (thn (h.run pins s σ H _ I hw) fun v s1 z1 => thn z1 fun u s2 z2 => thn z2 fun c s3 z => ?_) h1
  obtain ⟨x, H1, I1, ⟨r1, _⟩, d, rfl, q⟩ := z
  cases r1
  exact wpAny_truthy_bool ⟨H1, I1, q⟩
theorem pe_cmpR {op : CmpOp} {r : R2} (ho : OpR X (compareOp op) r) (ha : PE X a ta) (hb : PE X b tb) (hm : behindInMarks op b = false) : PE X (.Compare a [op] [b] pos) (tOp r ta tb) := pe_cmp (pc_of ho ha hb) hm
theorem pt_cmpR {op : CmpOp} {r : R2} (ho : OpR X (compareOp op) r) (ha : PE X a ta) (hb : PE X b tb) (hm : behindInMarks op b = false) : PT X (.Compare a [op] [b] pos) (tB (tOp r ta tb)) := pt_cmp (pc_of ho ha hb) hm
/-- a truth, as a test -/
theorem pt_val {e : Expr} {t : TE} (h : PE X e t) (he : ∀ whole, isTrue e X.env whole = (do let v ← whole; standAt e.pos; holding [v] (truthy v)) := by intro _; rfl) : PT X e (tB t) := by
  constructor
  intro pins s σ H Q I hw
  refine isTrue_plain (thn (h.run pins s σ H _ I hw) fun v s1 z => ?_) (he _)
  obtain ⟨x, H1, I1, ⟨r1, _⟩, d, rfl, q⟩ := z
  cases r1
  exact wpAny_truthy_bool ⟨H1, I1, q⟩
/-- is None -/
theorem non_iff {x : V} {v : Value} (r : L2.RelV x v) : (v == Value.none) = decide (x = .non) := r.none_iff
theorem pc_isN {j pos'} (ha : PE X a ta) : PC X .Is a (.Constant .none j pos') (tIsN ta) := by
  constructor
  intro pins s σ H Q I h
  refine thn (ha.run pins s σ H _ I h) fun v s1 z => ?_
  obtain ⟨x, H1, I1, r1, q1⟩ := z
  refine Constant_none (is_none_gen ?_)
  rw [non_iff r1.1]
  exact endB I1 q1
theorem pc_notN {j pos'} (ha : PE X a ta) : PC X .IsNot a (.Constant .none j pos') (tNotN ta) := by
  constructor
  intro pins s σ H Q I h
  refine thn (ha.run pins s σ H _ I h) fun v s1 z => ?_
  obtain ⟨x, H1, I1, r1, q1⟩ := z
  refine Constant_none (isnot_none_gen ?_)
  rw [non_iff r1.1]
  exact endB I1 q1

/-! ### and, or, not, if .. else -/
variable {tA tB' : TT} {rest : List Expr}
theorem pw_and1 (ha : PT X a tA) : PW X (.BoolOp .And [a] pos) tA := by
  constructor
  intro wh pins s σ H Q I h
  refine isTrue_and (thn (ha.run pins s σ H Q I h) fun c s1 e => ?_)
  cases c
  · exact e
  · exact isTrue_and_nil e
theorem pw_or1 (ha : PT X a tA) : PW X (.BoolOp .Or [a] pos) tA := by
  constructor
  intro wh pins s σ H Q I h
  refine isTrue_or (thn (ha.run pins s σ H Q I h) fun c s1 e => ?_)
  cases c
  · exact isTrue_or_nil e
  · exact e
theorem pw_and (ha : PT X a tA) (hb : PW X (.BoolOp .And (b :: rest) pos) tB') : PW X (.BoolOp .And (a :: b :: rest) pos) (tAnd tA tB') := by
  constructor
  intro wh pins s σ H Q I h
  refine isTrue_and (thn (ha.run pins s σ H _ I h) fun c s1 z => ?_)
  obtain ⟨H1, I1, q1⟩ := z
  cases c
  · exact ⟨H1, I1, q1⟩
  · exact hb.run wh pins s1 σ H1 Q I1 q1
theorem pw_or (ha : PT X a tA) (hb : PW X (.BoolOp .Or (b :: rest) pos) tB') : PW X (.BoolOp .Or (a :: b :: rest) pos) (tOr tA tB') := by
  constructor
  intro wh pins s σ H Q I h
  refine isTrue_or (thn (ha.run pins s σ H _ I h) fun c s1 z => ?_)
  obtain ⟨H1, I1, q1⟩ := z
  cases c
  · exact hb.run wh pins s1 σ H1 Q I1 q1
  · exact ⟨H1, I1, q1⟩
theorem pt_not (ha : PT X a tA) : PT X (.UnaryOp .Not a pos) (tNot tA) := ⟨fun pins s σ H Q I h => isTrue_not (ha.run pins s σ H (fun c H1 => Q (!c) H1) I h)⟩
theorem pe_one {op} {t : TE} (h : PE X a t) : PE X (.BoolOp op [a] pos) t := ⟨fun pins s σ H Q I hw => BoolOp_one (h.run pins s σ H Q I hw)⟩
theorem pe_and (ha : PE X a ta) (hb : PE X (.BoolOp .And (b :: rest) pos) tb) : PE X (.BoolOp .And (a :: b :: rest) pos) (tAndV ta tb) := by
  constructor
  intro pins s σ H Q I h
  refine BoolOp_and (thn (ha.run pins s σ H _ I h) fun v s1 z => ?_)
  obtain ⟨x, H1, I1, ⟨r1, _⟩, c, rfl, q1⟩ := z
  cases r1
  refine wpAny_truthy_bool ?_
  cases c
  · exact endB I1 q1
  · exact hb.run pins s1 σ H1 Q I1 q1
theorem pe_or (ha : PE X a ta) (hb : PE X (.BoolOp .Or (b :: rest) pos) tb) : PE X (.BoolOp .Or (a :: b :: rest) pos) (tOrV ta tb) := by
  constructor
  intro pins s σ H Q I h
  refine BoolOp_or (thn (ha.run pins s σ H _ I h) fun v s1 z => ?_)
  obtain ⟨x, H1, I1, ⟨r1, _⟩, c, rfl, q1⟩ := z
  cases r1
  refine wpAny_truthy_bool ?_
  cases c
  · exact hb.run pins s1 σ H1 Q I1 q1
  · exact endB I1 q1
theorem pe_not (ha : PE X a ta) : PE X (.UnaryOp .Not a pos) (tNotV ta) := by
  constructor
  intro pins s σ H Q I h
  refine UnaryOp_ (thn (ha.run pins s σ H _ I h) fun v s1 z => ?_)
  obtain ⟨x, H1, I1, ⟨r1, _⟩, c, rfl, q1⟩ := z
  cases r1
  exact not_of (wpAny_truthy_bool (endB I1 q1))
theorem pe_ifExp {c : Expr} (hc : PT X c tA) (ha : PE X a ta) (hb : PE X b tb) : PE X (.IfExp c a b pos) (tIf tA ta tb) := by
  constructor
  intro pins s σ H Q I h
  refine wpAny_IfExp (thn (hc.run pins s σ H _ I h) fun d s1 z => ?_)
  obtain ⟨H1, I1, q1⟩ := z
  cases d
  · exact hb.run pins s1 σ H1 Q I1 q1
  · exact ha.run pins s1 σ H1 Q I1 q1
/-- ints -/
theorem opI {f : Value → Value → Sem Value} {C : Int → Int → Prop} {g : Int → Int → Int}
    (rule : ∀ (i j : Int) (t u : Tok) (s : Shared) (Q : Value → Shared → Prop) (E : Value → Shared → Prop), C i j → Q (.int (g i j) s.toks) { s with toks := s.toks + 1 } → wpAny (model X.prog X.w) X.A (f (.int i t) (.int j u)) Q E s) :
    OpR X f (rI C fun i j => .int (g i j)) := by
  rintro pins s σ H x y v u Q I ⟨rx, _⟩ ⟨ry, _⟩ ⟨i, j, rfl, rfl, hc, q⟩
  obtain ⟨t, rfl⟩ := rx
  obtain ⟨t', rfl⟩ := ry
  exact rule i j t t' s _ _ hc (endI I (Nat.le_succ _) q)
theorem opI0 {f : Value → Value → Sem Value} {g : Int → Int → Int}
    (rule : ∀ (i j : Int) (t u : Tok) (s : Shared) (Q : Value → Shared → Prop) (E : Value → Shared → Prop), Q (.int (g i j) s.toks) { s with toks := s.toks + 1 } → wpAny (model X.prog X.w) X.A (f (.int i t) (.int j u)) Q E s) :
    OpR X f (rI0 fun i j => .int (g i j)) := by
  rintro pins s σ H x y v u Q I ⟨rx, _⟩ ⟨ry, _⟩ ⟨i, j, rfl, rfl, q⟩
  obtain ⟨t, rfl⟩ := rx
  obtain ⟨t', rfl⟩ := ry
  exact rule i j t t' s _ _ (endI I (Nat.le_succ _) q)
theorem opB0 {f : Value → Value → Sem Value} {g : Int → Int → Bool}
    (rule : ∀ (i j : Int) (t u : Tok) (s : Shared) (Q : Value → Shared → Prop) (E : Value → Shared → Prop), Q (.bool (g i j)) s → wpAny (model X.prog X.w) X.A (f (.int i t) (.int j u)) Q E s) :
    OpR X f (rI0 fun i j => .bl (g i j)) := by
  rintro pins s σ H x y v u Q I ⟨rx, _⟩ ⟨ry, _⟩ ⟨i, j, rfl, rfl, q⟩
  obtain ⟨t, rfl⟩ := rx
  obtain ⟨t', rfl⟩ := ry
  exact rule i j t t' s _ _ (endB I q)
theorem unI {f : Value → Sem Value} {g : Int → Int}
    (rule : ∀ (i : Int) (t : Tok) (s : Shared) (Q : Value → Shared → Prop) (E : Value → Shared → Prop), Q (.int (g i) s.toks) { s with toks := s.toks + 1 } → wpAny (model X.prog X.w) X.A (f (.int i t)) Q E s) :
    UnR X f (rU fun i => .int (g i)) := by
  rintro pins s σ H x v Q I ⟨rx, _⟩ ⟨i, rfl, q⟩
  obtain ⟨t, rfl⟩ := rx
  exact rule i t s _ _ (endI I (Nat.le_succ _) q)
end
/-! ### statements -/
section
variable {X : Cx} {st : Stmt} {rest : List Stmt} {t u : TS} {e : Expr} {te : TE} {pos : Pos}
theorem pss_nil : PSs X [] tNext := ⟨fun _ _ σ H _ I h => wpAny_execs_nil ⟨σ, H, I, h⟩⟩
theorem pss_cons (h1 : PS X st t) (h2 : PSs X rest u) : PSs X (st :: rest) (tSeq t u) := by
  constructor
  intro pins s σ H D I h
  refine wpAny_execs_cons (thn (h1.run pins s σ H { D with nx := u D } I h) fun f s1 q => ?_)
  cases f with
  | next => obtain ⟨σ', H', I', q⟩ := q; exact h2.run pins s1 σ' H' D I' q
  | ret v => exact q
  | brk => exact q
  | cont => exact q
theorem pss_one (h1 : PS X st t) : PSs X [st] t := by
  constructor
  intro pins s σ H D I h
  refine wpAny_execs_cons (thn (h1.run pins s σ H D I h) fun f s1 q => ?_)
  cases f with
  | next => exact wpAny_execs_nil q
  | ret v => exact q
  | brk => exact q
  | cont => exact q
theorem ps_pass : PS X (.Pass pos) tNext := ⟨fun _ _ σ H _ I h => wpAny_Pass ⟨σ, H, I, h⟩⟩
theorem ps_break : PS X (.Break pos) tBreak := ⟨fun _ _ σ H _ I h => wpAny_Break ⟨σ, H, I, h⟩⟩
theorem ps_continue : PS X (.Continue pos) tCont := ⟨fun _ _ σ H _ I h => wpAny_Continue ⟨σ, H, I, h⟩⟩
theorem ps_expr (he : PE X e te) (hs : swapsWith e none pos.line X.env = pure false := by rfl) : PS X (.Expr e pos) (tDrop te) := by
  constructor
  intro pins s σ H D I h
  refine wpAny_Expr_any (thn (he.run pins s σ H _ I h) fun v s1 z => ?_) I.quiet hs
  obtain ⟨x, H1, I1, _, q1⟩ := z
  exact ⟨σ, H1, I1, q1⟩
theorem ps_ret (he : PE X e te) : PS X (.Return (some e) pos) (tRet te) := by
  constructor
  intro pins s σ H D I h
  refine wpAny_Return_some (thn (he.run pins s σ H _ I h) fun v s1 z => ?_)
  obtain ⟨x, H1, I1, r1, q1⟩ := z
  exact ⟨x, σ, H1, I1, r1, q1⟩
theorem ps_retN : PS X (.Return none pos) tRetN := ⟨fun _ _ σ H _ I h => wpAny_Return_none ⟨.non, σ, H, I, .non, h⟩⟩
theorem ps_if {c : Expr} {a b : List Stmt} {tc : TT} (hc : PT X c tc) (ha : PSs X a t) (hb : PSs X b u) : PS X (.If c a b pos) (tIfS tc t u) := by
  constructor
  intro pins s σ H D I h
  refine wpAny_If (thn (hc.run pins s σ H _ I h) fun d s1 z => ?_)
  obtain ⟨H1, I1, q1⟩ := z
  cases d
  · exact hb.run pins s1 σ H1 D I1 q1
  · exact ha.run pins s1 σ H1 D I1 q1
theorem ps_never : PS X st tNever := ⟨fun _ _ _ _ _ _ h => h.elim⟩
theorem pss_never {sts : List Stmt} : PSs X sts tNever := ⟨fun _ _ _ _ _ _ h => h.elim⟩
end
/-! ### targets -/
structure PG (X : Cx) (target : Expr) (t : TG) : Prop where
  run : ∀ (pins : List (Addr × Obj)) (s : Shared) (σ : L2.St) (H : Hp) (v : V) (u : Value) (Q : L2.St → Hp → Prop), Inv X pins σ H s → RelV s.toks v u → t v σ H Q →
    wpAny (model X.prog X.w) X.A (assign target X.env u) (fun _ s' => ∃ σ' H', Inv X pins σ' H' s' ∧ Q σ' H') X.xe s
structure PGs (X : Cx) (ts : List Expr) (t : TGs) : Prop where
  run : ∀ (pins : List (Addr × Obj)) (s : Shared) (σ : L2.St) (H : Hp) (vs : List V) (us : List Value) (Q : L2.St → Hp → Prop), Inv X pins σ H s → Vals s.toks vs us → t vs σ H Q →
    wpAny (model X.prog X.w) X.A (assignInOrder ((assignEach ts X.env).map (·.2)) us) (fun _ s' => ∃ σ' H', Inv X pins σ' H' s' ∧ Q σ' H') X.xe s
def PSet (X : Cx) (t : TSet) : Prop :=
  ∀ (pins : List (Addr × Obj)) (s : Shared) (σ : L2.St) (H : Hp) (o i v : V) (ov iv u : Value) (Q : Hp → Prop), Inv X pins σ H s → RelV s.toks o ov → RelV s.toks i iv → RelV s.toks v u → t o i v H Q →
    wpAny (model X.prog X.w) X.A (setItem ov iv u) (fun _ s' => ∃ H', Inv X pins σ H' s' ∧ Q H') X.xe s
def PIp (X : Cx) (op : Operator) (t : TIp) : Prop :=
  ∀ (pins : List (Addr × Obj)) (s : Shared) (σ : L2.St) (H : Hp) (x y : V) (v u : Value) (Q : VK), Inv X pins σ H s → RelV s.toks x v → RelV s.toks y u → t x y H Q →
    wpAny (model X.prog X.w) X.A (inplaceOp op v u) (EP X pins σ Q) X.xe s
section
variable {X : Cx} {pos : Pos}
theorem Vals.cons_inv {k : Nat} {v : V} {u : Value} {vs : List V} {us : List Value} (r : Vals k (v :: vs) (u :: us)) : RelV k v u ∧ Vals k vs us := by
  obtain ⟨r, g⟩ := r
  cases r with
  | cons a b => exact ⟨⟨a, g _ List.mem_cons_self⟩, b, fun x m => g x (List.mem_cons_of_mem _ m)⟩
theorem Vals.cons_ex {k : Nat} {v : V} {vs : List V} {us : List Value} (r : Vals k (v :: vs) us) : ∃ u ws, us = u :: ws ∧ RelV k v u ∧ Vals k vs ws := by
  cases us with
  | nil => obtain ⟨r, _⟩ := r; cases r
  | cons u ws => exact ⟨u, ws, rfl, r.cons_inv⟩
theorem Vals.nil_ex {k : Nat} {us : List Value} (r : Vals k [] us) : us = [] := by
  obtain ⟨r, _⟩ := r
  cases r; rfl
theorem Vals.length {k : Nat} {vs : List V} {us : List Value} (r : Vals k vs us) : vs.length = us.length := r.1.length
theorem pg_name {i : Nat} {x : Str} (hN : X.N.Nodup) (hi : X.N[i]? = some x) (hx : Loc X.env.scope x) (hf : X.fn x = true ∨ X.env.scope.names.lookup x = some .local := by first | exact .inl rfl | exact .inr rfl | assumption) : PG X (.Name x pos) (gName i) :=
  ⟨fun pins s σ H v u Q I r h => wpAny_assign_Name (store_ok I hN hi hx r (fun s' I' => ⟨_, H, I', h⟩) hf)⟩
theorem pgs_nil : PGs X [] gNil := by
  constructor
  intro pins s σ H vs us Q I r h
  obtain ⟨rfl, h⟩ := h
  rw [r.nil_ex]
  exact assignInOrder_nil ⟨σ, H, I, h⟩
theorem pgs_cons {e : Expr} {es : List Expr} {t : TG} {u : TGs} (h1 : PG X e t) (h2 : PGs X es u)
    (hs : (assignEach (e :: es) X.env).map (·.2) = assign e X.env :: (assignEach es X.env).map (·.2) := by rfl) : PGs X (e :: es) (gCons t u) := by
  constructor
  intro pins s σ H vs us Q I r h
  obtain ⟨v, vr, rfl, h⟩ := h
  obtain ⟨w, ws, rfl, r, rr⟩ := r.cons_ex
  rw [hs]
  refine assignInOrder_cons (thk (h1.run pins s σ H _ _ _ I r h) fun _ s1 hk z => ?_)
  obtain ⟨σ1, H1, I1, q1⟩ := z
  exact h2.run pins s1 σ1 H1 _ _ Q I1 (rr.mono hk) q1
/-- a list's, a tuple's items, with their tokens -/
theorem Inv.listG {pins : List (Addr × Obj)} {σ : L2.St} {H : Hp} {s : Shared} {a : Addr} {xs : List V} (I : Inv X pins σ H s) (h : Rd H a (.lst xs)) : ∃ its : List Value, Vals s.toks xs its ∧ PlainL s.heap a its.toArray ∧ xs.length ≤ sizeLine := by
  obtain ⟨its, r, p, z⟩ := I.i.list (.inl h)
  refine ⟨its, ⟨r, ?_⟩, p, z⟩
  obtain ⟨o, n, e, _, _, d⟩ := p
  rcases h with h | ⟨ob, h⟩
  · simpa using I.g a _ h o _ n e d
  · simpa using I.g a _ h o _ n e d
theorem Inv.tupleG {pins : List (Addr × Obj)} {σ : L2.St} {H : Hp} {s : Shared} {a : Addr} {xs : List V} (I : Inv X pins σ H s) (h : Rd H a (.tup xs)) : ∃ its : List Value, Vals s.toks xs its ∧ IsTup s.heap a its.toArray ∧ xs.length ≤ sizeLine := by
  obtain ⟨its, r, p, z⟩ := I.i.tuple (.inl h)
  refine ⟨its, ⟨r, ?_⟩, p, z⟩
  obtain ⟨o, e, _, n, d⟩ := p
  rcases h with h | ⟨ob, h⟩
  · simpa using I.g a _ h o _ n e d
  · simpa using I.g a _ h o _ n e d
end
end L3

namespace L3
open PySem L2 PyProof.Rows

/-! ### lists and tuples that are read: tracked ones, or written ones without texts -/
def SqL (K : PySem.W.Frag) (H : Hp) (a : Addr) (xs : List V) : Prop := Rd H a (.lst xs) ∨ (L2.SqL K (fun _ => none) a xs ∧ ∀ x ∈ xs, ∀ z, x ≠ V.str z)
def SqT (K : PySem.W.Frag) (H : Hp) (a : Addr) (xs : List V) : Prop := Rd H a (.tup xs) ∨ (L2.SqT K (fun _ => none) a xs ∧ ∀ x ∈ xs, ∀ z, x ≠ V.str z)
theorem SqL.rd {K : PySem.W.Frag} {H : Hp} {a : Addr} {xs : List V} (h : Rd H a (.lst xs)) : SqL K H a xs := .inl h
theorem SqT.rd {K : PySem.W.Frag} {H : Hp} {a : Addr} {xs : List V} (h : Rd H a (.tup xs)) : SqT K H a xs := .inl h
theorem SqL.of {K : PySem.W.Frag} {H : Hp} {a : Addr} {xs : List V} (h : H a = some (.lst xs)) : SqL K H a xs := .inl (.inl h)
theorem SqT.of {K : PySem.W.Frag} {H : Hp} {a : Addr} {xs : List V} (h : H a = some (.tup xs)) : SqT K H a xs := .inl (.inl h)
theorem rd_none {a : Addr} {o : HO} (h : Rd (fun _ => none) a o) : False := by
  rcases h with h | ⟨_, h⟩ <;> cases h
theorem SqL.l2 {K : PySem.W.Frag} {H : Hp} {a : Addr} {xs : List V} (h : SqL K H a xs) : L2.SqL K H a xs := by
  rcases h with h | ⟨h | h, _⟩
  · exact .inl h
  · exact (rd_none h).elim
  · exact .inr h
theorem SqT.l2 {K : PySem.W.Frag} {H : Hp} {a : Addr} {xs : List V} (h : SqT K H a xs) : L2.SqT K H a xs := by
  rcases h with h | ⟨h | h, _⟩
  · exact .inl h
  · exact (rd_none h).elim
  · exact .inr h
theorem gvs_of {k : Nat} : ∀ {xs : List V} {us : List Value}, L2.Vals xs us → (∀ x ∈ xs, ∀ z, x ≠ V.str z) → gvs k us
  | _, _, .nil, _ => gvs_nil
  | _, _, .cons r t, h => gvs_cons (gv_of r (h _ List.mem_cons_self)) (gvs_of t fun x m => h x (List.mem_cons_of_mem _ m))
section
variable {X : Cx} {pins : List (Addr × Obj)} {σ : L2.St} {H : Hp} {s : Shared} {a : Addr} {xs ys : List V}
theorem Inv.list (I : Inv X pins σ H s) (h : SqL X.K H a xs) : ∃ its : List Value, Vals s.toks xs its ∧ PlainL s.heap a its.toArray ∧ xs.length ≤ sizeLine := by
  rcases id h with g | ⟨_, g⟩
  · exact I.listG g
  · obtain ⟨its, r, p, z⟩ := I.i.list h.l2
    exact ⟨its, ⟨r, gvs_of r g⟩, p, z⟩
theorem Inv.tuple (I : Inv X pins σ H s) (h : SqT X.K H a xs) : ∃ its : List Value, Vals s.toks xs its ∧ IsTup s.heap a its.toArray ∧ xs.length ≤ sizeLine := by
  rcases id h with g | ⟨_, g⟩
  · exact I.tupleG g
  · obtain ⟨its, r, p, z⟩ := I.i.tuple h.l2
    exact ⟨its, ⟨r, gvs_of r g⟩, p, z⟩
theorem Inv.list_inj (I : Inv X pins σ H s) (h : SqL X.K H a xs) (h' : SqL X.K H a ys) : xs = ys := I.i.list_inj h.l2 h'.l2
theorem Inv.tuple_inj (I : Inv X pins σ H s) (h : SqT X.K H a xs) (h' : SqT X.K H a ys) : xs = ys := I.i.tuple_inj h.l2 h'.l2
theorem Vals.get {k : Nat} {xs : List V} {us : List Value} {i : Nat} {x : V} (r : Vals k xs us) (e : xs[i]? = some x) : ∃ u, us[i]? = some u ∧ RelV k x u := by
  obtain ⟨u, h, q⟩ := r.1.get e
  exact ⟨u, h, q, r.2 u (List.mem_of_getElem? h)⟩
end

/-! ### stores -/
section
variable {X : Cx} {pos : Pos}
theorem ps_asg {tg e : Expr} {te : TE} {g : TG} (he : PE X e te) (hg : PG X tg g) (hs : swapsWithSole [tg] e pos.line X.env = pure false := by rfl) (hw : swappedStores [tg] e X.env = pure none := by rfl)
    (h1 : (assignEach [tg] X.env).map (·.2) = [assign tg X.env] := by rfl) : PS X (.Assign [tg] e pos) (tAsg te g) := by
  constructor
  intro pins s σ H D I h
  refine wpAny_Assign_stores (thn (he.run pins s σ H _ I h) fun v s1 z => ?_) hs hw
  obtain ⟨x, H1, I1, r1, q1⟩ := z
  rw [h1]
  exact hg.run pins s1 σ H1 x v _ I1 r1 q1
theorem ps_set {i : Nat} {x : Str} {e : Expr} {te : TE} {pos' : Pos} (hN : X.N.Nodup) (hi : X.N[i]? = some x) (hx : Loc X.env.scope x) (he : PE X e te) (hs : swapsWith e (some (.Name x pos')) pos.line X.env = pure false := by rfl) (hf : X.fn x = true ∨ X.env.scope.names.lookup x = some .local := by first | exact .inl rfl | exact .inr rfl | assumption) :
    PS X (.Assign [.Name x pos'] e pos) (tAsg te (gName i)) := by
  constructor
  intro pins s σ H D I h
  refine wpAny_Assign_Name (thn (he.run pins s σ H _ I h) fun v s1 z => ?_) hs
  obtain ⟨y, H1, I1, r1, q1⟩ := z
  exact store_ok I1 hN hi hx r1 (fun s2 I2 => ⟨_, H1, I2, q1⟩) hf
/-- the pair of a parallel store is no tracked thing -/
theorem ps_par {i j : Nat} {x y : Str} {a b : Expr} {ta : TA} {px py pt : Pos} {kt k2 pt2} (hc : X.calm = true) (hN : X.N.Nodup) (hi : X.N[i]? = some x) (hj : X.N[j]? = some y) (hij : i ≠ j)
    (hx : X.env.scope.names.lookup x = some .local) (hy : X.env.scope.names.lookup y = some .local) (ha : PA X [a, b] ta)
    (hw : swappedStores [.Tuple [.Name x px, .Name y py] kt pt] (.Tuple [a, b] k2 pt2) X.env = pure (some [x, y]))
    (hs : swapsWithSole [.Tuple [.Name x px, .Name y py] kt pt] (.Tuple [a, b] k2 pt2) pos.line X.env = pure false := by rfl) :
    PS X (.Assign [.Tuple [.Name x px, .Name y py] kt pt] (.Tuple [a, b] k2 pt2) pos) (tPar i j ta) := by
  constructor
  intro pins s σ H D I h
  rw [exec_Assign_arm]
  refine wpAny_bind (wpAny_standAt ?_)
  rw [hs]
  refine wpAny_bind (wpAny_pure ?_)
  rw [if_neg Bool.false_ne_true]
  refine wpAny_bind (Tuple_ (thn (ha.run _ pins s σ H _ I h) fun us s1 z => ?_))
  obtain ⟨vs, H1, I1, r1, v, w, rfl, q1⟩ := z
  obtain ⟨u1, _, rfl, rv, r1⟩ := r1.cons_ex
  obtain ⟨u2, _, rfl, rw', r1⟩ := r1.cons_ex
  cases r1.nil_ex
  refine wpAny_newObj_type ?_ (show 2 ≤ sizeLine by decide)
  rw [hw]
  refine wpAny_bind (wpAny_pure ?_)
  show wpAny (model X.prog X.w) X.A (do rule "assign.swapped-stores"; let items ← unpackItems (.ref s1.heap.objs.size) 2 none; assignInOrder [fun v => bindName X.env y v, fun v => bindName X.env x v] items.reverse; pure Flow.next) _ _ _
  refine wpAny_bind (wpAny_rule (wpAny_bind (unpackItems_tuple (items := #[u1, u2]) (I.ok.hd hc) (IsTup.new s1.heap _) fun h' hx' => ?_)))
  have J : Inv X pins σ H1 { s1 with heap := h' } := I1.kept (t' := s1.toks) (fun b o e => hx' b o (Nat.ne_of_lt (Heap.lt_size (Heap.get?_push_of_some _ e))) (Heap.get?_push_of_some _ e)) (Nat.le_refl _)
  show wpAny _ _ (assignInOrder [fun v => bindName X.env y v, fun v => bindName X.env x v] [u2, u1] >>= fun _ => pure Flow.next) _ _ _
  refine wpAny_bind (assignInOrder_cons (wpAny_bindName (wpAny_with_toks (Nat.le_refl _) (store_ok J hN hj (.inl hy) rw' (fun s2 I4 hk => ?_) (.inr hy)))))
  refine assignInOrder_cons (wpAny_bindName (store_ok I4 hN hi (.inl hx) (rv.mono hk) (fun s3 I5 => assignInOrder_nil (wpAny_pure ?_)) (.inr hx)))
  rw [List.set_comm _ _ (Ne.symm hij)] at I5
  exact ⟨_, H1, I5, q1⟩
theorem ps_par3 {i j l : Nat} {x y z : Str} {a b c : Expr} {ta : TA} {px py pz pt : Pos} {kt k2 pt2} (hc : X.calm = true) (hN : X.N.Nodup) (hi : X.N[i]? = some x) (hj : X.N[j]? = some y) (hl : X.N[l]? = some z) (hij : i ≠ j) (hil : i ≠ l) (hjl : j ≠ l)
    (hx : X.env.scope.names.lookup x = some .local) (hy : X.env.scope.names.lookup y = some .local) (hz : X.env.scope.names.lookup z = some .local) (ha : PA X [a, b, c] ta)
    (hw : swappedStores [.Tuple [.Name x px, .Name y py, .Name z pz] kt pt] (.Tuple [a, b, c] k2 pt2) X.env = pure (some [x, y, z]))
    (hs : swapsWithSole [.Tuple [.Name x px, .Name y py, .Name z pz] kt pt] (.Tuple [a, b, c] k2 pt2) pos.line X.env = pure false := by rfl) :
    PS X (.Assign [.Tuple [.Name x px, .Name y py, .Name z pz] kt pt] (.Tuple [a, b, c] k2 pt2) pos) (tPar3 i j l ta) := by
  constructor
  intro pins s σ H D I h
  rw [exec_Assign_arm]
  refine wpAny_bind (wpAny_standAt ?_)
  rw [hs]
  refine wpAny_bind (wpAny_pure ?_)
  rw [if_neg Bool.false_ne_true]
  refine wpAny_bind (Tuple_ (thn (ha.run _ pins s σ H _ I h) fun us s1 q => ?_))
  obtain ⟨vs, H1, I1, r1, v1, v2, v3, rfl, q1⟩ := q
  obtain ⟨u1, _, rfl, rv1, r1⟩ := r1.cons_ex
  obtain ⟨u2, _, rfl, rv2, r1⟩ := r1.cons_ex
  obtain ⟨u3, _, rfl, rv3, r1⟩ := r1.cons_ex
  cases r1.nil_ex
  refine wpAny_newObj_type ?_ (show 3 ≤ sizeLine by decide)
  rw [hw]
  refine wpAny_bind (wpAny_pure ?_)
  show wpAny (model X.prog X.w) X.A (do rule "assign.swapped-stores"; let items ← unpackItems (.ref s1.heap.objs.size) 3 none; assignInOrder [fun v => bindName X.env z v, fun v => bindName X.env y v, fun v => bindName X.env x v] items.reverse; pure Flow.next) _ _ _
  refine wpAny_bind (wpAny_rule (wpAny_bind (unpackItems_tuple (items := #[u1, u2, u3]) (I.ok.hd hc) (IsTup.new s1.heap _) fun h' hx' => ?_)))
  have J : Inv X pins σ H1 { s1 with heap := h' } := I1.kept (t' := s1.toks) (fun b o e => hx' b o (Nat.ne_of_lt (Heap.lt_size (Heap.get?_push_of_some _ e))) (Heap.get?_push_of_some _ e)) (Nat.le_refl _)
  show wpAny _ _ (assignInOrder [fun v => bindName X.env z v, fun v => bindName X.env y v, fun v => bindName X.env x v] [u3, u2, u1] >>= fun _ => pure Flow.next) _ _ _
  refine wpAny_bind (assignInOrder_cons (wpAny_bindName (wpAny_with_toks (Nat.le_refl _) (store_ok J hN hl (.inl hz) rv3 (fun s2 I4 hk => ?_) (.inr hz)))))
  refine assignInOrder_cons (wpAny_bindName (wpAny_with_toks (Nat.le_refl _) (store_ok I4 hN hj (.inl hy) (rv2.mono hk) (fun s3 I5 hk2 => ?_) (.inr hy))))
  refine assignInOrder_cons (wpAny_bindName (store_ok I5 hN hi (.inl hx) (rv1.mono (Nat.le_trans hk hk2)) (fun s4 I6 => assignInOrder_nil (wpAny_pure ?_)) (.inr hx)))
  rw [List.set_comm _ _ (Ne.symm hjl), List.set_comm _ _ (Ne.symm hil), List.set_comm _ _ (Ne.symm hij)] at I6
  exact ⟨_, H1, I6, q1⟩
def gTup (K : PySem.W.Frag) (n : Nat) (t : TGs) : TG := fun v σ H Q => ∃ a xs, v = .ref a ∧ SqT K H a xs ∧ xs.length = n ∧ t xs σ H Q
theorem pg_tup {es : List Expr} {k : Nat} {t : TGs} {n : Nat} (hc : X.calm = true) (h : PGs X es t)
    (hn : (assignEach es X.env).length = n := by rfl) (hst : (assignEach es X.env).findIdx? (·.1) = none := by rfl) : PG X (.Tuple es k pos) (gTup X.K n t) := by
  constructor
  intro pins s σ H v u Q I r hw
  obtain ⟨a, xs, rfl, hq, hl, hw⟩ := hw
  obtain ⟨r, _⟩ := r
  cases r
  obtain ⟨its, rv, ht, hz⟩ := I.tuple hq
  refine assign_Tuple_tuple (I.ok.hd hc) ht (by simp [hn, ← hl, rv.length]) hst fun h' hx => ?_
  have J : Inv X pins σ H { s with heap := h' } := I.kept (t' := s.toks) (fun b o e => hx b o (Nat.ne_of_lt (Heap.lt_size e)) e) (Nat.le_refl _)
  exact h.run pins _ σ H xs _ Q J (by simpa using rv) hw
theorem ps_aug {i : Nat} {x : Str} {e : Expr} {te : TE} {op : Operator} {ti : TIp} {pos' : Pos} (hN : X.N.Nodup) (hi : X.N[i]? = some x) (hx : Loc X.env.scope x) (he : PE X e te) (ho : PIp X op ti) (hf : X.fn x = true ∨ X.env.scope.names.lookup x = some .local := by first | exact .inl rfl | exact .inr rfl | assumption) :
    PS X (.AugAssign (.Name x pos') op e pos) (tAug i te ti) := by
  constructor
  intro pins s σ H D I h
  obtain ⟨v, e1, h⟩ := h
  obtain ⟨m, hn, hl⟩ := I.i.loc
  have vis : Vis X.env.scope x := hx.elim .inl fun k => .inr (.inl k)
  obtain ⟨u, r, l⟩ := hl i x v hi e1 vis
  refine wpAny_AugAssign_Name ?_
  have go : gv s.toks u → wpAny (model X.prog X.w) X.A (eval e X.env) (fun w s₂ => wpAny (model X.prog X.w) X.A (inplaceOp op u w) (fun r s₃ => wpAny (model X.prog X.w) X.A (storeName X.env x r) (fun _ => SPt X pins D .next) X.xe s₃) X.xe s₂) X.xe s := fun gu => by
    refine thk (he.run pins s σ H _ I h) fun w s1 hk z => ?_
    obtain ⟨y, H1, I1, r1, q1⟩ := z
    refine thn (ho pins s1 σ H1 v y u w _ I1 ⟨r, gu.mono hk⟩ r1 q1) fun z s2 q => ?_
    obtain ⟨zv, H2, I2, r2, q2⟩ := q
    exact store_ok I2 hN hi hx r2 (fun s3 I3 => ⟨_, H2, I3, q2⟩) hf
  rcases l with ⟨hk, hm⟩ | ⟨hk, c, hc, hcell⟩
  · exact wpAny_loadName_local I.ok.kind hk hn hm (go (I.f.1 m hn x u hm))
  · rcases hk with hk | hk
    · exact wpAny_loadName_cell I.ok.kind hk hc hcell (go (I.f.2 x c u hc hcell))
    · rcases hx with k | k <;> (rw [show X.env.scope.names.lookup x = some .free from hk] at k; cases k)
theorem ip_add : PIp X .Add (ipI fun i j => i + j) := by
  rintro pins s σ H x y v u Q I ⟨r1, _⟩ ⟨r2, _⟩ ⟨i, j, rfl, rfl, q⟩
  obtain ⟨t, rfl⟩ := r1
  obtain ⟨t', rfl⟩ := r2
  exact iadd_int (endI I (Nat.le_succ _) q)
theorem ip_sub : PIp X .Sub (ipI fun i j => i - j) := by
  rintro pins s σ H x y v u Q I ⟨r1, _⟩ ⟨r2, _⟩ ⟨i, j, rfl, rfl, q⟩
  obtain ⟨t, rfl⟩ := r1
  obtain ⟨t', rfl⟩ := r2
  exact isub_int (endI I (Nat.le_succ _) q)
theorem ps_while {c : Expr} {body : List Stmt} {tc : TT} {tb : TS} (hp : PassesOwn (model X.prog X.w) X.A X.env X.xe) (hc : PT X c tc) (hb : PSs X body tb) : PS X (.While c body [] pos) (tWhile tc tb) := by
  constructor
  intro pins s σ H D I h
  obtain ⟨W, ⟨m0, w0⟩, turn⟩ := h
  refine wpAny_While (codeAny_whileLoop (fun n s' => ∃ σ' H', Inv X pins σ' H' s' ∧ W n σ' H') ?_ m0 ⟨σ, H, I, w0⟩)
  rintro n s1 ⟨σ1, H1, I1, w1⟩
  refine wpAny_passesOwn hp (thn (hc.run pins s1 σ1 H1 _ I1 (turn n σ1 H1 w1)) fun b s2 z => ?_)
  obtain ⟨H2, I2, q2⟩ := z
  cases b
  · rw [if_neg Bool.false_ne_true]
    exact wpAny_execs_nil ⟨σ1, H2, I2, q2⟩
  · obtain ⟨N, hN, q2⟩ := q2
    rw [if_pos rfl]
    have again : ∀ {s3 : Shared}, (∃ σ' H', Inv X pins σ' H' s3 ∧ N σ' H') → ∃ m, m < n ∧ ∃ σ' H', Inv X pins σ' H' s3 ∧ W m σ' H' := fun ⟨σ3, H3, I3, n3⟩ => by
      obtain ⟨m', hm, w3⟩ := hN σ3 H3 n3
      exact ⟨m', hm, σ3, H3, I3, w3⟩
    refine wpAny_passesOwn hp (thn (hb.run pins s2 σ1 H2 _ I2 q2) fun f s3 q3 => ?_)
    cases f with
    | next => exact again q3
    | cont => exact again q3
    | brk => exact q3
    | ret v => exact q3
end

/-! ### what is walked -/
structure Turn (P : Program) (w : World) (K : PySem.W.Frag) (tg : Expr) (J : It) (fp : List Addr) (it : Addr) (tn : Nat → Heap → Prop) : Prop where
  mem : it ∈ fp
  obj : ∀ i h, tn i h → ∀ b ∈ fp, ∃ o, h.get? b = some o ∧ ∀ v, o.data ≠ .cell v
  keep : ∀ i h h', tn i h → (∀ b ∈ fp, ∀ o, h.get? b = some o → h'.get? b = some o) → tn i h'
  item : ∀ (X : Cx), X.prog = P → X.w = w → X.K = K → X.calm = true → ∀ (i : Nat) (pins : List (Addr × Obj)) (s : Shared) (σ : L2.St) (H : Hp) (E : Value → Shared → Prop), Inv X pins σ H s → (∀ b ∈ fp, FpOk X pins H b) → tn i s.heap → J.go i H →
    wpAny (model P w) X.A (pyNext (.ref it)) (fun r s1 => ∃ u, r = some u ∧
      wpAny (model P w) X.A (letOwnedTupleGo tg (.ref it) u) (fun _ s2 => ∃ x H', Inv X pins σ H' s2 ∧ RelV s2.toks x u ∧ J.yld i H x H' ∧ tn (i + 1) s2.heap ∧ ∀ b ∈ fp, H' b = none) E s1) E s
  done : ∀ (X : Cx), X.prog = P → X.w = w → X.K = K → X.calm = true → ∀ (i : Nat) (pins : List (Addr × Obj)) (s : Shared) (σ : L2.St) (H : Hp) (E : Value → Shared → Prop), Inv X pins σ H s → (∀ b ∈ fp, FpOk X pins H b) → tn i s.heap → J.stop i H →
    wpAny (model P w) X.A (pyNext (.ref it)) (fun r s1 => r = none ∧ Inv X pins σ H s1) E s
  self : ∀ (A : Around) (i : Nat) (s : Shared) (Q : Value → Shared → Prop) (E : Value → Shared → Prop), tn i s.heap → Q (.ref it) s → wpAny (model P w) A (pyIter (.ref it)) Q E s
def PIE (X : Cx) (pins : List (Addr × Obj)) (σ : L2.St) (tg : Expr) (R : It → Hp → Prop) (itv : Value) (s2 : Shared) : Prop :=
  ∃ (it : Addr) (fp : List Addr) (tn : Nat → Heap → Prop) (J : It) (H' : Hp), itv = .ref it ∧ Inv X pins σ H' s2 ∧ Turn X.prog X.w X.K tg J fp it tn ∧ tn 0 s2.heap ∧ (∀ b ∈ fp, FpOk X pins H' b) ∧ R J H'
structure PI (X : Cx) (tg iter : Expr) (wi : TI) : Prop where
  run : ∀ (pins : List (Addr × Obj)) (s : Shared) (σ : L2.St) (H : Hp) (R : It → Hp → Prop), Inv X pins σ H s → wi σ H R →
    wpAny (model X.prog X.w) X.A (eval iter X.env) (fun v s1 => wpAny (model X.prog X.w) X.A (pyIter v) (PIE X pins σ tg R) X.xe s1) X.xe s
/-- an iterator of ours has turned -/
theorem Inv.turn1 {X : Cx} {pins : List (Addr × Obj)} {σ : L2.St} {H : Hp} {s : Shared} {h' : Heap} {it : Addr} {t : Nat} (I : Inv X pins σ H s) (f : FpOk X pins H it) (k : ∀ b o, b ≠ it → s.heap.get? b = some o → h'.get? b = some o) (ht : s.toks ≤ t) : Inv X pins σ H { s with heap := h', toks := t } :=
  I.turned k f.1 f.2.1 f.2.2.2.1 f.2.2.2.2.1 f.2.2.2.2.2 ht
/-- one iterator just laid -/
theorem pi_one {X : Cx} {tg : Expr} {pins : List (Addr × Obj)} {σ : L2.St} {H : Hp} {s : Shared} {R : It → Hp → Prop} {J : It} {tn : Nat → Heap → Prop} {tk : Nat} (I : Inv X pins σ H s) (ht : s.toks ≤ tk) (o : Obj)
    (T : Turn X.prog X.w X.K tg J [s.heap.objs.size] s.heap.objs.size tn) (st : tn 0 (s.heap.push o)) (q : R J H) : PIE X pins σ tg R (.ref s.heap.objs.size) { s with heap := s.heap.push o, toks := tk } := by
  refine ⟨_, _, tn, J, H, rfl, I.kept (fun b ob e => Heap.get?_push_of_some _ e) ht, T, st, fun b hb => ?_, q⟩
  rw [List.mem_singleton.mp hb]
  exact I.fpOk (Nat.le_refl _) (I.fresh (Nat.le_refl _))
def Itl (K : PySem.W.Frag) (a : Addr) : It :=
  ⟨fun i H => ∃ xs x, SqL K H a xs ∧ xs[i]? = some x, fun i H x H' => H' = H ∧ ∀ xs, SqL K H a xs → xs[i]? = some x, fun i H => ∃ xs, SqL K H a xs ∧ xs.length ≤ i⟩
def Itt (K : PySem.W.Frag) (a : Addr) : It :=
  ⟨fun i H => ∃ xs x, SqT K H a xs ∧ xs[i]? = some x, fun i H x H' => H' = H ∧ ∀ xs, SqT K H a xs → xs[i]? = some x, fun i H => ∃ xs, SqT K H a xs ∧ xs.length ≤ i⟩
theorem one_obj {it : Addr} {h : Heap} {o : Obj} {vs : Array Value} (e : h.get? it = some o) (d : o.data = .fields vs) : ∀ b ∈ [it], ∃ o, h.get? b = some o ∧ ∀ v, o.data ≠ .cell v := fun b hb => by
  rw [List.mem_singleton.mp hb]
  exact ⟨o, e, fun v z => by rw [d] at z; cases z⟩
theorem turn_list {P : Program} {w : World} {K : PySem.W.Frag} {tg : Expr} (a it : Addr) : Turn P w K tg (Itl K a) [it] it (fun i h => h.IsListIter it a i) where
  mem := List.mem_singleton.mpr rfl
  obj := fun i h ⟨o, e, _, d⟩ => one_obj e d
  keep := fun i h h' st k => st.at fun o e => k it (List.mem_singleton.mpr rfl) o e
  item := by
    rintro X rfl rfl rfl hc i pins s σ H E I hf st ⟨xs, x, hq, hx⟩
    obtain ⟨its, rv, p, hz⟩ := I.list hq
    obtain ⟨u, hu, ru⟩ := rv.get hx
    have f := hf it (List.mem_singleton.mpr rfl)
    refine wpAny_pyNext_list_item st p.isList (x := u) (by simpa using hu) fun h' st' sb => ?_
    have J : Inv X pins σ H { s with heap := h' } := I.turn1 (t := s.toks) f (fun b o hb e => (sb.2 b hb).trans e) (Nat.le_refl _)
    obtain ⟨o, e, c, d⟩ := id st'
    exact ⟨u, rfl, go_of (s := { s with heap := h' }) e c d (by decide) ⟨x, H, J, ru, ⟨rfl, fun ys hy => by rw [I.list_inj hy hq]; exact hx⟩, st', fun b hb => (hf b hb).1⟩⟩
  done := by
    rintro X rfl rfl rfl hc i pins s σ H E I hf st ⟨xs, hq, hx⟩
    obtain ⟨its, rv, p, hz⟩ := I.list hq
    have hl := rv.length
    exact wpAny_pyNext_list_end (I.ok.hd hc) st p.isList (by simp; omega) fun h' eb => ⟨rfl, I.turn1 (t := s.toks) (hf it (List.mem_singleton.mpr rfl)) (fun b o hb e => eb b o hb e) (Nat.le_refl _)⟩
  self := fun _ _ _ _ _ st h => wpAny_pyIter_listiter st h
theorem turn_tuple {P : Program} {w : World} {K : PySem.W.Frag} {tg : Expr} (a it : Addr) : Turn P w K tg (Itt K a) [it] it (fun i h => h.IsTupleIter it a i) where
  mem := List.mem_singleton.mpr rfl
  obj := fun i h ⟨o, e, _, d⟩ => one_obj e d
  keep := fun i h h' st k => st.at fun o e => k it (List.mem_singleton.mpr rfl) o e
  item := by
    rintro X rfl rfl rfl hc i pins s σ H E I hf st ⟨xs, x, hq, hx⟩
    obtain ⟨its, rv, p, hz⟩ := I.tuple hq
    obtain ⟨u, hu, ru⟩ := rv.get hx
    have f := hf it (List.mem_singleton.mpr rfl)
    refine wpAny_pyNext_tuple_item st (show s.heap.IsTuple a its.toArray from p) (x := u) (by simpa using hu) fun h' st' sb => ?_
    have J : Inv X pins σ H { s with heap := h' } := I.turn1 (t := s.toks) f (fun b o hb e => (sb.2 b hb).trans e) (Nat.le_refl _)
    obtain ⟨o, e, c, d⟩ := id st'
    exact ⟨u, rfl, go_of (s := { s with heap := h' }) e c d (by decide) ⟨x, H, J, ru, ⟨rfl, fun ys hy => by rw [I.tuple_inj hy hq]; exact hx⟩, st', fun b hb => (hf b hb).1⟩⟩
  done := by
    rintro X rfl rfl rfl hc i pins s σ H E I hf st ⟨xs, hq, hx⟩
    obtain ⟨its, rv, p, hz⟩ := I.tuple hq
    have hl := rv.length
    exact wpAny_pyNext_tuple_end (I.ok.hd hc) st (show s.heap.IsTuple a its.toArray from p) (by simp; omega) fun h' eb => ⟨rfl, I.turn1 (t := s.toks) (hf it (List.mem_singleton.mpr rfl)) (fun b o hb e => eb b o hb e) (Nat.le_refl _)⟩
  self := fun _ _ _ _ _ st h => wpAny_pyIter_tupleiter st h
theorem turn_range {P : Program} {w : World} {K : PySem.W.Frag} {tg : Expr} (it : Addr) (lo : Int) (n : Nat) : Turn P w K tg (Itr lo n) [it] it (fun i h => IsRangeIter h it (lo + (i : Nat) * 1) ((n : Int) - (i : Nat)) 1) where
  mem := List.mem_singleton.mpr rfl
  obj := fun i h st => one_obj (show h.get? it = some _ from st) rfl
  keep := fun i h h' st k => k it (List.mem_singleton.mpr rfl) _ st
  item := by
    rintro X rfl rfl rfl hc i pins s σ H E I hf st hg
    have f := hf it (List.mem_singleton.mpr rfl)
    have W := Walks.range (prog := X.prog) (w := X.w) (I.ok.hd hc) it lo 1 n
    refine wpAny_with_toks (Nat.le_refl _) (W.item i s _ _ hg st fun v h' tk hv st' kk hk => ?_)
    obtain ⟨t, rfl⟩ := hv
    have J : Inv X pins σ H { s with heap := h', toks := tk } := I.turn1 f (fun b o hb e => kk b o (by simpa using hb) e) hk
    refine ⟨_, rfl, go_of (s := { s with heap := h', toks := tk }) (n := "range_iterator") st' rfl rfl (by decide) ⟨.int (lo + i), H, J, ?_, ⟨rfl, rfl⟩, st', fun b hb => (hf b hb).1⟩⟩
    rw [Int.mul_one]
    exact .int
  done := by
    rintro X rfl rfl rfl hc i pins s σ H E I hf st hg
    exact wpAny_pyNext_range_end (I.ok.hd hc) st (by have : n ≤ i := hg; omega) fun h' eb => ⟨rfl, I.turn1 (t := s.toks) (hf it (List.mem_singleton.mpr rfl)) (fun b o hb e => eb b o hb e) (Nat.le_refl _)⟩
  self := fun _ _ _ _ _ st h => wpAny_pyIter_rangeiter st h
section
variable {X : Cx} {tg : Expr}
def iList (K : PySem.W.Frag) (tl : TE) : TI := fun σ H R => tl σ H fun x H1 => ∃ a, x = .ref a ∧ (∃ xs, SqL K H1 a xs) ∧ R (Itl K a) H1
def iTup (K : PySem.W.Frag) (tl : TE) : TI := fun σ H R => tl σ H fun x H1 => ∃ a, x = .ref a ∧ (∃ xs, SqT K H1 a xs) ∧ R (Itt K a) H1
theorem pi_list {l : Expr} {tl : TE} (hl : PE X l tl) : PI X tg l (iList X.K tl) := by
  constructor
  intro pins s σ H R I h
  refine thn (hl.run pins s σ H _ I h) fun v s1 z => ?_
  obtain ⟨x, H1, I1, ⟨r1, _⟩, a, rfl, ⟨xs, hq⟩, q⟩ := z
  cases r1
  obtain ⟨its, rv, p, hz⟩ := I1.list hq
  exact wpAny_pyIter_list p.isList (pi_one (tk := s1.toks) I1 (Nat.le_refl _) _ (turn_list a _) ⟨_, Heap.get?_push_size _ rfl, rfl, rfl⟩ q)
theorem pi_tup {l : Expr} {tl : TE} (hl : PE X l tl) : PI X tg l (iTup X.K tl) := by
  constructor
  intro pins s σ H R I h
  refine thn (hl.run pins s σ H _ I h) fun v s1 z => ?_
  obtain ⟨x, H1, I1, ⟨r1, _⟩, a, rfl, ⟨xs, hq⟩, q⟩ := z
  cases r1
  obtain ⟨its, rv, p, hz⟩ := I1.tuple hq
  exact wpAny_pyIter_tuple (show s1.heap.IsTuple a its.toArray from p) (pi_one (tk := s1.toks) I1 (Nat.le_refl _) _ (turn_tuple a _) ⟨_, Heap.get?_push_size _ rfl, rfl, rfl⟩ q)
theorem range_it {pins : List (Addr × Obj)} {σ : L2.St} {H : Hp} {s : Shared} {R : It → Hp → Prop} {E : Value → Shared → Prop} {lo hi : Int} {t u v : Tok} {tk : Nat} (I : Inv X pins σ H s) (ht : s.toks ≤ tk) (h1 : -(2 ^ 62) ≤ lo) (h2 : lo < 2 ^ 62) (h3 : -(2 ^ 62) ≤ hi) (h4 : hi < 2 ^ 62)
    (q : R (Itr lo (hi - lo).toNat) H) : wpAny (model X.prog X.w) X.A (pyIter (.ref s.heap.objs.size)) (PIE X pins σ tg R) E { s with heap := s.heap.push { cls := .type "range", data := .fields #[.int lo t, .int hi u, .int 1 v] }, toks := tk } := by
  refine wpAny_pyIter_range (IsRange.new ..) (small_one h1 h2 h3 h4) ?_
  have J : Inv X pins σ H { s with heap := s.heap.push { cls := .type "range", data := .fields #[.int lo t, .int hi u, .int 1 v] }, toks := tk } := I.kept (fun b o e => Heap.get?_push_of_some _ e) ht
  refine pi_one (tk := tk) J (Nat.le_refl _) _ (turn_range _ lo (hi - lo).toNat) ?_ q
  have e1 : lo + ((0 : Nat) : Int) * 1 = lo := by simp
  have e2 : (((hi - lo).toNat : Nat) : Int) - ((0 : Nat) : Int) = Builtin.Range.rangeSize lo hi 1 := by rw [rangeSize_one]; split <;> omega
  show IsRangeIter _ _ (lo + ((0 : Nat) : Int) * 1) ((((hi - lo).toNat : Nat) : Int) - ((0 : Nat) : Int)) 1
  rw [e1, e2]
  exact Heap.get?_push_size _ rfl
theorem pi_range1 {a : Expr} {ta : TA} {p pos : Pos} (hg : Gl X "range") (hm : X.mg "range" = none) (ha : PA X [a] ta) (hs : starEach [a] X.env = [(false, eval a X.env)] := by rfl) : PI X tg (.Call (.Name "range" p) [a] [] pos) (iRng1 ta) := by
  constructor
  intro pins s σ H R I h
  refine Call_ (ld_blt I hg hm boot_range (PyProof.Rows.callWith_type1 (thn (ha.run pos pins s σ H _ I h) fun us s1 z => ?_) hs rfl))
  obtain ⟨vs, H1, I1, r1, j, rfl, q1, q2, q⟩ := z
  obtain ⟨u, _, rfl, ⟨r, _⟩, r1⟩ := r1.cons_ex
  cases r1.nil_ex
  obtain ⟨t, rfl⟩ := r
  exact call_range_1 (range_it I1 (by first | exact Nat.le_refl _ | (show s1.toks ≤ _; omega)) (by omega) (by omega) q1 q2 (by simpa using q))
theorem pi_range2 {a b : Expr} {ta : TA} {p pos : Pos} (hg : Gl X "range") (hm : X.mg "range" = none) (ha : PA X [a, b] ta) (hs : starEach [a, b] X.env = [(false, eval a X.env), (false, eval b X.env)] := by rfl) (hs2 : starEach [b] X.env = [(false, eval b X.env)] := by rfl) :
    PI X tg (.Call (.Name "range" p) [a, b] [] pos) (iRng2 ta) := by
  constructor
  intro pins s σ H R I h
  refine Call_ (ld_blt I hg hm boot_range (PyProof.Rows.callWith_type1 (thn (ha.run pos pins s σ H _ I h) fun us s1 z => ?_) (by rw [hs, hs2]) (by rw [hs2]; rfl)))
  obtain ⟨vs, H1, I1, r1, i, j, rfl, ⟨q1, q2, q3, q4⟩, q⟩ := z
  obtain ⟨u, _, rfl, ⟨r, _⟩, r1⟩ := r1.cons_ex
  obtain ⟨u', _, rfl, ⟨r', _⟩, r1⟩ := r1.cons_ex
  cases r1.nil_ex
  obtain ⟨t, rfl⟩ := r
  obtain ⟨t', rfl⟩ := r'
  exact call_range_2 (range_it I1 (by first | exact Nat.le_refl _ | (show s1.toks ≤ _; omega)) q1 q2 q3 q4 q)
theorem ps_for {iter : Expr} {body : List Stmt} {wi : TI} {g : TG} {tb : TS} {pos : Pos} (hp : PassesOwn (model X.prog X.w) X.A X.env X.xe) (hc : X.calm = true) (hi : PI X tg iter wi) (hg : PG X tg g) (hb : PSs X body tb)
    (hs : ∀ x, foldedSetIterable iter X.env x = pure x := by intro _; rfl) : PS X (.For tg iter body [] pos) (tFor wi g tb) := by
  constructor
  intro pins s σ H D I h
  refine wpAny_For (thn (hi.run pins s σ H _ I h) fun v s1 h1 => thn h1 fun itv s2 h2 => ?_) hs
  obtain ⟨it, fp, tn, J, H2, rfl, I2, T, st2, f2, W, ⟨m0, w0⟩, turn⟩ := h2
  have fpo : ∀ {H' : Hp}, (∀ b ∈ fp, H' b = none) → ∀ b ∈ fp, FpOk X pins H' b := fun hn b hb => ⟨hn b hb, (f2 b hb).2⟩
  refine codeAny_forLoop_any (fun n s' => ∃ i σ' H', Inv X pins σ' H' s' ∧ tn i s'.heap ∧ (∀ b ∈ fp, H' b = none) ∧ W i n σ' H') ?_ m0 ⟨0, σ, H2, I2, st2, fun b hb => (f2 b hb).1, w0⟩
  rintro n s3 ⟨i, σ3, H3, I3, st3, fr3, w3⟩
  rcases turn i n σ3 H3 w3 with ⟨stop, qn⟩ | ⟨go, N, hN, step⟩
  · refine wpAny_passesOwn hp (thn (T.done X rfl rfl rfl hc i pins s3 σ3 H3 X.xe I3 (fpo fr3) st3 stop) fun r s4 z => ?_)
    obtain ⟨rfl, I4⟩ := z
    exact wpAny_execs_nil ⟨σ3, H3, I4, qn⟩
  · refine wpAny_passesOwn hp (thn (T.item X rfl rfl rfl hc i pins s3 σ3 H3 X.xe I3 (fpo fr3) st3 go) fun r s4 z => ?_)
    obtain ⟨u, rfl, h4⟩ := z
    refine wpAny_passesOwn hp (thn h4 fun _ s5 z => ?_)
    obtain ⟨x, H5, I5, r5, y5, st5, fr5⟩ := z
    have J5 := I5.pinned (fpo fr5) (T.obj _ _ st5)
    refine wpAny_passesOwn hp (thn (hg.run _ s5 σ3 H5 x u _ J5 r5 (step x H5 y5)) fun _ s6 z => ?_)
    obtain ⟨σ6, H6, I6, q6⟩ := z
    refine wpAny_passesOwn hp (thn (hb.run _ s6 σ6 H6 _ I6 q6) fun f s7 q7 => ?_)
    have again : (∃ σ' H', Inv X (pins ++ pinsAt fp s5.heap) σ' H' s7 ∧ N σ' H') → ∃ m, m < n ∧ ∃ i σ' H', Inv X pins σ' H' s7 ∧ tn i s7.heap ∧ (∀ b ∈ fp, H' b = none) ∧ W i m σ' H' := fun ⟨σ7, H7, I7, n7⟩ => by
      obtain ⟨m', hm, w7⟩ := hN σ7 H7 n7
      have pn : ∀ b ∈ fp, ∀ o, s5.heap.get? b = some o → _ := fun b hb o e => I7.i.pin (b, o) (List.mem_append_right _ (List.mem_append_right _ (mem_pinsAt hb e)))
      refine ⟨m', hm, i + 1, σ7, H7, I7.unpinned, T.keep _ _ _ st5 fun b hb o e => (pn b hb o e).1, fun b hb => ?_, w7⟩
      obtain ⟨o, e, d⟩ := T.obj _ _ st5 b hb
      exact (pn b hb o e).2.1
    cases f with
    | next => exact again q7
    | cont => exact again q7
    | brk => obtain ⟨σ7, H7, I7, q7⟩ := q7; exact ⟨σ7, H7, I7.unpinned, q7⟩
    | ret v => obtain ⟨x7, σ7, H7, I7, r7, q7⟩ := q7; exact ⟨x7, σ7, H7, I7.unpinned, r7, q7⟩
end
end L3

/-! L3: Python's values as plain data; what a piece of the text does, as a plain function of data. -/
namespace L3
open PySem L2

/-- a dict's key: an int, or a text by its codes -/
abbrev Kd := Sum Int (List Nat)
def kk : Kd → Key
  | .inl i => .inl i
  | .inr l => .inr ⟨l.toArray⟩
theorem kk_inj {a b : Kd} (h : kk a = kk b) : a = b := by
  cases a <;> cases b <;> simp [kk] at h
  · rw [h]
  · rw [h]
theorem kk_eq (a b : Kd) : decide (kk a = kk b) = decide (a = b) := by
  by_cases h : a = b
  · rw [h]; simp
  · have : ¬ kk a = kk b := fun e => h (kk_inj e)
    simp [h, this]

/-- a value -/
inductive D where
  | non | bl (b : Bool) | int (i : Int) | str (l : List Nat)
  | lst (l : List D) | tup (l : List D) | dct (l : List (Kd × D))
  | scr (l : List Int)
  | obj (n : Str) (l : List (Str × D))
  | loc (n : Nat)

/-- what stands at a place that may change -/
inductive Cell where
  | lst (l : List D) | dct (l : List (Kd × D)) | set (l : List Kd)
  | ins (n : Str) (l : List (Str × D))
  | fz (d : D)

abbrev Cells := List Cell
abbrev Env := List (Option D)

/-- how an expression ends -/
inductive R where
  | ok (d : D) (cs : Cells)
  | exc (n : Str) (fs : List (Str × D)) (cs : Cells)
  | stuck
def R.bind : R → (D → Cells → R) → R
  | .ok d cs, f => f d cs
  | .exc n fs cs, _ => .exc n fs cs
  | .stuck, _ => .stuck
@[simp] theorem R.bind_ok (d : D) (cs : Cells) (f : D → Cells → R) : (R.ok d cs).bind f = f d cs := rfl
@[simp] theorem R.bind_exc (n : Str) (fs : List (Str × D)) (cs : Cells) (f : D → Cells → R) : (R.exc n fs cs).bind f = .exc n fs cs := rfl
@[simp] theorem R.bind_stuck (f : D → Cells → R) : R.stuck.bind f = .stuck := rfl
/-- how an argument list ends -/
inductive RA where
  | ok (ds : List D) (cs : Cells)
  | exc (n : Str) (fs : List (Str × D)) (cs : Cells)
  | stuck
def RA.bind : RA → (List D → Cells → R) → R
  | .ok d cs, f => f d cs
  | .exc n fs cs, _ => .exc n fs cs
  | .stuck, _ => .stuck
@[simp] theorem RA.bind_ok (d : List D) (cs : Cells) (f : List D → Cells → R) : (RA.ok d cs).bind f = f d cs := rfl
@[simp] theorem RA.bind_exc (n : Str) (fs : List (Str × D)) (cs : Cells) (f : List D → Cells → R) : (RA.exc n fs cs).bind f = .exc n fs cs := rfl
@[simp] theorem RA.bind_stuck (f : List D → Cells → R) : RA.stuck.bind f = .stuck := rfl
/-- how a statement ends -/
inductive S where
  | nx (env : Env) (cs : Cells)
  | rt (d : D) (cs : Cells)
  | bk (env : Env) (cs : Cells)
  | ct (env : Env) (cs : Cells)
  | exc (n : Str) (fs : List (Str × D)) (env : Env) (cs : Cells)
  | stuck
abbrev ME := Env → Cells → R
abbrev MA := Env → Cells → RA
abbrev MS := Env → Cells → S
abbrev MF := List D → Cells → R

/-- what is fixed: the program, the world, the written part, the module's names -/
structure Gd where
  P : Program
  w : World
  K : PySem.W.Frag
  mg : Str → Option Value
abbrev gd (X : Cx) : Gd := ⟨X.prog, X.w, X.K, X.mg⟩

/-! ### which value stands for which data; F: what stands still -/
mutual
inductive RV (g : Gd) (F : Hp) (c : List Addr) : V → D → Prop
  | non : RV g F c .non .non
  | bl (b : Bool) : RV g F c (.bl b) (.bl b)
  | int (i : Int) : RV g F c (.int i) (.int i)
  | str (l : List Nat) : RV g F c (.str ⟨l.toArray⟩) (.str l)
  | lst {a : Addr} {vs : List V} {ds : List D} : F a = some (.lst vs) → RVs g F c vs ds → RV g F c (.ref a) (.lst ds)
  | tup {a : Addr} {vs : List V} {ds : List D} : SqT g.K F a vs → RVs g F c vs ds → RV g F c (.ref a) (.tup ds)
  | dct {a : Addr} {kvs : List (Key × V)} {kds : List (Kd × D)} : Rd F a (.dK kvs) → RKs g F c kvs kds → RV g F c (.ref a) (.dct kds)
  | scr {a : Addr} {ns : List Int} : SqL g.K F a (ns.map V.int) → RV g F c (.ref a) (.scr ns)
  | obj {a C dx : Addr} {n : Str} {fs : List (Str × V)} {gs : List (Str × D)} : g.mg n = some (.ref C) → F a = some (.ins C dx fs) → RFs g F c fs gs → RV g F c (.ref a) (.obj n gs)
  | loc {n : Nat} {a : Addr} : c[n]? = some a → RV g F c (.ref a) (.loc n)
inductive RVs (g : Gd) (F : Hp) (c : List Addr) : List V → List D → Prop
  | nil : RVs g F c [] []
  | cons {v : V} {d : D} {vs : List V} {ds : List D} : RV g F c v d → RVs g F c vs ds → RVs g F c (v :: vs) (d :: ds)
inductive RKs (g : Gd) (F : Hp) (c : List Addr) : List (Key × V) → List (Kd × D) → Prop
  | nil : RKs g F c [] []
  | cons {k : Kd} {v : V} {d : D} {vs : List (Key × V)} {ds : List (Kd × D)} : RV g F c v d → RKs g F c vs ds → RKs g F c ((kk k, v) :: vs) ((k, d) :: ds)
inductive RFs (g : Gd) (F : Hp) (c : List Addr) : List (Str × V) → List (Str × D) → Prop
  | nil : RFs g F c [] []
  | cons {k : Str} {v : V} {d : D} {vs : List (Str × V)} {ds : List (Str × D)} : RV g F c v d → RFs g F c vs ds → RFs g F c ((k, v) :: vs) ((k, d) :: ds)
end

/-- more is known (a dict may be locked meanwhile) -/
structure Le (F : Hp) (c : List Addr) (F' : Hp) (c' : List Addr) : Prop where
  lst : ∀ a xs, F a = some (.lst xs) → F' a = some (.lst xs)
  tup : ∀ a xs, F a = some (.tup xs) → F' a = some (.tup xs)
  ins : ∀ a C dx fs, F a = some (.ins C dx fs) → F' a = some (.ins C dx fs)
  rd : ∀ a u, Rd F a u → Rd F' a u
  frz : ∀ a o u, F a = some (.frz o u) → F' a = some (.frz o u)
  loc : ∀ (n : Nat) (a : Addr), c[n]? = some a → c'[n]? = some a
theorem Le.refl (F : Hp) (c : List Addr) : Le F c F c := ⟨fun _ _ h => h, fun _ _ h => h, fun _ _ _ _ h => h, fun _ _ h => h, fun _ _ _ h => h, fun _ _ h => h⟩
theorem Le.trans {F F1 F2 : Hp} {c c1 c2 : List Addr} (a : Le F c F1 c1) (b : Le F1 c1 F2 c2) : Le F c F2 c2 :=
  ⟨fun x xs h => b.lst x xs (a.lst x xs h), fun x xs h => b.tup x xs (a.tup x xs h), fun x C dx fs h => b.ins x C dx fs (a.ins x C dx fs h), fun x u h => b.rd x u (a.rd x u h), fun x o u h => b.frz x o u (a.frz x o u h), fun n x h => b.loc n x (a.loc n x h)⟩
theorem Le.seq {K : PySem.W.Frag} {F F' : Hp} {c c' : List Addr} {a : Addr} {xs : List V} (e : Le F c F' c') (h : SqL K F a xs) : SqL K F' a xs := by
  rcases h with h | h
  · exact .inl (e.rd _ _ h)
  · exact .inr h
theorem Le.seqT {K : PySem.W.Frag} {F F' : Hp} {c c' : List Addr} {a : Addr} {xs : List V} (e : Le F c F' c') (h : SqT K F a xs) : SqT K F' a xs := by
  rcases h with h | h
  · exact .inl (e.rd _ _ h)
  · exact .inr h
/-- from a plain extension -/
theorem Le.of {F F' : Hp} {c c' : List Addr} (h : ∀ a o, F a = some o → F' a = some o) (hc : ∀ (n : Nat) (a : Addr), c[n]? = some a → c'[n]? = some a) : Le F c F' c' :=
  ⟨fun _ _ e => h _ _ e, fun _ _ e => h _ _ e, fun _ _ _ _ e => h _ _ e, fun a u e => by
    rcases e with e | ⟨o, e⟩
    · exact .inl (h _ _ e)
    · exact .inr ⟨o, h _ _ e⟩, fun _ _ _ e => h _ _ e, hc⟩

section
variable {g : Gd} {F F' : Hp} {c c' : List Addr}
mutual
theorem RV.mono (e : Le F c F' c') : ∀ {v : V} {d : D}, RV g F c v d → RV g F' c' v d
  | _, _, .non => .non
  | _, _, .bl b => .bl b
  | _, _, .int i => .int i
  | _, _, .str l => .str l
  | _, _, .lst h r => .lst (e.lst _ _ h) (RVs.mono e r)
  | _, _, .tup h r => .tup (e.seqT h) (RVs.mono e r)
  | _, _, .dct h r => .dct (e.rd _ _ h) (RKs.mono e r)
  | _, _, .scr h => .scr (e.seq h)
  | _, _, .obj m h r => .obj m (e.ins _ _ _ _ h) (RFs.mono e r)
  | _, _, .loc h => .loc (e.loc _ _ h)
theorem RVs.mono (e : Le F c F' c') : ∀ {vs : List V} {ds : List D}, RVs g F c vs ds → RVs g F' c' vs ds
  | _, _, .nil => .nil
  | _, _, .cons a b => .cons (RV.mono e a) (RVs.mono e b)
theorem RKs.mono (e : Le F c F' c') : ∀ {vs : List (Key × V)} {ds : List (Kd × D)}, RKs g F c vs ds → RKs g F' c' vs ds
  | _, _, .nil => .nil
  | _, _, .cons a b => .cons (RV.mono e a) (RKs.mono e b)
theorem RFs.mono (e : Le F c F' c') : ∀ {vs : List (Str × V)} {ds : List (Str × D)}, RFs g F c vs ds → RFs g F' c' vs ds
  | _, _, .nil => .nil
  | _, _, .cons a b => .cons (RV.mono e a) (RFs.mono e b)
end
theorem RVs.length : ∀ {vs : List V} {ds : List D}, RVs g F c vs ds → vs.length = ds.length
  | _, _, .nil => rfl
  | _, _, .cons _ r => by simp [RVs.length r]
theorem RVs.get : ∀ {vs : List V} {ds : List D} {i : Nat} {d : D}, RVs g F c vs ds → ds[i]? = some d → ∃ v, vs[i]? = some v ∧ RV g F c v d
  | _, _, _, _, .nil, e => by simp at e
  | _, _, 0, _, .cons r _, e => by simp at e; subst e; exact ⟨_, rfl, r⟩
  | _, _, i + 1, d, .cons _ t, e => by
    obtain ⟨u, h1, h2⟩ := RVs.get (i := i) (d := d) t (by simpa using e)
    exact ⟨u, by simpa using h1, h2⟩
theorem RVs.get' : ∀ {vs : List V} {ds : List D} {i : Nat} {v : V}, RVs g F c vs ds → vs[i]? = some v → ∃ d, ds[i]? = some d ∧ RV g F c v d
  | _, _, _, _, .nil, e => by simp at e
  | _, _, 0, _, .cons r _, e => by simp at e; subst e; exact ⟨_, rfl, r⟩
  | _, _, i + 1, v, .cons _ t, e => by
    obtain ⟨u, h1, h2⟩ := RVs.get' (i := i) (v := v) t (by simpa using e)
    exact ⟨u, by simpa using h1, h2⟩
theorem RVs.append : ∀ {vs ws : List V} {ds es : List D}, RVs g F c vs ds → RVs g F c ws es → RVs g F c (vs ++ ws) (ds ++ es)
  | _, _, _, _, .nil, s => s
  | _, _, _, _, .cons a b, s => .cons a (RVs.append b s)
theorem RVs.take : ∀ {vs : List V} {ds : List D} (n : Nat), RVs g F c vs ds → RVs g F c (vs.take n) (ds.take n)
  | _, _, 0, _ => by simp; exact .nil
  | _, _, _ + 1, .nil => .nil
  | _, _, n + 1, .cons a b => .cons a (RVs.take n b)
theorem RVs.drop : ∀ {vs : List V} {ds : List D} (n : Nat), RVs g F c vs ds → RVs g F c (vs.drop n) (ds.drop n)
  | _, _, 0, r => by simpa using r
  | _, _, _ + 1, .nil => .nil
  | _, _, n + 1, .cons _ b => by simpa using RVs.drop n b
theorem RVs.reverse {vs : List V} {ds : List D} (r : RVs g F c vs ds) : RVs g F c vs.reverse ds.reverse := by
  induction r using RVs.rec (motive_1 := fun _ _ _ => True) (motive_3 := fun _ _ _ => True) (motive_4 := fun _ _ _ => True) with
  | nil => exact .nil
  | cons a b _ ih => simp only [List.reverse_cons]; exact ih.append (.cons a .nil)
  | _ => trivial
end

/-! ### the state: H what is tracked, F what stands still, c where the cells lie -/
def CR (g : Gd) (H F : Hp) (c : List Addr) (a : Addr) : Cell → Prop
  | .lst ds => F a = none ∧ ∃ vs, H a = some (.lst vs) ∧ RVs g F c vs ds
  | .dct ks => F a = none ∧ ∃ kvs, H a = some (.dK kvs) ∧ RKs g F c kvs ks
  | .set l => F a = none ∧ H a = some (SetK g.P g.w a (fun k => (l.map kk).contains k) l.length)
  | .ins n gs => F a = none ∧ ∃ C dx fs, g.mg n = some (.ref C) ∧ H a = some (.ins C dx fs) ∧ RFs g F c fs gs
  | .fz d => RV g F c (.ref a) d ∧ ∃ o, H a = some o ∧ ∀ vs, o ≠ .xd vs
structure Ih (g : Gd) (H F : Hp) (c : List Addr) (cs : Cells) : Prop where
  sub : ∀ a o, F a = some o → H a = some o
  len : c.length = cs.length
  nd : c.Nodup
  cell : ∀ (n : Nat) (a : Addr) (x : Cell), c[n]? = some a → cs[n]? = some x → CR g H F c a x
structure Xt (H F : Hp) (c : List Addr) (H' F' : Hp) (c' : List Addr) : Prop where
  le : Le F c F' c'
  kp : ∀ a o, H a = some o → a ∉ c → H' a = some o
  dom : ∀ a o, H a = some o → ∃ o', H' a = some o'
  new : ∀ a, a ∈ c' → a ∉ c → H a = none
  out : ∀ a o, H a = some o → F a = none → a ∉ c → F' a = none
theorem Xt.refl (H F : Hp) (c : List Addr) : Xt H F c H F c := ⟨Le.refl F c, fun _ _ h _ => h, fun _ o h => ⟨o, h⟩, fun a h n => absurd h n, fun _ _ _ h _ => h⟩
theorem Xt.trans {H F H1 F1 H2 F2 : Hp} {c c1 c2 : List Addr} (a : Xt H F c H1 F1 c1) (b : Xt H1 F1 c1 H2 F2 c2) : Xt H F c H2 F2 c2 := by
  refine ⟨a.le.trans b.le, fun x o h n => ?_, fun x o h => ?_, fun x h n => ?_, fun x o h f n => ?_⟩
  · refine b.kp x o (a.kp x o h n) fun m => ?_
    have := a.new x m n
    rw [h] at this; cases this
  · obtain ⟨o1, h1⟩ := a.dom x o h
    exact b.dom x o1 h1
  · by_cases m : x ∈ c1
    · exact a.new x m n
    · have := b.new x h m
      cases e : H x with
      | none => rfl
      | some o => obtain ⟨o1, h1⟩ := a.dom x o e; rw [this] at h1; cases h1
  · obtain ⟨o1, h1⟩ := a.dom x o h
    refine b.out x o1 h1 (a.out x o h f n) fun m => ?_
    have := a.new x m n
    rw [h] at this; cases this

section
variable {g : Gd} {H F : Hp} {c : List Addr} {cs : Cells}
theorem Ih.there (I : Ih g H F c cs) {n : Nat} {a : Addr} (h : c[n]? = some a) : ∃ x, cs[n]? = some x := by
  have hl : n < c.length := (List.getElem?_eq_some_iff.mp h).1
  exact ⟨cs[n]'(by rw [← I.len]; exact hl), by rw [List.getElem?_eq_getElem]⟩
theorem Ih.at (I : Ih g H F c cs) {n : Nat} {x : Cell} (h : cs[n]? = some x) : ∃ a, c[n]? = some a ∧ CR g H F c a x := by
  have hl : n < cs.length := (List.getElem?_eq_some_iff.mp h).1
  have hl' : n < c.length := by rw [I.len]; exact hl
  exact ⟨c[n], List.getElem?_eq_getElem hl', I.cell n _ x (List.getElem?_eq_getElem hl') h⟩
theorem CR.tracked {a : Addr} {x : Cell} (h : CR g H F c a x) : ∃ o, H a = some o := by
  cases x with
  | lst l => obtain ⟨_, vs, h, _⟩ := h; exact ⟨_, h⟩
  | dct l => obtain ⟨_, vs, h, _⟩ := h; exact ⟨_, h⟩
  | set l => obtain ⟨_, h⟩ := h; exact ⟨_, h⟩
  | ins n l => obtain ⟨_, C, dx, fs, _, h, _⟩ := h; exact ⟨_, h⟩
  | fz d => obtain ⟨_, o, e, _⟩ := h; exact ⟨o, e⟩
theorem Ih.mem (I : Ih g H F c cs) {a : Addr} (h : a ∈ c) : ∃ o, H a = some o := by
  obtain ⟨n, hn⟩ := List.getElem?_of_mem h
  obtain ⟨x, hx⟩ := I.there hn
  exact CR.tracked (I.cell n a x hn hx)
theorem Ih.notMem (I : Ih g H F c cs) {a : Addr} (h : H a = none) : a ∉ c := fun m => by
  obtain ⟨o, e⟩ := I.mem m
  rw [h] at e; cases e
theorem Ih.noF (I : Ih g H F c cs) {a : Addr} (h : H a = none) : F a = none := by
  cases e : F a with
  | none => rfl
  | some o => rw [I.sub a o e] at h; cases h
/-- what stands still is no cell that changes -/
def Cell.live : Cell → Bool
  | .fz _ => false
  | _ => true
theorem CR.free {a : Addr} {x : Cell} (h : CR g H F c a x) (l : x.live = true) : F a = none := by
  cases x with
  | fz d => cases l
  | lst l => exact h.1
  | dct l => exact h.1
  | set l => exact h.1
  | ins n l => exact h.1
theorem Ih.inj (I : Ih g H F c cs) {n m : Nat} {a : Addr} (h : c[n]? = some a) (h' : c[m]? = some a) : n = m := by
  obtain ⟨h1, e1⟩ := List.getElem?_eq_some_iff.mp h
  obtain ⟨h2, e2⟩ := List.getElem?_eq_some_iff.mp h'
  exact (List.getElem_inj I.nd).mp (e1.trans e2.symm)

/-- a cell's facts where what is around it has grown -/
theorem CR.mono {H' F' : Hp} {c' : List Addr} {a : Addr} {x : Cell} (h : CR g H F c a x) (e : Le F c F' c') (hH : ∀ o, H a = some o → H' a = some o) (hF : F a = none → F' a = none) : CR g H' F' c' a x := by
  cases x with
  | lst l => obtain ⟨f, vs, h, r⟩ := h; exact ⟨hF f, vs, hH _ h, r.mono e⟩
  | dct l => obtain ⟨f, vs, h, r⟩ := h; exact ⟨hF f, vs, hH _ h, r.mono e⟩
  | set l => obtain ⟨f, h⟩ := h; exact ⟨hF f, hH _ h⟩
  | ins n l => obtain ⟨f, C, dx, fs, m, h, r⟩ := h; exact ⟨hF f, C, dx, fs, m, hH _ h, r.mono e⟩
  | fz d => obtain ⟨r, o, h, n⟩ := h; exact ⟨r.mono e, o, hH _ h, n⟩

/-- a new object that stands still -/
theorem Le.upd (hn : F p = none) : Le F c (upd F p o) c := Le.of (fun a u e => by rw [upd_ne (ne_of_none e hn)]; exact e) fun _ _ e => e
theorem Ih.still (I : Ih g H F c cs) {p : Addr} {o : HO} (hp : H p = none) : Ih g (upd H p o) (upd F p o) c cs := by
  have hF := I.noF hp
  refine ⟨fun a u e => ?_, I.len, I.nd, fun n a x h1 h2 => ?_⟩
  · by_cases hb : a = p
    · subst hb; rw [upd_same] at e ⊢; exact e
    · rw [upd_ne hb] at e ⊢; exact I.sub a u e
  · have q := I.cell n a x h1 h2
    have hne : a ≠ p := fun e => by
      obtain ⟨u, hu⟩ := CR.tracked q
      rw [e, hp] at hu; cases hu
    exact CR.mono q (Le.upd hF) (fun u e => by rw [upd_ne hne]; exact e) (fun e => by rw [upd_ne hne]; exact e)
theorem Xt.still (I : Ih g H F c cs) {p : Addr} {o : HO} (hp : H p = none) : Xt H F c (L2.upd H p o) (L2.upd F p o) c :=
  ⟨Le.upd (I.noF hp), fun a u e _ => by rw [upd_ne (ne_of_none e hp)]; exact e, fun a u e => ⟨u, by rw [upd_ne (ne_of_none e hp)]; exact e⟩, fun a h n => absurd h n, fun a u e f _ => by rw [upd_ne (ne_of_none e hp)]; exact f⟩
/-- a new cell -/
theorem Le.push : Le F c F (c ++ [p]) := Le.of (fun _ _ e => e) fun n a e => by
  rw [List.getElem?_append_left (List.getElem?_eq_some_iff.mp e).1]; exact e
theorem Ih.push (I : Ih g H F c cs) {p : Addr} {o : HO} {x : Cell} (hp : H p = none) (hx : CR g (L2.upd H p o) F (c ++ [p]) p x) : Ih g (L2.upd H p o) F (c ++ [p]) (cs ++ [x]) := by
  refine ⟨fun a u e => ?_, by simp [I.len], ?_, fun n a y h1 h2 => ?_⟩
  · have := I.sub a u e
    rw [upd_ne (ne_of_none this hp)]; exact this
  · rw [List.nodup_append]
    refine ⟨I.nd, by simp, fun a ha b hb => ?_⟩
    have : b = p := by simpa using hb
    subst this
    rintro rfl
    exact I.notMem hp ha
  · by_cases hlt : n < c.length
    · rw [List.getElem?_append_left hlt] at h1
      rw [List.getElem?_append_left (by rw [← I.len]; exact hlt)] at h2
      have q := I.cell n a y h1 h2
      have hne : a ≠ p := fun e => by
        obtain ⟨u, hu⟩ := CR.tracked q
        rw [e, hp] at hu; cases hu
      exact CR.mono q Le.push (fun u e => by rw [upd_ne hne]; exact e) (fun e => e)
    · have hl : n < (c ++ [p]).length := (List.getElem?_eq_some_iff.mp h1).1
      have hn : n = c.length := by simp at hl; omega
      subst hn
      rw [List.getElem?_append_right (Nat.le_refl _)] at h1
      rw [I.len, List.getElem?_append_right (Nat.le_refl _)] at h2
      simp at h1 h2
      subst h1; subst h2
      exact hx
theorem Xt.push (I : Ih g H F c cs) {p : Addr} {o : HO} (hp : H p = none) : Xt H F c (L2.upd H p o) F (c ++ [p]) :=
  ⟨Le.push, fun a u e _ => by rw [upd_ne (ne_of_none e hp)]; exact e, fun a u e => ⟨u, by rw [upd_ne (ne_of_none e hp)]; exact e⟩, fun a h n => by
    rcases List.mem_append.mp h with h | h
    · exact absurd h n
    · have : a = p := by simpa using h
      rw [this]; exact hp, fun _ _ _ f _ => f⟩
/-- a cell is written -/
theorem Ih.write (I : Ih g H F c cs) {n : Nat} {a : Addr} {x0 x : Cell} {o : HO} (ha : c[n]? = some a) (h0 : cs[n]? = some x0) (hl : x0.live = true) (hx : CR g (L2.upd H a o) F c a x) : Ih g (L2.upd H a o) F c (cs.set n x) := by
  have hF := CR.free (I.cell n a x0 ha h0) hl
  refine ⟨fun b u e => ?_, by simp [I.len], I.nd, fun m b y h1 h2 => ?_⟩
  · rw [upd_ne (ne_of_none e hF)]; exact I.sub b u e
  · by_cases hm : m = n
    · subst hm
      rw [ha] at h1; cases h1
      have hlt : m < cs.length := (List.getElem?_eq_some_iff.mp h0).1
      rw [List.getElem?_set_self hlt] at h2
      cases h2
      exact hx
    · rw [List.getElem?_set_ne (Ne.symm hm)] at h2
      have hne : b ≠ a := fun e => hm (I.inj (e ▸ h1) ha)
      exact CR.mono (I.cell m b y h1 h2) (Le.refl F c) (fun u e => by rw [upd_ne hne]; exact e) (fun e => e)
theorem Xt.write (I : Ih g H F c cs) {n : Nat} {a : Addr} {o : HO} (ha : c[n]? = some a) : Xt H F c (L2.upd H a o) F c := by
  have hm : a ∈ c := List.mem_of_getElem? ha
  refine ⟨Le.refl F c, fun b u e hb => ?_, fun b u e => ?_, fun b h hb => absurd h hb, fun _ _ _ f _ => f⟩
  · rw [upd_ne (fun z => hb (by rw [z]; exact hm))]; exact e
  · by_cases hb : b = a
    · subst hb; exact ⟨o, upd_same⟩
    · exact ⟨u, by rw [upd_ne hb]; exact e⟩
end

/-! ### the frame -/
def RE (g : Gd) (F : Hp) (c : List Addr) (σ : L2.St) (env : Env) : Prop :=
  σ.length = env.length ∧ ∀ (i : Nat) (d : D), env[i]? = some (some d) → ∃ v, σ[i]? = some (some v) ∧ RV g F c v d
section
variable {g : Gd} {F F' : Hp} {c c' : List Addr} {σ : L2.St} {env : Env}
theorem RE.mono (h : RE g F c σ env) (e : Le F c F' c') : RE g F' c' σ env := ⟨h.1, fun i d q => by
  obtain ⟨v, a, b⟩ := h.2 i d q
  exact ⟨v, a, b.mono e⟩⟩
theorem RE.set (h : RE g F c σ env) (i : Nat) {v : V} {d : D} (r : RV g F c v d) : RE g F c (σ.set i (some v)) (env.set i (some d)) := by
  refine ⟨by simp [h.1], fun j e q => ?_⟩
  by_cases hj : j = i
  · subst hj
    by_cases hl : j < env.length
    · rw [List.getElem?_set_self hl] at q
      cases q
      exact ⟨v, by rw [List.getElem?_set_self (by rw [h.1]; exact hl)], r⟩
    · rw [List.getElem?_eq_none (by simp; omega)] at q; cases q
  · rw [List.getElem?_set_ne (Ne.symm hj)] at q
    rw [List.getElem?_set_ne (Ne.symm hj)]
    exact h.2 j e q
theorem RE.unset (h : RE g F c σ env) (i : Nat) : RE g F c (σ.set i none) (env.set i none) := by
  refine ⟨by simp [h.1], fun j e q => ?_⟩
  by_cases hj : j = i
  · subst hj
    by_cases hl : j < env.length
    · rw [List.getElem?_set_self hl] at q; cases q
    · rw [List.getElem?_eq_none (by simp; omega)] at q; cases q
  · rw [List.getElem?_set_ne (Ne.symm hj)] at q
    rw [List.getElem?_set_ne (Ne.symm hj)]
    exact h.2 j e q
end

/-! ### what is wanted behind a piece -/
abbrev Q3 := Hp → Hp → List Addr → Prop
/-- all that comes out of (H, F, c) and has the cells cs -/
def Fw (g : Gd) (H F : Hp) (c : List Addr) (cs : Cells) (κ : Q3) : Prop := ∀ H' F' c', Xt H F c H' F' c' → Ih g H' F' c' cs → κ H' F' c'
/-- an error's fields: in its dict, or it has none -/
def XdA (H : Hp) (d : Option Addr) (vs : List (Str × V)) : Prop := match d with
  | some dx => H dx = some (.xd vs)
  | none => vs = []
def ExK (g : Gd) (W : XK) (H F : Hp) (c : List Addr) (n : Str) (fs : List (Str × D)) (cs : Cells) : Prop :=
  Fw g H F c cs fun H' F' c' => ∀ C dx vs, g.mg n = some (.ref C) → XdA H' dx vs → RFs g F' c' vs fs → W (.ref C) dx H'
def PoE (g : Gd) (W : XK) (H F : Hp) (c : List Addr) (r : R) (Q : VK) : Prop :=
  match r with
  | .ok d cs => Fw g H F c cs fun H' F' c' => ∀ v, RV g F' c' v d → Q v H'
  | .exc n fs cs => ExK g W H F c n fs cs
  | .stuck => False
def PoA (g : Gd) (W : XK) (H F : Hp) (c : List Addr) (r : RA) (Q : List V → Hp → Prop) : Prop :=
  match r with
  | .ok ds cs => Fw g H F c cs fun H' F' c' => ∀ vs, RVs g F' c' vs ds → Q vs H'
  | .exc n fs cs => ExK g W H F c n fs cs
  | .stuck => False
def PoT (g : Gd) (W : XK) (H F : Hp) (c : List Addr) (r : R) (Q : Bool → Hp → Prop) : Prop :=
  match r with
  | .ok (.bl b) cs => Fw g H F c cs fun H' _ _ => Q b H'
  | .exc n fs cs => ExK g W H F c n fs cs
  | _ => False
def PoS (g : Gd) (W : WX) (Dn : Ends) (H F : Hp) (c : List Addr) (r : S) : Prop :=
  match r with
  | .nx env cs => Fw g H F c cs fun H' F' c' => ∀ σ, RE g F' c' σ env → Dn.nx σ H'
  | .rt d cs => Fw g H F c cs fun H' F' c' => ∀ v, RV g F' c' v d → Dn.rt v H'
  | .bk env cs => Fw g H F c cs fun H' F' c' => ∀ σ, RE g F' c' σ env → Dn.bk σ H'
  | .ct env cs => Fw g H F c cs fun H' F' c' => ∀ σ, RE g F' c' σ env → Dn.ct σ H'
  | .exc n fs env cs => Fw g H F c cs fun H' F' c' => ∀ σ C dx vs, RE g F' c' σ env → g.mg n = some (.ref C) → XdA H' dx vs → RFs g F' c' vs fs → W (.ref C) dx σ H'
  | .stuck => False

/-! ### the judgements: a piece of the text does what the plain function says -/
def Xp (X : Cx) (W : WX) (e : Expr) (m : ME) : Prop := ∃ t, PE X e t ∧ ∀ σ env H F c cs Q, RE (gd X) F c σ env → Ih (gd X) H F c cs → PoE (gd X) (fun a b => W a b σ) H F c (m env cs) Q → t σ H Q
def Xt1 (X : Cx) (W : WX) (e : Expr) (m : ME) : Prop := ∃ t, PT X e t ∧ ∀ σ env H F c cs Q, RE (gd X) F c σ env → Ih (gd X) H F c cs → PoT (gd X) (fun a b => W a b σ) H F c (m env cs) Q → t σ H Q
def Xw (X : Cx) (W : WX) (e : Expr) (m : ME) : Prop := ∃ t, PW X e t ∧ ∀ σ env H F c cs Q, RE (gd X) F c σ env → Ih (gd X) H F c cs → PoT (gd X) (fun a b => W a b σ) H F c (m env cs) Q → t σ H Q
def Xa (X : Cx) (W : WX) (es : List Expr) (m : MA) : Prop := ∃ t, PA X es t ∧ ∀ σ env H F c cs Q, RE (gd X) F c σ env → Ih (gd X) H F c cs → PoA (gd X) (fun a b => W a b σ) H F c (m env cs) Q → t σ H Q
def Sm (X : Cx) (W : WX) (st : Stmt) (m : MS) : Prop := ∃ t, PS X st t ∧ ∀ σ env H F c cs Dn, RE (gd X) F c σ env → Ih (gd X) H F c cs → PoS (gd X) W Dn H F c (m env cs) → t Dn σ H
def Sms (X : Cx) (W : WX) (st : List Stmt) (m : MS) : Prop := ∃ t, PSs X st t ∧ ∀ σ env H F c cs Dn, RE (gd X) F c σ env → Ih (gd X) H F c cs → PoS (gd X) W Dn H F c (m env cs) → t Dn σ H

theorem Fw.from {g : Gd} {H F H1 F1 : Hp} {c c1 : List Addr} {cs : Cells} {κ κ' : Q3} (x : Xt H F c H1 F1 c1) (h : Fw g H F c cs κ) (k : ∀ H' F' c', κ H' F' c' → κ' H' F' c') : Fw g H1 F1 c1 cs κ' :=
  fun H' F' c' y I => k _ _ _ (h H' F' c' (x.trans y) I)
theorem ExK.from {g : Gd} {W : XK} {H F H1 F1 : Hp} {c c1 : List Addr} {n : Str} {fs : List (Str × D)} {cs : Cells} (x : Xt H F c H1 F1 c1) (h : ExK g W H F c n fs cs) : ExK g W H1 F1 c1 n fs cs := Fw.from x h fun _ _ _ k => k
theorem PoE.from {g : Gd} {W : XK} {H F H1 F1 : Hp} {c c1 : List Addr} {r : R} {Q : VK} (x : Xt H F c H1 F1 c1) (h : PoE g W H F c r Q) : PoE g W H1 F1 c1 r Q := by
  cases r with
  | ok d cs => exact Fw.from x h fun _ _ _ k => k
  | exc n fs cs => exact ExK.from x h
  | stuck => exact h
theorem PoT.from {g : Gd} {W : XK} {H F H1 F1 : Hp} {c c1 : List Addr} {r : R} {Q : Bool → Hp → Prop} (x : Xt H F c H1 F1 c1) (h : PoT g W H F c r Q) : PoT g W H1 F1 c1 r Q := by
  cases r with
  | ok d cs => cases d <;> first | exact h | exact Fw.from x h fun _ _ _ k => k
  | exc n fs cs => exact ExK.from x h
  | stuck => exact h
theorem PoA.from {g : Gd} {W : XK} {H F H1 F1 : Hp} {c c1 : List Addr} {r : RA} {Q : List V → Hp → Prop} (x : Xt H F c H1 F1 c1) (h : PoA g W H F c r Q) : PoA g W H1 F1 c1 r Q := by
  cases r with
  | ok d cs => exact Fw.from x h fun _ _ _ k => k
  | exc n fs cs => exact ExK.from x h
  | stuck => exact h
theorem PoS.from {g : Gd} {W : WX} {Dn : Ends} {H F H1 F1 : Hp} {c c1 : List Addr} {r : S} (x : Xt H F c H1 F1 c1) (h : PoS g W Dn H F c r) : PoS g W Dn H1 F1 c1 r := by
  cases r <;> first | exact h | exact Fw.from x h fun _ _ _ k => k

/-- the bind: what is wanted of the whole, from what the first part gives -/
theorem PoE.cut {g : Gd} {W : XK} {H F : Hp} {c : List Addr} {r : R} {k : D → Cells → R} {Q : VK} (h : PoE g W H F c (r.bind k) Q) :
    ∀ Q' : VK, (∀ d cs, r = .ok d cs → ∀ H1 F1 c1 v, Xt H F c H1 F1 c1 → Ih g H1 F1 c1 cs → RV g F1 c1 v d → PoE g W H1 F1 c1 (k d cs) Q → Q' v H1) → PoE g W H F c r Q' := by
  intro Q' hk
  cases r with
  | ok d cs => exact fun H1 F1 c1 x I v rv => hk d cs rfl H1 F1 c1 v x I rv (PoE.from x h)
  | exc n fs cs => exact h
  | stuck => exact h
theorem PoE.here {g : Gd} {W : XK} {H F : Hp} {c : List Addr} {cs : Cells} {d : D} {Q : VK} {v : V} (I : Ih g H F c cs) (r : RV g F c v d) (h : PoE g W H F c (.ok d cs) Q) : Q v H := h H F c (Xt.refl H F c) I v r
theorem PoT.here {g : Gd} {W : XK} {H F : Hp} {c : List Addr} {cs : Cells} {b : Bool} {Q : Bool → Hp → Prop} (I : Ih g H F c cs) (h : PoT g W H F c (.ok (.bl b) cs) Q) : Q b H := h H F c (Xt.refl H F c) I
end L3

namespace L3
open PySem L2 PyProof.Rows

/-! ### argument lists, displays -/
section
variable {X : Cx} {e : Expr} {es : List Expr} {te : TE} {t : TA} {pos : Pos}
theorem pa_nil : PA X [] tNil := ⟨fun _ _ _ _ H Q I h => Calls.spliced_nil ⟨[], H, I, .nil, h⟩⟩
theorem pa_cons (ha : PE X e te) (hr : PA X es t) (hs : starEach (e :: es) X.env = (false, eval e X.env) :: starEach es X.env := by rfl) : PA X (e :: es) (tCons te t) := by
  constructor
  intro pos pins s σ H Q I h
  rw [hs]
  show wpAny _ _ (spliced ((false, eval e X.env) :: backTo pos (starEach es X.env))) _ _ s
  refine Calls.spliced_cons (thn (ha.run pins s σ H _ I h) fun u s1 z => ?_)
  obtain ⟨x, H1, I1, r1, q1⟩ := z
  refine thk (hr.run pos pins s1 σ H1 _ I1 q1) fun us s2 hk z => ?_
  obtain ⟨xs, H2, I2, r2, q2⟩ := z
  exact ⟨x :: xs, H2, I2, .cons (r1.mono hk) r2, q2⟩
theorem seq_new {k : Nat} {h : Heap} {c : Value} {us : List Value} {d : Option Addr} {n : Nat} (g : gvs k us) : ∀ o its m, (h.push { cls := c, dict := d, data := .seq us.toArray n }).get? h.objs.size = some o → o.data = .seq its m → gvs k its.toList := by
  intro o its m e q
  rw [Heap.get?_push_size _ rfl] at e; cases e
  cases q
  simpa using g
theorem pe_tup {x1} (h : PA X es t) : PE X (.Tuple es x1 pos) (tTup t) := by
  constructor
  intro pins s σ H Q I hq
  refine wpAny_Tuple_spliced (thn (h.run pos pins s σ H _ I hq) fun us s1 z => ?_)
  obtain ⟨xs, H1, I1, r, z, q⟩ := z
  exact ⟨by rw [← r.length]; exact z, .ref s1.heap.objs.size, _, I1.laid (o := .tup xs) (t' := s1.toks) (fun b u e => Heap.get?_push_of_some _ e) (Nat.le_refl _) ⟨z, us, r.1, ⟨_, Heap.get?_push_size _ rfl, rfl, _, rfl⟩⟩ (seq_new r.2) (Nat.le_refl _), .ref, q _ (I1.fresh (Nat.le_refl _))⟩
theorem pe_lst (h : PA X es t) : PE X (.List es pos) (tLst t) := by
  constructor
  intro pins s σ H Q I hq
  refine wpAny_List_spliced (thn (h.run pos pins s σ H _ I hq) fun us s1 z => ?_)
  obtain ⟨xs, H1, I1, r, z, q⟩ := z
  exact ⟨by rw [← r.length]; exact z, .ref s1.heap.objs.size, _, I1.laid (o := .lst xs) (t' := s1.toks) (fun b u e => Heap.get?_push_of_some _ e) (Nat.le_refl _) ⟨z, us, 0, r.1, Heap.get?_push_size _ rfl⟩ (seq_new r.2) (Nat.le_refl _), .ref, q _ (I1.fresh (Nat.le_refl _))⟩
end

/-! ### whole numbers -/
section
variable {X : Cx}
theorem op_add : OpR X (binaryOp .Add) (rI0 fun i j => .int (i + j)) := opI0 fun _ _ _ _ _ _ _ q => add_int q
theorem op_sub : OpR X (binaryOp .Sub) (rI0 fun i j => .int (i - j)) := opI0 fun _ _ _ _ _ _ _ q => sub_int q
theorem op_fdivW : OpR X (binaryOp .FloorDiv) (rI CDivW fun i j => .int (i / j)) := opI fun i j _ _ _ _ _ hc q => by
  have h1 : (0 : Int) < j := hc.1
  exact floordiv_int (by omega) (by rw [Int.fdiv_eq_ediv_of_nonneg i (by omega)]; exact q) (.inl (PyProof.noPylong_of_log2 hc.2))
theorem op_mod : OpR X (binaryOp .Mod) (rI (fun _ j => 0 < j) fun i j => .int (i % j)) := opI fun i j _ _ _ _ _ hc q => by
  have h1 : (0 : Int) < j := hc
  exact mod_int' (by omega) (by rw [Int.fmod_eq_emod_of_nonneg i (by omega)]; exact q)
theorem op_pow : OpR X (binaryOp .Pow) (rI CPow fun i j => .int (i ^ j.toNat)) := opI fun _ _ _ _ _ _ _ hc q => pow_int_small hc.1 hc.2.1 hc.2.2 q
theorem op_mulW : OpR X (binaryOp .Mult) (rI CMulW fun i j => .int (i * j)) := opI fun _ _ _ _ _ _ _ hc q => mul_int q hc.ok
theorem un_neg : UnR X (unaryOp .USub) (rU fun i => .int (-i)) := unI fun _ _ _ _ _ q => neg_int q
theorem op_lt : OpR X (compareOp .Lt) (rI0 fun i j => .bl (decide (i < j))) := opB0 fun _ _ _ _ _ _ _ q => lt_int q
theorem op_le : OpR X (compareOp .LtE) (rI0 fun i j => .bl (decide (i ≤ j))) := opB0 fun _ _ _ _ _ _ _ q => le_int q
theorem op_gt : OpR X (compareOp .Gt) (rI0 fun i j => .bl (decide (j < i))) := opB0 fun _ _ _ _ _ _ _ q => gt_int q
theorem op_ge : OpR X (compareOp .GtE) (rI0 fun i j => .bl (decide (j ≤ i))) := opB0 fun _ _ _ _ _ _ _ q => ge_int q
theorem OpR.or {f : Value → Value → Sem Value} {r r' : R2} (h : OpR X f r) (h' : OpR X f r') : OpR X f (fun x y H Q => r x y H Q ∨ r' x y H Q) :=
  fun pins s σ H x y v u Q I rx ry q => q.elim (h pins s σ H x y v u Q I rx ry) (h' pins s σ H x y v u Q I rx ry)

/-! ### an operation that changes nothing, by what the hand layer says of it and where its text's token comes from -/
def PureR (r : R2) : Prop := ∀ x y H Q, r x y H Q → r x y H (fun v H' => H' = H ∧ Q v H')
theorem OpR.lift {f : Value → Value → Sem Value} {r : R2} (h : L2.OpR X f r) (hr : PureR r)
    (g : ∀ (pins : List (Addr × Obj)) (s : Shared) (σ : L2.St) (H : Hp) (x y : V) (v u : Value) (Q : VK), Inv X pins σ H s → RelV s.toks x v → RelV s.toks y u → r x y H Q → wpAny (model X.prog X.w) X.A (f v u) (fun w s' => gv s'.toks w ∧ s.toks ≤ s'.toks ∧ ∀ b o, s.heap.get? b = some o → s'.heap.get? b = some o) (fun _ _ => True) s) : OpR X f r := by
  intro pins s σ H x y v u Q I rx ry q
  refine wpAny_mono (wpAny_and (h pins s σ H x y v u _ I.i rx.1 ry.1 (hr x y H Q q)) (g pins s σ H x y v u Q I rx ry q)) (fun w s' z => ?_) fun _ _ z => z.1
  obtain ⟨⟨v', H', J, rv, rfl, q'⟩, gw, hk, kp⟩ := z
  have K := I.kept (h' := s'.heap) (t' := s'.toks) kp hk
  exact ⟨v', H', ⟨J, K.f, K.g, Nat.lt_of_lt_of_le I.p hk⟩, ⟨rv, gw⟩, q'⟩
/-- where a made value's token comes from -/
def mOk (k : Nat) : Made → Prop
  | .val v => gv k v
  | .str x => x.length ≤ sizeLine
  | .bytes b => b.size ≤ sizeLine
  | .either a b => mOk k a ∧ mOk k b
  | _ => True
theorem post_ok {s : Shared} (p : 0 < s.toks) : ∀ {m : Made}, mOk s.toks m → m.post (fun w s' => gv s'.toks w ∧ s.toks ≤ s'.toks ∧ ∀ b o, s.heap.get? b = some o → s'.heap.get? b = some o) s
  | .val v, h => ⟨h, Nat.le_refl _, fun _ _ e => e⟩
  | .int i, _ => ⟨gv_int, Nat.le_succ _, fun _ _ e => e⟩
  | .str x, h => ⟨h, gv_str p (Nat.lt_succ_self _), Nat.le_succ _, fun _ _ e => e⟩
  | .float b, _ => ⟨(fun _ _ z => nomatch z), Nat.le_succ _, fun _ _ e => e⟩
  | .bytes b, h => ⟨h, (fun _ _ z => nomatch z), Nat.le_succ _, fun _ _ e => e⟩
  | .either a b, h => ⟨post_ok p h.1, post_ok p h.2⟩
theorem op_add_str : OpR X (binaryOp .Add) (fun x y H Q => ∃ i j, x = .str i ∧ y = .str j ∧ i.length + j.length ≤ sizeLine ∧ Q (.str (i ++ j)) H) := by
  refine OpR.lift L2.op_add_str (fun x y H Q ⟨i, j, a, b, c, q⟩ => ⟨i, j, a, b, c, rfl, q⟩) ?_
  rintro pins s σ H x y v u Q I ⟨rx, gx⟩ ⟨ry, gy⟩ ⟨i, j, rfl, rfl, hz, q⟩
  obtain ⟨t, rfl⟩ := rx
  obtain ⟨t', rfl⟩ := ry
  refine PySem.P.add_str (post_ok I.p ?_)
  split
  · exact gy
  · split
    · exact gx
    · show (i ++ j).length ≤ sizeLine
      rw [PySem.Str.length_append]; exact hz

/-! ### lists and tuples, joined -/
theorem Inv.lstM {pins : List (Addr × Obj)} {σ : L2.St} {H : Hp} {s : Shared} {l : Addr} {xs : List V} (I : Inv X pins σ H s) (hH : H l = some (.lst xs)) : xs.length ≤ sizeLine ∧ ∃ (its : List Value) (n : Nat), Vals s.toks xs its ∧ xs.length = its.length ∧ s.heap.get? l = some { cls := .type "list", data := .seq its.toArray n } := by
  obtain ⟨z, its, n, r, hl, e⟩ := I.i.lstM hH
  exact ⟨z, its, n, ⟨r, by simpa using I.g l _ hH _ its.toArray n e rfl⟩, hl, e⟩
theorem Inv.lnew {pins : List (Addr × Obj)} {σ : L2.St} {H : Hp} {s : Shared} {ys : List V} {its : List Value} {t' : Nat} (I : Inv X pins σ H s) (hv : Vals s.toks ys its) (hz : ys.length ≤ sizeLine) (ht : s.toks ≤ t') :
    Inv X pins σ (upd H s.heap.objs.size (.lst ys)) { s with heap := s.heap.push { cls := .type "list", data := .seq its.toArray }, toks := t' } :=
  I.laid (fun _ _ q => Heap.get?_push_of_some _ q) (Nat.le_refl _) ⟨hz, its, 0, hv.1, Heap.get?_push_size _ rfl⟩ (seq_new (hv.2.mono ht)) ht
theorem Inv.lset {pins : List (Addr × Obj)} {σ : L2.St} {H : Hp} {s : Shared} {l : Addr} {xs ys : List V} {its its' : List Value} {n : Nat} {f : Array Value → Array Value} {t' : Nat} (I : Inv X pins σ H s) (hH : H l = some (.lst xs))
    (e : s.heap.get? l = some { cls := .type "list", data := .seq its.toArray n }) (hf : f its.toArray = its'.toArray) (hv : Vals t' ys its') (hz : ys.length ≤ sizeLine) (ht : s.toks ≤ t') :
    Inv X pins σ (upd H l (.lst ys)) { s with heap := s.heap.update l (Obj.mapSeq f), toks := t' } := by
  have q := PySem.IsL.update e f
  rw [hf] at q
  refine I.write (x := l) (e := l) (by rw [hH]; exact trivial) (.inl rfl) (fun b' u hb hu => (Heap.get?_update_other s.heap (Obj.mapSeq f) (Ne.symm hb)).trans hu) ⟨_, q⟩ ⟨hz, its', _, hv.1, q⟩ (fun o its m z y => ?_) (fun z => absurd rfl z) ht
  rw [q] at z; cases z
  cases y
  simpa using hv.2
theorem op_cat : OpR X (binaryOp .Add) rCat := by
  rintro pins s σ H x y v u Q I ⟨rx, _⟩ ⟨ry, _⟩ ⟨l, b, xs, zs, rfl, rfl, hH, hB, hz, q⟩
  cases rx
  cases ry
  obtain ⟨z, its, n, r, hl, e⟩ := I.lstM hH
  obtain ⟨z2, its2, n2, r2, hl2, e2⟩ := I.lstM hB
  refine PySem.P.add_list e e2 ?_ (by rw [List.size_toArray, List.size_toArray]; omega)
  rw [show its.toArray ++ its2.toArray = (its ++ its2).toArray by simp]
  exact ⟨.ref _, _, I.lnew (t' := s.toks) ⟨r.1.append r2.1, r.2.app r2.2⟩ (by rw [List.length_append]; omega) (Nat.le_refl _), .ref, q _ (I.fresh (Nat.le_refl _))⟩
def rCatA (K : PySem.W.Frag) : R2 := fun x y H Q => ∃ a b xs ys, x = .ref a ∧ y = .ref b ∧ SqT K H a xs ∧ SqT K H b ys ∧ xs.length + ys.length ≤ sizeLine ∧
  (xs = [] → Q (.ref b) H) ∧ (xs ≠ [] → ys = [] → Q (.ref a) H) ∧ (xs ≠ [] → ys ≠ [] → ∀ p, H p = none → Q (.ref p) (upd H p (.tup (xs ++ ys))))
theorem op_catA : OpR X (binaryOp .Add) (rCatA X.K) := by
  rintro pins s σ H x y v u Q I ⟨rx, _⟩ ⟨ry, _⟩ ⟨a, b, xs, ys, rfl, rfl, ha, hb, hz, q0, q1, q2⟩
  cases rx
  cases ry
  obtain ⟨its, r1, p1, _⟩ := I.tuple ha
  obtain ⟨its2, r2, p2, _⟩ := I.tuple hb
  by_cases hx : xs = []
  · subst hx
    cases r1.nil_ex
    exact cat_tup0 p1 p2 ⟨.ref b, H, I, .ref, q0 rfl⟩
  · refine HT.cat_tup p1 p2 (fun z => hx (r1.1.nil_iff.mp z)) (fun z => ⟨.ref a, H, I, .ref, q1 hx (r2.1.nil_iff.mp z)⟩) (fun z => ?_) (by rw [← r1.length, ← r2.length]; exact hz)
    refine ⟨.ref s.heap.objs.size, _, I.laid (t' := s.toks) (o := .tup (xs ++ ys)) (fun b ob q => Heap.get?_push_of_some _ q) (Nat.le_refl _) ⟨by rw [List.length_append]; exact hz, _, r1.1.append r2.1, IsTup.new _ _⟩ ?_ (Nat.le_refl _), .ref, q2 hx (fun w => z (r2.1.nil_iff.mpr w)) _ (I.fresh (Nat.le_refl _))⟩
    exact seq_new (r1.2.app r2.2)
end
end L3

namespace L3
open PySem L2

/-! ### names, constants -/
def eVar (i : Nat) : ME := fun env cs => match env[i]? with
  | some (some d) => .ok d cs
  | _ => .stuck
def eC (d : D) : ME := fun _ cs => .ok d cs

section
variable {X : Cx} {W : WX} {pos : Pos}
theorem xp_var {i : Nat} {x : Str} (hN : X.N[i]? = some x) (hv : Vis X.env.scope x) (hd : (x == ("__debug__" : Str)) = false := by decide) (hcd : (x == ("__classdict__" : Str)) = false := by decide) : Xp X W (.Name x pos) (eVar i) := by
  refine ⟨_, pe_var hN hv hd hcd, fun σ env H F c cs Q re I po => ?_⟩
  unfold eVar at po
  cases e : env[i]? with
  | none => rw [e] at po; exact po.elim
  | some o =>
    cases o with
    | none => rw [e] at po; exact po.elim
    | some d =>
      rw [e] at po
      obtain ⟨v, hv, rv⟩ := re.2 i d e
      exact ⟨v, hv, PoE.here I rv po⟩
theorem xp_int {i : Int} {j} : Xp X W (.Constant (.int i) j pos) (eC (.int i)) := ⟨_, pe_int, fun _ _ _ _ _ _ _ _ I po => PoE.here I (.int i) po⟩
theorem xp_bl {b : Bool} {j} : Xp X W (.Constant (.bool b) j pos) (eC (.bl b)) := ⟨_, pe_bl, fun _ _ _ _ _ _ _ _ I po => PoE.here I (.bl b) po⟩
theorem xp_non {j} : Xp X W (.Constant .none j pos) (eC .non) := ⟨_, pe_non, fun _ _ _ _ _ _ _ _ I po => PoE.here I .non po⟩
theorem xp_str {x : Str} {l : List Nat} {j} (h : x = ⟨l.toArray⟩) : Xp X W (.Constant (.str x) j pos) (eC (.str l)) := by
  subst h
  exact ⟨_, pe_str, fun _ _ _ _ _ _ _ _ I po => PoE.here I (.str l) po⟩
/-- a module's constant (no text) -/
theorem xp_glob {x : Str} {u : Value} {v : V} {d : D} (hg : Gl X x) (hm : X.mg x = some u) (r : L2.RelV v u) (ns : ∀ z, v ≠ .str z) (rv : ∀ g F c, RV g F c v d) (hd : (x == ("__debug__" : Str)) = false := by decide) : Xp X W (.Name x pos) (eC d) :=
  ⟨_, pe_glob hg hm r ns hd, fun _ _ _ _ _ _ _ _ I po => PoE.here I (rv _ _ _) po⟩
theorem xp_globI {x : Str} {t : Tok} {i : Int} (hg : Gl X x) (hm : X.mg x = some (.int i t)) (hd : (x == ("__debug__" : Str)) = false := by decide) : Xp X W (.Name x pos) (eC (.int i)) :=
  xp_glob hg hm (v := .int i) ⟨_, rfl⟩ (fun _ z => nomatch z) (fun _ _ _ => .int i) hd
end

/-! ### operations on values -/
def op2 (f : Cells → D → D → R) (a b : ME) : ME := fun env cs => (a env cs).bind fun x cs1 => (b env cs1).bind fun y cs2 => f cs2 x y
def op1 (f : Cells → D → R) (a : ME) : ME := fun env cs => (a env cs).bind fun x cs1 => f cs1 x
/-- an operation's rule does what f says -/
def O2 (g : Gd) (r : R2) (f : Cells → D → D → R) : Prop := ∀ (W : XK) (H F : Hp) (c : List Addr) (cs : Cells) (x y : V) (d e : D) (Q : VK), Ih g H F c cs → RV g F c x d → RV g F c y e → PoE g W H F c (f cs d e) Q → r x y H Q
def O1 (g : Gd) (r : V → Hp → VK → Prop) (f : Cells → D → R) : Prop := ∀ (W : XK) (H F : Hp) (c : List Addr) (cs : Cells) (x : V) (d : D) (Q : VK), Ih g H F c cs → RV g F c x d → PoE g W H F c (f cs d) Q → r x H Q
theorem O2.or {g : Gd} {r r' : R2} {f f' h : Cells → D → D → R} (a : O2 g r f) (b : O2 g r' f') (e : ∀ cs d e, h cs d e = f cs d e ∨ h cs d e = f' cs d e) : O2 g (fun x y H Q => r x y H Q ∨ r' x y H Q) h :=
  fun W H F c cs x y d e' Q I rx ry po => by
    rcases e cs d e' with q | q
    · rw [q] at po; exact .inl (a W H F c cs x y d e' Q I rx ry po)
    · rw [q] at po; exact .inr (b W H F c cs x y d e' Q I rx ry po)

section
variable {X : Cx} {W : WX} {pos : Pos} {a b c : Expr} {ma mb mc : ME}
/-- two parts, then what f says -/
theorem sim2 {ta tb : TE} {r : R2} {f : Cells → D → D → R} {σ : L2.St} {env : Env} {H F : Hp} {c : List Addr} {cs : Cells} {Q : VK}
    (ha : ∀ σ env H F c cs Q, RE (gd X) F c σ env → Ih (gd X) H F c cs → PoE (gd X) (fun a b => W a b σ) H F c (ma env cs) Q → ta σ H Q)
    (hb : ∀ σ env H F c cs Q, RE (gd X) F c σ env → Ih (gd X) H F c cs → PoE (gd X) (fun a b => W a b σ) H F c (mb env cs) Q → tb σ H Q)
    (ho : O2 (gd X) r f) (re : RE (gd X) F c σ env) (I : Ih (gd X) H F c cs) (po : PoE (gd X) (fun a b => W a b σ) H F c (op2 f ma mb env cs) Q) : tOp r ta tb σ H Q := by
  refine ha σ env H F c cs _ re I (PoE.cut po _ fun d cs1 _ H1 F1 c1 v x1 I1 rv po1 => ?_)
  refine hb σ env H1 F1 c1 cs1 _ (re.mono x1.le) I1 (PoE.cut po1 _ fun e cs2 _ H2 F2 c2 u x2 I2 ru po2 => ?_)
  exact ho _ H2 F2 c2 cs2 v u d e Q I2 (rv.mono x2.le) ru po2
theorem xp_op {op : Operator} {r : R2} {f : Cells → D → D → R} (h : OpR X (binaryOp op) r) (o : O2 (gd X) r f) (ha : Xp X W a ma) (hb : Xp X W b mb) : Xp X W (.BinOp a op b pos) (op2 f ma mb) := by
  obtain ⟨ta, pa, sa⟩ := ha
  obtain ⟨tb, pb, sb⟩ := hb
  exact ⟨_, pe_op h pa pb, fun σ env H F c cs Q re I po => sim2 sa sb o re I po⟩
theorem xp_cmp {op : CmpOp} {r : R2} {f : Cells → D → D → R} (h : OpR X (compareOp op) r) (o : O2 (gd X) r f) (ha : Xp X W a ma) (hb : Xp X W b mb) (hm : behindInMarks op b = false) : Xp X W (.Compare a [op] [b] pos) (op2 f ma mb) := by
  obtain ⟨ta, pa, sa⟩ := ha
  obtain ⟨tb, pb, sb⟩ := hb
  exact ⟨_, pe_cmpR h pa pb hm, fun σ env H F c cs Q re I po => sim2 sa sb o re I po⟩
theorem xp_un {op : UnaryOp} {r : V → Hp → VK → Prop} {f : Cells → D → R} (h : UnR X (unaryOp op) r) (o : O1 (gd X) r f) (ha : Xp X W a ma) : Xp X W (.UnaryOp op a pos) (op1 f ma) := by
  obtain ⟨ta, pa, sa⟩ := ha
  refine ⟨_, pe_un h pa, fun σ env H F c cs Q re I po => ?_⟩
  exact sa σ env H F c cs _ re I (PoE.cut po _ fun d cs1 _ H1 F1 c1 v x1 I1 rv po1 => o _ H1 F1 c1 cs1 v d Q I1 rv po1)
/-- a value that is a truth, as a test -/
theorem xt_val (ha : Xp X W a ma) (he : ∀ whole, isTrue a X.env whole = (do let v ← whole; standAt a.pos; holding [v] (truthy v)) := by intro _; rfl) : Xt1 X W a ma := by
  obtain ⟨ta, pa, sa⟩ := ha
  refine ⟨_, pt_val pa he, fun σ env H F c cs Q re I po => ?_⟩
  refine sa σ env H F c cs _ re I ?_
  cases e : ma env cs with
  | ok d cs1 =>
    rw [e] at po
    cases d with
    | bl b => exact fun H' F' c' x I' v rv => by cases rv; exact ⟨b, rfl, po H' F' c' x I'⟩
    | _ => exact po.elim
  | exc n fs cs1 => rw [e] at po; exact po
  | stuck => rw [e] at po; exact po.elim
theorem Xw.t (h : Xw X W a ma) : Xt1 X W a ma := by
  obtain ⟨t, p, s⟩ := h
  exact ⟨t, p.pt, s⟩

/-! ### and, or, not, if .. else -/
/-- two ways on, by a truth -/
def brD (x : D) (cs : Cells) (a b : Cells → R) : R := match x with
  | .bl true => a cs
  | .bl false => b cs
  | _ => .stuck
@[simp] theorem brD_true (cs : Cells) (a b : Cells → R) : brD (.bl true) cs a b = a cs := rfl
@[simp] theorem brD_false (cs : Cells) (a b : Cells → R) : brD (.bl false) cs a b = b cs := rfl
def eAnd (a b : ME) : ME := fun env cs => (a env cs).bind fun x cs1 => brD x cs1 (b env) fun cs2 => .ok (.bl false) cs2
def eOr (a b : ME) : ME := fun env cs => (a env cs).bind fun x cs1 => brD x cs1 (fun cs2 => .ok (.bl true) cs2) (b env)
def notD (cs : Cells) : D → R
  | .bl b => .ok (.bl !b) cs
  | _ => .stuck
def eNot (a : ME) : ME := op1 notD a
def eIf (t a b : ME) : ME := fun env cs => (t env cs).bind fun x cs1 => brD x cs1 (a env) (b env)

theorem PoE.br {g : Gd} {W : XK} {H F : Hp} {c : List Addr} {r : R} {fa fb : Cells → R} {Q : VK} (h : PoE g W H F c (r.bind fun x cs1 => brD x cs1 fa fb) Q) :
    ∀ Q' : Bool → Hp → Prop, (∀ b cs, r = .ok (.bl b) cs → ∀ H1 F1 c1, Xt H F c H1 F1 c1 → Ih g H1 F1 c1 cs → PoE g W H1 F1 c1 (if b = true then fa cs else fb cs) Q → Q' b H1) → PoT g W H F c r Q' := by
  intro Q' hq
  cases r with
  | ok d cs =>
    cases d with
    | bl b => exact fun H1 F1 c1 x I => hq b cs rfl H1 F1 c1 x I (by cases b <;> exact PoE.from x h)
    | _ => exact h.elim
  | exc n fs cs => exact h
  | stuck => exact h.elim
theorem PoT.br {g : Gd} {W : XK} {H F : Hp} {c : List Addr} {r : R} {fa fb : Cells → R} {Q : Bool → Hp → Prop} (h : PoT g W H F c (r.bind fun x cs1 => brD x cs1 fa fb) Q) :
    ∀ Q' : Bool → Hp → Prop, (∀ b cs, r = .ok (.bl b) cs → ∀ H1 F1 c1, Xt H F c H1 F1 c1 → Ih g H1 F1 c1 cs → PoT g W H1 F1 c1 (if b = true then fa cs else fb cs) Q → Q' b H1) → PoT g W H F c r Q' := by
  intro Q' hq
  cases r with
  | ok d cs =>
    cases d with
    | bl b => exact fun H1 F1 c1 x I => hq b cs rfl H1 F1 c1 x I (by cases b <;> exact PoT.from x h)
    | _ => exact h.elim
  | exc n fs cs => exact h
  | stuck => exact h.elim
theorem PoT.map {g : Gd} {W : XK} {H F : Hp} {c : List Addr} {r : R} {Q : Bool → Hp → Prop} (h : PoT g W H F c (r.bind fun x cs1 => notD cs1 x) Q) : PoT g W H F c r fun b H1 => Q (!b) H1 := by
  cases r with
  | ok d cs =>
    cases d with
    | bl b => exact h
    | _ => exact h.elim
  | exc n fs cs => exact h
  | stuck => exact h.elim

theorem xp_if (ht : Xt1 X W c mc) (ha : Xp X W a ma) (hb : Xp X W b mb) : Xp X W (.IfExp c a b pos) (eIf mc ma mb) := by
  obtain ⟨tc, pc, sc⟩ := ht
  obtain ⟨ta, pa, sa⟩ := ha
  obtain ⟨tb, pb, sb⟩ := hb
  refine ⟨_, pe_ifExp pc pa pb, fun σ env H F c cs Q re I po => ?_⟩
  refine sc σ env H F c cs _ re I (PoE.br po _ fun b cs1 _ H1 F1 c1 x I1 po1 => ?_)
  cases b with
  | true => exact iteT (sa σ env H1 F1 c1 cs1 Q (re.mono x.le) I1 po1)
  | false => exact iteF (sb σ env H1 F1 c1 cs1 Q (re.mono x.le) I1 po1)

/-- .. of truths, as values -/
theorem xp_and {rest : List Expr} {p2 : Pos} (ha : Xp X W a ma) (hb : Xp X W (.BoolOp .And (b :: rest) pos) mb) : Xp X W (.BoolOp .And (a :: b :: rest) pos) (eAnd ma mb) := by
  obtain ⟨ta, pa, sa⟩ := ha
  obtain ⟨tb, pb, sb⟩ := hb
  refine ⟨_, pe_and pa pb, fun σ env H F c cs Q re I po => ?_⟩
  refine sa σ env H F c cs _ re I (PoE.cut po _ fun d cs1 _ H1 F1 c1 v x1 I1 rv po1 => ?_)
  cases d with
  | bl k =>
    cases rv
    cases k with
    | true => exact ⟨true, rfl, iteT (sb σ env H1 F1 c1 cs1 Q (re.mono x1.le) I1 po1)⟩
    | false => exact ⟨false, rfl, iteF (PoE.here I1 (.bl false) po1)⟩
  | _ => exact po1.elim
theorem xp_or {rest : List Expr} {p2 : Pos} (ha : Xp X W a ma) (hb : Xp X W (.BoolOp .Or (b :: rest) pos) mb) : Xp X W (.BoolOp .Or (a :: b :: rest) pos) (eOr ma mb) := by
  obtain ⟨ta, pa, sa⟩ := ha
  obtain ⟨tb, pb, sb⟩ := hb
  refine ⟨_, pe_or pa pb, fun σ env H F c cs Q re I po => ?_⟩
  refine sa σ env H F c cs _ re I (PoE.cut po _ fun d cs1 _ H1 F1 c1 v x1 I1 rv po1 => ?_)
  cases d with
  | bl k =>
    cases rv
    cases k with
    | true => exact ⟨true, rfl, iteT (PoE.here I1 (.bl true) po1)⟩
    | false => exact ⟨false, rfl, iteF (sb σ env H1 F1 c1 cs1 Q (re.mono x1.le) I1 po1)⟩
  | _ => exact po1.elim
theorem xp_one {op : BoolOp} (ha : Xp X W a ma) : Xp X W (.BoolOp op [a] pos) ma := by
  obtain ⟨ta, pa, sa⟩ := ha
  exact ⟨_, pe_one pa, sa⟩
theorem xp_not (ha : Xp X W a ma) : Xp X W (.UnaryOp .Not a pos) (eNot ma) := by
  obtain ⟨ta, pa, sa⟩ := ha
  refine ⟨_, pe_not pa, fun σ env H F c cs Q re I po => ?_⟩
  refine sa σ env H F c cs _ re I (PoE.cut po _ fun d cs1 _ H1 F1 c1 v x1 I1 rv po1 => ?_)
  cases d with
  | bl k => cases rv; exact ⟨k, rfl, PoE.here I1 (.bl !k) po1⟩
  | _ => exact po1.elim
/-- .. as tests -/
theorem xw_and {rest : List Expr} (ha : Xt1 X W a ma) (hb : Xw X W (.BoolOp .And (b :: rest) pos) mb) : Xw X W (.BoolOp .And (a :: b :: rest) pos) (eAnd ma mb) := by
  obtain ⟨ta, pa, sa⟩ := ha
  obtain ⟨tb, pb, sb⟩ := hb
  refine ⟨_, pw_and pa pb, fun σ env H F c cs Q re I po => ?_⟩
  refine sa σ env H F c cs _ re I (PoT.br po _ fun b cs1 _ H1 F1 c1 x I1 po1 => ?_)
  cases b with
  | true => exact iteT (sb σ env H1 F1 c1 cs1 Q (re.mono x.le) I1 po1)
  | false => exact iteF (PoT.here I1 po1)
theorem xw_or {rest : List Expr} (ha : Xt1 X W a ma) (hb : Xw X W (.BoolOp .Or (b :: rest) pos) mb) : Xw X W (.BoolOp .Or (a :: b :: rest) pos) (eOr ma mb) := by
  obtain ⟨ta, pa, sa⟩ := ha
  obtain ⟨tb, pb, sb⟩ := hb
  refine ⟨_, pw_or pa pb, fun σ env H F c cs Q re I po => ?_⟩
  refine sa σ env H F c cs _ re I (PoT.br po _ fun b cs1 _ H1 F1 c1 x I1 po1 => ?_)
  cases b with
  | true => exact iteT (PoT.here I1 po1)
  | false => exact iteF (sb σ env H1 F1 c1 cs1 Q (re.mono x.le) I1 po1)
theorem xw_and1 (ha : Xt1 X W a ma) : Xw X W (.BoolOp .And [a] pos) ma := by
  obtain ⟨ta, pa, sa⟩ := ha
  exact ⟨_, pw_and1 pa, sa⟩
theorem xw_or1 (ha : Xt1 X W a ma) : Xw X W (.BoolOp .Or [a] pos) ma := by
  obtain ⟨ta, pa, sa⟩ := ha
  exact ⟨_, pw_or1 pa, sa⟩
theorem xt_not (ha : Xt1 X W a ma) : Xt1 X W (.UnaryOp .Not a pos) (eNot ma) := by
  obtain ⟨ta, pa, sa⟩ := ha
  refine ⟨_, pt_not pa, fun σ env H F c cs Q re I po => ?_⟩
  exact sa σ env H F c cs _ re I (PoT.map po)
end

/-! ### arguments -/
def aNil : MA := fun _ cs => .ok [] cs
def aCons (a : ME) (r : MA) : MA := fun env cs => match a env cs with
  | .ok d cs1 => (match r env cs1 with
    | .ok ds cs2 => .ok (d :: ds) cs2
    | .exc n fs cs2 => .exc n fs cs2
    | .stuck => .stuck)
  | .exc n fs cs1 => .exc n fs cs1
  | .stuck => .stuck
theorem PoA.cut {g : Gd} {W : XK} {H F : Hp} {c : List Addr} {r : RA} {k : List D → Cells → R} {Q : VK} (h : PoE g W H F c (r.bind k) Q) :
    ∀ Q' : List V → Hp → Prop, (∀ ds cs, r = .ok ds cs → ∀ H1 F1 c1 vs, Xt H F c H1 F1 c1 → Ih g H1 F1 c1 cs → RVs g F1 c1 vs ds → PoE g W H1 F1 c1 (k ds cs) Q → Q' vs H1) → PoA g W H F c r Q' := by
  intro Q' hk
  cases r with
  | ok d cs => exact fun H1 F1 c1 x I v rv => hk d cs rfl H1 F1 c1 v x I rv (PoE.from x h)
  | exc n fs cs => exact h
  | stuck => exact h
section
variable {X : Cx} {W : WX} {pos : Pos} {e : Expr} {es : List Expr} {m : ME} {ms : MA}
theorem xa_nil : Xa X W [] aNil := ⟨_, pa_nil, fun _ _ _ _ _ _ _ _ I po => po _ _ _ (Xt.refl _ _ _) I [] .nil⟩
theorem xa_cons (ha : Xp X W e m) (hr : Xa X W es ms) (hs : starEach (e :: es) X.env = (false, eval e X.env) :: starEach es X.env := by rfl) : Xa X W (e :: es) (aCons m ms) := by
  obtain ⟨ta, pa, sa⟩ := ha
  obtain ⟨tb, pb, sb⟩ := hr
  refine ⟨_, pa_cons pa pb hs, fun σ env H F c cs Q re I po => ?_⟩
  refine sa σ env H F c cs _ re I ?_
  unfold aCons at po
  cases h1 : m env cs with
  | ok d cs1 =>
    rw [h1] at po
    simp only at po
    intro H1 F1 c1 x1 I1 v rv
    refine sb σ env H1 F1 c1 cs1 _ (re.mono x1.le) I1 ?_
    cases h2 : ms env cs1 with
    | ok ds cs2 =>
      rw [h2] at po
      exact fun H2 F2 c2 x2 I2 vs rvs => po H2 F2 c2 (x1.trans x2) I2 (v :: vs) (.cons (rv.mono x2.le) rvs)
    | exc n fs cs2 =>
      rw [h2] at po
      have po : ExK (gd X) (fun a b => W a b σ) H F c n fs cs2 := po
      exact ExK.from x1 po
    | stuck => rw [h2] at po; exact po.elim
  | exc n fs cs1 => rw [h1] at po; exact po
  | stuck => rw [h1] at po; exact po.elim
end

/-! ### lists, tuples -/
/-- a new list: one that stands still, or (md) a cell -/
def mkL (md : Bool) (cs : Cells) (ds : List D) : R := if ds.length ≤ sizeLine then (if md then .ok (.loc cs.length) (cs ++ [.lst ds]) else .ok (.lst ds) cs) else .stuck
def mkT (cs : Cells) (ds : List D) : R := if ds.length ≤ sizeLine then .ok (.tup ds) cs else .stuck
section
variable {g : Gd} {W : XK} {H F : Hp} {c : List Addr} {cs : Cells} {vs : List V} {ds : List D} {Q : VK} {md : Bool}
theorem mkL_len (h : PoE g W H F c (mkL md cs ds) Q) (rv : RVs g F c vs ds) : vs.length ≤ sizeLine := by
  unfold mkL at h
  split at h
  · rw [rv.length]; assumption
  · exact h.elim
theorem mkL_ok (I : Ih g H F c cs) (rv : RVs g F c vs ds) (h : PoE g W H F c (mkL md cs ds) Q) {p : Addr} (hp : H p = none) : Q (.ref p) (upd H p (.lst vs)) := by
  unfold mkL at h
  split at h
  · cases md with
    | true =>
      rw [if_pos rfl] at h
      have x := Xt.push I (o := .lst vs) hp
      refine h _ _ _ x (I.push hp ?_) _ (.loc (by rw [← I.len]; simp))
      exact ⟨I.noF hp, vs, upd_same, rv.mono x.le⟩
    | false =>
      rw [if_neg Bool.false_ne_true] at h
      have x := Xt.still I (o := .lst vs) hp
      exact h _ _ _ x (I.still hp) _ (.lst upd_same (rv.mono x.le))
  · exact h.elim
theorem mkT_len (h : PoE g W H F c (mkT cs ds) Q) (rv : RVs g F c vs ds) : vs.length ≤ sizeLine := by
  unfold mkT at h
  split at h
  · rw [rv.length]; assumption
  · exact h.elim
theorem mkT_ok (I : Ih g H F c cs) (rv : RVs g F c vs ds) (h : PoE g W H F c (mkT cs ds) Q) {p : Addr} (hp : H p = none) : Q (.ref p) (upd H p (.tup vs)) := by
  unfold mkT at h
  split at h
  · have x := Xt.still I (o := .tup vs) hp
    exact h _ _ _ x (I.still hp) _ (.tup (.of upd_same) (rv.mono x.le))
  · exact h.elim
end
def eList (md : Bool) (a : MA) : ME := fun env cs => (a env cs).bind fun ds cs1 => mkL md cs1 ds
def eTup (a : MA) : ME := fun env cs => (a env cs).bind fun ds cs1 => mkT cs1 ds
section
variable {X : Cx} {W : WX} {pos : Pos} {es : List Expr} {ms : MA}
theorem xp_list (md : Bool) (h : Xa X W es ms) : Xp X W (.List es pos) (eList md ms) := by
  obtain ⟨t, p, s⟩ := h
  refine ⟨_, pe_lst p, fun σ env H F c cs Q re I po => ?_⟩
  refine s σ env H F c cs _ re I (PoA.cut po _ fun ds cs1 _ H1 F1 c1 vs x1 I1 rv po1 => ?_)
  exact ⟨mkL_len po1 rv, fun p hp => mkL_ok I1 rv po1 hp⟩
theorem xp_tup {x1} (h : Xa X W es ms) : Xp X W (.Tuple es x1 pos) (eTup ms) := by
  obtain ⟨t, p, s⟩ := h
  refine ⟨_, pe_tup p, fun σ env H F c cs Q re I po => ?_⟩
  refine s σ env H F c cs _ re I (PoA.cut po _ fun ds cs1 _ H1 F1 c1 vs x1 I1 rv po1 => ?_)
  exact ⟨mkT_len po1 rv, fun p hp => mkT_ok I1 rv po1 hp⟩
end
/-- what a list holds -/
def listOf (cs : Cells) : D → Option (List D)
  | .lst l => some l
  | .loc n => match cs[n]? with
    | some (.lst l) => some l
    | some (.fz (.lst l)) => some l
    | _ => none
  | _ => none
/-- .. a list, a tuple, the script -/
def seqOf (cs : Cells) : D → Option (List D)
  | .tup l => some l
  | .scr l => some (l.map .int)
  | d => listOf cs d
theorem rvs_ints {g : Gd} {F : Hp} {c : List Addr} : ∀ ns : List Int, RVs g F c (ns.map V.int) (ns.map D.int)
  | [] => .nil
  | n :: r => .cons (.int n) (rvs_ints r)
section
variable {g : Gd} {H F : Hp} {c : List Addr} {cs : Cells} {v : V} {d : D} {ds : List D}
theorem listOf_at (I : Ih g H F c cs) (r : RV g F c v d) (h : listOf cs d = some ds) : ∃ a vs, v = .ref a ∧ H a = some (.lst vs) ∧ RVs g F c vs ds := by
  cases r with
  | lst h1 h2 =>
    simp only [listOf, Option.some.injEq] at h
    subst h
    exact ⟨_, _, rfl, I.sub _ _ h1, h2⟩
  | @loc n a ha =>
    simp only [listOf] at h
    obtain ⟨x, hx⟩ := I.there ha
    have q := I.cell n a x ha hx
    rw [hx] at h
    cases x with
    | lst l =>
      simp only [Option.some.injEq] at h
      subst h
      obtain ⟨_, vs, h1, h2⟩ := q
      exact ⟨a, vs, rfl, h1, h2⟩
    | fz d =>
      cases d with
      | lst l =>
        simp only [Option.some.injEq] at h
        subst h
        obtain ⟨q1, _⟩ := q
        cases q1 with
        | lst h1 h2 => exact ⟨a, _, rfl, I.sub _ _ h1, h2⟩
      | _ => cases h
    | _ => cases h
  | _ => cases h
theorem SqL.up {K : PySem.W.Frag} (hs : ∀ a o, F a = some o → H a = some o) {a : Addr} {xs : List V} (h : SqL K F a xs) : SqL K H a xs := by
  rcases h with (h | ⟨o, h⟩) | h
  · exact .inl (.inl (hs _ _ h))
  · exact .inl (.inr ⟨o, hs _ _ h⟩)
  · exact .inr h
theorem SqT.up {K : PySem.W.Frag} (hs : ∀ a o, F a = some o → H a = some o) {a : Addr} {xs : List V} (h : SqT K F a xs) : SqT K H a xs := by
  rcases h with (h | ⟨o, h⟩) | h
  · exact .inl (.inl (hs _ _ h))
  · exact .inl (.inr ⟨o, hs _ _ h⟩)
  · exact .inr h
theorem seqOf_at (I : Ih g H F c cs) (r : RV g F c v d) (h : seqOf cs d = some ds) : ∃ a vs, v = .ref a ∧ (SqL g.K H a vs ∨ SqT g.K H a vs) ∧ RVs g F c vs ds := by
  have fl : listOf cs d = some ds → ∃ a vs, v = .ref a ∧ (SqL g.K H a vs ∨ SqT g.K H a vs) ∧ RVs g F c vs ds := fun h => by
    obtain ⟨a, vs, e, h1, h2⟩ := listOf_at I r h
    exact ⟨a, vs, e, .inl (.inl (.inl h1)), h2⟩
  cases d with
  | tup l =>
    simp only [seqOf, Option.some.injEq] at h
    subst h
    cases r with
    | tup h1 h2 => exact ⟨_, _, rfl, .inr (SqT.up I.sub h1), h2⟩
  | scr l =>
    simp only [seqOf, Option.some.injEq] at h
    subst h
    cases r with
    | scr h1 => exact ⟨_, _, rfl, .inl (SqL.up I.sub h1), rvs_ints _⟩
  | _ => exact fl h
end

/-! ### arithmetic, joining -/
def addD (md : Bool) (cs : Cells) (x y : D) : R := match x, y with
  | .int i, .int j => .ok (.int (i + j)) cs
  | .str a, .str b => if a.length + b.length ≤ sizeLine then .ok (.str (a ++ b)) cs else .stuck
  | .tup a, .tup b => mkT cs (a ++ b)
  | x, y => match listOf cs x, listOf cs y with
    | some a, some b => mkL md cs (a ++ b)
    | _, _ => .stuck
def subD (cs : Cells) (x y : D) : R := match x, y with
  | .int i, .int j => .ok (.int (i - j)) cs
  | _, _ => .stuck
abbrev big : Int := 18446744073709551616
def mulD (md : Bool) (cs : Cells) (x y : D) : R := match x, y with
  | .int i, .int j => if (-big < i ∧ i < big) ∨ (-big < j ∧ j < big) then .ok (.int (i * j)) cs else .stuck
  | .str a, .int j => if -1000 ≤ j ∧ j ≤ 1000 ∧ a.length ≤ 1000 then .ok (.str (List.replicate j.toNat a).flatten) cs else .stuck
  | x, .int k => match listOf cs x with
    | some a => if 0 ≤ k ∧ k ≤ 1000 ∧ a.length ≤ 1000 then mkL md cs (List.replicate k.toNat a).flatten else .stuck
    | none => .stuck
  | _, _ => .stuck
def fdivD (cs : Cells) (x y : D) : R := match x, y with
  | .int i, .int j => if 0 < j ∧ j < big then .ok (.int (i / j)) cs else .stuck
  | _, _ => .stuck
def modD (cs : Cells) (x y : D) : R := match x, y with
  | .int i, .int j => if 0 < j then .ok (.int (i % j)) cs else .stuck
  | _, _ => .stuck
def powD (cs : Cells) (x y : D) : R := match x, y with
  | .int i, .int j => if 0 ≤ j ∧ j ≤ 1000000 ∧ -big < i ∧ i < big then .ok (.int (i ^ j.toNat)) cs else .stuck
  | _, _ => .stuck
def negD (cs : Cells) : D → R
  | .int i => .ok (.int (-i)) cs
  | _ => .stuck

/-- a binary rule on two ints -/
theorem o2_ii {g : Gd} {C : Int → Int → Prop} {h : Int → Int → V} {f : Cells → D → D → R} (k : Int → Int → D) (hk : ∀ g F c i j, RV g F c (h i j) (k i j))
    (hf : ∀ cs d e, f cs d e = .stuck ∨ ∃ i j, d = .int i ∧ e = .int j ∧ C i j ∧ f cs d e = .ok (k i j) cs) : O2 g (fun x y H Q => ∃ i j, x = .int i ∧ y = .int j ∧ C i j ∧ Q (h i j) H) f := by
  intro W H F c cs x y d e Q I rx ry po
  rcases hf cs d e with q | ⟨i, j, rfl, rfl, hC, q⟩
  · rw [q] at po; exact po.elim
  · rw [q] at po
    cases rx; cases ry
    exact ⟨i, j, rfl, rfl, hC, PoE.here I (hk _ _ _ i j) po⟩
theorem o2_ii0 {g : Gd} {h : Int → Int → V} {f : Cells → D → D → R} (k : Int → Int → D) (hk : ∀ g F c i j, RV g F c (h i j) (k i j))
    (hf : ∀ cs d e, f cs d e = .stuck ∨ ∃ i j, d = .int i ∧ e = .int j ∧ f cs d e = .ok (k i j) cs) : O2 g (rI0 h) f := by
  intro W H F c cs x y d e Q I rx ry po
  rcases hf cs d e with q | ⟨i, j, rfl, rfl, q⟩
  · rw [q] at po; exact po.elim
  · rw [q] at po
    cases rx; cases ry
    exact ⟨i, j, rfl, rfl, PoE.here I (hk _ _ _ i j) po⟩
section
variable {X : Cx} {W : WX} {pos : Pos} {a b : Expr} {ma mb : ME}
theorem o2_sub {g : Gd} : O2 g (rI0 fun i j => .int (i - j)) subD := by
  refine o2_ii0 (fun i j => .int (i - j)) (fun _ _ _ _ _ => .int _) fun cs d e => ?_
  unfold subD
  split
  · exact .inr ⟨_, _, rfl, rfl, rfl⟩
  · exact .inl rfl
theorem xp_sub (ha : Xp X W a ma) (hb : Xp X W b mb) : Xp X W (.BinOp a .Sub b pos) (op2 subD ma mb) := xp_op op_sub o2_sub ha hb
theorem log2_big {j : Int} (h0 : 0 < j) (h1 : j < big) : j.natAbs.log2 < 9000 := by
  have : j.natAbs < 2 ^ 64 := by have : (2 : Nat) ^ 64 = 18446744073709551616 := by decide
                                 unfold big at h1; omega
  have := Nat.log2_lt (n := j.natAbs) (k := 64) (by omega) |>.mpr this
  omega
theorem o2_fdiv {g : Gd} : O2 g (rI CDivW fun i j => .int (i / j)) fdivD := by
  refine o2_ii (fun i j => .int (i / j)) (fun _ _ _ _ _ => .int _) fun cs d e => ?_
  unfold fdivD
  split
  · split
    · rename_i h
      exact .inr ⟨_, _, rfl, rfl, ⟨h.1, log2_big h.1 h.2⟩, rfl⟩
    · exact .inl rfl
  · exact .inl rfl
theorem xp_fdiv (ha : Xp X W a ma) (hb : Xp X W b mb) : Xp X W (.BinOp a .FloorDiv b pos) (op2 fdivD ma mb) := xp_op op_fdivW o2_fdiv ha hb
theorem o2_mod {g : Gd} : O2 g (rI (fun _ j => 0 < j) fun i j => .int (i % j)) modD := by
  refine o2_ii (fun i j => .int (i % j)) (fun _ _ _ _ _ => .int _) fun cs d e => ?_
  unfold modD
  split
  · split
    · exact .inr ⟨_, _, rfl, rfl, by assumption, rfl⟩
    · exact .inl rfl
  · exact .inl rfl
theorem xp_mod (ha : Xp X W a ma) (hb : Xp X W b mb) : Xp X W (.BinOp a .Mod b pos) (op2 modD ma mb) := xp_op op_mod o2_mod ha hb
theorem o2_pow {g : Gd} : O2 g (rI CPow fun i j => .int (i ^ j.toNat)) powD := by
  refine o2_ii (fun i j => .int (i ^ j.toNat)) (fun _ _ _ _ _ => .int _) fun cs d e => ?_
  unfold powD
  split
  · split
    · rename_i h
      refine .inr ⟨_, _, rfl, rfl, ⟨h.1, h.2.1, ?_⟩, rfl⟩
      have : (2 : Nat) ^ 64 = 18446744073709551616 := by decide
      unfold big at h; omega
    · exact .inl rfl
  · exact .inl rfl
theorem xp_pow (ha : Xp X W a ma) (hb : Xp X W b mb) : Xp X W (.BinOp a .Pow b pos) (op2 powD ma mb) := xp_op op_pow o2_pow ha hb
theorem o1_neg {g : Gd} : O1 g (rU fun i => .int (-i)) negD := by
  intro W H F c cs x d Q I rx po
  cases d with
  | int i => cases rx; exact ⟨i, rfl, PoE.here I (.int _) po⟩
  | _ => exact po.elim
theorem xp_neg (ha : Xp X W a ma) : Xp X W (.UnaryOp .USub a pos) (op1 negD ma) := xp_un un_neg o1_neg ha

def rAddAll (K : PySem.W.Frag) : R2 := fun x y H Q => rI0 (fun i j => .int (i + j)) x y H Q ∨ (∃ i j, x = .str i ∧ y = .str j ∧ i.length + j.length ≤ sizeLine ∧ Q (.str (i ++ j)) H) ∨ rCatA K x y H Q ∨ rCat x y H Q
theorem op_addAll : OpR X (binaryOp .Add) (rAddAll X.K) := op_add.or (op_add_str.or (op_catA.or op_cat))
theorem str_app (a b : List Nat) : ((⟨a.toArray⟩ : Str) ++ (⟨b.toArray⟩ : Str)) = ⟨(a ++ b).toArray⟩ := by
  show Str.append _ _ = _
  unfold Str.append
  simp
theorem str_len (a : List Nat) : (⟨a.toArray⟩ : Str).length = a.length := by
  unfold Str.length
  simp
theorem o2_add {g : Gd} (md : Bool) : O2 g (rAddAll g.K) (addD md) := by
  intro W H F c cs x y d e Q I rx ry po
  unfold addD at po
  split at po
  · cases rx; cases ry
    exact .inl ⟨_, _, rfl, rfl, PoE.here I (.int _) po⟩
  · split at po
    · cases rx; cases ry
      refine .inr (.inl ⟨_, _, rfl, rfl, by rw [str_len, str_len]; assumption, ?_⟩)
      rw [str_app]
      exact PoE.here I (.str _) po
    · exact po.elim
  · rename_i l m
    cases rx with
    | tup h1 h2 =>
      cases ry with
      | tup h3 h4 =>
        have rv := h2.append h4
        have len := mkT_len po rv
        rw [List.length_append] at len
        refine .inr (.inr (.inl ⟨_, _, _, _, rfl, rfl, SqT.up I.sub h1, SqT.up I.sub h3, len, fun e => ?_, fun ne e => ?_, fun _ _ p hp => mkT_ok I rv po hp⟩))
        · subst e
          cases h2
          unfold mkT at po
          split at po
          · exact po _ _ _ (Xt.refl _ _ _) I _ (.tup h3 h4)
          · exact po.elim
        · subst e
          cases h4
          unfold mkT at po
          split at po
          · rw [List.append_nil] at po
            exact po _ _ _ (Xt.refl _ _ _) I _ (.tup h1 h2)
          · exact po.elim
  · split at po
    · rename_i l1 l2 e1 e2
      obtain ⟨p1, vs1, rfl, g1, r1⟩ := listOf_at I rx e1
      obtain ⟨p2, vs2, rfl, g2, r2⟩ := listOf_at I ry e2
      have rv := r1.append r2
      have len := mkL_len po rv
      rw [List.length_append] at len
      exact .inr (.inr (.inr ⟨_, _, _, _, rfl, rfl, g1, g2, len, fun p hp => mkL_ok I rv po hp⟩))
    · exact po.elim
theorem xp_add (md : Bool) (ha : Xp X W a ma) (hb : Xp X W b mb) : Xp X W (.BinOp a .Add b pos) (op2 (addD md) ma mb) := xp_op op_addAll (o2_add md) ha hb
end
end L3

namespace L3
open PySem L2 PyProof.Rows

/-! ### comparisons: they take any values -/
def CmpR (X : Cx) (f : Value → Value → Sem Value) (r : R2) : Prop :=
  ∀ (pins : List (Addr × Obj)) (s : Shared) (σ : L2.St) (H : Hp) (x y : V) (v u : Value) (Q : VK), Inv X pins σ H s → L2.RelV x v → L2.RelV y u → r x y H Q →
    wpAny (model X.prog X.w) X.A (f v u) (EP X pins σ Q) X.xe s
section
variable {X : Cx} {f : Value → Value → Sem Value} {r r' : R2}
theorem CmpR.op (h : CmpR X f r) : OpR X f r := fun pins s σ H x y v u Q I rx ry q => h pins s σ H x y v u Q I rx.1 ry.1 q
theorem CmpR.or (h : CmpR X f r) (h' : CmpR X f r') : CmpR X f (fun x y H Q => r x y H Q ∨ r' x y H Q) :=
  fun pins s σ H x y v u Q I rx ry q => q.elim (h pins s σ H x y v u Q I rx ry) (h' pins s σ H x y v u Q I rx ry)
theorem endB' {pins : List (Addr × Obj)} {σ : L2.St} {H : Hp} {s : Shared} {Q : VK} {k k' : Bool} (I : Inv X pins σ H s) (q : Q (.bl k) H) (e : k = k') : EP X pins σ Q (.bool k') s := by
  subst e
  exact endB I q
theorem oc_eq : CmpR X (compareOp .Eq) rEq := by
  rintro pins s σ H x y v u Q I rx ry ⟨hs, q⟩
  cases x <;> cases y <;> try exact absurd (show false = true from hs) Bool.false_ne_true
  · cases rx; cases ry; exact PySem.EqNone.eq_none_none (endB' I q (by simp))
  · cases rx; cases ry; exact PySem.EqNone.eq_none_bool (endB' I q (by simp))
  · cases rx; obtain ⟨_, rfl⟩ := ry; exact PySem.EqNone.eq_none_int (endB' I q (by simp))
  · cases rx; obtain ⟨_, rfl⟩ := ry; exact PySem.EqNone.eq_none_str (endB' I q (by simp))
  · cases rx; cases ry; exact PySem.EqNone.eq_bool_none (endB' I q (by simp))
  · cases rx; cases ry; exact eq_bool (endB' I q dec_bl)
  · cases rx; obtain ⟨_, rfl⟩ := ry; exact PySem.EqMixed.eq_bool_str (endB' I q (by simp))
  · obtain ⟨_, rfl⟩ := rx; cases ry; exact PySem.EqNone.eq_int_none (endB' I q (by simp))
  · obtain ⟨_, rfl⟩ := rx; obtain ⟨_, rfl⟩ := ry; exact eq_int (endB' I q dec_int)
  · obtain ⟨_, rfl⟩ := rx; obtain ⟨_, rfl⟩ := ry; exact PySem.EqMixed.eq_int_str (endB' I q (by simp))
  · obtain ⟨_, rfl⟩ := rx; cases ry; exact PySem.EqNone.eq_str_none (endB' I q (by simp))
  · obtain ⟨_, rfl⟩ := rx; cases ry; exact PySem.EqMixed.eq_str_bool (endB' I q (by simp))
  · obtain ⟨_, rfl⟩ := rx; obtain ⟨_, rfl⟩ := ry; exact PySem.EqMixed.eq_str_int (endB' I q (by simp))
  · obtain ⟨_, rfl⟩ := rx; obtain ⟨_, rfl⟩ := ry; exact eq_str (endB' I q dec_str)
  · obtain ⟨_, rfl⟩ := rx; obtain ⟨_, rfl⟩ := ry; exact PySem.W.eq_bytes (endB' I q dec_byt)
theorem oc_ne : CmpR X (compareOp .NotEq) rNe := by
  rintro pins s σ H x y v u Q I rx ry ⟨hs, q⟩
  cases x <;> cases y <;> try exact absurd (show false = true from hs) Bool.false_ne_true
  · cases rx; cases ry; exact PySem.EqNone.ne_none_none (endB' I q (by simp))
  · cases rx; cases ry; exact PySem.EqNone.ne_none_bool (endB' I q (by simp))
  · cases rx; obtain ⟨_, rfl⟩ := ry; exact PySem.EqNone.ne_none_int (endB' I q (by simp))
  · cases rx; obtain ⟨_, rfl⟩ := ry; exact PySem.EqNone.ne_none_str (endB' I q (by simp))
  · cases rx; cases ry; exact PySem.EqNone.ne_bool_none (endB' I q (by simp))
  · cases rx; cases ry; exact ne_bool (endB' I q (congrArg not dec_bl))
  · cases rx; obtain ⟨_, rfl⟩ := ry; exact PySem.EqMixed.ne_bool_str (endB' I q (by simp))
  · obtain ⟨_, rfl⟩ := rx; cases ry; exact PySem.EqNone.ne_int_none (endB' I q (by simp))
  · obtain ⟨_, rfl⟩ := rx; obtain ⟨_, rfl⟩ := ry; exact ne_int (endB' I q (congrArg not dec_int))
  · obtain ⟨_, rfl⟩ := rx; obtain ⟨_, rfl⟩ := ry; exact PySem.EqMixed.ne_int_str (endB' I q (by simp))
  · obtain ⟨_, rfl⟩ := rx; cases ry; exact PySem.EqNone.ne_str_none (endB' I q (by simp))
  · obtain ⟨_, rfl⟩ := rx; cases ry; exact PySem.EqMixed.ne_str_bool (endB' I q (by simp))
  · obtain ⟨_, rfl⟩ := rx; obtain ⟨_, rfl⟩ := ry; exact PySem.EqMixed.ne_str_int (endB' I q (by simp))
  · obtain ⟨_, rfl⟩ := rx; obtain ⟨_, rfl⟩ := ry; exact ne_str (endB' I q (congrArg not dec_str))
  · obtain ⟨_, rfl⟩ := rx; obtain ⟨_, rfl⟩ := ry; exact PySem.W.ne_bytes (endB' I q (congrArg not dec_byt))
theorem op_eq : OpR X (compareOp .Eq) rEq := oc_eq.op
theorem op_ne : OpR X (compareOp .NotEq) rNe := oc_ne.op
/-- data of any depth -/
theorem oc_eqD (hu : X.A.units + 64 < cLine) : CmpR X (compareOp .Eq) (rEqD X.K) := by
  rintro pins s σ H x y v u Q I rx ry ⟨d, e, hd, he, sd, se, q⟩
  obtain ⟨as, r1⟩ := Dp.reads I.i d x v hd rx
  obtain ⟨bs, r2⟩ := Dp.reads I.i e y u he ry
  exact SeqAt.compareEq_shaped r1 r2 sd se hu (endB I q)
theorem oc_neD (hu : X.A.units + 64 < cLine) : CmpR X (compareOp .NotEq) (rNeD X.K) := by
  rintro pins s σ H x y v u Q I rx ry ⟨d, e, hd, he, sd, se, q⟩
  obtain ⟨as, r1⟩ := Dp.reads I.i d x v hd rx
  obtain ⟨bs, r2⟩ := Dp.reads I.i e y u he ry
  exact SeqAt.compareNe_shaped r1 r2 sd se hu (endB I q)
theorem op_eqD (hu : X.A.units + 64 < cLine) : OpR X (compareOp .Eq) (rEqD X.K) := (oc_eqD hu).op
theorem op_neD (hu : X.A.units + 64 < cLine) : OpR X (compareOp .NotEq) (rNeD X.K) := (oc_neD hu).op
theorem oc_inD (hu : X.A.units + 65 < cLine) : CmpR X (compareOp .In) (rInD X.K) := by
  rintro pins s σ H x y v u Q I rx ry ⟨d, ds, hd, he, sd, se, q⟩
  obtain ⟨as, r1⟩ := Dp.reads I.i d x v hd rx
  obtain ⟨bs, r2⟩ := Dp.reads I.i (.list ds) y u he ry
  exact SeqAt.in_list_reads r2 r1 (SeqAt.canLay_of_shaped se) (SeqAt.canLay_of_shaped sd) (room_in_shaped sd hu) (endB I q)
theorem oc_notInD (hu : X.A.units + 65 < cLine) : CmpR X (compareOp .NotIn) (rNotInD X.K) := by
  rintro pins s σ H x y v u Q I rx ry ⟨d, ds, hd, he, sd, se, q⟩
  obtain ⟨as, r1⟩ := Dp.reads I.i d x v hd rx
  obtain ⟨bs, r2⟩ := Dp.reads I.i (.list ds) y u he ry
  exact SeqAt.notIn_list_reads r2 r1 (SeqAt.canLay_of_shaped se) (SeqAt.canLay_of_shaped sd) (room_in_shaped sd hu) (endB I q)
theorem op_inD (hu : X.A.units + 65 < cLine) : OpR X (compareOp .In) (rInD X.K) := (oc_inD hu).op
theorem op_notInD (hu : X.A.units + 65 < cLine) : OpR X (compareOp .NotIn) (rNotInD X.K) := (oc_notInD hu).op
/-- one text within another -/
theorem oc_in_str : CmpR X (compareOp .In) (fun x y H Q => ∃ i j, x = .str i ∧ y = .str j ∧ Q (.bl (!(Builtin.Str.occurrences j i 0 j.length 1).isEmpty)) H) := by
  rintro pins s σ H x y v u Q I rx ry ⟨i, j, rfl, rfl, q⟩
  obtain ⟨t, rfl⟩ := rx
  obtain ⟨t', rfl⟩ := ry
  exact in_str (endB I q)
theorem oc_notin_str : CmpR X (compareOp .NotIn) (fun x y H Q => ∃ i j, x = .str i ∧ y = .str j ∧ Q (.bl (!(!(Builtin.Str.occurrences j i 0 j.length 1).isEmpty))) H) := by
  rintro pins s σ H x y v u Q I rx ry ⟨i, j, rfl, rfl, q⟩
  obtain ⟨t, rfl⟩ := rx
  obtain ⟨t', rfl⟩ := ry
  exact notIn_str (endB I q)
theorem op_in_str : OpR X (compareOp .In) (fun x y H Q => ∃ i j, x = .str i ∧ y = .str j ∧ Q (.bl (!(Builtin.Str.occurrences j i 0 j.length 1).isEmpty)) H) := oc_in_str.op
theorem op_notin_str : OpR X (compareOp .NotIn) (fun x y H Q => ∃ i j, x = .str i ∧ y = .str j ∧ Q (.bl (!(!(Builtin.Str.occurrences j i 0 j.length 1).isEmpty))) H) := oc_notin_str.op
end

/-! ### more arithmetic; chains -/
section
variable {X : Cx} {a b c : Expr} {ta tb tc : TE} {pos : Pos}
theorem op_mul : OpR X (binaryOp .Mult) (rI CMul fun i j => .int (i * j)) := opI fun _ _ _ _ _ _ _ hc q => mul_int q hc.ok
theorem Vals.rep {k : Nat} {xs : List V} {us : List Value} (r : Vals k xs us) (n : Nat) : Vals k (List.replicate n xs).flatten (List.replicate n us).flatten := by
  refine ⟨r.1.rep n, fun u m => ?_⟩
  obtain ⟨l, hl, hu⟩ := List.mem_flatten.mp m
  rw [(List.mem_replicate.mp hl).2] at hu
  exact r.2 u hu
/-- a list times a whole number: what it makes, by the hand layer; its texts are those of the list -/
theorem op_rep : OpR X (binaryOp .Mult) rRep := by
  rintro pins s σ H x y v u Q I ⟨rx, _⟩ ⟨ry, _⟩ ⟨l, k, xs, rfl, rfl, hH, h1, h2, hz, q⟩
  cases rx
  obtain ⟨t, rfl⟩ := ry
  obtain ⟨z, its, n, r, hl, e⟩ := I.lstM hH
  have hcap : ¬ its.toArray.size * k.toNat > (2 ^ 63 - 1) / 8 := by
    have e1 : sizeLine ≤ (2 ^ 63 - 1) / 8 := by decide
    rw [List.size_toArray, ← hl]
    omega
  have hlong : ¬ Builtin.List.listTooLong (its.toArray.size * k.toNat) = true := by
    rw [notLongL (by rw [List.size_toArray, ← hl]; exact hz)]
    exact Bool.false_ne_true
  have hnew : List.foldl (fun x1 x2 => x1 ++ x2) #[] (List.replicate (if its.toArray.isEmpty = true then 0 else k.toNat) its.toArray) = (List.replicate k.toNat its).flatten.toArray := by
    have f0 : ∀ m : Nat, List.foldl (fun x1 x2 => x1 ++ x2) #[] (List.replicate m its.toArray) = (List.replicate m its).flatten.toArray := fun m => by
      have := foldl_rep its m []
      rwa [List.nil_append] at this
    rw [f0]
    cases its with
    | nil => simp
    | cons a r' => rw [if_neg (by simp)]
  refine wpAny_binaryOp_repeat_ref (T := "list") (U := "int") (by decide) ⟨_, e, rfl⟩ (fun s' => typeIs_int s' k t) noFill_list_mul F.fills_int_mul F.slot_int_rmul repeat_list F.slot_int_index.lookup
    (call_meets F.slot_int_rmul (typeIs_int s k t) F.entry_int_rmul (F.args_int_rmul_2 _ _) (int___rmul___int_list k t l its.toArray n)
      ⟨e, rfl, ⟨_, e, rfl⟩, call_meets F.slot_list_mul ⟨_, e, rfl⟩ F.entry_list_mul (F.args_list_mul_2 _ _) (AutoListH.list___mul___list_int_3 l its.toArray n k t (by rw [fitsIndex_both h1 h2]; exact Bool.false_ne_true) hcap hlong) ⟨e, ?_⟩⟩)
  rw [hnew]
  exact ⟨.ref _, _, I.lnew (t' := s.toks) (r.rep k.toNat) (by rw [PyProof.Rows.lm_len_rep_flat, Nat.mul_comm]; exact hz) (Nat.le_refl _), .ref, q _ (I.fresh (Nat.le_refl _))⟩
theorem pe_chain {op op' : CmpOp} {r r' : R2} (ho : OpR X (compareOp op) r) (ho' : OpR X (compareOp op') r') (ha : PE X a ta) (hb : PE X b tb) (hc : PE X c tc)
    (hm : lastMarks [op, op'] [b, c] = false := by with_unfolding_all rfl) : PE X (.Compare a [op, op'] [b, c] pos) (tChain r r' ta tb tc) := by
  constructor
  intro pins s σ H Q I h
  refine Compare_chain (thn (ha.run pins s σ H _ I h) fun v s1 z1 => ?_) hm
  obtain ⟨x, H1, I1, r1, q1⟩ := z1
  refine chain_link (thk (hb.run pins s1 σ H1 _ I1 q1) fun u s2 k2 z2 => ?_)
  obtain ⟨y, H2, I2, r2, q2⟩ := z2
  refine thk (ho pins s2 σ H2 x y v u _ I2 (r1.mono k2) r2 q2) fun d s3 k3 z3 => ?_
  obtain ⟨z, H3, I3, ⟨r3, _⟩, k, rfl, q3⟩ := z3
  cases r3
  refine wpAny_truthy_bool ?_
  cases k
  · exact ite_ff (endB I3 q3)
  · refine ite_tt (chain_last (thk (hc.run pins s3 σ H3 _ I3 q3) fun w' s4 k4 z4 => ?_))
    obtain ⟨z', H4, I4, r4, q4⟩ := z4
    exact ho' pins s4 σ H4 y z' u w' Q I4 (r2.mono (Nat.le_trans k3 k4)) r4 q4
theorem pt_chain {op op' : CmpOp} {r r' : R2} (ho : OpR X (compareOp op) r) (ho' : OpR X (compareOp op') r') (ha : PE X a ta) (hb : PE X b tb) (hc : PE X c tc)
    (hm : lastMarks [op, op'] [b, c] = false := by with_unfolding_all rfl) : PT X (.Compare a [op, op'] [b, c] pos) (tTest (tChain r r' ta tb tc)) := by
  constructor
  intro pins s σ H Q I h
  refine isTrue_chain (thn (ha.run pins s σ H _ I h) fun v s1 z1 => ?_) hm
  obtain ⟨x, H1, I1, r1, q1⟩ := z1
  refine test_link (thk (hb.run pins s1 σ H1 _ I1 q1) fun u s2 k2 z2 => ?_)
  obtain ⟨y, H2, I2, r2, q2⟩ := z2
  refine thk (ho pins s2 σ H2 x y v u _ I2 (r1.mono k2) r2 q2) fun d s3 k3 z3 => ?_
  obtain ⟨z, H3, I3, ⟨r3, _⟩, k, rfl, q3⟩ := z3
  cases r3
  refine wpAny_truthy_bool ?_
  cases k
  · obtain ⟨k', e', q'⟩ := q3
    cases e'
    exact ite_ff ⟨H3, I3, q'⟩
  · refine ite_tt (test_last (thk (hc.run pins s3 σ H3 _ I3 q3) fun w' s4 k4 z4 => ?_))
    obtain ⟨z', H4, I4, r4, q4⟩ := z4
    refine thn (ho' pins s4 σ H4 y z' u w' _ I4 (r2.mono (Nat.le_trans k3 k4)) r4 q4) fun d' s5 z5 => ?_
    obtain ⟨z2, H5, I5, ⟨r5, _⟩, k2', rfl, q5⟩ := z5
    cases r5
    exact wpAny_truthy_bool ⟨H5, I5, q5⟩
end
/-! ### weak values: a text whose token is not known (a module's own text) -/
structure PEw (X : Cx) (e : Expr) (t : TE) : Prop where
  run : ∀ (pins : List (Addr × Obj)) (s : Shared) (σ : L2.St) (H : Hp) (Q : VK), Inv X pins σ H s → t σ H Q → wpAny (model X.prog X.w) X.A (eval e X.env) (fun u s' => ∃ v H', Inv X pins σ H' s' ∧ L2.RelV v u ∧ Q v H') X.xe s
section
variable {X : Cx} {a b : Expr} {ta tb : TE} {pos : Pos}
theorem PE.w (h : PE X a ta) : PEw X a ta := ⟨fun pins s σ H Q I q => thn (h.run pins s σ H Q I q) fun u s1 z => by obtain ⟨x, H1, I1, r, q⟩ := z; exact ⟨x, H1, I1, r.1, q⟩⟩
theorem pew_glob {x : Str} {v : V} {u : Value} {pos : Pos} (hg : Gl X x) (hm : X.mg x = some u) (r : L2.RelV v u) (hd : (x == ("__debug__" : Str)) = false := by decide) : PEw X (.Name x pos) (tC v) :=
  ⟨fun _ _ _ H _ I h => ld_glob I hg hm ⟨v, H, I, r, h⟩ hd⟩
theorem pc_ofW {op : CmpOp} {r : R2} (ho : CmpR X (compareOp op) r) (ha : PEw X a ta) (hb : PEw X b tb) : PC X op a b (tOp r ta tb) := by
  constructor
  intro pins s σ H Q I h
  refine thn (ha.run pins s σ H _ I h) fun v s1 z => ?_
  obtain ⟨x, H1, I1, r1, q1⟩ := z
  refine thn (hb.run pins s1 σ H1 _ I1 q1) fun u s2 z => ?_
  obtain ⟨y, H2, I2, r2, q2⟩ := z
  exact ho pins s2 σ H2 x y v u Q I2 r1 r2 q2
theorem pe_cmpW {op : CmpOp} {r : R2} (ho : CmpR X (compareOp op) r) (ha : PEw X a ta) (hb : PEw X b tb) (hm : behindInMarks op b = false) : PE X (.Compare a [op] [b] pos) (tOp r ta tb) := pe_cmp (pc_ofW ho ha hb) hm
theorem pt_cmpW {op : CmpOp} {r : R2} (ho : CmpR X (compareOp op) r) (ha : PEw X a ta) (hb : PEw X b tb) (hm : behindInMarks op b = false) : PT X (.Compare a [op] [b] pos) (tB (tOp r ta tb)) := pt_cmp (pc_ofW ho ha hb) hm
end
end L3

namespace L3
open PySem L2

section
variable {X : Cx}
theorem pe_orE {e : Expr} {t u : TE} (a : PE X e t) (b : PE X e u) : PE X e (fun σ H Q => t σ H Q ∨ u σ H Q) := ⟨fun pins s σ H Q I h => h.elim (a.run pins s σ H Q I) (b.run pins s σ H Q I)⟩
theorem pt_orE {e : Expr} {t u : TT} (a : PT X e t) (b : PT X e u) : PT X e (fun σ H Q => t σ H Q ∨ u σ H Q) := ⟨fun pins s σ H Q I h => h.elim (a.run pins s σ H Q I) (b.run pins s σ H Q I)⟩
theorem pi_orE {tg e : Expr} {t u : TI} (a : PI X tg e t) (b : PI X tg e u) : PI X tg e (fun σ H R => t σ H R ∨ u σ H R) := ⟨fun pins s σ H R I h => h.elim (a.run pins s σ H R I) (b.run pins s σ H R I)⟩
/-- text * int -/
theorem op_mulS : OpR X (binaryOp .Mult) (fun x y H Q => ∃ (l : List Nat) (j : Int), x = .str ⟨l.toArray⟩ ∧ y = .int j ∧ -1000 ≤ j ∧ j ≤ 1000 ∧ l.length ≤ 1000 ∧ Q (.str ⟨(List.replicate j.toNat l).flatten.toArray⟩) H) := by
  intro pins s σ H x y v u Q I rx ry h
  obtain ⟨l, j, rfl, rfl, h2, h3, h5, q⟩ := h
  obtain ⟨rx, gx⟩ := rx
  obtain ⟨ry, _⟩ := ry
  obtain ⟨t, rfl⟩ := rx
  obtain ⟨t2, rfl⟩ := ry
  have hlen : (⟨l.toArray⟩ : Str).length = l.length := str_len l
  have hfold : ∀ (n : Nat) (acc : Array Nat), (List.replicate n (⟨l.toArray⟩ : Str).cps).foldl (· ++ ·) acc = acc ++ (List.replicate n l).flatten.toArray := by
    intro n
    induction n with
    | zero => intro acc; simp
    | succ n ih => intro acc; simp only [List.replicate_succ, List.foldl_cons, ih, List.flatten_cons]; simp [Array.append_assoc]
  refine PySem.P.mul_str (by simp; omega) (fun h1 _ => ?_) (fun h1 _ => ?_) ?_
  · rw [hlen]
    have : (2 ^ 63 - 1) / j ≥ 1000 := by
      have h := Int.ediv_le_ediv (a := 1000 * j) (b := 2 ^ 63 - 1) (c := j) (by omega) (by omega)
      rw [Int.mul_ediv_cancel _ (by omega)] at h
      exact h
    exact Int.not_lt.mpr (Int.le_trans (by omega : (l.length : Int) ≤ 1000) this)
  · rw [hlen]
    have hmul : l.length * j.toNat ≤ 1000 * 1000 := Nat.mul_le_mul h5 (by omega)
    have : Builtin.Str.tooLong (l.length * j.toNat) = decide (l.length * j.toNat > 16777216) := by rfl
    rw [this]
    simp; omega
  · by_cases h1 : j < 1
    · rw [if_pos h1]
      have : j.toNat = 0 := by omega
      rw [this] at q
      refine ⟨by decide, endS I q⟩
    · rw [if_neg h1, hlen]
      by_cases h4 : (j == 1 || l.length == 0) = true
      · rw [if_pos h4]
        refine ⟨.str _, H, I, ⟨⟨_, rfl⟩, gx⟩, ?_⟩
        simp only [Bool.or_eq_true, beq_iff_eq] at h4
        rcases h4 with h4 | h4
        · subst h4
          simpa using q
        · have : l = [] := List.length_eq_zero_iff.mp h4
          subst this
          have e : (List.replicate j.toNat ([] : List Nat)).flatten = [] := by simp
          rw [e] at q
          exact q
      · rw [if_neg h4]
        have hmul : l.length * j.toNat ≤ 1000 * 1000 := Nat.mul_le_mul h5 (by omega)
        refine ⟨?_, ?_⟩
        · rw [hfold]
          show ((#[] : Array Nat) ++ _).size ≤ sizeLine
          rw [show sizeLine = 16777216 from sizeLine_eq]
          simp
          rw [Nat.mul_comm]
          omega
        · refine endS I ?_
          rw [hfold]
          simpa using q
end

/-! ### multiplication -/
section
variable {X : Cx} {W : WX} {pos : Pos} {a b c : Expr} {ma mb mc : ME}
def rMulAll : R2 := fun x y H Q => rI CMul (fun i j => .int (i * j)) x y H Q ∨ (∃ (l : List Nat) (j : Int), x = .str ⟨l.toArray⟩ ∧ y = .int j ∧ -1000 ≤ j ∧ j ≤ 1000 ∧ l.length ≤ 1000 ∧ Q (.str ⟨(List.replicate j.toNat l).flatten.toArray⟩) H) ∨ rRep x y H Q
theorem op_mulAll : OpR X (binaryOp .Mult) rMulAll := op_mul.or (op_mulS.or op_rep)
theorem rvs_rep {g : Gd} {F : Hp} {c : List Addr} {vs : List V} {ds : List D} (r : RVs g F c vs ds) : ∀ n : Nat, RVs g F c (List.replicate n vs).flatten (List.replicate n ds).flatten
  | 0 => .nil
  | n + 1 => by simp only [List.replicate_succ, List.flatten_cons]; exact r.append (rvs_rep r n)
theorem rep_len (n : Nat) (vs : List V) : (List.replicate n vs).flatten.length = n * vs.length := by
  induction n with
  | zero => simp
  | succ n ih => simp only [List.replicate_succ, List.flatten_cons, List.length_append, ih, Nat.succ_mul]; omega
theorem o2_mul {g : Gd} (md : Bool) : O2 g rMulAll (mulD md) := by
  intro W H F c cs x y d e Q I rx ry po
  unfold mulD at po
  split at po
  · split at po
    · rename_i h
      cases rx; cases ry
      have p : (2 : Int) ^ 64 = 18446744073709551616 := by decide
      refine .inl ⟨_, _, rfl, rfl, ?_, PoE.here I (.int _) po⟩
      unfold CMul
      unfold big at h
      rw [p]; exact h
    · exact po.elim
  · split at po
    · rename_i h
      cases rx; cases ry
      exact .inr (.inl ⟨_, _, rfl, rfl, h.1, h.2.1, h.2.2, PoE.here I (.str _) po⟩)
    · exact po.elim
  · split at po
    · rename_i h1
      split at po
      · rename_i h2
        obtain ⟨p1, vs1, rfl, g1, r1⟩ := listOf_at I rx h1
        cases ry
        have rv := rvs_rep r1 ‹Int›.toNat
        have len := mkL_len po rv
        rw [rep_len] at len
        exact .inr (.inr ⟨_, _, _, rfl, rfl, g1, by omega, by omega, by rw [Nat.mul_comm]; exact len, fun p hp => mkL_ok I rv po hp⟩)
      · exact po.elim
    · exact po.elim
  · exact po.elim
theorem xp_mul (md : Bool) (ha : Xp X W a ma) (hb : Xp X W b mb) : Xp X W (.BinOp a .Mult b pos) (op2 (mulD md) ma mb) := xp_op op_mulAll (o2_mul md) ha hb
end

/-! ### equality -/
mutual
def py0 : D → Option PyData
  | .non => some .none
  | .bl b => some (.bool b)
  | .int i => some (.int i)
  | .str l => some (.str ⟨l.toArray⟩)
  | .lst l => (py0s l).map .list
  | .tup l => (py0s l).map .tuple
  | .dct l => (py0k l).map .dict
  | .scr _ => none
  | .obj _ _ => none
  | .loc _ => none
def py0s : List D → Option (List PyData)
  | [] => some []
  | d :: r => match py0 d, py0s r with
    | some p, some q => some (p :: q)
    | _, _ => none
def py0k : List (Kd × D) → Option (List (PyData × PyData))
  | [] => some []
  | (k, d) :: r => match py0 d, py0k r with
    | some p, some q => some (((match k with | .inl i => PyData.int i | .inr l => PyData.str ⟨l.toArray⟩), p) :: q)
    | _, _ => none
end
def pyOf (cs : Cells) : D → Option PyData
  | .loc n => match cs[n]? with
    | some (.lst l) => (py0s l).map .list
    | some (.dct l) => (py0k l).map .dict
    | some (.fz d) => py0 d
    | _ => none
  | d => py0 d
mutual
def noDict : PyData → Bool
  | .list xs | .tuple xs => noDicts xs
  | .dict _ => false
  | _ => true
def noDicts : List PyData → Bool
  | [] => true
  | x :: xs => noDict x && noDicts xs
end
mutual
theorem noDict_of : ∀ {p : PyData}, p.canLay0 = true → noDict p = true
  | .none, _ => rfl
  | .bool _, _ => rfl
  | .int _, _ => rfl
  | .str _, _ => rfl
  | .list xs, h => noDicts_of (by simpa [PyData.canLay0] using h)
  | .tuple xs, h => noDicts_of (by simpa [PyData.canLay0] using h)
  | .dict _, h => by simp [PyData.canLay0] at h
theorem noDicts_of : ∀ {p : List PyData}, PyData.canLayAll0 p = true → noDicts p = true
  | [], _ => rfl
  | x :: xs, h => by
    simp only [PyData.canLayAll0, Bool.and_eq_true] at h
    simp only [noDicts, noDict_of h.1, noDicts_of h.2, Bool.and_self]
end
section
variable {g : Gd} {H F : Hp} {c : List Addr} {cs : Cells}
mutual
theorem py0_dp (hs : ∀ a o, F a = some o → H a = some o) : ∀ {v : V} {d : D} {p : PyData}, RV g F c v d → py0 d = some p → noDict p = true → Dp g.K H v p
  | _, _, _, .non, h, _ => by simp only [py0, Option.some.injEq] at h; subst h; exact .non
  | _, _, _, .bl b, h, _ => by simp only [py0, Option.some.injEq] at h; subst h; exact .bl b
  | _, _, _, .int i, h, _ => by simp only [py0, Option.some.injEq] at h; subst h; exact .int i
  | _, _, _, .str l, h, _ => by simp only [py0, Option.some.injEq] at h; subst h; exact .str _
  | _, _, _, .lst h1 h2, h, n => by
    simp only [py0, Option.map_eq_some_iff] at h
    obtain ⟨q, e, rfl⟩ := h
    exact .lst (.inl (.inl (hs _ _ h1))) (py0s_dp hs h2 e n)
  | _, _, _, .tup h1 h2, h, n => by
    simp only [py0, Option.map_eq_some_iff] at h
    obtain ⟨q, e, rfl⟩ := h
    exact .tup (SqT.up hs h1).l2 (py0s_dp hs h2 e n)
  | _, _, _, .dct h1 h2, h, n => by
    simp only [py0, Option.map_eq_some_iff] at h
    obtain ⟨q, e, rfl⟩ := h
    cases n
  | _, _, _, .scr _, h, _ => by simp [py0] at h
  | _, _, _, .obj _ _ _, h, _ => by simp [py0] at h
  | _, _, _, .loc _, h, _ => by simp [py0] at h
theorem py0s_dp (hs : ∀ a o, F a = some o → H a = some o) : ∀ {v : List V} {d : List D} {p : List PyData}, RVs g F c v d → py0s d = some p → noDicts p = true → DpAll g.K H v p
  | _, _, _, .nil, h, _ => by simp only [py0s, Option.some.injEq] at h; subst h; exact .nil
  | _, _, _, .cons a b, h, n => by
    simp only [py0s] at h
    split at h
    · rename_i e1 e2
      simp only [Option.some.injEq] at h
      subst h
      simp only [noDicts, Bool.and_eq_true] at n
      exact .cons (py0_dp hs a e1 n.1) (py0s_dp hs b e2 n.2)
    · cases h
end
theorem pyOf_dp (I : Ih g H F c cs) {v : V} {d : D} {p : PyData} (r : RV g F c v d) (h : pyOf cs d = some p) (n : noDict p = true) : Dp g.K H v p := by
  cases r with
  | @loc k a ha =>
    simp only [pyOf] at h
    obtain ⟨x, hx⟩ := I.there ha
    have q := I.cell k a x ha hx
    rw [hx] at h
    cases x with
    | lst l =>
      simp only [Option.map_eq_some_iff] at h
      obtain ⟨y, e, rfl⟩ := h
      obtain ⟨_, vs, h1, h2⟩ := q
      exact .lst (.inl (.inl h1)) (py0s_dp I.sub h2 e n)
    | dct l =>
      simp only [Option.map_eq_some_iff] at h
      obtain ⟨y, e, rfl⟩ := h
      cases n
    | fz d => exact py0_dp I.sub q.1 h n
    | set l => cases h
    | ins n l => cases h
  | non => exact py0_dp (c := c) I.sub .non h n
  | bl b => exact py0_dp (c := c) I.sub (.bl b) h n
  | int i => exact py0_dp (c := c) I.sub (.int i) h n
  | str l => exact py0_dp (c := c) I.sub (.str l) h n
  | lst a b => exact py0_dp I.sub (.lst a b) h n
  | tup a b => exact py0_dp I.sub (.tup a b) h n
  | dct a b => exact py0_dp I.sub (.dct a b) h n
  | scr a => exact py0_dp (c := c) I.sub (.scr a) h n
  | obj a b e => exact py0_dp I.sub (.obj a b e) h n
end
def eqB (cs : Cells) (d e : D) : Option Bool := match d, e with
  | .str a, .str b => some (decide (a = b))
  | .int i, .int j => some (decide (i = j))
  | .bl a, .bl b => some (decide (a = b))
  | d, e => match pyOf cs d, pyOf cs e with
    | some p, some q => if SeqAt.shaped p && SeqAt.shaped q then some (PyData.eqv p q) else none
    | _, _ => none
def eqD (cs : Cells) (d e : D) : R := match eqB cs d e with
  | some b => .ok (.bl b) cs
  | none => .stuck
def neD (cs : Cells) (d e : D) : R := match eqB cs d e with
  | some b => .ok (.bl !b) cs
  | none => .stuck
theorem str_eq (a b : List Nat) : decide ((V.str ⟨a.toArray⟩ : V) = V.str ⟨b.toArray⟩) = decide (a = b) := by
  by_cases h : a = b
  · simp [h]
  · have : ¬ (V.str ⟨a.toArray⟩ : V) = V.str ⟨b.toArray⟩ := fun e => h (by simpa using e)
    simp [h, this]
section
variable {X : Cx} {W : WX} {pos : Pos} {a b c : Expr} {ma mb mc : ME}
theorem o2_eq {g : Gd} : O2 g (fun x y H Q => rEq x y H Q ∨ rEqD g.K x y H Q) eqD := by
  intro W H F c cs x y d e Q I rx ry po
  unfold eqD eqB at po
  split at po
  · rename_i b hb
    split at hb
    · simp only [Option.some.injEq] at hb
      subst hb
      cases rx; cases ry
      exact .inl ⟨rfl, by rw [str_eq]; exact PoE.here I (.bl _) po⟩
    · simp only [Option.some.injEq] at hb
      subst hb
      cases rx; cases ry
      exact .inl ⟨rfl, by simpa using PoE.here I (.bl _) po⟩
    · simp only [Option.some.injEq] at hb
      subst hb
      cases rx; cases ry
      exact .inl ⟨rfl, by simpa using PoE.here I (.bl _) po⟩
    · split at hb
      · rename_i p q e1 e2
        split at hb
        · rename_i sh
          simp only [Bool.and_eq_true] at sh
          simp only [Option.some.injEq] at hb
          subst hb
          exact .inr ⟨p, q, pyOf_dp I rx e1 (noDict_of (SeqAt.canLay_of_shaped sh.1)), pyOf_dp I ry e2 (noDict_of (SeqAt.canLay_of_shaped sh.2)), sh.1, sh.2, PoE.here I (.bl _) po⟩
        · cases hb
      · cases hb
  · exact po.elim
theorem o2_ne {g : Gd} : O2 g (fun x y H Q => rNe x y H Q ∨ rNeD g.K x y H Q) neD := by
  intro W H F c cs x y d e Q I rx ry po
  unfold neD eqB at po
  split at po
  · rename_i b hb
    split at hb
    · simp only [Option.some.injEq] at hb
      subst hb
      cases rx; cases ry
      exact .inl ⟨rfl, by rw [str_eq]; exact PoE.here I (.bl _) po⟩
    · simp only [Option.some.injEq] at hb
      subst hb
      cases rx; cases ry
      exact .inl ⟨rfl, by simpa using PoE.here I (.bl _) po⟩
    · simp only [Option.some.injEq] at hb
      subst hb
      cases rx; cases ry
      exact .inl ⟨rfl, by simpa using PoE.here I (.bl _) po⟩
    · split at hb
      · rename_i p q e1 e2
        split at hb
        · rename_i sh
          simp only [Bool.and_eq_true] at sh
          simp only [Option.some.injEq] at hb
          subst hb
          exact .inr ⟨p, q, pyOf_dp I rx e1 (noDict_of (SeqAt.canLay_of_shaped sh.1)), pyOf_dp I ry e2 (noDict_of (SeqAt.canLay_of_shaped sh.2)), sh.1, sh.2, PoE.here I (.bl _) po⟩
        · cases hb
      · cases hb
  · exact po.elim
/-- weak: a text whose token is not known -/
def XpW (X : Cx) (W : WX) (e : Expr) (m : ME) : Prop := ∃ t, PEw X e t ∧ ∀ σ env H F c cs Q, RE (gd X) F c σ env → Ih (gd X) H F c cs → PoE (gd X) (fun a b => W a b σ) H F c (m env cs) Q → t σ H Q
theorem Xp.w (h : Xp X W a ma) : XpW X W a ma := by
  obtain ⟨t, p, s⟩ := h
  exact ⟨t, p.w, s⟩
theorem xp_globS {x z : Str} {t : Tok} {l : List Nat} (hg : Gl X x) (hm : X.mg x = some (.str z t)) (h : z = ⟨l.toArray⟩) (hd : (x == ("__debug__" : Str)) = false := by decide) : XpW X W (.Name x pos) (eC (.str l)) := by
  subst h
  exact ⟨_, pew_glob hg hm (v := .str ⟨l.toArray⟩) ⟨_, rfl⟩ hd, fun σ env H F c cs Q re I po => PoE.here I (.str l) po⟩
theorem xp_cmpW {op : CmpOp} {r : R2} {f : Cells → D → D → R} (h : CmpR X (compareOp op) r) (o : O2 (gd X) r f) (ha : XpW X W a ma) (hb : XpW X W b mb) (hm : behindInMarks op b = false) : Xp X W (.Compare a [op] [b] pos) (op2 f ma mb) := by
  obtain ⟨ta, pa, sa⟩ := ha
  obtain ⟨tb, pb, sb⟩ := hb
  exact ⟨_, pe_cmpW h pa pb hm, fun σ env H F c cs Q re I po => sim2 sa sb o re I po⟩
theorem xp_eq (hu : X.A.units + 64 < cLine) (ha : XpW X W a ma) (hb : XpW X W b mb) (hm : behindInMarks .Eq b = false := by exact nomark _) : Xp X W (.Compare a [.Eq] [b] pos) (op2 eqD ma mb) := xp_cmpW (oc_eq.or (oc_eqD hu)) o2_eq ha hb hm
theorem xp_ne (hu : X.A.units + 64 < cLine) (ha : XpW X W a ma) (hb : XpW X W b mb) (hm : behindInMarks .NotEq b = false := by exact nomark _) : Xp X W (.Compare a [.NotEq] [b] pos) (op2 neD ma mb) := xp_cmpW (oc_ne.or (oc_neD hu)) o2_ne ha hb hm
/-- a comparison as a test -/
theorem xt_cmp {op : CmpOp} {r : R2} {f : Cells → D → D → R} (h : OpR X (compareOp op) r) (o : O2 (gd X) r f) (ha : Xp X W a ma) (hb : Xp X W b mb) (hm : behindInMarks op b = false) : Xt1 X W (.Compare a [op] [b] pos) (op2 f ma mb) := by
  obtain ⟨ta, pa, sa⟩ := ha
  obtain ⟨tb, pb, sb⟩ := hb
  refine ⟨_, pt_cmpR h pa pb hm, fun σ env H F c cs Q re I po => ?_⟩
  refine sim2 sa sb o re I (Q := fun x H' => ∃ k, x = .bl k ∧ Q k H') ?_
  cases e : op2 f ma mb env cs with
  | ok d cs1 =>
    rw [e] at po
    cases d with
    | bl b => exact fun H' F' c' x I' v rv => by cases rv; exact ⟨b, rfl, po H' F' c' x I'⟩
    | _ => exact po.elim
  | exc n fs cs1 => rw [e] at po; exact po
  | stuck => rw [e] at po; exact po.elim
theorem xt_cmpW {op : CmpOp} {r : R2} {f : Cells → D → D → R} (h : CmpR X (compareOp op) r) (o : O2 (gd X) r f) (ha : XpW X W a ma) (hb : XpW X W b mb) (hm : behindInMarks op b = false) : Xt1 X W (.Compare a [op] [b] pos) (op2 f ma mb) := by
  obtain ⟨ta, pa, sa⟩ := ha
  obtain ⟨tb, pb, sb⟩ := hb
  refine ⟨_, pt_cmpW h pa pb hm, fun σ env H F c cs Q re I po => ?_⟩
  refine sim2 sa sb o re I (Q := fun x H' => ∃ k, x = .bl k ∧ Q k H') ?_
  cases e : op2 f ma mb env cs with
  | ok d cs1 =>
    rw [e] at po
    cases d with
    | bl b => exact fun H' F' c' x I' v rv => by cases rv; exact ⟨b, rfl, po H' F' c' x I'⟩
    | _ => exact po.elim
  | exc n fs cs1 => rw [e] at po; exact po
  | stuck => rw [e] at po; exact po.elim
theorem xt_eq (hu : X.A.units + 64 < cLine) (ha : XpW X W a ma) (hb : XpW X W b mb) (hm : behindInMarks .Eq b = false := by exact nomark _) : Xt1 X W (.Compare a [.Eq] [b] pos) (op2 eqD ma mb) := xt_cmpW (oc_eq.or (oc_eqD hu)) o2_eq ha hb hm
theorem xt_ne (hu : X.A.units + 64 < cLine) (ha : XpW X W a ma) (hb : XpW X W b mb) (hm : behindInMarks .NotEq b = false := by exact nomark _) : Xt1 X W (.Compare a [.NotEq] [b] pos) (op2 neD ma mb) := xt_cmpW (oc_ne.or (oc_neD hu)) o2_ne ha hb hm

/-! ### order -/
def ltD (cs : Cells) (d e : D) : R := match d, e with
  | .int i, .int j => .ok (.bl (decide (i < j))) cs
  | _, _ => .stuck
def leD (cs : Cells) (d e : D) : R := match d, e with
  | .int i, .int j => .ok (.bl (decide (i ≤ j))) cs
  | _, _ => .stuck
def gtD (cs : Cells) (d e : D) : R := match d, e with
  | .int i, .int j => .ok (.bl (decide (j < i))) cs
  | _, _ => .stuck
def geD (cs : Cells) (d e : D) : R := match d, e with
  | .int i, .int j => .ok (.bl (decide (j ≤ i))) cs
  | _, _ => .stuck
theorem o2_lt {g : Gd} : O2 g (rI0 fun i j => .bl (decide (i < j))) ltD := by
  refine o2_ii0 (fun i j => .bl (decide (i < j))) (fun _ _ _ _ _ => .bl _) fun cs d e => ?_
  unfold ltD
  split
  · exact .inr ⟨_, _, rfl, rfl, rfl⟩
  · exact .inl rfl
theorem o2_le {g : Gd} : O2 g (rI0 fun i j => .bl (decide (i ≤ j))) leD := by
  refine o2_ii0 (fun i j => .bl (decide (i ≤ j))) (fun _ _ _ _ _ => .bl _) fun cs d e => ?_
  unfold leD
  split
  · exact .inr ⟨_, _, rfl, rfl, rfl⟩
  · exact .inl rfl
theorem o2_gt {g : Gd} : O2 g (rI0 fun i j => .bl (decide (j < i))) gtD := by
  refine o2_ii0 (fun i j => .bl (decide (j < i))) (fun _ _ _ _ _ => .bl _) fun cs d e => ?_
  unfold gtD
  split
  · exact .inr ⟨_, _, rfl, rfl, rfl⟩
  · exact .inl rfl
theorem o2_ge {g : Gd} : O2 g (rI0 fun i j => .bl (decide (j ≤ i))) geD := by
  refine o2_ii0 (fun i j => .bl (decide (j ≤ i))) (fun _ _ _ _ _ => .bl _) fun cs d e => ?_
  unfold geD
  split
  · exact .inr ⟨_, _, rfl, rfl, rfl⟩
  · exact .inl rfl
theorem xp_lt (ha : Xp X W a ma) (hb : Xp X W b mb) (hm : behindInMarks .Lt b = false := by exact nomark _) : Xp X W (.Compare a [.Lt] [b] pos) (op2 ltD ma mb) := xp_cmp op_lt o2_lt ha hb hm
theorem xt_lt (ha : Xp X W a ma) (hb : Xp X W b mb) (hm : behindInMarks .Lt b = false := by exact nomark _) : Xt1 X W (.Compare a [.Lt] [b] pos) (op2 ltD ma mb) := xt_cmp op_lt o2_lt ha hb hm
theorem xp_le (ha : Xp X W a ma) (hb : Xp X W b mb) (hm : behindInMarks .LtE b = false := by exact nomark _) : Xp X W (.Compare a [.LtE] [b] pos) (op2 leD ma mb) := xp_cmp op_le o2_le ha hb hm
theorem xt_le (ha : Xp X W a ma) (hb : Xp X W b mb) (hm : behindInMarks .LtE b = false := by exact nomark _) : Xt1 X W (.Compare a [.LtE] [b] pos) (op2 leD ma mb) := xt_cmp op_le o2_le ha hb hm
theorem xp_gt (ha : Xp X W a ma) (hb : Xp X W b mb) (hm : behindInMarks .Gt b = false := by exact nomark _) : Xp X W (.Compare a [.Gt] [b] pos) (op2 gtD ma mb) := xp_cmp op_gt o2_gt ha hb hm
theorem xt_gt (ha : Xp X W a ma) (hb : Xp X W b mb) (hm : behindInMarks .Gt b = false := by exact nomark _) : Xt1 X W (.Compare a [.Gt] [b] pos) (op2 gtD ma mb) := xt_cmp op_gt o2_gt ha hb hm
theorem xp_ge (ha : Xp X W a ma) (hb : Xp X W b mb) (hm : behindInMarks .GtE b = false := by exact nomark _) : Xp X W (.Compare a [.GtE] [b] pos) (op2 geD ma mb) := xp_cmp op_ge o2_ge ha hb hm
theorem xt_ge (ha : Xp X W a ma) (hb : Xp X W b mb) (hm : behindInMarks .GtE b = false := by exact nomark _) : Xt1 X W (.Compare a [.GtE] [b] pos) (op2 geD ma mb) := xt_cmp op_ge o2_ge ha hb hm

/-! ### a < b < c -/
def eChain (f f' : Cells → D → D → R) (a b c : ME) : ME := fun env cs => (a env cs).bind fun x cs1 => (b env cs1).bind fun y cs2 => (f cs2 x y).bind fun z cs3 => brD z cs3 (fun cs4 => (c env cs4).bind fun w cs5 => f' cs5 y w) fun cs4 => .ok (.bl false) cs4
theorem simChain {ta tb tc : TE} {r r' : R2} {f f' : Cells → D → D → R} {σ : L2.St} {env : Env} {H F : Hp} {c : List Addr} {cs : Cells} {Q : VK}
    (ha : ∀ σ env H F c cs Q, RE (gd X) F c σ env → Ih (gd X) H F c cs → PoE (gd X) (fun a b => W a b σ) H F c (ma env cs) Q → ta σ H Q)
    (hb : ∀ σ env H F c cs Q, RE (gd X) F c σ env → Ih (gd X) H F c cs → PoE (gd X) (fun a b => W a b σ) H F c (mb env cs) Q → tb σ H Q)
    (hc : ∀ σ env H F c cs Q, RE (gd X) F c σ env → Ih (gd X) H F c cs → PoE (gd X) (fun a b => W a b σ) H F c (mc env cs) Q → tc σ H Q)
    (ho : O2 (gd X) r f) (ho' : O2 (gd X) r' f') (re : RE (gd X) F c σ env) (I : Ih (gd X) H F c cs) (po : PoE (gd X) (fun a b => W a b σ) H F c (eChain f f' ma mb mc env cs) Q) : tChain r r' ta tb tc σ H Q := by
  refine ha σ env H F c cs _ re I (PoE.cut po _ fun d cs1 _ H1 F1 c1 v x1 I1 rv po1 => ?_)
  refine hb σ env H1 F1 c1 cs1 _ (re.mono x1.le) I1 (PoE.cut po1 _ fun e cs2 _ H2 F2 c2 u x2 I2 ru po2 => ?_)
  refine ho _ H2 F2 c2 cs2 v u d e _ I2 (rv.mono x2.le) ru (PoE.cut po2 _ fun z cs3 _ H3 F3 c3 w x3 I3 rw' po3 => ?_)
  cases z with
  | bl k =>
    cases rw'
    cases k with
    | true =>
      refine ⟨true, rfl, iteT ?_⟩
      refine hc σ env H3 F3 c3 cs3 _ (((re.mono x1.le).mono x2.le).mono x3.le) I3 (PoE.cut po3 _ fun z2 cs4 _ H4 F4 c4 w2 x4 I4 rw2 po4 => ?_)
      exact ho' _ H4 F4 c4 cs4 u w2 e z2 Q I4 ((ru.mono x3.le).mono x4.le) rw2 po4
    | false => exact ⟨false, rfl, iteF (PoE.here I3 (.bl false) po3)⟩
  | _ => exact po3.elim
theorem xp_chain {op op' : CmpOp} {r r' : R2} {f f' : Cells → D → D → R} (h : OpR X (compareOp op) r) (o : O2 (gd X) r f) (h' : OpR X (compareOp op') r') (o' : O2 (gd X) r' f') (ha : Xp X W a ma) (hb : Xp X W b mb) (hc : Xp X W c mc) (hm : lastMarks [op, op'] [b, c] = false := by with_unfolding_all rfl) : Xp X W (.Compare a [op, op'] [b, c] pos) (eChain f f' ma mb mc) := by
  obtain ⟨ta, pa, sa⟩ := ha
  obtain ⟨tb, pb, sb⟩ := hb
  obtain ⟨tc, pc, sc⟩ := hc
  exact ⟨_, pe_chain h h' pa pb pc hm, fun σ env H F c cs Q re I po => simChain sa sb sc o o' re I po⟩
theorem xt_chain {op op' : CmpOp} {r r' : R2} {f f' : Cells → D → D → R} (h : OpR X (compareOp op) r) (o : O2 (gd X) r f) (h' : OpR X (compareOp op') r') (o' : O2 (gd X) r' f') (ha : Xp X W a ma) (hb : Xp X W b mb) (hc : Xp X W c mc) (hm : lastMarks [op, op'] [b, c] = false := by with_unfolding_all rfl) : Xt1 X W (.Compare a [op, op'] [b, c] pos) (eChain f f' ma mb mc) := by
  obtain ⟨ta, pa, sa⟩ := ha
  obtain ⟨tb, pb, sb⟩ := hb
  obtain ⟨tc, pc, sc⟩ := hc
  refine ⟨_, pt_chain h h' pa pb pc hm, fun σ env H F c cs Q re I po => ?_⟩
  refine simChain sa sb sc o o' re I (Q := fun x H' => ∃ k, x = .bl k ∧ Q k H') ?_
  cases e : eChain f f' ma mb mc env cs with
  | ok d cs1 =>
    rw [e] at po
    cases d with
    | bl b => exact fun H' F' c' x I' v rv => by cases rv; exact ⟨b, rfl, po H' F' c' x I'⟩
    | _ => exact po.elim
  | exc n fs cs1 => rw [e] at po; exact po
  | stuck => rw [e] at po; exact po.elim

/-! ### is -/
def isB (k : Option Bool) (cs : Cells) (d : D) : R := .ok (.bl (match k, d with
  | none, .non => true
  | some b, .bl b' => decide (b' = b)
  | _, _ => false)) cs
def isNB (k : Option Bool) (cs : Cells) (d : D) : R := .ok (.bl !(match k, d with
  | none, .non => true
  | some b, .bl b' => decide (b' = b)
  | _, _ => false)) cs
theorem rv_non {g : Gd} {F : Hp} {c : List Addr} {v : V} {d : D} (r : RV g F c v d) : decide (v = .non) = (match d with | .non => true | _ => false) := by
  cases r <;> rfl
theorem rv_bl {g : Gd} {F : Hp} {c : List Addr} {v : V} {d : D} (b : Bool) (r : RV g F c v d) : decide (v = .bl b) = (match d with | .bl b' => decide (b' = b) | _ => false) := by
  cases r <;> first | rfl | simp
theorem xp_isN {j} {p : Pos} (ha : Xp X W a ma) : Xp X W (.Compare a [.Is] [.Constant .none j p] pos) (op1 (isB none) ma) := by
  obtain ⟨ta, pa, sa⟩ := ha
  refine ⟨_, pe_cmp (pc_isN pa) rfl, fun σ env H F c cs Q re I po => ?_⟩
  refine sa σ env H F c cs _ re I (PoE.cut po _ fun d cs1 _ H1 F1 c1 v x1 I1 rv po1 => ?_)
  rw [rv_non rv]
  cases d <;> exact PoE.here I1 (.bl _) po1
theorem xp_notN {j} {p : Pos} (ha : Xp X W a ma) : Xp X W (.Compare a [.IsNot] [.Constant .none j p] pos) (op1 (isNB none) ma) := by
  obtain ⟨ta, pa, sa⟩ := ha
  refine ⟨_, pe_cmp (pc_notN pa) rfl, fun σ env H F c cs Q re I po => ?_⟩
  refine sa σ env H F c cs _ re I (PoE.cut po _ fun d cs1 _ H1 F1 c1 v x1 I1 rv po1 => ?_)
  rw [rv_non rv]
  cases d <;> exact PoE.here I1 (.bl _) po1
theorem op_isB {X : Cx} : OpR X (compareOp .Is) (fun x y H Q => ∃ b, y = .bl b ∧ Q (.bl (decide (x = .bl b))) H) := by
  rintro pins s σ H x y v u Q I ⟨rx, _⟩ ⟨ry, _⟩ h
  obtain ⟨b, rfl, q⟩ := h
  cases (show u = Value.bool b from ry)
  have hp : plainIs v (.bool b) = true := by
    cases x <;> first | (cases (show v = _ from rx); rfl) | (obtain ⟨t, rfl⟩ := rx; rfl)
  by_cases e : x = .bl b
  · subst e
    cases (show v = Value.bool b from rx)
    exact wpAny_is_self hp (endB I (by simpa using q))
  · have ne : v ≠ .bool b := by
      rintro rfl
      cases x <;> first | (cases (show Value.bool b = _ from rx); try exact e rfl) | (obtain ⟨t, z⟩ := rx; cases z)
    exact wpAny_is_other hp ne (endB I (by simpa [e] using q))
theorem op_isNB {X : Cx} : OpR X (compareOp .IsNot) (fun x y H Q => ∃ b, y = .bl b ∧ Q (.bl (!decide (x = .bl b))) H) := by
  rintro pins s σ H x y v u Q I ⟨rx, _⟩ ⟨ry, _⟩ h
  obtain ⟨b, rfl, q⟩ := h
  cases (show u = Value.bool b from ry)
  have hp : plainIs v (.bool b) = true := by
    cases x <;> first | (cases (show v = _ from rx); rfl) | (obtain ⟨t, rfl⟩ := rx; rfl)
  by_cases e : x = .bl b
  · subst e
    cases (show v = Value.bool b from rx)
    exact wpAny_isNot_self hp (endB I (by simpa using q))
  · have ne : v ≠ .bool b := by
      rintro rfl
      cases x <;> first | (cases (show Value.bool b = _ from rx); try exact e rfl) | (obtain ⟨t, z⟩ := rx; cases z)
    exact wpAny_isNot_other hp ne (endB I (by simpa [e] using q))
theorem xp_isB {j} {p : Pos} {b : Bool} (ha : Xp X W a ma) : Xp X W (.Compare a [.Is] [.Constant (.bool b) j p] pos) (op1 (isB (some b)) ma) := by
  obtain ⟨ta, pa, sa⟩ := ha
  refine ⟨_, pe_cmpR op_isB pa pe_bl (nomark _), fun σ env H F c cs Q re I po => ?_⟩
  refine sa σ env H F c cs _ re I (PoE.cut po _ fun d cs1 _ H1 F1 c1 v x1 I1 rv po1 => ?_)
  refine ⟨b, rfl, ?_⟩
  rw [rv_bl b rv]
  cases d <;> exact PoE.here I1 (.bl _) po1
theorem xp_isNB {j} {p : Pos} {b : Bool} (ha : Xp X W a ma) : Xp X W (.Compare a [.IsNot] [.Constant (.bool b) j p] pos) (op1 (isNB (some b)) ma) := by
  obtain ⟨ta, pa, sa⟩ := ha
  refine ⟨_, pe_cmpR op_isNB pa pe_bl (nomark _), fun σ env H F c cs Q re I po => ?_⟩
  refine sa σ env H F c cs _ re I (PoE.cut po _ fun d cs1 _ H1 F1 c1 v x1 I1 rv po1 => ?_)
  refine ⟨b, rfl, ?_⟩
  rw [rv_bl b rv]
  cases d <;> exact PoE.here I1 (.bl _) po1
/-- any comparison that is a value, as a test -/
theorem xt_of {t : TE} {op : CmpOp} (hp : PE X (.Compare a [op] [b] pos) t) : True := trivial
end
end L3

namespace L3
open PySem L2

/-! ### statements -/
def R.toS (r : R) (env : Env) (k : D → Cells → S) : S := match r with
  | .ok d cs => k d cs
  | .exc n fs cs => .exc n fs env cs
  | .stuck => .stuck
@[simp] theorem R.toS_ok (d : D) (cs : Cells) (env : Env) (k : D → Cells → S) : (R.ok d cs).toS env k = k d cs := rfl
@[simp] theorem R.toS_exc (n : Str) (fs : List (Str × D)) (cs : Cells) (env : Env) (k : D → Cells → S) : (R.exc n fs cs).toS env k = .exc n fs env cs := rfl
@[simp] theorem R.toS_stuck (env : Env) (k : D → Cells → S) : R.stuck.toS env k = .stuck := rfl
def S.bind (s : S) (k : Env → Cells → S) : S := match s with
  | .nx e c => k e c
  | s => s
@[simp] theorem S.bind_nx (e : Env) (c : Cells) (k : Env → Cells → S) : (S.nx e c).bind k = k e c := rfl
@[simp] theorem S.bind_rt (d : D) (c : Cells) (k : Env → Cells → S) : (S.rt d c).bind k = .rt d c := rfl
@[simp] theorem S.bind_exc (n : Str) (fs : List (Str × D)) (e : Env) (c : Cells) (k : Env → Cells → S) : (S.exc n fs e c).bind k = .exc n fs e c := rfl
@[simp] theorem S.bind_bk (e : Env) (c : Cells) (k : Env → Cells → S) : (S.bk e c).bind k = .bk e c := rfl
@[simp] theorem S.bind_ct (e : Env) (c : Cells) (k : Env → Cells → S) : (S.ct e c).bind k = .ct e c := rfl
@[simp] theorem S.bind_stuck (k : Env → Cells → S) : S.stuck.bind k = .stuck := rfl
def brS (x : D) (a b : S) : S := match x with
  | .bl true => a
  | .bl false => b
  | _ => .stuck
@[simp] theorem brS_true (a b : S) : brS (.bl true) a b = a := rfl
@[simp] theorem brS_false (a b : S) : brS (.bl false) a b = b := rfl

def sNx : MS := fun env cs => .nx env cs
def sSeq (a b : MS) : MS := fun env cs => (a env cs).bind b
def sAsg (i : Nat) (m : ME) : MS := fun env cs => (m env cs).toS env fun d cs1 => .nx (env.set i (some d)) cs1
def sIf (t : ME) (a b : MS) : MS := fun env cs => (t env cs).toS env fun d cs1 => brS d (a env cs1) (b env cs1)
def sRet (m : ME) : MS := fun env cs => (m env cs).toS env fun d cs1 => .rt d cs1
def sDrop (m : ME) : MS := fun env cs => (m env cs).toS env fun _ cs1 => .nx env cs1
def sBk : MS := fun env cs => .bk env cs
def sCt : MS := fun env cs => .ct env cs
def sNo : MS := fun _ _ => .stuck

theorem PoS.cut {g : Gd} {W : WX} {Dn : Ends} {H F : Hp} {c : List Addr} {r : R} {env : Env} {σ : L2.St} {k : D → Cells → S} (re : RE g F c σ env) (h : PoS g W Dn H F c (r.toS env k)) :
    ∀ Q' : VK, (∀ d cs, r = .ok d cs → ∀ H1 F1 c1 v, Xt H F c H1 F1 c1 → Ih g H1 F1 c1 cs → RV g F1 c1 v d → PoS g W Dn H1 F1 c1 (k d cs) → Q' v H1) → PoE g (fun a b => W a b σ) H F c r Q' := by
  intro Q' hk
  cases r with
  | ok d cs => exact fun H1 F1 c1 x I v rv => hk d cs rfl H1 F1 c1 v x I rv (PoS.from x h)
  | exc n fs cs => exact fun H1 F1 c1 x I C dx vs a b d => h H1 F1 c1 x I σ C dx vs (re.mono x.le) a b d
  | stuck => exact h.elim
theorem PoS.br {g : Gd} {W : WX} {Dn : Ends} {H F : Hp} {c : List Addr} {r : R} {env : Env} {σ : L2.St} {a b : Cells → S} (re : RE g F c σ env) (h : PoS g W Dn H F c (r.toS env fun d cs1 => brS d (a cs1) (b cs1))) :
    ∀ Q' : Bool → Hp → Prop, (∀ t cs, r = .ok (.bl t) cs → ∀ H1 F1 c1, Xt H F c H1 F1 c1 → Ih g H1 F1 c1 cs → PoS g W Dn H1 F1 c1 (if t = true then a cs else b cs) → Q' t H1) → PoT g (fun a b => W a b σ) H F c r Q' := by
  intro Q' hq
  cases r with
  | ok d cs =>
    cases d with
    | bl t => exact fun H1 F1 c1 x I => hq t cs rfl H1 F1 c1 x I (by cases t <;> exact PoS.from x h)
    | _ => exact h.elim
  | exc n fs cs => exact fun H1 F1 c1 x I C dx vs a b d => h H1 F1 c1 x I σ C dx vs (re.mono x.le) a b d
  | stuck => exact h.elim
theorem PoS.next {g : Gd} {W : WX} {Dn : Ends} {H F : Hp} {c : List Addr} {env : Env} {σ : L2.St} {cs : Cells} (I : Ih g H F c cs) (re : RE g F c σ env) (h : PoS g W Dn H F c (.nx env cs)) : Dn.nx σ H := h H F c (Xt.refl _ _ _) I σ re
section
variable {X : Cx} {W : WX} {pos : Pos} {e t : Expr} {m mt : ME} {st : Stmt} {ss tt : List Stmt} {a b : MS}
theorem sms_nil : Sms X W [] sNx := ⟨_, pss_nil, fun _ _ _ _ _ _ _ re I po => PoS.next I re po⟩
theorem seq_sim {ta tb : TS} (sa : ∀ σ env H F c cs Dn, RE (gd X) F c σ env → Ih (gd X) H F c cs → PoS (gd X) W Dn H F c (a env cs) → ta Dn σ H)
    (sb : ∀ σ env H F c cs Dn, RE (gd X) F c σ env → Ih (gd X) H F c cs → PoS (gd X) W Dn H F c (b env cs) → tb Dn σ H) :
    ∀ σ env H F c cs Dn, RE (gd X) F c σ env → Ih (gd X) H F c cs → PoS (gd X) W Dn H F c (sSeq a b env cs) → tSeq ta tb Dn σ H := by
  intro σ env H F c cs Dn re I po
  refine sa σ env H F c cs _ re I ?_
  unfold sSeq at po
  cases h : a env cs with
  | nx e1 c1 => rw [h] at po; exact fun H' F' c' x I' σ' re' => sb σ' e1 H' F' c' c1 Dn re' I' (PoS.from x po)
  | rt d c1 => rw [h] at po; exact po
  | bk e1 c1 => rw [h] at po; exact po
  | ct e1 c1 => rw [h] at po; exact po
  | exc n fs e1 c1 => rw [h] at po; exact po
  | stuck => rw [h] at po; exact po.elim
theorem sms_cons (ha : Sm X W st a) (hb : Sms X W ss b) : Sms X W (st :: ss) (sSeq a b) := by
  obtain ⟨ta, pa, sa⟩ := ha
  obtain ⟨tb, pb, sb⟩ := hb
  exact ⟨_, pss_cons pa pb, seq_sim sa sb⟩
theorem sms_one (ha : Sm X W st a) : Sms X W [st] a := by
  obtain ⟨ta, pa, sa⟩ := ha
  exact ⟨_, pss_one pa, sa⟩
theorem sm_set {i : Nat} {x : Str} {pos' : Pos} (hN : X.N.Nodup) (hi : X.N[i]? = some x) (hx : Loc X.env.scope x) (h : Xp X W e m) (hs : swapsWith e (some (.Name x pos')) pos.line X.env = pure false := by rfl) (hf : X.fn x = true ∨ X.env.scope.names.lookup x = some .local := by first | exact .inl rfl | exact .inr rfl | assumption) : Sm X W (.Assign [.Name x pos'] e pos) (sAsg i m) := by
  obtain ⟨t, p, s⟩ := h
  refine ⟨_, ps_set hN hi hx p hs hf, fun σ env H F c cs Dn re I po => ?_⟩
  refine s σ env H F c cs _ re I (PoS.cut re po _ fun d cs1 _ H1 F1 c1 v x1 I1 rv po1 => ?_)
  exact PoS.next I1 ((re.mono x1.le).set i rv) po1
theorem sm_ret (h : Xp X W e m) : Sm X W (.Return (some e) pos) (sRet m) := by
  obtain ⟨t, p, s⟩ := h
  refine ⟨_, ps_ret p, fun σ env H F c cs Dn re I po => ?_⟩
  exact s σ env H F c cs _ re I (PoS.cut re po _ fun d cs1 _ H1 F1 c1 v x1 I1 rv po1 => po1 _ _ _ (Xt.refl _ _ _) I1 v rv)
theorem sm_retN : Sm X W (.Return none pos) (sRet (eC .non)) := ⟨_, ps_retN, fun σ env H F c cs Dn re I po => po _ _ _ (Xt.refl _ _ _) I .non .non⟩
theorem sm_expr (h : Xp X W e m) (hs : swapsWith e none pos.line X.env = pure false := by rfl) : Sm X W (.Expr e pos) (sDrop m) := by
  obtain ⟨t, p, s⟩ := h
  refine ⟨_, ps_expr p hs, fun σ env H F c cs Dn re I po => ?_⟩
  exact s σ env H F c cs _ re I (PoS.cut re po _ fun d cs1 _ H1 F1 c1 v x1 I1 rv po1 => PoS.next I1 (re.mono x1.le) po1)
theorem sm_pass : Sm X W (.Pass pos) sNx := ⟨_, ps_pass, fun _ _ _ _ _ _ _ re I po => PoS.next I re po⟩
theorem sm_break : Sm X W (.Break pos) sBk := ⟨_, ps_break, fun _ _ _ _ _ _ _ re I po => po _ _ _ (Xt.refl _ _ _) I _ re⟩
theorem sm_continue : Sm X W (.Continue pos) sCt := ⟨_, ps_continue, fun _ _ _ _ _ _ _ re I po => po _ _ _ (Xt.refl _ _ _) I _ re⟩
theorem sm_no : Sm X W st sNo := ⟨_, ps_never, fun _ _ _ _ _ _ _ _ _ po => po⟩
theorem sm_if (ht : Xt1 X W t mt) (ha : Sms X W ss a) (hb : Sms X W tt b) : Sm X W (.If t ss tt pos) (sIf mt a b) := by
  obtain ⟨tc, pc, sc⟩ := ht
  obtain ⟨ta, pa, sa⟩ := ha
  obtain ⟨tb, pb, sb⟩ := hb
  refine ⟨_, ps_if pc pa pb, fun σ env H F c cs Dn re I po => ?_⟩
  refine sc σ env H F c cs _ re I (PoS.br (a := fun cs1 => a env cs1) (b := fun cs1 => b env cs1) re po _ fun k cs1 _ H1 F1 c1 x I1 po1 => ?_)
  cases k with
  | true => exact iteT (sa σ env H1 F1 c1 cs1 Dn (re.mono x.le) I1 po1)
  | false => exact iteF (sb σ env H1 F1 c1 cs1 Dn (re.mono x.le) I1 po1)
end

/-! ### loops -/
open Classical in
/-- one item behind the other; chk: what must hold whenever the next one is asked for -/
noncomputable def forL (chk : Cells → Prop) (tg : D → Env → Option Env) (body : MS) : List D → Env → Cells → S
  | [], env, cs => if chk cs then .nx env cs else .stuck
  | d :: ds, env, cs => if chk cs then (match tg d env with
    | none => .stuck
    | some env1 => match body env1 cs with
      | .nx e c => forL chk tg body ds e c
      | .ct e c => forL chk tg body ds e c
      | .bk e c => .nx e c
      | r => r) else .stuck
theorem forL_chk {chk : Cells → Prop} {tg : D → Env → Option Env} {body : MS} {ds : List D} {env : Env} {cs : Cells} (h : ¬ chk cs) : forL chk tg body ds env cs = .stuck := by
  cases ds <;> simp [forL, h]
/-- an iterator gives these items, as long as ok holds -/
structure Itk (g : Gd) (J : It) (items : List D) (ok : Hp → Hp → List Addr → Cells → Prop) : Prop where
  go : ∀ (i : Nat) H F c cs, Ih g H F c cs → ok H F c cs → i < items.length → J.go i H
  yld : ∀ (i : Nat) H F c cs d, Ih g H F c cs → ok H F c cs → items[i]? = some d → ∀ x H', J.yld i H x H' → ∃ F', Xt H F c H' F' c ∧ Ih g H' F' c cs ∧ RV g F' c x d
  stop : ∀ (i : Nat) H F c cs, Ih g H F c cs → ok H F c cs → i = items.length → J.stop i H
/-- a target -/
def Tgt (X : Cx) (tg : Expr) (f : D → Env → Option Env) (own : List Nat) : Prop := ∃ tG, PG X tg tG ∧ ∀ σ env H F c cs v d env1 Q, RE (gd X) F c σ env → Ih (gd X) H F c cs → RV (gd X) F c v d → f d env = some env1 → (∀ σ1, RE (gd X) F c σ1 env1 → L2.wipe σ1 own = L2.wipe σ own → Q σ1 H) → tG v σ H Q
theorem wipe_get (σ : L2.St) (j : Nat) : ∀ vs : List Nat, (L2.wipe σ vs)[j]? = if j ∈ vs then (if j < σ.length then some none else none) else σ[j]?
  | [] => by simp [L2.wipe]
  | v :: vs => by
    unfold L2.wipe
    have ih := wipe_get σ j vs
    by_cases h : j = v
    · subst h
      by_cases hl : j < σ.length
      · rw [List.getElem?_set_self (by rw [wipe_length]; exact hl)]; simp [hl]
      · rw [List.getElem?_eq_none (by rw [List.length_set, wipe_length]; omega)]; simp [hl]
    · rw [List.getElem?_set_ne (Ne.symm h), ih]
      simp [h]
theorem wipe_set {σ : L2.St} {i : Nat} {x : Option V} {vs : List Nat} (h : i ∈ vs) : L2.wipe (σ.set i x) vs = L2.wipe σ vs := by
  apply List.ext_getElem?
  intro j
  rw [wipe_get, wipe_get]
  by_cases hj : j ∈ vs
  · simp [hj]
  · have : j ≠ i := fun e => hj (e ▸ h)
    simp [hj, List.getElem?_set_ne (Ne.symm this)]
theorem wipe_wipe (σ : L2.St) (vs : List Nat) : L2.wipe (L2.wipe σ vs) vs = L2.wipe σ vs := by
  apply List.ext_getElem?
  intro j
  rw [wipe_get, wipe_length]
  by_cases hj : j ∈ vs <;> simp [hj, wipe_get]
theorem for_sim {g : Gd} {W : WX} {J : It} {items : List D} {kn : Hp → List Addr → Prop} {chk : Cells → Prop} (K : Itk g J items fun H F c cs => kn F c ∧ chk cs) (km : ∀ F c F' c', Le F c F' c' → kn F c → kn F' c')
    {tg : D → Env → Option Env} {body : MS} {tG : TG} {tb : TS} (hg : ∀ σ env H F c cs v d env1 Q, RE g F c σ env → Ih g H F c cs → RV g F c v d → tg d env = some env1 → (∀ σ1, RE g F c σ1 env1 → Q σ1 H) → tG v σ H Q)
    (hb : ∀ σ env H F c cs Dn, RE g F c σ env → Ih g H F c cs → PoS g W Dn H F c (body env cs) → tb Dn σ H)
    {σ : L2.St} {env : Env} {H F : Hp} {c : List Addr} {cs : Cells} {Dn : Ends} (re : RE g F c σ env) (I : Ih g H F c cs) (hk : kn F c) (po : PoS g W Dn H F c (forL chk tg body items env cs)) :
    ∃ Wi : Nat → Nat → L2.St → Hp → Prop, (∃ m, Wi 0 m σ H) ∧ ∀ i m σ H, Wi i m σ H →
      (J.stop i H ∧ Dn.nx σ H) ∨ (J.go i H ∧ ∃ N : L2.St → Hp → Prop, (∀ σ' H', N σ' H' → ∃ m', m' < m ∧ Wi (i + 1) m' σ' H') ∧ ∀ x H', J.yld i H x H' → tG x σ H' fun σ2 H2 => tb { Dn with nx := N, ct := N, bk := Dn.nx } σ2 H2) := by
  refine ⟨fun i m σ H => m = items.length - i ∧ i ≤ items.length ∧ ∃ env F c cs, RE g F c σ env ∧ Ih g H F c cs ∧ kn F c ∧ PoS g W Dn H F c (forL chk tg body (items.drop i) env cs), ⟨_, rfl, Nat.zero_le _, env, F, c, cs, re, I, hk, by simpa using po⟩, ?_⟩
  rintro i m σ H ⟨rfl, hi, env, F, c, cs, re, I, hk, po⟩
  by_cases hc : chk cs
  · by_cases hlt : i < items.length
    · refine .inr ⟨K.go i H F c cs I ⟨hk, hc⟩ hlt, fun σ' H' => ∃ m', m' < items.length - i ∧ (m' = items.length - (i + 1) ∧ i + 1 ≤ items.length ∧ ∃ env F c cs, RE g F c σ' env ∧ Ih g H' F c cs ∧ kn F c ∧ PoS g W Dn H' F c (forL chk tg body (items.drop (i + 1)) env cs)), fun σ' H' h => h, fun x H' y => ?_⟩
      obtain ⟨F', x1, I1, rv⟩ := K.yld i H F c cs items[i] I ⟨hk, hc⟩ (by simp [hlt]) x H' y
      rw [List.drop_eq_getElem_cons hlt] at po
      simp only [forL, hc, if_true] at po
      cases ht : tg items[i] env with
      | none => rw [ht] at po; exact po.elim
      | some env1 =>
        rw [ht] at po
        simp only at po
        refine hg σ env H' F' c cs x _ env1 _ (re.mono x1.le) I1 rv ht fun σ1 re1 => ?_
        have po' := PoS.from x1 po
        have k1 := km _ _ _ _ x1.le hk
        refine hb σ1 env1 H' F' c cs _ re1 I1 ?_
        have nxt : ∀ {e1 : Env} {c1 : Cells} {H2 F2 : Hp} {c2 : List Addr} {σ2 : L2.St}, Xt H' F' c H2 F2 c2 → Ih g H2 F2 c2 c1 → RE g F2 c2 σ2 e1 → PoS g W Dn H' F' c (forL chk tg body (items.drop (i + 1)) e1 c1) →
            ∃ m', m' < items.length - i ∧ (m' = items.length - (i + 1) ∧ i + 1 ≤ items.length ∧ ∃ env F c cs, RE g F c σ2 env ∧ Ih g H2 F c cs ∧ kn F c ∧ PoS g W Dn H2 F c (forL chk tg body (items.drop (i + 1)) env cs)) :=
          fun x2 I2 re2 p2 => ⟨_, by omega, rfl, hlt, _, _, _, _, re2, I2, km _ _ _ _ x2.le k1, PoS.from x2 p2⟩
        cases hbd : body env1 cs with
        | nx e1 c1 => rw [hbd] at po'; exact fun H2 F2 c2 x2 I2 σ2 re2 => nxt x2 I2 re2 po'
        | ct e1 c1 => rw [hbd] at po'; exact fun H2 F2 c2 x2 I2 σ2 re2 => nxt x2 I2 re2 po'
        | bk e1 c1 => rw [hbd] at po'; exact po'
        | rt d c1 => rw [hbd] at po'; exact po'
        | exc n fs e1 c1 => rw [hbd] at po'; exact po'
        | stuck => rw [hbd] at po'; exact po'.elim
    · have e : i = items.length := by omega
      subst e
      rw [List.drop_length] at po
      simp only [forL, hc, if_true] at po
      exact .inl ⟨K.stop _ H F c cs I ⟨hk, hc⟩ rfl, PoS.next I re po⟩
  · rw [forL_chk hc] at po
    exact po.elim
section
variable {g : Gd}
theorem itk_list {a : Addr} {d : D} {items : List D} (hd : ∀ l, d ≠ .tup l) : Itk g (Itl g.K a) items fun H F c cs => RV g F c (.ref a) d ∧ seqOf cs d = some items := by
  have get : ∀ {H F c cs}, Ih g H F c cs → RV g F c (.ref a) d ∧ seqOf cs d = some items → ∃ vs, SqL g.K H a vs ∧ RVs g F c vs items := by
    rintro H F c cs I ⟨r, h⟩
    have fl : listOf cs d = some items → ∃ vs, SqL g.K H a vs ∧ RVs g F c vs items := fun h => by
      obtain ⟨b, vs, e, h1, h2⟩ := listOf_at I r h
      cases e
      exact ⟨vs, .inl (.inl h1), h2⟩
    cases d with
    | tup l => exact absurd rfl (hd l)
    | scr l =>
      simp only [seqOf, Option.some.injEq] at h
      subst h
      cases r with
      | scr h1 => exact ⟨_, SqL.up I.sub h1, rvs_ints _⟩
    | _ => exact fl h
  refine ⟨fun i H F c cs I ok hi => ?_, fun i H F c cs d' I ok hd x H' y => ?_, fun i H F c cs I ok hi => ?_⟩
  · obtain ⟨vs, h1, h2⟩ := get I ok
    exact ⟨vs, vs[i]'(by rw [h2.length]; exact hi), h1, by simp⟩
  · obtain ⟨vs, h1, h2⟩ := get I ok
    obtain ⟨rfl, y⟩ := y
    obtain ⟨v, e, rv⟩ := h2.get hd
    have := y vs h1
    rw [e] at this
    cases this
    exact ⟨F, Xt.refl _ _ _, I, rv⟩
  · obtain ⟨vs, h1, h2⟩ := get I ok
    exact ⟨vs, h1, by rw [h2.length]; omega⟩
theorem itk_tup {a : Addr} {items : List D} : Itk g (Itt g.K a) items fun H F c cs => RV g F c (.ref a) (.tup items) ∧ seqOf cs (.tup items) = some items := by
  have get : ∀ {H F c cs}, Ih g H F c cs → RV g F c (.ref a) (.tup items) → ∃ vs, SqT g.K H a vs ∧ RVs g F c vs items := by
    intro H F c cs I r
    cases r with
    | tup h1 h2 => exact ⟨_, SqT.up I.sub h1, h2⟩
  refine ⟨fun i H F c cs I ok hi => ?_, fun i H F c cs d' I ok hd x H' y => ?_, fun i H F c cs I ok hi => ?_⟩
  · obtain ⟨vs, h1, h2⟩ := get I ok.1
    exact ⟨vs, vs[i]'(by rw [h2.length]; exact hi), h1, by simp⟩
  · obtain ⟨vs, h1, h2⟩ := get I ok.1
    obtain ⟨rfl, y⟩ := y
    obtain ⟨v, e, rv⟩ := h2.get hd
    have := y vs h1
    rw [e] at this
    cases this
    exact ⟨F, Xt.refl _ _ _, I, rv⟩
  · obtain ⟨vs, h1, h2⟩ := get I ok.1
    exact ⟨vs, h1, by rw [h2.length]; omega⟩
def rangeD (lo : Int) (n : Nat) : List D := (List.range n).map fun (i : Nat) => D.int (lo + (i : Int))
@[simp] theorem rangeD_length (lo : Int) (n : Nat) : (rangeD lo n).length = n := by simp [rangeD]
theorem itk_range {lo : Int} {n : Nat} : Itk g (Itr lo n) (rangeD lo n) fun _ _ _ _ => True ∧ True := by
  refine ⟨fun i H F c cs I ok hi => (by simpa using hi : i < n), fun i H F c cs d' I ok hd x H' y => ?_, fun i H F c cs I ok hi => ?_⟩
  · obtain ⟨rfl, rfl⟩ := y
    have hl : i < n := by simpa using (List.getElem?_eq_some_iff.mp hd).1
    simp [rangeD, hl] at hd
    subst hd
    exact ⟨F, Xt.refl _ _ _, I, .int _⟩
  · show n ≤ i
    simp at hi; omega
end
def tgN (i : Nat) (d : D) (env : Env) : Option Env := some (env.set i (some d))
section
variable {X : Cx} {W : WX} {pos : Pos} {e t : Expr} {m mt : ME} {ss : List Stmt} {a b : MS}
theorem tgt_name {i : Nat} {x : Str} (hN : X.N.Nodup) (hi : X.N[i]? = some x) (hx : Loc X.env.scope x) {own : List Nat} (ho : i ∈ own := by decide) (hf : X.fn x = true ∨ X.env.scope.names.lookup x = some .local := by first | exact .inl rfl | exact .inr rfl | assumption) : Tgt X (.Name x pos) (tgN i) own := by
  refine ⟨_, pg_name hN hi hx hf, fun σ env H F c cs v d env1 Q re I rv h k => ?_⟩
  simp only [tgN, Option.some.injEq] at h
  subst h
  exact k _ (re.set i rv) (wipe_set ho)
/-! ### while -/
/-- n turns at most -/
def whN (t : ME) (b : MS) : Nat → Env → Cells → S
  | 0, _, _ => .stuck
  | n + 1, env, cs => (t env cs).toS env fun d cs1 => brS d (match b env cs1 with
      | .nx e c => whN t b n e c
      | .ct e c => whN t b n e c
      | .bk e c => .nx e c
      | r => r) (.nx env cs1)
open Classical in
/-- as many turns as it takes -/
noncomputable def sWhile (t : ME) (b : MS) : MS := fun env cs => if h : ∃ n, whN t b n env cs ≠ .stuck then whN t b h.choose env cs else .stuck
theorem whN_mono (t : ME) (b : MS) : ∀ (n : Nat) (env : Env) (cs : Cells), whN t b n env cs ≠ .stuck → whN t b (n + 1) env cs = whN t b n env cs
  | 0, _, _, h => absurd rfl h
  | n + 1, env, cs, h => by
    simp only [whN] at h ⊢
    cases ht : t env cs with
    | ok d cs1 =>
      rw [ht] at h
      simp only [R.toS_ok] at h ⊢
      cases d with
      | bl k =>
        cases k with
        | false => rfl
        | true =>
          simp only [brS_true] at h ⊢
          cases hb : b env cs1 with
          | nx e c => rw [hb] at h; exact whN_mono t b n e c h
          | ct e c => rw [hb] at h; exact whN_mono t b n e c h
          | _ => rfl
      | _ => exact absurd rfl h
    | exc => rfl
    | stuck => rw [ht] at h; exact absurd rfl h
theorem whN_le (t : ME) (b : MS) {n : Nat} {env : Env} {cs : Cells} (h : whN t b n env cs ≠ .stuck) : ∀ k, whN t b (n + k) env cs = whN t b n env cs
  | 0 => rfl
  | k + 1 => by
    have ih := whN_le t b h k
    have := whN_mono t b (n + k) env cs (by rw [ih]; exact h)
    rw [← Nat.add_assoc, this, ih]
theorem sWhile_eq (t : ME) (b : MS) {n : Nat} {env : Env} {cs : Cells} (h : whN t b n env cs ≠ .stuck) : sWhile t b env cs = whN t b n env cs := by
  have hx : ∃ n, whN t b n env cs ≠ .stuck := ⟨n, h⟩
  unfold sWhile
  rw [dif_pos hx]
  generalize hx.choose = k, hx.choose_spec = hk
  rcases Nat.le_total k n with q | q
  · obtain ⟨j, rfl⟩ := Nat.exists_eq_add_of_le q
    rw [whN_le t b hk j]
  · obtain ⟨j, rfl⟩ := Nat.exists_eq_add_of_le q
    rw [whN_le t b h j]
theorem sm_while (hp : PassesOwn (model X.prog X.w) X.A X.env X.xe) (ht : Xt1 X W t mt) (hb : Sms X W ss b) : Sm X W (.While t ss [] pos) (sWhile mt b) := by
  obtain ⟨tc, pc, sc⟩ := ht
  obtain ⟨tb, pb, sb⟩ := hb
  refine ⟨_, ps_while hp pc pb, fun σ env H F c cs Dn re I po => ?_⟩
  unfold sWhile at po
  split at po
  · rename_i hx
    generalize hx.choose = n at po
    refine ⟨fun n σ H => ∃ env F c cs, RE (gd X) F c σ env ∧ Ih (gd X) H F c cs ∧ PoS (gd X) W Dn H F c (whN mt b n env cs), ⟨n, env, F, c, cs, re, I, po⟩, ?_⟩
    rintro n σ H ⟨env, F, c, cs, re, I, po⟩
    cases n with
    | zero => exact po.elim
    | succ n =>
      simp only [whN] at po
      refine sc σ env H F c cs _ re I (PoS.br (a := fun cs1 => match b env cs1 with | .nx e c => whN mt b n e c | .ct e c => whN mt b n e c | .bk e c => .nx e c | r => r) (b := fun cs1 => .nx env cs1) re po _ fun k cs1 _ H1 F1 c1 x I1 po1 => ?_)
      cases k with
      | true =>
        refine iteT ⟨fun σ' H' => ∃ env F c cs, RE (gd X) F c σ' env ∧ Ih (gd X) H' F c cs ∧ PoS (gd X) W Dn H' F c (whN mt b n env cs), fun σ' H' h => ⟨n, Nat.lt_succ_self n, h⟩, ?_⟩
        refine sb σ env H1 F1 c1 cs1 _ (re.mono x.le) I1 ?_
        simp only [if_true] at po1
        cases hbd : b env cs1 with
        | nx e1 c2 => rw [hbd] at po1; exact fun H2 F2 c3 x2 I2 σ2 re2 => ⟨e1, F2, c3, c2, re2, I2, PoS.from x2 po1⟩
        | ct e1 c2 => rw [hbd] at po1; exact fun H2 F2 c3 x2 I2 σ2 re2 => ⟨e1, F2, c3, c2, re2, I2, PoS.from x2 po1⟩
        | bk e1 c2 => rw [hbd] at po1; exact po1
        | rt d c2 => rw [hbd] at po1; exact po1
        | exc n fs e1 c2 => rw [hbd] at po1; exact po1
        | stuck => rw [hbd] at po1; exact po1.elim
      | false => exact iteF (PoS.next I1 (re.mono x.le) po1)
  · exact po.elim
end
end L3

namespace L3
open PySem L2 PyProof.Rows

/-! ### a text, sign by sign -/
theorem turn_str {P : Program} {w : World} {K : PySem.W.Frag} {tg : Expr} (it : Addr) (x : Str) (t : Tok) (ty : String) (hty : ty = "str_ascii_iterator" ∨ ty = "str_iterator") :
    Turn P w K tg (Its x) [it] it (fun i h => h.IsStrIter it ty x t i) where
  mem := List.mem_singleton.mpr rfl
  obj := fun i h ⟨o, e, _, d⟩ => one_obj e d
  keep := fun i h h' ⟨o, ho, r⟩ k => ⟨o, k it (List.mem_singleton.mpr rfl) o ho, r⟩
  item := by
    rintro X rfl rfl rfl hc i pins s σ H E I hf st hg
    have f := hf it (List.mem_singleton.mpr rfl)
    have hg : i < x.cps.size := hg
    have hx : x.cps[i]? = some x.cps[i] := Array.getElem?_eq_getElem hg
    have fin : ∀ h' : Heap, h'.IsStrIter it ty x t (i + 1) → Heap.SameBut it s.heap h' → ["enumerate", "zip", "dict_itemiterator", "dict_reverseitemiterator", "odict_iterator", "itertools.zip_longest", "itertools.pairwise"].contains ty = false →
        ∃ u, (some (Value.str ⟨#[x.cps[i]]⟩ s.toks) : Option Value) = some u ∧ wpAny (model X.prog X.w) X.A (letOwnedTupleGo tg (.ref it) u) (fun _ s2 => ∃ y H', Inv X pins σ H' s2 ∧ RelV s2.toks y u ∧ (Its x).yld i H y H' ∧ s2.heap.IsStrIter it ty x t (i + 1) ∧ ∀ b ∈ [it], H' b = none) E { s with heap := h', toks := s.toks + 1 } := by
      intro h' st' sb hno
      have J : Inv X pins σ H { s with heap := h', toks := s.toks + 1 } := I.turn1 f (fun b o hb e => (sb.2 b hb).trans e) (Nat.le_succ _)
      obtain ⟨oi, e, cc, dd⟩ := id st'
      exact ⟨_, rfl, go_of (s := { s with heap := h', toks := s.toks + 1 }) e cc dd hno ⟨.str ⟨#[x.cps[i]]⟩, H, J, .str I.p (Nat.lt_succ_self _), ⟨rfl, _, hx, rfl⟩, st', fun b hb => (hf b hb).1⟩⟩
    rcases hty with e | e
    · subst e; exact wpAny_pyNext_ascii_item st hx fun h' st' sb => fin h' st' sb (by decide)
    · subst e; exact wpAny_pyNext_wide_item st hx fun h' st' sb => fin h' st' sb (by decide)
  done := by
    rintro X rfl rfl rfl hc i pins s σ H E I hf st hg
    have hx : x.cps[i]? = none := Array.getElem?_eq_none hg
    have f := hf it (List.mem_singleton.mpr rfl)
    rcases hty with e | e
    · subst e; exact wpAny_pyNext_ascii_end (I.ok.hd hc) st hx fun h' eb => ⟨rfl, I.turn1 (t := s.toks) f (fun b o hb e => eb b o hb e) (Nat.le_refl _)⟩
    · subst e; exact wpAny_pyNext_wide_end (I.ok.hd hc) st hx fun h' eb => ⟨rfl, I.turn1 (t := s.toks) f (fun b o hb e => eb b o hb e) (Nat.le_refl _)⟩
  self := fun A i s Q E st h => by
    rcases hty with e | e
    · subst e; exact wpAny_pyIter_striter_ascii st h
    · subst e; exact wpAny_pyIter_striter_wide st h
theorem pi_str {X : Cx} {tg e : Expr} {te : TE} (he : PE X e te) : PI X tg e (iStr te) := by
  constructor
  intro pins s σ H R I h
  refine thn (he.run pins s σ H _ I h) fun v s1 z => ?_
  obtain ⟨y, H1, I1, ⟨r1, _⟩, x, rfl, q⟩ := z
  obtain ⟨t, rfl⟩ := r1
  cases ha : x.cps.all (· < 128)
  · exact wpAny_pyIter_wide ha (pi_one (tk := s1.toks) I1 (Nat.le_refl _) _ (turn_str _ x t "str_iterator" (.inr rfl)) ⟨_, Heap.get?_push_size _ rfl, rfl, rfl⟩ q)
  · exact wpAny_pyIter_ascii ha (pi_one (tk := s1.toks) I1 (Nat.le_refl _) _ (turn_str _ x t "str_ascii_iterator" (.inl rfl)) ⟨_, Heap.get?_push_size _ rfl, rfl, rfl⟩ q)

/-! ### comprehensions -/
section
variable {X : Cx} {pins : List (Addr × Obj)} {σ : L2.St} {H : Hp} {s : Shared}
structure PTs (X : Cx) (ifs : List Expr) (t : TT) : Prop where
  run : ∀ (pins : List (Addr × Obj)) (s : Shared) (σ : L2.St) (H : Hp) (Q : Bool → Hp → Prop), Inv X pins σ H s → t σ H Q →
    wpAny (model X.prog X.w) X.A (forIn ifs true fun c r => if r = true then do let ok ← isTrue c X.env (eval c X.env); pure (ForInStep.yield ok) else pure (ForInStep.yield r)) (TP X pins σ Q) X.xe s
theorem pts_nil : PTs X [] tYes := ⟨fun _ _ _ H _ I h => wpAny_tests_nil ⟨H, I, h⟩⟩
theorem pts_one {c : Expr} {t : TT} (h : PT X c t) : PTs X [c] t := ⟨fun pins s σ H Q I hw => wpAny_tests_one (h.run pins s σ H Q I hw)⟩
theorem app_ok {E : Value → Shared → Prop} {D : Addr} {xs : List V} {y : V} {v : Value} {Q : Value → Shared → Prop} (I : Inv X pins σ H s) (hD : H D = some (.lst xs)) (hz : xs.length < sizeLine) (r : RelV s.toks y v)
    (h : ∀ s', Inv X pins σ (upd H D (.lst (xs ++ [y]))) s' → Q .none s') : wpAny (model X.prog X.w) X.A (call (.builtin "list.append") [.ref D, v]) Q E s := by
  obtain ⟨hz', its, n, ri, hl, e⟩ := I.lstM hD
  refine append_at (hsz := by rw [List.size_toArray]; omega) e fun h' sb ho' => ?_
  have e' : h'.get? D = some { cls := .type "list", data := .seq (its ++ [v]).toArray (n + 1) } := by rw [ho']; simp
  refine h { s with heap := h' } (I.write (t' := s.toks) (by rw [hD]; trivial) (.inl rfl) (fun b u hb q => (sb.2 b hb).trans q) ⟨_, ho'⟩ ⟨by rw [List.length_append]; exact hz, its ++ [v], n + 1, ri.1.append (.cons r.1 .nil), e'⟩ (fun o it m z y => ?_) (fun z => absurd rfl z) (Nat.le_refl _))
  rw [e'] at z; cases z
  cases y
  simpa using ri.2.app (gvs_cons r.2 gvs_nil)
theorem block_start {scope : Scope} {own : List (Str × Nat)} {fp : List Addr} (I : Inv X pins σ H s) (ok : BlkOk X.N X.env.scope scope own) (hN : X.N.Nodup) (hfp : ∀ b ∈ fp, FpOk X pins H b ∧ b < s.heap.objs.size) :
    Inv (X.blk s H scope (compEnvC scope (cellsFrom (s.heap.objs.size + 1) scope.names (cloFrom X.env.cells scope.names [])) s.heap.objs.size X.env) fp) [] (wipe σ (own.map (·.2))) H { s with heap := pushCells (s.heap.push { cls := .type "dict", data := .dict #[] }) scope.names } := by
  have kp : ∀ b o, s.heap.get? b = some o → (pushCells (s.heap.push { cls := .type "dict", data := .dict #[] }) scope.names).get? b = some o := fun b o e => pushCells_keeps _ _ _ _ (Heap.get?_push_of_some _ e)
  refine ⟨L2.block_start I.i ok hN hfp, ⟨fun m n x u q => ?_, fun x c u l z => ?_⟩, (I.kept (t' := s.toks) kp (Nat.le_refl _)).g, I.p⟩
  · have n0 : Heap.Ns (pushCells (s.heap.push { cls := .type "dict", data := .dict #[] }) scope.names) s.heap.objs.size (fun _ => none) := Heap.Ns.keeps (Heap.Ns.new ..) fun b o e => pushCells_keeps _ _ _ _ e
    rw [ns_inj (show Heap.Ns _ s.heap.objs.size m from n) n0] at q
    cases q
  · have l : (cellsFrom (s.heap.objs.size + 1) scope.names (cloFrom X.env.cells scope.names [])).lookup x = some c := l
    rw [← Heap.size_push s.heap { cls := .type "dict", data := .dict #[] }] at l
    rcases cells_mem (PySem.mem_of_lookup l) with hm | ⟨_, _, z0⟩
    · rcases cloFrom_mem hm with hm | ⟨h1, rfl⟩
      · cases hm
      · obtain ⟨c, hc⟩ : ∃ c, X.env.cells.lookup x = some c := by
          rcases ok.free _ h1 rfl with k | k
          · exact I.ok.has _ (.inl k)
          · exact I.ok.has _ (.inr k)
        rw [hc] at z
        obtain ⟨w, zw⟩ := I.i.cell x c hc
        cases cell_inj z (zw.keeps kp)
        exact I.f.2 x c u hc zw
    · cases cell_inj z z0
/-- no exception leaves a block -/
theorem thkF {α : Type} {t : Sem α} {Q Q' : α → Shared → Prop} {M : Model} {A : Around} {E : Value → Shared → Prop} {s : Shared} (h : wpAny M A t Q (fun _ _ => False) s) (hQ : ∀ a s', s.toks ≤ s'.toks → Q a s' → Q' a s') : wpAny M A t Q' E s :=
  wpAny_mono (PySem.wpAny_toks h) (fun a s' q => hQ a s' q.1 q.2) fun _ _ z => z.2.elim
theorem lc_core {Q : VK} {elt tg iter : Expr} {ifs : List Expr} {scope : Scope} {own : List (Str × Nat)} {pos pos' : Pos} {wi : TI} {g : TG} {tt : TT} {te : TE} {use : Option (Value → Sem Unit)} {Qf : Value → Shared → Prop}
    (hc : X.calm = true) (hN : X.N.Nodup) (I : Inv X pins σ H s) (hi : PI X tg iter wi) (ok : BlkOk X.N X.env.scope scope own)
    (hg : ∀ (s : Shared) (H : Hp) (C : Addr) (cl : List (Str × Addr)) (fp : List Addr), PG (X.blk s H scope (compEnvC scope cl C X.env) fp) tg g) (ht : ∀ (s : Shared) (H : Hp) (C : Addr) (cl : List (Str × Addr)) (fp : List Addr), PTs (X.blk s H scope (compEnvC scope cl C X.env) fp) ifs tt)
    (he : ∀ (s : Shared) (H : Hp) (C : Addr) (cl : List (Str × Addr)) (fp : List Addr), PE (X.blk s H scope (compEnvC scope cl C X.env) fp) elt te) (hs : ∀ x, foldedSetIterable iter X.env x = pure x)
    (h : tLc wi g tt te (own.map (·.2)) σ H Q)
    (hRR : ∀ D C s' m H', Inv X pins σ H' s' → Q (.ref D) H' → s'.heap.Ns C m → FpOk X pins H' C → compPost (model X.prog X.w) X.A X.xe use Qf (.ref D) C (.ok .next) s') :
    wpAny (model X.prog X.w) X.A (comprehension (.ListComp elt [⟨tg, iter, ifs, 0⟩] scope pos) scope X.env pos' (newList []) false (eval iter X.env) use) Qf X.xe s := by
  refine wpAny_comprehension_free (use := use) rfl hs (closure_ok fun y hy e => (ok.free y hy e).elim (fun k => I.ok.has _ (.inl k)) fun k => I.ok.has _ (.inr k)) ok.kind (fun y hy e => by rw [ok.uniq y hy, e])
    (thn (hi.run pins s σ H _ I h) fun xv s1 hx => thn hx fun itv s2 h2 => ?_)
  obtain ⟨it, fp, tn, J, H2, rfl, I2, T, st2, f2, q⟩ := h2
  refine wpAny_newObj_type (newEnv_comp ?_) (show 0 ≤ sizeLine by decide)
  obtain ⟨W, ⟨m0, w0⟩, turn⟩ := q s2.heap.objs.size (I2.fresh (Nat.le_refl _))
  generalize hD : s2.heap.objs.size = D at w0 turn
  -- the new list
  have I3 : Inv X pins σ (upd H2 D (.lst [])) { s2 with heap := s2.heap.push { cls := .type "list", data := .seq ([] : List Value).toArray } } := by
    have := I2.lnew (t' := s2.toks) (ys := []) .nil (Nat.zero_le _) (Nat.le_refl _)
    rwa [hD] at this
  generalize h3 : s2.heap.push { cls := .type "list", data := .seq ([] : List Value).toArray } = hp3 at I3
  have z3 : hp3.objs.size = s2.heap.objs.size + 1 := by rw [← h3, Heap.size_push]
  have k3 : ∀ b o, s2.heap.get? b = some o → hp3.get? b = some o := fun b o e => by rw [← h3]; exact Heap.get?_push_of_some _ e
  have f3 : ∀ b ∈ fp, FpOk X pins (upd H2 D (.lst [])) b ∧ b < hp3.objs.size := fun b hb => by
    obtain ⟨o, e, _⟩ := T.obj _ _ st2 b hb
    have hlt := Heap.lt_size e
    exact ⟨⟨by rw [upd_ne (Nat.ne_of_lt (hD ▸ hlt))]; exact (f2 b hb).1, (f2 b hb).2⟩, z3 ▸ Nat.lt_succ_of_lt hlt⟩
  generalize hH3 : upd H2 D (.lst []) = H3 at I3 w0 f3
  have I4 := block_start I3 ok hN f3
  have pg := hg { s2 with heap := hp3 } H3 hp3.objs.size (cellsFrom (hp3.objs.size + 1) scope.names (cloFrom X.env.cells scope.names [])) fp
  have pt := ht { s2 with heap := hp3 } H3 hp3.objs.size (cellsFrom (hp3.objs.size + 1) scope.names (cloFrom X.env.cells scope.names [])) fp
  have pe := he { s2 with heap := hp3 } H3 hp3.objs.size (cellsFrom (hp3.objs.size + 1) scope.names (cloFrom X.env.cells scope.names [])) fp
  show codeAny _ _ (.compStart (.ListComp elt [⟨tg, iter, ifs, 0⟩] scope pos) 0 (.ref it) (.ref D) (compEnvC scope (cellsFrom (hp3.objs.size + 1) scope.names (cloFrom X.env.cells scope.names [])) hp3.objs.size X.env))
    (compPost (model X.prog X.w) X.A X.xe use Qf (.ref D) hp3.objs.size) { s2 with heap := pushCells (hp3.push { cls := .type "dict", data := .dict #[] }) scope.names }
  generalize hce : compEnvC scope (cellsFrom (hp3.objs.size + 1) scope.names (cloFrom X.env.cells scope.names [])) hp3.objs.size X.env = ce at I4 pg pt pe ⊢
  have cL : ce.locals = hp3.objs.size := by subst hce; rfl
  have k4 : ∀ b o, s2.heap.get? b = some o → (pushCells (hp3.push { cls := .type "dict", data := .dict #[] }) scope.names).get? b = some o := fun b o e => pushCells_keeps _ _ _ _ (Heap.get?_push_of_some _ (k3 b o e))
  have st4 : tn 0 (pushCells (hp3.push { cls := .type "dict", data := .dict #[] }) scope.names) := T.keep _ _ _ st2 fun b _ o e => k4 b o e
  have fpo : ∀ {σ' : L2.St} {H' : Hp} {s' : Shared}, Inv (X.blk { s2 with heap := hp3 } H3 scope ce fp) [] σ' H' s' → (∀ b ∈ fp, H' b = none) → ∀ b ∈ fp, FpOk (X.blk { s2 with heap := hp3 } H3 scope ce fp) [] H' b := fun {σ' H' s'} I' hn b hb =>
    ⟨hn b hb, (I'.ok.exf b hb).1, I'.ok.exfs b hb, .inl hb, fun x c e => (I'.ok.exf b hb).2 x c e, fun p hp => absurd (show p ∈ ([] : List (Addr × Obj)) ++ [] from hp) (by simp)⟩
  have loop : codeAny (model X.prog X.w) X.A (.compLoop (.ListComp elt [⟨tg, iter, ifs, 0⟩] scope pos) 0 (.ref it) (.ref D) ce) (compPost (model X.prog X.w) X.A X.xe use Qf (.ref D) hp3.objs.size) { s2 with heap := pushCells (hp3.push { cls := .type "dict", data := .dict #[] }) scope.names } := by
    refine compLoop_any (fun n s' => ∃ i H', Inv (X.blk { s2 with heap := hp3 } H3 scope ce fp) [] (wipe σ (own.map (·.2))) H' s' ∧ s2.toks ≤ s'.toks ∧ tn i s'.heap ∧ (∀ b ∈ fp, H' b = none) ∧ W i n H') ?_ m0 ⟨0, H3, I4, Nat.le_refl _, st4, fun b hb => (f3 b hb).1.1, w0⟩
    rintro n s5 ⟨i, H5, I5, t5, st5, n5, w5⟩
    rcases turn i n H5 w5 with ⟨stop, qq⟩ | ⟨go, Nx, hNx, step⟩
    · refine thkF (T.done (X.blk { s2 with heap := hp3 } H3 scope ce fp) rfl rfl rfl hc i [] s5 _ H5 (fun _ _ => False) I5 (fpo I5 n5) st5 stop) fun r s6 t6 z => ?_
      obtain ⟨rfl, I6⟩ := z
      -- back in the def
      have I7 : Inv X pins σ H5 s6 := I3.call (ch := fp) I6.i.os I6.i.base I6.hok I6.i.bare I6.g (Nat.le_trans t5 t6) fun b hb => ⟨(f3 b hb).1.2.2.2.1, (f3 b hb).1.2.1, (f3 b hb).1.2.2.2.2.1, (f3 b hb).1.2.2.2.2.2⟩
      have nC : H5 ce.locals = none := I6.free
      obtain ⟨m, hn, _⟩ := I6.i.loc
      have hn : s6.heap.Ns ce.locals m := hn
      rw [cL] at hn nC
      exact hRR D hp3.objs.size s6 m H5 I7 qq hn (I3.fpOk (Nat.le_refl _) nC)
    · refine thkF (T.item (X.blk { s2 with heap := hp3 } H3 scope ce fp) rfl rfl rfl hc i [] s5 _ H5 (fun _ _ => False) I5 (fpo I5 n5) st5 go) fun r s6 t6 z => ?_
      obtain ⟨u, rfl, h6⟩ := z
      refine thkF h6 fun _ s7 t7 z => ?_
      obtain ⟨x, H7, I7, r7, y7, st7, n7⟩ := z
      refine thkF (pg.run _ s7 _ H7 x u _ (I7.pinned (fpo I7 n7) (T.obj _ _ st7)) r7 (step x H7 y7)) fun _ s8 t8 z => ?_
      obtain ⟨σ8, H8, I8, hw8, q8⟩ := z
      refine thkF (pt.run _ s8 σ8 H8 _ I8 q8) fun b s9 t9 z => ?_
      obtain ⟨H9, I9, q9⟩ := z
      have fin : ∀ {s' : Shared} {H' : Hp}, Inv (X.blk { s2 with heap := hp3 } H3 scope ce fp) ([] ++ pinsAt fp s7.heap) σ8 H' s' → s9.toks ≤ s'.toks → Nx H' →
          ∃ m, m < n ∧ ∃ i H', Inv (X.blk { s2 with heap := hp3 } H3 scope ce fp) [] (wipe σ (own.map (·.2))) H' s' ∧ s2.toks ≤ s'.toks ∧ tn i s'.heap ∧ (∀ b ∈ fp, H' b = none) ∧ W i m H' := fun {s' H'} I' t' nx => by
        obtain ⟨m', hm, w'⟩ := hNx H' nx
        have pn : ∀ b ∈ fp, ∀ o, s7.heap.get? b = some o → _ := fun b hb o e => I'.i.pin (b, o) (List.mem_append_right _ (List.mem_append_right _ (mem_pinsAt hb e)))
        refine ⟨m', hm, i + 1, H', (I'.unpinned (pins := [])).weak (by rw [← hw8, wipe_length]) (fun j v e => ?_), ?_, T.keep _ _ _ st7 fun b hb o e => (pn b hb o e).1, fun b hb => ?_, w'⟩
        · rw [← hw8] at e
          exact (wipe_some e).1
        · exact Nat.le_trans t5 (Nat.le_trans t6 (Nat.le_trans t7 (Nat.le_trans t8 (Nat.le_trans t9 t'))))
        · obtain ⟨o, e, _⟩ := T.obj _ _ st7 b hb
          exact (pn b hb o e).2.1
      cases b
      · rw [if_neg Bool.false_ne_true] at q9 ⊢
        exact fin I9 (Nat.le_refl _) q9
      · rw [if_pos rfl] at q9 ⊢
        refine thkF (pe.run _ s9 σ8 H9 _ I9 q9) fun z s10 t10 y => ?_
        obtain ⟨yv, H10, I10, r10, acc, hD10, hz10, nx⟩ := y
        exact wpAny_with_toks (Nat.le_refl _) (app_ok (X := X.blk { s2 with heap := hp3 } H3 scope ce fp) I10 hD10 hz10 r10 fun s11 I11 t11 => fin I11 (Nat.le_trans t10 t11) nx)
  exact codeAny_compStart_list loop (T.self X.A 0 _ _ _ st4 loop)
theorem pe_lc {elt tg iter : Expr} {ifs : List Expr} {scope : Scope} {own : List (Str × Nat)} {pos : Pos} {wi : TI} {g : TG} {tt : TT} {te : TE} (hc : X.calm = true) (hN : X.N.Nodup) (hi : PI X tg iter wi) (ok : BlkOk X.N X.env.scope scope own)
    (hg : ∀ (s : Shared) (H : Hp) (C : Addr) (cl : List (Str × Addr)) (fp : List Addr), PG (X.blk s H scope (compEnvC scope cl C X.env) fp) tg g) (ht : ∀ (s : Shared) (H : Hp) (C : Addr) (cl : List (Str × Addr)) (fp : List Addr), PTs (X.blk s H scope (compEnvC scope cl C X.env) fp) ifs tt)
    (he : ∀ (s : Shared) (H : Hp) (C : Addr) (cl : List (Str × Addr)) (fp : List Addr), PE (X.blk s H scope (compEnvC scope cl C X.env) fp) elt te) (hs : ∀ x, foldedSetIterable iter X.env x = pure x := by intro _; rfl) :
    PE X (.ListComp elt [⟨tg, iter, ifs, 0⟩] scope pos) (tLc wi g tt te (own.map (·.2))) := by
  constructor
  intro pins s σ H Q I h
  rw [eval_ListComp]
  exact lc_core hc hN I hi ok hg ht he hs h fun D C s' m H' I' q hn f => ⟨m, hn, fun h'' sb => ⟨.ref D, H', I'.turn1 (t := s'.toks) f (fun b o hb e => (sb.2 b hb).trans e) (Nat.le_refl _), .ref, q⟩⟩
theorem ps_setLc {i : Nat} {y : Str} {py : Pos} {elt tg iter : Expr} {ifs : List Expr} {scope : Scope} {own : List (Str × Nat)} {pos spos : Pos} {wi : TI} {g : TG} {tt : TT} {te : TE} (hc : X.calm = true) (hN : X.N.Nodup) (hy : X.N[i]? = some y) (hyl : X.env.scope.names.lookup y = some .local)
    (hsw : swapsWith (.ListComp elt [⟨tg, iter, ifs, 0⟩] scope pos) (some (.Name y py)) spos.line X.env = pure true) (hi : PI X tg iter wi) (ok : BlkOk X.N X.env.scope scope own)
    (hg : ∀ (s : Shared) (H : Hp) (C : Addr) (cl : List (Str × Addr)) (fp : List Addr), PG (X.blk s H scope (compEnvC scope cl C X.env) fp) tg g) (ht : ∀ (s : Shared) (H : Hp) (C : Addr) (cl : List (Str × Addr)) (fp : List Addr), PTs (X.blk s H scope (compEnvC scope cl C X.env) fp) ifs tt)
    (he : ∀ (s : Shared) (H : Hp) (C : Addr) (cl : List (Str × Addr)) (fp : List Addr), PE (X.blk s H scope (compEnvC scope cl C X.env) fp) elt te) (hs : ∀ x, foldedSetIterable iter X.env x = pure x := by intro _; rfl) :
    PS X (.Assign [.Name y py] (.ListComp elt [⟨tg, iter, ifs, 0⟩] scope pos) spos) (tAsg (tLc wi g tt te (own.map (·.2))) (gName i)) := by
  constructor
  intro pins s σ H D I h
  rw [exec_Assign_Name_used _ _ _ _ hsw]
  refine wpAny_bind (wpAny_standAt (wpAny_bind ?_))
  show wpAny _ X.A (do let _ ← comprehension (.ListComp elt [⟨tg, iter, ifs, 0⟩] scope pos) scope X.env (firstIterPos [⟨tg, iter, ifs, 0⟩] pos) (newList []) false (eval iter X.env) (some (assign (.Name y py) X.env))) _ _ s
  refine wpAny_bind (thn (lc_core (Q := fun x H1 => gName i x σ H1 D.nx) (Qf := fun _ s' => SPt X pins D .next s') hc hN I hi ok hg ht he hs h fun L C s' m H' I' q hn f => ?_) fun _ s' hq => wpAny_pure (wpAny_pure hq))
  show wpAny _ _ (assign (.Name y py) X.env (.ref L)) _ _ _
  refine wpAny_assign_Name (store_ok2 (v := V.ref L) I' hN hy (.inl hyl) .ref (fun s2 I2 z => ?_) (.inr hyl))
  obtain ⟨a, sb, ha⟩ := z
  have haC : C ≠ a := by
    rcases ha with z | z
    · rw [z]; exact f.2.1
    · exact fun e => f.2.2.2.2.1 y a z e.symm
  exact ⟨m, hn.sameBut sb haC, fun h3 sb3 => ⟨_, H', I2.turn1 (t := s2.toks) f (fun b o hb e => (sb3.2 b hb).trans e) (Nat.le_refl _), q⟩⟩
end
end L3

namespace L3
open PySem L2

/-! ### what is walked -/
inductive RW where
  | ok (items : List D) (chk : Cells → Prop) (cs : Cells)
  | exc (n : Str) (fs : List (Str × D)) (cs : Cells)
  | stuck
abbrev MW := Env → Cells → RW
def R.toW (r : R) (k : D → Cells → RW) : RW := match r with
  | .ok d cs => k d cs
  | .exc n fs cs => .exc n fs cs
  | .stuck => .stuck
@[simp] theorem R.toW_ok (d : D) (cs : Cells) (k : D → Cells → RW) : (R.ok d cs).toW k = k d cs := rfl
@[simp] theorem R.toW_exc (n : Str) (fs : List (Str × D)) (cs : Cells) (k : D → Cells → RW) : (R.exc n fs cs).toW k = .exc n fs cs := rfl
@[simp] theorem R.toW_stuck (k : D → Cells → RW) : R.stuck.toW k = .stuck := rfl
def PoW (g : Gd) (W : XK) (H F : Hp) (c : List Addr) (r : RW) (R : It → Hp → Prop) : Prop := match r with
  | .ok items chk cs => Fw g H F c cs fun H' F' c' => ∀ (J : It) (kn : Hp → List Addr → Prop), Itk g J items (fun H F c cs => kn F c ∧ chk cs) → (∀ F c F' c', Le F c F' c' → kn F c → kn F' c') → kn F' c' → R J H'
  | .exc n fs cs => ExK g W H F c n fs cs
  | .stuck => False
def Wk (X : Cx) (W : WX) (tg e : Expr) (m : MW) : Prop := ∃ wi, PI X tg e wi ∧ ∀ σ env H F c cs R, RE (gd X) F c σ env → Ih (gd X) H F c cs → PoW (gd X) (fun a b => W a b σ) H F c (m env cs) R → wi σ H R
theorem PoW.from {g : Gd} {W : XK} {H F H1 F1 : Hp} {c c1 : List Addr} {r : RW} {R : It → Hp → Prop} (x : Xt H F c H1 F1 c1) (h : PoW g W H F c r R) : PoW g W H1 F1 c1 r R := by
  cases r with
  | ok d k cs => exact Fw.from x h fun _ _ _ k => k
  | exc n fs cs => exact ExK.from x h
  | stuck => exact h
theorem PoW.cut {g : Gd} {W : XK} {H F : Hp} {c : List Addr} {r : R} {k : D → Cells → RW} {Rw : It → Hp → Prop} (h : PoW g W H F c (r.toW k) Rw) :
    ∀ Q' : VK, (∀ d cs, r = .ok d cs → ∀ H1 F1 c1 v, Xt H F c H1 F1 c1 → Ih g H1 F1 c1 cs → RV g F1 c1 v d → PoW g W H1 F1 c1 (k d cs) Rw → Q' v H1) → PoE g W H F c r Q' := by
  intro Q' hk
  cases r with
  | ok d cs => exact fun H1 F1 c1 x I v rv => hk d cs rfl H1 F1 c1 v x I rv (PoW.from x h)
  | exc n fs cs => exact h
  | stuck => exact h
section
variable {X : Cx} {W : WX} {pos p p1 : Pos} {tg e e2 e3 : Expr} {m m2 m3 : ME}
theorem seqOf_ref {g : Gd} {H F : Hp} {c : List Addr} {cs : Cells} {v : V} {d : D} {items : List D} (I : Ih g H F c cs) (rv : RV g F c v d) (h : seqOf cs d = some items) : ∃ p, v = .ref p := by
  obtain ⟨p, vs, e, _⟩ := seqOf_at I rv h
  exact ⟨p, e⟩
/-- a list, a tuple, a text -/
def wSeq (m : ME) : MW := fun env cs => (m env cs).toW fun d cs1 => match d with
  | .str l => .ok (l.map fun ch => .str [ch]) (fun _ => True) cs1
  | d => match seqOf cs1 d with
    | some items => .ok items (fun cs2 => seqOf cs2 d = some items) cs1
    | none => .stuck
theorem itk_str {g : Gd} {l : List Nat} : Itk g (Its ⟨l.toArray⟩) (l.map fun ch => .str [ch]) fun _ _ _ _ => True ∧ True := by
  refine ⟨fun i H F c cs I ok hi => ?_, fun i H F c cs d' I ok hd x H' y => ?_, fun i H F c cs I ok hi => ?_⟩
  · show i < l.toArray.size
    simpa using hi
  · obtain ⟨rfl, ch, h1, rfl⟩ := y
    have h1 : l[i]? = some ch := by simpa using h1
    rw [List.getElem?_map, h1] at hd
    simp only [Option.map_some, Option.some.injEq] at hd
    subst hd
    exact ⟨F, Xt.refl _ _ _, I, .str [ch]⟩
  · show l.toArray.size ≤ i
    simp at hi ⊢; omega
theorem wk_seq (he : Xp X W e m) : Wk X W tg e (wSeq m) := by
  obtain ⟨te, pe, se⟩ := he
  refine ⟨_, pi_orE (pi_list pe) (pi_orE (pi_tup pe) (pi_str pe)), fun σ env H F c cs R re I po => ?_⟩
  unfold wSeq at po
  by_cases hstr : ∃ l cs1, m env cs = .ok (.str l) cs1
  · obtain ⟨l, cs1, h⟩ := hstr
    refine .inr (.inr (se σ env H F c cs _ re I (PoW.cut po _ fun d cs2 h2 H1 F1 c1 v x1 I1 rv po1 => ?_)))
    rw [h] at h2
    cases h2
    cases rv
    exact ⟨_, rfl, po1 _ _ _ (Xt.refl _ _ _) I1 _ (fun _ _ => True) itk_str (fun _ _ _ _ _ k => k) trivial⟩
  · by_cases htup : ∃ l cs1, m env cs = .ok (.tup l) cs1
    · obtain ⟨l, cs1, h⟩ := htup
      refine .inr (.inl (se σ env H F c cs _ re I (PoW.cut po _ fun d cs2 h2 H1 F1 c1 v x1 I1 rv po1 => ?_)))
      rw [h] at h2
      cases h2
      obtain ⟨p, rfl⟩ := seqOf_ref I1 rv (items := l) rfl
      refine ⟨p, rfl, ?_, po1 _ _ _ (Xt.refl _ _ _) I1 _ (fun F c => RV (gd X) F c (.ref p) (.tup l)) itk_tup (fun _ _ _ _ e k => k.mono e) rv⟩
      cases rv with
      | tup g1 g2 => exact ⟨_, SqT.up I1.sub g1⟩
    · refine .inl (se σ env H F c cs _ re I (PoW.cut po _ fun d cs2 h2 H1 F1 c1 v x1 I1 rv po1 => ?_))
      have nt : ∀ l, d ≠ .tup l := fun l e => htup ⟨l, cs2, by rw [h2, e]⟩
      have ns : ∀ l, d ≠ .str l := fun l e => hstr ⟨l, cs2, by rw [h2, e]⟩
      have po2 : PoW (gd X) (fun a b => W a b σ) H1 F1 c1 (match seqOf cs2 d with
          | some items => .ok items (fun cs2 => seqOf cs2 d = some items) cs2
          | none => .stuck) R := by
        cases d with
        | str l => exact absurd rfl (ns l)
        | _ => exact po1
      cases hs : seqOf cs2 d with
      | none => rw [hs] at po2; exact po2.elim
      | some items =>
        rw [hs] at po2
        obtain ⟨p, rfl⟩ := seqOf_ref I1 rv hs
        have K := itk_list (g := gd X) (a := p) (items := items) nt
        refine ⟨p, rfl, ?_, po2 _ _ _ (Xt.refl _ _ _) I1 _ (fun F c => RV (gd X) F c (.ref p) d) K (fun _ _ _ _ e k => k.mono e) rv⟩
        by_cases hz : 0 < items.length
        · obtain ⟨xs, _, h1, _⟩ := K.go 0 H1 F1 c1 cs2 I1 ⟨rv, hs⟩ hz
          exact ⟨xs, h1⟩
        · obtain ⟨xs, h1, _⟩ := K.stop 0 H1 F1 c1 cs2 I1 ⟨rv, hs⟩ (by omega)
          exact ⟨xs, h1⟩
/-- range -/
def lim : Int := 4611686018427387904
def wR1 (m : ME) : MW := fun env cs => (m env cs).toW fun d cs1 => match d with
  | .int j => if -lim ≤ j ∧ j < lim then .ok (rangeD 0 j.toNat) (fun _ => True) cs1 else .stuck
  | _ => .stuck
def wR2 (m m2 : ME) : MW := fun env cs => (m env cs).toW fun d cs1 => (m2 env cs1).toW fun d2 cs2 => match d, d2 with
  | .int i, .int j => if -lim ≤ i ∧ i < lim ∧ -lim ≤ j ∧ j < lim then .ok (rangeD i (j - i).toNat) (fun _ => True) cs2 else .stuck
  | _, _ => .stuck
theorem wk_range1 (hg : Gl X "range") (hm : X.mg "range" = none) (he : Xp X W e m) (hs : starEach [e] X.env = (false, eval e X.env) :: starEach [] X.env := by rfl) : Wk X W tg (.Call (.Name "range" p) [e] [] p1) (wR1 m) := by
  obtain ⟨te, pe, se⟩ := he
  refine ⟨_, pi_range1 hg hm (pa_cons pe pa_nil hs) hs, fun σ env H F c cs R re I po => ?_⟩
  refine se σ env H F c cs _ re I (PoW.cut po _ fun d cs2 h2 H1 F1 c1 v x1 I1 rv po1 => ?_)
  cases d with
  | int j =>
    cases rv
    simp only at po1
    split at po1
    · rename_i h
      have p2 : (2 : Int) ^ 62 = lim := by decide
      exact ⟨j, rfl, by rw [p2]; exact h.1, by rw [p2]; exact h.2, po1 _ _ _ (Xt.refl _ _ _) I1 _ (fun _ _ => True) (itk_range (lo := 0) (n := j.toNat)) (fun _ _ _ _ _ k => k) trivial⟩
    · exact po1.elim
  | _ => exact po1.elim
theorem wk_range2 (hg : Gl X "range") (hm : X.mg "range" = none) (he : Xp X W e m) (he2 : Xp X W e2 m2)
    (hs : starEach [e, e2] X.env = (false, eval e X.env) :: starEach [e2] X.env := by rfl) (hs2 : starEach [e2] X.env = (false, eval e2 X.env) :: starEach [] X.env := by rfl) : Wk X W tg (.Call (.Name "range" p) [e, e2] [] p1) (wR2 m m2) := by
  obtain ⟨te, pe, se⟩ := he
  obtain ⟨te2, pe2, se2⟩ := he2
  refine ⟨_, pi_range2 hg hm (pa_cons pe (pa_cons pe2 pa_nil hs2) hs) (hs.trans (by rw [hs2]; rfl)) hs2, fun σ env H F c cs R re I po => ?_⟩
  refine se σ env H F c cs _ re I (PoW.cut po _ fun d cs2 h2 H1 F1 c1 v x1 I1 rv po1 => ?_)
  refine se2 σ env H1 F1 c1 cs2 _ (re.mono x1.le) I1 (PoW.cut po1 _ fun d2 cs3 h3 H2 F2 c2 v2 x2 I2 rv2 po2 => ?_)
  split at po2
  · cases rv; cases rv2
    split at po2
    · rename_i h
      have p2 : (2 : Int) ^ 62 = lim := by decide
      exact ⟨_, _, rfl, by rw [p2]; exact h, po2 _ _ _ (Xt.refl _ _ _) I2 _ (fun _ _ => True) itk_range (fun _ _ _ _ _ k => k) trivial⟩
    · exact po2.elim
  · exact po2.elim

/-! ### for -/
noncomputable def sFor (tg : D → Env → Option Env) (m : MW) (body : MS) : MS := fun env cs => match m env cs with
  | .ok items chk cs1 => forL chk tg body items env cs1
  | .exc n fs cs1 => .exc n fs env cs1
  | .stuck => .stuck
theorem sm_for {f : D → Env → Option Env} {mw : MW} {ss : List Stmt} {b : MS} (hc : X.calm = true) (hp : PassesOwn (model X.prog X.w) X.A X.env X.xe) (he : Wk X W tg e mw) {own : List Nat} (ht : Tgt X tg f own) (hb : Sms X W ss b)
    (hs : ∀ x, foldedSetIterable e X.env x = pure x := by intro _; rfl) : Sm X W (.For tg e ss [] pos) (sFor f mw b) := by
  obtain ⟨wi, pw, sw⟩ := he
  obtain ⟨tG, pg, sg⟩ := ht
  obtain ⟨tb, pb, sb⟩ := hb
  refine ⟨_, ps_for hp hc pw pg pb hs, fun σ env H F c cs Dn re I po => ?_⟩
  refine sw σ env H F c cs _ re I ?_
  unfold sFor at po
  cases h : mw env cs with
  | ok items chk cs1 =>
    rw [h] at po
    exact fun H1 F1 c1 x1 I1 J kn K km hk => for_sim K km (fun σ env H F c cs v d env1 Q re I rv h k => sg σ env H F c cs v d env1 Q re I rv h fun σ1 a _ => k σ1 a) sb (re.mono x1.le) I1 hk (PoS.from x1 po)
  | exc n fs cs1 =>
    rw [h] at po
    exact fun H1 F1 c1 x I C dx vs a b d => po H1 F1 c1 x I σ C dx vs (re.mono x.le) a b d
  | stuck => rw [h] at po; exact po.elim

/-! ### comprehensions -/
def wipeE (env : Env) : List Nat → Env
  | [] => env
  | v :: vs => (wipeE env vs).set v none
theorem RE.wipe {g : Gd} {F : Hp} {c : List Addr} {σ : L2.St} {env : Env} (h : RE g F c σ env) : ∀ vs : List Nat, RE g F c (L2.wipe σ vs) (wipeE env vs)
  | [] => h
  | v :: vs => RE.unset (RE.wipe h vs) v
open Classical in
noncomputable def lcL (chk : Cells → Prop) (tg : D → Env → Option Env) (t e : ME) : List D → Env → Cells → RA
  | [], env, cs => if chk cs then .ok [] cs else .stuck
  | d :: ds, env, cs => if chk cs then (match tg d env with
    | none => .stuck
    | some env1 => match t env1 cs with
      | .ok (.bl true) cs1 => (match e env1 cs1 with
        | .ok y cs2 => (match lcL chk tg t e ds env cs2 with
          | .ok ys cs3 => .ok (y :: ys) cs3
          | _ => .stuck)
        | _ => .stuck)
      | .ok (.bl false) cs1 => lcL chk tg t e ds env cs1
      | _ => .stuck) else .stuck
def RA.pre (l : List D) : RA → RA
  | .ok ds cs => .ok (l ++ ds) cs
  | r => r
noncomputable def eLc (md : Bool) (own : List Nat) (tg : D → Env → Option Env) (m : MW) (t e : ME) : ME := fun env cs => match m env cs with
  | .ok items chk cs1 => (lcL chk tg t e items (wipeE env own) cs1).bind fun ds cs2 => mkL md cs2 ds
  | .exc n fs cs1 => .exc n fs cs1
  | .stuck => .stuck
/-- the tests of a comprehension -/
def Xts (X : Cx) (W : WX) (es : List Expr) (m : ME) : Prop := ∃ t, PTs X es t ∧ ∀ σ env H F c cs Q, RE (gd X) F c σ env → Ih (gd X) H F c cs → PoT (gd X) (fun a b => W a b σ) H F c (m env cs) Q → t σ H Q
theorem xts_nil : Xts X W [] (eC (.bl true)) := ⟨_, pts_nil, fun _ _ _ _ _ _ _ _ I po => PoT.here I po⟩
theorem xts_one (h : Xt1 X W e m) : Xts X W [e] m := by
  obtain ⟨t, p, s⟩ := h
  exact ⟨_, pts_one p, s⟩
end
/-- an object aside of F and c is written -/
theorem Ih.side {g : Gd} {H F : Hp} {c : List Addr} {cs : Cells} (I : Ih g H F c cs) {p : Addr} {o : HO} (hc : p ∉ c) (hF : F p = none) : Ih g (upd H p o) F c cs := by
  refine ⟨fun a u e => by rw [upd_ne (ne_of_none e hF)]; exact I.sub a u e, I.len, I.nd, fun n a x h1 h2 => ?_⟩
  have hne : a ≠ p := fun e => hc (e ▸ List.mem_of_getElem? h1)
  exact CR.mono (I.cell n a x h1 h2) (Le.refl _ _) (fun u e => by rw [upd_ne hne]; exact e) fun e => e
theorem Xt.side {H0 F0 H F : Hp} {c0 c : List Addr} (x : Xt H0 F0 c0 H F c) {p : Addr} {o : HO} (hp : H0 p = none) : Xt H0 F0 c0 (upd H p o) F c :=
  ⟨x.le, fun a u e n => by rw [upd_ne (ne_of_none e hp)]; exact x.kp a u e n, fun a u e => by rw [upd_ne (ne_of_none e hp)]; exact x.dom a u e, x.new, x.out⟩
structure LcI (g : Gd) (W : XK) (H F : Hp) (c : List Addr) (Q : VK) (md : Bool) (Dl : Addr) (rest : Env → Cells → RA) (env : Env) (H' : Hp) : Prop where
  ex : ∃ F' c' cs' acc dacc, Xt H F c H' F' c' ∧ Ih g H' F' c' cs' ∧ H' Dl = some (.lst acc) ∧ Dl ∉ c' ∧ F' Dl = none ∧ RVs g F' c' acc dacc ∧ PoE g W H F c (((rest env cs').pre dacc).bind fun ds cs2 => mkL md cs2 ds) Q
/-- [e for .. in it if t] -/
theorem lc_sim {g : Gd} {W : XK} {J : It} {items : List D} {kn : Hp → List Addr → Prop} {chk : Cells → Prop} (K : Itk g J items fun H F c cs => kn F c ∧ chk cs) (km : ∀ F c F' c', Le F c F' c' → kn F c → kn F' c')
    {tg : D → Env → Option Env} {mt me : ME} {md : Bool} {tG : TG} {tt : TT} {te : TE} {own : List Nat} {Q : VK}
    (hg : ∀ σ env H F c cs v d env1 Q, RE g F c σ env → Ih g H F c cs → RV g F c v d → tg d env = some env1 → (∀ σ1, RE g F c σ1 env1 → L2.wipe σ1 own = L2.wipe σ own → Q σ1 H) → tG v σ H Q)
    (ht : ∀ σ env H F c cs Q, RE g F c σ env → Ih g H F c cs → PoT g (fun _ _ _ => False) H F c (mt env cs) Q → tt σ H Q)
    (he : ∀ σ env H F c cs Q, RE g F c σ env → Ih g H F c cs → PoE g (fun _ _ _ => False) H F c (me env cs) Q → te σ H Q)
    {σ : L2.St} {env : Env} {H F : Hp} {c : List Addr} {cs : Cells} (re : RE g F c σ env) (I : Ih g H F c cs) (hk : kn F c) {Dl : Addr} (hD : H Dl = none)
    (po : PoE g W H F c ((lcL chk tg mt me items env cs).bind fun ds cs2 => mkL md cs2 ds) Q) (hσ : L2.wipe σ own = σ) :
    ∃ Wi : Nat → Nat → Hp → Prop, (∃ m, Wi 0 m (upd H Dl (.lst []))) ∧ ∀ i m H, Wi i m H → (J.stop i H ∧ Q (.ref Dl) H) ∨ (J.go i H ∧ ∃ Nx : Hp → Prop, (∀ H', Nx H' → ∃ m', m' < m ∧ Wi (i + 1) m' H') ∧ ∀ x H', J.yld i H x H' → tG x σ H' fun σ2 H2 => L2.wipe σ2 own = σ ∧ tt σ2 H2 fun b H3 =>
      if b = true then te σ2 H3 fun y H4 => ∃ acc, H4 Dl = some (.lst acc) ∧ acc.length < sizeLine ∧ Nx (upd H4 Dl (.lst (acc ++ [y]))) else Nx H3) := by
  refine ⟨fun i m H' => m = items.length - i ∧ i ≤ items.length ∧ LcI g W H F c Q md Dl (lcL chk tg mt me (items.drop i)) env H', ⟨_, rfl, Nat.zero_le _, F, c, cs, [], [], Xt.side (Xt.refl _ _ _) hD, I.side (I.notMem hD) (I.noF hD), upd_same, I.notMem hD, I.noF hD, .nil, ?_⟩, ?_⟩
  · cases hl : lcL chk tg mt me items env cs <;> simpa [RA.pre, hl] using po
  · rintro i m H1 ⟨rfl, hi, F1, c1, cs1, acc, dacc, x1, I1, hDl, hDc, hDF, rva, po1⟩
    have re1 := re.mono x1.le
    have k1 := km _ _ _ _ x1.le hk
    by_cases hc : chk cs1
    · by_cases hlt : i < items.length
      · refine .inr ⟨K.go i H1 F1 c1 cs1 I1 ⟨k1, hc⟩ hlt, fun H' => ∃ m', m' < items.length - i ∧ m' = items.length - (i + 1) ∧ i + 1 ≤ items.length ∧ LcI g W H F c Q md Dl (lcL chk tg mt me (items.drop (i + 1))) env H', fun H' h => h, fun x H2 y => ?_⟩
        obtain ⟨F2, x2, I2, rv⟩ := K.yld i H1 F1 c1 cs1 items[i] I1 ⟨k1, hc⟩ (by simp [hlt]) x H2 y
        have hDl2 : H2 Dl = some (.lst acc) := x2.kp _ _ hDl hDc
        have hDF2 := x2.out _ _ hDl hDF hDc
        rw [List.drop_eq_getElem_cons hlt] at po1
        simp only [lcL, hc, if_true] at po1
        cases htg : tg items[i] env with
        | none => rw [htg] at po1; exact po1.elim
        | some env1 =>
          rw [htg] at po1
          simp only at po1
          refine hg σ env H2 F2 c1 cs1 x _ env1 _ (re1.mono x2.le) I2 rv htg fun σ2 re2 hw => ⟨hw.trans hσ, ?_⟩
          refine ht σ2 env1 H2 F2 c1 cs1 _ re2 I2 ?_
          cases htt : mt env1 cs1 with
          | ok d cs3 =>
            rw [htt] at po1
            cases d with
            | bl b =>
              intro H3 F3 c3 x3 I3
              have hDc3 : Dl ∉ c3 := fun h => by
                have := x3.new Dl h hDc
                rw [hDl2] at this; cases this
              have hDl3 : H3 Dl = some (.lst acc) := x3.kp _ _ hDl2 hDc
              have hDF3 := x3.out _ _ hDl2 hDF2 hDc
              cases b with
              | true =>
                refine iteT ?_
                simp only at po1
                refine he σ2 env1 H3 F3 c3 cs3 _ (re2.mono x3.le) I3 ?_
                cases hee : me env1 cs3 with
                | ok d4 cs4 =>
                  rw [hee] at po1
                  simp only at po1
                  intro H4 F4 c4 x4 I4 y ry
                  have hDc4 : Dl ∉ c4 := fun h => by
                    have := x4.new Dl h hDc3
                    rw [hDl3] at this; cases this
                  have hDl4 : H4 Dl = some (.lst acc) := x4.kp _ _ hDl3 hDc3
                  have hDF4 := x4.out _ _ hDl3 hDF3 hDc3
                  have xx := ((x1.trans x2).trans x3).trans x4
                  have ra : RVs g F4 c4 (acc ++ [y]) (dacc ++ [d4]) := (((rva.mono x2.le).mono x3.le).mono x4.le).append (.cons ry .nil)
                  cases hl : lcL chk tg mt me (items.drop (i + 1)) env cs4 with
                  | ok ys cs5 =>
                    rw [hl] at po1
                    have po2 : PoE g W H F c (mkL md cs5 (dacc ++ (d4 :: ys))) Q := po1
                    have hlen : acc.length < sizeLine := by
                      unfold mkL at po2
                      split at po2
                      · rename_i q
                        have := rva.length
                        simp at q
                        omega
                      · exact po2.elim
                    refine ⟨acc, hDl4, hlen, _, by omega, rfl, hlt, F4, c4, cs4, acc ++ [y], dacc ++ [d4], xx.side hD, I4.side hDc4 hDF4, upd_same, hDc4, hDF4, ra, ?_⟩
                    rw [hl]
                    simp only [RA.pre, RA.bind_ok, List.append_assoc, List.singleton_append]
                    exact po2
                  | exc n fs cs5 => rw [hl] at po1; exact po1.elim
                  | stuck => rw [hl] at po1; exact po1.elim
                | exc n fs cs4 => rw [hee] at po1; exact po1.elim
                | stuck => rw [hee] at po1; exact po1.elim
              | false =>
                refine iteF ⟨_, by omega, rfl, hlt, F3, c3, cs3, acc, dacc, (x1.trans x2).trans x3, I3, hDl3, hDc3, hDF3, (rva.mono x2.le).mono x3.le, po1⟩
            | _ => exact po1.elim
          | exc n fs cs3 => rw [htt] at po1; exact po1.elim
          | stuck => rw [htt] at po1; exact po1.elim
      · have e : i = items.length := by omega
        subst e
        refine .inl ⟨K.stop _ H1 F1 c1 cs1 I1 ⟨k1, hc⟩ rfl, ?_⟩
        rw [List.drop_length] at po1
        simp only [lcL, hc, if_true, RA.pre, RA.bind_ok, List.append_nil] at po1
        unfold mkL at po1
        split at po1
        · cases md with
          | true =>
            rw [if_pos rfl] at po1
            have xp : Xt H F c H1 F1 (c1 ++ [Dl]) := ⟨x1.le.trans Le.push, x1.kp, x1.dom, fun a h n => by
              rcases List.mem_append.mp h with h | h
              · exact x1.new a h n
              · have : a = Dl := by simpa using h
                rw [this]; exact hD, x1.out⟩
            refine po1 _ _ _ xp ?_ _ (.loc (n := cs1.length) (by rw [← I1.len]; simp))
            refine ⟨I1.sub, by simp [I1.len], ?_, fun n a z h1 h2 => ?_⟩
            · rw [List.nodup_append]
              refine ⟨I1.nd, by simp, fun a ha b hb => ?_⟩
              have : b = Dl := by simpa using hb
              subst this
              rintro rfl
              exact hDc ha
            · by_cases hl : n < c1.length
              · rw [List.getElem?_append_left hl] at h1
                rw [List.getElem?_append_left (by rw [← I1.len]; exact hl)] at h2
                exact CR.mono (I1.cell n a z h1 h2) Le.push (fun _ e => e) fun e => e
              · have hl' : n < (c1 ++ [Dl]).length := (List.getElem?_eq_some_iff.mp h1).1
                have hn : n = c1.length := by simp at hl'; omega
                subst hn
                rw [List.getElem?_append_right (Nat.le_refl _)] at h1
                rw [I1.len, List.getElem?_append_right (Nat.le_refl _)] at h2
                simp at h1 h2
                subst h1; subst h2
                exact ⟨hDF, acc, hDl, rva.mono Le.push⟩
          | false =>
            rw [if_neg Bool.false_ne_true] at po1
            have le2 : Le F1 c1 (upd F1 Dl (.lst acc)) c1 := Le.upd hDF
            have xp : Xt H F c H1 (upd F1 Dl (.lst acc)) c1 := ⟨x1.le.trans le2, x1.kp, x1.dom, x1.new, fun a o h f n => by
              rw [upd_ne (ne_of_none h hD)]; exact x1.out a o h f n⟩
            refine po1 _ _ _ xp ?_ _ (.lst upd_same (rva.mono le2))
            refine ⟨fun a o e => ?_, I1.len, I1.nd, fun n a z h1 h2 => ?_⟩
            · by_cases ha : a = Dl
              · subst ha; rw [upd_same] at e; cases e; exact hDl
              · rw [upd_ne ha] at e; exact I1.sub a o e
            · have hne : a ≠ Dl := fun e => hDc (e ▸ List.mem_of_getElem? h1)
              exact CR.mono (I1.cell n a z h1 h2) le2 (fun _ e => e) fun e => by rw [upd_ne hne]; exact e
        · exact po1.elim
    · have : lcL chk tg mt me (items.drop i) env cs1 = .stuck := by cases items.drop i <;> simp [lcL, hc]
      rw [this] at po1
      exact po1.elim
/-! ### readings that are the same in every context -/
def teOf (g : Gd) (W : WX) (m : ME) : TE := fun σ H Q => ∃ env F c cs, RE g F c σ env ∧ Ih g H F c cs ∧ PoE g (fun a b => W a b σ) H F c (m env cs) Q
def ttOf (g : Gd) (W : WX) (m : ME) : TT := fun σ H Q => ∃ env F c cs, RE g F c σ env ∧ Ih g H F c cs ∧ PoT g (fun a b => W a b σ) H F c (m env cs) Q
def tgOf (g : Gd) (f : D → Env → Option Env) (own : List Nat) : TG := fun v σ H Q => ∃ env F c cs d env1, RE g F c σ env ∧ Ih g H F c cs ∧ RV g F c v d ∧ f d env = some env1 ∧ ∀ σ1, RE g F c σ1 env1 → L2.wipe σ1 own = L2.wipe σ own → Q σ1 H
section
variable {X : Cx} {W : WX} {pos : Pos} {tg iter elt e : Expr} {ifs : List Expr} {scope : Scope} {own : List (Str × Nat)} {f : D → Env → Option Env} {mw : MW} {m mt me : ME} {md : Bool} {ow : List Nat}
theorem Xp.canon (h : Xp X W e m) : PE X e (teOf (gd X) W m) := by
  obtain ⟨t, p, s⟩ := h
  exact ⟨fun pins s0 σ H Q I ⟨env, F, c, cs, re, I1, po⟩ => p.run pins s0 σ H Q I (s σ env H F c cs Q re I1 po)⟩
theorem Xts.canon (h : Xts X W ifs m) : PTs X ifs (ttOf (gd X) W m) := by
  obtain ⟨t, p, s⟩ := h
  exact ⟨fun pins s0 σ H Q I ⟨env, F, c, cs, re, I1, po⟩ => p.run pins s0 σ H Q I (s σ env H F c cs Q re I1 po)⟩
theorem Tgt.canon (h : Tgt X tg f ow) : PG X tg (tgOf (gd X) f ow) := by
  obtain ⟨t, p, s⟩ := h
  exact ⟨fun pins s0 σ H v u Q I r ⟨env, F, c, cs, d, env1, re, I1, rv, e, k⟩ => p.run pins s0 σ H v u Q I r (s σ env H F c cs v d env1 Q re I1 rv e k)⟩
/-- the parts of a comprehension in its block -/
structure LcOk (X : Cx) (tg : Expr) (ifs : List Expr) (elt : Expr) (scope : Scope) (own : List (Str × Nat)) (f : D → Env → Option Env) (mt me : ME) : Prop where
  tgt : ∀ (s : Shared) (H : Hp) (C : Addr) (cl : List (Str × Addr)) (fp : List Addr), Tgt (X.blk s H scope (compEnvC scope cl C X.env) fp) tg f (own.map (·.2))
  tst : ∀ (s : Shared) (H : Hp) (C : Addr) (cl : List (Str × Addr)) (fp : List Addr), Xts (X.blk s H scope (compEnvC scope cl C X.env) fp) (fun _ _ _ _ => False) ifs mt
  elt : ∀ (s : Shared) (H : Hp) (C : Addr) (cl : List (Str × Addr)) (fp : List Addr), Xp (X.blk s H scope (compEnvC scope cl C X.env) fp) (fun _ _ _ _ => False) elt me
theorem lc_go {wi : TI} (sw : ∀ σ env H F c cs R, RE (gd X) F c σ env → Ih (gd X) H F c cs → PoW (gd X) (fun a b => W a b σ) H F c (mw env cs) R → wi σ H R)
    {σ : L2.St} {env : Env} {H F : Hp} {c : List Addr} {cs : Cells} {Q : VK} (re : RE (gd X) F c σ env) (I : Ih (gd X) H F c cs) (po : PoE (gd X) (fun a b => W a b σ) H F c (eLc md (own.map (·.2)) f mw mt me env cs) Q) :
    tLc wi (tgOf (gd X) f (own.map (·.2))) (ttOf (gd X) (fun _ _ _ _ => False) mt) (teOf (gd X) (fun _ _ _ _ => False) me) (own.map (·.2)) σ H Q := by
  refine sw σ env H F c cs _ re I ?_
  unfold eLc at po
  cases h : mw env cs with
  | ok items chk cs1 =>
    rw [h] at po
    intro H1 F1 c1 x1 I1 J kn K km hk Dl hD
    have q := lc_sim K km (tg := f) (mt := mt) (me := me) (md := md) (own := own.map (·.2)) (Q := Q) (fun σ env H F c cs v d env1 Q re I rv h k => (⟨env, F, c, cs, d, env1, re, I, rv, h, k⟩ : tgOf (gd X) f (own.map (·.2)) v σ H Q))
      (fun σ env H F c cs Q re I po => (⟨env, F, c, cs, re, I, po⟩ : ttOf (gd X) (fun _ _ _ _ => False) mt σ H Q)) (fun σ env H F c cs Q re I po => (⟨env, F, c, cs, re, I, po⟩ : teOf (gd X) (fun _ _ _ _ => False) me σ H Q))
      (W := fun a b => W a b σ) ((re.mono x1.le).wipe (own.map (·.2))) I1 hk hD (PoE.from x1 po) (wipe_wipe σ _)
    exact q
  | exc n fs cs1 => rw [h] at po; exact po
  | stuck => rw [h] at po; exact po.elim
theorem xp_lc (md : Bool) (hc : X.calm = true) (hN : X.N.Nodup) (hi : Wk X W tg iter mw) (ok : BlkOk X.N X.env.scope scope own) (h : LcOk X tg ifs elt scope own f mt me) (hs : ∀ x, foldedSetIterable iter X.env x = pure x := by intro _; rfl) :
    Xp X W (.ListComp elt [⟨tg, iter, ifs, 0⟩] scope pos) (eLc md (own.map (·.2)) f mw mt me) := by
  obtain ⟨wi, pw, sw⟩ := hi
  exact ⟨_, pe_lc (g := tgOf (gd X) f (own.map (·.2))) (tt := ttOf (gd X) (fun _ _ _ _ => False) mt) (te := teOf (gd X) (fun _ _ _ _ => False) me) hc hN pw ok (fun s H C cl fp => (h.tgt s H C cl fp).canon) (fun s H C cl fp => (h.tst s H C cl fp).canon) (fun s H C cl fp => (h.elt s H C cl fp).canon) hs, fun σ env H F c cs Q re I po => lc_go sw re I po⟩
/-- y = [..] -/
theorem sm_setLc (md : Bool) {i : Nat} {y : Str} {py spos : Pos} (hc : X.calm = true) (hN : X.N.Nodup) (hy : X.N[i]? = some y) (hyl : X.env.scope.names.lookup y = some .local)
    (hsw : swapsWith (.ListComp elt [⟨tg, iter, ifs, 0⟩] scope pos) (some (.Name y py)) spos.line X.env = pure true) (hi : Wk X W tg iter mw) (ok : BlkOk X.N X.env.scope scope own) (h : LcOk X tg ifs elt scope own f mt me) (hs : ∀ x, foldedSetIterable iter X.env x = pure x := by intro _; rfl) :
    Sm X W (.Assign [.Name y py] (.ListComp elt [⟨tg, iter, ifs, 0⟩] scope pos) spos) (sAsg i (eLc md (own.map (·.2)) f mw mt me)) := by
  obtain ⟨wi, pw, sw⟩ := hi
  refine ⟨_, ps_setLc (g := tgOf (gd X) f (own.map (·.2))) (tt := ttOf (gd X) (fun _ _ _ _ => False) mt) (te := teOf (gd X) (fun _ _ _ _ => False) me) hc hN hy hyl hsw pw ok (fun s H C cl fp => (h.tgt s H C cl fp).canon) (fun s H C cl fp => (h.tst s H C cl fp).canon) (fun s H C cl fp => (h.elt s H C cl fp).canon) hs, fun σ env H F c cs Dn re I po => ?_⟩
  refine lc_go sw re I (PoS.cut re po _ fun d cs1 _ H1 F1 c1 v x1 I1 rv po1 => ?_)
  exact PoS.next I1 ((re.mono x1.le).set i rv) po1
end
end L3

namespace L3
open PySem L2 PyProof.Rows

/-! ### o[i] -/
def IxR (X : Cx) (r : R2) : Prop :=
  ∀ (value slice : Expr) (pins : List (Addr × Obj)) (s : Shared) (σ : L2.St) (H : Hp) (x y : V) (v u : Value) (Q : VK), Inv X pins σ H s → RelV s.toks x v → RelV s.toks y u → r x y H Q →
    subscripted slice false v u = operate [v, u] (getItem v u) → wpAny (model X.prog X.w) X.A (subscriptTail value slice v u) (EP X pins σ Q) X.xe s
section
variable {X : Cx} {a b : Expr} {ta tb : TE} {pos : Pos}
theorem IxR.or {r r' : R2} (h : IxR X r) (h' : IxR X r') : IxR X (fun x y H Q => r x y H Q ∨ r' x y H Q) :=
  fun value slice pins s σ H x y v u Q I rx ry q hs => q.elim (fun q => h value slice pins s σ H x y v u Q I rx ry q hs) fun q => h' value slice pins s σ H x y v u Q I rx ry q hs
theorem pe_ix {r : R2} (hr : IxR X r) (ha : PE X a ta) (hb : PE X b tb) (hs : PlainIx b) : PE X (.Subscript a b pos) (tOp r ta tb) :=
  ⟨fun pins s σ H Q I h => Subscript_ (bin ha hb I h fun v u s2 x y H2 I2 rx ry q => hr a b pins s2 σ H2 x y v u Q I2 rx ry q (hs _ _))⟩
def rIxL (K : PySem.W.Frag) : R2 := fun x y H Q => ∃ p xs i v, x = .ref p ∧ y = .int i ∧ SqL K H p xs ∧ atI xs i = some v ∧ Q v H
def rIxT (K : PySem.W.Frag) : R2 := fun x y H Q => ∃ p xs i v, x = .ref p ∧ y = .int i ∧ SqT K H p xs ∧ atI xs i = some v ∧ Q v H
theorem ix_list : IxR X (rIxL X.K) := by
  rintro value slice pins s σ H x y v u Q I ⟨rx, _⟩ ⟨ry, _⟩ ⟨p, xs, i, z, rfl, rfl, hq, he, q⟩ hs
  cases rx
  obtain ⟨t, rfl⟩ := ry
  obtain ⟨its, r, pl, hz⟩ := I.list hq
  obtain ⟨j, h1, h2, h3, h4, h5⟩ := atI_get he
  obtain ⟨w, ew, rw'⟩ := r.get h2
  have hl := r.length
  have hn := line63
  have fin : EP X pins σ Q w s := ⟨z, H, I, rw', q⟩
  by_cases h0 : 0 ≤ i
  · rw [seqIndex_of h0 h5] at h1
    exact item_listR pl.isList h0 (by omega) (by rw [Option.some.inj h1]; simpa using ew) fin hs
  · rw [seqIndex_neg (by omega) h4, hl, ← List.size_toArray] at h1
    exact subscriptTail_builtinR (x := w) pl.isList.typeIs slot_list_getitem.lookup
      (wpAny_getItem_list_neg (Q := fun r s' => r = w ∧ EP X pins σ Q r s') pl.isList (by omega) (by rw [List.size_toArray] <;> omega) (by omega) (by rw [Option.some.inj h1]; simpa using ew) ⟨rfl, fin⟩) hs
theorem ix_tup : IxR X (rIxT X.K) := by
  rintro value slice pins s σ H x y v u Q I ⟨rx, _⟩ ⟨ry, _⟩ ⟨p, xs, i, z, rfl, rfl, hq, he, q⟩ hs
  cases rx
  obtain ⟨t, rfl⟩ := ry
  obtain ⟨its, r, pl, hz⟩ := I.tuple hq
  obtain ⟨j, h1, h2, h3, h4, h5⟩ := atI_get he
  obtain ⟨w, ew, rw'⟩ := r.get h2
  have hl := r.length
  have hn := line63
  exact subscriptTail_builtinR (x := w) pl.typeIs slot_tuple_getitem.lookup
    (getItem_tuple (j := j) (Q := fun r s' => r = w ∧ EP X pins σ Q r s') pl (by omega) (by omega) (by rw [List.size_toArray, ← hl]; exact h1) (by simpa using ew) ⟨rfl, z, H, I, rw', q⟩) hs
theorem ix_str : IxR X rIxS := by
  rintro value slice pins s σ H x y v u Q I ⟨rx, _⟩ ⟨ry, _⟩ ⟨z, i, c, rfl, rfl, hz, he, q⟩ hs
  obtain ⟨t, rfl⟩ := rx
  obtain ⟨t', rfl⟩ := ry
  obtain ⟨j, h1, h2, h3, h4, h5⟩ := atI_get he
  have hl : z.cps.toList.length = z.length := by simp [PySem.Str.length]
  rw [hl] at h1 h4 h5
  have hn := line63
  refine tail_any (typeIs_str s z t) slot_str_getitem.lookup (getItem_str (c := c) ?_ (by rw [h1]; simpa using h2) (endS I q)) hs
  have e1 : decide (i < -(2 ^ 63 : Int)) = false := decide_eq_false (by omega)
  have e2 : decide (i ≥ 2 ^ 63) = false := decide_eq_false (by omega)
  rw [e1, e2, Bool.or_false]
def rIx (K : PySem.W.Frag) : R2 := fun x y H Q => rIxL K x y H Q ∨ rIxT K x y H Q ∨ rIxS x y H Q
theorem ix_seq : IxR X (rIx X.K) := ix_list.or (ix_tup.or ix_str)
end

/-! ### o[i:j] -/
structure PO (X : Cx) (e : Option Expr) (t : TO) : Prop where
  run : ∀ (pins : List (Addr × Obj)) (s : Shared) (σ : L2.St) (H : Hp) (Q : Option Int → Hp → Prop), Inv X pins σ H s → t σ H Q →
    wpAny (model X.prog X.w) X.A (evalPart e X.env) (fun u s' => ∃ o H', Inv X pins σ H' s' ∧ IsPart u o ∧ Q o H') X.xe s
def SlR (X : Cx) (r : V → Option Int → Option Int → Hp → VK → Prop) : Prop :=
  ∀ (pins : List (Addr × Obj)) (s : Shared) (σ : L2.St) (H : Hp) (x : V) (v vl vu : Value) (lo hi : Option Int) (sl : Addr) (Q : VK), Inv X pins σ H s → RelV s.toks x v → s.heap.IsSliceOf sl vl vu .none → IsPart vl lo → IsPart vu hi → r x lo hi H Q →
    ∃ T id, typeLookup (.type T) "__getitem__" = pure (some (.builtin id)) ∧ s.TypeIs v T ∧ wpAny (model X.prog X.w) X.A (getItem v (.ref sl)) (EP X pins σ Q) X.xe s
section
variable {X : Cx} {e : Expr} {lo hi : Option Expr} {te : TE} {tl th : TO} {pos p2 : Pos}
theorem po_none : PO X none tNoPart := by
  constructor
  intro pins s σ H Q I h
  rw [evalPart_none]
  exact wpAny_pure ⟨none, H, I, .none, h⟩
theorem po_some (h : PE X e te) : PO X (some e) (tPart te) := by
  constructor
  intro pins s σ H Q I hw
  rw [evalPart_some]
  refine thn (h.run pins s σ H _ I hw) fun u s1 z => ?_
  obtain ⟨x, H1, I1, ⟨r1, _⟩, i, rfl, q⟩ := z
  obtain ⟨t, rfl⟩ := r1
  exact ⟨some i, H1, I1, .int i t, q⟩
theorem SlR.or {r r' : V → Option Int → Option Int → Hp → VK → Prop} (h : SlR X r) (h' : SlR X r') : SlR X (fun x lo hi H Q => r x lo hi H Q ∨ r' x lo hi H Q) :=
  fun pins s σ H x v vl vu lo hi sl Q I rx hs pl pu q => q.elim (h pins s σ H x v vl vu lo hi sl Q I rx hs pl pu) (h' pins s σ H x v vl vu lo hi sl Q I rx hs pl pu)
theorem pe_slice {r : V → Option Int → Option Int → Hp → VK → Prop} (hr : SlR X r) (he : PE X e te) (hl : PO X lo tl) (hu : PO X hi th) : PE X (.Subscript e (.Slice lo hi none p2) pos) (tSl r te tl th) := by
  constructor
  intro pins s σ H Q I h
  refine Subscript_ (thn (he.run pins s σ H _ I h) fun v s1 z1 => ?_)
  obtain ⟨x, H1, I1, r1, q1⟩ := z1
  refine wpAny_Slice (thk (hl.run pins s1 σ H1 _ I1 q1) fun vl s2 k2 z2 => ?_)
  obtain ⟨l, H2, I2, pl, q2⟩ := z2
  refine thk (hu.run pins s2 σ H2 _ I2 q2) fun vu s3 k3 z3 => ?_
  obtain ⟨u, H3, I3, pu, q3⟩ := z3
  rw [evalPart_none]
  refine wpAny_pure ?_
  have I4 : Inv X pins σ H3 { s3 with heap := s3.heap.push { cls := .type "slice", data := .fields #[vl, vu, .none] } } := I3.kept (t' := s3.toks) (fun b ob q => Heap.get?_push_of_some _ q) (Nat.le_refl _)
  obtain ⟨T, id, hT, ht, hg⟩ := hr pins _ σ H3 x v vl vu l u s3.heap.objs.size Q I4 (r1.mono (Nat.le_trans k2 k3)) (Heap.IsSliceOf.new ..) pl pu q3
  show wpAny (model X.prog X.w) X.A (subscriptTail e (.Slice lo hi none p2) v (.ref s3.heap.objs.size)) (EP X pins σ Q) X.xe { s3 with heap := s3.heap.push { cls := .type "slice", data := .fields #[vl, vu, .none] } }
  exact tail_any (ops := [.ref s3.heap.objs.size, v]) ht hT hg (by with_unfolding_all rfl)
theorem Vals.drop {k : Nat} {xs : List V} {us : List Value} (n : Nat) (r : Vals k xs us) : Vals k (xs.drop n) (us.drop n) := ⟨r.1.drop n, fun u m => r.2 u (List.mem_of_mem_drop m)⟩
theorem Vals.take {k : Nat} {xs : List V} {us : List Value} (n : Nat) (r : Vals k xs us) : Vals k (xs.take n) (us.take n) := ⟨r.1.take n, fun u m => r.2 u (List.mem_of_mem_take m)⟩
def rSlL (K : PySem.W.Frag) : V → Option Int → Option Int → Hp → VK → Prop := fun x lo hi H Q => ∃ a xs, x = .ref a ∧ SqL K H a xs ∧ ∀ p, H p = none → Q (.ref p) (upd H p (.lst (cutV xs lo hi)))
theorem sl_list : SlR X (rSlL X.K) := by
  rintro pins s σ H x v vl vu lo hi sl Q I ⟨rx, _⟩ hs pl pu ⟨a, xs, rfl, hx, q⟩
  cases rx
  obtain ⟨its, r, ht, hz⟩ := I.list hx
  have hlen := r.length
  refine ⟨"list", _, slot_list_getitem.lookup, ht.isList.typeIs, ?_⟩
  refine wpAny_getItem_list_slice ht.isList hs pl pu .none (by simp) ?_ (by rw [List.size_toArray] <;> omega)
  rw [slicePick_cut, ← hlen]
  exact ⟨.ref _, _, I.lnew (t' := s.toks) ((r.drop _).take _) (Nat.le_trans (cutV_length xs lo hi) hz) (Nat.le_refl _), .ref, q _ (I.fresh (Nat.le_refl _))⟩
theorem sl_str : SlR X rSlS := by
  rintro pins s σ H x v vl vu lo hi sl Q I ⟨rx, gx⟩ hs pl pu ⟨z, rfl, hz, q⟩
  obtain ⟨t, rfl⟩ := rx
  obtain ⟨T, id, h1, h2, h3⟩ := L2.sl_str pins s σ H (.str z) (.str z t) vl vu lo hi sl (fun v H' => H' = H ∧ Q v H') I.i ⟨t, rfl⟩ hs pl pu ⟨z, rfl, hz, rfl, q⟩
  refine ⟨T, id, h1, h2, ?_⟩
  obtain ⟨os, hos, hcs, hds⟩ := hs
  obtain ⟨l, rfl, rfl⟩ := IsPart.raw pl
  obtain ⟨u, rfl, rfl⟩ := IsPart.raw pu
  have h4 : wpAny (model X.prog X.w) X.A (getItem (.str z t) (.ref sl)) _ (fun _ _ => True) s := wpAny_getItem_str_slice (l := l) (u := u) (st := none) ⟨os, hos, hcs, hds⟩ rfl (post_ok I.p ?_)
  · refine wpAny_mono (wpAny_and h3 h4) (fun w s' z => ?_) fun _ _ z => z.1
    obtain ⟨⟨v', H', J, rv, rfl, q'⟩, gw, hk, kp⟩ := z
    have K := I.kept (h' := s'.heap) (t' := s'.toks) kp hk
    exact ⟨v', H', ⟨J, K.f, K.g, Nat.lt_of_lt_of_le I.p hk⟩, ⟨rv, gw⟩, q'⟩
  · unfold sliceMade
    split
    · exact gx
    · rename_i c
      have hl : (PySem.StrLaws.sliceText z (l.map (·.1)) (u.map (·.1))).length ≤ sizeLine := by
        rw [sliceText_cut]
        exact Nat.le_trans (cutS_length z _ _) hz
      unfold PySem.StrLaws.sliceText at hl
      have c' : ¬ ((1 : Int) == 1 && (Builtin.Str.strSliceIndices (l.map (·.1)) (u.map (·.1)) 1 z.length).length == z.length) = true := c
      rw [if_neg c'] at hl
      exact hl
def rSlA (K : PySem.W.Frag) : V → Option Int → Option Int → Hp → VK → Prop := fun x lo hi H Q => ∃ a xs, x = .ref a ∧ SqT K H a xs ∧
  (HT.sIx xs.length 0 lo = 0 ∧ HT.sIx xs.length xs.length hi = xs.length → Q (.ref a) H) ∧ (¬ (HT.sIx xs.length 0 lo = 0 ∧ HT.sIx xs.length xs.length hi = xs.length) → ∀ p, H p = none → Q (.ref p) (upd H p (.tup (cutV xs lo hi))))
theorem sl_tupA : SlR X (rSlA X.K) := by
  rintro pins s σ H x v vl vu lo hi sl Q I ⟨rx, _⟩ hs pl pu ⟨a, xs, rfl, hx, q1, q2⟩
  cases rx
  obtain ⟨its, r, ht, hz⟩ := I.tuple hx
  have hlen : its.toArray.size = xs.length := by rw [List.size_toArray]; exact r.length.symm
  refine ⟨"tuple", _, PyProof.Rows.slot_tuple_getitem.lookup, ht.typeIs, ?_⟩
  by_cases hw : HT.sIx xs.length 0 lo = 0 ∧ HT.sIx xs.length xs.length hi = xs.length
  · exact getItem_tuple_whole ht hs pl pu (by rw [hlen]; exact hw) ⟨.ref a, H, I, .ref, q1 hw⟩
  · refine HT.getItem_tuple_cut ht hs pl pu (by rw [hlen]; exact hw) ?_ (by rw [hlen]; exact hz)
    rw [hlen]
    have rc := (r.drop (HT.sIx xs.length 0 lo)).take (HT.sIx xs.length xs.length hi - HT.sIx xs.length 0 lo)
    exact ⟨.ref _, _, I.laid (t' := s.toks) (o := .tup (cutV xs lo hi)) (fun b ob q => Heap.get?_push_of_some _ q) (Nat.le_refl _) ⟨Nat.le_trans (cutV_length xs lo hi) hz, _, rc.1, IsTup.new _ _⟩ (seq_new rc.2) (Nat.le_refl _), .ref, q2 hw _ (I.fresh (Nat.le_refl _))⟩
end
end L3

namespace L3
open PySem L2

/-! ### calls of defs -/
/-- a def of the text keeps m -/
def spM (g : Gd) (m : MF) (n : Nat) : Sp := fun vs H Q E => vs.length = n ∧ ∃ F c cs ds, Ih g H F c cs ∧ RVs g F c vs ds ∧ PoE g E H F c (m ds cs) Q
def eCall (m : MF) (a : MA) : ME := fun env cs => (a env cs).bind fun ds cs1 => m ds cs1
section
variable {X : Cx} {W : WX} {k : Nat} {f : Addr} {fd : FuncData} {ps : List Str} {m : MF} {x : Str} {p pos : Pos} {e : Expr} {es : List Expr} {ms : MA} {n : Nat}
theorem len_nil : ∀ env cs ds cs1, aNil env cs = .ok ds cs1 → ds.length = 0 := fun env cs ds cs1 h => by
  simp only [aNil, RA.ok.injEq] at h
  rw [← h.1]; rfl
theorem len_cons {m : ME} {ms : MA} {n : Nat} (h : ∀ env cs ds cs1, ms env cs = .ok ds cs1 → ds.length = n) : ∀ env cs ds cs1, aCons m ms env cs = .ok ds cs1 → ds.length = n + 1 := fun env cs ds cs1 e => by
  unfold aCons at e
  split at e
  · split at e
    · rename_i h2
      simp only [RA.ok.injEq] at e
      rw [← e.1, List.length_cons, h _ _ _ _ h2]
    · cases e
    · cases e
  · cases e
  · cases e
end
/-- a def's body -/
def mDef (n : Nat) (body : MS) : MF := fun ds cs => match body (ds.map some ++ List.replicate (n - ds.length) none) cs with
  | .nx _ cs1 => .ok .non cs1
  | .rt d cs1 => .ok d cs1
  | .exc x fs _ cs1 => .exc x fs cs1
  | _ => .stuck
section
variable {P : Program} {w : World} {K : PySem.W.Frag} {mg : Str → Option Value} {base : Heap}
theorem re_start {g : Gd} {F : Hp} {c : List Addr} {vs : List V} {ds : List D} (rv : RVs g F c vs ds) (N : List Str) : RE g F c (L2.start N vs) (ds.map some ++ List.replicate (N.length - ds.length) none) := by
  unfold L2.start
  refine ⟨by simp [rv.length], fun i d h => ?_⟩
  by_cases hl : i < ds.length
  · rw [List.getElem?_append_left (by simpa using hl), List.getElem?_map] at h
    cases hd : ds[i]? with
    | none => rw [hd] at h; cases h
    | some d' =>
      rw [hd] at h
      simp only [Option.map_some, Option.some.injEq] at h
      subst h
      obtain ⟨v, hv, r⟩ := rv.get hd
      exact ⟨v, by rw [List.getElem?_append_left (by simp [rv.length]; exact hl), List.getElem?_map, hv]; rfl, r⟩
  · rw [List.getElem?_append_right (by simp; omega)] at h
    rw [List.getElem?_replicate] at h
    split at h <;> cases h
end
/-- another function that says the same where it says anything -/
theorem spM_imp {g : Gd} {m m' : MF} {n : Nat} (h : ∀ E H F c cs vs ds Q, Ih g H F c cs → RVs g F c vs ds → PoE g E H F c (m' ds cs) Q → PoE g E H F c (m ds cs) Q) : ∀ vs H Q E, spM g m' n vs H Q E → spM g m n vs H Q E :=
  fun vs H Q E ⟨hl, F, c, cs, ds, I, rv, po⟩ => ⟨hl, F, c, cs, ds, I, rv, h _ _ _ _ _ _ _ _ I rv po⟩

/-! ### what a def leaves behind: its own cells are dropped -/
mutual
def below (n : Nat) : D → Bool
  | .lst l => belows n l
  | .tup l => belows n l
  | .dct l => belowk n l
  | .obj _ l => belowf n l
  | .loc k => decide (k < n)
  | _ => true
def belows (n : Nat) : List D → Bool
  | [] => true
  | d :: r => below n d && belows n r
def belowk (n : Nat) : List (Kd × D) → Bool
  | [] => true
  | (_, d) :: r => below n d && belowk n r
def belowf (n : Nat) : List (Str × D) → Bool
  | [] => true
  | (_, d) :: r => below n d && belowf n r
end
def Cell.below (n : Nat) : Cell → Bool
  | .lst l => belows n l
  | .dct l => belowk n l
  | .set _ => true
  | .ins _ l => belowf n l
  | .fz d => L3.below n d
section
variable {g : Gd} {F : Hp} {c : List Addr}
mutual
theorem RV.bel : ∀ {v : V} {d : D}, RV g F c v d → below c.length d = true
  | _, _, .non => rfl
  | _, _, .bl b => rfl
  | _, _, .int i => rfl
  | _, _, .str l => rfl
  | _, _, .lst _ r => RVs.bel r
  | _, _, .tup _ r => RVs.bel r
  | _, _, .dct _ r => RKs.bel r
  | _, _, .scr _ => rfl
  | _, _, .obj _ _ r => RFs.bel r
  | _, _, .loc h => by
    simp only [L3.below, decide_eq_true_eq]
    exact (List.getElem?_eq_some_iff.mp h).1
theorem RVs.bel : ∀ {v : List V} {d : List D}, RVs g F c v d → belows c.length d = true
  | _, _, .nil => rfl
  | _, _, .cons a b => by simp only [L3.belows, RV.bel a, RVs.bel b, Bool.and_self]
theorem RKs.bel : ∀ {v : List (Key × V)} {d : List (Kd × D)}, RKs g F c v d → belowk c.length d = true
  | _, _, .nil => rfl
  | _, _, .cons a b => by simp only [L3.belowk, RV.bel a, RKs.bel b, Bool.and_self]
theorem RFs.bel : ∀ {v : List (Str × V)} {d : List (Str × D)}, RFs g F c v d → belowf c.length d = true
  | _, _, .nil => rfl
  | _, _, .cons a b => by simp only [L3.belowf, RV.bel a, RFs.bel b, Bool.and_self]
end
mutual
theorem RV.cut {n : Nat} : ∀ {v : V} {d : D}, RV g F c v d → below n d = true → RV g F (c.take n) v d
  | _, _, .non, _ => .non
  | _, _, .bl b, _ => .bl b
  | _, _, .int i, _ => .int i
  | _, _, .str l, _ => .str l
  | _, _, .lst h r, b => .lst h (RVs.cut r b)
  | _, _, .tup h r, b => .tup h (RVs.cut r b)
  | _, _, .dct h r, b => .dct h (RKs.cut r b)
  | _, _, .scr h, _ => .scr h
  | _, _, .obj m h r, b => .obj m h (RFs.cut r b)
  | _, _, .loc h, b => .loc (by
    simp only [L3.below, decide_eq_true_eq] at b
    rw [List.getElem?_take, if_pos b]; exact h)
theorem RVs.cut {n : Nat} : ∀ {v : List V} {d : List D}, RVs g F c v d → belows n d = true → RVs g F (c.take n) v d
  | _, _, .nil, _ => .nil
  | _, _, .cons a b, h => by
    simp only [L3.belows, Bool.and_eq_true] at h
    exact .cons (RV.cut a h.1) (RVs.cut b h.2)
theorem RKs.cut {n : Nat} : ∀ {v : List (Key × V)} {d : List (Kd × D)}, RKs g F c v d → belowk n d = true → RKs g F (c.take n) v d
  | _, _, .nil, _ => .nil
  | _, _, .cons a b, h => by
    simp only [L3.belowk, Bool.and_eq_true] at h
    exact .cons (RV.cut a h.1) (RKs.cut b h.2)
theorem RFs.cut {n : Nat} : ∀ {v : List (Str × V)} {d : List (Str × D)}, RFs g F c v d → belowf n d = true → RFs g F (c.take n) v d
  | _, _, .nil, _ => .nil
  | _, _, .cons a b, h => by
    simp only [L3.belowf, Bool.and_eq_true] at h
    exact .cons (RV.cut a h.1) (RFs.cut b h.2)
end
theorem CR.cut {H : Hp} {n : Nat} {a : Addr} {x : Cell} (h : CR g H F c a x) (b : x.below n = true) : CR g H F (c.take n) a x := by
  cases x with
  | lst l => obtain ⟨f, vs, h, r⟩ := h; exact ⟨f, vs, h, r.cut b⟩
  | dct l => obtain ⟨f, vs, h, r⟩ := h; exact ⟨f, vs, h, r.cut b⟩
  | set l => exact h
  | ins m l => obtain ⟨f, C, dx, fs, m, h, r⟩ := h; exact ⟨f, C, dx, fs, m, h, r.cut b⟩
  | fz d => exact ⟨h.1.cut b, h.2⟩
theorem CR.below {H : Hp} {a : Addr} {x : Cell} (h : CR g H F c a x) : x.below c.length = true := by
  cases x with
  | lst l => obtain ⟨f, vs, h, r⟩ := h; exact r.bel
  | dct l => obtain ⟨f, vs, h, r⟩ := h; exact r.bel
  | set l => rfl
  | ins m l => obtain ⟨f, C, dx, fs, m, h, r⟩ := h; exact r.bel
  | fz d => exact h.1.bel
end
/-- the elder cells are as they were, or speak of elder cells alone -/
def Kept (cs cs' : Cells) : Prop := cs.length ≤ cs'.length ∧ ∀ i x, i < cs.length → cs'[i]? = some x → cs[i]? = some x ∨ x.below cs.length = true
theorem ih_cut {g : Gd} {H F H' F' : Hp} {c c' : List Addr} {cs cs' : Cells} (I : Ih g H F c cs) (x : Xt H F c H' F' c') (I' : Ih g H' F' c' cs') (k : Kept cs cs') : Ih g H' F' (c'.take cs.length) (cs'.take cs.length) ∧ Xt H F c H' F' (c'.take cs.length) := by
  refine ⟨⟨I'.sub, by simp [I'.len], I'.nd.sublist (List.take_sublist _ _), fun n a y h1 h2 => ?_⟩, ?_⟩
  · rw [List.getElem?_take] at h1 h2
    split at h1
    · rename_i hn
      rw [if_pos hn] at h2
      have q := I'.cell n a y h1 h2
      refine CR.cut q ?_
      rcases k.2 n y hn h2 with e | e
      · obtain ⟨a0, h0, q0⟩ := I.at e
        have := CR.below q0
        rw [I.len] at this
        exact this
      · exact e
    · cases h1
  · refine ⟨⟨x.le.lst, x.le.tup, x.le.ins, x.le.rd, x.le.frz, fun n a h => ?_⟩, x.kp, x.dom, fun a h n => x.new a (List.mem_of_mem_take h) n, x.out⟩
    have hn : n < cs.length := by rw [← I.len]; exact (List.getElem?_eq_some_iff.mp h).1
    rw [List.getElem?_take, if_pos hn]
    exact x.le.loc n a h
open Classical in
noncomputable def tidy (m : MF) : MF := fun ds cs => match m ds cs with
  | .ok d cs' => if Kept cs cs' ∧ below cs.length d = true then .ok d (cs'.take cs.length) else .stuck
  | .exc n fs cs' => if Kept cs cs' ∧ belowf cs.length fs = true then .exc n fs (cs'.take cs.length) else .stuck
  | .stuck => .stuck
theorem tidy_imp {g : Gd} {m : MF} {n : Nat} : ∀ vs H Q E, spM g (tidy m) n vs H Q E → spM g m n vs H Q E := by
  refine spM_imp fun E H F c cs vs ds Q I rv po => ?_
  unfold tidy at po
  cases h : m ds cs with
  | ok d cs' =>
    rw [h] at po
    simp only at po
    split at po
    · rename_i q
      intro H' F' c' x I' v r
      obtain ⟨I2, x2⟩ := ih_cut I x I' q.1
      exact po H' F' _ x2 I2 v (r.cut q.2)
    · exact po.elim
  | exc k fs cs' =>
    rw [h] at po
    simp only at po
    split at po
    · rename_i q
      intro H' F' c' x I' C dx vs' a b r
      obtain ⟨I2, x2⟩ := ih_cut I x I' q.1
      exact po H' F' _ x2 I2 C dx vs' a b (r.cut q.2)
    · exact po.elim
  | stuck => rw [h] at po; exact po.elim
theorem kept_app (cs js : Cells) : Kept cs (cs ++ js) := ⟨by simp, fun i x hi h => .inl (by rw [List.getElem?_append_left hi] at h; exact h)⟩
theorem tidy_ok {m : MF} {ds : List D} {cs js : Cells} {d : D} (h : m ds cs = .ok d (cs ++ js)) (b : below cs.length d = true) : tidy m ds cs = .ok d cs := by
  unfold tidy
  rw [h]
  simp only
  rw [if_pos ⟨kept_app cs js, b⟩, List.take_left']
  rfl

/-! ### items -/
def ixD (cs : Cells) (x y : D) : R := match x, y with
  | .str l, .int i => if l.length ≤ sizeLine then (match atI l i with
    | some ch => .ok (.str [ch]) cs
    | none => .stuck) else .stuck
  | x, .int i => match seqOf cs x with
    | some ds => match atI ds i with
      | some d => .ok d cs
      | none => .stuck
    | none => .stuck
  | _, _ => .stuck
theorem atI_rv {g : Gd} {F : Hp} {c : List Addr} {vs : List V} {ds : List D} {i : Int} {d : D} (r : RVs g F c vs ds) (h : atI ds i = some d) : ∃ v, atI vs i = some v ∧ RV g F c v d := by
  unfold atI at h ⊢
  rw [r.length]
  cases e : ixN ds.length i with
  | none => rw [e] at h; cases h
  | some j => rw [e] at h; exact r.get h
section
variable {X : Cx} {W : WX} {pos p p1 p2 : Pos} {a b o : Expr} {ma mb mo : ME}
theorem o2_ix {g : Gd} : O2 g (rIx g.K) ixD := by
  intro W H F c cs x y d e Q I rx ry po
  unfold ixD at po
  split at po
  · split at po
    · split at po
      · rename_i hl _ ch hch
        cases rx; cases ry
        exact .inr (.inr ⟨_, _, ch, rfl, rfl, by rw [str_len]; exact hl, by simpa using hch, PoE.here I (.str [ch]) po⟩)
      · exact po.elim
    · exact po.elim
  · split at po
    · rename_i ds hds
      split at po
      · rename_i d' hd
        obtain ⟨q, vs, rfl, hs, rv⟩ := seqOf_at I rx hds
        cases ry
        obtain ⟨v, hv, r⟩ := atI_rv rv hd
        rcases hs with hs | hs
        · exact .inl ⟨q, vs, _, v, rfl, rfl, hs, hv, PoE.here I r po⟩
        · exact .inr (.inl ⟨q, vs, _, v, rfl, rfl, hs, hv, PoE.here I r po⟩)
      · exact po.elim
    · exact po.elim
  · exact po.elim
theorem xp_ix (ha : Xp X W a ma) (hb : Xp X W b mb) (hs : PlainIx b) : Xp X W (.Subscript a b pos) (op2 ixD ma mb) := by
  obtain ⟨ta, pa, sa⟩ := ha
  obtain ⟨tb, pb, sb⟩ := hb
  exact ⟨_, pe_ix ix_seq pa pb hs, fun σ env H F c cs Q re I po => sim2 sa sb o2_ix re I po⟩

/-! ### slices -/
theorem seqL_at {g : Gd} {H F : Hp} {c : List Addr} {cs : Cells} {v : V} {d : D} {ds : List D} (I : Ih g H F c cs) (r : RV g F c v d) (nt : ∀ l, d ≠ .tup l) (h : seqOf cs d = some ds) : ∃ a vs, v = .ref a ∧ SqL g.K H a vs ∧ RVs g F c vs ds := by
  have fl : listOf cs d = some ds → ∃ a vs, v = .ref a ∧ SqL g.K H a vs ∧ RVs g F c vs ds := fun h => by
    obtain ⟨b, vs, e, h1, h2⟩ := listOf_at I r h
    exact ⟨b, vs, e, .inl (.inl h1), h2⟩
  cases d with
  | tup l => exact absurd rfl (nt l)
  | scr l =>
    simp only [seqOf, Option.some.injEq] at h
    subst h
    cases r with
    | scr h1 => exact ⟨_, _, rfl, SqL.up I.sub h1, rvs_ints _⟩
  | _ => exact fl h

def cutL {α : Type} (xs : List α) (lo hi : Option Int) : List α := (xs.drop (HT.sIx xs.length 0 lo)).take (HT.sIx xs.length xs.length hi - HT.sIx xs.length 0 lo)
abbrev MO := Env → Cells → Option (Option Int × Cells)
def oNone : MO := fun _ cs => some (none, cs)
def oSome (m : ME) : MO := fun env cs => match m env cs with
  | .ok (.int i) cs1 => some (some i, cs1)
  | _ => none
def slD (md : Bool) (cs : Cells) (x : D) (lo hi : Option Int) : R := match x with
  | .str l => if l.length ≤ sizeLine then .ok (.str (cutL l lo hi)) cs else .stuck
  | .tup l => mkT cs (cutL l lo hi)
  | x => match seqOf cs x with
    | some ds => mkL md cs (cutL ds lo hi)
    | none => .stuck
def eSl (md : Bool) (m : ME) (lo hi : MO) : ME := fun env cs => (m env cs).bind fun x cs1 => match lo env cs1 with
  | some (l, cs2) => match hi env cs2 with
    | some (h, cs3) => slD md cs3 x l h
    | none => .stuck
  | none => .stuck
def Xo (X : Cx) (W : WX) (e : Option Expr) (m : MO) : Prop := ∃ t, PO X e t ∧ ∀ σ env H F c cs (Q : Option Int → Hp → Prop), RE (gd X) F c σ env → Ih (gd X) H F c cs →
  (match m env cs with
    | some (o, cs1) => Fw (gd X) H F c cs1 fun H' _ _ => Q o H'
    | none => False) → t σ H Q
theorem xo_none : Xo X W none oNone := ⟨_, po_none, fun _ _ _ _ _ _ _ _ I po => po _ _ _ (Xt.refl _ _ _) I⟩
theorem xo_some (h : Xp X W a ma) : Xo X W (some a) (oSome ma) := by
  obtain ⟨ta, pa, sa⟩ := h
  refine ⟨_, po_some pa, fun σ env H F c cs Q re I po => ?_⟩
  refine sa σ env H F c cs _ re I ?_
  unfold oSome at po
  cases h : ma env cs with
  | ok d cs1 =>
    rw [h] at po
    cases d with
    | int i => exact fun H' F' c' x I' v rv => by cases rv; exact ⟨i, rfl, po H' F' c' x I'⟩
    | _ => exact po.elim
  | exc n fs cs1 => rw [h] at po; exact po.elim
  | stuck => rw [h] at po; exact po.elim
theorem rvs_cut {g : Gd} {F : Hp} {c : List Addr} {vs : List V} {ds : List D} (r : RVs g F c vs ds) (lo hi : Option Int) : RVs g F c (cutV vs lo hi) (cutL ds lo hi) := by
  unfold cutV cutL
  rw [r.length]
  exact (r.drop _).take _
theorem xp_sl (md : Bool) {lo hi : Option Expr} {ml mh : MO} (ha : Xp X W a ma) (hl : Xo X W lo ml) (hh : Xo X W hi mh) : Xp X W (.Subscript a (.Slice lo hi none p2) pos) (eSl md ma ml mh) := by
  obtain ⟨ta, pa, sa⟩ := ha
  obtain ⟨tl, pl, sl⟩ := hl
  obtain ⟨th, ph, sh⟩ := hh
  refine ⟨_, pe_slice ((sl_list (X := X)).or (sl_str.or sl_tupA)) pa pl ph, fun σ env H F c cs Q re I po => ?_⟩
  refine sa σ env H F c cs _ re I (PoE.cut po _ fun d cs1 _ H1 F1 c1 v x1 I1 rv po1 => ?_)
  refine sl σ env H1 F1 c1 cs1 _ (re.mono x1.le) I1 ?_
  cases e1 : ml env cs1 with
  | none => rw [e1] at po1; exact po1.elim
  | some q =>
    obtain ⟨l, cs2⟩ := q
    rw [e1] at po1
    simp only at po1 ⊢
    intro H2 F2 c2 x2 I2
    refine sh σ env H2 F2 c2 cs2 _ ((re.mono x1.le).mono x2.le) I2 ?_
    cases e2 : mh env cs2 with
    | none => rw [e2] at po1; exact po1.elim
    | some q =>
      obtain ⟨h, cs3⟩ := q
      rw [e2] at po1
      simp only at po1 ⊢
      intro H3 F3 c3 x3 I3
      have po3 := PoE.from (x2.trans x3) po1
      have rv3 := (rv.mono x2.le).mono x3.le
      unfold slD at po3
      split at po3
      · split at po3
        · rename_i hl
          cases rv3
          refine .inr (.inl ⟨_, rfl, by rw [str_len]; exact hl, ?_⟩)
          have : cutS (⟨List.toArray ‹List Nat›⟩ : Str) l h = ⟨(cutL ‹List Nat› l h).toArray⟩ := by
            unfold cutS cutL
            rw [str_len]
          rw [this]
          exact PoE.here I3 (.str _) po3
        · exact po3.elim
      · cases rv3 with
        | tup g1 g2 =>
          refine .inr (.inr ⟨_, _, rfl, SqT.up I3.sub g1, fun e => ?_, fun _ p hp => mkT_ok I3 (rvs_cut g2 l h) po3 hp⟩)
          unfold mkT at po3
          split at po3
          · have hc : cutL ‹List D› l h = ‹List D› := by
              unfold cutL
              rw [← g2.length, e.1, e.2, g2.length]
              simp
            rw [hc] at po3
            exact PoE.here I3 (.tup g1 g2) po3
          · exact po3.elim
      · split at po3
        · rename_i ds hds
          have nt : ∀ l, d ≠ .tup l := by
            rintro l rfl
            rename_i hn
            exact hn l rfl
          obtain ⟨q, vs, rfl, hs, r⟩ := seqL_at I3 rv3 nt hds
          exact .inl ⟨q, vs, rfl, hs, fun p hp => mkL_ok I3 (rvs_cut r l h) po3 hp⟩
        · exact po3.elim
end
end L3

namespace L3
open PySem L2 PyProof.Rows

/-! ### the call of a builtin -/
section
variable {X : Cx} {x : Str} {p pos : Pos} {e : Expr} {es : List Expr} {t : TA} {id T : String} {r : List V → Hp → VK → Prop}
theorem pe_callB (hc : CallR X (.builtin id) r) (hg : Gl X x) (hm : X.mg x = none) (hv : bootBuiltins x = some (.builtin id)) (ha : PA X (e :: es) t) (hn : x ≠ "__name__" := by decide) (hdb : (x == ("__debug__" : Str)) = false := by decide)
    (he : starEach (e :: es) X.env = (false, eval e X.env) :: starEach es X.env := by rfl) (hpl : (backTo pos (starEach es X.env)).any (·.1) = false := by rfl) : PE X (.Call (.Name x p) (e :: es) [] pos) (tCB r t) := by
  constructor
  intro pins s σ H Q I h
  refine wpAny_Call_Name_kw (ld_blt I hg hm hv ?_ hn hdb)
  refine PyProof.Rows.callWith_builtin1 (thn (ha.run pos pins s σ H _ I h) fun us s1 z => ?_) he hpl
  obtain ⟨vs, H1, I1, r1, q1⟩ := z
  exact hc pins s1 σ H1 vs us Q I1 r1 q1
theorem pe_callTy (hc : CallR X (.type T) r) (hg : Gl X x) (hm : X.mg x = none) (hv : bootBuiltins x = some (.type T)) (ha : PA X (e :: es) t) (hn : x ≠ "__name__" := by decide) (hdb : (x == ("__debug__" : Str)) = false := by decide)
    (he : starEach (e :: es) X.env = (false, eval e X.env) :: starEach es X.env := by rfl) (hpl : (backTo pos (starEach es X.env)).any (·.1) = false := by rfl) : PE X (.Call (.Name x p) (e :: es) [] pos) (tCB r t) := by
  constructor
  intro pins s σ H Q I h
  refine wpAny_Call_Name_kw (ld_blt I hg hm hv ?_ hn hdb)
  refine PyProof.Rows.callWith_type1 (thn (ha.run pos pins s σ H _ I h) fun us s1 z => ?_) he hpl
  obtain ⟨vs, H1, I1, r1, q1⟩ := z
  exact hc pins s1 σ H1 vs us Q I1 r1 q1
theorem pe_callTy0 (hc : CallR X (.type T) r) (hg : Gl X x) (hm : X.mg x = none) (hv : bootBuiltins x = some (.type T)) (hn : x ≠ "__name__" := by decide) (hdb : (x == ("__debug__" : Str)) = false := by decide) :
    PE X (.Call (.Name x p) [] [] pos) (tCB r tNil) := by
  constructor
  intro pins s σ H Q I h
  refine wpAny_Call_Name_kw (ld_blt I hg hm hv ?_ hn hdb)
  exact PyProof.Rows.callWith_type0 (hc pins s σ H [] [] Q I .nil h)
theorem CallR.or {f : Value} {r r' : List V → Hp → VK → Prop} (h : CallR X f r) (h' : CallR X f r') : CallR X f (fun xs H Q => r xs H Q ∨ r' xs H Q) :=
  fun pins s σ H xs us Q I rs q => q.elim (h pins s σ H xs us Q I rs) (h' pins s σ H xs us Q I rs)
end
/-- nothing tracked is changed, the made value's token is out -/
def kp (s : Shared) (w : Value) (s' : Shared) : Prop := gv s'.toks w ∧ ∀ b o, s.heap.get? b = some o → s'.heap.get? b = some o
def PureC (r : List V → Hp → VK → Prop) : Prop := ∀ x H Q, r x H Q → r x H (fun v H' => H' = H ∧ Q v H')
theorem join2 {X : Cx} {pins : List (Addr × Obj)} {σ : L2.St} {H : Hp} {s : Shared} {t : Sem Value} {Q : VK} {E : Value → Shared → Prop} (I : Inv X pins σ H s) (h : wpAny (model X.prog X.w) X.A t (L2.EP X pins σ (fun v H' => H' = H ∧ Q v H')) X.xe s)
    (g : wpAny (model X.prog X.w) X.A t (fun w s' => kp s w s') E s) : wpAny (model X.prog X.w) X.A t (EP X pins σ Q) X.xe s := by
  refine wpAny_mono (wpAny_and h (PySem.wpAny_toks g)) (fun w s' z => ?_) fun _ _ z => z.1
  obtain ⟨⟨v', H', J, rv, rfl, q'⟩, hk, gw, kp⟩ := z
  have K := I.kept (h' := s'.heap) (t' := s'.toks) kp hk
  exact ⟨v', H', ⟨J, K.f, K.g, Nat.lt_of_lt_of_le I.p hk⟩, ⟨rv, gw⟩, q'⟩
theorem CallR.lift {X : Cx} {f : Value} {r : List V → Hp → VK → Prop} (h : L2.CallR X f r) (hr : PureC r)
    (g : ∀ (pins : List (Addr × Obj)) (s : Shared) (σ : L2.St) (H : Hp) (x : List V) (u : List Value) (Q : VK), Inv X pins σ H s → Vals s.toks x u → r x H Q → wpAny (model X.prog X.w) X.A (call f u) (fun w s' => kp s w s') (fun _ _ => True) s) : CallR X f r :=
  fun pins s σ H x u Q I rx q => join2 I (h pins s σ H x u _ I.i rx.1 (hr x H Q q)) (g pins s σ H x u Q I rx q)
/-- what rests on made values -/
theorem kp_int {s : Shared} {i : Int} {t k : Nat} : kp s (.int i t) { s with toks := k } := ⟨gv_int, fun _ _ e => e⟩
theorem kp_bl {s : Shared} {i : Bool} {k : Nat} : kp s (.bool i) { s with toks := k } := ⟨gv_bool, fun _ _ e => e⟩
theorem kp_str {X : Cx} {pins : List (Addr × Obj)} {σ : L2.St} {H : Hp} {s : Shared} {x : Str} (I : Inv X pins σ H s) : kp s (.str x s.toks) { s with toks := s.toks + 1 } := ⟨gv_str I.p (Nat.lt_succ_self _), fun _ _ e => e⟩
section
variable {X : Cx}
theorem call_len : CallR X (.builtin "len") (fun xs H Q => ∃ x n, xs = [x] ∧ LenV X.K x H n ∧ Q (.int n) H) := by
  refine CallR.lift L2.call_len (fun x H Q ⟨y, n, a, b, q⟩ => ⟨y, n, a, b, rfl, q⟩) ?_
  rintro pins s σ H xs us Q I ⟨r, _⟩ ⟨x, n, rfl, e, q⟩
  obtain ⟨u, rfl, rx⟩ := vals1 r
  have hl := line63
  have hs : sizeLine = 16777216 := sizeLine_eq
  cases x with
  | str y =>
    obtain ⟨t, rfl⟩ := rx
    obtain ⟨hy, e'⟩ : y.length ≤ sizeLine ∧ n = y.length := e
    exact len_str (by omega) kp_int
  | byt y =>
    obtain ⟨t, rfl⟩ := rx
    obtain ⟨hy, e'⟩ : y.size ≤ sizeLine ∧ n = y.size := e
    exact PySem.W.len_bytes (by omega) kp_int
  | ref p =>
    cases rx
    have e' : (∃ xs, L2.SqL X.K H p xs ∧ n = xs.length) ∨ ∃ xs, L2.SqT X.K H p xs ∧ n = xs.length := e
    rcases e' with ⟨xs, hx, e'⟩ | ⟨xs, hx, e'⟩
    · obtain ⟨its, r', pl, hz⟩ := I.i.list hx
      have hlen := r'.length
      exact Calls.call_len_list pl.isList (by simp only [List.size_toArray]; omega) kp_int
    · obtain ⟨its, r', pl, hz⟩ := I.i.tuple hx
      have hlen := r'.length
      exact len_tuple pl (by simp only [List.size_toArray]; omega) kp_int
  | _ => exact (show False from e).elim
theorem call_max2 (hc : X.calm = true) : CallR X (.builtin "max") (fun xs H Q => ∃ i j, xs = [.int i, .int j] ∧ Q (.int (if j > i then j else i)) H) := by
  refine CallR.lift (L2.call_max2 hc) (fun x H Q ⟨y, n, a, q⟩ => ⟨y, n, a, rfl, q⟩) ?_
  rintro pins s σ H xs us Q I ⟨r, _⟩ ⟨i, j, rfl, q⟩
  obtain ⟨u, w', rfl, ⟨t, rfl⟩, ⟨t', rfl⟩⟩ := vals2 r
  exact max_two_ints (I.ok.hd hc) fun h' tk k => ⟨by split <;> exact gv_int, k⟩
theorem call_min2 (hc : X.calm = true) : CallR X (.builtin "min") (fun xs H Q => ∃ i j, xs = [.int i, .int j] ∧ Q (.int (if j < i then j else i)) H) := by
  refine CallR.lift (L2.call_min2 hc) (fun x H Q ⟨y, n, a, q⟩ => ⟨y, n, a, rfl, q⟩) ?_
  rintro pins s σ H xs us Q I ⟨r, _⟩ ⟨i, j, rfl, q⟩
  obtain ⟨u, w', rfl, ⟨t, rfl⟩, ⟨t', rfl⟩⟩ := vals2 r
  exact min_two_ints (I.ok.hd hc) fun h' tk k => ⟨by split <;> exact gv_int, k⟩
theorem call_str_int : CallR X (.type "str") (fun xs H Q => ∃ i, xs = [.int i] ∧ i.natAbs.log2 < 1920 ∧ Q (.str (toString i)) H) := by
  rintro pins s σ H xs us Q I ⟨r, _⟩ ⟨i, rfl, hz, q⟩
  obtain ⟨u, rfl, t, rfl⟩ := vals1 r
  exact PySem.P.str_of_int hz (endS I q)
theorem call_str_str : CallR X (.type "str") (fun xs H Q => ∃ a, xs = [.str a] ∧ Q (.str a) H) := by
  rintro pins s σ H xs us Q I ⟨r, g⟩ ⟨a, rfl, q⟩
  obtain ⟨u, rfl, t, rfl⟩ := vals1 r
  exact PySem.P.str_of_str ⟨.str a, H, I, ⟨⟨t, rfl⟩, g _ List.mem_cons_self⟩, q⟩
theorem call_int_str : CallR X (.type "int") (fun xs H Q => ∃ a n, xs = [.str a] ∧ PySem.intText? a = some n ∧ a.length ≤ 640 ∧ Q (.int n) H) := by
  refine CallR.lift L2.call_int_str (fun x H Q ⟨y, n, a, b, c, q⟩ => ⟨y, n, a, b, c, rfl, q⟩) ?_
  rintro pins s σ H xs us Q I ⟨r, _⟩ ⟨a, n, rfl, hn, hl, h⟩
  obtain ⟨u, rfl, t, rfl⟩ := vals1 r
  exact PySem.W.KIN.call_text hn hl kp_int
theorem call_isi : CallR X (.builtin "isinstance") (rIsi X.K) := by
  refine CallR.lift L2.call_isi (fun x H Q ⟨y, n, a, b, c, d, e, f, g, q⟩ => ⟨y, n, a, b, c, d, e, f, g, rfl, q⟩) ?_
  rintro pins s σ H xs us Q I ⟨r, _⟩ ⟨x, c, t, u, b, rfl, k, ty, e, q⟩
  obtain ⟨u1, u2, rfl, r1, r2⟩ := vals2 r
  have e2 := k.eq r2
  subst e2
  obtain ⟨P, Z, p, hx⟩ := kit_of I.i r1 ty
  exact PySem.W.kia_one Z I.kIn p e hx fun tk => kp_bl
theorem call_isiT : CallR X (.builtin "isinstance") (rIsiT X.K) := by
  refine CallR.lift L2.call_isiT (fun x H Q ⟨y, n, a, b, c, d, e, f, g, i, j, q⟩ => ⟨y, n, a, b, c, d, e, f, g, i, j, rfl, q⟩) ?_
  rintro pins s σ H xs us Q I ⟨r, _⟩ ⟨x, tp, cs, t, ws, b, rfl, hT, k, ty, e, q⟩
  obtain ⟨u1, u2, rfl, r1, r2⟩ := vals2 r
  cases (show u2 = Value.ref tp from r2)
  obtain ⟨P, Z, p, hx⟩ := kit_of I.i r1 ty
  obtain ⟨_, its, rv, o, h1, h2, n, h3⟩ := (show ObjOk X.prog X.w H s.heap tp (.tup cs) from I.hok tp _ hT)
  have e3 := ClsV.all k rv
  subst e3
  obtain ⟨oc, od, dt, sl⟩ := o
  simp only at h2 h3
  subst h2 h3
  exact PySem.W.kia_tup Z I.kIn p h1 e hx fun tk => kp_bl
theorem cr_any (hc : X.calm = true) : CallR X (.builtin "any") (rAny X.K) := by
  refine CallR.lift (L2.cr_any hc) (fun x H Q ⟨y, n, a, b, q⟩ => ⟨y, n, a, b, rfl, q⟩) ?_
  rintro pins s σ H vs us Q I ⟨r, _⟩ ⟨a, bs, rfl, hs, q⟩
  obtain ⟨its, rv, hl, _⟩ := I.i.list hs
  rw [Vals.ref1 r]
  refine call_any_walk (iter_any hl.isList fun s₂ e2 st hne => ?_)
  subst e2
  refine ⟨_, _, _, _, _, _, _, rfl, Walks.list (A := X.A.in1) (I.ok.hd hc) _ a hne its.toArray, st, truth_bools rv.bls, fun h' tk hk => ⟨gv_bool, fun b o eo => hk b o (fun hmem => ?_) (Heap.get?_push_of_some _ eo)⟩⟩
  rcases List.mem_cons.mp hmem with e1 | hmem
  · exact absurd (e1 ▸ Heap.lt_size eo) (Nat.lt_irrefl _)
  · cases hmem
theorem cr_all (hc : X.calm = true) : CallR X (.builtin "all") (rAll X.K) := by
  refine CallR.lift (L2.cr_all hc) (fun x H Q ⟨y, n, a, b, q⟩ => ⟨y, n, a, b, rfl, q⟩) ?_
  rintro pins s σ H vs us Q I ⟨r, _⟩ ⟨a, bs, rfl, hs, q⟩
  obtain ⟨its, rv, hl, _⟩ := I.i.list hs
  rw [Vals.ref1 r]
  refine call_all_walk (iter_any hl.isList fun s₂ e2 st hne => ?_)
  subst e2
  refine ⟨_, _, _, _, _, _, _, rfl, Walks.list (A := X.A.in1) (I.ok.hd hc) _ a hne its.toArray, st, truth_bools rv.bls, fun h' tk hk => ⟨gv_bool, fun b o eo => hk b o (fun hmem => ?_) (Heap.get?_push_of_some _ eo)⟩⟩
  rcases List.mem_cons.mp hmem with e1 | hmem
  · exact absurd (e1 ▸ Heap.lt_size eo) (Nat.lt_irrefl _)
  · cases hmem
end
end L3

namespace L3
open PySem L2 PyProof.Rows

/-! ### in -/
section
variable {X : Cx}
theorem op_in_sign : CmpR X (compareOp .In) (fun x y H Q => ∃ (c : Nat) (z : Str), x = .str ⟨#[c]⟩ ∧ y = .str z ∧ Q (.bl (decide (c ∈ z.cps.toList))) H) := by
  rintro pins s σ H x y v u Q I rx ry ⟨c, z, rfl, rfl, q⟩
  obtain ⟨t, rfl⟩ := rx
  obtain ⟨t', rfl⟩ := ry
  exact PyProof.Rows.in_str (endB' I q (PySem.StrLaws.found_one z c).symm)
theorem op_notIn_sign : CmpR X (compareOp .NotIn) (fun x y H Q => ∃ (c : Nat) (z : Str), x = .str ⟨#[c]⟩ ∧ y = .str z ∧ Q (.bl (!decide (c ∈ z.cps.toList))) H) := by
  rintro pins s σ H x y v u Q I rx ry ⟨c, z, rfl, rfl, q⟩
  obtain ⟨t, rfl⟩ := rx
  obtain ⟨t', rfl⟩ := ry
  exact PyProof.Rows.notIn_str (endB' I q (congrArg Bool.not (PySem.StrLaws.found_one z c).symm))
theorem op_in_seq : CmpR X (compareOp .In) (rIn X.K false) := by
  rintro pins s σ H x y v u Q I rx ry ⟨p, xs, rfl, hq, fx, fs, q⟩
  cases ry
  rcases hq with hq | hq
  · obtain ⟨its, r, pl, hz⟩ := I.i.list hq
    refine SeqAt.in_listAt (eqU x) pl.isList (fun w hw => mem_eqAt rx fx r fs w (by simpa using hw)) (endB' I q ?_)
    rw [show its.toArray.any (eqU x) = its.any (eqU x) by simp, any_eqU r fs, if_neg Bool.false_ne_true]
    rfl
  · obtain ⟨its, r, pl, hz⟩ := I.i.tuple hq
    refine SeqAt.in_tupleAt (eqU x) pl (fun w hw => mem_eqAt rx fx r fs w (by simpa using hw)) (endB' I q ?_)
    rw [show its.toArray.any (eqU x) = its.any (eqU x) by simp, any_eqU r fs, if_neg Bool.false_ne_true]
    rfl
theorem op_notIn_seq : CmpR X (compareOp .NotIn) (rIn X.K true) := by
  rintro pins s σ H x y v u Q I rx ry ⟨p, xs, rfl, hq, fx, fs, q⟩
  cases ry
  rcases hq with hq | hq
  · obtain ⟨its, r, pl, hz⟩ := I.i.list hq
    refine SeqAt.notIn_listAt (eqU x) pl.isList (fun w hw => mem_eqAt rx fx r fs w (by simpa using hw)) (endB' I q ?_)
    rw [show its.toArray.any (eqU x) = its.any (eqU x) by simp, any_eqU r fs, if_pos rfl]
    rfl
  · obtain ⟨its, r, pl, hz⟩ := I.i.tuple hq
    refine SeqAt.notIn_tupleAt (eqU x) pl (fun w hw => mem_eqAt rx fx r fs w (by simpa using hw)) (endB' I q ?_)
    rw [show its.toArray.any (eqU x) = its.any (eqU x) by simp, any_eqU r fs, if_pos rfl]
    rfl
end

/-! ### o[i] = e -/
section
variable {X : Cx} {pos : Pos}
theorem pg_sub {o i : Expr} {to ti : TE} {t : TSet} (ho : PE X o to) (hi : PE X i ti) (hs : PSet X t)
    (ha : ∀ v, assign (.Subscript o i pos) X.env v = (do
      let ov ← holding [v] (eval o X.env)
      let iv ← holding [v, ov] (eval i X.env)
      standAt pos
      holding [v, ov, iv] (setItem ov iv v)
      release [v, ov, iv] []) := by intro _; rfl) : PG X (.Subscript o i pos) (gSub to ti t) := by
  constructor
  intro pins s σ H v u Q I r h
  rw [ha]
  refine wpAny_bind (wpAny_holding (thk (ho.run pins s σ H _ I h) fun ov s1 k1 z => ?_))
  obtain ⟨x, H1, I1, r1, q1⟩ := z
  refine wpAny_bind (wpAny_holding (thk (hi.run pins s1 σ H1 _ I1 q1) fun iv s2 k2 z => ?_))
  obtain ⟨y, H2, I2, r2, q2⟩ := z
  refine wpAny_bind (wpAny_standAt (wpAny_bind (wpAny_holding (thn (hs pins s2 σ H2 x y v ov iv u _ I2 (r1.mono k2) r2 (r.mono (Nat.le_trans k1 k2)) q2) fun _ s3 z => ?_))))
  obtain ⟨H3, I3, q3⟩ := z
  exact wpAny_release ⟨σ, H3, I3, q3⟩
theorem Vals.set {k : Nat} {xs : List V} {us : List Value} {v : V} {u : Value} (r : Vals k xs us) (q : RelV k v u) (j : Nat) : Vals k (xs.set j v) (us.set j u) :=
  ⟨r.1.set q.1 j, fun w m => (List.mem_or_eq_of_mem_set m).elim (r.2 w) fun e => e ▸ q.2⟩
theorem set_list : PSet X rSetL := by
  rintro pins s σ H o i v ov iv u Q I ⟨ro, _⟩ ⟨ri, _⟩ rv ⟨p, xs, k, j, rfl, rfl, hp, hj, q⟩
  cases ro
  obtain ⟨t, rfl⟩ := ri
  obtain ⟨hz, its, n, r, hl, ho⟩ := I.lstM hp
  obtain ⟨h1, h2, h3, h4⟩ := ixN_seq hj
  have hn := line63
  have I' : Inv X pins σ (upd H p (.lst (xs.set j v))) { s with heap := s.heap.update p (Obj.mapSeq (·.setIfInBounds j u)) } :=
    I.lset (its' := its.set j u) (t' := s.toks) hp ho (by simp) (r.set rv j) (by rw [List.length_set]; exact hz) (Nat.le_refl _)
  by_cases h0 : 0 ≤ k
  · have hk : k.toNat = j := by
      rw [seqIndex_of h0 h4] at h1
      exact Option.some.inj h1
    exact PySem.W.ki_setAt ho h0 (by omega) (by rw [List.size_toArray, ← hl]; exact h4) (by rw [hk]; exact ⟨_, I', q⟩)
  · have hk : (k + (its.toArray.size : Int)).toNat = j := by
      rw [seqIndex_neg (by omega) h3] at h1
      rw [List.size_toArray, ← hl]
      exact Option.some.inj h1
    exact PySem.W.ki_setBack ho (by omega) (by rw [List.size_toArray, ← hl]; exact h3) (by omega) (by rw [hk]; exact ⟨_, I', q⟩)
end

/-! ### methods of a text: the arguments' tokens do not matter -/
def MtR (X : Cx) (id : String) (r : V → List V → Hp → VK → Prop) : Prop :=
  ∀ (pins : List (Addr × Obj)) (s : Shared) (σ : L2.St) (H : Hp) (x : V) (xs : List V) (v : Value) (us : List Value) (Q : VK), Inv X pins σ H s → RelV s.toks x v → L2.Vals xs us → r x xs H Q →
    wpAny (model X.prog X.w) X.A (call (.builtin id) (v :: us)) (EP X pins σ Q) X.xe s
section
variable {X : Cx} {o e : Expr} {to te : TE}
theorem MtR.or {id : String} {r r' : V → List V → Hp → VK → Prop} (h : MtR X id r) (h' : MtR X id r') : MtR X id (fun x xs H Q => r x xs H Q ∨ r' x xs H Q) :=
  fun pins s σ H x xs v us Q I rx rs q => q.elim (h pins s σ H x xs v us Q I rx rs) (h' pins s σ H x xs v us Q I rx rs)
theorem pe_m0 {id : String} {name : Str} {apos pos : Pos} {r : V → List V → Hp → VK → Prop} (slot : Slot "str" name id) (ty : typeOf (.builtin id) = pure (.type "method_descriptor")) (rule : MtR X id r) (ho : PE X o to)
    (hbase : attributeBase o name X.env (eval o X.env) = eval o X.env := by rfl) (hline : (apos.endLine == pos.line) = true := by rfl) : PE X (.Call (.Attribute o name apos) [] [] pos) (tM0 r to) := by
  constructor
  intro pins s σ H Q I h
  refine PySem.Call_method0 hbase hline (thn (ho.run pins s σ H _ I h) fun v s1 z => ?_)
  obtain ⟨x, H1, I1, r1, ⟨a, rfl⟩, q1⟩ := z
  obtain ⟨t, rfl⟩ := _root_.id r1.1
  exact ⟨"str", _, F.plainAttrs_str, slot, ty, typeIs_str _ _ _, (fun _ e => nomatch e), Calls.callWith_builtin rfl (PySem.evalArgs_none (rule pins s1 σ H1 _ [] _ [] Q I1 r1 .nil q1))⟩
theorem pe_m1 {id : String} {name : Str} {apos pos : Pos} {r : V → List V → Hp → VK → Prop} (slot : Slot "str" name id) (ty : typeOf (.builtin id) = pure (.type "method_descriptor")) (rule : MtR X id r) (ho : PE X o to) (he : PEw X e te)
    (hs : starEach [e] X.env = [(false, eval e X.env)] := by rfl) (hbase : attributeBase o name X.env (eval o X.env) = eval o X.env := by rfl) (hline : (apos.endLine == pos.line) = true := by rfl) :
    PE X (.Call (.Attribute o name apos) [e] [] pos) (tM1 r to te) := by
  constructor
  intro pins s σ H Q I h
  refine PySem.Call_method1 hbase hs hline (thn (ho.run pins s σ H _ I h) fun v s1 z => ?_)
  obtain ⟨x, H1, I1, r1, ⟨a, rfl⟩, q1⟩ := z
  obtain ⟨t, rfl⟩ := _root_.id r1.1
  refine ⟨"str", _, F.plainAttrs_str, slot, ty, typeIs_str _ _ _, (fun _ e => nomatch e), Calls.callWith_builtin rfl (Calls.evalArgs_plain (Calls.spliced_cons ?_))⟩
  refine thk (he.run pins s1 σ H1 _ I1 q1) fun u s2 k2 z => ?_
  obtain ⟨y, H2, I2, r2, q2⟩ := z
  exact Calls.spliced_nil (rule pins s2 σ H2 _ [y] _ [u] Q I2 (r1.mono k2) (.cons r2 .nil) q2)
/-- a made value, its token out -/
theorem ep_made {pins : List (Addr × Obj)} {σ : L2.St} {H : Hp} {s : Shared} {x : V} {m : Made} {Q : VK} (I : Inv X pins σ H s) (ok : mOk s.toks m) (r : m.post (fun w _ => L2.RelV x w) s) (q : Q x H) : m.post (EP X pins σ Q) s := by
  have h := post_ok I.p ok
  induction m with
  | val v => exact ⟨x, H, I, ⟨r, h.1⟩, q⟩
  | int i => exact ⟨x, H, I.tok (Nat.le_succ _), ⟨r, gv_int⟩, q⟩
  | str y => exact ⟨h.1, x, H, I.tok (Nat.le_succ _), ⟨r.2, h.2.1⟩, q⟩
  | float b => exact ⟨x, H, I.tok (Nat.le_succ _), ⟨r, fun _ _ z => nomatch z⟩, q⟩
  | bytes b => exact ⟨h.1, x, H, I.tok (Nat.le_succ _), ⟨r.2, fun _ _ z => nomatch z⟩, q⟩
  | either a b iha ihb => exact ⟨iha ok.1 r.1 h.1, ihb ok.2 r.2 h.2⟩
theorem mt_count : MtR X "str.count" (fun x xs H Q => ∃ a b, x = .str a ∧ xs = [.str b] ∧ Q (.int (Txt.count a b)) H) := by
  rintro pins s σ H x xs v us Q I ⟨rx, _⟩ rs ⟨a, b, rfl, rfl, h⟩
  obtain ⟨t, rfl⟩ := rx
  obtain ⟨_, rfl, u, rfl⟩ := vals1 rs
  exact PySem.SC.count (endI I (Nat.le_succ _) h)
theorem mt_sindex : MtR X "str.index" (fun x xs H Q => ∃ a b i rest, x = .str a ∧ xs = [.str b] ∧ Builtin.Str.occurrences a b 0 a.length 1 = i :: rest ∧ Q (.int (i : Nat)) H) := by
  rintro pins s σ H x xs v us Q I ⟨rx, _⟩ rs ⟨a, b, i, rest, rfl, rfl, ho, h⟩
  obtain ⟨t, rfl⟩ := rx
  obtain ⟨_, rfl, u, rfl⟩ := vals1 rs
  exact PySem.SC.index ho (endI I (Nat.le_succ _) h)
theorem mt_find : MtR X "str.find" (fun x xs H Q => ∃ a b, x = .str a ∧ xs = [.str b] ∧ Q (.int (Txt.find a b)) H) := by
  rintro pins s σ H x xs v us Q I ⟨rx, _⟩ rs ⟨a, b, rfl, rfl, h⟩
  obtain ⟨t, rfl⟩ := rx
  obtain ⟨_, rfl, u, rfl⟩ := vals1 rs
  exact PySem.SC.find (endI I (Nat.le_succ _) h)
theorem mt_startswith : MtR X "str.startswith" (fun x xs H Q => ∃ a b, x = .str a ∧ xs = [.str b] ∧ Q (.bl (Txt.startswith a b)) H) := by
  rintro pins s σ H x xs v us Q I ⟨rx, _⟩ rs ⟨a, b, rfl, rfl, h⟩
  obtain ⟨t, rfl⟩ := rx
  obtain ⟨_, rfl, u, rfl⟩ := vals1 rs
  exact PySem.SC.startswith (endB I h)
theorem mt_endswith : MtR X "str.endswith" (fun x xs H Q => ∃ a b, x = .str a ∧ xs = [.str b] ∧ Q (.bl (Txt.endswith a b)) H) := by
  rintro pins s σ H x xs v us Q I ⟨rx, _⟩ rs ⟨a, b, rfl, rfl, h⟩
  obtain ⟨t, rfl⟩ := rx
  obtain ⟨_, rfl, u, rfl⟩ := vals1 rs
  exact PySem.SC.endswith (endB I h)
theorem mt_isdigit : MtR X "str.isdigit" (fun x xs H Q => ∃ a, x = .str a ∧ xs = [] ∧ True ∧ Q (.bl (Txt.isdigit a)) H) := by
  rintro pins s σ H x xs v us Q I ⟨rx, _⟩ rs ⟨a, rfl, rfl, _, h⟩
  obtain ⟨t, rfl⟩ := rx
  cases rs
  exact PySem.SC.isdigit (endB I h)
theorem mt_lower : MtR X "str.lower" (fun x xs H Q => ∃ a, x = .str a ∧ xs = [] ∧ a.length ≤ 5592405 ∧ Q (.str (Txt.lower a)) H) := by
  rintro pins s σ H x xs v us Q I ⟨rx, _⟩ rs ⟨a, rfl, rfl, hc, h⟩
  obtain ⟨t, rfl⟩ := rx
  cases rs
  exact PySem.SC.lower (PyProof.Rows.short24 (by have := PyProof.Rows.len_lower a; omega)) (endS I h)
theorem ep_strip {pins : List (Addr × Obj)} {σ : L2.St} {H : Hp} {s : Shared} {x y : Str} {t : Tok} {c : Bool} {Q : VK} (I : Inv X pins σ H s) (g : gv s.toks (.str x t)) (hz : y.length ≤ sizeLine) (q : Q (.str (if c then x else y)) H) : (if c then Made.val (.str x t) else Made.str y).post (EP X pins σ Q) s := by
  cases c
  · exact ⟨hz, endS I q⟩
  · exact ⟨.str x, H, I, ⟨⟨t, rfl⟩, g⟩, q⟩
theorem mt_rstripChars : MtR X "str.rstrip" (fun x xs H Q => ∃ a b, x = .str a ∧ xs = [.str b] ∧ a.length ≤ sizeLine ∧ Q (.str (Txt.rstripChars a b)) H) := by
  rintro pins s σ H x xs v us Q I ⟨rx, g⟩ rs ⟨a, b, rfl, rfl, hz, h⟩
  obtain ⟨t, rfl⟩ := rx
  obtain ⟨_, rfl, u, rfl⟩ := vals1 rs
  exact call_gives F.slot_str_rstrip (typeIs_str _ _ _) F.entry_str_rstrip (F.args_str_rstrip_2 _ _) (gives_str_rstrip_chars a b t u) (ep_strip I g (fits_stripped _ _ _ hz) h)
theorem mt_lstripChars : MtR X "str.lstrip" (fun x xs H Q => ∃ a b, x = .str a ∧ xs = [.str b] ∧ a.length ≤ sizeLine ∧ Q (.str (Txt.lstripChars a b)) H) := by
  rintro pins s σ H x xs v us Q I ⟨rx, g⟩ rs ⟨a, b, rfl, rfl, hz, h⟩
  obtain ⟨t, rfl⟩ := rx
  obtain ⟨_, rfl, u, rfl⟩ := vals1 rs
  exact call_gives F.slot_str_lstrip (typeIs_str _ _ _) F.entry_str_lstrip (F.args_str_lstrip_2 _ _) (gives_str_lstrip_chars a b t u) (ep_strip I g (fits_stripped _ _ _ hz) h)
/-- a new list of texts -/
def NumG (k : Nat) (l : List (Str × Tok)) : Prop := ∀ p ∈ l, 0 < p.2 ∧ p.2 < k
theorem gvs_strs {k : Nat} : ∀ {l : List (Str × Tok)}, NumG k l → gvs k (strValues l)
  | [], _ => gvs_nil
  | p :: r, h => gvs_cons (gv_str (h p List.mem_cons_self).1 (h p List.mem_cons_self).2) (gvs_strs fun q m => h q (List.mem_cons_of_mem _ m))
theorem laid_strs {pins : List (Addr × Obj)} {σ : L2.St} {H : Hp} {s : Shared} {Q : VK} {l : List (Str × Tok)} {ys : List Str} {k : Nat} (I : Inv X pins σ H s) (e : l.map (·.1) = ys) (g : NumG k l) (hk : s.toks ≤ k) (hz : ys.length ≤ sizeLine) (h : rNewStrs ys H Q) :
    EP X pins σ Q (.ref s.heap.objs.size) { s with toks := k, heap := s.heap.push { cls := .type "list", data := .seq (strValues l).toArray } } := by
  refine ⟨.ref s.heap.objs.size, upd H s.heap.objs.size (.lst (ys.map V.str)), I.laid (t' := k) (fun b u q => Heap.get?_push_of_some _ q) (Nat.le_refl _) ⟨by rw [List.length_map]; exact hz, strValues l, _, ?_, Heap.get?_push_size _ rfl⟩ (seq_new (gvs_strs g)) hk, .ref, h _ (I.fresh (Nat.le_refl _))⟩
  rw [← e]
  exact vals_strs l
theorem num_from {k : Nat} (p : 0 < k) : ∀ (n : Nat) (xs : List Str), k ≤ n → NumG (n + xs.length) (numbered n xs)
  | _, [], _ => fun _ m => by cases m
  | n, x :: r, h => fun q m => by
    rcases List.mem_cons.mp m with e | m
    · subst e
      exact ⟨Nat.lt_of_lt_of_le p h, by show n < n + (r.length + 1); omega⟩
    · have := num_from p (n + 1) r (by omega) q m
      rw [List.length_cons, show n + (r.length + 1) = n + 1 + r.length by omega]
      exact this
theorem mt_words : MtR X "str.split" (fun x xs H Q => ∃ a, x = .str a ∧ xs = [] ∧ a.length + 2 ≤ sizeLine ∧ rNewStrs (Txt.words a) H Q) := by
  rintro pins s σ H x xs v us Q I ⟨rx, g⟩ rs ⟨a, rfl, rfl, hz, h⟩
  obtain ⟨t, rfl⟩ := rx
  cases rs
  have hl : (Txt.words a).length ≤ sizeLine := Nat.le_trans (words_le a) (by omega)
  have hn : (Builtin.Str.spaceWords a (a.length + 1)).length ≤ sizeLine := by
    have e1 := (StrLaws.sw_weight a).1
    have e2 := StrLaws.len_le_wsum (Builtin.Str.spaceWords a (a.length + 1))
    omega
  refine call_meets F.slot_str_split (typeIs_str _ _ _) F.entry_str_split (F.args_str_split_1 _) (meets_str_split_space a t (by omega) hn) ?_
  cases hw : Builtin.Str.spaceWords a (a.length + 1) == [(0, a.length)]
  · simp only [Bool.false_eq_true, if_false]
    rw [strsFrom_eq]
    exact laid_strs (ys := Txt.words a) I ((numbered_texts _ _).trans (if_neg (ne_true_of_eq_false hw)).symm) (by have z := num_from I.p s.toks (wordsOf a) (Nat.le_refl _); rw [show (wordsOf a).length = (Builtin.Str.spaceWords a (a.length + 1)).length from by simp [wordsOf]] at z; exact z) (Nat.le_add_right _ _) hl h
  · simp only [if_true]
    exact laid_strs (l := [(a, t)]) (ys := Txt.words a) (k := s.toks) I (if_pos hw).symm (fun q m => by cases List.mem_singleton.mp m; exact g _ _ rfl) (Nat.le_refl _) hl h
theorem mt_split : MtR X "str.split" (fun x xs H Q => ∃ a b, x = .str a ∧ xs = [.str b] ∧ (b.length == 0) = false ∧ a.length + 2 ≤ sizeLine ∧ rNewStrs (Txt.split a b) H Q) := by
  rintro pins s σ H x xs v us Q I ⟨rx, g⟩ rs ⟨a, b, rfl, rfl, hb, hz, h⟩
  obtain ⟨t, rfl⟩ := rx
  obtain ⟨_, rfl, u, rfl⟩ := vals1 rs
  have hl : (Txt.split a b).length ≤ sizeLine := Nat.le_trans (PyProof.Rows.split_le a b) hz
  have hn : (Builtin.Str.partsBetween a (Builtin.Str.occurrences a b 0 a.length (a.length + 1)) b.length).length ≤ sizeLine := by
    have e1 := StrLaws.occ_length_le a b 0 a.length (a.length + 1)
    rw [length_partsBetween]; omega
  have one : NumG s.toks [(a, t)] := fun q m => by cases List.mem_singleton.mp m; exact g _ _ rfl
  cases h1 : (decide (a.length < b.length) || decide (Builtin.Str.strKind a < Builtin.Str.strKind b))
  · cases hf : (Builtin.Str.occurrences a b 0 a.length (a.length + 1)).isEmpty
    · refine call_meets F.slot_str_split (typeIs_str _ _ _) F.entry_str_split (F.args_str_split_2 _ _) (meets_str_split_sep a b t u h1 hb hf (by omega) hn) ?_
      show EP X pins σ Q (.ref s.heap.objs.size) { s with toks := _, heap := s.heap.push { cls := .type "list", data := .seq (strsFrom s.toks (Builtin.Str.partsBetween a (Builtin.Str.occurrences a b 0 a.length (a.length + 1)) b.length)).toArray } }
      rw [strsFrom_eq]
      exact laid_strs (ys := Txt.split a b) I ((numbered_texts _ _).trans ((if_neg (ne_true_of_eq_false h1)).trans (if_neg (ne_true_of_eq_false hf))).symm) (num_from I.p _ _ (Nat.le_refl _)) (Nat.le_add_right _ _) hl h
    · refine call_meets F.slot_str_split (typeIs_str _ _ _) F.entry_str_split (F.args_str_split_2 _ _) (meets_str_split_not_found a b t u h1 hb hf) ?_
      exact laid_strs (l := [(a, t)]) (ys := Txt.split a b) (k := s.toks) I ((if_neg (ne_true_of_eq_false h1)).trans (if_pos hf)).symm one (Nat.le_refl _) hl h
  · refine call_meets F.slot_str_split (typeIs_str _ _ _) F.entry_str_split (F.args_str_split_2 _ _) (meets_str_split_cannot_occur a b t u h1) ?_
    exact laid_strs (l := [(a, t)]) (ys := Txt.split a b) (k := s.toks) I (if_pos h1).symm one (Nat.le_refl _) hl h
theorem num_of {k : Nat} : ∀ {l : List (Str × Tok)}, gvs k (strValues l) → NumG k l
  | [], _ => fun _ m => by cases m
  | p :: r, h => fun q m => by
    rcases List.mem_cons.mp m with e | m
    · subst e; exact h _ List.mem_cons_self _ _ rfl
    · exact num_of (fun u m => h u (List.mem_cons_of_mem _ m)) q m
theorem ep_join {pins : List (Addr × Obj)} {σ : L2.St} {H : Hp} {s : Shared} {a : Str} {Q : VK} (I : Inv X pins σ H s) : ∀ (l : List (Str × Tok)), NumG s.toks l → (Txt.join a (l.map (·.1))).length ≤ sizeLine → Q (.str (Txt.join a (l.map (·.1)))) H → (joinMade a l).post (EP X pins σ Q) s
  | [], _, z, h => ⟨z, endS I h⟩
  | [p], g, _, h => ⟨.str p.1, H, I, ⟨⟨p.2, rfl⟩, gv_str (g p List.mem_cons_self).1 (g p List.mem_cons_self).2⟩, h⟩
  | _ :: _ :: _, _, z, h => ⟨z, endS I h⟩
theorem mt_join : MtR X "str.join" (fun x xs H Q => ∃ a p, ∃ ys : List Str, x = .str a ∧ xs = [.ref p] ∧ (SqL X.K H p (ys.map V.str) ∨ SqT X.K H p (ys.map V.str)) ∧
    (ys.map (·.length)).sum + ys.length * a.length ≤ 16777216 ∧ Q (.str (Txt.join a ys)) H) := by
  rintro pins s σ H x xs v us Q I ⟨rx, g⟩ rs ⟨a, p, ys, rfl, rfl, hp, hz, h⟩
  obtain ⟨t, rfl⟩ := rx
  obtain ⟨_, rfl, ru⟩ := vals1 rs
  cases ru
  have core : ∀ (its : List Value), Vals s.toks (ys.map V.str) its → ∃ l : List (Str × Tok), its = strValues l ∧ l.map (·.1) = ys ∧ NumG s.toks l := fun its r => by
    obtain ⟨l, hv, ht⟩ := strsAre_values (strs_of_vals r.1)
    refine ⟨l, hv, ht, num_of ?_⟩
    rw [← hv]; exact r.2
  have hok := joinOk_of hz
  unfold JoinOk at hok
  rw [Bool.not_eq_true'] at hok
  rcases hp with hp | hp
  · obtain ⟨its, r, ⟨o, n, ho, hc, _, hd⟩, _⟩ := I.list hp
    obtain ⟨l, rfl, rfl, gl⟩ := core its r
    exact call_meets F.slot_str_join (typeIs_str _ _ _) F.entry_str_join (F.args_str_join_2 _ _) (meets_str_join_list a t p l hok) ⟨⟨o, ho, hc, n, hd⟩, ep_join I l gl (joinFit_length hok) h⟩
  · obtain ⟨its, r, ⟨o, ho, hc, n, hd⟩, _⟩ := I.tuple hp
    obtain ⟨l, rfl, rfl, gl⟩ := core its r
    exact call_meets F.slot_str_join (typeIs_str _ _ _) F.entry_str_join (F.args_str_join_2 _ _) (meets_str_join_tuple a t p l hok) ⟨⟨o, n, ho, hc, hd⟩, ep_join I l gl (joinFit_length hok) h⟩
end
end L3

/-! ### the call of a builtin whose value is weak -/
namespace L3
open PySem L2 PyProof.Rows
def EPw (X : Cx) (pins : List (Addr × Obj)) (σ : L2.St) (Q : VK) (u : Value) (s' : Shared) : Prop := ∃ v H', Inv X pins σ H' s' ∧ L2.RelV v u ∧ Q v H'
def CallRw (X : Cx) (f : Value) (r : List V → Hp → VK → Prop) : Prop :=
  ∀ (pins : List (Addr × Obj)) (s : Shared) (σ : L2.St) (H : Hp) (xs : List V) (us : List Value) (Q : VK), Inv X pins σ H s → Vals s.toks xs us → r xs H Q →
    wpAny (model X.prog X.w) X.A (call f us) (EPw X pins σ Q) X.xe s
section
variable {X : Cx} {x : Str} {p pos : Pos} {e : Expr} {es : List Expr} {t : TA} {id T : String} {r : List V → Hp → VK → Prop}
theorem CallR.w {f : Value} (h : CallR X f r) : CallRw X f r := fun pins s σ H xs us Q I rs q => thn (h pins s σ H xs us Q I rs q) fun u s1 z => by
  obtain ⟨v, H', I', r', q'⟩ := z
  exact ⟨v, H', I', r'.1, q'⟩
theorem pe_callBw (hc : CallRw X (.builtin id) r) (hg : Gl X x) (hm : X.mg x = none) (hv : bootBuiltins x = some (.builtin id)) (ha : PA X (e :: es) t) (hn : x ≠ "__name__" := by decide) (hdb : (x == ("__debug__" : Str)) = false := by decide)
    (he : starEach (e :: es) X.env = (false, eval e X.env) :: starEach es X.env := by rfl) (hpl : (backTo pos (starEach es X.env)).any (·.1) = false := by rfl) : PEw X (.Call (.Name x p) (e :: es) [] pos) (tCB r t) := by
  constructor
  intro pins s σ H Q I h
  refine wpAny_Call_Name_kw (ld_blt I hg hm hv ?_ hn hdb)
  refine PyProof.Rows.callWith_builtin1 (thn (ha.run pos pins s σ H _ I h) fun us s1 z => ?_) he hpl
  obtain ⟨vs, H1, I1, r1, q1⟩ := z
  exact hc pins s1 σ H1 vs us Q I1 r1 q1
end
end L3

namespace L3
open PySem L2

/-! ### calls of built-in functions -/
def Cb (g : Gd) (r : List V → Hp → VK → Prop) (f : Cells → List D → R) : Prop := ∀ (W : XK) (H F : Hp) (c : List Addr) (cs : Cells) (vs : List V) (ds : List D) (Q : VK), Ih g H F c cs → RVs g F c vs ds → PoE g W H F c (f cs ds) Q → r vs H Q
def eBi (f : Cells → List D → R) (a : MA) : ME := fun env cs => (a env cs).bind fun ds cs1 => f cs1 ds
section
variable {X : Cx} {W : WX} {pos p p1 p2 : Pos} {a b o e : Expr} {ma mb mo : ME} {ms : MA} {id T : String} {x : Str} {es : List Expr} {r : List V → Hp → VK → Prop} {f : Cells → List D → R}
theorem xp_bi (hc : CallR X (.builtin id) r) (ho : Cb (gd X) r f) (hg : Gl X x) (hm : X.mg x = none) (hv : bootBuiltins x = some (.builtin id)) (ha : Xa X W (e :: es) ms) (hn : x ≠ "__name__" := by decide) (hdb : (x == ("__debug__" : Str)) = false := by decide)
    (he : starEach (e :: es) X.env = (false, eval e X.env) :: starEach es X.env := by rfl) (hpl : (backTo pos (starEach es X.env)).any (·.1) = false := by rfl) : Xp X W (.Call (.Name x p) (e :: es) [] pos) (eBi f ms) := by
  obtain ⟨t, pa, sa⟩ := ha
  refine ⟨_, pe_callB hc hg hm hv pa hn hdb he hpl, fun σ env H F c cs Q re I po => ?_⟩
  exact sa σ env H F c cs _ re I (PoA.cut po _ fun ds cs1 _ H1 F1 c1 vs x1 I1 rv po1 => ho _ H1 F1 c1 cs1 vs ds Q I1 rv po1)
theorem xp_biW (hc : CallRw X (.builtin id) r) (ho : Cb (gd X) r f) (hg : Gl X x) (hm : X.mg x = none) (hv : bootBuiltins x = some (.builtin id)) (ha : Xa X W (e :: es) ms) (hn : x ≠ "__name__" := by decide) (hdb : (x == ("__debug__" : Str)) = false := by decide)
    (he : starEach (e :: es) X.env = (false, eval e X.env) :: starEach es X.env := by rfl) (hpl : (backTo pos (starEach es X.env)).any (·.1) = false := by rfl) : XpW X W (.Call (.Name x p) (e :: es) [] pos) (eBi f ms) := by
  obtain ⟨t, pa, sa⟩ := ha
  refine ⟨_, pe_callBw hc hg hm hv pa hn hdb he hpl, fun σ env H F c cs Q re I po => ?_⟩
  exact sa σ env H F c cs _ re I (PoA.cut po _ fun ds cs1 _ H1 F1 c1 vs x1 I1 rv po1 => ho _ H1 F1 c1 cs1 vs ds Q I1 rv po1)
theorem xp_ty (hc : CallR X (.type T) r) (ho : Cb (gd X) r f) (hg : Gl X x) (hm : X.mg x = none) (hv : bootBuiltins x = some (.type T)) (ha : Xa X W (e :: es) ms) (hn : x ≠ "__name__" := by decide) (hdb : (x == ("__debug__" : Str)) = false := by decide)
    (he : starEach (e :: es) X.env = (false, eval e X.env) :: starEach es X.env := by rfl) (hpl : (backTo pos (starEach es X.env)).any (·.1) = false := by rfl) : Xp X W (.Call (.Name x p) (e :: es) [] pos) (eBi f ms) := by
  obtain ⟨t, pa, sa⟩ := ha
  refine ⟨_, pe_callTy hc hg hm hv pa hn hdb he hpl, fun σ env H F c cs Q re I po => ?_⟩
  exact sa σ env H F c cs _ re I (PoA.cut po _ fun ds cs1 _ H1 F1 c1 vs x1 I1 rv po1 => ho _ H1 F1 c1 cs1 vs ds Q I1 rv po1)
end

/-! len -/
def lenB (cs : Cells) : List D → R
  | [.str l] => if l.length ≤ sizeLine then .ok (.int l.length) cs else .stuck
  | [d] => match seqOf cs d with
    | some ds => .ok (.int ds.length) cs
    | none => .stuck
  | _ => .stuck
theorem cb_len {g : Gd} : Cb g (fun xs H Q => ∃ x n, xs = [x] ∧ LenV g.K x H n ∧ Q (.int n) H) lenB := by
  intro W H F c cs vs ds Q I rv po
  unfold lenB at po
  split at po
  · split at po
    · rename_i l hl
      cases rv with
      | cons r1 r2 =>
        cases r1; cases r2
        exact ⟨_, l.length, rfl, ⟨by rw [str_len]; exact hl, by rw [str_len]⟩, PoE.here I (.int _) po⟩
    · exact po.elim
  · split at po
    · rename_i d _ ds hds
      cases rv with
      | cons r1 r2 =>
        cases r2
        obtain ⟨q, vs, rfl, hs, r⟩ := seqOf_at I r1 hds
        refine ⟨_, ds.length, rfl, ?_, PoE.here I (.int _) po⟩
        rcases hs with hs | hs
        · exact .inl ⟨vs, hs.l2, r.length.symm⟩
        · exact .inr ⟨vs, hs.l2, r.length.symm⟩
    · exact po.elim
  · exact po.elim
/-! max, min, of two -/
def maxB (cs : Cells) : List D → R
  | [.int i, .int j] => .ok (.int (if j > i then j else i)) cs
  | _ => .stuck
def minB (cs : Cells) : List D → R
  | [.int i, .int j] => .ok (.int (if j < i then j else i)) cs
  | _ => .stuck
theorem cb_max {g : Gd} : Cb g (fun xs H Q => ∃ i j, xs = [.int i, .int j] ∧ Q (.int (if j > i then j else i)) H) maxB := by
  intro W H F c cs vs ds Q I rv po
  unfold maxB at po
  split at po
  · cases rv with
    | cons r1 r2 =>
      cases r2 with
      | cons r2 r3 =>
        cases r1; cases r2; cases r3
        exact ⟨_, _, rfl, PoE.here I (.int _) po⟩
  · exact po.elim
theorem cb_min {g : Gd} : Cb g (fun xs H Q => ∃ i j, xs = [.int i, .int j] ∧ Q (.int (if j < i then j else i)) H) minB := by
  intro W H F c cs vs ds Q I rv po
  unfold minB at po
  split at po
  · cases rv with
    | cons r1 r2 =>
      cases r2 with
      | cons r2 r3 =>
        cases r1; cases r2; cases r3
        exact ⟨_, _, rfl, PoE.here I (.int _) po⟩
  · exact po.elim
/-! str, int, repr of flat values -/
def codes (x : Str) : List Nat := x.cps.toList
theorem str_codes (x : Str) : (⟨(codes x).toArray⟩ : Str) = x := by
  cases x; simp [codes]
def strB (cs : Cells) : List D → R
  | [.int i] => if i.natAbs.log2 < 1920 then .ok (.str (codes (toString i))) cs else .stuck
  | [.str l] => .ok (.str l) cs
  | _ => .stuck
abbrev rStrA : List V → Hp → VK → Prop := fun xs H Q => (∃ i, xs = [.int i] ∧ i.natAbs.log2 < 1920 ∧ Q (.str (toString i)) H) ∨ ∃ a, xs = [.str a] ∧ Q (.str a) H
theorem call_strA {X : Cx} : CallR X (.type "str") rStrA := call_str_int.or call_str_str
theorem cb_str {g : Gd} : Cb g rStrA strB := by
  intro W H F c cs vs ds Q I rv po
  unfold strB at po
  split at po
  · split at po
    · rename_i i hi
      cases rv with
      | cons r1 r2 =>
        cases r1; cases r2
        refine .inl ⟨_, rfl, hi, ?_⟩
        have := PoE.here I (.str (codes (toString i))) po
        rw [str_codes] at this
        exact this
    · exact po.elim
  · cases rv with
    | cons r1 r2 =>
      cases r1; cases r2
      exact .inr ⟨_, rfl, PoE.here I (.str _) po⟩
  · exact po.elim
def intB (cs : Cells) : List D → R
  | [.str l] => match PySem.intText? ⟨l.toArray⟩ with
    | some n => if l.length ≤ 640 then .ok (.int n) cs else .stuck
    | none => .stuck
  | _ => .stuck
theorem cb_int {g : Gd} : Cb g (fun xs H Q => ∃ a n, xs = [.str a] ∧ PySem.intText? a = some n ∧ a.length ≤ 640 ∧ Q (.int n) H) intB := by
  intro W H F c cs vs ds Q I rv po
  unfold intB at po
  split at po
  · split at po
    · split at po
      · rename_i hl
        cases rv with
        | cons r1 r2 =>
          cases r1; cases r2
          exact ⟨_, _, rfl, by assumption, by rw [str_len]; exact hl, PoE.here I (.int _) po⟩
      · exact po.elim
    · exact po.elim
  · exact po.elim
/-- repr of a flat value -/
def reprC : D → Option (List Nat)
  | .non => some (codes "None")
  | .bl b => some (codes (if b then "True" else "False"))
  | .int i => if i.natAbs.log2 < 1920 then some (codes (toString i)) else none
  | .str l => if (reprText ⟨l.toArray⟩).length ≤ sizeLine then some (codes (reprText ⟨l.toArray⟩)) else none
  | _ => none
def reprB (cs : Cells) : List D → R
  | [d] => match reprC d with
    | some l => .ok (.str l) cs
    | none => .stuck
  | _ => .stuck
inductive RepV : V → Str → Prop
  | non : RepV .non "None"
  | bl (b : Bool) : RepV (.bl b) (if b then "True" else "False")
  | int {i : Int} (h : i.natAbs.log2 < 1920) : RepV (.int i) (toString i)
  | str {x : Str} (h : (reprText x).length ≤ sizeLine) : RepV (.str x) (reprText x)
def rRepV : List V → Hp → VK → Prop := fun xs H Q => ∃ x z, xs = [x] ∧ RepV x z ∧ Q (.str z) H
theorem call_repV {X : Cx} : CallR X (.builtin "repr") rRepV := by
  rintro pins s σ H xs us Q I ⟨r, _⟩ ⟨x, z, rfl, hr, q⟩
  obtain ⟨u, rfl, ru⟩ := vals1 r
  cases hr with
  | non => cases (show u = Value.none from ru); exact PySem.P.repr_of_none (endS I q)
  | bl b => cases (show u = Value.bool b from ru); exact PySem.P.repr_of_bool (by cases b <;> exact endS I q)
  | int h => obtain ⟨t, rfl⟩ := ru; exact PySem.P.repr_of_int h (endS I q)
  | str h => obtain ⟨t, rfl⟩ := ru; exact PySem.P.repr_of_str (endS I q) h
theorem cb_repr {g : Gd} : Cb g rRepV reprB := by
  intro W H F c cs vs ds Q I rv po
  unfold reprB at po
  split at po
  · rename_i d
    cases rv with
    | cons r1 r2 =>
      cases r2
      split at po
      · rename_i l hl
        have go : ∀ z, codes z = l → ∀ v, RepV v z → rRepV [v] H Q := fun z e v h => ⟨v, z, rfl, h, by
          have := PoE.here I (.str l) po
          rw [← e, str_codes] at this
          exact this⟩
        cases r1 with
        | non => simp only [reprC, Option.some.injEq] at hl; exact go _ hl _ .non
        | bl b => simp only [reprC, Option.some.injEq] at hl; exact go _ hl _ (.bl b)
        | int i =>
          simp only [reprC] at hl
          split at hl
          · simp only [Option.some.injEq] at hl; exact go _ hl _ (.int (by assumption))
          · cases hl
        | str y =>
          simp only [reprC] at hl
          split at hl
          · simp only [Option.some.injEq] at hl; exact go _ hl _ (.str (by assumption))
          · cases hl
        | _ => cases hl
      · exact po.elim
  · exact po.elim
/-! all, any, of a list of truths -/
def blsOf : List D → Option (List Bool)
  | [] => some []
  | .bl b :: r => match blsOf r with
    | some l => some (b :: l)
    | none => none
  | _ => none
def allB (cs : Cells) : List D → R
  | [d] => match listOf cs d with
    | some ds => match blsOf ds with
      | some l => .ok (.bl (l.all id)) cs
      | none => .stuck
    | none => .stuck
  | _ => .stuck
theorem blsOf_rv {g : Gd} {F : Hp} {c : List Addr} : ∀ {vs : List V} {ds : List D} {l : List Bool}, RVs g F c vs ds → blsOf ds = some l → vs = l.map V.bl
  | _, _, _, .nil, h => by simp only [blsOf, Option.some.injEq] at h; subst h; rfl
  | _, _, _, .cons r1 r2, h => by
    cases r1 with
    | bl b =>
      simp only [blsOf] at h
      split at h
      · rename_i l hl
        simp only [Option.some.injEq] at h
        subst h
        rw [blsOf_rv r2 hl]; rfl
      · cases h
    | _ => cases h
theorem cb_all {g : Gd} : Cb g (fun vs H Q => ∃ (a : Addr) (bs : List Bool), vs = [V.ref a] ∧ L2.SqL g.K H a (bs.map V.bl) ∧ Q (.bl (bs.all _root_.id)) H) allB := by
  intro W H F c cs vs ds Q I rv po
  unfold allB at po
  split at po
  · rename_i d
    cases rv with
    | cons r1 r2 =>
      cases r2
      split at po
      · rename_i ds hds
        split at po
        · rename_i l hl
          obtain ⟨q, vs, rfl, hs, r⟩ := listOf_at I r1 hds
          have e := blsOf_rv r hl
          subst e
          exact ⟨q, l, rfl, .inl (.inl hs), PoE.here I (.bl _) po⟩
        · exact po.elim
      · exact po.elim
  · exact po.elim

/-! ### isinstance, one built-in class -/
def tyD : D → Option String
  | .non => some "NoneType"
  | .bl _ => some "bool"
  | .int _ => some "int"
  | .str _ => some "str"
  | .lst _ => some "list"
  | .scr _ => some "list"
  | .tup _ => some "tuple"
  | .dct _ => some "dict"
  | _ => none
def tyC (cs : Cells) : D → Option String
  | .loc n => match cs[n]? with
    | some (.lst _) => some "list"
    | some (.dct _) => some "dict"
    | some (.fz d) => tyD d
    | _ => none
  | d => tyD d
def isiD (t : String) (cs : Cells) (d : D) : R := match tyC cs d with
  | some u => match kitB u t with
    | some b => .ok (.bl b) cs
    | none => .stuck
  | none => .stuck
section
variable {g : Gd} {H F : Hp} {c : List Addr} {cs : Cells}
theorem tyD_at (I : Ih g H F c cs) {v : V} {d : D} {t : String} (r : RV g F c v d) (h : tyD d = some t) : TyX g.K H v (.type t) := by
  cases r with
  | non => cases h; exact .base .non
  | bl b => cases h; exact .base (.bl b)
  | int i => cases h; exact .base (.int i)
  | str l => cases h; exact .base (.str _)
  | lst h1 _ => cases h; exact .base (.lst (I.sub _ _ h1))
  | tup h1 _ =>
    cases h
    rcases h1.l2 with (h1 | ⟨o, h1⟩) | ⟨o, its, n, h1, h2, _⟩
    · exact .base (.tup (I.sub _ _ h1))
    · exact .fTuple (I.sub _ _ h1)
    · exact .kTuple h1 h2
  | dct h1 _ =>
    cases h
    rcases h1 with h1 | ⟨o, h1⟩
    · exact .base (.dK (I.sub _ _ h1))
    · exact .fDict (I.sub _ _ h1)
  | scr h1 =>
    cases h
    rcases h1.l2 with (h1 | ⟨o, h1⟩) | ⟨o, its, n, h1, h2, _⟩
    · exact .base (.lst (I.sub _ _ h1))
    · exact .base (.frz (I.sub _ _ h1))
    · exact .kList h1 h2
  | _ => cases h
theorem tyC_at (I : Ih g H F c cs) {v : V} {d : D} {t : String} (r : RV g F c v d) (h : tyC cs d = some t) : TyX g.K H v (.type t) := by
  cases r with
  | @loc n a ha =>
    simp only [tyC] at h
    obtain ⟨x, hx⟩ := I.there ha
    have q := I.cell n a x ha hx
    rw [hx] at h
    cases x with
    | lst l => cases h; obtain ⟨_, vs, h1, _⟩ := q; exact .base (.lst h1)
    | dct l => cases h; obtain ⟨_, vs, h1, _⟩ := q; exact .base (.dK h1)
    | fz d => exact tyD_at I q.1 h
    | _ => cases h
  | non => exact tyD_at (c := c) I .non h
  | bl b => exact tyD_at (c := c) I (.bl b) h
  | int i => exact tyD_at (c := c) I (.int i) h
  | str l => exact tyD_at (c := c) I (.str l) h
  | lst a b => exact tyD_at I (.lst a b) h
  | tup a b => exact tyD_at I (.tup a b) h
  | dct a b => exact tyD_at I (.dct a b) h
  | scr a => exact tyD_at (c := c) I (.scr a) h
  | obj a b e => exact tyD_at I (.obj a b e) h
end
section
variable {X : Cx} {W : WX} {pos p p1 p2 : Pos} {a b o e : Expr} {ma mb mo m : ME} {ms : MA} {x : Str} {t : String}
theorem pe_blt (hg : Gl X x) (hm : X.mg x = none) (hv : bootBuiltins x = some (.type t)) (hn : x ≠ "__name__" := by decide) (hdb : (x == ("__debug__" : Str)) = false := by decide) : PE X (.Name x p) (tC (.ty t)) :=
  pe_bltn hg hm hv rfl (fun _ z => nomatch z) hn hdb
theorem xp_isi (hgi : Gl X "isinstance") (hmi : X.mg "isinstance" = none) (hg : Gl X x) (hm : X.mg x = none) (hv : bootBuiltins x = some (.type t)) (ha : Xp X W a ma) (hn : x ≠ "__name__" := by decide) (hdb : (x == ("__debug__" : Str)) = false := by decide)
    (he : starEach [a, .Name x p2] X.env = (false, eval a X.env) :: starEach [.Name x p2] X.env := by rfl) (he2 : starEach [.Name x p2] X.env = (false, eval (.Name x p2) X.env) :: starEach [] X.env := by rfl)
    (hpl : (backTo pos (starEach [.Name x p2] X.env)).any (·.1) = false := by rfl) : Xp X W (.Call (.Name "isinstance" p) [a, .Name x p2] [] pos) (op1 (isiD t) ma) := by
  obtain ⟨ta, pa, sa⟩ := ha
  refine ⟨_, pe_callB call_isi hgi hmi PyProof.Rows.boot_isinstance (pa_cons pa (pa_cons (pe_blt hg hm hv hn hdb) pa_nil he2) he) (by decide) (by decide) he hpl, fun σ env H F c cs Q re I po => ?_⟩
  refine sa σ env H F c cs _ re I (PoE.cut po _ fun d cs1 _ H1 F1 c1 v x1 I1 rv po1 => ?_)
  unfold isiD at po1
  split at po1
  · rename_i u hu
    split at po1
    · rename_i k hk
      exact ⟨v, .ty t, .type u, .type t, k, rfl, .ty t, tyC_at I1 rv hu, kit_ty hk, PoE.here I1 (.bl k) po1⟩
    · exact po1.elim
  · exact po1.elim
end
end L3

namespace L3
open PySem L2

/-! ### x in y -/
def flatD : D → Bool
  | .non => true
  | .bl _ => true
  | .int _ => true
  | .str _ => true
  | _ => false
def eqF : D → D → Bool
  | .non, .non => true
  | .bl a, .bl b => a == b
  | .bl a, .int b => (if a then 1 else 0) == b
  | .int a, .bl b => a == (if b then 1 else 0)
  | .int a, .int b => a == b
  | .str a, .str b => decide (a = b)
  | _, _ => false
def inF (x : D) (xs : List D) : Bool := xs.any fun y => eqF y x
theorem flat_rv {g : Gd} {F : Hp} {c : List Addr} {v : V} {d : D} (r : RV g F c v d) (h : flatD d = true) : flatV v = true := by
  cases r <;> first | rfl | cases h
theorem flats_rv {g : Gd} {F : Hp} {c : List Addr} : ∀ {v : List V} {d : List D}, RVs g F c v d → d.all flatD = true → v.all flatV = true
  | _, _, .nil, _ => rfl
  | _, _, .cons a b, h => by
    rw [List.all_cons, Bool.and_eq_true] at h ⊢
    exact ⟨flat_rv a h.1, flats_rv b h.2⟩
theorem str_beq (a b : List Nat) : ((⟨a.toArray⟩ : Str) == ⟨b.toArray⟩) = decide (a = b) := by
  rw [Bool.eq_iff_iff, beq_iff_eq, decide_eq_true_eq]
  constructor
  · intro h
    have := congrArg (fun z : Str => z.cps.toList) h
    simpa using this
  · intro h; rw [h]
theorem eqF_rv {g : Gd} {F : Hp} {c : List Addr} {v u : V} {d e : D} (r : RV g F c v d) (q : RV g F c u e) : eqV v u = eqF d e := by
  cases r <;> cases q <;> first | rfl | (simp only [eqV, eqF]; exact str_beq _ _)
theorem inF_rv {g : Gd} {F : Hp} {c : List Addr} {v : V} {d : D} (r : RV g F c v d) : ∀ {vs : List V} {ds : List D}, RVs g F c vs ds → inV v vs = inF d ds
  | _, _, .nil => rfl
  | _, _, .cons a b => by
    unfold inV inF
    rw [List.any_cons, List.any_cons, eqF_rv a r]
    have := inF_rv r b
    unfold inV inF at this
    rw [this]
def inB (cs : Cells) (x y : D) : Option Bool := match x, y with
  | .str [k], .str l => some (decide (k ∈ l))
  | x, y => match seqOf cs y with
    | some ds => if flatD x && ds.all flatD then some (inF x ds) else none
    | none => none
def inD (cs : Cells) (x y : D) : R := match inB cs x y with
  | some b => .ok (.bl b) cs
  | none => .stuck
def ninD (cs : Cells) (x y : D) : R := match inB cs x y with
  | some b => .ok (.bl !b) cs
  | none => .stuck
abbrev rInS1 : R2 := fun x y H Q => ∃ (c : Nat) (z : Str), x = .str ⟨#[c]⟩ ∧ y = .str z ∧ Q (.bl (decide (c ∈ z.cps.toList))) H
abbrev rNInS1 : R2 := fun x y H Q => ∃ (c : Nat) (z : Str), x = .str ⟨#[c]⟩ ∧ y = .str z ∧ Q (.bl (!decide (c ∈ z.cps.toList))) H
section
variable {X : Cx} {W : WX} {pos p p1 p2 : Pos} {a b o e : Expr} {ma mb mo me : ME} {ms : MA}
theorem o2_in {g : Gd} : O2 g (fun x y H Q => rInS1 x y H Q ∨ rIn g.K false x y H Q) inD := by
  intro W H F c cs x y d e Q I rx ry po
  unfold inD inB at po
  split at po
  · rename_i k hk
    split at hk
    · simp only [Option.some.injEq] at hk
      subst hk
      cases rx; cases ry
      exact .inl ⟨_, _, rfl, rfl, PoE.here I (.bl _) po⟩
    · split at hk
      · rename_i ds hds
        split at hk
        · rename_i hf
          simp only [Bool.and_eq_true] at hf
          simp only [Option.some.injEq] at hk
          obtain ⟨q, vs, rfl, hs, r⟩ := seqOf_at I ry hds
          refine .inr ⟨q, vs, rfl, hs.imp SqL.l2 SqT.l2, flat_rv rx hf.1, flats_rv r hf.2, ?_⟩
          rw [if_neg Bool.false_ne_true, inF_rv rx r, hk]
          exact PoE.here I (.bl _) po
        · cases hk
      · cases hk
  · exact po.elim
theorem o2_nin {g : Gd} : O2 g (fun x y H Q => rNInS1 x y H Q ∨ rIn g.K true x y H Q) ninD := by
  intro W H F c cs x y d e Q I rx ry po
  unfold ninD inB at po
  split at po
  · rename_i k hk
    split at hk
    · simp only [Option.some.injEq] at hk
      subst hk
      cases rx; cases ry
      exact .inl ⟨_, _, rfl, rfl, PoE.here I (.bl _) po⟩
    · split at hk
      · rename_i ds hds
        split at hk
        · rename_i hf
          simp only [Bool.and_eq_true] at hf
          simp only [Option.some.injEq] at hk
          obtain ⟨q, vs, rfl, hs, r⟩ := seqOf_at I ry hds
          refine .inr ⟨q, vs, rfl, hs.imp SqL.l2 SqT.l2, flat_rv rx hf.1, flats_rv r hf.2, ?_⟩
          rw [if_pos rfl, inF_rv rx r, hk]
          exact PoE.here I (.bl _) po
        · cases hk
      · cases hk
  · exact po.elim
theorem xp_in (ha : XpW X W a ma) (hb : XpW X W b mb) (hm : behindInMarks .In b = false) : Xp X W (.Compare a [.In] [b] pos) (op2 inD ma mb) := xp_cmpW (op_in_sign.or op_in_seq) o2_in ha hb hm
theorem xp_nin (ha : XpW X W a ma) (hb : XpW X W b mb) (hm : behindInMarks .NotIn b = false) : Xp X W (.Compare a [.NotIn] [b] pos) (op2 ninD ma mb) := xp_cmpW (op_notIn_sign.or op_notIn_seq) o2_nin ha hb hm
theorem xt_in (ha : XpW X W a ma) (hb : XpW X W b mb) (hm : behindInMarks .In b = false) : Xt1 X W (.Compare a [.In] [b] pos) (op2 inD ma mb) := xt_cmpW (op_in_sign.or op_in_seq) o2_in ha hb hm
theorem xt_nin (ha : XpW X W a ma) (hb : XpW X W b mb) (hm : behindInMarks .NotIn b = false) : Xt1 X W (.Compare a [.NotIn] [b] pos) (op2 ninD ma mb) := xt_cmpW (op_notIn_sign.or op_notIn_seq) o2_nin ha hb hm

/-! ### o[i] = e, o a list that is a cell -/
def putL (cs : Cells) (o i v : D) : Option Cells := match o, i with
  | .loc n, .int k => match cs[n]? with
    | some (.lst l) => match ixN l.length k with
      | some j => some (cs.set n (.lst (l.set j v)))
      | none => none
    | _ => none
  | _, _ => none
def sPut (mo mi mv : ME) : MS := fun env cs => (mv env cs).toS env fun v cs1 => (mo env cs1).toS env fun o cs2 => (mi env cs2).toS env fun i cs3 => match putL cs3 o i v with
  | some cs4 => .nx env cs4
  | none => .stuck
theorem RVs.set {g : Gd} {F : Hp} {c : List Addr} : ∀ {vs : List V} {ds : List D} (j : Nat) {v : V} {d : D}, RVs g F c vs ds → RV g F c v d → RVs g F c (vs.set j v) (ds.set j d)
  | _, _, _, _, _, .nil, _ => .nil
  | _, _, 0, _, _, .cons a b, r => .cons r b
  | _, _, j + 1, _, _, .cons a b, r => .cons a (RVs.set j b r)
theorem sm_put {tpos : Pos} (ho : Xp X W o mo) (hi : Xp X W b mb) (hv : Xp X W e me)
    (hs : swapsWithSole [.Subscript o b tpos] e pos.line X.env = pure false := by rfl) (hw : swappedStores [.Subscript o b tpos] e X.env = pure none := by rfl)
    (h1 : (assignEach [.Subscript o b tpos] X.env).map (·.2) = [assign (.Subscript o b tpos) X.env] := by rfl)
    (ha : ∀ v, assign (.Subscript o b tpos) X.env v = (do
      let ov ← holding [v] (eval o X.env)
      let iv ← holding [v, ov] (eval b X.env)
      standAt tpos
      holding [v, ov, iv] (setItem ov iv v)
      release [v, ov, iv] []) := by intro _; rfl) : Sm X W (.Assign [.Subscript o b tpos] e pos) (sPut mo mb me) := by
  obtain ⟨to, po', so⟩ := ho
  obtain ⟨tb, pb, sb⟩ := hi
  obtain ⟨te, pe, se⟩ := hv
  refine ⟨_, ps_asg pe (pg_sub po' pb set_list ha) hs hw h1, fun σ env H F c cs Dn re I po => ?_⟩
  refine se σ env H F c cs _ re I (PoS.cut re po _ fun d cs1 _ H1 F1 c1 v x1 I1 rv po1 => ?_)
  refine so σ env H1 F1 c1 cs1 _ (re.mono x1.le) I1 (PoS.cut (re.mono x1.le) po1 _ fun d2 cs2 _ H2 F2 c2 v2 x2 I2 rv2 po2 => ?_)
  refine sb σ env H2 F2 c2 cs2 _ ((re.mono x1.le).mono x2.le) I2 (PoS.cut ((re.mono x1.le).mono x2.le) po2 _ fun d3 cs3 _ H3 F3 c3 v3 x3 I3 rv3 po3 => ?_)
  have re3 := ((re.mono x1.le).mono x2.le).mono x3.le
  have rv' := (rv.mono x2.le).mono x3.le
  have rv2' := rv2.mono x3.le
  split at po3
  · rename_i cs4 h4
    unfold putL at h4
    split at h4
    · rename_i n k
      split at h4
      · rename_i l hl
        split at h4
        · rename_i j hj
          simp only [Option.some.injEq] at h4
          subst h4
          cases rv3
          cases rv2' with
          | loc ha =>
            have q := I3.cell _ _ _ ha hl
            obtain ⟨f, vs, hH, r⟩ := q
            refine ⟨_, vs, _, j, rfl, rfl, hH, by rw [r.length]; exact hj, ?_⟩
            have x4 := Xt.write I3 (o := .lst (vs.set j v)) ha
            refine po3 _ _ _ x4 (I3.write ha hl rfl ?_) σ (re3.mono x4.le)
            exact ⟨f, _, upd_same, r.set j rv'⟩
        · cases h4
      · cases h4
    · cases h4
  · exact po3.elim
end

/-! ### methods of a text -/
def eM0 (f : Cells → List Nat → R) (mo : ME) : ME := fun env cs => (mo env cs).bind fun x cs1 => match x with
  | .str l => f cs1 l
  | _ => .stuck
def eM1 (f : Cells → List Nat → D → R) (mo me : ME) : ME := fun env cs => (mo env cs).bind fun x cs1 => match x with
  | .str l => (me env cs1).bind fun y cs2 => f cs2 l y
  | _ => .stuck
def Mb0 (g : Gd) (r : V → List V → Hp → VK → Prop) (f : Cells → List Nat → R) : Prop := ∀ (W : XK) (H F : Hp) (c : List Addr) (cs : Cells) (l : List Nat) (Q : VK), Ih g H F c cs → PoE g W H F c (f cs l) Q → r (.str ⟨l.toArray⟩) [] H Q
def Mb1 (g : Gd) (r : V → List V → Hp → VK → Prop) (f : Cells → List Nat → D → R) : Prop := ∀ (W : XK) (H F : Hp) (c : List Addr) (cs : Cells) (l : List Nat) (y : V) (e : D) (Q : VK), Ih g H F c cs → RV g F c y e → PoE g W H F c (f cs l e) Q → r (.str ⟨l.toArray⟩) [y] H Q
section
variable {X : Cx} {W : WX} {pos p p1 p2 apos : Pos} {a b o e : Expr} {ma mb mo me : ME} {ms : MA} {id : String} {name : Str} {r : V → List V → Hp → VK → Prop} {f : Cells → List Nat → D → R} {f0 : Cells → List Nat → R}
theorem xp_m0 (slot : Slot "str" name id) (ty : typeOf (.builtin id) = pure (.type "method_descriptor")) (rule : MtR X id r) (ok : Mb0 (gd X) r f0) (ho : Xp X W o mo)
    (hbase : attributeBase o name X.env (eval o X.env) = eval o X.env := by rfl) (hline : (apos.endLine == pos.line) = true := by rfl) : Xp X W (.Call (.Attribute o name apos) [] [] pos) (eM0 f0 mo) := by
  obtain ⟨to, po', so⟩ := ho
  refine ⟨_, pe_m0 slot ty rule po' hbase hline, fun σ env H F c cs Q re I po => ?_⟩
  refine so σ env H F c cs _ re I (PoE.cut po _ fun d cs1 _ H1 F1 c1 v x1 I1 rv po1 => ?_)
  split at po1
  · cases rv
    exact ⟨⟨_, rfl⟩, ok _ _ _ _ _ _ _ I1 po1⟩
  · exact po1.elim
theorem xp_m1 (slot : Slot "str" name id) (ty : typeOf (.builtin id) = pure (.type "method_descriptor")) (rule : MtR X id r) (ok : Mb1 (gd X) r f) (ho : Xp X W o mo) (he : XpW X W e me)
    (hs : starEach [e] X.env = [(false, eval e X.env)] := by rfl) (hbase : attributeBase o name X.env (eval o X.env) = eval o X.env := by rfl) (hline : (apos.endLine == pos.line) = true := by rfl) :
    Xp X W (.Call (.Attribute o name apos) [e] [] pos) (eM1 f mo me) := by
  obtain ⟨to, po', so⟩ := ho
  obtain ⟨te, pe', se⟩ := he
  refine ⟨_, pe_m1 slot ty rule po' pe' hs hbase hline, fun σ env H F c cs Q re I po => ?_⟩
  refine so σ env H F c cs _ re I (PoE.cut po _ fun d cs1 _ H1 F1 c1 v x1 I1 rv po1 => ?_)
  split at po1
  · cases rv
    refine ⟨⟨_, rfl⟩, se σ env H1 F1 c1 cs1 _ (re.mono x1.le) I1 (PoE.cut po1 _ fun d2 cs2 _ H2 F2 c2 v2 x2 I2 rv2 po2 => ?_)⟩
    exact ok _ _ _ _ _ _ _ _ _ I2 rv2 po2
  · exact po1.elim
/-! join -/
def strsOf : List D → Option (List (List Nat))
  | [] => some []
  | .str l :: r => match strsOf r with
    | some q => some (l :: q)
    | none => none
  | _ => none
def joinD (cs : Cells) (l : List Nat) (y : D) : R := match seqOf cs y with
  | some ds => match strsOf ds with
    | some ls => if (ls.map (·.length)).sum + ls.length * l.length ≤ 16777216 then .ok (.str (TL.joinL l ls)) cs else .stuck
    | none => .stuck
  | none => .stuck
theorem strsOf_rv {g : Gd} {F : Hp} {c : List Addr} : ∀ {vs : List V} {ds : List D} {l : List (List Nat)}, RVs g F c vs ds → strsOf ds = some l → vs = (l.map fun z => (⟨z.toArray⟩ : Str)).map V.str
  | _, _, _, .nil, h => by simp only [strsOf, Option.some.injEq] at h; subst h; rfl
  | _, _, _, .cons r1 r2, h => by
    cases r1 with
    | str y =>
      simp only [strsOf] at h
      split at h
      · rename_i l hl
        simp only [Option.some.injEq] at h
        subst h
        rw [strsOf_rv r2 hl]; rfl
      · cases h
    | _ => cases h
theorem map_tl (ls : List (List Nat)) : (ls.map fun z => (⟨z.toArray⟩ : Str)).map TL.tl = ls := by
  rw [List.map_map]
  conv => rhs; rw [← List.map_id ls]
  exact List.map_congr_left fun z _ => by simp [TL.tl]
theorem join_codes (l : List Nat) (ls : List (List Nat)) : Txt.join ⟨l.toArray⟩ (ls.map fun z => (⟨z.toArray⟩ : Str)) = ⟨(TL.joinL l ls).toArray⟩ := by
  rw [TL.join_eq]
  refine TL.ext_tl ?_
  rw [TL.tl_join, map_tl]
theorem mb_join {g : Gd} : Mb1 g (fun x xs H Q => ∃ a p, ∃ ys : List Str, x = .str a ∧ xs = [.ref p] ∧ (SqL g.K H p (ys.map V.str) ∨ SqT g.K H p (ys.map V.str)) ∧
      (ys.map (·.length)).sum + ys.length * a.length ≤ 16777216 ∧ Q (.str (Txt.join a ys)) H) joinD := by
  intro W H F c cs l y e Q I ry po
  unfold joinD at po
  split at po
  · rename_i ds hds
    split at po
    · rename_i ls hls
      split at po
      · rename_i hz
        obtain ⟨q, vs, rfl, hs, r⟩ := seqOf_at I ry hds
        have e := strsOf_rv r hls
        subst e
        refine ⟨_, q, _, rfl, rfl, hs, ?_, ?_⟩
        · rw [List.map_map, List.length_map, str_len]
          have : ls.map ((fun x : Str => x.length) ∘ fun z => (⟨z.toArray⟩ : Str)) = ls.map (·.length) := List.map_congr_left fun z _ => str_len z
          rw [this]; exact hz
        · rw [join_codes]
          exact PoE.here I (.str _) po
      · exact po.elim
    · exact po.elim
  · exact po.elim
theorem xp_join (ho : Xp X W o mo) (he : XpW X W e me)
    (hs : starEach [e] X.env = [(false, eval e X.env)] := by rfl) (hbase : attributeBase o "join" X.env (eval o X.env) = eval o X.env := by rfl) (hline : (apos.endLine == pos.line) = true := by rfl) :
    Xp X W (.Call (.Attribute o "join" apos) [e] [] pos) (eM1 joinD mo me) := xp_m1 F.slot_str_join F.type_str_join mt_join mb_join ho he hs hbase hline
/-! index of one sign -/
def sixD (cs : Cells) (l : List Nat) (y : D) : R := match y with
  | .str [k] => if k ∈ l then .ok (.int ((l.idxOf k : Nat) : Int)) cs else .stuck
  | _ => .stuck
abbrev rSix : V → List V → Hp → VK → Prop := fun x xs H Q => ∃ a b i rest, x = .str a ∧ xs = [.str b] ∧ Builtin.Str.occurrences a b 0 a.length 1 = i :: rest ∧ Q (.int (i : Nat)) H
theorem idx_of : ∀ {l : List Nat} {k i : Nat}, l[i]? = some k → (∀ j, j < i → l[j]? ≠ some k) → i = l.idxOf k
  | [], _, _, h, _ => by simp at h
  | x :: l, k, 0, h, _ => by simp at h; subst h; simp
  | x :: l, k, i + 1, h, q => by
    have hx : x ≠ k := fun e => q 0 (Nat.succ_pos _) (by simp [e])
    have := idx_of (l := l) (k := k) (i := i) (by simpa using h) fun j hj e => q (j + 1) (by omega) (by simpa using e)
    rw [List.idxOf_cons, ← this]
    have : (x == k) = false := by simpa using hx
    rw [this]; rfl
theorem occ_one (l : List Nat) {k : Nat} (h : k ∈ l) : ∃ rest, Builtin.Str.occurrences ⟨l.toArray⟩ ⟨#[k]⟩ 0 (⟨l.toArray⟩ : Str).length 1 = l.idxOf k :: rest := by
  rcases StrLaws.occ_head ⟨l.toArray⟩ ⟨#[k]⟩ 1 (Nat.le_refl _) with ⟨_, hn⟩ | ⟨i, r, e, ha, hn⟩
  · obtain ⟨i, hi⟩ := List.mem_iff_getElem?.mp h
    exact absurd ((StrLaws.subAt_one ⟨l.toArray⟩ k i).mpr (by simpa using hi)) (hn i)
  · have h1 := (StrLaws.subAt_one ⟨l.toArray⟩ k i).mp ha
    have : i = l.idxOf k := idx_of (by simpa using h1) fun j hj e => hn j hj ((StrLaws.subAt_one ⟨l.toArray⟩ k j).mpr (by simpa using e))
    rw [e, this]
    exact ⟨r, rfl⟩
theorem mb_six {g : Gd} : Mb1 g rSix sixD := by
  intro W H F c cs l y e Q I ry po
  unfold sixD at po
  split at po
  · split at po
    · rename_i h
      cases ry
      obtain ⟨r, hr⟩ := occ_one l h
      exact ⟨_, _, _, r, rfl, rfl, hr, PoE.here I (.int _) po⟩
    · exact po.elim
  · exact po.elim
theorem xp_six (ho : Xp X W o mo) (he : XpW X W e me)
    (hs : starEach [e] X.env = [(false, eval e X.env)] := by rfl) (hbase : attributeBase o "index" X.env (eval o X.env) = eval o X.env := by rfl) (hline : (apos.endLine == pos.line) = true := by rfl) :
    Xp X W (.Call (.Attribute o "index" apos) [e] [] pos) (eM1 sixD mo me) := xp_m1 F.slot_str_index F.type_str_index mt_sindex mb_six ho he hs hbase hline
end

/-! ### {k: v, ..} -/
inductive RPs (g : Gd) (F : Hp) (c : List Addr) : List (V × V) → List D → Prop
  | nil : RPs g F c [] []
  | cons {x y : V} {d e : D} {ps : List (V × V)} {ds : List D} : RV g F c x d → RV g F c y e → RPs g F c ps ds → RPs g F c ((x, y) :: ps) (d :: e :: ds)
section
variable {X : Cx} {W : WX} {pos : Pos}
def kvD : List D → Option (List (Kd × D))
  | [] => some []
  | .int i :: v :: r => match kvD r with
    | some q => some ((.inl i, v) :: q)
    | none => none
  | .str l :: v :: r => match kvD r with
    | some q => some ((.inr l, v) :: q)
    | none => none
  | _ => none
def putD (kds : List (Kd × D)) (k : Kd) (v : D) : List (Kd × D) := if (kds.any fun kv => decide (kv.1 = k)) = true then kds.map (fun kv => if kv.1 = k then (kv.1, v) else kv) else kds ++ [(k, v)]
def mergeD (kds more : List (Kd × D)) : List (Kd × D) := more.foldl (fun acc kv => putD acc kv.1 kv.2) kds
theorem RKs.app {g : Gd} {F : Hp} {c : List Addr} : ∀ {vs ws : List (Key × V)} {ds es : List (Kd × D)}, RKs g F c vs ds → RKs g F c ws es → RKs g F c (vs ++ ws) (ds ++ es)
  | _, _, _, _, .nil, s => s
  | _, _, _, _, .cons a b, s => .cons a (RKs.app b s)
theorem RKs.any {g : Gd} {F : Hp} {c : List Addr} (k : Kd) : ∀ {vs : List (Key × V)} {ds : List (Kd × D)}, RKs g F c vs ds → (vs.any fun kv => decide (kv.1 = kk k)) = ds.any fun kv => decide (kv.1 = k)
  | _, _, .nil => rfl
  | _, _, .cons a b => by rw [List.any_cons, List.any_cons, RKs.any k b, kk_eq]
theorem RKs.upd {g : Gd} {F : Hp} {c : List Addr} (k : Kd) {v : V} {d : D} (r : RV g F c v d) : ∀ {vs : List (Key × V)} {ds : List (Kd × D)}, RKs g F c vs ds → RKs g F c (vs.map fun kv => if kv.1 = kk k then (kv.1, v) else kv) (ds.map fun kv => if kv.1 = k then (kv.1, d) else kv)
  | _, _, .nil => .nil
  | _, _, @RKs.cons _ _ _ k0 v0 d0 vs ds a b => by
    rw [List.map_cons, List.map_cons]
    by_cases h : k0 = k
    · subst h
      rw [if_pos rfl, if_pos rfl]
      exact .cons r (RKs.upd k0 r b)
    · have h' : ¬ kk k0 = kk k := fun e => h (kk_inj e)
      rw [if_neg h', if_neg h]
      exact .cons a (RKs.upd k r b)
theorem RKs.put {g : Gd} {F : Hp} {c : List Addr} {vs : List (Key × V)} {ds : List (Kd × D)} (r : RKs g F c vs ds) (k : Kd) {v : V} {d : D} (q : RV g F c v d) : RKs g F c (putK vs (kk k) v) (putD ds k d) := by
  unfold putK putD
  rw [r.any k]
  split
  · exact r.upd k q
  · exact r.app (.cons q .nil)
theorem RKs.merge {g : Gd} {F : Hp} {c : List Addr} : ∀ {ws : List (Key × V)} {es : List (Kd × D)} {vs : List (Key × V)} {ds : List (Kd × D)}, RKs g F c ws es → RKs g F c vs ds → RKs g F c (mergeK vs ws) (mergeD ds es)
  | _, _, _, _, .nil, r => r
  | _, _, vs, ds, .cons (k := k) a b, r => by
    have h := RKs.merge b (RKs.put r k a)
    exact h
theorem kvD_rv {g : Gd} {F : Hp} {c : List Addr} : ∀ {ps : List (V × V)} {ds : List D} {kds : List (Kd × D)}, RPs g F c ps ds → kvD ds = some kds → ∃ kvs, ps = kvs.map (fun kv => (kV kv.1, kv.2)) ∧ RKs g F c kvs kds
  | _, _, _, .nil, h => by simp only [kvD, Option.some.injEq] at h; subst h; exact ⟨[], rfl, .nil⟩
  | _, _, _, .cons r1 r2 r3, h => by
    cases r1 with
    | int i =>
      simp only [kvD] at h
      split at h
      · rename_i q hq
        simp only [Option.some.injEq] at h
        subst h
        obtain ⟨kvs, e, r⟩ := kvD_rv r3 hq
        exact ⟨(kk (.inl i), _) :: kvs, by rw [e]; rfl, .cons r2 r⟩
      · cases h
    | str l =>
      simp only [kvD] at h
      split at h
      · rename_i q hq
        simp only [Option.some.injEq] at h
        subst h
        obtain ⟨kvs, e, r⟩ := kvD_rv r3 hq
        exact ⟨(kk (.inr l), _) :: kvs, by rw [e]; rfl, .cons r2 r⟩
      · cases h
    | _ => cases h
theorem RKs.length {g : Gd} {F : Hp} {c : List Addr} : ∀ {vs : List (Key × V)} {ds : List (Kd × D)}, RKs g F c vs ds → vs.length = ds.length
  | _, _, .nil => rfl
  | _, _, .cons _ r => by simp [RKs.length r]
def mkD (md : Bool) (cs : Cells) (ds : List (Kd × D)) : R := if md then .ok (.loc cs.length) (cs ++ [.dct ds]) else .ok (.dct ds) cs
def eDict (md : Bool) (m : MA) : ME := fun env cs => (m env cs).bind fun ds cs1 => match kvD ds with
  | some kds => if kds.length ≤ 15 then mkD md cs1 (mergeD [] kds) else .stuck
  | none => .stuck
/-- an object aside joins: stands still, or a cell -/
theorem mkD_ok {g : Gd} {W : XK} {md : Bool} {H F H1 F1 : Hp} {c c1 : List Addr} {cs : Cells} {kds : List (Kd × D)} {kvs : List (Key × V)} {Q : VK} {p : Addr} (x : Xt H F c H1 F1 c1) (I : Ih g H1 F1 c1 cs) (hp : H p = none) (hF : F1 p = none) (hc : p ∉ c1)
    (r : RKs g F1 c1 kvs kds) (po : PoE g W H F c (mkD md cs kds) Q) : Q (.ref p) (L2.upd H1 p (.dK kvs)) := by
  unfold mkD at po
  cases md with
  | true =>
    rw [if_pos rfl] at po
    have y : Xt H F c (L2.upd H1 p (.dK kvs)) F1 (c1 ++ [p]) := by
      have z := x.side (o := .dK kvs) hp
      exact ⟨z.le.trans Le.push, z.kp, z.dom, fun a h n => by
        rcases List.mem_append.mp h with h | h
        · exact z.new a h n
        · have : a = p := by simpa using h
          rw [this]; exact hp, z.out⟩
    have J := I.side (o := .dK kvs) hc hF
    refine po _ _ _ y ⟨J.sub, by simp [J.len], ?_, fun n a z h1 h2 => ?_⟩ _ (.loc (n := cs.length) (by rw [← I.len]; simp))
    · rw [List.nodup_append]
      refine ⟨I.nd, by simp, fun a ha b hb => ?_⟩
      have : b = p := by simpa using hb
      subst this
      rintro rfl
      exact hc ha
    · by_cases hl : n < c1.length
      · rw [List.getElem?_append_left hl] at h1
        rw [List.getElem?_append_left (by rw [← I.len]; exact hl)] at h2
        exact CR.mono (J.cell n a z h1 h2) Le.push (fun _ e => e) fun e => e
      · have hl' : n < (c1 ++ [p]).length := (List.getElem?_eq_some_iff.mp h1).1
        have hn : n = c1.length := by simp at hl'; omega
        subst hn
        rw [List.getElem?_append_right (Nat.le_refl _)] at h1
        rw [I.len, List.getElem?_append_right (Nat.le_refl _)] at h2
        simp at h1 h2
        subst h1; subst h2
        exact ⟨hF, kvs, upd_same, r.mono Le.push⟩
  | false =>
    rw [if_neg Bool.false_ne_true] at po
    have le2 : Le F1 c1 (L2.upd F1 p (.dK kvs)) c1 := Le.upd hF
    have z := x.side (o := .dK kvs) hp
    have J := I.side (o := .dK kvs) hc hF
    have y : Xt H F c (L2.upd H1 p (.dK kvs)) (L2.upd F1 p (.dK kvs)) c1 := ⟨z.le.trans le2, z.kp, z.dom, z.new, fun a o h f n => by
      rw [upd_ne (ne_of_none h hp)]; exact z.out a o h f n⟩
    refine po _ _ _ y ⟨fun a o e => ?_, I.len, I.nd, fun n a z h1 h2 => ?_⟩ _ (.dct (.inl upd_same) (r.mono le2))
    · by_cases ha : a = p
      · subst ha; rw [upd_same] at e ⊢; exact e
      · rw [upd_ne ha] at e; exact J.sub a o e
    · have hne : a ≠ p := fun e => hc (e ▸ List.mem_of_getElem? h1)
      exact CR.mono (J.cell n a z h1 h2) le2 (fun _ e => e) fun e => by rw [upd_ne hne]; exact e
end
end L3
namespace L3
open PySem L2
section
variable {X : Cx} {W : WX} {pos : Pos} {a : Expr} {ma : ME}
theorem xt_tB {t : TE} {m : ME} {σ : L2.St} {env : Env} {H F : Hp} {c : List Addr} {cs : Cells} {Q : Bool → Hp → Prop}
    (s : ∀ σ env H F c cs Q, RE (gd X) F c σ env → Ih (gd X) H F c cs → PoE (gd X) (fun a b => W a b σ) H F c (m env cs) Q → t σ H Q) (re : RE (gd X) F c σ env) (I : Ih (gd X) H F c cs) (po : PoT (gd X) (fun a b => W a b σ) H F c (m env cs) Q) : tB t σ H Q := by
  refine s σ env H F c cs (fun x H' => ∃ k, x = .bl k ∧ Q k H') re I ?_
  cases e : m env cs with
  | ok d cs1 =>
    rw [e] at po
    cases d with
    | bl b => exact fun H' F' c' x I' v rv => by cases rv; exact ⟨b, rfl, po H' F' c' x I'⟩
    | _ => exact po.elim
  | exc n fs cs1 => rw [e] at po; exact po
  | stuck => rw [e] at po; exact po.elim
theorem xt_isN {j} {p : Pos} (ha : Xp X W a ma) : Xt1 X W (.Compare a [.Is] [.Constant .none j p] pos) (op1 (isB none) ma) := by
  obtain ⟨ta, pa, sa⟩ := ha
  refine ⟨_, pt_cmp (pc_isN pa) rfl, fun σ env H F c cs Q re I po => ?_⟩
  refine xt_tB (W := W) (m := op1 (isB none) ma) (fun σ env H F c cs Q re I po => ?_) re I po
  refine sa σ env H F c cs _ re I (PoE.cut po _ fun d cs1 _ H1 F1 c1 v x1 I1 rv po1 => ?_)
  rw [rv_non rv]
  cases d <;> exact PoE.here I1 (.bl _) po1
theorem xt_notN {j} {p : Pos} (ha : Xp X W a ma) : Xt1 X W (.Compare a [.IsNot] [.Constant .none j p] pos) (op1 (isNB none) ma) := by
  obtain ⟨ta, pa, sa⟩ := ha
  refine ⟨_, pt_cmp (pc_notN pa) rfl, fun σ env H F c cs Q re I po => ?_⟩
  refine xt_tB (W := W) (m := op1 (isNB none) ma) (fun σ env H F c cs Q re I po => ?_) re I po
  refine sa σ env H F c cs _ re I (PoE.cut po _ fun d cs1 _ H1 F1 c1 v x1 I1 rv po1 => ?_)
  rw [rv_non rv]
  cases d <;> exact PoE.here I1 (.bl _) po1
theorem xt_isB {j} {p : Pos} {b : Bool} (ha : Xp X W a ma) : Xt1 X W (.Compare a [.Is] [.Constant (.bool b) j p] pos) (op1 (isB (some b)) ma) := by
  obtain ⟨ta, pa, sa⟩ := ha
  refine ⟨_, pt_cmpR op_isB pa pe_bl (nomark _), fun σ env H F c cs Q re I po => ?_⟩
  refine xt_tB (W := W) (m := op1 (isB (some b)) ma) (fun σ env H F c cs Q re I po => ?_) re I po
  refine sa σ env H F c cs _ re I (PoE.cut po _ fun d cs1 _ H1 F1 c1 v x1 I1 rv po1 => ?_)
  refine ⟨b, rfl, ?_⟩
  rw [rv_bl b rv]
  cases d <;> exact PoE.here I1 (.bl _) po1
theorem xt_isNB {j} {p : Pos} {b : Bool} (ha : Xp X W a ma) : Xt1 X W (.Compare a [.IsNot] [.Constant (.bool b) j p] pos) (op1 (isNB (some b)) ma) := by
  obtain ⟨ta, pa, sa⟩ := ha
  refine ⟨_, pt_cmpR op_isNB pa pe_bl (nomark _), fun σ env H F c cs Q re I po => ?_⟩
  refine xt_tB (W := W) (m := op1 (isNB (some b)) ma) (fun σ env H F c cs Q re I po => ?_) re I po
  refine sa σ env H F c cs _ re I (PoE.cut po _ fun d cs1 _ H1 F1 c1 v x1 I1 rv po1 => ?_)
  refine ⟨b, rfl, ?_⟩
  rw [rv_bl b rv]
  cases d <;> exact PoE.here I1 (.bl _) po1
end
end L3

namespace L3
open PySem L2
def anyB (cs : Cells) : List D → R
  | [d] => match listOf cs d with
    | some ds => match blsOf ds with
      | some l => .ok (.bl (l.any id)) cs
      | none => .stuck
    | none => .stuck
  | _ => .stuck
theorem cb_any {g : Gd} : Cb g (fun vs H Q => ∃ (a : Addr) (bs : List Bool), vs = [V.ref a] ∧ L2.SqL g.K H a (bs.map V.bl) ∧ Q (.bl (bs.any _root_.id)) H) anyB := by
  intro W H F c cs vs ds Q I rv po
  unfold anyB at po
  split at po
  · rename_i d
    cases rv with
    | cons r1 r2 =>
      cases r2
      split at po
      · rename_i ds hds
        split at po
        · rename_i l hl
          obtain ⟨q, vs, rfl, hs, r⟩ := listOf_at I r1 hds
          have e := blsOf_rv r hl
          subst e
          exact ⟨q, l, rfl, .inl (.inl hs), PoE.here I (.bl _) po⟩
        · exact po.elim
      · exact po.elim
  · exact po.elim
/-! x.lower(), x.split() -/
def lowerD (cs : Cells) (l : List Nat) : R := if l.length ≤ 5592405 then .ok (.str (codes (Txt.lower ⟨l.toArray⟩))) cs else .stuck
def wordsL (l : List Nat) : List (List Nat) := TL.wfin (l.foldl TL.wstep ([], []))
def wordsD (md : Bool) (cs : Cells) (l : List Nat) : R := if l.length + 2 ≤ sizeLine then mkL md cs ((wordsL l).map D.str) else .stuck
theorem rvs_strs {g : Gd} {F : Hp} {c : List Addr} : ∀ ys : List Str, RVs g F c (ys.map V.str) ((ys.map TL.tl).map D.str)
  | [] => .nil
  | y :: r => .cons (by
      have : RV g F c (.str ⟨(TL.tl y).toArray⟩) (.str (TL.tl y)) := .str _
      rw [TL.mk_tl] at this
      exact this) (rvs_strs r)
section
variable {X : Cx} {W : WX} {pos apos : Pos} {o : Expr} {mo : ME}
theorem mb_lower {g : Gd} : Mb0 g (fun x xs H Q => ∃ a, x = .str a ∧ xs = [] ∧ a.length ≤ 5592405 ∧ Q (.str (Txt.lower a)) H) lowerD := by
  intro W H F c cs l Q I po
  unfold lowerD at po
  split at po
  · rename_i h
    refine ⟨_, rfl, rfl, by rw [str_len]; exact h, ?_⟩
    have := PoE.here I (.str _) po
    rw [str_codes] at this
    exact this
  · exact po.elim
theorem xp_lower (ho : Xp X W o mo) (hbase : attributeBase o "lower" X.env (eval o X.env) = eval o X.env := by rfl) (hline : (apos.endLine == pos.line) = true := by rfl) : Xp X W (.Call (.Attribute o "lower" apos) [] [] pos) (eM0 lowerD mo) :=
  xp_m0 F.slot_str_lower F.type_str_lower mt_lower mb_lower ho hbase hline
theorem mb_words {g : Gd} (md : Bool) : Mb0 g (fun x xs H Q => ∃ a, x = .str a ∧ xs = [] ∧ a.length + 2 ≤ sizeLine ∧ rNewStrs (Txt.words a) H Q) (wordsD md) := by
  intro W H F c cs l Q I po
  unfold wordsD at po
  split at po
  · rename_i h
    refine ⟨_, rfl, rfl, by rw [str_len]; exact h, fun p hp => ?_⟩
    have e : (Txt.words ⟨l.toArray⟩).map TL.tl = wordsL l := TL.words_tl _
    have rv := rvs_strs (g := g) (F := F) (c := c) (Txt.words ⟨l.toArray⟩)
    rw [e] at rv
    exact mkL_ok I rv po hp
  · exact po.elim
theorem xp_words (md : Bool) (ho : Xp X W o mo) (hbase : attributeBase o "split" X.env (eval o X.env) = eval o X.env := by rfl) (hline : (apos.endLine == pos.line) = true := by rfl) : Xp X W (.Call (.Attribute o "split" apos) [] [] pos) (eM0 (wordsD md) mo) :=
  xp_m0 F.slot_str_split F.type_str_split mt_words (mb_words md) ho hbase hline
end
end L3

namespace L3
open PySem L2 PySem.Spec PyProof.Rows

/-! ### the start of a def -/
theorem bindL_gv {k : Nat} {kindOf : Str → Option NameKind} : ∀ {bs : List (Str × Value)} {m : Str → Option Value}, (∀ y u, m y = some u → gv k u) → gvs k (bs.map (·.2)) → ∀ y u, bindL kindOf bs m y = some u → gv k u
  | [], _, hm, _, y, u, e => hm y u e
  | (n, v) :: r, m, hm, hb, y, u, e => by
    unfold bindL at e
    refine bindL_gv (fun y u e => ?_) (fun u q => hb u (List.mem_cons_of_mem _ q)) y u e
    split at e
    · have e : (if y = n then some v else m y) = some u := e
      split at e
      · cases e; exact hb _ List.mem_cons_self
      · exact hm _ _ e
    · exact hm _ _ e
theorem bindC_gv {k : Nat} {kindOf : Str → Option NameKind} : ∀ {bs : List (Str × Value)} {m : Str → Option Value}, (∀ y u, m y = some u → gv k u) → gvs k (bs.map (·.2)) → ∀ y u, bindC kindOf bs m y = some u → gv k u
  | [], _, hm, _, y, u, e => hm y u e
  | (n, v) :: r, m, hm, hb, y, u, e => by
    unfold bindC at e
    refine bindC_gv (fun y u e => ?_) (fun u q => hb u (List.mem_cons_of_mem _ q)) y u e
    split at e
    · exact hm _ _ e
    · have e : (if y = n then some v else m y) = some u := e
      split at e
      · cases e; exact hb _ List.mem_cons_self
      · exact hm _ _ e
theorem newEnv_pos {M : Model} {A : Around} {E : Value → Shared → Prop} {s : Shared} {scope : Scope} {globals : Addr} {y : Str} {u : Value} {qual : Str} {func : Option Addr} {code : Value} {builtins : Addr} (hk : scope.kind = .function) (hl : scope.names.lookup y = some .local) :
    wpAny M A (newFunctionEnv scope globals [] [(y, u)] qual func code none builtins) (fun _ s' => 0 < s'.toks) E s := by
  simp only [newFunctionEnv, Option.isSome_none, Bool.false_eq_true, if_false]
  refine wpAny_bind (wpAny_alloc ?_)
  refine wpAny_bind (wpAny_layCells _ (fun name kind cells => by cases hkc : kind == NameKind.cell <;> simp [hkc]) _ _ _ _ ?_)
  refine wpAny_bind ?_
  rw [List.forIn_cons]
  refine wpAny_bind (wpAny_bind (wpAny_storeName_local (m := fun _ => none) hl ((Heap.Ns.new s.heap (.type "frame")).keeps (pushCells_keeps _ _)) (fun h' _ _ => wpAny_pure ?_) (by show (scope.kind == .class || (scope.kind == .module && _)) = false; rw [hk]; rfl)))
  show wpAny M A (forIn [] _ _) _ _ _
  rw [List.forIn_nil]
  exact wpAny_pure (wpAny_pure (Nat.succ_pos _))
/-- the place where tokens are not yet out: the law's own start -/
def One (fd : FuncData) (ps : List Str) : Prop := ∃ y, ps = [y] ∧ fd.scope.kind = .function ∧ fd.scope.names.lookup y = some .local

/-! ### defs that are called where no repr is under way -/
/-- a call's end, with tokens -/
def CRt (outer : List PySem.Env) (P : Program) (w : World) (H : Hp) (s : Shared) (Q : VK) (E : XK) (r : Result) (s' : Shared) : Prop :=
  match r with
  | .ok (.ret u) => ∃ v H', s'.os = s.os ∧ AllBare s'.gens ∧ Un (frs outer) [] H H' s.heap s'.heap ∧ HOk P w H' s'.heap ∧ HpG H' s'.heap s'.toks ∧ RelV s'.toks v u ∧ Q v H'
  | .ok _ => False
  | .error e => L2.CX P w outer H s E e s'
structure FnG (P : Program) (w : World) (K : PySem.W.Frag) (mg : Str → Option Value) (base : Heap) (k : Nat) (f : Addr) (fd : FuncData) (ps : List Str) (sp : Sp) : Prop where
  len : ∀ vs H Q E, sp vs H Q E → vs.length = ps.length
  run : ∀ (A : Around) (outer : List PySem.Env) (s : Shared) (H : Hp) (args : Args) (us : List Value) (vs : List V) (Q : VK) (E : XK), A.guards = some [] → Room k A → Env0 P w K mg base A outer s H → HpG H s.heap s.toks → (0 < s.toks ∨ One fd ps) → BindsTo s fd args (ps.zip us) → Vals s.toks vs us → sp vs H Q E →
    codeAny (model P w) A (.call (.ref f) args) (CRt outer P w H s Q E) s
/-! ### defs with defaults, all arguments given -/
structure FunX (K : PySem.W.Frag) (x qual : Str) (st : Stmt) (f : Addr) (fd : FuncData) : Prop where
  ex : ∃ (oc : Value) (od : Option Addr) (dV kV doc pm : Value) (an : Option Addr) (cdv ct : Value) (osl : Array (Option Value)),
    fd = PySem.W.fnOf x qual (defArgs st) (defBody st) (defScope st) dV kV doc pm an cdv ct ∧ K.lookup f = some ⟨oc, od, .func fd, osl⟩ ∧ PySem.W.codeIn K cdv qual = true
  kp : PySem.W.keepIn K (.ref f) = true
theorem Fun.x {K : PySem.W.Frag} {x qual : Str} {st : Stmt} {f : Addr} {fd : FuncData} (h : Fun K x qual st f fd) : FunX K x qual st f fd :=
  ⟨let ⟨oc, od, kV, doc, pm, an, cdv, ct, osl, a, b, c⟩ := h.ex; ⟨oc, od, .none, kV, doc, pm, an, cdv, ct, osl, a, b, c⟩, h.kp⟩
section
variable {P : Program} {w : World} {K : PySem.W.Frag} {mg : Str → Option Value} {base : Heap} {k : Nat} {f : Addr} {fd : FuncData} {ps : List Str} {sp sp' : Sp}
theorem FnG.imp (F : FnG P w K mg base k f fd ps sp) (h : ∀ vs H Q E, sp' vs H Q E → sp vs H Q E) : FnG P w K mg base k f fd ps sp' :=
  ⟨fun vs H Q E q => F.len vs H Q E (h _ _ _ _ q), fun A outer s H args us vs Q E hg hr e g p b v q => F.run A outer s H args us vs Q E hg hr e g p b v (h _ _ _ _ q)⟩
theorem FnG.mono {j : Nat} (F : FnG P w K mg base j f fd ps sp) (h : j ≤ k) : FnG P w K mg base k f fd ps sp := ⟨F.len, fun A outer s H args us vs Q E hg hr => F.run A outer s H args us vs Q E hg (hr.mono h)⟩

theorem fnG_ofX {x qual : Str} {st : Stmt} {N : List Str} (Fn : FunX K x qual st f fd) (S : FnScope N ps (defScope st)) (len : ∀ vs H Q E, sp vs H Q E → vs.length = ps.length)
    (hbody : ∀ (cdv : Value) (A : Around) (outer : List PySem.Env) (s : Shared) (H : Hp) (vs : List V) (Q : VK) (E : XK), A.guards = some [] → Room k (A.deeper (envOfC qual (defScope st) s.heap.objs.size f cdv)) → sp vs H Q E →
      ∃ t, PSs (cxOf (L2.CX P w) P w K mg base N qual (defScope st) f cdv A outer s H E) (defBody st) t ∧ t { nx := fun _ H' => Q .non H', rt := Q } (start N vs) H) : FnG P w K mg base (k + 1) f fd ps sp := by
  obtain ⟨oc, od, dV, kV, doc, pm, an, cdv, ct, osl, rfl, lk, hcd⟩ := Fn.ex
  constructor
  · exact len
  intro A outer s H args us vs Q E hG hr e0 hgs hpos hb rv hsp
  have hl := len _ _ _ _ hsp
  have KX : K.In s.heap := e0.mod.kin.keeps fun b o e => (e0.bs b o e).1
  have lim : s.heap.NoLimit := e0.mod.nolimit.keeps fun b o e => (e0.bs b o e).1
  have kinds : ∀ y ∈ ps.zip us, (defScope st).names.lookup y.1 = some .local ∨ ((defScope st).names.lookup y.1 = some .cell ∧ ((cellsFrom (s.heap.objs.size + 1) (defScope st).names []).lookup y.1).isSome = true) := by
    rintro ⟨n, v⟩ hy
    rcases S.par n (List.of_mem_zip hy).1 with q | q
    · exact .inl q
    · exact .inr ⟨q, PySem.W.cellsFrom_some _ _ _ (.inl q)⟩
  refine codeAny_call_function hr.depth (KX _ _ lk) rfl S.co S.gen rfl (PySem.W.codeRec_of KX hcd) (hb _ _ _ _ ?_)
  refine wpAny_mono (wpAny_and (Q' := fun _ s' => 0 < s.toks ∨ 0 < s'.toks) (E' := fun _ _ => True) (PySem.wpAny_toks (wpAny_newFunctionEnv_cells (Q := fun env s' => env = envOfC qual (defScope st) s.heap.objs.size f cdv ∧ InCallC s env.locals (bindL env.kindOf (ps.zip us) fun _ => none) env.cells (bindC env.kindOf (ps.zip us) fun _ => none) s') S.kind kinds fun env he s' x => ⟨he, x⟩)) ?_) (fun env s1 z => ?_) fun e s' z => z.1.2
  · rcases hpos with p | ⟨y, rfl, h1, h2⟩
    · exact wpAny_mono (wpAny_newFunctionEnv_cells S.kind kinds fun env he s' x => trivial) (fun _ _ _ => .inl p) fun _ _ z => z
    · have hu : us.length = 1 := by rw [← rv.length, hl]; rfl
      obtain ⟨u, rfl⟩ : ∃ u, us = [u] := by
        cases us with
        | nil => cases hu
        | cons u r => cases r with
          | nil => exact ⟨u, rfl⟩
          | cons _ _ => simp at hu
      exact wpAny_mono (newEnv_pos h1 h2) (fun _ _ z => .inr z) fun _ _ z => z
  obtain ⟨⟨hk1, he, x⟩, hp⟩ := z
  subst he
  refine ⟨lim.keeps x.toInCall.keep, codeAny_func ?_⟩
  obtain ⟨t, ht, hq⟩ := hbody cdv A outer s H vs Q E hG (hr.deeper _) hsp
  have I0 : L2.Inv (cxOf (L2.CX P w) P w K mg base N qual (defScope st) f cdv A outer s H E) [] (start N vs) H s1 := inv_start S hr.hd e0 hl rv.1 x
  have gz : gvs s1.toks ((ps.zip us).map (·.2)) := fun u m => by
    obtain ⟨p, hp, rfl⟩ := List.mem_map.mp m
    exact (rv.2 _ (List.of_mem_zip hp).2).mono hk1
  have I : Inv (cxOf (L2.CX P w) P w K mg base N qual (defScope st) f cdv A outer s H E) [] (start N vs) H s1 := by
    refine ⟨I0, ⟨fun m n y u e => ?_, fun y c u hc n => ?_⟩, fun a o e => ?_, hp.elim (fun p => Nat.lt_of_lt_of_le p hk1) fun p => p⟩
    · have z := ns_inj n x.toInCall.ns
      subst z
      exact bindL_gv (fun _ _ z => by cases z) gz y u e
    · have z := cell_inj n (x.cell y c hc)
      exact bindC_gv (kindOf := (envOfC qual (defScope st) s.heap.objs.size f cdv).kindOf) (bs := ps.zip us) (m := fun _ => none) (fun _ _ z => by cases z) gz y u z.symm
    · obtain ⟨ob, z⟩ := trAt0 e0.hok e
      exact (hgs a o e).keep hk1 z (x.toInCall.keep _ _ z) rfl
  refine wpAny_mono (ht.run [] s1 (start N vs) H _ I hq) (fun fl s' r => ?_) fun e s' r => r
  cases fl with
  | ret u => obtain ⟨v, z, G, J, r', q⟩ := r; exact ⟨v, G, J.i.os, J.i.bare, J.i.base, J.hok, J.g, r', q⟩
  | next => obtain ⟨z, G, J, q⟩ := r; exact ⟨.non, G, J.i.os, J.i.bare, J.i.base, J.hok, J.g, .non, q⟩
  | brk => obtain ⟨_, _, _, q⟩ := r; exact q.elim
  | cont => obtain ⟨_, _, _, q⟩ := r; exact q.elim
theorem fnG_of {x qual : Str} {st : Stmt} {N : List Str} (Fn : Fun K x qual st f fd) (S : FnScope N ps (defScope st)) (len : ∀ vs H Q E, sp vs H Q E → vs.length = ps.length)
    (hbody : ∀ (cdv : Value) (A : Around) (outer : List PySem.Env) (s : Shared) (H : Hp) (vs : List V) (Q : VK) (E : XK), A.guards = some [] → Room k (A.deeper (envOfC qual (defScope st) s.heap.objs.size f cdv)) → sp vs H Q E →
      ∃ t, PSs (cxOf (L2.CX P w) P w K mg base N qual (defScope st) f cdv A outer s H E) (defBody st) t ∧ t { nx := fun _ H' => Q .non H', rt := Q } (start N vs) H) : FnG P w K mg base (k + 1) f fd ps sp := fnG_ofX (L3.Fun.x Fn) S len hbody
end
section
variable {X : Cx} {k : Nat} {f : Addr} {fd : FuncData} {ps : List Str} {sp : Sp} {E : L2.St → XK} {x : Str} {p pos : Pos} {e : Expr} {es : List Expr} {t : TA}
theorem run_fnG {pins : List (Addr × Obj)} {σ : L2.St} {H : Hp} {s : Shared} {Q : VK} {us : List Value} {vs : List V} (F : FnG X.prog X.w X.K X.mg X.base k f fd ps sp) (hG : X.A.guards = some []) (hr : Room k X.A) (hb : Binds X.K fd ps []) (hx : PassesAt (L2.CX X.prog X.w) X σ (E σ))
    (I : Inv X pins σ H s) (r : Vals s.toks vs us) (h : sp vs H Q (E σ)) : wpAny (model X.prog X.w) X.A (call (.ref f) us) (EP X pins σ Q) X.xe s := by
  have hl : us.length = ps.length := by rw [← r.length]; exact F.len _ _ _ _ h
  have b := hb s us I.kIn (by rw [List.append_nil]; exact hl)
  rw [List.append_nil] at b
  refine wpAny_mono (PySem.wpAny_toks (Q := fun u s' => CRt X.stack X.prog X.w H s Q (E σ) (.ok (.ret u)) s') (E := X.xe) (wpAny_call (codeAny_mono (F.run X.A X.stack s H ⟨us, []⟩ us vs Q (E σ) hG hr I.i.env0 I.g (.inl I.p) b r h) fun q s' z => ?_))) (fun u s' z => ?_) fun _ _ z => z.2
  rotate_left
  · obtain ⟨hk, v, H', os, bare, un, hok, hg, r', q⟩ := z
    exact ⟨v, H', I.call (ch := []) os un hok bare hg hk (fun b z => absurd z (by simp)), r', q⟩
  · cases q with
    | error e => exact hx pins H s e s' I.i z
    | ok fl =>
      cases fl with
      | ret u => exact z
      | next => exact z.elim
      | brk => exact z.elim
      | cont => exact z.elim
theorem pe_callG (F : FnG X.prog X.w X.K X.mg X.base k f fd ps sp) (hG : X.A.guards = some []) (hr : Room k X.A) (hg : Gl X x) (hm : X.mg x = some (.ref f)) (hk : PySem.W.keepIn X.K (.ref f) = true) (hb : Binds X.K fd ps []) (hx : ∀ σ, PassesAt (L2.CX X.prog X.w) X σ (E σ))
    (ha : PA X (e :: es) t) (hdb : (x == ("__debug__" : Str)) = false := by decide) (he : starEach (e :: es) X.env = (false, eval e X.env) :: starEach es X.env := by rfl) (hpl : (backTo pos (starEach es X.env)).any (·.1) = false := by rfl) :
    PE X (.Call (.Name x p) (e :: es) [] pos) (tCallS sp E t) := by
  constructor
  intro pins s σ H Q I h
  refine wpAny_Call_Name_kw (ld_glob I hg hm ?_ hdb)
  refine PySem.W.callWith_K (h₀ := X.base) I.ok.mod.kin hk (thn (ha.run pos pins s σ H _ I h) fun us s1 z => ?_) he hpl
  obtain ⟨vs, H1, I1, r, q⟩ := z
  exact ⟨I1.kIn, run_fnG F hG hr hb (hx σ) I1 r q⟩
end
/-! ### the law itself is called -/
theorem law_callG {P : Program} {w : World} {K : PySem.W.Frag} {mg mb : Str → Option Value} {k : Nat} {fa a : Addr} {fd : FuncData} {x : Str} {sp : Sp} {s₁ : Shared} {vs : List Value} {ns : List Int}
    (KX : K.In s₁.heap) (hns : s₁.heap.Ns mainGlobals mg) (hb : s₁.heap.Ns builtinsNs mb) (hbb : ∀ x : Str, x ≠ "__name__" → mb x = bootBuiltins x) (hlim : s₁.heap.NoLimit) (hg : s₁.gens = #[])
    (ha : s₁.heap.get? a = some { cls := .type "list", data := .seq vs.toArray }) (hi : IntsAre vs ns) (hl : ns.length ≤ sizeLine) (hr : Room k callerA)
    (hsm : ∃ mm, s₁.heap.Ns sysModules mm) (F : ∀ base : Heap, K.In base → base.Ns mainGlobals mg → (∃ mm, base.Ns sysModules mm) → FnG P w K mg base k fa fd [x] sp) (hone : One fd [x]) (hbind : ∀ (s : Shared) (u : Value), BindsTo s fd ⟨[u], []⟩ [(x, u)])
    (hsp : ∀ H : Hp, L2.SqL K H a (ns.map V.int) → sp [.ref a] H (fun v _ => v = .bl true) fun _ _ _ => False) :
    codeAny (model P w) callerA (.call (.ref fa) ⟨[.ref a], []⟩) (fun r s' => r = .ok (.ret (.bool true)) ∧ OldK s₁.heap s'.heap ∧ s'.os = s₁.os ∧ AllBare s'.gens) s₁ := by
  have rv := vals_ints hi
  have lenV := hi.length
  have hpg : ∀ H : Hp, (∀ b, H b = none ∨ ∃ ob xs, H b = some (.frz ob (.lst xs))) → HOk P w H s₁.heap → (∀ b, H b ≠ none → b = a) → HpG H s₁.heap s₁.toks := fun H hO hok only b o e => by
    rcases hO b with z | ⟨ob, xs, z⟩
    · rw [z] at e; cases e
    · have eb : b = a := only b (by rw [z]; simp)
      subst eb
      rw [z] at e; cases e
      intro o its n e1 d
      rw [ha] at e1; cases e1
      cases d
      have : gvs s₁.toks vs := gvs_of rv fun x m y q => by
        obtain ⟨i, _, rfl⟩ := List.mem_map.mp m
        cases q
      simpa using this
  have core : ∀ H : Hp, (∀ b, H b = none ∨ ∃ ob xs, H b = some (.frz ob (.lst xs))) → L2.SqL K H a (ns.map V.int) → HOk P w H s₁.heap → (∀ b, H b ≠ none → b = a) → (H a ≠ none → K.lookup a = none) →
      codeAny (model P w) callerA (.call (.ref fa) ⟨[.ref a], []⟩) (fun r s' => r = .ok (.ret (.bool true)) ∧ OldK s₁.heap s'.heap ∧ s'.os = s₁.os ∧ AllBare s'.gens) s₁ := by
    intro H hO hS hok only noK
    have aside : ∀ {b : Addr} {o : Obj}, s₁.heap.get? b = some o → (b = a → o ≠ { cls := .type "list", data := .seq vs.toArray } ∨ H b = none) → H b = none := fun {b o} e h => by
      cases q : H b with
      | none => rfl
      | some u =>
        have eb : b = a := only b (by rw [q]; simp)
        rcases h eb with z | z
        · subst eb; rw [ha] at e; cases e; exact absurd rfl z
        · rw [q] at z; cases z
    have spc : ∀ {b : Addr} {m : Str → Option Value}, s₁.heap.Ns b m → (hidT s₁.heap H).Ns b m := fun {b m} ⟨o, es, ep, e, d, r⟩ =>
      ⟨o, es, ep, hidT_get e (aside e fun _ => .inl fun z => by rw [z] at d; cases d), d, r⟩
    have kin : K.In (hidT s₁.heap H) := fun b o e => hidT_get (KX b o e) (aside (KX b o e) fun eb => .inr (by
      cases q : H b with
      | none => rfl
      | some u => subst eb; rw [noK (by rw [q]; simp)] at e; cases e))
    have md : Mod K mg (hidT s₁.heap H) := ⟨kin, spc hns, ⟨mb, spc hb, hbb⟩, let ⟨mc, h1, h2⟩ := hlim; ⟨mc, spc h1, h2⟩⟩
    have e0 : Env0 P w K mg (hidT s₁.heap H) callerA [] s₁ H := ⟨rfl, md, fun b o e => of_hidT e, Nat.le_of_eq (hidT_size _ _), trivial, fun b z => (by cases z), hok, .of_eq hg⟩
    refine codeAny_mono ((F _ kin (spc hns) (let ⟨mm, h1⟩ := hsm; ⟨mm, spc h1⟩)).run callerA [] s₁ H ⟨[.ref a], []⟩ [.ref a] [.ref a] _ _ rfl hr e0 (hpg H hO hok only) (.inr hone) (hbind s₁ (.ref a)) (.cons .ref .nil) (hsp H hS)) fun r s' h => ?_
    cases r with
    | error e => obtain ⟨_, _, _, _, _, _, _, _, _, _, _, _, z⟩ := h; exact z.elim
    | ok fl =>
      cases fl with
      | next => exact h.elim
      | brk => exact h.elim
      | cont => exact h.elim
      | ret u =>
        obtain ⟨v, H', os, bare, un, hok', _, r', q⟩ := h
        cases (show v = .bl true from q)
        cases (show u = Value.bool true from r'.1)
        refine ⟨rfl, OldK.of_keep fun b o e => ?_, os, bare⟩
        rcases hO b with z | ⟨ob, xs, z⟩
        · exact un.keep b o e z (fun m => by cases m) (fun m => by cases m)
        · obtain ⟨e1, _⟩ := hok b _ z
          obtain ⟨e2, _⟩ := hok' b _ (un.frzs b ob _ z)
          rw [e] at e1; cases e1
          exact e2
  cases hk : K.lookup a with
  | some o =>
    have e := KX a o hk
    rw [ha] at e
    cases e
    exact core (fun _ => none) (fun _ => .inl rfl) (.inr ⟨_, vs.toArray, _, hk, rfl, rfl, rfl, by rw [List.size_toArray, lenV]; exact hl, by simpa using rv⟩) (fun b u z => by cases z) (fun b z => absurd rfl z) fun z => absurd rfl z
  | none =>
    refine core (L2.upd (fun _ => none) a (.frz { cls := .type "list", data := .seq vs.toArray } (.lst (ns.map V.int)))) (fun b => ?_) (.inl (.inr ⟨_, upd_same⟩)) (fun b u z => ?_) (fun b z => ?_) fun _ => hk
    · by_cases e : b = a
      · subst e; exact .inr ⟨_, _, upd_same⟩
      · exact .inl (upd_ne e)
    · by_cases e : b = a
      · subst e
        rw [upd_same] at z
        cases z
        exact ⟨ha, by rw [List.length_map]; exact hl, vs, _, rv, ha⟩
      · rw [upd_ne e] at z; cases z
    · by_cases e : b = a
      · exact e
      · exact absurd (upd_ne e) z
theorem law_walkG {l : PySem.W.OpenLaw} {n : Nat} {q : Program} {loose : List Str} {XP : (Str → Option Value) → Heap → Prop} {YP : World → Heap → Prop} {d : DefRec} {K : Params → PySem.W.Frag} {k : Nat} {x : Str} {sp : World → Sp} (hn : l.most = some n) (hn2 : n ≤ sizeLine) (hdf : d.params.defaults = []) (hr : Room k callerA) (hq : importsNone q = true)
    (hY : ∀ (w : World) (h : Heap), YP w h → (K w.params).In h)
    (F : ∀ (w : World) (mg : Str → Option Value) (fa : Addr) (h : Heap), (K w.params).In h → h.Ns mainGlobals mg → mg d.name = some (.ref fa) →
      ∃ fd : FuncData, (∀ (s : Shared) (u : Value), BindsTo s fd ⟨[u], []⟩ [(x, u)]) ∧ One fd [x] ∧ ∀ base : Heap, (K w.params).In base → base.Ns mainGlobals mg → (∃ mm, base.Ns sysModules mm) → FnG l.prog w (K w.params) mg base k fa fd [x] (sp w))
    (hsp : ∀ (w : World) (H : Hp) (a : Addr) (ns : List Int), ns.length ≤ n → (∀ z ∈ ns, Builtin.Int.intBits z ≤ 1048576) → L2.SqL (K w.params) H a (ns.map V.int) → sp w [.ref a] H (fun v _ => v = .bl true) fun _ _ _ => False) :
    PySem.W.WalkO q loose XP YP l.row.toRowW d [] (fun f vs => PySem.call f vs) := by
  refine Att.attach_callB hn hdf fun w s₀ s₁ mg mb fa o pm cd doc a vs ns G Y ho hd hcd hmg hobj hints hlen hbits hg => ?_
  have KX := hY w _ Y
  obtain ⟨fd, hb, h1, hF⟩ := F w mg fa _ KX G.T.g hmg
  have sm : ∃ mm, s₁.heap.Ns sysModules mm := let ⟨mm, h1, _⟩ := (G.T.seer hq).mods; ⟨mm, h1⟩
  exact law_callG KX G.T.g G.T.b G.T.builtins G.T.nolimit hg hobj hints (Nat.le_trans hlen hn2) hr sm hF h1 hb (fun H hS => hsp w H a ns hlen hbits hS)
end L3

namespace L3
open PySem L2 PySem.Spec PyProof.Rows

/-- where sys.modules stands is known to the base -/
def NoS (X : Cx) : Prop := ∃ mm, X.base.Ns sysModules mm
theorem NoS.free {X : Cx} {pins : List (Addr × Obj)} {σ : L2.St} {H : Hp} {s : Shared} (h : NoS X) (I : Inv X pins σ H s) : H sysModules = none := by
  obtain ⟨mm, o, es, ep, e, _⟩ := h
  exact (I.i.bs _ _ e).2
section
variable {P : Program} {w : World} {H F : Hp} {h : Heap} {g : Gd} {c : List Addr} {cs : Cells}
theorem ns_mem {a : Addr} {as : List Addr} {o : HO} (ns : H sysModules = none) (e : H a = some o) (n : sysModules ∉ as) : sysModules ∉ a :: as := fun m => by
  rcases List.mem_cons.mp m with z | m
  · rw [← z, ns] at e; cases e
  · exact n m
mutual
theorem RV.reads (ok : HOk P w H h) (hs : ∀ a o, F a = some o → H a = some o) (ns : H sysModules = none) (kin : g.K.In h) : ∀ {v : V} {d : D} {p : PyData} {u : Value}, RV g F c v d → py0 d = some p → L2.RelV v u → ∃ as, Reads h u p as ∧ sysModules ∉ as
  | _, _, _, _, .non, e, r => by
    simp only [py0, Option.some.injEq] at e; subst e; cases r
    exact ⟨_, .none, by simp⟩
  | _, _, _, _, .bl b, e, r => by
    simp only [py0, Option.some.injEq] at e; subst e; cases r
    exact ⟨_, .bool b, by simp⟩
  | _, _, _, _, .int i, e, r => by
    simp only [py0, Option.some.injEq] at e; subst e; obtain ⟨t, rfl⟩ := r
    exact ⟨_, .int i t, by simp⟩
  | _, _, _, _, .str l, e, r => by
    simp only [py0, Option.some.injEq] at e; subst e; obtain ⟨t, rfl⟩ := r
    exact ⟨_, .str _ t, by simp⟩
  | _, _, _, _, .lst h1 h2, e, r => by
    simp only [py0, Option.map_eq_some_iff] at e
    obtain ⟨q, e, rfl⟩ := e
    cases r
    have hH := hs _ _ h1
    obtain ⟨z, its, n, rv, ho⟩ := (show ObjOk P w H h _ (.lst _) from ok _ _ hH)
    obtain ⟨as, ra, na⟩ := RVs.reads ok hs ns kin h2 e rv
    exact ⟨_, .list ho rfl rfl ra, ns_mem ns hH na⟩
  | _, _, _, _, .tup h1 h2, e, r => by
    simp only [py0, Option.map_eq_some_iff] at e
    obtain ⟨q, e, rfl⟩ := e
    cases r
    rcases (SqT.up hs h1).l2 with hH | ⟨o, its, n, hk, hc, hd, _, rv⟩
    · obtain ⟨z, its, rv, o, ho, hc, n, hd⟩ := (show ObjOk P w H h _ (.tup _) from hH.ok ok)
      obtain ⟨as, ra, na⟩ := RVs.reads ok hs ns kin h2 e rv
      exact ⟨_, .tuple ho hc hd ra, na⟩
    · obtain ⟨as, ra, na⟩ := RVs.reads ok hs ns kin h2 e rv
      exact ⟨_, .tuple (kin _ _ hk) hc (by simpa using hd) ra, na⟩
  | _, _, _, _, .dct (a := a) (kvs := kvs) h1 h2, e, r => by
    simp only [py0, Option.map_eq_some_iff] at e
    obtain ⟨q, e, rfl⟩ := e
    cases r
    have hH : Rd H a (.dK kvs) := by
      rcases h1 with h1 | ⟨o, h1⟩
      · exact .inl (hs _ _ h1)
      · exact .inr ⟨o, hs _ _ h1⟩
    obtain ⟨_, hd, vs, kv, o, es, ep, ho, ex, dt, _, pr, _⟩ := dk_rd ok hH
    obtain ⟨as, bs, ra, rb, na, nb⟩ := RKs.reads ok hs ns kin h2 e kv pr
    refine ⟨_, .dict ho ex.1 dt ra rb, fun m => ?_⟩
    rcases List.mem_append.mp m with m | m
    · rcases List.mem_cons.mp m with z | m
      · rw [← z] at hd; simp at hd
      · exact na m
    · exact nb m
  | _, _, _, _, .scr _, e, _ => by simp [py0] at e
  | _, _, _, _, .obj _ _ _, e, _ => by simp [py0] at e
  | _, _, _, _, .loc _, e, _ => by simp [py0] at e
theorem RVs.reads (ok : HOk P w H h) (hs : ∀ a o, F a = some o → H a = some o) (ns : H sysModules = none) (kin : g.K.In h) : ∀ {v : List V} {d : List D} {p : List PyData} {u : List Value}, RVs g F c v d → py0s d = some p → L2.Vals v u → ∃ as, ReadsAll h u p as ∧ sysModules ∉ as
  | _, _, _, _, .nil, e, r => by
    simp only [py0s, Option.some.injEq] at e; subst e; cases r
    exact ⟨_, .nil, by simp⟩
  | _, _, _, _, .cons a b, e, r => by
    simp only [py0s] at e
    split at e
    · rename_i e1 e2
      simp only [Option.some.injEq] at e
      subst e
      cases r with
      | cons r1 r2 =>
        obtain ⟨as, q1, n1⟩ := RV.reads ok hs ns kin a e1 r1
        obtain ⟨bs, q2, n2⟩ := RVs.reads ok hs ns kin b e2 r2
        exact ⟨_, .cons q1 q2, by simp [n1, n2]⟩
    · cases e
theorem RKs.reads (ok : HOk P w H h) (hs : ∀ a o, F a = some o → H a = some o) (ns : H sysModules = none) (kin : g.K.In h) : ∀ {v : List (Key × V)} {d : List (Kd × D)} {p : List (PyData × PyData)} {vs : List (Key × Value)} {es : List DictEntry}, RKs g F c v d → py0k d = some p → KV v vs → Pairs (mixKind P w) es vs →
    ∃ as bs, ReadsAll h (es.map (·.key)) (p.map (·.1)) as ∧ ReadsAll h (es.map (·.val)) (p.map (·.2)) bs ∧ sysModules ∉ as ∧ sysModules ∉ bs
  | _, _, _, _, _, .nil, e, r, q => by
    simp only [py0k, Option.some.injEq] at e; subst e; cases r; cases q
    exact ⟨_, _, .nil, .nil, by simp, by simp⟩
  | _, _, _, _, _, .cons (k := k) a b, e, r, q => by
    simp only [py0k] at e
    split at e
    · rename_i e1 e2
      simp only [Option.some.injEq] at e
      subst e
      cases r with
      | cons r1 r2 =>
        cases q with
        | @cons en _ _ _ q1 q2 q3 =>
          obtain ⟨k1, r1⟩ := r1
          rw [← q2] at r1
          rw [← k1] at q1
          obtain ⟨as, p1, n1⟩ := RV.reads ok hs ns kin a e1 r1
          obtain ⟨bs, ds, p2, p3, n2, n3⟩ := RKs.reads ok hs ns kin b e2 r2 q3
          have hk : ∃ ts, Reads h en.key (match k with | .inl i => PyData.int i | .inr l => PyData.str ⟨l.toArray⟩) ts ∧ sysModules ∉ ts := by
            rcases keyIs_shape q1 with ⟨i, t, z, zk⟩ | ⟨x, t, z, zk⟩
            · cases k with
              | inl j =>
                cases (show (Sum.inl j : Key) = Sum.inl i from z)
                rw [zk]
                exact ⟨[], .int _ t, by simp⟩
              | inr l => cases (show (Sum.inr _ : Key) = Sum.inl i from z)
            · cases k with
              | inl j => cases (show (Sum.inl j : Key) = Sum.inr x from z)
              | inr l =>
                cases (show (Sum.inr ⟨l.toArray⟩ : Key) = Sum.inr x from z)
                rw [zk]
                exact ⟨[], .str _ t, by simp⟩
          obtain ⟨ts, p4, n4⟩ := hk
          exact ⟨_, _, .cons p4 p2, .cons p1 p3, by simp [n4, n2], by simp [n1, n3]⟩
    · cases e
end
end
/-- .. of what may be a cell -/
theorem pyOf_reads {P : Program} {w : World} {H F : Hp} {h : Heap} {g : Gd} {c : List Addr} {cs : Cells} (ok : HOk P w H h) (kin : g.K.In h) (I : Ih g H F c cs) (ns : H sysModules = none) {v : V} {d : D} {p : PyData} {u : Value} (r : RV g F c v d) (e : pyOf cs d = some p) (rv : L2.RelV v u) : ∃ as, Reads h u p as ∧ sysModules ∉ as := by
  cases r with
  | @loc n a ha =>
    simp only [pyOf] at e
    obtain ⟨x, hx⟩ := I.there ha
    have q := I.cell n a x ha hx
    rw [hx] at e
    cases rv
    cases x with
    | lst l =>
      simp only [Option.map_eq_some_iff] at e
      obtain ⟨y, e, rfl⟩ := e
      obtain ⟨_, vs, h1, h2⟩ := q
      obtain ⟨z, its, n, rv, ho⟩ := (show ObjOk P w H h _ (.lst _) from ok _ _ h1)
      obtain ⟨as, ra, na⟩ := RVs.reads ok I.sub ns kin h2 e rv
      exact ⟨_, .list ho rfl rfl ra, ns_mem ns h1 na⟩
    | dct l =>
      simp only [Option.map_eq_some_iff] at e
      obtain ⟨y, e, rfl⟩ := e
      obtain ⟨_, vs, h1, h2⟩ := q
      obtain ⟨_, hd, vs, kv, o, es, ep, ho, ex, dt, _, pr, _⟩ := dk_rd ok (.inl h1)
      obtain ⟨as, bs, ra, rb, na, nb⟩ := RKs.reads ok I.sub ns kin h2 e kv pr
      refine ⟨_, .dict ho ex.1 dt ra rb, fun m => ?_⟩
      rcases List.mem_append.mp m with m | m
      · rcases List.mem_cons.mp m with z | m
        · rw [← z] at hd; simp at hd
        · exact na m
      · exact nb m
    | fz d => exact RV.reads ok I.sub ns kin q.1 e rfl
    | set l => cases e
    | ins n l => cases e
  | non => exact RV.reads (g := g) (c := c) ok I.sub ns kin .non e rv
  | bl b => exact RV.reads (g := g) (c := c) ok I.sub ns kin (.bl b) e rv
  | int i => exact RV.reads (g := g) (c := c) ok I.sub ns kin (.int i) e rv
  | str l => exact RV.reads (g := g) (c := c) ok I.sub ns kin (.str l) e rv
  | lst a b => exact RV.reads ok I.sub ns kin (.lst a b) e rv
  | tup a b => exact RV.reads ok I.sub ns kin (.tup a b) e rv
  | dct a b => exact RV.reads ok I.sub ns kin (.dct a b) e rv
  | scr a => exact RV.reads (g := g) (c := c) ok I.sub ns kin (.scr a) e rv
  | obj a b e' => exact RV.reads ok I.sub ns kin (.obj a b e') e rv
end L3
namespace L3
open PySem L2 PySem.Spec PyProof.Rows
/-! ### repr of any data -/
def rRepD (P : Program) (w : World) (K : PySem.W.Frag) : List V → Hp → VK → Prop := fun xs H Q => ∃ (a : Addr) (d : PyData), xs = [.ref a] ∧ (∀ h, HOk P w H h → K.In h → ∃ as, Reads h (.ref a) d as ∧ sysModules ∉ as) ∧ d.showable = true ∧ d.depth ≤ 60 ∧ d.shown.length ≤ sizeLine ∧ Q (.str d.shown) H
theorem call_repD {X : Cx} (hG : X.A.guards = some []) (hu : X.A.units + 64 < cLine) : CallRw X (.builtin "repr") (rRepD X.prog X.w X.K) := by
  rintro pins s σ H xs us Q I ⟨r, _⟩ ⟨a, d, rfl, rd, sh, dp, sz, q⟩
  obtain ⟨u, rfl, ru⟩ := vals1 r
  cases ru
  obtain ⟨as, r, n⟩ := rd _ I.hok I.kIn
  refine thk (repr_of_reads' (Q := fun w s' => ∃ h' u tk, w = .str d.shown u ∧ s' = { s with heap := h', toks := tk } ∧ ∀ b o, s.heap.get? b = some o → h'.get? b = some o) r sh (fun _ => n) hG (by omega) (fun _ _ e => e) (fun h' u tk k => ⟨h', u, tk, rfl, rfl, k⟩) sz) fun w s' hk z => ?_
  obtain ⟨h', u, tk, rfl, rfl, k⟩ := z
  exact ⟨.str d.shown, H, I.kept k hk, ⟨_, rfl⟩, q⟩
/-- repr of a flat value or of data -/
def reprBD (cs : Cells) : List D → R
  | [d] => match reprC d with
    | some l => .ok (.str l) cs
    | none => match pyOf cs d with
      | some p => if p.showable = true ∧ p.depth ≤ 60 ∧ p.shown.length ≤ sizeLine then .ok (.str (codes p.shown)) cs else .stuck
      | none => .stuck
  | _ => .stuck
theorem pyOf_ref {g : Gd} {F : Hp} {c : List Addr} {cs : Cells} {v : V} {d : D} {p : PyData} (r : RV g F c v d) (h : reprC d = none) (e : pyOf cs d = some p) (sh : p.showable = true ∧ p.shown.length ≤ sizeLine) : ∃ a, v = .ref a := by
  cases r with
  | non => cases h
  | bl b => cases h
  | int i =>
    simp only [reprC] at h
    split at h
    · cases h
    · rename_i q
      simp only [pyOf, py0, Option.some.injEq] at e
      subst e
      exact absurd (by simpa [PyData.showable] using sh.1) q
  | str l =>
    simp only [reprC] at h
    split at h
    · cases h
    · rename_i q
      simp only [pyOf, py0, Option.some.injEq] at e
      subst e
      exact absurd sh.2 q
  | lst _ _ => exact ⟨_, rfl⟩
  | tup _ _ => exact ⟨_, rfl⟩
  | dct _ _ => exact ⟨_, rfl⟩
  | scr _ => exact ⟨_, rfl⟩
  | obj _ _ _ => exact ⟨_, rfl⟩
  | loc _ => exact ⟨_, rfl⟩
end L3
namespace L3
open PySem L2 PySem.Spec PyProof.Rows
theorem bo_repr' : bootBuiltins "repr" = some (.builtin "repr") := by decide +kernel
def rRepX (P : Program) (w : World) (K : PySem.W.Frag) : List V → Hp → VK → Prop := fun xs H Q => H sysModules = none → (rRepV xs H Q ∨ rRepD P w K xs H Q)
theorem call_repX {X : Cx} (hG : X.A.guards = some []) (hu : X.A.units + 64 < cLine) (hN : NoS X) : CallRw X (.builtin "repr") (rRepX X.prog X.w X.K) := by
  intro pins s σ H xs us Q I r h
  rcases h (hN.free I) with h | h
  · exact call_repV.w pins s σ H xs us Q I r h
  · exact call_repD hG hu pins s σ H xs us Q I r h
theorem cb_reprX {g : Gd} : Cb g (rRepX g.P g.w g.K) reprBD := by
  intro W H F c cs vs ds Q I rv po hns
  unfold reprBD at po
  split at po
  · rename_i d
    cases hl : reprC d with
    | some l =>
      refine .inl (cb_repr W H F c cs vs [d] Q I rv ?_)
      unfold reprB
      rw [hl] at po
      simp only [hl]
      exact po
    | none =>
      rw [hl] at po
      dsimp only at po
      split at po
      · rename_i p hp
        split at po
        · rename_i hc
          obtain ⟨h1, h2, h3⟩ := hc
          cases rv with
          | cons r1 r2 =>
            cases r2
            obtain ⟨a, rfl⟩ := pyOf_ref r1 hl hp ⟨h1, h3⟩
            refine .inr ⟨a, p, rfl, fun h ok kin => pyOf_reads ok kin I hns r1 hp rfl, h1, h2, h3, ?_⟩
            have := PoE.here I (.str (codes p.shown)) po
            rwa [str_codes] at this
        · exact po.elim
      · exact po.elim
  · exact po.elim
section
variable {X : Cx} {W : WX} {pos p : Pos} {e : Expr} {ms : MA}
theorem xp_reprX {k : Nat} (hG : X.A.guards = some []) (hr : Room k X.A) (hN : NoS X) (hg : Gl X "repr") (hm : X.mg "repr" = none) (ha : Xa X W [e] ms)
    (he : starEach [e] X.env = (false, eval e X.env) :: starEach [] X.env := by rfl) : XpW X W (.Call (.Name "repr" p) [e] [] pos) (eBi reprBD ms) :=
  xp_biW (call_repX hG hr.units hN) cb_reprX hg hm bo_repr' ha (he := he)
end
end L3

namespace L3
open PySem L2

end L3
namespace L3
open PySem L2
theorem bo_len : bootBuiltins "len" = some (.builtin "len") := by decide +kernel
theorem bo_max : bootBuiltins "max" = some (.builtin "max") := by decide +kernel
theorem bo_min : bootBuiltins "min" = some (.builtin "min") := by decide +kernel
theorem bo_all : bootBuiltins "all" = some (.builtin "all") := by decide +kernel
theorem bo_any : bootBuiltins "any" = some (.builtin "any") := by decide +kernel
theorem bo_sum : bootBuiltins "sum" = some (.builtin "sum") := by decide +kernel
theorem bo_sorted : bootBuiltins "sorted" = some (.builtin "sorted") := by decide +kernel
theorem bo_repr : bootBuiltins "repr" = some (.builtin "repr") := by decide +kernel
theorem bo_isinstance : bootBuiltins "isinstance" = some (.builtin "isinstance") := by decide +kernel
theorem bo_str : bootBuiltins "str" = some (.type "str") := by decide +kernel
theorem bo_int : bootBuiltins "int" = some (.type "int") := by decide +kernel
theorem bo_bool : bootBuiltins "bool" = some (.type "bool") := by decide +kernel
theorem bo_list : bootBuiltins "list" = some (.type "list") := by decide +kernel
theorem bo_tuple : bootBuiltins "tuple" = some (.type "tuple") := by decide +kernel
theorem bo_dict : bootBuiltins "dict" = some (.type "dict") := by decide +kernel
theorem bo_set : bootBuiltins "set" = some (.type "set") := by decide +kernel
/-- what is asked of a law: any script of at most 63 whole numbers -/
def spLaw (K : PySem.W.Frag) : Sp := fun vs H Q _ => ∃ (a : Addr) (ns : List Int), vs = [.ref a] ∧ L2.SqL K H a (ns.map V.int) ∧ ns.length ≤ 63 ∧ (∀ z ∈ ns, Builtin.Int.intBits z ≤ 1048576) ∧ ∀ H', Q (.bl true) H'
end L3
namespace L3
open PySem L2
theorem takes_no {X : Cx} : L2.Takes X (fun _ _ _ _ => False) := fun _ _ ⟨_, _, _, _, _, _, _, _, _, _, _, _, _, _, _, _, w⟩ => w.elim
def blkOk (N : List Str) (sc scope : Scope) (own : List (Str × Nat)) : Bool :=
  decide (scope.kind = .function) && scope.names.all (fun y => decide (scope.names.lookup y.1 = some y.2)) && own.all (fun p => decide (N[p.2]? = some p.1)) &&
  scope.names.all (fun y => decide (y.2 = .free → sc.names.lookup y.1 = some .cell ∨ sc.names.lookup y.1 = some .free)) &&
  scope.names.all (fun y => decide (y.2 = .local ∨ y.2 = .cell → y.1 ∈ own.map (·.1) ∨ y.1 ∉ N))
theorem blk_ok {N : List Str} {sc scope : Scope} {own : List (Str × Nat)} (h : blkOk N sc scope own = true) : BlkOk N sc scope own := by
  unfold blkOk at h
  simp only [Bool.and_eq_true, List.all_eq_true, decide_eq_true_eq] at h
  obtain ⟨⟨⟨⟨h1, h2⟩, h3⟩, h4⟩, h5⟩ := h
  exact ⟨h1, h2, h3, h4, h5⟩
end L3

namespace L3
open PySem L2

/-! ### defs of the text that are called where no repr is under way -/
theorem SqL.ints {K : PySem.W.Frag} {H : Hp} {a : Addr} {ns : List Int} (h : L2.SqL K H a (ns.map V.int)) : SqL K H a (ns.map V.int) := by
  rcases h with h | h
  · exact .inl h
  · exact .inr ⟨.inr h, fun x m z e => by obtain ⟨i, _, rfl⟩ := List.mem_map.mp m; cases e⟩
structure OwnG (P : Program) (w : World) (K : PySem.W.Frag) (mg : Str → Option Value) (base : Heap) (k : Nat) (x : Str) (n : Nat) (m : MF) : Prop where
  ex : ∃ f fd ps, FnG P w K mg base k f fd ps (spM ⟨P, w, K, mg⟩ m n) ∧ mg x = some (.ref f) ∧ PySem.W.keepIn K (.ref f) = true ∧ Binds K fd ps []
section
variable {P : Program} {w : World} {K : PySem.W.Frag} {mg : Str → Option Value} {base : Heap} {k n : Nat} {x : Str} {m m' : MF}
theorem OwnG.imp (o : OwnG P w K mg base k x n m) (h : ∀ ds cs, m' ds cs = .stuck ∨ m' ds cs = m ds cs) : OwnG P w K mg base k x n m' := by
  obtain ⟨f, fd, ps, F, a, b, c⟩ := o
  refine ⟨f, fd, ps, F.imp (spM_imp fun E H F c cs vs ds Q I rv po => ?_), a, b, c⟩
  rcases h ds cs with e | e
  · rw [e] at po; exact po.elim
  · rw [e] at po; exact po
theorem OwnG.tidy (o : OwnG P w K mg base k x n m) : OwnG P w K mg base k x n (tidy m) := by
  obtain ⟨f, fd, ps, F, a, b, c⟩ := o
  exact ⟨f, fd, ps, F.imp tidy_imp, a, b, c⟩
theorem ownG_mk {f : Addr} {fd : FuncData} {st : Stmt} {qual : Str} {ps : List Str} (Fn : Fun K x qual st f fd) (F : FnG P w K mg base k f fd ps (spM ⟨P, w, K, mg⟩ m ps.length)) (hm : mg x = some (.ref f)) (hb : Binds K fd ps []) (hn : ps.length = n) : OwnG P w K mg base k x n m := by
  subst hn
  exact ⟨f, fd, ps, F, hm, Fn.kp, hb⟩
/-- a def by its body -/
theorem fnMG {x qual : Str} {st : Stmt} {f : Addr} {fd : FuncData} {N ps : List Str} {k : Nat} (F : Fun K x qual st f fd) (S : FnScope N ps (defScope st)) (body : MS)
    (h : ∀ (cdv : Value) (A : Around) (outer : List PySem.Env) (s : Shared) (H : Hp) (E : XK), A.guards = some [] → Room k (A.deeper (PyProof.Rows.envOfC qual (defScope st) s.heap.objs.size f cdv)) →
      Sms (cxOf (L2.CX P w) P w K mg base N qual (defScope st) f cdv A outer s H E) (fun cls d _ H => E cls d H) (defBody st) body) :
    FnG P w K mg base (k + 1) f fd ps (spM ⟨P, w, K, mg⟩ (mDef N.length body) ps.length) := by
  refine fnG_of F S (fun vs H Q E h => h.1) fun cdv A outer s H vs Q E hG hr ⟨hl, F0, c, cs, ds, I, rv, po⟩ => ?_
  obtain ⟨t, pt, st⟩ := h cdv A outer s H E hG hr
  refine ⟨t, pt, st _ _ H F0 c cs _ (re_start rv N) I ?_⟩
  unfold mDef at po
  cases hb : body (ds.map some ++ List.replicate (N.length - ds.length) none) cs with
  | nx e c1 => rw [hb] at po; exact fun H' F' c' x I' σ re => po H' F' c' x I' .non .non
  | rt d c1 => rw [hb] at po; exact po
  | exc n fs e c1 => rw [hb] at po; exact fun H' F' c' x I' σ C dx vs _ a b d => po H' F' c' x I' C dx vs a b d
  | bk e c1 => rw [hb] at po; exact po.elim
  | ct e c1 => rw [hb] at po; exact po.elim
  | stuck => rw [hb] at po; exact po.elim
/-- the law -/
theorem lawG_of {f : Addr} {fd : FuncData} {ps : List Str}
    (F : FnG P w K mg base k f fd ps (spM ⟨P, w, K, mg⟩ m 1)) (h : ∀ ns : List Int, ns.length ≤ 63 → (∀ z ∈ ns, Builtin.Int.intBits z ≤ 1048576) → ∃ cs, m [.scr ns] [] = .ok (.bl true) cs) :
    FnG P w K mg base k f fd ps (spLaw K) := by
  refine F.imp fun vs H Q E ⟨a, ns, e, hs, hl, hb, q⟩ => ?_
  subst e
  obtain ⟨cs, hc⟩ := h ns hl hb
  refine ⟨rfl, H, [], [], [.scr ns], ⟨fun _ _ h => h, rfl, List.nodup_nil, fun n a x h => by simp at h⟩, .cons (.scr (.ints hs)) .nil, ?_⟩
  rw [hc]
  intro H' F' c' x I v rv
  cases rv
  exact q H'
end
section
variable {X : Cx} {W : WX} {k n : Nat} {m : MF} {x : Str} {p pos : Pos} {e : Expr} {es : List Expr} {ms : MA}
theorem xp_ownG (o : OwnG X.prog X.w X.K X.mg X.base k x n m) (hG : X.A.guards = some []) (hr : Room k X.A) (tk : Takes X W) (ha : Xa X W (e :: es) ms) (hg : Gl X x) (hlen : ∀ env cs ds cs1, ms env cs = .ok ds cs1 → ds.length = n) (hn : (e :: es).length = n := by rfl) (hdb : (x == ("__debug__" : Str)) = false := by decide)
    (he : starEach (e :: es) X.env = (false, eval e X.env) :: starEach es X.env := by rfl) (hpl : (backTo pos (starEach es X.env)).any (·.1) = false := by rfl) : Xp X W (.Call (.Name x p) (e :: es) [] pos) (eCall m ms) := by
  obtain ⟨f, fd, ps, F, hm, hk, hb⟩ := o
  obtain ⟨t, pa, sa⟩ := ha
  refine ⟨_, pe_callG F hG hr hg hm hk hb (fun σ => passAt tk σ) pa hdb he hpl, fun σ env H F c cs Q re I po => ?_⟩
  refine sa σ env H F c cs _ re I (PoA.cut po _ fun ds cs1 h1 H1 F1 c1 vs x1 I1 rv po1 => ?_)
  exact ⟨by rw [rv.length]; exact hlen _ _ _ _ h1, F1, c1, cs1, ds, I1, rv, po1⟩
end
theorem lawG_walk {l : PySem.W.OpenLaw} {q : Program} {loose : List Str} {XP : (Str → Option Value) → Heap → Prop} {YP : World → Heap → Prop} {d : DefRec} {K : Params → PySem.W.Frag} {k : Nat} (hn : l.most = some 63) (hdf : d.params.defaults = []) (hr : Room k callerA) (hq : PyProof.Rows.importsNone q = true)
    (hY : ∀ (w : World) (h : Heap), YP w h → (K w.params).In h)
    (F : ∀ (w : World) (mg : Str → Option Value) (fa : Addr) (h : Heap), (K w.params).In h → h.Ns mainGlobals mg → mg d.name = some (.ref fa) →
      ∃ fd : FuncData, (∀ (s : Shared) (u : Value), BindsTo s fd ⟨[u], []⟩ [("script", u)]) ∧ One fd ["script"] ∧ ∀ base : Heap, (K w.params).In base → base.Ns mainGlobals mg → (∃ mm, base.Ns sysModules mm) → FnG l.prog w (K w.params) mg base k fa fd ["script"] (spLaw (K w.params))) :
    PySem.W.WalkO q loose XP YP l.row.toRowW d [] (fun f vs => PySem.call f vs) :=
  law_walkG (n := 63) (k := k) (x := "script") (sp := fun w => spLaw (K w.params)) hn (by decide) hdf hr hq hY F (fun _ _ a ns hl hb hS => ⟨a, ns, rfl, hS, hl, hb, fun _ => rfl⟩)
end L3

namespace L3
open PySem L2 PySem.Spec PyProof.Rows

/-! ### methods of lists and the like: the arguments' tokens are out -/
def MtM (X : Cx) (id : String) (r : V → List V → Hp → VK → Prop) : Prop :=
  ∀ (pins : List (Addr × Obj)) (s : Shared) (σ : L2.St) (H : Hp) (x : V) (xs : List V) (v : Value) (us : List Value) (Q : VK), Inv X pins σ H s → RelV s.toks x v → Vals s.toks xs us → r x xs H Q →
    wpAny (model X.prog X.w) X.A (call (.builtin id) (v :: us)) (EP X pins σ Q) X.xe s
section
variable {X : Cx} {o e : Expr} {es : List Expr} {to : TE} {t : TA} {name : Str} {apos cpos : Pos} {T id : String} {r : V → List V → Hp → VK → Prop}
theorem pe_bm0 (pa : PlainAttrs T) (slot : Slot T name id) (hty : typeOf (.builtin id) = pure (.type "method_descriptor")) (hm : MtM X id r) (ho : PE X o to)
    (hbase : attributeBase o name X.env (eval o X.env) = eval o X.env := by rfl) (hline : (apos.endLine == cpos.line) = true := by rfl) : PE X (.Call (.Attribute o name apos) [] [] cpos) (tBM0 X.K T r to) := by
  constructor
  intro pins s σ H Q I h
  refine wpAny_Call_method0_late hbase hline (thn (ho.run pins s σ H _ I h) fun v s1 z => ?_)
  obtain ⟨x, H1, I1, r1, ty, q1⟩ := z
  obtain ⟨h1, h2⟩ := tyV_is I1.i r1.1 ty
  exact ⟨T, id, pa, slot, hty, h1, h2, Calls.callWith_builtin rfl (PySem.evalArgs_none (hm pins s1 σ H1 x [] v [] Q I1 r1 .nil q1))⟩
theorem pe_bm (pa : PlainAttrs T) (slot : Slot T name id) (hty : typeOf (.builtin id) = pure (.type "method_descriptor")) (hm : MtM X id r) (ho : PE X o to) (ha : PA X (e :: es) t)
    (hbase : attributeBase o name X.env (eval o X.env) = eval o X.env := by rfl)
    (hfew : ((backTo cpos (starEach (e :: es) X.env)).all (fun x => !x.1) && (backToKw cpos (keywordEach [] X.env)).all (fun x => x.1.isSome)
      && decide ((e :: es).length + ([] : List Keyword).length + (if ([] : List Keyword).isEmpty then 0 else 1) < 30)) = true := by rfl)
    (hline : (apos.endLine == cpos.line) = true := by rfl) (hs : starEach (e :: es) X.env = (false, eval e X.env) :: starEach es X.env := by rfl) (hplain : (backTo cpos (starEach es X.env)).any (·.1) = false := by rfl) :
    PE X (.Call (.Attribute o name apos) (e :: es) [] cpos) (tBM X.K T r to t) := by
  constructor
  intro pins s σ H Q I h
  refine wpAny_Call_method_late hbase hfew hline rfl (thn (ho.run pins s σ H _ I h) fun v s1 z => ?_)
  obtain ⟨x, H1, I1, r1, ty, q1⟩ := z
  obtain ⟨h1, h2⟩ := tyV_is I1.i r1.1 ty
  refine ⟨T, id, pa, slot, hty, h1, h2, ?_⟩
  have hA := ha.run cpos pins s1 σ H1 _ I1 q1
  rw [hs] at hA ⊢
  refine Calls.callWith_builtin (by show (false || (backTo cpos (starEach es X.env)).any (·.1)) = false; rw [hplain] <;> rfl) (Calls.evalArgs_plain ?_)
  refine thk hA fun us s2 k2 z => ?_
  obtain ⟨vs, H2, I2, r2, q2⟩ := z
  exact hm pins s2 σ H2 x vs v us Q I2 (r1.mono k2) r2 q2
theorem mt_append : MtM X "list.append" rAppend := by
  rintro pins s σ H x vs v us Q I ⟨rx, _⟩ rv ⟨l, xs, y, rfl, rfl, hH, hz, q⟩
  cases rx
  obtain ⟨u, _, rfl, ru, rv⟩ := rv.cons_ex
  cases rv.nil_ex
  obtain ⟨z, its, n, r, hl, e⟩ := I.lstM hH
  refine call_meets F.slot_list_append ⟨_, e, rfl⟩ F.entry_list_append (F.args_list_append_2 _ _) (PySem.list_append l its.toArray n u (by rw [List.size_toArray]; omega)) ⟨e, ?_⟩
  exact ⟨.non, _, I.lset (its' := its ++ [u]) (t' := s.toks) hH e (by simp) ⟨r.1.append (.cons ru.1 .nil), r.2.app (gvs_cons ru.2 gvs_nil)⟩ (by rw [List.length_append, List.length_singleton]; omega) (Nat.le_refl _), .non, q⟩
end

/-! ### text[::-1] -/
def tRevS (te : TE) : TE := fun σ H Q => te σ H fun x H1 => ∃ l : List Nat, x = .str ⟨l.toArray⟩ ∧ l.length ≤ sizeLine ∧ Q (.str ⟨l.reverse.toArray⟩) H1
theorem rev_picked (l : List Nat) : ((Builtin.Str.strSliceIndices none none (-1) l.length).filterMap ((⟨l.toArray⟩ : Str).cps[·]?)).toArray = l.reverse.toArray := by
  have e : Builtin.Str.strSliceIndices none none (-1) l.length = sliceRange ((l.length : Int) - 1) (-1) (-1) := rfl
  rw [e, PySem.W.krv_sliceRange, PySem.W.krv_range, List.filterMap_reverse]
  have := PySem.W.krv_all l.toArray
  simp only [List.size_toArray] at this
  rw [show ((⟨l.toArray⟩ : Str).cps) = l.toArray from rfl, this]
theorem pe_revS {X : Cx} {te : TE} {e : Expr} {k : Nat} {p1 p2 p3 pos : Pos} (he : PE X e te) : PE X (.Subscript e (.Slice none none (some (.UnaryOp .USub (.Constant (.int 1) k p1) p2)) p3) pos) (tRevS te) := by
  refine ⟨fun pins s σ H Q I h => ?_⟩
  refine Subscript_ (thn (he.run pins s σ H _ I h) fun v s1 z => ?_)
  obtain ⟨x, H1, I1, r1, l, ex, hz, q⟩ := z
  subst ex
  obtain ⟨t, rfl⟩ := r1.1
  have hst : PO X (some (.UnaryOp .USub (.Constant (.int 1) k p1) p2)) (tPart (tUn (rU fun i => .int (-i)) (tC (.int 1)))) := po_some (pe_un un_neg pe_int)
  refine wpAny_Slice (thn (po_none.run pins s1 σ H1 (fun o H2 => o = none ∧ H2 = H1) I1 ⟨rfl, rfl⟩) fun vl s2 z => ?_)
  obtain ⟨l', H2, I2, pl, el, e2⟩ := z
  subst el e2
  refine thn (po_none.run pins s2 σ H2 (fun o H3 => o = none ∧ H3 = H2) I2 ⟨rfl, rfl⟩) fun vu s3 z => ?_
  obtain ⟨u, H3, I3, pu, eu, e3⟩ := z
  subst eu e3
  refine thn (hst.run pins s3 σ H3 (fun o H4 => o = some (-1) ∧ H4 = H3) I3 ⟨1, rfl, -1, rfl, rfl, rfl⟩) fun vs s4 z => ?_
  obtain ⟨o, H4, I4, ps, eo, e4⟩ := z
  subst eo e4
  cases pl
  cases pu
  obtain ⟨tk, rfl⟩ : ∃ tk, vs = .int (-1) tk := by cases ps; exact ⟨_, rfl⟩
  have I5 : Inv X pins σ H4 { s4 with heap := s4.heap.push { cls := .type "slice", data := .fields #[.none, .none, .int (-1) tk] } } := I4.kept (t' := s4.toks) (fun b ob q => Heap.get?_push_of_some _ q) (Nat.le_refl _)
  show wpAny (model X.prog X.w) X.A (subscriptTail e (.Slice none none (some (.UnaryOp .USub (.Constant (.int 1) k p1) p2)) p3) (.str ⟨l.toArray⟩ t) (.ref s4.heap.objs.size)) (EP X pins σ Q) X.xe { s4 with heap := s4.heap.push { cls := .type "slice", data := .fields #[.none, .none, .int (-1) tk] } }
  refine tail_any (ops := [.str ⟨l.toArray⟩ t, .ref s4.heap.objs.size]) (typeIs_str _ _ _) (F.slot_str_getitem.lookup) ?_ (by with_unfolding_all rfl)
  refine wpAny_getItem_str_slice (l := none) (u := none) (st := some (-1, tk)) ⟨_, Heap.get?_push_size _ rfl, rfl, rfl⟩ (by rfl) ?_
  have em : sliceMade ⟨l.toArray⟩ t none none (some (-1, tk)) = .str ⟨l.reverse.toArray⟩ := by
    unfold sliceMade slicePicked
    rw [if_neg (by simp)]
    show Made.str ⟨((Builtin.Str.strSliceIndices none none (-1) l.length).filterMap ((⟨l.toArray⟩ : Str).cps[·]?)).toArray⟩ = _
    rw [rev_picked]
  rw [em]
  refine ⟨?_, endS I5 q⟩
  rw [str_len, List.length_reverse]
  exact hz
end L3

namespace L3
open PySem L2 PySem.Spec PyProof.Rows

def revD (cs : Cells) : D → R
  | .str l => if l.length ≤ sizeLine then .ok (.str l.reverse) cs else .stuck
  | _ => .stuck
theorem xp_rev {X : Cx} {W : WX} {a : Expr} {ma : ME} {k : Nat} {p1 p2 p3 pos : Pos} (ha : Xp X W a ma) : Xp X W (.Subscript a (.Slice none none (some (.UnaryOp .USub (.Constant (.int 1) k p1) p2)) p3) pos) (op1 revD ma) := by
  obtain ⟨ta, pa, sa⟩ := ha
  refine ⟨_, pe_revS pa, fun σ env H F c cs Q re I po => ?_⟩
  refine sa σ env H F c cs _ re I (PoE.cut po _ fun d cs1 _ H1 F1 c1 v x1 I1 rv po1 => ?_)
  unfold revD at po1
  split at po1
  · split at po1
    · rename_i h
      cases rv
      exact ⟨_, rfl, h, PoE.here I1 (.str _) po1⟩
    · exact po1.elim
  · exact po1.elim

/-! ### methods of a text with a text -/
abbrev mk (l : List Nat) : Str := ⟨l.toArray⟩
def cntD (cs : Cells) (l : List Nat) : D → R
  | .str y => .ok (.int (Txt.count (mk l) (mk y))) cs
  | _ => .stuck
theorem mb_cnt {g : Gd} : Mb1 g (fun x xs H Q => ∃ a b, x = .str a ∧ xs = [.str b] ∧ Q (.int (Txt.count a b)) H) cntD := by
  intro W H F c cs l y e Q I ry po
  unfold cntD at po
  split at po
  · cases ry
    exact ⟨_, _, rfl, rfl, PoE.here I (.int _) po⟩
  · exact po.elim
theorem xp_cnt {X : Cx} {W : WX} {pos apos : Pos} {o e : Expr} {mo me : ME} (ho : Xp X W o mo) (he : XpW X W e me)
    (hs : starEach [e] X.env = [(false, eval e X.env)] := by rfl) (hbase : attributeBase o "count" X.env (eval o X.env) = eval o X.env := by rfl) (hline : (apos.endLine == pos.line) = true := by rfl) :
    Xp X W (.Call (.Attribute o "count" apos) [e] [] pos) (eM1 cntD mo me) := xp_m1 F.slot_str_count F.type_str_count mt_count mb_cnt ho he hs hbase hline
def findD (cs : Cells) (l : List Nat) : D → R
  | .str y => .ok (.int (Txt.find (mk l) (mk y))) cs
  | _ => .stuck
theorem mb_find {g : Gd} : Mb1 g (fun x xs H Q => ∃ a b, x = .str a ∧ xs = [.str b] ∧ Q (.int (Txt.find a b)) H) findD := by
  intro W H F c cs l y e Q I ry po
  unfold findD at po
  split at po
  · cases ry
    exact ⟨_, _, rfl, rfl, PoE.here I (.int _) po⟩
  · exact po.elim
theorem xp_find {X : Cx} {W : WX} {pos apos : Pos} {o e : Expr} {mo me : ME} (ho : Xp X W o mo) (he : XpW X W e me)
    (hs : starEach [e] X.env = [(false, eval e X.env)] := by rfl) (hbase : attributeBase o "find" X.env (eval o X.env) = eval o X.env := by rfl) (hline : (apos.endLine == pos.line) = true := by rfl) :
    Xp X W (.Call (.Attribute o "find" apos) [e] [] pos) (eM1 findD mo me) := xp_m1 F.slot_str_find F.type_str_find mt_find mb_find ho he hs hbase hline
def startsD (cs : Cells) (l : List Nat) : D → R
  | .str y => .ok (.bl (Txt.startswith (mk l) (mk y))) cs
  | _ => .stuck
theorem mb_starts {g : Gd} : Mb1 g (fun x xs H Q => ∃ a b, x = .str a ∧ xs = [.str b] ∧ Q (.bl (Txt.startswith a b)) H) startsD := by
  intro W H F c cs l y e Q I ry po
  unfold startsD at po
  split at po
  · cases ry
    exact ⟨_, _, rfl, rfl, PoE.here I (.bl _) po⟩
  · exact po.elim
theorem xp_starts {X : Cx} {W : WX} {pos apos : Pos} {o e : Expr} {mo me : ME} (ho : Xp X W o mo) (he : XpW X W e me)
    (hs : starEach [e] X.env = [(false, eval e X.env)] := by rfl) (hbase : attributeBase o "startswith" X.env (eval o X.env) = eval o X.env := by rfl) (hline : (apos.endLine == pos.line) = true := by rfl) :
    Xp X W (.Call (.Attribute o "startswith" apos) [e] [] pos) (eM1 startsD mo me) := xp_m1 F.slot_str_startswith F.type_str_startswith mt_startswith mb_starts ho he hs hbase hline
def endsD (cs : Cells) (l : List Nat) : D → R
  | .str y => .ok (.bl (Txt.endswith (mk l) (mk y))) cs
  | _ => .stuck
theorem mb_ends {g : Gd} : Mb1 g (fun x xs H Q => ∃ a b, x = .str a ∧ xs = [.str b] ∧ Q (.bl (Txt.endswith a b)) H) endsD := by
  intro W H F c cs l y e Q I ry po
  unfold endsD at po
  split at po
  · cases ry
    exact ⟨_, _, rfl, rfl, PoE.here I (.bl _) po⟩
  · exact po.elim
theorem xp_ends {X : Cx} {W : WX} {pos apos : Pos} {o e : Expr} {mo me : ME} (ho : Xp X W o mo) (he : XpW X W e me)
    (hs : starEach [e] X.env = [(false, eval e X.env)] := by rfl) (hbase : attributeBase o "endswith" X.env (eval o X.env) = eval o X.env := by rfl) (hline : (apos.endLine == pos.line) = true := by rfl) :
    Xp X W (.Call (.Attribute o "endswith" apos) [e] [] pos) (eM1 endsD mo me) := xp_m1 F.slot_str_endswith F.type_str_endswith mt_endswith mb_ends ho he hs hbase hline
def rscD (cs : Cells) (l : List Nat) : D → R
  | .str y => if l.length ≤ sizeLine then .ok (.str (codes (Txt.rstripChars (mk l) (mk y)))) cs else .stuck
  | _ => .stuck
theorem mb_rsc {g : Gd} : Mb1 g (fun x xs H Q => ∃ a b, x = .str a ∧ xs = [.str b] ∧ a.length ≤ sizeLine ∧ Q (.str (Txt.rstripChars a b)) H) rscD := by
  intro W H F c cs l y e Q I ry po
  unfold rscD at po
  split at po
  · split at po
    · rename_i h
      cases ry
      refine ⟨_, _, rfl, rfl, by rw [str_len]; exact h, ?_⟩
      have := PoE.here I (.str _) po
      rw [str_codes] at this
      exact this
    · exact po.elim
  · exact po.elim
theorem xp_rsc {X : Cx} {W : WX} {pos apos : Pos} {o e : Expr} {mo me : ME} (ho : Xp X W o mo) (he : XpW X W e me)
    (hs : starEach [e] X.env = [(false, eval e X.env)] := by rfl) (hbase : attributeBase o "rstrip" X.env (eval o X.env) = eval o X.env := by rfl) (hline : (apos.endLine == pos.line) = true := by rfl) :
    Xp X W (.Call (.Attribute o "rstrip" apos) [e] [] pos) (eM1 rscD mo me) := xp_m1 F.slot_str_rstrip F.type_str_rstrip mt_rstripChars mb_rsc ho he hs hbase hline
def lscD (cs : Cells) (l : List Nat) : D → R
  | .str y => if l.length ≤ sizeLine then .ok (.str (codes (Txt.lstripChars (mk l) (mk y)))) cs else .stuck
  | _ => .stuck
theorem mb_lsc {g : Gd} : Mb1 g (fun x xs H Q => ∃ a b, x = .str a ∧ xs = [.str b] ∧ a.length ≤ sizeLine ∧ Q (.str (Txt.lstripChars a b)) H) lscD := by
  intro W H F c cs l y e Q I ry po
  unfold lscD at po
  split at po
  · split at po
    · rename_i h
      cases ry
      refine ⟨_, _, rfl, rfl, by rw [str_len]; exact h, ?_⟩
      have := PoE.here I (.str _) po
      rw [str_codes] at this
      exact this
    · exact po.elim
  · exact po.elim
theorem xp_lsc {X : Cx} {W : WX} {pos apos : Pos} {o e : Expr} {mo me : ME} (ho : Xp X W o mo) (he : XpW X W e me)
    (hs : starEach [e] X.env = [(false, eval e X.env)] := by rfl) (hbase : attributeBase o "lstrip" X.env (eval o X.env) = eval o X.env := by rfl) (hline : (apos.endLine == pos.line) = true := by rfl) :
    Xp X W (.Call (.Attribute o "lstrip" apos) [e] [] pos) (eM1 lscD mo me) := xp_m1 F.slot_str_lstrip F.type_str_lstrip mt_lstripChars mb_lsc ho he hs hbase hline

/-! ### xs.append(e), xs a cell -/
def pushL (cs : Cells) (o v : D) : Option Cells := match o with
  | .loc n => match cs[n]? with
    | some (.lst l) => if l.length < sizeLine then some (cs.set n (.lst (l ++ [v]))) else none
    | _ => none
  | _ => none
def isLc (cs : Cells) : D → Bool
  | .loc n => match cs[n]? with
    | some (.lst _) => true
    | _ => false
  | _ => false
def ePush (mo me : ME) : ME := fun env cs => (mo env cs).bind fun o cs1 => if isLc cs1 o = true then (me env cs1).bind fun v cs2 => match pushL cs2 o v with
    | some cs3 => .ok .non cs3
    | none => .stuck
  else .stuck
theorem isLc_at {g : Gd} {H F : Hp} {c : List Addr} {cs : Cells} (I : Ih g H F c cs) {v : V} {d : D} (r : RV g F c v d) (h : isLc cs d = true) : ∃ n a l vs, d = .loc n ∧ v = .ref a ∧ c[n]? = some a ∧ cs[n]? = some (.lst l) ∧ H a = some (.lst vs) ∧ RVs g F c vs l := by
  unfold isLc at h
  split at h
  · rename_i n
    split at h
    · rename_i l hl
      cases r with
      | loc ha =>
        obtain ⟨_, vs, h1, h2⟩ := I.cell _ _ _ ha hl
        exact ⟨n, _, l, vs, rfl, rfl, ha, hl, h1, h2⟩
    · cases h
  · cases h
section
variable {X : Cx} {W : WX} {pos apos tpos : Pos} {o b e : Expr} {mo mb me : ME}
theorem pe_push {to : TE} {t : TA} {es : List Expr} (ho : PE X o to) (ha : PA X (e :: es) t)
    (hbase : attributeBase o "append" X.env (eval o X.env) = eval o X.env := by rfl)
    (hfew : ((backTo pos (starEach (e :: es) X.env)).all (fun x => !x.1) && (backToKw pos (keywordEach [] X.env)).all (fun x => x.1.isSome)
      && decide ((e :: es).length + ([] : List Keyword).length + (if ([] : List Keyword).isEmpty then 0 else 1) < 30)) = true := by rfl)
    (hline : (apos.endLine == pos.line) = true := by rfl) (hs : starEach (e :: es) X.env = (false, eval e X.env) :: starEach es X.env := by rfl) (hplain : (backTo pos (starEach es X.env)).any (·.1) = false := by rfl) :
    PE X (.Call (.Attribute o "append" apos) (e :: es) [] pos) (tBM X.K "list" rAppend to t) :=
  pe_bm F.plainAttrs_list F.slot_list_append F.type_list_append mt_append ho ha hbase hfew hline hs hplain
theorem xp_push (ho : Xp X W o mo) (he : Xp X W e me)
    (hbase : attributeBase o "append" X.env (eval o X.env) = eval o X.env := by rfl)
    (hfew : ((backTo pos (starEach [e] X.env)).all (fun x => !x.1) && (backToKw pos (keywordEach [] X.env)).all (fun x => x.1.isSome)
      && decide ([e].length + ([] : List Keyword).length + (if ([] : List Keyword).isEmpty then 0 else 1) < 30)) = true := by rfl)
    (hline : (apos.endLine == pos.line) = true := by rfl) (hs : starEach [e] X.env = (false, eval e X.env) :: starEach [] X.env := by rfl) (hplain : (backTo pos (starEach [] X.env)).any (·.1) = false := by rfl) :
    Xp X W (.Call (.Attribute o "append" apos) [e] [] pos) (ePush mo me) := by
  obtain ⟨to, po', so⟩ := ho
  obtain ⟨te, pe', se⟩ := he
  refine ⟨_, pe_push po' (pa_cons pe' pa_nil hs) hbase hfew hline hs hplain, fun σ env H F c cs Q re I po => ?_⟩
  refine so σ env H F c cs _ re I (PoE.cut po _ fun d cs1 _ H1 F1 c1 v x1 I1 rv po1 => ?_)
  split at po1
  · rename_i hc
    obtain ⟨n, a, l, vs, rfl, rfl, ha, hl, h1, h2⟩ := isLc_at I1 rv hc
    refine ⟨.inl ⟨rfl, vs, .inl (.inl h1)⟩, se σ env H1 F1 c1 cs1 _ (re.mono x1.le) I1 (PoE.cut po1 _ fun d2 cs2 _ H2 F2 c2 v2 x2 I2 rv2 po2 => ?_)⟩
    split at po2
    · rename_i cs3 h3
      simp only [pushL] at h3
      split at h3
      · rename_i l2 hl2
        split at h3
        · rename_i hz
          simp only [Option.some.injEq] at h3
          subst h3
          have ha2 := x2.le.loc _ _ ha
          obtain ⟨f, vs2, hH, r⟩ := I2.cell _ _ _ ha2 hl2
          refine ⟨a, vs2, v2, rfl, rfl, hH, by rw [r.length]; exact hz, ?_⟩
          have x4 := Xt.write I2 (o := .lst (vs2 ++ [v2])) ha2
          exact po2 _ _ _ x4 (I2.write ha2 hl2 rfl ⟨f, _, upd_same, r.append (.cons rv2 .nil)⟩) .non .non
        · cases h3
      · cases h3
    · exact po2.elim
  · exact po1.elim
end

/-! ### d[k] = e, d a dict that is a cell -/
def kdOf : D → Option Kd
  | .int i => some (.inl i)
  | .str l => some (.inr l)
  | _ => none
theorem kdOf_rv {g : Gd} {F : Hp} {c : List Addr} {v : V} {d : D} {k : Kd} (r : RV g F c v d) (h : kdOf d = some k) : v = kV (kk k) := by
  cases r <;> simp only [kdOf] at h
  all_goals first | (cases h; rfl) | cases h
def putC (cs : Cells) (o i v : D) : Option Cells := match o with
  | .loc n => match cs[n]? with
    | some (.dct l) => match kdOf i with
      | some k => if l.length < sizeLine then some (cs.set n (.dct (putD l k v))) else none
      | none => none
    | _ => none
  | _ => none
def sPutK (mo mi mv : ME) : MS := fun env cs => (mv env cs).toS env fun v cs1 => (mo env cs1).toS env fun o cs2 => (mi env cs2).toS env fun i cs3 => match putC cs3 o i v with
  | some cs4 => .nx env cs4
  | none => .stuck
theorem RKs.len {g : Gd} {F : Hp} {c : List Addr} : ∀ {vs : List (Key × V)} {ds : List (Kd × D)}, RKs g F c vs ds → vs.length = ds.length
  | _, _, .nil => rfl
  | _, _, .cons _ r => by rw [List.length_cons, List.length_cons, RKs.len r]
/-! ### a, b = .. -/
def tgTs : List Nat → List D → L3.Env → Option L3.Env
  | [], [], env => some env
  | i :: r, d :: ds, env => tgTs r ds (env.set i (some d))
  | _, _, _ => none
def tgTup (is : List Nat) (d : D) (env : L3.Env) : Option L3.Env := match d with
  | .tup ds => tgTs is ds env
  | _ => none
def Tgts (X : Cx) (es : List Expr) (is own : List Nat) : Prop := ∃ t, PGs X es t ∧ ∀ σ env H F c cs vs ds env1 Q, RE (gd X) F c σ env → Ih (gd X) H F c cs → RVs (gd X) F c vs ds → tgTs is ds env = some env1 → (∀ σ1, RE (gd X) F c σ1 env1 → L2.wipe σ1 own = L2.wipe σ own → Q σ1 H) → t vs σ H Q
theorem tgts_nil {X : Cx} {own : List Nat} : Tgts X [] [] own := ⟨_, pgs_nil, fun σ env H F c cs vs ds env1 Q re I rv h k => by
  cases rv with
  | nil =>
    simp only [tgTs, Option.some.injEq] at h
    subst h
    exact ⟨rfl, k σ re rfl⟩
  | cons _ _ => simp [tgTs] at h⟩
theorem tgts_cons {X : Cx} {i : Nat} {is own : List Nat} {e : Expr} {es : List Expr} (h1 : Tgt X e (tgN i) own) (h2 : Tgts X es is own)
    (hs : (assignEach (e :: es) X.env).map (·.2) = assign e X.env :: (assignEach es X.env).map (·.2) := by rfl) : Tgts X (e :: es) (i :: is) own := by
  obtain ⟨t, p, q⟩ := h1
  obtain ⟨u, p2, q2⟩ := h2
  refine ⟨_, pgs_cons p p2 hs, fun σ env H F c cs vs ds env1 Q re I rv h k => ?_⟩
  cases rv with
  | nil => simp [tgTs] at h
  | @cons v d vr dr r1 r2 =>
    simp only [tgTs] at h
    refine ⟨v, vr, rfl, q σ env H F c cs v d _ _ re I r1 rfl fun σ1 re1 w1 => ?_⟩
    exact q2 σ1 _ H F c cs vr dr env1 Q re1 I r2 h fun σ2 re2 w2 => k σ2 re2 (w2.trans w1)
theorem tgts_len {is : List Nat} : ∀ {ds : List D} {env env1 : L3.Env}, tgTs is ds env = some env1 → ds.length = is.length := by
  induction is with
  | nil => intro ds env env1 h; cases ds with
    | nil => rfl
    | cons _ _ => simp [tgTs] at h
  | cons i r ih => intro ds env env1 h; cases ds with
    | nil => simp [tgTs] at h
    | cons d dr => simp only [tgTs] at h; simp [ih h]
theorem tgt_tup {X : Cx} {is own : List Nat} {es : List Expr} {k : Nat} {pos : Pos} (hc : X.calm = true) (h : Tgts X es is own) (hn : (assignEach es X.env).length = is.length := by rfl) (hst : (assignEach es X.env).findIdx? (·.1) = none := by rfl) : Tgt X (.Tuple es k pos) (tgTup is) own := by
  obtain ⟨t, p, q⟩ := h
  refine ⟨_, pg_tup hc p hn hst, fun σ env H F c cs v d env1 Q re I rv h k => ?_⟩
  unfold tgTup at h
  split at h
  · rename_i ds
    cases rv with
    | @tup a vs _ h1 h2 => exact ⟨a, vs, rfl, SqT.up I.sub h1, by rw [h2.length, tgts_len h], q σ env H F c cs vs ds env1 Q re I h2 h k⟩
  · cases h
/-- target = e, the target a tuple of names -/
def sAsgT (f : D → L3.Env → Option L3.Env) (m : ME) : MS := fun env cs => (m env cs).toS env fun d cs1 => match f d env with
  | some env1 => .nx env1 cs1
  | none => .stuck
theorem sm_asgT {X : Cx} {W : WX} {f : D → L3.Env → Option L3.Env} {own : List Nat} {tg e : Expr} {m : ME} {pos : Pos} (ht : Tgt X tg f own) (he : Xp X W e m) (hs : swapsWithSole [tg] e pos.line X.env = pure false := by rfl) (hw : swappedStores [tg] e X.env = pure none := by rfl)
    (h1 : (assignEach [tg] X.env).map (·.2) = [assign tg X.env] := by rfl) : Sm X W (.Assign [tg] e pos) (sAsgT f m) := by
  obtain ⟨t, p, q⟩ := ht
  obtain ⟨te, pe, se⟩ := he
  refine ⟨_, ps_asg pe p hs hw h1, fun σ env H F c cs Dn re I po => ?_⟩
  refine se σ env H F c cs _ re I (PoS.cut re po _ fun d cs1 _ H1 F1 c1 v x1 I1 rv po1 => ?_)
  split at po1
  · rename_i env1 h
    exact q σ env H1 F1 c1 cs1 v d env1 _ (re.mono x1.le) I1 rv h fun σ1 re1 _ => PoS.next I1 re1 po1
  · exact po1.elim

/-! ### a, b = e, f (its stores swap) -/
def sPar (is : List Nat) (ms : MA) : MS := fun env cs => match ms env cs with
  | .ok ds cs1 => match tgTs is ds env with
    | some env1 => .nx env1 cs1
    | none => .stuck
  | .exc n fs cs1 => .exc n fs env cs1
  | .stuck => .stuck
section
variable {X : Cx} {W : WX} {ms : MA} {px py pz pt pos : Pos} {kt k2 : Nat} {pt2 : Pos} {x y z : Str} {i j l : Nat} {a b c : Expr}
theorem sm_par2 (hc : X.calm = true) (hN : X.N.Nodup) (hi : X.N[i]? = some x) (hj : X.N[j]? = some y) (hx : X.env.scope.names.lookup x = some .local) (hy : X.env.scope.names.lookup y = some .local) (ha : Xa X W [a, b] ms) (hij : i ≠ j := by decide)
    (hw : swappedStores [.Tuple [.Name x px, .Name y py] kt pt] (.Tuple [a, b] k2 pt2) X.env = pure (some [x, y]) := by rfl)
    (hs : swapsWithSole [.Tuple [.Name x px, .Name y py] kt pt] (.Tuple [a, b] k2 pt2) pos.line X.env = pure false := by rfl) : Sm X W (.Assign [.Tuple [.Name x px, .Name y py] kt pt] (.Tuple [a, b] k2 pt2) pos) (sPar [i, j] ms) := by
  obtain ⟨t, pa, sa⟩ := ha
  refine ⟨_, ps_par hc hN hi hj hij hx hy pa hw hs, fun σ env H F c cs Dn re I po => ?_⟩
  refine sa σ env H F c cs _ re I ?_
  unfold sPar at po
  cases h1 : ms env cs with
  | exc n fs c1 => rw [h1] at po; exact fun H1 F1 c1 x1 I1 C dx vs a b d => po H1 F1 c1 x1 I1 σ C dx vs (re.mono x1.le) a b d
  | stuck => rw [h1] at po; exact po.elim
  | ok ds cs1 =>
    rw [h1] at po
    simp only at po
    split at po
    · rename_i env1 h
      intro H1 F2 c1 x1 I1 vs rv
      match ds, rv, h with
      | [d1, d2], .cons (v := v1) r1 (.cons (v := v2) r2 .nil), h =>
        simp only [tgTs, Option.some.injEq] at h
        subst h
        exact ⟨v1, v2, rfl, po _ _ _ x1 I1 _ (((re.mono x1.le).set i r1).set j r2)⟩
      | [], .nil, h => simp [tgTs] at h
      | [d1], .cons _ .nil, h => simp [tgTs] at h
      | d1 :: d2 :: d3 :: r, .cons _ (.cons _ (.cons _ _)), h => simp [tgTs] at h
    · exact po.elim
theorem sm_par3 (hc : X.calm = true) (hN : X.N.Nodup) (hi : X.N[i]? = some x) (hj : X.N[j]? = some y) (hl : X.N[l]? = some z) (hx : X.env.scope.names.lookup x = some .local) (hy : X.env.scope.names.lookup y = some .local) (hz : X.env.scope.names.lookup z = some .local) (ha : Xa X W [a, b, c] ms) (hij : i ≠ j := by decide) (hil : i ≠ l := by decide) (hjl : j ≠ l := by decide)
    (hw : swappedStores [.Tuple [.Name x px, .Name y py, .Name z pz] kt pt] (.Tuple [a, b, c] k2 pt2) X.env = pure (some [x, y, z]) := by rfl)
    (hs : swapsWithSole [.Tuple [.Name x px, .Name y py, .Name z pz] kt pt] (.Tuple [a, b, c] k2 pt2) pos.line X.env = pure false := by rfl) : Sm X W (.Assign [.Tuple [.Name x px, .Name y py, .Name z pz] kt pt] (.Tuple [a, b, c] k2 pt2) pos) (sPar [i, j, l] ms) := by
  obtain ⟨t, pa, sa⟩ := ha
  refine ⟨_, ps_par3 hc hN hi hj hl hij hil hjl hx hy hz pa hw hs, fun σ env H F c cs Dn re I po => ?_⟩
  refine sa σ env H F c cs _ re I ?_
  unfold sPar at po
  cases h1 : ms env cs with
  | exc n fs c1 => rw [h1] at po; exact fun H1 F1 c1 x1 I1 C dx vs a b d => po H1 F1 c1 x1 I1 σ C dx vs (re.mono x1.le) a b d
  | stuck => rw [h1] at po; exact po.elim
  | ok ds cs1 =>
    rw [h1] at po
    simp only at po
    split at po
    · rename_i env1 h
      intro H1 F2 c1 x1 I1 vs rv
      match ds, rv, h with
      | [d1, d2, d3], .cons (v := v1) r1 (.cons (v := v2) r2 (.cons (v := v3) r3 .nil)), h =>
        simp only [tgTs, Option.some.injEq] at h
        subst h
        exact ⟨v1, v2, v3, rfl, po _ _ _ x1 I1 _ ((((re.mono x1.le).set i r1).set j r2).set l r3)⟩
      | [], .nil, h => simp [tgTs] at h
      | [d1], .cons _ .nil, h => simp [tgTs] at h
      | [d1, d2], .cons _ (.cons _ .nil), h => simp [tgTs] at h
      | d1 :: d2 :: d3 :: d4 :: r, .cons _ (.cons _ (.cons _ (.cons _ _))), h => simp [tgTs] at h
    · exact po.elim
end
end L3

namespace L3
open PySem L2 PySem.Spec PyProof.Rows PySem.SeqAt MeetsSeq AutoSeq1

/-! ### a dict among texts -/
theorem dict_eq_declines_str (l : Addr) (es : Array DictEntry) (n : Nat) (dd : Option Addr) (sl : Array (Option Value)) (b : Str) (u : Tok) :
    Meets (Builtin.«dict.__eq__» ⟨[.ref l, .str b u], []⟩) (fun _ R s => s.heap.get? l = some { cls := .type "dict", dict := dd, data := .dict es n, slots := sl } ∧ R (.ok (.ret .notImplemented)) s) :=
  .of_wp fun prog w A R s h => by obtain ⟨hp, g, d, tk, os⟩ := s; obtain ⟨hl, h⟩ := h; have f1 := F.sub_str_dict; wp_walk using wpAny_loadPart' hl; exact ⟨_, rfl, h⟩
theorem str_eq_declines_dict (b : Str) (u : Tok) (l : Addr) (es : Array DictEntry) (n : Nat) (dd : Option Addr) (sl : Array (Option Value)) :
    Meets (Builtin.«str.__eq__» ⟨[.str b u, .ref l], []⟩) (fun _ R s => s.heap.get? l = some { cls := .type "dict", dict := dd, data := .dict es n, slots := sl } ∧ R (.ok (.ret .notImplemented)) s) :=
  .of_wp fun prog w A R s h => by obtain ⟨hp, g, d, tk, os⟩ := s; obtain ⟨hl, h⟩ := h; wp_walk using wpAny_loadPart' hl, wpAny_load hl; exact ⟨_, rfl, h⟩
theorem RcAt.str_dict {A : Around} {s : Shared} {l : Addr} {es : Array DictEntry} {n : Nat} {dd : Option Addr} {sl : Array (Option Value)} (b : Str) (u : Tok) (ho : s.heap.get? l = some { cls := .type "dict", dict := dd, data := .dict es n, slots := sl }) (hu : A.units < cLine) : RcAt A s (.str b u) (.ref l) false := fun prog w E Q h => by
  exact rc_eq_decline_or (k := false) (typeIs_str s b u) ⟨_, ho, rfl⟩ (by decide) F.sub_dict_str F.slot_str_eq F.slot_dict_eq_refl
    (fun _ hq => call_meets F.slot_str_eq (typeIs_str s b u) F.entry_str_eq (F.args_str_eq_2 _ _) (str_eq_declines_dict b u l es n dd sl) ⟨ho, hq⟩)
    (fun _ hq => call_meets F.slot_dict_eq_refl ⟨_, ho, rfl⟩ F.entry_dict_eq (F.args_dict_eq_2 _ _) (dict_eq_declines_str l es n dd sl b u) ⟨ho, hq⟩)
    (fun _ hq => wpAny_of_eq (rfl : isSame (.str b u) (.ref l) = pure false) hq) (.inr hu) h
theorem EqAt.str_dict {A : Around} {s : Shared} {l : Addr} {es : Array DictEntry} {n : Nat} {dd : Option Addr} {sl : Array (Option Value)} (b : Str) (u : Tok) (ho : s.heap.get? l = some { cls := .type "dict", dict := dd, data := .dict es n, slots := sl }) (hu : A.units < cLine) : EqAt A s (.str b u) (.ref l) false := fun prog w E Q h => by
  unfold eqBool
  refine wpAny_holding ?_
  refine wpAny_ite_split (fun hab => absurd (eq_of_beq hab) nofun) (fun _ => ?_)
  exact wpAny_bind (RcAt.str_dict b u ho hu prog w E _ (wpAny_truthy_bool h))
end L3
namespace L3
open PySem L2 PySem.Spec PyProof.Rows PySem.SeqAt MeetsSeq AutoSeq1
/-- a dict is none of some texts -/
def rInT (K : PySem.W.Frag) (neg : Bool) : R2 := fun x y H Q => ∃ (p a : Addr) (ys : List Str) (kvs : List (Key × V)), y = .ref p ∧ L2.SqL K H p (ys.map V.str) ∧ x = .ref a ∧ Rd H a (.dK kvs) ∧ Q (.bl neg) H
theorem all_strs : ∀ {ys : List Str} {us : List Value}, L2.Vals (ys.map V.str) us → ∀ u ∈ us, ∃ b t, u = .str b t
  | [], _, .nil, u, m => by cases m
  | y :: ys, _, .cons r q, u, m => by
    rcases List.mem_cons.mp m with e | m
    · subst e; obtain ⟨t, e⟩ := r; exact ⟨y, t, e⟩
    · exact all_strs q u m
theorem any_no (us : Array Value) : us.any (fun _ => false) = false := by
  rw [← Array.any_toList]
  induction us.toList with
  | nil => rfl
  | cons a l ih => simpa using ih
theorem op_inT {X : Cx} (hu : X.A.units + 65 < cLine) : CmpR X (compareOp .In) (rInT X.K false) := by
  intro pins s σ H x y v u Q I rx ry h
  obtain ⟨p, a, ys, kvs, rfl, hs, rfl, hd, q⟩ := h
  obtain rfl : u = .ref p := ry
  obtain rfl : v = .ref a := rx
  obtain ⟨its, rv, pl, hz⟩ := I.i.list hs
  obtain ⟨_, _, vs, kv, o, es, ep, ho, ex, dt, _, pr, _⟩ := dk_rd I.hok hd
  refine in_listAt (fun _ => false) pl.isList (fun y hy => ?_) ?_
  · obtain ⟨b, t, rfl⟩ := all_strs rv y (by simpa using hy)
    obtain ⟨cls, dd, data, sl⟩ := o
    obtain ⟨rfl, _⟩ := ex
    simp only at dt
    subst dt
    exact EqAt.str_dict b t ho (by show X.A.units + 1 < _; omega)
  · rw [any_no]; exact endB I q
theorem op_notInT {X : Cx} (hu : X.A.units + 65 < cLine) : CmpR X (compareOp .NotIn) (rInT X.K true) := by
  intro pins s σ H x y v u Q I rx ry h
  obtain ⟨p, a, ys, kvs, rfl, hs, rfl, hd, q⟩ := h
  obtain rfl : u = .ref p := ry
  obtain rfl : v = .ref a := rx
  obtain ⟨its, rv, pl, hz⟩ := I.i.list hs
  obtain ⟨_, _, vs, kv, o, es, ep, ho, ex, dt, _, pr, _⟩ := dk_rd I.hok hd
  refine notIn_listAt (fun _ => false) pl.isList (fun y hy => ?_) ?_
  · obtain ⟨b, t, rfl⟩ := all_strs rv y (by simpa using hy)
    obtain ⟨cls, dd, data, sl⟩ := o
    obtain ⟨rfl, _⟩ := ex
    simp only at dt
    subst dt
    exact EqAt.str_dict b t ho (by show X.A.units + 1 < _; omega)
  · rw [any_no]; exact endB I q
end L3

namespace L3
open PySem L2 PySem.Spec PyProof.Rows PySem.SeqAt
def isDct (cs : Cells) : D → Bool
  | .dct _ => true
  | .loc n => match cs[n]? with
    | some (.dct _) => true
    | _ => false
  | _ => false
def strsL : List D → Option (List (List Nat))
  | [] => some []
  | .str l :: r => (strsL r).map (l :: ·)
  | _ => none
theorem strsL_rv {g : Gd} {F : Hp} {c : List Addr} : ∀ {vs : List V} {ds : List D} {ls : List (List Nat)}, RVs g F c vs ds → strsL ds = some ls → vs = (ls.map mk).map V.str
  | _, _, _, .nil, h => by simp only [strsL, Option.some.injEq] at h; subst h; rfl
  | _, _, ls, .cons r q, h => by
    cases r <;> simp only [strsL] at h
    case str l =>
      simp only [Option.map_eq_some_iff] at h
      obtain ⟨t, h1, rfl⟩ := h
      rw [strsL_rv q h1]; rfl
    all_goals cases h
theorem isDct_at {g : Gd} {H F : Hp} {c : List Addr} {cs : Cells} (I : Ih g H F c cs) {v : V} {d : D} (r : RV g F c v d) (h : isDct cs d = true) : ∃ a kvs, v = .ref a ∧ Rd H a (.dK kvs) := by
  unfold isDct at h
  split at h
  · cases r with
    | @dct a kvs _ h1 h2 => exact ⟨a, kvs, rfl, h1.elim (fun e => .inl (I.sub _ _ e)) fun ⟨o, e⟩ => .inr ⟨o, I.sub _ _ e⟩⟩
  · split at h
    · rename_i l hl
      cases r with
      | @loc _ a ha =>
        obtain ⟨_, kvs, h1, _⟩ := I.cell _ _ _ ha hl
        exact ⟨a, kvs, rfl, .inl h1⟩
    · cases h
  · cases h
/-- is it among them, whatever they are -/
def inBX (cs : Cells) (x y : D) : Option Bool := match inB cs x y with
  | some b => some b
  | none => match isDct cs x, listOf cs y with
    | true, some ds => (strsL ds).map fun _ => false
    | _, _ => match pyOf cs x, pyOf cs y with
      | some p, some (.list q) => if shaped p && shaped (.list q) then some (q.any fun z => PyData.eqv z p) else none
      | _, _ => none
def inX (cs : Cells) (x y : D) : R := match inBX cs x y with
  | some b => .ok (.bl b) cs
  | none => .stuck
def ninX (cs : Cells) (x y : D) : R := match inBX cs x y with
  | some b => .ok (.bl !b) cs
  | none => .stuck
theorem o2_inX {g : Gd} : O2 g (fun x y H Q => (rInS1 x y H Q ∨ rIn g.K false x y H Q) ∨ rInD g.K x y H Q ∨ rInT g.K false x y H Q) inX := by
  intro W H F c cs x y d e Q I rx ry po
  unfold inX inBX at po
  split at po
  · rename_i k hk
    split at hk
    · rename_i b hb
      simp only [Option.some.injEq] at hk
      subst hk
      refine .inl (o2_in W H F c cs x y d e Q I rx ry ?_)
      unfold inD
      rw [hb]; exact po
    · split at hk
      · rename_i ds hc hl
        simp only [Option.map_eq_some_iff] at hk
        obtain ⟨ls, h1, rfl⟩ := hk
        obtain ⟨a, kvs, rfl, hd⟩ := isDct_at I rx hc
        obtain ⟨q, vs, rfl, hs, r⟩ := listOf_at I ry hl
        rw [strsL_rv r h1] at hs
        exact .inr (.inr ⟨q, a, _, kvs, rfl, .inl (.inl hs), rfl, hd, PoE.here I (.bl _) po⟩)
      · split at hk
        · rename_i p q e1 e2
          split at hk
          · rename_i sh
            simp only [Bool.and_eq_true] at sh
            simp only [Option.some.injEq] at hk
            subst hk
            exact .inr (.inl ⟨p, q, pyOf_dp I rx e1 (noDict_of (canLay_of_shaped sh.1)), pyOf_dp I ry e2 (noDict_of (canLay_of_shaped sh.2)), sh.1, sh.2, PoE.here I (.bl _) po⟩)
          · cases hk
        · cases hk
  · exact po.elim
theorem o2_ninX {g : Gd} : O2 g (fun x y H Q => (rNInS1 x y H Q ∨ rIn g.K true x y H Q) ∨ rNotInD g.K x y H Q ∨ rInT g.K true x y H Q) ninX := by
  intro W H F c cs x y d e Q I rx ry po
  unfold ninX inBX at po
  split at po
  · rename_i k hk
    split at hk
    · rename_i b hb
      simp only [Option.some.injEq] at hk
      subst hk
      refine .inl (o2_nin W H F c cs x y d e Q I rx ry ?_)
      unfold ninD
      rw [hb]; exact po
    · split at hk
      · rename_i ds hc hl
        simp only [Option.map_eq_some_iff] at hk
        obtain ⟨ls, h1, rfl⟩ := hk
        obtain ⟨a, kvs, rfl, hd⟩ := isDct_at I rx hc
        obtain ⟨q, vs, rfl, hs, r⟩ := listOf_at I ry hl
        rw [strsL_rv r h1] at hs
        exact .inr (.inr ⟨q, a, _, kvs, rfl, .inl (.inl hs), rfl, hd, PoE.here I (.bl _) po⟩)
      · split at hk
        · rename_i p q e1 e2
          split at hk
          · rename_i sh
            simp only [Bool.and_eq_true] at sh
            simp only [Option.some.injEq] at hk
            subst hk
            exact .inr (.inl ⟨p, q, pyOf_dp I rx e1 (noDict_of (canLay_of_shaped sh.1)), pyOf_dp I ry e2 (noDict_of (canLay_of_shaped sh.2)), sh.1, sh.2, PoE.here I (.bl _) po⟩)
          · cases hk
        · cases hk
  · exact po.elim
section
variable {X : Cx} {W : WX} {k : Nat} {pos : Pos} {a b : Expr} {ma mb : ME}
theorem un65 (hr : Room k X.A) : X.A.units + 65 < cLine := by have := hr.un; omega
theorem xp_inX (hr : Room k X.A) (ha : XpW X W a ma) (hb : XpW X W b mb) (hm : behindInMarks .In b = false) : Xp X W (.Compare a [.In] [b] pos) (op2 inX ma mb) := xp_cmpW ((op_in_sign.or op_in_seq).or ((oc_inD (un65 hr)).or (op_inT (un65 hr)))) o2_inX ha hb hm
theorem xp_ninX (hr : Room k X.A) (ha : XpW X W a ma) (hb : XpW X W b mb) (hm : behindInMarks .NotIn b = false) : Xp X W (.Compare a [.NotIn] [b] pos) (op2 ninX ma mb) := xp_cmpW ((op_notIn_sign.or op_notIn_seq).or ((oc_notInD (un65 hr)).or (op_notInT (un65 hr)))) o2_ninX ha hb hm
theorem xt_inX (hr : Room k X.A) (ha : XpW X W a ma) (hb : XpW X W b mb) (hm : behindInMarks .In b = false) : Xt1 X W (.Compare a [.In] [b] pos) (op2 inX ma mb) := xt_cmpW ((op_in_sign.or op_in_seq).or ((oc_inD (un65 hr)).or (op_inT (un65 hr)))) o2_inX ha hb hm
theorem xt_ninX (hr : Room k X.A) (ha : XpW X W a ma) (hb : XpW X W b mb) (hm : behindInMarks .NotIn b = false) : Xt1 X W (.Compare a [.NotIn] [b] pos) (op2 ninX ma mb) := xt_cmpW ((op_notIn_sign.or op_notIn_seq).or ((oc_notInD (un65 hr)).or (op_notInT (un65 hr)))) o2_ninX ha hb hm
end
end L3

namespace L3
open PySem L2 PySem.Spec PyProof.Rows PySem.SeqAt MeetsSeq AutoSeq1
/-! ### a dict == a text, a dict != a text -/
theorem dict_ne_declines_str (l : Addr) (es : Array DictEntry) (n : Nat) (dd : Option Addr) (sl : Array (Option Value)) (b : Str) (u : Tok) :
    Meets (Builtin.«dict.__ne__» ⟨[.ref l, .str b u], []⟩) (fun _ R s => s.heap.get? l = some { cls := .type "dict", dict := dd, data := .dict es n, slots := sl } ∧ R (.ok (.ret .notImplemented)) s) :=
  .of_wp fun prog w A R s h => by obtain ⟨hp, g, d, tk, os⟩ := s; obtain ⟨hl, h⟩ := h; have f1 := F.sub_str_dict; wp_walk using wpAny_loadPart' hl; exact ⟨_, rfl, h⟩
theorem str_ne_declines_dict (b : Str) (u : Tok) (l : Addr) (es : Array DictEntry) (n : Nat) (dd : Option Addr) (sl : Array (Option Value)) :
    Meets (Builtin.«str.__ne__» ⟨[.str b u, .ref l], []⟩) (fun _ R s => s.heap.get? l = some { cls := .type "dict", dict := dd, data := .dict es n, slots := sl } ∧ R (.ok (.ret .notImplemented)) s) :=
  .of_wp fun prog w A R s h => by obtain ⟨hp, g, d, tk, os⟩ := s; obtain ⟨hl, h⟩ := h; wp_walk using wpAny_loadPart' hl, wpAny_load hl; exact ⟨_, rfl, h⟩
theorem RcNeAt.dict_str {A : Around} {s : Shared} {l : Addr} {es : Array DictEntry} {n : Nat} {dd : Option Addr} {sl : Array (Option Value)} (b : Str) (u : Tok) (ho : s.heap.get? l = some { cls := .type "dict", dict := dd, data := .dict es n, slots := sl }) (hu : A.units < cLine) : RcNeAt A s (.ref l) (.str b u) true := fun prog w E Q h => by
  exact rc_ne_decline_or (k := false) ⟨_, ho, rfl⟩ (typeIs_str s b u) (by decide) F.sub_str_dict F.slot_dict_ne F.slot_str_ne_refl
    (fun _ hq => call_meets F.slot_dict_ne ⟨_, ho, rfl⟩ F.entry_dict_ne (F.args_dict_ne_2 _ _) (dict_ne_declines_str l es n dd sl b u) ⟨ho, hq⟩)
    (fun _ hq => call_meets F.slot_str_ne_refl (typeIs_str s b u) F.entry_str_ne (F.args_str_ne_2 _ _) (str_ne_declines_dict b u l es n dd sl) ⟨ho, hq⟩)
    (fun _ hq => wpAny_of_eq (rfl : isSame (.ref l) (.str b u) = pure false) hq) (.inr hu) h
theorem RcAt.dict_str {A : Around} {s : Shared} {l : Addr} {es : Array DictEntry} {n : Nat} {dd : Option Addr} {sl : Array (Option Value)} (b : Str) (u : Tok) (ho : s.heap.get? l = some { cls := .type "dict", dict := dd, data := .dict es n, slots := sl }) (hu : A.units < cLine) : RcAt A s (.ref l) (.str b u) false := fun prog w E Q h => by
  exact rc_eq_decline_or (k := false) ⟨_, ho, rfl⟩ (typeIs_str s b u) (by decide) F.sub_str_dict F.slot_dict_eq F.slot_str_eq_refl
    (fun _ hq => call_meets F.slot_dict_eq ⟨_, ho, rfl⟩ F.entry_dict_eq (F.args_dict_eq_2 _ _) (dict_eq_declines_str l es n dd sl b u) ⟨ho, hq⟩)
    (fun _ hq => call_meets F.slot_str_eq_refl (typeIs_str s b u) F.entry_str_eq (F.args_str_eq_2 _ _) (str_eq_declines_dict b u l es n dd sl) ⟨ho, hq⟩)
    (fun _ hq => wpAny_of_eq (rfl : isSame (.ref l) (.str b u) = pure false) hq) (.inr hu) h
def rDT (k : Bool) : R2 := fun x y H Q => ∃ (a : Addr) (b : Str) (kvs : List (Key × V)), x = .ref a ∧ y = .str b ∧ Rd H a (.dK kvs) ∧ Q (.bl k) H
theorem op_neT {X : Cx} (hu : X.A.units + 64 < cLine) : CmpR X (compareOp .NotEq) (rDT true) := by
  intro pins s σ H x y v u Q I rx ry h
  obtain ⟨a, b, kvs, rfl, rfl, hd, q⟩ := h
  obtain rfl : v = .ref a := rx
  obtain ⟨t, rfl⟩ := (show ∃ t, u = Value.str b t from ry)
  obtain ⟨_, _, vs, kv, o, es, ep, ho, ex, dt, _, pr, _⟩ := dk_rd I.hok hd
  obtain ⟨cls, dd, data, sl⟩ := o
  obtain ⟨rfl, _⟩ := ex
  simp only at dt
  subst dt
  exact RcNeAt.dict_str b t ho (by omega) _ _ _ _ (endB I q)
theorem op_eqT {X : Cx} (hu : X.A.units + 64 < cLine) : CmpR X (compareOp .Eq) (rDT false) := by
  intro pins s σ H x y v u Q I rx ry h
  obtain ⟨a, b, kvs, rfl, rfl, hd, q⟩ := h
  obtain rfl : v = .ref a := rx
  obtain ⟨t, rfl⟩ := (show ∃ t, u = Value.str b t from ry)
  obtain ⟨_, _, vs, kv, o, es, ep, ho, ex, dt, _, pr, _⟩ := dk_rd I.hok hd
  obtain ⟨cls, dd, data, sl⟩ := o
  obtain ⟨rfl, _⟩ := ex
  simp only at dt
  subst dt
  exact RcAt.dict_str b t ho (by omega) _ _ _ _ (endB I q)
def isStr : D → Bool
  | .str _ => true
  | _ => false
def eqBX (cs : Cells) (x y : D) : Option Bool := match eqB cs x y with
  | some b => some b
  | none => if isDct cs x = true ∧ isStr y = true then some false else none
def eqX (cs : Cells) (x y : D) : R := match eqBX cs x y with
  | some b => .ok (.bl b) cs
  | none => .stuck
def neX (cs : Cells) (x y : D) : R := match eqBX cs x y with
  | some b => .ok (.bl !b) cs
  | none => .stuck
theorem isStr_rv {g : Gd} {F : Hp} {c : List Addr} {v : V} {d : D} (r : RV g F c v d) (h : isStr d = true) : ∃ b, v = .str b := by
  cases r <;> first | exact ⟨_, rfl⟩ | cases h
theorem o2_eqX {g : Gd} {r : R2} (h : O2 g r eqD) : O2 g (fun x y H Q => r x y H Q ∨ rDT false x y H Q) eqX := by
  intro W H F c cs x y d e Q I rx ry po
  unfold eqX eqBX at po
  split at po
  · rename_i k hk
    split at hk
    · rename_i b hb
      simp only [Option.some.injEq] at hk
      subst hk
      exact .inl (h W H F c cs x y d e Q I rx ry (by unfold eqD; rw [hb]; exact po))
    · split at hk
      · rename_i hc
        simp only [Option.some.injEq] at hk
        subst hk
        obtain ⟨a, kvs, rfl, hd⟩ := isDct_at I rx hc.1
        obtain ⟨b, rfl⟩ := isStr_rv ry hc.2
        exact .inr ⟨a, b, kvs, rfl, rfl, hd, PoE.here I (.bl _) po⟩
      · cases hk
  · exact po.elim
theorem o2_neX {g : Gd} {r : R2} (h : O2 g r neD) : O2 g (fun x y H Q => r x y H Q ∨ rDT true x y H Q) neX := by
  intro W H F c cs x y d e Q I rx ry po
  unfold neX eqBX at po
  split at po
  · rename_i k hk
    split at hk
    · rename_i b hb
      simp only [Option.some.injEq] at hk
      subst hk
      exact .inl (h W H F c cs x y d e Q I rx ry (by unfold neD; rw [hb]; exact po))
    · split at hk
      · rename_i hc
        simp only [Option.some.injEq] at hk
        subst hk
        obtain ⟨a, kvs, rfl, hd⟩ := isDct_at I rx hc.1
        obtain ⟨b, rfl⟩ := isStr_rv ry hc.2
        exact .inr ⟨a, b, kvs, rfl, rfl, hd, PoE.here I (.bl _) po⟩
      · cases hk
  · exact po.elim
section
variable {X : Cx} {W : WX} {k : Nat} {pos : Pos} {a b : Expr} {ma mb : ME}
theorem un64 (hr : Room k X.A) : X.A.units + 64 < cLine := by have := hr.un; omega
theorem xp_eqX (hr : Room k X.A) (ha : XpW X W a ma) (hb : XpW X W b mb) (hm : behindInMarks .Eq b = false := by exact nomark _) : Xp X W (.Compare a [.Eq] [b] pos) (op2 eqX ma mb) := xp_cmpW ((oc_eq.or (oc_eqD (un64 hr))).or (op_eqT (un64 hr))) (o2_eqX o2_eq) ha hb hm
theorem xp_neX (hr : Room k X.A) (ha : XpW X W a ma) (hb : XpW X W b mb) (hm : behindInMarks .NotEq b = false := by exact nomark _) : Xp X W (.Compare a [.NotEq] [b] pos) (op2 neX ma mb) := xp_cmpW ((oc_ne.or (oc_neD (un64 hr))).or (op_neT (un64 hr))) (o2_neX o2_ne) ha hb hm
theorem xt_eqX (hr : Room k X.A) (ha : XpW X W a ma) (hb : XpW X W b mb) (hm : behindInMarks .Eq b = false := by exact nomark _) : Xt1 X W (.Compare a [.Eq] [b] pos) (op2 eqX ma mb) := xt_cmpW ((oc_eq.or (oc_eqD (un64 hr))).or (op_eqT (un64 hr))) (o2_eqX o2_eq) ha hb hm
theorem xt_neX (hr : Room k X.A) (ha : XpW X W a ma) (hb : XpW X W b mb) (hm : behindInMarks .NotEq b = false := by exact nomark _) : Xt1 X W (.Compare a [.NotEq] [b] pos) (op2 neX ma mb) := xt_cmpW ((oc_ne.or (oc_neD (un64 hr))).or (op_neT (un64 hr))) (o2_neX o2_ne) ha hb hm
end
end L3

namespace L3
open PySem L2 PySem.Spec PyProof.Rows

/-! ### instances: their attributes' texts are out -/
section
variable {X : Cx} {pins : List (Addr × Obj)} {σ : L2.St} {H : Hp} {s : Shared} {a C dx : Addr} {fs : List (Str × V)} {f : Str} {v : V} {A : Around} {E : Value → Shared → Prop}
theorem getattr_ok {b : Bool} {Q : Value → Shared → Prop} (I : Inv X pins σ H s) (e : H a = some (.ins C dx fs)) (c : Cls X.K C) (n : NoAttr X.K C f) (l : fs.lookup f = some v)
    (h : ∀ u s', Inv X pins σ H s' → RelV s'.toks v u → Q u s') : wpAny (model X.prog X.w) A (getAttr (.ref a) f b) Q E s := by
  obtain ⟨mA, O, r, _, _, ho⟩ := ins_get I.hok e
  obtain ⟨u, hu, ru⟩ := RelO.some_of (v := v) (o := mA f) (by rw [← l]; exact r f)
  exact get_map I.kIn O (c.get f) c.hd n hu (handed_of ru) (h u _ (I.tok (Nat.le_succ _)) ⟨ru, (I.g dx _ ho mA O.ns.ns f u hu).mono (Nat.le_succ _)⟩)
theorem getmeth_ok {m : Str} {g : Addr} {pl : Sem Bool} {Q : Value × List Value → Shared → Prop} (I : Inv X pins σ H s) (e : H a = some (.ins C dx fs)) (c : Cls X.K C) (k : Meth X.K C m g) (l : fs.lookup m = none)
    (h : Q (.ref g, [.ref a]) s) : wpAny (model X.prog X.w) A (getMethod (.ref a) m pl) Q E s := L2.getmeth_ok I.i e c k l h
theorem setattr_ok {y : V} {u : Value} {Q : Unit → Shared → Prop} (I : Inv X pins σ H s) (e : H a = some (.ins C dx fs)) (c : Cls X.K C) (n : NoAttr X.K C f) (hl : fs.length < 1000) (ry : RelV s.toks y u)
    (h : ∀ s', Inv X pins σ (upd H a (.ins C dx (putF f y fs))) s' → Q () s') : wpAny (model X.prog X.w) A (setAttr (.ref a) f u) Q E s := by
  obtain ⟨mA, O, r, wi, _, ho⟩ := ins_get I.hok e
  have hz : (fs.map (·.1)).length ≤ sizeLine := by rw [List.length_map, sizeLine_eq]; omega
  refine set_map I.kIn O c.sa c.po n.taker c.hd wi hz fun h' O' sb => h _ ?_
  have hd : ∃ o, h'.get? dx = some o := let ⟨o, _, _, e', _⟩ := O'.ns; ⟨o, e'⟩
  refine I.write (x := a) (e := dx) (t' := s.toks + 2) (by rw [e]; exact True.intro) (.inr ho) (fun b q hb z => (sb.2 b hb).trans z) hd ?_ trivial (fun _ m nn x w q => ?_) (Nat.le_add_right _ _)
  · refine ⟨by rw [upd_ne O.ne]; exact ho, ?_, O.ne, O'.obj, _, O'.ns, fun g => ?_, fun g hg => ?_⟩
    · have := length_putF f y fs; omega
    · show RelO ((putF f y fs).lookup g) (if g = f then some u else mA g)
      rw [lookup_putF]
      by_cases q : g = f
      · rw [if_pos q, if_pos q]; exact ry.1
      · rw [if_neg q, if_neg q]; exact r g
    · by_cases q : g = f
      · rw [q]; exact (keys_putF f y fs).1
      · refine (keys_putF f y fs).2 g (wi g fun z => hg ?_)
        show (if g = f then some u else mA g) = none
        rw [if_neg q]; exact z
  · have z := ns_inj nn O'.ns.ns
    subst z
    have q : (if x = f then some u else mA x) = some w := q
    by_cases hx : x = f
    · rw [if_pos hx] at q; cases q; exact ry.2.mono (Nat.le_add_right _ _)
    · rw [if_neg hx] at q; exact (I.g dx _ ho mA O.ns.ns x w q).mono (Nat.le_add_right _ _)
theorem Inv.made (I : Inv X pins σ H s) : Inv X pins σ (upd (upd H s.heap.objs.size (.own (s.heap.objs.size + 1))) (s.heap.objs.size + 1) (.ins C s.heap.objs.size []))
    { s with heap := (s.heap.push PySem.W.emptyDict).push (PySem.W.instObj C s.heap.objs.size) } := by
  have e1 : (s.heap.push PySem.W.emptyDict).get? s.heap.objs.size = some PySem.W.emptyDict := Heap.get?_push_size s.heap rfl
  have e2 : ((s.heap.push PySem.W.emptyDict).push (PySem.W.instObj C s.heap.objs.size)).get? (s.heap.objs.size + 1) = some (PySem.W.instObj C s.heap.objs.size) := by
    have := Heap.get?_push_size (s.heap.push PySem.W.emptyDict) (o := PySem.W.instObj C s.heap.objs.size) rfl
    rwa [Heap.size_push] at this
  have e3 : (s.heap.push PySem.W.emptyDict).Ns s.heap.objs.size (fun _ => none) := ⟨PySem.W.emptyDict, #[], _, e1, rfl, (fun e he => absurd he (by simp)), fun _ => rfl⟩
  have I1 := I.laid (a := s.heap.objs.size) (o := .own (s.heap.objs.size + 1)) (h' := s.heap.push PySem.W.emptyDict) (t' := s.toks) (fun b u q => Heap.get?_push_of_some _ q) (Nat.le_refl _) ⟨_, e1⟩ (fun m n x u q => by
    have z := ns_inj n e3
    subst z; cases q) (Nat.le_refl _)
  refine I1.laid (a := s.heap.objs.size + 1) (o := .ins C s.heap.objs.size []) (t' := s.toks) (fun b u q => Heap.get?_push_of_some _ q) (Nat.le_of_eq (Heap.size_push _ _)) ?_ trivial (Nat.le_refl _)
  have ne : s.heap.objs.size ≠ s.heap.objs.size + 1 := Nat.ne_of_lt (Nat.lt_succ_self _)
  exact ⟨by rw [upd_ne ne, upd_same], Nat.zero_le _, ne, e2, fun _ => none, (Heap.Ns1.of_empty e3).at fun o q => Heap.get?_push_of_some _ q, fun _ => True.intro, fun y hy => absurd rfl hy⟩
end
section
variable {X : Cx} {o e value : Expr} {f : Str} {pos pos' tpos : Pos} {ta tv : TE}
theorem pe_fld (he : PE X e ta) (hb : attributeBase e f X.env (eval e X.env) = eval e X.env) : PE X (.Attribute e f pos) (tFld X.K ta f) := by
  constructor
  intro pins s σ H Q I h
  refine attr_of hb (thn (he.run pins s σ H _ I h) fun u s1 z => ?_)
  obtain ⟨x, H1, I1, ⟨rx, _⟩, a, C, dx, fs, v, ex, ea, c, n, l, q⟩ := z
  subst ex
  obtain rfl : u = Value.ref a := rx
  exact getattr_ok I1 ea c n l fun u' s2 I2 ru => ⟨v, H1, I2, ru, q⟩
theorem ps_fld (ha : PE X o ta) (hv : PE X value tv) (hs : swapsWith value (some (.Attribute o f pos')) pos.line X.env = pure false) : PS X (.Assign [.Attribute o f pos'] value pos) (sFld X.K ta tv f) := by
  constructor
  intro pins s σ H D I h
  refine plainObj_wpAny_Assign_Attribute (thn (hv.run pins s σ H _ I h) fun u s1 z1 => ?_) hs
  obtain ⟨y, H1, I1, ry, q⟩ := z1
  refine thk (ha.run pins s1 σ H1 _ I1 q) fun ov s2 k2 z2 => ?_
  obtain ⟨x, H2, I2, ⟨rx, _⟩, a, C, dx, fs, ex, ea, c, n, l, q2⟩ := z2
  subst ex
  obtain rfl : ov = Value.ref a := rx
  exact setattr_ok I2 ea c n l (ry.mono k2) fun s3 I3 => ⟨σ, _, I3, q2⟩
end
end L3

/-! instances of the text's own classes: they stand in cells -/
namespace L3
open PySem L2
def insAt (cs : Cells) : D → Option (Nat × Str × List (Str × D))
  | .loc n => match cs[n]? with
    | some (.ins x fs) => some (n, x, fs)
    | _ => none
  | _ => none
section
variable {g : Gd} {H F : Hp} {c : List Addr} {cs : Cells}
theorem insAt_at (I : Ih g H F c cs) {v : V} {d : D} {n : Nat} {x : Str} {gs : List (Str × D)} (r : RV g F c v d) (h : insAt cs d = some (n, x, gs)) :
    ∃ a C dx fs, d = .loc n ∧ v = .ref a ∧ c[n]? = some a ∧ cs[n]? = some (.ins x gs) ∧ g.mg x = some (.ref C) ∧ H a = some (.ins C dx fs) ∧ RFs g F c fs gs := by
  unfold insAt at h
  split at h
  · rename_i m
    split at h
    · rename_i y l hl
      simp only [Option.some.injEq, Prod.mk.injEq] at h
      obtain ⟨rfl, rfl, rfl⟩ := h
      cases r with
      | loc ha =>
        obtain ⟨_, C, dx, fs, hm, h1, h2⟩ := I.cell _ _ _ ha hl
        exact ⟨_, C, dx, fs, rfl, rfl, ha, hl, hm, h1, h2⟩
    · cases h
  · cases h
theorem RFs.look {f : Str} : ∀ {fs : List (Str × V)} {gs : List (Str × D)} {d : D}, RFs g F c fs gs → gs.lookup f = some d → ∃ v, fs.lookup f = some v ∧ RV g F c v d
  | _, _, _, .nil, h => by cases h
  | _, _, d, .cons (k := k) r q, h => by
    rw [List.lookup] at h ⊢
    cases e : (f == k) with
    | true =>
      rw [e] at h
      simp only [Option.some.injEq] at h
      subst h
      exact ⟨_, rfl, r⟩
    | false =>
      rw [e] at h
      exact RFs.look q h
theorem RFs.lookN {f : Str} : ∀ {fs : List (Str × V)} {gs : List (Str × D)}, RFs g F c fs gs → gs.lookup f = none → fs.lookup f = none
  | _, _, .nil, _ => rfl
  | _, _, .cons (k := k) r q, h => by
    rw [List.lookup] at h ⊢
    cases e : (f == k) with
    | true => rw [e] at h; cases h
    | false => rw [e] at h; exact RFs.lookN q h
def putFD (f : Str) (v : D) : List (Str × D) → List (Str × D)
  | [] => [(f, v)]
  | (g, x) :: r => if g = f then (g, v) :: r else (g, x) :: putFD f v r
theorem RFs.put {f : Str} {y : V} {d : D} (rv : RV g F c y d) : ∀ {fs : List (Str × V)} {gs : List (Str × D)}, RFs g F c fs gs → RFs g F c (putF f y fs) (putFD f d gs)
  | _, _, .nil => .cons rv .nil
  | _, _, .cons (k := k) r q => by
    unfold putF putFD
    by_cases e : k = f
    · rw [if_pos e, if_pos e]; exact .cons rv q
    · rw [if_neg e, if_neg e]; exact .cons r (RFs.put rv q)
theorem RFs.len : ∀ {fs : List (Str × V)} {gs : List (Str × D)}, RFs g F c fs gs → fs.length = gs.length
  | _, _, .nil => rfl
  | _, _, .cons _ q => by rw [List.length_cons, List.length_cons, RFs.len q]
/-- one more tracked thing, that no value names -/
theorem Ih.other (I : Ih g H F c cs) {p : Addr} {o : HO} (hp : H p = none) : Ih g (L2.upd H p o) F c cs := by
  refine ⟨fun a u e => ?_, I.len, I.nd, fun n a x h1 h2 => ?_⟩
  · have := I.sub a u e
    rw [upd_ne (ne_of_none this hp)]; exact this
  · have q := I.cell n a x h1 h2
    have hne : a ≠ p := fun e => by
      obtain ⟨u, hu⟩ := CR.tracked q
      rw [e, hp] at hu; cases hu
    exact CR.mono q (Le.refl F c) (fun u e => by rw [upd_ne hne]; exact e) (fun e => e)
theorem Xt.other {p : Addr} {o : HO} (hp : H p = none) : Xt H F c (L2.upd H p o) F c :=
  ⟨Le.refl F c, fun a u e _ => by rw [upd_ne (ne_of_none e hp)]; exact e, fun a u e => ⟨u, by rw [upd_ne (ne_of_none e hp)]; exact e⟩, fun a h n => absurd h n, fun _ _ _ f _ => f⟩
end
/-! ### fields -/
def FldOk (K : PySem.W.Frag) (mg : Str → Option Value) (x f : Str) : Prop := ∃ C, mg x = some (.ref C) ∧ Cls K C ∧ NoAttr K C f
def eFld (x f : Str) (mo : ME) : ME := fun env cs => (mo env cs).bind fun o cs1 => match insAt cs1 o with
  | some (_, y, fs) => if y = x then (match fs.lookup f with
    | some d => .ok d cs1
    | none => .stuck) else .stuck
  | none => .stuck
def sFst (x f : Str) (mo mv : ME) : MS := fun env cs => (mv env cs).toS env fun v cs1 => (mo env cs1).toS env fun o cs2 => match insAt cs2 o with
  | some (n, y, fs) => if y = x ∧ fs.length < 1000 then .nx env (cs2.set n (.ins y (putFD f v fs))) else .stuck
  | none => .stuck
section
variable {X : Cx} {W : WX} {x f m : Str} {pos apos tpos p : Pos} {o e : Expr} {es : List Expr} {mo mv me : ME} {ms : MA}
theorem xp_fld (hf : FldOk X.K X.mg x f) (ho : Xp X W o mo) (hb : attributeBase o f X.env (eval o X.env) = eval o X.env := by rfl) : Xp X W (.Attribute o f pos) (eFld x f mo) := by
  obtain ⟨to, po', so⟩ := ho
  refine ⟨_, pe_fld po' hb, fun σ env H F c cs Q re I po => ?_⟩
  refine so σ env H F c cs _ re I (PoE.cut po _ fun d cs1 _ H1 F1 c1 v x1 I1 rv po1 => ?_)
  split at po1
  · rename_i n y fs hi
    split at po1
    · rename_i hy
      subst hy
      split at po1
      · rename_i d2 hd
        obtain ⟨a, C, dx, vs, rfl, rfl, ha, hl, hm, h1, h2⟩ := insAt_at I1 rv hi
        obtain ⟨C', hm', hc, hn⟩ := hf
        rw [show X.mg y = some (.ref C) from hm] at hm'
        cases hm'
        obtain ⟨u, hu, ru⟩ := h2.look hd
        exact ⟨a, C, dx, vs, u, rfl, h1, hc, hn, hu, PoE.here I1 ru po1⟩
      · exact po1.elim
    · exact po1.elim
  · exact po1.elim
theorem sm_fst (hf : FldOk X.K X.mg x f) (ho : Xp X W o mo) (hv : Xp X W e mv) (hs : swapsWith e (some (.Attribute o f tpos)) pos.line X.env = pure false := by rfl) : Sm X W (.Assign [.Attribute o f tpos] e pos) (sFst x f mo mv) := by
  obtain ⟨to, po', so⟩ := ho
  obtain ⟨te, pe', se⟩ := hv
  refine ⟨_, ps_fld po' pe' hs, fun σ env H F c cs Dn re I po => ?_⟩
  refine se σ env H F c cs _ re I (PoS.cut re po _ fun d cs1 _ H1 F1 c1 v x1 I1 rv po1 => ?_)
  refine so σ env H1 F1 c1 cs1 _ (re.mono x1.le) I1 (PoS.cut (re.mono x1.le) po1 _ fun d2 cs2 _ H2 F2 c2 v2 x2 I2 rv2 po2 => ?_)
  split at po2
  · rename_i n y fs hi
    split at po2
    · rename_i hy
      obtain ⟨rfl, hlen⟩ := hy
      obtain ⟨a, C, dx, vs, rfl, rfl, ha, hl, hm, h1, h2⟩ := insAt_at I2 rv2 hi
      obtain ⟨C', hm', hc, hn⟩ := hf
      rw [show X.mg y = some (.ref C) from hm] at hm'
      cases hm'
      refine ⟨a, C, dx, vs, rfl, h1, hc, hn, by rw [h2.len]; exact hlen, ?_⟩
      have x3 := Xt.write I2 (o := .ins C dx (putF f v vs)) ha
      have hF := CR.free (I2.cell n a _ ha hl) rfl
      have I3 := I2.write ha hl rfl (x := .ins y (putFD f d fs)) (o := .ins C dx (putF f v vs)) ⟨hF, C, dx, _, hm, upd_same, h2.put (rv.mono x2.le)⟩
      exact po2 _ _ _ x3 I3 _ (((re.mono x1.le).mono x2.le).mono x3.le)
    · exact po2.elim
  · exact po2.elim
end
/-! ### methods -/
structure OwnM (P : Program) (w : World) (K : PySem.W.Frag) (mg : Str → Option Value) (base : Heap) (k : Nat) (x m : Str) (n : Nat) (mf : MF) : Prop where
  ex : ∃ C f fd ps, mg x = some (.ref C) ∧ Cls K C ∧ Meth K C m f ∧ FnG P w K mg base k f fd ps (spM ⟨P, w, K, mg⟩ mf (n + 1)) ∧ Binds K fd ps []
def tMethS (C : Addr) (m : Str) (sp : Sp) (E : L2.St → XK) (ta : TE) (t : TA) : TE := fun σ H Q => ta σ H fun x H1 => ∃ a dx fs, x = .ref a ∧ H1 a = some (.ins C dx fs) ∧ fs.lookup m = none ∧ t σ H1 fun vs H2 => sp (x :: vs) H2 Q (E σ)
section
variable {X : Cx} {k : Nat} {C f : Addr} {fd : FuncData} {ps : List Str} {sp : Sp} {E : L2.St → XK} {m x : Str} {p pos apos : Pos} {e o : Expr} {es : List Expr} {ta : TE} {t : TA} {pl : Sem Bool}
theorem pe_methG (he : PE X o ta) (c : Cls X.K C) (hm : Meth X.K C m f) (F : FnG X.prog X.w X.K X.mg X.base k f fd ps sp) (hG : X.A.guards = some []) (hr : Room k X.A) (hb : Binds X.K fd ps []) (hx : ∀ σ, PassesAt (L2.CX X.prog X.w) X σ (E σ)) (ha : PA X (e :: es) t)
    (hst : starEach (e :: es) X.env = (false, eval e X.env) :: starEach es X.env := by rfl) (hpl : (backTo pos (starEach es X.env)).any (·.1) = false := by rfl)
    (ht : eval (.Call (.Attribute o m apos) (e :: es) [] pos) X.env = (do
      let ov ← eval o X.env
      standAt apos.atName
      let (f, first) ← holding [ov] (getMethod ov m pl)
      callWith pos f first (backTo pos (starEach (e :: es) X.env)) (backToKw pos (keywordEach [] X.env))) := by rfl) :
    PE X (.Call (.Attribute o m apos) (e :: es) [] pos) (tMethS C m sp E ta t) := by
  refine ⟨fun pins s σ H Q I h => ?_⟩
  refine PySem.W.methodCall_KW (pl := pl) (thn (he.run pins s σ H _ I h) fun u s1 z => ?_) ht
  obtain ⟨x, H1, I1, ⟨rx, _⟩, a, dx, fs, ex, ea, l, q⟩ := z
  subst ex
  obtain rfl : u = Value.ref a := rx
  refine getmeth_ok I1 ea c hm l ?_
  refine PySem.W.callWith_K (first := [.ref a]) (h₀ := X.base) I.ok.mod.kin hm.kp (thn (ha.run pos pins s1 σ H1 _ I1 q) fun us s2 z => ?_) hst hpl
  obtain ⟨vs, H2, I2, r, q2⟩ := z
  refine ⟨I2.kIn, ?_⟩
  exact run_fnG (us := .ref a :: us) (vs := .ref a :: vs) F hG hr hb (hx σ) I2 (.cons .ref r) q2
theorem pe_methG0 (he : PE X o ta) (c : Cls X.K C) (hm : Meth X.K C m f) (F : FnG X.prog X.w X.K X.mg X.base k f fd ps sp) (hG : X.A.guards = some []) (hr : Room k X.A) (hb : Binds X.K fd ps []) (hx : ∀ σ, PassesAt (L2.CX X.prog X.w) X σ (E σ))
    (ht : eval (.Call (.Attribute o m apos) [] [] pos) X.env = (do
      let ov ← eval o X.env
      standAt apos.atName
      let (f, first) ← holding [ov] (getMethod ov m pl)
      callWith pos f first (backTo pos (starEach [] X.env)) (backToKw pos (keywordEach [] X.env))) := by rfl) :
    PE X (.Call (.Attribute o m apos) [] [] pos) (tMethS C m sp E ta tNil) := by
  refine ⟨fun pins s σ H Q I h => ?_⟩
  refine PySem.W.methodCall_KW (pl := pl) (thn (he.run pins s σ H _ I h) fun u s1 z => ?_) ht
  obtain ⟨x, H1, I1, ⟨rx, _⟩, a, dx, fs, ex, ea, l, q⟩ := z
  subst ex
  obtain rfl : u = Value.ref a := rx
  refine getmeth_ok I1 ea c hm l ?_
  exact PySem.W.callWith_K0 (first := [.ref a]) I1.kIn hm.kp (run_fnG (us := [.ref a]) (vs := [.ref a]) F hG hr hb (hx σ) I1 (.cons .ref .nil) q)
/-! a new instance -/
def tMakeS (C : Addr) (sp : Sp) (E : L2.St → XK) (t : TA) : TE := fun σ H Q => t σ H fun vs H1 => ∀ x dx, H1 x = none → H1 dx = none → dx ≠ x →
  sp (.ref x :: vs) (L2.upd (L2.upd H1 dx (.own x)) x (.ins C dx [])) (fun v H2 => v = .non ∧ Q (.ref x) H2) (E σ)
theorem make_guards {A : Around} {C : Addr} {us : List Value} {kw : List (Str × Value)} (h : A.guards = some []) : (A.under (.builtin "type.__call__" ⟨.ref C :: us, kw⟩)).guards = some [] := by
  first | exact h | (simp [Around.under, Code.isGuard, guardIds, h])
theorem run_makeG {pins : List (Addr × Obj)} {σ : L2.St} {H : Hp} {s : Shared} {Q : VK} {us : List Value} {vs : List V} (M : Mk X.K C f) (F : FnG X.prog X.w X.K X.mg X.base k f fd ps sp) (hG : X.A.guards = some []) (hr : Room (k + 1) X.A) (hb : Binds X.K fd ps [])
    (hx : PassesAt (L2.CX X.prog X.w) X σ (E σ)) (I : Inv X pins σ H s) (r : Vals s.toks vs us)
    (h : ∀ x dx, H x = none → H dx = none → dx ≠ x → sp (.ref x :: vs) (L2.upd (L2.upd H dx (.own x)) x (.ins C dx [])) (fun v H2 => v = .non ∧ Q (.ref x) H2) (E σ)) :
    wpAny (model X.prog X.w) X.A (call (.ref C) us) (EP X pins σ Q) X.xe s := by
  have hq := h (s.heap.objs.size + 1) s.heap.objs.size (I.hok.fresh (Nat.le_succ _)) (I.hok.fresh (Nat.le_refl _)) (Nat.ne_of_lt (Nat.lt_succ_self _))
  have I2 := Inv.made (C := C) I
  have r2 : Vals s.toks (V.ref (s.heap.objs.size + 1) :: vs) (Value.ref (s.heap.objs.size + 1) :: us) := .cons .ref r
  have hl : (Value.ref (s.heap.objs.size + 1) :: us).length = ps.length := by rw [← r2.length]; exact F.len _ _ _ _ hq
  have b := hb _ (Value.ref (s.heap.objs.size + 1) :: us) I2.kIn (by rw [List.append_nil]; exact hl)
  rw [List.append_nil] at b
  refine wpAny_mono (PySem.wpAny_toks (Q := fun u s' => u = .ref (s.heap.objs.size + 1) ∧ ∃ u', CRt X.stack X.prog X.w (L2.upd (L2.upd H s.heap.objs.size (.own (s.heap.objs.size + 1))) (s.heap.objs.size + 1) (.ins C s.heap.objs.size [])) { s with heap := (s.heap.push PySem.W.emptyDict).push (PySem.W.instObj C s.heap.objs.size) } (fun v H2 => v = .non ∧ Q (.ref (s.heap.objs.size + 1)) H2) (E σ) (.ok (.ret u')) s') (E := X.xe) (wpAny_call (make_map (f := f) I.kIn M.makes M.init (beq_iff_eq.mp M.fn) (codeAny_mono (F.run _ X.stack _ _ ⟨Value.ref (s.heap.objs.size + 1) :: us, []⟩ (Value.ref (s.heap.objs.size + 1) :: us) _ _ (E σ) (make_guards hG) (hr.make C us [])
    (I2.i.env0.make C us []) I2.g (.inl I2.p) b r2 hq) fun r s' hq' => ?_)))) (fun u s' z => ?_) fun _ _ z => z.2
  rotate_left
  · obtain ⟨hk, rfl, u', v, H', os, bare, un, hok, hg, rv, ev, q3⟩ := z
    exact ⟨V.ref (s.heap.objs.size + 1), H', I2.call (ch := []) os un hok bare hg hk (fun b z => absurd z (by simp)), .ref, q3⟩
  cases r with
  | error e => exact hx pins _ _ e s' I2.i hq'
  | ok fl =>
    cases fl with
    | ret u =>
      obtain ⟨v, H', os, bare, un, hok, hg, rv, ev, q3⟩ := id hq'
      subst ev
      exact ⟨rv.1, rfl, u, hq'⟩
    | next => exact False.elim hq'
    | brk => exact False.elim hq'
    | cont => exact False.elim hq'
theorem pe_makeG (M : Mk X.K C f) (F : FnG X.prog X.w X.K X.mg X.base k f fd ps sp) (hG : X.A.guards = some []) (hr : Room (k + 1) X.A) (hg : Gl X x) (hm : X.mg x = some (.ref C)) (hb : Binds X.K fd ps []) (hx : ∀ σ, PassesAt (L2.CX X.prog X.w) X σ (E σ))
    (ha : PA X (e :: es) t) (hdb : (x == ("__debug__" : Str)) = false := by decide) (he : starEach (e :: es) X.env = (false, eval e X.env) :: starEach es X.env := by rfl) (hpl : (backTo pos (starEach es X.env)).any (·.1) = false := by rfl) :
    PE X (.Call (.Name x p) (e :: es) [] pos) (tMakeS C sp E t) := by
  refine ⟨fun pins s σ H Q I h => ?_⟩
  refine wpAny_Call_Name_kw (ld_glob I hg hm ?_ hdb)
  refine PySem.W.callWith_K (h₀ := X.base) I.ok.mod.kin M.kp (thn (ha.run pos pins s σ H _ I h) fun us s1 z => ?_) he hpl
  obtain ⟨vs, H1, I1, r, q⟩ := z
  refine ⟨I1.kIn, ?_⟩
  exact run_makeG M F hG hr hb (hx σ) I1 r q
end
def eMeth (x m : Str) (mf : MF) (mo : ME) (ms : MA) : ME := fun env cs => (mo env cs).bind fun o cs1 => match insAt cs1 o with
  | some (n, y, fs) => if y = x ∧ fs.lookup m = none then (ms env cs1).bind fun ds cs2 => mf (.loc n :: ds) cs2 else .stuck
  | none => .stuck
structure OwnI (P : Program) (w : World) (K : PySem.W.Frag) (mg : Str → Option Value) (base : Heap) (k : Nat) (x : Str) (n : Nat) (mf : MF) : Prop where
  ex : ∃ C f fd ps, mg x = some (.ref C) ∧ Mk K C f ∧ FnG P w K mg base k f fd ps (spM ⟨P, w, K, mg⟩ mf (n + 1)) ∧ Binds K fd ps []
def eMake (x : Str) (mf : MF) (ms : MA) : ME := fun env cs => (ms env cs).bind fun ds cs1 => (mf (.loc cs1.length :: ds) (cs1 ++ [.ins x []])).bind fun r cs2 => match r with
  | .non => .ok (.loc cs1.length) cs2
  | _ => .stuck
section
variable {X : Cx} {W : WX} {k n : Nat} {x m : Str} {pos apos p : Pos} {o e : Expr} {es : List Expr} {mo : ME} {ms : MA} {mf : MF} {pl : Sem Bool}
theorem xp_meth (om : OwnM X.prog X.w X.K X.mg X.base k x m n mf) (hG : X.A.guards = some []) (hr : Room k X.A) (tk : Takes X W) (ho : Xp X W o mo) (ha : Xa X W (e :: es) ms) (hlen : ∀ env cs ds cs1, ms env cs = .ok ds cs1 → ds.length = n)
    (hst : starEach (e :: es) X.env = (false, eval e X.env) :: starEach es X.env := by rfl) (hpl : (backTo pos (starEach es X.env)).any (·.1) = false := by rfl)
    (ht : eval (.Call (.Attribute o m apos) (e :: es) [] pos) X.env = (do
      let ov ← eval o X.env
      standAt apos.atName
      let (f, first) ← holding [ov] (getMethod ov m pl)
      callWith pos f first (backTo pos (starEach (e :: es) X.env)) (backToKw pos (keywordEach [] X.env))) := by rfl) :
    Xp X W (.Call (.Attribute o m apos) (e :: es) [] pos) (eMeth x m mf mo ms) := by
  obtain ⟨C, f, fd, ps, hm, hc, hme, F, hb⟩ := om
  obtain ⟨to, po', so⟩ := ho
  obtain ⟨t, pa, sa⟩ := ha
  refine ⟨_, pe_methG po' hc hme F hG hr hb (fun σ => passAt tk σ) pa hst hpl ht, fun σ env H F0 c cs Q re I po => ?_⟩
  refine so σ env H F0 c cs _ re I (PoE.cut po _ fun d cs1 _ H1 F1 c1 v x1 I1 rv po1 => ?_)
  split at po1
  · rename_i l y fs hi
    split at po1
    · rename_i hy
      obtain ⟨rfl, hn⟩ := hy
      obtain ⟨a, C', dx, vs, rfl, rfl, ha, hl, hm', h1, h2⟩ := insAt_at I1 rv hi
      rw [show X.mg y = some (.ref C') from hm'] at hm
      cases hm
      refine ⟨a, dx, vs, rfl, h1, h2.lookN hn, ?_⟩
      refine sa σ env H1 F1 c1 cs1 _ (re.mono x1.le) I1 (PoA.cut po1 _ fun ds cs2 h3 H2 F2 c2 us x2 I2 rus po2 => ?_)
      exact ⟨by rw [List.length_cons, rus.length, hlen _ _ _ _ h3], F2, c2, cs2, .loc l :: ds, I2, .cons (rv.mono x2.le) rus, po2⟩
    · exact po1.elim
  · exact po1.elim
theorem xp_meth0 (om : OwnM X.prog X.w X.K X.mg X.base k x m 0 mf) (hG : X.A.guards = some []) (hr : Room k X.A) (tk : Takes X W) (ho : Xp X W o mo)
    (ht : eval (.Call (.Attribute o m apos) [] [] pos) X.env = (do
      let ov ← eval o X.env
      standAt apos.atName
      let (f, first) ← holding [ov] (getMethod ov m pl)
      callWith pos f first (backTo pos (starEach [] X.env)) (backToKw pos (keywordEach [] X.env))) := by rfl) :
    Xp X W (.Call (.Attribute o m apos) [] [] pos) (eMeth x m mf mo aNil) := by
  obtain ⟨C, f, fd, ps, hm, hc, hme, F, hb⟩ := om
  obtain ⟨to, po', so⟩ := ho
  refine ⟨_, pe_methG0 po' hc hme F hG hr hb (fun σ => passAt tk σ) ht, fun σ env H F0 c cs Q re I po => ?_⟩
  refine so σ env H F0 c cs _ re I (PoE.cut po _ fun d cs1 _ H1 F1 c1 v x1 I1 rv po1 => ?_)
  split at po1
  · rename_i l y fs hi
    split at po1
    · rename_i hy
      obtain ⟨rfl, hn⟩ := hy
      obtain ⟨a, C', dx, vs, rfl, rfl, ha, hl, hm', h1, h2⟩ := insAt_at I1 rv hi
      rw [show X.mg y = some (.ref C') from hm'] at hm
      cases hm
      exact ⟨a, dx, vs, rfl, h1, h2.lookN hn, rfl, F1, c1, cs1, [.loc l], I1, .cons rv .nil, po1⟩
    · exact po1.elim
  · exact po1.elim
theorem xp_make (om : OwnI X.prog X.w X.K X.mg X.base k x n mf) (hG : X.A.guards = some []) (hr : Room (k + 1) X.A) (tk : Takes X W) (ha : Xa X W (e :: es) ms) (hg : Gl X x) (hlen : ∀ env cs ds cs1, ms env cs = .ok ds cs1 → ds.length = n) (hdb : (x == ("__debug__" : Str)) = false := by decide)
    (he : starEach (e :: es) X.env = (false, eval e X.env) :: starEach es X.env := by rfl) (hpl : (backTo pos (starEach es X.env)).any (·.1) = false := by rfl) : Xp X W (.Call (.Name x p) (e :: es) [] pos) (eMake x mf ms) := by
  obtain ⟨C, f, fd, ps, hm, M, F, hb⟩ := om
  obtain ⟨t, pa, sa⟩ := ha
  refine ⟨_, pe_makeG M F hG hr hg hm hb (fun σ => passAt tk σ) pa hdb he hpl, fun σ env H F0 c cs Q re I po => ?_⟩
  refine sa σ env H F0 c cs _ re I (PoA.cut po _ fun ds cs1 h3 H1 F1 c1 vs x1 I1 rv po1 => ?_)
  intro a dx h1 h2 ne
  have I2 := I1.other (o := .own a) h2
  have h1' : L2.upd H1 dx (.own a) a = none := by rw [upd_ne (Ne.symm ne)]; exact h1
  have I3 : Ih (gd X) (L2.upd (L2.upd H1 dx (.own a)) a (.ins C dx [])) F1 (c1 ++ [a]) (cs1 ++ [.ins x []]) := I2.push h1' ⟨I1.noF h1, C, dx, [], hm, upd_same, .nil⟩
  have x3 : Xt H1 F1 c1 (L2.upd (L2.upd H1 dx (.own a)) a (.ins C dx [])) F1 (c1 ++ [a]) := (Xt.other h2).trans (Xt.push I2 h1')
  have ra : RV (gd X) F1 (c1 ++ [a]) (.ref a) (.loc cs1.length) := .loc (by rw [← I1.len, List.getElem?_append_right (Nat.le_refl _)]; simp)
  refine ⟨by rw [List.length_cons, rv.length, hlen _ _ _ _ h3], F1, c1 ++ [a], cs1 ++ [.ins x []], .loc cs1.length :: ds, I3, .cons ra (rv.mono x3.le), ?_⟩
  have po2 := PoE.from x3 po1
  refine PoE.cut po2 _ fun d cs2 _ H2 F2 c2 v x4 I4 rv4 po4 => ?_
  split at po4
  · cases rv4
    exact ⟨rfl, PoE.here I4 (ra.mono x4.le) po4⟩
  · exact po4.elim
end
/-! ### isinstance, an own class -/
def InsF (K : PySem.W.Frag) (mg : Str → Option Value) (x : Str) : Prop := ∃ C, mg x = some (.ref C) ∧ C8.InsC K C ∧ ∀ u ∈ ["NoneType", "bool", "int", "str", "list", "tuple", "dict"], PySem.W.kitOne K (.type u) (.ref C) = some false
def isoD (x : Str) (cs : Cells) (d : D) : R := match insAt cs d with
  | some (_, y, _) => if y = x then .ok (.bl true) cs else .stuck
  | none => match tyC cs d with
    | some u => if u ∈ ["NoneType", "bool", "int", "str", "list", "tuple", "dict"] then .ok (.bl false) cs else .stuck
    | none => .stuck
theorem xp_iso {X : Cx} {W : WX} {pos p p2 : Pos} {a : Expr} {ma : ME} {x : Str} (h : InsF X.K X.mg x) (hgi : Gl X "isinstance") (hmi : X.mg "isinstance" = none) (hg : Gl X x) (ha : Xp X W a ma) (hdb : (x == ("__debug__" : Str)) = false := by decide)
    (he : starEach [a, .Name x p2] X.env = (false, eval a X.env) :: starEach [.Name x p2] X.env := by rfl) (he2 : starEach [.Name x p2] X.env = (false, eval (.Name x p2) X.env) :: starEach [] X.env := by rfl)
    (hpl : (backTo pos (starEach [.Name x p2] X.env)).any (·.1) = false := by rfl) : Xp X W (.Call (.Name "isinstance" p) [a, .Name x p2] [] pos) (op1 (isoD x) ma) := by
  obtain ⟨C, hm, ic, hk⟩ := h
  obtain ⟨ta, pa, sa⟩ := ha
  refine ⟨_, pe_callB call_isi hgi hmi PyProof.Rows.boot_isinstance (pa_cons pa (pa_cons (pe_glob (v := .ref C) hg hm rfl (fun _ z => nomatch z) hdb) pa_nil he2) he) (by decide) (by decide) he hpl, fun σ env H F c cs Q re I po => ?_⟩
  refine sa σ env H F c cs _ re I (PoE.cut po _ fun d cs1 _ H1 F1 c1 v x1 I1 rv po1 => ?_)
  unfold isoD at po1
  split at po1
  · rename_i n y fs hi
    split at po1
    · rename_i hy
      subst hy
      obtain ⟨a, C', dx, vs, rfl, rfl, ha, hl, hm', h1, h2⟩ := insAt_at I1 rv hi
      rw [show X.mg y = some (.ref C') from hm'] at hm
      cases hm
      exact ⟨.ref a, .ref C, .ref C, .ref C, true, rfl, .own C, .base (.ins h1 ic.cl ic.ha ic.hn ic.htk ic.hm), ic.me, PoE.here I1 (.bl true) po1⟩
    · exact po1.elim
  · split at po1
    · rename_i u hu
      split at po1
      · rename_i hmem
        exact ⟨v, .ref C, .type u, .ref C, false, rfl, .own C, tyC_at I1 rv hu, hk u hmem, PoE.here I1 (.bl false) po1⟩
      · exact po1.elim
    · exact po1.elim
theorem kit_self {K : PySem.W.Frag} {C : Addr} : PySem.W.kitOne K (.ref C) (.ref C) = some true := by
  unfold PySem.W.kitOne
  rw [if_pos (beq_self_eq_true _)]
theorem kit_no {K : PySem.W.Frag} {C : Addr} {cd : ClassData} {u : String} (d : PySem.W.clsIn K C = some cd) (t : PySem.W.typeIn K (.ref C) = some (.type "type")) (s : PySem.W.subIn K (.type u) (.ref C) = some false) : PySem.W.kitOne K (.type u) (.ref C) = some false := by
  unfold PySem.W.kitOne PySem.W.kitCls
  rw [if_neg (by intro h; cases (beq_iff_eq.mp h))]
  simp only [d, t, s]
  rfl
theorem insF_mk {K : PySem.W.Frag} {mg : Str → Option Value} {x : Str} {C : Addr} {cd : ClassData} (hm : mg x = some (.ref C)) (cl : Cls K C) (ha : PySem.W.findIn K (.ref C) "__class__" = some (some (.builtin "object.__class__"))) (hn : PySem.W.specialIn K (.builtin "object.__class__") "__get__" = some (some (.builtin "getset_descriptor.__get__")))
    (ht : PySem.W.takesIn K (.builtin "object.__class__") = some true) (ho : PySem.W.mroIn K C (.type "object") = some true) (d : PySem.W.clsIn K C = some cd) (t : PySem.W.typeIn K (.ref C) = some (.type "type"))
    (s1 : PySem.W.subIn K (.type "NoneType") (.ref C) = some false) (s2 : PySem.W.subIn K (.type "bool") (.ref C) = some false) (s3 : PySem.W.subIn K (.type "int") (.ref C) = some false) (s4 : PySem.W.subIn K (.type "str") (.ref C) = some false)
    (s5 : PySem.W.subIn K (.type "list") (.ref C) = some false) (s6 : PySem.W.subIn K (.type "tuple") (.ref C) = some false) (s7 : PySem.W.subIn K (.type "dict") (.ref C) = some false) : InsF K mg x := by
  refine ⟨C, hm, ⟨cl, ha, hn, ht, ho, kit_self⟩, ?_⟩
  simp only [List.forall_mem_cons]
  exact ⟨kit_no d t s1, kit_no d t s2, kit_no d t s3, kit_no d t s4, kit_no d t s5, kit_no d t s6, kit_no d t s7, fun u h => by cases h⟩
section
variable {P : Program} {w : World} {K : PySem.W.Frag} {mg : Str → Option Value} {base : Heap} {k n : Nat} {x m : Str} {mf : MF} {C f : Addr} {fd : FuncData} {ps : List Str}
theorem ownM_mk (hm : mg x = some (.ref C)) (c : Cls K C) (me : Meth K C m f) (F : FnG P w K mg base k f fd ps (spM ⟨P, w, K, mg⟩ mf ps.length)) (hb : Binds K fd ps []) (hn : ps.length = n + 1) : OwnM P w K mg base k x m n mf := by
  rw [hn] at F
  exact ⟨C, f, fd, ps, hm, c, me, F, hb⟩
theorem ownI_mk (hm : mg x = some (.ref C)) (M : Mk K C f) (F : FnG P w K mg base k f fd ps (spM ⟨P, w, K, mg⟩ mf ps.length)) (hb : Binds K fd ps []) (hn : ps.length = n + 1) : OwnI P w K mg base k x n mf := by
  rw [hn] at F
  exact ⟨C, f, fd, ps, hm, M, F, hb⟩
end
end L3

namespace L3
open PySem L2 PySem.Spec PyProof.Rows
section
variable {X : Cx}
theorem gvs_ints {k : Nat} {ns : List Int} {us : List Value} (r : L2.Vals (ns.map V.int) us) : gvs k us := gvs_of r fun x m z e => by
  obtain ⟨i, _, rfl⟩ := List.mem_map.mp m
  cases e
theorem cr_sorted : CallR X (.builtin "sorted") (rSorted X.K) := by
  rintro pins s σ H vs us Q I ⟨r, _⟩ ⟨a, ns, rfl, hs, h64, q⟩
  obtain ⟨its, rv, hl, _⟩ := I.i.list hs
  rw [Vals.ref1 r]
  have hi := rv.ints
  refine PyProof.Rows.sorted_ints hl.isList hi (by rw [hi.length]; exact h64) fun out ns' h1 h2 h3 => ?_
  obtain ⟨ep, he'⟩ := PyProof.Rows.sortedAll_at s.heap its out
  have hlen : (ns'.map V.int).length ≤ sizeLine := by rw [List.length_map, h2.length_eq]; exact small64 h64
  refine ⟨.ref _, L2.upd H (s.heap.objs.size + 1) (.lst (ns'.map V.int)), I.laid (t' := s.toks) (fun _ _ => PyProof.Rows.sortedAll_old) (Nat.le_succ _) ⟨hlen, out.toList, ep, vals_of_ints h1, he'⟩ (fun o its n e d => ?_) (Nat.le_refl _), .ref, q ns' _ h2 h3 (I.fresh (Nat.le_succ _))⟩
  rw [he'] at e; cases e
  cases d
  simpa using gvs_ints (k := s.toks) (vals_of_ints h1)
theorem call_list_of : CallR X (.type "list") (fun xs H Q => ∃ p ys, xs = [.ref p] ∧ (SqL X.K H p ys ∨ SqT X.K H p ys) ∧ ∀ l, H l = none → Q (.ref l) (upd H l (.lst ys))) := by
  rintro pins s σ H xs us Q I ⟨r, _⟩ ⟨p, ys, rfl, hq, q⟩
  obtain ⟨u, rfl, rx⟩ := vals1 r
  cases rx
  have fin : ∀ (its : List Value), Vals s.toks ys its → ys.length ≤ sizeLine → ∀ (h' : Heap) (c' : Nat), (∀ b o', s.heap.get? b = some o' → h'.get? b = some o') →
      h'.get? s.heap.objs.size = some { cls := .type "list", dict := none, data := .seq its.toArray c', slots := #[] } → EP X pins σ Q (.ref s.heap.objs.size) { s with heap := h' } := fun its r' hz h' c' kp e =>
    ⟨.ref s.heap.objs.size, _, I.laid (t' := s.toks) kp (Nat.le_refl _) (show ObjOk X.prog X.w _ h' _ (.lst ys) from ⟨hz, its, c', r'.1, e⟩) (fun o it n e2 d => by rw [e] at e2; cases e2; cases d; simpa using r'.2) (Nat.le_refl _), .ref, q _ (I.fresh (Nat.le_refl _))⟩
  rcases hq with hq | hq
  · obtain ⟨its, r', pl, hz⟩ := I.list hq
    have hlen := r'.length
    obtain ⟨o, ho, hc, n, hd⟩ := pl.isList
    exact call_list_seq p (.inl rfl) ho hc hd (fun h' c' kp e => fin its r' hz h' c' kp e) (by simp only [List.size_toArray] <;> omega)
  · obtain ⟨its, r', pl, hz⟩ := I.tuple hq
    have hlen := r'.length
    obtain ⟨o, ho, hc, n, hd⟩ := pl
    exact call_list_seq p (.inr rfl) ho hc hd (fun h' c' kp e => fin its r' hz h' c' kp e) (by simp only [List.size_toArray] <;> omega)
theorem call_tuple_of : CallR X (.type "tuple") (fun xs H Q => ∃ p ys, xs = [.ref p] ∧ ((SqL X.K H p ys ∧ ∀ l, H l = none → Q (.ref l) (upd H l (.tup ys))) ∨ (SqT X.K H p ys ∧ Q (.ref p) H))) := by
  rintro pins s σ H xs us Q I ⟨r, _⟩ ⟨p, ys, rfl, h⟩
  obtain ⟨u, rfl, rx⟩ := vals1 r
  cases rx
  rcases h with ⟨hq, q⟩ | ⟨hq, q⟩
  · obtain ⟨its, r', pl, hz⟩ := I.list hq
    have hlen := r'.length
    refine call_tuple_list pl.isList (fun h' kp => ?_) (by simp only [List.size_toArray] <;> omega)
    have I1 : Inv X pins σ H { s with heap := h' } := I.kept (t' := s.toks) kp (Nat.le_refl _)
    have I2 : Inv X pins σ (upd H h'.objs.size (.tup ys)) { s with heap := h'.push { cls := .type "tuple", data := .seq its.toArray } } :=
      I1.laid (t' := s.toks) (fun b o e => Heap.get?_push_of_some _ e) (Nat.le_refl _) (show ObjOk X.prog X.w _ _ _ (.tup ys) from ⟨hz, its, r'.1, IsTup.new _ _⟩) (seq_new r'.2) (Nat.le_refl _)
    exact ⟨.ref h'.objs.size, _, I2, .ref, q _ (I1.fresh (Nat.le_refl _))⟩
  · obtain ⟨its, r', pl, hz⟩ := I.tuple hq
    exact call_tuple_same pl ⟨.ref p, H, I, .ref, q⟩
/-! ### sets -/
theorem cr_set0K : CallR X (.type "set") (rSet0K X.prog X.w) := by
  rintro pins s σ H xs us Q I ⟨r, _⟩ ⟨rfl, q⟩
  cases r
  refine setR_new fun _ => ?_
  have new : (s.heap.push { cls := .type "set", dict := none, data := .set #[] 0 (.fresh 0 0 (!X.w.params.followText "set-order")) }).SetOf (mixKind X.prog X.w) s.heap.objs.size (fun _ => false) 0 :=
    ⟨_, #[], 0, _, Heap.get?_push_size _ rfl, ⟨rfl, rfl, rfl⟩, rfl, (fun e he => by simp at he), (fun k => by simp), (by decide), (by rfl), rfl⟩
  exact ⟨.ref _, L2.upd H s.heap.objs.size (SetK X.prog X.w s.heap.objs.size (fun _ => false) 0), I.laid (t' := s.toks) (fun b u e => Heap.get?_push_of_some _ e) (Nat.le_refl _) (setK_new new) trivial (Nat.le_refl _), .ref, q _ (I.fresh (Nat.le_refl _))⟩
theorem mt_saddK : MtM X "set.add" (rSAddK X.prog X.w) := by
  rintro pins s σ H x xs v us Q I ⟨rx, _⟩ ⟨rxs, _⟩ ⟨a, k, S, n, rfl, rfl, ha, room, q⟩
  cases rx
  cases rxs with
  | cons ry rt =>
    cases rt
    refine call_set_add (kV_is ry) (key_scan ry) (setK_get I.i ha) room fun h' sb new => ?_
    have he : ∃ u, h'.get? a = some u := by
      have ⟨o, _, _, _, ho, _⟩ := new
      exact ⟨o, ho⟩
    exact ⟨.non, L2.upd H a (SetK X.prog X.w a (fun j => S j || decide (j = k)) (if S k = true then n else n + 1)), I.write (e := a) (t' := s.toks + 1) (by rw [ha]; trivial) (.inl rfl) (fun b u hb hu => (sb.2 b hb).trans hu) he (setK_new new) trivial (fun z => absurd rfl z) (Nat.le_succ _), .non, q⟩
variable {o e : Expr} {es : List Expr} {to : TE} {t : TA} {apos cpos : Pos}
theorem pe_saddK (ho : PE X o to) (ha : PA X (e :: es) t)
    (hbase : attributeBase o "add" X.env (eval o X.env) = eval o X.env := by rfl)
    (hfew : ((backTo cpos (starEach (e :: es) X.env)).all (fun x => !x.1) && (backToKw cpos (keywordEach [] X.env)).all (fun x => x.1.isSome)
      && decide ((e :: es).length + ([] : List Keyword).length + (if ([] : List Keyword).isEmpty then 0 else 1) < 30)) = true := by rfl)
    (hline : (apos.endLine == cpos.line) = true := by rfl) (hs : starEach (e :: es) X.env = (false, eval e X.env) :: starEach es X.env := by rfl) (hplain : (backTo cpos (starEach es X.env)).any (·.1) = false := by rfl) :
    PE X (.Call (.Attribute o "add" apos) (e :: es) [] cpos) (tSAddK X.prog X.w to t) := by
  constructor
  intro pins s σ H Q I h
  refine wpAny_Call_method_late hbase hfew hline rfl (thn (ho.run pins s σ H _ I h) fun v s1 z => ?_)
  obtain ⟨x, H1, I1, r1, ty, q1⟩ := z
  obtain ⟨a, S, n, rfl, hka⟩ := ty
  have hS := setK_get I1.i hka
  cases r1.1
  refine ⟨"set", "set.add", F.plainAttrs_set, F.slot_set_add, F.type_set_add, hS.typeIs, hS.noDict, ?_⟩
  have hA := ha.run cpos pins s1 σ H1 _ I1 q1
  rw [hs] at hA ⊢
  refine Calls.callWith_builtin (by show (false || (backTo cpos (starEach es X.env)).any (·.1)) = false; rw [hplain] <;> rfl) (Calls.evalArgs_plain ?_)
  refine thn hA fun us s2 z => ?_
  obtain ⟨vs, H2, I2, r2, q2⟩ := z
  exact mt_saddK pins s2 σ H2 (.ref a) vs (.ref a) us Q I2 .ref r2 q2
theorem or_sinK : CmpR X (compareOp .In) (rSInK X.prog X.w false) := by
  rintro pins s σ H x y v u Q I rx ry ⟨k, a, S, n, rfl, rfl, ha, q⟩
  cases ry
  exact thk (wpAny_inSet_of (Q := fun w s' => ∃ tk, w = .bool (S k) ∧ s' = { s with toks := tk }) (kV_is rx) (key_scan rx) (setK_get I.i ha) ⟨_, rfl, rfl⟩) fun w s' hk z => by
    obtain ⟨tk, rfl, rfl⟩ := z
    exact endB (I.tok hk) q
end
end L3

/-! sets of texts and ints; isinstance with two classes; list(x); x += n -/
namespace L3
open PySem L2
section
variable {X : Cx} {W : WX} {x y f m : Str} {pos apos tpos p p2 p3 p4 : Pos} {a b o e : Expr} {es : List Expr} {mo mv me ma mb : ME} {ms : MA} {k : Nat}
/-! ### set() -/
def eSet0 : ME := fun _ cs => .ok (.loc cs.length) (cs ++ [.set []])
theorem xp_set0 (hg : Gl X "set") (hm : X.mg "set" = none) : Xp X W (.Call (.Name "set" p) [] [] pos) eSet0 := by
  refine ⟨_, pe_callTy0 cr_set0K hg hm (by decide +kernel), fun σ env H F c cs Q re I po => ?_⟩
  refine ⟨rfl, fun p hp => ?_⟩
  have I2 : Ih (gd X) (L2.upd H p (SetK X.prog X.w p (fun _ => false) 0)) F (c ++ [p]) (cs ++ [.set []]) := I.push hp ⟨I.noF hp, upd_same⟩
  exact po _ _ _ (Xt.push I hp) I2 _ (.loc (by rw [← I.len, List.getElem?_append_right (Nat.le_refl _)]; simp))
def setAt (cs : Cells) : D → Option (Nat × List Kd)
  | .loc n => match cs[n]? with
    | some (.set l) => some (n, l)
    | _ => none
  | _ => none
theorem setAt_at {g : Gd} {H F : Hp} {c : List Addr} {cs : Cells} (I : Ih g H F c cs) {v : V} {d : D} {n : Nat} {l : List Kd} (r : RV g F c v d) (h : setAt cs d = some (n, l)) :
    ∃ a, d = .loc n ∧ v = .ref a ∧ c[n]? = some a ∧ cs[n]? = some (.set l) ∧ H a = some (SetK g.P g.w a (fun k => (l.map kk).contains k) l.length) := by
  unfold setAt at h
  split at h
  · rename_i m
    split at h
    · rename_i l2 hl
      simp only [Option.some.injEq, Prod.mk.injEq] at h
      obtain ⟨rfl, rfl⟩ := h
      cases r with
      | loc ha =>
        obtain ⟨_, h1⟩ := I.cell _ _ _ ha hl
        exact ⟨_, rfl, rfl, ha, hl, h1⟩
    · cases h
  · cases h
theorem key_beq : ∀ a b : Key, (a == b) = decide (a = b)
  | .inl a, .inl b => by
    show (a == b) = _
    rw [Bool.eq_iff_iff, beq_iff_eq, decide_eq_true_eq]
    exact ⟨fun h => by rw [h], fun h => Sum.inl.inj h⟩
  | .inl _, .inr _ => by show false = _; simp
  | .inr _, .inl _ => by show false = _; simp
  | .inr a, .inr b => by
    show (a == b) = _
    rw [Bool.eq_iff_iff, beq_iff_eq, decide_eq_true_eq]
    exact ⟨fun h => by rw [h], fun h => Sum.inr.inj h⟩
def hasK (l : List Kd) (k : Kd) : Bool := l.any fun j => decide (j = k)
theorem kk_mem {l : List Kd} {k : Kd} : (l.map kk).contains (kk k) = hasK l k := by
  unfold hasK
  rw [List.contains_eq_any_beq, List.any_map]
  congr 1
  funext j
  show (kk k == kk j) = _
  rw [key_beq, kk_eq]
  exact decide_eq_decide.mpr eq_comm
theorem contains_key {l : List Key} {k : Key} : l.contains k = l.any fun j => decide (j = k) := by
  rw [List.contains_eq_any_beq]
  congr 1
  funext j
  rw [key_beq]
  exact decide_eq_decide.mpr eq_comm
def addK (l : List Kd) (k : Kd) : List Kd := if hasK l k = true then l else l ++ [k]
theorem addK_fn {l : List Kd} {k : Kd} : (fun j => (l.map kk).contains j || decide (j = kk k)) = fun j => ((addK l k).map kk).contains j := by
  funext j
  unfold addK
  split
  · rename_i h
    by_cases e : j = kk k
    · subst e; rw [kk_mem, h]; simp
    · simp [e]
  · rw [List.map_append, contains_key, contains_key, List.any_append]
    simp only [List.map_cons, List.map_nil, List.any_cons, List.any_nil, Bool.or_false]
    congr 1
    exact decide_eq_decide.mpr eq_comm
theorem addK_len {l : List Kd} {k : Kd} : (if (l.map kk).contains (kk k) = true then l.length else l.length + 1) = (addK l k).length := by
  unfold addK
  rw [kk_mem]
  by_cases h : hasK l k = true <;> simp [h]
/-! ### s.add(e) -/
def eSAdd (mo me : ME) : ME := fun env cs => (mo env cs).bind fun o cs1 => match setAt cs1 o with
  | some _ => (me env cs1).bind fun v cs2 => match setAt cs2 o, kdOf v with
    | some (n, l), some k => if l.length + 1 < scanBound then .ok .non (cs2.set n (.set (addK l k))) else .stuck
    | _, _ => .stuck
  | none => .stuck
theorem xp_sadd (ho : Xp X W o mo) (he : Xp X W e me)
    (hbase : attributeBase o "add" X.env (eval o X.env) = eval o X.env := by rfl)
    (hfew : ((backTo pos (starEach [e] X.env)).all (fun x => !x.1) && (backToKw pos (keywordEach [] X.env)).all (fun x => x.1.isSome)
      && decide ([e].length + ([] : List Keyword).length + (if ([] : List Keyword).isEmpty then 0 else 1) < 30)) = true := by rfl)
    (hline : (apos.endLine == pos.line) = true := by rfl) (hs : starEach [e] X.env = (false, eval e X.env) :: starEach [] X.env := by rfl) (hplain : (backTo pos (starEach [] X.env)).any (·.1) = false := by rfl) :
    Xp X W (.Call (.Attribute o "add" apos) [e] [] pos) (eSAdd mo me) := by
  obtain ⟨to, po', so⟩ := ho
  obtain ⟨te, pe', se⟩ := he
  refine ⟨_, pe_saddK po' (pa_cons pe' pa_nil hs) hbase hfew hline hs hplain, fun σ env H F c cs Q re I po => ?_⟩
  refine so σ env H F c cs _ re I (PoE.cut po _ fun d cs1 _ H1 F1 c1 v x1 I1 rv po1 => ?_)
  split at po1
  · rename_i q hq
    obtain ⟨n, l⟩ := q
    obtain ⟨a, rfl, rfl, ha, hl, h1⟩ := setAt_at I1 rv hq
    refine ⟨⟨a, _, _, rfl, h1⟩, se σ env H1 F1 c1 cs1 _ (re.mono x1.le) I1 (PoE.cut po1 _ fun d2 cs2 _ H2 F2 c2 v2 x2 I2 rv2 po2 => ?_)⟩
    split at po2
    · rename_i n2 l2 kd h2 hk
      split at po2
      · rename_i hz
        obtain ⟨a2, e2, e3, ha2, hl2, h3⟩ := setAt_at I2 (rv.mono x2.le) h2
        cases e2; cases e3
        have ev := kdOf_rv rv2 hk
        subst ev
        refine ⟨a, kk kd, _, _, rfl, rfl, h3, hz, ?_⟩
        rw [addK_fn, addK_len]
        have x4 := Xt.write I2 (o := SetK X.prog X.w a (fun j => ((addK l2 kd).map kk).contains j) (addK l2 kd).length) ha2
        have hF := CR.free (I2.cell n a _ ha2 hl2) rfl
        exact po2 _ _ _ x4 (I2.write ha2 hl2 rfl (x := .set (addK l2 kd)) ⟨hF, upd_same⟩) .non .non
      · exact po2.elim
    · exact po2.elim
  · exact po1.elim
/-! ### e in s -/
def inSX (neg : Bool) (cs : Cells) (d s : D) : R := match setAt cs s, kdOf d with
  | some (_, l), some k => .ok (.bl (if neg then !hasK l k else hasK l k)) cs
  | _, _ => .stuck
theorem o2_inS {g : Gd} {neg : Bool} : O2 g (rSInK g.P g.w neg) (inSX neg) := by
  intro W H F c cs x y d e Q I rx ry po
  unfold inSX at po
  split at po
  · rename_i n l k h1 h2
    obtain ⟨a, rfl, rfl, ha, hl, h3⟩ := setAt_at I ry h1
    have ev := kdOf_rv rx h2
    subst ev
    refine ⟨kk k, a, _, _, rfl, rfl, h3, ?_⟩
    rw [kk_mem]
    exact PoE.here I (.bl _) po
  · exact po.elim
theorem xp_inS (ha : XpW X W a ma) (hb : XpW X W b mb) (hm : behindInMarks .In b = false) : Xp X W (.Compare a [.In] [b] pos) (op2 (inSX false) ma mb) := xp_cmpW or_sinK o2_inS ha hb hm
theorem xt_inS (ha : XpW X W a ma) (hb : XpW X W b mb) (hm : behindInMarks .In b = false) : Xt1 X W (.Compare a [.In] [b] pos) (op2 (inSX false) ma mb) := xt_cmpW or_sinK o2_inS ha hb hm
/-! ### isinstance(e, (T, U)) -/
def isiD2 (t u : String) (cs : Cells) (d : D) : R := match tyC cs d with
  | some v => match kitB v t, kitB v u with
    | some b, some b2 => .ok (.bl (b || b2)) cs
    | _, _ => .stuck
  | none => .stuck
theorem xp_isi2 {t u : String} {tk : Nat} (hgi : Gl X "isinstance") (hmi : X.mg "isinstance" = none) (hg : Gl X x) (hm : X.mg x = none) (hv : bootBuiltins x = some (.type t)) (hg2 : Gl X y) (hm2 : X.mg y = none) (hv2 : bootBuiltins y = some (.type u)) (ha : Xp X W a ma)
    (hn : x ≠ "__name__" := by decide) (hdb : (x == ("__debug__" : Str)) = false := by decide) (hn2 : y ≠ "__name__" := by decide) (hdb2 : (y == ("__debug__" : Str)) = false := by decide)
    (ht1 : starEach [.Name x p2, .Name y p3] X.env = (false, eval (.Name x p2) X.env) :: starEach [.Name y p3] X.env := by rfl) (ht2 : starEach [.Name y p3] X.env = (false, eval (.Name y p3) X.env) :: starEach [] X.env := by rfl)
    (he : starEach [a, .Tuple [.Name x p2, .Name y p3] tk p4] X.env = (false, eval a X.env) :: starEach [.Tuple [.Name x p2, .Name y p3] tk p4] X.env := by rfl) (he2 : starEach [.Tuple [.Name x p2, .Name y p3] tk p4] X.env = (false, eval (.Tuple [.Name x p2, .Name y p3] tk p4) X.env) :: starEach [] X.env := by rfl)
    (hpl : (backTo pos (starEach [.Tuple [.Name x p2, .Name y p3] tk p4] X.env)).any (·.1) = false := by rfl) : Xp X W (.Call (.Name "isinstance" p) [a, .Tuple [.Name x p2, .Name y p3] tk p4] [] pos) (op1 (isiD2 t u) ma) := by
  obtain ⟨ta, pa, sa⟩ := ha
  refine ⟨_, pe_callB call_isiT hgi hmi PyProof.Rows.boot_isinstance (pa_cons pa (pa_cons (pe_tup (pa_cons (pe_blt hg hm hv hn hdb) (pa_cons (pe_blt hg2 hm2 hv2 hn2 hdb2) pa_nil ht2) ht1)) pa_nil he2) he) (by decide) (by decide) he hpl, fun σ env H F c cs Q re I po => ?_⟩
  refine sa σ env H F c cs _ re I (PoE.cut po _ fun d cs1 _ H1 F1 c1 v x1 I1 rv po1 => ?_)
  refine ⟨by rw [sizeLine_eq]; simp, fun q hq => ?_⟩
  unfold isiD2 at po1
  split at po1
  · rename_i w hw
    split at po1
    · rename_i b1 b2 h1 h2
      have I2 := I1.other (o := .tup [.ty t, .ty u]) hq
      refine ⟨v, q, [.ty t, .ty u], .type w, [.type t, .type u], b1 || b2, rfl, upd_same, .cons (.ty t) (.cons (.ty u) .nil), tyC_at I2 rv hw, ?_, ?_⟩
      · refine kitAny_cons (kit_ty h1) (fun e => ?_) (fun e => by rw [e]; rfl)
        rw [e, Bool.false_or]
        exact kitAny_cons (kit_ty h2) (fun e2 => by rw [e2]; exact kitAny_nil) (fun e2 => e2)
      · exact PoE.here I2 (.bl (b1 || b2)) (PoE.from (Xt.other hq) po1)
    · exact po1.elim
  · exact po1.elim
/-! ### list(e) -/
def eListOf (md : Bool) (ma : ME) : ME := fun env cs => (ma env cs).bind fun d cs1 => match seqOf cs1 d with
  | some ds => mkL md cs1 ds
  | none => .stuck
theorem xp_listOf (md : Bool) (hg : Gl X "list") (hm : X.mg "list" = none) (ha : Xp X W a ma) (hs : starEach [a] X.env = (false, eval a X.env) :: starEach [] X.env := by rfl) (hp : (backTo pos (starEach ([] : List Expr) X.env)).any (·.1) = false := by rfl) :
    Xp X W (.Call (.Name "list" p) [a] [] pos) (eListOf md ma) := by
  obtain ⟨ta, pa, sa⟩ := ha
  refine ⟨_, pe_callTy call_list_of hg hm PyProof.Rows.Boot.«list» (pa_cons pa pa_nil hs) (by decide) (by decide) hs hp, fun σ env H F c cs Q re I po => ?_⟩
  refine sa σ env H F c cs _ re I (PoE.cut po _ fun d cs1 _ H1 F1 c1 v x1 I1 rv po1 => ?_)
  split at po1
  · rename_i ds hds
    obtain ⟨q, vs, rfl, h1, h2⟩ := seqOf_at I1 rv hds
    exact ⟨q, vs, rfl, h1, fun l hl => mkL_ok I1 h2 po1 hl⟩
  · exact po1.elim
end
end L3

namespace PySem
section
variable {prog : Program} {w : World} {A : Around} {E : Value → Shared → Prop}
theorem drawL {it t : Addr} {items : Array Value} (hne : t ≠ it) : ∀ (n i : Nat) (s : Shared) (Q : List Value → Shared → Prop), s.heap.IsListIter it t i → s.heap.IsList t items → i + n ≤ items.size →
    (∀ h' : Heap, h'.IsListIter it t (i + n) → Heap.SameBut it s.heap h' → Q ((items.toList.drop i).take n) { s with heap := h' }) → wpAny (model prog w) A (draw (.ref it) n) Q E s
  | 0, i, s, Q, hit, _, _, hQ => wpAny_pure (by simpa using hQ s.heap hit (Heap.SameBut.refl ..))
  | n + 1, i, s, Q, hit, ht, hle, hQ => by
    have hlt : i < items.size := by omega
    show wpAny _ _ (pyNext (.ref it) >>= _) Q E s
    refine wpAny_bind (wpAny_pyNext_list_item hit ht (x := items[i]) (by simp [hlt]) fun h₁ hit₁ hs₁ => ?_)
    refine wpAny_bind (wpAny_holding (drawL hne n (i + 1) _ _ hit₁ (ht.extBut hs₁.extBut hne) (by omega) fun h₂ hit₂ hs₂ => wpAny_pure ?_))
    have hd : items.toList.drop i = items[i] :: items.toList.drop (i + 1) := by simp [List.drop_eq_getElem_cons, hlt]
    have q := hQ h₂ (by rw [show i + (n + 1) = i + 1 + n by omega]; exact hit₂) (hs₁.trans hs₂)
    rw [hd, List.take_succ_cons] at q
    exact q
variable {s : Shared}
theorem unpackL {t : Addr} {items : Array Value} {targets : List (Bool × (Value → Sem Unit))} {Q : Unit → Shared → Prop} (hh : A.handled = none) (ht : s.heap.IsList t items)
    (hn : targets.length = items.size) (hstar : targets.findIdx? (·.1) = none)
    (h : ∀ h' : Heap, Heap.ExtBut s.heap.objs.size s.heap h' → wpAny (model prog w) A (assignInOrder (targets.map (·.2)) items.toList) Q E { s with heap := h' }) :
    wpAny (model prog w) A (unpack (.ref t) targets) Q E s := by
  have hlt : t ≠ s.heap.objs.size := by obtain ⟨o, ho, _⟩ := ht; exact Nat.ne_of_lt (Heap.lt_size ho)
  unfold unpack
  rw [hn, hstar]
  refine wpAny_bind (wpAny_holding ?_)
  unfold unpackItems
  refine wpAny_bind ?_
  unfold notIterableAtAll
  refine wpAny_bind (wpAny_specialOf ht.typeIs slot_list_iter.lookup (wpAny_pure ?_))
  simp only [Bool.false_eq_true, if_false]
  refine wpAny_bind (wpAny_holding (wpAny_pyIter_list ht ?_))
  refine wpAny_bind (wpAny_holding (drawL hlt items.size 0 _ _ ⟨_, Heap.get?_push_size _ rfl, rfl, rfl⟩ (ht.push _) (by omega) fun h₁ hit₁ hs₁ => ?_))
  rw [List.drop_zero, List.take_of_length_le (by simp), if_neg (by simp)]
  have ht₁ : h₁.IsList t items := (ht.push _).extBut hs₁.extBut hlt
  refine wpAny_bind (wpAny_holding (wpAny_pyNext_list_end hh hit₁ ht₁ (by simp) fun h₂ he₂ => ?_))
  simp only [Option.isSome_none, Bool.false_eq_true, if_false]
  exact wpAny_pure (h h₂ fun b o hb e => he₂ b o hb (hs₁.extBut b o hb (Heap.get?_push_of_some _ e)))
end
end PySem
namespace L3
open PySem L2
section
variable {X : Cx} {W : WX} {x y f m : Str} {pos pos' apos tpos p p2 p3 p4 : Pos} {a b o e : Expr} {es : List Expr} {mo mv me ma mb : ME} {ms : MA} {k : Nat}
/-! ### (a, b, ..) = a list of that length -/
def gLst (K : PySem.W.Frag) (n : Nat) (t : TGs) : TG := fun v σ H Q => ∃ a xs, v = .ref a ∧ SqL K H a xs ∧ xs.length = n ∧ t xs σ H Q
theorem pg_lstT {es : List Expr} {k : Nat} {t : TGs} {n : Nat} (hc : X.calm = true) (h : PGs X es t)
    (hn : (assignEach es X.env).length = n := by rfl) (hst : (assignEach es X.env).findIdx? (·.1) = none := by rfl) : PG X (.Tuple es k pos) (gLst X.K n t) := by
  refine ⟨fun pins s σ H v u Q I r hw => ?_⟩
  obtain ⟨a, xs, e1, hq, hl, hw⟩ := hw
  subst e1
  obtain ⟨r, _⟩ := r
  cases r
  obtain ⟨its, rv, pl, hz⟩ := I.list hq
  rw [PyProof.Rows.assign_Tuple]
  refine wpAny_bind (wpAny_standAt (unpackL (I.ok.hd hc) pl.isList (by simp [hn, ← hl, rv.length]) hst fun h' hx => ?_))
  have I1 : Inv X pins σ H { s with heap := h' } := I.kept (t' := s.toks) (fun b o e => hx b o (Nat.ne_of_lt (Heap.lt_size e)) e) (Nat.le_refl _)
  exact h.run pins _ σ H xs _ Q I1 (by simpa using rv) hw
theorem pg_or {tg : Expr} {g g2 : TG} (h : PG X tg g) (h2 : PG X tg g2) : PG X tg (fun v σ H Q => g v σ H Q ∨ g2 v σ H Q) := ⟨fun pins s σ H v u Q I r hw => hw.elim (h.run pins s σ H v u Q I r) (h2.run pins s σ H v u Q I r)⟩
def tgSeq (is : List Nat) (d : D) (env : L3.Env) : Option L3.Env := match d with
  | .tup ds => tgTs is ds env
  | .lst ds => tgTs is ds env
  | _ => none
theorem tgt_seq {is own : List Nat} (hc : X.calm = true) (h : Tgts X es is own) (hn : (assignEach es X.env).length = is.length := by rfl) (hst : (assignEach es X.env).findIdx? (·.1) = none := by rfl) : Tgt X (.Tuple es k pos) (tgSeq is) own := by
  obtain ⟨t, p, q⟩ := h
  refine ⟨_, pg_or (pg_tup hc p hn hst) (pg_lstT hc p hn hst), fun σ env H F c cs v d env1 Q re I rv h k => ?_⟩
  unfold tgSeq at h
  split at h
  · rename_i ds
    cases rv with
    | @tup a vs _ h1 h2 => exact .inl ⟨a, vs, rfl, SqT.up I.sub h1, by rw [h2.length, tgts_len h], q σ env H F c cs vs ds env1 Q re I h2 h k⟩
  · rename_i ds
    cases rv with
    | @lst a vs _ h1 h2 => exact .inr ⟨a, vs, rfl, .inl (.inl (I.sub _ _ h1)), by rw [h2.length, tgts_len h], q σ env H F c cs vs ds env1 Q re I h2 h k⟩
  · cases h
def enumD (ds : List D) : List D := (List.range ds.length).map fun i => .tup [.int (i : Nat), (ds[i]?).getD .non]
def wEnum (m : ME) : MW := fun env cs => (m env cs).toW fun d cs1 => match d with
  | .tup _ => .stuck
  | d => match seqOf cs1 d with
    | some ds => .ok (enumD ds) (fun cs2 => seqOf cs2 d = some ds) cs1
    | none => .stuck
/-! ### x += n -/
def sAugI (i : Nat) (m : ME) : MS := fun env cs => match env[i]? with
  | some (some (.int a)) => (m env cs).toS env fun d cs1 => match d with
    | .int b => .nx (env.set i (some (.int (a + b)))) cs1
    | _ => .stuck
  | _ => .stuck
theorem sm_augI {i : Nat} (hN : X.N.Nodup) (hi : X.N[i]? = some x) (hx : Loc X.env.scope x) (he : Xp X W e me) (hf : X.fn x = true ∨ X.env.scope.names.lookup x = some .local := by first | exact .inl rfl | exact .inr rfl | assumption) : Sm X W (.AugAssign (.Name x pos') .Add e pos) (sAugI i me) := by
  obtain ⟨te, pe, se⟩ := he
  refine ⟨_, ps_aug hN hi hx pe ip_add hf, fun σ env H F c cs Dn re I po => ?_⟩
  unfold sAugI at po
  split at po
  · rename_i a ha
    obtain ⟨v, hv, rv⟩ := re.2 i _ ha
    cases rv
    refine ⟨_, hv, se σ env H F c cs _ re I (PoS.cut re po _ fun d cs1 _ H1 F1 c1 v x1 I1 rv po1 => ?_)⟩
    split at po1
    · cases rv
      exact ⟨_, _, rfl, rfl, po1 _ _ _ (Xt.refl _ _ _) I1 _ ((re.mono x1.le).set i (.int _))⟩
    · exact po1.elim
  · exact po.elim
/-! ### what is never reached -/
def sStuck : MS := fun _ _ => .stuck
def eStuck : ME := fun _ _ => .stuck
theorem sm_stuck {st : Stmt} : Sm X W st sStuck := ⟨fun _ _ _ => False, ⟨fun _ _ _ _ _ _ h => h.elim⟩, fun _ _ _ _ _ _ _ _ _ po => po.elim⟩
theorem xp_stuck : Xp X W e eStuck := ⟨fun _ _ _ => False, ⟨fun _ _ _ _ _ _ h => h.elim⟩, fun _ _ _ _ _ _ _ _ _ po => po.elim⟩
/-! ### xs.remove(e), texts -/
def eqs (k : Str) (v : Value) : Bool := match v with
  | .str z _ => z.cps.toList == k.cps.toList
  | _ => false
theorem eqs_gives {k : Str} {t : Tok} : ∀ {us : List Value} {ns : List Str}, L2.Vals (ns.map V.str) us → ∀ y ∈ us, MeetsSeq.EqGives y (.str k t) (eqs k y)
  | _, [], .nil => fun y hy => by cases hy
  | _, n :: ns, .cons r h => fun y hy => by
    rcases List.mem_cons.mp hy with e | e
    · subst e
      obtain ⟨t', rfl⟩ := r
      exact SeqRoads2.EqGives.str n k t' t
    · exact eqs_gives h y e
theorem erase_mapS : ∀ (l : List Str) (j : Nat), (l.map V.str).eraseIdx j = (l.eraseIdx j).map V.str
  | [], j => by simp
  | a :: r, 0 => by simp
  | a :: r, j + 1 => by
    have ih := erase_mapS r j
    simp [ih]
def rRemS : V → List V → Hp → VK → Prop := fun x xs H Q => ∃ (l : Addr) (ns : List Str) (k : Str) (j : Nat), x = .ref l ∧ xs = [.str k] ∧ H l = some (.lst (ns.map V.str)) ∧ ns[j]? = some k ∧ (∀ m : Nat, m < j → ns[m]? ≠ some k) ∧ Q .non (L2.upd H l (.lst ((ns.eraseIdx j).map V.str)))
theorem mt_removeS : MtM X "list.remove" rRemS := by
  rintro pins s σ H x xs v us Q I ⟨rx, _⟩ ⟨rxs, _⟩ ⟨l, ns, k, j, rfl, rfl, hH, hj, hno, q⟩
  cases rx
  obtain ⟨u, rfl, ru⟩ := rxs.one
  obtain ⟨t, rfl⟩ := ru
  obtain ⟨z, its, n, r, hl, e⟩ := I.lstM hH
  rw [List.length_map] at hl z
  have hjn : j < ns.length := (List.getElem?_eq_some_iff.mp hj).1
  have hjl : j < its.toArray.size := by rw [List.size_toArray]; omega
  have at_ : ∀ (i : Nat) (hi : i < its.toArray.size) (n : Str), ns[i]? = some n → ∃ t', its.toArray[i] = .str n t' := by
    intro i hi n hn
    obtain ⟨u, h1, h2⟩ := r.get (i := i) (x := V.str n) (by rw [List.getElem?_map, hn]; rfl)
    obtain ⟨t', rfl⟩ := h2.1
    obtain ⟨h3, h4⟩ := List.getElem?_eq_some_iff.mp h1
    exact ⟨t', by simpa using h4⟩
  refine call_meets PySem.F.slot_list_remove ⟨_, e, rfl⟩ PySem.F.entry_list_remove (PySem.F.args_list_remove_2 _ _)
    (MeetsSeq.list_remove l its.toArray n (.str k t) (eqs k) (fun y hy => eqs_gives r.1 y (by simpa using hy)) j hjl ?_ ?_ (by rw [List.size_toArray]; omega)) ⟨e, ?_⟩
  · obtain ⟨tj, e1⟩ := at_ j hjl k hj
    rw [e1]
    exact beq_self_eq_true k.cps.toList
  · intro m hm hmj
    have hmn : m < ns.length := by omega
    obtain ⟨tm, e1⟩ := at_ m hm ns[m] (List.getElem?_eq_getElem hmn)
    rw [e1]
    refine beq_eq_false_iff_ne.mpr fun e2 => hno m hmj ?_
    rw [List.getElem?_eq_getElem hmn]
    congr 1
    have e3 : (ns[m]).cps.toList = k.cps.toList := e2
    generalize ns[m] = z1 at e3
    cases z1; cases k
    simpa [Array.toList_inj] using e3
  · have rr : Vals s.toks _ (its.eraseIdx j) := ⟨r.1.eraseIdx j, fun u m => r.2 u (List.mem_of_mem_eraseIdx m)⟩
    rw [erase_mapS] at rr
    refine ⟨.non, _, I.lset (its' := its.eraseIdx j) (t' := s.toks) hH e ?_ rr ?_ (Nat.le_refl _), .non, q⟩
    · show its.toArray.eraseIdxIfInBounds j = (its.eraseIdx j).toArray
      rw [List.eraseIdxIfInBounds_toArray]
    · rw [List.length_map]
      have := List.length_eraseIdx_le ns j
      omega
def remL (cs : Cells) (o v : D) : Option Cells := match o, v with
  | .loc n, .str k => match cs[n]? with
    | some (.lst l) => match strsL l with
      | some ls => if k ∈ ls then some (cs.set n (.lst (l.eraseIdx (ls.idxOf k)))) else none
      | none => none
    | _ => none
  | _, _ => none
def eRem (mo me : ME) : ME := fun env cs => (mo env cs).bind fun o cs1 => if isLc cs1 o = true then (me env cs1).bind fun v cs2 => match remL cs2 o v with
    | some cs3 => .ok .non cs3
    | none => .stuck
  else .stuck
theorem RVs.erase {g : Gd} {F : Hp} {c : List Addr} : ∀ {vs : List V} {ds : List D}, RVs g F c vs ds → ∀ j : Nat, RVs g F c (vs.eraseIdx j) (ds.eraseIdx j)
  | _, _, .nil, j => by simp; exact .nil
  | _, _, .cons a b, 0 => by simpa using b
  | _, _, .cons a b, j + 1 => by simp only [List.eraseIdx_cons_succ]; exact .cons a (RVs.erase b j)
theorem mk_inj {a b : List Nat} (h : mk a = mk b) : a = b := by
  have := congrArg (fun z : Str => z.cps.toList) h
  simpa using this
theorem xp_rem (ho : Xp X W o mo) (he : Xp X W e me)
    (hbase : attributeBase o "remove" X.env (eval o X.env) = eval o X.env := by rfl)
    (hfew : ((backTo pos (starEach [e] X.env)).all (fun x => !x.1) && (backToKw pos (keywordEach [] X.env)).all (fun x => x.1.isSome)
      && decide ([e].length + ([] : List Keyword).length + (if ([] : List Keyword).isEmpty then 0 else 1) < 30)) = true := by rfl)
    (hline : (apos.endLine == pos.line) = true := by rfl) (hs : starEach [e] X.env = (false, eval e X.env) :: starEach [] X.env := by rfl) (hplain : (backTo pos (starEach [] X.env)).any (·.1) = false := by rfl) :
    Xp X W (.Call (.Attribute o "remove" apos) [e] [] pos) (eRem mo me) := by
  obtain ⟨to, po', so⟩ := ho
  obtain ⟨te, pe', se⟩ := he
  refine ⟨_, pe_bm F.plainAttrs_list F.slot_list_remove F.type_list_remove mt_removeS po' (pa_cons pe' pa_nil hs) hbase hfew hline hs hplain, fun σ env H F c cs Q re I po => ?_⟩
  refine so σ env H F c cs _ re I (PoE.cut po _ fun d cs1 _ H1 F1 c1 v x1 I1 rv po1 => ?_)
  split at po1
  · rename_i hc
    obtain ⟨n, a, l, vs, rfl, rfl, ha, hl, h1, h2⟩ := isLc_at I1 rv hc
    refine ⟨.inl ⟨rfl, vs, .inl (.inl h1)⟩, se σ env H1 F1 c1 cs1 _ (re.mono x1.le) I1 (PoE.cut po1 _ fun d2 cs2 _ H2 F2 c2 v2 x2 I2 rv2 po2 => ?_)⟩
    split at po2
    · rename_i cs3 h3
      cases d2 with
      | str k =>
        simp only [remL] at h3
        split at h3
        · rename_i l2 hl2
          split at h3
          · rename_i ls hls
            split at h3
            · rename_i hk
              simp only [Option.some.injEq] at h3
              subst h3
              cases rv2
              have ha2 := x2.le.loc _ _ ha
              obtain ⟨f, vs2, hH, r⟩ := I2.cell _ _ _ ha2 hl2
              have ev := strsL_rv r hls
              subst ev
              have hix : ls.idxOf k < ls.length := List.idxOf_lt_length_of_mem hk
              refine ⟨a, ls.map mk, mk k, ls.idxOf k, rfl, rfl, hH, ?_, fun m hm => ?_, ?_⟩
              · rw [List.getElem?_map, List.getElem?_eq_getElem hix, Option.map_some, List.getElem_idxOf hix]
              · have hml : m < ls.length := Nat.lt_trans hm hix
                rw [List.getElem?_map, List.getElem?_eq_getElem hml, Option.map_some]
                intro e
                have e2 := mk_inj (Option.some.inj e)
                have e3 := List.not_of_lt_findIdx (p := (· == k)) (xs := ls) (i := m) hm
                simp [e2] at e3
              · have r2 : RVs (gd X) F2 c2 (((ls.map mk).eraseIdx (ls.idxOf k)).map V.str) (l2.eraseIdx (ls.idxOf k)) := by
                  rw [← erase_mapS]
                  exact RVs.erase r _
                have x4 := Xt.write I2 (o := .lst (((ls.map mk).eraseIdx (ls.idxOf k)).map V.str)) ha2
                exact po2 _ _ _ x4 (I2.write ha2 hl2 rfl ⟨f, _, upd_same, r2⟩) .non .non
            · cases h3
          · cases h3
        · cases h3
      | _ => simp [remL] at h3
    · exact po2.elim
  · exact po1.elim
end
end L3

/-! repr of a list that has cells among its items -/
namespace L3
open PySem L2 PySem.Spec PyProof.Rows
def pyNs (cs : Cells) : List D → Option (List PyData)
  | [] => some []
  | d :: r => match pyOf cs d, pyNs cs r with
    | some p, some q => some (p :: q)
    | _, _ => none
def pyN (cs : Cells) (d : D) : Option PyData := match d with
  | .lst l => (pyNs cs l).map .list
  | d => pyOf cs d
theorem pyNs_reads {P : Program} {w : World} {H F : Hp} {h : Heap} {g : Gd} {c : List Addr} {cs : Cells} (ok : HOk P w H h) (kin : g.K.In h) (I : Ih g H F c cs) (ns : H sysModules = none) :
    ∀ {v : List V} {d : List D} {p : List PyData} {u : List Value}, RVs g F c v d → pyNs cs d = some p → L2.Vals v u → ∃ as, ReadsAll h u p as ∧ sysModules ∉ as
  | _, _, _, _, .nil, e, r => by
    simp only [pyNs, Option.some.injEq] at e; subst e; cases r
    exact ⟨_, .nil, by simp⟩
  | _, _, _, _, .cons a b, e, r => by
    simp only [pyNs] at e
    split at e
    · rename_i p q e1 e2
      simp only [Option.some.injEq] at e
      subst e
      cases r with
      | cons r1 r2 =>
        obtain ⟨as, h1, n1⟩ := pyOf_reads ok kin I ns a e1 r1
        obtain ⟨bs, h2, n2⟩ := pyNs_reads ok kin I ns b e2 r2
        exact ⟨_, .cons h1 h2, by simp [n1, n2]⟩
    · cases e
theorem pyN_reads {P : Program} {w : World} {H F : Hp} {h : Heap} {g : Gd} {c : List Addr} {cs : Cells} (ok : HOk P w H h) (kin : g.K.In h) (I : Ih g H F c cs) (ns : H sysModules = none) {v : V} {d : D} {p : PyData} {u : Value} (r : RV g F c v d) (e : pyN cs d = some p) (rv : L2.RelV v u) : ∃ as, Reads h u p as ∧ sysModules ∉ as := by
  unfold pyN at e
  split at e
  · simp only [Option.map_eq_some_iff] at e
    obtain ⟨y, e, rfl⟩ := e
    cases r with
    | lst h1 h2 =>
      cases rv
      have h1' := I.sub _ _ h1
      obtain ⟨z, its, n, rv, ho⟩ := (show ObjOk P w H h _ (.lst _) from ok _ _ h1')
      obtain ⟨as, ra, na⟩ := pyNs_reads ok kin I ns h2 e rv
      exact ⟨_, .list ho rfl rfl ra, ns_mem ns h1' na⟩
  · exact pyOf_reads ok kin I ns r e rv
def reprND (cs : Cells) : List D → R
  | [.lst l] => match pyN cs (.lst l) with
      | some p => if p.showable = true ∧ p.depth ≤ 60 ∧ p.shown.length ≤ sizeLine then .ok (.str (codes p.shown)) cs else .stuck
      | none => .stuck
  | ds => reprBD cs ds
theorem lst_ref {g : Gd} {F : Hp} {c : List Addr} {v : V} {l : List D} (r : RV g F c v (.lst l)) : ∃ a, v = .ref a := by cases r; exact ⟨_, rfl⟩
theorem cb_reprN {g : Gd} : Cb g (rRepX g.P g.w g.K) reprND := by
  intro W H F c cs vs ds Q I rv po
  unfold reprND at po
  split at po
  · intro hns
    split at po
    · rename_i l p hp
      split at po
      · rename_i hc
        obtain ⟨h1, h2, h3⟩ := hc
        cases rv with
        | cons r1 r2 =>
          cases r2
          obtain ⟨a, rfl⟩ := lst_ref r1
          refine .inr ⟨a, p, rfl, fun h ok kin => pyN_reads ok kin I hns r1 hp rfl, h1, h2, h3, ?_⟩
          have := PoE.here I (.str (codes p.shown)) po
          rwa [str_codes] at this
      · exact po.elim
    · exact po.elim
  · exact cb_reprX W H F c cs vs _ Q I rv po
section
variable {X : Cx} {W : WX} {pos p : Pos} {e : Expr} {ms : MA}
theorem xp_reprN {k : Nat} (hG : X.A.guards = some []) (hr : Room k X.A) (hN : NoS X) (hg : Gl X "repr") (hm : X.mg "repr" = none) (ha : Xa X W [e] ms)
    (he : starEach [e] X.env = (false, eval e X.env) :: starEach [] X.env := by rfl) : XpW X W (.Call (.Name "repr" p) [e] [] pos) (eBi reprND ms) :=
  xp_biW (call_repX hG hr.units hN) cb_reprN hg hm bo_repr' ha (he := he)
end
end L3

namespace L3
open PySem L2 PySem.Spec PyProof.Rows
section
variable {X : Cx}
/-! ### x.index of a list; list(range(n)) -/
theorem mt_index : MtM X "list.index" (rIndex X.K) := by
  rintro pins s σ H x xs v us Q I ⟨rx, _⟩ ⟨rxs, _⟩ ⟨a, ys, y, j, z, rfl, rfl, hs, fy, fys, hz, hzj, hno, q⟩
  cases rx
  obtain ⟨uy, rfl, ry⟩ := vals1 rxs
  obtain ⟨its, rv, ⟨⟨cls, dd, data, sl⟩, n, ho, hc, hdn, hd⟩, hlen⟩ := I.i.list hs
  simp only at hc hd
  subst hc hd
  obtain ⟨u, hu, ru⟩ := rv.get hz
  obtain ⟨hjl, hje⟩ := List.getElem?_eq_some_iff.mp hu
  have hvl := rv.length
  have hj : j < its.toArray.size := by simpa using hjl
  have hsl := sizeLine_eq
  refine call_meets PySem.F.slot_list_index ⟨_, ho, rfl⟩ PySem.F.entry_list_index (PySem.F.args_list_index_2 _ _)
    (SeqAt.list_indexAt a its.toArray n dd sl uy (eqU y) j hj (by omega) ?_ ?_) ⟨ho, fun u' hu' => mem_eqAt ry fy rv fys u' (by simpa using hu'), ?_⟩
  · have e1 : its.toArray[j] = u := by simpa using hje
    rw [e1, eqU_of ru (flat_at fys hz)]
    exact hzj
  · intro m hm hmj
    have hml : m < its.length := by simpa using hm
    have hmy : m < ys.length := by omega
    have hy' : ys[m]? = some ys[m] := List.getElem?_eq_getElem hmy
    obtain ⟨u2, hu2, ru2⟩ := rv.get hy'
    obtain ⟨_, hme⟩ := List.getElem?_eq_some_iff.mp hu2
    have e1 : its.toArray[m] = u2 := by simpa using hme
    rw [e1, eqU_of ru2 (flat_at fys hy')]
    exact hno m _ hmj hy'
  · exact endI I (Nat.le_succ _) q
variable {a e : Expr} {ta : TE} {te : L2.St → Hp → (Int → Int → Hp → Prop) → Prop}
def PRg (X : Cx) (e : Expr) (t : L2.St → Hp → (Int → Int → Hp → Prop) → Prop) : Prop :=
  ∀ (pins : List (Addr × Obj)) (s : Shared) (σ : L2.St) (H : Hp) (Q : Int → Int → Hp → Prop), Inv X pins σ H s → t σ H Q →
    wpAny (model X.prog X.w) X.A (eval e X.env) (fun x s' => ∃ r a b t u v H', x = .ref r ∧ IsRange s'.heap r a b 1 t u v ∧ Inv X pins σ H' s' ∧ Q a b H') X.xe s
theorem prg_1 {p pos : Pos} (hg : Gl X "range") (hm : X.mg "range" = none) (ha : PE X a ta) (na : starEach [a] X.env = (false, eval a X.env) :: starEach [] X.env := by rfl) : PRg X (.Call (.Name "range" p) [a] [] pos) (tRg1 ta) := by
  intro pins s σ H Q I h
  refine Call_ (ld_blt I hg hm boot_range (PyProof.Rows.callWith_type1 (args_cons (thn (ha.run pins s σ H _ I h) fun v s1 z => args_nil ?_) na) na))
  obtain ⟨x, H1, I1, ⟨r, _⟩, n, rfl, q⟩ := z
  obtain ⟨t, rfl⟩ := r
  exact call_range_1 ⟨_, 0, n, _, _, _, H1, rfl, IsRange.new _ _ _ _ _ _ _, I1.kept (fun b u e => Heap.get?_push_of_some _ e) (by first | exact Nat.le_refl _ | (show s1.toks ≤ _; omega)), q⟩
theorem pe_listRg {p pos : Pos} (hc : X.calm = true) (hg : Gl X "list") (hm : X.mg "list" = none) (he : PRg X e te) (na : starEach [e] X.env = (false, eval e X.env) :: starEach [] X.env := by rfl) : PE X (.Call (.Name "list" p) [e] [] pos) (tLstRg te) := by
  constructor
  intro pins s σ H Q I h
  refine Call_ (ld_blt I hg hm boot_list (PyProof.Rows.callWith_type1 (args_cons (thn (he pins s σ H _ I h) fun x s1 z => args_nil ?_) na) na))
  obtain ⟨r, a, b, t, u, v, H1, ex, hr, I1, ok, q⟩ := z
  subst ex
  obtain ⟨b1, b2, b3, b4, b5⟩ := ok
  refine thk (call_list_range (Q := fun w s' => ∃ (h' : Heap) (tk : Nat) (acc : Array Value) (c' : Nat), w = .ref s1.heap.objs.size ∧ s' = { s1 with heap := h', toks := tk } ∧ (∀ b o, s1.heap.get? b = some o → h'.get? b = some o) ∧ h'.get? s1.heap.objs.size = some { cls := .type "list", dict := none, data := .seq acc c', slots := #[] } ∧ L2.Vals (rgV a b) acc.toList)
    (n := (b - a).toNat) (I1.ok.hd hc) hr (small_one b1 b2 b3 b4) (rangeSize_nat a b) b5 fun h' tk acc c' hk e' hi => ⟨h', tk, acc, c', rfl, rfl, hk, e', vals_rg hi⟩) fun w s' hk z => ?_
  obtain ⟨h', tk, acc, c', rfl, rfl, kp, e', rv⟩ := z
  refine ⟨.ref s1.heap.objs.size, upd H1 s1.heap.objs.size (.lst (rgV a b)), I1.laid kp (Nat.le_refl _) (show ObjOk X.prog X.w _ _ _ (.lst (rgV a b)) from ⟨?_, acc.toList, c', rv, ?_⟩) (fun o it n e2 d => ?_) hk, .ref, q _ (I1.fresh (Nat.le_refl _))⟩
  · rw [rgV_length, sizeLine_eq]; omega
  · rw [Array.toArray_toList]; exact e'
  · rw [e'] at e2; cases e2
    cases d
    exact gvs_of rv fun x m z e => by
      unfold rgV at m
      obtain ⟨i, _, rfl⟩ := List.mem_map.mp m
      cases e
end
end L3

/-! sorted (of at most one item), list(range(n)), x.index(text) of a list, defs with defaults -/
namespace L3
open PySem L2 PySem.Spec PyProof.Rows
section
variable {X : Cx} {W : WX} {p p2 pos apos : Pos} {a o e : Expr} {ma mo me : ME}
/-! sorted -/
def eSort1 (ma : ME) : ME := fun env cs => (ma env cs).bind fun d cs1 => match listOf cs1 d with
  | some [] => mkL false cs1 []
  | some [.int i] => mkL false cs1 [.int i]
  | _ => .stuck
theorem xp_sort1 (hg : Gl X "sorted") (hm : X.mg "sorted" = none) (bo : bootBuiltins "sorted" = some (.builtin "sorted")) (ha : Xp X W a ma) (hs : starEach [a] X.env = (false, eval a X.env) :: starEach [] X.env := by rfl) (hp : (backTo pos (starEach ([] : List Expr) X.env)).any (·.1) = false := by rfl) :
    Xp X W (.Call (.Name "sorted" p) [a] [] pos) (eSort1 ma) := by
  obtain ⟨ta, pa, sa⟩ := ha
  refine ⟨_, pe_callB cr_sorted hg hm bo (pa_cons pa pa_nil hs) (by decide) (by decide) hs hp, fun σ env H F c cs Q re I po => ?_⟩
  refine sa σ env H F c cs _ re I (PoE.cut po _ fun d cs1 _ H1 F1 c1 v x1 I1 rv po1 => ?_)
  split at po1
  · rename_i hds
    obtain ⟨q, vs, rfl, h1, h2⟩ := listOf_at I1 rv hds
    cases h2
    refine ⟨q, [], rfl, .inl (.inl h1), by decide, fun ns' p' hpm _ hp' => ?_⟩
    have : ns' = [] := List.Perm.eq_nil hpm
    subst this
    exact mkL_ok I1 .nil po1 hp'
  · rename_i i hds
    obtain ⟨q, vs, rfl, h1, h2⟩ := listOf_at I1 rv hds
    cases h2 with
    | cons r1 r2 =>
      cases r1
      cases r2
      refine ⟨q, [i], rfl, .inl (.inl h1), by simp, fun ns' p' hpm _ hp' => ?_⟩
      have : ns' = [i] := List.perm_singleton.mp hpm
      subst this
      exact mkL_ok I1 (.cons (.int i) .nil) po1 hp'
  · exact po1.elim
/-! list(range(n)) -/
def eListRg (me : ME) : ME := fun env cs => (me env cs).bind fun d cs1 => match d with
  | .int n => if 0 ≤ n ∧ n ≤ 1000000 then mkL false cs1 ((List.range n.toNat).map fun i => .int (i : Nat)) else .stuck
  | _ => .stuck
theorem rvs_rg {g : Gd} {F : Hp} {c : List Addr} : ∀ l : List Nat, RVs g F c (l.map fun i => V.int (0 + (i : Nat))) (l.map fun i => D.int (i : Nat))
  | [] => .nil
  | i :: r => by
    rw [List.map_cons, List.map_cons, Int.zero_add]
    exact .cons (.int _) (rvs_rg r)
theorem xp_listRg (hc : X.calm = true) (hg : Gl X "list") (hm : X.mg "list" = none) (hgr : Gl X "range") (hmr : X.mg "range" = none) (he : Xp X W e me)
    (na : starEach [e] X.env = (false, eval e X.env) :: starEach [] X.env := by rfl) (na2 : starEach [.Call (.Name "range" p2) [e] [] pos'] X.env = (false, eval (.Call (.Name "range" p2) [e] [] pos') X.env) :: starEach [] X.env := by rfl) :
    Xp X W (.Call (.Name "list" p) [.Call (.Name "range" p2) [e] [] pos'] [] pos) (eListRg me) := by
  obtain ⟨te, pe', se⟩ := he
  refine ⟨_, pe_listRg hc hg hm (prg_1 hgr hmr pe' na) na2, fun σ env H F c cs Q re I po => ?_⟩
  refine se σ env H F c cs _ re I (PoE.cut po _ fun d cs1 _ H1 F1 c1 v x1 I1 rv po1 => ?_)
  split at po1
  · rename_i n _
    split at po1
    · rename_i hn
      cases rv
      refine ⟨n, rfl, RgOk.of_le (by decide) (by omega) (by decide) hn.1, fun q hq => ?_⟩
      have hr : RVs (gd X) F1 c1 (rgV 0 n) ((List.range n.toNat).map fun i => D.int (i : Nat)) := by
        unfold rgV
        rw [Int.sub_zero]
        exact rvs_rg _
      exact mkL_ok I1 hr po1 hq
    · exact po1.elim
  · exact po1.elim
end
/-! x.index(text) -/
section
variable {X : Cx} {W : WX} {pos apos : Pos} {o e : Expr} {mo me : ME}
def eLidx (mo me : ME) : ME := fun env cs => (mo env cs).bind fun o cs1 => if isLc cs1 o = true then (me env cs1).bind fun v cs2 => match listOf cs2 o, v with
    | some ds, .str k => match strsL ds with
      | some ls => if k ∈ ls then .ok (.int (ls.idxOf k : Nat)) cs2 else .stuck
      | none => .stuck
    | _, _ => .stuck
  else .stuck
theorem flat_mk (ls : List (List Nat)) : ((ls.map mk).map V.str).all flatV = true := by
  induction ls with
  | nil => rfl
  | cons a r ih => rw [List.map_cons, List.map_cons, List.all_cons, ih]; rfl
theorem xp_lidx (ho : Xp X W o mo) (he : Xp X W e me)
    (hbase : attributeBase o "index" X.env (eval o X.env) = eval o X.env := by rfl)
    (hfew : ((backTo pos (starEach [e] X.env)).all (fun x => !x.1) && (backToKw pos (keywordEach [] X.env)).all (fun x => x.1.isSome)
      && decide ([e].length + ([] : List Keyword).length + (if ([] : List Keyword).isEmpty then 0 else 1) < 30)) = true := by rfl)
    (hline : (apos.endLine == pos.line) = true := by rfl) (hs : starEach [e] X.env = (false, eval e X.env) :: starEach [] X.env := by rfl) (hplain : (backTo pos (starEach [] X.env)).any (·.1) = false := by rfl) :
    Xp X W (.Call (.Attribute o "index" apos) [e] [] pos) (eLidx mo me) := by
  obtain ⟨to, po', so⟩ := ho
  obtain ⟨te, pe', se⟩ := he
  refine ⟨_, pe_bm F.plainAttrs_list F.slot_list_index F.type_list_index mt_index po' (pa_cons pe' pa_nil hs) hbase hfew hline hs hplain, fun σ env H F c cs Q re I po => ?_⟩
  refine so σ env H F c cs _ re I (PoE.cut po _ fun d cs1 _ H1 F1 c1 v x1 I1 rv po1 => ?_)
  split at po1
  · rename_i hc
    obtain ⟨n, a, l, vs, rfl, rfl, ha, hl, h1, h2⟩ := isLc_at I1 rv hc
    refine ⟨.inl ⟨rfl, vs, .inl (.inl h1)⟩, se σ env H1 F1 c1 cs1 _ (re.mono x1.le) I1 (PoE.cut po1 _ fun d2 cs2 _ H2 F2 c2 v2 x2 I2 rv2 po2 => ?_)⟩
    split at po2
    · rename_i ds k hds _
      split at po2
      · rename_i ls hls
        split at po2
        · rename_i hk
          obtain ⟨q, us, e1, hH, r⟩ := listOf_at I2 (rv.mono x2.le) hds
          cases e1
          cases rv2
          have ev := strsL_rv r hls
          subst ev
          have hix : ls.idxOf k < ls.length := List.idxOf_lt_length_of_mem hk
          refine ⟨_, (ls.map mk).map V.str, .str (mk k), ls.idxOf k, .str (mk k), rfl, rfl, .inl (.inl hH), rfl, flat_mk ls, ?_, ?_, fun m z hm hz => ?_, PoE.here I2 (.int _) po2⟩
          · rw [List.getElem?_map, List.getElem?_map, List.getElem?_eq_getElem hix, List.getElem_idxOf hix]; rfl
          · show ((mk k : Str) == mk k) = true
            exact beq_self_eq_true _
          · have hml : m < ls.length := Nat.lt_trans hm hix
            rw [List.getElem?_map, List.getElem?_map, List.getElem?_eq_getElem hml] at hz
            simp only [Option.map_some, Option.some.injEq] at hz
            subst hz
            show ((mk ls[m] : Str) == mk k) = false
            rw [beq_eq_false_iff_ne]
            intro e
            have e2 := mk_inj e
            have e3 := List.not_of_lt_findIdx (p := (· == k)) (xs := ls) (i := m) hm
            simp [e2] at e3
        · exact po2.elim
      · exact po2.elim
    · exact po2.elim
  · exact po1.elim
end
section
variable {P : Program} {w : World} {K : PySem.W.Frag} {mg : Str → Option Value} {base : Heap} {k : Nat} {f : Addr} {fd : FuncData} {ps : List Str} {sp : Sp}
theorem fnMGX {x qual : Str} {st : Stmt} {N : List Str} (F : FunX K x qual st f fd) (S : FnScope N ps (defScope st)) (body : MS)
    (h : ∀ (cdv : Value) (A : Around) (outer : List PySem.Env) (s : Shared) (H : Hp) (E : XK), A.guards = some [] → Room k (A.deeper (PyProof.Rows.envOfC qual (defScope st) s.heap.objs.size f cdv)) →
      Sms (cxOf (L2.CX P w) P w K mg base N qual (defScope st) f cdv A outer s H E) (fun cls d _ H => E cls d H) (defBody st) body) :
    FnG P w K mg base (k + 1) f fd ps (spM ⟨P, w, K, mg⟩ (mDef N.length body) ps.length) := by
  refine fnG_ofX F S (fun vs H Q E h => h.1) fun cdv A outer s H vs Q E hG hr ⟨hl, F0, c, cs, ds, I, rv, po⟩ => ?_
  obtain ⟨t, pt, st⟩ := h cdv A outer s H E hG hr
  refine ⟨t, pt, st _ _ H F0 c cs _ (re_start rv N) I ?_⟩
  unfold mDef at po
  cases hb : body (ds.map some ++ List.replicate (N.length - ds.length) none) cs with
  | nx e c1 => rw [hb] at po; exact fun H' F' c' x I' σ re => po H' F' c' x I' .non .non
  | rt d c1 => rw [hb] at po; exact po
  | exc n fs e c1 => rw [hb] at po; exact fun H' F' c' x I' σ C dx vs _ a b d => po H' F' c' x I' C dx vs a b d
  | bk e c1 => rw [hb] at po; exact po.elim
  | ct e c1 => rw [hb] at po; exact po.elim
  | stuck => rw [hb] at po; exact po.elim
theorem funx_mk {x qual : Str} {st : Stmt} {oc : Value} {od an : Option Addr} {osl : Array (Option Value)} {dV kV doc pm cdv ct : Value} (l : K.lookup f = some ⟨oc, od, .func (PySem.W.fnOf x qual (defArgs st) (defBody st) (defScope st) dV kV doc pm an cdv ct), osl⟩)
    (c : PySem.W.codeIn K cdv qual = true) (k : PySem.W.keepIn K (.ref f) = true) : FunX K x qual st f (PySem.W.fnOf x qual (defArgs st) (defBody st) (defScope st) dV kV doc pm an cdv ct) := ⟨⟨oc, od, dV, kV, doc, pm, an, cdv, ct, osl, rfl, l, c⟩, k⟩
/-- every parameter is given; the defaults stand in a tuple at T -/
theorem bindsX {x qual : Str} {st : Stmt} {T : Addr} {an : Option Addr} {kV doc pm cdv ct : Value} {o : Obj} {its : List Value} {n m : Nat} (lT : K.lookup T = some o) (oT : o.data = .seq its.toArray n) (hm : its.length = m)
    (h : ∀ us its : List Value, us.length = ps.length → its.length = m → ∃ k, bindArgs (PySem.W.fnOf x qual (defArgs st) (defBody st) (defScope st) (.ref T) kV doc pm an cdv ct) ⟨us, []⟩ = seqItems? (.ref T) >>= k ∧ k (some its.toArray) = pure (ps.zip us)) :
    Binds K (PySem.W.fnOf x qual (defArgs st) (defBody st) (defScope st) (.ref T) kV doc pm an cdv ct) ps [] := by
  intro s us X hl
  rw [List.append_nil] at hl ⊢
  obtain ⟨k, e1, e2⟩ := h us its hl hm
  refine BindsTo.of_looks fun M => ?_
  rw [e1]
  exact looks_items X lT oT (.of_pure e2)
theorem ownG_mkX {n : Nat} {x qual : Str} {m : MF} {st : Stmt} (Fn : FunX K x qual st f fd) (F : FnG P w K mg base k f fd ps (spM ⟨P, w, K, mg⟩ m ps.length)) (hm : mg x = some (.ref f)) (hb : Binds K fd ps []) (hn : ps.length = n) : OwnG P w K mg base k x n m := by
  subst hn
  exact ⟨f, fd, ps, F, hm, Fn.kp, hb⟩
end
end L3

namespace L3
open PySem L2
theorem nr {α : Sort _} {a b : α} (h : a = b) : a = b := h

/-! ### what comes out: by conditions -/
abbrev KX := Str → List (Str × D) → Cells → Prop
def RP (r : R) (P : D → Cells → Prop) (X : KX) : Prop := match r with
  | .ok d cs => P d cs
  | .exc n fs cs => X n fs cs
  | .stuck => False
def RAP (r : RA) (P : List D → Cells → Prop) (X : KX) : Prop := match r with
  | .ok d cs => P d cs
  | .exc n fs cs => X n fs cs
  | .stuck => False
structure Cn where
  nx : Env → Cells → Prop
  rt : D → Cells → Prop
  bk : Env → Cells → Prop
  ct : Env → Cells → Prop
  xc : Str → List (Str × D) → Env → Cells → Prop
def SP (s : S) (K : Cn) : Prop := match s with
  | .nx e c => K.nx e c
  | .rt d c => K.rt d c
  | .bk e c => K.bk e c
  | .ct e c => K.ct e c
  | .exc n fs e c => K.xc n fs e c
  | .stuck => False
def noX : KX := fun _ _ _ => False
section
variable {P P' : D → Cells → Prop} {X : KX} {K : Cn} {env : Env} {cs : Cells} {a b c t : ME} {ms : MA} {d e : D}
theorem RP_ok : RP (.ok d cs) P X = P d cs := nr rfl
theorem RP_bind (r : R) (f : D → Cells → R) : RP (r.bind f) P X = RP r (fun d c => RP (f d c) P X) X := by cases r <;> rfl
theorem RAP_bind (r : RA) (f : List D → Cells → R) : RP (r.bind f) P X = RAP r (fun d c => RP (f d c) P X) X := by cases r <;> rfl
theorem RP.mono {r : R} (h : RP r P X) (k : ∀ d cs, P d cs → P' d cs) : RP r P' X := by
  cases r with
  | ok d cs => exact k d cs h
  | exc n fs cs => exact h
  | stuck => exact h
theorem RP.get {r : R} (h : RP r P noX) : ∃ d cs, r = .ok d cs ∧ P d cs := by
  cases r with
  | ok d cs => exact ⟨d, cs, rfl, h⟩
  | exc n fs cs => exact h.elim
  | stuck => exact h.elim
theorem SP_bind (s : S) (k : Env → Cells → S) : SP (s.bind k) K = SP s { K with nx := fun e c => SP (k e c) K } := by cases s <;> rfl
theorem SP_toS (r : R) (k : D → Cells → S) : SP (r.toS env k) K = RP r (fun d c => SP (k d c) K) (fun n fs c => K.xc n fs env c) := by cases r <;> rfl
/-! statements -/
theorem sp_nx : SP (sNx env cs) K = K.nx env cs := nr rfl
theorem sp_seq {a b : MS} : SP (sSeq a b env cs) K = SP (a env cs) { K with nx := fun e c => SP (b e c) K } := SP_bind _ _
theorem sp_asg {i : Nat} : SP (sAsg i a env cs) K = RP (a env cs) (fun d c => K.nx (env.set i (some d)) c) (fun n fs c => K.xc n fs env c) := SP_toS _ _
theorem sp_ret : SP (sRet a env cs) K = RP (a env cs) K.rt (fun n fs c => K.xc n fs env c) := SP_toS _ _
theorem sp_drop : SP (sDrop a env cs) K = RP (a env cs) (fun _ c => K.nx env c) (fun n fs c => K.xc n fs env c) := SP_toS _ _
theorem sp_if {x y : MS} : SP (sIf t x y env cs) K = RP (t env cs) (fun d c => SP (brS d (x env c) (y env c)) K) (fun n fs c => K.xc n fs env c) := SP_toS _ _
theorem SP_brS {k : Bool} {x y : S} : SP (brS (.bl k) x y) K = if k = true then SP x K else SP y K := by cases k <;> rfl
theorem sp_put : SP (sPut a b c env cs) K = RP (c env cs) (fun v c1 => RP (a env c1) (fun o c2 => RP (b env c2) (fun i c3 => ∃ c4, putL c3 o i v = some c4 ∧ K.nx env c4) (fun n fs c => K.xc n fs env c)) (fun n fs c => K.xc n fs env c)) (fun n fs c => K.xc n fs env c) := by
  unfold sPut
  simp only [SP_toS]
  congr; funext v c1; congr; funext o c2; congr; funext i c3
  cases h : putL c3 o i v with
  | none => simp [SP]
  | some c4 => simp [SP]
/-! expressions -/
theorem rp_var {i : Nat} (h : env[i]? = some (some d)) : RP (eVar i env cs) P X = P d cs := by
  unfold eVar; rw [h]; rfl
theorem rp_c : RP (eC d env cs) P X = P d cs := nr rfl
theorem rp_op2 {f : Cells → D → D → R} : RP (op2 f a b env cs) P X = RP (a env cs) (fun x c1 => RP (b env c1) (fun y c2 => RP (f c2 x y) P X) X) X := by
  unfold op2; simp only [RP_bind]
theorem rp_op1 {f : Cells → D → R} : RP (op1 f a env cs) P X = RP (a env cs) (fun x c1 => RP (f c1 x) P X) X := RP_bind _ _
theorem RP_brD {k : Bool} {x y : Cells → R} : RP (brD (.bl k) cs x y) P X = if k = true then RP (x cs) P X else RP (y cs) P X := by cases k <;> rfl
theorem rp_and : RP (eAnd a b env cs) P X = RP (a env cs) (fun x c1 => RP (brD x c1 (b env) fun c2 => .ok (.bl false) c2) P X) X := RP_bind _ _
theorem rp_or : RP (eOr a b env cs) P X = RP (a env cs) (fun x c1 => RP (brD x c1 (fun c2 => .ok (.bl true) c2) (b env)) P X) X := RP_bind _ _
theorem rp_not : RP (eNot a env cs) P X = RP (a env cs) (fun x c1 => RP (notD c1 x) P X) X := RP_bind _ _
theorem rp_notD {k : Bool} : RP (notD cs (.bl k)) P X = P (.bl !k) cs := nr rfl
theorem rp_if : RP (eIf t a b env cs) P X = RP (t env cs) (fun x c1 => RP (brD x c1 (a env) (b env)) P X) X := RP_bind _ _
theorem rap_nil {Q : List D → Cells → Prop} : RAP (aNil env cs) Q X = Q [] cs := nr rfl
theorem rap_cons {Q : List D → Cells → Prop} : RAP (aCons a ms env cs) Q X = RP (a env cs) (fun d c1 => RAP (ms env c1) (fun ds c2 => Q (d :: ds) c2) X) X := by
  unfold aCons
  cases a env cs with
  | ok d c1 =>
    simp only [RP]
    cases ms env c1 <;> rfl
  | exc => rfl
  | stuck => rfl
theorem rp_call {m : MF} : RP (eCall m ms env cs) P X = RAP (ms env cs) (fun ds c => RP (m ds c) P X) X := RAP_bind _ _
theorem rp_bi {f : Cells → List D → R} : RP (eBi f ms env cs) P X = RAP (ms env cs) (fun ds c => RP (f c ds) P X) X := RAP_bind _ _
theorem rp_list {md : Bool} : RP (eList md ms env cs) P X = RAP (ms env cs) (fun ds c => RP (mkL md c ds) P X) X := RAP_bind _ _
theorem rp_tup : RP (eTup ms env cs) P X = RAP (ms env cs) (fun ds c => RP (mkT c ds) P X) X := RAP_bind _ _
theorem rp_mkLf {ds : List D} (h : ds.length ≤ sizeLine) : RP (mkL false cs ds) P X = P (.lst ds) cs := by
  unfold mkL; rw [if_pos h]; rfl
theorem rp_mkLt {ds : List D} (h : ds.length ≤ sizeLine) : RP (mkL true cs ds) P X = P (.loc cs.length) (cs ++ [.lst ds]) := by
  unfold mkL; rw [if_pos h]; rfl
theorem rp_mkT {ds : List D} (h : ds.length ≤ sizeLine) : RP (mkT cs ds) P X = P (.tup ds) cs := by
  unfold mkT; rw [if_pos h]; rfl
theorem rp_chain {f f' : Cells → D → D → R} : RP (eChain f f' a b c env cs) P X = RP (a env cs) (fun x c1 => RP (b env c1) (fun y c2 => RP (f c2 x y) (fun z c3 => RP (brD z c3 (fun c4 => (c env c4).bind fun w c5 => f' c5 y w) fun c4 => .ok (.bl false) c4) P X) X) X) X := by
  unfold eChain; simp only [RP_bind]
theorem rp_m0 {f : Cells → List Nat → R} : RP (eM0 f a env cs) P X = RP (a env cs) (fun x c1 => match x with | .str l => RP (f c1 l) P X | _ => False) X := by
  unfold eM0; rw [RP_bind]; congr; funext x c1; cases x <;> rfl
theorem rp_m1 {f : Cells → List Nat → D → R} : RP (eM1 f a b env cs) P X = RP (a env cs) (fun x c1 => match x with | .str l => RP (b env c1) (fun y c2 => RP (f c2 l y) P X) X | _ => False) X := by
  unfold eM1; rw [RP_bind]; congr; funext x c1; cases x <;> first | rfl | exact RP_bind _ _
/-! primitives -/
variable {i j : Int} {k l : List Nat} {md : Bool}
theorem rp_addI : RP (addD md cs (.int i) (.int j)) P X = P (.int (i + j)) cs := nr rfl
theorem rp_addS (h : k.length + l.length ≤ sizeLine) : RP (addD md cs (.str k) (.str l)) P X = P (.str (k ++ l)) cs := by
  show RP (if _ then _ else _) P X = _
  rw [if_pos h]; rfl
theorem rp_addL {x y : List D} : RP (addD md cs (.lst x) (.lst y)) P X = RP (mkL md cs (x ++ y)) P X := nr rfl
theorem rp_sub : RP (subD cs (.int i) (.int j)) P X = P (.int (i - j)) cs := nr rfl
theorem rp_mulI (h : (-big < i ∧ i < big) ∨ (-big < j ∧ j < big)) : RP (mulD md cs (.int i) (.int j)) P X = P (.int (i * j)) cs := by
  show RP (if _ then _ else _) P X = _
  rw [if_pos h]; rfl
theorem rp_mulS (h : -1000 ≤ j ∧ j ≤ 1000 ∧ k.length ≤ 1000) : RP (mulD md cs (.str k) (.int j)) P X = P (.str (List.replicate j.toNat k).flatten) cs := by
  show RP (if _ then _ else _) P X = _
  rw [if_pos h]; rfl
theorem rp_fdiv (h : 0 < j ∧ j < big) : RP (fdivD cs (.int i) (.int j)) P X = P (.int (i / j)) cs := by
  show RP (if _ then _ else _) P X = _
  rw [if_pos h]; rfl
theorem rp_mod (h : 0 < j) : RP (modD cs (.int i) (.int j)) P X = P (.int (i % j)) cs := by
  show RP (if _ then _ else _) P X = _
  rw [if_pos h]; rfl
theorem rp_pow (h : 0 ≤ j ∧ j ≤ 1000000 ∧ -big < i ∧ i < big) : RP (powD cs (.int i) (.int j)) P X = P (.int (i ^ j.toNat)) cs := by
  show RP (if _ then _ else _) P X = _
  rw [if_pos h]; rfl
theorem rp_neg : RP (negD cs (.int i)) P X = P (.int (-i)) cs := nr rfl
theorem rp_lt : RP (ltD cs (.int i) (.int j)) P X = P (.bl (decide (i < j))) cs := nr rfl
theorem rp_le : RP (leD cs (.int i) (.int j)) P X = P (.bl (decide (i ≤ j))) cs := nr rfl
theorem rp_gt : RP (gtD cs (.int i) (.int j)) P X = P (.bl (decide (j < i))) cs := nr rfl
theorem rp_ge : RP (geD cs (.int i) (.int j)) P X = P (.bl (decide (j ≤ i))) cs := nr rfl
theorem rp_eqS : RP (eqD cs (.str k) (.str l)) P X = P (.bl (decide (k = l))) cs := nr rfl
theorem rp_neS : RP (neD cs (.str k) (.str l)) P X = P (.bl (!decide (k = l))) cs := nr rfl
theorem rp_eqI : RP (eqD cs (.int i) (.int j)) P X = P (.bl (decide (i = j))) cs := nr rfl
theorem rp_neI : RP (neD cs (.int i) (.int j)) P X = P (.bl (!decide (i = j))) cs := nr rfl
theorem rp_max : RP (maxB cs [.int i, .int j]) P X = P (.int (if j > i then j else i)) cs := nr rfl
theorem rp_min : RP (minB cs [.int i, .int j]) P X = P (.int (if j < i then j else i)) cs := nr rfl
theorem rp_lenScr {ns : List Int} : RP (lenB cs [.scr ns]) P X = P (.int ns.length) cs := by
  show P (.int ((ns.map D.int).length : Nat)) cs = _
  rw [List.length_map]
theorem rp_lenLst {ds : List D} : RP (lenB cs [.lst ds]) P X = P (.int ds.length) cs := nr rfl
theorem rp_lenTup {ds : List D} : RP (lenB cs [.tup ds]) P X = P (.int ds.length) cs := nr rfl
theorem rp_lenS (h : l.length ≤ sizeLine) : RP (lenB cs [.str l]) P X = P (.int l.length) cs := by
  show RP (if _ then _ else _) P X = _
  rw [if_pos h]; rfl
theorem rp_strI (h : i.natAbs.log2 < 1920) : RP (strB cs [.int i]) P X = P (.str (codes (toString i))) cs := by
  show RP (if _ then _ else _) P X = _
  rw [if_pos h]; rfl
theorem rp_repr {z : List Nat} (h : reprC d = some z) : RP (reprB cs [d]) P X = P (.str z) cs := by
  show RP (match reprC d with | some l => _ | none => _) P X = _
  rw [h]; rfl
theorem rp_isi {t u : String} {v : Bool} (h : tyC cs d = some u) (q : kitB u t = some v) : RP (isiD t cs d) P X = P (.bl v) cs := by
  unfold isiD; rw [h]; simp only; rw [q]; rfl
theorem rp_ixS {ch : Nat} (h : l.length ≤ sizeLine) (q : atI l i = some ch) : RP (ixD cs (.str l) (.int i)) P X = P (.str [ch]) cs := by
  show RP (if _ then _ else _) P X = _
  rw [if_pos h, q]; rfl
theorem rp_ixL {ds : List D} (q : atI ds i = some d) : RP (ixD cs (.lst ds) (.int i)) P X = P d cs := by
  show RP (match atI ds i with | some d => _ | none => _) P X = _
  rw [q]; rfl
theorem rp_ixScr {ns : List Int} {z : Int} (q : atI ns i = some z) : RP (ixD cs (.scr ns) (.int i)) P X = P (.int z) cs := by
  show RP (match atI (ns.map D.int) i with | some d => _ | none => _) P X = _
  have : atI (ns.map D.int) i = some (.int z) := by
    unfold atI at q ⊢
    rw [List.length_map]
    cases h : ixN ns.length i with
    | none => rw [h] at q; cases q
    | some m =>
      rw [h] at q
      show (ns.map D.int)[m]? = _
      rw [List.getElem?_map, show ns[m]? = some z from q]; rfl
  rw [this]; rfl
theorem rp_ixLoc {ds : List D} {n : Nat} (h : cs[n]? = some (.lst ds)) (q : atI ds i = some d) : RP (ixD cs (.loc n) (.int i)) P X = P d cs := by
  unfold ixD
  simp only [seqOf, listOf, h, q]
  rfl
theorem at_mid {α : Type} {ds : List α} {i : Int} (h0 : 0 ≤ i) (h1 : i < ds.length) : ∃ d, atI ds i = some d ∧ d ∈ ds ∧ ds[i.toNat]? = some d := by
  have hn : i.toNat < ds.length := by omega
  refine ⟨ds[i.toNat], ?_, List.getElem_mem hn, List.getElem?_eq_getElem hn⟩
  unfold atI ixN
  rw [if_pos (by omega)]
  first | rw [if_pos h1] | rw [if_pos (by omega)]
  simp [List.getElem?_eq_getElem hn]
/-! slices of a text -/
theorem rp_sl {lo hi : MO} : RP (eSl md a lo hi env cs) P X = RP (a env cs) (fun x c1 => match lo env c1 with
  | some (l, c2) => (match hi env c2 with
    | some (h, c3) => RP (slD md c3 x l h) P X
    | none => False)
  | none => False) X := by
  unfold eSl
  rw [RP_bind]
  congr; funext x c1
  cases lo env c1 with
  | none => rfl
  | some q =>
    obtain ⟨q1, q2⟩ := q
    simp only
    cases hi env q2 with
    | none => rfl
    | some r => rfl
theorem rp_slS {lo hi : Option Int} (h : l.length ≤ sizeLine) : RP (slD md cs (.str l) lo hi) P X = P (.str (cutL l lo hi)) cs := by
  show RP (if _ then _ else _) P X = _
  rw [if_pos h]; rfl
theorem rp_slL {ds : List D} {lo hi : Option Int} : RP (slD md cs (.lst ds) lo hi) P X = RP (mkL md cs (cutL ds lo hi)) P X := nr rfl
theorem ro_some {env : Env} {cs c1 : Cells} {m : ME} {i : Int} (h : m env cs = .ok (.int i) c1) : oSome m env cs = some (some i, c1) := by
  unfold oSome; rw [h]
theorem ro_var {i : Nat} {j : Int} (h : env[i]? = some (some (.int j))) : oSome (eVar i) env cs = some (some j, cs) := ro_some (by unfold eVar; rw [h])
theorem ro_var1 {i : Nat} {j n : Int} (h : env[i]? = some (some (.int j))) : oSome (op2 (addD md) (eVar i) (eC (.int n))) env cs = some (some (j + n), cs) := ro_some (by unfold op2 eVar; rw [h]; rfl)
theorem cutL_len {α : Type} (xs : List α) (lo hi : Option Int) : (cutL xs lo hi).length ≤ xs.length := by
  unfold cutL
  rw [List.length_take, List.length_drop]
  omega
/-! joins, signs -/
theorem rp_join {ds : List D} {y : D} {ls : List (List Nat)} (h : seqOf cs y = some ds) (q : strsOf ds = some ls) (z : (ls.map (·.length)).sum + ls.length * l.length ≤ 16777216) : RP (joinD cs l y) P X = P (.str (TL.joinL l ls)) cs := by
  unfold joinD; rw [h]; simp only; rw [q]; simp only; rw [if_pos z]; rfl
theorem rp_six {ch : Nat} (h : ch ∈ l) : RP (sixD cs l (.str [ch])) P X = P (.int ((l.idxOf ch : Nat) : Int)) cs := by
  unfold sixD; simp only; rw [if_pos h]; rfl
theorem rp_inS {ch : Nat} : RP (inD cs (.str [ch]) (.str l)) P X = P (.bl (decide (ch ∈ l))) cs := nr rfl
theorem rp_ninS {ch : Nat} : RP (ninD cs (.str [ch]) (.str l)) P X = P (.bl (!decide (ch ∈ l))) cs := nr rfl
theorem rp_all {ds : List D} {bs : List Bool} {y : D} (h : listOf cs y = some ds) (q : blsOf ds = some bs) : RP (allB cs [y]) P X = P (.bl (bs.all id)) cs := by
  unfold allB; simp only; rw [h]; simp only; rw [q]; rfl
theorem rp_int {n : Int} (h : PySem.intText? ⟨l.toArray⟩ = some n) (q : l.length ≤ 640) : RP (intB cs [.str l]) P X = P (.int n) cs := by
  unfold intB; simp only; rw [h]; simp only; rw [if_pos q]; rfl
/-! defs -/
theorem rp_def {n : Nat} {body : MS} {ds : List D} : RP (mDef n body ds cs) P X = SP (body (ds.map some ++ List.replicate (n - ds.length) none) cs) ⟨fun _ c => P .non c, P, fun _ _ => False, fun _ _ => False, fun x fs _ c => X x fs c⟩ := by
  unfold mDef
  cases body (ds.map some ++ List.replicate (n - ds.length) none) cs <;> rfl
/-! loops -/
def WP (r : RW) (P : List D → (Cells → Prop) → Cells → Prop) (X : KX) : Prop := match r with
  | .ok ds k c => P ds k c
  | .exc n fs c => X n fs c
  | .stuck => False
theorem sp_for {tg : D → Env → Option Env} {m : MW} {body : MS} : SP (sFor tg m body env cs) K = WP (m env cs) (fun ds k c => SP (forL k tg body ds env c) K) (fun n fs c => K.xc n fs env c) := by
  unfold sFor
  cases m env cs <;> rfl
theorem wp_toW (r : R) (k : D → Cells → RW) (Q : List D → (Cells → Prop) → Cells → Prop) : WP (r.toW k) Q X = RP r (fun d c => WP (k d c) Q X) X := by cases r <;> rfl
theorem wp_r1 {Q : List D → (Cells → Prop) → Cells → Prop} : WP (wR1 a env cs) Q X = RP (a env cs) (fun d c => match d with
  | .int j => (-lim ≤ j ∧ j < lim) ∧ Q (rangeD 0 j.toNat) (fun _ => True) c
  | _ => False) X := by
  unfold wR1
  rw [wp_toW]
  congr; funext d c
  cases d with
  | int j =>
    simp only
    by_cases h : -lim ≤ j ∧ j < lim
    · rw [if_pos h]; simp [WP, h]
    · rw [if_neg h]; simp [WP, h]
  | _ => rfl
theorem wp_r2 {Q : List D → (Cells → Prop) → Cells → Prop} : WP (wR2 a b env cs) Q X = RP (a env cs) (fun d c => RP (b env c) (fun e c2 => match d, e with
  | .int i, .int j => (-lim ≤ i ∧ i < lim ∧ -lim ≤ j ∧ j < lim) ∧ Q (rangeD i (j - i).toNat) (fun _ => True) c2
  | _, _ => False) X) X := by
  unfold wR2
  rw [wp_toW]
  congr; funext d c
  rw [wp_toW]
  congr; funext e c2
  cases d <;> cases e <;> try rfl
  simp only
  rename_i i j
  by_cases h : -lim ≤ i ∧ i < lim ∧ -lim ≤ j ∧ j < lim
  · rw [if_pos h]; simp [WP, h]
  · rw [if_neg h]; simp only [WP]; simp [h]
theorem wp_seq {Q : List D → (Cells → Prop) → Cells → Prop} : WP (wSeq a env cs) Q X = RP (a env cs) (fun d c => match d with
  | .str l => Q (l.map fun ch => .str [ch]) (fun _ => True) c
  | d => match seqOf c d with
    | some ds => Q ds (fun c2 => seqOf c2 d = some ds) c
    | none => False) X := by
  unfold wSeq
  rw [wp_toW]
  congr; funext d c
  cases d <;> first | rfl | (simp only; split <;> (rename_i h; first | rfl | (rw [h]; rfl)))
theorem for_inv {chk : Cells → Prop} {tg : D → Env → Option Env} {body : MS} : ∀ {items : List D} {env : Env} {cs : Cells} (J : Nat → Env → Cells → Prop), J 0 env cs → (∀ env cs, J items.length env cs → chk cs ∧ K.nx env cs) →
    (∀ i d env cs, items[i]? = some d → J i env cs → chk cs ∧ ∃ env1, tg d env = some env1 ∧ SP (body env1 cs) { K with nx := J (i + 1), ct := J (i + 1), bk := K.nx }) → SP (forL chk tg body items env cs) K
  | [], env, cs, J, h0, hn, hs => by
    obtain ⟨h1, h2⟩ := hn env cs h0
    simp only [forL, h1, if_true]
    exact h2
  | d :: ds, env, cs, J, h0, hn, hs => by
    obtain ⟨h1, env1, h2, h3⟩ := hs 0 d env cs rfl h0
    simp only [forL, h1, if_true, h2]
    have ih : ∀ e c, J 1 e c → SP (forL chk tg body ds e c) K := fun e c hj => for_inv (items := ds) (fun i => J (i + 1)) hj (fun e c h => hn e c (by simpa using h)) fun i d e c hi h => hs (i + 1) d e c (by simpa using hi) h
    cases hb : body env1 cs with
    | nx e c => rw [hb] at h3; exact ih e c h3
    | ct e c => rw [hb] at h3; exact ih e c h3
    | bk e c => rw [hb] at h3; exact h3
    | rt d c => rw [hb] at h3; exact h3
    | exc n fs e c => rw [hb] at h3; exact h3
    | stuck => rw [hb] at h3; exact h3.elim
theorem lc_inv {chk : Cells → Prop} {tg : D → Env → Option Env} {t e : ME} : ∀ {items : List D} {env : Env} {cs : Cells} (J : Nat → List D → Cells → Prop) (acc : List D), J 0 acc cs → (∀ ds cs, J items.length ds cs → chk cs) →
    (∀ i d ds cs, items[i]? = some d → J i ds cs → chk cs ∧ ∃ env1, tg d env = some env1 ∧ RP (t env1 cs) (fun b c1 => ∃ k, b = .bl k ∧ if k = true then RP (e env1 c1) (fun y c2 => J (i + 1) (ds ++ [y]) c2) noX else J (i + 1) ds c1) noX) →
    RAP (lcL chk tg t e items env cs) (fun ds cs => J items.length (acc ++ ds) cs) X
  | [], env, cs, J, acc, h0, hn, hs => by
    have h1 := hn acc cs h0
    simp only [lcL, h1, if_true]
    simpa [RAP] using h0
  | d :: ds, env, cs, J, acc, h0, hn, hs => by
    obtain ⟨h1, env1, h2, h3⟩ := hs 0 d acc cs rfl h0
    simp only [lcL, h1, if_true, h2]
    have ih : ∀ ac c, J 1 ac c → RAP (lcL chk tg t e ds env c) (fun ds' cs => J (ds.length + 1) (ac ++ ds') cs) X := fun ac c hj => lc_inv (items := ds) (fun i => J (i + 1)) ac hj (fun e c h => hn e c (by simpa using h)) fun i d e c hi h => hs (i + 1) d e c (by simpa using hi) h
    obtain ⟨b, c1, e1, k, rfl, h4⟩ := h3.get
    rw [e1]
    cases k with
    | true =>
      rw [if_pos rfl] at h4
      obtain ⟨y, c2, e2, h5⟩ := h4.get
      simp only [e2]
      have r := ih _ _ h5
      cases hl : lcL chk tg t e ds env c2 with
      | ok ys c3 =>
        rw [hl] at r
        simp only [RAP] at r ⊢
        rw [List.length_cons]
        simpa using r
      | exc n fs c3 =>
        exfalso
        have : ∀ (ds : List D) (env : Env) (cs : Cells), lcL chk tg t e ds env cs ≠ .exc n fs c3 := by
          intro ds
          induction ds with
          | nil => intro env cs h; simp only [lcL] at h; split at h <;> cases h
          | cons d ds ih =>
            intro env cs h
            simp only [lcL] at h
            split at h
            · split at h
              · cases h
              · split at h
                · split at h
                  · split at h <;> cases h
                  · cases h
                · exact ih _ _ h
                · cases h
            · cases h
        exact this _ _ _ hl
      | stuck => rw [hl] at r; exact r.elim
    | false =>
      rw [if_neg Bool.false_ne_true] at h4
      exact ih _ _ h4
/-- one value an item, nothing touched -/
theorem lc_map {chk : Cells → Prop} {tg : D → Env → Option Env} {t e : ME} {g : D → D} : ∀ {items : List D} {env : Env} {cs : Cells}, chk cs → (∀ d ∈ items, ∃ env1, tg d env = some env1 ∧ t env1 cs = .ok (.bl true) cs ∧ e env1 cs = .ok (g d) cs) →
    lcL chk tg t e items env cs = .ok (items.map g) cs
  | [], env, cs, hc, _ => by simp [lcL, hc]
  | d :: ds, env, cs, hc, h => by
    obtain ⟨env1, h1, h2, h3⟩ := h d (by simp)
    simp only [lcL, hc, if_true, h1, h2, h3]
    rw [lc_map hc fun d hd => h d (by simp [hd])]
    rfl
theorem rp_lc {own : List Nat} {tg : D → Env → Option Env} {m : MW} {t e : ME} : RP (eLc md own tg m t e env cs) P X = WP (m env cs) (fun ds k c => RAP (lcL k tg t e ds (wipeE env own) c) (fun ys c2 => RP (mkL md c2 ys) P X) X) X := by
  unfold eLc
  cases m env cs with
  | ok ds k c => exact RAP_bind _ _
  | exc n fs c => rfl
  | stuck => rfl
theorem RAP.mono {r : RA} {Q Q' : List D → Cells → Prop} (h : RAP r Q X) (k : ∀ d cs, Q d cs → Q' d cs) : RAP r Q' X := by
  cases r with
  | ok d cs => exact k d cs h
  | exc n fs cs => exact h
  | stuck => exact h
theorem range_get {lo : Int} {n i : Nat} {d : D} (h : (rangeD lo n)[i]? = some d) : i < n ∧ d = .int (lo + (i : Int)) := by
  have hl : i < n := by simpa using (List.getElem?_eq_some_iff.mp h).1
  simp [rangeD, hl] at h
  exact ⟨hl, h.symm⟩
theorem tgN_some {i : Nat} {d : D} : tgN i d env = some (env.set i (some d)) := nr rfl
end
end L3
namespace L3
theorem rp_varM {i : Nat} {env : Env} {cs : Cells} {P : D → Cells → Prop} {X : KX} : RP (eVar i env cs) P X = match env[i]? with
  | some (some d) => P d cs
  | _ => False := by
  unfold eVar
  cases env[i]? with
  | none => rfl
  | some o => cases o <;> rfl
end L3
namespace L3
open PySem L2
theorem at3_0 {x y z : D} : atI [x, y, z] 0 = some x := nr rfl
theorem at3_1 {x y z : D} : atI [x, y, z] 1 = some y := nr rfl
theorem at3_2 {x y z : D} : atI [x, y, z] 2 = some z := nr rfl
theorem rp_ixLocM {cs : Cells} {n : Nat} {i : Int} {P : D → Cells → Prop} {X : KX} : RP (ixD cs (.loc n) (.int i)) P X = match listOf cs (.loc n) with
  | some ds => (match atI ds i with
    | some d => P d cs
    | none => False)
  | none => False := by
  unfold ixD
  simp only [seqOf]
  cases listOf cs (.loc n) with
  | none => rfl
  | some ds =>
    simp only
    cases atI ds i <;> rfl
theorem loc_list {cs : Cells} {n : Nat} {ds : List D} (h : cs[n]? = some (.lst ds)) : listOf cs (.loc n) = some ds := by
  simp only [listOf, h]
/-- the box of the draws -/
def Bx (cs : Cells) (n B : Nat) : Prop := ∃ a b c : Int, cs[n]? = some (.lst [.int a, .int b, .int c]) ∧ 0 ≤ b ∧ b < 2147483648 ∧ 0 ≤ c ∧ c ≤ B
theorem Bx.le {cs : Cells} {n B B' : Nat} (h : Bx cs n B) (l : B ≤ B') : Bx cs n B' := by
  obtain ⟨a, b, c, h1, h2, h3, h4, h5⟩ := h
  exact ⟨a, b, c, h1, h2, h3, h4, by omega⟩
theorem put_at {cs : Cells} {n j : Nat} {k : Int} {ds : List D} {v : D} (h : cs[n]? = some (.lst ds)) (hj : ixN ds.length k = some j) : ∃ c4, putL cs (.loc n) (.int k) v = some c4 ∧ c4[n]? = some (.lst (ds.set j v)) ∧ (∀ m, m ≠ n → c4[m]? = cs[m]?) ∧ c4.length = cs.length := by
  have hl : n < cs.length := (List.getElem?_eq_some_iff.mp h).1
  refine ⟨cs.set n (.lst (ds.set j v)), ?_, List.getElem?_set_self hl, fun m hm => List.getElem?_set_ne (Ne.symm hm), by simp⟩
  unfold putL
  simp only [h, hj]
end L3
namespace L3
open PySem L2
theorem rp_dict {md : Bool} {m : MA} {env : Env} {cs : Cells} {P : D → Cells → Prop} {X : KX} : RP (eDict md m env cs) P X = RAP (m env cs) (fun ds c => match kvD ds with
  | some kds => if kds.length ≤ 15 then RP (mkD md c (mergeD [] kds)) P X else False
  | none => False) X := by
  unfold eDict
  rw [RAP_bind]
  congr; funext ds c
  cases kvD ds with
  | none => rfl
  | some k => simp only; split <;> rfl
theorem rp_mkDf {cs : Cells} {ds : List (Kd × D)} {P : D → Cells → Prop} {X : KX} : RP (mkD false cs ds) P X = P (.dct ds) cs := nr rfl
theorem len_ite {a b : Nat} {p : Prop} (h : a ≤ b) : (if a ≤ b then p else False) = p := if_pos h
end L3
namespace L3
open PySem L2
theorem rp_ixAll {cs : Cells} {ds : List D} {i : Int} {P : D → Cells → Prop} {X : KX} (h0 : 0 ≤ i) (h1 : i < (ds.length : Int)) (h : ∀ d ∈ ds, P d cs) : RP (ixD cs (.lst ds) (.int i)) P X := by
  obtain ⟨d, e, m, _⟩ := at_mid h0 h1
  rw [rp_ixL e]
  exact h d m
end L3
namespace L3
open PySem L2
theorem kit_ss : kitB "str" "str" = some true := by decide +kernel
theorem kit_ns : ∀ u ∈ ["NoneType", "bool", "int", "list", "tuple", "dict"], kitB u "str" = some false := by decide +kernel
theorem isi_str {cs : Cells} {l : List Nat} {P : D → Cells → Prop} {X : KX} : RP (isiD "str" cs (.str l)) P X = P (.bl true) cs := rp_isi rfl kit_ss
theorem isi_nstr {cs : Cells} {d : D} {P : D → Cells → Prop} {X : KX} {u : String} (h : tyC cs d = some u) (q : u ∈ ["NoneType", "bool", "int", "list", "tuple", "dict"]) : RP (isiD "str" cs d) P X = P (.bl false) cs := rp_isi h (kit_ns u q)
theorem RP_br {k : Bool} {cs : Cells} {x y : Cells → R} {P : D → Cells → Prop} {X : KX} : RP (brD (.bl k) cs x y) P X = bif k then RP (x cs) P X else RP (y cs) P X := by cases k <;> rfl
end L3
namespace L3
open PySem L2
theorem blsOf_map : ∀ bs : List Bool, blsOf (bs.map D.bl) = some bs
  | [] => rfl
  | b :: r => by simp only [List.map_cons, blsOf, blsOf_map r]
theorem rp_allL {cs : Cells} {bs : List Bool} {P : D → Cells → Prop} {X : KX} : RP (allB cs [.lst (bs.map D.bl)]) P X = P (.bl (bs.all id)) cs := rp_all rfl (blsOf_map bs)
theorem atI_0 {α : Type} {x : α} {l : List α} : atI (x :: l) 0 = some x := by
  unfold atI ixN
  rw [if_pos (by decide), if_pos (by simp)]
  rfl
end L3
namespace L3
open PySem L2
theorem seq_lst {cs : Cells} {l : List D} : seqOf cs (.lst l) = some l := nr rfl
theorem seq_scr {cs : Cells} {l : List Int} : seqOf cs (.scr l) = some (l.map .int) := nr rfl
theorem seq_tup {cs : Cells} {l : List D} : seqOf cs (.tup l) = some l := nr rfl
theorem joinL_nil : ∀ ls : List (List Nat), TL.joinL [] ls = ls.flatten
  | [] => rfl
  | [p] => by simp [TL.joinL]
  | p :: q :: r => by
    show p ++ ([] ++ TL.joinL [] (q :: r)) = _
    rw [joinL_nil (q :: r)]; simp
theorem strsOf_app : ∀ {ds es : List D} {ls ms : List (List Nat)}, strsOf ds = some ls → strsOf es = some ms → strsOf (ds ++ es) = some (ls ++ ms)
  | [], es, ls, ms, h, q => by simp only [strsOf, Option.some.injEq] at h; subst h; exact q
  | d :: ds, es, ls, ms, h, q => by
    cases d with
    | str l =>
      simp only [strsOf] at h
      split at h
      · rename_i k hk
        simp only [Option.some.injEq] at h
        subst h
        simp only [List.cons_append, strsOf, strsOf_app hk q]
      · cases h
    | _ => cases h
/-- texts of one sign each -/
theorem ones_len {ls : List (List Nat)} (h : ∀ z ∈ ls, z.length = 1) : ls.flatten.length = ls.length := by
  induction ls with
  | nil => rfl
  | cons a r ih =>
    rw [List.flatten_cons, List.length_append, h a (by simp), ih fun z hz => h z (by simp [hz]), List.length_cons]
    omega
theorem ones_sum {ls : List (List Nat)} (h : ∀ z ∈ ls, z.length = 1) : (ls.map (·.length)).sum = ls.length := by
  induction ls with
  | nil => rfl
  | cons a r ih =>
    rw [List.map_cons, List.sum_cons, h a (by simp), ih fun z hz => h z (by simp [hz]), List.length_cons]
    omega
theorem atS {l : List Nat} {i : Int} (h0 : 0 ≤ i) (h1 : i < l.length) : ∃ ch, atI l i = some ch ∧ ch ∈ l := by
  obtain ⟨d, e, m, _⟩ := at_mid h0 h1
  exact ⟨d, e, m⟩
theorem Bx.new {cs : Cells} {a b : Int} (h : 0 ≤ b) (q : b < 2147483648) : Bx (cs ++ [.lst [.int a, .int b, .int 0]]) cs.length 0 :=
  ⟨a, b, 0, by simp, h, q, by decide, by decide⟩
theorem log2_lt {i : Int} (h : i.natAbs < 2 ^ 1000) : i.natAbs.log2 < 1920 := by
  by_cases h0 : i.natAbs = 0
  · rw [h0]; decide
  · have := (Nat.log2_lt h0).mpr h
    omega
theorem RAP.get {r : RA} {Q : List D → Cells → Prop} (h : RAP r Q noX) : ∃ d cs, r = .ok d cs ∧ Q d cs := by
  cases r with
  | ok d cs => exact ⟨d, cs, rfl, h⟩
  | exc n fs cs => exact h.elim
  | stuck => exact h.elim
end L3
namespace L3
open PySem L2
theorem ro_none {env : Env} {cs : Cells} : oNone env cs = some (none, cs) := nr rfl
theorem ro_varM {i : Nat} {env : Env} {cs : Cells} : oSome (eVar i) env cs = match env[i]? with
  | some (some (.int j)) => some (some j, cs)
  | _ => none := by
  unfold oSome eVar
  cases env[i]? with
  | none => rfl
  | some o => cases o with
    | none => rfl
    | some d => cases d <;> rfl
theorem ro_varA {i : Nat} {n : Int} {md : Bool} {env : Env} {cs : Cells} : oSome (op2 (addD md) (eVar i) (eC (.int n))) env cs = match env[i]? with
  | some (some (.int j)) => some (some (j + n), cs)
  | some (some _) => oSome (op2 (addD md) (eVar i) (eC (.int n))) env cs
  | _ => none := by
  cases h : env[i]? with
  | none => simp [oSome, op2, eVar, h]
  | some o => cases o with
    | none => simp [oSome, op2, eVar, h]
    | some d => cases d <;> first | rfl | (simp [oSome, op2, eVar, h, eC, addD])
theorem strsOf_len : ∀ {ds : List D} {ls : List (List Nat)}, strsOf ds = some ls → ds.length = ls.length
  | [], ls, h => by simp only [strsOf, Option.some.injEq] at h; subst h; rfl
  | d :: ds, ls, h => by
    cases d with
    | str l =>
      simp only [strsOf] at h
      split at h
      · rename_i k hk
        simp only [Option.some.injEq] at h
        subst h
        simp [strsOf_len hk]
      · cases h
    | _ => cases h
end L3
namespace L3
open PySem L2
theorem lc_filter {chk : Cells → Prop} {tg : D → Env → Option Env} {t e : ME} {g : D → D} {p : D → Bool} : ∀ {items : List D} {env : Env} {cs : Cells}, chk cs → (∀ d ∈ items, ∃ env1, tg d env = some env1 ∧ t env1 cs = .ok (.bl (p d)) cs ∧ e env1 cs = .ok (g d) cs) →
    lcL chk tg t e items env cs = .ok ((items.filter p).map g) cs
  | [], env, cs, hc, _ => by simp [lcL, hc]
  | d :: ds, env, cs, hc, h => by
    obtain ⟨env1, h1, h2, h3⟩ := h d (by simp)
    have ih := lc_filter (g := g) (p := p) hc fun d hd => h d (List.mem_cons_of_mem _ hd)
    simp only [lcL, hc, if_true, h1, h2]
    cases hp : p d with
    | true => simp only [h3, ih, List.filter_cons, hp, if_true, List.map_cons]
    | false => simp only [ih, List.filter_cons, hp, Bool.false_eq_true, if_false]
theorem py0s_ones : ∀ l : List Nat, py0s (l.map fun c => D.str [c]) = some (l.map fun c => PyData.str ⟨#[c]⟩)
  | [] => rfl
  | c :: r => by simp only [List.map_cons, py0s, py0, py0s_ones r]
theorem lay_ones : ∀ {l : List Nat}, (∀ c ∈ l, c < 0x110000) → PyData.canLayAll0 (l.map fun c => PyData.str ⟨#[c]⟩) = true
  | [], _ => rfl
  | c :: r, h => by
    simp only [List.map_cons, PyData.canLayAll0, PyData.canLay0, lay_ones fun c hc => h c (List.mem_cons_of_mem _ hc), Bool.and_true]
    have := h c (by simp)
    simpa [PyData.strOk] using this
theorem dep_ones : ∀ l : List Nat, PyData.depthAll (l.map fun c => PyData.str ⟨#[c]⟩) = 0
  | [] => rfl
  | c :: r => by simp only [List.map_cons, PyData.depthAll, PyData.depth, dep_ones r, Nat.max_self]
theorem eq_ones_nil {l : List Nat} {cs : Cells} {P : D → Cells → Prop} {X : KX} (h : ∀ c ∈ l, c < 0x110000) : RP (eqD cs (.lst (l.map fun c => D.str [c])) (.lst [])) P X = P (.bl l.isEmpty) cs := by
  have e1 : eqB cs (.lst (l.map fun c => D.str [c])) (.lst []) = some l.isEmpty := by
    unfold eqB
    simp only [pyOf, py0, py0s_ones, py0s, Option.map_some]
    have s1 : SeqAt.shaped (PyData.list (l.map fun c => PyData.str ⟨#[c]⟩)) = true := by
      unfold SeqAt.shaped
      simp only [PyData.canLay0, lay_ones h, PyData.depth, dep_ones, Bool.true_and]
      decide
    have s2 : SeqAt.shaped (PyData.list []) = true := by decide
    rw [s1, s2]
    cases l <;> simp [PyData.eqv, PyData.eqvAll]
  unfold eqD
  rw [e1]; rfl
end L3
namespace L3
open PySem L2
theorem kit_int : ∀ u ∈ ["NoneType", "bool", "int", "str", "list", "tuple", "dict"], kitB u "int" = some (decide (u = "int" ∨ u = "bool")) := by decide +kernel
theorem kit_bool : ∀ u ∈ ["NoneType", "bool", "int", "str", "list", "tuple", "dict"], kitB u "bool" = some (decide (u = "bool")) := by decide +kernel
theorem isi_int {cs : Cells} {d : D} {P : D → Cells → Prop} {X : KX} {u : String} (h : tyC cs d = some u) (q : u ∈ ["NoneType", "bool", "int", "str", "list", "tuple", "dict"]) : RP (isiD "int" cs d) P X = P (.bl (decide (u = "int" ∨ u = "bool"))) cs := rp_isi h (kit_int u q)
theorem isi_bool {cs : Cells} {d : D} {P : D → Cells → Prop} {X : KX} {u : String} (h : tyC cs d = some u) (q : u ∈ ["NoneType", "bool", "int", "str", "list", "tuple", "dict"]) : RP (isiD "bool" cs d) P X = P (.bl (decide (u = "bool"))) cs := rp_isi h (kit_bool u q)
theorem rp_isB {k : Option Bool} {cs : Cells} {d : D} {P : D → Cells → Prop} {X : KX} : RP (isB k cs d) P X = P (.bl (match k, d with
  | none, .non => true
  | some b, .bl b' => decide (b' = b)
  | _, _ => false)) cs := nr rfl
theorem rp_isNB {k : Option Bool} {cs : Cells} {d : D} {P : D → Cells → Prop} {X : KX} : RP (isNB k cs d) P X = P (.bl !(match k, d with
  | none, .non => true
  | some b, .bl b' => decide (b' = b)
  | _, _ => false)) cs := nr rfl
theorem rp_ixSA {l : List Nat} {cs : Cells} {i : Int} {P : D → Cells → Prop} {X : KX} (h : l.length ≤ sizeLine) (h0 : 0 ≤ i) (h1 : i < (l.length : Int)) (k : ∀ ch ∈ l, P (.str [ch]) cs) : RP (ixD cs (.str l) (.int i)) P X := by
  obtain ⟨ch, e, m⟩ := atS h0 h1
  rw [rp_ixS h e]
  exact k ch m
theorem cutL_mem {α : Type} {xs : List α} {lo hi : Option Int} {x : α} (h : x ∈ cutL xs lo hi) : x ∈ xs := by
  unfold cutL at h
  exact List.mem_of_mem_drop (List.mem_of_mem_take h)
end L3
namespace L3
open PySem L2
theorem rp_anyL {cs : Cells} {bs : List Bool} {P : D → Cells → Prop} {X : KX} : RP (anyB cs [.lst (bs.map D.bl)]) P X = P (.bl (bs.any id)) cs := by
  unfold anyB
  simp only [listOf, blsOf_map]
  rfl
theorem rp_words {md : Bool} {cs : Cells} {l : List Nat} {P : D → Cells → Prop} {X : KX} (h : l.length + 2 ≤ sizeLine) : RP (wordsD md cs l) P X = RP (mkL md cs ((wordsL l).map D.str)) P X := by
  unfold wordsD
  rw [if_pos h]
theorem rp_lower {cs : Cells} {l k : List Nat} {P : D → Cells → Prop} {X : KX} (h : l.length ≤ 5592405) (e : codes (Txt.lower ⟨l.toArray⟩) = k) : RP (lowerD cs l) P X = P (.str k) cs := by
  unfold lowerD
  rw [if_pos h, e]; rfl
theorem low1 : ∀ c, c < 128 → codes (Txt.lower ⟨[c].toArray⟩) = [if 65 ≤ c ∧ c ≤ 90 then c + 32 else c] := by decide +kernel
theorem cut_to {α : Type} {xs : List α} {i : Int} (h0 : 0 ≤ i) : cutL xs none (some i) = xs.take i.toNat := by
  have e : HT.sIx xs.length xs.length (some i) = min i.toNat xs.length := by unfold HT.sIx; simp only; rw [if_neg (by omega)]
  have e0 : HT.sIx xs.length 0 none = 0 := rfl
  unfold cutL
  rw [e, e0, List.drop_zero, Nat.sub_zero]
  by_cases h : i.toNat ≤ xs.length
  · rw [Nat.min_eq_left h]
  · rw [Nat.min_eq_right (by omega), List.take_length, List.take_of_length_le (by omega)]
theorem cut_from {α : Type} {xs : List α} {i : Int} (h0 : 0 ≤ i) : cutL xs (some i) none = xs.drop i.toNat := by
  have e : HT.sIx xs.length 0 (some i) = min i.toNat xs.length := by unfold HT.sIx; simp only; rw [if_neg (by omega)]
  have e0 : HT.sIx xs.length xs.length none = xs.length := rfl
  unfold cutL
  rw [e, e0]
  by_cases h : i.toNat ≤ xs.length
  · rw [Nat.min_eq_left h, List.take_of_length_le (by simp)]
  · rw [Nat.min_eq_right (by omega), List.drop_length, List.drop_eq_nil_of_le (by omega), List.take_nil]
theorem cut_back {α : Type} {xs : List α} {i : Int} (h0 : i < 0) : cutL xs (some i) none = xs.drop (i + xs.length).toNat := by
  have e : HT.sIx xs.length 0 (some i) = (i + xs.length).toNat := by unfold HT.sIx; simp only; rw [if_pos h0]
  have e0 : HT.sIx xs.length xs.length none = xs.length := rfl
  unfold cutL
  rw [e, e0, List.take_of_length_le (by simp)]
end L3
namespace L3
open PySem L2
theorem rp_lower1 {cs : Cells} {c : Nat} {P : D → Cells → Prop} {X : KX} (h : c < 128) : RP (lowerD cs [c]) P X = P (.str [if 65 ≤ c ∧ c ≤ 90 then c + 32 else c]) cs := rp_lower (by simp) (low1 c h)
theorem strsOf_map (ls : List (List Nat)) : strsOf (ls.map D.str) = some ls := by
  induction ls with
  | nil => rfl
  | cons a r ih => simp only [List.map_cons, strsOf, ih]
theorem rep_str {l : List Nat} (h : l.length ≤ 100000) (q : ∀ c ∈ l, c < 128) : ∃ z, reprC (.str l) = some z := by
  refine ⟨codes (reprText ⟨l.toArray⟩), ?_⟩
  show (if _ then _ else _) = _
  rw [if_pos]
  have := StrLaws.reprText_len ⟨l.toArray⟩ (fun c hc => Nat.lt_of_lt_of_le (q c (by simpa using hc)) (by decide))
  have e2 : (⟨l.toArray⟩ : Str).length = l.length := str_len l
  rw [sizeLine_eq]; omega
end L3
namespace L3
open PySem L2
theorem ro_c {i : Int} {env : Env} {cs : Cells} : oSome (eC (.int i)) env cs = some (some i, cs) := nr rfl
theorem ro_nc {i : Int} {env : Env} {cs : Cells} : oSome (op1 negD (eC (.int i))) env cs = some (some (-i), cs) := nr rfl
end L3

namespace L3
open PySem L2
/-! ### methods of a class, by its place -/
def meth (s : Stmt) (i : Nat) : Stmt := match s with
  | .ClassDef _ _ _ b _ _ _ _ _ _ _ => b.getD i (.Pass ⟨0, 0, 0, 0⟩)
  | _ => .Pass ⟨0, 0, 0, 0⟩
end L3

/-! the calculus, for errors, cells that grow, texts' methods -/
namespace L3
open PySem L2
section
variable {P : D → Cells → Prop} {X : KX} {K : Cn} {env : Env} {cs : Cells} {a b c : ME} {ms : MA}
theorem sp_asgT {f : D → Env → Option Env} : SP (sAsgT f a env cs) K = RP (a env cs) (fun d c => match f d env with
  | some e1 => K.nx e1 c
  | none => False) (fun n fs c => K.xc n fs env c) := by
  unfold sAsgT
  rw [SP_toS]
  congr; funext d c
  cases f d env <;> rfl
theorem sp_par {is : List Nat} : SP (sPar is ms env cs) K = RAP (ms env cs) (fun ds c => match tgTs is ds env with
  | some e1 => K.nx e1 c
  | none => False) (fun n fs c => K.xc n fs env c) := by
  unfold sPar
  cases ms env cs with
  | ok ds c => simp only [RAP]; cases tgTs is ds env <;> rfl
  | exc => rfl
  | stuck => rfl
theorem rp_push : RP (ePush a b env cs) P X = RP (a env cs) (fun o c1 => if isLc c1 o = true then RP (b env c1) (fun v c2 => match pushL c2 o v with
  | some c3 => P .non c3
  | none => False) X else False) X := by
  unfold ePush
  rw [RP_bind]
  congr; funext o c1
  by_cases h : isLc c1 o = true
  · rw [if_pos h, if_pos h, RP_bind]
    congr; funext v c2
    cases pushL c2 o v <;> rfl
  · rw [if_neg h, if_neg h]; rfl
theorem sp_putK : SP (sPutK a b c env cs) K = RP (c env cs) (fun v c1 => RP (a env c1) (fun o c2 => RP (b env c2) (fun i c3 => match putC c3 o i v with
  | some c4 => K.nx env c4
  | none => False) (fun n fs c => K.xc n fs env c)) (fun n fs c => K.xc n fs env c)) (fun n fs c => K.xc n fs env c) := by
  unfold sPutK
  simp only [SP_toS]
  congr; funext v c1; congr; funext o c2; congr; funext i c3
  cases putC c3 o i v <;> rfl
variable {d x y : D} {l k : List Nat}
theorem rp_rev (h : l.length ≤ sizeLine) : RP (revD cs (.str l)) P X = P (.str l.reverse) cs := by
  show RP (if _ then _ else _) P X = _
  rw [if_pos h]; rfl
theorem rp_inX {v : Bool} (h : inBX cs x y = some v) : RP (inX cs x y) P X = P (.bl v) cs := by
  unfold inX; rw [h]; rfl
theorem rp_ninX {v : Bool} (h : inBX cs x y = some v) : RP (ninX cs x y) P X = P (.bl !v) cs := by
  unfold ninX; rw [h]; rfl
theorem rp_reprX {z : List Nat} (h : reprBD cs [d] = .ok (.str z) cs) : RP (reprBD cs [d]) P X = P (.str z) cs := by
  rw [h]; rfl
theorem cnt_count (c : Nat) (l : List Nat) : PyProof.Rows.cnt c l = (l.count c : Nat) := by
  induction l with
  | nil => rfl
  | cons a r ih =>
    rw [PyProof.Rows.cnt_cons, ih, List.count_cons]
    by_cases h : a = c <;> simp [h] <;> omega
theorem rp_cnt {c : Nat} : RP (cntD cs l (.str [c])) P X = P (.int (l.count c : Nat)) cs := by
  show P (.int (Txt.count (mk l) (mk [c]))) cs = _
  rw [show Txt.count (mk l) (mk [c]) = (l.count c : Nat) from (PyProof.Rows.count_cnt (mk l) c).trans (cnt_count c l)]
theorem rp_starts : RP (startsD cs l (.str k)) P X = P (.bl (Txt.startswith (mk l) (mk k))) cs := nr rfl
theorem rp_ends : RP (endsD cs l (.str k)) P X = P (.bl (Txt.endswith (mk l) (mk k))) cs := nr rfl
theorem codes_len (x : Str) : (codes x).length = x.length := by
  unfold codes; first | rfl | simp [PySem.Str.length]
theorem rp_rsc (h : l.length ≤ sizeLine) (q : ∀ z : List Nat, z.length ≤ l.length → P (.str z) cs) : RP (rscD cs l (.str k)) P X := by
  show RP (if _ then _ else _) P X
  rw [if_pos h]
  refine q _ ?_
  rw [codes_len]
  have := PyProof.Rows.len_stripBy (mk k).cps.contains false true (mk l)
  rw [show (mk l).length = l.length from str_len l] at this
  exact this
theorem rp_lsc (h : l.length ≤ sizeLine) (q : ∀ z : List Nat, z.length ≤ l.length → P (.str z) cs) : RP (lscD cs l (.str k)) P X := by
  show RP (if _ then _ else _) P X
  rw [if_pos h]
  refine q _ ?_
  rw [codes_len]
  have := PyProof.Rows.len_stripBy (mk k).cps.contains true false (mk l)
  rw [show (mk l).length = l.length from str_len l] at this
  exact this
/-- .. and its errors -/
theorem RP.monoX {P' : D → Cells → Prop} {X' : KX} {r : R} (h : RP r P X) (k : ∀ d cs, P d cs → P' d cs) (kx : ∀ n fs cs, X n fs cs → X' n fs cs) : RP r P' X' := by
  cases r with
  | ok d cs => exact k d cs h
  | exc n fs cs => exact kx _ _ _ h
  | stuck => exact h
end
theorem RP.eq {r : R} {x : D} {c0 : Cells} (h : RP r (fun d c => d = x ∧ c = c0) noX) : r = .ok x c0 := by
  obtain ⟨d, c, e, rfl, rfl⟩ := h.get
  exact e
theorem wipeE_len {env : Env} : ∀ {vs : List Nat}, (wipeE env vs).length = env.length
  | [] => rfl
  | v :: vs => by simp only [wipeE, List.length_set, wipeE_len (vs := vs)]
theorem cut_mid {α : Type} {xs : List α} {i j : Int} (h0 : 0 ≤ i) (h1 : 0 ≤ j) : cutL xs (some i) (some j) = (xs.drop i.toNat).take (j.toNat - i.toNat) := by
  have e : HT.sIx xs.length 0 (some i) = min i.toNat xs.length := by unfold HT.sIx; simp only; rw [if_neg (by omega)]
  have e2 : HT.sIx xs.length xs.length (some j) = min j.toNat xs.length := by unfold HT.sIx; simp only; rw [if_neg (by omega)]
  unfold cutL
  rw [e, e2]
  by_cases h : i.toNat ≤ xs.length
  · rw [Nat.min_eq_left h]
    by_cases q : j.toNat ≤ xs.length
    · rw [Nat.min_eq_left q]
    · rw [Nat.min_eq_right (a := j.toNat) (by omega), List.take_of_length_le (by simp), List.take_of_length_le (by simp; omega)]
  · rw [Nat.min_eq_right (a := i.toNat) (by omega), List.drop_length, List.drop_eq_nil_of_le (as := xs) (i := i.toNat) (by omega), List.take_nil, List.take_nil]
theorem rp_ixT {ds : List D} {x : D} {i : Int} {cs : Cells} {P : D → Cells → Prop} {X : KX} (q : atI ds i = some x) : RP (ixD cs (.tup ds) (.int i)) P X = P x cs := by
  show RP (match atI ds i with | some d => _ | none => _) P X = _
  rw [q]; rfl
/-! the clauses -/
theorem kit_list : ∀ u ∈ ["NoneType", "bool", "int", "str", "list", "tuple", "dict"], kitB u "list" = some (decide (u = "list")) := by decide +kernel
theorem kit_dict : ∀ u ∈ ["NoneType", "bool", "int", "str", "list", "tuple", "dict"], kitB u "dict" = some (decide (u = "dict")) := by decide +kernel
theorem isi_list {cs : Cells} {d : D} {P : D → Cells → Prop} {X : KX} {u : String} (h : tyC cs d = some u) (q : u ∈ ["NoneType", "bool", "int", "str", "list", "tuple", "dict"]) : RP (isiD "list" cs d) P X = P (.bl (decide (u = "list"))) cs := rp_isi h (kit_list u q)
theorem isi_dict {cs : Cells} {d : D} {P : D → Cells → Prop} {X : KX} {u : String} (h : tyC cs d = some u) (q : u ∈ ["NoneType", "bool", "int", "str", "list", "tuple", "dict"]) : RP (isiD "dict" cs d) P X = P (.bl (decide (u = "dict"))) cs := rp_isi h (kit_dict u q)
theorem rp_mkDt {cs : Cells} {ds : List (Kd × D)} {P : D → Cells → Prop} {X : KX} : RP (mkD true cs ds) P X = P (.loc cs.length) (cs ++ [.dct ds]) := nr rfl
/-! a cell's data -/
def pyC : Cell → Option PyData
  | .lst l => (py0s l).map .list
  | .dct l => (py0k l).map .dict
  | _ => none
theorem py_loc {cs : Cells} {n : Nat} {c : Cell} {p : PyData} (h : cs[n]? = some c) (q : pyC c = some p) : pyOf cs (.loc n) = some p := by
  simp only [pyOf, h]
  cases c <;> first | exact q | cases q
def repOk (c : Cell) : Bool := match pyC c with
  | some p => decide (p.showable = true ∧ p.depth ≤ 60 ∧ p.shown.length ≤ sizeLine)
  | none => false
def repOkD (d : D) : Bool := match py0 d with
  | some p => decide (p.showable = true ∧ p.depth ≤ 60 ∧ p.shown.length ≤ sizeLine)
  | none => false
theorem rep_tup {cs : Cells} {t : List D} (q : repOkD (.tup t) = true) : ∃ z, reprBD cs [.tup t] = .ok (.str z) cs := by
  unfold repOkD at q
  split at q
  · rename_i p hp
    have q := of_decide_eq_true q
    refine ⟨codes p.shown, ?_⟩
    have hp' : pyOf cs (.tup t) = some p := hp
    unfold reprBD
    simp only [reprC, hp', if_pos q]
  · cases q
theorem rep_loc {cs : Cells} {n : Nat} {c : Cell} (h : cs[n]? = some c) (q : repOk c = true) : ∃ z, reprBD cs [.loc n] = .ok (.str z) cs := by
  unfold repOk at q
  split at q
  · rename_i p hp
    have q := of_decide_eq_true q
    refine ⟨codes p.shown, ?_⟩
    unfold reprBD
    simp only [reprC, py_loc h hp, if_pos q]
  · cases q
/-- a loop without break -/
theorem for_invN {K : Cn} {chk : Cells → Prop} {tg : D → Env → Option Env} {body : MS} {items : List D} {env : Env} {cs : Cells} (J : Nat → Env → Cells → Prop) (h0 : J 0 env cs) (hn : ∀ env cs, J items.length env cs → chk cs ∧ K.nx env cs)
    (hs : ∀ i d env cs, items[i]? = some d → J i env cs → chk cs ∧ ∃ env1, tg d env = some env1 ∧ SP (body env1 cs) ⟨J (i + 1), K.rt, fun _ _ => False, J (i + 1), K.xc⟩) : SP (forL chk tg body items env cs) K := by
  refine for_inv J h0 hn fun i d env cs hi hj => ?_
  obtain ⟨c, env1, e, h⟩ := hs i d env cs hi hj
  refine ⟨c, env1, e, ?_⟩
  revert h
  cases body env1 cs <;> first | exact id | exact False.elim
end L3

/-! the calculus, for instances -/
namespace L3
open PySem L2
section
variable {P : D → Cells → Prop} {X : KX} {K : Cn} {env : Env} {cs : Cells} {a b c : ME} {ms : MA} {x f m : Str} {mf : MF}
theorem rp_eFld : RP (eFld x f a env cs) P X = RP (a env cs) (fun o c1 => match insAt c1 o with
  | some (_, y, fs) => if y = x then (match fs.lookup f with
    | some d => P d c1
    | none => False) else False
  | none => False) X := by
  unfold eFld
  rw [RP_bind]
  congr; funext o c1
  cases insAt c1 o with
  | none => rfl
  | some q =>
    obtain ⟨_, y, fs⟩ := q
    simp only
    split
    · cases fs.lookup f <;> rfl
    · rfl
theorem sp_fst : SP (sFst x f a b env cs) K = RP (b env cs) (fun v c1 => RP (a env c1) (fun o c2 => match insAt c2 o with
  | some (n, y, fs) => if y = x ∧ fs.length < 1000 then K.nx env (c2.set n (.ins y (putFD f v fs))) else False
  | none => False) (fun n fs c => K.xc n fs env c)) (fun n fs c => K.xc n fs env c) := by
  unfold sFst
  simp only [SP_toS]
  congr; funext v c1; congr; funext o c2
  cases insAt c2 o with
  | none => rfl
  | some q =>
    obtain ⟨n, y, fs⟩ := q
    simp only
    split <;> rfl
theorem rp_eMeth : RP (eMeth x m mf a ms env cs) P X = RP (a env cs) (fun o c1 => match insAt c1 o with
  | some (n, y, fs) => if y = x ∧ fs.lookup m = none then RAP (ms env c1) (fun ds c2 => RP (mf (.loc n :: ds) c2) P X) X else False
  | none => False) X := by
  unfold eMeth
  rw [RP_bind]
  congr; funext o c1
  cases insAt c1 o with
  | none => rfl
  | some q =>
    obtain ⟨n, y, fs⟩ := q
    simp only
    split
    · exact RAP_bind _ _
    · rfl
theorem rp_eMake : RP (eMake x mf ms env cs) P X = RAP (ms env cs) (fun ds c1 => RP (mf (.loc c1.length :: ds) (c1 ++ [.ins x []])) (fun r c2 => match r with
  | .non => P (.loc c1.length) c2
  | _ => False) X) X := by
  unfold eMake
  rw [RAP_bind]
  congr; funext ds c1
  rw [RP_bind]
  congr; funext r c2
  cases r <;> rfl
theorem ins_at {n : Nat} {y : Str} {fs : List (Str × D)} (h : cs[n]? = some (.ins y fs)) : insAt cs (.loc n) = some (n, y, fs) := by
  simp only [insAt, h]
theorem rp_isoT {n : Nat} {fs : List (Str × D)} (h : cs[n]? = some (.ins x fs)) : RP (isoD x cs (.loc n)) P X = P (.bl true) cs := by
  unfold isoD
  rw [ins_at h]
  simp only [if_true]
  rfl
theorem rp_isoF {d : D} {u : String} (h : insAt cs d = none) (q : tyC cs d = some u) (hu : u ∈ ["NoneType", "bool", "int", "str", "list", "tuple", "dict"]) : RP (isoD x cs d) P X = P (.bl false) cs := by
  unfold isoD
  rw [h]
  simp only [q]
  rw [if_pos hu]; rfl
end
end L3

/-! the calculus, for sets, list(), enumerate, remove -/
namespace L3
open PySem L2
section
variable {P : D → Cells → Prop} {X : KX} {K : Cn} {env : Env} {cs : Cells} {a b c : ME} {ms : MA} {d : D} {i : Nat}
theorem kit_tuple : ∀ u ∈ ["NoneType", "bool", "int", "str", "list", "tuple", "dict"], kitB u "tuple" = some (decide (u = "tuple")) := by decide +kernel
theorem isi_tuple {u : String} (h : tyC cs d = some u) (q : u ∈ ["NoneType", "bool", "int", "str", "list", "tuple", "dict"]) : RP (isiD "tuple" cs d) P X = P (.bl (decide (u = "tuple"))) cs := rp_isi h (kit_tuple u q)
theorem rp_isi2 {u : String} (h : tyC cs d = some u) (q : u ∈ ["NoneType", "bool", "int", "str", "list", "tuple", "dict"]) : RP (isiD2 "list" "tuple" cs d) P X = P (.bl (decide (u = "list") || decide (u = "tuple"))) cs := by
  unfold isiD2
  simp only [h, kit_list u q, kit_tuple u q]
  rfl
theorem rp_set0 : RP (eSet0 env cs) P X = P (.loc cs.length) (cs ++ [.set []]) := nr rfl
theorem rp_sadd : RP (eSAdd a b env cs) P X = RP (a env cs) (fun o c1 => match setAt c1 o with
  | some _ => RP (b env c1) (fun v c2 => match setAt c2 o, kdOf v with
    | some (n, l), some k => if l.length + 1 < scanBound then P .non (c2.set n (.set (addK l k))) else False
    | _, _ => False) X
  | none => False) X := by
  unfold eSAdd
  rw [RP_bind]
  congr; funext o c1
  cases setAt c1 o with
  | none => rfl
  | some q =>
    simp only
    rw [RP_bind]
    congr; funext v c2
    cases setAt c2 o with
    | none => rfl
    | some q2 =>
      obtain ⟨n, l⟩ := q2
      cases kdOf v with
      | none => rfl
      | some k => simp only; split <;> rfl
theorem rp_inS2 {neg : Bool} {s : D} {n : Nat} {l : List Kd} {k : Kd} (h1 : setAt cs s = some (n, l)) (h2 : kdOf d = some k) : RP (inSX neg cs d s) P X = P (.bl (if neg then !hasK l k else hasK l k)) cs := by
  unfold inSX; simp only [h1, h2]; rfl
theorem set_at {n : Nat} {l : List Kd} (h : cs[n]? = some (.set l)) : setAt cs (.loc n) = some (n, l) := by
  simp only [setAt, h]
theorem rp_listOf {md : Bool} : RP (eListOf md a env cs) P X = RP (a env cs) (fun d c1 => match seqOf c1 d with
  | some ds => RP (mkL md c1 ds) P X
  | none => False) X := by
  unfold eListOf
  rw [RP_bind]
  congr; funext d c1
  cases seqOf c1 d <;> rfl
theorem rp_rem : RP (eRem a b env cs) P X = RP (a env cs) (fun o c1 => if isLc c1 o = true then RP (b env c1) (fun v c2 => match remL c2 o v with
  | some c3 => P .non c3
  | none => False) X else False) X := by
  unfold eRem
  rw [RP_bind]
  congr; funext o c1
  by_cases h : isLc c1 o = true
  · rw [if_pos h, if_pos h, RP_bind]
    congr; funext v c2
    cases remL c2 o v <;> rfl
  · rw [if_neg h, if_neg h]; rfl
theorem sp_augI : SP (sAugI i a env cs) K = match env[i]? with
  | some (some (.int j)) => RP (a env cs) (fun d c => match d with
    | .int b => K.nx (env.set i (some (.int (j + b)))) c
    | _ => False) (fun n fs c => K.xc n fs env c)
  | _ => False := by
  unfold sAugI
  cases env[i]? with
  | none => rfl
  | some o => cases o with
    | none => rfl
    | some d => cases d <;> first | rfl | (simp only; rw [SP_toS]; congr; funext d c; cases d <;> rfl)
theorem wp_enum {Q : List D → (Cells → Prop) → Cells → Prop} : WP (wEnum a env cs) Q X = RP (a env cs) (fun d c => match d with
  | .tup _ => False
  | d => match seqOf c d with
    | some ds => Q (enumD ds) (fun c2 => seqOf c2 d = some ds) c
    | none => False) X := by
  unfold wEnum
  rw [wp_toW]
  congr; funext d c
  cases d <;> first | rfl | (simp only; split <;> (rename_i h; first | rfl | (rw [h]; rfl)))
theorem rep_lst {t : List D} (q : repOkD (.lst t) = true) : ∃ z, reprBD cs [.lst t] = .ok (.str z) cs := by
  unfold repOkD at q
  split at q
  · rename_i p hp
    have q := of_decide_eq_true q
    refine ⟨codes p.shown, ?_⟩
    have hp' : pyOf cs (.lst t) = some p := hp
    unfold reprBD
    simp only [reprC, hp', if_pos q]
  · cases q
theorem rp_lenT {ds : List D} : RP (lenB cs [.tup ds]) P X = P (.int ds.length) cs := nr rfl
theorem rp_mulL {md : Bool} {a : List D} {k : Int} (h : 0 ≤ k ∧ k ≤ 1000 ∧ a.length ≤ 1000) : RP (mulD md cs (.lst a) (.int k)) P X = RP (mkL md cs (List.replicate k.toNat a).flatten) P X := by
  show RP (match listOf cs (.lst a) with
    | some a => if 0 ≤ k ∧ k ≤ 1000 ∧ a.length ≤ 1000 then mkL md cs (List.replicate k.toNat a).flatten else .stuck
    | none => .stuck) P X = _
  simp only [listOf, if_pos h]
theorem fin_rp {w : List Nat} {v : D} (ok : repOkD (.lst [.str w, v]) = true) (k : P (.bl false) cs) :
    RP (reprBD cs [.lst [.str w, v]]) (fun x c1 => RP (mkL false c1 [.str w, v]) (fun y c2 => RP (reprBD c2 [y]) (fun y2 c3 => RP (neD c3 x y2) P X) X) X) X := by
  obtain ⟨z, e⟩ := rep_lst (cs := cs) ok
  rw [rp_reprX e, rp_mkLf (by rw [sizeLine_eq]; simp), rp_reprX e, rp_neS]
  simp only [decide_true, Bool.not_true]
  exact k
/-- cheaper to ask: no dict, short ints -/
def repQ (d : D) : Bool := match py0 d with
  | some p => PyData.layable0 p && p.intsShort 13 && p.showable && decide (p.depth ≤ 60)
  | none => false
theorem repQ_ok (h : repQ d = true) : repOkD d = true := by
  unfold repQ at h
  unfold repOkD
  split at h
  · rename_i p hp
    rw [Bool.and_eq_true, Bool.and_eq_true, Bool.and_eq_true] at h
    have z := PyProof.Rows.shown_le13 h.1.1.1 h.1.1.2
    try rw [hp]
    refine decide_eq_true ⟨h.1.2, of_decide_eq_true h.2, ?_⟩
    rw [sizeLine_eq]; omega
  · cases h
end
end L3

/-! the calculus, for while loops and lists of texts in cells -/
namespace L3
open PySem L2
section
variable {P : D → Cells → Prop} {X : KX} {K : Cn} {env : Env} {cs : Cells}
theorem sp_whS {t : ME} {b : MS} {n : Nat} : SP (whN t b (n + 1) env cs) K = RP (t env cs) (fun d c1 => SP (brS d (match b env c1 with
      | .nx e c => whN t b n e c
      | .ct e c => whN t b n e c
      | .bk e c => .nx e c
      | r => r) (.nx env c1)) K) (fun x fs c => K.xc x fs env c) := SP_toS _ _
theorem sp_while {t : ME} {b : MS} (n : Nat) (h : SP (whN t b n env cs) K) : SP (sWhile t b env cs) K := by
  rw [sWhile_eq t b (n := n) (fun e => by rw [e] at h; exact h)]
  exact h
/-- so many turns as the invariant says -/
theorem wh_inv {t : ME} {b : MS} (n : Nat) (J : Nat → Env → Cells → Prop) (h0 : J 0 env cs)
    (hs : ∀ i env cs, i < n → J i env cs → RP (t env cs) (fun d c1 => d = .bl true ∧ SP (b env c1) { K with nx := J (i + 1), ct := J (i + 1), bk := K.nx }) (fun x fs c => K.xc x fs env c))
    (hn : ∀ env cs, J n env cs → RP (t env cs) (fun d c1 => d = .bl false ∧ K.nx env c1) (fun x fs c => K.xc x fs env c)) : SP (sWhile t b env cs) K := by
  refine sp_while (n + 1) ?_
  induction n generalizing J env cs with
  | zero =>
    rw [sp_whS]
    refine RP.mono (hn _ _ h0) fun d c1 ⟨e, k⟩ => ?_
    subst e
    exact k
  | succ n ih =>
    rw [sp_whS]
    refine RP.mono (hs 0 _ _ (Nat.succ_pos n) h0) fun d c1 ⟨e, k⟩ => ?_
    subst e
    have ih : ∀ e c, J 1 e c → SP (whN t b (n + 1) e c) K := fun e c hj => ih (fun i => J (i + 1)) hj (fun i e c hi h => hs (i + 1) e c (by omega) h) hn
    rw [brS_true]
    cases hb : b env c1 with
    | nx e c => rw [hb] at k; exact ih e c k
    | ct e c => rw [hb] at k; exact ih e c k
    | bk e c => rw [hb] at k; exact k
    | rt d c => rw [hb] at k; exact k
    | exc n fs e c => rw [hb] at k; exact k
    | stuck => rw [hb] at k; exact k
theorem flat_strs (H : List (List Nat)) : (H.map D.str).all flatD = true := by
  induction H with
  | nil => rfl
  | cons a r ih => rw [List.map_cons, List.all_cons, ih]; rfl
theorem inF_strs {z : List Nat} (H : List (List Nat)) : inF (.str z) (H.map D.str) = decide (z ∈ H) := by
  unfold inF
  rw [List.any_map, Bool.eq_iff_iff, List.any_eq_true, decide_eq_true_eq]
  constructor
  · rintro ⟨x, hx, e⟩
    have : x = z := of_decide_eq_true e
    subst this; exact hx
  · intro h; exact ⟨z, h, decide_eq_true rfl⟩
theorem inB_loc {z : List Nat} {H : List (List Nat)} {n : Nat} (h : cs[n]? = some (.lst (H.map D.str))) : inB cs (.str z) (.loc n) = some (decide (z ∈ H)) := by
  unfold inB
  split
  · rename_i e; cases e
  · simp only [seqOf, loc_list h, flat_strs, show flatD (.str z) = true from rfl, Bool.and_self, if_true, inF_strs]
theorem rp_inLoc {z : List Nat} {H : List (List Nat)} {n : Nat} (h : cs[n]? = some (.lst (H.map D.str))) : RP (inD cs (.str z) (.loc n)) P X = P (.bl (decide (z ∈ H))) cs := by
  unfold inD; rw [inB_loc h]; rfl
theorem rp_ninLoc {z : List Nat} {H : List (List Nat)} {n : Nat} (h : cs[n]? = some (.lst (H.map D.str))) : RP (ninD cs (.str z) (.loc n)) P X = P (.bl !decide (z ∈ H)) cs := by
  unfold ninD; rw [inB_loc h]; rfl
theorem push_at {l : List D} {n : Nat} {v : D} (h : cs[n]? = some (.lst l)) (q : l.length < sizeLine) : pushL cs (.loc n) v = some (cs.set n (.lst (l ++ [v]))) := by
  unfold pushL; simp only [h, if_pos q]
theorem cell_end {c : Cells} {x : Cell} : (c ++ [x])[c.length]? = some x := by
  rw [List.getElem?_append_right (Nat.le_refl _), Nat.sub_self]; rfl
theorem cell_set {c : Cells} {x y : Cell} : (c ++ [x]).set c.length y = c ++ [y] := by
  rw [List.set_append_right _ _ (Nat.le_refl _), Nat.sub_self]; rfl
theorem rp_slLoc {md : Bool} {l : List D} {n : Nat} {lo hi : Option Int} (h : cs[n]? = some (.lst l)) : RP (slD md cs (.loc n) lo hi) P X = RP (mkL md cs (cutL l lo hi)) P X := by
  unfold slD
  simp only [seqOf, loc_list h]
theorem isLc_end {c : Cells} {l : List D} : isLc (c ++ [.lst l]) (.loc c.length) = true := by simp only [isLc, cell_end]
end
end L3

/-! the calculus, for sorted, list(range()), list.index -/
namespace L3
open PySem L2
section
variable {P : D → Cells → Prop} {X : KX} {K : Cn} {env : Env} {cs : Cells} {a b c : ME} {d : D}
theorem rp_sort1 : RP (eSort1 a env cs) P X = RP (a env cs) (fun d c1 => match listOf c1 d with
  | some [] => RP (mkL false c1 []) P X
  | some [.int i] => RP (mkL false c1 [.int i]) P X
  | _ => False) X := by
  unfold eSort1
  rw [RP_bind]
  congr; funext d c1
  cases listOf c1 d with
  | none => rfl
  | some l =>
    rcases l with _ | ⟨x, _ | ⟨y, r⟩⟩
    · rfl
    · cases x <;> rfl
    · cases x <;> rfl
theorem rp_listRg : RP (eListRg a env cs) P X = RP (a env cs) (fun d c1 => match d with
  | .int n => if 0 ≤ n ∧ n ≤ 1000000 then RP (mkL false c1 ((List.range n.toNat).map fun i => .int (i : Nat))) P X else False
  | _ => False) X := by
  unfold eListRg
  rw [RP_bind]
  congr; funext d c1
  cases d <;> first | rfl | (simp only; split <;> rfl)
/-- the index of a text in a list of texts -/
theorem rp_lidx {n : Nat} {k : List Nat} {H : List (List Nat)} {i j : Nat} (hi : env[i]? = some (some (.loc n))) (hj : env[j]? = some (some (.str k))) (h : cs[n]? = some (.lst (H.map D.str))) (hk : k ∈ H) : RP (eLidx (eVar i) (eVar j) env cs) P X = P (.int (H.idxOf k : Nat)) cs := by
  have e1 : listOf cs (.loc n) = some (H.map D.str) := by simp only [listOf, h]
  have e2 : strsL (H.map D.str) = some H := by
    clear h e1 hk
    induction H with
    | nil => rfl
    | cons a r ih => simp only [List.map_cons, strsL, ih, Option.map_some]
  have e3 : isLc cs (.loc n) = true := by simp only [isLc, h]
  unfold eLidx
  rw [RP_bind]
  simp only [rp_varM, hi, e3, if_true, RP_bind, hj, e1, e2, hk]
  rfl
end
end L3

/-! x.replace("..", e): old and new are no one object -/
namespace L3
open PySem L2 PySem.Spec PyProof.Rows

/-- behind a text just made (the token s.toks): the value is not that text -/
structure PEd (X : Cx) (e : Expr) (t : TE) : Prop where
  run : ∀ (pins : List (Addr × Obj)) (s : Shared) (σ : L2.St) (H : Hp) (Q : VK), Inv X pins σ H s → t σ H Q →
    wpAny (model X.prog X.w) X.A (eval e X.env) (fun u s' => ∃ v H', Inv X pins σ H' s' ∧ RelV s'.toks v u ∧ (∀ x k, u = .str x k → k ≠ s.toks) ∧ Q v H') X.xe { s with toks := s.toks + 1 }
section
variable {X : Cx} {a b o e : Expr} {ta tb to te : TE} {pos p : Pos} {es : List Expr}
theorem ped_var {i : Nat} {x : Str} {pos : Pos} (hN : X.N[i]? = some x) (hv : Vis X.env.scope x) (hd : (x == ("__debug__" : Str)) = false := by decide) (hcd : (x == ("__classdict__" : Str)) = false := by decide) : PEd X (.Name x pos) (tVar i) := by
  constructor
  intro pins s σ H Q I ⟨v, e, q⟩
  obtain ⟨m, hn, hl⟩ := I.i.loc
  obtain ⟨u, r, l⟩ := hl i x v hN e hv
  have J := I.tok (Nat.le_succ s.toks)
  have fin : gv s.toks u → ∃ v H', Inv X pins σ H' { s with toks := s.toks + 1 } ∧ RelV (s.toks + 1) v u ∧ (∀ x k, u = .str x k → k ≠ s.toks) ∧ Q v H' := fun g =>
    ⟨v, H, J, ⟨r, g.mono (Nat.le_succ _)⟩, fun x k z => Nat.ne_of_lt (g x k z).2, q⟩
  rcases l with ⟨hk, hm⟩ | ⟨hk, c, hc, hcell⟩
  · exact wpAny_Name (wpAny_loadName_local (s := { s with toks := s.toks + 1 }) I.ok.kind hk hn hm (fin (I.f.1 m hn x u hm))) hd
  · rcases hk with hk | hk
    · exact wpAny_Name (wpAny_loadName_cell (s := { s with toks := s.toks + 1 }) I.ok.kind hk hc hcell (fin (I.f.2 x c u hc hcell))) hd
    · exact wpAny_Name (wpAny_loadName_free (s := { s with toks := s.toks + 1 }) I.ok.kind hk hc hcell (fin (I.f.2 x c u hc hcell)) hcd) hd
theorem ped_str {x j pos} : PEd X (.Constant (.str x) j pos) (tC (.str x)) := ⟨fun _ _ _ H _ I q => Calls.Constant_str ⟨.str x, H, I.tok (Nat.le_add_right _ 2), .str (Nat.succ_pos _) (Nat.lt_succ_self _), (fun y k z => by cases z; exact Nat.ne_of_gt (Nat.lt_succ_self _)), q⟩⟩
/-- str(e) -/
def tStrOf (te : TE) : TE := fun σ H Q => te σ H fun x H1 => rStrA [x] H1 Q
theorem ped_strOf (hg : Gl X "str") (hm : X.mg "str" = none) (he : PEd X e te) (hs : starEach [e] X.env = [(false, eval e X.env)] := by rfl) : PEd X (.Call (.Name "str" p) [e] [] pos) (tStrOf te) := by
  constructor
  intro pins s σ H Q I h
  have J := I.tok (Nat.le_succ s.toks)
  refine wpAny_Call_Name_kw (ld_blt J hg hm (by decide +kernel : bootBuiltins "str" = some (.type "str")) ?_)
  refine PyProof.Rows.callWith_type1 ?_ hs rfl
  rw [hs]
  show wpAny _ _ (spliced [(false, eval e X.env)]) _ _ _
  refine Calls.spliced_cons (thk (he.run pins s σ H _ I h) fun u s1 hk z => Calls.spliced_nil ?_)
  obtain ⟨v, H1, I1, r1, nd, q⟩ := z
  have hk : s.toks + 1 ≤ s1.toks := hk
  rcases q with ⟨i, e1, hz, q⟩ | ⟨y, e1, q⟩
  · cases e1
    obtain ⟨t, rfl⟩ := r1.1
    exact PySem.P.str_of_int hz ⟨.str _, H1, I1.tok (Nat.le_succ _), .str I1.p (Nat.lt_succ_self _), (fun x k z => by cases z; exact Nat.ne_of_gt hk), q⟩
  · cases e1
    obtain ⟨t, rfl⟩ := r1.1
    exact PySem.P.str_of_str ⟨.str y, H1, I1, r1, nd, q⟩
/-! x.replace("..", e) -/
def tRepl (y : Str) (to te : TE) : TE := fun σ H Q => to σ H fun x H1 => (∃ a, x = .str a) ∧ te σ H1 fun z H2 => ∃ a b, x = .str a ∧ z = .str b ∧ (y == b) = false ∧ a.length + (a.length + 1) * b.length ≤ 16777216 ∧ Q (.str (Txt.replace a y b)) H2
theorem pe_repl {y : Str} {j : Nat} {c0 apos : Pos} (ho : PE X o to) (he : PEd X e te)
    (hst : starEach [.Constant (.str y) j c0, e] X.env = [(false, eval (.Constant (.str y) j c0) X.env), (false, eval e X.env)] := by rfl)
    (hbase : attributeBase o "replace" X.env (eval o X.env) = eval o X.env := by rfl) (hline : (apos.endLine == pos.line) = true := by rfl) : PE X (.Call (.Attribute o "replace" apos) [.Constant (.str y) j c0, e] [] pos) (tRepl y to te) := by
  constructor
  intro pins s σ H Q I h
  refine PySem.Call_method2 hbase hst hline (thn (ho.run pins s σ H _ I h) fun v s1 z => ?_)
  obtain ⟨x, H1, I1, ⟨r1, g1⟩, ⟨a, rfl⟩, q1⟩ := z
  obtain ⟨t, rfl⟩ := r1
  refine ⟨"str", _, F.plainAttrs_str, F.slot_str_replace, F.type_str_replace, typeIs_str _ _ _, (fun _ e => nomatch e), Calls.callWith_builtin rfl (Calls.evalArgs_plain (Calls.spliced_cons (Calls.Constant_str ?_)))⟩
  refine Calls.spliced_cons (thk (he.run pins s1 σ H1 _ I1 q1) fun u s2 hk z => Calls.spliced_nil ?_)
  have hk : s1.toks + 1 ≤ s2.toks := hk
  obtain ⟨w, H2, I2, ⟨r2, g2⟩, nd, a', b, ea, rfl, hyb, hz, q⟩ := z
  cases ea
  obtain ⟨t2, rfl⟩ := r2
  have p1 := I1.p
  have n2 := nd _ _ rfl
  have p2 := (g2 _ _ rfl).1
  have gx : gv s2.toks (.str a t) := g1.mono (by omega)
  have hl : Builtin.Str.tooLong (a.length + (Builtin.Str.occurrences a y 0 a.length (a.length + 1)).length * b.length) = false := by
    have h1 := StrLaws.occ_length_le a y 0 a.length (a.length + 1)
    have h2 : (Builtin.Str.occurrences a y 0 a.length (a.length + 1)).length * b.length ≤ (a.length + 1) * b.length := Nat.mul_le_mul_right _ h1
    unfold Builtin.Str.tooLong
    rw [sizeLine_eq]
    exact decide_eq_false (by omega)
  refine call_gives F.slot_str_replace (typeIs_str _ _ _) F.entry_str_replace (F.args_str_replace_3 _ _ _) (gives_str_replace a y b t s1.toks t2 fun _ => ⟨?_, ?_, hyb, hl⟩) ?_
  · simp only [Bool.or_eq_false_iff, beq_eq_false_iff_ne]
    exact ⟨Nat.ne_of_gt p1, Nat.ne_of_gt p2⟩
  · exact beq_eq_false_iff_ne.mpr (Ne.symm n2)
  · refine ep_strip I2 gx ?_ q
    exact fits_replaced y hz
end
end L3

/-! x.replace("..", e); sorted of whole numbers; x.isdigit() -/
namespace L3
open PySem L2 PySem.Spec PyProof.Rows
def XpD (X : Cx) (W : WX) (e : Expr) (m : ME) : Prop := ∃ t, PEd X e t ∧ ∀ σ env H F c cs Q, RE (gd X) F c σ env → Ih (gd X) H F c cs → PoE (gd X) (fun a b => W a b σ) H F c (m env cs) Q → t σ H Q
section
variable {X : Cx} {W : WX} {pos p apos : Pos} {a o e : Expr} {ma mo me : ME}
theorem xd_var {i : Nat} {x : Str} (hN : X.N[i]? = some x) (hv : Vis X.env.scope x) (hd : (x == ("__debug__" : Str)) = false := by decide) (hcd : (x == ("__classdict__" : Str)) = false := by decide) : XpD X W (.Name x pos) (eVar i) := by
  refine ⟨_, ped_var hN hv hd hcd, fun σ env H F c cs Q re I po => ?_⟩
  unfold eVar at po
  split at po
  · rename_i d h
    obtain ⟨v, hv, rv⟩ := re.2 i d h
    exact ⟨v, hv, PoE.here I rv po⟩
  · exact po.elim
theorem xd_str {x : Str} {l : List Nat} {j : Nat} (h : x = ⟨l.toArray⟩) : XpD X W (.Constant (.str x) j pos) (eC (.str l)) := by
  subst h
  exact ⟨_, ped_str, fun σ env H F c cs Q re I po => PoE.here I (.str l) po⟩
def eStrOf (m : ME) : ME := fun env cs => (m env cs).bind fun d cs1 => strB cs1 [d]
theorem xd_strOf (hg : Gl X "str") (hm : X.mg "str" = none) (he : XpD X W e me) (hs : starEach [e] X.env = [(false, eval e X.env)] := by rfl) : XpD X W (.Call (.Name "str" p) [e] [] pos) (eStrOf me) := by
  obtain ⟨te, pe, se⟩ := he
  refine ⟨_, ped_strOf hg hm pe hs, fun σ env H F c cs Q re I po => ?_⟩
  refine se σ env H F c cs _ re I (PoE.cut po _ fun d cs1 _ H1 F1 c1 v x1 I1 rv po1 => ?_)
  exact cb_str _ H1 F1 c1 cs1 [v] [d] Q I1 (.cons rv .nil) po1
/-- x.replace("..", e) -/
def rplD (y : List Nat) (cs : Cells) (d e : D) : R := match d, e with
  | .str l, .str m => if y ≠ m ∧ l.length + (l.length + 1) * m.length ≤ 16777216 then .ok (.str (codes (Txt.replace (mk l) (mk y) (mk m)))) cs else .stuck
  | _, _ => .stuck
def eRpl (y : List Nat) (mo me : ME) : ME := fun env cs => (mo env cs).bind fun d cs1 => match d with
  | .str l => (me env cs1).bind fun e cs2 => rplD y cs2 (.str l) e
  | _ => .stuck
theorem xp_repl {y : Str} {ly : List Nat} {j : Nat} {c0 : Pos} (hy : y = ⟨ly.toArray⟩) (ho : Xp X W o mo) (he : XpD X W e me)
    (hst : starEach [.Constant (.str y) j c0, e] X.env = [(false, eval (.Constant (.str y) j c0) X.env), (false, eval e X.env)] := by rfl)
    (hbase : attributeBase o "replace" X.env (eval o X.env) = eval o X.env := by rfl) (hline : (apos.endLine == pos.line) = true := by rfl) : Xp X W (.Call (.Attribute o "replace" apos) [.Constant (.str y) j c0, e] [] pos) (eRpl ly mo me) := by
  obtain ⟨to, po', so⟩ := ho
  obtain ⟨te, pe', se⟩ := he
  refine ⟨_, pe_repl po' pe' hst hbase hline, fun σ env H F c cs Q re I po => ?_⟩
  subst hy
  refine so σ env H F c cs _ re I (PoE.cut po _ fun d cs1 _ H1 F1 c1 v x1 I1 rv po1 => ?_)
  split at po1
  · cases rv
    refine ⟨⟨_, rfl⟩, se σ env H1 F1 c1 cs1 _ (re.mono x1.le) I1 (PoE.cut po1 _ fun d2 cs2 _ H2 F2 c2 v2 x2 I2 rv2 po2 => ?_)⟩
    unfold rplD at po2
    split at po2
    · rename_i l m e1 e2
      split at po2
      · rename_i hc
        cases e1
        cases rv2
        refine ⟨_, _, rfl, rfl, ?_, ?_, ?_⟩
        · rw [str_beq]; exact decide_eq_false hc.1
        · rw [str_len, str_len]; exact hc.2
        · have := PoE.here I2 (.str _) po2
          rw [str_codes] at this
          exact this
      · exact po2.elim
    · exact po2.elim
  · exact po1.elim
/-! x.isdigit() -/
def isdD (cs : Cells) (l : List Nat) : R := .ok (.bl (Txt.isdigit (mk l))) cs
theorem mb_isd {g : Gd} : Mb0 g (fun x xs H Q => ∃ a, x = .str a ∧ xs = [] ∧ True ∧ Q (.bl (Txt.isdigit a)) H) isdD := fun W H F c cs l Q I po => ⟨_, rfl, rfl, trivial, PoE.here I (.bl _) po⟩
theorem xp_isd (ho : Xp X W o mo) (hbase : attributeBase o "isdigit" X.env (eval o X.env) = eval o X.env := by rfl) (hline : (apos.endLine == pos.line) = true := by rfl) : Xp X W (.Call (.Attribute o "isdigit" apos) [] [] pos) (eM0 isdD mo) :=
  xp_m0 F.slot_str_isdigit F.type_str_isdigit mt_isdigit mb_isd ho hbase hline
/-! sorted(..) of whole numbers -/
def sortI (l : List Int) : List Int := l.mergeSort (fun a b => decide (a ≤ b))
theorem int_uniq : ∀ {a b : List Int}, a.Perm b → a.Pairwise (· ≤ ·) → b.Pairwise (· ≤ ·) → a = b
  | [], b, p, _, _ => (List.Perm.eq_nil p.symm).symm
  | x :: r, [], p, _, _ => by have := p.length_eq; simp at this
  | x :: r, y :: t, p, h, k => by
    rw [List.pairwise_cons] at h k
    have hx : x ∈ y :: t := p.subset (List.mem_cons_self)
    have hy : y ∈ x :: r := p.symm.subset (List.mem_cons_self)
    have e : x = y := by
      rcases List.mem_cons.mp hx with q | q
      · exact q
      · rcases List.mem_cons.mp hy with q2 | q2
        · exact q2.symm
        · have := h.1 _ q2; have := k.1 _ q; omega
    subst e
    rw [int_uniq (List.Perm.cons_inv p) h.2 k.2]
theorem sortI_perm (l : List Int) : (sortI l).Perm l := List.mergeSort_perm l _
theorem sortI_pw (l : List Int) : (sortI l).Pairwise (· ≤ ·) := by
  have := List.pairwise_mergeSort (le := fun a b : Int => decide (a ≤ b)) (fun a b c h k => by simp only [decide_eq_true_eq] at *; omega) (fun a b => by simp only [Bool.or_eq_true, decide_eq_true_eq]; omega) l
  exact this.imp fun h => by simpa using h
def intsOf : List D → Option (List Int)
  | [] => some []
  | .int i :: r => match intsOf r with
    | some l => some (i :: l)
    | none => none
  | _ => none
theorem intsOf_rv {g : Gd} {F : Hp} {c : List Addr} : ∀ {vs : List V} {ds : List D} {l : List Int}, RVs g F c vs ds → intsOf ds = some l → vs = l.map V.int
  | _, _, _, .nil, h => by simp only [intsOf, Option.some.injEq] at h; subst h; rfl
  | _, _, _, .cons r1 r2, h => by
    cases r1 with
    | int b =>
      simp only [intsOf] at h
      split at h
      · rename_i l hl
        simp only [Option.some.injEq] at h
        subst h
        rw [intsOf_rv r2 hl]; rfl
      · cases h
    | _ => cases h
theorem rvs_intsD {g : Gd} {F : Hp} {c : List Addr} : ∀ l : List Int, RVs g F c (l.map V.int) (l.map D.int)
  | [] => .nil
  | i :: r => .cons (.int i) (rvs_intsD r)
def eSortI (ma : ME) : ME := fun env cs => (ma env cs).bind fun d cs1 => match listOf cs1 d with
  | some ds => match intsOf ds with
    | some l => if l.length < 64 then mkL false cs1 ((sortI l).map D.int) else .stuck
    | none => .stuck
  | none => .stuck
theorem xp_sortI (hg : Gl X "sorted") (hm : X.mg "sorted" = none) (bo : bootBuiltins "sorted" = some (.builtin "sorted")) (ha : Xp X W a ma) (hs : starEach [a] X.env = (false, eval a X.env) :: starEach [] X.env := by rfl) (hp : (backTo pos (starEach ([] : List Expr) X.env)).any (·.1) = false := by rfl) :
    Xp X W (.Call (.Name "sorted" p) [a] [] pos) (eSortI ma) := by
  obtain ⟨ta, pa, sa⟩ := ha
  refine ⟨_, pe_callB cr_sorted hg hm bo (pa_cons pa pa_nil hs) (by decide) (by decide) hs hp, fun σ env H F c cs Q re I po => ?_⟩
  refine sa σ env H F c cs _ re I (PoE.cut po _ fun d cs1 _ H1 F1 c1 v x1 I1 rv po1 => ?_)
  split at po1
  · rename_i ds hds
    split at po1
    · rename_i l hl
      split at po1
      · rename_i h64
        obtain ⟨q, vs, rfl, h1, h2⟩ := listOf_at I1 rv hds
        have e := intsOf_rv h2 hl
        subst e
        refine ⟨q, l, rfl, .inl (.inl h1), h64, fun ns' p' hpm hpw hp' => ?_⟩
        have : ns' = sortI l := int_uniq (hpm.trans (sortI_perm l).symm) hpw (sortI_pw l)
        subst this
        exact mkL_ok I1 (rvs_intsD _) po1 hp'
      · exact po1.elim
    · exact po1.elim
  · exact po1.elim
end
end L3

/-! e in (G1, G2): two texts of the module -/
namespace L3
open PySem L2 PySem.Spec PyProof.Rows
section
variable {X : Cx} {a : Expr} {ta : TE} {pos p1 p2 pt : Pos} {x1 x2 : Str} {k : Nat} {z1 z2 : Str} {t1 t2 : Tok}
def tInGG (neg : Bool) (z1 z2 : Str) (ta : TE) : TE := fun σ H Q => ta σ H fun x H1 => flatV x = true ∧ Q (.bl (if neg then !inV x [.str z1, .str z2] else inV x [.str z1, .str z2])) H1
theorem tup_GG {pins : List (Addr × Obj)} {σ : L2.St} {H : Hp} {s : Shared} {Q : Value → Shared → Prop} {E : Value → Shared → Prop} (I : Inv X pins σ H s) (hg1 : Gl X x1) (hm1 : X.mg x1 = some (.str z1 t1)) (hg2 : Gl X x2) (hm2 : X.mg x2 = some (.str z2 t2)) (hd1 : (x1 == ("__debug__" : Str)) = false) (hd2 : (x2 == ("__debug__" : Str)) = false)
    (hs : starEach [.Name x1 p1, .Name x2 p2] X.env = [(false, eval (.Name x1 p1) X.env), (false, eval (.Name x2 p2) X.env)])
    (h : ∀ q, q = s.heap.objs.size → Q (.ref q) { s with heap := s.heap.push { cls := .type "tuple", data := .seq #[.str z1 t1, .str z2 t2] } }) : wpAny (model X.prog X.w) X.A (eval (.Tuple [.Name x1 p1, .Name x2 p2] k pt) X.env) Q E s := by
  refine wpAny_Tuple_spliced ?_
  rw [hs]
  refine Calls.spliced_cons (ld_glob I hg1 hm1 ?_ hd1)
  refine Calls.spliced_cons (ld_glob I hg2 hm2 ?_ hd2)
  exact Calls.spliced_nil ⟨by show 2 ≤ sizeLine; decide, h _ rfl⟩
theorem pe_inGG (ha : PEw X a ta) (hg1 : Gl X x1) (hm1 : X.mg x1 = some (.str z1 t1)) (hg2 : Gl X x2) (hm2 : X.mg x2 = some (.str z2 t2)) (hd1 : (x1 == ("__debug__" : Str)) = false := by decide) (hd2 : (x2 == ("__debug__" : Str)) = false := by decide)
    (hs : starEach [.Name x1 p1, .Name x2 p2] X.env = [(false, eval (.Name x1 p1) X.env), (false, eval (.Name x2 p2) X.env)] := by rfl) : PC X .In a (.Tuple [.Name x1 p1, .Name x2 p2] k pt) (tInGG false z1 z2 ta) := by
  constructor
  intro pins s σ H Q I h
  refine thn (ha.run pins s σ H _ I h) fun v s1 z => ?_
  obtain ⟨x, H1, I1, r1, fx, q⟩ := z
  refine tup_GG I1 hg1 hm1 hg2 hm2 hd1 hd2 hs fun p hp => ?_
  subst hp
  have I2 : Inv X pins σ H1 { s1 with heap := s1.heap.push { cls := .type "tuple", data := .seq #[.str z1 t1, .str z2 t2] } } := I1.kept (t' := s1.toks) (fun b o e => Heap.get?_push_of_some _ e) (Nat.le_refl _)
  have rv : L2.Vals [V.str z1, V.str z2] [.str z1 t1, .str z2 t2] := .cons ⟨_, rfl⟩ (.cons ⟨_, rfl⟩ .nil)
  refine SeqAt.in_tupleAt (items := [Value.str z1 t1, .str z2 t2].toArray) (eqU x) (IsTup.new _ _) (fun w hw => mem_eqAt r1 fx rv rfl w (by simpa using hw)) (endB' I2 q ?_)
  rw [show [Value.str z1 t1, .str z2 t2].toArray.any (eqU x) = [Value.str z1 t1, .str z2 t2].any (eqU x) by simp, any_eqU rv rfl, if_neg Bool.false_ne_true]
  rfl
theorem pe_ninGG (ha : PEw X a ta) (hg1 : Gl X x1) (hm1 : X.mg x1 = some (.str z1 t1)) (hg2 : Gl X x2) (hm2 : X.mg x2 = some (.str z2 t2)) (hd1 : (x1 == ("__debug__" : Str)) = false := by decide) (hd2 : (x2 == ("__debug__" : Str)) = false := by decide)
    (hs : starEach [.Name x1 p1, .Name x2 p2] X.env = [(false, eval (.Name x1 p1) X.env), (false, eval (.Name x2 p2) X.env)] := by rfl) : PC X .NotIn a (.Tuple [.Name x1 p1, .Name x2 p2] k pt) (tInGG true z1 z2 ta) := by
  constructor
  intro pins s σ H Q I h
  refine thn (ha.run pins s σ H _ I h) fun v s1 z => ?_
  obtain ⟨x, H1, I1, r1, fx, q⟩ := z
  refine tup_GG I1 hg1 hm1 hg2 hm2 hd1 hd2 hs fun p hp => ?_
  subst hp
  have I2 : Inv X pins σ H1 { s1 with heap := s1.heap.push { cls := .type "tuple", data := .seq #[.str z1 t1, .str z2 t2] } } := I1.kept (t' := s1.toks) (fun b o e => Heap.get?_push_of_some _ e) (Nat.le_refl _)
  have rv : L2.Vals [V.str z1, V.str z2] [.str z1 t1, .str z2 t2] := .cons ⟨_, rfl⟩ (.cons ⟨_, rfl⟩ .nil)
  refine SeqAt.notIn_tupleAt (items := [Value.str z1 t1, .str z2 t2].toArray) (eqU x) (IsTup.new _ _) (fun w hw => mem_eqAt r1 fx rv rfl w (by simpa using hw)) (endB' I2 q ?_)
  rw [show [Value.str z1 t1, .str z2 t2].toArray.any (eqU x) = [Value.str z1 t1, .str z2 t2].any (eqU x) by simp, any_eqU rv rfl, if_pos rfl]
  rfl
variable {W : WX} {ma : ME} {l1 l2 : List Nat}
theorem inB_tup (cs : Cells) (ds : List D) (d : D) : inB cs d (.tup ds) = if (flatD d && ds.all flatD) = true then some (inF d ds) else none := by
  cases d with
  | str l =>
    cases l with
    | nil => rfl
    | cons a r => cases r <;> rfl
  | _ => rfl
theorem sim_GG {neg : Bool} (hz1 : z1 = ⟨l1.toArray⟩) (hz2 : z2 = ⟨l2.toArray⟩) {σ : L2.St} {env : L3.Env} {H F : Hp} {c : List Addr} {cs : Cells} {Q : VK}
    (sa : ∀ σ env H F c cs Q, RE (gd X) F c σ env → Ih (gd X) H F c cs → PoE (gd X) (fun a b => W a b σ) H F c (ma env cs) Q → ta σ H Q) (re : RE (gd X) F c σ env) (I : Ih (gd X) H F c cs)
    (po : PoE (gd X) (fun a b => W a b σ) H F c (op2 (if neg then ninD else inD) ma (eTup (aCons (eC (.str l1)) (aCons (eC (.str l2)) aNil))) env cs) Q) : tInGG neg z1 z2 ta σ H Q := by
  subst hz1 hz2
  refine sa σ env H F c cs _ re I (PoE.cut po _ fun d cs1 _ H1 F1 c1 v x1 I1 rv po1 => ?_)
  have po1 : PoE (gd X) (fun a b => W a b σ) H1 F1 c1 ((if neg then ninD else inD) cs1 d (.tup [.str l1, .str l2])) Q := po1
  have rs : RVs (gd X) F1 c1 [V.str ⟨l1.toArray⟩, V.str ⟨l2.toArray⟩] [.str l1, .str l2] := .cons (.str l1) (.cons (.str l2) .nil)
  have e := inB_tup cs1 [.str l1, .str l2] d
  cases neg
  · rw [if_neg Bool.false_ne_true] at po1 ⊢
    unfold inD at po1
    rw [e] at po1
    split at po1
    · rename_i b hb
      split at hb
      · rename_i hf
        simp only [Bool.and_eq_true] at hf
        simp only [Option.some.injEq] at hb
        refine ⟨flat_rv rv hf.1, ?_⟩
        rw [inF_rv rv rs, hb]
        exact PoE.here I1 (.bl _) po1
      · cases hb
    · exact po1.elim
  · rw [if_pos rfl] at po1 ⊢
    unfold ninD at po1
    rw [e] at po1
    split at po1
    · rename_i b hb
      split at hb
      · rename_i hf
        simp only [Bool.and_eq_true] at hf
        simp only [Option.some.injEq] at hb
        refine ⟨flat_rv rv hf.1, ?_⟩
        rw [inF_rv rv rs, hb]
        exact PoE.here I1 (.bl _) po1
      · cases hb
    · exact po1.elim
theorem xp_inGG (hz1 : z1 = ⟨l1.toArray⟩) (hz2 : z2 = ⟨l2.toArray⟩) (ha : XpW X W a ma) (hg1 : Gl X x1) (hm1 : X.mg x1 = some (.str z1 t1)) (hg2 : Gl X x2) (hm2 : X.mg x2 = some (.str z2 t2)) (hd1 : (x1 == ("__debug__" : Str)) = false := by decide) (hd2 : (x2 == ("__debug__" : Str)) = false := by decide)
    (hs : starEach [.Name x1 p1, .Name x2 p2] X.env = [(false, eval (.Name x1 p1) X.env), (false, eval (.Name x2 p2) X.env)] := by rfl) (hb : behindInMarks .In (.Tuple [.Name x1 p1, .Name x2 p2] k pt) = false := by rfl) :
    Xp X W (.Compare a [.In] [.Tuple [.Name x1 p1, .Name x2 p2] k pt] pos) (op2 inD ma (eTup (aCons (eC (.str l1)) (aCons (eC (.str l2)) aNil)))) := by
  obtain ⟨ta, pa, sa⟩ := ha
  exact ⟨_, pe_cmp (pe_inGG pa hg1 hm1 hg2 hm2 hd1 hd2 hs) hb, fun σ env H F c cs Q re I po => sim_GG (neg := false) hz1 hz2 sa re I (by rw [if_neg Bool.false_ne_true]; exact po)⟩
theorem xt_ninGG (hz1 : z1 = ⟨l1.toArray⟩) (hz2 : z2 = ⟨l2.toArray⟩) (ha : XpW X W a ma) (hg1 : Gl X x1) (hm1 : X.mg x1 = some (.str z1 t1)) (hg2 : Gl X x2) (hm2 : X.mg x2 = some (.str z2 t2)) (hd1 : (x1 == ("__debug__" : Str)) = false := by decide) (hd2 : (x2 == ("__debug__" : Str)) = false := by decide)
    (hs : starEach [.Name x1 p1, .Name x2 p2] X.env = [(false, eval (.Name x1 p1) X.env), (false, eval (.Name x2 p2) X.env)] := by rfl) (hb : behindInMarks .NotIn (.Tuple [.Name x1 p1, .Name x2 p2] k pt) = false := by rfl) :
    Xt1 X W (.Compare a [.NotIn] [.Tuple [.Name x1 p1, .Name x2 p2] k pt] pos) (op2 ninD ma (eTup (aCons (eC (.str l1)) (aCons (eC (.str l2)) aNil)))) := by
  obtain ⟨ta, pa, sa⟩ := ha
  refine ⟨_, pt_cmp (pe_ninGG pa hg1 hm1 hg2 hm2 hd1 hd2 hs) hb, fun σ env H F c cs Q re I po => ?_⟩
  refine xt_tB (W := W) (m := op2 ninD ma (eTup (aCons (eC (.str l1)) (aCons (eC (.str l2)) aNil)))) (fun σ env H F c cs Q re I po => sim_GG (neg := true) hz1 hz2 sa re I (by rw [if_pos rfl]; exact po)) re I po
end
end L3

/-! one sign replaced, what stands at an end, figures stripped: as lists -/
namespace L3
open PySem L2 PySem.Spec PyProof.Rows Builtin
theorem replL_one {c : Nat} {z : List Nat} : ∀ {l : List Nat}, c ∉ l → StrLaws.replL [c] z l = l
  | [], _ => StrLaws.replL_nil
  | d :: r, h => by
    rw [StrLaws.replL_miss (by
      intro e
      have e : [d] = [c] := by simpa using e
      cases e
      exact h (List.mem_cons_self)), replL_one fun m => h (List.mem_cons_of_mem _ m)]
theorem replL_at {c : Nat} {z b : List Nat} (hb : c ∉ b) : ∀ {a : List Nat}, c ∉ a → StrLaws.replL [c] z (a ++ c :: b) = a ++ z ++ b
  | [], _ => by
    rw [List.nil_append, StrLaws.replL_hit (by simp) (by simp)]
    show z ++ StrLaws.replL [c] z b = _
    rw [replL_one hb]; rfl
  | d :: r, h => by
    rw [List.cons_append, StrLaws.replL_miss (by
      intro e
      have e : [d] = [c] := by simpa using e
      cases e
      exact h (List.mem_cons_self)), replL_at hb fun m => h (List.mem_cons_of_mem _ m)]
    rfl
theorem rpl_at {c : Nat} {a b : List Nat} {z : Str} (ha : c ∉ a) (hb : c ∉ b) : Txt.replace ⟨(a ++ c :: b).toArray⟩ ⟨[c].toArray⟩ z = ⟨(a ++ codes z ++ b).toArray⟩ := by
  have := StrLaws.replace_list (x := ⟨(a ++ c :: b).toArray⟩) (y := ⟨[c].toArray⟩) (z := z) (Nat.le_refl 1)
  rw [show (⟨[c].toArray⟩ : Str).cps.toList = [c] from rfl, show (⟨(a ++ c :: b).toArray⟩ : Str).cps.toList = a ++ c :: b from rfl, replL_at hb ha] at this
  generalize Txt.replace ⟨(a ++ c :: b).toArray⟩ ⟨[c].toArray⟩ z = y at this ⊢
  obtain ⟨⟨l⟩⟩ := y
  have h2 : l = a ++ codes z ++ b := this
  rw [h2]
theorem sw_app (x y : List Nat) : Txt.startswith ⟨(x ++ y).toArray⟩ ⟨x.toArray⟩ = true := by
  unfold Txt.startswith
  rw [Bool.and_eq_true, decide_eq_true_eq, StrLaws.subAt_eq]
  refine ⟨by simp [Str.length], ?_⟩
  simp [Str.length]
theorem ew_app (x y : List Nat) : Txt.endswith ⟨(x ++ y).toArray⟩ ⟨y.toArray⟩ = true := by
  unfold Txt.endswith
  rw [Bool.and_eq_true, decide_eq_true_eq, StrLaws.subAt_eq]
  refine ⟨by simp [Str.length], ?_⟩
  simp [Str.length]
theorem lsc_app {k a : List Nat} {c : Nat} {b : List Nat} (ha : ∀ x ∈ a, x ∈ k) (hc : c ∉ k) : codes (Txt.lstripChars ⟨(a ++ c :: b).toArray⟩ ⟨k.toArray⟩) = c :: b := by
  unfold Txt.lstripChars
  rw [stripBy_eq]
  have e : ((a ++ c :: b).takeWhile (⟨k.toArray⟩ : Str).cps.contains).length = a.length := by
    rw [List.takeWhile_append_of_pos (fun x hx => by simpa using ha x hx), List.takeWhile_cons_of_neg (by simpa using hc), List.append_nil]
  have e1 : stripLo (⟨k.toArray⟩ : Str).cps.contains true ⟨(a ++ c :: b).toArray⟩ = a.length := by
    unfold stripLo
    rw [if_pos rfl]; exact e
  rw [e1]
  unfold stripHi
  rw [if_neg (by simp)]
  simp [Builtin.Str.strSub, codes, Str.length]
theorem rsc_app {k a b : List Nat} {c : Nat} (hb : ∀ x ∈ b, x ∈ k) (hc : c ∉ k) : codes (Txt.rstripChars ⟨(a ++ c :: b).toArray⟩ ⟨k.toArray⟩) = a ++ [c] := by
  unfold Txt.rstripChars
  rw [stripBy_eq]
  have e1 : stripLo (⟨k.toArray⟩ : Str).cps.contains false ⟨(a ++ c :: b).toArray⟩ = 0 := by
    unfold stripLo
    rw [if_neg (by simp)]
  rw [e1]
  have e : (((a ++ c :: b).drop 0).reverse.takeWhile (⟨k.toArray⟩ : Str).cps.contains).length = b.length := by
    rw [List.drop_zero, List.reverse_append, List.reverse_cons, List.append_assoc, List.takeWhile_append_of_pos (fun x hx => by simpa using hb x (List.mem_reverse.mp hx)), List.singleton_append, List.takeWhile_cons_of_neg (by simpa using hc), List.append_nil, List.length_reverse]
  have e2 : stripHi (⟨k.toArray⟩ : Str).cps.contains true ⟨(a ++ c :: b).toArray⟩ 0 = a.length + 1 := by
    unfold stripHi
    rw [if_pos rfl]
    show (a ++ c :: b).length - (((a ++ c :: b).drop 0).reverse.takeWhile _).length = _
    rw [e, List.length_append, List.length_cons]
    omega
  rw [e2]
  simp [Builtin.Str.strSub, codes, List.take_append]
  exact List.take_of_length_le (by omega)
theorem first_not {k : List Nat} : ∀ {l : List Nat}, (l.all fun c => decide (c ∈ k)) = false → ∃ a c b, l = a ++ c :: b ∧ (∀ x ∈ a, x ∈ k) ∧ c ∉ k
  | [], h => by cases h
  | d :: r, h => by
    by_cases hd : d ∈ k
    · rw [List.all_cons, decide_eq_true hd, Bool.true_and] at h
      obtain ⟨a, c, b, rfl, h1, h2⟩ := first_not h
      refine ⟨d :: a, c, b, rfl, fun x hx => ?_, h2⟩
      rcases List.mem_cons.mp hx with rfl | hx
      · exact hd
      · exact h1 x hx
    · exact ⟨[], d, r, rfl, fun x hx => (by cases hx), hd⟩
theorem last_not {k l : List Nat} (h : (l.all fun c => decide (c ∈ k)) = false) : ∃ a c b, l = a ++ c :: b ∧ (∀ x ∈ b, x ∈ k) ∧ c ∉ k := by
  obtain ⟨a, c, b, e, h1, h2⟩ := first_not (k := k) (l := l.reverse) (by rw [List.all_reverse]; exact h)
  refine ⟨b.reverse, c, a.reverse, ?_, fun x hx => h1 x (List.mem_reverse.mp hx), h2⟩
  have := congrArg List.reverse e
  rw [List.reverse_reverse] at this
  rw [this]; simp
end L3

namespace L3
open PySem L2
def starL : List Nat := [42]
def hashL : List Nat := [35]
def lpL (m n : List Nat) (i : Int) : List Nat := codes (Txt.replace (Txt.replace ⟨m.toArray⟩ ⟨starL.toArray⟩ ⟨n.toArray⟩) ⟨hashL.toArray⟩ (toString i : Str))
/-- x.replace, whatever stands in the second place -/
theorem rp_rpl {y : List Nat} {env : L3.Env} {cs : Cells} {mo me : ME} {P : D → Cells → Prop} {X : KX} : RP (eRpl y mo me env cs) P X = RP (mo env cs) (fun d c1 => match d with
  | .str l => RP (me env c1) (fun e c2 => match e with
    | .str m => if y ≠ m ∧ l.length + (l.length + 1) * m.length ≤ 16777216 then P (.str (codes (Txt.replace (mk l) (mk y) (mk m)))) c2 else False
    | _ => False) X
  | _ => False) X := by
  unfold eRpl
  rw [RP_bind]
  congr; funext d c1
  cases d <;> try rfl
  simp only
  rw [RP_bind]
  congr; funext e c2
  cases e <;> try rfl
  unfold rplD
  simp only
  split <;> rfl
end L3

/-! {}, {k: 1, ..}; xs.pop(i) -/
namespace L3
open PySem L2 PySem.Spec PyProof.Rows
section
variable {X : Cx} {pos : Pos}
theorem pe_dnewK : PE X (.Dict [] [] pos) tDNewK := ⟨fun pins s σ H Q I h =>
  wpAny_Dict_empty ⟨.ref s.heap.objs.size, _, I.laid (a := s.heap.objs.size) (o := .dK []) (t' := s.toks) (fun _ _ q => Heap.get?_push_of_some _ q) (Nat.le_refl _) (dk_empty s.heap I.i.big) (fun _ o es ep e d x m => by
    rw [Heap.get?_push_size _ rfl] at e; cases e; cases d; simp at m) (Nat.le_refl _), .ref, h _ (I.fresh (Nat.le_refl _))⟩⟩
structure PPs (X : Cx) (pos : Pos) (keys : List (Option Expr)) (values : List Expr) (trs : List (TE × TE)) : Prop where
  run : ∀ (pins : List (Addr × Obj)) (s : Shared) (σ : L2.St) (H : Hp) (Q : List (V × V) → Hp → Prop), Inv X pins σ H s → tPairs trs σ H Q →
    wpAny (model X.prog X.w) X.A (evalPairs (pairTrees keys values X.env pos)) (fun vs s' => ∃ ps H', Inv X pins σ H' s' ∧ VV ps vs ∧ Q ps H') X.xe s
theorem pps_nil : PPs X pos [] [] [] := ⟨fun pins s σ H Q I h => pairTrees_nil_walk ⟨[], H, I, .nil, h⟩⟩
theorem pps_cons {k v : Expr} {ks : List (Option Expr)} {vs : List Expr} {tk tv : TE} {trs : List (TE × TE)} (hk : PE X k tk) (hv : PE X v tv) (hr : PPs X pos ks vs trs) :
    PPs X pos (some k :: ks) (v :: vs) ((tk, tv) :: trs) := by
  constructor
  intro pins s σ H Q I h
  refine pairTrees_cons_walk (thn (hk.run pins s σ H _ I h) fun u s1 z => ?_)
  obtain ⟨x, H1, I1, rx, q1⟩ := z
  refine thn (hv.run pins s1 σ H1 _ I1 q1) fun w2 s2 z => ?_
  obtain ⟨y, H2, I2, ry, q2⟩ := z
  refine thn (hr.run pins s2 σ H2 _ I2 q2) fun ws s3 z => ?_
  obtain ⟨ps, H3, I3, rel, q3⟩ := z
  exact ⟨(x, y) :: ps, H3, I3, .cons ⟨rx.1, ry.1⟩ rel, q3⟩
def NR1 (p : Key × V) : Prop := (∃ i, p.1 = .inl i) ∨ ∀ a, p.2 ≠ V.ref a
def NoRef (kvs : List (Key × V)) : Prop := ∀ kv ∈ kvs, NR1 kv
theorem NoRef.put {kvs : List (Key × V)} {k : Key} {v : V} (h : NoRef kvs) (hv : NR1 (k, v)) : NoRef (putK kvs k v) := by
  intro kv m
  unfold putK at m
  split at m
  · obtain ⟨x, hx, rfl⟩ := List.mem_map.mp m
    split
    · rename_i e
      subst e
      exact hv
    · exact h x hx
  · rcases List.mem_append.mp m with m | m
    · exact h kv m
    · rw [List.mem_singleton.mp m]; exact hv
theorem merge_nr : ∀ {more kvs : List (Key × V)}, NoRef kvs → NoRef more → NoRef (mergeK kvs more)
  | [], _, h, _ => h
  | p :: r, kvs, h, hm => merge_nr (more := r) (kvs := putK kvs p.1 p.2) (h.put (hm p List.mem_cons_self)) (fun kv m => hm kv (List.mem_cons_of_mem _ m))
theorem pairs_int {P : Program} {w : World} {k : Nat} : ∀ {es : List DictEntry} {vs : List (Key × Value)}, Pairs (mixKind P w) es vs → (∀ kv ∈ vs, ∃ i, kv.1 = .inl i) → ∀ e ∈ es, gv k e.key
  | _, _, .nil, _, _, m => by cases m
  | _, _, .cons (kv := kv) hk _ r, h, e, m => by
    rcases List.mem_cons.mp m with z | m
    · subst z
      obtain ⟨i, hi⟩ := h kv List.mem_cons_self
      have hk : keyIs kv.1 e.key = true := hk
      rw [hi] at hk
      rcases keyIs_shape hk with ⟨_, t, _, z⟩ | ⟨_, _, z, _⟩
      · rw [z]; exact gv_int
      · cases z
    · exact pairs_int r (fun kv m => h kv (List.mem_cons_of_mem _ m)) e m
theorem kv_keys : ∀ {kvs : List (Key × V)} {vs : List (Key × Value)}, KV kvs vs → (∀ kv ∈ kvs, ∃ i, kv.1 = .inl i) → ∀ kv ∈ vs, ∃ i, kv.1 = .inl i
  | _, _, .nil, _, _, m => by cases m
  | _, _, .cons hr r, h, kv, m => by
    rcases List.mem_cons.mp m with z | m
    · subst z
      obtain ⟨i, hi⟩ := h _ List.mem_cons_self
      exact ⟨i, hr.1 ▸ hi⟩
    · exact kv_keys r (fun kv m => h kv (List.mem_cons_of_mem _ m)) kv m
def tDispN (trs : List (TE × TE)) : TE := fun σ H Q => ∀ p, H p = none → tPairs trs σ (upd H p (.dK [])) fun ps H2 => H2 p = some (.dK []) ∧ ∃ kvs : List (Key × V), ps = kvs.map (fun kv => (kV kv.1, kv.2)) ∧ kvs.length ≤ 15 ∧ NoRef kvs ∧ Q (.ref p) (upd H2 p (.dK (mergeK [] kvs)))
theorem pe_disp {keys : List (Option Expr)} {values : List Expr} {trs : List (TE × TE)} (h : PPs X pos keys values trs) (hall : keys.all (·.isSome) = true) (hl : keys.length = values.length) (h0 : keys ≠ [])
    (h15 : keys.length ≤ 15) : PE X (.Dict keys values pos) (tDispN trs) := by
  constructor
  intro pins s σ H Q I q
  have hn := I.fresh (Nat.le_refl s.heap.objs.size)
  have I1 := I.laid (a := s.heap.objs.size) (o := .dK []) (h' := s.heap.push { cls := .type "dict", data := .dict #[] }) (t' := s.toks) (fun _ _ q => Heap.get?_push_of_some _ q) (Nat.le_refl _) (dk_empty s.heap I.i.big) (fun _ o es ep e d x m => by
    rw [Heap.get?_push_size _ rfl] at e; cases e; cases d; simp at m) (Nat.le_refl _)
  refine wpAny_Dict_walk (knd := mixKind X.prog X.w) hall hl h0 h15 (thn (h.run pins _ σ _ _ I1 (q _ hn)) fun ws s2 z => ?_)
  obtain ⟨ps, H2, I2, rel, e, kvs, ep, lk, nr, q2⟩ := z
  subst ep
  obtain ⟨rs, c, rk⟩ := carries_of (P := X.prog) (w := X.w) rel
  obtain ⟨z, hd, vs0, r0, dd⟩ := dk_of I2.hok e
  cases r0
  refine ⟨rs, c, dd, fun h' dd' hs => ⟨.ref s.heap.objs.size, _, ?_, .ref, q2⟩⟩
  have hz : (mergeK [] kvs).length ≤ sizeLine := by
    have h1 := length_mergeK kvs []
    rw [List.length_nil] at h1
    rw [sizeLine_eq]; omega
  have he : ∃ q, h'.get? s.heap.objs.size = some q := let ⟨q, _, _, hq, _⟩ := dd'; ⟨q, hq⟩
  refine I2.write (x := s.heap.objs.size) (e := s.heap.objs.size) (t' := s2.toks + ws.length) (by rw [e]; exact True.intro) (.inl rfl) (fun b q hb z => (hs.2 b hb).trans z) he (dk_new hz hd (rk.merge .nil) dd') (fun rf o es ep ho hd2 x m => ?_) (fun z => absurd rfl z) (Nat.le_add_right _ _)
  obtain ⟨o2, es2, ep2, ho2, _, hd3, _, hp, _⟩ := dd'
  rw [ho] at ho2; cases ho2
  rw [hd2] at hd3; cases hd3
  refine pairs_int hp (kv_keys (rk.merge .nil) fun kv m => ?_) x m
  rcases merge_nr (kvs := []) (more := kvs) (fun _ m => by cases m) nr kv m with h | h
  · exact h
  · obtain ⟨b, hb⟩ := rf kv m
    exact absurd hb (h b)
theorem mt_popAt : MtM X "list.pop" rPopAt := by
  rintro pins s σ H x vs v us Q I ⟨rx, _⟩ rv ⟨l, xs, i, k, y, rfl, rfl, hH, h1, h2, hk, hy, q⟩
  cases rx
  obtain ⟨u, _, rfl, ru, rv⟩ := rv.cons_ex
  cases rv.nil_ex
  obtain ⟨t, rfl⟩ := ru.1
  obtain ⟨z, its, n, r, hl, e⟩ := I.lstM hH
  obtain ⟨w, hw, rw'⟩ := r.get hy
  refine call_meets F.slot_list_pop ⟨_, e, rfl⟩ F.entry_list_pop (F.args_list_pop_2 _ _)
    (MeetsSeq.list_pop_at l its.toArray n i t k w (fitsIndex_both h1 h2) (by rw [List.size_toArray, ← hl]; exact hk) (by rw [← Array.getElem?_toList]; exact hw) (by rw [List.size_toArray]; omega)) ⟨e, ?_⟩
  refine ⟨y, _, I.lset (its' := its.eraseIdx k) (t' := s.toks) hH e ?_ ⟨r.1.eraseIdx k, fun u m => r.2 u (List.mem_of_mem_eraseIdx m)⟩ ?_ (Nat.le_refl _), rw', q⟩
  · show its.toArray.eraseIdxIfInBounds k = (its.eraseIdx k).toArray
    rw [List.eraseIdxIfInBounds_toArray]
  · have := len_erase xs k
    omega
theorem mt_pop : MtM X "list.pop" rPop := by
  rintro pins s σ H x vs v us Q I ⟨rx, _⟩ ⟨rv, _⟩ ⟨l, xs, y, rfl, rfl, hH, hy, q⟩
  cases rx
  cases rv
  obtain ⟨z, its, n, r, hl, e⟩ := I.lstM hH
  obtain ⟨u, hu, ru⟩ := r.get hy
  have hy' : its.toArray[its.toArray.size - 1]? = some u := by
    show its.toArray[its.length - 1]? = some u
    rw [← Array.getElem?_toList, ← hl]
    exact hu
  refine call_meets F.slot_list_pop ⟨_, e, rfl⟩ F.entry_list_pop (F.args_list_pop_1 _) (MeetsSeq.list_pop_last l its.toArray n u hy' (by rw [List.size_toArray]; omega)) ⟨e, ?_⟩
  refine ⟨y, _, I.lset (its' := its.dropLast) (t' := s.toks) hH e ?_ ⟨r.1.dropLast, fun u m => r.2 u ((List.dropLast_sublist _).subset m)⟩ ?_ (Nat.le_refl _), ru, q⟩
  · show its.toArray.eraseIdxIfInBounds (its.toArray.size - 1) = its.dropLast.toArray
    rw [List.size_toArray, List.eraseIdxIfInBounds_toArray, PyProof.Rows.Copied.eraseIdx_last]
  · rw [List.length_dropLast]
    omega
end
end L3

namespace L3
open PySem L2 PySem.Spec PyProof.Rows
def NRp (ps : List (V × V)) : Prop := ∀ p ∈ ps, (∃ i, p.1 = V.int i) ∨ ∀ a, p.2 ≠ V.ref a
def PoP (n : Nat) (g : Gd) (W : XK) (H F : Hp) (c : List Addr) (r : RA) (Q : List (V × V) → Hp → Prop) : Prop :=
  match r with
  | .ok ds cs => Fw g H F c cs fun H' F' c' => ∀ ps, ps.length = n → NRp ps → RPs g F' c' ps ds → Q ps H'
  | .exc n fs cs => ExK g W H F c n fs cs
  | .stuck => False
def Xps (X : Cx) (W : WX) (pos : Pos) (ks : List (Option Expr)) (vs : List Expr) (m : MA) : Prop := ∃ trs, PPs X pos ks vs trs ∧ ∀ σ env H F c cs Q, RE (gd X) F c σ env → Ih (gd X) H F c cs → PoP ks.length (gd X) (fun a b => W a b σ) H F c (m env cs) Q → tPairs trs σ H Q
section
variable {X : Cx} {W : WX} {pos : Pos} {k v : Expr} {ks : List (Option Expr)} {vs : List Expr} {mk mv : ME} {ms : MA}
theorem xps_nil : Xps X W pos [] [] aNil := ⟨[], pps_nil, fun _ _ _ _ _ _ _ _ I po => po _ _ _ (Xt.refl _ _ _) I [] rfl (fun _ m => by cases m) .nil⟩
/-- a value that is a whole number -/
theorem xps_consI {i : Int} {j : Nat} {p : Pos} (hk : Xp X W k mk) (hr : Xps X W pos ks vs ms) : Xps X W pos (some k :: ks) (.Constant (.int i) j p :: vs) (aCons mk (aCons (eC (.int i)) ms)) := by
  obtain ⟨tk, pk, sk⟩ := hk
  obtain ⟨trs, pr, sr⟩ := hr
  refine ⟨_, pps_cons pk pe_int pr, fun σ env H F c cs Q re I po => ?_⟩
  refine sk σ env H F c cs _ re I ?_
  unfold aCons at po
  cases h1 : mk env cs with
  | ok d cs1 =>
    rw [h1] at po
    simp only at po
    intro H1 F1 c1 x1 I1 v rv
    show tPairs trs σ H1 (fun ps H3 => Q ((v, .int i) :: ps) H3)
    refine sr σ env H1 F1 c1 cs1 _ (re.mono x1.le) I1 ?_
    have e1 : aCons (eC (.int i)) ms env cs1 = (match ms env cs1 with
      | .ok ds c => RA.ok (.int i :: ds) c
      | .exc n fs c => .exc n fs c
      | .stuck => .stuck) := rfl
    unfold aCons at e1
    rw [e1] at po
    cases h3 : ms env cs1 with
    | ok ds cs3 =>
      rw [h3] at po
      exact fun H3 F3 c3 x3 I3 ps len nr rps => po H3 F3 c3 (x1.trans x3) I3 _ (by simp [len]) (fun p m => by
        rcases List.mem_cons.mp m with e | m
        · subst e; exact .inr fun _ z => by cases z
        · exact nr p m) (.cons (rv.mono x3.le) (.int i) rps)
    | exc n fs cs3 =>
      rw [h3] at po
      have po : ExK (gd X) (fun a b => W a b σ) H F c n fs cs3 := po
      exact ExK.from x1 po
    | stuck => rw [h3] at po; exact po.elim
  | exc n fs cs1 => rw [h1] at po; exact po
  | stuck => rw [h1] at po; exact po.elim
/-- a key that is a whole number -/
theorem xps_consK {i : Int} {j : Nat} {p : Pos} (hv : Xp X W v mv) (hr : Xps X W pos ks vs ms) : Xps X W pos (some (.Constant (.int i) j p) :: ks) (v :: vs) (aCons (eC (.int i)) (aCons mv ms)) := by
  obtain ⟨tv, pv, sv⟩ := hv
  obtain ⟨trs, pr, sr⟩ := hr
  refine ⟨_, pps_cons pe_int pv pr, fun σ env H F c cs Q re I po => ?_⟩
  show tv σ H (fun y H2 => tPairs trs σ H2 fun ps H3 => Q ((.int i, y) :: ps) H3)
  refine sv σ env H F c cs _ re I ?_
  have e0 : aCons (eC (.int i)) (aCons mv ms) env cs = (match aCons mv ms env cs with
      | .ok ds c => RA.ok (.int i :: ds) c
      | .exc n fs c => .exc n fs c
      | .stuck => .stuck) := rfl
  rw [e0] at po
  unfold aCons at po
  cases h1 : mv env cs with
  | ok d cs1 =>
    rw [h1] at po
    simp only at po
    intro H1 F1 c1 x1 I1 v rv
    refine sr σ env H1 F1 c1 cs1 _ (re.mono x1.le) I1 ?_
    cases h3 : ms env cs1 with
    | ok ds cs3 =>
      rw [h3] at po
      exact fun H3 F3 c3 x3 I3 ps len nr rps => po H3 F3 c3 (x1.trans x3) I3 _ (by simp [len]) (fun p m => by
        rcases List.mem_cons.mp m with e | m
        · subst e; exact .inl ⟨_, rfl⟩
        · exact nr p m) (.cons (.int i) (rv.mono x3.le) rps)
    | exc n fs cs3 =>
      rw [h3] at po
      have po : ExK (gd X) (fun a b => W a b σ) H F c n fs cs3 := po
      exact ExK.from x1 po
    | stuck => rw [h3] at po; exact po.elim
  | exc n fs cs1 => rw [h1] at po; exact po
  | stuck => rw [h1] at po; exact po.elim
theorem xp_dict (md : Bool) (h : Xps X W pos ks vs ms) (hall : ks.all (·.isSome) = true := by rfl) (hl : ks.length = vs.length := by rfl) (h0 : ks ≠ [] := by simp) (h15 : ks.length ≤ 15 := by decide) : Xp X W (.Dict ks vs pos) (eDict md ms) := by
  obtain ⟨trs, pr, sr⟩ := h
  refine ⟨_, pe_disp pr hall hl h0 h15, fun σ env H F c cs Q re I po p hp => ?_⟩
  have x0 := Xt.side (Xt.refl H F c) (o := .dK []) hp
  refine sr σ env _ F c cs _ re (I.side (I.notMem hp) (I.noF hp)) ?_
  unfold eDict at po
  cases h1 : ms env cs with
  | ok ds cs1 =>
    rw [h1] at po
    simp only [RA.bind_ok] at po
    intro H1 F1 c1 x1 I1 ps len nr rps
    split at po
    · rename_i kds hk
      split at po
      · rename_i h15
        obtain ⟨kvs, e, r⟩ := kvD_rv rps hk
        refine ⟨x1.kp _ _ upd_same (I.notMem hp), kvs, e, by rw [r.length]; exact h15, fun kv m => ?_, ?_⟩
        · rcases nr (kV kv.1, kv.2) (by rw [e]; exact List.mem_map.mpr ⟨kv, m, rfl⟩) with ⟨i, h⟩ | h
          · refine .inl ?_
            obtain ⟨k, v⟩ := kv
            cases k with
            | inl j => exact ⟨j, rfl⟩
            | inr x => cases h
          · exact .inr h
        refine mkD_ok (x0.trans x1) I1 hp (x1.out _ _ upd_same (I.noF hp) (I.notMem hp)) (fun m => ?_) (r.merge .nil) po
        have := x1.new p m (I.notMem hp)
        rw [upd_same] at this; cases this
      · exact po.elim
    · exact po.elim
  | exc n fs cs1 =>
    rw [h1] at po
    have po : ExK (gd X) (fun a b => W a b σ) H F c n fs cs1 := po
    exact ExK.from x0 po
  | stuck => rw [h1] at po; exact po.elim
/-- {} -/
theorem xp_dict0 (md : Bool) : Xp X W (.Dict [] [] pos) (fun _ cs => mkD md cs []) := by
  refine ⟨_, pe_dnewK, fun σ env H F c cs Q re I po p hp => ?_⟩
  exact mkD_ok (Xt.refl _ _ _) I hp (I.noF hp) (I.notMem hp) .nil po
end
end L3

/-! xs.pop() of a list that is a cell -/
namespace L3
open PySem PySem.W PySem.Calls PyProof.Rows L2
def popL (cs : Cells) : D → Option (D × Cells)
  | .loc n => match cs[n]? with
    | some (.lst l) => match l[l.length - 1]? with
      | some d => some (d, cs.set n (.lst l.dropLast))
      | none => none
    | _ => none
  | _ => none
def ePop (mo : ME) : ME := fun env cs => (mo env cs).bind fun o cs1 => match popL cs1 o with
  | some (d, cs2) => .ok d cs2
  | none => .stuck
theorem RVs.dropL {g : Gd} {F : Hp} {c : List Addr} : ∀ {vs : List V} {ds : List D}, RVs g F c vs ds → RVs g F c vs.dropLast ds.dropLast
  | _, _, .nil => .nil
  | _, _, .cons _ .nil => .nil
  | _, _, .cons a (.cons b r) => .cons a (RVs.dropL (.cons b r))
section
variable {X : Cx} {W : WX} {pos apos : Pos} {o : Expr} {mo : ME}
theorem xp_pop (ho : Xp X W o mo) (hbase : attributeBase o "pop" X.env (eval o X.env) = eval o X.env := by rfl) (hline : (apos.endLine == pos.line) = true := by rfl) :
    Xp X W (.Call (.Attribute o "pop" apos) [] [] pos) (ePop mo) := by
  obtain ⟨to, po', so⟩ := ho
  refine ⟨_, pe_bm0 F.plainAttrs_list F.slot_list_pop F.type_list_pop mt_pop po' hbase hline, fun σ env H F c cs Q re I po => ?_⟩
  refine so σ env H F c cs _ re I (PoE.cut po _ fun d cs1 _ H1 F1 c1 v x1 I1 rv po1 => ?_)
  split at po1
  · rename_i d2 cs2 h
    cases d with
    | loc n =>
      simp only [popL] at h
      split at h
      · rename_i l hl
        split at h
        · rename_i d3 hd3
          simp only [Option.some.injEq, Prod.mk.injEq] at h
          obtain ⟨rfl, rfl⟩ := h
          cases rv with
          | loc ha =>
            rename_i a
            obtain ⟨f, vs, hH, r⟩ := I1.cell _ _ _ ha hl
            obtain ⟨y, hy, ry⟩ := r.get hd3
            refine ⟨.inl ⟨rfl, vs, .inl (.inl hH)⟩, a, vs, y, rfl, rfl, hH, ?_, ?_⟩
            · rw [r.length]; exact hy
            · have x4 := Xt.write I1 (o := .lst vs.dropLast) ha
              exact po1 _ _ _ x4 (I1.write ha hl rfl ⟨f, _, upd_same, r.dropL⟩) _ (ry.mono x4.le)
        · cases h
      · cases h
    | _ => simp [popL] at h
  · exact po1.elim
end
section
variable {P : D → Cells → Prop} {X : KX} {env : L3.Env} {cs : Cells} {a : ME}
theorem rp_pop : RP (ePop a env cs) P X = RP (a env cs) (fun d c1 => match popL c1 d with
  | some (x, c2) => P x c2
  | none => False) X := by
  unfold ePop
  rw [RP_bind]
  congr; funext d c1
  cases popL c1 d with
  | none => rfl
  | some p => rfl
end
end L3

namespace L3
open PySem PySem.W PySem.Calls PyProof.Rows L2
/-- xs.pop(i), i a small whole number -/
def popAtL (cs : Cells) : D → D → Option (D × Cells)
  | .loc n, .int i => match cs[n]? with
    | some (.lst l) => if 0 ≤ i ∧ i < 1000 then match l[i.toNat]? with
        | some d => some (d, cs.set n (.lst (l.eraseIdx i.toNat)))
        | none => none
      else none
    | _ => none
  | _, _ => none
def ePopI (mo me : ME) : ME := fun env cs => (mo env cs).bind fun o cs1 => if isLc cs1 o then (me env cs1).bind fun d cs2 => match popAtL cs2 o d with
  | some (d, cs3) => .ok d cs3
  | none => .stuck else .stuck
theorem RVs.eraseI {g : Gd} {F : Hp} {c : List Addr} : ∀ {vs : List V} {ds : List D}, RVs g F c vs ds → ∀ i, RVs g F c (vs.eraseIdx i) (ds.eraseIdx i)
  | _, _, .nil, _ => .nil
  | _, _, .cons _ r, 0 => r
  | _, _, .cons a r, i + 1 => .cons a (RVs.eraseI r i)
section
variable {X : Cx} {W : WX} {pos apos : Pos} {o e : Expr} {mo me : ME}
theorem xp_popI (ho : Xp X W o mo) (he : Xp X W e me)
    (hbase : attributeBase o "pop" X.env (eval o X.env) = eval o X.env := by rfl)
    (hfew : ((backTo pos (starEach [e] X.env)).all (fun x => !x.1) && (backToKw pos (keywordEach [] X.env)).all (fun x => x.1.isSome)
      && decide ([e].length + ([] : List Keyword).length + (if ([] : List Keyword).isEmpty then 0 else 1) < 30)) = true := by rfl)
    (hline : (apos.endLine == pos.line) = true := by rfl) (hs : starEach [e] X.env = (false, eval e X.env) :: starEach [] X.env := by rfl) (hplain : (backTo pos (starEach [] X.env)).any (·.1) = false := by rfl) :
    Xp X W (.Call (.Attribute o "pop" apos) [e] [] pos) (ePopI mo me) := by
  obtain ⟨to, po', so⟩ := ho
  obtain ⟨te, pe', se⟩ := he
  refine ⟨_, pe_bm F.plainAttrs_list F.slot_list_pop F.type_list_pop mt_popAt po' (pa_cons pe' pa_nil hs) hbase hfew hline hs hplain, fun σ env H F c cs Q re I po => ?_⟩
  refine so σ env H F c cs _ re I (PoE.cut po _ fun d cs1 _ H1 F1 c1 v x1 I1 rv po1 => ?_)
  split at po1
  · rename_i hc
    obtain ⟨n, a, l, vs, rfl, rfl, ha, hl, h1, h2⟩ := isLc_at I1 rv hc
    refine ⟨.inl ⟨rfl, vs, .inl (.inl h1)⟩, se σ env H1 F1 c1 cs1 _ (re.mono x1.le) I1 (PoE.cut po1 _ fun d2 cs2 _ H2 F2 c2 v2 x2 I2 rv2 po2 => ?_)⟩
    split at po2
    · rename_i d3 cs3 h3
      cases d2 with
      | int i =>
        simp only [popAtL] at h3
        split at h3
        · rename_i l2 hl2
          split at h3
          · rename_i hi
            split at h3
            · rename_i d4 hd4
              simp only [Option.some.injEq, Prod.mk.injEq] at h3
              obtain ⟨rfl, rfl⟩ := h3
              cases rv2
              have ha2 := x2.le.loc _ _ ha
              obtain ⟨f, vs2, hH, r⟩ := I2.cell _ _ _ ha2 hl2
              obtain ⟨y, hy, ry⟩ := r.get hd4
              have hb : i < (2 : Int) ^ 63 := by have : (1000 : Int) < 2 ^ 63 := by decide
                                                 omega
              have hb0 : -((2 : Int) ^ 63) ≤ i := by have : (0 : Int) < 2 ^ 63 := by decide
                                                     omega
              have hlt : i.toNat < vs2.length := (List.getElem?_eq_some_iff.mp hy).1
              refine ⟨a, vs2, i, i.toNat, y, rfl, rfl, hH, hb0, hb, PySem.StrLaws.seqIndex_nonneg hi.1 (by omega), hy, ?_⟩
              have x4 := Xt.write I2 (o := .lst (vs2.eraseIdx i.toNat)) ha2
              exact po2 _ _ _ x4 (I2.write ha2 hl2 rfl ⟨f, _, upd_same, r.eraseI _⟩) _ (ry.mono x4.le)
            · cases h3
          · cases h3
        · cases h3
      | _ => simp [popAtL] at h3
    · exact po2.elim
  · exact po1.elim
end
section
variable {P : D → Cells → Prop} {X : KX} {env : L3.Env} {cs : Cells} {a b : ME}
theorem rp_popI : RP (ePopI a b env cs) P X = RP (a env cs) (fun d c1 => if isLc c1 d then RP (b env c1) (fun e c2 => match popAtL c2 d e with
  | some (x, c3) => P x c3
  | none => False) X else False) X := by
  unfold ePopI
  rw [RP_bind]
  congr; funext d c1
  by_cases h : isLc c1 d
  · rw [if_pos h, if_pos h, RP_bind]
    congr; funext e c2
    cases popAtL c2 d e with
    | none => rfl
    | some p => rfl
  · rw [if_neg h, if_neg h]; rfl
end
end L3

/-! the program by its places -/
namespace T_k13
open PySem L2 L3
def top (i : Nat) : Stmt := PySem.Challenge.pw_tailnames_k13_wishes_by_form.main.body.getD i (.Pass ⟨0, 0, 0, 0⟩)
/-- what the top has given names -/
structure Tx (K : PySem.W.Frag) (mg : Str → Option Value) : Prop where
  b_all : mg "all" = none
  b_int : mg "int" = none
  b_isinstance : mg "isinstance" = none
  b_len : mg "len" = none
  b_max : mg "max" = none
  b_min : mg "min" = none
  b_range : mg "range" = none
  b_repr : mg "repr" = none
  b_sorted : mg "sorted" = none
  b_str : mg "str" = none
  c_CLIMB : ∃ t, mg "CLIMB" = some (.str "climb" t)
  c_FIGURES : ∃ t, mg "FIGURES" = some (.str "0123456789" t)
  c_GREATEST_WISH : ∃ t, mg "GREATEST_WISH" = some (.int 99999999999999 t)
  c_HASH : ∃ t, mg "HASH" = some (.str "#" t)
  c_LONGEST_MARK : ∃ t, mg "LONGEST_MARK" = some (.int 12 t)
  c_LONGEST_NAME : ∃ t, mg "LONGEST_NAME" = some (.int 200 t)
  c_LONGEST_WISH : ∃ t, mg "LONGEST_WISH" = some (.int 150 t)
  c_MOST_FIGURES : ∃ t, mg "MOST_FIGURES" = some (.int 15 t)
  c_NEST : ∃ t, mg "NEST" = some (.str "nest" t)
  c_SIGNS : ∃ t, mg "SIGNS" = some (.str "abcdefghijklmnopqrstuvwxyz0123456789-_.()" t)
  c_STAR : ∃ t, mg "STAR" = some (.str "*" t)
section
variable {P : Program} {w : World} {K : PySem.W.Frag} {mg : Str → Option Value} {base : Heap}
abbrev st__law_box : Stmt := top 41
theorem sc__law_box : FnScope ["cell"] ["cell"] (defScope st__law_box) := ⟨rfl, rfl, rfl, by decide +kernel, rfl, by decide +kernel, by decide +kernel⟩
noncomputable def mb__law_box : MS := (sRet (eList true (aCons (eBi maxB (aCons (eC (.int 0)) (aCons (op2 subD (eVar 0) (op2 powD (eC (.int 10)) (eC (.int 18)))) aNil))) (aCons (op2 modD (eVar 0) (eC (.int 2147483629))) (aCons (eC (.int 0)) aNil)))))
noncomputable def m__law_box : MF := mDef 1 mb__law_box
theorem ok__law_box {f : Addr} {fd : FuncData} (F : Fun K "_law_box" "_law_box" st__law_box f fd) (T : Tx K mg) (hN : ∃ mm, base.Ns sysModules mm) : FnG P w K mg base 1 f fd ["cell"] (spM ⟨P, w, K, mg⟩ m__law_box 1) := by
  refine fnMG F sc__law_box mb__law_box fun cdv A outer s H E hG hr => ?_
  exact (sms_one (sm_ret (xp_list true (xa_cons (xp_bi (call_max2 rfl) cb_max rfl T.b_max bo_max (xa_cons xp_int (xa_cons (xp_sub (xp_var (i := 0) rfl (.inl rfl)) (xp_pow xp_int xp_int)) xa_nil))) (xa_cons (xp_mod (xp_var (i := 0) rfl (.inl rfl)) xp_int) (xa_cons xp_int xa_nil))))))
abbrev st__law_take : Stmt := top 42
theorem sc__law_take : FnScope ["box", "many", "digit", "one", "two"] ["box", "many"] (defScope st__law_take) := ⟨rfl, rfl, rfl, by decide +kernel, rfl, by decide +kernel, by decide +kernel⟩
noncomputable def mb__law_take : MS := (sSeq (sIf (op2 gtD (op2 ixD (eVar 0) (eC (.int 0))) (eC (.int 0))) (sSeq (sAsg 2 (op2 modD (op2 ixD (eVar 0) (eC (.int 0))) (eVar 1))) (sSeq (sPut (eVar 0) (eC (.int 0)) (op2 fdivD (op2 ixD (eVar 0) (eC (.int 0))) (eVar 1))) (sRet (eVar 2)))) sNx) (sSeq (sPut (eVar 0) (eC (.int 2)) (op2 (addD false) (op2 ixD (eVar 0) (eC (.int 2))) (eC (.int 1)))) (sSeq (sAsg 3 (op2 modD (op2 powD (op2 (addD false) (op2 (addD false) (op2 ixD (eVar 0) (eC (.int 1))) (op2 (mulD false) (eC (.int 7919)) (op2 ixD (eVar 0) (eC (.int 2))))) (eC (.int 33))) (eC (.int 5))) (eC (.int 2147483647)))) (sSeq (sAsg 4 (op2 modD (op2 powD (op2 (addD false) (op2 (addD false) (op2 fdivD (eVar 3) (eC (.int 8))) (op2 (mulD false) (op2 (mulD false) (eC (.int 104729)) (op2 ixD (eVar 0) (eC (.int 2)))) (op2 ixD (eVar 0) (eC (.int 2))))) (eC (.int 11))) (eC (.int 3))) (eC (.int 2147483587)))) (sRet (op2 modD (op2 (addD false) (op2 fdivD (eVar 3) (eC (.int 4))) (op2 (mulD false) (eC (.int 536870909)) (op2 fdivD (eVar 4) (eC (.int 4))))) (eVar 1)))))))
noncomputable def m__law_take : MF := mDef 5 mb__law_take
theorem ok__law_take {f : Addr} {fd : FuncData} (F : Fun K "_law_take" "_law_take" st__law_take f fd) (T : Tx K mg) (hN : ∃ mm, base.Ns sysModules mm) : FnG P w K mg base 1 f fd ["box", "many"] (spM ⟨P, w, K, mg⟩ m__law_take 2) := by
  refine fnMG F sc__law_take mb__law_take fun cdv A outer s H E hG hr => ?_
  exact (sms_cons (sm_if (xt_gt (xp_ix (xp_var (i := 0) rfl (.inl rfl)) xp_int (fun _ _ => rfl)) xp_int) (sms_cons (sm_set (i := 2) sc__law_take.nd rfl (.inl rfl) (xp_mod (xp_ix (xp_var (i := 0) rfl (.inl rfl)) xp_int (fun _ _ => rfl)) (xp_var (i := 1) rfl (.inl rfl))))
    (sms_cons (sm_put (xp_var (i := 0) rfl (.inl rfl)) xp_int (xp_fdiv (xp_ix (xp_var (i := 0) rfl (.inl rfl)) xp_int (fun _ _ => rfl)) (xp_var (i := 1) rfl (.inl rfl))))
    (sms_one (sm_ret (xp_var (i := 2) rfl (.inl rfl)))))) sms_nil)
    (sms_cons (sm_put (xp_var (i := 0) rfl (.inl rfl)) xp_int (xp_add false (xp_ix (xp_var (i := 0) rfl (.inl rfl)) xp_int (fun _ _ => rfl)) xp_int))
    (sms_cons (sm_set (i := 3) sc__law_take.nd rfl (.inl rfl) (xp_mod (xp_pow (xp_add false (xp_add false (xp_ix (xp_var (i := 0) rfl (.inl rfl)) xp_int (fun _ _ => rfl)) (xp_mul false xp_int (xp_ix (xp_var (i := 0) rfl (.inl rfl)) xp_int (fun _ _ => rfl)))) xp_int) xp_int) xp_int))
    (sms_cons (sm_set (i := 4) sc__law_take.nd rfl (.inl rfl) (xp_mod (xp_pow (xp_add false (xp_add false (xp_fdiv (xp_var (i := 3) rfl (.inl rfl)) xp_int) (xp_mul false (xp_mul false xp_int (xp_ix (xp_var (i := 0) rfl (.inl rfl)) xp_int (fun _ _ => rfl))) (xp_ix (xp_var (i := 0) rfl (.inl rfl)) xp_int (fun _ _ => rfl)))) xp_int) xp_int) xp_int))
    (sms_one (sm_ret (xp_mod (xp_add false (xp_fdiv (xp_var (i := 3) rfl (.inl rfl)) xp_int) (xp_mul false xp_int (xp_fdiv (xp_var (i := 4) rfl (.inl rfl)) xp_int))) (xp_var (i := 1) rfl (.inl rfl)))))))))
abbrev st__law_signs : Stmt := top 43
theorem sc__law_signs : FnScope ["box", "many", "k"] ["box", "many"] (defScope st__law_signs) := ⟨rfl, rfl, rfl, by decide +kernel, rfl, by decide +kernel, by decide +kernel⟩
noncomputable def mb__law_signs : MS := (sRet (eM1 joinD (eC (.str [])) (eLc false [2] (tgN 2) (wR1 (eVar 1)) (eC (.bl true)) (op2 ixD (eC (.str [97, 98, 99, 100, 101, 102, 103, 104, 105, 106, 107, 108, 109, 110, 111, 112, 113, 114, 115, 116, 117, 118, 119, 120, 121, 122, 48, 49, 50, 51, 52, 53, 54, 55, 56, 57, 45, 95, 46, 40, 41])) (eCall m__law_take (aCons (eVar 0) (aCons (eC (.int 41)) aNil)))))))
noncomputable def m__law_signs : MF := mDef 3 mb__law_signs
theorem ok__law_signs {f : Addr} {fd : FuncData} (F : Fun K "_law_signs" "_law_signs" st__law_signs f fd) (T : Tx K mg) (hN : ∃ mm, base.Ns sysModules mm) (o__law_take : OwnG P w K mg base 1 "_law_take" 2 m__law_take) : FnG P w K mg base 2 f fd ["box", "many"] (spM ⟨P, w, K, mg⟩ m__law_signs 2) := by
  refine fnMG F sc__law_signs mb__law_signs fun cdv A outer s H E hG hr => ?_
  exact (sms_one (sm_ret (xp_join (xp_str (l := []) (by decide +kernel)) (Xp.w (xp_lc false rfl sc__law_signs.nd (wk_range1 rfl T.b_range (xp_var (i := 1) rfl (.inl rfl))) (own := [("k", 2)]) (blk_ok (N := ["box", "many", "k"]) (sc := defScope st__law_signs) (by decide +kernel)) ⟨fun s H C cl fp => (tgt_name (i := 2) (own := [2]) sc__law_signs.nd rfl (.inl rfl)), fun s H C cl fp => xts_nil, fun s H C cl fp => (xp_ix (xp_str (l := [97, 98, 99, 100, 101, 102, 103, 104, 105, 106, 107, 108, 109, 110, 111, 112, 113, 114, 115, 116, 117, 118, 119, 120, 121, 122, 48, 49, 50, 51, 52, 53, 54, 55, 56, 57, 45, 95, 46, 40, 41]) (by decide +kernel)) (xp_ownG o__law_take hG (hr.mono (by decide)) takes_no (xa_cons (xp_var (i := 0) rfl (.inr (.inl rfl))) (xa_cons xp_int xa_nil)) rfl (len_cons (len_cons len_nil))) (fun _ _ => rfl))⟩)))))
abbrev st__law_mark : Stmt := top 45
theorem sc__law_mark : FnScope ["box", "near", "places"] ["box"] (defScope st__law_mark) := ⟨rfl, rfl, rfl, by decide +kernel, rfl, by decide +kernel, by decide +kernel⟩
noncomputable def mb__law_mark : MS := (sSeq (sIf (op2 eqD (eCall m__law_take (aCons (eVar 0) (aCons (eC (.int 3)) aNil))) (eC (.int 0))) (sRet (op2 ixD (eList false (aCons (eC (.str [42, 45, 35])) (aCons (eC (.str [42, 40, 35, 41])) (aCons (eC (.str [35, 46, 42])) aNil)))) (eCall m__law_take (aCons (eVar 0) (aCons (eC (.int 3)) aNil))))) sNx) (sSeq (sAsg 1 (op2 (addD false) (op2 (addD false) (eCall m__law_signs (aCons (eVar 0) (aCons (eCall m__law_take (aCons (eVar 0) (aCons (eC (.int 3)) aNil))) aNil))) (op2 ixD (eC (.str [97, 98, 122, 45, 95, 46, 40, 41])) (eCall m__law_take (aCons (eVar 0) (aCons (eC (.int 8)) aNil))))) (op2 ixD (eList false (aCons (eC (.str [])) (aCons (eC (.str [48])) (aCons (eC (.str [49, 50])) (aCons (eC (.str [53])) aNil))))) (eCall m__law_take (aCons (eVar 0) (aCons (eC (.int 4)) aNil)))))) (sSeq (sAsg 1 (eIf (op2 eqD (eCall m__law_take (aCons (eVar 0) (aCons (eC (.int 2)) aNil))) (eC (.int 0))) (eVar 1) (op1 revD (eVar 1)))) (sSeq (sAsg 2 (eIf (op2 gtD (eCall m__law_take (aCons (eVar 0) (aCons (eC (.int 3)) aNil))) (eC (.int 0))) (op2 (addD false) (op2 (addD false) (eC (.str [42])) (eVar 1)) (eC (.str [35]))) (op2 (addD false) (op2 (addD false) (eC (.str [35])) (eVar 1)) (eC (.str [42]))))) (sRet (op2 (addD false) (op2 (addD false) (eCall m__law_signs (aCons (eVar 0) (aCons (eCall m__law_take (aCons (eVar 0) (aCons (eC (.int 3)) aNil))) aNil))) (eVar 2)) (eCall m__law_signs (aCons (eVar 0) (aCons (eCall m__law_take (aCons (eVar 0) (aCons (eC (.int 3)) aNil))) aNil)))))))))
noncomputable def m__law_mark : MF := mDef 3 mb__law_mark
theorem ok__law_mark {f : Addr} {fd : FuncData} (F : Fun K "_law_mark" "_law_mark" st__law_mark f fd) (T : Tx K mg) (hN : ∃ mm, base.Ns sysModules mm) (o__law_take : OwnG P w K mg base 1 "_law_take" 2 m__law_take) (o__law_signs : OwnG P w K mg base 2 "_law_signs" 2 m__law_signs) : FnG P w K mg base 3 f fd ["box"] (spM ⟨P, w, K, mg⟩ m__law_mark 1) := by
  refine fnMG F sc__law_mark mb__law_mark fun cdv A outer s H E hG hr => ?_
  exact (sms_cons (sm_if (xt_eq hr.units (Xp.w (xp_ownG o__law_take hG (hr.mono (by decide)) (takes_of rfl rfl rfl rfl) (xa_cons (xp_var (i := 0) rfl (.inl rfl)) (xa_cons xp_int xa_nil)) rfl (len_cons (len_cons len_nil)))) (Xp.w xp_int)) (sms_one (sm_ret (xp_ix (xp_list false (xa_cons (xp_str (l := [42, 45, 35]) (by decide +kernel)) (xa_cons (xp_str (l := [42, 40, 35, 41]) (by decide +kernel)) (xa_cons (xp_str (l := [35, 46, 42]) (by decide +kernel)) xa_nil)))) (xp_ownG o__law_take hG (hr.mono (by decide)) (takes_of rfl rfl rfl rfl) (xa_cons (xp_var (i := 0) rfl (.inl rfl)) (xa_cons xp_int xa_nil)) rfl (len_cons (len_cons len_nil))) (fun _ _ => rfl)))) sms_nil)
    (sms_cons (sm_set (i := 1) sc__law_mark.nd rfl (.inl rfl) (xp_add false (xp_add false (xp_ownG o__law_signs hG (hr.mono (by decide)) (takes_of rfl rfl rfl rfl) (xa_cons (xp_var (i := 0) rfl (.inl rfl)) (xa_cons (xp_ownG o__law_take hG (hr.mono (by decide)) (takes_of rfl rfl rfl rfl) (xa_cons (xp_var (i := 0) rfl (.inl rfl)) (xa_cons xp_int xa_nil)) rfl (len_cons (len_cons len_nil))) xa_nil)) rfl (len_cons (len_cons len_nil))) (xp_ix (xp_str (l := [97, 98, 122, 45, 95, 46, 40, 41]) (by decide +kernel)) (xp_ownG o__law_take hG (hr.mono (by decide)) (takes_of rfl rfl rfl rfl) (xa_cons (xp_var (i := 0) rfl (.inl rfl)) (xa_cons xp_int xa_nil)) rfl (len_cons (len_cons len_nil))) (fun _ _ => rfl))) (xp_ix (xp_list false (xa_cons (xp_str (l := []) (by decide +kernel)) (xa_cons (xp_str (l := [48]) (by decide +kernel)) (xa_cons (xp_str (l := [49, 50]) (by decide +kernel)) (xa_cons (xp_str (l := [53]) (by decide +kernel)) xa_nil))))) (xp_ownG o__law_take hG (hr.mono (by decide)) (takes_of rfl rfl rfl rfl) (xa_cons (xp_var (i := 0) rfl (.inl rfl)) (xa_cons xp_int xa_nil)) rfl (len_cons (len_cons len_nil))) (fun _ _ => rfl))))
    (sms_cons (sm_set (i := 1) sc__law_mark.nd rfl (.inl rfl) (xp_if (xt_eq hr.units (Xp.w (xp_ownG o__law_take hG (hr.mono (by decide)) (takes_of rfl rfl rfl rfl) (xa_cons (xp_var (i := 0) rfl (.inl rfl)) (xa_cons xp_int xa_nil)) rfl (len_cons (len_cons len_nil)))) (Xp.w xp_int)) (xp_var (i := 1) rfl (.inl rfl)) (xp_rev (xp_var (i := 1) rfl (.inl rfl)))))
    (sms_cons (sm_set (i := 2) sc__law_mark.nd rfl (.inl rfl) (xp_if (xt_gt (xp_ownG o__law_take hG (hr.mono (by decide)) (takes_of rfl rfl rfl rfl) (xa_cons (xp_var (i := 0) rfl (.inl rfl)) (xa_cons xp_int xa_nil)) rfl (len_cons (len_cons len_nil))) xp_int) (xp_add false (xp_add false (xp_str (l := [42]) (by decide +kernel)) (xp_var (i := 1) rfl (.inl rfl))) (xp_str (l := [35]) (by decide +kernel))) (xp_add false (xp_add false (xp_str (l := [35]) (by decide +kernel)) (xp_var (i := 1) rfl (.inl rfl))) (xp_str (l := [42]) (by decide +kernel)))))
    (sms_one (sm_ret (xp_add false (xp_add false (xp_ownG o__law_signs hG (hr.mono (by decide)) (takes_of rfl rfl rfl rfl) (xa_cons (xp_var (i := 0) rfl (.inl rfl)) (xa_cons (xp_ownG o__law_take hG (hr.mono (by decide)) (takes_of rfl rfl rfl rfl) (xa_cons (xp_var (i := 0) rfl (.inl rfl)) (xa_cons xp_int xa_nil)) rfl (len_cons (len_cons len_nil))) xa_nil)) rfl (len_cons (len_cons len_nil))) (xp_var (i := 2) rfl (.inl rfl))) (xp_ownG o__law_signs hG (hr.mono (by decide)) (takes_of rfl rfl rfl rfl) (xa_cons (xp_var (i := 0) rfl (.inl rfl)) (xa_cons (xp_ownG o__law_take hG (hr.mono (by decide)) (takes_of rfl rfl rfl rfl) (xa_cons (xp_var (i := 0) rfl (.inl rfl)) (xa_cons xp_int xa_nil)) rfl (len_cons (len_cons len_nil))) xa_nil)) rfl (len_cons (len_cons len_nil))))))))))
abbrev st__law_put : Stmt := top 46
theorem sc__law_put : FnScope ["mark", "name", "number"] ["mark", "name", "number"] (defScope st__law_put) := ⟨rfl, rfl, rfl, by decide +kernel, rfl, by decide +kernel, by decide +kernel⟩
noncomputable def mb__law_put : MS := (sRet (eRpl [35] (eRpl [42] (eVar 0) (eVar 1)) (eStrOf (eVar 2))))
noncomputable def m__law_put : MF := mDef 3 mb__law_put
theorem ok__law_put {f : Addr} {fd : FuncData} (F : Fun K "_law_put" "_law_put" st__law_put f fd) (T : Tx K mg) (hN : ∃ mm, base.Ns sysModules mm) : FnG P w K mg base 1 f fd ["mark", "name", "number"] (spM ⟨P, w, K, mg⟩ m__law_put 3) := by
  refine fnMG F sc__law_put mb__law_put fun cdv A outer s H E hG hr => ?_
  exact (sms_one (sm_ret (xp_repl (ly := [35]) (by decide +kernel) (xp_repl (ly := [42]) (by decide +kernel) (xp_var (i := 0) rfl (.inl rfl)) (xd_var (i := 1) rfl (.inl rfl))) (xd_strOf rfl T.b_str (xd_var (i := 2) rfl (.inl rfl))))))
abbrev st__law_cell : Stmt := top 40
theorem sc__law_cell : FnScope ["script", "k"] ["script", "k"] (defScope st__law_cell) := ⟨rfl, rfl, rfl, by decide +kernel, rfl, by decide +kernel, by decide +kernel⟩
noncomputable def mb__law_cell : MS := (sSeq (sIf (op2 ltD (eVar 1) (eBi lenB (aCons (eVar 0) aNil))) (sRet (op2 ixD (eVar 0) (eVar 1))) sNx) (sRet (op2 (addD false) (op2 (mulD false) (eC (.int 256203161)) (eVar 1)) (eC (.int 33)))))
noncomputable def m__law_cell : MF := mDef 2 mb__law_cell
theorem ok__law_cell {f : Addr} {fd : FuncData} (F : Fun K "_law_cell" "_law_cell" st__law_cell f fd) (T : Tx K mg) (hN : ∃ mm, base.Ns sysModules mm) : FnG P w K mg base 1 f fd ["script", "k"] (spM ⟨P, w, K, mg⟩ m__law_cell 2) := by
  refine fnMG F sc__law_cell mb__law_cell fun cdv A outer s H E hG hr => ?_
  exact (sms_cons (sm_if (xt_lt (xp_var (i := 1) rfl (.inl rfl)) (xp_bi call_len cb_len rfl T.b_len bo_len (xa_cons (xp_var (i := 0) rfl (.inl rfl)) xa_nil))) (sms_one (sm_ret (xp_ix (xp_var (i := 0) rfl (.inl rfl)) (xp_var (i := 1) rfl (.inl rfl)) (fun _ _ => rfl)))) sms_nil)
    (sms_one (sm_ret (xp_add false (xp_mul false xp_int (xp_var (i := 1) rfl (.inl rfl))) xp_int))))
abbrev st__law_stem : Stmt := top 44
theorem sc__law_stem : FnScope ["box"] ["box"] (defScope st__law_stem) := ⟨rfl, rfl, rfl, by decide +kernel, rfl, by decide +kernel, by decide +kernel⟩
noncomputable def mb__law_stem : MS := (sRet (eCall m__law_signs (aCons (eVar 0) (aCons (op2 (addD false) (eC (.int 1)) (eCall m__law_take (aCons (eVar 0) (aCons (op2 ixD (eList false (aCons (eC (.int 2)) (aCons (eC (.int 6)) (aCons (eC (.int 13)) aNil)))) (eCall m__law_take (aCons (eVar 0) (aCons (eC (.int 3)) aNil)))) aNil)))) aNil))))
noncomputable def m__law_stem : MF := mDef 1 mb__law_stem
theorem ok__law_stem {f : Addr} {fd : FuncData} (F : Fun K "_law_stem" "_law_stem" st__law_stem f fd) (T : Tx K mg) (hN : ∃ mm, base.Ns sysModules mm) (o__law_signs : OwnG P w K mg base 2 "_law_signs" 2 m__law_signs) (o__law_take : OwnG P w K mg base 1 "_law_take" 2 m__law_take) : FnG P w K mg base 3 f fd ["box"] (spM ⟨P, w, K, mg⟩ m__law_stem 1) := by
  refine fnMG F sc__law_stem mb__law_stem fun cdv A outer s H E hG hr => ?_
  exact (sms_one (sm_ret (xp_ownG o__law_signs hG (hr.mono (by decide)) (takes_of rfl rfl rfl rfl) (xa_cons (xp_var (i := 0) rfl (.inl rfl)) (xa_cons (xp_add false xp_int (xp_ownG o__law_take hG (hr.mono (by decide)) (takes_of rfl rfl rfl rfl) (xa_cons (xp_var (i := 0) rfl (.inl rfl)) (xa_cons (xp_ix (xp_list false (xa_cons xp_int (xa_cons xp_int (xa_cons xp_int xa_nil)))) (xp_ownG o__law_take hG (hr.mono (by decide)) (takes_of rfl rfl rfl rfl) (xa_cons (xp_var (i := 0) rfl (.inl rfl)) (xa_cons xp_int xa_nil)) rfl (len_cons (len_cons len_nil))) (fun _ _ => rfl)) xa_nil)) rfl (len_cons (len_cons len_nil)))) xa_nil)) rfl (len_cons (len_cons len_nil)))))
abbrev st__law_odd : Stmt := top 48
theorem sc__law_odd : FnScope ["box", "some"] ["box"] (defScope st__law_odd) := ⟨rfl, rfl, rfl, by decide +kernel, rfl, by decide +kernel, by decide +kernel⟩
noncomputable def mb__law_odd : MS := (sSeq (sAsg 1 (eList false (aCons (eC .non) (aCons (eC (.bl true)) (aCons (eC (.bl false)) (aCons (eC (.int 0)) (aCons (eC (.int 2)) (aCons (op1 negD (eC (.int 1))) (aCons (eC (.int 201)) (aCons (op2 powD (eC (.int 10)) (eC (.int 29))) (aCons (op2 subD (eC (.int 0)) (op2 powD (eC (.int 10)) (eC (.int 29)))) (aCons (eC (.str [])) (aCons (eC (.str [97])) (aCons (eC (.str [65])) (aCons (eC (.str [97, 32, 98])) (aCons (eC (.str [97, 45, 50])) (aCons (eC (.str [42, 45, 35])) (aCons (eC (.str [42, 35])) (aCons (eC (.str [110, 101, 115, 116])) aNil))))))))))))))))))) (sSeq (sAsg 1 (op2 (addD false) (eVar 1) (eList false (aCons (eList false aNil) (aCons (eList false (aCons (eC (.str [97])) aNil)) (aCons (eList false (aCons (eC (.str [97])) (aCons (eC (.str [97])) aNil))) (aCons (eList false (aCons (eC (.str [65])) aNil)) (aCons (eTup aNil) (aCons (eTup (aCons (eC (.str [97])) aNil)) (aCons (eTup (aCons (eC (.str [97])) (aCons (eC (.str [97])) aNil))) (aCons (eTup (aCons (eC (.str [97])) (aCons (eC (.int 2)) aNil))) (aCons (eTup (aCons (eC (.int 2)) (aCons (eC (.str [97])) aNil))) (aCons (fun _ cs => mkD false cs []) (aCons (eDict false (aCons (eC (.str [97])) (aCons (eC (.int 2)) aNil))) (aCons (eDict false (aCons (eC (.int 7)) (aCons (eList false (aCons (eC (.str [97])) aNil)) aNil))) aNil))))))))))))))) (sSeq (sAsg 1 (op2 (addD false) (eVar 1) (eList false (aCons (eList false (aCons (eList false (aCons (eC (.str [97])) aNil)) aNil)) (aCons (eList false (aCons (eTup (aCons (eC (.str [97])) (aCons (eC (.str [97])) aNil))) aNil)) (aCons (op2 (mulD false) (eC (.str [97])) (eC (.int 151))) (aCons (op2 (mulD false) (eC (.str [97])) (eC (.int 201))) (aCons (eC (.str [97, 42])) (aCons (eC (.str [97, 98, 35])) (aCons (eC (.int 15)) (aCons (eC (.str [48, 50])) aNil))))))))))) (sRet (op2 ixD (eVar 1) (eCall m__law_take (aCons (eVar 0) (aCons (eBi lenB (aCons (eVar 1) aNil)) aNil))))))))
noncomputable def m__law_odd : MF := mDef 2 mb__law_odd
theorem ok__law_odd {f : Addr} {fd : FuncData} (F : Fun K "_law_odd" "_law_odd" st__law_odd f fd) (T : Tx K mg) (hN : ∃ mm, base.Ns sysModules mm) (o__law_take : OwnG P w K mg base 1 "_law_take" 2 m__law_take) : FnG P w K mg base 2 f fd ["box"] (spM ⟨P, w, K, mg⟩ m__law_odd 1) := by
  refine fnMG F sc__law_odd mb__law_odd fun cdv A outer s H E hG hr => ?_
  exact (sms_cons (sm_set (i := 1) sc__law_odd.nd rfl (.inl rfl) (xp_list false (xa_cons xp_non (xa_cons xp_bl (xa_cons xp_bl (xa_cons xp_int (xa_cons xp_int (xa_cons (xp_neg xp_int) (xa_cons xp_int (xa_cons (xp_pow xp_int xp_int) (xa_cons (xp_sub xp_int (xp_pow xp_int xp_int)) (xa_cons (xp_str (l := []) (by decide +kernel)) (xa_cons (xp_str (l := [97]) (by decide +kernel)) (xa_cons (xp_str (l := [65]) (by decide +kernel)) (xa_cons (xp_str (l := [97, 32, 98]) (by decide +kernel)) (xa_cons (xp_str (l := [97, 45, 50]) (by decide +kernel)) (xa_cons (xp_str (l := [42, 45, 35]) (by decide +kernel)) (xa_cons (xp_str (l := [42, 35]) (by decide +kernel)) (xa_cons (xp_str (l := [110, 101, 115, 116]) (by decide +kernel)) xa_nil)))))))))))))))))))
    (sms_cons (sm_set (i := 1) sc__law_odd.nd rfl (.inl rfl) (xp_add false (xp_var (i := 1) rfl (.inl rfl)) (xp_list false (xa_cons (xp_list false xa_nil) (xa_cons (xp_list false (xa_cons (xp_str (l := [97]) (by decide +kernel)) xa_nil)) (xa_cons (xp_list false (xa_cons (xp_str (l := [97]) (by decide +kernel)) (xa_cons (xp_str (l := [97]) (by decide +kernel)) xa_nil))) (xa_cons (xp_list false (xa_cons (xp_str (l := [65]) (by decide +kernel)) xa_nil)) (xa_cons (xp_tup xa_nil) (xa_cons (xp_tup (xa_cons (xp_str (l := [97]) (by decide +kernel)) xa_nil)) (xa_cons (xp_tup (xa_cons (xp_str (l := [97]) (by decide +kernel)) (xa_cons (xp_str (l := [97]) (by decide +kernel)) xa_nil))) (xa_cons (xp_tup (xa_cons (xp_str (l := [97]) (by decide +kernel)) (xa_cons xp_int xa_nil))) (xa_cons (xp_tup (xa_cons xp_int (xa_cons (xp_str (l := [97]) (by decide +kernel)) xa_nil))) (xa_cons (xp_dict0 false) (xa_cons (xp_dict false (xps_consI (xp_str (l := [97]) (by decide +kernel)) xps_nil)) (xa_cons (xp_dict false (xps_consK (xp_list false (xa_cons (xp_str (l := [97]) (by decide +kernel)) xa_nil)) xps_nil)) xa_nil)))))))))))))))
    (sms_cons (sm_set (i := 1) sc__law_odd.nd rfl (.inl rfl) (xp_add false (xp_var (i := 1) rfl (.inl rfl)) (xp_list false (xa_cons (xp_list false (xa_cons (xp_list false (xa_cons (xp_str (l := [97]) (by decide +kernel)) xa_nil)) xa_nil)) (xa_cons (xp_list false (xa_cons (xp_tup (xa_cons (xp_str (l := [97]) (by decide +kernel)) (xa_cons (xp_str (l := [97]) (by decide +kernel)) xa_nil))) xa_nil)) (xa_cons (xp_mul false (xp_str (l := [97]) (by decide +kernel)) xp_int) (xa_cons (xp_mul false (xp_str (l := [97]) (by decide +kernel)) xp_int) (xa_cons (xp_str (l := [97, 42]) (by decide +kernel)) (xa_cons (xp_str (l := [97, 98, 35]) (by decide +kernel)) (xa_cons xp_int (xa_cons (xp_str (l := [48, 50]) (by decide +kernel)) xa_nil)))))))))))
    (sms_one (sm_ret (xp_ix (xp_var (i := 1) rfl (.inl rfl)) (xp_ownG o__law_take hG (hr.mono (by decide)) (takes_of rfl rfl rfl rfl) (xa_cons (xp_var (i := 0) rfl (.inl rfl)) (xa_cons (xp_bi call_len cb_len rfl T.b_len bo_len (xa_cons (xp_var (i := 1) rfl (.inl rfl)) xa_nil)) xa_nil)) rfl (len_cons (len_cons len_nil))) (fun _ _ => rfl)))))))
abbrev st_need_rule : Stmt := top 37
theorem sc_need_rule : FnScope ["rule"] ["rule"] (defScope st_need_rule) := ⟨rfl, rfl, rfl, by decide +kernel, rfl, by decide +kernel, by decide +kernel⟩
noncomputable def mb_need_rule : MS := (sIf (eNot (op1 (isoD "Rule") (eVar 0))) sStuck sNx)
noncomputable def m_need_rule : MF := mDef 1 mb_need_rule
theorem ok_need_rule {f : Addr} {fd : FuncData} (F : Fun K "need_rule" "need_rule" st_need_rule f fd) (T : Tx K mg) (hN : ∃ mm, base.Ns sysModules mm) (n_Rule : InsF K mg "Rule") : FnG P w K mg base 1 f fd ["rule"] (spM ⟨P, w, K, mg⟩ m_need_rule 1) := by
  refine fnMG F sc_need_rule mb_need_rule fun cdv A outer s H E hG hr => ?_
  exact (sms_one (sm_if (xt_not (xt_val (xp_iso n_Rule rfl T.b_isinstance rfl (xp_var (i := 0) rfl (.inl rfl))))) (sms_one sm_stuck) sms_nil))
abbrev st_is_mark : Stmt := top 19
theorem sc_is_mark : FnScope ["value", "sign"] ["value"] (defScope st_is_mark) := ⟨rfl, rfl, rfl, by decide +kernel, rfl, by decide +kernel, by decide +kernel⟩
noncomputable def mb_is_mark : MS := (sSeq (sIf (eOr (eNot (op1 (isiD "str") (eVar 0))) (op2 gtD (eBi lenB (aCons (eVar 0) aNil)) (eC (.int 12)))) (sRet (eC (.bl false))) sNx) (sSeq (sIf (eOr (op2 neD (eM1 cntD (eVar 0) (eC (.str [42]))) (eC (.int 1))) (op2 neD (eM1 cntD (eVar 0) (eC (.str [35]))) (eC (.int 1)))) (sRet (eC (.bl false))) sNx) (sRet (eBi allB (aCons (eLc false [1] (tgN 1) (wSeq (eVar 0)) (eC (.bl true)) (eOr (op2 inD (eVar 1) (eC (.str [97, 98, 99, 100, 101, 102, 103, 104, 105, 106, 107, 108, 109, 110, 111, 112, 113, 114, 115, 116, 117, 118, 119, 120, 121, 122, 48, 49, 50, 51, 52, 53, 54, 55, 56, 57, 45, 95, 46, 40, 41]))) (op2 inD (eVar 1) (eTup (aCons (eC (.str [42])) (aCons (eC (.str [35])) aNil)))))) aNil)))))
noncomputable def m_is_mark : MF := mDef 2 mb_is_mark
theorem ok_is_mark {f : Addr} {fd : FuncData} (F : Fun K "is_mark" "is_mark" st_is_mark f fd) (T : Tx K mg) (hN : ∃ mm, base.Ns sysModules mm) : FnG P w K mg base 1 f fd ["value"] (spM ⟨P, w, K, mg⟩ m_is_mark 1) := by
  refine fnMG F sc_is_mark mb_is_mark fun cdv A outer s H E hG hr => ?_
  obtain ⟨tk_HASH, g_HASH⟩ := T.c_HASH
  obtain ⟨tk_LONGEST_MARK, g_LONGEST_MARK⟩ := T.c_LONGEST_MARK
  obtain ⟨tk_SIGNS, g_SIGNS⟩ := T.c_SIGNS
  obtain ⟨tk_STAR, g_STAR⟩ := T.c_STAR
  exact (sms_cons (sm_if (Xw.t (xw_or (xt_not (xt_val (xp_isi rfl T.b_isinstance rfl T.b_str bo_str (xp_var (i := 0) rfl (.inl rfl))))) (xw_or1 (xt_gt (xp_bi call_len cb_len rfl T.b_len bo_len (xa_cons (xp_var (i := 0) rfl (.inl rfl)) xa_nil)) (xp_globI rfl g_LONGEST_MARK))))) (sms_one (sm_ret xp_bl)) sms_nil)
    (sms_cons (sm_if (Xw.t (xw_or (xt_ne hr.units (Xp.w (xp_cnt (xp_var (i := 0) rfl (.inl rfl)) (xp_globS (l := [42]) rfl g_STAR (by decide +kernel)))) (Xp.w xp_int)) (xw_or1 (xt_ne hr.units (Xp.w (xp_cnt (xp_var (i := 0) rfl (.inl rfl)) (xp_globS (l := [35]) rfl g_HASH (by decide +kernel)))) (Xp.w xp_int))))) (sms_one (sm_ret xp_bl)) sms_nil)
    (sms_one (sm_ret (xp_bi (cr_all rfl) cb_all rfl T.b_all bo_all (xa_cons (xp_lc false rfl sc_is_mark.nd (wk_seq (xp_var (i := 0) rfl (.inl rfl))) (own := [("sign", 1)]) (blk_ok (N := ["value", "sign"]) (sc := defScope st_is_mark) (by decide +kernel)) ⟨fun s H C cl fp => (tgt_name (i := 1) (own := [1]) sc_is_mark.nd rfl (.inl rfl)), fun s H C cl fp => xts_nil, fun s H C cl fp => (xp_or (p2 := ⟨0, 0, 0, 0⟩) (xp_in (Xp.w (xp_var (i := 1) rfl (.inl rfl))) (xp_globS (l := [97, 98, 99, 100, 101, 102, 103, 104, 105, 106, 107, 108, 109, 110, 111, 112, 113, 114, 115, 116, 117, 118, 119, 120, 121, 122, 48, 49, 50, 51, 52, 53, 54, 55, 56, 57, 45, 95, 46, 40, 41]) rfl g_SIGNS (by decide +kernel)) rfl) (xp_one (xp_inGG (l1 := [42]) (l2 := [35]) (by decide +kernel) (by decide +kernel) (Xp.w (xp_var (i := 1) rfl (.inl rfl))) rfl g_STAR rfl g_HASH)))⟩) xa_nil))))))
abbrev st_need_mark : Stmt := top 20
theorem sc_need_mark : FnScope ["mark"] ["mark"] (defScope st_need_mark) := ⟨rfl, rfl, rfl, by decide +kernel, rfl, by decide +kernel, by decide +kernel⟩
noncomputable def mb_need_mark : MS := (sIf (eNot (eCall m_is_mark (aCons (eVar 0) aNil))) sStuck sNx)
noncomputable def m_need_mark : MF := mDef 1 mb_need_mark
theorem ok_need_mark {f : Addr} {fd : FuncData} (F : Fun K "need_mark" "need_mark" st_need_mark f fd) (T : Tx K mg) (hN : ∃ mm, base.Ns sysModules mm) (o_is_mark : OwnG P w K mg base 1 "is_mark" 1 m_is_mark) : FnG P w K mg base 2 f fd ["mark"] (spM ⟨P, w, K, mg⟩ m_need_mark 1) := by
  refine fnMG F sc_need_mark mb_need_mark fun cdv A outer s H E hG hr => ?_
  exact (sms_one (sm_if (xt_not (xt_val (xp_ownG o_is_mark hG (hr.mono (by decide)) (takes_of rfl rfl rfl rfl) (xa_cons (xp_var (i := 0) rfl (.inl rfl)) xa_nil) rfl (len_cons len_nil)))) (sms_one sm_stuck) sms_nil))
abbrev st_parts : Stmt := top 23
theorem sc_parts : FnScope ["mark", "one", "other"] ["mark"] (defScope st_parts) := ⟨rfl, rfl, rfl, by decide +kernel, rfl, by decide +kernel, by decide +kernel⟩
noncomputable def mb_parts : MS := (sSeq (sAsg 1 (eBi minB (aCons (eM1 sixD (eVar 0) (eC (.str [42]))) (aCons (eM1 sixD (eVar 0) (eC (.str [35]))) aNil)))) (sSeq (sAsg 2 (eBi maxB (aCons (eM1 sixD (eVar 0) (eC (.str [42]))) (aCons (eM1 sixD (eVar 0) (eC (.str [35]))) aNil)))) (sRet (eTup (aCons (eSl false (eVar 0) oNone (oSome (eVar 1))) (aCons (eSl false (eVar 0) (oSome (op2 (addD false) (eVar 1) (eC (.int 1)))) (oSome (eVar 2))) (aCons (eSl false (eVar 0) (oSome (op2 (addD false) (eVar 2) (eC (.int 1)))) oNone) aNil)))))))
noncomputable def m_parts : MF := mDef 3 mb_parts
theorem ok_parts {f : Addr} {fd : FuncData} (F : Fun K "parts" "parts" st_parts f fd) (T : Tx K mg) (hN : ∃ mm, base.Ns sysModules mm) : FnG P w K mg base 1 f fd ["mark"] (spM ⟨P, w, K, mg⟩ m_parts 1) := by
  refine fnMG F sc_parts mb_parts fun cdv A outer s H E hG hr => ?_
  obtain ⟨tk_HASH, g_HASH⟩ := T.c_HASH
  obtain ⟨tk_STAR, g_STAR⟩ := T.c_STAR
  exact (sms_cons (sm_set (i := 1) sc_parts.nd rfl (.inl rfl) (xp_bi (call_min2 rfl) cb_min rfl T.b_min bo_min (xa_cons (xp_six (xp_var (i := 0) rfl (.inl rfl)) (xp_globS (l := [42]) rfl g_STAR (by decide +kernel))) (xa_cons (xp_six (xp_var (i := 0) rfl (.inl rfl)) (xp_globS (l := [35]) rfl g_HASH (by decide +kernel))) xa_nil))))
    (sms_cons (sm_set (i := 2) sc_parts.nd rfl (.inl rfl) (xp_bi (call_max2 rfl) cb_max rfl T.b_max bo_max (xa_cons (xp_six (xp_var (i := 0) rfl (.inl rfl)) (xp_globS (l := [42]) rfl g_STAR (by decide +kernel))) (xa_cons (xp_six (xp_var (i := 0) rfl (.inl rfl)) (xp_globS (l := [35]) rfl g_HASH (by decide +kernel))) xa_nil))))
    (sms_one (sm_ret (xp_tup (xa_cons (xp_sl false (xp_var (i := 0) rfl (.inl rfl)) xo_none (xo_some (xp_var (i := 1) rfl (.inl rfl)))) (xa_cons (xp_sl false (xp_var (i := 0) rfl (.inl rfl)) (xo_some (xp_add false (xp_var (i := 1) rfl (.inl rfl)) xp_int)) (xo_some (xp_var (i := 2) rfl (.inl rfl)))) (xa_cons (xp_sl false (xp_var (i := 0) rfl (.inl rfl)) (xo_some (xp_add false (xp_var (i := 2) rfl (.inl rfl)) xp_int)) xo_none) xa_nil))))))))
abbrev st_is_clear : Stmt := top 24
theorem sc_is_clear : FnScope ["mark", "sign"] ["mark"] (defScope st_is_clear) := ⟨rfl, rfl, rfl, by decide +kernel, rfl, by decide +kernel, by decide +kernel⟩
noncomputable def mb_is_clear : MS := (sSeq (sDrop (eCall m_need_mark (aCons (eVar 0) aNil))) (sRet (eNot (eBi allB (aCons (eLc false [1] (tgN 1) (wSeq (op2 ixD (eCall m_parts (aCons (eVar 0) aNil)) (eC (.int 1)))) (eC (.bl true)) (op2 inD (eVar 1) (eC (.str [48, 49, 50, 51, 52, 53, 54, 55, 56, 57])))) aNil)))))
noncomputable def m_is_clear : MF := mDef 2 mb_is_clear
theorem ok_is_clear {f : Addr} {fd : FuncData} (F : Fun K "is_clear" "is_clear" st_is_clear f fd) (T : Tx K mg) (hN : ∃ mm, base.Ns sysModules mm) (o_need_mark : OwnG P w K mg base 2 "need_mark" 1 m_need_mark) (o_parts : OwnG P w K mg base 1 "parts" 1 m_parts) : FnG P w K mg base 3 f fd ["mark"] (spM ⟨P, w, K, mg⟩ m_is_clear 1) := by
  refine fnMG F sc_is_clear mb_is_clear fun cdv A outer s H E hG hr => ?_
  obtain ⟨tk_FIGURES, g_FIGURES⟩ := T.c_FIGURES
  exact (sms_cons (sm_expr (xp_ownG o_need_mark hG (hr.mono (by decide)) (takes_of rfl rfl rfl rfl) (xa_cons (xp_var (i := 0) rfl (.inl rfl)) xa_nil) rfl (len_cons len_nil)))
    (sms_one (sm_ret (xp_not (xp_bi (cr_all rfl) cb_all rfl T.b_all bo_all (xa_cons (xp_lc false rfl sc_is_clear.nd (wk_seq (xp_ix (xp_ownG o_parts hG (hr.mono (by decide)) (takes_of rfl rfl rfl rfl) (xa_cons (xp_var (i := 0) rfl (.inl rfl)) xa_nil) rfl (len_cons len_nil)) xp_int (fun _ _ => rfl))) (own := [("sign", 1)]) (blk_ok (N := ["mark", "sign"]) (sc := defScope st_is_clear) (by decide +kernel)) ⟨fun s H C cl fp => (tgt_name (i := 1) (own := [1]) sc_is_clear.nd rfl (.inl rfl)), fun s H C cl fp => xts_nil, fun s H C cl fp => (xp_in (Xp.w (xp_var (i := 1) rfl (.inl rfl))) (xp_globS (l := [48, 49, 50, 51, 52, 53, 54, 55, 56, 57]) rfl g_FIGURES (by decide +kernel)) rfl)⟩) xa_nil))))))
abbrev st_name_first : Stmt := top 22
theorem sc_name_first : FnScope ["mark"] ["mark"] (defScope st_name_first) := ⟨rfl, rfl, rfl, by decide +kernel, rfl, by decide +kernel, by decide +kernel⟩
noncomputable def mb_name_first : MS := (sRet (op2 ltD (eM1 sixD (eVar 0) (eC (.str [42]))) (eM1 sixD (eVar 0) (eC (.str [35])))))
noncomputable def m_name_first : MF := mDef 1 mb_name_first
theorem ok_name_first {f : Addr} {fd : FuncData} (F : Fun K "name_first" "name_first" st_name_first f fd) (T : Tx K mg) (hN : ∃ mm, base.Ns sysModules mm) : FnG P w K mg base 1 f fd ["mark"] (spM ⟨P, w, K, mg⟩ m_name_first 1) := by
  refine fnMG F sc_name_first mb_name_first fun cdv A outer s H E hG hr => ?_
  obtain ⟨tk_HASH, g_HASH⟩ := T.c_HASH
  obtain ⟨tk_STAR, g_STAR⟩ := T.c_STAR
  exact (sms_one (sm_ret (xp_lt (xp_six (xp_var (i := 0) rfl (.inl rfl)) (xp_globS (l := [42]) rfl g_STAR (by decide +kernel))) (xp_six (xp_var (i := 0) rfl (.inl rfl)) (xp_globS (l := [35]) rfl g_HASH (by decide +kernel))))))
abbrev st_two_readings : Stmt := top 25
theorem sc_two_readings : FnScope ["mark", "between", "other"] ["mark"] (defScope st_two_readings) := ⟨rfl, rfl, rfl, by decide +kernel, rfl, by decide +kernel, by decide +kernel⟩
noncomputable def mb_two_readings : MS := (sSeq (sIf (eCall m_is_clear (aCons (eVar 0) aNil)) (sRet (eC .non)) sNx) (sSeq (sAsg 1 (op2 ixD (eCall m_parts (aCons (eVar 0) aNil)) (eC (.int 1)))) (sSeq (sAsg 2 (eIf (eCall m_name_first (aCons (eVar 0) aNil)) (op2 (addD false) (op2 (addD false) (eC (.str [97])) (eVar 1)) (eC (.str [50]))) (op2 (addD false) (op2 (addD false) (eC (.str [50])) (eVar 1)) (eC (.str [97]))))) (sRet (eTup (aCons (eTup (aCons (eC (.str [97])) (aCons (eBi intB (aCons (op2 (addD false) (op2 (addD false) (eC (.str [50])) (eVar 1)) (eC (.str [50]))) aNil)) aNil))) (aCons (eTup (aCons (eVar 2) (aCons (eC (.int 2)) aNil))) aNil)))))))
noncomputable def m_two_readings : MF := mDef 3 mb_two_readings
theorem ok_two_readings {f : Addr} {fd : FuncData} (F : Fun K "two_readings" "two_readings" st_two_readings f fd) (T : Tx K mg) (hN : ∃ mm, base.Ns sysModules mm) (o_is_clear : OwnG P w K mg base 3 "is_clear" 1 m_is_clear) (o_parts : OwnG P w K mg base 1 "parts" 1 m_parts) (o_name_first : OwnG P w K mg base 1 "name_first" 1 m_name_first) : FnG P w K mg base 4 f fd ["mark"] (spM ⟨P, w, K, mg⟩ m_two_readings 1) := by
  refine fnMG F sc_two_readings mb_two_readings fun cdv A outer s H E hG hr => ?_
  exact (sms_cons (sm_if (xt_val (xp_ownG o_is_clear hG (hr.mono (by decide)) (takes_of rfl rfl rfl rfl) (xa_cons (xp_var (i := 0) rfl (.inl rfl)) xa_nil) rfl (len_cons len_nil))) (sms_one (sm_ret xp_non)) sms_nil)
    (sms_cons (sm_set (i := 1) sc_two_readings.nd rfl (.inl rfl) (xp_ix (xp_ownG o_parts hG (hr.mono (by decide)) (takes_of rfl rfl rfl rfl) (xa_cons (xp_var (i := 0) rfl (.inl rfl)) xa_nil) rfl (len_cons len_nil)) xp_int (fun _ _ => rfl)))
    (sms_cons (sm_set (i := 2) sc_two_readings.nd rfl (.inl rfl) (xp_if (xt_val (xp_ownG o_name_first hG (hr.mono (by decide)) (takes_of rfl rfl rfl rfl) (xa_cons (xp_var (i := 0) rfl (.inl rfl)) xa_nil) rfl (len_cons len_nil))) (xp_add false (xp_add false (xp_str (l := [97]) (by decide +kernel)) (xp_var (i := 1) rfl (.inl rfl))) (xp_str (l := [50]) (by decide +kernel))) (xp_add false (xp_add false (xp_str (l := [50]) (by decide +kernel)) (xp_var (i := 1) rfl (.inl rfl))) (xp_str (l := [97]) (by decide +kernel)))))
    (sms_one (sm_ret (xp_tup (xa_cons (xp_tup (xa_cons (xp_str (l := [97]) (by decide +kernel)) (xa_cons (xp_ty call_int_str cb_int rfl T.b_int bo_int (xa_cons (xp_add false (xp_add false (xp_str (l := [50]) (by decide +kernel)) (xp_var (i := 1) rfl (.inl rfl))) (xp_str (l := [50]) (by decide +kernel))) xa_nil)) xa_nil))) (xa_cons (xp_tup (xa_cons (xp_var (i := 2) rfl (.inl rfl)) (xa_cons xp_int xa_nil))) xa_nil))))))))
abbrev st_need_clear : Stmt := top 26
theorem sc_need_clear : FnScope ["mark", "found"] ["mark"] (defScope st_need_clear) := ⟨rfl, rfl, rfl, by decide +kernel, rfl, by decide +kernel, by decide +kernel⟩
noncomputable def mb_need_clear : MS := (sSeq (sAsg 1 (eCall m_two_readings (aCons (eVar 0) aNil))) (sIf (op1 (isNB none) (eVar 1)) sStuck sNx))
noncomputable def m_need_clear : MF := mDef 2 mb_need_clear
theorem ok_need_clear {f : Addr} {fd : FuncData} (F : Fun K "need_clear" "need_clear" st_need_clear f fd) (T : Tx K mg) (hN : ∃ mm, base.Ns sysModules mm) (o_two_readings : OwnG P w K mg base 4 "two_readings" 1 m_two_readings) : FnG P w K mg base 5 f fd ["mark"] (spM ⟨P, w, K, mg⟩ m_need_clear 1) := by
  refine fnMG F sc_need_clear mb_need_clear fun cdv A outer s H E hG hr => ?_
  exact (sms_cons (sm_set (i := 1) sc_need_clear.nd rfl (.inl rfl) (xp_ownG o_two_readings hG (hr.mono (by decide)) (takes_of rfl rfl rfl rfl) (xa_cons (xp_var (i := 0) rfl (.inl rfl)) xa_nil) rfl (len_cons len_nil)))
    (sms_one (sm_if (xt_notN (xp_var (i := 1) rfl (.inl rfl))) (sms_one sm_stuck) sms_nil)))
abbrev st_is_name : Stmt := top 13
theorem sc_is_name : FnScope ["value", "sign"] ["value"] (defScope st_is_name) := ⟨rfl, rfl, rfl, by decide +kernel, rfl, by decide +kernel, by decide +kernel⟩
noncomputable def mb_is_name : MS := (sSeq (sIf (eOr (eNot (op1 (isiD "str") (eVar 0))) (eNot (eChain leD leD (eC (.int 1)) (eBi lenB (aCons (eVar 0) aNil)) (eC (.int 200))))) (sRet (eC (.bl false))) sNx) (sRet (eBi allB (aCons (eLc false [1] (tgN 1) (wSeq (eVar 0)) (eC (.bl true)) (op2 inD (eVar 1) (eC (.str [97, 98, 99, 100, 101, 102, 103, 104, 105, 106, 107, 108, 109, 110, 111, 112, 113, 114, 115, 116, 117, 118, 119, 120, 121, 122, 48, 49, 50, 51, 52, 53, 54, 55, 56, 57, 45, 95, 46, 40, 41])))) aNil))))
noncomputable def m_is_name : MF := mDef 2 mb_is_name
theorem ok_is_name {f : Addr} {fd : FuncData} (F : Fun K "is_name" "is_name" st_is_name f fd) (T : Tx K mg) (hN : ∃ mm, base.Ns sysModules mm) : FnG P w K mg base 1 f fd ["value"] (spM ⟨P, w, K, mg⟩ m_is_name 1) := by
  refine fnMG F sc_is_name mb_is_name fun cdv A outer s H E hG hr => ?_
  obtain ⟨tk_LONGEST_NAME, g_LONGEST_NAME⟩ := T.c_LONGEST_NAME
  obtain ⟨tk_SIGNS, g_SIGNS⟩ := T.c_SIGNS
  exact (sms_cons (sm_if (Xw.t (xw_or (xt_not (xt_val (xp_isi rfl T.b_isinstance rfl T.b_str bo_str (xp_var (i := 0) rfl (.inl rfl))))) (xw_or1 (xt_not (xt_chain op_le o2_le op_le o2_le xp_int (xp_bi call_len cb_len rfl T.b_len bo_len (xa_cons (xp_var (i := 0) rfl (.inl rfl)) xa_nil)) (xp_globI rfl g_LONGEST_NAME)))))) (sms_one (sm_ret xp_bl)) sms_nil)
    (sms_one (sm_ret (xp_bi (cr_all rfl) cb_all rfl T.b_all bo_all (xa_cons (xp_lc false rfl sc_is_name.nd (wk_seq (xp_var (i := 0) rfl (.inl rfl))) (own := [("sign", 1)]) (blk_ok (N := ["value", "sign"]) (sc := defScope st_is_name) (by decide +kernel)) ⟨fun s H C cl fp => (tgt_name (i := 1) (own := [1]) sc_is_name.nd rfl (.inl rfl)), fun s H C cl fp => xts_nil, fun s H C cl fp => (xp_in (Xp.w (xp_var (i := 1) rfl (.inl rfl))) (xp_globS (l := [97, 98, 99, 100, 101, 102, 103, 104, 105, 106, 107, 108, 109, 110, 111, 112, 113, 114, 115, 116, 117, 118, 119, 120, 121, 122, 48, 49, 50, 51, 52, 53, 54, 55, 56, 57, 45, 95, 46, 40, 41]) rfl g_SIGNS (by decide +kernel)) rfl)⟩) xa_nil)))))
abbrev st_need_name : Stmt := top 21
theorem sc_need_name : FnScope ["name"] ["name"] (defScope st_need_name) := ⟨rfl, rfl, rfl, by decide +kernel, rfl, by decide +kernel, by decide +kernel⟩
noncomputable def mb_need_name : MS := (sIf (eNot (eCall m_is_name (aCons (eVar 0) aNil))) sStuck sNx)
noncomputable def m_need_name : MF := mDef 1 mb_need_name
theorem ok_need_name {f : Addr} {fd : FuncData} (F : Fun K "need_name" "need_name" st_need_name f fd) (T : Tx K mg) (hN : ∃ mm, base.Ns sysModules mm) (o_is_name : OwnG P w K mg base 1 "is_name" 1 m_is_name) : FnG P w K mg base 2 f fd ["name"] (spM ⟨P, w, K, mg⟩ m_need_name 1) := by
  refine fnMG F sc_need_name mb_need_name fun cdv A outer s H E hG hr => ?_
  exact (sms_one (sm_if (xt_not (xt_val (xp_ownG o_is_name hG (hr.mono (by decide)) (takes_of rfl rfl rfl rfl) (xa_cons (xp_var (i := 0) rfl (.inl rfl)) xa_nil) rfl (len_cons len_nil)))) (sms_one sm_stuck) sms_nil))
abbrev st_number_in : Stmt := top 14
theorem sc_number_in : FnScope ["value", "sign", "found"] ["value"] (defScope st_number_in) := ⟨rfl, rfl, rfl, by decide +kernel, rfl, by decide +kernel, by decide +kernel⟩
noncomputable def mb_number_in : MS := (sSeq (sIf (eOr (eNot (op1 (isiD "str") (eVar 0))) (eNot (eChain leD leD (eC (.int 1)) (eBi lenB (aCons (eVar 0) aNil)) (eC (.int 15))))) (sRet (eC .non)) sNx) (sSeq (sIf (eOr (eNot (eBi allB (aCons (eLc false [1] (tgN 1) (wSeq (eVar 0)) (eC (.bl true)) (op2 inD (eVar 1) (eC (.str [48, 49, 50, 51, 52, 53, 54, 55, 56, 57])))) aNil))) (op2 eqD (op2 ixD (eVar 0) (eC (.int 0))) (eC (.str [48])))) (sRet (eC .non)) sNx) (sSeq (sAsg 2 (eBi intB (aCons (eVar 0) aNil))) (sRet (eIf (op2 gtD (eVar 2) (eC (.int 1))) (eVar 2) (eC .non))))))
noncomputable def m_number_in : MF := mDef 3 mb_number_in
theorem ok_number_in {f : Addr} {fd : FuncData} (F : Fun K "number_in" "number_in" st_number_in f fd) (T : Tx K mg) (hN : ∃ mm, base.Ns sysModules mm) : FnG P w K mg base 1 f fd ["value"] (spM ⟨P, w, K, mg⟩ m_number_in 1) := by
  refine fnMG F sc_number_in mb_number_in fun cdv A outer s H E hG hr => ?_
  obtain ⟨tk_FIGURES, g_FIGURES⟩ := T.c_FIGURES
  obtain ⟨tk_MOST_FIGURES, g_MOST_FIGURES⟩ := T.c_MOST_FIGURES
  exact (sms_cons (sm_if (Xw.t (xw_or (xt_not (xt_val (xp_isi rfl T.b_isinstance rfl T.b_str bo_str (xp_var (i := 0) rfl (.inl rfl))))) (xw_or1 (xt_not (xt_chain op_le o2_le op_le o2_le xp_int (xp_bi call_len cb_len rfl T.b_len bo_len (xa_cons (xp_var (i := 0) rfl (.inl rfl)) xa_nil)) (xp_globI rfl g_MOST_FIGURES)))))) (sms_one (sm_ret xp_non)) sms_nil)
    (sms_cons (sm_if (Xw.t (xw_or (xt_not (xt_val (xp_bi (cr_all rfl) cb_all rfl T.b_all bo_all (xa_cons (xp_lc false rfl sc_number_in.nd (wk_seq (xp_var (i := 0) rfl (.inl rfl))) (own := [("sign", 1)]) (blk_ok (N := ["value", "sign", "found"]) (sc := defScope st_number_in) (by decide +kernel)) ⟨fun s H C cl fp => (tgt_name (i := 1) (own := [1]) sc_number_in.nd rfl (.inl rfl)), fun s H C cl fp => xts_nil, fun s H C cl fp => (xp_in (Xp.w (xp_var (i := 1) rfl (.inl rfl))) (xp_globS (l := [48, 49, 50, 51, 52, 53, 54, 55, 56, 57]) rfl g_FIGURES (by decide +kernel)) rfl)⟩) xa_nil)))) (xw_or1 (xt_eq hr.units (Xp.w (xp_ix (xp_var (i := 0) rfl (.inl rfl)) xp_int (fun _ _ => rfl))) (Xp.w (xp_str (l := [48]) (by decide +kernel))))))) (sms_one (sm_ret xp_non)) sms_nil)
    (sms_cons (sm_set (i := 2) sc_number_in.nd rfl (.inl rfl) (xp_ty call_int_str cb_int rfl T.b_int bo_int (xa_cons (xp_var (i := 0) rfl (.inl rfl)) xa_nil)))
    (sms_one (sm_ret (xp_if (xt_gt (xp_var (i := 2) rfl (.inl rfl)) xp_int) (xp_var (i := 2) rfl (.inl rfl)) xp_non))))))
abbrev st_both_in : Stmt := top 30
theorem sc_both_in : FnScope ["name", "figures", "number"] ["name", "figures"] (defScope st_both_in) := ⟨rfl, rfl, rfl, by decide +kernel, rfl, by decide +kernel, by decide +kernel⟩
noncomputable def mb_both_in : MS := (sSeq (sAsg 2 (eCall m_number_in (aCons (eVar 1) aNil))) (sSeq (sIf (eOr (op1 (isB none) (eVar 2)) (eNot (eCall m_is_name (aCons (eVar 0) aNil)))) (sRet (eC .non)) sNx) (sRet (eTup (aCons (eVar 0) (aCons (eVar 2) aNil))))))
noncomputable def m_both_in : MF := mDef 3 mb_both_in
theorem ok_both_in {f : Addr} {fd : FuncData} (F : Fun K "both_in" "both_in" st_both_in f fd) (T : Tx K mg) (hN : ∃ mm, base.Ns sysModules mm) (o_number_in : OwnG P w K mg base 1 "number_in" 1 m_number_in) (o_is_name : OwnG P w K mg base 1 "is_name" 1 m_is_name) : FnG P w K mg base 2 f fd ["name", "figures"] (spM ⟨P, w, K, mg⟩ m_both_in 2) := by
  refine fnMG F sc_both_in mb_both_in fun cdv A outer s H E hG hr => ?_
  exact (sms_cons (sm_set (i := 2) sc_both_in.nd rfl (.inl rfl) (xp_ownG o_number_in hG (hr.mono (by decide)) (takes_of rfl rfl rfl rfl) (xa_cons (xp_var (i := 1) rfl (.inl rfl)) xa_nil) rfl (len_cons len_nil)))
    (sms_cons (sm_if (Xw.t (xw_or (xt_isN (xp_var (i := 2) rfl (.inl rfl))) (xw_or1 (xt_not (xt_val (xp_ownG o_is_name hG (hr.mono (by decide)) (takes_of rfl rfl rfl rfl) (xa_cons (xp_var (i := 0) rfl (.inl rfl)) xa_nil) rfl (len_cons len_nil))))))) (sms_one (sm_ret xp_non)) sms_nil)
    (sms_one (sm_ret (xp_tup (xa_cons (xp_var (i := 0) rfl (.inl rfl)) (xa_cons (xp_var (i := 2) rfl (.inl rfl)) xa_nil)))))))
abbrev st_number_ahead : Stmt := top 29
theorem sc_number_ahead : FnScope ["text", "between", "inner", "cut"] ["text", "between"] (defScope st_number_ahead) := ⟨rfl, rfl, rfl, by decide +kernel, rfl, by decide +kernel, by decide +kernel⟩
noncomputable def mb_number_ahead : MS := (sSeq (sAsg 2 (op2 subD (eBi lenB (aCons (eVar 1) aNil)) (eBi lenB (aCons (eM1 lscD (eVar 1) (eC (.str [48, 49, 50, 51, 52, 53, 54, 55, 56, 57]))) aNil)))) (sSeq (sAsg 3 (op2 subD (op2 subD (eBi lenB (aCons (eVar 0) aNil)) (eBi lenB (aCons (eM1 lscD (eVar 0) (eC (.str [48, 49, 50, 51, 52, 53, 54, 55, 56, 57]))) aNil))) (eVar 2))) (sSeq (sIf (eOr (op2 ltD (eVar 3) (eC (.int 1))) (eNot (eM1 startsD (eSl false (eVar 0) (oSome (eVar 3)) oNone) (eVar 1)))) (sRet (eC .non)) sNx) (sRet (eCall m_both_in (aCons (eSl false (eVar 0) (oSome (op2 (addD false) (eVar 3) (eBi lenB (aCons (eVar 1) aNil)))) oNone) (aCons (eSl false (eVar 0) oNone (oSome (eVar 3))) aNil)))))))
noncomputable def m_number_ahead : MF := mDef 4 mb_number_ahead
theorem ok_number_ahead {f : Addr} {fd : FuncData} (F : Fun K "number_ahead" "number_ahead" st_number_ahead f fd) (T : Tx K mg) (hN : ∃ mm, base.Ns sysModules mm) (o_both_in : OwnG P w K mg base 2 "both_in" 2 m_both_in) : FnG P w K mg base 3 f fd ["text", "between"] (spM ⟨P, w, K, mg⟩ m_number_ahead 2) := by
  refine fnMG F sc_number_ahead mb_number_ahead fun cdv A outer s H E hG hr => ?_
  obtain ⟨tk_FIGURES, g_FIGURES⟩ := T.c_FIGURES
  exact (sms_cons (sm_set (i := 2) sc_number_ahead.nd rfl (.inl rfl) (xp_sub (xp_bi call_len cb_len rfl T.b_len bo_len (xa_cons (xp_var (i := 1) rfl (.inl rfl)) xa_nil)) (xp_bi call_len cb_len rfl T.b_len bo_len (xa_cons (xp_lsc (xp_var (i := 1) rfl (.inl rfl)) (xp_globS (l := [48, 49, 50, 51, 52, 53, 54, 55, 56, 57]) rfl g_FIGURES (by decide +kernel))) xa_nil))))
    (sms_cons (sm_set (i := 3) sc_number_ahead.nd rfl (.inl rfl) (xp_sub (xp_sub (xp_bi call_len cb_len rfl T.b_len bo_len (xa_cons (xp_var (i := 0) rfl (.inl rfl)) xa_nil)) (xp_bi call_len cb_len rfl T.b_len bo_len (xa_cons (xp_lsc (xp_var (i := 0) rfl (.inl rfl)) (xp_globS (l := [48, 49, 50, 51, 52, 53, 54, 55, 56, 57]) rfl g_FIGURES (by decide +kernel))) xa_nil))) (xp_var (i := 2) rfl (.inl rfl))))
    (sms_cons (sm_if (Xw.t (xw_or (xt_lt (xp_var (i := 3) rfl (.inl rfl)) xp_int) (xw_or1 (xt_not (xt_val (xp_starts (xp_sl false (xp_var (i := 0) rfl (.inl rfl)) (xo_some (xp_var (i := 3) rfl (.inl rfl))) xo_none) (Xp.w (xp_var (i := 1) rfl (.inl rfl))))))))) (sms_one (sm_ret xp_non)) sms_nil)
    (sms_one (sm_ret (xp_ownG o_both_in hG (hr.mono (by decide)) (takes_of rfl rfl rfl rfl) (xa_cons (xp_sl false (xp_var (i := 0) rfl (.inl rfl)) (xo_some (xp_add false (xp_var (i := 3) rfl (.inl rfl)) (xp_bi call_len cb_len rfl T.b_len bo_len (xa_cons (xp_var (i := 1) rfl (.inl rfl)) xa_nil)))) xo_none) (xa_cons (xp_sl false (xp_var (i := 0) rfl (.inl rfl)) xo_none (xo_some (xp_var (i := 3) rfl (.inl rfl)))) xa_nil)) rfl (len_cons (len_cons len_nil))))))))
abbrev st_number_behind : Stmt := top 28
theorem sc_number_behind : FnScope ["text", "between", "inner", "cut", "front"] ["text", "between"] (defScope st_number_behind) := ⟨rfl, rfl, rfl, by decide +kernel, rfl, by decide +kernel, by decide +kernel⟩
noncomputable def mb_number_behind : MS := (sSeq (sAsg 2 (op2 subD (eBi lenB (aCons (eVar 1) aNil)) (eBi lenB (aCons (eM1 rscD (eVar 1) (eC (.str [48, 49, 50, 51, 52, 53, 54, 55, 56, 57]))) aNil)))) (sSeq (sAsg 3 (op2 (addD false) (eBi lenB (aCons (eM1 rscD (eVar 0) (eC (.str [48, 49, 50, 51, 52, 53, 54, 55, 56, 57]))) aNil)) (eVar 2))) (sSeq (sAsg 4 (eSl false (eVar 0) oNone (oSome (eVar 3)))) (sSeq (sIf (eNot (eM1 endsD (eVar 4) (eVar 1))) (sRet (eC .non)) sNx) (sRet (eCall m_both_in (aCons (eSl false (eVar 4) oNone (oSome (op2 subD (eBi lenB (aCons (eVar 4) aNil)) (eBi lenB (aCons (eVar 1) aNil))))) (aCons (eSl false (eVar 0) (oSome (eVar 3)) oNone) aNil))))))))
noncomputable def m_number_behind : MF := mDef 5 mb_number_behind
theorem ok_number_behind {f : Addr} {fd : FuncData} (F : Fun K "number_behind" "number_behind" st_number_behind f fd) (T : Tx K mg) (hN : ∃ mm, base.Ns sysModules mm) (o_both_in : OwnG P w K mg base 2 "both_in" 2 m_both_in) : FnG P w K mg base 3 f fd ["text", "between"] (spM ⟨P, w, K, mg⟩ m_number_behind 2) := by
  refine fnMG F sc_number_behind mb_number_behind fun cdv A outer s H E hG hr => ?_
  obtain ⟨tk_FIGURES, g_FIGURES⟩ := T.c_FIGURES
  exact (sms_cons (sm_set (i := 2) sc_number_behind.nd rfl (.inl rfl) (xp_sub (xp_bi call_len cb_len rfl T.b_len bo_len (xa_cons (xp_var (i := 1) rfl (.inl rfl)) xa_nil)) (xp_bi call_len cb_len rfl T.b_len bo_len (xa_cons (xp_rsc (xp_var (i := 1) rfl (.inl rfl)) (xp_globS (l := [48, 49, 50, 51, 52, 53, 54, 55, 56, 57]) rfl g_FIGURES (by decide +kernel))) xa_nil))))
    (sms_cons (sm_set (i := 3) sc_number_behind.nd rfl (.inl rfl) (xp_add false (xp_bi call_len cb_len rfl T.b_len bo_len (xa_cons (xp_rsc (xp_var (i := 0) rfl (.inl rfl)) (xp_globS (l := [48, 49, 50, 51, 52, 53, 54, 55, 56, 57]) rfl g_FIGURES (by decide +kernel))) xa_nil)) (xp_var (i := 2) rfl (.inl rfl))))
    (sms_cons (sm_set (i := 4) sc_number_behind.nd rfl (.inl rfl) (xp_sl false (xp_var (i := 0) rfl (.inl rfl)) xo_none (xo_some (xp_var (i := 3) rfl (.inl rfl)))))
    (sms_cons (sm_if (xt_not (xt_val (xp_ends (xp_var (i := 4) rfl (.inl rfl)) (Xp.w (xp_var (i := 1) rfl (.inl rfl)))))) (sms_one (sm_ret xp_non)) sms_nil)
    (sms_one (sm_ret (xp_ownG o_both_in hG (hr.mono (by decide)) (takes_of rfl rfl rfl rfl) (xa_cons (xp_sl false (xp_var (i := 4) rfl (.inl rfl)) xo_none (xo_some (xp_sub (xp_bi call_len cb_len rfl T.b_len bo_len (xa_cons (xp_var (i := 4) rfl (.inl rfl)) xa_nil)) (xp_bi call_len cb_len rfl T.b_len bo_len (xa_cons (xp_var (i := 1) rfl (.inl rfl)) xa_nil))))) (xa_cons (xp_sl false (xp_var (i := 0) rfl (.inl rfl)) (xo_some (xp_var (i := 3) rfl (.inl rfl))) xo_none) xa_nil)) rfl (len_cons (len_cons len_nil)))))))))
abbrev st_reading : Stmt := top 27
theorem sc_reading : FnScope ["mark", "name", "ahead", "between", "behind", "middle"] ["mark", "name"] (defScope st_reading) := ⟨rfl, rfl, rfl, by decide +kernel, rfl, by decide +kernel, by decide +kernel⟩
noncomputable def mb_reading : MS := (sSeq (sDrop (eCall m_need_clear (aCons (eVar 0) aNil))) (sSeq (sDrop (eCall m_need_name (aCons (eVar 1) aNil))) (sSeq (sAsgT (tgTup [2, 3, 4]) (eCall m_parts (aCons (eVar 0) aNil))) (sSeq (sIf (eOr (op2 ltD (eBi lenB (aCons (eVar 1) aNil)) (op2 (addD false) (eBi lenB (aCons (eVar 2) aNil)) (eBi lenB (aCons (eVar 4) aNil)))) (eOr (eNot (eM1 startsD (eVar 1) (eVar 2))) (eNot (eM1 endsD (eVar 1) (eVar 4))))) (sRet (eC .non)) sNx) (sSeq (sAsg 5 (eSl false (eVar 1) (oSome (eBi lenB (aCons (eVar 2) aNil))) (oSome (op2 subD (eBi lenB (aCons (eVar 1) aNil)) (eBi lenB (aCons (eVar 4) aNil)))))) (sSeq (sIf (eCall m_name_first (aCons (eVar 0) aNil)) (sRet (eCall m_number_behind (aCons (eVar 5) (aCons (eVar 3) aNil)))) sNx) (sRet (eCall m_number_ahead (aCons (eVar 5) (aCons (eVar 3) aNil))))))))))
noncomputable def m_reading : MF := mDef 6 mb_reading
theorem ok_reading {f : Addr} {fd : FuncData} (F : Fun K "reading" "reading" st_reading f fd) (T : Tx K mg) (hN : ∃ mm, base.Ns sysModules mm) (o_need_clear : OwnG P w K mg base 5 "need_clear" 1 m_need_clear) (o_need_name : OwnG P w K mg base 2 "need_name" 1 m_need_name) (o_parts : OwnG P w K mg base 1 "parts" 1 m_parts) (o_name_first : OwnG P w K mg base 1 "name_first" 1 m_name_first) (o_number_behind : OwnG P w K mg base 3 "number_behind" 2 m_number_behind) (o_number_ahead : OwnG P w K mg base 3 "number_ahead" 2 m_number_ahead) : FnG P w K mg base 6 f fd ["mark", "name"] (spM ⟨P, w, K, mg⟩ m_reading 2) := by
  refine fnMG F sc_reading mb_reading fun cdv A outer s H E hG hr => ?_
  exact (sms_cons (sm_expr (xp_ownG o_need_clear hG (hr.mono (by decide)) (takes_of rfl rfl rfl rfl) (xa_cons (xp_var (i := 0) rfl (.inl rfl)) xa_nil) rfl (len_cons len_nil)))
    (sms_cons (sm_expr (xp_ownG o_need_name hG (hr.mono (by decide)) (takes_of rfl rfl rfl rfl) (xa_cons (xp_var (i := 1) rfl (.inl rfl)) xa_nil) rfl (len_cons len_nil)))
    (sms_cons (sm_asgT (tgt_tup rfl (tgts_cons (tgt_name (i := 2) (own := [2, 3, 4]) sc_reading.nd rfl (.inl rfl)) (tgts_cons (tgt_name (i := 3) (own := [2, 3, 4]) sc_reading.nd rfl (.inl rfl)) (tgts_cons (tgt_name (i := 4) (own := [2, 3, 4]) sc_reading.nd rfl (.inl rfl)) (tgts_nil (own := [2, 3, 4])))))) (xp_ownG o_parts hG (hr.mono (by decide)) (takes_of rfl rfl rfl rfl) (xa_cons (xp_var (i := 0) rfl (.inl rfl)) xa_nil) rfl (len_cons len_nil)))
    (sms_cons (sm_if (Xw.t (xw_or (xt_lt (xp_bi call_len cb_len rfl T.b_len bo_len (xa_cons (xp_var (i := 1) rfl (.inl rfl)) xa_nil)) (xp_add false (xp_bi call_len cb_len rfl T.b_len bo_len (xa_cons (xp_var (i := 2) rfl (.inl rfl)) xa_nil)) (xp_bi call_len cb_len rfl T.b_len bo_len (xa_cons (xp_var (i := 4) rfl (.inl rfl)) xa_nil)))) (xw_or (xt_not (xt_val (xp_starts (xp_var (i := 1) rfl (.inl rfl)) (Xp.w (xp_var (i := 2) rfl (.inl rfl)))))) (xw_or1 (xt_not (xt_val (xp_ends (xp_var (i := 1) rfl (.inl rfl)) (Xp.w (xp_var (i := 4) rfl (.inl rfl)))))))))) (sms_one (sm_ret xp_non)) sms_nil)
    (sms_cons (sm_set (i := 5) sc_reading.nd rfl (.inl rfl) (xp_sl false (xp_var (i := 1) rfl (.inl rfl)) (xo_some (xp_bi call_len cb_len rfl T.b_len bo_len (xa_cons (xp_var (i := 2) rfl (.inl rfl)) xa_nil))) (xo_some (xp_sub (xp_bi call_len cb_len rfl T.b_len bo_len (xa_cons (xp_var (i := 1) rfl (.inl rfl)) xa_nil)) (xp_bi call_len cb_len rfl T.b_len bo_len (xa_cons (xp_var (i := 4) rfl (.inl rfl)) xa_nil))))))
    (sms_cons (sm_if (xt_val (xp_ownG o_name_first hG (hr.mono (by decide)) (takes_of rfl rfl rfl rfl) (xa_cons (xp_var (i := 0) rfl (.inl rfl)) xa_nil) rfl (len_cons len_nil))) (sms_one (sm_ret (xp_ownG o_number_behind hG (hr.mono (by decide)) (takes_of rfl rfl rfl rfl) (xa_cons (xp_var (i := 5) rfl (.inl rfl)) (xa_cons (xp_var (i := 3) rfl (.inl rfl)) xa_nil)) rfl (len_cons (len_cons len_nil))))) sms_nil)
    (sms_one (sm_ret (xp_ownG o_number_ahead hG (hr.mono (by decide)) (takes_of rfl rfl rfl rfl) (xa_cons (xp_var (i := 5) rfl (.inl rfl)) (xa_cons (xp_var (i := 3) rfl (.inl rfl)) xa_nil)) rfl (len_cons (len_cons len_nil)))))))))))
abbrev st_Rule_read : Stmt := meth (top 36) 5
theorem sc_Rule_read : FnScope ["self", "name"] ["self", "name"] (defScope st_Rule_read) := ⟨rfl, rfl, rfl, by decide +kernel, rfl, by decide +kernel, by decide +kernel⟩
noncomputable def mb_Rule_read : MS := (sRet (eCall m_reading (aCons (eFld "Rule" "rule_mark" (eVar 0)) (aCons (eVar 1) aNil))))
noncomputable def m_Rule_read : MF := mDef 2 mb_Rule_read
theorem ok_Rule_read {f : Addr} {fd : FuncData} (F : Fun K "read" "Rule.read" st_Rule_read f fd) (T : Tx K mg) (hN : ∃ mm, base.Ns sysModules mm) (o_reading : OwnG P w K mg base 6 "reading" 2 m_reading) (f_Rule_rule_mark : FldOk K mg "Rule" "rule_mark") : FnG P w K mg base 7 f fd ["self", "name"] (spM ⟨P, w, K, mg⟩ m_Rule_read 2) := by
  refine fnMG F sc_Rule_read mb_Rule_read fun cdv A outer s H E hG hr => ?_
  exact (sms_one (sm_ret (xp_ownG o_reading hG (hr.mono (by decide)) (takes_of rfl rfl rfl rfl) (xa_cons (xp_fld f_Rule_rule_mark (xp_var (i := 0) rfl (.inl rfl))) (xa_cons (xp_var (i := 1) rfl (.inl rfl)) xa_nil)) rfl (len_cons (len_cons len_nil)))))
abbrev st_Rule_way : Stmt := meth (top 36) 3
theorem sc_Rule_way : FnScope ["self"] ["self"] (defScope st_Rule_way) := ⟨rfl, rfl, rfl, by decide +kernel, rfl, by decide +kernel, by decide +kernel⟩
noncomputable def mb_Rule_way : MS := (sRet (eFld "Rule" "rule_way" (eVar 0)))
noncomputable def m_Rule_way : MF := mDef 1 mb_Rule_way
theorem ok_Rule_way {f : Addr} {fd : FuncData} (F : Fun K "way" "Rule.way" st_Rule_way f fd) (T : Tx K mg) (hN : ∃ mm, base.Ns sysModules mm) (f_Rule_rule_way : FldOk K mg "Rule" "rule_way") : FnG P w K mg base 1 f fd ["self"] (spM ⟨P, w, K, mg⟩ m_Rule_way 1) := by
  refine fnMG F sc_Rule_way mb_Rule_way fun cdv A outer s H E hG hr => ?_
  exact (sms_one (sm_ret (xp_fld f_Rule_rule_way (xp_var (i := 0) rfl (.inl rfl)))))
abbrev st_is_wish : Stmt := top 38
theorem sc_is_wish : FnScope ["rule", "value", "found"] ["rule", "value"] (defScope st_is_wish) := ⟨rfl, rfl, rfl, by decide +kernel, rfl, by decide +kernel, by decide +kernel⟩
noncomputable def mb_is_wish : MS := (sSeq (sDrop (eCall m_need_rule (aCons (eVar 0) aNil))) (sSeq (sIf (eOr (eNot (eCall m_is_name (aCons (eVar 1) aNil))) (op2 gtD (eBi lenB (aCons (eVar 1) aNil)) (eC (.int 150)))) (sRet (eC (.bl false))) sNx) (sSeq (sAsg 2 (eMeth "Rule" "read" m_Rule_read (eVar 0) (aCons (eVar 1) aNil))) (sRet (eOr (op2 eqD (eMeth "Rule" "way" m_Rule_way (eVar 0) aNil) (eC (.str [110, 101, 115, 116]))) (eOr (op1 (isB none) (eVar 2)) (op2 leD (op2 ixD (eVar 2) (eC (.int 1))) (eC (.int 99999999999999)))))))))
noncomputable def m_is_wish : MF := mDef 3 mb_is_wish
theorem ok_is_wish {f : Addr} {fd : FuncData} (F : Fun K "is_wish" "is_wish" st_is_wish f fd) (T : Tx K mg) (hN : ∃ mm, base.Ns sysModules mm) (o_need_rule : OwnG P w K mg base 1 "need_rule" 1 m_need_rule) (o_is_name : OwnG P w K mg base 1 "is_name" 1 m_is_name) (o_Rule_read : OwnM P w K mg base 7 "Rule" "read" 1 m_Rule_read) (o_Rule_way : OwnM P w K mg base 1 "Rule" "way" 0 m_Rule_way) : FnG P w K mg base 8 f fd ["rule", "value"] (spM ⟨P, w, K, mg⟩ m_is_wish 2) := by
  refine fnMG F sc_is_wish mb_is_wish fun cdv A outer s H E hG hr => ?_
  obtain ⟨tk_GREATEST_WISH, g_GREATEST_WISH⟩ := T.c_GREATEST_WISH
  obtain ⟨tk_LONGEST_WISH, g_LONGEST_WISH⟩ := T.c_LONGEST_WISH
  obtain ⟨tk_NEST, g_NEST⟩ := T.c_NEST
  exact (sms_cons (sm_expr (xp_ownG o_need_rule hG (hr.mono (by decide)) (takes_of rfl rfl rfl rfl) (xa_cons (xp_var (i := 0) rfl (.inl rfl)) xa_nil) rfl (len_cons len_nil)))
    (sms_cons (sm_if (Xw.t (xw_or (xt_not (xt_val (xp_ownG o_is_name hG (hr.mono (by decide)) (takes_of rfl rfl rfl rfl) (xa_cons (xp_var (i := 1) rfl (.inl rfl)) xa_nil) rfl (len_cons len_nil)))) (xw_or1 (xt_gt (xp_bi call_len cb_len rfl T.b_len bo_len (xa_cons (xp_var (i := 1) rfl (.inl rfl)) xa_nil)) (xp_globI rfl g_LONGEST_WISH))))) (sms_one (sm_ret xp_bl)) sms_nil)
    (sms_cons (sm_set (i := 2) sc_is_wish.nd rfl (.inl rfl) (xp_meth o_Rule_read hG (hr.mono (by decide)) (takes_of rfl rfl rfl rfl) (xp_var (i := 0) rfl (.inl rfl)) (xa_cons (xp_var (i := 1) rfl (.inl rfl)) xa_nil) (len_cons len_nil)))
    (sms_one (sm_ret (xp_or (p2 := ⟨0, 0, 0, 0⟩) (xp_eq hr.units (Xp.w (xp_meth0 o_Rule_way hG (hr.mono (by decide)) (takes_of rfl rfl rfl rfl) (xp_var (i := 0) rfl (.inl rfl)))) (xp_globS (l := [110, 101, 115, 116]) rfl g_NEST (by decide +kernel))) (xp_or (p2 := ⟨0, 0, 0, 0⟩) (xp_isN (xp_var (i := 2) rfl (.inl rfl))) (xp_one (xp_le (xp_ix (xp_var (i := 2) rfl (.inl rfl)) xp_int (fun _ _ => rfl)) (xp_globI rfl g_GREATEST_WISH))))))))))
abbrev st__law_read : Stmt := top 47
theorem sc__law_read : FnScope ["mark", "name", "places", "inner", "wide", "many", "base", "number"] ["mark", "name"] (defScope st__law_read) := ⟨rfl, rfl, rfl, by decide +kernel, rfl, by decide +kernel, by decide +kernel⟩
noncomputable def mb__law_read : MS := (sSeq (sAsg 2 (eSortI (eList false (aCons (eM1 sixD (eVar 0) (eC (.str [42]))) (aCons (eM1 sixD (eVar 0) (eC (.str [35]))) aNil))))) (sSeq (sAsg 3 (eSl false (eVar 1) (oSome (op2 ixD (eVar 2) (eC (.int 0)))) (oSome (op2 (addD false) (op2 (addD false) (op2 subD (eBi lenB (aCons (eVar 1) aNil)) (eBi lenB (aCons (eVar 0) aNil))) (op2 ixD (eVar 2) (eC (.int 1)))) (eC (.int 1)))))) (sSeq (sAsg 4 (op2 subD (op2 subD (op2 ixD (eVar 2) (eC (.int 1))) (op2 ixD (eVar 2) (eC (.int 0)))) (eC (.int 1)))) (sSeq (sFor (tgN 5) (wR2 (eC (.int 1)) (eC (.int 16))) (sSeq (sPar [6, 7] (aCons (eSl false (eVar 3) (oSome (op2 (addD false) (eVar 5) (eVar 4))) oNone) (aCons (eSl false (eVar 3) oNone (oSome (eVar 5))) aNil))) (sSeq (sIf (op2 eqD (op2 ixD (eVar 0) (op2 ixD (eVar 2) (eC (.int 0)))) (eC (.str [42]))) (sPar [6, 7] (aCons (eSl false (eVar 3) oNone (oSome (eBi maxB (aCons (eC (.int 0)) (aCons (op2 subD (op2 subD (eBi lenB (aCons (eVar 3) aNil)) (eVar 5)) (eVar 4)) aNil))))) (aCons (eSl false (eVar 3) (oSome (eBi maxB (aCons (eC (.int 0)) (aCons (op2 subD (eBi lenB (aCons (eVar 3) aNil)) (eVar 5)) aNil)))) oNone) aNil))) sNx) (sIf (eAnd (op2 neD (eVar 6) (eC (.str []))) (eAnd (eM0 isdD (eVar 7)) (eAnd (op2 neD (op2 ixD (eVar 7) (eC (.int 0))) (eC (.str [48]))) (op2 neD (eVar 7) (eC (.str [49])))))) (sIf (op2 eqD (eRpl [35] (eRpl [42] (eVar 0) (eVar 6)) (eVar 7)) (eVar 1)) (sRet (eTup (aCons (eVar 6) (aCons (eBi intB (aCons (eVar 7) aNil)) aNil)))) sNx) sNx)))) (sRet (eC .non))))))
noncomputable def m__law_read : MF := mDef 8 mb__law_read
theorem ok__law_read {f : Addr} {fd : FuncData} (F : Fun K "_law_read" "_law_read" st__law_read f fd) (T : Tx K mg) (hN : ∃ mm, base.Ns sysModules mm) : FnG P w K mg base 1 f fd ["mark", "name"] (spM ⟨P, w, K, mg⟩ m__law_read 2) := by
  refine fnMG F sc__law_read mb__law_read fun cdv A outer s H E hG hr => ?_
  exact (sms_cons (sm_set (i := 2) sc__law_read.nd rfl (.inl rfl) (xp_sortI rfl T.b_sorted (by decide +kernel) (xp_list false (xa_cons (xp_six (xp_var (i := 0) rfl (.inl rfl)) (Xp.w (xp_str (l := [42]) (by decide +kernel)))) (xa_cons (xp_six (xp_var (i := 0) rfl (.inl rfl)) (Xp.w (xp_str (l := [35]) (by decide +kernel)))) xa_nil)))))
    (sms_cons (sm_set (i := 3) sc__law_read.nd rfl (.inl rfl) (xp_sl false (xp_var (i := 1) rfl (.inl rfl)) (xo_some (xp_ix (xp_var (i := 2) rfl (.inl rfl)) xp_int (fun _ _ => rfl))) (xo_some (xp_add false (xp_add false (xp_sub (xp_bi call_len cb_len rfl T.b_len bo_len (xa_cons (xp_var (i := 1) rfl (.inl rfl)) xa_nil)) (xp_bi call_len cb_len rfl T.b_len bo_len (xa_cons (xp_var (i := 0) rfl (.inl rfl)) xa_nil))) (xp_ix (xp_var (i := 2) rfl (.inl rfl)) xp_int (fun _ _ => rfl))) xp_int))))
    (sms_cons (sm_set (i := 4) sc__law_read.nd rfl (.inl rfl) (xp_sub (xp_sub (xp_ix (xp_var (i := 2) rfl (.inl rfl)) xp_int (fun _ _ => rfl)) (xp_ix (xp_var (i := 2) rfl (.inl rfl)) xp_int (fun _ _ => rfl))) xp_int))
    (sms_cons (sm_for rfl (passes_of rfl) (wk_range2 rfl T.b_range xp_int xp_int) (tgt_name (i := 5) (own := [5]) sc__law_read.nd rfl (.inl rfl)) (sms_cons (sm_par2 rfl sc__law_read.nd rfl rfl rfl rfl (xa_cons (xp_sl false (xp_var (i := 3) rfl (.inl rfl)) (xo_some (xp_add false (xp_var (i := 5) rfl (.inl rfl)) (xp_var (i := 4) rfl (.inl rfl)))) xo_none) (xa_cons (xp_sl false (xp_var (i := 3) rfl (.inl rfl)) xo_none (xo_some (xp_var (i := 5) rfl (.inl rfl)))) xa_nil)))
    (sms_cons (sm_if (xt_eq hr.units (Xp.w (xp_ix (xp_var (i := 0) rfl (.inl rfl)) (xp_ix (xp_var (i := 2) rfl (.inl rfl)) xp_int (fun _ _ => rfl)) (fun _ _ => rfl))) (Xp.w (xp_str (l := [42]) (by decide +kernel)))) (sms_one (sm_par2 rfl sc__law_read.nd rfl rfl rfl rfl (xa_cons (xp_sl false (xp_var (i := 3) rfl (.inl rfl)) xo_none (xo_some (xp_bi (call_max2 rfl) cb_max rfl T.b_max bo_max (xa_cons xp_int (xa_cons (xp_sub (xp_sub (xp_bi call_len cb_len rfl T.b_len bo_len (xa_cons (xp_var (i := 3) rfl (.inl rfl)) xa_nil)) (xp_var (i := 5) rfl (.inl rfl))) (xp_var (i := 4) rfl (.inl rfl))) xa_nil))))) (xa_cons (xp_sl false (xp_var (i := 3) rfl (.inl rfl)) (xo_some (xp_bi (call_max2 rfl) cb_max rfl T.b_max bo_max (xa_cons xp_int (xa_cons (xp_sub (xp_bi call_len cb_len rfl T.b_len bo_len (xa_cons (xp_var (i := 3) rfl (.inl rfl)) xa_nil)) (xp_var (i := 5) rfl (.inl rfl))) xa_nil)))) xo_none) xa_nil)))) sms_nil)
    (sms_one (sm_if (Xw.t (xw_and (xt_ne hr.units (Xp.w (xp_var (i := 6) rfl (.inl rfl))) (Xp.w (xp_str (l := []) (by decide +kernel)))) (xw_and (xt_val (xp_isd (xp_var (i := 7) rfl (.inl rfl)))) (xw_and (xt_ne hr.units (Xp.w (xp_ix (xp_var (i := 7) rfl (.inl rfl)) xp_int (fun _ _ => rfl))) (Xp.w (xp_str (l := [48]) (by decide +kernel)))) (xw_and1 (xt_ne hr.units (Xp.w (xp_var (i := 7) rfl (.inl rfl))) (Xp.w (xp_str (l := [49]) (by decide +kernel))))))))) (sms_one (sm_if (xt_eq hr.units (Xp.w (xp_repl (ly := [35]) (by decide +kernel) (xp_repl (ly := [42]) (by decide +kernel) (xp_var (i := 0) rfl (.inl rfl)) (xd_var (i := 6) rfl (.inl rfl))) (xd_var (i := 7) rfl (.inl rfl)))) (Xp.w (xp_var (i := 1) rfl (.inl rfl)))) (sms_one (sm_ret (xp_tup (xa_cons (xp_var (i := 6) rfl (.inl rfl)) (xa_cons (xp_ty call_int_str cb_int rfl T.b_int bo_int (xa_cons (xp_var (i := 7) rfl (.inl rfl)) xa_nil)) xa_nil))))) sms_nil)) sms_nil)))))
    (sms_one (sm_ret xp_non))))))
abbrev st__law_is_name : Stmt := top 49
theorem sc__law_is_name : FnScope ["value", "most", "sign"] ["value", "most"] (defScope st__law_is_name) := ⟨rfl, rfl, rfl, by decide +kernel, rfl, by decide +kernel, by decide +kernel⟩
noncomputable def mb__law_is_name : MS := (sSeq (sIf (eOr (eNot (op1 (isiD "str") (eVar 0))) (eNot (eChain leD leD (eC (.int 1)) (eBi lenB (aCons (eVar 0) aNil)) (eVar 1)))) (sRet (eC (.bl false))) sNx) (sRet (op2 eqD (eLc false [2] (tgN 2) (wSeq (eVar 0)) (op2 ninD (eVar 2) (eC (.str [97, 98, 99, 100, 101, 102, 103, 104, 105, 106, 107, 108, 109, 110, 111, 112, 113, 114, 115, 116, 117, 118, 119, 120, 121, 122, 48, 49, 50, 51, 52, 53, 54, 55, 56, 57, 45, 95, 46, 40, 41]))) (eVar 2)) (eList false aNil))))
noncomputable def m__law_is_name : MF := mDef 3 mb__law_is_name
theorem ok__law_is_name {f : Addr} {fd : FuncData} (F : Fun K "_law_is_name" "_law_is_name" st__law_is_name f fd) (T : Tx K mg) (hN : ∃ mm, base.Ns sysModules mm) : FnG P w K mg base 1 f fd ["value", "most"] (spM ⟨P, w, K, mg⟩ m__law_is_name 2) := by
  refine fnMG F sc__law_is_name mb__law_is_name fun cdv A outer s H E hG hr => ?_
  exact (sms_cons (sm_if (Xw.t (xw_or (xt_not (xt_val (xp_isi rfl T.b_isinstance rfl T.b_str bo_str (xp_var (i := 0) rfl (.inl rfl))))) (xw_or1 (xt_not (xt_chain op_le o2_le op_le o2_le xp_int (xp_bi call_len cb_len rfl T.b_len bo_len (xa_cons (xp_var (i := 0) rfl (.inl rfl)) xa_nil)) (xp_var (i := 1) rfl (.inl rfl))))))) (sms_one (sm_ret xp_bl)) sms_nil)
    (sms_one (sm_ret (xp_eq hr.units (Xp.w (xp_lc false rfl sc__law_is_name.nd (wk_seq (xp_var (i := 0) rfl (.inl rfl))) (own := [("sign", 2)]) (blk_ok (N := ["value", "most", "sign"]) (sc := defScope st__law_is_name) (by decide +kernel)) ⟨fun s H C cl fp => (tgt_name (i := 2) (own := [2]) sc__law_is_name.nd rfl (.inl rfl)), fun s H C cl fp => (xts_one (xt_nin (Xp.w (xp_var (i := 2) rfl (.inl rfl))) (Xp.w (xp_str (l := [97, 98, 99, 100, 101, 102, 103, 104, 105, 106, 107, 108, 109, 110, 111, 112, 113, 114, 115, 116, 117, 118, 119, 120, 121, 122, 48, 49, 50, 51, 52, 53, 54, 55, 56, 57, 45, 95, 46, 40, 41]) (by decide +kernel))) rfl)), fun s H C cl fp => (xp_var (i := 2) rfl (.inl rfl))⟩)) (Xp.w (xp_list false xa_nil))))))
abbrev st__law_due : Stmt := top 50
theorem sc__law_due : FnScope ["mark", "way", "value", "found"] ["mark", "way", "value"] (defScope st__law_due) := ⟨rfl, rfl, rfl, by decide +kernel, rfl, by decide +kernel, by decide +kernel⟩
noncomputable def mb__law_due : MS := (sSeq (sIf (eNot (eCall m__law_is_name (aCons (eVar 2) (aCons (eC (.int 150)) aNil)))) (sRet (eC (.bl false))) sNx) (sSeq (sAsg 3 (eCall m__law_read (aCons (eVar 0) (aCons (eVar 2) aNil)))) (sRet (eOr (op2 eqD (eVar 1) (eC (.str [110, 101, 115, 116]))) (eOr (op1 (isB none) (eVar 3)) (op2 ltD (op2 ixD (eVar 3) (eC (.int 1))) (op2 powD (eC (.int 10)) (eC (.int 14)))))))))
noncomputable def m__law_due : MF := mDef 4 mb__law_due
theorem ok__law_due {f : Addr} {fd : FuncData} (F : Fun K "_law_due" "_law_due" st__law_due f fd) (T : Tx K mg) (hN : ∃ mm, base.Ns sysModules mm) (o__law_is_name : OwnG P w K mg base 1 "_law_is_name" 2 m__law_is_name) (o__law_read : OwnG P w K mg base 1 "_law_read" 2 m__law_read) : FnG P w K mg base 2 f fd ["mark", "way", "value"] (spM ⟨P, w, K, mg⟩ m__law_due 3) := by
  refine fnMG F sc__law_due mb__law_due fun cdv A outer s H E hG hr => ?_
  exact (sms_cons (sm_if (xt_not (xt_val (xp_ownG o__law_is_name hG (hr.mono (by decide)) (takes_of rfl rfl rfl rfl) (xa_cons (xp_var (i := 2) rfl (.inl rfl)) (xa_cons xp_int xa_nil)) rfl (len_cons (len_cons len_nil))))) (sms_one (sm_ret xp_bl)) sms_nil)
    (sms_cons (sm_set (i := 3) sc__law_due.nd rfl (.inl rfl) (xp_ownG o__law_read hG (hr.mono (by decide)) (takes_of rfl rfl rfl rfl) (xa_cons (xp_var (i := 0) rfl (.inl rfl)) (xa_cons (xp_var (i := 2) rfl (.inl rfl)) xa_nil)) rfl (len_cons (len_cons len_nil))))
    (sms_one (sm_ret (xp_or (p2 := ⟨0, 0, 0, 0⟩) (xp_eq hr.units (Xp.w (xp_var (i := 1) rfl (.inl rfl))) (Xp.w (xp_str (l := [110, 101, 115, 116]) (by decide +kernel)))) (xp_or (p2 := ⟨0, 0, 0, 0⟩) (xp_isN (xp_var (i := 3) rfl (.inl rfl))) (xp_one (xp_lt (xp_ix (xp_var (i := 3) rfl (.inl rfl)) xp_int (fun _ _ => rfl)) (xp_pow xp_int xp_int)))))))))
abbrev st_Rule___init__ : Stmt := meth (top 36) 0
theorem sc_Rule___init__ : FnScope ["self", "mark", "way"] ["self", "mark", "way"] (defScope st_Rule___init__) := ⟨rfl, rfl, rfl, by decide +kernel, rfl, by decide +kernel, by decide +kernel⟩
noncomputable def mb_Rule___init__ : MS := (sSeq (sDrop (eCall m_need_clear (aCons (eVar 1) aNil))) (sSeq (sIf (eOr (eNot (op1 (isiD "str") (eVar 2))) (op2 ninD (eVar 2) (eTup (aCons (eC (.str [110, 101, 115, 116])) (aCons (eC (.str [99, 108, 105, 109, 98])) aNil))))) sStuck sNx) (sSeq (sFst "Rule" "rule_mark" (eVar 0) (eVar 1)) (sFst "Rule" "rule_way" (eVar 0) (eVar 2)))))
noncomputable def m_Rule___init__ : MF := mDef 3 mb_Rule___init__
theorem ok_Rule___init__ {f : Addr} {fd : FuncData} (F : Fun K "__init__" "Rule.__init__" st_Rule___init__ f fd) (T : Tx K mg) (hN : ∃ mm, base.Ns sysModules mm) (o_need_clear : OwnG P w K mg base 5 "need_clear" 1 m_need_clear) (f_Rule_rule_mark : FldOk K mg "Rule" "rule_mark") (f_Rule_rule_way : FldOk K mg "Rule" "rule_way") : FnG P w K mg base 6 f fd ["self", "mark", "way"] (spM ⟨P, w, K, mg⟩ m_Rule___init__ 3) := by
  refine fnMG F sc_Rule___init__ mb_Rule___init__ fun cdv A outer s H E hG hr => ?_
  obtain ⟨tk_CLIMB, g_CLIMB⟩ := T.c_CLIMB
  obtain ⟨tk_NEST, g_NEST⟩ := T.c_NEST
  exact (sms_cons (sm_expr (xp_ownG o_need_clear hG (hr.mono (by decide)) (takes_of rfl rfl rfl rfl) (xa_cons (xp_var (i := 1) rfl (.inl rfl)) xa_nil) rfl (len_cons len_nil)))
    (sms_cons (sm_if (Xw.t (xw_or (xt_not (xt_val (xp_isi rfl T.b_isinstance rfl T.b_str bo_str (xp_var (i := 2) rfl (.inl rfl))))) (xw_or1 (xt_ninGG (l1 := [110, 101, 115, 116]) (l2 := [99, 108, 105, 109, 98]) (by decide +kernel) (by decide +kernel) (Xp.w (xp_var (i := 2) rfl (.inl rfl))) rfl g_NEST rfl g_CLIMB)))) (sms_one sm_stuck) sms_nil)
    (sms_cons (sm_fst f_Rule_rule_mark (xp_var (i := 0) rfl (.inl rfl)) (xp_var (i := 1) rfl (.inl rfl)))
    (sms_one (sm_fst f_Rule_rule_way (xp_var (i := 0) rfl (.inl rfl)) (xp_var (i := 2) rfl (.inl rfl)))))))
abbrev st_law : Stmt := top 51
theorem sc_law : FnScope ["script", "k", "box", "mark", "number", "high", "some", "way", "value"] ["script"] (defScope st_law) := ⟨rfl, rfl, rfl, by decide +kernel, rfl, by decide +kernel, by decide +kernel⟩
noncomputable def mb_law : MS := (sSeq (sFor (tgN 1) (wR1 (eBi maxB (aCons (eC (.int 2)) (aCons (eBi minB (aCons (eC (.int 10)) (aCons (eBi lenB (aCons (eVar 0) aNil)) aNil))) aNil)))) (sSeq (sAsg 2 (eCall m__law_box (aCons (eCall m__law_cell (aCons (eVar 0) (aCons (eVar 1) aNil))) aNil))) (sSeq (sAsg 3 (eCall m__law_mark (aCons (eVar 2) aNil))) (sSeq (sAsg 4 (op2 ixD (eList false (aCons (op2 powD (eC (.int 10)) (eC (.int 14))) (aCons (op2 subD (op2 powD (eC (.int 10)) (eC (.int 14))) (eC (.int 1))) (aCons (op2 subD (op2 powD (eC (.int 10)) (eC (.int 15))) (eC (.int 1))) (aCons (op2 (addD false) (op2 powD (eC (.int 10)) (eC (.int 14))) (eCall m__law_take (aCons (eVar 2) (aCons (op2 powD (eC (.int 10)) (eC (.int 14))) aNil)))) aNil))))) (eCall m__law_take (aCons (eVar 2) (aCons (eC (.int 4)) aNil))))) (sSeq (sAsg 5 (eCall m__law_put (aCons (eVar 3) (aCons (eCall m__law_stem (aCons (eVar 2) aNil)) (aCons (eVar 4) aNil))))) (sSeq (sAsg 6 (eList false (aCons (eVar 5) (aCons (eCall m__law_put (aCons (eVar 3) (aCons (eVar 5) (aCons (eC (.int 2)) aNil)))) (aCons (eCall m__law_put (aCons (eVar 3) (aCons (eCall m__law_stem (aCons (eVar 2) aNil)) (aCons (op2 subD (op2 powD (eC (.int 10)) (eC (.int 14))) (eC (.int 1))) aNil)))) (aCons (op2 (addD false) (eVar 5) (eC (.str [45]))) (aCons (eCall m__law_odd (aCons (eVar 2) aNil)) aNil))))))) (sSeq (sAsg 6 (op2 (addD false) (eVar 6) (eList false (aCons (eCall m__law_signs (aCons (eVar 2) (aCons (op2 (addD false) (eC (.int 149)) (eCall m__law_take (aCons (eVar 2) (aCons (eC (.int 3)) aNil)))) aNil))) (aCons (op2 (mulD false) (eC (.str [97])) (eC (.int 150))) (aCons (op2 (mulD false) (eC (.str [97])) (eC (.int 151))) (aCons (eCall m__law_odd (aCons (eVar 2) aNil)) (aCons (op2 (addD false) (eCall m__law_stem (aCons (eVar 2) aNil)) (eC (.str [33]))) aNil)))))))) (sFor (tgN 7) (wSeq (eList false (aCons (eC (.str [110, 101, 115, 116])) (aCons (eC (.str [99, 108, 105, 109, 98])) aNil)))) (sFor (tgN 8) (wSeq (eVar 6)) (sIf (op2 neD (eBi reprBD (aCons (eCall m_is_wish (aCons (eMake "Rule" m_Rule___init__ (aCons (eVar 3) (aCons (eVar 7) aNil))) (aCons (eVar 8) aNil))) aNil)) (eBi reprBD (aCons (eCall m__law_due (aCons (eVar 3) (aCons (eVar 7) (aCons (eVar 8) aNil)))) aNil))) (sRet (eC (.bl false))) sNx)))))))))) (sRet (eC (.bl true))))
noncomputable def m_law : MF := mDef 9 mb_law
theorem ok_law {f : Addr} {fd : FuncData} (F : Fun K "law" "law" st_law f fd) (T : Tx K mg) (hN : ∃ mm, base.Ns sysModules mm) (o__law_box : OwnG P w K mg base 1 "_law_box" 1 m__law_box) (o__law_cell : OwnG P w K mg base 1 "_law_cell" 2 m__law_cell) (o__law_mark : OwnG P w K mg base 3 "_law_mark" 1 m__law_mark) (o__law_take : OwnG P w K mg base 1 "_law_take" 2 m__law_take) (o__law_put : OwnG P w K mg base 1 "_law_put" 3 m__law_put) (o__law_stem : OwnG P w K mg base 3 "_law_stem" 1 m__law_stem) (o__law_odd : OwnG P w K mg base 2 "_law_odd" 1 m__law_odd) (o__law_signs : OwnG P w K mg base 2 "_law_signs" 2 m__law_signs) (o_is_wish : OwnG P w K mg base 8 "is_wish" 2 m_is_wish) (o__law_due : OwnG P w K mg base 2 "_law_due" 3 m__law_due) (i_Rule : OwnI P w K mg base 6 "Rule" 2 m_Rule___init__) : FnG P w K mg base 9 f fd ["script"] (spM ⟨P, w, K, mg⟩ m_law 1) := by
  refine fnMG F sc_law mb_law fun cdv A outer s H E hG hr => ?_
  exact (sms_cons (sm_for rfl (passes_of rfl) (wk_range1 rfl T.b_range (xp_bi (call_max2 rfl) cb_max rfl T.b_max bo_max (xa_cons xp_int (xa_cons (xp_bi (call_min2 rfl) cb_min rfl T.b_min bo_min (xa_cons xp_int (xa_cons (xp_bi call_len cb_len rfl T.b_len bo_len (xa_cons (xp_var (i := 0) rfl (.inl rfl)) xa_nil)) xa_nil))) xa_nil)))) (tgt_name (i := 1) (own := [1]) sc_law.nd rfl (.inl rfl)) (sms_cons (sm_set (i := 2) sc_law.nd rfl (.inl rfl) (xp_ownG o__law_box hG (hr.mono (by decide)) (takes_of rfl rfl rfl rfl) (xa_cons (xp_ownG o__law_cell hG (hr.mono (by decide)) (takes_of rfl rfl rfl rfl) (xa_cons (xp_var (i := 0) rfl (.inl rfl)) (xa_cons (xp_var (i := 1) rfl (.inl rfl)) xa_nil)) rfl (len_cons (len_cons len_nil))) xa_nil) rfl (len_cons len_nil)))
    (sms_cons (sm_set (i := 3) sc_law.nd rfl (.inl rfl) (xp_ownG o__law_mark hG (hr.mono (by decide)) (takes_of rfl rfl rfl rfl) (xa_cons (xp_var (i := 2) rfl (.inl rfl)) xa_nil) rfl (len_cons len_nil)))
    (sms_cons (sm_set (i := 4) sc_law.nd rfl (.inl rfl) (xp_ix (xp_list false (xa_cons (xp_pow xp_int xp_int) (xa_cons (xp_sub (xp_pow xp_int xp_int) xp_int) (xa_cons (xp_sub (xp_pow xp_int xp_int) xp_int) (xa_cons (xp_add false (xp_pow xp_int xp_int) (xp_ownG o__law_take hG (hr.mono (by decide)) (takes_of rfl rfl rfl rfl) (xa_cons (xp_var (i := 2) rfl (.inl rfl)) (xa_cons (xp_pow xp_int xp_int) xa_nil)) rfl (len_cons (len_cons len_nil)))) xa_nil))))) (xp_ownG o__law_take hG (hr.mono (by decide)) (takes_of rfl rfl rfl rfl) (xa_cons (xp_var (i := 2) rfl (.inl rfl)) (xa_cons xp_int xa_nil)) rfl (len_cons (len_cons len_nil))) (fun _ _ => rfl)))
    (sms_cons (sm_set (i := 5) sc_law.nd rfl (.inl rfl) (xp_ownG o__law_put hG (hr.mono (by decide)) (takes_of rfl rfl rfl rfl) (xa_cons (xp_var (i := 3) rfl (.inl rfl)) (xa_cons (xp_ownG o__law_stem hG (hr.mono (by decide)) (takes_of rfl rfl rfl rfl) (xa_cons (xp_var (i := 2) rfl (.inl rfl)) xa_nil) rfl (len_cons len_nil)) (xa_cons (xp_var (i := 4) rfl (.inl rfl)) xa_nil))) rfl (len_cons (len_cons (len_cons len_nil)))))
    (sms_cons (sm_set (i := 6) sc_law.nd rfl (.inl rfl) (xp_list false (xa_cons (xp_var (i := 5) rfl (.inl rfl)) (xa_cons (xp_ownG o__law_put hG (hr.mono (by decide)) (takes_of rfl rfl rfl rfl) (xa_cons (xp_var (i := 3) rfl (.inl rfl)) (xa_cons (xp_var (i := 5) rfl (.inl rfl)) (xa_cons xp_int xa_nil))) rfl (len_cons (len_cons (len_cons len_nil)))) (xa_cons (xp_ownG o__law_put hG (hr.mono (by decide)) (takes_of rfl rfl rfl rfl) (xa_cons (xp_var (i := 3) rfl (.inl rfl)) (xa_cons (xp_ownG o__law_stem hG (hr.mono (by decide)) (takes_of rfl rfl rfl rfl) (xa_cons (xp_var (i := 2) rfl (.inl rfl)) xa_nil) rfl (len_cons len_nil)) (xa_cons (xp_sub (xp_pow xp_int xp_int) xp_int) xa_nil))) rfl (len_cons (len_cons (len_cons len_nil)))) (xa_cons (xp_add false (xp_var (i := 5) rfl (.inl rfl)) (xp_str (l := [45]) (by decide +kernel))) (xa_cons (xp_ownG o__law_odd hG (hr.mono (by decide)) (takes_of rfl rfl rfl rfl) (xa_cons (xp_var (i := 2) rfl (.inl rfl)) xa_nil) rfl (len_cons len_nil)) xa_nil)))))))
    (sms_cons (sm_set (i := 6) sc_law.nd rfl (.inl rfl) (xp_add false (xp_var (i := 6) rfl (.inl rfl)) (xp_list false (xa_cons (xp_ownG o__law_signs hG (hr.mono (by decide)) (takes_of rfl rfl rfl rfl) (xa_cons (xp_var (i := 2) rfl (.inl rfl)) (xa_cons (xp_add false xp_int (xp_ownG o__law_take hG (hr.mono (by decide)) (takes_of rfl rfl rfl rfl) (xa_cons (xp_var (i := 2) rfl (.inl rfl)) (xa_cons xp_int xa_nil)) rfl (len_cons (len_cons len_nil)))) xa_nil)) rfl (len_cons (len_cons len_nil))) (xa_cons (xp_mul false (xp_str (l := [97]) (by decide +kernel)) xp_int) (xa_cons (xp_mul false (xp_str (l := [97]) (by decide +kernel)) xp_int) (xa_cons (xp_ownG o__law_odd hG (hr.mono (by decide)) (takes_of rfl rfl rfl rfl) (xa_cons (xp_var (i := 2) rfl (.inl rfl)) xa_nil) rfl (len_cons len_nil)) (xa_cons (xp_add false (xp_ownG o__law_stem hG (hr.mono (by decide)) (takes_of rfl rfl rfl rfl) (xa_cons (xp_var (i := 2) rfl (.inl rfl)) xa_nil) rfl (len_cons len_nil)) (xp_str (l := [33]) (by decide +kernel))) xa_nil))))))))
    (sms_one (sm_for rfl (passes_of rfl) (wk_seq (xp_list false (xa_cons (xp_str (l := [110, 101, 115, 116]) (by decide +kernel)) (xa_cons (xp_str (l := [99, 108, 105, 109, 98]) (by decide +kernel)) xa_nil)))) (tgt_name (i := 7) (own := [7]) sc_law.nd rfl (.inl rfl)) (sms_one (sm_for rfl (passes_of rfl) (wk_seq (xp_var (i := 6) rfl (.inl rfl))) (tgt_name (i := 8) (own := [8]) sc_law.nd rfl (.inl rfl)) (sms_one (sm_if (xt_ne hr.units (xp_reprX hG hr hN rfl T.b_repr (xa_cons (xp_ownG o_is_wish hG (hr.mono (by decide)) (takes_of rfl rfl rfl rfl) (xa_cons (xp_make i_Rule hG (hr.mono (by decide)) (takes_of rfl rfl rfl rfl) (xa_cons (xp_var (i := 3) rfl (.inl rfl)) (xa_cons (xp_var (i := 7) rfl (.inl rfl)) xa_nil)) rfl (len_cons (len_cons len_nil))) (xa_cons (xp_var (i := 8) rfl (.inl rfl)) xa_nil)) rfl (len_cons (len_cons len_nil))) xa_nil)) (xp_reprX hG hr hN rfl T.b_repr (xa_cons (xp_ownG o__law_due hG (hr.mono (by decide)) (takes_of rfl rfl rfl rfl) (xa_cons (xp_var (i := 3) rfl (.inl rfl)) (xa_cons (xp_var (i := 7) rfl (.inl rfl)) (xa_cons (xp_var (i := 8) rfl (.inl rfl)) xa_nil))) rfl (len_cons (len_cons (len_cons len_nil)))) xa_nil))) (sms_one (sm_ret xp_bl)) sms_nil)))))))))))))
    (sms_one (sm_ret xp_bl)))
set_option maxHeartbeats 0 in
theorem all_mk {l : PySem.W.OpenLaw} {w : World} {K : PySem.W.Frag} {h : Heap} {mg : Str → Option Value} {fa f1 f2 f3 f4 f5 f6 f7 f8 f9 f10 f11 f12 f13 f14 f15 f16 f17 f18 f19 f20 f21 f22 f23 f24 f25 f26 f27 f28 f29 f30 f31 : Addr} (X : K.In h) (G : h.Ns mainGlobals mg) (hfa : mg "law" = some (.ref fa))
    {od1 an1 od2 an2 od3 an3 od4 an4 od5 an5 od6 an6 od7 an7 od8 an8 od9 an9 od10 an10 od11 an11 od12 an12 od13 an13 od14 an14 od15 an15 od16 an16 od17 an17 od18 an18 od19 an19 od20 an20 od21 an21 od22 an22 od23 an23 od24 an24 od25 an25 od26 an26 od27 an27 od28 an28 od29 an29 od30 an30 od31 an31 : Option Addr} {sl1 sl2 sl3 sl4 sl5 sl6 sl7 sl8 sl9 sl10 sl11 sl12 sl13 sl14 sl15 sl16 sl17 sl18 sl19 sl20 sl21 sl22 sl23 sl24 sl25 sl26 sl27 sl28 sl29 sl30 sl31 : Array (Option Value)} {oc1 kV1 dc1 pm1 cd1 ct1 oc2 kV2 dc2 pm2 cd2 ct2 oc3 kV3 dc3 pm3 cd3 ct3 oc4 kV4 dc4 pm4 cd4 ct4 oc5 kV5 dc5 pm5 cd5 ct5 oc6 kV6 dc6 pm6 cd6 ct6 oc7 kV7 dc7 pm7 cd7 ct7 oc8 kV8 dc8 pm8 cd8 ct8 oc9 kV9 dc9 pm9 cd9 ct9 oc10 kV10 dc10 pm10 cd10 ct10 oc11 kV11 dc11 pm11 cd11 ct11 oc12 kV12 dc12 pm12 cd12 ct12 oc13 kV13 dc13 pm13 cd13 ct13 oc14 kV14 dc14 pm14 cd14 ct14 oc15 kV15 dc15 pm15 cd15 ct15 oc16 kV16 dc16 pm16 cd16 ct16 oc17 kV17 dc17 pm17 cd17 ct17 oc18 kV18 dc18 pm18 cd18 ct18 oc19 kV19 dc19 pm19 cd19 ct19 oc20 kV20 dc20 pm20 cd20 ct20 oc21 kV21 dc21 pm21 cd21 ct21 oc22 kV22 dc22 pm22 cd22 ct22 oc23 kV23 dc23 pm23 cd23 ct23 oc24 kV24 dc24 pm24 cd24 ct24 oc25 kV25 dc25 pm25 cd25 ct25 oc26 kV26 dc26 pm26 cd26 ct26 oc27 kV27 dc27 pm27 cd27 ct27 oc28 kV28 dc28 pm28 cd28 ct28 oc29 kV29 dc29 pm29 cd29 ct29 oc30 kV30 dc30 pm30 cd30 ct30 oc31 kV31 dc31 pm31 cd31 ct31 : Value} {t_CLIMB t_FIGURES t_GREATEST_WISH t_HASH t_LONGEST_MARK t_LONGEST_NAME t_LONGEST_WISH t_MOST_FIGURES t_NEST t_SIGNS t_STAR : Tok} {C_Rule : Addr} {cd_Rule : ClassData}
    (a1 : PySem.W.nsIn K mainGlobals "_law_box" = some (some (.ref f1))) (l1 : K.lookup f1 = some ⟨oc1, od1, .func (PySem.W.fnOf "_law_box" "_law_box" (defArgs st__law_box) (defBody st__law_box) (defScope st__law_box) .none kV1 dc1 pm1 an1 cd1 ct1), sl1⟩) (c1 : PySem.W.codeIn K cd1 "_law_box" = true) (k1 : PySem.W.keepIn K (.ref f1) = true)
    (a2 : PySem.W.nsIn K mainGlobals "_law_take" = some (some (.ref f2))) (l2 : K.lookup f2 = some ⟨oc2, od2, .func (PySem.W.fnOf "_law_take" "_law_take" (defArgs st__law_take) (defBody st__law_take) (defScope st__law_take) .none kV2 dc2 pm2 an2 cd2 ct2), sl2⟩) (c2 : PySem.W.codeIn K cd2 "_law_take" = true) (k2 : PySem.W.keepIn K (.ref f2) = true)
    (a3 : PySem.W.nsIn K mainGlobals "_law_signs" = some (some (.ref f3))) (l3 : K.lookup f3 = some ⟨oc3, od3, .func (PySem.W.fnOf "_law_signs" "_law_signs" (defArgs st__law_signs) (defBody st__law_signs) (defScope st__law_signs) .none kV3 dc3 pm3 an3 cd3 ct3), sl3⟩) (c3 : PySem.W.codeIn K cd3 "_law_signs" = true) (k3 : PySem.W.keepIn K (.ref f3) = true)
    (a4 : PySem.W.nsIn K mainGlobals "_law_mark" = some (some (.ref f4))) (l4 : K.lookup f4 = some ⟨oc4, od4, .func (PySem.W.fnOf "_law_mark" "_law_mark" (defArgs st__law_mark) (defBody st__law_mark) (defScope st__law_mark) .none kV4 dc4 pm4 an4 cd4 ct4), sl4⟩) (c4 : PySem.W.codeIn K cd4 "_law_mark" = true) (k4 : PySem.W.keepIn K (.ref f4) = true)
    (a5 : PySem.W.nsIn K mainGlobals "_law_put" = some (some (.ref f5))) (l5 : K.lookup f5 = some ⟨oc5, od5, .func (PySem.W.fnOf "_law_put" "_law_put" (defArgs st__law_put) (defBody st__law_put) (defScope st__law_put) .none kV5 dc5 pm5 an5 cd5 ct5), sl5⟩) (c5 : PySem.W.codeIn K cd5 "_law_put" = true) (k5 : PySem.W.keepIn K (.ref f5) = true)
    (a6 : PySem.W.nsIn K mainGlobals "_law_cell" = some (some (.ref f6))) (l6 : K.lookup f6 = some ⟨oc6, od6, .func (PySem.W.fnOf "_law_cell" "_law_cell" (defArgs st__law_cell) (defBody st__law_cell) (defScope st__law_cell) .none kV6 dc6 pm6 an6 cd6 ct6), sl6⟩) (c6 : PySem.W.codeIn K cd6 "_law_cell" = true) (k6 : PySem.W.keepIn K (.ref f6) = true)
    (a7 : PySem.W.nsIn K mainGlobals "_law_stem" = some (some (.ref f7))) (l7 : K.lookup f7 = some ⟨oc7, od7, .func (PySem.W.fnOf "_law_stem" "_law_stem" (defArgs st__law_stem) (defBody st__law_stem) (defScope st__law_stem) .none kV7 dc7 pm7 an7 cd7 ct7), sl7⟩) (c7 : PySem.W.codeIn K cd7 "_law_stem" = true) (k7 : PySem.W.keepIn K (.ref f7) = true)
    (a8 : PySem.W.nsIn K mainGlobals "_law_odd" = some (some (.ref f8))) (l8 : K.lookup f8 = some ⟨oc8, od8, .func (PySem.W.fnOf "_law_odd" "_law_odd" (defArgs st__law_odd) (defBody st__law_odd) (defScope st__law_odd) .none kV8 dc8 pm8 an8 cd8 ct8), sl8⟩) (c8 : PySem.W.codeIn K cd8 "_law_odd" = true) (k8 : PySem.W.keepIn K (.ref f8) = true)
    (a9 : PySem.W.nsIn K mainGlobals "need_rule" = some (some (.ref f9))) (l9 : K.lookup f9 = some ⟨oc9, od9, .func (PySem.W.fnOf "need_rule" "need_rule" (defArgs st_need_rule) (defBody st_need_rule) (defScope st_need_rule) .none kV9 dc9 pm9 an9 cd9 ct9), sl9⟩) (c9 : PySem.W.codeIn K cd9 "need_rule" = true) (k9 : PySem.W.keepIn K (.ref f9) = true)
    (a10 : PySem.W.nsIn K mainGlobals "is_mark" = some (some (.ref f10))) (l10 : K.lookup f10 = some ⟨oc10, od10, .func (PySem.W.fnOf "is_mark" "is_mark" (defArgs st_is_mark) (defBody st_is_mark) (defScope st_is_mark) .none kV10 dc10 pm10 an10 cd10 ct10), sl10⟩) (c10 : PySem.W.codeIn K cd10 "is_mark" = true) (k10 : PySem.W.keepIn K (.ref f10) = true)
    (a11 : PySem.W.nsIn K mainGlobals "need_mark" = some (some (.ref f11))) (l11 : K.lookup f11 = some ⟨oc11, od11, .func (PySem.W.fnOf "need_mark" "need_mark" (defArgs st_need_mark) (defBody st_need_mark) (defScope st_need_mark) .none kV11 dc11 pm11 an11 cd11 ct11), sl11⟩) (c11 : PySem.W.codeIn K cd11 "need_mark" = true) (k11 : PySem.W.keepIn K (.ref f11) = true)
    (a12 : PySem.W.nsIn K mainGlobals "parts" = some (some (.ref f12))) (l12 : K.lookup f12 = some ⟨oc12, od12, .func (PySem.W.fnOf "parts" "parts" (defArgs st_parts) (defBody st_parts) (defScope st_parts) .none kV12 dc12 pm12 an12 cd12 ct12), sl12⟩) (c12 : PySem.W.codeIn K cd12 "parts" = true) (k12 : PySem.W.keepIn K (.ref f12) = true)
    (a13 : PySem.W.nsIn K mainGlobals "is_clear" = some (some (.ref f13))) (l13 : K.lookup f13 = some ⟨oc13, od13, .func (PySem.W.fnOf "is_clear" "is_clear" (defArgs st_is_clear) (defBody st_is_clear) (defScope st_is_clear) .none kV13 dc13 pm13 an13 cd13 ct13), sl13⟩) (c13 : PySem.W.codeIn K cd13 "is_clear" = true) (k13 : PySem.W.keepIn K (.ref f13) = true)
    (a14 : PySem.W.nsIn K mainGlobals "name_first" = some (some (.ref f14))) (l14 : K.lookup f14 = some ⟨oc14, od14, .func (PySem.W.fnOf "name_first" "name_first" (defArgs st_name_first) (defBody st_name_first) (defScope st_name_first) .none kV14 dc14 pm14 an14 cd14 ct14), sl14⟩) (c14 : PySem.W.codeIn K cd14 "name_first" = true) (k14 : PySem.W.keepIn K (.ref f14) = true)
    (a15 : PySem.W.nsIn K mainGlobals "two_readings" = some (some (.ref f15))) (l15 : K.lookup f15 = some ⟨oc15, od15, .func (PySem.W.fnOf "two_readings" "two_readings" (defArgs st_two_readings) (defBody st_two_readings) (defScope st_two_readings) .none kV15 dc15 pm15 an15 cd15 ct15), sl15⟩) (c15 : PySem.W.codeIn K cd15 "two_readings" = true) (k15 : PySem.W.keepIn K (.ref f15) = true)
    (a16 : PySem.W.nsIn K mainGlobals "need_clear" = some (some (.ref f16))) (l16 : K.lookup f16 = some ⟨oc16, od16, .func (PySem.W.fnOf "need_clear" "need_clear" (defArgs st_need_clear) (defBody st_need_clear) (defScope st_need_clear) .none kV16 dc16 pm16 an16 cd16 ct16), sl16⟩) (c16 : PySem.W.codeIn K cd16 "need_clear" = true) (k16 : PySem.W.keepIn K (.ref f16) = true)
    (a17 : PySem.W.nsIn K mainGlobals "is_name" = some (some (.ref f17))) (l17 : K.lookup f17 = some ⟨oc17, od17, .func (PySem.W.fnOf "is_name" "is_name" (defArgs st_is_name) (defBody st_is_name) (defScope st_is_name) .none kV17 dc17 pm17 an17 cd17 ct17), sl17⟩) (c17 : PySem.W.codeIn K cd17 "is_name" = true) (k17 : PySem.W.keepIn K (.ref f17) = true)
    (a18 : PySem.W.nsIn K mainGlobals "need_name" = some (some (.ref f18))) (l18 : K.lookup f18 = some ⟨oc18, od18, .func (PySem.W.fnOf "need_name" "need_name" (defArgs st_need_name) (defBody st_need_name) (defScope st_need_name) .none kV18 dc18 pm18 an18 cd18 ct18), sl18⟩) (c18 : PySem.W.codeIn K cd18 "need_name" = true) (k18 : PySem.W.keepIn K (.ref f18) = true)
    (a19 : PySem.W.nsIn K mainGlobals "number_in" = some (some (.ref f19))) (l19 : K.lookup f19 = some ⟨oc19, od19, .func (PySem.W.fnOf "number_in" "number_in" (defArgs st_number_in) (defBody st_number_in) (defScope st_number_in) .none kV19 dc19 pm19 an19 cd19 ct19), sl19⟩) (c19 : PySem.W.codeIn K cd19 "number_in" = true) (k19 : PySem.W.keepIn K (.ref f19) = true)
    (a20 : PySem.W.nsIn K mainGlobals "both_in" = some (some (.ref f20))) (l20 : K.lookup f20 = some ⟨oc20, od20, .func (PySem.W.fnOf "both_in" "both_in" (defArgs st_both_in) (defBody st_both_in) (defScope st_both_in) .none kV20 dc20 pm20 an20 cd20 ct20), sl20⟩) (c20 : PySem.W.codeIn K cd20 "both_in" = true) (k20 : PySem.W.keepIn K (.ref f20) = true)
    (a21 : PySem.W.nsIn K mainGlobals "number_ahead" = some (some (.ref f21))) (l21 : K.lookup f21 = some ⟨oc21, od21, .func (PySem.W.fnOf "number_ahead" "number_ahead" (defArgs st_number_ahead) (defBody st_number_ahead) (defScope st_number_ahead) .none kV21 dc21 pm21 an21 cd21 ct21), sl21⟩) (c21 : PySem.W.codeIn K cd21 "number_ahead" = true) (k21 : PySem.W.keepIn K (.ref f21) = true)
    (a22 : PySem.W.nsIn K mainGlobals "number_behind" = some (some (.ref f22))) (l22 : K.lookup f22 = some ⟨oc22, od22, .func (PySem.W.fnOf "number_behind" "number_behind" (defArgs st_number_behind) (defBody st_number_behind) (defScope st_number_behind) .none kV22 dc22 pm22 an22 cd22 ct22), sl22⟩) (c22 : PySem.W.codeIn K cd22 "number_behind" = true) (k22 : PySem.W.keepIn K (.ref f22) = true)
    (a23 : PySem.W.nsIn K mainGlobals "reading" = some (some (.ref f23))) (l23 : K.lookup f23 = some ⟨oc23, od23, .func (PySem.W.fnOf "reading" "reading" (defArgs st_reading) (defBody st_reading) (defScope st_reading) .none kV23 dc23 pm23 an23 cd23 ct23), sl23⟩) (c23 : PySem.W.codeIn K cd23 "reading" = true) (k23 : PySem.W.keepIn K (.ref f23) = true)
    (y24 : PySem.W.isFn K (.ref f24) = true) (a24 : PySem.W.findIn K (.ref C_Rule) "read" = some (some (.ref f24))) (l24 : K.lookup f24 = some ⟨oc24, od24, .func (PySem.W.fnOf "read" "Rule.read" (defArgs st_Rule_read) (defBody st_Rule_read) (defScope st_Rule_read) .none kV24 dc24 pm24 an24 cd24 ct24), sl24⟩) (c24 : PySem.W.codeIn K cd24 "Rule.read" = true) (k24 : PySem.W.keepIn K (.ref f24) = true)
    (y25 : PySem.W.isFn K (.ref f25) = true) (a25 : PySem.W.findIn K (.ref C_Rule) "way" = some (some (.ref f25))) (l25 : K.lookup f25 = some ⟨oc25, od25, .func (PySem.W.fnOf "way" "Rule.way" (defArgs st_Rule_way) (defBody st_Rule_way) (defScope st_Rule_way) .none kV25 dc25 pm25 an25 cd25 ct25), sl25⟩) (c25 : PySem.W.codeIn K cd25 "Rule.way" = true) (k25 : PySem.W.keepIn K (.ref f25) = true)
    (a26 : PySem.W.nsIn K mainGlobals "is_wish" = some (some (.ref f26))) (l26 : K.lookup f26 = some ⟨oc26, od26, .func (PySem.W.fnOf "is_wish" "is_wish" (defArgs st_is_wish) (defBody st_is_wish) (defScope st_is_wish) .none kV26 dc26 pm26 an26 cd26 ct26), sl26⟩) (c26 : PySem.W.codeIn K cd26 "is_wish" = true) (k26 : PySem.W.keepIn K (.ref f26) = true)
    (a27 : PySem.W.nsIn K mainGlobals "_law_read" = some (some (.ref f27))) (l27 : K.lookup f27 = some ⟨oc27, od27, .func (PySem.W.fnOf "_law_read" "_law_read" (defArgs st__law_read) (defBody st__law_read) (defScope st__law_read) .none kV27 dc27 pm27 an27 cd27 ct27), sl27⟩) (c27 : PySem.W.codeIn K cd27 "_law_read" = true) (k27 : PySem.W.keepIn K (.ref f27) = true)
    (a28 : PySem.W.nsIn K mainGlobals "_law_is_name" = some (some (.ref f28))) (l28 : K.lookup f28 = some ⟨oc28, od28, .func (PySem.W.fnOf "_law_is_name" "_law_is_name" (defArgs st__law_is_name) (defBody st__law_is_name) (defScope st__law_is_name) .none kV28 dc28 pm28 an28 cd28 ct28), sl28⟩) (c28 : PySem.W.codeIn K cd28 "_law_is_name" = true) (k28 : PySem.W.keepIn K (.ref f28) = true)
    (a29 : PySem.W.nsIn K mainGlobals "_law_due" = some (some (.ref f29))) (l29 : K.lookup f29 = some ⟨oc29, od29, .func (PySem.W.fnOf "_law_due" "_law_due" (defArgs st__law_due) (defBody st__law_due) (defScope st__law_due) .none kV29 dc29 pm29 an29 cd29 ct29), sl29⟩) (c29 : PySem.W.codeIn K cd29 "_law_due" = true) (k29 : PySem.W.keepIn K (.ref f29) = true)
    (y30 : PySem.W.isFn K (.ref f30) = true) (a30 : PySem.W.findIn K (.ref C_Rule) "__init__" = some (some (.ref f30))) (l30 : K.lookup f30 = some ⟨oc30, od30, .func (PySem.W.fnOf "__init__" "Rule.__init__" (defArgs st_Rule___init__) (defBody st_Rule___init__) (defScope st_Rule___init__) .none kV30 dc30 pm30 an30 cd30 ct30), sl30⟩) (c30 : PySem.W.codeIn K cd30 "Rule.__init__" = true) (k30 : PySem.W.keepIn K (.ref f30) = true)
    (a31 : PySem.W.nsIn K mainGlobals "law" = some (some (.ref f31))) (l31 : K.lookup f31 = some ⟨oc31, od31, .func (PySem.W.fnOf "law" "law" (defArgs st_law) (defBody st_law) (defScope st_law) .none kV31 dc31 pm31 an31 cd31 ct31), sl31⟩) (c31 : PySem.W.codeIn K cd31 "law" = true) (k31 : PySem.W.keepIn K (.ref f31) = true)
    (n_Rule : PySem.W.nsIn K mainGlobals "Rule" = some (some (.ref C_Rule))) (t_Rule : PySem.W.typeIn K (.ref C_Rule) = some (.type "type")) (d_Rule : PySem.W.clsIn K C_Rule = some cd_Rule)
    (pg_Rule : PySem.W.plainGet K C_Rule Str.empty = true) (hd_Rule : PySem.W.hasDictIn K C_Rule = true) (po_Rule : PySem.W.plainOver K C_Rule = true) (sa_Rule : PySem.W.findIn K (.ref C_Rule) "__setattr__" = some (some (.builtin "object.__setattr__")))
    (mk_Rule : PySem.W.makesIn K C_Rule = true) (kp_Rule : PySem.W.keepIn K (.ref C_Rule) = true)
    (fl_Rule_rule_mark : PySem.W.findIn K (.ref C_Rule) "rule_mark" = some none)
    (fl_Rule_rule_way : PySem.W.findIn K (.ref C_Rule) "rule_way" = some none)
    (ha_Rule : PySem.W.findIn K (.ref C_Rule) "__class__" = some (some (.builtin "object.__class__"))) (hn_Rule : PySem.W.specialIn K (.builtin "object.__class__") "__get__" = some (some (.builtin "getset_descriptor.__get__"))) (ht_Rule : PySem.W.takesIn K (.builtin "object.__class__") = some true) (hm_Rule : PySem.W.mroIn K C_Rule (.type "object") = some true)
    (s_Rule_NoneType : PySem.W.subIn K (.type "NoneType") (.ref C_Rule) = some false) (s_Rule_bool : PySem.W.subIn K (.type "bool") (.ref C_Rule) = some false) (s_Rule_int : PySem.W.subIn K (.type "int") (.ref C_Rule) = some false) (s_Rule_str : PySem.W.subIn K (.type "str") (.ref C_Rule) = some false) (s_Rule_list : PySem.W.subIn K (.type "list") (.ref C_Rule) = some false) (s_Rule_tuple : PySem.W.subIn K (.type "tuple") (.ref C_Rule) = some false) (s_Rule_dict : PySem.W.subIn K (.type "dict") (.ref C_Rule) = some false)
    (z_all : PySem.W.nsIn K mainGlobals "all" = some none) (z_int : PySem.W.nsIn K mainGlobals "int" = some none) (z_isinstance : PySem.W.nsIn K mainGlobals "isinstance" = some none) (z_len : PySem.W.nsIn K mainGlobals "len" = some none) (z_max : PySem.W.nsIn K mainGlobals "max" = some none) (z_min : PySem.W.nsIn K mainGlobals "min" = some none) (z_range : PySem.W.nsIn K mainGlobals "range" = some none) (z_repr : PySem.W.nsIn K mainGlobals "repr" = some none) (z_sorted : PySem.W.nsIn K mainGlobals "sorted" = some none) (z_str : PySem.W.nsIn K mainGlobals "str" = some none) (z_CLIMB : PySem.W.nsIn K mainGlobals "CLIMB" = some (some (.str "climb" t_CLIMB))) (z_FIGURES : PySem.W.nsIn K mainGlobals "FIGURES" = some (some (.str "0123456789" t_FIGURES))) (z_GREATEST_WISH : PySem.W.nsIn K mainGlobals "GREATEST_WISH" = some (some (.int 99999999999999 t_GREATEST_WISH))) (z_HASH : PySem.W.nsIn K mainGlobals "HASH" = some (some (.str "#" t_HASH))) (z_LONGEST_MARK : PySem.W.nsIn K mainGlobals "LONGEST_MARK" = some (some (.int 12 t_LONGEST_MARK))) (z_LONGEST_NAME : PySem.W.nsIn K mainGlobals "LONGEST_NAME" = some (some (.int 200 t_LONGEST_NAME))) (z_LONGEST_WISH : PySem.W.nsIn K mainGlobals "LONGEST_WISH" = some (some (.int 150 t_LONGEST_WISH))) (z_MOST_FIGURES : PySem.W.nsIn K mainGlobals "MOST_FIGURES" = some (some (.int 15 t_MOST_FIGURES))) (z_NEST : PySem.W.nsIn K mainGlobals "NEST" = some (some (.str "nest" t_NEST))) (z_SIGNS : PySem.W.nsIn K mainGlobals "SIGNS" = some (some (.str "abcdefghijklmnopqrstuvwxyz0123456789-_.()" t_SIGNS))) (z_STAR : PySem.W.nsIn K mainGlobals "STAR" = some (some (.str "*" t_STAR)))
    (pure : ∀ ns : List Int, ns.length ≤ 63 → (∀ z ∈ ns, Builtin.Int.intBits z ≤ 1048576) → ∃ cs, m_law [.scr ns] [] = .ok (.bl true) cs) :
    ∃ fd : FuncData, (∀ (s : Shared) (v : Value), BindsTo s fd ⟨[v], []⟩ [("script", v)]) ∧ One fd ["script"] ∧ ∀ base : Heap, K.In base → base.Ns mainGlobals mg → (∃ mm, base.Ns sysModules mm) → FnG l.prog w K mg base 9 fa fd ["script"] (spLaw K) := by
  have e := hfa.symm.trans (PySem.W.mg_of X G a31)
  cases e
  have T : Tx K mg := ⟨PySem.W.mg_none_of X G z_all, PySem.W.mg_none_of X G z_int, PySem.W.mg_none_of X G z_isinstance, PySem.W.mg_none_of X G z_len, PySem.W.mg_none_of X G z_max, PySem.W.mg_none_of X G z_min, PySem.W.mg_none_of X G z_range, PySem.W.mg_none_of X G z_repr, PySem.W.mg_none_of X G z_sorted, PySem.W.mg_none_of X G z_str, ⟨_, PySem.W.mg_of X G z_CLIMB⟩, ⟨_, PySem.W.mg_of X G z_FIGURES⟩, ⟨_, PySem.W.mg_of X G z_GREATEST_WISH⟩, ⟨_, PySem.W.mg_of X G z_HASH⟩, ⟨_, PySem.W.mg_of X G z_LONGEST_MARK⟩, ⟨_, PySem.W.mg_of X G z_LONGEST_NAME⟩, ⟨_, PySem.W.mg_of X G z_LONGEST_WISH⟩, ⟨_, PySem.W.mg_of X G z_MOST_FIGURES⟩, ⟨_, PySem.W.mg_of X G z_NEST⟩, ⟨_, PySem.W.mg_of X G z_SIGNS⟩, ⟨_, PySem.W.mg_of X G z_STAR⟩⟩
  have m_Rule := PySem.W.mg_of X G n_Rule
  have CL_Rule : Cls K C_Rule := ⟨pg_Rule, hd_Rule, po_Rule, sa_Rule⟩
  have FL_Rule_rule_mark : FldOk K mg "Rule" "rule_mark" := ⟨_, m_Rule, CL_Rule, fl_Rule_rule_mark⟩
  have FL_Rule_rule_way : FldOk K mg "Rule" "rule_way" := ⟨_, m_Rule, CL_Rule, fl_Rule_rule_way⟩
  have NI_Rule : InsF K mg "Rule" := insF_mk m_Rule CL_Rule ha_Rule hn_Rule ht_Rule hm_Rule d_Rule t_Rule s_Rule_NoneType s_Rule_bool s_Rule_int s_Rule_str s_Rule_list s_Rule_tuple s_Rule_dict
  have F1 := fun_mk (st := st__law_box) l1 c1 k1
  have b1 := F1.binds (ps := ["cell"]) fun _ _ _ _ _ _ us hl => match us, hl with | [_], _ => rfl
  have F2 := fun_mk (st := st__law_take) l2 c2 k2
  have b2 := F2.binds (ps := ["box", "many"]) fun _ _ _ _ _ _ us hl => match us, hl with | [_, _], _ => rfl
  have F3 := fun_mk (st := st__law_signs) l3 c3 k3
  have b3 := F3.binds (ps := ["box", "many"]) fun _ _ _ _ _ _ us hl => match us, hl with | [_, _], _ => rfl
  have F4 := fun_mk (st := st__law_mark) l4 c4 k4
  have b4 := F4.binds (ps := ["box"]) fun _ _ _ _ _ _ us hl => match us, hl with | [_], _ => rfl
  have F5 := fun_mk (st := st__law_put) l5 c5 k5
  have b5 := F5.binds (ps := ["mark", "name", "number"]) fun _ _ _ _ _ _ us hl => match us, hl with | [_, _, _], _ => rfl
  have F6 := fun_mk (st := st__law_cell) l6 c6 k6
  have b6 := F6.binds (ps := ["script", "k"]) fun _ _ _ _ _ _ us hl => match us, hl with | [_, _], _ => rfl
  have F7 := fun_mk (st := st__law_stem) l7 c7 k7
  have b7 := F7.binds (ps := ["box"]) fun _ _ _ _ _ _ us hl => match us, hl with | [_], _ => rfl
  have F8 := fun_mk (st := st__law_odd) l8 c8 k8
  have b8 := F8.binds (ps := ["box"]) fun _ _ _ _ _ _ us hl => match us, hl with | [_], _ => rfl
  have F9 := fun_mk (st := st_need_rule) l9 c9 k9
  have b9 := F9.binds (ps := ["rule"]) fun _ _ _ _ _ _ us hl => match us, hl with | [_], _ => rfl
  have F10 := fun_mk (st := st_is_mark) l10 c10 k10
  have b10 := F10.binds (ps := ["value"]) fun _ _ _ _ _ _ us hl => match us, hl with | [_], _ => rfl
  have F11 := fun_mk (st := st_need_mark) l11 c11 k11
  have b11 := F11.binds (ps := ["mark"]) fun _ _ _ _ _ _ us hl => match us, hl with | [_], _ => rfl
  have F12 := fun_mk (st := st_parts) l12 c12 k12
  have b12 := F12.binds (ps := ["mark"]) fun _ _ _ _ _ _ us hl => match us, hl with | [_], _ => rfl
  have F13 := fun_mk (st := st_is_clear) l13 c13 k13
  have b13 := F13.binds (ps := ["mark"]) fun _ _ _ _ _ _ us hl => match us, hl with | [_], _ => rfl
  have F14 := fun_mk (st := st_name_first) l14 c14 k14
  have b14 := F14.binds (ps := ["mark"]) fun _ _ _ _ _ _ us hl => match us, hl with | [_], _ => rfl
  have F15 := fun_mk (st := st_two_readings) l15 c15 k15
  have b15 := F15.binds (ps := ["mark"]) fun _ _ _ _ _ _ us hl => match us, hl with | [_], _ => rfl
  have F16 := fun_mk (st := st_need_clear) l16 c16 k16
  have b16 := F16.binds (ps := ["mark"]) fun _ _ _ _ _ _ us hl => match us, hl with | [_], _ => rfl
  have F17 := fun_mk (st := st_is_name) l17 c17 k17
  have b17 := F17.binds (ps := ["value"]) fun _ _ _ _ _ _ us hl => match us, hl with | [_], _ => rfl
  have F18 := fun_mk (st := st_need_name) l18 c18 k18
  have b18 := F18.binds (ps := ["name"]) fun _ _ _ _ _ _ us hl => match us, hl with | [_], _ => rfl
  have F19 := fun_mk (st := st_number_in) l19 c19 k19
  have b19 := F19.binds (ps := ["value"]) fun _ _ _ _ _ _ us hl => match us, hl with | [_], _ => rfl
  have F20 := fun_mk (st := st_both_in) l20 c20 k20
  have b20 := F20.binds (ps := ["name", "figures"]) fun _ _ _ _ _ _ us hl => match us, hl with | [_, _], _ => rfl
  have F21 := fun_mk (st := st_number_ahead) l21 c21 k21
  have b21 := F21.binds (ps := ["text", "between"]) fun _ _ _ _ _ _ us hl => match us, hl with | [_, _], _ => rfl
  have F22 := fun_mk (st := st_number_behind) l22 c22 k22
  have b22 := F22.binds (ps := ["text", "between"]) fun _ _ _ _ _ _ us hl => match us, hl with | [_, _], _ => rfl
  have F23 := fun_mk (st := st_reading) l23 c23 k23
  have b23 := F23.binds (ps := ["mark", "name"]) fun _ _ _ _ _ _ us hl => match us, hl with | [_, _], _ => rfl
  have F24 := fun_mk (st := st_Rule_read) l24 c24 k24
  have b24 := F24.binds (ps := ["self", "name"]) fun _ _ _ _ _ _ us hl => match us, hl with | [_, _], _ => rfl
  have F25 := fun_mk (st := st_Rule_way) l25 c25 k25
  have b25 := F25.binds (ps := ["self"]) fun _ _ _ _ _ _ us hl => match us, hl with | [_], _ => rfl
  have F26 := fun_mk (st := st_is_wish) l26 c26 k26
  have b26 := F26.binds (ps := ["rule", "value"]) fun _ _ _ _ _ _ us hl => match us, hl with | [_, _], _ => rfl
  have F27 := fun_mk (st := st__law_read) l27 c27 k27
  have b27 := F27.binds (ps := ["mark", "name"]) fun _ _ _ _ _ _ us hl => match us, hl with | [_, _], _ => rfl
  have F28 := fun_mk (st := st__law_is_name) l28 c28 k28
  have b28 := F28.binds (ps := ["value", "most"]) fun _ _ _ _ _ _ us hl => match us, hl with | [_, _], _ => rfl
  have F29 := fun_mk (st := st__law_due) l29 c29 k29
  have b29 := F29.binds (ps := ["mark", "way", "value"]) fun _ _ _ _ _ _ us hl => match us, hl with | [_, _, _], _ => rfl
  have F30 := fun_mk (st := st_Rule___init__) l30 c30 k30
  have b30 := F30.binds (ps := ["self", "mark", "way"]) fun _ _ _ _ _ _ us hl => match us, hl with | [_, _, _], _ => rfl
  have F31 := fun_mk (st := st_law) l31 c31 k31
  refine ⟨PySem.W.fnOf "law" "law" (defArgs st_law) (defBody st_law) (defScope st_law) .none kV31 dc31 pm31 an31 cd31 ct31, fun s v => .of_eq rfl, ⟨"script", rfl, rfl, (by decide +kernel : (defScope st_law).names.lookup ("script" : Str) = some .local)⟩, fun base _ _ hN => ?_⟩
  have o__law_box := ownG_mk F1 (ok__law_box (P := l.prog) (w := w) (base := base) F1 T hN ) (PySem.W.mg_of X G a1) b1 rfl
  have o__law_take := ownG_mk F2 (ok__law_take (P := l.prog) (w := w) (base := base) F2 T hN ) (PySem.W.mg_of X G a2) b2 rfl
  have o__law_signs := ownG_mk F3 (ok__law_signs (P := l.prog) (w := w) (base := base) F3 T hN o__law_take) (PySem.W.mg_of X G a3) b3 rfl
  have o__law_mark := ownG_mk F4 (ok__law_mark (P := l.prog) (w := w) (base := base) F4 T hN o__law_take o__law_signs) (PySem.W.mg_of X G a4) b4 rfl
  have o__law_put := ownG_mk F5 (ok__law_put (P := l.prog) (w := w) (base := base) F5 T hN ) (PySem.W.mg_of X G a5) b5 rfl
  have o__law_cell := ownG_mk F6 (ok__law_cell (P := l.prog) (w := w) (base := base) F6 T hN ) (PySem.W.mg_of X G a6) b6 rfl
  have o__law_stem := ownG_mk F7 (ok__law_stem (P := l.prog) (w := w) (base := base) F7 T hN o__law_signs o__law_take) (PySem.W.mg_of X G a7) b7 rfl
  have o__law_odd := ownG_mk F8 (ok__law_odd (P := l.prog) (w := w) (base := base) F8 T hN o__law_take) (PySem.W.mg_of X G a8) b8 rfl
  have o_need_rule := ownG_mk F9 (ok_need_rule (P := l.prog) (w := w) (base := base) F9 T hN NI_Rule) (PySem.W.mg_of X G a9) b9 rfl
  have o_is_mark := ownG_mk F10 (ok_is_mark (P := l.prog) (w := w) (base := base) F10 T hN ) (PySem.W.mg_of X G a10) b10 rfl
  have o_need_mark := ownG_mk F11 (ok_need_mark (P := l.prog) (w := w) (base := base) F11 T hN o_is_mark) (PySem.W.mg_of X G a11) b11 rfl
  have o_parts := ownG_mk F12 (ok_parts (P := l.prog) (w := w) (base := base) F12 T hN ) (PySem.W.mg_of X G a12) b12 rfl
  have o_is_clear := ownG_mk F13 (ok_is_clear (P := l.prog) (w := w) (base := base) F13 T hN o_need_mark o_parts) (PySem.W.mg_of X G a13) b13 rfl
  have o_name_first := ownG_mk F14 (ok_name_first (P := l.prog) (w := w) (base := base) F14 T hN ) (PySem.W.mg_of X G a14) b14 rfl
  have o_two_readings := ownG_mk F15 (ok_two_readings (P := l.prog) (w := w) (base := base) F15 T hN o_is_clear o_parts o_name_first) (PySem.W.mg_of X G a15) b15 rfl
  have o_need_clear := ownG_mk F16 (ok_need_clear (P := l.prog) (w := w) (base := base) F16 T hN o_two_readings) (PySem.W.mg_of X G a16) b16 rfl
  have o_is_name := ownG_mk F17 (ok_is_name (P := l.prog) (w := w) (base := base) F17 T hN ) (PySem.W.mg_of X G a17) b17 rfl
  have o_need_name := ownG_mk F18 (ok_need_name (P := l.prog) (w := w) (base := base) F18 T hN o_is_name) (PySem.W.mg_of X G a18) b18 rfl
  have o_number_in := ownG_mk F19 (ok_number_in (P := l.prog) (w := w) (base := base) F19 T hN ) (PySem.W.mg_of X G a19) b19 rfl
  have o_both_in := ownG_mk F20 (ok_both_in (P := l.prog) (w := w) (base := base) F20 T hN o_number_in o_is_name) (PySem.W.mg_of X G a20) b20 rfl
  have o_number_ahead := ownG_mk F21 (ok_number_ahead (P := l.prog) (w := w) (base := base) F21 T hN o_both_in) (PySem.W.mg_of X G a21) b21 rfl
  have o_number_behind := ownG_mk F22 (ok_number_behind (P := l.prog) (w := w) (base := base) F22 T hN o_both_in) (PySem.W.mg_of X G a22) b22 rfl
  have o_reading := ownG_mk F23 (ok_reading (P := l.prog) (w := w) (base := base) F23 T hN o_need_clear o_need_name o_parts o_name_first o_number_behind o_number_ahead) (PySem.W.mg_of X G a23) b23 rfl
  have o_Rule_read := ownM_mk (x := "Rule") m_Rule CL_Rule ⟨a24, y24, k24⟩ (ok_Rule_read (P := l.prog) (w := w) (base := base) F24 T hN o_reading FL_Rule_rule_mark) b24 rfl
  have o_Rule_way := ownM_mk (x := "Rule") m_Rule CL_Rule ⟨a25, y25, k25⟩ (ok_Rule_way (P := l.prog) (w := w) (base := base) F25 T hN FL_Rule_rule_way) b25 rfl
  have o_is_wish := ownG_mk F26 (ok_is_wish (P := l.prog) (w := w) (base := base) F26 T hN o_need_rule o_is_name o_Rule_read o_Rule_way) (PySem.W.mg_of X G a26) b26 rfl
  have o__law_read := ownG_mk F27 (ok__law_read (P := l.prog) (w := w) (base := base) F27 T hN ) (PySem.W.mg_of X G a27) b27 rfl
  have o__law_is_name := ownG_mk F28 (ok__law_is_name (P := l.prog) (w := w) (base := base) F28 T hN ) (PySem.W.mg_of X G a28) b28 rfl
  have o__law_due := ownG_mk F29 (ok__law_due (P := l.prog) (w := w) (base := base) F29 T hN o__law_is_name o__law_read) (PySem.W.mg_of X G a29) b29 rfl
  have I_Rule := ownI_mk (x := "Rule") m_Rule ⟨mk_Rule, a30, y30, kp_Rule⟩ (ok_Rule___init__ (P := l.prog) (w := w) (base := base) F30 T hN o_need_clear FL_Rule_rule_mark FL_Rule_rule_way) b30 rfl
  exact lawG_of (ok_law (P := l.prog) (w := w) (base := base) F31 T hN o__law_box o__law_cell o__law_mark o__law_take o__law_put o__law_stem o__law_odd o__law_signs o_is_wish o__law_due I_Rule) pure
end
end T_k13

namespace T_k13
open PySem L2 L3
theorem box_rp {z : Int} {cs : Cells} {P : D → Cells → Prop} {X : KX} (h : P (.loc cs.length) (cs ++ [.lst [.int (if z - 10 ^ 18 > 0 then z - 10 ^ 18 else 0), .int (z % 2147483629), .int 0]])) : RP (m__law_box [.int z] cs) P X := by
  unfold m__law_box mb__law_box
  simp only [rp_def, List.map_cons, List.map_nil, List.length_cons, List.length_nil, Nat.reduceAdd, Nat.reduceSub, List.replicate_zero, List.replicate_succ, List.append_nil, List.cons_append, List.nil_append,
    sp_ret, rp_list, rap_cons, rap_nil, rp_bi, rp_c, rp_op2, rp_op1, rp_max, rp_varM, List.getElem?_cons_zero, List.getElem?_cons_succ, rp_sub, rp_pow, rp_mod, Int.reduceLT, Int.reduceLE, Int.reduceNeg, true_and, and_true, and_self, Int.reduceToNat, rp_mkLt, sizeLine_eq, Nat.reduceLeDiff]
  exact h
theorem take_rp {n B : Nat} {many : Int} {cs : Cells} {P : D → Cells → Prop} {X : KX} (hb : Bx cs n B) (hB : B < 1000000) (h1 : 0 < many) (h2 : many < big)
    (hP : ∀ (r : Int) (c' : Cells), 0 ≤ r → r < many → Bx c' n (B + 1) → (∀ m, m ≠ n → c'[m]? = cs[m]?) → c'.length = cs.length → P (.int r) c') : RP (m__law_take [.loc n, .int many] cs) P X := by
  obtain ⟨a, b, c, hc, hb0, hb1, hc0, hc1⟩ := hb
  have hl := loc_list hc
  have hd : 0 < many ∧ many < big := ⟨h1, h2⟩
  unfold m__law_take mb__law_take
  simp only [rp_def, List.map_cons, List.map_nil, List.length_cons, List.length_nil, Nat.reduceAdd, Nat.reduceSub, List.replicate_zero, List.replicate_succ, List.append_nil, List.cons_append, List.nil_append, List.set_cons_zero, List.set_cons_succ,
    sp_ret, sp_seq, sp_asg, sp_if, sp_put, sp_nx, SP_brS, rp_c, rp_op2, rp_op1, rp_varM, List.getElem?_cons_zero, List.getElem?_cons_succ, rp_ixLocM, hl, at3_0, at3_1, at3_2, rp_gt, decide_eq_true_eq, rp_mod, h1, rp_fdiv, hd, and_self]
  split
  · obtain ⟨c4, e4, q4, k4, l4⟩ := put_at (v := .int (a / many)) hc (k := 0) (j := 0) rfl
    exact ⟨c4, e4, hP _ c4 (Int.emod_nonneg _ (by omega)) (Int.emod_lt_of_pos _ h1) ⟨_, b, c, q4, hb0, hb1, hc0, by omega⟩ k4 l4⟩
  · rename_i ha
    simp only [rp_addI]
    obtain ⟨c4, e4, q4, k4, l4⟩ := put_at (v := .int (c + 1)) hc (k := 2) (j := 2) rfl
    refine ⟨c4, e4, ?_⟩
    have hl4 := loc_list q4
    simp only [List.set_cons_zero, List.set_cons_succ] at hl4 q4
    simp only [hl4, at3_0, at3_1, at3_2, rp_c, rp_op2, rp_varM, List.getElem?_cons_zero, List.getElem?_cons_succ, rp_ixLocM, List.set_cons_zero, List.set_cons_succ]
    have m1 : ∀ y : Int, (-big < 7919 ∧ 7919 < big) ∨ (-big < y ∧ y < big) := fun _ => .inl (by decide)
    have p1 : 0 ≤ (5 : Int) ∧ (5 : Int) ≤ 1000000 ∧ -big < b + 7919 * (c + 1) + 33 ∧ b + 7919 * (c + 1) + 33 < big := by unfold big; omega
    have m2 : ∀ y : Int, (-big < 104729 ∧ 104729 < big) ∨ (-big < y ∧ y < big) := fun _ => .inl (by decide)
    have m3 : ∀ x : Int, (-big < x ∧ x < big) ∨ (-big < c + 1 ∧ c + 1 < big) := fun _ => .inr (by unfold big; omega)
    have m4 : ∀ y : Int, (-big < 536870909 ∧ 536870909 < big) ∨ (-big < y ∧ y < big) := fun _ => .inl (by decide)
    have d8 : 0 < (8 : Int) ∧ (8 : Int) < big := by decide
    have d4 : 0 < (4 : Int) ∧ (4 : Int) < big := by decide
    rw [rp_mulI (m1 _), rp_addI, rp_addI, rp_pow p1, rp_mod (by decide)]
    generalize hone : (b + 7919 * (c + 1) + 33) ^ Int.toNat 5 % 2147483647 = one
    have o0 : 0 ≤ one := by rw [← hone]; exact Int.emod_nonneg _ (by decide)
    have o1 : one < 2147483647 := by rw [← hone]; exact Int.emod_lt_of_pos _ (by decide)
    have hcc : 0 ≤ (c + 1) * (c + 1) ∧ (c + 1) * (c + 1) ≤ 1000001 * 1000001 := ⟨Int.mul_nonneg (by omega) (by omega), Int.mul_le_mul (by omega) (by omega) (by omega) (by decide)⟩
    have hass : 104729 * (c + 1) * (c + 1) = 104729 * ((c + 1) * (c + 1)) := Int.mul_assoc _ _ _
    have p2 : 0 ≤ (3 : Int) ∧ (3 : Int) ≤ 1000000 ∧ -big < one / 8 + 104729 * (c + 1) * (c + 1) + 11 ∧ one / 8 + 104729 * (c + 1) * (c + 1) + 11 < big := by
      rw [hass]; unfold big; omega
    rw [rp_fdiv d8]
    simp only [hl4, at3_2]
    rw [rp_mulI (m2 _)]
    simp only [hl4, at3_2]
    rw [rp_mulI (m3 _), rp_addI, rp_addI, rp_pow p2, rp_mod (by decide), rp_fdiv d4, rp_fdiv d4, rp_mulI (m4 _), rp_addI, rp_mod h1]
    exact hP _ c4 (Int.emod_nonneg _ (by omega)) (Int.emod_lt_of_pos _ h1) ⟨a, b, c + 1, q4, hb0, hb1, by omega, by omega⟩ k4 l4
theorem cell_rp {ns : List Int} {k : Int} {cs : Cells} {P : D → Cells → Prop} {X : KX} (h0 : 0 ≤ k) (h : ∀ z, P (.int z) cs) : RP (m__law_cell [.scr ns, .int k] cs) P X := by
  unfold m__law_cell mb__law_cell
  simp only [rp_def, List.map_cons, List.map_nil, List.length_cons, List.length_nil, Nat.reduceAdd, Nat.reduceSub, List.replicate_zero, List.replicate_succ, List.append_nil, List.cons_append, List.nil_append,
    sp_ret, sp_seq, sp_if, sp_nx, SP_brS, rap_cons, rap_nil, rp_bi, rp_c, rp_op2, rp_varM, List.getElem?_cons_zero, List.getElem?_cons_succ, rp_lenScr, rp_lt, decide_eq_true_eq]
  split
  · rename_i hk
    obtain ⟨z, e, _⟩ := at_mid (ds := ns) h0 hk
    rw [rp_ixScr e]
    exact h z
  · rw [rp_mulI (.inl (by decide)), rp_addI]
    exact h _

abbrev SG : List Nat := [97, 98, 99, 100, 101, 102, 103, 104, 105, 106, 107, 108, 109, 110, 111, 112, 113, 114, 115, 116, 117, 118, 119, 120, 121, 122, 48, 49, 50, 51, 52, 53, 54, 55, 56, 57, 45, 95, 46, 40, 41]
theorem all_filter (S l : List Nat) : (l.all fun c => decide (c ∈ S)) = (l.filter fun c => !decide (c ∈ S)).isEmpty := by
  rw [Bool.eq_iff_iff, List.isEmpty_iff, List.filter_eq_nil_iff, List.all_eq_true]
  simp
def nm (l : List Nat) : Bool := decide (1 ≤ l.length ∧ l.length ≤ 200) && l.all fun c => decide (c ∈ SG)
abbrev TY : List String := ["NoneType", "bool", "int", "list", "tuple", "dict"]
theorem isn_non {d : D} {cs : Cells} {u : String} {P : D → Cells → Prop} {X : KX} (h : tyC cs d = some u) (q : u ∈ TY) (k : P (.bl false) cs) : RP (m_is_name [d] cs) P X := by
  unfold m_is_name mb_is_name
  simp only [rp_def, List.map_cons, List.map_nil, List.length_cons, List.length_nil, Nat.reduceAdd, Nat.reduceSub, List.replicate_zero, List.replicate_succ, List.append_nil, List.cons_append, List.nil_append,
    sp_ret, sp_seq, sp_if, sp_nx, SP_brS, rp_c, rp_op1, rp_not, rp_or, rp_varM, List.getElem?_cons_zero, isi_nstr h q, rp_notD, RP_br, RP_ok, Bool.not_false, cond_true, if_true]
  exact k
theorem isn_str {l : List Nat} {cs : Cells} {P : D → Cells → Prop} {X : KX} (hl : l.length ≤ sizeLine) (k : P (.bl (nm l)) cs) : RP (m_is_name [.str l] cs) P X := by
  unfold m_is_name mb_is_name
  simp only [rp_def, List.map_cons, List.map_nil, List.length_cons, List.length_nil, Nat.reduceAdd, Nat.reduceSub, List.replicate_zero, List.replicate_succ, List.append_nil, List.cons_append, List.nil_append,
    sp_ret, sp_seq, sp_if, sp_nx, SP_brS, rap_cons, rap_nil, rp_bi, rp_c, rp_op2, rp_op1, rp_not, rp_or, rp_varM, List.getElem?_cons_zero, List.getElem?_cons_succ, isi_str, rp_notD, RP_br, RP_ok, Bool.not_true, cond_false, rp_chain, rp_lenS hl, rp_le, RP_bind, rp_lc, wp_seq]
  by_cases hlen : 1 ≤ l.length ∧ l.length ≤ 200
  · have a1 : decide ((1 : Int) ≤ (l.length : Int)) = true := by simp; omega
    have a2 : decide ((l.length : Int) ≤ 200) = true := by simp; omega
    simp only [a1, a2, cond_true, Bool.not_true, Bool.false_eq_true, if_false]
    rw [lc_map (g := fun d => match d with | .str [c] => .bl (decide (c ∈ SG)) | _ => .non) trivial ?_]
    · have e1 : (List.map (fun d => match d with | D.str [c] => D.bl (decide (c ∈ SG)) | x => D.non) (List.map (fun ch => D.str [ch]) l)) = (l.map fun c => decide (c ∈ SG)).map D.bl := by
        rw [List.map_map, List.map_map]; rfl
      rw [e1]
      show RP (mkL false cs _) _ _
      rw [rp_mkLf (by rw [List.length_map, List.length_map]; exact hl), rp_allL]
      have : nm l = ((l.map fun c => decide (c ∈ SG)).all _root_.id) := by
        unfold nm
        rw [decide_eq_true hlen, Bool.true_and, List.all_map]
        rfl
      rw [← this]
      exact k
    · intro d hd
      obtain ⟨c, hc, rfl⟩ := List.mem_map.mp hd
      exact ⟨_, rfl, rfl, rfl⟩
  · have en : nm l = false := by unfold nm; rw [decide_eq_false hlen]; rfl
    rw [en] at k
    by_cases h1 : (1 : Int) ≤ (l.length : Int)
    · have h2 : ¬ (l.length : Int) ≤ 200 := by omega
      simp only [h1, h2, decide_true, decide_false, cond_true, Bool.not_false, if_true]
      exact k
    · simp only [h1, decide_false, cond_false, Bool.not_false, cond_true, if_true]
      exact k

abbrev TZ : List String := ["NoneType", "bool", "int", "str", "list", "tuple", "dict"]
def ig (d : D) (lo hi : Int) : Bool := match d with
  | .int i => decide (lo ≤ i) && decide (i ≤ hi)
  | _ => false
theorem chain_ii {lo i hi : Int} {env : L3.Env} {cs : Cells} {a b c : Nat} {P : D → Cells → Prop} {X : KX} (h1 : env[a]? = some (some (.int lo))) (h2 : env[b]? = some (some (.int i))) (h3 : env[c]? = some (some (.int hi))) (k : P (.bl (decide (lo ≤ i) && decide (i ≤ hi))) cs) : RP (eChain leD leD (eVar a) (eVar b) (eVar c) env cs) P X := by
  simp only [rp_chain, rp_varM, h1, h2, h3, rp_le, RP_br, RP_bind, RP_ok]
  by_cases q : lo ≤ i
  · simp only [q, decide_true, cond_true, Bool.true_and] at k ⊢; exact k
  · simp only [q, decide_false, cond_false, Bool.false_and] at k ⊢; exact k
theorem signs_rp {n B : Nat} {m : Int} {cs : Cells} {P : D → Cells → Prop} {X : KX} (hb : Bx cs n B) (h0 : 0 ≤ m) (h1 : m ≤ 1000) (hB : B < 900000)
    (k : ∀ (l : List Nat) (c' : Cells), l.length = m.toNat → (∀ c ∈ l, c ∈ SG) → Bx c' n (B + m.toNat) → P (.str l) c') : RP (m__law_signs [.loc n, .int m] cs) P X := by
  unfold m__law_signs mb__law_signs
  simp only [rp_def, List.map_cons, List.map_nil, List.length_cons, List.length_nil, Nat.reduceAdd, Nat.reduceSub, List.replicate_zero, List.replicate_succ, List.append_nil, List.cons_append, List.nil_append,
    sp_ret, rp_m1, rp_c, rp_lc, wp_r1, rp_varM, List.getElem?_cons_zero, List.getElem?_cons_succ]
  refine ⟨by unfold lim; omega, ?_⟩
  have hlc := lc_inv (X := X) (chk := fun _ => True) (tg := tgN 2) (t := eC (.bl true)) (e := op2 ixD (eC (D.str SG)) (eCall m__law_take (aCons (eVar 0) (aCons (eC (D.int 41)) aNil))))
    (items := rangeD 0 m.toNat) (env := wipeE [some (D.loc n), some (D.int m), none] [2]) (cs := cs)
    (fun i ds c => Bx c n (B + i) ∧ ∃ ls, strsOf ds = some ls ∧ ls.length = i ∧ ∀ z ∈ ls, z.length = 1 ∧ ∀ c ∈ z, c ∈ SG) [] ⟨hb, [], rfl, rfl, fun _ h => by cases h⟩ (fun _ _ _ => trivial) (fun j d ds c hj ⟨hb, ls, h1, h2, h3⟩ => by
    obtain ⟨hj, rfl⟩ := range_get hj
    refine ⟨trivial, _, rfl, ?_⟩
    rw [rp_c]
    refine ⟨true, rfl, ?_⟩
    rw [if_pos rfl]
    simp only [rp_op2, rp_c, rp_call, rap_cons, rap_nil, rp_varM, wipeE, List.set_cons_zero, List.set_cons_succ, List.getElem?_cons_zero, List.getElem?_cons_succ]
    refine take_rp hb (by omega) (by decide) (by decide) fun r c' r0 r1 hb' _ _ => ?_
    refine rp_ixSA (by rw [sizeLine_eq]; decide) r0 (Int.lt_of_lt_of_le r1 (by decide)) fun ch hch => ?_
    refine ⟨hb', ls ++ [[ch]], strsOf_app h1 rfl, by simp [h2], fun z hz => ?_⟩
    rcases List.mem_append.mp hz with hz | hz
    · exact h3 z hz
    · rw [List.mem_singleton.mp hz]; exact ⟨rfl, fun c hc => by rw [List.mem_singleton.mp hc]; exact hch⟩)
  refine RAP.mono hlc fun ds c6 ⟨hb, ls, h1, h2, h3⟩ => ?_
  rw [List.nil_append] at h1
  rw [rangeD_length] at hb h2
  have hjn : (ls.map (·.length)).sum + ls.length * ([] : List Nat).length ≤ 16777216 := by rw [ones_sum fun z hz => (h3 z hz).1]; simp; omega
  rw [rp_mkLf (by rw [sizeLine_eq, strsOf_len h1]; omega), rp_join seq_lst h1 hjn, joinL_nil]
  refine k _ _ (by rw [ones_len fun z hz => (h3 z hz).1, h2]) (fun c hc => ?_) hb
  obtain ⟨z, hz, hcz⟩ := List.mem_flatten.mp hc
  exact (h3 z hz).2 c hcz

abbrev figs : List Nat := [48, 49, 50, 51, 52, 53, 54, 55, 56, 57]
theorem figs_mem {c : Nat} : c ∈ figs ↔ 48 ≤ c ∧ c ≤ 57 := by
  simp only [figs, List.mem_cons, List.not_mem_nil, or_false]; omega
instance decDig (l : List Nat) : Decidable (NumText.AllDigits l) := inferInstanceAs (Decidable (∀ c ∈ l, 48 ≤ c ∧ c ≤ 57))
open NumText in
def nuL (l : List Nat) : D := if 1 ≤ l.length ∧ l.length ≤ 15 ∧ AllDigits l ∧ l.head? ≠ some 48 ∧ 1 < digitsVal l then .int (digitsVal l) else .non
theorem num_non {d : D} {cs : Cells} {u : String} {P : D → Cells → Prop} {X : KX} (h : tyC cs d = some u) (q : u ∈ ["NoneType", "bool", "int", "list", "tuple", "dict"]) (k : P .non cs) : RP (m_number_in [d] cs) P X := by
  unfold m_number_in mb_number_in
  simp only [rp_def, List.map_cons, List.map_nil, List.length_cons, List.length_nil, Nat.reduceAdd, Nat.reduceSub, List.replicate_zero, List.replicate_succ, List.append_nil, List.cons_append, List.nil_append, List.set_cons_zero, List.set_cons_succ,
    sp_ret, sp_seq, sp_asg, sp_if, sp_nx, SP_brS, rap_cons, rap_nil, rp_bi, rp_c, rp_op2, rp_op1, rp_not, rp_or, rp_varM, List.getElem?_cons_zero, List.getElem?_cons_succ, isi_nstr h q, rp_notD, RP_br, RP_ok, Bool.not_false, cond_true, if_true]
  exact k
section
open NumText
theorem num_str {l : List Nat} {cs : Cells} {P : D → Cells → Prop} {X : KX} (hl : l.length ≤ sizeLine) (k : P (nuL l) cs) : RP (m_number_in [.str l] cs) P X := by
  unfold m_number_in mb_number_in
  have h0 : (0 : Int) ≤ 0 := by decide
  simp only [rp_def, List.map_cons, List.map_nil, List.length_cons, List.length_nil, Nat.reduceAdd, Nat.reduceSub, List.replicate_zero, List.replicate_succ, List.append_nil, List.cons_append, List.nil_append, List.set_cons_zero, List.set_cons_succ,
    sp_ret, sp_seq, sp_asg, sp_if, sp_nx, SP_brS, rap_cons, rap_nil, rp_bi, rp_c, rp_op2, rp_op1, rp_not, rp_or, rp_varM, List.getElem?_cons_zero, List.getElem?_cons_succ, isi_str, rp_notD, RP_br, RP_ok, Bool.not_true, cond_false, rp_chain, rp_lenS hl, rp_le, RP_bind, rp_lc, wp_seq, rp_if, rp_gt]
  by_cases hlen : 1 ≤ l.length ∧ l.length ≤ 15
  · have a1 : decide ((1 : Int) ≤ (l.length : Int)) = true := by simp; omega
    have a2 : decide ((l.length : Int) ≤ 15) = true := by simp; omega
    simp only [a1, a2, cond_true, Bool.not_true, Bool.false_eq_true, if_false]
    rw [lc_map (g := fun d => match d with | .str [c] => .bl (decide (c ∈ figs)) | _ => .non) trivial ?_]
    · have e1 : (List.map (fun d => match d with | D.str [c] => D.bl (decide (c ∈ figs)) | x => D.non) (List.map (fun ch => D.str [ch]) l)) = (l.map fun c => decide (c ∈ figs)).map D.bl := by
        rw [List.map_map, List.map_map]; rfl
      rw [e1]
      show RP (mkL false cs _) _ _
      rw [rp_mkLf (by rw [List.length_map, List.length_map]; exact hl), rp_allL, rp_notD]
      have e2 : ((l.map fun c => decide (c ∈ figs)).all _root_.id) = decide (AllDigits l) := by
        rw [Bool.eq_iff_iff, List.all_map, List.all_eq_true, decide_eq_true_eq]
        exact ⟨fun h c hc => figs_mem.mp (by simpa using h c hc), fun h c hc => by simpa using figs_mem.mpr (h c hc)⟩
      rw [e2]
      cases l with
      | nil => simp at hlen
      | cons ch r =>
        by_cases hd : AllDigits (ch :: r)
        · simp only [hd, decide_true, Bool.not_true, RP_br, cond_false, rp_op2, rp_c, rp_varM, List.getElem?_cons_zero, rp_ixS hl atI_0, rp_eqS]
          by_cases hz : ch = 48
          · subst hz
            simp only [decide_true, SP_brS, if_true, sp_ret, rp_c]
            have : nuL (48 :: r) = .non := by unfold nuL; rw [if_neg]; simp
            rw [← this]; exact k
          · have hz2 : ¬ [ch] = [48] := by simpa using hz
            have ht := intText_digits (x := ⟨(ch :: r).toArray⟩) (by simpa using hd) (by simp) (by rw [str_len]; omega)
            simp only [hz2, decide_false, SP_brS, Bool.false_eq_true, if_false, sp_nx, List.getElem?_cons_zero, rp_int ht (by omega), List.set_cons_zero, List.set_cons_succ, List.getElem?_cons_succ, rp_gt, RP_br, rp_varM, rp_c]
            have en : nuL (ch :: r) = if (1 : Int) < (digitsVal (ch :: r) : Nat) then .int (digitsVal (ch :: r)) else .non := by
              unfold nuL
              by_cases h1 : 1 < digitsVal (ch :: r)
              · rw [if_pos ⟨hlen.1, hlen.2, hd, by simpa using hz, h1⟩, if_pos (by omega)]
              · rw [if_neg (fun h => h1 h.2.2.2.2), if_neg (by omega)]
            rw [en] at k
            by_cases h1 : (1 : Int) < (digitsVal (ch :: r) : Nat)
            · simp only [h1, if_true, decide_true, cond_true] at k ⊢; exact k
            · simp only [h1, if_false, decide_false, cond_false] at k ⊢; exact k
        · simp only [hd, decide_false, Bool.not_false, RP_br, cond_true, RP_ok, SP_brS, if_true, sp_ret, rp_c]
          have : nuL (ch :: r) = .non := by unfold nuL; rw [if_neg]; exact fun h => hd h.2.2.1
          rw [← this]; exact k
    · intro d hd
      obtain ⟨c, hc, rfl⟩ := List.mem_map.mp hd
      exact ⟨_, rfl, rfl, rfl⟩
  · have en : nuL l = .non := by unfold nuL; rw [if_neg]; exact fun h => hlen ⟨h.1, h.2.1⟩
    rw [en] at k
    by_cases h1 : (1 : Int) ≤ (l.length : Int)
    · have h2 : ¬ (l.length : Int) ≤ 15 := by omega
      simp only [h1, h2, decide_true, decide_false, cond_true, Bool.not_false, if_true]
      exact k
    · simp only [h1, decide_false, cond_false, Bool.not_false, cond_true, if_true]
      exact k
end

abbrev FG : List Nat := [48, 49, 50, 51, 52, 53, 54, 55, 56, 57]
/-- a mark, by its parts -/
structure Mk (l pre near post : List Nat) (s1 s2 : Nat) : Prop where
  eq : l = pre ++ s1 :: (near ++ s2 :: post)
  pl : (s1 = 42 ∧ s2 = 35) ∨ (s1 = 35 ∧ s2 = 42)
  a : ∀ c ∈ pre, c ∈ SG
  b : ∀ c ∈ near, c ∈ SG
  c : ∀ c ∈ post, c ∈ SG
  len : l.length ≤ 12
def mkB (l : List Nat) : Bool := decide (l.length ≤ 12) && (decide (l.count 42 = 1) && (decide (l.count 35 = 1) && l.all fun c => decide (c ∈ SG) || (decide ([42] = [c]) || (decide ([35] = [c]) || false))))
theorem no_star {l : List Nat} (h : ∀ c ∈ l, c ∈ SG) : 42 ∉ l := fun m => absurd (h _ m) (by decide)
theorem no_hash {l : List Nat} (h : ∀ c ∈ l, c ∈ SG) : 35 ∉ l := fun m => absurd (h _ m) (by decide)
theorem Mk.ok {l pre near post : List Nat} {s1 s2 : Nat} (m : Mk l pre near post s1 s2) : mkB l = true := by
  have p1 := List.count_eq_zero.mpr (no_star m.a)
  have p2 := List.count_eq_zero.mpr (no_star m.b)
  have p3 := List.count_eq_zero.mpr (no_star m.c)
  have q1 := List.count_eq_zero.mpr (no_hash m.a)
  have q2 := List.count_eq_zero.mpr (no_hash m.b)
  have q3 := List.count_eq_zero.mpr (no_hash m.c)
  have hl := m.len
  have c1 : l.count 42 = 1 := by
    rw [m.eq]
    rcases m.pl with ⟨rfl, rfl⟩ | ⟨rfl, rfl⟩ <;> simp [List.count_append, List.count_cons, p1, p2, p3]
  have c2 : l.count 35 = 1 := by
    rw [m.eq]
    rcases m.pl with ⟨rfl, rfl⟩ | ⟨rfl, rfl⟩ <;> simp [List.count_append, List.count_cons, q1, q2, q3]
  have c3 : l.all (fun c => decide (c ∈ SG) || (decide ([42] = [c]) || (decide ([35] = [c]) || false))) = true := by
    rw [List.all_eq_true]
    intro x hx
    rw [m.eq] at hx
    have sg : ∀ z, z ∈ SG → (decide (z ∈ SG) || (decide ([42] = [z]) || (decide ([35] = [z]) || false))) = true := fun z hz => by rw [decide_eq_true hz]; rfl
    have pl : ∀ z, z = s1 ∨ z = s2 → (decide (z ∈ SG) || (decide ([42] = [z]) || (decide ([35] = [z]) || false))) = true := by
      intro z hz
      rcases m.pl with ⟨e1, e2⟩ | ⟨e1, e2⟩ <;> rw [e1, e2] at hz <;> rcases hz with rfl | rfl <;> decide
    rcases List.mem_append.mp hx with h | h
    · exact sg _ (m.a _ h)
    · rcases List.mem_cons.mp h with h | h
      · exact pl _ (.inl h)
      · rcases List.mem_append.mp h with h | h
        · exact sg _ (m.b _ h)
        · rcases List.mem_cons.mp h with h | h
          · exact pl _ (.inr h)
          · exact sg _ (m.c _ h)
  unfold mkB
  rw [decide_eq_true hl, decide_eq_true c1, decide_eq_true c2, c3]; rfl
theorem ism_non {d : D} {cs : Cells} {u : String} {P : D → Cells → Prop} {X : KX} (h : tyC cs d = some u) (q : u ∈ TY) (k : P (.bl false) cs) : RP (m_is_mark [d] cs) P X := by
  unfold m_is_mark mb_is_mark
  simp only [rp_def, List.map_cons, List.map_nil, List.length_cons, List.length_nil, Nat.reduceAdd, Nat.reduceSub, List.replicate_zero, List.replicate_succ, List.append_nil, List.cons_append, List.nil_append, List.set_cons_zero, List.set_cons_succ, sp_ret, sp_seq, sp_asg, sp_if, sp_nx, sp_drop, SP_brS, rap_cons, rap_nil, rp_bi, rp_c, rp_op2, rp_op1, rp_not, rp_or, rp_and, rp_if, rp_call, rp_varM, List.getElem?_cons_zero, List.getElem?_cons_succ, rp_notD, RP_br, RP_ok, isi_nstr h q, Bool.not_false, cond_true, if_true]
  exact k
theorem sg_elem {c : Nat} {i : Nat} {env : L3.Env} {cs : Cells} (h : env[i]? = some (some (.str [c]))) : (eOr (op2 inD (eVar i) (eC (.str SG))) (op2 inD (eVar i) (eTup (aCons (eC (.str [42])) (aCons (eC (.str [35])) aNil))))) env cs = .ok (.bl (decide (c ∈ SG) || (decide ([42] = [c]) || (decide ([35] = [c]) || false)))) cs := by
  refine RP.eq ?_
  simp only [rp_or, rp_op2, rp_varM, rp_c, h, rp_inS, RP_br, RP_ok, rp_tup, rap_cons, rap_nil, rp_mkT (cs := cs) (ds := [D.str [42], .str [35]]) (by rw [sizeLine_eq]; simp)]
  cases decide (c ∈ SG) with
  | true => first | exact ⟨rfl, rfl⟩ | exact ⟨rfl, trivial⟩ | exact ⟨trivial, rfl⟩ | exact trivial | exact ⟨trivial, trivial⟩
  | false => first | exact ⟨rfl, rfl⟩ | exact ⟨rfl, trivial⟩ | exact ⟨trivial, rfl⟩ | exact trivial | exact ⟨trivial, trivial⟩
theorem ism_str {l : List Nat} {cs : Cells} {P : D → Cells → Prop} {X : KX} (hl : l.length ≤ sizeLine) (k : P (.bl (mkB l)) cs) : RP (m_is_mark [.str l] cs) P X := by
  unfold m_is_mark mb_is_mark
  simp only [rp_def, List.map_cons, List.map_nil, List.length_cons, List.length_nil, Nat.reduceAdd, Nat.reduceSub, List.replicate_zero, List.replicate_succ, List.append_nil, List.cons_append, List.nil_append, List.set_cons_zero, List.set_cons_succ, sp_ret, sp_seq, sp_asg, sp_if, sp_nx, sp_drop, SP_brS, rap_cons, rap_nil, rp_bi, rp_c, rp_op2, rp_op1, rp_not, rp_or, rp_and, rp_if, rp_call, rp_varM, List.getElem?_cons_zero, List.getElem?_cons_succ, rp_notD, RP_br, RP_ok, isi_str, rp_lenS hl, rp_gt, Bool.not_true, cond_false]
  by_cases h1 : l.length ≤ 12
  · have a1 : decide ((12 : Int) < (l.length : Int)) = false := by simp; omega
    simp only [a1, Bool.false_eq_true, if_false, rp_m1, rp_cnt, rp_neI, rp_def, List.map_cons, List.map_nil, List.length_cons, List.length_nil, Nat.reduceAdd, Nat.reduceSub, List.replicate_zero, List.replicate_succ, List.append_nil, List.cons_append, List.nil_append, List.set_cons_zero, List.set_cons_succ, sp_ret, sp_seq, sp_asg, sp_if, sp_nx, sp_drop, SP_brS, rap_cons, rap_nil, rp_bi, rp_c, rp_op2, rp_op1, rp_not, rp_or, rp_and, rp_if, rp_call, rp_varM, List.getElem?_cons_zero, List.getElem?_cons_succ, rp_notD, RP_br, RP_ok]
    by_cases h2 : l.count 42 = 1
    · have a2 : decide (((l.count 42 : Nat) : Int) = 1) = true := by simp [h2]
      simp only [a2, Bool.not_true, cond_false]
      by_cases h3 : l.count 35 = 1
      · have a3 : decide (((l.count 35 : Nat) : Int) = 1) = true := by simp [h3]
        simp only [a3, Bool.not_true, Bool.false_eq_true, if_false, RP_bind, rp_lc, wp_seq, rp_def, List.map_cons, List.map_nil, List.length_cons, List.length_nil, Nat.reduceAdd, Nat.reduceSub, List.replicate_zero, List.replicate_succ, List.append_nil, List.cons_append, List.nil_append, List.set_cons_zero, List.set_cons_succ, sp_ret, sp_seq, sp_asg, sp_if, sp_nx, sp_drop, SP_brS, rap_cons, rap_nil, rp_bi, rp_c, rp_op2, rp_op1, rp_not, rp_or, rp_and, rp_if, rp_call, rp_varM, List.getElem?_cons_zero, List.getElem?_cons_succ, rp_notD, RP_br, RP_ok]
        rw [lc_map (g := fun d => match d with | .str [c] => .bl (decide (c ∈ SG) || (decide ([42] = [c]) || (decide ([35] = [c]) || false))) | _ => .non) trivial ?_]
        · have e1 : (List.map (fun d => match d with | D.str [c] => D.bl (decide (c ∈ SG) || (decide ([42] = [c]) || (decide ([35] = [c]) || false))) | x => D.non) (List.map (fun ch => D.str [ch]) l)) = (l.map fun c => decide (c ∈ SG) || (decide ([42] = [c]) || (decide ([35] = [c]) || false))).map D.bl := by
            rw [List.map_map, List.map_map]; rfl
          rw [e1]
          show RP (mkL false cs _) _ _
          rw [rp_mkLf (by rw [List.length_map, List.length_map]; exact hl), rp_allL]
          have : mkB l = ((l.map fun c => decide (c ∈ SG) || (decide ([42] = [c]) || (decide ([35] = [c]) || false))).all _root_.id) := by
            unfold mkB
            rw [decide_eq_true h1, decide_eq_true h2, decide_eq_true h3, Bool.true_and, Bool.true_and, Bool.true_and, List.all_map]
            rfl
          rw [← this]
          exact k
        · intro d hd
          obtain ⟨c, hc, rfl⟩ := List.mem_map.mp hd
          exact ⟨_, rfl, rfl, sg_elem rfl⟩
      · have a3 : decide (((l.count 35 : Nat) : Int) = 1) = false := by simp; omega
        have : mkB l = false := by unfold mkB; rw [decide_eq_false h3]; simp
        rw [this] at k
        simp only [a3, Bool.not_false, if_true, rp_def, List.map_cons, List.map_nil, List.length_cons, List.length_nil, Nat.reduceAdd, Nat.reduceSub, List.replicate_zero, List.replicate_succ, List.append_nil, List.cons_append, List.nil_append, List.set_cons_zero, List.set_cons_succ, sp_ret, sp_seq, sp_asg, sp_if, sp_nx, sp_drop, SP_brS, rap_cons, rap_nil, rp_bi, rp_c, rp_op2, rp_op1, rp_not, rp_or, rp_and, rp_if, rp_call, rp_varM, List.getElem?_cons_zero, List.getElem?_cons_succ, rp_notD, RP_br, RP_ok]
        exact k
    · have a2 : decide (((l.count 42 : Nat) : Int) = 1) = false := by simp; omega
      have : mkB l = false := by unfold mkB; rw [decide_eq_false h2]; simp
      rw [this] at k
      simp only [a2, Bool.not_false, cond_true, if_true, rp_def, List.map_cons, List.map_nil, List.length_cons, List.length_nil, Nat.reduceAdd, Nat.reduceSub, List.replicate_zero, List.replicate_succ, List.append_nil, List.cons_append, List.nil_append, List.set_cons_zero, List.set_cons_succ, sp_ret, sp_seq, sp_asg, sp_if, sp_nx, sp_drop, SP_brS, rap_cons, rap_nil, rp_bi, rp_c, rp_op2, rp_op1, rp_not, rp_or, rp_and, rp_if, rp_call, rp_varM, List.getElem?_cons_zero, List.getElem?_cons_succ, rp_notD, RP_br, RP_ok]
      exact k
  · have a1 : decide ((12 : Int) < (l.length : Int)) = true := by simp; omega
    have : mkB l = false := by unfold mkB; rw [decide_eq_false h1]; rfl
    rw [this] at k
    simp only [a1, if_true, rp_def, List.map_cons, List.map_nil, List.length_cons, List.length_nil, Nat.reduceAdd, Nat.reduceSub, List.replicate_zero, List.replicate_succ, List.append_nil, List.cons_append, List.nil_append, List.set_cons_zero, List.set_cons_succ, sp_ret, sp_seq, sp_asg, sp_if, sp_nx, sp_drop, SP_brS, rap_cons, rap_nil, rp_bi, rp_c, rp_op2, rp_op1, rp_not, rp_or, rp_and, rp_if, rp_call, rp_varM, List.getElem?_cons_zero, List.getElem?_cons_succ, rp_notD, RP_br, RP_ok]
    exact k
/-- what is_mark, is_name, is_number say of d -/
def IsM (cs : Cells) (d : D) (b : Bool) : Prop := ∀ (P : D → Cells → Prop) (X : KX), P (.bl b) cs → RP (m_is_mark [d] cs) P X
def IsN (cs : Cells) (d : D) (b : Bool) : Prop := ∀ (P : D → Cells → Prop) (X : KX), P (.bl b) cs → RP (m_is_name [d] cs) P X
theorem Mk.ism {l pre near post : List Nat} {s1 s2 : Nat} (m : Mk l pre near post s1 s2) {cs : Cells} : IsM cs (.str l) true := fun P X k => ism_str (by rw [sizeLine_eq]; have := m.len; omega) (by rw [m.ok]; exact k)
theorem nm_rp {d : D} {cs : Cells} {P : D → Cells → Prop} {X : KX} (h : IsM cs d true) (k : P .non cs) : RP (m_need_mark [d] cs) P X := by
  unfold m_need_mark mb_need_mark
  try simp only [rp_def, List.map_cons, List.map_nil, List.length_cons, List.length_nil, Nat.reduceAdd, Nat.reduceSub, List.replicate_zero, List.replicate_succ, List.append_nil, List.cons_append, List.nil_append, List.set_cons_zero, List.set_cons_succ, sp_ret, sp_seq, sp_asg, sp_if, sp_nx, sp_drop, SP_brS, rap_cons, rap_nil, rp_bi, rp_c, rp_op2, rp_op1, rp_not, rp_or, rp_and, rp_if, rp_call, rp_varM, List.getElem?_cons_zero, List.getElem?_cons_succ, rp_notD, RP_br, RP_ok]
  refine h _ _ ?_
  simp only [rp_def, List.map_cons, List.map_nil, List.length_cons, List.length_nil, Nat.reduceAdd, Nat.reduceSub, List.replicate_zero, List.replicate_succ, List.append_nil, List.cons_append, List.nil_append, List.set_cons_zero, List.set_cons_succ, sp_ret, sp_seq, sp_asg, sp_if, sp_nx, sp_drop, SP_brS, rap_cons, rap_nil, rp_bi, rp_c, rp_op2, rp_op1, rp_not, rp_or, rp_and, rp_if, rp_call, rp_varM, List.getElem?_cons_zero, List.getElem?_cons_succ, rp_notD, RP_br, RP_ok, Bool.not_true, Bool.false_eq_true, if_false]
  exact k
theorem nn_rp {d : D} {cs : Cells} {P : D → Cells → Prop} {X : KX} (h : IsN cs d true) (k : P .non cs) : RP (m_need_name [d] cs) P X := by
  unfold m_need_name mb_need_name
  try simp only [rp_def, List.map_cons, List.map_nil, List.length_cons, List.length_nil, Nat.reduceAdd, Nat.reduceSub, List.replicate_zero, List.replicate_succ, List.append_nil, List.cons_append, List.nil_append, List.set_cons_zero, List.set_cons_succ, sp_ret, sp_seq, sp_asg, sp_if, sp_nx, sp_drop, SP_brS, rap_cons, rap_nil, rp_bi, rp_c, rp_op2, rp_op1, rp_not, rp_or, rp_and, rp_if, rp_call, rp_varM, List.getElem?_cons_zero, List.getElem?_cons_succ, rp_notD, RP_br, RP_ok]
  refine h _ _ ?_
  simp only [rp_def, List.map_cons, List.map_nil, List.length_cons, List.length_nil, Nat.reduceAdd, Nat.reduceSub, List.replicate_zero, List.replicate_succ, List.append_nil, List.cons_append, List.nil_append, List.set_cons_zero, List.set_cons_succ, sp_ret, sp_seq, sp_asg, sp_if, sp_nx, sp_drop, SP_brS, rap_cons, rap_nil, rp_bi, rp_c, rp_op2, rp_op1, rp_not, rp_or, rp_and, rp_if, rp_call, rp_varM, List.getElem?_cons_zero, List.getElem?_cons_succ, rp_notD, RP_br, RP_ok, Bool.not_true, Bool.false_eq_true, if_false]
  exact k
/-! ### the parts of a mark -/
section
variable {l pre near post : List Nat} {s1 s2 : Nat} {cs : Cells} {P : D → Cells → Prop} {X : KX}
theorem Mk.i1 (m : Mk l pre near post s1 s2) : l.idxOf s1 = pre.length := by
  have h : s1 ∉ pre := by rcases m.pl with ⟨e, _⟩ | ⟨e, _⟩ <;> rw [e] <;> first | exact no_star m.a | exact no_hash m.a
  rw [m.eq, List.idxOf_append, if_neg h, List.idxOf_cons_self, Nat.zero_add]
theorem Mk.i2 (m : Mk l pre near post s1 s2) : l.idxOf s2 = pre.length + 1 + near.length := by
  have h : s2 ∉ pre := by rcases m.pl with ⟨_, e⟩ | ⟨_, e⟩ <;> rw [e] <;> first | exact no_star m.a | exact no_hash m.a
  have h2 : s2 ∉ near := by rcases m.pl with ⟨_, e⟩ | ⟨_, e⟩ <;> rw [e] <;> first | exact no_star m.b | exact no_hash m.b
  have h3 : s1 ≠ s2 := by rcases m.pl with ⟨rfl, rfl⟩ | ⟨rfl, rfl⟩ <;> decide
  rw [m.eq, List.idxOf_append, if_neg h, List.idxOf_cons, beq_false_of_ne h3, cond_false, List.idxOf_append, if_neg h2, List.idxOf_cons_self]
  omega
theorem Mk.m1 (m : Mk l pre near post s1 s2) : s1 ∈ l := by rw [m.eq]; simp
theorem Mk.m2 (m : Mk l pre near post s1 s2) : s2 ∈ l := by rw [m.eq]; simp
theorem Mk.cut1 (m : Mk l pre near post s1 s2) : cutL l none (some (pre.length : Int)) = pre := by
  rw [cut_to (by omega), m.eq]; simp
theorem Mk.cut2 (m : Mk l pre near post s1 s2) : cutL l (some ((pre.length : Int) + 1)) (some ((pre.length + 1 + near.length : Nat) : Int)) = near := by
  rw [cut_mid (by omega) (by omega), m.eq]
  have e1 : ((pre.length + 1 + near.length : Nat) : Int).toNat = (pre ++ [s1]).length + near.length := by simp; omega
  have e2 : ((pre.length : Int) + 1).toNat = (pre ++ [s1]).length := by simp
  have e3 : pre ++ s1 :: (near ++ s2 :: post) = (pre ++ [s1]) ++ (near ++ s2 :: post) := by simp
  rw [e1, e2, e3, Nat.add_sub_cancel_left, List.drop_left, List.take_left]
theorem Mk.cut3 (m : Mk l pre near post s1 s2) : cutL l (some (((pre.length + 1 + near.length : Nat) : Int) + 1)) none = post := by
  rw [cut_from (by omega), m.eq]
  have e1 : (((pre.length + 1 + near.length : Nat) : Int) + 1).toNat = (pre ++ s1 :: (near ++ [s2])).length := by simp; omega
  have e3 : pre ++ s1 :: (near ++ s2 :: post) = (pre ++ s1 :: (near ++ [s2])) ++ post := by simp
  rw [e1, e3, List.drop_left]
theorem Mk.size (m : Mk l pre near post s1 s2) : l.length ≤ sizeLine := by have := m.len; rw [sizeLine_eq]; omega
theorem Mk.lens (m : Mk l pre near post s1 s2) : pre.length + near.length + post.length ≤ 10 := by
  have := m.len; rw [m.eq] at this; simp at this; omega
theorem parts_rp (m : Mk l pre near post s1 s2) (k : P (.tup [.str pre, .str near, .str post]) cs) : RP (m_parts [.str l] cs) P X := by
  unfold m_parts mb_parts
  have hs := m.size
  have ln := m.lens
  have w : RP (mkT cs [.str pre, .str near, .str post]) P X := by rw [rp_mkT (by rw [sizeLine_eq]; simp)]; exact k
  have c1 := m.cut1
  have c2 := m.cut2
  have c3 := m.cut3
  rcases m.pl with ⟨e1, e2⟩ | ⟨e1, e2⟩
  · have i1 := m.i1; have i2 := m.i2; have m1 := m.m1; have m2 := m.m2
    rw [e1] at i1 m1; rw [e2] at i2 m2
    have x1 : ¬ ((pre.length + 1 + near.length : Nat) : Int) < (pre.length : Int) := by omega
    have x2 : ((pre.length + 1 + near.length : Nat) : Int) > (pre.length : Int) := by omega
    simp only [rp_def, List.map_cons, List.map_nil, List.length_cons, List.length_nil, Nat.reduceAdd, Nat.reduceSub, List.replicate_zero, List.replicate_succ, List.append_nil, List.cons_append, List.nil_append, List.set_cons_zero, List.set_cons_succ, sp_ret, sp_seq, sp_asg, sp_if, sp_nx, sp_drop, SP_brS, rap_cons, rap_nil, rp_bi, rp_c, rp_op2, rp_op1, rp_not, rp_or, rp_and, rp_if, rp_call, rp_varM, List.getElem?_cons_zero, List.getElem?_cons_succ, rp_notD, RP_br, RP_ok, rp_m1, rp_six m1, rp_six m2, i1, i2, rp_min, rp_max]
    rw [if_neg x1, if_pos x2]
    simp only [rp_tup, rap_cons, rap_nil, rp_sl, rp_varM, List.getElem?_cons_zero, List.getElem?_cons_succ, ro_none, ro_varM, ro_varA, rp_slS hs]
    rw [c1, c2, c3]
    exact w
  · have i1 := m.i1; have i2 := m.i2; have m1 := m.m1; have m2 := m.m2
    rw [e1] at i1 m1; rw [e2] at i2 m2
    have x1 : (pre.length : Int) < ((pre.length + 1 + near.length : Nat) : Int) := by omega
    have x2 : ¬ (pre.length : Int) > ((pre.length + 1 + near.length : Nat) : Int) := by omega
    simp only [rp_def, List.map_cons, List.map_nil, List.length_cons, List.length_nil, Nat.reduceAdd, Nat.reduceSub, List.replicate_zero, List.replicate_succ, List.append_nil, List.cons_append, List.nil_append, List.set_cons_zero, List.set_cons_succ, sp_ret, sp_seq, sp_asg, sp_if, sp_nx, sp_drop, SP_brS, rap_cons, rap_nil, rp_bi, rp_c, rp_op2, rp_op1, rp_not, rp_or, rp_and, rp_if, rp_call, rp_varM, List.getElem?_cons_zero, List.getElem?_cons_succ, rp_notD, RP_br, RP_ok, rp_m1, rp_six m1, rp_six m2, i1, i2, rp_min, rp_max]
    rw [if_pos x1, if_neg x2]
    simp only [rp_tup, rap_cons, rap_nil, rp_sl, rp_varM, List.getElem?_cons_zero, List.getElem?_cons_succ, ro_none, ro_varM, ro_varA, rp_slS hs]
    rw [c1, c2, c3]
    exact w
theorem nf_rp (m : Mk l pre near post s1 s2) (k : P (.bl (decide (s1 = 42))) cs) : RP (m_name_first [.str l] cs) P X := by
  unfold m_name_first mb_name_first
  rcases m.pl with ⟨e1, e2⟩ | ⟨e1, e2⟩
  · have i1 := m.i1; have i2 := m.i2; have m1 := m.m1; have m2 := m.m2
    rw [e1] at i1 m1; rw [e2] at i2 m2
    have x : decide ((pre.length : Int) < ((pre.length + 1 + near.length : Nat) : Int)) = true := by simp; omega
    simp only [rp_def, List.map_cons, List.map_nil, List.length_cons, List.length_nil, Nat.reduceAdd, Nat.reduceSub, List.replicate_zero, List.replicate_succ, List.append_nil, List.cons_append, List.nil_append, List.set_cons_zero, List.set_cons_succ, sp_ret, sp_seq, sp_asg, sp_if, sp_nx, sp_drop, SP_brS, rap_cons, rap_nil, rp_bi, rp_c, rp_op2, rp_op1, rp_not, rp_or, rp_and, rp_if, rp_call, rp_varM, List.getElem?_cons_zero, List.getElem?_cons_succ, rp_notD, RP_br, RP_ok, rp_m1, rp_six m1, rp_six m2, i1, i2, rp_lt, x]
    rw [e1] at k; exact k
  · have i1 := m.i1; have i2 := m.i2; have m1 := m.m1; have m2 := m.m2
    rw [e1] at i1 m1; rw [e2] at i2 m2
    have x : decide (((pre.length + 1 + near.length : Nat) : Int) < (pre.length : Int)) = false := by simp; omega
    simp only [rp_def, List.map_cons, List.map_nil, List.length_cons, List.length_nil, Nat.reduceAdd, Nat.reduceSub, List.replicate_zero, List.replicate_succ, List.append_nil, List.cons_append, List.nil_append, List.set_cons_zero, List.set_cons_succ, sp_ret, sp_seq, sp_asg, sp_if, sp_nx, sp_drop, SP_brS, rap_cons, rap_nil, rp_bi, rp_c, rp_op2, rp_op1, rp_not, rp_or, rp_and, rp_if, rp_call, rp_varM, List.getElem?_cons_zero, List.getElem?_cons_succ, rp_notD, RP_br, RP_ok, rp_m1, rp_six m1, rp_six m2, i1, i2, rp_lt, x]
    rw [e1] at k; exact k
/-! ### written -/
def wrL (pre near post : List Nat) (s1 : Nat) (n : List Nat) (i : Int) : List Nat := if s1 = 42 then pre ++ n ++ near ++ codes (toString i) ++ post else pre ++ codes (toString i) ++ near ++ n ++ post
/-! ### is_clear, two_readings -/
def allF (l : List Nat) : Bool := l.all fun c => decide (c ∈ FG)
theorem figs_rp {y : List Nat} {i : Nat} {env : L3.Env} {a : ME} (ha : ∀ P' : D → Cells → Prop, P' (.str y) cs → RP (a env cs) P' X) (hy : y.length ≤ sizeLine) (hi : i < env.length) (k : P (.bl (allF y)) cs) : RP (eBi allB (aCons (eLc false [i] (tgN i) (wSeq a) (eC (.bl true)) (op2 inD (eVar i) (eC (.str FG)))) aNil) env cs) P X := by
  simp only [rp_def, List.map_cons, List.map_nil, List.length_cons, List.length_nil, Nat.reduceAdd, Nat.reduceSub, List.replicate_zero, List.replicate_succ, List.append_nil, List.cons_append, List.nil_append, List.set_cons_zero, List.set_cons_succ, sp_ret, sp_seq, sp_asg, sp_if, sp_nx, sp_drop, SP_brS, rap_cons, rap_nil, rp_bi, rp_c, rp_op2, rp_op1, rp_not, rp_or, rp_and, rp_if, rp_call, rp_varM, List.getElem?_cons_zero, List.getElem?_cons_succ, rp_notD, RP_br, RP_ok, RP_bind, rp_lc, wp_seq]
  refine ha _ ?_
  simp only
  rw [lc_map (g := fun d => match d with | .str [c] => .bl (decide (c ∈ FG)) | _ => .non) trivial ?_]
  · have e1 : (List.map (fun d => match d with | D.str [c] => D.bl (decide (c ∈ FG)) | x => D.non) (List.map (fun ch => D.str [ch]) y)) = (y.map fun c => decide (c ∈ FG)).map D.bl := by
      rw [List.map_map, List.map_map]; rfl
    rw [e1]
    show RP (mkL false cs _) _ _
    rw [rp_mkLf (by rw [List.length_map, List.length_map]; exact hy), rp_allL]
    have : allF y = ((y.map fun c => decide (c ∈ FG)).all _root_.id) := by
      unfold allF; rw [List.all_map]; rfl
    rw [← this]
    exact k
  · intro d hd
    obtain ⟨c, hc, rfl⟩ := List.mem_map.mp hd
    refine ⟨_, rfl, rfl, RP.eq ?_⟩
    have : (List.set (wipeE env [i]) i (some (D.str [c])))[i]? = some (some (.str [c])) := List.getElem?_set_self (by rw [wipeE_len]; exact hi)
    simp only [rp_op2, rp_varM, this, rp_c, rp_inS]
    first | exact ⟨rfl, rfl⟩ | exact ⟨rfl, trivial⟩ | exact ⟨trivial, rfl⟩ | exact trivial | exact ⟨trivial, trivial⟩
theorem cl_rp (m : Mk l pre near post s1 s2) (k : P (.bl (!allF near)) cs) : RP (m_is_clear [.str l] cs) P X := by
  have ln := m.lens
  unfold m_is_clear mb_is_clear
  simp only [rp_def, List.map_cons, List.map_nil, List.length_cons, List.length_nil, Nat.reduceAdd, Nat.reduceSub, List.replicate_zero, List.replicate_succ, List.append_nil, List.cons_append, List.nil_append, sp_seq, sp_drop, sp_ret, rp_call, rap_cons, rap_nil, rp_varM, List.getElem?_cons_zero]
  refine nm_rp m.ism ?_
  rw [rp_not]
  refine figs_rp (y := near) (fun P' k' => ?_) (by rw [sizeLine_eq]; omega) (by simp) ?_
  · simp only [rp_def, List.map_cons, List.map_nil, List.length_cons, List.length_nil, Nat.reduceAdd, Nat.reduceSub, List.replicate_zero, List.replicate_succ, List.append_nil, List.cons_append, List.nil_append, List.set_cons_zero, List.set_cons_succ, sp_ret, sp_seq, sp_asg, sp_if, sp_nx, sp_drop, SP_brS, rap_cons, rap_nil, rp_bi, rp_c, rp_op2, rp_op1, rp_not, rp_or, rp_and, rp_if, rp_call, rp_varM, List.getElem?_cons_zero, List.getElem?_cons_succ, rp_notD, RP_br, RP_ok]
    refine parts_rp m ?_
    rw [rp_ixT (x := D.str near) rfl]
    exact k'
  · rw [rp_notD]; exact k
theorem tr_clear (m : Mk l pre near post s1 s2) (h : allF near = false) (k : P .non cs) : RP (m_two_readings [.str l] cs) P X := by
  unfold m_two_readings mb_two_readings
  try simp only [rp_def, List.map_cons, List.map_nil, List.length_cons, List.length_nil, Nat.reduceAdd, Nat.reduceSub, List.replicate_zero, List.replicate_succ, List.append_nil, List.cons_append, List.nil_append, List.set_cons_zero, List.set_cons_succ, sp_ret, sp_seq, sp_asg, sp_if, sp_nx, sp_drop, SP_brS, rap_cons, rap_nil, rp_bi, rp_c, rp_op2, rp_op1, rp_not, rp_or, rp_and, rp_if, rp_call, rp_varM, List.getElem?_cons_zero, List.getElem?_cons_succ, rp_notD, RP_br, RP_ok]
  refine cl_rp m ?_
  rw [h]
  simp only [rp_def, List.map_cons, List.map_nil, List.length_cons, List.length_nil, Nat.reduceAdd, Nat.reduceSub, List.replicate_zero, List.replicate_succ, List.append_nil, List.cons_append, List.nil_append, List.set_cons_zero, List.set_cons_succ, sp_ret, sp_seq, sp_asg, sp_if, sp_nx, sp_drop, SP_brS, rap_cons, rap_nil, rp_bi, rp_c, rp_op2, rp_op1, rp_not, rp_or, rp_and, rp_if, rp_call, rp_varM, List.getElem?_cons_zero, List.getElem?_cons_succ, rp_notD, RP_br, RP_ok, Bool.not_false, if_true]
  exact k
theorem tr_dim (m : Mk l pre near post s1 s2) (h : allF near = true) (k : ∀ (i : Int) (z : List Nat), z.length ≤ 100 → P (.tup [.tup [.str [97], .int i], .tup [.str z, .int 2]]) cs) : RP (m_two_readings [.str l] cs) P X := by
  have ln := m.lens
  have hd : NumText.AllDigits (50 :: (near ++ [50])) := by
    intro c hc
    rcases List.mem_cons.mp hc with rfl | hc
    · decide
    · rcases List.mem_append.mp hc with hc | hc
      · have := of_decide_eq_true (List.all_eq_true.mp h c hc)
        simp only [FG, List.mem_cons, List.not_mem_nil, or_false] at this
        omega
      · rw [List.mem_singleton.mp hc]; decide
  have ht := intText_digits (x := ⟨(50 :: (near ++ [50])).toArray⟩) (by simpa using hd) (by simp) (by rw [str_len]; simp; omega)
  unfold m_two_readings mb_two_readings
  try simp only [rp_def, List.map_cons, List.map_nil, List.length_cons, List.length_nil, Nat.reduceAdd, Nat.reduceSub, List.replicate_zero, List.replicate_succ, List.append_nil, List.cons_append, List.nil_append, List.set_cons_zero, List.set_cons_succ, sp_ret, sp_seq, sp_asg, sp_if, sp_nx, sp_drop, SP_brS, rap_cons, rap_nil, rp_bi, rp_c, rp_op2, rp_op1, rp_not, rp_or, rp_and, rp_if, rp_call, rp_varM, List.getElem?_cons_zero, List.getElem?_cons_succ, rp_notD, RP_br, RP_ok]
  refine cl_rp m ?_
  rw [h]
  simp only [rp_def, List.map_cons, List.map_nil, List.length_cons, List.length_nil, Nat.reduceAdd, Nat.reduceSub, List.replicate_zero, List.replicate_succ, List.append_nil, List.cons_append, List.nil_append, List.set_cons_zero, List.set_cons_succ, sp_ret, sp_seq, sp_asg, sp_if, sp_nx, sp_drop, SP_brS, rap_cons, rap_nil, rp_bi, rp_c, rp_op2, rp_op1, rp_not, rp_or, rp_and, rp_if, rp_call, rp_varM, List.getElem?_cons_zero, List.getElem?_cons_succ, rp_notD, RP_br, RP_ok, Bool.not_true, Bool.false_eq_true, if_false]
  refine parts_rp m ?_
  rw [rp_ixT (x := D.str near) rfl]
  try simp only [rp_def, List.map_cons, List.map_nil, List.length_cons, List.length_nil, Nat.reduceAdd, Nat.reduceSub, List.replicate_zero, List.replicate_succ, List.append_nil, List.cons_append, List.nil_append, List.set_cons_zero, List.set_cons_succ, sp_ret, sp_seq, sp_asg, sp_if, sp_nx, sp_drop, SP_brS, rap_cons, rap_nil, rp_bi, rp_c, rp_op2, rp_op1, rp_not, rp_or, rp_and, rp_if, rp_call, rp_varM, List.getElem?_cons_zero, List.getElem?_cons_succ, rp_notD, RP_br, RP_ok]
  refine nf_rp m ?_
  have w : ∀ z : List Nat, z.length ≤ 100 → SP (sRet (eTup (aCons (eTup (aCons (eC (.str [97])) (aCons (eBi intB (aCons (op2 (addD false) (op2 (addD false) (eC (.str [50])) (eVar 1)) (eC (.str [50]))) aNil)) aNil))) (aCons (eTup (aCons (eVar 2) (aCons (eC (.int 2)) aNil))) aNil))) [some (.str l), some (.str near), some (.str z)] cs) ⟨fun _ c => P .non c, P, fun _ _ => False, fun _ _ => False, fun x fs _ c => X x fs c⟩ := by
    intro z hz
    simp only [rp_def, List.map_cons, List.map_nil, List.length_cons, List.length_nil, Nat.reduceAdd, Nat.reduceSub, List.replicate_zero, List.replicate_succ, List.append_nil, List.cons_append, List.nil_append, List.set_cons_zero, List.set_cons_succ, sp_ret, sp_seq, sp_asg, sp_if, sp_nx, sp_drop, SP_brS, rap_cons, rap_nil, rp_bi, rp_c, rp_op2, rp_op1, rp_not, rp_or, rp_and, rp_if, rp_call, rp_varM, List.getElem?_cons_zero, List.getElem?_cons_succ, rp_notD, RP_br, RP_ok, rp_tup]
    rw [rp_addS (by rw [sizeLine_eq]; simp; omega), rp_addS (by rw [sizeLine_eq]; simp; omega)]
    simp only [List.cons_append, List.nil_append]
    rw [rp_int ht (by simp; omega), rp_mkT (by rw [sizeLine_eq]; simp)]
    simp only [rp_def, List.map_cons, List.map_nil, List.length_cons, List.length_nil, Nat.reduceAdd, Nat.reduceSub, List.replicate_zero, List.replicate_succ, List.append_nil, List.cons_append, List.nil_append, List.set_cons_zero, List.set_cons_succ, sp_ret, sp_seq, sp_asg, sp_if, sp_nx, sp_drop, SP_brS, rap_cons, rap_nil, rp_bi, rp_c, rp_op2, rp_op1, rp_not, rp_or, rp_and, rp_if, rp_call, rp_varM, List.getElem?_cons_zero, List.getElem?_cons_succ, rp_notD, RP_br, RP_ok, rp_tup]
    rw [rp_mkT (by rw [sizeLine_eq]; simp), rp_mkT (by rw [sizeLine_eq]; simp)]
    exact k _ z hz
  by_cases e : s1 = 42
  · simp only [e, decide_true, cond_true, rp_def, List.map_cons, List.map_nil, List.length_cons, List.length_nil, Nat.reduceAdd, Nat.reduceSub, List.replicate_zero, List.replicate_succ, List.append_nil, List.cons_append, List.nil_append, List.set_cons_zero, List.set_cons_succ, sp_ret, sp_seq, sp_asg, sp_if, sp_nx, sp_drop, SP_brS, rap_cons, rap_nil, rp_bi, rp_c, rp_op2, rp_op1, rp_not, rp_or, rp_and, rp_if, rp_call, rp_varM, List.getElem?_cons_zero, List.getElem?_cons_succ, rp_notD, RP_br, RP_ok]
    rw [rp_addS (by rw [sizeLine_eq]; simp; omega), rp_addS (by rw [sizeLine_eq]; simp; omega)]
    have := w ([97] ++ near ++ [50]) (by simp; omega)
    simp only [rp_def, List.map_cons, List.map_nil, List.length_cons, List.length_nil, Nat.reduceAdd, Nat.reduceSub, List.replicate_zero, List.replicate_succ, List.append_nil, List.cons_append, List.nil_append, List.set_cons_zero, List.set_cons_succ, sp_ret, sp_seq, sp_asg, sp_if, sp_nx, sp_drop, SP_brS, rap_cons, rap_nil, rp_bi, rp_c, rp_op2, rp_op1, rp_not, rp_or, rp_and, rp_if, rp_call, rp_varM, List.getElem?_cons_zero, List.getElem?_cons_succ, rp_notD, RP_br, RP_ok] at this ⊢
    exact this
  · simp only [e, decide_false, cond_false, rp_def, List.map_cons, List.map_nil, List.length_cons, List.length_nil, Nat.reduceAdd, Nat.reduceSub, List.replicate_zero, List.replicate_succ, List.append_nil, List.cons_append, List.nil_append, List.set_cons_zero, List.set_cons_succ, sp_ret, sp_seq, sp_asg, sp_if, sp_nx, sp_drop, SP_brS, rap_cons, rap_nil, rp_bi, rp_c, rp_op2, rp_op1, rp_not, rp_or, rp_and, rp_if, rp_call, rp_varM, List.getElem?_cons_zero, List.getElem?_cons_succ, rp_notD, RP_br, RP_ok]
    rw [rp_addS (by rw [sizeLine_eq]; simp; omega), rp_addS (by rw [sizeLine_eq]; simp; omega)]
    have := w ([50] ++ near ++ [97]) (by simp; omega)
    simp only [rp_def, List.map_cons, List.map_nil, List.length_cons, List.length_nil, Nat.reduceAdd, Nat.reduceSub, List.replicate_zero, List.replicate_succ, List.append_nil, List.cons_append, List.nil_append, List.set_cons_zero, List.set_cons_succ, sp_ret, sp_seq, sp_asg, sp_if, sp_nx, sp_drop, SP_brS, rap_cons, rap_nil, rp_bi, rp_c, rp_op2, rp_op1, rp_not, rp_or, rp_and, rp_if, rp_call, rp_varM, List.getElem?_cons_zero, List.getElem?_cons_succ, rp_notD, RP_br, RP_ok] at this ⊢
    exact this
theorem nc_rp (m : Mk l pre near post s1 s2) (h : allF near = false) (k : P .non cs) : RP (m_need_clear [.str l] cs) P X := by
  unfold m_need_clear mb_need_clear
  try simp only [rp_def, List.map_cons, List.map_nil, List.length_cons, List.length_nil, Nat.reduceAdd, Nat.reduceSub, List.replicate_zero, List.replicate_succ, List.append_nil, List.cons_append, List.nil_append, List.set_cons_zero, List.set_cons_succ, sp_ret, sp_seq, sp_asg, sp_if, sp_nx, sp_drop, SP_brS, rap_cons, rap_nil, rp_bi, rp_c, rp_op2, rp_op1, rp_not, rp_or, rp_and, rp_if, rp_call, rp_varM, List.getElem?_cons_zero, List.getElem?_cons_succ, rp_notD, RP_br, RP_ok]
  refine tr_clear m h ?_
  simp only [rp_def, List.map_cons, List.map_nil, List.length_cons, List.length_nil, Nat.reduceAdd, Nat.reduceSub, List.replicate_zero, List.replicate_succ, List.append_nil, List.cons_append, List.nil_append, List.set_cons_zero, List.set_cons_succ, sp_ret, sp_seq, sp_asg, sp_if, sp_nx, sp_drop, SP_brS, rap_cons, rap_nil, rp_bi, rp_c, rp_op2, rp_op1, rp_not, rp_or, rp_and, rp_if, rp_call, rp_varM, List.getElem?_cons_zero, List.getElem?_cons_succ, rp_notD, RP_br, RP_ok, rp_isNB, Bool.not_true, Bool.false_eq_true, if_false]
  exact k
/-! ### reading -/
theorem bi_rp {x y : List Nat} (hx : x.length ≤ 1000) (hy : y.length ≤ 1000) (k : ∀ d, (d = .non ∨ ∃ n i, d = .tup [.str n, .int i]) → P d cs) : RP (m_both_in [.str x, .str y] cs) P X := by
  unfold m_both_in mb_both_in
  try simp only [rp_def, List.map_cons, List.map_nil, List.length_cons, List.length_nil, Nat.reduceAdd, Nat.reduceSub, List.replicate_zero, List.replicate_succ, List.append_nil, List.cons_append, List.nil_append, List.set_cons_zero, List.set_cons_succ, sp_ret, sp_seq, sp_asg, sp_if, sp_nx, sp_drop, SP_brS, rap_cons, rap_nil, rp_bi, rp_c, rp_op2, rp_op1, rp_not, rp_or, rp_and, rp_if, rp_call, rp_varM, List.getElem?_cons_zero, List.getElem?_cons_succ, rp_notD, RP_br, RP_ok]
  refine num_str (by rw [sizeLine_eq]; omega) ?_
  unfold nuL
  split
  · simp only [rp_def, List.map_cons, List.map_nil, List.length_cons, List.length_nil, Nat.reduceAdd, Nat.reduceSub, List.replicate_zero, List.replicate_succ, List.append_nil, List.cons_append, List.nil_append, List.set_cons_zero, List.set_cons_succ, sp_ret, sp_seq, sp_asg, sp_if, sp_nx, sp_drop, SP_brS, rap_cons, rap_nil, rp_bi, rp_c, rp_op2, rp_op1, rp_not, rp_or, rp_and, rp_if, rp_call, rp_varM, List.getElem?_cons_zero, List.getElem?_cons_succ, rp_notD, RP_br, RP_ok, rp_isB, cond_false]
    refine isn_str (by rw [sizeLine_eq]; omega) ?_
    cases nm x with
    | true =>
      simp only [rp_def, List.map_cons, List.map_nil, List.length_cons, List.length_nil, Nat.reduceAdd, Nat.reduceSub, List.replicate_zero, List.replicate_succ, List.append_nil, List.cons_append, List.nil_append, List.set_cons_zero, List.set_cons_succ, sp_ret, sp_seq, sp_asg, sp_if, sp_nx, sp_drop, SP_brS, rap_cons, rap_nil, rp_bi, rp_c, rp_op2, rp_op1, rp_not, rp_or, rp_and, rp_if, rp_call, rp_varM, List.getElem?_cons_zero, List.getElem?_cons_succ, rp_notD, RP_br, RP_ok, Bool.not_true, Bool.false_eq_true, if_false, rp_tup]
      rw [rp_mkT (by rw [sizeLine_eq]; simp)]
      exact k _ (.inr ⟨_, _, rfl⟩)
    | false =>
      simp only [rp_def, List.map_cons, List.map_nil, List.length_cons, List.length_nil, Nat.reduceAdd, Nat.reduceSub, List.replicate_zero, List.replicate_succ, List.append_nil, List.cons_append, List.nil_append, List.set_cons_zero, List.set_cons_succ, sp_ret, sp_seq, sp_asg, sp_if, sp_nx, sp_drop, SP_brS, rap_cons, rap_nil, rp_bi, rp_c, rp_op2, rp_op1, rp_not, rp_or, rp_and, rp_if, rp_call, rp_varM, List.getElem?_cons_zero, List.getElem?_cons_succ, rp_notD, RP_br, RP_ok, Bool.not_false, if_true]
      exact k _ (.inl rfl)
  · simp only [rp_def, List.map_cons, List.map_nil, List.length_cons, List.length_nil, Nat.reduceAdd, Nat.reduceSub, List.replicate_zero, List.replicate_succ, List.append_nil, List.cons_append, List.nil_append, List.set_cons_zero, List.set_cons_succ, sp_ret, sp_seq, sp_asg, sp_if, sp_nx, sp_drop, SP_brS, rap_cons, rap_nil, rp_bi, rp_c, rp_op2, rp_op1, rp_not, rp_or, rp_and, rp_if, rp_call, rp_varM, List.getElem?_cons_zero, List.getElem?_cons_succ, rp_notD, RP_br, RP_ok, rp_isB, cond_true, if_true]
    exact k _ (.inl rfl)
theorem nb_rp {x y : List Nat} (hx : x.length ≤ 500) (hy : y.length ≤ 500) (k : ∀ d, (d = .non ∨ ∃ n i, d = .tup [.str n, .int i]) → P d cs) : RP (m_number_behind [.str x, .str y] cs) P X := by
  have sx : x.length ≤ sizeLine := by rw [sizeLine_eq]; omega
  have sy : y.length ≤ sizeLine := by rw [sizeLine_eq]; omega
  unfold m_number_behind mb_number_behind
  try simp only [rp_def, List.map_cons, List.map_nil, List.length_cons, List.length_nil, Nat.reduceAdd, Nat.reduceSub, List.replicate_zero, List.replicate_succ, List.append_nil, List.cons_append, List.nil_append, List.set_cons_zero, List.set_cons_succ, sp_ret, sp_seq, sp_asg, sp_if, sp_nx, sp_drop, SP_brS, rap_cons, rap_nil, rp_bi, rp_c, rp_op2, rp_op1, rp_not, rp_or, rp_and, rp_if, rp_call, rp_varM, List.getElem?_cons_zero, List.getElem?_cons_succ, rp_notD, RP_br, RP_ok, rp_lenS sx, rp_lenS sy, rp_m1]
  refine rp_rsc sy fun z hz => ?_
  rw [rp_lenS (by omega), rp_sub]
  try simp only [rp_def, List.map_cons, List.map_nil, List.length_cons, List.length_nil, Nat.reduceAdd, Nat.reduceSub, List.replicate_zero, List.replicate_succ, List.append_nil, List.cons_append, List.nil_append, List.set_cons_zero, List.set_cons_succ, sp_ret, sp_seq, sp_asg, sp_if, sp_nx, sp_drop, SP_brS, rap_cons, rap_nil, rp_bi, rp_c, rp_op2, rp_op1, rp_not, rp_or, rp_and, rp_if, rp_call, rp_varM, List.getElem?_cons_zero, List.getElem?_cons_succ, rp_notD, RP_br, RP_ok, rp_lenS sx, rp_lenS sy, rp_m1]
  refine rp_rsc sx fun z2 hz2 => ?_
  rw [rp_lenS (by omega), rp_addI]
  simp only [rp_def, List.map_cons, List.map_nil, List.length_cons, List.length_nil, Nat.reduceAdd, Nat.reduceSub, List.replicate_zero, List.replicate_succ, List.append_nil, List.cons_append, List.nil_append, List.set_cons_zero, List.set_cons_succ, sp_ret, sp_seq, sp_asg, sp_if, sp_nx, sp_drop, SP_brS, rap_cons, rap_nil, rp_bi, rp_c, rp_op2, rp_op1, rp_not, rp_or, rp_and, rp_if, rp_call, rp_varM, List.getElem?_cons_zero, List.getElem?_cons_succ, rp_notD, RP_br, RP_ok, rp_sl, ro_none, ro_varM, rp_slS sx, rp_m1, rp_ends]
  have hc := cutL_len x none (some ((z2.length : Int) + ((y.length : Int) - (z.length : Int))))
  cases Txt.endswith (mk (cutL x none (some ((z2.length : Int) + ((y.length : Int) - (z.length : Int)))))) (mk y) with
  | false =>
    simp only [rp_def, List.map_cons, List.map_nil, List.length_cons, List.length_nil, Nat.reduceAdd, Nat.reduceSub, List.replicate_zero, List.replicate_succ, List.append_nil, List.cons_append, List.nil_append, List.set_cons_zero, List.set_cons_succ, sp_ret, sp_seq, sp_asg, sp_if, sp_nx, sp_drop, SP_brS, rap_cons, rap_nil, rp_bi, rp_c, rp_op2, rp_op1, rp_not, rp_or, rp_and, rp_if, rp_call, rp_varM, List.getElem?_cons_zero, List.getElem?_cons_succ, rp_notD, RP_br, RP_ok, Bool.not_false, if_true]
    exact k _ (.inl rfl)
  | true =>
    have hs : (cutL x none (some ((z2.length : Int) + ((y.length : Int) - (z.length : Int))))).length ≤ sizeLine := by omega
    have ro : oSome (op2 subD (eBi lenB (aCons (eVar 4) aNil)) (eBi lenB (aCons (eVar 1) aNil))) [some (D.str x), some (D.str y), some (D.int ((y.length : Int) - (z.length : Int))), some (D.int ((z2.length : Int) + ((y.length : Int) - (z.length : Int)))), some (D.str (cutL x none (some ((z2.length : Int) + ((y.length : Int) - (z.length : Int))))))] cs = some (some (((cutL x none (some ((z2.length : Int) + ((y.length : Int) - (z.length : Int))))).length : Int) - (y.length : Int)), cs) := by
      refine ro_some (RP.eq ?_)
      simp only [rp_def, List.map_cons, List.map_nil, List.length_cons, List.length_nil, Nat.reduceAdd, Nat.reduceSub, List.replicate_zero, List.replicate_succ, List.append_nil, List.cons_append, List.nil_append, List.set_cons_zero, List.set_cons_succ, sp_ret, sp_seq, sp_asg, sp_if, sp_nx, sp_drop, SP_brS, rap_cons, rap_nil, rp_bi, rp_c, rp_op2, rp_op1, rp_not, rp_or, rp_and, rp_if, rp_call, rp_varM, List.getElem?_cons_zero, List.getElem?_cons_succ, rp_notD, RP_br, RP_ok, rp_lenS hs, rp_lenS sy, rp_sub]
      first | exact ⟨rfl, rfl⟩ | exact ⟨rfl, trivial⟩ | exact ⟨trivial, rfl⟩ | exact trivial | exact ⟨trivial, trivial⟩
    simp only [rp_def, List.map_cons, List.map_nil, List.length_cons, List.length_nil, Nat.reduceAdd, Nat.reduceSub, List.replicate_zero, List.replicate_succ, List.append_nil, List.cons_append, List.nil_append, List.set_cons_zero, List.set_cons_succ, sp_ret, sp_seq, sp_asg, sp_if, sp_nx, sp_drop, SP_brS, rap_cons, rap_nil, rp_bi, rp_c, rp_op2, rp_op1, rp_not, rp_or, rp_and, rp_if, rp_call, rp_varM, List.getElem?_cons_zero, List.getElem?_cons_succ, rp_notD, RP_br, RP_ok, Bool.not_true, Bool.false_eq_true, if_false, rp_sl, ro_none, ro_varM, ro, rp_slS sx, rp_slS hs]
    exact bi_rp (Nat.le_trans (cutL_len _ _ _) (by omega)) (Nat.le_trans (cutL_len _ _ _) (by omega)) k
theorem na_rp {x y : List Nat} (hx : x.length ≤ 500) (hy : y.length ≤ 500) (k : ∀ d, (d = .non ∨ ∃ n i, d = .tup [.str n, .int i]) → P d cs) : RP (m_number_ahead [.str x, .str y] cs) P X := by
  have sx : x.length ≤ sizeLine := by rw [sizeLine_eq]; omega
  have sy : y.length ≤ sizeLine := by rw [sizeLine_eq]; omega
  unfold m_number_ahead mb_number_ahead
  try simp only [rp_def, List.map_cons, List.map_nil, List.length_cons, List.length_nil, Nat.reduceAdd, Nat.reduceSub, List.replicate_zero, List.replicate_succ, List.append_nil, List.cons_append, List.nil_append, List.set_cons_zero, List.set_cons_succ, sp_ret, sp_seq, sp_asg, sp_if, sp_nx, sp_drop, SP_brS, rap_cons, rap_nil, rp_bi, rp_c, rp_op2, rp_op1, rp_not, rp_or, rp_and, rp_if, rp_call, rp_varM, List.getElem?_cons_zero, List.getElem?_cons_succ, rp_notD, RP_br, RP_ok, rp_lenS sx, rp_lenS sy, rp_m1]
  refine rp_lsc sy fun z hz => ?_
  rw [rp_lenS (by omega), rp_sub]
  try simp only [rp_def, List.map_cons, List.map_nil, List.length_cons, List.length_nil, Nat.reduceAdd, Nat.reduceSub, List.replicate_zero, List.replicate_succ, List.append_nil, List.cons_append, List.nil_append, List.set_cons_zero, List.set_cons_succ, sp_ret, sp_seq, sp_asg, sp_if, sp_nx, sp_drop, SP_brS, rap_cons, rap_nil, rp_bi, rp_c, rp_op2, rp_op1, rp_not, rp_or, rp_and, rp_if, rp_call, rp_varM, List.getElem?_cons_zero, List.getElem?_cons_succ, rp_notD, RP_br, RP_ok, rp_lenS sx, rp_lenS sy, rp_m1]
  refine rp_lsc sx fun z2 hz2 => ?_
  rw [rp_lenS (by omega), rp_sub]
  simp only [rp_def, List.map_cons, List.map_nil, List.length_cons, List.length_nil, Nat.reduceAdd, Nat.reduceSub, List.replicate_zero, List.replicate_succ, List.append_nil, List.cons_append, List.nil_append, List.set_cons_zero, List.set_cons_succ, sp_ret, sp_seq, sp_asg, sp_if, sp_nx, sp_drop, SP_brS, rap_cons, rap_nil, rp_bi, rp_c, rp_op2, rp_op1, rp_not, rp_or, rp_and, rp_if, rp_call, rp_varM, List.getElem?_cons_zero, List.getElem?_cons_succ, rp_notD, RP_br, RP_ok, rp_sub, rp_lt]
  generalize (x.length : Int) - (z2.length : Int) - ((y.length : Int) - (z.length : Int)) = j
  by_cases hj : j < 1
  · simp only [hj, decide_true, cond_true, rp_def, List.map_cons, List.map_nil, List.length_cons, List.length_nil, Nat.reduceAdd, Nat.reduceSub, List.replicate_zero, List.replicate_succ, List.append_nil, List.cons_append, List.nil_append, List.set_cons_zero, List.set_cons_succ, sp_ret, sp_seq, sp_asg, sp_if, sp_nx, sp_drop, SP_brS, rap_cons, rap_nil, rp_bi, rp_c, rp_op2, rp_op1, rp_not, rp_or, rp_and, rp_if, rp_call, rp_varM, List.getElem?_cons_zero, List.getElem?_cons_succ, rp_notD, RP_br, RP_ok, if_true]
    exact k _ (.inl rfl)
  · simp only [hj, decide_false, cond_false, rp_def, List.map_cons, List.map_nil, List.length_cons, List.length_nil, Nat.reduceAdd, Nat.reduceSub, List.replicate_zero, List.replicate_succ, List.append_nil, List.cons_append, List.nil_append, List.set_cons_zero, List.set_cons_succ, sp_ret, sp_seq, sp_asg, sp_if, sp_nx, sp_drop, SP_brS, rap_cons, rap_nil, rp_bi, rp_c, rp_op2, rp_op1, rp_not, rp_or, rp_and, rp_if, rp_call, rp_varM, List.getElem?_cons_zero, List.getElem?_cons_succ, rp_notD, RP_br, RP_ok, rp_sl, ro_none, ro_varM, rp_slS sx, rp_m1, rp_starts]
    cases Txt.startswith (mk (cutL x (some j) none)) (mk y) with
    | false =>
      simp only [rp_def, List.map_cons, List.map_nil, List.length_cons, List.length_nil, Nat.reduceAdd, Nat.reduceSub, List.replicate_zero, List.replicate_succ, List.append_nil, List.cons_append, List.nil_append, List.set_cons_zero, List.set_cons_succ, sp_ret, sp_seq, sp_asg, sp_if, sp_nx, sp_drop, SP_brS, rap_cons, rap_nil, rp_bi, rp_c, rp_op2, rp_op1, rp_not, rp_or, rp_and, rp_if, rp_call, rp_varM, List.getElem?_cons_zero, List.getElem?_cons_succ, rp_notD, RP_br, RP_ok, Bool.not_false, if_true]
      exact k _ (.inl rfl)
    | true =>
      have ro : oSome (op2 (addD false) (eVar 3) (eBi lenB (aCons (eVar 1) aNil))) [some (D.str x), some (D.str y), some (D.int ((y.length : Int) - (z.length : Int))), some (D.int j)] cs = some (some (j + (y.length : Int)), cs) := by
        refine ro_some (RP.eq ?_)
        simp only [rp_def, List.map_cons, List.map_nil, List.length_cons, List.length_nil, Nat.reduceAdd, Nat.reduceSub, List.replicate_zero, List.replicate_succ, List.append_nil, List.cons_append, List.nil_append, List.set_cons_zero, List.set_cons_succ, sp_ret, sp_seq, sp_asg, sp_if, sp_nx, sp_drop, SP_brS, rap_cons, rap_nil, rp_bi, rp_c, rp_op2, rp_op1, rp_not, rp_or, rp_and, rp_if, rp_call, rp_varM, List.getElem?_cons_zero, List.getElem?_cons_succ, rp_notD, RP_br, RP_ok, rp_lenS sy, rp_addI]
        first | exact ⟨rfl, rfl⟩ | exact ⟨rfl, trivial⟩ | exact ⟨trivial, rfl⟩ | exact trivial | exact ⟨trivial, trivial⟩
      simp only [rp_def, List.map_cons, List.map_nil, List.length_cons, List.length_nil, Nat.reduceAdd, Nat.reduceSub, List.replicate_zero, List.replicate_succ, List.append_nil, List.cons_append, List.nil_append, List.set_cons_zero, List.set_cons_succ, sp_ret, sp_seq, sp_asg, sp_if, sp_nx, sp_drop, SP_brS, rap_cons, rap_nil, rp_bi, rp_c, rp_op2, rp_op1, rp_not, rp_or, rp_and, rp_if, rp_call, rp_varM, List.getElem?_cons_zero, List.getElem?_cons_succ, rp_notD, RP_br, RP_ok, Bool.not_true, Bool.false_eq_true, if_false, rp_sl, ro_none, ro_varM, ro, rp_slS sx]
      exact bi_rp (Nat.le_trans (cutL_len _ _ _) (by omega)) (Nat.le_trans (cutL_len _ _ _) (by omega)) k
theorem rd_ok (m : Mk l pre near post s1 s2) (h : allF near = false) {n : List Nat} (q : IsN cs (.str n) true) (hn : n.length ≤ 500) (k : ∀ d, (d = .non ∨ ∃ n i, d = .tup [.str n, .int i]) → P d cs) : RP (m_reading [.str l, .str n] cs) P X := by
  have ln := m.lens
  have sn : n.length ≤ sizeLine := by rw [sizeLine_eq]; omega
  have sp : pre.length ≤ sizeLine := by rw [sizeLine_eq]; omega
  have sq : post.length ≤ sizeLine := by rw [sizeLine_eq]; omega
  unfold m_reading mb_reading
  try simp only [rp_def, List.map_cons, List.map_nil, List.length_cons, List.length_nil, Nat.reduceAdd, Nat.reduceSub, List.replicate_zero, List.replicate_succ, List.append_nil, List.cons_append, List.nil_append, List.set_cons_zero, List.set_cons_succ, sp_ret, sp_seq, sp_asg, sp_if, sp_nx, sp_drop, SP_brS, rap_cons, rap_nil, rp_bi, rp_c, rp_op2, rp_op1, rp_not, rp_or, rp_and, rp_if, rp_call, rp_varM, List.getElem?_cons_zero, List.getElem?_cons_succ, rp_notD, RP_br, RP_ok]
  refine nc_rp m h ?_
  try simp only [rp_def, List.map_cons, List.map_nil, List.length_cons, List.length_nil, Nat.reduceAdd, Nat.reduceSub, List.replicate_zero, List.replicate_succ, List.append_nil, List.cons_append, List.nil_append, List.set_cons_zero, List.set_cons_succ, sp_ret, sp_seq, sp_asg, sp_if, sp_nx, sp_drop, SP_brS, rap_cons, rap_nil, rp_bi, rp_c, rp_op2, rp_op1, rp_not, rp_or, rp_and, rp_if, rp_call, rp_varM, List.getElem?_cons_zero, List.getElem?_cons_succ, rp_notD, RP_br, RP_ok]
  refine nn_rp q ?_
  simp only [rp_def, List.map_cons, List.map_nil, List.length_cons, List.length_nil, Nat.reduceAdd, Nat.reduceSub, List.replicate_zero, List.replicate_succ, List.append_nil, List.cons_append, List.nil_append, List.set_cons_zero, List.set_cons_succ, sp_ret, sp_seq, sp_asg, sp_if, sp_nx, sp_drop, SP_brS, rap_cons, rap_nil, rp_bi, rp_c, rp_op2, rp_op1, rp_not, rp_or, rp_and, rp_if, rp_call, rp_varM, List.getElem?_cons_zero, List.getElem?_cons_succ, rp_notD, RP_br, RP_ok, sp_asgT]
  refine parts_rp m ?_
  simp only [rp_def, List.map_cons, List.map_nil, List.length_cons, List.length_nil, Nat.reduceAdd, Nat.reduceSub, List.replicate_zero, List.replicate_succ, List.append_nil, List.cons_append, List.nil_append, List.set_cons_zero, List.set_cons_succ, sp_ret, sp_seq, sp_asg, sp_if, sp_nx, sp_drop, SP_brS, rap_cons, rap_nil, rp_bi, rp_c, rp_op2, rp_op1, rp_not, rp_or, rp_and, rp_if, rp_call, rp_varM, List.getElem?_cons_zero, List.getElem?_cons_succ, rp_notD, RP_br, RP_ok, tgTup, tgTs, rp_lenS sn, rp_lenS sp, rp_lenS sq, rp_addI, rp_lt, rp_m1, rp_starts, rp_ends]
  cases decide ((n.length : Int) < (pre.length : Int) + (post.length : Int)) with
  | true => simp only [cond_true, if_true, rp_def, List.map_cons, List.map_nil, List.length_cons, List.length_nil, Nat.reduceAdd, Nat.reduceSub, List.replicate_zero, List.replicate_succ, List.append_nil, List.cons_append, List.nil_append, List.set_cons_zero, List.set_cons_succ, sp_ret, sp_seq, sp_asg, sp_if, sp_nx, sp_drop, SP_brS, rap_cons, rap_nil, rp_bi, rp_c, rp_op2, rp_op1, rp_not, rp_or, rp_and, rp_if, rp_call, rp_varM, List.getElem?_cons_zero, List.getElem?_cons_succ, rp_notD, RP_br, RP_ok]; exact k _ (.inl rfl)
  | false =>
    cases Txt.startswith (mk n) (mk pre) with
    | false => simp only [cond_true, cond_false, Bool.not_false, if_true, rp_def, List.map_cons, List.map_nil, List.length_cons, List.length_nil, Nat.reduceAdd, Nat.reduceSub, List.replicate_zero, List.replicate_succ, List.append_nil, List.cons_append, List.nil_append, List.set_cons_zero, List.set_cons_succ, sp_ret, sp_seq, sp_asg, sp_if, sp_nx, sp_drop, SP_brS, rap_cons, rap_nil, rp_bi, rp_c, rp_op2, rp_op1, rp_not, rp_or, rp_and, rp_if, rp_call, rp_varM, List.getElem?_cons_zero, List.getElem?_cons_succ, rp_notD, RP_br, RP_ok]; exact k _ (.inl rfl)
    | true =>
      cases Txt.endswith (mk n) (mk post) with
      | false => simp only [cond_true, cond_false, Bool.not_false, Bool.not_true, if_true, rp_def, List.map_cons, List.map_nil, List.length_cons, List.length_nil, Nat.reduceAdd, Nat.reduceSub, List.replicate_zero, List.replicate_succ, List.append_nil, List.cons_append, List.nil_append, List.set_cons_zero, List.set_cons_succ, sp_ret, sp_seq, sp_asg, sp_if, sp_nx, sp_drop, SP_brS, rap_cons, rap_nil, rp_bi, rp_c, rp_op2, rp_op1, rp_not, rp_or, rp_and, rp_if, rp_call, rp_varM, List.getElem?_cons_zero, List.getElem?_cons_succ, rp_notD, RP_br, RP_ok]; exact k _ (.inl rfl)
      | true =>
        have r1 : oSome (eBi lenB (aCons (eVar 2) aNil)) [some (.str l), some (.str n), some (.str pre), some (.str near), some (.str post), none] cs = some (some (pre.length : Int), cs) := by
          refine ro_some (RP.eq ?_)
          simp only [rp_def, List.map_cons, List.map_nil, List.length_cons, List.length_nil, Nat.reduceAdd, Nat.reduceSub, List.replicate_zero, List.replicate_succ, List.append_nil, List.cons_append, List.nil_append, List.set_cons_zero, List.set_cons_succ, sp_ret, sp_seq, sp_asg, sp_if, sp_nx, sp_drop, SP_brS, rap_cons, rap_nil, rp_bi, rp_c, rp_op2, rp_op1, rp_not, rp_or, rp_and, rp_if, rp_call, rp_varM, List.getElem?_cons_zero, List.getElem?_cons_succ, rp_notD, RP_br, RP_ok, rp_lenS sp]
          first | exact ⟨rfl, rfl⟩ | exact ⟨rfl, trivial⟩ | exact ⟨trivial, rfl⟩ | exact trivial | exact ⟨trivial, trivial⟩
        have r2 : oSome (op2 subD (eBi lenB (aCons (eVar 1) aNil)) (eBi lenB (aCons (eVar 4) aNil))) [some (.str l), some (.str n), some (.str pre), some (.str near), some (.str post), none] cs = some (some ((n.length : Int) - (post.length : Int)), cs) := by
          refine ro_some (RP.eq ?_)
          simp only [rp_def, List.map_cons, List.map_nil, List.length_cons, List.length_nil, Nat.reduceAdd, Nat.reduceSub, List.replicate_zero, List.replicate_succ, List.append_nil, List.cons_append, List.nil_append, List.set_cons_zero, List.set_cons_succ, sp_ret, sp_seq, sp_asg, sp_if, sp_nx, sp_drop, SP_brS, rap_cons, rap_nil, rp_bi, rp_c, rp_op2, rp_op1, rp_not, rp_or, rp_and, rp_if, rp_call, rp_varM, List.getElem?_cons_zero, List.getElem?_cons_succ, rp_notD, RP_br, RP_ok, rp_lenS sn, rp_lenS sq, rp_sub]
          first | exact ⟨rfl, rfl⟩ | exact ⟨rfl, trivial⟩ | exact ⟨trivial, rfl⟩ | exact trivial | exact ⟨trivial, trivial⟩
        simp only [cond_true, cond_false, Bool.not_true, Bool.false_eq_true, if_false, rp_def, List.map_cons, List.map_nil, List.length_cons, List.length_nil, Nat.reduceAdd, Nat.reduceSub, List.replicate_zero, List.replicate_succ, List.append_nil, List.cons_append, List.nil_append, List.set_cons_zero, List.set_cons_succ, sp_ret, sp_seq, sp_asg, sp_if, sp_nx, sp_drop, SP_brS, rap_cons, rap_nil, rp_bi, rp_c, rp_op2, rp_op1, rp_not, rp_or, rp_and, rp_if, rp_call, rp_varM, List.getElem?_cons_zero, List.getElem?_cons_succ, rp_notD, RP_br, RP_ok, rp_sl, r1, r2, rp_slS sn]
        have hc := cutL_len n (some (pre.length : Int)) (some ((n.length : Int) - (post.length : Int)))
        refine nf_rp m ?_
        by_cases e : s1 = 42
        · simp only [e, decide_true, if_true, rp_def, List.map_cons, List.map_nil, List.length_cons, List.length_nil, Nat.reduceAdd, Nat.reduceSub, List.replicate_zero, List.replicate_succ, List.append_nil, List.cons_append, List.nil_append, List.set_cons_zero, List.set_cons_succ, sp_ret, sp_seq, sp_asg, sp_if, sp_nx, sp_drop, SP_brS, rap_cons, rap_nil, rp_bi, rp_c, rp_op2, rp_op1, rp_not, rp_or, rp_and, rp_if, rp_call, rp_varM, List.getElem?_cons_zero, List.getElem?_cons_succ, rp_notD, RP_br, RP_ok]
          exact nb_rp (by omega) (by omega) k
        · simp only [e, decide_false, Bool.false_eq_true, if_false, rp_def, List.map_cons, List.map_nil, List.length_cons, List.length_nil, Nat.reduceAdd, Nat.reduceSub, List.replicate_zero, List.replicate_succ, List.append_nil, List.cons_append, List.nil_append, List.set_cons_zero, List.set_cons_succ, sp_ret, sp_seq, sp_asg, sp_if, sp_nx, sp_drop, SP_brS, rap_cons, rap_nil, rp_bi, rp_c, rp_op2, rp_op1, rp_not, rp_or, rp_and, rp_if, rp_call, rp_varM, List.getElem?_cons_zero, List.getElem?_cons_succ, rp_notD, RP_br, RP_ok]
          exact na_rp (by omega) (by omega) k
end

end T_k13

namespace T_k13
open PySem L2 L3
/-! ### reading, exactly -/
def rscL (x y : List Nat) : List Nat := codes (Txt.rstripChars (mk x) (mk y))
def lscL (x y : List Nat) : List Nat := codes (Txt.lstripChars (mk x) (mk y))
def biL (x y : List Nat) : D := match nuL y with
  | .int i => if nm x then .tup [.str x, .int i] else .non
  | _ => .non
def nbL (x y : List Nat) : D :=
  let cut : Int := (rscL x FG).length + ((y.length : Int) - (rscL y FG).length)
  let front := cutL x none (some cut)
  if Txt.endswith (mk front) (mk y) then biL (cutL front none (some ((front.length : Int) - y.length))) (cutL x (some cut) none) else .non
def naL (x y : List Nat) : D :=
  let cut : Int := (x.length : Int) - (lscL x FG).length - ((y.length : Int) - (lscL y FG).length)
  if cut < 1 then .non else
  if Txt.startswith (mk (cutL x (some cut) none)) (mk y) then biL (cutL x (some (cut + y.length)) none) (cutL x none (some cut)) else .non
def rdX (pre near post : List Nat) (s1 : Nat) (n : List Nat) : D :=
  if (n.length : Int) < (pre.length : Int) + (post.length : Int) then .non else
  if Txt.startswith (mk n) (mk pre) then
    (if Txt.endswith (mk n) (mk post) then
      (let mid := cutL n (some (pre.length : Int)) (some ((n.length : Int) - (post.length : Int)))
       if s1 = 42 then nbL mid near else naL mid near)
    else .non)
  else .non
theorem nuL_or (y : List Nat) : nuL y = .non ∨ ∃ i, 2 ≤ i ∧ nuL y = .int i := by
  unfold nuL
  split
  · rename_i h
    exact .inr ⟨_, by have := h.2.2.2.2; omega, rfl⟩
  · exact .inl rfl
theorem biL_or (x y : List Nat) : biL x y = .non ∨ ∃ n i, nm n = true ∧ 2 ≤ i ∧ biL x y = .tup [.str n, .int i] := by
  unfold biL
  rcases nuL_or y with e | ⟨i, hi, e⟩
  · rw [e]; exact .inl rfl
  · rw [e]
    by_cases h : nm x = true
    · simp only [h, if_true]; exact .inr ⟨_, _, h, hi, rfl⟩
    · simp only [h, if_false]; exact .inl rfl
theorem rdX_or (pre near post : List Nat) (s1 : Nat) (n : List Nat) : rdX pre near post s1 n = .non ∨ ∃ z i, nm z = true ∧ 2 ≤ i ∧ rdX pre near post s1 n = .tup [.str z, .int i] := by
  unfold rdX nbL naL
  simp only
  repeat' split
  all_goals first | exact .inl rfl | exact biL_or _ _
section
variable {cs : Cells} {P : D → Cells → Prop} {X : KX} {l pre near post : List Nat} {s1 s2 : Nat}
theorem rp_rscX {l k : List Nat} (h : l.length ≤ sizeLine) : RP (rscD cs l (.str k)) P X = P (.str (rscL l k)) cs := by
  show RP (if _ then _ else _) P X = _
  rw [if_pos h]; rfl
theorem rp_lscX {l k : List Nat} (h : l.length ≤ sizeLine) : RP (lscD cs l (.str k)) P X = P (.str (lscL l k)) cs := by
  show RP (if _ then _ else _) P X = _
  rw [if_pos h]; rfl
theorem rscL_len {l k : List Nat} : (rscL l k).length ≤ l.length := by
  unfold rscL
  rw [codes_len]
  exact PyProof.Rows.len_stripBy (mk k).cps.contains false true (mk l)
theorem lscL_len {l k : List Nat} : (lscL l k).length ≤ l.length := by
  unfold lscL
  rw [codes_len]
  exact PyProof.Rows.len_stripBy (mk k).cps.contains true false (mk l)
theorem biX_rp {x y : List Nat} (hx : x.length ≤ 1000) (hy : y.length ≤ 1000) (k : P (biL x y) cs) : RP (m_both_in [.str x, .str y] cs) P X := by
  unfold m_both_in mb_both_in
  try simp only [rp_def, List.map_cons, List.map_nil, List.length_cons, List.length_nil, Nat.reduceAdd, Nat.reduceSub, List.replicate_zero, List.replicate_succ, List.append_nil, List.cons_append, List.nil_append, List.set_cons_zero, List.set_cons_succ, sp_ret, sp_seq, sp_asg, sp_if, sp_nx, sp_drop, SP_brS, rap_cons, rap_nil, rp_bi, rp_c, rp_op2, rp_op1, rp_not, rp_or, rp_and, rp_if, rp_call, rp_varM, List.getElem?_cons_zero, List.getElem?_cons_succ, rp_notD, RP_br, RP_ok]
  refine num_str (by rw [sizeLine_eq]; omega) ?_
  unfold biL at k
  rcases nuL_or y with e | ⟨i, _, e⟩
  · rw [e] at k ⊢
    simp only [rp_def, List.map_cons, List.map_nil, List.length_cons, List.length_nil, Nat.reduceAdd, Nat.reduceSub, List.replicate_zero, List.replicate_succ, List.append_nil, List.cons_append, List.nil_append, List.set_cons_zero, List.set_cons_succ, sp_ret, sp_seq, sp_asg, sp_if, sp_nx, sp_drop, SP_brS, rap_cons, rap_nil, rp_bi, rp_c, rp_op2, rp_op1, rp_not, rp_or, rp_and, rp_if, rp_call, rp_varM, List.getElem?_cons_zero, List.getElem?_cons_succ, rp_notD, RP_br, RP_ok, rp_isB, cond_true, if_true]
    exact k
  · rw [e] at k ⊢
    simp only [rp_def, List.map_cons, List.map_nil, List.length_cons, List.length_nil, Nat.reduceAdd, Nat.reduceSub, List.replicate_zero, List.replicate_succ, List.append_nil, List.cons_append, List.nil_append, List.set_cons_zero, List.set_cons_succ, sp_ret, sp_seq, sp_asg, sp_if, sp_nx, sp_drop, SP_brS, rap_cons, rap_nil, rp_bi, rp_c, rp_op2, rp_op1, rp_not, rp_or, rp_and, rp_if, rp_call, rp_varM, List.getElem?_cons_zero, List.getElem?_cons_succ, rp_notD, RP_br, RP_ok, rp_isB, cond_false]
    have sx : x.length ≤ sizeLine := by rw [sizeLine_eq]; omega
    refine isn_str sx ?_
    cases h : nm x with
    | true =>
      simp only [rp_def, List.map_cons, List.map_nil, List.length_cons, List.length_nil, Nat.reduceAdd, Nat.reduceSub, List.replicate_zero, List.replicate_succ, List.append_nil, List.cons_append, List.nil_append, List.set_cons_zero, List.set_cons_succ, sp_ret, sp_seq, sp_asg, sp_if, sp_nx, sp_drop, SP_brS, rap_cons, rap_nil, rp_bi, rp_c, rp_op2, rp_op1, rp_not, rp_or, rp_and, rp_if, rp_call, rp_varM, List.getElem?_cons_zero, List.getElem?_cons_succ, rp_notD, RP_br, RP_ok, Bool.not_true, Bool.false_eq_true, if_false, rp_tup]
      rw [rp_mkT (by rw [sizeLine_eq]; simp)]
      simp only [h, if_true] at k; exact k
    | false =>
      simp only [rp_def, List.map_cons, List.map_nil, List.length_cons, List.length_nil, Nat.reduceAdd, Nat.reduceSub, List.replicate_zero, List.replicate_succ, List.append_nil, List.cons_append, List.nil_append, List.set_cons_zero, List.set_cons_succ, sp_ret, sp_seq, sp_asg, sp_if, sp_nx, sp_drop, SP_brS, rap_cons, rap_nil, rp_bi, rp_c, rp_op2, rp_op1, rp_not, rp_or, rp_and, rp_if, rp_call, rp_varM, List.getElem?_cons_zero, List.getElem?_cons_succ, rp_notD, RP_br, RP_ok, Bool.not_false, if_true]
      simp only [h, Bool.false_eq_true, if_false] at k; exact k
theorem nbX_rp {x y : List Nat} (hx : x.length ≤ 500) (hy : y.length ≤ 500) (k : P (nbL x y) cs) : RP (m_number_behind [.str x, .str y] cs) P X := by
  have sx : x.length ≤ sizeLine := by rw [sizeLine_eq]; omega
  have sy : y.length ≤ sizeLine := by rw [sizeLine_eq]; omega
  have rx : (rscL x FG).length ≤ sizeLine := Nat.le_trans rscL_len sx
  have ry : (rscL y FG).length ≤ sizeLine := Nat.le_trans rscL_len sy
  unfold m_number_behind mb_number_behind
  try simp only [rp_def, List.map_cons, List.map_nil, List.length_cons, List.length_nil, Nat.reduceAdd, Nat.reduceSub, List.replicate_zero, List.replicate_succ, List.append_nil, List.cons_append, List.nil_append, List.set_cons_zero, List.set_cons_succ, sp_ret, sp_seq, sp_asg, sp_if, sp_nx, sp_drop, SP_brS, rap_cons, rap_nil, rp_bi, rp_c, rp_op2, rp_op1, rp_not, rp_or, rp_and, rp_if, rp_call, rp_varM, List.getElem?_cons_zero, List.getElem?_cons_succ, rp_notD, RP_br, RP_ok, rp_lenS sx, rp_lenS sy, rp_m1, rp_rscX sx, rp_rscX sy, rp_lenS rx, rp_lenS ry, rp_sub, rp_addI]
  simp only [rp_def, List.map_cons, List.map_nil, List.length_cons, List.length_nil, Nat.reduceAdd, Nat.reduceSub, List.replicate_zero, List.replicate_succ, List.append_nil, List.cons_append, List.nil_append, List.set_cons_zero, List.set_cons_succ, sp_ret, sp_seq, sp_asg, sp_if, sp_nx, sp_drop, SP_brS, rap_cons, rap_nil, rp_bi, rp_c, rp_op2, rp_op1, rp_not, rp_or, rp_and, rp_if, rp_call, rp_varM, List.getElem?_cons_zero, List.getElem?_cons_succ, rp_notD, RP_br, RP_ok, rp_sl, ro_none, ro_varM, rp_slS sx, rp_m1, rp_ends]
  unfold nbL at k
  simp only at k
  have hc := cutL_len x none (some (((rscL x FG).length : Int) + ((y.length : Int) - ((rscL y FG).length : Int))))
  cases he : Txt.endswith (mk (cutL x none (some (((rscL x FG).length : Int) + ((y.length : Int) - ((rscL y FG).length : Int)))))) (mk y) with
  | false =>
    simp only [rp_def, List.map_cons, List.map_nil, List.length_cons, List.length_nil, Nat.reduceAdd, Nat.reduceSub, List.replicate_zero, List.replicate_succ, List.append_nil, List.cons_append, List.nil_append, List.set_cons_zero, List.set_cons_succ, sp_ret, sp_seq, sp_asg, sp_if, sp_nx, sp_drop, SP_brS, rap_cons, rap_nil, rp_bi, rp_c, rp_op2, rp_op1, rp_not, rp_or, rp_and, rp_if, rp_call, rp_varM, List.getElem?_cons_zero, List.getElem?_cons_succ, rp_notD, RP_br, RP_ok, Bool.not_false, if_true]
    rw [he] at k; exact k
  | true =>
    have hs : (cutL x none (some (((rscL x FG).length : Int) + ((y.length : Int) - ((rscL y FG).length : Int))))).length ≤ sizeLine := by omega
    have ro : oSome (op2 subD (eBi lenB (aCons (eVar 4) aNil)) (eBi lenB (aCons (eVar 1) aNil))) [some (D.str x), some (D.str y), some (D.int ((y.length : Int) - ((rscL y FG).length : Int))), some (D.int (((rscL x FG).length : Int) + ((y.length : Int) - ((rscL y FG).length : Int)))), some (D.str (cutL x none (some (((rscL x FG).length : Int) + ((y.length : Int) - ((rscL y FG).length : Int))))))] cs = some (some (((cutL x none (some (((rscL x FG).length : Int) + ((y.length : Int) - ((rscL y FG).length : Int))))).length : Int) - (y.length : Int)), cs) := by
      refine ro_some (RP.eq ?_)
      simp only [rp_def, List.map_cons, List.map_nil, List.length_cons, List.length_nil, Nat.reduceAdd, Nat.reduceSub, List.replicate_zero, List.replicate_succ, List.append_nil, List.cons_append, List.nil_append, List.set_cons_zero, List.set_cons_succ, sp_ret, sp_seq, sp_asg, sp_if, sp_nx, sp_drop, SP_brS, rap_cons, rap_nil, rp_bi, rp_c, rp_op2, rp_op1, rp_not, rp_or, rp_and, rp_if, rp_call, rp_varM, List.getElem?_cons_zero, List.getElem?_cons_succ, rp_notD, RP_br, RP_ok, rp_lenS hs, rp_lenS sy, rp_sub]
      first | exact ⟨rfl, rfl⟩ | exact ⟨rfl, trivial⟩ | exact ⟨trivial, rfl⟩ | exact trivial | exact ⟨trivial, trivial⟩
    simp only [rp_def, List.map_cons, List.map_nil, List.length_cons, List.length_nil, Nat.reduceAdd, Nat.reduceSub, List.replicate_zero, List.replicate_succ, List.append_nil, List.cons_append, List.nil_append, List.set_cons_zero, List.set_cons_succ, sp_ret, sp_seq, sp_asg, sp_if, sp_nx, sp_drop, SP_brS, rap_cons, rap_nil, rp_bi, rp_c, rp_op2, rp_op1, rp_not, rp_or, rp_and, rp_if, rp_call, rp_varM, List.getElem?_cons_zero, List.getElem?_cons_succ, rp_notD, RP_br, RP_ok, Bool.not_true, Bool.false_eq_true, if_false, rp_sl, ro_none, ro_varM, ro, rp_slS sx, rp_slS hs]
    rw [he, if_pos rfl] at k
    exact biX_rp (Nat.le_trans (cutL_len _ _ _) (by omega)) (Nat.le_trans (cutL_len _ _ _) (by omega)) k
theorem naX_rp {x y : List Nat} (hx : x.length ≤ 500) (hy : y.length ≤ 500) (k : P (naL x y) cs) : RP (m_number_ahead [.str x, .str y] cs) P X := by
  have sx : x.length ≤ sizeLine := by rw [sizeLine_eq]; omega
  have sy : y.length ≤ sizeLine := by rw [sizeLine_eq]; omega
  have rx : (lscL x FG).length ≤ sizeLine := Nat.le_trans lscL_len sx
  have ry : (lscL y FG).length ≤ sizeLine := Nat.le_trans lscL_len sy
  unfold m_number_ahead mb_number_ahead
  try simp only [rp_def, List.map_cons, List.map_nil, List.length_cons, List.length_nil, Nat.reduceAdd, Nat.reduceSub, List.replicate_zero, List.replicate_succ, List.append_nil, List.cons_append, List.nil_append, List.set_cons_zero, List.set_cons_succ, sp_ret, sp_seq, sp_asg, sp_if, sp_nx, sp_drop, SP_brS, rap_cons, rap_nil, rp_bi, rp_c, rp_op2, rp_op1, rp_not, rp_or, rp_and, rp_if, rp_call, rp_varM, List.getElem?_cons_zero, List.getElem?_cons_succ, rp_notD, RP_br, RP_ok, rp_lenS sx, rp_lenS sy, rp_m1, rp_lscX sx, rp_lscX sy, rp_lenS rx, rp_lenS ry, rp_sub, rp_addI]
  unfold naL at k
  simp only at k
  simp only [rp_def, List.map_cons, List.map_nil, List.length_cons, List.length_nil, Nat.reduceAdd, Nat.reduceSub, List.replicate_zero, List.replicate_succ, List.append_nil, List.cons_append, List.nil_append, List.set_cons_zero, List.set_cons_succ, sp_ret, sp_seq, sp_asg, sp_if, sp_nx, sp_drop, SP_brS, rap_cons, rap_nil, rp_bi, rp_c, rp_op2, rp_op1, rp_not, rp_or, rp_and, rp_if, rp_call, rp_varM, List.getElem?_cons_zero, List.getElem?_cons_succ, rp_notD, RP_br, RP_ok, rp_sub, rp_lt]
  generalize (x.length : Int) - ((lscL x FG).length : Int) - ((y.length : Int) - ((lscL y FG).length : Int)) = j at k ⊢
  by_cases hj : j < 1
  · simp only [hj, decide_true, cond_true, rp_def, List.map_cons, List.map_nil, List.length_cons, List.length_nil, Nat.reduceAdd, Nat.reduceSub, List.replicate_zero, List.replicate_succ, List.append_nil, List.cons_append, List.nil_append, List.set_cons_zero, List.set_cons_succ, sp_ret, sp_seq, sp_asg, sp_if, sp_nx, sp_drop, SP_brS, rap_cons, rap_nil, rp_bi, rp_c, rp_op2, rp_op1, rp_not, rp_or, rp_and, rp_if, rp_call, rp_varM, List.getElem?_cons_zero, List.getElem?_cons_succ, rp_notD, RP_br, RP_ok, if_true]
    rw [if_pos hj] at k; exact k
  · simp only [hj, decide_false, cond_false, rp_def, List.map_cons, List.map_nil, List.length_cons, List.length_nil, Nat.reduceAdd, Nat.reduceSub, List.replicate_zero, List.replicate_succ, List.append_nil, List.cons_append, List.nil_append, List.set_cons_zero, List.set_cons_succ, sp_ret, sp_seq, sp_asg, sp_if, sp_nx, sp_drop, SP_brS, rap_cons, rap_nil, rp_bi, rp_c, rp_op2, rp_op1, rp_not, rp_or, rp_and, rp_if, rp_call, rp_varM, List.getElem?_cons_zero, List.getElem?_cons_succ, rp_notD, RP_br, RP_ok, rp_sl, ro_none, ro_varM, rp_slS sx, rp_m1, rp_starts]
    rw [if_neg hj] at k
    cases he : Txt.startswith (mk (cutL x (some j) none)) (mk y) with
    | false =>
      simp only [rp_def, List.map_cons, List.map_nil, List.length_cons, List.length_nil, Nat.reduceAdd, Nat.reduceSub, List.replicate_zero, List.replicate_succ, List.append_nil, List.cons_append, List.nil_append, List.set_cons_zero, List.set_cons_succ, sp_ret, sp_seq, sp_asg, sp_if, sp_nx, sp_drop, SP_brS, rap_cons, rap_nil, rp_bi, rp_c, rp_op2, rp_op1, rp_not, rp_or, rp_and, rp_if, rp_call, rp_varM, List.getElem?_cons_zero, List.getElem?_cons_succ, rp_notD, RP_br, RP_ok, Bool.not_false, if_true]
      rw [he] at k; exact k
    | true =>
      have ro : oSome (op2 (addD false) (eVar 3) (eBi lenB (aCons (eVar 1) aNil))) [some (D.str x), some (D.str y), some (D.int ((y.length : Int) - ((lscL y FG).length : Int))), some (D.int j)] cs = some (some (j + (y.length : Int)), cs) := by
        refine ro_some (RP.eq ?_)
        simp only [rp_def, List.map_cons, List.map_nil, List.length_cons, List.length_nil, Nat.reduceAdd, Nat.reduceSub, List.replicate_zero, List.replicate_succ, List.append_nil, List.cons_append, List.nil_append, List.set_cons_zero, List.set_cons_succ, sp_ret, sp_seq, sp_asg, sp_if, sp_nx, sp_drop, SP_brS, rap_cons, rap_nil, rp_bi, rp_c, rp_op2, rp_op1, rp_not, rp_or, rp_and, rp_if, rp_call, rp_varM, List.getElem?_cons_zero, List.getElem?_cons_succ, rp_notD, RP_br, RP_ok, rp_lenS sy, rp_addI]
        first | exact ⟨rfl, rfl⟩ | exact ⟨rfl, trivial⟩ | exact ⟨trivial, rfl⟩ | exact trivial | exact ⟨trivial, trivial⟩
      simp only [rp_def, List.map_cons, List.map_nil, List.length_cons, List.length_nil, Nat.reduceAdd, Nat.reduceSub, List.replicate_zero, List.replicate_succ, List.append_nil, List.cons_append, List.nil_append, List.set_cons_zero, List.set_cons_succ, sp_ret, sp_seq, sp_asg, sp_if, sp_nx, sp_drop, SP_brS, rap_cons, rap_nil, rp_bi, rp_c, rp_op2, rp_op1, rp_not, rp_or, rp_and, rp_if, rp_call, rp_varM, List.getElem?_cons_zero, List.getElem?_cons_succ, rp_notD, RP_br, RP_ok, Bool.not_true, Bool.false_eq_true, if_false, rp_sl, ro_none, ro_varM, ro, rp_slS sx]
      rw [he, if_pos rfl] at k
      exact biX_rp (Nat.le_trans (cutL_len _ _ _) (by omega)) (Nat.le_trans (cutL_len _ _ _) (by omega)) k
theorem rdX_rp (m : Mk l pre near post s1 s2) (h : allF near = false) {n : List Nat} (q : IsN cs (.str n) true) (hn : n.length ≤ 500) (k : P (rdX pre near post s1 n) cs) : RP (m_reading [.str l, .str n] cs) P X := by
  have ln := m.lens
  have sn : n.length ≤ sizeLine := by rw [sizeLine_eq]; omega
  have sp : pre.length ≤ sizeLine := by rw [sizeLine_eq]; omega
  have sq : post.length ≤ sizeLine := by rw [sizeLine_eq]; omega
  unfold m_reading mb_reading
  try simp only [rp_def, List.map_cons, List.map_nil, List.length_cons, List.length_nil, Nat.reduceAdd, Nat.reduceSub, List.replicate_zero, List.replicate_succ, List.append_nil, List.cons_append, List.nil_append, List.set_cons_zero, List.set_cons_succ, sp_ret, sp_seq, sp_asg, sp_if, sp_nx, sp_drop, SP_brS, rap_cons, rap_nil, rp_bi, rp_c, rp_op2, rp_op1, rp_not, rp_or, rp_and, rp_if, rp_call, rp_varM, List.getElem?_cons_zero, List.getElem?_cons_succ, rp_notD, RP_br, RP_ok]
  refine nc_rp m h ?_
  try simp only [rp_def, List.map_cons, List.map_nil, List.length_cons, List.length_nil, Nat.reduceAdd, Nat.reduceSub, List.replicate_zero, List.replicate_succ, List.append_nil, List.cons_append, List.nil_append, List.set_cons_zero, List.set_cons_succ, sp_ret, sp_seq, sp_asg, sp_if, sp_nx, sp_drop, SP_brS, rap_cons, rap_nil, rp_bi, rp_c, rp_op2, rp_op1, rp_not, rp_or, rp_and, rp_if, rp_call, rp_varM, List.getElem?_cons_zero, List.getElem?_cons_succ, rp_notD, RP_br, RP_ok]
  refine nn_rp q ?_
  simp only [rp_def, List.map_cons, List.map_nil, List.length_cons, List.length_nil, Nat.reduceAdd, Nat.reduceSub, List.replicate_zero, List.replicate_succ, List.append_nil, List.cons_append, List.nil_append, List.set_cons_zero, List.set_cons_succ, sp_ret, sp_seq, sp_asg, sp_if, sp_nx, sp_drop, SP_brS, rap_cons, rap_nil, rp_bi, rp_c, rp_op2, rp_op1, rp_not, rp_or, rp_and, rp_if, rp_call, rp_varM, List.getElem?_cons_zero, List.getElem?_cons_succ, rp_notD, RP_br, RP_ok, sp_asgT]
  refine parts_rp m ?_
  simp only [rp_def, List.map_cons, List.map_nil, List.length_cons, List.length_nil, Nat.reduceAdd, Nat.reduceSub, List.replicate_zero, List.replicate_succ, List.append_nil, List.cons_append, List.nil_append, List.set_cons_zero, List.set_cons_succ, sp_ret, sp_seq, sp_asg, sp_if, sp_nx, sp_drop, SP_brS, rap_cons, rap_nil, rp_bi, rp_c, rp_op2, rp_op1, rp_not, rp_or, rp_and, rp_if, rp_call, rp_varM, List.getElem?_cons_zero, List.getElem?_cons_succ, rp_notD, RP_br, RP_ok, tgTup, tgTs, rp_lenS sn, rp_lenS sp, rp_lenS sq, rp_addI, rp_lt, rp_m1, rp_starts, rp_ends]
  unfold rdX at k
  by_cases hlt : (n.length : Int) < (pre.length : Int) + (post.length : Int)
  · rw [if_pos hlt] at k
    simp only [hlt, decide_true, cond_true, if_true, rp_def, List.map_cons, List.map_nil, List.length_cons, List.length_nil, Nat.reduceAdd, Nat.reduceSub, List.replicate_zero, List.replicate_succ, List.append_nil, List.cons_append, List.nil_append, List.set_cons_zero, List.set_cons_succ, sp_ret, sp_seq, sp_asg, sp_if, sp_nx, sp_drop, SP_brS, rap_cons, rap_nil, rp_bi, rp_c, rp_op2, rp_op1, rp_not, rp_or, rp_and, rp_if, rp_call, rp_varM, List.getElem?_cons_zero, List.getElem?_cons_succ, rp_notD, RP_br, RP_ok]; exact k
  · rw [if_neg hlt] at k
    simp only [hlt, decide_false]
    cases he : Txt.startswith (mk n) (mk pre) with
    | false => rw [he] at k; simp only [cond_true, cond_false, Bool.not_false, if_true, rp_def, List.map_cons, List.map_nil, List.length_cons, List.length_nil, Nat.reduceAdd, Nat.reduceSub, List.replicate_zero, List.replicate_succ, List.append_nil, List.cons_append, List.nil_append, List.set_cons_zero, List.set_cons_succ, sp_ret, sp_seq, sp_asg, sp_if, sp_nx, sp_drop, SP_brS, rap_cons, rap_nil, rp_bi, rp_c, rp_op2, rp_op1, rp_not, rp_or, rp_and, rp_if, rp_call, rp_varM, List.getElem?_cons_zero, List.getElem?_cons_succ, rp_notD, RP_br, RP_ok]; exact k
    | true =>
      rw [he, if_pos rfl] at k
      cases he2 : Txt.endswith (mk n) (mk post) with
      | false => rw [he2] at k; simp only [cond_true, cond_false, Bool.not_false, Bool.not_true, if_true, rp_def, List.map_cons, List.map_nil, List.length_cons, List.length_nil, Nat.reduceAdd, Nat.reduceSub, List.replicate_zero, List.replicate_succ, List.append_nil, List.cons_append, List.nil_append, List.set_cons_zero, List.set_cons_succ, sp_ret, sp_seq, sp_asg, sp_if, sp_nx, sp_drop, SP_brS, rap_cons, rap_nil, rp_bi, rp_c, rp_op2, rp_op1, rp_not, rp_or, rp_and, rp_if, rp_call, rp_varM, List.getElem?_cons_zero, List.getElem?_cons_succ, rp_notD, RP_br, RP_ok]; exact k
      | true =>
        rw [he2, if_pos rfl] at k
        have r1 : oSome (eBi lenB (aCons (eVar 2) aNil)) [some (.str l), some (.str n), some (.str pre), some (.str near), some (.str post), none] cs = some (some (pre.length : Int), cs) := by
          refine ro_some (RP.eq ?_)
          simp only [rp_def, List.map_cons, List.map_nil, List.length_cons, List.length_nil, Nat.reduceAdd, Nat.reduceSub, List.replicate_zero, List.replicate_succ, List.append_nil, List.cons_append, List.nil_append, List.set_cons_zero, List.set_cons_succ, sp_ret, sp_seq, sp_asg, sp_if, sp_nx, sp_drop, SP_brS, rap_cons, rap_nil, rp_bi, rp_c, rp_op2, rp_op1, rp_not, rp_or, rp_and, rp_if, rp_call, rp_varM, List.getElem?_cons_zero, List.getElem?_cons_succ, rp_notD, RP_br, RP_ok, rp_lenS sp]
          first | exact ⟨rfl, rfl⟩ | exact ⟨rfl, trivial⟩ | exact ⟨trivial, rfl⟩ | exact trivial | exact ⟨trivial, trivial⟩
        have r2 : oSome (op2 subD (eBi lenB (aCons (eVar 1) aNil)) (eBi lenB (aCons (eVar 4) aNil))) [some (.str l), some (.str n), some (.str pre), some (.str near), some (.str post), none] cs = some (some ((n.length : Int) - (post.length : Int)), cs) := by
          refine ro_some (RP.eq ?_)
          simp only [rp_def, List.map_cons, List.map_nil, List.length_cons, List.length_nil, Nat.reduceAdd, Nat.reduceSub, List.replicate_zero, List.replicate_succ, List.append_nil, List.cons_append, List.nil_append, List.set_cons_zero, List.set_cons_succ, sp_ret, sp_seq, sp_asg, sp_if, sp_nx, sp_drop, SP_brS, rap_cons, rap_nil, rp_bi, rp_c, rp_op2, rp_op1, rp_not, rp_or, rp_and, rp_if, rp_call, rp_varM, List.getElem?_cons_zero, List.getElem?_cons_succ, rp_notD, RP_br, RP_ok, rp_lenS sn, rp_lenS sq, rp_sub]
          first | exact ⟨rfl, rfl⟩ | exact ⟨rfl, trivial⟩ | exact ⟨trivial, rfl⟩ | exact trivial | exact ⟨trivial, trivial⟩
        simp only [cond_true, cond_false, Bool.not_true, Bool.false_eq_true, if_false, rp_def, List.map_cons, List.map_nil, List.length_cons, List.length_nil, Nat.reduceAdd, Nat.reduceSub, List.replicate_zero, List.replicate_succ, List.append_nil, List.cons_append, List.nil_append, List.set_cons_zero, List.set_cons_succ, sp_ret, sp_seq, sp_asg, sp_if, sp_nx, sp_drop, SP_brS, rap_cons, rap_nil, rp_bi, rp_c, rp_op2, rp_op1, rp_not, rp_or, rp_and, rp_if, rp_call, rp_varM, List.getElem?_cons_zero, List.getElem?_cons_succ, rp_notD, RP_br, RP_ok, rp_sl, r1, r2, rp_slS sn]
        have hc := cutL_len n (some (pre.length : Int)) (some ((n.length : Int) - (post.length : Int)))
        refine nf_rp m ?_
        by_cases e : s1 = 42
        · rw [if_pos e] at k
          simp only [e, decide_true, if_true, rp_def, List.map_cons, List.map_nil, List.length_cons, List.length_nil, Nat.reduceAdd, Nat.reduceSub, List.replicate_zero, List.replicate_succ, List.append_nil, List.cons_append, List.nil_append, List.set_cons_zero, List.set_cons_succ, sp_ret, sp_seq, sp_asg, sp_if, sp_nx, sp_drop, SP_brS, rap_cons, rap_nil, rp_bi, rp_c, rp_op2, rp_op1, rp_not, rp_or, rp_and, rp_if, rp_call, rp_varM, List.getElem?_cons_zero, List.getElem?_cons_succ, rp_notD, RP_br, RP_ok]
          exact nbX_rp (by omega) (by omega) k
        · rw [if_neg e] at k
          simp only [e, decide_false, Bool.false_eq_true, if_false, rp_def, List.map_cons, List.map_nil, List.length_cons, List.length_nil, Nat.reduceAdd, Nat.reduceSub, List.replicate_zero, List.replicate_succ, List.append_nil, List.cons_append, List.nil_append, List.set_cons_zero, List.set_cons_succ, sp_ret, sp_seq, sp_asg, sp_if, sp_nx, sp_drop, SP_brS, rap_cons, rap_nil, rp_bi, rp_c, rp_op2, rp_op1, rp_not, rp_or, rp_and, rp_if, rp_call, rp_varM, List.getElem?_cons_zero, List.getElem?_cons_succ, rp_notD, RP_br, RP_ok]
          exact naX_rp (by omega) (by omega) k
end

/-! ### the figures of a number, the names on a way are unlike -/
theorem dg_nat (m : Nat) : codes (toString (m : Int)) = (Nat.toDigits 10 m).map Char.toNat := by
  show codes (Str.ofString (toString (Int.ofNat m))) = _
  rw [PyProof.Rows.text_ofNat]; simp [codes]
theorem dg_inj {i j : Int} (hi : 0 ≤ i) (hj : 0 ≤ j) (h : codes (toString i) = codes (toString j)) : i = j := by
  obtain ⟨a, rfl⟩ := Int.eq_ofNat_of_zero_le hi
  obtain ⟨b, rfl⟩ := Int.eq_ofNat_of_zero_le hj
  rw [dg_nat, dg_nat] at h
  have := congrArg NumText.digitsVal h
  rw [PySem.W.KIN.val_back, PySem.W.KIN.val_back] at this
  rw [this]
theorem dg_pos (m : Nat) : 1 ≤ (codes (toString (m : Int))).length := by
  rw [dg_nat, List.length_map]
  exact PyProof.Rows.tDigits_len_ge 10 m
section
variable {pre near post w z : List Nat} {s1 : Nat}
theorem wrL_inj {n : List Nat} {i j : Int} (hi : 0 ≤ i) (hj : 0 ≤ j) (h : wrL pre near post s1 n i = wrL pre near post s1 n j) : i = j := by
  refine dg_inj hi hj ?_
  unfold wrL at h
  split at h
  · have h := List.append_cancel_right h
    exact List.append_cancel_left h
  · have h := List.append_cancel_right h
    have h := List.append_cancel_right h
    have h := List.append_cancel_right h
    exact List.append_cancel_left h
theorem wrL_len {n : List Nat} {m : Nat} : n.length + 1 ≤ (wrL pre near post s1 n (m : Int)).length := by
  have := dg_pos m
  unfold wrL
  split <;> simp only [List.length_append] <;> omega
end

/-! ### what is written is read -/
section
variable {l pre near post n dg : List Nat} {s1 s2 : Nat} {i : Int}
theorem nbL_wr (h : allF near = false) (hd : ∀ c ∈ dg, c ∈ FG) : nbL (n ++ near ++ dg) near = biL n dg := by
  obtain ⟨a, c, b, rfl, hb, hc⟩ := last_not h
  have e1 : rscL (a ++ c :: b) FG = a ++ [c] := rsc_app hb hc
  have e2 : rscL (n ++ (a ++ c :: b) ++ dg) FG = (n ++ a) ++ [c] := by
    rw [show n ++ (a ++ c :: b) ++ dg = (n ++ a) ++ c :: (b ++ dg) by simp]
    exact rsc_app (fun x hx => (List.mem_append.mp hx).elim (hb x) (hd x)) hc
  have e3 : ((rscL (n ++ (a ++ c :: b) ++ dg) FG).length : Int) + (((a ++ c :: b).length : Int) - (rscL (a ++ c :: b) FG).length) = ((n ++ (a ++ c :: b)).length : Nat) := by
    rw [e1, e2]; simp only [List.length_append, List.length_cons, List.length_nil]; omega
  unfold nbL
  simp only
  rw [e3, cut_to (by omega), cut_from (by omega), Int.toNat_natCast, List.take_left' rfl, List.drop_left' rfl, if_pos (ew_app n (a ++ c :: b)), cut_to (by simp only [List.length_append]; omega)]
  rw [show ((((n ++ (a ++ c :: b)).length : Nat) : Int) - ((a ++ c :: b).length : Nat)).toNat = n.length by simp only [List.length_append]; omega, List.take_left' rfl]
theorem naL_wr (h : allF near = false) (hd : ∀ c ∈ dg, c ∈ FG) (hp : 1 ≤ dg.length) : naL (dg ++ near ++ n) near = biL n dg := by
  obtain ⟨a, c, b, rfl, ha, hc⟩ := first_not h
  have e1 : lscL (a ++ c :: b) FG = c :: b := lsc_app ha hc
  have e2 : lscL (dg ++ (a ++ c :: b) ++ n) FG = c :: (b ++ n) := by
    rw [show dg ++ (a ++ c :: b) ++ n = (dg ++ a) ++ c :: (b ++ n) by simp]
    exact lsc_app (fun x hx => (List.mem_append.mp hx).elim (hd x) (ha x)) hc
  have e3 : ((dg ++ (a ++ c :: b) ++ n).length : Int) - (lscL (dg ++ (a ++ c :: b) ++ n) FG).length - (((a ++ c :: b).length : Int) - (lscL (a ++ c :: b) FG).length) = (dg.length : Nat) := by
    rw [e1, e2]; simp only [List.length_append, List.length_cons]; omega
  unfold naL
  simp only
  rw [e3, if_neg (by omega), cut_to (by omega), cut_from (by omega), cut_from (by omega), Int.toNat_natCast, List.append_assoc, List.take_left' rfl, List.drop_left' rfl, if_pos (sw_app (a ++ c :: b) n)]
  rw [show (((dg.length : Nat) : Int) + ((a ++ c :: b).length : Nat)).toNat = (dg ++ (a ++ c :: b)).length by simp only [List.length_append]; omega, show dg ++ (a ++ c :: b ++ n) = (dg ++ (a ++ c :: b)) ++ n by simp, List.drop_left' rfl]
theorem rdX_wr (h : allF near = false) (hd : ∀ c ∈ codes (toString i), c ∈ FG) (hn : nuL (codes (toString i)) = .int i) (hz : nm n = true) (hs : s1 = 42 ∨ s1 = 35) : rdX pre near post s1 (wrL pre near post s1 n i) = .tup [.str n, .int i] := by
  have key : biL n (codes (toString i)) = .tup [.str n, .int i] := by unfold biL; rw [hn]; simp only [hz, if_true]
  have hp : 1 ≤ (codes (toString i)).length := by
    unfold nuL at hn
    split at hn
    · rename_i h; exact h.1
    · cases hn
  have gen : ∀ mid : List Nat, rdX pre near post s1 (pre ++ mid ++ post) = if s1 = 42 then nbL mid near else naL mid near := by
    intro mid
    unfold rdX
    rw [if_neg (by simp only [List.length_append]; omega), List.append_assoc, if_pos (sw_app pre (mid ++ post)), ← List.append_assoc, if_pos (ew_app (pre ++ mid) post)]
    have e : cutL (pre ++ mid ++ post) (some (pre.length : Int)) (some (((pre ++ mid ++ post).length : Int) - (post.length : Int))) = mid := by
      rw [cut_mid (by omega) (by simp only [List.length_append]; omega), Int.toNat_natCast, List.append_assoc, List.drop_left' rfl]
      rw [show (((pre ++ (mid ++ post)).length : Int) - (post.length : Int)).toNat - pre.length = mid.length by simp only [List.length_append]; omega, List.take_left' rfl]
    simp only [e]
  unfold wrL
  rcases hs with rfl | rfl
  · rw [if_pos rfl, show pre ++ n ++ near ++ codes (toString i) ++ post = pre ++ (n ++ near ++ codes (toString i)) ++ post by simp, gen, if_pos rfl, nbL_wr h hd, key]
  · rw [if_neg (by decide), show pre ++ codes (toString i) ++ near ++ n ++ post = pre ++ (codes (toString i) ++ near ++ n) ++ post by simp, gen, if_neg (by decide), naL_wr h hd hp, key]
theorem dig_in {c : Nat} (h : 48 ≤ c ∧ c ≤ 57) : c ∈ FG := by
  have : c = 48 ∨ c = 49 ∨ c = 50 ∨ c = 51 ∨ c = 52 ∨ c = 53 ∨ c = 54 ∨ c = 55 ∨ c = 56 ∨ c = 57 := by omega
  rcases this with rfl | rfl | rfl | rfl | rfl | rfl | rfl | rfl | rfl | rfl <;> decide
theorem dg_fig (m : Nat) : ∀ c ∈ codes (toString (m : Int)), c ∈ FG := by
  intro c hc
  rw [dg_nat] at hc
  obtain ⟨x, hx, rfl⟩ := List.mem_map.mp hc
  have := Nat.isDigit_of_mem_toDigits (b := 10) (by decide) (by decide) hx
  simp only [Char.isDigit, Bool.and_eq_true, decide_eq_true_eq, ge_iff_le, UInt32.le_iff_toNat_le] at this
  exact dig_in ⟨this.1, this.2⟩
theorem lpL_wr (m : Mk l pre near post s1 s2) (h1 : 42 ∉ n) (h2 : 35 ∉ n) (hd : ∀ c ∈ codes (toString i), c ∈ FG) : lpL l n i = wrL pre near post s1 n i := by
  have hx : ∀ c ∈ codes (toString i), c ≠ 42 ∧ c ≠ 35 := fun c hc => by
    have := hd c hc
    constructor <;> (rintro rfl; exact absurd this (by decide))
  have n1 := no_star m.a; have n2 := no_star m.b; have n3 := no_star m.c
  have m1 := no_hash m.a; have m2 := no_hash m.b; have m3 := no_hash m.c
  have cd : ∀ x : List Nat, codes (⟨x.toArray⟩ : Str) = x := fun x => by simp [codes]
  unfold lpL wrL
  rcases m.pl with ⟨rfl, rfl⟩ | ⟨rfl, rfl⟩
  · rw [m.eq, show starL = [42] from rfl, rpl_at n1 (by simp [n2, n3]), cd n, if_pos rfl,
      show pre ++ n ++ (near ++ 35 :: post) = (pre ++ n ++ near) ++ 35 :: post by simp, show hashL = [35] from rfl, rpl_at (by simp [m1, m2, h2]) m3, cd]
  · rw [m.eq, show starL = [42] from rfl, show pre ++ 35 :: (near ++ 42 :: post) = (pre ++ 35 :: near) ++ 42 :: post by simp, rpl_at (by simp [n1, n2]) n3, cd n, if_neg (by decide),
      show (pre ++ 35 :: near) ++ n ++ post = pre ++ 35 :: (near ++ n ++ post) by simp, show hashL = [35] from rfl, rpl_at m1 (by simp [m2, m3, h2]), cd]
    simp
end

/-! ### what is read was written -/
theorem dg_val {y : List Nat} (h : NumText.AllDigits y) (hn : y ≠ []) (h0 : y.head? ≠ some 48) : codes (toString ((NumText.digitsVal y : Nat) : Int)) = y := by
  obtain ⟨n, hl⟩ : ∃ n, y.length = n + 1 := ⟨y.length - 1, by have := List.length_pos_iff.mpr hn; omega⟩
  rw [dg_nat, NumText.toDigits_digitsVal n y hl h]
  · rw [List.map_map]
    conv => rhs; rw [← List.map_id y]
    refine List.map_congr_left fun c hc => ?_
    have := h c hc
    have : c = 48 ∨ c = 49 ∨ c = 50 ∨ c = 51 ∨ c = 52 ∨ c = 53 ∨ c = 54 ∨ c = 55 ∨ c = 56 ∨ c = 57 := by omega
    rcases this with rfl | rfl | rfl | rfl | rfl | rfl | rfl | rfl | rfl | rfl <;> rfl
  · cases y with
    | nil => exact absurd rfl hn
    | cons c r =>
      have h1 := h c (by simp)
      have h2 : c ≠ 48 := fun e => h0 (by rw [e]; rfl)
      exact .inr ⟨c, r, rfl, by omega⟩
theorem nuL_of {y : List Nat} {i : Int} (h : nuL y = .int i) : codes (toString i) = y ∧ (∀ c ∈ y, c ∈ FG) ∧ 1 ≤ y.length ∧ y.length ≤ 15 ∧ y.head? ≠ some 48 ∧ y ≠ [49] ∧ 2 ≤ i ∧ i = ((NumText.digitsVal y : Nat) : Int) := by
  unfold nuL at h
  split at h
  · rename_i q
    obtain ⟨h1, h2, h3, h4, h5⟩ := q
    simp only [D.int.injEq] at h
    subst h
    refine ⟨dg_val h3 (fun e => by rw [e] at h1; simp at h1) h4, fun c hc => ?_, h1, h2, h4, fun e => ?_, by omega, rfl⟩
    · exact dig_in (h3 c hc)
    · rw [e] at h5
      exact absurd h5 (by decide)
  · cases h
theorem nuL_mk {y : List Nat} (h : NumText.AllDigits y) (h1 : 1 ≤ y.length) (h2 : y.length ≤ 15) (h3 : y.head? ≠ some 48) (h4 : y ≠ [49]) : nuL y = .int ((NumText.digitsVal y : Nat) : Int) := by
  have hy : y ≠ [] := fun e => by rw [e] at h1; simp at h1
  have e := dg_val h hy h3
  have h5 : 1 < NumText.digitsVal y := by
    rcases Nat.lt_or_ge 1 (NumText.digitsVal y) with q | q
    · exact q
    · exfalso
      have : NumText.digitsVal y = 0 ∨ NumText.digitsVal y = 1 := by omega
      rcases this with z | z <;> rw [z] at e
      · exact h3 (by rw [← e]; decide)
      · exact h4 (by rw [← e]; decide)
  unfold nuL
  rw [if_pos ⟨h1, h2, h, h3, h5⟩]
theorem biL_of {x y b : List Nat} {i : Int} (h : biL x y = .tup [.str b, .int i]) : b = x ∧ nm x = true ∧ nuL y = .int i := by
  unfold biL at h
  split at h
  · rename_i j hj
    split at h
    · rename_i hn
      simp only [D.tup.injEq, List.cons.injEq, D.str.injEq, D.int.injEq, and_true] at h
      obtain ⟨rfl, rfl⟩ := h
      exact ⟨rfl, hn, hj⟩
    · cases h
  · cases h
theorem ew_of {x y : List Nat} (h : Txt.endswith (mk x) (mk y) = true) : ∃ a, x = a ++ y := by
  unfold Txt.endswith at h
  rw [Bool.and_eq_true, decide_eq_true_eq, StrLaws.subAt_eq] at h
  obtain ⟨h1, h2⟩ := h
  simp only [Str.length, List.size_toArray, Nat.zero_add] at h1 h2
  refine ⟨x.take (x.length - y.length), ?_⟩
  have h2' : ((x.drop (x.length - y.length)).take y.length) = y := by simpa using h2
  rw [List.take_of_length_le (by rw [List.length_drop]; omega)] at h2'
  conv => lhs; rw [← List.take_append_drop (x.length - y.length) x]
  rw [h2']
theorem sw_of {x y : List Nat} (h : Txt.startswith (mk x) (mk y) = true) : ∃ a, x = y ++ a := by
  unfold Txt.startswith at h
  rw [Bool.and_eq_true, decide_eq_true_eq, StrLaws.subAt_eq] at h
  obtain ⟨h1, h2⟩ := h
  simp only [Str.length, List.size_toArray, Nat.zero_add] at h1 h2
  refine ⟨x.drop y.length, ?_⟩
  have h2' : x.take y.length = y := by simpa using h2
  conv => lhs; rw [← List.take_append_drop y.length x]
  rw [h2']
section
variable {l pre near post n x y b : List Nat} {s1 s2 : Nat} {i : Int}
theorem nbL_of (h : nbL x y = .tup [.str b, .int i]) : ∃ dg, x = b ++ y ++ dg ∧ nm b = true ∧ nuL dg = .int i := by
  unfold nbL at h
  simp only at h
  have hr := rscL_len (l := y) (k := FG)
  have hc : (0 : Int) ≤ ((rscL x FG).length : Int) + ((y.length : Int) - ((rscL y FG).length : Int)) := by omega
  generalize ((rscL x FG).length : Int) + ((y.length : Int) - ((rscL y FG).length : Int)) = cut at h hc
  rw [cut_to hc, cut_from hc] at h
  split at h
  · rename_i he
    obtain ⟨a, ea⟩ := ew_of he
    rw [ea] at h
    rw [cut_to (by simp only [List.length_append]; omega), show (((a ++ y).length : Int) - (y.length : Int)).toNat = a.length by simp only [List.length_append]; omega, List.take_left' rfl] at h
    obtain ⟨rfl, h1, h2⟩ := biL_of h
    refine ⟨_, ?_, h1, h2⟩
    rw [← ea, List.take_append_drop]
  · cases h
theorem naL_of (h : naL x y = .tup [.str b, .int i]) : ∃ dg, x = dg ++ y ++ b ∧ nm b = true ∧ nuL dg = .int i := by
  unfold naL at h
  simp only at h
  generalize (x.length : Int) - ((lscL x FG).length : Int) - ((y.length : Int) - ((lscL y FG).length : Int)) = cut at h
  split at h
  · cases h
  · rename_i hc
    have hc : (0 : Int) ≤ cut := by omega
    rw [cut_from hc, cut_to hc, cut_from (by omega)] at h
    split at h
    · rename_i hs
      obtain ⟨a, ea⟩ := sw_of hs
      have e : x = x.take cut.toNat ++ (y ++ a) := by rw [← ea, List.take_append_drop]
      have e2 : x.drop (cut + (y.length : Int)).toNat = a := by
        rw [show (cut + (y.length : Int)).toNat = cut.toNat + y.length by omega, ← List.drop_drop, ea, List.drop_left' rfl]
      rw [e2] at h
      obtain ⟨rfl, h1, h2⟩ := biL_of h
      exact ⟨_, by rw [List.append_assoc]; exact e, h1, h2⟩
    · cases h
theorem rdX_of (h : rdX pre near post s1 n = .tup [.str b, .int i]) : n = wrL pre near post s1 b i ∧ nm b = true ∧ nuL (codes (toString i)) = .int i ∧ 2 ≤ i := by
  unfold rdX at h
  split at h
  · cases h
  · rename_i hl
    split at h
    · rename_i h1
      split at h
      · rename_i h2
        obtain ⟨r, rfl⟩ := sw_of h1
        obtain ⟨m, rfl⟩ : ∃ m, r = m ++ post := by
          obtain ⟨a, ea⟩ := ew_of h2
          have hla : pre.length ≤ a.length := by have := congrArg List.length ea; simp only [List.length_append] at this hl; omega
          refine ⟨a.drop pre.length, ?_⟩
          have := congrArg (List.drop pre.length) ea
          rwa [List.drop_left' rfl, List.drop_append_of_le_length hla] at this
        have ec : cutL (pre ++ (m ++ post)) (some (pre.length : Int)) (some (((pre ++ (m ++ post)).length : Int) - (post.length : Int))) = m := by
          rw [cut_mid (by omega) (by simp only [List.length_append]; omega), Int.toNat_natCast, List.drop_left' rfl]
          rw [show (((pre ++ (m ++ post)).length : Int) - (post.length : Int)).toNat - pre.length = m.length by simp only [List.length_append]; omega, List.take_left' rfl]
        simp only [ec] at h
        by_cases e : s1 = 42
        · rw [if_pos e] at h
          obtain ⟨dg, rfl, hn, hd⟩ := nbL_of h
          obtain ⟨q1, q2, q3, q4, q5, q6, q7, q8⟩ := nuL_of hd
          refine ⟨?_, hn, by rw [q1]; exact hd, q7⟩
          unfold wrL
          rw [if_pos e, q1]; simp
        · rw [if_neg e] at h
          obtain ⟨dg, rfl, hn, hd⟩ := naL_of h
          obtain ⟨q1, q2, q3, q4, q5, q6, q7, q8⟩ := nuL_of hd
          refine ⟨?_, hn, by rw [q1]; exact hd, q7⟩
          unfold wrL
          rw [if_neg e, q1]; simp
      · cases h
    · cases h
end

end T_k13

namespace T_k13
open PySem L2 L3
/-! ### `_law_read`: all cuts are tried -/
def pwL (pre near post : List Nat) (s1 : Nat) (b d : List Nat) : List Nat := if s1 = 42 then pre ++ b ++ near ++ d ++ post else pre ++ d ++ near ++ b ++ post
def inL (pre post x : List Nat) : List Nat := cutL x (some (pre.length : Int)) (some ((x.length : Int) - (post.length : Int)))
def mx0 (i : Int) : Int := if i > 0 then i else 0
def bsL (s1 : Nat) (near I : List Nat) (j : Nat) : List Nat := if s1 = 42 then cutL I none (some (mx0 ((I.length : Int) - (j : Int) - (near.length : Int)))) else cutL I (some ((j : Int) + (near.length : Int))) none
def nmL (s1 : Nat) (I : List Nat) (j : Nat) : List Nat := if s1 = 42 then cutL I (some (mx0 ((I.length : Int) - (j : Int)))) none else cutL I none (some (j : Int))
def Hit (pre near post : List Nat) (s1 : Nat) (x : List Nat) (j : Nat) : Prop :=
  bsL s1 near (inL pre post x) j ≠ [] ∧ Txt.isdigit (mk (nmL s1 (inL pre post x) j)) = true ∧ (nmL s1 (inL pre post x) j).head? ≠ some 48 ∧ nmL s1 (inL pre post x) j ≠ [49] ∧ pwL pre near post s1 (bsL s1 near (inL pre post x) j) (nmL s1 (inL pre post x) j) = x
theorem mx0_nn (i : Int) : 0 ≤ mx0 i := by unfold mx0; split <;> omega
theorem sg_dig : ∀ c ∈ SG, Unicode.isDigit c = true → 48 ≤ c ∧ c ≤ 57 := by decide +kernel
theorem dig_uni : ∀ c ∈ FG, Unicode.isDigit c = true := by decide +kernel
theorem isdigit_eq (y : List Nat) : Txt.isdigit (mk y) = (decide (0 < y.length) && y.all Unicode.isDigit) := by
  unfold Txt.isdigit
  simp [Str.length]
theorem cutL_mem {x : List Nat} {a b : Option Int} {c : Nat} (h : c ∈ cutL x a b) : c ∈ x := by
  unfold cutL at h
  exact List.mem_of_mem_drop (List.mem_of_mem_take h)
section
variable {l pre near post x : List Nat} {s1 s2 : Nat} {j : Nat}
theorem inL_mem {c : Nat} (h : c ∈ inL pre post x) : c ∈ x := cutL_mem h
theorem bsL_mem {I : List Nat} {c : Nat} (h : c ∈ bsL s1 near I j) : c ∈ I := by unfold bsL at h; split at h <;> exact cutL_mem h
theorem nmL_mem {I : List Nat} {c : Nat} (h : c ∈ nmL s1 I j) : c ∈ I := by unfold nmL at h; split at h <;> exact cutL_mem h
theorem bsL_len {I : List Nat} : (bsL s1 near I j).length ≤ I.length := by unfold bsL; split <;> exact cutL_len _ _ _
theorem inL_len : (inL pre post x).length ≤ x.length := cutL_len _ _ _
theorem nmL_len {I : List Nat} : (nmL s1 I j).length ≤ j := by
  unfold nmL
  split
  · rw [cut_from (mx0_nn _), List.length_drop]
    unfold mx0; split <;> omega
  · rw [cut_to (by omega), List.length_take]; omega
theorem nm_sg {z : List Nat} (h : nm z = true) : (1 ≤ z.length ∧ z.length ≤ 200) ∧ ∀ c ∈ z, c ∈ SG := by
  unfold nm at h
  rw [Bool.and_eq_true, decide_eq_true_eq] at h
  exact ⟨h.1, fun c hc => of_decide_eq_true (List.all_eq_true.mp h.2 c hc)⟩
theorem nm_mk {z : List Nat} (h1 : 1 ≤ z.length) (h2 : z.length ≤ 200) (h : ∀ c ∈ z, c ∈ SG) : nm z = true := by
  unfold nm
  rw [Bool.and_eq_true, decide_eq_true_eq]
  exact ⟨⟨h1, h2⟩, List.all_eq_true.mpr fun c hc => decide_eq_true (h c hc)⟩
/-- a cut that fits is what is read -/
theorem hit_rd (m : Mk l pre near post s1 s2) (hc : allF near = false) (hx : nm x = true) (hj : j ≤ 15) (h : Hit pre near post s1 x j) :
    rdX pre near post s1 x = .tup [.str (bsL s1 near (inL pre post x) j), .int ((NumText.digitsVal (nmL s1 (inL pre post x) j) : Nat) : Int)] ∧ NumText.AllDigits (nmL s1 (inL pre post x) j) ∧ nmL s1 (inL pre post x) j ≠ [] := by
  obtain ⟨h1, h2, h3, h4, h5⟩ := h
  obtain ⟨⟨x1, x2⟩, x3⟩ := nm_sg hx
  have bl := Nat.le_trans (bsL_len (s1 := s1) (near := near) (I := inL pre post x) (j := j)) (inL_len (pre := pre) (post := post) (x := x))
  have nl := nmL_len (s1 := s1) (I := inL pre post x) (j := j)
  have bm : ∀ c ∈ bsL s1 near (inL pre post x) j, c ∈ SG := fun c hc => x3 c (inL_mem (bsL_mem hc))
  have nmm : ∀ c ∈ nmL s1 (inL pre post x) j, c ∈ SG := fun c hc => x3 c (inL_mem (nmL_mem hc))
  generalize bsL s1 near (inL pre post x) j = b at h1 h5 bl bm ⊢
  generalize nmL s1 (inL pre post x) j = d at h2 h3 h4 h5 nl nmm ⊢
  rw [isdigit_eq, Bool.and_eq_true, decide_eq_true_eq] at h2
  have hd : NumText.AllDigits d := fun c hc => sg_dig c (nmm c hc) (List.all_eq_true.mp h2.2 c hc)
  have hne : d ≠ [] := fun e => by rw [e] at h2; simp at h2
  have hnu := nuL_mk hd (by omega) (by omega) h3 h4
  have hv := dg_val hd hne h3
  have hb : nm b = true := nm_mk (by have := List.length_pos_iff.mpr h1; omega) (by omega) bm
  refine ⟨?_, hd, hne⟩
  have e : x = wrL pre near post s1 b ((NumText.digitsVal d : Nat) : Int) := by
    rw [← h5]; unfold pwL wrL; rw [hv]
  conv => lhs; rw [e]
  refine rdX_wr hc (fun c hc => ?_) (by rw [hv]; exact hnu) hb (by rcases m.pl with ⟨e, _⟩ | ⟨e, _⟩ <;> simp [e])
  rw [hv] at hc
  exact dig_in (hd c hc)
/-- what is read is a cut that fits -/
theorem rd_hit {b : List Nat} {i : Int} (h : rdX pre near post s1 x = .tup [.str b, .int i]) : ∃ j, 1 ≤ j ∧ j ≤ 15 ∧ Hit pre near post s1 x j := by
  obtain ⟨ex, hb, hn, hi⟩ := rdX_of h
  obtain ⟨q1, q2, q3, q4, q5, q6, q7, q8⟩ := nuL_of hn
  obtain ⟨⟨b1, b2⟩, b3⟩ := nm_sg hb
  have ex2 : x = pwL pre near post s1 b (codes (toString i)) := ex
  clear ex q8 h
  generalize codes (toString i) = d at hn q1 q2 q3 q4 q5 q6 ex2
  refine ⟨d.length, q3, q4, ?_⟩
  have eI : inL pre post x = if s1 = 42 then b ++ near ++ d else d ++ near ++ b := by
    unfold inL
    rw [ex2]
    unfold pwL
    split
    · rw [cut_mid (by omega) (by simp only [List.length_append]; omega), Int.toNat_natCast, show pre ++ b ++ near ++ d ++ post = pre ++ ((b ++ near ++ d) ++ post) by simp, List.drop_left' rfl]
      rw [show (((pre ++ ((b ++ near ++ d) ++ post)).length : Int) - (post.length : Int)).toNat - pre.length = (b ++ near ++ d).length by simp only [List.length_append]; omega, List.take_left' rfl]
    · rw [cut_mid (by omega) (by simp only [List.length_append]; omega), Int.toNat_natCast, show pre ++ d ++ near ++ b ++ post = pre ++ ((d ++ near ++ b) ++ post) by simp, List.drop_left' rfl]
      rw [show (((pre ++ ((d ++ near ++ b) ++ post)).length : Int) - (post.length : Int)).toNat - pre.length = (d ++ near ++ b).length by simp only [List.length_append]; omega, List.take_left' rfl]
  have eb : bsL s1 near (inL pre post x) d.length = b := by
    rw [eI]
    unfold bsL
    split
    · rw [cut_to (mx0_nn _)]
      rw [show (mx0 (((b ++ near ++ d).length : Int) - (d.length : Int) - (near.length : Int))).toNat = b.length by unfold mx0; simp only [List.length_append]; split <;> omega, List.append_assoc, List.take_left' rfl]
    · rw [cut_from (by omega), show (((d.length : Nat) : Int) + (near.length : Int)).toNat = (d ++ near).length by simp only [List.length_append]; omega, List.drop_left' rfl]
  have en : nmL s1 (inL pre post x) d.length = d := by
    rw [eI]
    unfold nmL
    split
    · rw [cut_from (mx0_nn _)]
      rw [show (mx0 (((b ++ near ++ d).length : Int) - (d.length : Int))).toNat = (b ++ near).length by unfold mx0; simp only [List.length_append]; split <;> omega, List.drop_left' rfl]
    · rw [cut_to (by omega), Int.toNat_natCast, List.append_assoc, List.take_left' rfl]
  unfold Hit
  rw [eb, en]
  refine ⟨fun e => by rw [e] at b1; simp at b1, ?_, q5, q6, ex2.symm⟩
  rw [isdigit_eq, Bool.and_eq_true, decide_eq_true_eq]
  exact ⟨q3, List.all_eq_true.mpr fun c hc => dig_uni c (q2 c hc)⟩
/-- the mark with both put in -/
theorem put2 (m : Mk l pre near post s1 s2) {b d : List Nat} (h1 : 42 ∉ b) (h2 : 35 ∉ b) : codes (Txt.replace (mk (codes (Txt.replace (mk l) (mk [42]) (mk b)))) (mk [35]) (mk d)) = pwL pre near post s1 b d := by
  have n1 := no_star m.a; have n2 := no_star m.b; have n3 := no_star m.c
  have m1 := no_hash m.a; have m2 := no_hash m.b; have m3 := no_hash m.c
  have cd : ∀ x : List Nat, codes (mk x) = x := fun x => by simp [codes]
  unfold pwL
  rcases m.pl with ⟨rfl, rfl⟩ | ⟨rfl, rfl⟩
  · rw [m.eq, rpl_at n1 (by simp [n2, n3]), cd b, cd (pre ++ b ++ (near ++ 35 :: post)), if_pos rfl, show pre ++ b ++ (near ++ 35 :: post) = (pre ++ b ++ near) ++ 35 :: post by simp, rpl_at (by simp [m1, m2, h2]) m3, cd d, cd (pre ++ b ++ near ++ d ++ post)]
  · rw [m.eq, show pre ++ 35 :: (near ++ 42 :: post) = (pre ++ 35 :: near) ++ 42 :: post by simp, rpl_at (by simp [n1, n2]) n3, cd b, cd ((pre ++ 35 :: near) ++ b ++ post), if_neg (by decide),
      show (pre ++ 35 :: near) ++ b ++ post = pre ++ 35 :: (near ++ b ++ post) by simp, rpl_at m1 (by simp [m2, m3, h2]), cd d, cd (pre ++ d ++ (near ++ b ++ post))]
    simp
theorem put1_len {b : List Nat} (m : Mk l pre near post s1 s2) : (codes (Txt.replace (mk l) (mk [42]) (mk b))).length ≤ 12 + b.length := by
  have n1 := no_star m.a; have n2 := no_star m.b; have n3 := no_star m.c
  have cd : ∀ x : List Nat, codes (mk x) = x := fun x => by simp [codes]
  have hl := m.len
  rw [m.eq] at hl
  simp only [List.length_append, List.length_cons] at hl
  rcases m.pl with ⟨rfl, rfl⟩ | ⟨rfl, rfl⟩
  · rw [m.eq, rpl_at n1 (by simp [n2, n3]), cd b, cd (pre ++ b ++ (near ++ 35 :: post))]
    simp only [List.length_append, List.length_cons]; omega
  · rw [m.eq, show pre ++ 35 :: (near ++ 42 :: post) = (pre ++ 35 :: near) ++ 42 :: post by simp, rpl_at (by simp [n1, n2]) n3, cd b, cd ((pre ++ 35 :: near) ++ b ++ post)]
    simp only [List.length_append, List.length_cons]; omega
theorem rp_put2 (m : Mk l pre near post s1 s2) {b d : List Nat} (h1 : 42 ∉ b) (h2 : 35 ∉ b) (h3 : 35 ∉ d) (hb : b.length ≤ 1000) (hd : d.length ≤ 1000) {env : L3.Env} {cs : Cells} {mo me1 me2 : ME} {P : D → Cells → Prop} {X : KX}
    (e0 : mo env cs = .ok (.str l) cs) (e1 : me1 env cs = .ok (.str b) cs) (e2 : me2 env cs = .ok (.str d) cs) (k : P (.str (pwL pre near post s1 b d)) cs) : RP (eRpl [35] (eRpl [42] mo me1) me2 env cs) P X := by
  have hl := m.len
  have hp := put1_len (b := b) m
  rw [rp_rpl, rp_rpl, e0]
  show RP (me1 env cs) _ X
  rw [e1]
  show (if _ then _ else False)
  rw [if_pos ⟨fun e => h1 (by rw [← e]; simp), by have : (l.length + 1) * b.length ≤ 13 * 1000 := Nat.mul_le_mul (by omega) hb; omega⟩]
  show RP (me2 env cs) _ X
  rw [e2]
  show (if _ then _ else False)
  rw [if_pos ⟨fun e => h3 (by rw [← e]; simp), by have : ((codes (Txt.replace (mk l) (mk [42]) (mk b))).length + 1) * d.length ≤ 1013 * 1000 := Nat.mul_le_mul (by omega) hd; omega⟩, put2 m h1 h2]
  exact k
end

end T_k13

namespace T_k13
open PySem L2 L3
section
variable {cs : Cells} {P : D → Cells → Prop} {X : KX} {l pre near post x I : List Nat} {s1 s2 : Nat} {j : Nat} {o6 o7 : Option D}
theorem rp_sortI {a : ME} {env : L3.Env} : RP (eSortI a env cs) P X = RP (a env cs) (fun d c1 => match listOf c1 d with
  | some ds => (match intsOf ds with
    | some l => if l.length < 64 then RP (mkL false c1 ((sortI l).map D.int)) P X else False
    | none => False)
  | none => False) X := by
  unfold eSortI
  rw [RP_bind]
  congr; funext d c1
  cases listOf c1 d with
  | none => rfl
  | some ds =>
    cases hs : intsOf ds with
    | none => simp only [hs]; rfl
    | some H => simp only [hs]; split <;> rfl
theorem sort2 {a b : Int} (h : a ≤ b) : sortI [a, b] = [a, b] ∧ sortI [b, a] = [a, b] :=
  ⟨int_uniq (sortI_perm _) (sortI_pw _) (by simp [h]), int_uniq ((sortI_perm _).trans (List.Perm.swap a b [])) (sortI_pw _) (by simp [h])⟩
def lrB : MS := (sSeq (sPar [6, 7] (aCons (eSl false (eVar 3) (oSome (op2 (addD false) (eVar 5) (eVar 4))) oNone) (aCons (eSl false (eVar 3) oNone (oSome (eVar 5))) aNil))) (sSeq (sIf (op2 eqD (op2 ixD (eVar 0) (op2 ixD (eVar 2) (eC (.int 0)))) (eC (.str [42]))) (sPar [6, 7] (aCons (eSl false (eVar 3) oNone (oSome (eBi maxB (aCons (eC (.int 0)) (aCons (op2 subD (op2 subD (eBi lenB (aCons (eVar 3) aNil)) (eVar 5)) (eVar 4)) aNil))))) (aCons (eSl false (eVar 3) (oSome (eBi maxB (aCons (eC (.int 0)) (aCons (op2 subD (eBi lenB (aCons (eVar 3) aNil)) (eVar 5)) aNil)))) oNone) aNil))) sNx) (sIf (eAnd (op2 neD (eVar 6) (eC (.str []))) (eAnd (eM0 isdD (eVar 7)) (eAnd (op2 neD (op2 ixD (eVar 7) (eC (.int 0))) (eC (.str [48]))) (op2 neD (eVar 7) (eC (.str [49])))))) (sIf (op2 eqD (eRpl [35] (eRpl [42] (eVar 0) (eVar 6)) (eVar 7)) (eVar 1)) (sRet (eTup (aCons (eVar 6) (aCons (eBi intB (aCons (eVar 7) aNil)) aNil)))) sNx) sNx)))
def lrE (l x I : List Nat) (p0 p1 w : Int) (o5 o6 o7 : Option D) : L3.Env := [some (.str l), some (.str x), some (.lst [.int p0, .int p1]), some (.str I), some (.int w), o5, o6, o7]
theorem rp_isd {l : List Nat} : RP (isdD cs l) P X = P (.bl (Txt.isdigit (mk l))) cs := nr rfl
theorem mx_eq (i : Int) : (if i > 0 then i else 0) = mx0 i := rfl
/-- both cuts are made -/
theorem cuts_rp (m : Mk l pre near post s1 s2) (hI : I.length ≤ 200) {K : Cn} {M : MS}
    (k : SP (M (lrE l x I (pre.length : Int) ((pre.length + 1 + near.length : Nat) : Int) (near.length : Int) (some (.int (j : Nat))) (some (.str (bsL s1 near I j))) (some (.str (nmL s1 I j)))) cs) K) :
    SP (sSeq (sPar [6, 7] (aCons (eSl false (eVar 3) (oSome (op2 (addD false) (eVar 5) (eVar 4))) oNone) (aCons (eSl false (eVar 3) oNone (oSome (eVar 5))) aNil))) (sSeq (sIf (op2 eqD (op2 ixD (eVar 0) (op2 ixD (eVar 2) (eC (.int 0)))) (eC (.str [42]))) (sPar [6, 7] (aCons (eSl false (eVar 3) oNone (oSome (eBi maxB (aCons (eC (.int 0)) (aCons (op2 subD (op2 subD (eBi lenB (aCons (eVar 3) aNil)) (eVar 5)) (eVar 4)) aNil))))) (aCons (eSl false (eVar 3) (oSome (eBi maxB (aCons (eC (.int 0)) (aCons (op2 subD (eBi lenB (aCons (eVar 3) aNil)) (eVar 5)) aNil)))) oNone) aNil))) sNx) M) (lrE l x I (pre.length : Int) ((pre.length + 1 + near.length : Nat) : Int) (near.length : Int) (some (.int (j : Nat))) o6 o7) cs) K := by
  have sI : I.length ≤ sizeLine := by rw [sizeLine_eq]; omega
  have r1 : ∀ a b, oSome (op2 (addD false) (eVar 5) (eVar 4)) (lrE l x I (pre.length : Int) ((pre.length + 1 + near.length : Nat) : Int) (near.length : Int) (some (.int (j : Nat))) a b) cs = some (some ((j : Int) + (near.length : Int)), cs) := fun a b => by
    refine ro_some (RP.eq ?_)
    simp only [lrE, rp_def, List.map_cons, List.map_nil, List.length_cons, List.length_nil, Nat.reduceAdd, Nat.reduceSub, List.replicate_zero, List.replicate_succ, List.append_nil, List.cons_append, List.nil_append, List.set_cons_zero, List.set_cons_succ, sp_ret, sp_seq, sp_asg, sp_if, sp_nx, sp_drop, SP_brS, rap_cons, rap_nil, rp_bi, rp_c, rp_op2, rp_op1, rp_not, rp_or, rp_and, rp_if, rp_call, rp_varM, List.getElem?_cons_zero, List.getElem?_cons_succ, rp_notD, RP_br, RP_ok, rp_addI]
    first | exact ⟨rfl, rfl⟩ | exact ⟨rfl, trivial⟩ | exact ⟨trivial, rfl⟩ | exact trivial | exact ⟨trivial, trivial⟩
  have r2 : ∀ a b, oSome (eBi maxB (aCons (eC (.int 0)) (aCons (op2 subD (op2 subD (eBi lenB (aCons (eVar 3) aNil)) (eVar 5)) (eVar 4)) aNil))) (lrE l x I (pre.length : Int) ((pre.length + 1 + near.length : Nat) : Int) (near.length : Int) (some (.int (j : Nat))) a b) cs = some (some (mx0 ((I.length : Int) - (j : Int) - (near.length : Int))), cs) := fun a b => by
    refine ro_some (RP.eq ?_)
    simp only [lrE, rp_def, List.map_cons, List.map_nil, List.length_cons, List.length_nil, Nat.reduceAdd, Nat.reduceSub, List.replicate_zero, List.replicate_succ, List.append_nil, List.cons_append, List.nil_append, List.set_cons_zero, List.set_cons_succ, sp_ret, sp_seq, sp_asg, sp_if, sp_nx, sp_drop, SP_brS, rap_cons, rap_nil, rp_bi, rp_c, rp_op2, rp_op1, rp_not, rp_or, rp_and, rp_if, rp_call, rp_varM, List.getElem?_cons_zero, List.getElem?_cons_succ, rp_notD, RP_br, RP_ok, rp_lenS sI, rp_sub, rp_max, mx_eq]
    first | exact ⟨rfl, rfl⟩ | exact ⟨rfl, trivial⟩ | exact ⟨trivial, rfl⟩ | exact trivial | exact ⟨trivial, trivial⟩
  have r3 : ∀ a b, oSome (eBi maxB (aCons (eC (.int 0)) (aCons (op2 subD (eBi lenB (aCons (eVar 3) aNil)) (eVar 5)) aNil))) (lrE l x I (pre.length : Int) ((pre.length + 1 + near.length : Nat) : Int) (near.length : Int) (some (.int (j : Nat))) a b) cs = some (some (mx0 ((I.length : Int) - (j : Int))), cs) := fun a b => by
    refine ro_some (RP.eq ?_)
    simp only [lrE, rp_def, List.map_cons, List.map_nil, List.length_cons, List.length_nil, Nat.reduceAdd, Nat.reduceSub, List.replicate_zero, List.replicate_succ, List.append_nil, List.cons_append, List.nil_append, List.set_cons_zero, List.set_cons_succ, sp_ret, sp_seq, sp_asg, sp_if, sp_nx, sp_drop, SP_brS, rap_cons, rap_nil, rp_bi, rp_c, rp_op2, rp_op1, rp_not, rp_or, rp_and, rp_if, rp_call, rp_varM, List.getElem?_cons_zero, List.getElem?_cons_succ, rp_notD, RP_br, RP_ok, rp_lenS sI, rp_sub, rp_max, mx_eq]
    first | exact ⟨rfl, rfl⟩ | exact ⟨rfl, trivial⟩ | exact ⟨trivial, rfl⟩ | exact trivial | exact ⟨trivial, trivial⟩
  have hat : atI l (pre.length : Int) = some s1 := by
    have hlen : (pre.length : Int) < (l.length : Int) := by rw [m.eq]; simp only [List.length_append, List.length_cons]; omega
    obtain ⟨z, e, _, e2⟩ := at_mid (ds := l) (by omega) hlen
    have : l[pre.length]? = some s1 := by rw [m.eq]; simp
    rw [Int.toNat_natCast, this] at e2
    rw [e, e2]
  have hlb : atI [D.int (pre.length : Int), .int ((pre.length + 1 + near.length : Nat) : Int)] 0 = some (.int (pre.length : Int)) := rfl
  have r1' := r1 o6 o7
  simp only [lrE] at r1' k ⊢
  simp only [rp_def, List.map_cons, List.map_nil, List.length_cons, List.length_nil, Nat.reduceAdd, Nat.reduceSub, List.replicate_zero, List.replicate_succ, List.append_nil, List.cons_append, List.nil_append, List.set_cons_zero, List.set_cons_succ, sp_ret, sp_seq, sp_asg, sp_if, sp_nx, sp_drop, SP_brS, rap_cons, rap_nil, rp_bi, rp_c, rp_op2, rp_op1, rp_not, rp_or, rp_and, rp_if, rp_call, rp_varM, List.getElem?_cons_zero, List.getElem?_cons_succ, rp_notD, RP_br, RP_ok, sp_par, rp_sl, ro_none, ro_varM, r1', rp_slS sI, tgTs, rp_ixL hlb, rp_ixS m.size hat, rp_eqS]
  rcases m.pl with ⟨e, _⟩ | ⟨e, _⟩
  · subst e
    have r2' := r2 (some (.str (cutL I (some ((j : Int) + (near.length : Int))) none))) (some (.str (cutL I none (some (j : Int)))))
    have r3' := r3 (some (.str (cutL I (some ((j : Int) + (near.length : Int))) none))) (some (.str (cutL I none (some (j : Int)))))
    simp only [lrE] at r2' r3'
    simp only [decide_true, if_true, rp_def, List.map_cons, List.map_nil, List.length_cons, List.length_nil, Nat.reduceAdd, Nat.reduceSub, List.replicate_zero, List.replicate_succ, List.append_nil, List.cons_append, List.nil_append, List.set_cons_zero, List.set_cons_succ, sp_ret, sp_seq, sp_asg, sp_if, sp_nx, sp_drop, SP_brS, rap_cons, rap_nil, rp_bi, rp_c, rp_op2, rp_op1, rp_not, rp_or, rp_and, rp_if, rp_call, rp_varM, List.getElem?_cons_zero, List.getElem?_cons_succ, rp_notD, RP_br, RP_ok, sp_par, rp_sl, ro_none, r2', r3', rp_slS sI, tgTs]
    unfold bsL nmL at k
    simp only [if_true] at k
    exact k
  · subst e
    have : decide (([35] : List Nat) = [42]) = false := by decide
    simp only [this, Bool.false_eq_true, if_false, rp_def, List.map_cons, List.map_nil, List.length_cons, List.length_nil, Nat.reduceAdd, Nat.reduceSub, List.replicate_zero, List.replicate_succ, List.append_nil, List.cons_append, List.nil_append, List.set_cons_zero, List.set_cons_succ, sp_ret, sp_seq, sp_asg, sp_if, sp_nx, sp_drop, SP_brS, rap_cons, rap_nil, rp_bi, rp_c, rp_op2, rp_op1, rp_not, rp_or, rp_and, rp_if, rp_call, rp_varM, List.getElem?_cons_zero, List.getElem?_cons_succ, rp_notD, RP_br, RP_ok]
    unfold bsL nmL at k
    rw [if_neg (by decide), if_neg (by decide)] at k
    exact k
theorem test_rp (m : Mk l pre near post s1 s2) {b d : List Nat} {p0 p1 w : Int} (hb : ∀ c ∈ b, c ∈ SG) (hd : ∀ c ∈ d, c ∈ SG) (lb : b.length ≤ 200) (ld : d.length ≤ 15) {K : Cn}
    (hit : b ≠ [] → Txt.isdigit (mk d) = true → d.head? ≠ some 48 → d ≠ [49] → pwL pre near post s1 b d = x → K.rt (.tup [.str b, .int ((NumText.digitsVal d : Nat) : Int)]) cs)
    (no : ¬ (b ≠ [] ∧ Txt.isdigit (mk d) = true ∧ d.head? ≠ some 48 ∧ d ≠ [49] ∧ pwL pre near post s1 b d = x) → K.nx (lrE l x I p0 p1 w (some (.int (j : Nat))) (some (.str b)) (some (.str d))) cs) :
    SP ((sIf (eAnd (op2 neD (eVar 6) (eC (.str []))) (eAnd (eM0 isdD (eVar 7)) (eAnd (op2 neD (op2 ixD (eVar 7) (eC (.int 0))) (eC (.str [48]))) (op2 neD (eVar 7) (eC (.str [49])))))) (sIf (op2 eqD (eRpl [35] (eRpl [42] (eVar 0) (eVar 6)) (eVar 7)) (eVar 1)) (sRet (eTup (aCons (eVar 6) (aCons (eBi intB (aCons (eVar 7) aNil)) aNil)))) sNx) sNx) (lrE l x I p0 p1 w (some (.int (j : Nat))) (some (.str b)) (some (.str d))) cs) K := by
  have sd : d.length ≤ sizeLine := by rw [sizeLine_eq]; omega
  simp only [lrE] at no ⊢
  simp only [rp_def, List.map_cons, List.map_nil, List.length_cons, List.length_nil, Nat.reduceAdd, Nat.reduceSub, List.replicate_zero, List.replicate_succ, List.append_nil, List.cons_append, List.nil_append, List.set_cons_zero, List.set_cons_succ, sp_ret, sp_seq, sp_asg, sp_if, sp_nx, sp_drop, SP_brS, rap_cons, rap_nil, rp_bi, rp_c, rp_op2, rp_op1, rp_not, rp_or, rp_and, rp_if, rp_call, rp_varM, List.getElem?_cons_zero, List.getElem?_cons_succ, rp_notD, RP_br, RP_ok, rp_neS, rp_m0, rp_isd]
  by_cases h1 : b = []
  · simp only [h1, decide_true, Bool.not_true, cond_false, Bool.false_eq_true, if_false]
    rw [h1] at no
    exact no fun h => h.1 rfl
  · simp only [h1, decide_false, Bool.not_false, cond_true]
    cases h2 : Txt.isdigit (mk d) with
    | false =>
      simp only [cond_false, Bool.false_eq_true, if_false, rp_def, List.map_cons, List.map_nil, List.length_cons, List.length_nil, Nat.reduceAdd, Nat.reduceSub, List.replicate_zero, List.replicate_succ, List.append_nil, List.cons_append, List.nil_append, List.set_cons_zero, List.set_cons_succ, sp_ret, sp_seq, sp_asg, sp_if, sp_nx, sp_drop, SP_brS, rap_cons, rap_nil, rp_bi, rp_c, rp_op2, rp_op1, rp_not, rp_or, rp_and, rp_if, rp_call, rp_varM, List.getElem?_cons_zero, List.getElem?_cons_succ, rp_notD, RP_br, RP_ok]
      exact no fun h => by rw [h2] at h; exact absurd h.2.1 Bool.false_ne_true
    | true =>
      have h2' := h2
      rw [isdigit_eq, Bool.and_eq_true, decide_eq_true_eq] at h2'
      have hD : NumText.AllDigits d := fun c hc => sg_dig c (hd c hc) (List.all_eq_true.mp h2'.2 c hc)
      cases d with
      | nil => simp at h2'
      | cons c r =>
        have ht := intText_digits (x := ⟨(c :: r).toArray⟩) (by simpa using hD) (by simp) (by rw [str_len]; omega)
        simp only [cond_true, rp_def, List.map_cons, List.map_nil, List.length_cons, List.length_nil, Nat.reduceAdd, Nat.reduceSub, List.replicate_zero, List.replicate_succ, List.append_nil, List.cons_append, List.nil_append, List.set_cons_zero, List.set_cons_succ, sp_ret, sp_seq, sp_asg, sp_if, sp_nx, sp_drop, SP_brS, rap_cons, rap_nil, rp_bi, rp_c, rp_op2, rp_op1, rp_not, rp_or, rp_and, rp_if, rp_call, rp_varM, List.getElem?_cons_zero, List.getElem?_cons_succ, rp_notD, RP_br, RP_ok, rp_ixS sd atI_0, rp_neS]
        by_cases h3 : c = 48
        · subst h3
          simp only [decide_true, Bool.not_true, cond_false, Bool.false_eq_true, if_false]
          exact no fun h => h.2.2.1 rfl
        · have h3' : ¬ [c] = [48] := by simpa using h3
          simp only [h3', decide_false, Bool.not_false, cond_true]
          by_cases h4 : (c :: r) = [49]
          · simp only [h4, decide_true, Bool.not_true, Bool.false_eq_true, if_false]
            rw [h4] at no
            exact no fun h => h.2.2.2.1 rfl
          · simp only [h4, decide_false, Bool.not_false, if_true, rp_def, List.map_cons, List.map_nil, List.length_cons, List.length_nil, Nat.reduceAdd, Nat.reduceSub, List.replicate_zero, List.replicate_succ, List.append_nil, List.cons_append, List.nil_append, List.set_cons_zero, List.set_cons_succ, sp_ret, sp_seq, sp_asg, sp_if, sp_nx, sp_drop, SP_brS, rap_cons, rap_nil, rp_bi, rp_c, rp_op2, rp_op1, rp_not, rp_or, rp_and, rp_if, rp_call, rp_varM, List.getElem?_cons_zero, List.getElem?_cons_succ, rp_notD, RP_br, RP_ok]
            refine rp_put2 m (no_star hb) (no_hash hb) (no_hash hd) (by omega) (by omega) rfl rfl rfl ?_
            simp only [rp_def, List.map_cons, List.map_nil, List.length_cons, List.length_nil, Nat.reduceAdd, Nat.reduceSub, List.replicate_zero, List.replicate_succ, List.append_nil, List.cons_append, List.nil_append, List.set_cons_zero, List.set_cons_succ, sp_ret, sp_seq, sp_asg, sp_if, sp_nx, sp_drop, SP_brS, rap_cons, rap_nil, rp_bi, rp_c, rp_op2, rp_op1, rp_not, rp_or, rp_and, rp_if, rp_call, rp_varM, List.getElem?_cons_zero, List.getElem?_cons_succ, rp_notD, RP_br, RP_ok, rp_eqS]
            by_cases h5 : pwL pre near post s1 b (c :: r) = x
            · simp only [h5, decide_true, if_true, rp_def, List.map_cons, List.map_nil, List.length_cons, List.length_nil, Nat.reduceAdd, Nat.reduceSub, List.replicate_zero, List.replicate_succ, List.append_nil, List.cons_append, List.nil_append, List.set_cons_zero, List.set_cons_succ, sp_ret, sp_seq, sp_asg, sp_if, sp_nx, sp_drop, SP_brS, rap_cons, rap_nil, rp_bi, rp_c, rp_op2, rp_op1, rp_not, rp_or, rp_and, rp_if, rp_call, rp_varM, List.getElem?_cons_zero, List.getElem?_cons_succ, rp_notD, RP_br, RP_ok, rp_tup, rp_int ht (by omega)]
              rw [rp_mkT (by rw [sizeLine_eq]; simp)]
              exact hit h1 h2 (by simpa using h3) h4 h5
            · simp only [h5, decide_false, Bool.false_eq_true, if_false]
              exact no fun h => h5 h.2.2.2.2
theorem lread_rp (m : Mk l pre near post s1 s2) (hc : allF near = false) (hx : nm x = true) (k : P (rdX pre near post s1 x) cs) : RP (m__law_read [.str l, .str x] cs) P X := by
  obtain ⟨⟨x1, x2⟩, x3⟩ := nm_sg hx
  have sx : x.length ≤ sizeLine := by rw [sizeLine_eq]; omega
  have ll := m.size
  have hl : (l.length : Int) = pre.length + near.length + post.length + 2 := by rw [m.eq]; simp only [List.length_append, List.length_cons]; omega
  have rI := inL_len (pre := pre) (post := post) (x := x)
  unfold m__law_read mb__law_read
  have srt : ∀ Q : D → Cells → Prop, Q (.lst [.int (pre.length : Int), .int ((pre.length + 1 + near.length : Nat) : Int)]) cs → RP (eSortI (eList false (aCons (eM1 sixD (eVar 0) (eC (.str [42]))) (aCons (eM1 sixD (eVar 0) (eC (.str [35]))) aNil))) [some (.str l), some (.str x), none, none, none, none, none, none] cs) Q X := by
    intro Q q
    have hs := sort2 (a := (pre.length : Int)) (b := ((pre.length + 1 + near.length : Nat) : Int)) (by omega)
    rw [rp_sortI, rp_list]
    have i1 := m.i1; have i2 := m.i2; have m1 := m.m1; have m2 := m.m2
    rcases m.pl with ⟨e1, e2⟩ | ⟨e1, e2⟩
    · rw [e1] at i1 m1; rw [e2] at i2 m2
      simp only [rp_def, List.map_cons, List.map_nil, List.length_cons, List.length_nil, Nat.reduceAdd, Nat.reduceSub, List.replicate_zero, List.replicate_succ, List.append_nil, List.cons_append, List.nil_append, List.set_cons_zero, List.set_cons_succ, sp_ret, sp_seq, sp_asg, sp_if, sp_nx, sp_drop, SP_brS, rap_cons, rap_nil, rp_bi, rp_c, rp_op2, rp_op1, rp_not, rp_or, rp_and, rp_if, rp_call, rp_varM, List.getElem?_cons_zero, List.getElem?_cons_succ, rp_notD, RP_br, RP_ok, rp_m1, rp_six m1, rp_six m2, i1, i2]
      rw [rp_mkLf (by rw [sizeLine_eq]; simp)]
      simp only [L3.listOf, intsOf, List.length_cons, List.length_nil, Nat.reduceAdd, Nat.reduceLT, if_true, hs.1, List.map_cons, List.map_nil]
      rw [rp_mkLf (by rw [sizeLine_eq]; simp)]
      exact q
    · rw [e1] at i1 m1; rw [e2] at i2 m2
      simp only [rp_def, List.map_cons, List.map_nil, List.length_cons, List.length_nil, Nat.reduceAdd, Nat.reduceSub, List.replicate_zero, List.replicate_succ, List.append_nil, List.cons_append, List.nil_append, List.set_cons_zero, List.set_cons_succ, sp_ret, sp_seq, sp_asg, sp_if, sp_nx, sp_drop, SP_brS, rap_cons, rap_nil, rp_bi, rp_c, rp_op2, rp_op1, rp_not, rp_or, rp_and, rp_if, rp_call, rp_varM, List.getElem?_cons_zero, List.getElem?_cons_succ, rp_notD, RP_br, RP_ok, rp_m1, rp_six m1, rp_six m2, i1, i2]
      rw [rp_mkLf (by rw [sizeLine_eq]; simp)]
      simp only [L3.listOf, intsOf, List.length_cons, List.length_nil, Nat.reduceAdd, Nat.reduceLT, if_true, hs.2, List.map_cons, List.map_nil]
      rw [rp_mkLf (by rw [sizeLine_eq]; simp)]
      exact q
  simp only [rp_def, List.map_cons, List.map_nil, List.length_cons, List.length_nil, Nat.reduceAdd, Nat.reduceSub, List.replicate_zero, List.replicate_succ, List.append_nil, List.cons_append, List.nil_append, sp_seq, sp_asg]
  refine srt _ ?_
  have a0 : atI [D.int (pre.length : Int), .int ((pre.length + 1 + near.length : Nat) : Int)] 0 = some (.int (pre.length : Int)) := rfl
  have a1 : atI [D.int (pre.length : Int), .int ((pre.length + 1 + near.length : Nat) : Int)] 1 = some (.int ((pre.length + 1 + near.length : Nat) : Int)) := rfl
  have r1 : oSome (op2 ixD (eVar 2) (eC (.int 0))) [some (.str l), some (.str x), some (.lst [.int (pre.length : Int), .int ((pre.length + 1 + near.length : Nat) : Int)]), none, none, none, none, none] cs = some (some (pre.length : Int), cs) := by
    refine ro_some (RP.eq ?_)
    simp only [rp_def, List.map_cons, List.map_nil, List.length_cons, List.length_nil, Nat.reduceAdd, Nat.reduceSub, List.replicate_zero, List.replicate_succ, List.append_nil, List.cons_append, List.nil_append, List.set_cons_zero, List.set_cons_succ, sp_ret, sp_seq, sp_asg, sp_if, sp_nx, sp_drop, SP_brS, rap_cons, rap_nil, rp_bi, rp_c, rp_op2, rp_op1, rp_not, rp_or, rp_and, rp_if, rp_call, rp_varM, List.getElem?_cons_zero, List.getElem?_cons_succ, rp_notD, RP_br, RP_ok, rp_ixL a0]
    first | exact ⟨rfl, rfl⟩ | exact ⟨rfl, trivial⟩ | exact ⟨trivial, rfl⟩ | exact trivial | exact ⟨trivial, trivial⟩
  have r2 : oSome (op2 (addD false) (op2 (addD false) (op2 subD (eBi lenB (aCons (eVar 1) aNil)) (eBi lenB (aCons (eVar 0) aNil))) (op2 ixD (eVar 2) (eC (.int 1)))) (eC (.int 1))) [some (.str l), some (.str x), some (.lst [.int (pre.length : Int), .int ((pre.length + 1 + near.length : Nat) : Int)]), none, none, none, none, none] cs = some (some ((x.length : Int) - (post.length : Int)), cs) := by
    refine ro_some (RP.eq ?_)
    simp only [rp_def, List.map_cons, List.map_nil, List.length_cons, List.length_nil, Nat.reduceAdd, Nat.reduceSub, List.replicate_zero, List.replicate_succ, List.append_nil, List.cons_append, List.nil_append, List.set_cons_zero, List.set_cons_succ, sp_ret, sp_seq, sp_asg, sp_if, sp_nx, sp_drop, SP_brS, rap_cons, rap_nil, rp_bi, rp_c, rp_op2, rp_op1, rp_not, rp_or, rp_and, rp_if, rp_call, rp_varM, List.getElem?_cons_zero, List.getElem?_cons_succ, rp_notD, RP_br, RP_ok, rp_lenS sx, rp_lenS ll, rp_sub, rp_ixL a1, rp_addI]
    first | refine ⟨?_, rfl⟩ | refine ⟨?_, trivial⟩
    congr 1
    omega
  simp only [rp_def, List.map_cons, List.map_nil, List.length_cons, List.length_nil, Nat.reduceAdd, Nat.reduceSub, List.replicate_zero, List.replicate_succ, List.append_nil, List.cons_append, List.nil_append, List.set_cons_zero, List.set_cons_succ, sp_ret, sp_seq, sp_asg, sp_if, sp_nx, sp_drop, SP_brS, rap_cons, rap_nil, rp_bi, rp_c, rp_op2, rp_op1, rp_not, rp_or, rp_and, rp_if, rp_call, rp_varM, List.getElem?_cons_zero, List.getElem?_cons_succ, rp_notD, RP_br, RP_ok, rp_sl, r1, r2, rp_slS sx, rp_ixL a0, rp_ixL a1, rp_sub]
  have hw : ((pre.length + 1 + near.length : Nat) : Int) - (pre.length : Int) - 1 = (near.length : Int) := by omega
  rw [hw, sp_for, wp_r2]
  simp only [rp_c]
  refine ⟨by unfold lim; omega, ?_⟩
  refine for_invN (fun i env c => c = cs ∧ (∀ j, 1 ≤ j → j ≤ i → ¬ Hit pre near post s1 x j) ∧ ∃ o5 o6 o7, env = lrE l x (inL pre post x) (pre.length : Int) ((pre.length + 1 + near.length : Nat) : Int) (near.length : Int) o5 o6 o7) ⟨rfl, fun j h1 h2 => by omega, none, none, none, rfl⟩ (fun env c h => ?_) fun i d env c hi h => ?_
  · obtain ⟨rfl, hno, _⟩ := h
    refine ⟨trivial, ?_⟩
    rw [rangeD_length] at hno
    simp only [sp_ret, rp_c]
    rcases rdX_or pre near post s1 x with e | ⟨z, v, _, _, e⟩
    · rw [e] at k; exact k
    · obtain ⟨j, j1, j2, hj⟩ := rd_hit e
      exact absurd hj (hno j j1 (by omega))
  · obtain ⟨rfl, hno, o5, o6, o7, rfl⟩ := h
    obtain ⟨hi, rfl⟩ := range_get hi
    refine ⟨trivial, _, rfl, ?_⟩
    have e : (1 : Int) + (i : Int) = ((i + 1 : Nat) : Int) := by omega
    rw [e]
    refine cuts_rp (I := inL pre post x) (j := i + 1) (o6 := o6) (o7 := o7) m (by omega) ?_
    refine test_rp (I := inL pre post x) (x := x) (j := i + 1) m (fun c hc => x3 c (inL_mem (bsL_mem hc))) (fun c hc => x3 c (inL_mem (nmL_mem hc))) (by have := bsL_len (s1 := s1) (near := near) (I := inL pre post x) (j := i + 1); omega) (by have := nmL_len (s1 := s1) (I := inL pre post x) (j := i + 1); omega) (fun h1 h2 h3 h4 h5 => ?_) fun h => ?_
    · have q := hit_rd m hc hx (j := i + 1) (by omega) ⟨h1, h2, h3, h4, h5⟩
      rw [q.1] at k
      exact k
    · refine ⟨rfl, fun j h1 h2 => ?_, _, _, _, rfl⟩
      rcases Nat.lt_or_ge j (i + 1) with z | z
      · exact hno j h1 (by omega)
      · have : j = i + 1 := by omega
        subst this
        exact h
end

end T_k13

namespace T_k13
open PySem L2 L3
/-! ### the marks that are drawn -/
theorem mark_rp {n B : Nat} {cs : Cells} {P : D → Cells → Prop} {X : KX} (hb : Bx cs n B) (hB : B < 800000)
    (k : ∀ (l pre near post : List Nat) (s1 s2 : Nat) (c' : Cells), Mk l pre near post s1 s2 → allF near = false → Bx c' n (B + 20) → P (.str l) c') : RP (m__law_mark [.loc n] cs) P X := by
  unfold m__law_mark mb__law_mark
  try simp only [rp_def, List.map_cons, List.map_nil, List.length_cons, List.length_nil, Nat.reduceAdd, Nat.reduceSub, List.replicate_zero, List.replicate_succ, List.append_nil, List.cons_append, List.nil_append, List.set_cons_zero, List.set_cons_succ, sp_ret, sp_seq, sp_asg, sp_if, sp_nx, sp_drop, SP_brS, rap_cons, rap_nil, rp_bi, rp_c, rp_op2, rp_op1, rp_not, rp_or, rp_and, rp_if, rp_call, rp_varM, List.getElem?_cons_zero, List.getElem?_cons_succ, rp_notD, RP_br, RP_ok]
  refine take_rp hb (by omega) (by decide) (by decide) fun r1 c1 q1 q1' hb _ _ => ?_
  rw [rp_eqI]
  by_cases h0 : r1 = 0
  · simp only [h0, decide_true, if_true, rp_def, List.map_cons, List.map_nil, List.length_cons, List.length_nil, Nat.reduceAdd, Nat.reduceSub, List.replicate_zero, List.replicate_succ, List.append_nil, List.cons_append, List.nil_append, List.set_cons_zero, List.set_cons_succ, sp_ret, sp_seq, sp_asg, sp_if, sp_nx, sp_drop, SP_brS, rap_cons, rap_nil, rp_bi, rp_c, rp_op2, rp_op1, rp_not, rp_or, rp_and, rp_if, rp_call, rp_varM, List.getElem?_cons_zero, List.getElem?_cons_succ, rp_notD, RP_br, RP_ok, rp_list]
    rw [rp_mkLf (by rw [sizeLine_eq]; simp)]
    refine take_rp hb (by omega) (by decide) (by decide) fun r2 c2 q2 q2' hb _ _ => ?_
    refine rp_ixAll q2 (by simpa using q2') fun d hd => ?_
    simp only [List.mem_cons, List.not_mem_nil, or_false] at hd
    rcases hd with rfl | rfl | rfl
    · exact k _ [] [45] [] 42 35 c2 ⟨rfl, .inl ⟨rfl, rfl⟩, by decide, by decide, by decide, by decide⟩ (by decide) (hb.le (by omega))
    · exact k _ [] [40] [41] 42 35 c2 ⟨rfl, .inl ⟨rfl, rfl⟩, by decide, by decide, by decide, by decide⟩ (by decide) (hb.le (by omega))
    · exact k _ [] [46] [] 35 42 c2 ⟨rfl, .inr ⟨rfl, rfl⟩, by decide, by decide, by decide, by decide⟩ (by decide) (hb.le (by omega))
  · simp only [h0, decide_false, Bool.false_eq_true, if_false, rp_def, List.map_cons, List.map_nil, List.length_cons, List.length_nil, Nat.reduceAdd, Nat.reduceSub, List.replicate_zero, List.replicate_succ, List.append_nil, List.cons_append, List.nil_append, List.set_cons_zero, List.set_cons_succ, sp_ret, sp_seq, sp_asg, sp_if, sp_nx, sp_drop, SP_brS, rap_cons, rap_nil, rp_bi, rp_c, rp_op2, rp_op1, rp_not, rp_or, rp_and, rp_if, rp_call, rp_varM, List.getElem?_cons_zero, List.getElem?_cons_succ, rp_notD, RP_br, RP_ok]
    refine take_rp hb (by omega) (by decide) (by decide) fun r2 c2 q2 q2' hb _ _ => ?_
    refine signs_rp hb (by omega) (by omega) (by omega) fun l1 c3 e1 g1 hb => ?_
    have hb := hb.le (B' := B + 4) (by omega)
    refine take_rp hb (by omega) (by decide) (by decide) fun r3 c4 q3 q3' hb _ _ => ?_
    refine rp_ixSA (by rw [sizeLine_eq]; decide) q3 (by simpa using q3') fun ch hch => ?_
    rw [rp_addS (by rw [sizeLine_eq]; first | omega | (simp; omega) | simp)]
    simp only [rp_def, List.map_cons, List.map_nil, List.length_cons, List.length_nil, Nat.reduceAdd, Nat.reduceSub, List.replicate_zero, List.replicate_succ, List.append_nil, List.cons_append, List.nil_append, List.set_cons_zero, List.set_cons_succ, sp_ret, sp_seq, sp_asg, sp_if, sp_nx, sp_drop, SP_brS, rap_cons, rap_nil, rp_bi, rp_c, rp_op2, rp_op1, rp_not, rp_or, rp_and, rp_if, rp_call, rp_varM, List.getElem?_cons_zero, List.getElem?_cons_succ, rp_notD, RP_br, RP_ok, rp_list]
    rw [rp_mkLf (by rw [sizeLine_eq]; simp)]
    refine take_rp hb (by omega) (by decide) (by decide) fun r4 c5 q4 q4' hb _ _ => ?_
    have hz : ∀ d ∈ [D.str [], .str [48], .str [49, 50], .str [53]], ∃ z : List Nat, d = .str z ∧ z.length ≤ 2 ∧ ∀ c ∈ z, c ∈ SG := by
      simp only [List.forall_mem_cons]
      exact ⟨⟨_, rfl, by decide, by decide⟩, ⟨_, rfl, by decide, by decide⟩, ⟨_, rfl, by decide, by decide⟩, ⟨_, rfl, by decide, by decide⟩, fun d h => by cases h⟩
    refine rp_ixAll q4 (by simpa using q4') fun d hd => ?_
    obtain ⟨z, rfl, z1, z2⟩ := hz d hd
    rw [rp_addS (by rw [sizeLine_eq]; first | omega | (simp; omega) | simp)]
    have n1 : (l1 ++ [ch] ++ z).length ≤ 5 := by simp; omega
    have n2 : ∀ c ∈ l1 ++ [ch] ++ z, c ∈ SG := by
      intro c hc
      rcases List.mem_append.mp hc with hc | hc
      · rcases List.mem_append.mp hc with hc | hc
        · exact g1 c hc
        · rw [List.mem_singleton.mp hc]
          revert hch
          generalize ch = x
          revert x
          decide
      · exact z2 c hc
    have n3 : allF (l1 ++ [ch] ++ z) = false := by
      cases h : allF (l1 ++ [ch] ++ z) with
      | false => rfl
      | true =>
        have := of_decide_eq_true (List.all_eq_true.mp h ch (by simp))
        exfalso
        revert this hch
        generalize ch = x
        revert x
        decide
    revert n1 n2 n3
    generalize l1 ++ [ch] ++ z = near
    intro n1 n2 n3
    try simp only [rp_def, List.map_cons, List.map_nil, List.length_cons, List.length_nil, Nat.reduceAdd, Nat.reduceSub, List.replicate_zero, List.replicate_succ, List.append_nil, List.cons_append, List.nil_append, List.set_cons_zero, List.set_cons_succ, sp_ret, sp_seq, sp_asg, sp_if, sp_nx, sp_drop, SP_brS, rap_cons, rap_nil, rp_bi, rp_c, rp_op2, rp_op1, rp_not, rp_or, rp_and, rp_if, rp_call, rp_varM, List.getElem?_cons_zero, List.getElem?_cons_succ, rp_notD, RP_br, RP_ok]
    refine take_rp hb (by omega) (by decide) (by decide) fun r5 c6 q5 q5' hb _ _ => ?_
    rw [rp_eqI]
    have go : ∀ y : List Nat, y.length ≤ 5 → (∀ c ∈ y, c ∈ SG) → allF y = false → SP (sSeq (sAsg 2 (eIf (op2 gtD (eCall m__law_take (aCons (eVar 0) (aCons (eC (.int 3)) aNil))) (eC (.int 0))) (op2 (addD false) (op2 (addD false) (eC (.str [42])) (eVar 1)) (eC (.str [35]))) (op2 (addD false) (op2 (addD false) (eC (.str [35])) (eVar 1)) (eC (.str [42]))))) (sRet (op2 (addD false) (op2 (addD false) (eCall m__law_signs (aCons (eVar 0) (aCons (eCall m__law_take (aCons (eVar 0) (aCons (eC (.int 3)) aNil))) aNil))) (eVar 2)) (eCall m__law_signs (aCons (eVar 0) (aCons (eCall m__law_take (aCons (eVar 0) (aCons (eC (.int 3)) aNil))) aNil))))) [some (.loc n), some (.str y), none] c6) ⟨fun _ c => P .non c, P, fun _ _ => False, fun _ _ => False, fun x fs _ c => X x fs c⟩ := by
      intro y y1 y2 y3
      simp only [rp_def, List.map_cons, List.map_nil, List.length_cons, List.length_nil, Nat.reduceAdd, Nat.reduceSub, List.replicate_zero, List.replicate_succ, List.append_nil, List.cons_append, List.nil_append, List.set_cons_zero, List.set_cons_succ, sp_ret, sp_seq, sp_asg, sp_if, sp_nx, sp_drop, SP_brS, rap_cons, rap_nil, rp_bi, rp_c, rp_op2, rp_op1, rp_not, rp_or, rp_and, rp_if, rp_call, rp_varM, List.getElem?_cons_zero, List.getElem?_cons_succ, rp_notD, RP_br, RP_ok]
      refine take_rp hb (by omega) (by decide) (by decide) fun r6 c7 q6 q6' hb _ _ => ?_
      rw [rp_gt]
      have fin : ∀ s1 s2 : Nat, ((s1 = 42 ∧ s2 = 35) ∨ (s1 = 35 ∧ s2 = 42)) → SP (sRet (op2 (addD false) (op2 (addD false) (eCall m__law_signs (aCons (eVar 0) (aCons (eCall m__law_take (aCons (eVar 0) (aCons (eC (.int 3)) aNil))) aNil))) (eVar 2)) (eCall m__law_signs (aCons (eVar 0) (aCons (eCall m__law_take (aCons (eVar 0) (aCons (eC (.int 3)) aNil))) aNil)))) [some (.loc n), some (.str y), some (.str ([s1] ++ y ++ [s2]))] c7) ⟨fun _ c => P .non c, P, fun _ _ => False, fun _ _ => False, fun x fs _ c => X x fs c⟩ := by
        intro s1 s2 hp
        try simp only [rp_def, List.map_cons, List.map_nil, List.length_cons, List.length_nil, Nat.reduceAdd, Nat.reduceSub, List.replicate_zero, List.replicate_succ, List.append_nil, List.cons_append, List.nil_append, List.set_cons_zero, List.set_cons_succ, sp_ret, sp_seq, sp_asg, sp_if, sp_nx, sp_drop, SP_brS, rap_cons, rap_nil, rp_bi, rp_c, rp_op2, rp_op1, rp_not, rp_or, rp_and, rp_if, rp_call, rp_varM, List.getElem?_cons_zero, List.getElem?_cons_succ, rp_notD, RP_br, RP_ok]
        refine take_rp hb (by omega) (by decide) (by decide) fun r7 c8 q7 q7' hb _ _ => ?_
        refine signs_rp hb (by omega) (by omega) (by omega) fun l7 c9 e7 g7 hb => ?_
        have hb := hb.le (B' := B + 12) (by omega)
        rw [rp_addS (by rw [sizeLine_eq]; first | omega | (simp; omega) | simp)]
        try simp only [rp_def, List.map_cons, List.map_nil, List.length_cons, List.length_nil, Nat.reduceAdd, Nat.reduceSub, List.replicate_zero, List.replicate_succ, List.append_nil, List.cons_append, List.nil_append, List.set_cons_zero, List.set_cons_succ, sp_ret, sp_seq, sp_asg, sp_if, sp_nx, sp_drop, SP_brS, rap_cons, rap_nil, rp_bi, rp_c, rp_op2, rp_op1, rp_not, rp_or, rp_and, rp_if, rp_call, rp_varM, List.getElem?_cons_zero, List.getElem?_cons_succ, rp_notD, RP_br, RP_ok]
        refine take_rp hb (by omega) (by decide) (by decide) fun r8 c10 q8 q8' hb _ _ => ?_
        refine signs_rp hb (by omega) (by omega) (by omega) fun l8 c11 e8 g8 hb => ?_
        rw [rp_addS (by rw [sizeLine_eq]; first | omega | (simp; omega) | simp)]
        exact k _ l7 y l8 s1 s2 c11 ⟨by simp, hp, g7, y2, g8, by simp; omega⟩ y3 (hb.le (by omega))
      by_cases h6 : 0 < r6
      · simp only [h6, decide_true, cond_true, rp_def, List.map_cons, List.map_nil, List.length_cons, List.length_nil, Nat.reduceAdd, Nat.reduceSub, List.replicate_zero, List.replicate_succ, List.append_nil, List.cons_append, List.nil_append, List.set_cons_zero, List.set_cons_succ, sp_ret, sp_seq, sp_asg, sp_if, sp_nx, sp_drop, SP_brS, rap_cons, rap_nil, rp_bi, rp_c, rp_op2, rp_op1, rp_not, rp_or, rp_and, rp_if, rp_call, rp_varM, List.getElem?_cons_zero, List.getElem?_cons_succ, rp_notD, RP_br, RP_ok]
        rw [rp_addS (by rw [sizeLine_eq]; first | omega | (simp; omega) | simp), rp_addS (by rw [sizeLine_eq]; first | omega | (simp; omega) | simp)]
        have := fin 42 35 (.inl ⟨rfl, rfl⟩)
        simp only [rp_def, List.map_cons, List.map_nil, List.length_cons, List.length_nil, Nat.reduceAdd, Nat.reduceSub, List.replicate_zero, List.replicate_succ, List.append_nil, List.cons_append, List.nil_append, List.set_cons_zero, List.set_cons_succ, sp_ret, sp_seq, sp_asg, sp_if, sp_nx, sp_drop, SP_brS, rap_cons, rap_nil, rp_bi, rp_c, rp_op2, rp_op1, rp_not, rp_or, rp_and, rp_if, rp_call, rp_varM, List.getElem?_cons_zero, List.getElem?_cons_succ, rp_notD, RP_br, RP_ok] at this ⊢
        exact this
      · simp only [h6, decide_false, cond_false, rp_def, List.map_cons, List.map_nil, List.length_cons, List.length_nil, Nat.reduceAdd, Nat.reduceSub, List.replicate_zero, List.replicate_succ, List.append_nil, List.cons_append, List.nil_append, List.set_cons_zero, List.set_cons_succ, sp_ret, sp_seq, sp_asg, sp_if, sp_nx, sp_drop, SP_brS, rap_cons, rap_nil, rp_bi, rp_c, rp_op2, rp_op1, rp_not, rp_or, rp_and, rp_if, rp_call, rp_varM, List.getElem?_cons_zero, List.getElem?_cons_succ, rp_notD, RP_br, RP_ok]
        rw [rp_addS (by rw [sizeLine_eq]; first | omega | (simp; omega) | simp), rp_addS (by rw [sizeLine_eq]; first | omega | (simp; omega) | simp)]
        have := fin 35 42 (.inr ⟨rfl, rfl⟩)
        simp only [rp_def, List.map_cons, List.map_nil, List.length_cons, List.length_nil, Nat.reduceAdd, Nat.reduceSub, List.replicate_zero, List.replicate_succ, List.append_nil, List.cons_append, List.nil_append, List.set_cons_zero, List.set_cons_succ, sp_ret, sp_seq, sp_asg, sp_if, sp_nx, sp_drop, SP_brS, rap_cons, rap_nil, rp_bi, rp_c, rp_op2, rp_op1, rp_not, rp_or, rp_and, rp_if, rp_call, rp_varM, List.getElem?_cons_zero, List.getElem?_cons_succ, rp_notD, RP_br, RP_ok] at this ⊢
        exact this
    by_cases h5 : r5 = 0
    · simp only [h5, decide_true, RP_br, cond_true, rp_varM, List.getElem?_cons_zero, List.getElem?_cons_succ, List.set_cons_zero, List.set_cons_succ]
      have := go near n1 n2 n3
      simp only [rp_def, List.map_cons, List.map_nil, List.length_cons, List.length_nil, Nat.reduceAdd, Nat.reduceSub, List.replicate_zero, List.replicate_succ, List.append_nil, List.cons_append, List.nil_append, List.set_cons_zero, List.set_cons_succ, sp_ret, sp_seq, sp_asg, sp_if, sp_nx, sp_drop, SP_brS, rap_cons, rap_nil, rp_bi, rp_c, rp_op2, rp_op1, rp_not, rp_or, rp_and, rp_if, rp_call, rp_varM, List.getElem?_cons_zero, List.getElem?_cons_succ, rp_notD, RP_br, RP_ok] at this
      exact this
    · simp only [h5, decide_false, RP_br, cond_false, rp_op1, rp_varM, List.getElem?_cons_zero, List.getElem?_cons_succ, rp_rev (l := near) (by rw [sizeLine_eq]; omega), List.set_cons_zero, List.set_cons_succ]
      have := go near.reverse (by simpa using n1) (fun c hc => n2 c (List.mem_reverse.mp hc)) (by unfold allF at *; rw [List.all_reverse]; exact n3)
      simp only [rp_def, List.map_cons, List.map_nil, List.length_cons, List.length_nil, Nat.reduceAdd, Nat.reduceSub, List.replicate_zero, List.replicate_succ, List.append_nil, List.cons_append, List.nil_append, List.set_cons_zero, List.set_cons_succ, sp_ret, sp_seq, sp_asg, sp_if, sp_nx, sp_drop, SP_brS, rap_cons, rap_nil, rp_bi, rp_c, rp_op2, rp_op1, rp_not, rp_or, rp_and, rp_if, rp_call, rp_varM, List.getElem?_cons_zero, List.getElem?_cons_succ, rp_notD, RP_br, RP_ok] at this
      exact this

/-! ### the law -/
theorem dg_head : ∀ m : Nat, 1 ≤ m → ((Nat.toDigits 10 m).map Char.toNat).head? ≠ some 48 := by
  intro m
  induction m using Nat.strongRecOn with
  | _ m ih =>
    intro h1
    by_cases h : m < 10
    · rw [Nat.toDigits_of_lt_base h]
      have : ∀ d < 10, 1 ≤ d → (Nat.digitChar d).toNat ≠ 48 := by decide
      simpa using this m h h1
    · have hm : m % 10 < 10 := Nat.mod_lt m (by decide)
      have t : Nat.toDigits 10 (m / 10) ++ Nat.toDigits 10 (m % 10) = Nat.toDigits 10 (10 * (m / 10) + m % 10) := Nat.toDigits_append_toDigits (by decide) (by omega) hm
      rw [Nat.div_add_mod] at t
      have q := ih (m / 10) (by omega) (by omega)
      rw [← t, List.map_append]
      have hn : (Nat.toDigits 10 (m / 10)).map Char.toNat ≠ [] := by
        have := PyProof.Rows.tDigits_len_ge 10 (m / 10)
        intro e
        have := congrArg List.length e
        simp at this
      generalize (Nat.toDigits 10 (m / 10)).map Char.toNat = y at q hn
      cases y with
      | nil => exact absurd rfl hn
      | cons a r => simpa using q
theorem num_ok {i : Int} (h : 2 ≤ i) (h2 : i < 10 ^ 15) : nuL (codes (toString i)) = .int i ∧ (∀ c ∈ codes (toString i), c ∈ FG) ∧ (codes (toString i)).length ≤ 15 ∧ i.natAbs < 2 ^ 1000 := by
  obtain ⟨m, rfl⟩ := Int.eq_ofNat_of_zero_le (by omega : 0 ≤ i)
  have hm : m < 10 ^ 15 := by omega
  have hf := dg_fig m
  have hl : (codes (toString ((m : Nat) : Int))).length ≤ 15 := by
    rw [dg_nat, List.length_map]
    exact PyProof.Rows.digits10_le (by decide) hm
  have hp := dg_pos m
  refine ⟨?_, hf, hl, by rw [Int.natAbs_natCast]; exact Nat.lt_trans hm (by decide)⟩
  unfold nuL
  have hv : NumText.digitsVal (codes (toString ((m : Nat) : Int))) = m := by rw [dg_nat]; exact PySem.W.KIN.val_back m
  rw [if_pos ⟨hp, hl, fun c hc => figs_mem.mp (hf c hc), by rw [dg_nat]; exact dg_head m (by omega), by rw [hv]; omega⟩, hv]
theorem sg_low : ∀ c ∈ SG, c < 0x110000 := by decide +kernel
theorem fg_sg : ∀ c ∈ FG, c ∈ SG := by decide
theorem sg_128 : ∀ c ∈ SG, c < 128 := by decide +kernel
theorem rep_pair {cs : Cells} {z : List Nat} {v : Int} (hz : ∀ c ∈ z, c < 0x110000) (hzl : z.length ≤ 1000) (hv : (codes (toString v)).length ≤ 20) (hl : v.natAbs < 2 ^ 1000) : ∃ w, reprBD cs [.tup [.str z, .int v]] = .ok (.str w) cs := by
  refine rep_tup ?_
  unfold repOkD
  have e : py0 (.tup [.str z, .int v]) = some (.tuple [.str ⟨z.toArray⟩, .int v]) := rfl
  rw [e]
  have so : PyData.strOk ⟨z.toArray⟩ = true := by
    show (z.toArray.all (· < 0x110000)) = true
    rw [List.all_toArray, List.all_eq_true]
    exact fun c hc => decide_eq_true (hz c hc)
  have c0 : PyData.canLay0 (.tuple [.str ⟨z.toArray⟩, .int v]) = true := by simp only [PyData.canLay0, PyData.canLayAll0, so, Bool.and_self]
  have i0 : PyData.intsShort 20 (.tuple [.str ⟨z.toArray⟩, .int v]) = true := by
    simp only [PyData.intsShort, PyData.intsShortAll, Bool.true_and, Bool.and_true, decide_eq_true_eq]
    rw [codes_len] at hv
    exact hv
  have h2 := PyData.shown_le 20 (by decide) _ (PyData.leavesShort_of_canLay0 20 _ c0 i0)
  have hw : PyData.weight (.tuple [.str ⟨z.toArray⟩, .int v]) ≤ 3000 := by
    have := log2_lt hl
    simp only [PyData.weight, PyData.weightAll, List.size_toArray]; split <;> omega
  refine decide_eq_true ⟨?_, ?_, ?_⟩
  · simp only [PyData.showable, PyData.showableAll, Bool.true_and, Bool.and_true, decide_eq_true_eq]
    exact log2_lt hl
  · simp only [PyData.depth, PyData.depthAll]; decide
  · rw [sizeLine_eq]
    omega
theorem rep_txt {cs : Cells} {z : List Nat} (hz : ∀ c ∈ z, c ∈ SG) (hzl : z.length ≤ 1000) : ∃ w, reprBD cs [.str z] = .ok (.str w) cs := by
  obtain ⟨w, e⟩ := rep_str (l := z) (by omega) fun c hc => sg_128 c (hz c hc)
  exact ⟨w, by unfold reprBD; simp only [e]⟩
section
variable {cs : Cells} {P : D → Cells → Prop} {X : KX} {l pre near post x : List Nat} {s1 s2 : Nat}
theorem rep_rdX (x : List Nat) : ∃ w, reprBD cs [rdX pre near post s1 x] = .ok (.str w) cs := by
  rcases rdX_or pre near post s1 x with e | ⟨z, v, hz, hv, e⟩
  · rw [e]; exact ⟨_, rfl⟩
  · rw [e]
    obtain ⟨_, _, hn, _⟩ := rdX_of e
    obtain ⟨_, _, _, q4, _, _, q7, q8⟩ := nuL_of hn
    obtain ⟨⟨z1, z2⟩, z3⟩ := nm_sg hz
    refine rep_pair (fun c hc => sg_low c (z3 c hc)) (by omega) (by omega) ?_
    obtain ⟨m, rfl⟩ := Int.eq_ofNat_of_zero_le (by omega : 0 ≤ v)
    rw [Int.natAbs_natCast]
    rcases Nat.lt_or_ge m (10 ^ 15) with q | q
    · exact Nat.lt_trans q (by decide)
    · have := PyProof.Rows.digits10_ge (k := 15) q
      rw [dg_nat, List.length_map] at q4
      omega
theorem lput_rp (m : Mk l pre near post s1 s2) {b d : List Nat} {dv : D} (e : strB cs [dv] = .ok (.str d) cs) (hb : ∀ c ∈ b, c ∈ SG) (hd : ∀ c ∈ d, c ∈ SG) (lb : b.length ≤ 1000) (ld : d.length ≤ 1000) (k : P (.str (pwL pre near post s1 b d)) cs) : RP (m__law_put [.str l, .str b, dv] cs) P X := by
  unfold m__law_put mb__law_put
  simp only [rp_def, List.map_cons, List.map_nil, List.length_cons, List.length_nil, Nat.reduceAdd, Nat.reduceSub, List.replicate_zero, List.append_nil, sp_ret]
  exact rp_put2 m (no_star hb) (no_hash hb) (no_hash hd) lb ld rfl rfl (by unfold eStrOf; exact e) k
theorem strB_int {i : Int} (h : i.natAbs < 2 ^ 1000) : strB cs [.int i] = .ok (.str (codes (toString i))) cs := by
  show (if _ then _ else _) = _
  rw [if_pos (log2_lt h)]
theorem pw_sg (m : Mk l pre near post s1 s2) {b d : List Nat} (hb : ∀ c ∈ b, c ∈ SG) (hd : ∀ c ∈ d, c ∈ SG) : (∀ c ∈ pwL pre near post s1 b d, c ∈ SG) ∧ (pwL pre near post s1 b d).length ≤ b.length + d.length + 10 := by
  have hl := m.lens
  unfold pwL
  split
  · refine ⟨fun c hc => ?_, by simp only [List.length_append]; omega⟩
    simp only [List.mem_append] at hc
    rcases hc with (((h | h) | h) | h) | h
    · exact m.a c h
    · exact hb c h
    · exact m.b c h
    · exact hd c h
    · exact m.c c h
  · refine ⟨fun c hc => ?_, by simp only [List.length_append]; omega⟩
    simp only [List.mem_append] at hc
    rcases hc with (((h | h) | h) | h) | h
    · exact m.a c h
    · exact hd c h
    · exact m.b c h
    · exact hb c h
    · exact m.c c h
theorem stem_rp {n B : Nat} (hb : Bx cs n B) (hB : B < 800000) (k : ∀ (z : List Nat) (c' : Cells), 1 ≤ z.length → z.length ≤ 13 → (∀ c ∈ z, c ∈ SG) → Bx c' n (B + 20) → P (.str z) c') : RP (m__law_stem [.loc n] cs) P X := by
  unfold m__law_stem mb__law_stem
  simp only [rp_def, List.map_cons, List.map_nil, List.length_cons, List.length_nil, Nat.reduceAdd, Nat.reduceSub, List.replicate_zero, List.replicate_succ, List.append_nil, List.cons_append, List.nil_append, List.set_cons_zero, List.set_cons_succ, sp_ret, sp_seq, sp_asg, sp_if, sp_nx, sp_drop, SP_brS, rap_cons, rap_nil, rp_bi, rp_c, rp_op2, rp_op1, rp_not, rp_or, rp_and, rp_if, rp_call, rp_varM, List.getElem?_cons_zero, List.getElem?_cons_succ, rp_notD, RP_br, RP_ok, rp_list]
  rw [rp_mkLf (by rw [sizeLine_eq]; simp)]
  refine take_rp hb (by omega) (by decide) (by decide) fun r1 c1 q1 q1' hb _ _ => ?_
  have hv : ∀ d ∈ [D.int 2, .int 6, .int 13], ∃ v : Int, d = .int v ∧ 2 ≤ v ∧ v ≤ 13 := by
    simp only [List.forall_mem_cons]
    exact ⟨⟨_, rfl, by decide, by decide⟩, ⟨_, rfl, by decide, by decide⟩, ⟨_, rfl, by decide, by decide⟩, fun d h => by cases h⟩
  refine rp_ixAll q1 (by simpa using q1') fun d hd => ?_
  obtain ⟨v, rfl, v1, v2⟩ := hv d hd
  refine take_rp hb (by omega) (by omega) (by unfold big; omega) fun r2 c2 q2 q2' hb _ _ => ?_
  rw [rp_addI]
  refine signs_rp hb (by omega) (by omega) (by omega) fun z c3 e3 g3 hb => ?_
  exact k z c3 (by omega) (by omega) g3 (hb.le (by omega))
end

end T_k13

namespace T_k13
open PySem L2 L3
/-! ### rules -/
abbrev wNest : List Nat := [110, 101, 115, 116]
abbrev wClimb : List Nat := [99, 108, 105, 109, 98]
def RuF (l w : List Nat) : List (Str × D) := [("rule_mark", .str l), ("rule_way", .str w)]
def RuleAt (cs : Cells) (n : Nat) (l w : List Nat) : Prop := cs[n]? = some (.ins "Rule" (RuF l w))
section
variable {l w : List Nat} {cs : Cells} {n : Nat} {P : D → Cells → Prop} {X : KX}
theorem ru_mark : (RuF l w).lookup ("rule_mark" : Str) = some (.str l) := by
  unfold RuF; rw [List.lookup, beq_self_eq_true]
theorem ru_way : (RuF l w).lookup ("rule_way" : Str) = some (.str w) := by
  unfold RuF; rw [List.lookup, show (("rule_way" : Str) == "rule_mark") = false by decide +kernel, List.lookup, beq_self_eq_true]
theorem ru_no {m : Str} (h : (m == "rule_mark") = false) (h2 : (m == "rule_way") = false) : (RuF l w).lookup m = none := by
  unfold RuF; rw [List.lookup, h, List.lookup, h2]; rfl
theorem ru_read : (RuF l w).lookup ("read" : Str) = none := ru_no (by decide +kernel) (by decide +kernel)
theorem ru_wayM : (RuF l w).lookup ("way" : Str) = none := ru_no (by decide +kernel) (by decide +kernel)
theorem ru_put : (RuF l w).lookup ("put" : Str) = none := ru_no (by decide +kernel) (by decide +kernel)
theorem RuleAt.ins (h : RuleAt cs n l w) : insAt cs (.loc n) = some (n, ("Rule" : Str), RuF l w) := ins_at h
theorem rread_rp (h : RuleAt cs n l w) {e : D} (k : RP (m_reading [.str l, e] cs) P X) : RP (m_Rule_read [.loc n, e] cs) P X := by
  unfold m_Rule_read mb_Rule_read
  simp only [rp_def, List.map_cons, List.map_nil, List.length_cons, List.length_nil, Nat.reduceAdd, Nat.reduceSub, List.replicate_zero, List.replicate_succ, List.append_nil, List.cons_append, List.nil_append, List.set_cons_zero, List.set_cons_succ, sp_ret, sp_seq, sp_asg, sp_if, sp_nx, sp_drop, SP_brS, rap_cons, rap_nil, rp_bi, rp_c, rp_op2, rp_op1, rp_not, rp_or, rp_and, rp_if, rp_call, rp_varM, List.getElem?_cons_zero, List.getElem?_cons_succ, rp_notD, RP_br, RP_ok, rp_eFld, h.ins, eq_self, if_true, ru_mark]
  exact k
theorem rway_rp (h : RuleAt cs n l w) (k : P (.str w) cs) : RP (m_Rule_way [.loc n] cs) P X := by
  unfold m_Rule_way mb_Rule_way
  simp only [rp_def, List.map_cons, List.map_nil, List.length_cons, List.length_nil, Nat.reduceAdd, Nat.reduceSub, List.replicate_zero, List.replicate_succ, List.append_nil, List.cons_append, List.nil_append, List.set_cons_zero, List.set_cons_succ, sp_ret, sp_seq, sp_asg, sp_if, sp_nx, sp_drop, SP_brS, rap_cons, rap_nil, rp_bi, rp_c, rp_op2, rp_op1, rp_not, rp_or, rp_and, rp_if, rp_call, rp_varM, List.getElem?_cons_zero, List.getElem?_cons_succ, rp_notD, RP_br, RP_ok, rp_eFld, h.ins, eq_self, if_true, ru_way]
  exact k
/-! making one -/
def WayBad (cs : Cells) (d : D) : Prop := (∃ u, tyC cs d = some u ∧ u ∈ TY) ∨ ∃ l, d = .str l ∧ wNest ≠ l ∧ wClimb ≠ l
theorem in_ways {l : List Nat} : inB cs (.str l) (.tup [.str wNest, .str wClimb]) = some (decide (wNest = l) || (decide (wClimb = l) || false)) := by
  unfold inB
  split
  · rename_i e; cases e
  · rfl
theorem rp_ways {l : List Nat} : RP (ninD cs (.str l) (.tup [.str wNest, .str wClimb])) P X = P (.bl !(decide (wNest = l) || (decide (wClimb = l) || false))) cs := by
  unfold ninD; rw [in_ways]; rfl
variable {pre near post : List Nat} {s1 s2 : Nat}
theorem ri_ok (m : Mk l pre near post s1 s2) (h : allF near = false) {z : List Nat} (q : z = wNest ∨ z = wClimb) (hn : cs[n]? = some (.ins "Rule" [])) (k : P .non (cs.set n (.ins "Rule" (RuF l z)))) : RP (m_Rule___init__ [.loc n, .str l, .str z] cs) P X := by
  have e1 : RP (mkT cs [.str wNest, .str wClimb]) = fun P X => P (.tup [.str wNest, .str wClimb]) cs := by
    funext P X; exact rp_mkT (by rw [sizeLine_eq]; simp)
  have hl : n < cs.length := (List.getElem?_eq_some_iff.mp hn).1
  have hb : (!(decide (wNest = z) || (decide (wClimb = z) || false))) = false := by rcases q with rfl | rfl <;> decide
  have h2 : (cs.set n (.ins "Rule" (putFD "rule_mark" (.str l) [])))[n]? = some (.ins "Rule" (putFD "rule_mark" (.str l) [])) := List.getElem?_set_self hl
  have e3 : putFD "rule_way" (.str z) (putFD "rule_mark" (.str l) []) = RuF l z := by
    unfold RuF
    rw [show putFD ("rule_mark" : Str) (.str l) [] = [(("rule_mark" : Str), D.str l)] from rfl, putFD, if_neg (by decide +kernel)]
    rfl
  have l0 : ([] : List (Str × D)).length < 1000 := by decide
  have l1 : (putFD "rule_mark" (.str l) []).length < 1000 := (by decide : 1 < 1000)
  unfold m_Rule___init__ mb_Rule___init__
  simp only [rp_def, List.map_cons, List.map_nil, List.length_cons, List.length_nil, Nat.reduceAdd, Nat.reduceSub, List.replicate_zero, List.replicate_succ, List.append_nil, List.cons_append, List.nil_append, List.set_cons_zero, List.set_cons_succ, sp_ret, sp_seq, sp_asg, sp_if, sp_nx, sp_drop, SP_brS, rap_cons, rap_nil, rp_bi, rp_c, rp_op2, rp_op1, rp_not, rp_or, rp_and, rp_if, rp_call, rp_varM, List.getElem?_cons_zero, List.getElem?_cons_succ, rp_notD, RP_br, RP_ok]
  refine nc_rp m h ?_
  simp only [rp_def, List.map_cons, List.map_nil, List.length_cons, List.length_nil, Nat.reduceAdd, Nat.reduceSub, List.replicate_zero, List.replicate_succ, List.append_nil, List.cons_append, List.nil_append, List.set_cons_zero, List.set_cons_succ, sp_ret, sp_seq, sp_asg, sp_if, sp_nx, sp_drop, SP_brS, rap_cons, rap_nil, rp_bi, rp_c, rp_op2, rp_op1, rp_not, rp_or, rp_and, rp_if, rp_call, rp_varM, List.getElem?_cons_zero, List.getElem?_cons_succ, rp_notD, RP_br, RP_ok, isi_str, Bool.not_true, cond_false, rp_tup, e1, rp_ways, hb, Bool.false_eq_true, if_false, sp_fst, ins_at hn, eq_self, true_and, l0, if_true]
  simp only [ins_at h2, eq_self, true_and, l1, if_true, e3, List.set_set]
  exact k
theorem set_last {a b : Cell} : (cs ++ [a]).set cs.length b = cs ++ [b] := by
  rw [List.set_append_right _ _ (Nat.le_refl _), Nat.sub_self]; rfl
/-! need_rule -/
theorem nr_rp (h : RuleAt cs n l w) (k : P .non cs) : RP (m_need_rule [.loc n] cs) P X := by
  unfold m_need_rule mb_need_rule
  simp only [rp_def, List.map_cons, List.map_nil, List.length_cons, List.length_nil, Nat.reduceAdd, Nat.reduceSub, List.replicate_zero, List.replicate_succ, List.append_nil, List.cons_append, List.nil_append, List.set_cons_zero, List.set_cons_succ, sp_ret, sp_seq, sp_asg, sp_if, sp_nx, sp_drop, SP_brS, rap_cons, rap_nil, rp_bi, rp_c, rp_op2, rp_op1, rp_not, rp_or, rp_and, rp_if, rp_call, rp_varM, List.getElem?_cons_zero, List.getElem?_cons_succ, rp_notD, RP_br, RP_ok, rp_isoT h, Bool.not_true, Bool.false_eq_true, if_false]
  exact k
theorem RuleAt.app (h : RuleAt cs n l w) {news : Cells} : RuleAt (cs ++ news) n l w := by
  unfold RuleAt at *
  rw [List.getElem?_append_left (List.getElem?_eq_some_iff.mp h).1]; exact h
theorem RuleAt.tk {c' : Cells} {m B : Nat} (h : RuleAt cs m l w) (hb : Bx cs n B) (k : ∀ m, m ≠ n → c'[m]? = cs[m]?) : RuleAt c' m l w := by
  refine (k m fun e => ?_).trans h
  subst e
  obtain ⟨a, b, c, h2, _⟩ := hb
  rw [show cs[m]? = some (.ins "Rule" (RuF l w)) from h] at h2
  cases h2
end

/-! ### wishes, names on a way -/
def wishB (w : List Nat) (r : D) (z : List Nat) : Bool := nm z && (decide (z.length ≤ 150) && (decide (w = wNest) || match r with
  | .tup [_, .int i] => decide (i ≤ 99999999999999)
  | _ => true))
section
variable {cs : Cells} {P : D → Cells → Prop} {X : KX} {l pre near post w z : List Nat} {s1 s2 n : Nat}
theorem isw_no {d : D} (hr : RuleAt cs n l w) (h : IsN cs d false) (k : P (.bl false) cs) : RP (m_is_wish [.loc n, d] cs) P X := by
  unfold m_is_wish mb_is_wish
  simp only [rp_def, List.map_cons, List.map_nil, List.length_cons, List.length_nil, Nat.reduceAdd, Nat.reduceSub, List.replicate_zero, List.replicate_succ, List.append_nil, List.cons_append, List.nil_append, List.set_cons_zero, List.set_cons_succ, sp_ret, sp_seq, sp_asg, sp_if, sp_nx, sp_drop, SP_brS, rap_cons, rap_nil, rp_bi, rp_c, rp_op2, rp_op1, rp_not, rp_or, rp_and, rp_if, rp_call, rp_varM, List.getElem?_cons_zero, List.getElem?_cons_succ, rp_notD, RP_br, RP_ok]
  refine nr_rp hr ?_
  try simp only [rp_def, List.map_cons, List.map_nil, List.length_cons, List.length_nil, Nat.reduceAdd, Nat.reduceSub, List.replicate_zero, List.replicate_succ, List.append_nil, List.cons_append, List.nil_append, List.set_cons_zero, List.set_cons_succ, sp_ret, sp_seq, sp_asg, sp_if, sp_nx, sp_drop, SP_brS, rap_cons, rap_nil, rp_bi, rp_c, rp_op2, rp_op1, rp_not, rp_or, rp_and, rp_if, rp_call, rp_varM, List.getElem?_cons_zero, List.getElem?_cons_succ, rp_notD, RP_br, RP_ok]
  refine h _ _ ?_
  simp only [rp_def, List.map_cons, List.map_nil, List.length_cons, List.length_nil, Nat.reduceAdd, Nat.reduceSub, List.replicate_zero, List.replicate_succ, List.append_nil, List.cons_append, List.nil_append, List.set_cons_zero, List.set_cons_succ, sp_ret, sp_seq, sp_asg, sp_if, sp_nx, sp_drop, SP_brS, rap_cons, rap_nil, rp_bi, rp_c, rp_op2, rp_op1, rp_not, rp_or, rp_and, rp_if, rp_call, rp_varM, List.getElem?_cons_zero, List.getElem?_cons_succ, rp_notD, RP_br, RP_ok, Bool.not_false, cond_true, if_true]
  exact k
theorem isw_rp (hr : RuleAt cs n l w) (m : Mk l pre near post s1 s2) (h : allF near = false) (hz : z.length ≤ 1000) (k : P (.bl (wishB w (rdX pre near post s1 z) z)) cs) : RP (m_is_wish [.loc n, .str z] cs) P X := by
  have sz : z.length ≤ sizeLine := by rw [sizeLine_eq]; omega
  unfold m_is_wish mb_is_wish
  simp only [rp_def, List.map_cons, List.map_nil, List.length_cons, List.length_nil, Nat.reduceAdd, Nat.reduceSub, List.replicate_zero, List.replicate_succ, List.append_nil, List.cons_append, List.nil_append, List.set_cons_zero, List.set_cons_succ, sp_ret, sp_seq, sp_asg, sp_if, sp_nx, sp_drop, SP_brS, rap_cons, rap_nil, rp_bi, rp_c, rp_op2, rp_op1, rp_not, rp_or, rp_and, rp_if, rp_call, rp_varM, List.getElem?_cons_zero, List.getElem?_cons_succ, rp_notD, RP_br, RP_ok]
  refine nr_rp hr ?_
  try simp only [rp_def, List.map_cons, List.map_nil, List.length_cons, List.length_nil, Nat.reduceAdd, Nat.reduceSub, List.replicate_zero, List.replicate_succ, List.append_nil, List.cons_append, List.nil_append, List.set_cons_zero, List.set_cons_succ, sp_ret, sp_seq, sp_asg, sp_if, sp_nx, sp_drop, SP_brS, rap_cons, rap_nil, rp_bi, rp_c, rp_op2, rp_op1, rp_not, rp_or, rp_and, rp_if, rp_call, rp_varM, List.getElem?_cons_zero, List.getElem?_cons_succ, rp_notD, RP_br, RP_ok]
  refine isn_str sz ?_
  unfold wishB at k
  cases hn : nm z with
  | false =>
    rw [hn] at k
    simp only [rp_def, List.map_cons, List.map_nil, List.length_cons, List.length_nil, Nat.reduceAdd, Nat.reduceSub, List.replicate_zero, List.replicate_succ, List.append_nil, List.cons_append, List.nil_append, List.set_cons_zero, List.set_cons_succ, sp_ret, sp_seq, sp_asg, sp_if, sp_nx, sp_drop, SP_brS, rap_cons, rap_nil, rp_bi, rp_c, rp_op2, rp_op1, rp_not, rp_or, rp_and, rp_if, rp_call, rp_varM, List.getElem?_cons_zero, List.getElem?_cons_succ, rp_notD, RP_br, RP_ok, Bool.not_false, cond_true, if_true]
    exact k
  | true =>
    rw [hn] at k
    simp only [rp_def, List.map_cons, List.map_nil, List.length_cons, List.length_nil, Nat.reduceAdd, Nat.reduceSub, List.replicate_zero, List.replicate_succ, List.append_nil, List.cons_append, List.nil_append, List.set_cons_zero, List.set_cons_succ, sp_ret, sp_seq, sp_asg, sp_if, sp_nx, sp_drop, SP_brS, rap_cons, rap_nil, rp_bi, rp_c, rp_op2, rp_op1, rp_not, rp_or, rp_and, rp_if, rp_call, rp_varM, List.getElem?_cons_zero, List.getElem?_cons_succ, rp_notD, RP_br, RP_ok, Bool.not_true, cond_false, rp_lenS sz, rp_gt]
    by_cases hl : z.length ≤ 150
    · have e1 : decide ((z.length : Int) > 150) = false := by simp; omega
      rw [decide_eq_true hl] at k
      simp only [e1, Bool.false_eq_true, if_false, rp_def, List.map_cons, List.map_nil, List.length_cons, List.length_nil, Nat.reduceAdd, Nat.reduceSub, List.replicate_zero, List.replicate_succ, List.append_nil, List.cons_append, List.nil_append, List.set_cons_zero, List.set_cons_succ, sp_ret, sp_seq, sp_asg, sp_if, sp_nx, sp_drop, SP_brS, rap_cons, rap_nil, rp_bi, rp_c, rp_op2, rp_op1, rp_not, rp_or, rp_and, rp_if, rp_call, rp_varM, List.getElem?_cons_zero, List.getElem?_cons_succ, rp_notD, RP_br, RP_ok, rp_eMeth, hr.ins, ru_read, eq_self, true_and, if_true]
      refine rread_rp hr (rdX_rp m h (fun P X k => isn_str sz (by rw [hn]; exact k)) (by omega) ?_)
      simp only [rp_def, List.map_cons, List.map_nil, List.length_cons, List.length_nil, Nat.reduceAdd, Nat.reduceSub, List.replicate_zero, List.replicate_succ, List.append_nil, List.cons_append, List.nil_append, List.set_cons_zero, List.set_cons_succ, sp_ret, sp_seq, sp_asg, sp_if, sp_nx, sp_drop, SP_brS, rap_cons, rap_nil, rp_bi, rp_c, rp_op2, rp_op1, rp_not, rp_or, rp_and, rp_if, rp_call, rp_varM, List.getElem?_cons_zero, List.getElem?_cons_succ, rp_notD, RP_br, RP_ok, rp_eMeth, hr.ins, ru_wayM, eq_self, true_and, if_true]
      refine rway_rp hr ?_
      rw [rp_eqS]
      simp only [rp_def, List.map_cons, List.map_nil, List.length_cons, List.length_nil, Nat.reduceAdd, Nat.reduceSub, List.replicate_zero, List.replicate_succ, List.append_nil, List.cons_append, List.nil_append, List.set_cons_zero, List.set_cons_succ, sp_ret, sp_seq, sp_asg, sp_if, sp_nx, sp_drop, SP_brS, rap_cons, rap_nil, rp_bi, rp_c, rp_op2, rp_op1, rp_not, rp_or, rp_and, rp_if, rp_call, rp_varM, List.getElem?_cons_zero, List.getElem?_cons_succ, rp_notD, RP_br, RP_ok]
      by_cases hw : w = wNest
      · rw [decide_eq_true hw] at k
        simp only [hw, decide_true, cond_true]
        exact k
      · rw [decide_eq_false hw] at k
        simp only [hw, decide_false, cond_false, rp_isB]
        rcases rdX_or pre near post s1 z with e | ⟨y, i, _, _, e⟩
        · rw [e] at k ⊢
          simp only [cond_true]
          exact k
        · rw [e] at k ⊢
          simp only [cond_false, rp_def, List.map_cons, List.map_nil, List.length_cons, List.length_nil, Nat.reduceAdd, Nat.reduceSub, List.replicate_zero, List.replicate_succ, List.append_nil, List.cons_append, List.nil_append, List.set_cons_zero, List.set_cons_succ, sp_ret, sp_seq, sp_asg, sp_if, sp_nx, sp_drop, SP_brS, rap_cons, rap_nil, rp_bi, rp_c, rp_op2, rp_op1, rp_not, rp_or, rp_and, rp_if, rp_call, rp_varM, List.getElem?_cons_zero, List.getElem?_cons_succ, rp_notD, RP_br, RP_ok]
          rw [rp_ixT (x := .int i) rfl, rp_le]
          exact k
    · have e1 : decide ((z.length : Int) > 150) = true := by simp; omega
      rw [decide_eq_false hl] at k
      simp only [e1, if_true, rp_def, List.map_cons, List.map_nil, List.length_cons, List.length_nil, Nat.reduceAdd, Nat.reduceSub, List.replicate_zero, List.replicate_succ, List.append_nil, List.cons_append, List.nil_append, List.set_cons_zero, List.set_cons_succ, sp_ret, sp_seq, sp_asg, sp_if, sp_nx, sp_drop, SP_brS, rap_cons, rap_nil, rp_bi, rp_c, rp_op2, rp_op1, rp_not, rp_or, rp_and, rp_if, rp_call, rp_varM, List.getElem?_cons_zero, List.getElem?_cons_succ, rp_notD, RP_br, RP_ok]
      exact k
end

theorem lisn_non {d e : D} {cs : Cells} {u : String} {P : D → Cells → Prop} {X : KX} (h : tyC cs d = some u) (q : u ∈ TY) (k : P (.bl false) cs) : RP (m__law_is_name [d, e] cs) P X := by
  unfold m__law_is_name mb__law_is_name
  simp only [rp_def, List.map_cons, List.map_nil, List.length_cons, List.length_nil, Nat.reduceAdd, Nat.reduceSub, List.replicate_zero, List.replicate_succ, List.append_nil, List.cons_append, List.nil_append,
    sp_ret, sp_seq, sp_if, sp_nx, SP_brS, rp_c, rp_op1, rp_not, rp_or, rp_varM, List.getElem?_cons_zero, isi_nstr h q, rp_notD, RP_br, RP_ok, Bool.not_false, cond_true, if_true]
  exact k
theorem lisn_str {l : List Nat} {cs : Cells} {P : D → Cells → Prop} {X : KX} (hl : l.length ≤ sizeLine) (hc : ∀ c ∈ l, c < 0x110000) (k : P (.bl (nm l)) cs) : RP (m__law_is_name [.str l, .int 200] cs) P X := by
  unfold m__law_is_name mb__law_is_name
  simp only [rp_def, List.map_cons, List.map_nil, List.length_cons, List.length_nil, Nat.reduceAdd, Nat.reduceSub, List.replicate_zero, List.replicate_succ, List.append_nil, List.cons_append, List.nil_append,
    sp_ret, sp_seq, sp_if, sp_nx, SP_brS, rap_cons, rap_nil, rp_bi, rp_c, rp_op2, rp_op1, rp_not, rp_or, rp_varM, List.getElem?_cons_zero, List.getElem?_cons_succ, isi_str, rp_notD, RP_br, RP_ok, Bool.not_true, cond_false, rp_chain, rp_lenS hl, rp_le, RP_bind, rp_lc, wp_seq, rp_list]
  by_cases hlen : 1 ≤ l.length ∧ l.length ≤ 200
  · have a1 : decide ((1 : Int) ≤ (l.length : Int)) = true := by simp; omega
    have a2 : decide ((l.length : Int) ≤ 200) = true := by simp; omega
    simp only [a1, a2, cond_true, Bool.not_true, Bool.false_eq_true, if_false]
    rw [lc_filter (g := fun d => d) (p := fun d => match d with | .str [c] => !decide (c ∈ SG) | _ => false) trivial ?_]
    · have e1 : (List.map (fun d => d) (List.filter (fun d => match d with | D.str [c] => !decide (c ∈ SG) | x => false) (List.map (fun ch => D.str [ch]) l))) = (l.filter fun c => !decide (c ∈ SG)).map fun c => D.str [c] := by
        rw [List.map_id', List.filter_map]; rfl
      rw [e1]
      show RP (mkL false cs _) _ _
      rw [rp_mkLf (by rw [List.length_map]; exact Nat.le_trans (List.length_filter_le _ _) hl), rp_mkLf (by rw [sizeLine_eq]; simp), eq_ones_nil fun c h => hc c ((List.mem_filter.mp h).1)]
      have : nm l = (l.filter fun c => !decide (c ∈ SG)).isEmpty := by
        unfold nm
        rw [decide_eq_true hlen, Bool.true_and]
        exact all_filter SG l
      rw [← this]
      exact k
    · intro d hd
      obtain ⟨c, hc, rfl⟩ := List.mem_map.mp hd
      exact ⟨_, rfl, rfl, rfl⟩
  · have en : nm l = false := by unfold nm; rw [decide_eq_false hlen]; rfl
    rw [en] at k
    by_cases h1 : (1 : Int) ≤ (l.length : Int)
    · have h2 : ¬ (l.length : Int) ≤ 200 := by omega
      simp only [h1, h2, decide_true, decide_false, cond_true, Bool.not_false, if_true]
      exact k
    · simp only [h1, decide_false, cond_false, Bool.not_false, cond_true, if_true]
      exact k

/-! ### `_law_is_name(value, most)` -/
def nmM (most : Nat) (l : List Nat) : Bool := decide (1 ≤ l.length ∧ l.length ≤ most) && l.all fun c => decide (c ∈ SG)
theorem nmM_200 (l : List Nat) : nmM 200 l = nm l := rfl
theorem lnm_non {d e : D} {cs : Cells} {u : String} {P : D → Cells → Prop} {X : KX} (h : tyC cs d = some u) (q : u ∈ TY) (k : P (.bl false) cs) : RP (m__law_is_name [d, e] cs) P X := by
  unfold m__law_is_name mb__law_is_name
  simp only [rp_def, List.map_cons, List.map_nil, List.length_cons, List.length_nil, Nat.reduceAdd, Nat.reduceSub, List.replicate_zero, List.replicate_succ, List.append_nil, List.cons_append, List.nil_append, List.set_cons_zero, List.set_cons_succ, sp_ret, sp_seq, sp_asg, sp_if, sp_nx, sp_drop, SP_brS, rap_cons, rap_nil, rp_bi, rp_c, rp_op2, rp_op1, rp_not, rp_or, rp_and, rp_if, rp_call, rp_varM, List.getElem?_cons_zero, List.getElem?_cons_succ, rp_notD, RP_br, RP_ok, isi_nstr h q, Bool.not_false, cond_true, if_true]
  exact k
theorem lnm_str {l : List Nat} {most : Nat} {cs : Cells} {P : D → Cells → Prop} {X : KX} (hl : l.length ≤ sizeLine) (hc : ∀ c ∈ l, c < 0x110000) (k : P (.bl (nmM most l)) cs) : RP (m__law_is_name [.str l, .int (most : Nat)] cs) P X := by
  unfold m__law_is_name mb__law_is_name
  simp only [rp_def, List.map_cons, List.map_nil, List.length_cons, List.length_nil, Nat.reduceAdd, Nat.reduceSub, List.replicate_zero, List.replicate_succ, List.append_nil, List.cons_append, List.nil_append, List.set_cons_zero, List.set_cons_succ, sp_ret, sp_seq, sp_asg, sp_if, sp_nx, sp_drop, SP_brS, rap_cons, rap_nil, rp_bi, rp_c, rp_op2, rp_op1, rp_not, rp_or, rp_and, rp_if, rp_call, rp_varM, List.getElem?_cons_zero, List.getElem?_cons_succ, rp_notD, RP_br, RP_ok, isi_str, Bool.not_true, cond_false, rp_chain, rp_lenS hl, rp_le, RP_bind, rp_lc, wp_seq, rp_list]
  by_cases hlen : 1 ≤ l.length ∧ l.length ≤ most
  · have a1 : decide ((1 : Int) ≤ (l.length : Int)) = true := by simp; omega
    have a2 : decide ((l.length : Int) ≤ (most : Int)) = true := by simp; omega
    simp only [a1, a2, cond_true, Bool.not_true, Bool.false_eq_true, if_false]
    rw [lc_filter (g := fun d => d) (p := fun d => match d with | .str [c] => !decide (c ∈ SG) | _ => false) trivial ?_]
    · have e1 : (List.map (fun d => d) (List.filter (fun d => match d with | D.str [c] => !decide (c ∈ SG) | x => false) (List.map (fun ch => D.str [ch]) l))) = (l.filter fun c => !decide (c ∈ SG)).map fun c => D.str [c] := by
        rw [List.map_id', List.filter_map]; rfl
      rw [e1]
      show RP (mkL false cs _) _ _
      rw [rp_mkLf (by rw [List.length_map]; exact Nat.le_trans (List.length_filter_le _ _) hl), rp_mkLf (by rw [sizeLine_eq]; simp), eq_ones_nil fun c h => hc c ((List.mem_filter.mp h).1)]
      have : nmM most l = (l.filter fun c => !decide (c ∈ SG)).isEmpty := by
        unfold nmM
        rw [decide_eq_true hlen, Bool.true_and]
        exact all_filter SG l
      rw [← this]
      exact k
    · intro d hd
      obtain ⟨c, hc, rfl⟩ := List.mem_map.mp hd
      exact ⟨_, rfl, rfl, rfl⟩
  · have en : nmM most l = false := by unfold nmM; rw [decide_eq_false hlen]; rfl
    rw [en] at k
    by_cases h1 : (1 : Int) ≤ (l.length : Int)
    · have h2 : ¬ (l.length : Int) ≤ (most : Int) := by omega
      simp only [h1, h2, decide_true, decide_false, cond_true, Bool.not_false, if_true]
      exact k
    · simp only [h1, decide_false, cond_false, Bool.not_false, cond_true, if_true]
      exact k
def nmD (most : Nat) (d : D) : Bool := match d with
  | .str l => nmM most l
  | _ => false

/-! ### an odd value, drawn (plain) -/
def odL : List D := [.non, .bl true, .bl false, .int 0, .int 2, .int (-1), .int 201, .int (10 ^ Int.toNat 29), .int (0 - 10 ^ Int.toNat 29), .str [], .str [97], .str [65], .str [97, 32, 98], .str [97, 45, 50], .str [42, 45, 35], .str [42, 35], .str [110, 101, 115, 116],
  .lst [], .lst [.str [97]], .lst [.str [97], .str [97]], .lst [.str [65]], .tup [], .tup [.str [97]], .tup [.str [97], .str [97]], .tup [.str [97], .int 2], .tup [.int 2, .str [97]], .dct [], .dct (mergeD [] [(.inr [97], .int 2)]), .dct (mergeD [] [(.inl 7, .lst [.str [97]])]),
  .lst [.lst [.str [97]]], .lst [.tup [.str [97], .str [97]]], .str (List.replicate (Int.toNat 151) [97]).flatten, .str (List.replicate (Int.toNat 201) [97]).flatten, .str [97, 42], .str [97, 98, 35], .int 15, .str [48, 50]]
theorem oddp_rp {n B : Nat} {cs : Cells} {P : D → Cells → Prop} {X : KX} (hb : Bx cs n B) (hB : B < 1000000) (k : ∀ d ∈ odL, ∀ c', Bx c' n (B + 1) → (∀ m, m ≠ n → c'[m]? = cs[m]?) → P d c') : RP (m__law_odd [.loc n] cs) P X := by
  unfold m__law_odd mb__law_odd
  simp only [rp_def, List.map_cons, List.map_nil, List.length_cons, List.length_nil, Nat.reduceAdd, Nat.reduceSub, List.replicate_zero, List.replicate_succ, List.append_nil, List.cons_append, List.nil_append, List.set_cons_zero, List.set_cons_succ,
    sp_ret, sp_seq, sp_asg, sp_nx, rap_cons, rap_nil, rp_bi, rp_c, rp_op2, rp_op1, rp_neg, rp_call, rp_varM, List.getElem?_cons_zero, List.getElem?_cons_succ, rp_sub, rp_pow, rp_list, rp_tup, rp_dict, kvD, len_ite, rp_mkDf, rp_mkLf, rp_mkT, rp_mulS, rp_addL, rp_lenLst, sizeLine_eq, Nat.reduceLeDiff, Int.reduceLE, Int.reduceLT, Int.reduceNeg, big, and_self]
  refine take_rp hb hB (by decide) (by decide) fun r c' r0 r1 b1 hk l => ?_
  exact rp_ixAll r0 (by simpa using r1) fun d hd => k d hd c' b1 hk

end T_k13

namespace T_k13
open PySem L2 L3
section
variable {cs : Cells} {P : D → Cells → Prop} {X : KX} {l pre near post w z : List Nat} {s1 s2 n : Nat}
theorem nmM_150 (z : List Nat) : nmM 150 z = (nm z && decide (z.length ≤ 150)) := by
  unfold nmM nm
  by_cases h : z.length ≤ 150
  · rw [decide_eq_true h, Bool.and_true]
    congr 1
    by_cases h1 : 1 ≤ z.length
    · rw [decide_eq_true ⟨h1, h⟩, decide_eq_true ⟨h1, by omega⟩]
    · rw [decide_eq_false (fun q => h1 q.1), decide_eq_false (fun q => h1 q.1)]
  · rw [decide_eq_false (fun q => h q.2), decide_eq_false h, Bool.and_false, Bool.false_and]
/-- the law's own word on a wish -/
theorem ldue_rp (m : Mk l pre near post s1 s2) (h : allF near = false) (hl : z.length ≤ 1000) (hch : ∀ c ∈ z, c < 128) (k : P (.bl (wishB w (rdX pre near post s1 z) z)) cs) : RP (m__law_due [.str l, .str w, .str z] cs) P X := by
  unfold m__law_due mb__law_due
  simp only [rp_def, List.map_cons, List.map_nil, List.length_cons, List.length_nil, Nat.reduceAdd, Nat.reduceSub, List.replicate_zero, List.replicate_succ, List.append_nil, List.cons_append, List.nil_append, List.set_cons_zero, List.set_cons_succ, sp_ret, sp_seq, sp_asg, sp_if, sp_nx, sp_drop, SP_brS, rap_cons, rap_nil, rp_bi, rp_c, rp_op2, rp_op1, rp_not, rp_or, rp_and, rp_if, rp_call, rp_varM, List.getElem?_cons_zero, List.getElem?_cons_succ, rp_notD, RP_br, RP_ok]
  refine lnm_str (most := 150) (by rw [sizeLine_eq]; omega) (fun c hc => Nat.lt_of_lt_of_le (hch c hc) (by decide)) ?_
  rw [nmM_150]
  unfold wishB at k
  cases hn : nm z with
  | false =>
    rw [hn] at k
    simp only [Bool.false_and, rp_def, List.map_cons, List.map_nil, List.length_cons, List.length_nil, Nat.reduceAdd, Nat.reduceSub, List.replicate_zero, List.replicate_succ, List.append_nil, List.cons_append, List.nil_append, List.set_cons_zero, List.set_cons_succ, sp_ret, sp_seq, sp_asg, sp_if, sp_nx, sp_drop, SP_brS, rap_cons, rap_nil, rp_bi, rp_c, rp_op2, rp_op1, rp_not, rp_or, rp_and, rp_if, rp_call, rp_varM, List.getElem?_cons_zero, List.getElem?_cons_succ, rp_notD, RP_br, RP_ok, Bool.not_false, cond_true, if_true]
    exact k
  | true =>
    rw [hn] at k
    by_cases h2 : z.length ≤ 150
    · rw [decide_eq_true h2] at k ⊢
      simp only [Bool.and_self, Bool.not_true, cond_false, Bool.false_eq_true, if_false, rp_def, List.map_cons, List.map_nil, List.length_cons, List.length_nil, Nat.reduceAdd, Nat.reduceSub, List.replicate_zero, List.replicate_succ, List.append_nil, List.cons_append, List.nil_append, List.set_cons_zero, List.set_cons_succ, sp_ret, sp_seq, sp_asg, sp_if, sp_nx, sp_drop, SP_brS, rap_cons, rap_nil, rp_bi, rp_c, rp_op2, rp_op1, rp_not, rp_or, rp_and, rp_if, rp_call, rp_varM, List.getElem?_cons_zero, List.getElem?_cons_succ, rp_notD, RP_br, RP_ok]
      refine lread_rp m h hn ?_
      try simp only [rp_def, List.map_cons, List.map_nil, List.length_cons, List.length_nil, Nat.reduceAdd, Nat.reduceSub, List.replicate_zero, List.replicate_succ, List.append_nil, List.cons_append, List.nil_append, List.set_cons_zero, List.set_cons_succ, sp_ret, sp_seq, sp_asg, sp_if, sp_nx, sp_drop, SP_brS, rap_cons, rap_nil, rp_bi, rp_c, rp_op2, rp_op1, rp_not, rp_or, rp_and, rp_if, rp_call, rp_varM, List.getElem?_cons_zero, List.getElem?_cons_succ, rp_notD, RP_br, RP_ok]
      rw [rp_eqS]
      by_cases hw : w = wNest
      · rw [decide_eq_true hw] at k
        simp only [hw, decide_true, cond_true, rp_def, List.map_cons, List.map_nil, List.length_cons, List.length_nil, Nat.reduceAdd, Nat.reduceSub, List.replicate_zero, List.replicate_succ, List.append_nil, List.cons_append, List.nil_append, List.set_cons_zero, List.set_cons_succ, sp_ret, sp_seq, sp_asg, sp_if, sp_nx, sp_drop, SP_brS, rap_cons, rap_nil, rp_bi, rp_c, rp_op2, rp_op1, rp_not, rp_or, rp_and, rp_if, rp_call, rp_varM, List.getElem?_cons_zero, List.getElem?_cons_succ, rp_notD, RP_br, RP_ok]
        exact k
      · rw [decide_eq_false hw] at k
        simp only [hw, decide_false, cond_false, rp_def, List.map_cons, List.map_nil, List.length_cons, List.length_nil, Nat.reduceAdd, Nat.reduceSub, List.replicate_zero, List.replicate_succ, List.append_nil, List.cons_append, List.nil_append, List.set_cons_zero, List.set_cons_succ, sp_ret, sp_seq, sp_asg, sp_if, sp_nx, sp_drop, SP_brS, rap_cons, rap_nil, rp_bi, rp_c, rp_op2, rp_op1, rp_not, rp_or, rp_and, rp_if, rp_call, rp_varM, List.getElem?_cons_zero, List.getElem?_cons_succ, rp_notD, RP_br, RP_ok, rp_isB]
        rcases rdX_or pre near post s1 z with e | ⟨y, i, _, _, e⟩
        · rw [e] at k ⊢
          simp only [cond_true]
          exact k
        · rw [e] at k ⊢
          simp only [cond_false, rp_def, List.map_cons, List.map_nil, List.length_cons, List.length_nil, Nat.reduceAdd, Nat.reduceSub, List.replicate_zero, List.replicate_succ, List.append_nil, List.cons_append, List.nil_append, List.set_cons_zero, List.set_cons_succ, sp_ret, sp_seq, sp_asg, sp_if, sp_nx, sp_drop, SP_brS, rap_cons, rap_nil, rp_bi, rp_c, rp_op2, rp_op1, rp_not, rp_or, rp_and, rp_if, rp_call, rp_varM, List.getElem?_cons_zero, List.getElem?_cons_succ, rp_notD, RP_br, RP_ok]
          rw [rp_ixT (x := .int i) rfl, rp_pow ⟨by decide, by decide, by decide, by decide⟩, rp_lt]
          have e14 : decide (i < (10 : Int) ^ Int.toNat 14) = decide (i ≤ 99999999999999) := by
            have : (10 : Int) ^ Int.toNat 14 = 100000000000000 := by decide
            rw [this]
            by_cases q : i ≤ 99999999999999
            · rw [decide_eq_true q, decide_eq_true (by omega)]
            · rw [decide_eq_false q, decide_eq_false (by omega)]
          rw [e14]
          exact k
    · rw [decide_eq_false h2] at k ⊢
      simp only [Bool.and_false, Bool.not_false, cond_true, if_true, rp_def, List.map_cons, List.map_nil, List.length_cons, List.length_nil, Nat.reduceAdd, Nat.reduceSub, List.replicate_zero, List.replicate_succ, List.append_nil, List.cons_append, List.nil_append, List.set_cons_zero, List.set_cons_succ, sp_ret, sp_seq, sp_asg, sp_if, sp_nx, sp_drop, SP_brS, rap_cons, rap_nil, rp_bi, rp_c, rp_op2, rp_op1, rp_not, rp_or, rp_and, rp_if, rp_call, rp_varM, List.getElem?_cons_zero, List.getElem?_cons_succ, rp_notD, RP_br, RP_ok]
      exact k
theorem ldue_non {d : D} {u : String} (h : tyC cs d = some u) (q : u ∈ TY) (k : P (.bl false) cs) : RP (m__law_due [.str l, .str w, d] cs) P X := by
  unfold m__law_due mb__law_due
  simp only [rp_def, List.map_cons, List.map_nil, List.length_cons, List.length_nil, Nat.reduceAdd, Nat.reduceSub, List.replicate_zero, List.replicate_succ, List.append_nil, List.cons_append, List.nil_append, List.set_cons_zero, List.set_cons_succ, sp_ret, sp_seq, sp_asg, sp_if, sp_nx, sp_drop, SP_brS, rap_cons, rap_nil, rp_bi, rp_c, rp_op2, rp_op1, rp_not, rp_or, rp_and, rp_if, rp_call, rp_varM, List.getElem?_cons_zero, List.getElem?_cons_succ, rp_notD, RP_br, RP_ok]
  refine lnm_non h q ?_
  simp only [Bool.not_false, cond_true, if_true, rp_def, List.map_cons, List.map_nil, List.length_cons, List.length_nil, Nat.reduceAdd, Nat.reduceSub, List.replicate_zero, List.replicate_succ, List.append_nil, List.cons_append, List.nil_append, List.set_cons_zero, List.set_cons_succ, sp_ret, sp_seq, sp_asg, sp_if, sp_nx, sp_drop, SP_brS, rap_cons, rap_nil, rp_bi, rp_c, rp_op2, rp_op1, rp_not, rp_or, rp_and, rp_if, rp_call, rp_varM, List.getElem?_cons_zero, List.getElem?_cons_succ, rp_notD, RP_br, RP_ok]
  exact k
/-- what a value may be -/
def Val (d : D) : Prop := (∃ z, z.length ≤ 1000 ∧ (∀ c ∈ z, c < 128) ∧ d = .str z) ∨ ∃ u, (∀ cs, tyC cs d = some u) ∧ u ∈ TY
theorem odd_val : ∀ d ∈ odL, Val d := by
  unfold odL
  simp only [List.forall_mem_cons]
  and_intros <;> first | exact .inl ⟨_, by decide +kernel, by decide +kernel, rfl⟩ | exact .inr ⟨_, fun _ => rfl, by simp⟩ | (intro d hd; cases hd)
theorem val_rp {d : D} (v : Val d) (m : Mk l pre near post s1 s2) (h : allF near = false) (hw : w = wNest ∨ w = wClimb) {K : Cn} {a1 a2 a4 a5 a6 : Option D} (ns : List Int)
    (k : ∀ c, K.nx [some (.scr ns), a1, a2, some (.str l), a4, a5, a6, some (.str w), some d] c) :
    L3.SP ((sIf (op2 neD (eBi reprBD (aCons (eCall m_is_wish (aCons (eMake "Rule" m_Rule___init__ (aCons (eVar 3) (aCons (eVar 7) aNil))) (aCons (eVar 8) aNil))) aNil)) (eBi reprBD (aCons (eCall m__law_due (aCons (eVar 3) (aCons (eVar 7) (aCons (eVar 8) aNil)))) aNil))) (sRet (eC (.bl false))) sNx)
      [some (.scr ns), a1, a2, some (.str l), a4, a5, a6, some (.str w), some d] cs) K := by
  try simp only [rp_def, List.map_cons, List.map_nil, List.length_cons, List.length_nil, Nat.reduceAdd, Nat.reduceSub, List.replicate_zero, List.replicate_succ, List.append_nil, List.cons_append, List.nil_append, List.set_cons_zero, List.set_cons_succ, sp_ret, sp_seq, sp_asg, sp_if, sp_nx, sp_drop, SP_brS, rap_cons, rap_nil, rp_bi, rp_c, rp_op2, rp_op1, rp_not, rp_or, rp_and, rp_if, rp_call, rp_varM, List.getElem?_cons_zero, List.getElem?_cons_succ, rp_notD, RP_br, RP_ok, rp_eMake]
  refine ri_ok m h hw cell_end ?_
  rw [cell_set]
  have hr : RuleAt (cs ++ [.ins "Rule" (RuF l w)]) cs.length l w := cell_end
  have k := k (cs ++ [.ins "Rule" (RuF l w)])
  have two : ∃ b : Bool, (∀ (Q : D → Cells → Prop) (X : KX), Q (.bl b) (cs ++ [.ins "Rule" (RuF l w)]) → RP (m__law_due [.str l, .str w, d] (cs ++ [.ins "Rule" (RuF l w)])) Q X) ∧
      (∀ (Q : D → Cells → Prop) (X : KX), Q (.bl b) (cs ++ [.ins "Rule" (RuF l w)]) → RP (m_is_wish [.loc cs.length, d] (cs ++ [.ins "Rule" (RuF l w)])) Q X) := by
    rcases v with ⟨z, z1, z2, rfl⟩ | ⟨u, u1, u2⟩
    · exact ⟨_, fun Q X q => ldue_rp m h z1 z2 q, fun Q X q => isw_rp hr m h z1 q⟩
    · exact ⟨false, fun Q X q => ldue_non (u1 _) u2 q, fun Q X q => isw_no hr (fun P X k => isn_non (u1 _) u2 k) q⟩
  obtain ⟨b, h1, h2⟩ := two
  have e : reprBD (cs ++ [.ins "Rule" (RuF l w)]) [.bl b] = .ok (.str (codes (if b then "True" else "False"))) (cs ++ [.ins "Rule" (RuF l w)]) := by cases b <;> rfl
  try simp only [rp_def, List.map_cons, List.map_nil, List.length_cons, List.length_nil, Nat.reduceAdd, Nat.reduceSub, List.replicate_zero, List.replicate_succ, List.append_nil, List.cons_append, List.nil_append, List.set_cons_zero, List.set_cons_succ, sp_ret, sp_seq, sp_asg, sp_if, sp_nx, sp_drop, SP_brS, rap_cons, rap_nil, rp_bi, rp_c, rp_op2, rp_op1, rp_not, rp_or, rp_and, rp_if, rp_call, rp_varM, List.getElem?_cons_zero, List.getElem?_cons_succ, rp_notD, RP_br, RP_ok]
  refine h2 _ _ ?_
  rw [rp_reprX e]
  try simp only [rp_def, List.map_cons, List.map_nil, List.length_cons, List.length_nil, Nat.reduceAdd, Nat.reduceSub, List.replicate_zero, List.replicate_succ, List.append_nil, List.cons_append, List.nil_append, List.set_cons_zero, List.set_cons_succ, sp_ret, sp_seq, sp_asg, sp_if, sp_nx, sp_drop, SP_brS, rap_cons, rap_nil, rp_bi, rp_c, rp_op2, rp_op1, rp_not, rp_or, rp_and, rp_if, rp_call, rp_varM, List.getElem?_cons_zero, List.getElem?_cons_succ, rp_notD, RP_br, RP_ok]
  refine h1 _ _ ?_
  rw [rp_reprX e, rp_neS]
  simp only [decide_true, Bool.not_true, Bool.false_eq_true, if_false, cond_false, rp_def, List.map_cons, List.map_nil, List.length_cons, List.length_nil, Nat.reduceAdd, Nat.reduceSub, List.replicate_zero, List.replicate_succ, List.append_nil, List.cons_append, List.nil_append, List.set_cons_zero, List.set_cons_succ, sp_ret, sp_seq, sp_asg, sp_if, sp_nx, sp_drop, SP_brS, rap_cons, rap_nil, rp_bi, rp_c, rp_op2, rp_op1, rp_not, rp_or, rp_and, rp_if, rp_call, rp_varM, List.getElem?_cons_zero, List.getElem?_cons_succ, rp_notD, RP_br, RP_ok]
  exact k
end
theorem wr_rp {cs : Cells} {P : D → Cells → Prop} {X : KX} {l pre near post z : List Nat} {s1 s2 : Nat} (m : Mk l pre near post s1 s2) (z3 : ∀ c ∈ z, c ∈ SG) (hl : z.length ≤ 900) {v : Int} (v1 : 2 ≤ v) (v2 : v < 10 ^ 15) (q : ∀ x, x.length ≤ z.length + 25 → (∀ c ∈ x, c ∈ SG) → P (.str x) cs) : RP (m__law_put [.str l, .str z, .int v] cs) P X := by
  obtain ⟨_, w2, w3, w4⟩ := num_ok v1 v2
  have w5 : ∀ c ∈ codes (toString v), c ∈ SG := fun c hc => fg_sg c (w2 c hc)
  have := pw_sg m z3 w5
  exact lput_rp m (strB_int w4) z3 w5 (by omega) (by omega) (q _ (by omega) this.1)
theorem val_sg {z : List Nat} (h : ∀ c ∈ z, c ∈ SG) (hl : z.length ≤ 1000) : Val (.str z) := .inl ⟨z, hl, fun c hc => sg_128 c (h c hc), rfl⟩
theorem law_pure : ∀ ns : List Int, ns.length ≤ 63 → (∀ z ∈ ns, Builtin.Int.intBits z ≤ 1048576) → ∃ cs, m_law [.scr ns] [] = .ok (.bl true) cs := by
  intro ns hns _
  suffices h : RP (m_law [.scr ns] []) (fun d _ => d = .bl true) noX by
    obtain ⟨d, cs, e, rfl⟩ := h.get
    exact ⟨cs, e⟩
  unfold m_law mb_law
  simp only [rp_def, List.map_cons, List.map_nil, List.length_cons, List.length_nil, Nat.reduceAdd, Nat.reduceSub, List.replicate_zero, List.replicate_succ, List.append_nil, List.cons_append, List.nil_append,
    sp_seq, sp_for, wp_r1, rap_cons, rap_nil, rp_bi, rp_c, rp_varM, List.getElem?_cons_zero, rp_lenScr, rp_min, rp_max, sp_ret]
  refine ⟨by unfold lim; split <;> split <;> omega, ?_⟩
  refine for_invN (fun i env c => ∃ e1 e2 e3 e4 e5 e6 e7 e8, env = [some (.scr ns), e1, e2, e3, e4, e5, e6, e7, e8]) ⟨_, _, _, _, _, _, _, _, rfl⟩ (fun env c _ => ⟨trivial, trivial⟩) ?_
  rintro i d env c hi ⟨e1, e2, e3, e4, e5, e6, e7, e8, rfl⟩
  obtain ⟨hi, rfl⟩ := range_get hi
  refine ⟨trivial, _, rfl, ?_⟩
  simp only [List.set_cons_zero, List.set_cons_succ, List.getElem?_cons_zero, List.getElem?_cons_succ, sp_seq, sp_asg, rp_call, rap_cons, rap_nil, rp_varM]
  refine cell_rp (by omega) fun z => box_rp ?_
  have hb : Bx (c ++ [.lst [.int (if z - 10 ^ 18 > 0 then z - 10 ^ 18 else 0), .int (z % 2147483629), .int 0]]) c.length 0 := Bx.new (Int.emod_nonneg _ (by decide)) (Int.lt_trans (Int.emod_lt_of_pos _ (by decide)) (by decide))
  revert hb
  generalize (c ++ [Cell.lst [.int (if z - 10 ^ 18 > 0 then z - 10 ^ 18 else 0), .int (z % 2147483629), .int 0]]) = c1
  generalize c.length = n
  intro hb
  refine mark_rp hb (by decide) fun l pre near post s1 s2 c2 m hc hb => ?_
  have p14 : ∀ {Q : D → Cells → Prop} {c : Cells}, Q (.int 100000000000000) c → RP (powD c (.int 10) (.int 14)) Q noX := fun {Q} {c} h => by rw [rp_pow ⟨by decide, by decide, by decide, by decide⟩]; exact h
  have p15 : ∀ {Q : D → Cells → Prop} {c : Cells}, Q (.int 1000000000000000) c → RP (powD c (.int 10) (.int 15)) Q noX := fun {Q} {c} h => by rw [rp_pow ⟨by decide, by decide, by decide, by decide⟩]; exact h
  -- the number
  try simp only [rp_def, List.map_cons, List.map_nil, List.length_cons, List.length_nil, Nat.reduceAdd, Nat.reduceSub, List.replicate_zero, List.replicate_succ, List.append_nil, List.cons_append, List.nil_append, List.set_cons_zero, List.set_cons_succ, sp_ret, sp_seq, sp_asg, sp_if, sp_nx, sp_drop, SP_brS, rap_cons, rap_nil, rp_bi, rp_c, rp_op2, rp_op1, rp_not, rp_or, rp_and, rp_if, rp_call, rp_varM, List.getElem?_cons_zero, List.getElem?_cons_succ, rp_notD, RP_br, RP_ok, rp_list]
  refine p14 ?_
  try simp only [rp_def, List.map_cons, List.map_nil, List.length_cons, List.length_nil, Nat.reduceAdd, Nat.reduceSub, List.replicate_zero, List.replicate_succ, List.append_nil, List.cons_append, List.nil_append, List.set_cons_zero, List.set_cons_succ, sp_ret, sp_seq, sp_asg, sp_if, sp_nx, sp_drop, SP_brS, rap_cons, rap_nil, rp_bi, rp_c, rp_op2, rp_op1, rp_not, rp_or, rp_and, rp_if, rp_call, rp_varM, List.getElem?_cons_zero, List.getElem?_cons_succ, rp_notD, RP_br, RP_ok]
  refine p14 ?_
  try simp only [rp_def, List.map_cons, List.map_nil, List.length_cons, List.length_nil, Nat.reduceAdd, Nat.reduceSub, List.replicate_zero, List.replicate_succ, List.append_nil, List.cons_append, List.nil_append, List.set_cons_zero, List.set_cons_succ, sp_ret, sp_seq, sp_asg, sp_if, sp_nx, sp_drop, SP_brS, rap_cons, rap_nil, rp_bi, rp_c, rp_op2, rp_op1, rp_not, rp_or, rp_and, rp_if, rp_call, rp_varM, List.getElem?_cons_zero, List.getElem?_cons_succ, rp_notD, RP_br, RP_ok, rp_sub]
  refine p15 ?_
  try simp only [rp_def, List.map_cons, List.map_nil, List.length_cons, List.length_nil, Nat.reduceAdd, Nat.reduceSub, List.replicate_zero, List.replicate_succ, List.append_nil, List.cons_append, List.nil_append, List.set_cons_zero, List.set_cons_succ, sp_ret, sp_seq, sp_asg, sp_if, sp_nx, sp_drop, SP_brS, rap_cons, rap_nil, rp_bi, rp_c, rp_op2, rp_op1, rp_not, rp_or, rp_and, rp_if, rp_call, rp_varM, List.getElem?_cons_zero, List.getElem?_cons_succ, rp_notD, RP_br, RP_ok, rp_sub]
  refine p14 ?_
  try simp only [rp_def, List.map_cons, List.map_nil, List.length_cons, List.length_nil, Nat.reduceAdd, Nat.reduceSub, List.replicate_zero, List.replicate_succ, List.append_nil, List.cons_append, List.nil_append, List.set_cons_zero, List.set_cons_succ, sp_ret, sp_seq, sp_asg, sp_if, sp_nx, sp_drop, SP_brS, rap_cons, rap_nil, rp_bi, rp_c, rp_op2, rp_op1, rp_not, rp_or, rp_and, rp_if, rp_call, rp_varM, List.getElem?_cons_zero, List.getElem?_cons_succ, rp_notD, RP_br, RP_ok]
  refine p14 ?_
  try simp only [rp_def, List.map_cons, List.map_nil, List.length_cons, List.length_nil, Nat.reduceAdd, Nat.reduceSub, List.replicate_zero, List.replicate_succ, List.append_nil, List.cons_append, List.nil_append, List.set_cons_zero, List.set_cons_succ, sp_ret, sp_seq, sp_asg, sp_if, sp_nx, sp_drop, SP_brS, rap_cons, rap_nil, rp_bi, rp_c, rp_op2, rp_op1, rp_not, rp_or, rp_and, rp_if, rp_call, rp_varM, List.getElem?_cons_zero, List.getElem?_cons_succ, rp_notD, RP_br, RP_ok]
  refine take_rp hb (by decide) (by decide) (by unfold big; decide) fun r1 c3 a1 a1' hb _ _ => ?_
  rw [rp_addI, rp_mkLf (by rw [sizeLine_eq]; simp)]
  try simp only [rp_def, List.map_cons, List.map_nil, List.length_cons, List.length_nil, Nat.reduceAdd, Nat.reduceSub, List.replicate_zero, List.replicate_succ, List.append_nil, List.cons_append, List.nil_append, List.set_cons_zero, List.set_cons_succ, sp_ret, sp_seq, sp_asg, sp_if, sp_nx, sp_drop, SP_brS, rap_cons, rap_nil, rp_bi, rp_c, rp_op2, rp_op1, rp_not, rp_or, rp_and, rp_if, rp_call, rp_varM, List.getElem?_cons_zero, List.getElem?_cons_succ, rp_notD, RP_br, RP_ok]
  refine take_rp hb (by decide) (by decide) (by decide) fun r2 c4 a2 a2' hb _ _ => ?_
  have hnum : ∀ d ∈ [D.int 100000000000000, .int (100000000000000 - 1), .int (1000000000000000 - 1), .int (100000000000000 + r1)], ∃ v : Int, d = .int v ∧ 2 ≤ v ∧ v < 10 ^ 15 := by
    simp only [List.forall_mem_cons]
    exact ⟨⟨_, rfl, by decide, by decide⟩, ⟨_, rfl, by decide, by decide⟩, ⟨_, rfl, by decide, by decide⟩, ⟨_, rfl, by omega, by omega⟩, fun d h => by cases h⟩
  refine rp_ixAll a2 (by simpa using a2') fun d hd => ?_
  obtain ⟨v, rfl, v1, v2⟩ := hnum d hd
  clear hd hnum
  try simp only [rp_def, List.map_cons, List.map_nil, List.length_cons, List.length_nil, Nat.reduceAdd, Nat.reduceSub, List.replicate_zero, List.replicate_succ, List.append_nil, List.cons_append, List.nil_append, List.set_cons_zero, List.set_cons_succ, sp_ret, sp_seq, sp_asg, sp_if, sp_nx, sp_drop, SP_brS, rap_cons, rap_nil, rp_bi, rp_c, rp_op2, rp_op1, rp_not, rp_or, rp_and, rp_if, rp_call, rp_varM, List.getElem?_cons_zero, List.getElem?_cons_succ, rp_notD, RP_br, RP_ok]
  refine stem_rp hb (by decide) fun st c5 t1 t2 t3 hb => ?_
  try simp only [rp_def, List.map_cons, List.map_nil, List.length_cons, List.length_nil, Nat.reduceAdd, Nat.reduceSub, List.replicate_zero, List.replicate_succ, List.append_nil, List.cons_append, List.nil_append, List.set_cons_zero, List.set_cons_succ, sp_ret, sp_seq, sp_asg, sp_if, sp_nx, sp_drop, SP_brS, rap_cons, rap_nil, rp_bi, rp_c, rp_op2, rp_op1, rp_not, rp_or, rp_and, rp_if, rp_call, rp_varM, List.getElem?_cons_zero, List.getElem?_cons_succ, rp_notD, RP_br, RP_ok]
  refine wr_rp m t3 (by omega) v1 v2 fun x5 x5l x5s => ?_
  have s5 : x5.length ≤ sizeLine := by rw [sizeLine_eq]; omega
  try simp only [rp_def, List.map_cons, List.map_nil, List.length_cons, List.length_nil, Nat.reduceAdd, Nat.reduceSub, List.replicate_zero, List.replicate_succ, List.append_nil, List.cons_append, List.nil_append, List.set_cons_zero, List.set_cons_succ, sp_ret, sp_seq, sp_asg, sp_if, sp_nx, sp_drop, SP_brS, rap_cons, rap_nil, rp_bi, rp_c, rp_op2, rp_op1, rp_not, rp_or, rp_and, rp_if, rp_call, rp_varM, List.getElem?_cons_zero, List.getElem?_cons_succ, rp_notD, RP_br, RP_ok, rp_list]
  refine wr_rp m x5s (by omega) (by decide) (by decide) fun y1 y1l y1s => ?_
  try simp only [rp_def, List.map_cons, List.map_nil, List.length_cons, List.length_nil, Nat.reduceAdd, Nat.reduceSub, List.replicate_zero, List.replicate_succ, List.append_nil, List.cons_append, List.nil_append, List.set_cons_zero, List.set_cons_succ, sp_ret, sp_seq, sp_asg, sp_if, sp_nx, sp_drop, SP_brS, rap_cons, rap_nil, rp_bi, rp_c, rp_op2, rp_op1, rp_not, rp_or, rp_and, rp_if, rp_call, rp_varM, List.getElem?_cons_zero, List.getElem?_cons_succ, rp_notD, RP_br, RP_ok]
  refine stem_rp hb (by decide) fun st2 c6 t1' t2' t3' hb => ?_
  try simp only [rp_def, List.map_cons, List.map_nil, List.length_cons, List.length_nil, Nat.reduceAdd, Nat.reduceSub, List.replicate_zero, List.replicate_succ, List.append_nil, List.cons_append, List.nil_append, List.set_cons_zero, List.set_cons_succ, sp_ret, sp_seq, sp_asg, sp_if, sp_nx, sp_drop, SP_brS, rap_cons, rap_nil, rp_bi, rp_c, rp_op2, rp_op1, rp_not, rp_or, rp_and, rp_if, rp_call, rp_varM, List.getElem?_cons_zero, List.getElem?_cons_succ, rp_notD, RP_br, RP_ok]
  refine p14 ?_
  try simp only [rp_def, List.map_cons, List.map_nil, List.length_cons, List.length_nil, Nat.reduceAdd, Nat.reduceSub, List.replicate_zero, List.replicate_succ, List.append_nil, List.cons_append, List.nil_append, List.set_cons_zero, List.set_cons_succ, sp_ret, sp_seq, sp_asg, sp_if, sp_nx, sp_drop, SP_brS, rap_cons, rap_nil, rp_bi, rp_c, rp_op2, rp_op1, rp_not, rp_or, rp_and, rp_if, rp_call, rp_varM, List.getElem?_cons_zero, List.getElem?_cons_succ, rp_notD, RP_br, RP_ok, rp_sub]
  refine wr_rp m t3' (by omega) (by decide) (by decide) fun y2 y2l y2s => ?_
  try simp only [rp_def, List.map_cons, List.map_nil, List.length_cons, List.length_nil, Nat.reduceAdd, Nat.reduceSub, List.replicate_zero, List.replicate_succ, List.append_nil, List.cons_append, List.nil_append, List.set_cons_zero, List.set_cons_succ, sp_ret, sp_seq, sp_asg, sp_if, sp_nx, sp_drop, SP_brS, rap_cons, rap_nil, rp_bi, rp_c, rp_op2, rp_op1, rp_not, rp_or, rp_and, rp_if, rp_call, rp_varM, List.getElem?_cons_zero, List.getElem?_cons_succ, rp_notD, RP_br, RP_ok]
  rw [rp_addS (by rw [sizeLine_eq]; simp only [List.length_cons, List.length_nil]; omega)]
  try simp only [rp_def, List.map_cons, List.map_nil, List.length_cons, List.length_nil, Nat.reduceAdd, Nat.reduceSub, List.replicate_zero, List.replicate_succ, List.append_nil, List.cons_append, List.nil_append, List.set_cons_zero, List.set_cons_succ, sp_ret, sp_seq, sp_asg, sp_if, sp_nx, sp_drop, SP_brS, rap_cons, rap_nil, rp_bi, rp_c, rp_op2, rp_op1, rp_not, rp_or, rp_and, rp_if, rp_call, rp_varM, List.getElem?_cons_zero, List.getElem?_cons_succ, rp_notD, RP_br, RP_ok]
  refine oddp_rp hb (by decide) fun o1 ho1 c7 hb _ => ?_
  rw [rp_mkLf (by rw [sizeLine_eq]; simp)]
  try simp only [rp_def, List.map_cons, List.map_nil, List.length_cons, List.length_nil, Nat.reduceAdd, Nat.reduceSub, List.replicate_zero, List.replicate_succ, List.append_nil, List.cons_append, List.nil_append, List.set_cons_zero, List.set_cons_succ, sp_ret, sp_seq, sp_asg, sp_if, sp_nx, sp_drop, SP_brS, rap_cons, rap_nil, rp_bi, rp_c, rp_op2, rp_op1, rp_not, rp_or, rp_and, rp_if, rp_call, rp_varM, List.getElem?_cons_zero, List.getElem?_cons_succ, rp_notD, RP_br, RP_ok, rp_list]
  refine take_rp hb (by decide) (by decide) (by decide) fun r3 c8 a3 a3' hb _ _ => ?_
  rw [rp_addI]
  refine signs_rp hb (by omega) (by omega) (by decide) fun sg c9 g1 g2 hb => ?_
  have hb := hb.le (B' := 400) (by omega)
  try simp only [rp_def, List.map_cons, List.map_nil, List.length_cons, List.length_nil, Nat.reduceAdd, Nat.reduceSub, List.replicate_zero, List.replicate_succ, List.append_nil, List.cons_append, List.nil_append, List.set_cons_zero, List.set_cons_succ, sp_ret, sp_seq, sp_asg, sp_if, sp_nx, sp_drop, SP_brS, rap_cons, rap_nil, rp_bi, rp_c, rp_op2, rp_op1, rp_not, rp_or, rp_and, rp_if, rp_call, rp_varM, List.getElem?_cons_zero, List.getElem?_cons_succ, rp_notD, RP_br, RP_ok]
  rw [rp_mulS ⟨by decide, by decide, by decide⟩]
  try simp only [rp_def, List.map_cons, List.map_nil, List.length_cons, List.length_nil, Nat.reduceAdd, Nat.reduceSub, List.replicate_zero, List.replicate_succ, List.append_nil, List.cons_append, List.nil_append, List.set_cons_zero, List.set_cons_succ, sp_ret, sp_seq, sp_asg, sp_if, sp_nx, sp_drop, SP_brS, rap_cons, rap_nil, rp_bi, rp_c, rp_op2, rp_op1, rp_not, rp_or, rp_and, rp_if, rp_call, rp_varM, List.getElem?_cons_zero, List.getElem?_cons_succ, rp_notD, RP_br, RP_ok]
  rw [rp_mulS ⟨by decide, by decide, by decide⟩]
  try simp only [rp_def, List.map_cons, List.map_nil, List.length_cons, List.length_nil, Nat.reduceAdd, Nat.reduceSub, List.replicate_zero, List.replicate_succ, List.append_nil, List.cons_append, List.nil_append, List.set_cons_zero, List.set_cons_succ, sp_ret, sp_seq, sp_asg, sp_if, sp_nx, sp_drop, SP_brS, rap_cons, rap_nil, rp_bi, rp_c, rp_op2, rp_op1, rp_not, rp_or, rp_and, rp_if, rp_call, rp_varM, List.getElem?_cons_zero, List.getElem?_cons_succ, rp_notD, RP_br, RP_ok]
  refine oddp_rp hb (by decide) fun o2 ho2 c10 hb _ => ?_
  try simp only [rp_def, List.map_cons, List.map_nil, List.length_cons, List.length_nil, Nat.reduceAdd, Nat.reduceSub, List.replicate_zero, List.replicate_succ, List.append_nil, List.cons_append, List.nil_append, List.set_cons_zero, List.set_cons_succ, sp_ret, sp_seq, sp_asg, sp_if, sp_nx, sp_drop, SP_brS, rap_cons, rap_nil, rp_bi, rp_c, rp_op2, rp_op1, rp_not, rp_or, rp_and, rp_if, rp_call, rp_varM, List.getElem?_cons_zero, List.getElem?_cons_succ, rp_notD, RP_br, RP_ok]
  refine stem_rp hb (by decide) fun st3 c11 t1'' t2'' t3'' hb => ?_
  rw [rp_addS (by rw [sizeLine_eq]; simp only [List.length_cons, List.length_nil]; omega), rp_mkLf (by rw [sizeLine_eq]; simp), rp_addL, rp_mkLf (by rw [sizeLine_eq]; simp)]
  have ap : ∀ {a b : List Nat}, (∀ c ∈ a, c < 128) → (∀ c ∈ b, c < 128) → ∀ c ∈ a ++ b, c < 128 := fun ha hb c hc => (List.mem_append.mp hc).elim (ha c) (hb c)
  have all : ∀ d ∈ [D.str x5, .str y1, .str y2, .str (x5 ++ [45]), o1, .str sg, .str (List.replicate (Int.toNat 150) [97]).flatten, .str (List.replicate (Int.toNat 151) [97]).flatten, o2, .str (st3 ++ [33])], Val d := by
    simp only [List.forall_mem_cons]
    exact ⟨val_sg x5s (by omega), val_sg y1s (by omega), val_sg y2s (by omega), .inl ⟨_, by simp; omega, ap (fun c hc => sg_128 c (x5s c hc)) (by decide), rfl⟩, odd_val _ ho1, val_sg g2 (by omega),
      .inl ⟨_, by decide +kernel, by decide +kernel, rfl⟩, .inl ⟨_, by decide +kernel, by decide +kernel, rfl⟩, odd_val _ ho2, .inl ⟨_, by simp; omega, ap (fun c hc => sg_128 c (t3'' c hc)) (by decide), rfl⟩, fun d h => by cases h⟩
  try simp only [List.cons_append, List.nil_append]
  revert all
  generalize [D.str x5, .str y1, .str y2, .str (x5 ++ [45]), o1, .str sg, .str (List.replicate (Int.toNat 150) [97]).flatten, .str (List.replicate (Int.toNat 151) [97]).flatten, o2, .str (st3 ++ [33])] = some10
  intro all
  try simp only [rp_def, List.map_cons, List.map_nil, List.length_cons, List.length_nil, Nat.reduceAdd, Nat.reduceSub, List.replicate_zero, List.replicate_succ, List.append_nil, List.cons_append, List.nil_append, List.set_cons_zero, List.set_cons_succ, sp_ret, sp_seq, sp_asg, sp_if, sp_nx, sp_drop, SP_brS, rap_cons, rap_nil, rp_bi, rp_c, rp_op2, rp_op1, rp_not, rp_or, rp_and, rp_if, rp_call, rp_varM, List.getElem?_cons_zero, List.getElem?_cons_succ, rp_notD, RP_br, RP_ok, rp_list, sp_for, wp_seq]
  rw [rp_mkLf (by rw [sizeLine_eq]; simp)]
  try simp only [seq_lst]
  refine for_invN (fun j env c => ∃ f7 f8, env = [some (.scr ns), some (.int (0 + (i : Int))), some (.loc n), some (.str l), some (.int v), some (.str x5), some (.lst some10), f7, f8]) ⟨_, _, rfl⟩ ?_ ?_
  · rintro env c ⟨f7, f8, rfl⟩
    exact ⟨trivial, _, _, _, _, _, _, _, _, rfl⟩
  rintro j d env c hj ⟨f7, f8, rfl⟩
  have hw : ∃ w, d = .str w ∧ (w = wNest ∨ w = wClimb) := by
    have := List.mem_of_getElem? hj
    simp only [List.mem_cons, List.not_mem_nil, or_false] at this
    rcases this with rfl | rfl
    · exact ⟨_, rfl, .inl rfl⟩
    · exact ⟨_, rfl, .inr rfl⟩
  obtain ⟨w, rfl, hw⟩ := hw
  clear hj
  refine ⟨trivial, _, rfl, ?_⟩
  try simp only [rp_def, List.map_cons, List.map_nil, List.length_cons, List.length_nil, Nat.reduceAdd, Nat.reduceSub, List.replicate_zero, List.replicate_succ, List.append_nil, List.cons_append, List.nil_append, List.set_cons_zero, List.set_cons_succ, sp_ret, sp_seq, sp_asg, sp_if, sp_nx, sp_drop, SP_brS, rap_cons, rap_nil, rp_bi, rp_c, rp_op2, rp_op1, rp_not, rp_or, rp_and, rp_if, rp_call, rp_varM, List.getElem?_cons_zero, List.getElem?_cons_succ, rp_notD, RP_br, RP_ok, rp_list, sp_for, wp_seq]
  try simp only [seq_lst]
  refine for_invN (fun q env c => ∃ f8, env = [some (.scr ns), some (.int (0 + (i : Int))), some (.loc n), some (.str l), some (.int v), some (.str x5), some (.lst some10), some (.str w), f8]) ⟨_, rfl⟩ ?_ ?_
  · rintro env c ⟨f8, rfl⟩
    exact ⟨trivial, _, _, rfl⟩
  rintro q d env c hq ⟨f8, rfl⟩
  refine ⟨trivial, _, rfl, ?_⟩
  exact val_rp (all d (List.mem_of_getElem? hq)) m hc hw ns fun c => ⟨_, rfl⟩

end T_k13

open PySem PySem.W PyProof.Rows
set_option maxRecDepth 100000 in
set_option maxHeartbeats 0 in
theorem PySem.Challenge.cw_tailnames_k13_wishes_by_form_holds : PySem.Challenge.rw_tailnames_k13_wishes_by_form.Holds := by
  w_on; o_law; k_head; (case hw => w_witness2)
  k_fill
  refine L3.lawG_walk (k := 9) (l := PySem.Challenge.rw_tailnames_k13_wishes_by_form) rfl rfl ⟨by decide, by decide, by decide⟩ rfl (fun w h Y => PySem.W.kIn_of Y) ?F
  case F =>
    intro w mg fa h KX G hmg
    refine' T_k13.all_mk (l := PySem.Challenge.rw_tailnames_k13_wishes_by_form) KX G hmg ?a1 ?l1 ?c1 ?k1 ?a2 ?l2 ?c2 ?k2 ?a3 ?l3 ?c3 ?k3 ?a4 ?l4 ?c4 ?k4 ?a5 ?l5 ?c5 ?k5 ?a6 ?l6 ?c6 ?k6 ?a7 ?l7 ?c7 ?k7 ?a8 ?l8 ?c8 ?k8 ?a9 ?l9 ?c9 ?k9 ?a10 ?l10 ?c10 ?k10 ?a11 ?l11 ?c11 ?k11 ?a12 ?l12 ?c12 ?k12 ?a13 ?l13 ?c13 ?k13 ?a14 ?l14 ?c14 ?k14 ?a15 ?l15 ?c15 ?k15 ?a16 ?l16 ?c16 ?k16 ?a17 ?l17 ?c17 ?k17 ?a18 ?l18 ?c18 ?k18 ?a19 ?l19 ?c19 ?k19 ?a20 ?l20 ?c20 ?k20 ?a21 ?l21 ?c21 ?k21 ?a22 ?l22 ?c22 ?k22 ?a23 ?l23 ?c23 ?k23 ?y24 ?a24 ?l24 ?c24 ?k24 ?y25 ?a25 ?l25 ?c25 ?k25 ?a26 ?l26 ?c26 ?k26 ?a27 ?l27 ?c27 ?k27 ?a28 ?l28 ?c28 ?k28 ?a29 ?l29 ?c29 ?k29 ?y30 ?a30 ?l30 ?c30 ?k30 ?a31 ?l31 ?c31 ?k31 ?n_Rule ?t_Rule ?d_Rule ?pg_Rule ?hd_Rule ?po_Rule ?sa_Rule ?mk_Rule ?kp_Rule ?fl_Rule_rule_mark ?fl_Rule_rule_way ?ha_Rule ?hn_Rule ?ht_Rule ?hm_Rule ?s_Rule_NoneType ?s_Rule_bool ?s_Rule_int ?s_Rule_str ?s_Rule_list ?s_Rule_tuple ?s_Rule_dict ?z_all ?z_int ?z_isinstance ?z_len ?z_max ?z_min ?z_range ?z_repr ?z_sorted ?z_str ?z_CLIMB ?z_FIGURES ?z_GREATEST_WISH ?z_HASH ?z_LONGEST_MARK ?z_LONGEST_NAME ?z_LONGEST_WISH ?z_MOST_FIGURES ?z_NEST ?z_SIGNS ?z_STAR T_k13.law_pure
    (case n_Rule => k_is); (case a1 => k_is); (case l1 => k_is); (case c1 => k_is); (case k1 => k_is); (case a2 => k_is)
    (case l2 => k_is); (case c2 => k_is); (case k2 => k_is); (case a3 => k_is); (case l3 => k_is); (case c3 => k_is)
    (case k3 => k_is); (case a4 => k_is); (case l4 => k_is); (case c4 => k_is); (case k4 => k_is); (case a5 => k_is)
    (case l5 => k_is); (case c5 => k_is); (case k5 => k_is); (case a6 => k_is); (case l6 => k_is); (case c6 => k_is)
    (case k6 => k_is); (case a7 => k_is); (case l7 => k_is); (case c7 => k_is); (case k7 => k_is); (case a8 => k_is)
    (case l8 => k_is); (case c8 => k_is); (case k8 => k_is); (case a9 => k_is); (case l9 => k_is); (case c9 => k_is)
    (case k9 => k_is); (case a10 => k_is); (case l10 => k_is); (case c10 => k_is); (case k10 => k_is); (case a11 => k_is)
    (case l11 => k_is); (case c11 => k_is); (case k11 => k_is); (case a12 => k_is); (case l12 => k_is); (case c12 => k_is)
    (case k12 => k_is); (case a13 => k_is); (case l13 => k_is); (case c13 => k_is); (case k13 => k_is); (case a14 => k_is)
    (case l14 => k_is); (case c14 => k_is); (case k14 => k_is); (case a15 => k_is); (case l15 => k_is); (case c15 => k_is)
    (case k15 => k_is); (case a16 => k_is); (case l16 => k_is); (case c16 => k_is); (case k16 => k_is); (case a17 => k_is)
    (case l17 => k_is); (case c17 => k_is); (case k17 => k_is); (case a18 => k_is); (case l18 => k_is); (case c18 => k_is)
    (case k18 => k_is); (case a19 => k_is); (case l19 => k_is); (case c19 => k_is); (case k19 => k_is); (case a20 => k_is)
    (case l20 => k_is); (case c20 => k_is); (case k20 => k_is); (case a21 => k_is); (case l21 => k_is); (case c21 => k_is)
    (case k21 => k_is); (case a22 => k_is); (case l22 => k_is); (case c22 => k_is); (case k22 => k_is); (case a23 => k_is)
    (case l23 => k_is); (case c23 => k_is); (case k23 => k_is); (case a24 => k_is); (case l24 => k_is); (case c24 => k_is)
    (case k24 => k_is); (case a25 => k_is); (case l25 => k_is); (case c25 => k_is); (case k25 => k_is); (case a26 => k_is)
    (case l26 => k_is); (case c26 => k_is); (case k26 => k_is); (case a27 => k_is); (case l27 => k_is); (case c27 => k_is)
    (case k27 => k_is); (case a28 => k_is); (case l28 => k_is); (case c28 => k_is); (case k28 => k_is); (case a29 => k_is)
    (case l29 => k_is); (case c29 => k_is); (case k29 => k_is); (case a30 => k_is); (case l30 => k_is); (case c30 => k_is)
    (case k30 => k_is); (case a31 => k_is); (case l31 => k_is); (case c31 => k_is); (case k31 => k_is); (case t_Rule => k_is)
    (case d_Rule => k_is); (case pg_Rule => k_is); (case hd_Rule => k_is); (case po_Rule => k_is); (case sa_Rule => k_is); (case mk_Rule => k_is)
    (case kp_Rule => k_is); (case fl_Rule_rule_mark => k_is); (case fl_Rule_rule_way => k_is); (case ha_Rule => k_is); (case hn_Rule => k_is); (case ht_Rule => k_is)
    (case hm_Rule => k_is); (case s_Rule_NoneType => k_is); (case s_Rule_bool => k_is); (case s_Rule_int => k_is); (case s_Rule_str => k_is); (case s_Rule_list => k_is)
    (case s_Rule_tuple => k_is); (case s_Rule_dict => k_is); (case z_all => k_is); (case z_int => k_is); (case z_isinstance => k_is); (case z_len => k_is)
    (case z_max => k_is); (case z_min => k_is); (case z_range => k_is); (case z_repr => k_is); (case z_sorted => k_is); (case z_str => k_is)
    (case z_CLIMB => k_is); (case z_FIGURES => k_is); (case z_GREATEST_WISH => k_is); (case z_HASH => k_is); (case z_LONGEST_MARK => k_is); (case z_LONGEST_NAME => k_is)
    (case z_LONGEST_WISH => k_is); (case z_MOST_FIGURES => k_is); (case z_NEST => k_is); (case z_SIGNS => k_is); (case z_STAR => k_is); (case y24 => k_is)
    (case y25 => k_is); (case y30 => k_is)

#print axioms PySem.Challenge.cw_tailnames_k13_wishes_by_form_holds
