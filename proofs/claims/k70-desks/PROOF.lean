import PyProof.Rows.All
import Wide.All
import OpenK.AllK
import Wide.FinOn
import KE.OsRunLaw
import HandS.ForMost
import HandS.ForExc
import HandS.SetKeys
import HandS.Flow
import HandS.Wide
import HandS.IsInst
import HandS.TupLe
import HandS.TupAny
import HandS.StrMore
import HandS.ExcOwn
import HandS.Steps
import PyProof.StrOps2
import HandS.CallSlots
import HandS.RaiseMore
import HandS.Replace
import HandS.EndBits
import PyProof.ReprRoads
import HandS.ExcInit
import HandS.ExcField
import HandS.TryMany
import HandS.Style
import PyProof.SliceStr2
import PyProof.EqKinds
import PyProof.P3In
import HandS.Deep
import PyProof.NeKinds
import HandS.Codes
import HandS.SetFor
import HandS.Walk
import HandS.ReplaceLit
import HandS.Conv
import HandS.Defaults
import PyProof.Rows.RegReprOcc
import PyProof.Rows.StrFit
import PyProof.Rows.RegFStrParts
import PyProof.CallStr
import HandS.DictComp
import HandS.Iter
import PyProof.Rows.SortShellAny
import HandS.ReplaceList
import HandS.OwnEq
import HandS.More
import PyProof.InstNe
import KE.KExcInit
import PySem.Challenge.RW_tailnames_k70_desks_refused
set_option Elab.async false
set_option linter.all false
set_option maxRecDepth 100000
/-! the head's one run, looked at part by part: each part is a lemma that the kernel checks by itself -/
namespace L3
/-- stands where a part is looked at by itself -/
inductive Leaf : Prop | mk
/-- carries what is to be shown, so that a text can name it -/
structure Box (P : Prop) : Prop where
  t : True
abbrev unbox {P : Prop} (_ : Box P) : Prop := P
open Classical in
noncomputable def wit (P : Prop) : Nat := if P then 0 else 1
theorem wit_of {P : Prop} (h : P) : wit P = 0 := if_pos h
theorem wit_to {P : Prop} (k : Box P → wit P < 1) : P := by
  have h : wit P = 0 := Nat.lt_one_iff.mp (k ⟨trivial⟩)
  unfold wit at h
  split at h
  · assumption
  · cases h
open PySem PySem.W
theorem opt3L {β γ : Type} {o : Option SharedT} {p : Program} {h : Heap} {g : SharedT → β} {k : SharedT → γ} {b : β} {c : γ} (x : o.map (fun s => HeadRun.looksF p h s.abs) = some true) (y : o.map g = some b) (z : o.map k = some c) :
    o.map (fun s => (HeadRun.looksF p h s.abs, g s, k s)) = some (true, b, c) := by
  cases o with
  | none => cases x
  | some v =>
    simp only [Option.map_some, Option.some.injEq] at x y z ⊢
    rw [x, y, z]
section
variable {o : Option SharedT} {T1 T2 T3 T4 T5 T6 T7 T8 T9 : Type} {F : SharedT → T1 × T2 × T3 × T4 × T5 × T6 × T7 × T8 × T9} {r : T1 × T2 × T3 × T4 × T5 × T6 × T7 × T8 × T9}
theorem opt9 (x1 : o.map (fun s => (F s).1) = some r.1) (x2 : o.map (fun s => (F s).2.1) = some r.2.1) (x3 : o.map (fun s => (F s).2.2.1) = some r.2.2.1) (x4 : o.map (fun s => (F s).2.2.2.1) = some r.2.2.2.1) (x5 : o.map (fun s => (F s).2.2.2.2.1) = some r.2.2.2.2.1)
    (x6 : o.map (fun s => (F s).2.2.2.2.2.1) = some r.2.2.2.2.2.1) (x7 : o.map (fun s => (F s).2.2.2.2.2.2.1) = some r.2.2.2.2.2.2.1) (x8 : o.map (fun s => (F s).2.2.2.2.2.2.2.1) = some r.2.2.2.2.2.2.2.1) (x9 : o.map (fun s => (F s).2.2.2.2.2.2.2.2) = some r.2.2.2.2.2.2.2.2) : o.map F = some r := by
  cases o with
  | none => cases x1
  | some v =>
    simp only [Option.map_some, Option.some.injEq] at x1 x2 x3 x4 x5 x6 x7 x8 x9 ⊢
    obtain ⟨r1, r2, r3, r4, r5, r6, r7, r8, r9⟩ := r
    generalize F v = q at *
    obtain ⟨q1, q2, q3, q4, q5, q6, q7, q8, q9⟩ := q
    simp only at x1 x2 x3 x4 x5 x6 x7 x8 x9
    subst x1 x2 x3 x4 x5 x6 x7 x8 x9
    rfl
end
theorem optSeen {o : Option SharedT} {p q : Program} {h : Heap} {loose mods : List PySem.Str} {Xt : Shared → Bool} {γ : Type} {k : SharedT → γ} {c : γ}
    (x0 : o.map (fun s => HeadRun.looksF p h s.abs) = some true)
    (x1 : o.map (fun s => (HeadRun.seenQ q loose mods Xt s.abs).1) = some (openGood q loose).1) (x2 : o.map (fun s => (HeadRun.seenQ q loose mods Xt s.abs).2.1) = some (openGood q loose).2.1) (x3 : o.map (fun s => (HeadRun.seenQ q loose mods Xt s.abs).2.2.1) = some (openGood q loose).2.2.1)
    (x4 : o.map (fun s => (HeadRun.seenQ q loose mods Xt s.abs).2.2.2.1) = some (openGood q loose).2.2.2.1) (x5 : o.map (fun s => (HeadRun.seenQ q loose mods Xt s.abs).2.2.2.2.1) = some (openGood q loose).2.2.2.2.1) (x6 : o.map (fun s => (HeadRun.seenQ q loose mods Xt s.abs).2.2.2.2.2.1) = some (openGood q loose).2.2.2.2.2.1)
    (x7 : o.map (fun s => (HeadRun.seenQ q loose mods Xt s.abs).2.2.2.2.2.2.1) = some (openGood q loose).2.2.2.2.2.2.1) (x8 : o.map (fun s => (HeadRun.seenQ q loose mods Xt s.abs).2.2.2.2.2.2.2.1) = some (openGood q loose).2.2.2.2.2.2.2.1) (x9 : o.map (fun s => (HeadRun.seenQ q loose mods Xt s.abs).2.2.2.2.2.2.2.2) = some (openGood q loose).2.2.2.2.2.2.2.2)
    (z : o.map k = some c) : o.map (fun s => (HeadRun.looksF p h s.abs, HeadRun.seenQ q loose mods Xt s.abs, k s)) = some (true, openGood q loose, c) :=
  opt3L x0 (opt9 (F := fun s => HeadRun.seenQ q loose mods Xt s.abs) (r := openGood q loose) x1 x2 x3 x4 x5 x6 x7 x8 x9) z
end L3
local macro_rules | `(tactic| kernel_rfl) => `(tactic| ((fail_if_success (have : L3.Leaf := by assumption)); refine L3.optSeen ?_ ?_ ?_ ?_ ?_ ?_ ?_ ?_ ?_ ?_ ?_ <;> (try dsimp only [PySem.W.openGood]) <;> (refine L3.wit_to ?_; intro b; exact let +zeta h : L3.wit (L3.unbox b) = 0 := L3.wit_of ((by have lf : L3.Leaf := .mk; kernel_rfl : L3.unbox b) :); ((by omega : L3.wit (L3.unbox b) < 1) :))))

local macro_rules | `(tactic| k_head) => `(tactic| k_headL)
set_option maxHeartbeats 0
open_top hdK for PySem.Challenge.rw_tailnames_k70_desks_refused
set_option maxHeartbeats 200000
/-! L3: Python's values as plain data; what a piece of the text does, as a plain function of data. -/
namespace L3
open PySem L2

/-- a dict's key: an int, or a text by its codes -/
abbrev Kd := Sum Int (List Nat)
def kk : Kd → Key
  | .inl i => .inl i
  | .inr l => .inr ⟨l.toArray⟩
theorem kk_inj {a b : Kd} (h : kk a = kk b) : a = b := by
  cases a <;> cases b <;> simp [kk] at h
  · rw [h]
  · rw [h]
theorem kk_eq (a b : Kd) : decide (kk a = kk b) = decide (a = b) := by
  by_cases h : a = b
  · rw [h]; simp
  · have : ¬ kk a = kk b := fun e => h (kk_inj e)
    simp [h, this]

/-- a value -/
inductive D where
  | non | bl (b : Bool) | int (i : Int) | str (l : List Nat)
  | lst (l : List D) | tup (l : List D) | dct (l : List (Kd × D))
  | scr (l : List Int)
  | obj (n : Str) (l : List (Str × D))
  | loc (n : Nat)

/-- what stands at a place that may change -/
inductive Cell where
  | lst (l : List D) | dct (l : List (Kd × D)) | set (l : List Kd)
  | ins (n : Str) (l : List (Str × D))
  | fz (d : D)

abbrev Cells := List Cell
abbrev Env := List (Option D)

/-- how an expression ends -/
inductive R where
  | ok (d : D) (cs : Cells)
  | exc (n : Str) (fs : List (Str × D)) (cs : Cells)
  | stuck
def R.bind : R → (D → Cells → R) → R
  | .ok d cs, f => f d cs
  | .exc n fs cs, _ => .exc n fs cs
  | .stuck, _ => .stuck
@[simp] theorem R.bind_ok (d : D) (cs : Cells) (f : D → Cells → R) : (R.ok d cs).bind f = f d cs := rfl
@[simp] theorem R.bind_exc (n : Str) (fs : List (Str × D)) (cs : Cells) (f : D → Cells → R) : (R.exc n fs cs).bind f = .exc n fs cs := rfl
@[simp] theorem R.bind_stuck (f : D → Cells → R) : R.stuck.bind f = .stuck := rfl
/-- how an argument list ends -/
inductive RA where
  | ok (ds : List D) (cs : Cells)
  | exc (n : Str) (fs : List (Str × D)) (cs : Cells)
  | stuck
def RA.bind : RA → (List D → Cells → R) → R
  | .ok d cs, f => f d cs
  | .exc n fs cs, _ => .exc n fs cs
  | .stuck, _ => .stuck
@[simp] theorem RA.bind_ok (d : List D) (cs : Cells) (f : List D → Cells → R) : (RA.ok d cs).bind f = f d cs := rfl
@[simp] theorem RA.bind_exc (n : Str) (fs : List (Str × D)) (cs : Cells) (f : List D → Cells → R) : (RA.exc n fs cs).bind f = .exc n fs cs := rfl
@[simp] theorem RA.bind_stuck (f : List D → Cells → R) : RA.stuck.bind f = .stuck := rfl
/-- how a statement ends -/
inductive S where
  | nx (env : Env) (cs : Cells)
  | rt (d : D) (cs : Cells)
  | bk (env : Env) (cs : Cells)
  | ct (env : Env) (cs : Cells)
  | exc (n : Str) (fs : List (Str × D)) (env : Env) (cs : Cells)
  | stuck
abbrev ME := Env → Cells → R
abbrev MA := Env → Cells → RA
abbrev MS := Env → Cells → S
abbrev MF := List D → Cells → R

/-- what is fixed: the program, the world, the written part, the module's names -/
structure Gd where
  P : Program
  w : World
  K : PySem.W.Frag
  mg : Str → Option Value
abbrev gd (X : Cx) : Gd := ⟨X.prog, X.w, X.K, X.mg⟩

/-! ### which value stands for which data; F: what stands still -/
mutual
inductive RV (g : Gd) (F : Hp) (c : List Addr) : V → D → Prop
  | non : RV g F c .non .non
  | bl (b : Bool) : RV g F c (.bl b) (.bl b)
  | int (i : Int) : RV g F c (.int i) (.int i)
  | str (l : List Nat) : RV g F c (.str ⟨l.toArray⟩) (.str l)
  | lst {a : Addr} {vs : List V} {ds : List D} : F a = some (.lst vs) → RVs g F c vs ds → RV g F c (.ref a) (.lst ds)
  | tup {a : Addr} {vs : List V} {ds : List D} : SqT g.K F a vs → RVs g F c vs ds → RV g F c (.ref a) (.tup ds)
  | dct {a : Addr} {kvs : List (Key × V)} {kds : List (Kd × D)} : Rd F a (.dK kvs) → RKs g F c kvs kds → RV g F c (.ref a) (.dct kds)
  | scr {a : Addr} {ns : List Int} : SqL g.K F a (ns.map V.int) → RV g F c (.ref a) (.scr ns)
  | obj {a C dx : Addr} {n : Str} {fs : List (Str × V)} {gs : List (Str × D)} : g.mg n = some (.ref C) → F a = some (.ins C dx fs) → RFs g F c fs gs → RV g F c (.ref a) (.obj n gs)
  | loc {n : Nat} {a : Addr} : c[n]? = some a → RV g F c (.ref a) (.loc n)
inductive RVs (g : Gd) (F : Hp) (c : List Addr) : List V → List D → Prop
  | nil : RVs g F c [] []
  | cons {v : V} {d : D} {vs : List V} {ds : List D} : RV g F c v d → RVs g F c vs ds → RVs g F c (v :: vs) (d :: ds)
inductive RKs (g : Gd) (F : Hp) (c : List Addr) : List (Key × V) → List (Kd × D) → Prop
  | nil : RKs g F c [] []
  | cons {k : Kd} {v : V} {d : D} {vs : List (Key × V)} {ds : List (Kd × D)} : RV g F c v d → RKs g F c vs ds → RKs g F c ((kk k, v) :: vs) ((k, d) :: ds)
inductive RFs (g : Gd) (F : Hp) (c : List Addr) : List (Str × V) → List (Str × D) → Prop
  | nil : RFs g F c [] []
  | cons {k : Str} {v : V} {d : D} {vs : List (Str × V)} {ds : List (Str × D)} : RV g F c v d → RFs g F c vs ds → RFs g F c ((k, v) :: vs) ((k, d) :: ds)
end

/-- more is known (a dict may be locked meanwhile) -/
structure Le (F : Hp) (c : List Addr) (F' : Hp) (c' : List Addr) : Prop where
  lst : ∀ a xs, F a = some (.lst xs) → F' a = some (.lst xs)
  tup : ∀ a xs, F a = some (.tup xs) → F' a = some (.tup xs)
  ins : ∀ a C dx fs, F a = some (.ins C dx fs) → F' a = some (.ins C dx fs)
  rd : ∀ a u, Rd F a u → Rd F' a u
  frz : ∀ a o u, F a = some (.frz o u) → F' a = some (.frz o u)
  loc : ∀ (n : Nat) (a : Addr), c[n]? = some a → c'[n]? = some a
theorem Le.refl (F : Hp) (c : List Addr) : Le F c F c := ⟨fun _ _ h => h, fun _ _ h => h, fun _ _ _ _ h => h, fun _ _ h => h, fun _ _ _ h => h, fun _ _ h => h⟩
theorem Le.trans {F F1 F2 : Hp} {c c1 c2 : List Addr} (a : Le F c F1 c1) (b : Le F1 c1 F2 c2) : Le F c F2 c2 :=
  ⟨fun x xs h => b.lst x xs (a.lst x xs h), fun x xs h => b.tup x xs (a.tup x xs h), fun x C dx fs h => b.ins x C dx fs (a.ins x C dx fs h), fun x u h => b.rd x u (a.rd x u h), fun x o u h => b.frz x o u (a.frz x o u h), fun n x h => b.loc n x (a.loc n x h)⟩
theorem Le.seq {K : PySem.W.Frag} {F F' : Hp} {c c' : List Addr} {a : Addr} {xs : List V} (e : Le F c F' c') (h : SqL K F a xs) : SqL K F' a xs := by
  rcases h with h | h
  · exact .inl (e.rd _ _ h)
  · exact .inr h
theorem Le.seqT {K : PySem.W.Frag} {F F' : Hp} {c c' : List Addr} {a : Addr} {xs : List V} (e : Le F c F' c') (h : SqT K F a xs) : SqT K F' a xs := by
  rcases h with h | h
  · exact .inl (e.rd _ _ h)
  · exact .inr h
/-- from a plain extension -/
theorem Le.of {F F' : Hp} {c c' : List Addr} (h : ∀ a o, F a = some o → F' a = some o) (hc : ∀ (n : Nat) (a : Addr), c[n]? = some a → c'[n]? = some a) : Le F c F' c' :=
  ⟨fun _ _ e => h _ _ e, fun _ _ e => h _ _ e, fun _ _ _ _ e => h _ _ e, fun a u e => by
    rcases e with e | ⟨o, e⟩
    · exact .inl (h _ _ e)
    · exact .inr ⟨o, h _ _ e⟩, fun _ _ _ e => h _ _ e, hc⟩

section
variable {g : Gd} {F F' : Hp} {c c' : List Addr}
mutual
theorem RV.mono (e : Le F c F' c') : ∀ {v : V} {d : D}, RV g F c v d → RV g F' c' v d
  | _, _, .non => .non
  | _, _, .bl b => .bl b
  | _, _, .int i => .int i
  | _, _, .str l => .str l
  | _, _, .lst h r => .lst (e.lst _ _ h) (RVs.mono e r)
  | _, _, .tup h r => .tup (e.seqT h) (RVs.mono e r)
  | _, _, .dct h r => .dct (e.rd _ _ h) (RKs.mono e r)
  | _, _, .scr h => .scr (e.seq h)
  | _, _, .obj m h r => .obj m (e.ins _ _ _ _ h) (RFs.mono e r)
  | _, _, .loc h => .loc (e.loc _ _ h)
theorem RVs.mono (e : Le F c F' c') : ∀ {vs : List V} {ds : List D}, RVs g F c vs ds → RVs g F' c' vs ds
  | _, _, .nil => .nil
  | _, _, .cons a b => .cons (RV.mono e a) (RVs.mono e b)
theorem RKs.mono (e : Le F c F' c') : ∀ {vs : List (Key × V)} {ds : List (Kd × D)}, RKs g F c vs ds → RKs g F' c' vs ds
  | _, _, .nil => .nil
  | _, _, .cons a b => .cons (RV.mono e a) (RKs.mono e b)
theorem RFs.mono (e : Le F c F' c') : ∀ {vs : List (Str × V)} {ds : List (Str × D)}, RFs g F c vs ds → RFs g F' c' vs ds
  | _, _, .nil => .nil
  | _, _, .cons a b => .cons (RV.mono e a) (RFs.mono e b)
end
theorem RVs.length : ∀ {vs : List V} {ds : List D}, RVs g F c vs ds → vs.length = ds.length
  | _, _, .nil => rfl
  | _, _, .cons _ r => by simp [RVs.length r]
theorem RVs.get : ∀ {vs : List V} {ds : List D} {i : Nat} {d : D}, RVs g F c vs ds → ds[i]? = some d → ∃ v, vs[i]? = some v ∧ RV g F c v d
  | _, _, _, _, .nil, e => by simp at e
  | _, _, 0, _, .cons r _, e => by simp at e; subst e; exact ⟨_, rfl, r⟩
  | _, _, i + 1, d, .cons _ t, e => by
    obtain ⟨u, h1, h2⟩ := RVs.get (i := i) (d := d) t (by simpa using e)
    exact ⟨u, by simpa using h1, h2⟩
theorem RVs.get' : ∀ {vs : List V} {ds : List D} {i : Nat} {v : V}, RVs g F c vs ds → vs[i]? = some v → ∃ d, ds[i]? = some d ∧ RV g F c v d
  | _, _, _, _, .nil, e => by simp at e
  | _, _, 0, _, .cons r _, e => by simp at e; subst e; exact ⟨_, rfl, r⟩
  | _, _, i + 1, v, .cons _ t, e => by
    obtain ⟨u, h1, h2⟩ := RVs.get' (i := i) (v := v) t (by simpa using e)
    exact ⟨u, by simpa using h1, h2⟩
theorem RVs.append : ∀ {vs ws : List V} {ds es : List D}, RVs g F c vs ds → RVs g F c ws es → RVs g F c (vs ++ ws) (ds ++ es)
  | _, _, _, _, .nil, s => s
  | _, _, _, _, .cons a b, s => .cons a (RVs.append b s)
theorem RVs.take : ∀ {vs : List V} {ds : List D} (n : Nat), RVs g F c vs ds → RVs g F c (vs.take n) (ds.take n)
  | _, _, 0, _ => by simp; exact .nil
  | _, _, _ + 1, .nil => .nil
  | _, _, n + 1, .cons a b => .cons a (RVs.take n b)
theorem RVs.drop : ∀ {vs : List V} {ds : List D} (n : Nat), RVs g F c vs ds → RVs g F c (vs.drop n) (ds.drop n)
  | _, _, 0, r => by simpa using r
  | _, _, _ + 1, .nil => .nil
  | _, _, n + 1, .cons _ b => by simpa using RVs.drop n b
theorem RVs.reverse {vs : List V} {ds : List D} (r : RVs g F c vs ds) : RVs g F c vs.reverse ds.reverse := by
  induction r using RVs.rec (motive_1 := fun _ _ _ => True) (motive_3 := fun _ _ _ => True) (motive_4 := fun _ _ _ => True) with
  | nil => exact .nil
  | cons a b _ ih => simp only [List.reverse_cons]; exact ih.append (.cons a .nil)
  | _ => trivial
end

/-! ### the state: H what is tracked, F what stands still, c where the cells lie -/
def CR (g : Gd) (H F : Hp) (c : List Addr) (a : Addr) : Cell → Prop
  | .lst ds => F a = none ∧ ∃ vs, H a = some (.lst vs) ∧ RVs g F c vs ds
  | .dct ks => F a = none ∧ ∃ kvs, H a = some (.dK kvs) ∧ RKs g F c kvs ks
  | .set l => F a = none ∧ H a = some (SetK g.P g.w a (fun k => (l.map kk).contains k) l.length)
  | .ins n gs => F a = none ∧ ∃ C dx fs, g.mg n = some (.ref C) ∧ H a = some (.ins C dx fs) ∧ RFs g F c fs gs
  | .fz d => RV g F c (.ref a) d ∧ ∃ o, H a = some o ∧ ∀ vs, o ≠ .xd vs
structure Ih (g : Gd) (H F : Hp) (c : List Addr) (cs : Cells) : Prop where
  sub : ∀ a o, F a = some o → H a = some o
  len : c.length = cs.length
  nd : c.Nodup
  cell : ∀ (n : Nat) (a : Addr) (x : Cell), c[n]? = some a → cs[n]? = some x → CR g H F c a x
structure Xt (H F : Hp) (c : List Addr) (H' F' : Hp) (c' : List Addr) : Prop where
  le : Le F c F' c'
  kp : ∀ a o, H a = some o → a ∉ c → H' a = some o
  dom : ∀ a o, H a = some o → ∃ o', H' a = some o'
  new : ∀ a, a ∈ c' → a ∉ c → H a = none
  out : ∀ a o, H a = some o → F a = none → a ∉ c → F' a = none
theorem Xt.refl (H F : Hp) (c : List Addr) : Xt H F c H F c := ⟨Le.refl F c, fun _ _ h _ => h, fun _ o h => ⟨o, h⟩, fun a h n => absurd h n, fun _ _ _ h _ => h⟩
theorem Xt.trans {H F H1 F1 H2 F2 : Hp} {c c1 c2 : List Addr} (a : Xt H F c H1 F1 c1) (b : Xt H1 F1 c1 H2 F2 c2) : Xt H F c H2 F2 c2 := by
  refine ⟨a.le.trans b.le, fun x o h n => ?_, fun x o h => ?_, fun x h n => ?_, fun x o h f n => ?_⟩
  · refine b.kp x o (a.kp x o h n) fun m => ?_
    have := a.new x m n
    rw [h] at this; cases this
  · obtain ⟨o1, h1⟩ := a.dom x o h
    exact b.dom x o1 h1
  · by_cases m : x ∈ c1
    · exact a.new x m n
    · have := b.new x h m
      cases e : H x with
      | none => rfl
      | some o => obtain ⟨o1, h1⟩ := a.dom x o e; rw [this] at h1; cases h1
  · obtain ⟨o1, h1⟩ := a.dom x o h
    refine b.out x o1 h1 (a.out x o h f n) fun m => ?_
    have := a.new x m n
    rw [h] at this; cases this

section
variable {g : Gd} {H F : Hp} {c : List Addr} {cs : Cells}
theorem Ih.there (I : Ih g H F c cs) {n : Nat} {a : Addr} (h : c[n]? = some a) : ∃ x, cs[n]? = some x := by
  have hl : n < c.length := (List.getElem?_eq_some_iff.mp h).1
  exact ⟨cs[n]'(by rw [← I.len]; exact hl), by rw [List.getElem?_eq_getElem]⟩
theorem Ih.at (I : Ih g H F c cs) {n : Nat} {x : Cell} (h : cs[n]? = some x) : ∃ a, c[n]? = some a ∧ CR g H F c a x := by
  have hl : n < cs.length := (List.getElem?_eq_some_iff.mp h).1
  have hl' : n < c.length := by rw [I.len]; exact hl
  exact ⟨c[n], List.getElem?_eq_getElem hl', I.cell n _ x (List.getElem?_eq_getElem hl') h⟩
theorem CR.tracked {a : Addr} {x : Cell} (h : CR g H F c a x) : ∃ o, H a = some o := by
  cases x with
  | lst l => obtain ⟨_, vs, h, _⟩ := h; exact ⟨_, h⟩
  | dct l => obtain ⟨_, vs, h, _⟩ := h; exact ⟨_, h⟩
  | set l => obtain ⟨_, h⟩ := h; exact ⟨_, h⟩
  | ins n l => obtain ⟨_, C, dx, fs, _, h, _⟩ := h; exact ⟨_, h⟩
  | fz d => obtain ⟨_, o, e, _⟩ := h; exact ⟨o, e⟩
theorem Ih.mem (I : Ih g H F c cs) {a : Addr} (h : a ∈ c) : ∃ o, H a = some o := by
  obtain ⟨n, hn⟩ := List.getElem?_of_mem h
  obtain ⟨x, hx⟩ := I.there hn
  exact CR.tracked (I.cell n a x hn hx)
theorem Ih.notMem (I : Ih g H F c cs) {a : Addr} (h : H a = none) : a ∉ c := fun m => by
  obtain ⟨o, e⟩ := I.mem m
  rw [h] at e; cases e
theorem Ih.noF (I : Ih g H F c cs) {a : Addr} (h : H a = none) : F a = none := by
  cases e : F a with
  | none => rfl
  | some o => rw [I.sub a o e] at h; cases h
/-- what stands still is no cell that changes -/
def Cell.live : Cell → Bool
  | .fz _ => false
  | _ => true
theorem CR.free {a : Addr} {x : Cell} (h : CR g H F c a x) (l : x.live = true) : F a = none := by
  cases x with
  | fz d => cases l
  | lst l => exact h.1
  | dct l => exact h.1
  | set l => exact h.1
  | ins n l => exact h.1
theorem Ih.inj (I : Ih g H F c cs) {n m : Nat} {a : Addr} (h : c[n]? = some a) (h' : c[m]? = some a) : n = m := by
  obtain ⟨h1, e1⟩ := List.getElem?_eq_some_iff.mp h
  obtain ⟨h2, e2⟩ := List.getElem?_eq_some_iff.mp h'
  exact (List.getElem_inj I.nd).mp (e1.trans e2.symm)

/-- a cell's facts where what is around it has grown -/
theorem CR.mono {H' F' : Hp} {c' : List Addr} {a : Addr} {x : Cell} (h : CR g H F c a x) (e : Le F c F' c') (hH : ∀ o, H a = some o → H' a = some o) (hF : F a = none → F' a = none) : CR g H' F' c' a x := by
  cases x with
  | lst l => obtain ⟨f, vs, h, r⟩ := h; exact ⟨hF f, vs, hH _ h, r.mono e⟩
  | dct l => obtain ⟨f, vs, h, r⟩ := h; exact ⟨hF f, vs, hH _ h, r.mono e⟩
  | set l => obtain ⟨f, h⟩ := h; exact ⟨hF f, hH _ h⟩
  | ins n l => obtain ⟨f, C, dx, fs, m, h, r⟩ := h; exact ⟨hF f, C, dx, fs, m, hH _ h, r.mono e⟩
  | fz d => obtain ⟨r, o, h, n⟩ := h; exact ⟨r.mono e, o, hH _ h, n⟩

/-- a new object that stands still -/
theorem Le.upd (hn : F p = none) : Le F c (upd F p o) c := Le.of (fun a u e => by rw [upd_ne (ne_of_none e hn)]; exact e) fun _ _ e => e
theorem Ih.still (I : Ih g H F c cs) {p : Addr} {o : HO} (hp : H p = none) : Ih g (upd H p o) (upd F p o) c cs := by
  have hF := I.noF hp
  refine ⟨fun a u e => ?_, I.len, I.nd, fun n a x h1 h2 => ?_⟩
  · by_cases hb : a = p
    · subst hb; rw [upd_same] at e ⊢; exact e
    · rw [upd_ne hb] at e ⊢; exact I.sub a u e
  · have q := I.cell n a x h1 h2
    have hne : a ≠ p := fun e => by
      obtain ⟨u, hu⟩ := CR.tracked q
      rw [e, hp] at hu; cases hu
    exact CR.mono q (Le.upd hF) (fun u e => by rw [upd_ne hne]; exact e) (fun e => by rw [upd_ne hne]; exact e)
theorem Xt.still (I : Ih g H F c cs) {p : Addr} {o : HO} (hp : H p = none) : Xt H F c (L2.upd H p o) (L2.upd F p o) c :=
  ⟨Le.upd (I.noF hp), fun a u e _ => by rw [upd_ne (ne_of_none e hp)]; exact e, fun a u e => ⟨u, by rw [upd_ne (ne_of_none e hp)]; exact e⟩, fun a h n => absurd h n, fun a u e f _ => by rw [upd_ne (ne_of_none e hp)]; exact f⟩
/-- a new cell -/
theorem Le.push : Le F c F (c ++ [p]) := Le.of (fun _ _ e => e) fun n a e => by
  rw [List.getElem?_append_left (List.getElem?_eq_some_iff.mp e).1]; exact e
theorem Ih.push (I : Ih g H F c cs) {p : Addr} {o : HO} {x : Cell} (hp : H p = none) (hx : CR g (L2.upd H p o) F (c ++ [p]) p x) : Ih g (L2.upd H p o) F (c ++ [p]) (cs ++ [x]) := by
  refine ⟨fun a u e => ?_, by simp [I.len], ?_, fun n a y h1 h2 => ?_⟩
  · have := I.sub a u e
    rw [upd_ne (ne_of_none this hp)]; exact this
  · rw [List.nodup_append]
    refine ⟨I.nd, by simp, fun a ha b hb => ?_⟩
    have : b = p := by simpa using hb
    subst this
    rintro rfl
    exact I.notMem hp ha
  · by_cases hlt : n < c.length
    · rw [List.getElem?_append_left hlt] at h1
      rw [List.getElem?_append_left (by rw [← I.len]; exact hlt)] at h2
      have q := I.cell n a y h1 h2
      have hne : a ≠ p := fun e => by
        obtain ⟨u, hu⟩ := CR.tracked q
        rw [e, hp] at hu; cases hu
      exact CR.mono q Le.push (fun u e => by rw [upd_ne hne]; exact e) (fun e => e)
    · have hl : n < (c ++ [p]).length := (List.getElem?_eq_some_iff.mp h1).1
      have hn : n = c.length := by simp at hl; omega
      subst hn
      rw [List.getElem?_append_right (Nat.le_refl _)] at h1
      rw [I.len, List.getElem?_append_right (Nat.le_refl _)] at h2
      simp at h1 h2
      subst h1; subst h2
      exact hx
theorem Xt.push (I : Ih g H F c cs) {p : Addr} {o : HO} (hp : H p = none) : Xt H F c (L2.upd H p o) F (c ++ [p]) :=
  ⟨Le.push, fun a u e _ => by rw [upd_ne (ne_of_none e hp)]; exact e, fun a u e => ⟨u, by rw [upd_ne (ne_of_none e hp)]; exact e⟩, fun a h n => by
    rcases List.mem_append.mp h with h | h
    · exact absurd h n
    · have : a = p := by simpa using h
      rw [this]; exact hp, fun _ _ _ f _ => f⟩
/-- a cell is written -/
theorem Ih.write (I : Ih g H F c cs) {n : Nat} {a : Addr} {x0 x : Cell} {o : HO} (ha : c[n]? = some a) (h0 : cs[n]? = some x0) (hl : x0.live = true) (hx : CR g (L2.upd H a o) F c a x) : Ih g (L2.upd H a o) F c (cs.set n x) := by
  have hF := CR.free (I.cell n a x0 ha h0) hl
  refine ⟨fun b u e => ?_, by simp [I.len], I.nd, fun m b y h1 h2 => ?_⟩
  · rw [upd_ne (ne_of_none e hF)]; exact I.sub b u e
  · by_cases hm : m = n
    · subst hm
      rw [ha] at h1; cases h1
      have hlt : m < cs.length := (List.getElem?_eq_some_iff.mp h0).1
      rw [List.getElem?_set_self hlt] at h2
      cases h2
      exact hx
    · rw [List.getElem?_set_ne (Ne.symm hm)] at h2
      have hne : b ≠ a := fun e => hm (I.inj (e ▸ h1) ha)
      exact CR.mono (I.cell m b y h1 h2) (Le.refl F c) (fun u e => by rw [upd_ne hne]; exact e) (fun e => e)
theorem Xt.write (I : Ih g H F c cs) {n : Nat} {a : Addr} {o : HO} (ha : c[n]? = some a) : Xt H F c (L2.upd H a o) F c := by
  have hm : a ∈ c := List.mem_of_getElem? ha
  refine ⟨Le.refl F c, fun b u e hb => ?_, fun b u e => ?_, fun b h hb => absurd h hb, fun _ _ _ f _ => f⟩
  · rw [upd_ne (fun z => hb (by rw [z]; exact hm))]; exact e
  · by_cases hb : b = a
    · subst hb; exact ⟨o, upd_same⟩
    · exact ⟨u, by rw [upd_ne hb]; exact e⟩
end

/-! ### the frame -/
def RE (g : Gd) (F : Hp) (c : List Addr) (σ : L2.St) (env : Env) : Prop :=
  σ.length = env.length ∧ ∀ (i : Nat) (d : D), env[i]? = some (some d) → ∃ v, σ[i]? = some (some v) ∧ RV g F c v d
section
variable {g : Gd} {F F' : Hp} {c c' : List Addr} {σ : L2.St} {env : Env}
theorem RE.mono (h : RE g F c σ env) (e : Le F c F' c') : RE g F' c' σ env := ⟨h.1, fun i d q => by
  obtain ⟨v, a, b⟩ := h.2 i d q
  exact ⟨v, a, b.mono e⟩⟩
theorem RE.set (h : RE g F c σ env) (i : Nat) {v : V} {d : D} (r : RV g F c v d) : RE g F c (σ.set i (some v)) (env.set i (some d)) := by
  refine ⟨by simp [h.1], fun j e q => ?_⟩
  by_cases hj : j = i
  · subst hj
    by_cases hl : j < env.length
    · rw [List.getElem?_set_self hl] at q
      cases q
      exact ⟨v, by rw [List.getElem?_set_self (by rw [h.1]; exact hl)], r⟩
    · rw [List.getElem?_eq_none (by simp; omega)] at q; cases q
  · rw [List.getElem?_set_ne (Ne.symm hj)] at q
    rw [List.getElem?_set_ne (Ne.symm hj)]
    exact h.2 j e q
theorem RE.unset (h : RE g F c σ env) (i : Nat) : RE g F c (σ.set i none) (env.set i none) := by
  refine ⟨by simp [h.1], fun j e q => ?_⟩
  by_cases hj : j = i
  · subst hj
    by_cases hl : j < env.length
    · rw [List.getElem?_set_self hl] at q; cases q
    · rw [List.getElem?_eq_none (by simp; omega)] at q; cases q
  · rw [List.getElem?_set_ne (Ne.symm hj)] at q
    rw [List.getElem?_set_ne (Ne.symm hj)]
    exact h.2 j e q
end

/-! ### what is wanted behind a piece -/
abbrev Q3 := Hp → Hp → List Addr → Prop
/-- all that comes out of (H, F, c) and has the cells cs -/
def Fw (g : Gd) (H F : Hp) (c : List Addr) (cs : Cells) (κ : Q3) : Prop := ∀ H' F' c', Xt H F c H' F' c' → Ih g H' F' c' cs → κ H' F' c'
/-- an error's fields: in its dict, or it has none -/
def XdA (H : Hp) (d : Option Addr) (vs : List (Str × V)) : Prop := match d with
  | some dx => H dx = some (.xd vs)
  | none => vs = []
def ExK (g : Gd) (W : XK) (H F : Hp) (c : List Addr) (n : Str) (fs : List (Str × D)) (cs : Cells) : Prop :=
  Fw g H F c cs fun H' F' c' => ∀ C dx vs, g.mg n = some (.ref C) → XdA H' dx vs → RFs g F' c' vs fs → W (.ref C) dx H'
def PoE (g : Gd) (W : XK) (H F : Hp) (c : List Addr) (r : R) (Q : VK) : Prop :=
  match r with
  | .ok d cs => Fw g H F c cs fun H' F' c' => ∀ v, RV g F' c' v d → Q v H'
  | .exc n fs cs => ExK g W H F c n fs cs
  | .stuck => False
def PoA (g : Gd) (W : XK) (H F : Hp) (c : List Addr) (r : RA) (Q : List V → Hp → Prop) : Prop :=
  match r with
  | .ok ds cs => Fw g H F c cs fun H' F' c' => ∀ vs, RVs g F' c' vs ds → Q vs H'
  | .exc n fs cs => ExK g W H F c n fs cs
  | .stuck => False
def PoT (g : Gd) (W : XK) (H F : Hp) (c : List Addr) (r : R) (Q : Bool → Hp → Prop) : Prop :=
  match r with
  | .ok (.bl b) cs => Fw g H F c cs fun H' _ _ => Q b H'
  | .exc n fs cs => ExK g W H F c n fs cs
  | _ => False
def PoS (g : Gd) (W : WX) (Dn : Ends) (H F : Hp) (c : List Addr) (r : S) : Prop :=
  match r with
  | .nx env cs => Fw g H F c cs fun H' F' c' => ∀ σ, RE g F' c' σ env → Dn.nx σ H'
  | .rt d cs => Fw g H F c cs fun H' F' c' => ∀ v, RV g F' c' v d → Dn.rt v H'
  | .bk env cs => Fw g H F c cs fun H' F' c' => ∀ σ, RE g F' c' σ env → Dn.bk σ H'
  | .ct env cs => Fw g H F c cs fun H' F' c' => ∀ σ, RE g F' c' σ env → Dn.ct σ H'
  | .exc n fs env cs => Fw g H F c cs fun H' F' c' => ∀ σ C dx vs, RE g F' c' σ env → g.mg n = some (.ref C) → XdA H' dx vs → RFs g F' c' vs fs → W (.ref C) dx σ H'
  | .stuck => False

/-! ### the judgements: a piece of the text does what the plain function says -/
def Xp (X : Cx) (W : WX) (e : Expr) (m : ME) : Prop := ∃ t, PE X e t ∧ ∀ σ env H F c cs Q, RE (gd X) F c σ env → Ih (gd X) H F c cs → PoE (gd X) (fun a b => W a b σ) H F c (m env cs) Q → t σ H Q
def Xt1 (X : Cx) (W : WX) (e : Expr) (m : ME) : Prop := ∃ t, PT X e t ∧ ∀ σ env H F c cs Q, RE (gd X) F c σ env → Ih (gd X) H F c cs → PoT (gd X) (fun a b => W a b σ) H F c (m env cs) Q → t σ H Q
def Xw (X : Cx) (W : WX) (e : Expr) (m : ME) : Prop := ∃ t, PW X e t ∧ ∀ σ env H F c cs Q, RE (gd X) F c σ env → Ih (gd X) H F c cs → PoT (gd X) (fun a b => W a b σ) H F c (m env cs) Q → t σ H Q
def Xa (X : Cx) (W : WX) (es : List Expr) (m : MA) : Prop := ∃ t, PA X es t ∧ ∀ σ env H F c cs Q, RE (gd X) F c σ env → Ih (gd X) H F c cs → PoA (gd X) (fun a b => W a b σ) H F c (m env cs) Q → t σ H Q
def Sm (X : Cx) (W : WX) (st : Stmt) (m : MS) : Prop := ∃ t, PS X st t ∧ ∀ σ env H F c cs Dn, RE (gd X) F c σ env → Ih (gd X) H F c cs → PoS (gd X) W Dn H F c (m env cs) → t Dn σ H
def Sms (X : Cx) (W : WX) (st : List Stmt) (m : MS) : Prop := ∃ t, PSs X st t ∧ ∀ σ env H F c cs Dn, RE (gd X) F c σ env → Ih (gd X) H F c cs → PoS (gd X) W Dn H F c (m env cs) → t Dn σ H

theorem Fw.from {g : Gd} {H F H1 F1 : Hp} {c c1 : List Addr} {cs : Cells} {κ κ' : Q3} (x : Xt H F c H1 F1 c1) (h : Fw g H F c cs κ) (k : ∀ H' F' c', κ H' F' c' → κ' H' F' c') : Fw g H1 F1 c1 cs κ' :=
  fun H' F' c' y I => k _ _ _ (h H' F' c' (x.trans y) I)
theorem ExK.from {g : Gd} {W : XK} {H F H1 F1 : Hp} {c c1 : List Addr} {n : Str} {fs : List (Str × D)} {cs : Cells} (x : Xt H F c H1 F1 c1) (h : ExK g W H F c n fs cs) : ExK g W H1 F1 c1 n fs cs := Fw.from x h fun _ _ _ k => k
theorem PoE.from {g : Gd} {W : XK} {H F H1 F1 : Hp} {c c1 : List Addr} {r : R} {Q : VK} (x : Xt H F c H1 F1 c1) (h : PoE g W H F c r Q) : PoE g W H1 F1 c1 r Q := by
  cases r with
  | ok d cs => exact Fw.from x h fun _ _ _ k => k
  | exc n fs cs => exact ExK.from x h
  | stuck => exact h
theorem PoT.from {g : Gd} {W : XK} {H F H1 F1 : Hp} {c c1 : List Addr} {r : R} {Q : Bool → Hp → Prop} (x : Xt H F c H1 F1 c1) (h : PoT g W H F c r Q) : PoT g W H1 F1 c1 r Q := by
  cases r with
  | ok d cs => cases d <;> first | exact h | exact Fw.from x h fun _ _ _ k => k
  | exc n fs cs => exact ExK.from x h
  | stuck => exact h
theorem PoA.from {g : Gd} {W : XK} {H F H1 F1 : Hp} {c c1 : List Addr} {r : RA} {Q : List V → Hp → Prop} (x : Xt H F c H1 F1 c1) (h : PoA g W H F c r Q) : PoA g W H1 F1 c1 r Q := by
  cases r with
  | ok d cs => exact Fw.from x h fun _ _ _ k => k
  | exc n fs cs => exact ExK.from x h
  | stuck => exact h
theorem PoS.from {g : Gd} {W : WX} {Dn : Ends} {H F H1 F1 : Hp} {c c1 : List Addr} {r : S} (x : Xt H F c H1 F1 c1) (h : PoS g W Dn H F c r) : PoS g W Dn H1 F1 c1 r := by
  cases r <;> first | exact h | exact Fw.from x h fun _ _ _ k => k

/-- the bind: what is wanted of the whole, from what the first part gives -/
theorem PoE.cut {g : Gd} {W : XK} {H F : Hp} {c : List Addr} {r : R} {k : D → Cells → R} {Q : VK} (h : PoE g W H F c (r.bind k) Q) :
    ∀ Q' : VK, (∀ d cs, r = .ok d cs → ∀ H1 F1 c1 v, Xt H F c H1 F1 c1 → Ih g H1 F1 c1 cs → RV g F1 c1 v d → PoE g W H1 F1 c1 (k d cs) Q → Q' v H1) → PoE g W H F c r Q' := by
  intro Q' hk
  cases r with
  | ok d cs => exact fun H1 F1 c1 x I v rv => hk d cs rfl H1 F1 c1 v x I rv (PoE.from x h)
  | exc n fs cs => exact h
  | stuck => exact h
theorem PoE.here {g : Gd} {W : XK} {H F : Hp} {c : List Addr} {cs : Cells} {d : D} {Q : VK} {v : V} (I : Ih g H F c cs) (r : RV g F c v d) (h : PoE g W H F c (.ok d cs) Q) : Q v H := h H F c (Xt.refl H F c) I v r
theorem PoT.here {g : Gd} {W : XK} {H F : Hp} {c : List Addr} {cs : Cells} {b : Bool} {Q : Bool → Hp → Prop} (I : Ih g H F c cs) (h : PoT g W H F c (.ok (.bl b) cs) Q) : Q b H := h H F c (Xt.refl H F c) I
end L3

namespace L3
open PySem L2

/-! ### names, constants -/
def eVar (i : Nat) : ME := fun env cs => match env[i]? with
  | some (some d) => .ok d cs
  | _ => .stuck
def eC (d : D) : ME := fun _ cs => .ok d cs

section
variable {X : Cx} {W : WX} {pos : Pos}
theorem xp_var {i : Nat} {x : Str} (hN : X.N[i]? = some x) (hv : Vis X.env.scope x) (hd : (x == ("__debug__" : Str)) = false := by decide) (hcd : (x == ("__classdict__" : Str)) = false := by decide) : Xp X W (.Name x pos) (eVar i) := by
  refine ⟨_, pe_var hN hv hd hcd, fun σ env H F c cs Q re I po => ?_⟩
  unfold eVar at po
  cases e : env[i]? with
  | none => rw [e] at po; exact po.elim
  | some o =>
    cases o with
    | none => rw [e] at po; exact po.elim
    | some d =>
      rw [e] at po
      obtain ⟨v, hv, rv⟩ := re.2 i d e
      exact ⟨v, hv, PoE.here I rv po⟩
theorem xp_int {i : Int} {j} : Xp X W (.Constant (.int i) j pos) (eC (.int i)) := ⟨_, pe_int, fun _ _ _ _ _ _ _ _ I po => PoE.here I (.int i) po⟩
theorem xp_bl {b : Bool} {j} : Xp X W (.Constant (.bool b) j pos) (eC (.bl b)) := ⟨_, pe_bl, fun _ _ _ _ _ _ _ _ I po => PoE.here I (.bl b) po⟩
theorem xp_non {j} : Xp X W (.Constant .none j pos) (eC .non) := ⟨_, pe_non, fun _ _ _ _ _ _ _ _ I po => PoE.here I .non po⟩
theorem xp_str {x : Str} {l : List Nat} {j} (h : x = ⟨l.toArray⟩) : Xp X W (.Constant (.str x) j pos) (eC (.str l)) := by
  subst h
  exact ⟨_, pe_str, fun _ _ _ _ _ _ _ _ I po => PoE.here I (.str l) po⟩
/-- a module's constant -/
theorem xp_glob {x : Str} {u : Value} {v : V} {d : D} (hg : Gl X x) (hm : X.mg x = some u) (r : RelV v u) (rv : ∀ g F c, RV g F c v d) (hd : (x == ("__debug__" : Str)) = false := by decide) : Xp X W (.Name x pos) (eC d) :=
  ⟨_, pe_glob hg hm r hd, fun _ _ _ _ _ _ _ _ I po => PoE.here I (rv _ _ _) po⟩
theorem xp_globS {x z : Str} {t : Tok} {l : List Nat} (hg : Gl X x) (hm : X.mg x = some (.str z t)) (h : z = ⟨l.toArray⟩) (hd : (x == ("__debug__" : Str)) = false := by decide) : Xp X W (.Name x pos) (eC (.str l)) := by
  subst h
  exact xp_glob hg hm (v := .str ⟨l.toArray⟩) ⟨_, rfl⟩ (fun _ _ _ => .str l) hd
theorem xp_globI {x : Str} {t : Tok} {i : Int} (hg : Gl X x) (hm : X.mg x = some (.int i t)) (hd : (x == ("__debug__" : Str)) = false := by decide) : Xp X W (.Name x pos) (eC (.int i)) :=
  xp_glob hg hm (v := .int i) ⟨_, rfl⟩ (fun _ _ _ => .int i) hd
end

/-! ### operations on values -/
def op2 (f : Cells → D → D → R) (a b : ME) : ME := fun env cs => (a env cs).bind fun x cs1 => (b env cs1).bind fun y cs2 => f cs2 x y
def op1 (f : Cells → D → R) (a : ME) : ME := fun env cs => (a env cs).bind fun x cs1 => f cs1 x
/-- an operation's rule does what f says -/
def O2 (g : Gd) (r : R2) (f : Cells → D → D → R) : Prop := ∀ (W : XK) (H F : Hp) (c : List Addr) (cs : Cells) (x y : V) (d e : D) (Q : VK), Ih g H F c cs → RV g F c x d → RV g F c y e → PoE g W H F c (f cs d e) Q → r x y H Q
def O1 (g : Gd) (r : V → Hp → VK → Prop) (f : Cells → D → R) : Prop := ∀ (W : XK) (H F : Hp) (c : List Addr) (cs : Cells) (x : V) (d : D) (Q : VK), Ih g H F c cs → RV g F c x d → PoE g W H F c (f cs d) Q → r x H Q
theorem O2.or {g : Gd} {r r' : R2} {f f' h : Cells → D → D → R} (a : O2 g r f) (b : O2 g r' f') (e : ∀ cs d e, h cs d e = f cs d e ∨ h cs d e = f' cs d e) : O2 g (fun x y H Q => r x y H Q ∨ r' x y H Q) h :=
  fun W H F c cs x y d e' Q I rx ry po => by
    rcases e cs d e' with q | q
    · rw [q] at po; exact .inl (a W H F c cs x y d e' Q I rx ry po)
    · rw [q] at po; exact .inr (b W H F c cs x y d e' Q I rx ry po)

section
variable {X : Cx} {W : WX} {pos : Pos} {a b c : Expr} {ma mb mc : ME}
/-- two parts, then what f says -/
theorem sim2 {ta tb : TE} {r : R2} {f : Cells → D → D → R} {σ : L2.St} {env : Env} {H F : Hp} {c : List Addr} {cs : Cells} {Q : VK}
    (ha : ∀ σ env H F c cs Q, RE (gd X) F c σ env → Ih (gd X) H F c cs → PoE (gd X) (fun a b => W a b σ) H F c (ma env cs) Q → ta σ H Q)
    (hb : ∀ σ env H F c cs Q, RE (gd X) F c σ env → Ih (gd X) H F c cs → PoE (gd X) (fun a b => W a b σ) H F c (mb env cs) Q → tb σ H Q)
    (ho : O2 (gd X) r f) (re : RE (gd X) F c σ env) (I : Ih (gd X) H F c cs) (po : PoE (gd X) (fun a b => W a b σ) H F c (op2 f ma mb env cs) Q) : tOp r ta tb σ H Q := by
  refine ha σ env H F c cs _ re I (PoE.cut po _ fun d cs1 _ H1 F1 c1 v x1 I1 rv po1 => ?_)
  refine hb σ env H1 F1 c1 cs1 _ (re.mono x1.le) I1 (PoE.cut po1 _ fun e cs2 _ H2 F2 c2 u x2 I2 ru po2 => ?_)
  exact ho _ H2 F2 c2 cs2 v u d e Q I2 (rv.mono x2.le) ru po2
theorem xp_op {op : Operator} {r : R2} {f : Cells → D → D → R} (h : OpR X (binaryOp op) r) (o : O2 (gd X) r f) (ha : Xp X W a ma) (hb : Xp X W b mb) : Xp X W (.BinOp a op b pos) (op2 f ma mb) := by
  obtain ⟨ta, pa, sa⟩ := ha
  obtain ⟨tb, pb, sb⟩ := hb
  exact ⟨_, pe_op h pa pb, fun σ env H F c cs Q re I po => sim2 sa sb o re I po⟩
theorem xp_cmp {op : CmpOp} {r : R2} {f : Cells → D → D → R} (h : OpR X (compareOp op) r) (o : O2 (gd X) r f) (ha : Xp X W a ma) (hb : Xp X W b mb) (hm : behindInMarks op b = false) : Xp X W (.Compare a [op] [b] pos) (op2 f ma mb) := by
  obtain ⟨ta, pa, sa⟩ := ha
  obtain ⟨tb, pb, sb⟩ := hb
  exact ⟨_, pe_cmpR h pa pb hm, fun σ env H F c cs Q re I po => sim2 sa sb o re I po⟩
theorem xp_un {op : UnaryOp} {r : V → Hp → VK → Prop} {f : Cells → D → R} (h : UnR X (unaryOp op) r) (o : O1 (gd X) r f) (ha : Xp X W a ma) : Xp X W (.UnaryOp op a pos) (op1 f ma) := by
  obtain ⟨ta, pa, sa⟩ := ha
  refine ⟨_, pe_un h pa, fun σ env H F c cs Q re I po => ?_⟩
  exact sa σ env H F c cs _ re I (PoE.cut po _ fun d cs1 _ H1 F1 c1 v x1 I1 rv po1 => o _ H1 F1 c1 cs1 v d Q I1 rv po1)
/-- a value that is a truth, as a test -/
theorem xt_val (ha : Xp X W a ma) (he : ∀ whole, isTrue a X.env whole = (do let v ← whole; standAt a.pos; holding [v] (truthy v)) := by intro _; rfl) : Xt1 X W a ma := by
  obtain ⟨ta, pa, sa⟩ := ha
  refine ⟨_, pt_val pa he, fun σ env H F c cs Q re I po => ?_⟩
  refine sa σ env H F c cs _ re I ?_
  cases e : ma env cs with
  | ok d cs1 =>
    rw [e] at po
    cases d with
    | bl b => exact fun H' F' c' x I' v rv => by cases rv; exact ⟨b, rfl, po H' F' c' x I'⟩
    | _ => exact po.elim
  | exc n fs cs1 => rw [e] at po; exact po
  | stuck => rw [e] at po; exact po.elim
theorem Xw.t (h : Xw X W a ma) : Xt1 X W a ma := by
  obtain ⟨t, p, s⟩ := h
  exact ⟨t, p.pt, s⟩

/-! ### and, or, not, if .. else -/
/-- two ways on, by a truth -/
def brD (x : D) (cs : Cells) (a b : Cells → R) : R := match x with
  | .bl true => a cs
  | .bl false => b cs
  | _ => .stuck
@[simp] theorem brD_true (cs : Cells) (a b : Cells → R) : brD (.bl true) cs a b = a cs := rfl
@[simp] theorem brD_false (cs : Cells) (a b : Cells → R) : brD (.bl false) cs a b = b cs := rfl
def eAnd (a b : ME) : ME := fun env cs => (a env cs).bind fun x cs1 => brD x cs1 (b env) fun cs2 => .ok (.bl false) cs2
def eOr (a b : ME) : ME := fun env cs => (a env cs).bind fun x cs1 => brD x cs1 (fun cs2 => .ok (.bl true) cs2) (b env)
def notD (cs : Cells) : D → R
  | .bl b => .ok (.bl !b) cs
  | _ => .stuck
def eNot (a : ME) : ME := op1 notD a
def eIf (t a b : ME) : ME := fun env cs => (t env cs).bind fun x cs1 => brD x cs1 (a env) (b env)

theorem PoE.br {g : Gd} {W : XK} {H F : Hp} {c : List Addr} {r : R} {fa fb : Cells → R} {Q : VK} (h : PoE g W H F c (r.bind fun x cs1 => brD x cs1 fa fb) Q) :
    ∀ Q' : Bool → Hp → Prop, (∀ b cs, r = .ok (.bl b) cs → ∀ H1 F1 c1, Xt H F c H1 F1 c1 → Ih g H1 F1 c1 cs → PoE g W H1 F1 c1 (if b = true then fa cs else fb cs) Q → Q' b H1) → PoT g W H F c r Q' := by
  intro Q' hq
  cases r with
  | ok d cs =>
    cases d with
    | bl b => exact fun H1 F1 c1 x I => hq b cs rfl H1 F1 c1 x I (by cases b <;> exact PoE.from x h)
    | _ => exact h.elim
  | exc n fs cs => exact h
  | stuck => exact h.elim
theorem PoT.br {g : Gd} {W : XK} {H F : Hp} {c : List Addr} {r : R} {fa fb : Cells → R} {Q : Bool → Hp → Prop} (h : PoT g W H F c (r.bind fun x cs1 => brD x cs1 fa fb) Q) :
    ∀ Q' : Bool → Hp → Prop, (∀ b cs, r = .ok (.bl b) cs → ∀ H1 F1 c1, Xt H F c H1 F1 c1 → Ih g H1 F1 c1 cs → PoT g W H1 F1 c1 (if b = true then fa cs else fb cs) Q → Q' b H1) → PoT g W H F c r Q' := by
  intro Q' hq
  cases r with
  | ok d cs =>
    cases d with
    | bl b => exact fun H1 F1 c1 x I => hq b cs rfl H1 F1 c1 x I (by cases b <;> exact PoT.from x h)
    | _ => exact h.elim
  | exc n fs cs => exact h
  | stuck => exact h.elim
theorem PoT.map {g : Gd} {W : XK} {H F : Hp} {c : List Addr} {r : R} {Q : Bool → Hp → Prop} (h : PoT g W H F c (r.bind fun x cs1 => notD cs1 x) Q) : PoT g W H F c r fun b H1 => Q (!b) H1 := by
  cases r with
  | ok d cs =>
    cases d with
    | bl b => exact h
    | _ => exact h.elim
  | exc n fs cs => exact h
  | stuck => exact h.elim

theorem xp_if (ht : Xt1 X W c mc) (ha : Xp X W a ma) (hb : Xp X W b mb) : Xp X W (.IfExp c a b pos) (eIf mc ma mb) := by
  obtain ⟨tc, pc, sc⟩ := ht
  obtain ⟨ta, pa, sa⟩ := ha
  obtain ⟨tb, pb, sb⟩ := hb
  refine ⟨_, pe_ifExp pc pa pb, fun σ env H F c cs Q re I po => ?_⟩
  refine sc σ env H F c cs _ re I (PoE.br po _ fun b cs1 _ H1 F1 c1 x I1 po1 => ?_)
  cases b with
  | true => exact iteT (sa σ env H1 F1 c1 cs1 Q (re.mono x.le) I1 po1)
  | false => exact iteF (sb σ env H1 F1 c1 cs1 Q (re.mono x.le) I1 po1)

/-- .. of truths, as values -/
theorem xp_and {rest : List Expr} {p2 : Pos} (ha : Xp X W a ma) (hb : Xp X W (.BoolOp .And (b :: rest) pos) mb) : Xp X W (.BoolOp .And (a :: b :: rest) pos) (eAnd ma mb) := by
  obtain ⟨ta, pa, sa⟩ := ha
  obtain ⟨tb, pb, sb⟩ := hb
  refine ⟨_, pe_and pa pb, fun σ env H F c cs Q re I po => ?_⟩
  refine sa σ env H F c cs _ re I (PoE.cut po _ fun d cs1 _ H1 F1 c1 v x1 I1 rv po1 => ?_)
  cases d with
  | bl k =>
    cases rv
    cases k with
    | true => exact ⟨true, rfl, iteT (sb σ env H1 F1 c1 cs1 Q (re.mono x1.le) I1 po1)⟩
    | false => exact ⟨false, rfl, iteF (PoE.here I1 (.bl false) po1)⟩
  | _ => exact po1.elim
theorem xp_or {rest : List Expr} {p2 : Pos} (ha : Xp X W a ma) (hb : Xp X W (.BoolOp .Or (b :: rest) pos) mb) : Xp X W (.BoolOp .Or (a :: b :: rest) pos) (eOr ma mb) := by
  obtain ⟨ta, pa, sa⟩ := ha
  obtain ⟨tb, pb, sb⟩ := hb
  refine ⟨_, pe_or pa pb, fun σ env H F c cs Q re I po => ?_⟩
  refine sa σ env H F c cs _ re I (PoE.cut po _ fun d cs1 _ H1 F1 c1 v x1 I1 rv po1 => ?_)
  cases d with
  | bl k =>
    cases rv
    cases k with
    | true => exact ⟨true, rfl, iteT (PoE.here I1 (.bl true) po1)⟩
    | false => exact ⟨false, rfl, iteF (sb σ env H1 F1 c1 cs1 Q (re.mono x1.le) I1 po1)⟩
  | _ => exact po1.elim
theorem xp_one {op : BoolOp} (ha : Xp X W a ma) : Xp X W (.BoolOp op [a] pos) ma := by
  obtain ⟨ta, pa, sa⟩ := ha
  exact ⟨_, pe_one pa, sa⟩
theorem xp_not (ha : Xp X W a ma) : Xp X W (.UnaryOp .Not a pos) (eNot ma) := by
  obtain ⟨ta, pa, sa⟩ := ha
  refine ⟨_, pe_not pa, fun σ env H F c cs Q re I po => ?_⟩
  refine sa σ env H F c cs _ re I (PoE.cut po _ fun d cs1 _ H1 F1 c1 v x1 I1 rv po1 => ?_)
  cases d with
  | bl k => cases rv; exact ⟨k, rfl, PoE.here I1 (.bl !k) po1⟩
  | _ => exact po1.elim
/-- .. as tests -/
theorem xw_and {rest : List Expr} (ha : Xt1 X W a ma) (hb : Xw X W (.BoolOp .And (b :: rest) pos) mb) : Xw X W (.BoolOp .And (a :: b :: rest) pos) (eAnd ma mb) := by
  obtain ⟨ta, pa, sa⟩ := ha
  obtain ⟨tb, pb, sb⟩ := hb
  refine ⟨_, pw_and pa pb, fun σ env H F c cs Q re I po => ?_⟩
  refine sa σ env H F c cs _ re I (PoT.br po _ fun b cs1 _ H1 F1 c1 x I1 po1 => ?_)
  cases b with
  | true => exact iteT (sb σ env H1 F1 c1 cs1 Q (re.mono x.le) I1 po1)
  | false => exact iteF (PoT.here I1 po1)
theorem xw_or {rest : List Expr} (ha : Xt1 X W a ma) (hb : Xw X W (.BoolOp .Or (b :: rest) pos) mb) : Xw X W (.BoolOp .Or (a :: b :: rest) pos) (eOr ma mb) := by
  obtain ⟨ta, pa, sa⟩ := ha
  obtain ⟨tb, pb, sb⟩ := hb
  refine ⟨_, pw_or pa pb, fun σ env H F c cs Q re I po => ?_⟩
  refine sa σ env H F c cs _ re I (PoT.br po _ fun b cs1 _ H1 F1 c1 x I1 po1 => ?_)
  cases b with
  | true => exact iteT (PoT.here I1 po1)
  | false => exact iteF (sb σ env H1 F1 c1 cs1 Q (re.mono x.le) I1 po1)
theorem xw_and1 (ha : Xt1 X W a ma) : Xw X W (.BoolOp .And [a] pos) ma := by
  obtain ⟨ta, pa, sa⟩ := ha
  exact ⟨_, pw_and1 pa, sa⟩
theorem xw_or1 (ha : Xt1 X W a ma) : Xw X W (.BoolOp .Or [a] pos) ma := by
  obtain ⟨ta, pa, sa⟩ := ha
  exact ⟨_, pw_or1 pa, sa⟩
theorem xt_not (ha : Xt1 X W a ma) : Xt1 X W (.UnaryOp .Not a pos) (eNot ma) := by
  obtain ⟨ta, pa, sa⟩ := ha
  refine ⟨_, pt_not pa, fun σ env H F c cs Q re I po => ?_⟩
  exact sa σ env H F c cs _ re I (PoT.map po)
end

/-! ### arguments -/
def aNil : MA := fun _ cs => .ok [] cs
def aCons (a : ME) (r : MA) : MA := fun env cs => match a env cs with
  | .ok d cs1 => (match r env cs1 with
    | .ok ds cs2 => .ok (d :: ds) cs2
    | .exc n fs cs2 => .exc n fs cs2
    | .stuck => .stuck)
  | .exc n fs cs1 => .exc n fs cs1
  | .stuck => .stuck
theorem PoA.cut {g : Gd} {W : XK} {H F : Hp} {c : List Addr} {r : RA} {k : List D → Cells → R} {Q : VK} (h : PoE g W H F c (r.bind k) Q) :
    ∀ Q' : List V → Hp → Prop, (∀ ds cs, r = .ok ds cs → ∀ H1 F1 c1 vs, Xt H F c H1 F1 c1 → Ih g H1 F1 c1 cs → RVs g F1 c1 vs ds → PoE g W H1 F1 c1 (k ds cs) Q → Q' vs H1) → PoA g W H F c r Q' := by
  intro Q' hk
  cases r with
  | ok d cs => exact fun H1 F1 c1 x I v rv => hk d cs rfl H1 F1 c1 v x I rv (PoE.from x h)
  | exc n fs cs => exact h
  | stuck => exact h
section
variable {X : Cx} {W : WX} {pos : Pos} {e : Expr} {es : List Expr} {m : ME} {ms : MA}
theorem xa_nil : Xa X W [] aNil := ⟨_, pa_nil, fun _ _ _ _ _ _ _ _ I po => po _ _ _ (Xt.refl _ _ _) I [] .nil⟩
theorem xa_cons (ha : Xp X W e m) (hr : Xa X W es ms) (hs : starEach (e :: es) X.env = (false, eval e X.env) :: starEach es X.env := by rfl) : Xa X W (e :: es) (aCons m ms) := by
  obtain ⟨ta, pa, sa⟩ := ha
  obtain ⟨tb, pb, sb⟩ := hr
  refine ⟨_, pa_cons pa pb hs, fun σ env H F c cs Q re I po => ?_⟩
  refine sa σ env H F c cs _ re I ?_
  unfold aCons at po
  cases h1 : m env cs with
  | ok d cs1 =>
    rw [h1] at po
    simp only at po
    intro H1 F1 c1 x1 I1 v rv
    refine sb σ env H1 F1 c1 cs1 _ (re.mono x1.le) I1 ?_
    cases h2 : ms env cs1 with
    | ok ds cs2 =>
      rw [h2] at po
      exact fun H2 F2 c2 x2 I2 vs rvs => po H2 F2 c2 (x1.trans x2) I2 (v :: vs) (.cons (rv.mono x2.le) rvs)
    | exc n fs cs2 =>
      rw [h2] at po
      have po : ExK (gd X) (fun a b => W a b σ) H F c n fs cs2 := po
      exact ExK.from x1 po
    | stuck => rw [h2] at po; exact po.elim
  | exc n fs cs1 => rw [h1] at po; exact po
  | stuck => rw [h1] at po; exact po.elim
end

/-! ### lists, tuples -/
/-- a new list: one that stands still, or (md) a cell -/
def mkL (md : Bool) (cs : Cells) (ds : List D) : R := if ds.length ≤ sizeLine then (if md then .ok (.loc cs.length) (cs ++ [.lst ds]) else .ok (.lst ds) cs) else .stuck
def mkT (cs : Cells) (ds : List D) : R := if ds.length ≤ sizeLine then .ok (.tup ds) cs else .stuck
section
variable {g : Gd} {W : XK} {H F : Hp} {c : List Addr} {cs : Cells} {vs : List V} {ds : List D} {Q : VK} {md : Bool}
theorem mkL_len (h : PoE g W H F c (mkL md cs ds) Q) (rv : RVs g F c vs ds) : vs.length ≤ sizeLine := by
  unfold mkL at h
  split at h
  · rw [rv.length]; assumption
  · exact h.elim
theorem mkL_ok (I : Ih g H F c cs) (rv : RVs g F c vs ds) (h : PoE g W H F c (mkL md cs ds) Q) {p : Addr} (hp : H p = none) : Q (.ref p) (upd H p (.lst vs)) := by
  unfold mkL at h
  split at h
  · cases md with
    | true =>
      rw [if_pos rfl] at h
      have x := Xt.push I (o := .lst vs) hp
      refine h _ _ _ x (I.push hp ?_) _ (.loc (by rw [← I.len]; simp))
      exact ⟨I.noF hp, vs, upd_same, rv.mono x.le⟩
    | false =>
      rw [if_neg Bool.false_ne_true] at h
      have x := Xt.still I (o := .lst vs) hp
      exact h _ _ _ x (I.still hp) _ (.lst upd_same (rv.mono x.le))
  · exact h.elim
theorem mkT_len (h : PoE g W H F c (mkT cs ds) Q) (rv : RVs g F c vs ds) : vs.length ≤ sizeLine := by
  unfold mkT at h
  split at h
  · rw [rv.length]; assumption
  · exact h.elim
theorem mkT_ok (I : Ih g H F c cs) (rv : RVs g F c vs ds) (h : PoE g W H F c (mkT cs ds) Q) {p : Addr} (hp : H p = none) : Q (.ref p) (upd H p (.tup vs)) := by
  unfold mkT at h
  split at h
  · have x := Xt.still I (o := .tup vs) hp
    exact h _ _ _ x (I.still hp) _ (.tup (.of upd_same) (rv.mono x.le))
  · exact h.elim
end
def eList (md : Bool) (a : MA) : ME := fun env cs => (a env cs).bind fun ds cs1 => mkL md cs1 ds
def eTup (a : MA) : ME := fun env cs => (a env cs).bind fun ds cs1 => mkT cs1 ds
section
variable {X : Cx} {W : WX} {pos : Pos} {es : List Expr} {ms : MA}
theorem xp_list (md : Bool) (h : Xa X W es ms) : Xp X W (.List es pos) (eList md ms) := by
  obtain ⟨t, p, s⟩ := h
  refine ⟨_, pe_lst p, fun σ env H F c cs Q re I po => ?_⟩
  refine s σ env H F c cs _ re I (PoA.cut po _ fun ds cs1 _ H1 F1 c1 vs x1 I1 rv po1 => ?_)
  exact ⟨mkL_len po1 rv, fun p hp => mkL_ok I1 rv po1 hp⟩
theorem xp_tup {x1} (h : Xa X W es ms) : Xp X W (.Tuple es x1 pos) (eTup ms) := by
  obtain ⟨t, p, s⟩ := h
  refine ⟨_, pe_tup p, fun σ env H F c cs Q re I po => ?_⟩
  refine s σ env H F c cs _ re I (PoA.cut po _ fun ds cs1 _ H1 F1 c1 vs x1 I1 rv po1 => ?_)
  exact ⟨mkT_len po1 rv, fun p hp => mkT_ok I1 rv po1 hp⟩
end
/-- what a list holds -/
def listOf (cs : Cells) : D → Option (List D)
  | .lst l => some l
  | .loc n => match cs[n]? with
    | some (.lst l) => some l
    | some (.fz (.lst l)) => some l
    | _ => none
  | _ => none
/-- .. a list, a tuple, the script -/
def seqOf (cs : Cells) : D → Option (List D)
  | .tup l => some l
  | .scr l => some (l.map .int)
  | d => listOf cs d
theorem rvs_ints {g : Gd} {F : Hp} {c : List Addr} : ∀ ns : List Int, RVs g F c (ns.map V.int) (ns.map D.int)
  | [] => .nil
  | n :: r => .cons (.int n) (rvs_ints r)
section
variable {g : Gd} {H F : Hp} {c : List Addr} {cs : Cells} {v : V} {d : D} {ds : List D}
theorem listOf_at (I : Ih g H F c cs) (r : RV g F c v d) (h : listOf cs d = some ds) : ∃ a vs, v = .ref a ∧ H a = some (.lst vs) ∧ RVs g F c vs ds := by
  cases r with
  | lst h1 h2 =>
    simp only [listOf, Option.some.injEq] at h
    subst h
    exact ⟨_, _, rfl, I.sub _ _ h1, h2⟩
  | @loc n a ha =>
    simp only [listOf] at h
    obtain ⟨x, hx⟩ := I.there ha
    have q := I.cell n a x ha hx
    rw [hx] at h
    cases x with
    | lst l =>
      simp only [Option.some.injEq] at h
      subst h
      obtain ⟨_, vs, h1, h2⟩ := q
      exact ⟨a, vs, rfl, h1, h2⟩
    | fz d =>
      cases d with
      | lst l =>
        simp only [Option.some.injEq] at h
        subst h
        obtain ⟨q1, _⟩ := q
        cases q1 with
        | lst h1 h2 => exact ⟨a, _, rfl, I.sub _ _ h1, h2⟩
      | _ => cases h
    | _ => cases h
  | _ => cases h
theorem SqL.up {K : PySem.W.Frag} (hs : ∀ a o, F a = some o → H a = some o) {a : Addr} {xs : List V} (h : SqL K F a xs) : SqL K H a xs := by
  rcases h with (h | ⟨o, h⟩) | h
  · exact .inl (.inl (hs _ _ h))
  · exact .inl (.inr ⟨o, hs _ _ h⟩)
  · exact .inr h
theorem SqT.up {K : PySem.W.Frag} (hs : ∀ a o, F a = some o → H a = some o) {a : Addr} {xs : List V} (h : SqT K F a xs) : SqT K H a xs := by
  rcases h with (h | ⟨o, h⟩) | h
  · exact .inl (.inl (hs _ _ h))
  · exact .inl (.inr ⟨o, hs _ _ h⟩)
  · exact .inr h
theorem seqOf_at (I : Ih g H F c cs) (r : RV g F c v d) (h : seqOf cs d = some ds) : ∃ a vs, v = .ref a ∧ (SqL g.K H a vs ∨ SqT g.K H a vs) ∧ RVs g F c vs ds := by
  have fl : listOf cs d = some ds → ∃ a vs, v = .ref a ∧ (SqL g.K H a vs ∨ SqT g.K H a vs) ∧ RVs g F c vs ds := fun h => by
    obtain ⟨a, vs, e, h1, h2⟩ := listOf_at I r h
    exact ⟨a, vs, e, .inl (.inl (.inl h1)), h2⟩
  cases d with
  | tup l =>
    simp only [seqOf, Option.some.injEq] at h
    subst h
    cases r with
    | tup h1 h2 => exact ⟨_, _, rfl, .inr (SqT.up I.sub h1), h2⟩
  | scr l =>
    simp only [seqOf, Option.some.injEq] at h
    subst h
    cases r with
    | scr h1 => exact ⟨_, _, rfl, .inl (SqL.up I.sub h1), rvs_ints _⟩
  | _ => exact fl h
end

/-! ### arithmetic, joining -/
def addD (md : Bool) (cs : Cells) (x y : D) : R := match x, y with
  | .int i, .int j => .ok (.int (i + j)) cs
  | .str a, .str b => if a.length + b.length ≤ sizeLine then .ok (.str (a ++ b)) cs else .stuck
  | .tup a, .tup b => mkT cs (a ++ b)
  | x, y => match listOf cs x, listOf cs y with
    | some a, some b => mkL md cs (a ++ b)
    | _, _ => .stuck
def subD (cs : Cells) (x y : D) : R := match x, y with
  | .int i, .int j => .ok (.int (i - j)) cs
  | _, _ => .stuck
abbrev big : Int := 18446744073709551616
def mulD (md : Bool) (cs : Cells) (x y : D) : R := match x, y with
  | .int i, .int j => if (-big < i ∧ i < big) ∨ (-big < j ∧ j < big) then .ok (.int (i * j)) cs else .stuck
  | .str a, .int j => if -1000 ≤ j ∧ j ≤ 1000 ∧ a.length ≤ 1000 then .ok (.str (List.replicate j.toNat a).flatten) cs else .stuck
  | x, .int k => match listOf cs x with
    | some a => if 0 ≤ k ∧ k ≤ 1000 ∧ a.length ≤ 1000 then mkL md cs (List.replicate k.toNat a).flatten else .stuck
    | none => .stuck
  | _, _ => .stuck
def fdivD (cs : Cells) (x y : D) : R := match x, y with
  | .int i, .int j => if 0 < j ∧ j < big then .ok (.int (i / j)) cs else .stuck
  | _, _ => .stuck
def modD (cs : Cells) (x y : D) : R := match x, y with
  | .int i, .int j => if 0 < j then .ok (.int (i % j)) cs else .stuck
  | _, _ => .stuck
def powD (cs : Cells) (x y : D) : R := match x, y with
  | .int i, .int j => if 0 ≤ j ∧ j ≤ 1000000 ∧ -big < i ∧ i < big then .ok (.int (i ^ j.toNat)) cs else .stuck
  | _, _ => .stuck
def negD (cs : Cells) : D → R
  | .int i => .ok (.int (-i)) cs
  | _ => .stuck

/-- a binary rule on two ints -/
theorem o2_ii {g : Gd} {C : Int → Int → Prop} {h : Int → Int → V} {f : Cells → D → D → R} (k : Int → Int → D) (hk : ∀ g F c i j, RV g F c (h i j) (k i j))
    (hf : ∀ cs d e, f cs d e = .stuck ∨ ∃ i j, d = .int i ∧ e = .int j ∧ C i j ∧ f cs d e = .ok (k i j) cs) : O2 g (fun x y H Q => ∃ i j, x = .int i ∧ y = .int j ∧ C i j ∧ Q (h i j) H) f := by
  intro W H F c cs x y d e Q I rx ry po
  rcases hf cs d e with q | ⟨i, j, rfl, rfl, hC, q⟩
  · rw [q] at po; exact po.elim
  · rw [q] at po
    cases rx; cases ry
    exact ⟨i, j, rfl, rfl, hC, PoE.here I (hk _ _ _ i j) po⟩
theorem o2_ii0 {g : Gd} {h : Int → Int → V} {f : Cells → D → D → R} (k : Int → Int → D) (hk : ∀ g F c i j, RV g F c (h i j) (k i j))
    (hf : ∀ cs d e, f cs d e = .stuck ∨ ∃ i j, d = .int i ∧ e = .int j ∧ f cs d e = .ok (k i j) cs) : O2 g (rI0 h) f := by
  intro W H F c cs x y d e Q I rx ry po
  rcases hf cs d e with q | ⟨i, j, rfl, rfl, q⟩
  · rw [q] at po; exact po.elim
  · rw [q] at po
    cases rx; cases ry
    exact ⟨i, j, rfl, rfl, PoE.here I (hk _ _ _ i j) po⟩
section
variable {X : Cx} {W : WX} {pos : Pos} {a b : Expr} {ma mb : ME}
theorem o2_sub {g : Gd} : O2 g (rI0 fun i j => .int (i - j)) subD := by
  refine o2_ii0 (fun i j => .int (i - j)) (fun _ _ _ _ _ => .int _) fun cs d e => ?_
  unfold subD
  split
  · exact .inr ⟨_, _, rfl, rfl, rfl⟩
  · exact .inl rfl
theorem xp_sub (ha : Xp X W a ma) (hb : Xp X W b mb) : Xp X W (.BinOp a .Sub b pos) (op2 subD ma mb) := xp_op op_sub o2_sub ha hb
theorem log2_big {j : Int} (h0 : 0 < j) (h1 : j < big) : j.natAbs.log2 < 9000 := by
  have : j.natAbs < 2 ^ 64 := by have : (2 : Nat) ^ 64 = 18446744073709551616 := by decide
                                 unfold big at h1; omega
  have := Nat.log2_lt (n := j.natAbs) (k := 64) (by omega) |>.mpr this
  omega
theorem o2_fdiv {g : Gd} : O2 g (rI CDivW fun i j => .int (i / j)) fdivD := by
  refine o2_ii (fun i j => .int (i / j)) (fun _ _ _ _ _ => .int _) fun cs d e => ?_
  unfold fdivD
  split
  · split
    · rename_i h
      exact .inr ⟨_, _, rfl, rfl, ⟨h.1, log2_big h.1 h.2⟩, rfl⟩
    · exact .inl rfl
  · exact .inl rfl
theorem xp_fdiv (ha : Xp X W a ma) (hb : Xp X W b mb) : Xp X W (.BinOp a .FloorDiv b pos) (op2 fdivD ma mb) := xp_op op_fdivW o2_fdiv ha hb
theorem o2_mod {g : Gd} : O2 g (rI (fun _ j => 0 < j) fun i j => .int (i % j)) modD := by
  refine o2_ii (fun i j => .int (i % j)) (fun _ _ _ _ _ => .int _) fun cs d e => ?_
  unfold modD
  split
  · split
    · exact .inr ⟨_, _, rfl, rfl, by assumption, rfl⟩
    · exact .inl rfl
  · exact .inl rfl
theorem xp_mod (ha : Xp X W a ma) (hb : Xp X W b mb) : Xp X W (.BinOp a .Mod b pos) (op2 modD ma mb) := xp_op op_mod o2_mod ha hb
theorem o2_pow {g : Gd} : O2 g (rI CPow fun i j => .int (i ^ j.toNat)) powD := by
  refine o2_ii (fun i j => .int (i ^ j.toNat)) (fun _ _ _ _ _ => .int _) fun cs d e => ?_
  unfold powD
  split
  · split
    · rename_i h
      refine .inr ⟨_, _, rfl, rfl, ⟨h.1, h.2.1, ?_⟩, rfl⟩
      have : (2 : Nat) ^ 64 = 18446744073709551616 := by decide
      unfold big at h; omega
    · exact .inl rfl
  · exact .inl rfl
theorem xp_pow (ha : Xp X W a ma) (hb : Xp X W b mb) : Xp X W (.BinOp a .Pow b pos) (op2 powD ma mb) := xp_op op_pow o2_pow ha hb
theorem o1_neg {g : Gd} : O1 g (rU fun i => .int (-i)) negD := by
  intro W H F c cs x d Q I rx po
  cases d with
  | int i => cases rx; exact ⟨i, rfl, PoE.here I (.int _) po⟩
  | _ => exact po.elim
theorem xp_neg (ha : Xp X W a ma) : Xp X W (.UnaryOp .USub a pos) (op1 negD ma) := xp_un un_neg o1_neg ha

def rAddAll (K : PySem.W.Frag) : R2 := fun x y H Q => rI0 (fun i j => .int (i + j)) x y H Q ∨ (∃ i j, x = .str i ∧ y = .str j ∧ i.length + j.length ≤ sizeLine ∧ Q (.str (i ++ j)) H) ∨ rCatA K x y H Q ∨ rCat x y H Q
theorem op_addAll : OpR X (binaryOp .Add) (rAddAll X.K) := op_add.or (op_add_str.or (op_catA.or op_cat))
theorem str_app (a b : List Nat) : ((⟨a.toArray⟩ : Str) ++ (⟨b.toArray⟩ : Str)) = ⟨(a ++ b).toArray⟩ := by
  show Str.append _ _ = _
  unfold Str.append
  simp
theorem str_len (a : List Nat) : (⟨a.toArray⟩ : Str).length = a.length := by
  unfold Str.length
  simp
theorem o2_add {g : Gd} (md : Bool) : O2 g (rAddAll g.K) (addD md) := by
  intro W H F c cs x y d e Q I rx ry po
  unfold addD at po
  split at po
  · cases rx; cases ry
    exact .inl ⟨_, _, rfl, rfl, PoE.here I (.int _) po⟩
  · split at po
    · cases rx; cases ry
      refine .inr (.inl ⟨_, _, rfl, rfl, by rw [str_len, str_len]; assumption, ?_⟩)
      rw [str_app]
      exact PoE.here I (.str _) po
    · exact po.elim
  · rename_i l m
    cases rx with
    | tup h1 h2 =>
      cases ry with
      | tup h3 h4 =>
        have rv := h2.append h4
        have len := mkT_len po rv
        rw [List.length_append] at len
        refine .inr (.inr (.inl ⟨_, _, _, _, rfl, rfl, SqT.up I.sub h1, SqT.up I.sub h3, len, fun e => ?_, fun ne e => ?_, fun _ _ p hp => mkT_ok I rv po hp⟩))
        · subst e
          cases h2
          unfold mkT at po
          split at po
          · exact po _ _ _ (Xt.refl _ _ _) I _ (.tup h3 h4)
          · exact po.elim
        · subst e
          cases h4
          unfold mkT at po
          split at po
          · rw [List.append_nil] at po
            exact po _ _ _ (Xt.refl _ _ _) I _ (.tup h1 h2)
          · exact po.elim
  · split at po
    · rename_i l1 l2 e1 e2
      obtain ⟨p1, vs1, rfl, g1, r1⟩ := listOf_at I rx e1
      obtain ⟨p2, vs2, rfl, g2, r2⟩ := listOf_at I ry e2
      have rv := r1.append r2
      have len := mkL_len po rv
      rw [List.length_append] at len
      exact .inr (.inr (.inr ⟨_, _, _, _, rfl, rfl, g1, g2, len, fun p hp => mkL_ok I rv po hp⟩))
    · exact po.elim
theorem xp_add (md : Bool) (ha : Xp X W a ma) (hb : Xp X W b mb) : Xp X W (.BinOp a .Add b pos) (op2 (addD md) ma mb) := xp_op op_addAll (o2_add md) ha hb
end
end L3

namespace L3
open PySem L2

section
variable {X : Cx}
theorem pe_orE {e : Expr} {t u : TE} (a : PE X e t) (b : PE X e u) : PE X e (fun σ H Q => t σ H Q ∨ u σ H Q) := ⟨fun pins s σ H Q I h => h.elim (a.run pins s σ H Q I) (b.run pins s σ H Q I)⟩
theorem pt_orE {e : Expr} {t u : TT} (a : PT X e t) (b : PT X e u) : PT X e (fun σ H Q => t σ H Q ∨ u σ H Q) := ⟨fun pins s σ H Q I h => h.elim (a.run pins s σ H Q I) (b.run pins s σ H Q I)⟩
theorem pi_orE {tg e : Expr} {t u : TI} (a : PI X tg e t) (b : PI X tg e u) : PI X tg e (fun σ H R => t σ H R ∨ u σ H R) := ⟨fun pins s σ H R I h => h.elim (a.run pins s σ H R I) (b.run pins s σ H R I)⟩
/-- text * int -/
theorem op_mulS : OpR X (binaryOp .Mult) (fun x y H Q => ∃ (l : List Nat) (j : Int), x = .str ⟨l.toArray⟩ ∧ y = .int j ∧ -1000 ≤ j ∧ j ≤ 1000 ∧ l.length ≤ 1000 ∧ Q (.str ⟨(List.replicate j.toNat l).flatten.toArray⟩) H) := by
  intro pins s σ H x y v u Q I rx ry h
  obtain ⟨l, j, rfl, rfl, h2, h3, h5, q⟩ := h
  obtain ⟨t, rfl⟩ := rx
  obtain ⟨t2, rfl⟩ := ry
  have hlen : (⟨l.toArray⟩ : Str).length = l.length := str_len l
  have hfold : ∀ (n : Nat) (acc : Array Nat), (List.replicate n (⟨l.toArray⟩ : Str).cps).foldl (· ++ ·) acc = acc ++ (List.replicate n l).flatten.toArray := by
    intro n
    induction n with
    | zero => intro acc; simp
    | succ n ih => intro acc; simp only [List.replicate_succ, List.foldl_cons, ih, List.flatten_cons]; simp [Array.append_assoc]
  refine PySem.P.mul_str (by simp; omega) (fun h1 _ => ?_) (fun h1 _ => ?_) ?_
  · rw [hlen]
    have : (2 ^ 63 - 1) / j ≥ 1000 := by
      have h := Int.ediv_le_ediv (a := 1000 * j) (b := 2 ^ 63 - 1) (c := j) (by omega) (by omega)
      rw [Int.mul_ediv_cancel _ (by omega)] at h
      exact h
    exact Int.not_lt.mpr (Int.le_trans (by omega : (l.length : Int) ≤ 1000) this)
  · rw [hlen]
    have hmul : l.length * j.toNat ≤ 1000 * 1000 := Nat.mul_le_mul h5 (by omega)
    have : Builtin.Str.tooLong (l.length * j.toNat) = decide (l.length * j.toNat > 16777216) := by rfl
    rw [this]
    simp; omega
  · by_cases h1 : j < 1
    · rw [if_pos h1]
      have : j.toNat = 0 := by omega
      rw [this] at q
      refine ⟨by decide, .str _, H, I.tok _, ⟨_, rfl⟩, q⟩
    · rw [if_neg h1, hlen]
      by_cases h4 : (j == 1 || l.length == 0) = true
      · rw [if_pos h4]
        refine ⟨.str _, H, I, ⟨_, rfl⟩, ?_⟩
        simp only [Bool.or_eq_true, beq_iff_eq] at h4
        rcases h4 with h4 | h4
        · subst h4
          simpa using q
        · have : l = [] := List.length_eq_zero_iff.mp h4
          subst this
          have e : (List.replicate j.toNat ([] : List Nat)).flatten = [] := by simp
          rw [e] at q
          exact q
      · rw [if_neg h4]
        have hmul : l.length * j.toNat ≤ 1000 * 1000 := Nat.mul_le_mul h5 (by omega)
        refine ⟨?_, ?_⟩
        · rw [hfold]
          show ((#[] : Array Nat) ++ _).size ≤ sizeLine
          rw [show sizeLine = 16777216 from sizeLine_eq]
          simp
          rw [Nat.mul_comm]
          omega
        · refine ⟨.str _, H, I.tok _, ⟨_, rfl⟩, ?_⟩
          rw [hfold]
          simpa using q
end

/-! ### multiplication -/
section
variable {X : Cx} {W : WX} {pos : Pos} {a b c : Expr} {ma mb mc : ME}
def rMulAll : R2 := fun x y H Q => rI CMul (fun i j => .int (i * j)) x y H Q ∨ (∃ (l : List Nat) (j : Int), x = .str ⟨l.toArray⟩ ∧ y = .int j ∧ -1000 ≤ j ∧ j ≤ 1000 ∧ l.length ≤ 1000 ∧ Q (.str ⟨(List.replicate j.toNat l).flatten.toArray⟩) H) ∨ rRep x y H Q
theorem op_mulAll : OpR X (binaryOp .Mult) rMulAll := op_mul.or (op_mulS.or op_rep)
theorem rvs_rep {g : Gd} {F : Hp} {c : List Addr} {vs : List V} {ds : List D} (r : RVs g F c vs ds) : ∀ n : Nat, RVs g F c (List.replicate n vs).flatten (List.replicate n ds).flatten
  | 0 => .nil
  | n + 1 => by simp only [List.replicate_succ, List.flatten_cons]; exact r.append (rvs_rep r n)
theorem rep_len (n : Nat) (vs : List V) : (List.replicate n vs).flatten.length = n * vs.length := by
  induction n with
  | zero => simp
  | succ n ih => simp only [List.replicate_succ, List.flatten_cons, List.length_append, ih, Nat.succ_mul]; omega
theorem o2_mul {g : Gd} (md : Bool) : O2 g rMulAll (mulD md) := by
  intro W H F c cs x y d e Q I rx ry po
  unfold mulD at po
  split at po
  · split at po
    · rename_i h
      cases rx; cases ry
      have p : (2 : Int) ^ 64 = 18446744073709551616 := by decide
      refine .inl ⟨_, _, rfl, rfl, ?_, PoE.here I (.int _) po⟩
      unfold CMul
      unfold big at h
      rw [p]; exact h
    · exact po.elim
  · split at po
    · rename_i h
      cases rx; cases ry
      exact .inr (.inl ⟨_, _, rfl, rfl, h.1, h.2.1, h.2.2, PoE.here I (.str _) po⟩)
    · exact po.elim
  · split at po
    · rename_i h1
      split at po
      · rename_i h2
        obtain ⟨p1, vs1, rfl, g1, r1⟩ := listOf_at I rx h1
        cases ry
        have rv := rvs_rep r1 ‹Int›.toNat
        have len := mkL_len po rv
        rw [rep_len] at len
        exact .inr (.inr ⟨_, _, _, rfl, rfl, g1, by omega, by omega, by rw [Nat.mul_comm]; exact len, fun p hp => mkL_ok I rv po hp⟩)
      · exact po.elim
    · exact po.elim
  · exact po.elim
theorem xp_mul (md : Bool) (ha : Xp X W a ma) (hb : Xp X W b mb) : Xp X W (.BinOp a .Mult b pos) (op2 (mulD md) ma mb) := xp_op op_mulAll (o2_mul md) ha hb
end

/-! ### equality -/
mutual
def py0 : D → Option PyData
  | .non => some .none
  | .bl b => some (.bool b)
  | .int i => some (.int i)
  | .str l => some (.str ⟨l.toArray⟩)
  | .lst l => (py0s l).map .list
  | .tup l => (py0s l).map .tuple
  | .dct l => (py0k l).map .dict
  | .scr _ => none
  | .obj _ _ => none
  | .loc _ => none
def py0s : List D → Option (List PyData)
  | [] => some []
  | d :: r => match py0 d, py0s r with
    | some p, some q => some (p :: q)
    | _, _ => none
def py0k : List (Kd × D) → Option (List (PyData × PyData))
  | [] => some []
  | (k, d) :: r => match py0 d, py0k r with
    | some p, some q => some (((match k with | .inl i => PyData.int i | .inr l => PyData.str ⟨l.toArray⟩), p) :: q)
    | _, _ => none
end
def pyOf (cs : Cells) : D → Option PyData
  | .loc n => match cs[n]? with
    | some (.lst l) => (py0s l).map .list
    | some (.dct l) => (py0k l).map .dict
    | some (.fz d) => py0 d
    | _ => none
  | d => py0 d
mutual
def noDict : PyData → Bool
  | .list xs | .tuple xs => noDicts xs
  | .dict _ => false
  | _ => true
def noDicts : List PyData → Bool
  | [] => true
  | x :: xs => noDict x && noDicts xs
end
mutual
theorem noDict_of : ∀ {p : PyData}, p.canLay0 = true → noDict p = true
  | .none, _ => rfl
  | .bool _, _ => rfl
  | .int _, _ => rfl
  | .str _, _ => rfl
  | .list xs, h => noDicts_of (by simpa [PyData.canLay0] using h)
  | .tuple xs, h => noDicts_of (by simpa [PyData.canLay0] using h)
  | .dict _, h => by simp [PyData.canLay0] at h
theorem noDicts_of : ∀ {p : List PyData}, PyData.canLayAll0 p = true → noDicts p = true
  | [], _ => rfl
  | x :: xs, h => by
    simp only [PyData.canLayAll0, Bool.and_eq_true] at h
    simp only [noDicts, noDict_of h.1, noDicts_of h.2, Bool.and_self]
end
section
variable {g : Gd} {H F : Hp} {c : List Addr} {cs : Cells}
mutual
theorem py0_dp (hs : ∀ a o, F a = some o → H a = some o) : ∀ {v : V} {d : D} {p : PyData}, RV g F c v d → py0 d = some p → noDict p = true → Dp g.K H v p
  | _, _, _, .non, h, _ => by simp only [py0, Option.some.injEq] at h; subst h; exact .non
  | _, _, _, .bl b, h, _ => by simp only [py0, Option.some.injEq] at h; subst h; exact .bl b
  | _, _, _, .int i, h, _ => by simp only [py0, Option.some.injEq] at h; subst h; exact .int i
  | _, _, _, .str l, h, _ => by simp only [py0, Option.some.injEq] at h; subst h; exact .str _
  | _, _, _, .lst h1 h2, h, n => by
    simp only [py0, Option.map_eq_some_iff] at h
    obtain ⟨q, e, rfl⟩ := h
    exact .lst (.inl (.inl (hs _ _ h1))) (py0s_dp hs h2 e n)
  | _, _, _, .tup h1 h2, h, n => by
    simp only [py0, Option.map_eq_some_iff] at h
    obtain ⟨q, e, rfl⟩ := h
    exact .tup (SqT.up hs h1) (py0s_dp hs h2 e n)
  | _, _, _, .dct h1 h2, h, n => by
    simp only [py0, Option.map_eq_some_iff] at h
    obtain ⟨q, e, rfl⟩ := h
    cases n
  | _, _, _, .scr _, h, _ => by simp [py0] at h
  | _, _, _, .obj _ _ _, h, _ => by simp [py0] at h
  | _, _, _, .loc _, h, _ => by simp [py0] at h
theorem py0s_dp (hs : ∀ a o, F a = some o → H a = some o) : ∀ {v : List V} {d : List D} {p : List PyData}, RVs g F c v d → py0s d = some p → noDicts p = true → DpAll g.K H v p
  | _, _, _, .nil, h, _ => by simp only [py0s, Option.some.injEq] at h; subst h; exact .nil
  | _, _, _, .cons a b, h, n => by
    simp only [py0s] at h
    split at h
    · rename_i e1 e2
      simp only [Option.some.injEq] at h
      subst h
      simp only [noDicts, Bool.and_eq_true] at n
      exact .cons (py0_dp hs a e1 n.1) (py0s_dp hs b e2 n.2)
    · cases h
end
theorem pyOf_dp (I : Ih g H F c cs) {v : V} {d : D} {p : PyData} (r : RV g F c v d) (h : pyOf cs d = some p) (n : noDict p = true) : Dp g.K H v p := by
  cases r with
  | @loc k a ha =>
    simp only [pyOf] at h
    obtain ⟨x, hx⟩ := I.there ha
    have q := I.cell k a x ha hx
    rw [hx] at h
    cases x with
    | lst l =>
      simp only [Option.map_eq_some_iff] at h
      obtain ⟨y, e, rfl⟩ := h
      obtain ⟨_, vs, h1, h2⟩ := q
      exact .lst (.inl (.inl h1)) (py0s_dp I.sub h2 e n)
    | dct l =>
      simp only [Option.map_eq_some_iff] at h
      obtain ⟨y, e, rfl⟩ := h
      cases n
    | fz d => exact py0_dp I.sub q.1 h n
    | set l => cases h
    | ins n l => cases h
  | non => exact py0_dp (c := c) I.sub .non h n
  | bl b => exact py0_dp (c := c) I.sub (.bl b) h n
  | int i => exact py0_dp (c := c) I.sub (.int i) h n
  | str l => exact py0_dp (c := c) I.sub (.str l) h n
  | lst a b => exact py0_dp I.sub (.lst a b) h n
  | tup a b => exact py0_dp I.sub (.tup a b) h n
  | dct a b => exact py0_dp I.sub (.dct a b) h n
  | scr a => exact py0_dp (c := c) I.sub (.scr a) h n
  | obj a b e => exact py0_dp I.sub (.obj a b e) h n
end
def eqB (cs : Cells) (d e : D) : Option Bool := match d, e with
  | .str a, .str b => some (decide (a = b))
  | .int i, .int j => some (decide (i = j))
  | .bl a, .bl b => some (decide (a = b))
  | d, e => match pyOf cs d, pyOf cs e with
    | some p, some q => if SeqAt.shaped p && SeqAt.shaped q then some (PyData.eqv p q) else none
    | _, _ => none
def eqD (cs : Cells) (d e : D) : R := match eqB cs d e with
  | some b => .ok (.bl b) cs
  | none => .stuck
def neD (cs : Cells) (d e : D) : R := match eqB cs d e with
  | some b => .ok (.bl !b) cs
  | none => .stuck
theorem str_eq (a b : List Nat) : decide ((V.str ⟨a.toArray⟩ : V) = V.str ⟨b.toArray⟩) = decide (a = b) := by
  by_cases h : a = b
  · simp [h]
  · have : ¬ (V.str ⟨a.toArray⟩ : V) = V.str ⟨b.toArray⟩ := fun e => h (by simpa using e)
    simp [h, this]
section
variable {X : Cx} {W : WX} {pos : Pos} {a b c : Expr} {ma mb mc : ME}
theorem o2_eq {g : Gd} : O2 g (fun x y H Q => rEq x y H Q ∨ rEqD g.K x y H Q) eqD := by
  intro W H F c cs x y d e Q I rx ry po
  unfold eqD eqB at po
  split at po
  · rename_i b hb
    split at hb
    · simp only [Option.some.injEq] at hb
      subst hb
      cases rx; cases ry
      exact .inl ⟨rfl, by rw [str_eq]; exact PoE.here I (.bl _) po⟩
    · simp only [Option.some.injEq] at hb
      subst hb
      cases rx; cases ry
      exact .inl ⟨rfl, by simpa using PoE.here I (.bl _) po⟩
    · simp only [Option.some.injEq] at hb
      subst hb
      cases rx; cases ry
      exact .inl ⟨rfl, by simpa using PoE.here I (.bl _) po⟩
    · split at hb
      · rename_i p q e1 e2
        split at hb
        · rename_i sh
          simp only [Bool.and_eq_true] at sh
          simp only [Option.some.injEq] at hb
          subst hb
          exact .inr ⟨p, q, pyOf_dp I rx e1 (noDict_of (SeqAt.canLay_of_shaped sh.1)), pyOf_dp I ry e2 (noDict_of (SeqAt.canLay_of_shaped sh.2)), sh.1, sh.2, PoE.here I (.bl _) po⟩
        · cases hb
      · cases hb
  · exact po.elim
theorem o2_ne {g : Gd} : O2 g (fun x y H Q => rNe x y H Q ∨ rNeD g.K x y H Q) neD := by
  intro W H F c cs x y d e Q I rx ry po
  unfold neD eqB at po
  split at po
  · rename_i b hb
    split at hb
    · simp only [Option.some.injEq] at hb
      subst hb
      cases rx; cases ry
      exact .inl ⟨rfl, by rw [str_eq]; exact PoE.here I (.bl _) po⟩
    · simp only [Option.some.injEq] at hb
      subst hb
      cases rx; cases ry
      exact .inl ⟨rfl, by simpa using PoE.here I (.bl _) po⟩
    · simp only [Option.some.injEq] at hb
      subst hb
      cases rx; cases ry
      exact .inl ⟨rfl, by simpa using PoE.here I (.bl _) po⟩
    · split at hb
      · rename_i p q e1 e2
        split at hb
        · rename_i sh
          simp only [Bool.and_eq_true] at sh
          simp only [Option.some.injEq] at hb
          subst hb
          exact .inr ⟨p, q, pyOf_dp I rx e1 (noDict_of (SeqAt.canLay_of_shaped sh.1)), pyOf_dp I ry e2 (noDict_of (SeqAt.canLay_of_shaped sh.2)), sh.1, sh.2, PoE.here I (.bl _) po⟩
        · cases hb
      · cases hb
  · exact po.elim
theorem xp_eq (hu : X.A.units + 64 < cLine) (ha : Xp X W a ma) (hb : Xp X W b mb) (hm : behindInMarks .Eq b = false := by exact nomark _) : Xp X W (.Compare a [.Eq] [b] pos) (op2 eqD ma mb) := xp_cmp (op_eq.or (op_eqD hu)) o2_eq ha hb hm
theorem xp_ne (hu : X.A.units + 64 < cLine) (ha : Xp X W a ma) (hb : Xp X W b mb) (hm : behindInMarks .NotEq b = false := by exact nomark _) : Xp X W (.Compare a [.NotEq] [b] pos) (op2 neD ma mb) := xp_cmp (op_ne.or (op_neD hu)) o2_ne ha hb hm
/-- a comparison as a test -/
theorem xt_cmp {op : CmpOp} {r : R2} {f : Cells → D → D → R} (h : OpR X (compareOp op) r) (o : O2 (gd X) r f) (ha : Xp X W a ma) (hb : Xp X W b mb) (hm : behindInMarks op b = false) : Xt1 X W (.Compare a [op] [b] pos) (op2 f ma mb) := by
  obtain ⟨ta, pa, sa⟩ := ha
  obtain ⟨tb, pb, sb⟩ := hb
  refine ⟨_, pt_cmpR h pa pb hm, fun σ env H F c cs Q re I po => ?_⟩
  refine sim2 sa sb o re I (Q := fun x H' => ∃ k, x = .bl k ∧ Q k H') ?_
  cases e : op2 f ma mb env cs with
  | ok d cs1 =>
    rw [e] at po
    cases d with
    | bl b => exact fun H' F' c' x I' v rv => by cases rv; exact ⟨b, rfl, po H' F' c' x I'⟩
    | _ => exact po.elim
  | exc n fs cs1 => rw [e] at po; exact po
  | stuck => rw [e] at po; exact po.elim
theorem xt_eq (hu : X.A.units + 64 < cLine) (ha : Xp X W a ma) (hb : Xp X W b mb) (hm : behindInMarks .Eq b = false := by exact nomark _) : Xt1 X W (.Compare a [.Eq] [b] pos) (op2 eqD ma mb) := xt_cmp (op_eq.or (op_eqD hu)) o2_eq ha hb hm
theorem xt_ne (hu : X.A.units + 64 < cLine) (ha : Xp X W a ma) (hb : Xp X W b mb) (hm : behindInMarks .NotEq b = false := by exact nomark _) : Xt1 X W (.Compare a [.NotEq] [b] pos) (op2 neD ma mb) := xt_cmp (op_ne.or (op_neD hu)) o2_ne ha hb hm

/-! ### order -/
def ltD (cs : Cells) (d e : D) : R := match d, e with
  | .int i, .int j => .ok (.bl (decide (i < j))) cs
  | _, _ => .stuck
def leD (cs : Cells) (d e : D) : R := match d, e with
  | .int i, .int j => .ok (.bl (decide (i ≤ j))) cs
  | _, _ => .stuck
def gtD (cs : Cells) (d e : D) : R := match d, e with
  | .int i, .int j => .ok (.bl (decide (j < i))) cs
  | _, _ => .stuck
def geD (cs : Cells) (d e : D) : R := match d, e with
  | .int i, .int j => .ok (.bl (decide (j ≤ i))) cs
  | _, _ => .stuck
theorem o2_lt {g : Gd} : O2 g (rI0 fun i j => .bl (decide (i < j))) ltD := by
  refine o2_ii0 (fun i j => .bl (decide (i < j))) (fun _ _ _ _ _ => .bl _) fun cs d e => ?_
  unfold ltD
  split
  · exact .inr ⟨_, _, rfl, rfl, rfl⟩
  · exact .inl rfl
theorem o2_le {g : Gd} : O2 g (rI0 fun i j => .bl (decide (i ≤ j))) leD := by
  refine o2_ii0 (fun i j => .bl (decide (i ≤ j))) (fun _ _ _ _ _ => .bl _) fun cs d e => ?_
  unfold leD
  split
  · exact .inr ⟨_, _, rfl, rfl, rfl⟩
  · exact .inl rfl
theorem o2_gt {g : Gd} : O2 g (rI0 fun i j => .bl (decide (j < i))) gtD := by
  refine o2_ii0 (fun i j => .bl (decide (j < i))) (fun _ _ _ _ _ => .bl _) fun cs d e => ?_
  unfold gtD
  split
  · exact .inr ⟨_, _, rfl, rfl, rfl⟩
  · exact .inl rfl
theorem o2_ge {g : Gd} : O2 g (rI0 fun i j => .bl (decide (j ≤ i))) geD := by
  refine o2_ii0 (fun i j => .bl (decide (j ≤ i))) (fun _ _ _ _ _ => .bl _) fun cs d e => ?_
  unfold geD
  split
  · exact .inr ⟨_, _, rfl, rfl, rfl⟩
  · exact .inl rfl
theorem xp_lt (ha : Xp X W a ma) (hb : Xp X W b mb) (hm : behindInMarks .Lt b = false := by exact nomark _) : Xp X W (.Compare a [.Lt] [b] pos) (op2 ltD ma mb) := xp_cmp op_lt o2_lt ha hb hm
theorem xt_lt (ha : Xp X W a ma) (hb : Xp X W b mb) (hm : behindInMarks .Lt b = false := by exact nomark _) : Xt1 X W (.Compare a [.Lt] [b] pos) (op2 ltD ma mb) := xt_cmp op_lt o2_lt ha hb hm
theorem xp_le (ha : Xp X W a ma) (hb : Xp X W b mb) (hm : behindInMarks .LtE b = false := by exact nomark _) : Xp X W (.Compare a [.LtE] [b] pos) (op2 leD ma mb) := xp_cmp op_le o2_le ha hb hm
theorem xt_le (ha : Xp X W a ma) (hb : Xp X W b mb) (hm : behindInMarks .LtE b = false := by exact nomark _) : Xt1 X W (.Compare a [.LtE] [b] pos) (op2 leD ma mb) := xt_cmp op_le o2_le ha hb hm
theorem xp_gt (ha : Xp X W a ma) (hb : Xp X W b mb) (hm : behindInMarks .Gt b = false := by exact nomark _) : Xp X W (.Compare a [.Gt] [b] pos) (op2 gtD ma mb) := xp_cmp op_gt o2_gt ha hb hm
theorem xt_gt (ha : Xp X W a ma) (hb : Xp X W b mb) (hm : behindInMarks .Gt b = false := by exact nomark _) : Xt1 X W (.Compare a [.Gt] [b] pos) (op2 gtD ma mb) := xt_cmp op_gt o2_gt ha hb hm
theorem xp_ge (ha : Xp X W a ma) (hb : Xp X W b mb) (hm : behindInMarks .GtE b = false := by exact nomark _) : Xp X W (.Compare a [.GtE] [b] pos) (op2 geD ma mb) := xp_cmp op_ge o2_ge ha hb hm
theorem xt_ge (ha : Xp X W a ma) (hb : Xp X W b mb) (hm : behindInMarks .GtE b = false := by exact nomark _) : Xt1 X W (.Compare a [.GtE] [b] pos) (op2 geD ma mb) := xt_cmp op_ge o2_ge ha hb hm

/-! ### a < b < c -/
def eChain (f f' : Cells → D → D → R) (a b c : ME) : ME := fun env cs => (a env cs).bind fun x cs1 => (b env cs1).bind fun y cs2 => (f cs2 x y).bind fun z cs3 => brD z cs3 (fun cs4 => (c env cs4).bind fun w cs5 => f' cs5 y w) fun cs4 => .ok (.bl false) cs4
theorem simChain {ta tb tc : TE} {r r' : R2} {f f' : Cells → D → D → R} {σ : L2.St} {env : Env} {H F : Hp} {c : List Addr} {cs : Cells} {Q : VK}
    (ha : ∀ σ env H F c cs Q, RE (gd X) F c σ env → Ih (gd X) H F c cs → PoE (gd X) (fun a b => W a b σ) H F c (ma env cs) Q → ta σ H Q)
    (hb : ∀ σ env H F c cs Q, RE (gd X) F c σ env → Ih (gd X) H F c cs → PoE (gd X) (fun a b => W a b σ) H F c (mb env cs) Q → tb σ H Q)
    (hc : ∀ σ env H F c cs Q, RE (gd X) F c σ env → Ih (gd X) H F c cs → PoE (gd X) (fun a b => W a b σ) H F c (mc env cs) Q → tc σ H Q)
    (ho : O2 (gd X) r f) (ho' : O2 (gd X) r' f') (re : RE (gd X) F c σ env) (I : Ih (gd X) H F c cs) (po : PoE (gd X) (fun a b => W a b σ) H F c (eChain f f' ma mb mc env cs) Q) : tChain r r' ta tb tc σ H Q := by
  refine ha σ env H F c cs _ re I (PoE.cut po _ fun d cs1 _ H1 F1 c1 v x1 I1 rv po1 => ?_)
  refine hb σ env H1 F1 c1 cs1 _ (re.mono x1.le) I1 (PoE.cut po1 _ fun e cs2 _ H2 F2 c2 u x2 I2 ru po2 => ?_)
  refine ho _ H2 F2 c2 cs2 v u d e _ I2 (rv.mono x2.le) ru (PoE.cut po2 _ fun z cs3 _ H3 F3 c3 w x3 I3 rw' po3 => ?_)
  cases z with
  | bl k =>
    cases rw'
    cases k with
    | true =>
      refine ⟨true, rfl, iteT ?_⟩
      refine hc σ env H3 F3 c3 cs3 _ (((re.mono x1.le).mono x2.le).mono x3.le) I3 (PoE.cut po3 _ fun z2 cs4 _ H4 F4 c4 w2 x4 I4 rw2 po4 => ?_)
      exact ho' _ H4 F4 c4 cs4 u w2 e z2 Q I4 ((ru.mono x3.le).mono x4.le) rw2 po4
    | false => exact ⟨false, rfl, iteF (PoE.here I3 (.bl false) po3)⟩
  | _ => exact po3.elim
theorem xp_chain {op op' : CmpOp} {r r' : R2} {f f' : Cells → D → D → R} (h : OpR X (compareOp op) r) (o : O2 (gd X) r f) (h' : OpR X (compareOp op') r') (o' : O2 (gd X) r' f') (ha : Xp X W a ma) (hb : Xp X W b mb) (hc : Xp X W c mc) (hm : lastMarks [op, op'] [b, c] = false := by with_unfolding_all rfl) : Xp X W (.Compare a [op, op'] [b, c] pos) (eChain f f' ma mb mc) := by
  obtain ⟨ta, pa, sa⟩ := ha
  obtain ⟨tb, pb, sb⟩ := hb
  obtain ⟨tc, pc, sc⟩ := hc
  exact ⟨_, pe_chain h h' pa pb pc hm, fun σ env H F c cs Q re I po => simChain sa sb sc o o' re I po⟩
theorem xt_chain {op op' : CmpOp} {r r' : R2} {f f' : Cells → D → D → R} (h : OpR X (compareOp op) r) (o : O2 (gd X) r f) (h' : OpR X (compareOp op') r') (o' : O2 (gd X) r' f') (ha : Xp X W a ma) (hb : Xp X W b mb) (hc : Xp X W c mc) (hm : lastMarks [op, op'] [b, c] = false := by with_unfolding_all rfl) : Xt1 X W (.Compare a [op, op'] [b, c] pos) (eChain f f' ma mb mc) := by
  obtain ⟨ta, pa, sa⟩ := ha
  obtain ⟨tb, pb, sb⟩ := hb
  obtain ⟨tc, pc, sc⟩ := hc
  refine ⟨_, pt_chain h h' pa pb pc hm, fun σ env H F c cs Q re I po => ?_⟩
  refine simChain sa sb sc o o' re I (Q := fun x H' => ∃ k, x = .bl k ∧ Q k H') ?_
  cases e : eChain f f' ma mb mc env cs with
  | ok d cs1 =>
    rw [e] at po
    cases d with
    | bl b => exact fun H' F' c' x I' v rv => by cases rv; exact ⟨b, rfl, po H' F' c' x I'⟩
    | _ => exact po.elim
  | exc n fs cs1 => rw [e] at po; exact po
  | stuck => rw [e] at po; exact po.elim

/-! ### is -/
def isB (k : Option Bool) (cs : Cells) (d : D) : R := .ok (.bl (match k, d with
  | none, .non => true
  | some b, .bl b' => decide (b' = b)
  | _, _ => false)) cs
def isNB (k : Option Bool) (cs : Cells) (d : D) : R := .ok (.bl !(match k, d with
  | none, .non => true
  | some b, .bl b' => decide (b' = b)
  | _, _ => false)) cs
theorem rv_non {g : Gd} {F : Hp} {c : List Addr} {v : V} {d : D} (r : RV g F c v d) : decide (v = .non) = (match d with | .non => true | _ => false) := by
  cases r <;> rfl
theorem rv_bl {g : Gd} {F : Hp} {c : List Addr} {v : V} {d : D} (b : Bool) (r : RV g F c v d) : decide (v = .bl b) = (match d with | .bl b' => decide (b' = b) | _ => false) := by
  cases r <;> first | rfl | simp
theorem xp_isN {j} {p : Pos} (ha : Xp X W a ma) : Xp X W (.Compare a [.Is] [.Constant .none j p] pos) (op1 (isB none) ma) := by
  obtain ⟨ta, pa, sa⟩ := ha
  refine ⟨_, pe_cmp (pc_isN pa) rfl, fun σ env H F c cs Q re I po => ?_⟩
  refine sa σ env H F c cs _ re I (PoE.cut po _ fun d cs1 _ H1 F1 c1 v x1 I1 rv po1 => ?_)
  rw [rv_non rv]
  cases d <;> exact PoE.here I1 (.bl _) po1
theorem xp_notN {j} {p : Pos} (ha : Xp X W a ma) : Xp X W (.Compare a [.IsNot] [.Constant .none j p] pos) (op1 (isNB none) ma) := by
  obtain ⟨ta, pa, sa⟩ := ha
  refine ⟨_, pe_cmp (pc_notN pa) rfl, fun σ env H F c cs Q re I po => ?_⟩
  refine sa σ env H F c cs _ re I (PoE.cut po _ fun d cs1 _ H1 F1 c1 v x1 I1 rv po1 => ?_)
  rw [rv_non rv]
  cases d <;> exact PoE.here I1 (.bl _) po1
theorem op_isB {X : Cx} : OpR X (compareOp .Is) (fun x y H Q => ∃ b, y = .bl b ∧ Q (.bl (decide (x = .bl b))) H) := by
  intro pins s σ H x y v u Q I rx ry h
  obtain ⟨b, rfl, q⟩ := h
  cases (show u = Value.bool b from ry)
  have hp : plainIs v (.bool b) = true := by
    cases x <;> first | (cases (show v = _ from rx); rfl) | (obtain ⟨t, rfl⟩ := rx; rfl)
  by_cases e : x = .bl b
  · subst e
    cases (show v = Value.bool b from rx)
    exact wpAny_is_self hp ⟨.bl true, H, I, rfl, by simpa using q⟩
  · have ne : v ≠ .bool b := by
      rintro rfl
      cases x <;> first | (cases (show Value.bool b = _ from rx); try exact e rfl) | (obtain ⟨t, z⟩ := rx; cases z)
    exact wpAny_is_other hp ne ⟨.bl false, H, I, rfl, by simpa [e] using q⟩
theorem op_isNB {X : Cx} : OpR X (compareOp .IsNot) (fun x y H Q => ∃ b, y = .bl b ∧ Q (.bl (!decide (x = .bl b))) H) := by
  intro pins s σ H x y v u Q I rx ry h
  obtain ⟨b, rfl, q⟩ := h
  cases (show u = Value.bool b from ry)
  have hp : plainIs v (.bool b) = true := by
    cases x <;> first | (cases (show v = _ from rx); rfl) | (obtain ⟨t, rfl⟩ := rx; rfl)
  by_cases e : x = .bl b
  · subst e
    cases (show v = Value.bool b from rx)
    exact wpAny_isNot_self hp ⟨.bl false, H, I, rfl, by simpa using q⟩
  · have ne : v ≠ .bool b := by
      rintro rfl
      cases x <;> first | (cases (show Value.bool b = _ from rx); try exact e rfl) | (obtain ⟨t, z⟩ := rx; cases z)
    exact wpAny_isNot_other hp ne ⟨.bl true, H, I, rfl, by simpa [e] using q⟩
theorem xp_isB {j} {p : Pos} {b : Bool} (ha : Xp X W a ma) : Xp X W (.Compare a [.Is] [.Constant (.bool b) j p] pos) (op1 (isB (some b)) ma) := by
  obtain ⟨ta, pa, sa⟩ := ha
  refine ⟨_, pe_cmpR op_isB pa pe_bl (nomark _), fun σ env H F c cs Q re I po => ?_⟩
  refine sa σ env H F c cs _ re I (PoE.cut po _ fun d cs1 _ H1 F1 c1 v x1 I1 rv po1 => ?_)
  refine ⟨b, rfl, ?_⟩
  rw [rv_bl b rv]
  cases d <;> exact PoE.here I1 (.bl _) po1
theorem xp_isNB {j} {p : Pos} {b : Bool} (ha : Xp X W a ma) : Xp X W (.Compare a [.IsNot] [.Constant (.bool b) j p] pos) (op1 (isNB (some b)) ma) := by
  obtain ⟨ta, pa, sa⟩ := ha
  refine ⟨_, pe_cmpR op_isNB pa pe_bl (nomark _), fun σ env H F c cs Q re I po => ?_⟩
  refine sa σ env H F c cs _ re I (PoE.cut po _ fun d cs1 _ H1 F1 c1 v x1 I1 rv po1 => ?_)
  refine ⟨b, rfl, ?_⟩
  rw [rv_bl b rv]
  cases d <;> exact PoE.here I1 (.bl _) po1
/-- any comparison that is a value, as a test -/
theorem xt_of {t : TE} {op : CmpOp} (hp : PE X (.Compare a [op] [b] pos) t) : True := trivial
end
end L3

namespace L3
open PySem L2

/-! ### statements -/
def R.toS (r : R) (env : Env) (k : D → Cells → S) : S := match r with
  | .ok d cs => k d cs
  | .exc n fs cs => .exc n fs env cs
  | .stuck => .stuck
@[simp] theorem R.toS_ok (d : D) (cs : Cells) (env : Env) (k : D → Cells → S) : (R.ok d cs).toS env k = k d cs := rfl
@[simp] theorem R.toS_exc (n : Str) (fs : List (Str × D)) (cs : Cells) (env : Env) (k : D → Cells → S) : (R.exc n fs cs).toS env k = .exc n fs env cs := rfl
@[simp] theorem R.toS_stuck (env : Env) (k : D → Cells → S) : R.stuck.toS env k = .stuck := rfl
def S.bind (s : S) (k : Env → Cells → S) : S := match s with
  | .nx e c => k e c
  | s => s
@[simp] theorem S.bind_nx (e : Env) (c : Cells) (k : Env → Cells → S) : (S.nx e c).bind k = k e c := rfl
@[simp] theorem S.bind_rt (d : D) (c : Cells) (k : Env → Cells → S) : (S.rt d c).bind k = .rt d c := rfl
@[simp] theorem S.bind_exc (n : Str) (fs : List (Str × D)) (e : Env) (c : Cells) (k : Env → Cells → S) : (S.exc n fs e c).bind k = .exc n fs e c := rfl
@[simp] theorem S.bind_bk (e : Env) (c : Cells) (k : Env → Cells → S) : (S.bk e c).bind k = .bk e c := rfl
@[simp] theorem S.bind_ct (e : Env) (c : Cells) (k : Env → Cells → S) : (S.ct e c).bind k = .ct e c := rfl
@[simp] theorem S.bind_stuck (k : Env → Cells → S) : S.stuck.bind k = .stuck := rfl
def brS (x : D) (a b : S) : S := match x with
  | .bl true => a
  | .bl false => b
  | _ => .stuck
@[simp] theorem brS_true (a b : S) : brS (.bl true) a b = a := rfl
@[simp] theorem brS_false (a b : S) : brS (.bl false) a b = b := rfl

def sNx : MS := fun env cs => .nx env cs
def sSeq (a b : MS) : MS := fun env cs => (a env cs).bind b
def sAsg (i : Nat) (m : ME) : MS := fun env cs => (m env cs).toS env fun d cs1 => .nx (env.set i (some d)) cs1
def sIf (t : ME) (a b : MS) : MS := fun env cs => (t env cs).toS env fun d cs1 => brS d (a env cs1) (b env cs1)
def sRet (m : ME) : MS := fun env cs => (m env cs).toS env fun d cs1 => .rt d cs1
def sDrop (m : ME) : MS := fun env cs => (m env cs).toS env fun _ cs1 => .nx env cs1
def sBk : MS := fun env cs => .bk env cs
def sCt : MS := fun env cs => .ct env cs
def sNo : MS := fun _ _ => .stuck

theorem PoS.cut {g : Gd} {W : WX} {Dn : Ends} {H F : Hp} {c : List Addr} {r : R} {env : Env} {σ : L2.St} {k : D → Cells → S} (re : RE g F c σ env) (h : PoS g W Dn H F c (r.toS env k)) :
    ∀ Q' : VK, (∀ d cs, r = .ok d cs → ∀ H1 F1 c1 v, Xt H F c H1 F1 c1 → Ih g H1 F1 c1 cs → RV g F1 c1 v d → PoS g W Dn H1 F1 c1 (k d cs) → Q' v H1) → PoE g (fun a b => W a b σ) H F c r Q' := by
  intro Q' hk
  cases r with
  | ok d cs => exact fun H1 F1 c1 x I v rv => hk d cs rfl H1 F1 c1 v x I rv (PoS.from x h)
  | exc n fs cs => exact fun H1 F1 c1 x I C dx vs a b d => h H1 F1 c1 x I σ C dx vs (re.mono x.le) a b d
  | stuck => exact h.elim
theorem PoS.br {g : Gd} {W : WX} {Dn : Ends} {H F : Hp} {c : List Addr} {r : R} {env : Env} {σ : L2.St} {a b : Cells → S} (re : RE g F c σ env) (h : PoS g W Dn H F c (r.toS env fun d cs1 => brS d (a cs1) (b cs1))) :
    ∀ Q' : Bool → Hp → Prop, (∀ t cs, r = .ok (.bl t) cs → ∀ H1 F1 c1, Xt H F c H1 F1 c1 → Ih g H1 F1 c1 cs → PoS g W Dn H1 F1 c1 (if t = true then a cs else b cs) → Q' t H1) → PoT g (fun a b => W a b σ) H F c r Q' := by
  intro Q' hq
  cases r with
  | ok d cs =>
    cases d with
    | bl t => exact fun H1 F1 c1 x I => hq t cs rfl H1 F1 c1 x I (by cases t <;> exact PoS.from x h)
    | _ => exact h.elim
  | exc n fs cs => exact fun H1 F1 c1 x I C dx vs a b d => h H1 F1 c1 x I σ C dx vs (re.mono x.le) a b d
  | stuck => exact h.elim
theorem PoS.next {g : Gd} {W : WX} {Dn : Ends} {H F : Hp} {c : List Addr} {env : Env} {σ : L2.St} {cs : Cells} (I : Ih g H F c cs) (re : RE g F c σ env) (h : PoS g W Dn H F c (.nx env cs)) : Dn.nx σ H := h H F c (Xt.refl _ _ _) I σ re
section
variable {X : Cx} {W : WX} {pos : Pos} {e t : Expr} {m mt : ME} {st : Stmt} {ss tt : List Stmt} {a b : MS}
theorem sms_nil : Sms X W [] sNx := ⟨_, pss_nil, fun _ _ _ _ _ _ _ re I po => PoS.next I re po⟩
theorem seq_sim {ta tb : TS} (sa : ∀ σ env H F c cs Dn, RE (gd X) F c σ env → Ih (gd X) H F c cs → PoS (gd X) W Dn H F c (a env cs) → ta Dn σ H)
    (sb : ∀ σ env H F c cs Dn, RE (gd X) F c σ env → Ih (gd X) H F c cs → PoS (gd X) W Dn H F c (b env cs) → tb Dn σ H) :
    ∀ σ env H F c cs Dn, RE (gd X) F c σ env → Ih (gd X) H F c cs → PoS (gd X) W Dn H F c (sSeq a b env cs) → tSeq ta tb Dn σ H := by
  intro σ env H F c cs Dn re I po
  refine sa σ env H F c cs _ re I ?_
  unfold sSeq at po
  cases h : a env cs with
  | nx e1 c1 => rw [h] at po; exact fun H' F' c' x I' σ' re' => sb σ' e1 H' F' c' c1 Dn re' I' (PoS.from x po)
  | rt d c1 => rw [h] at po; exact po
  | bk e1 c1 => rw [h] at po; exact po
  | ct e1 c1 => rw [h] at po; exact po
  | exc n fs e1 c1 => rw [h] at po; exact po
  | stuck => rw [h] at po; exact po.elim
theorem sms_cons (ha : Sm X W st a) (hb : Sms X W ss b) : Sms X W (st :: ss) (sSeq a b) := by
  obtain ⟨ta, pa, sa⟩ := ha
  obtain ⟨tb, pb, sb⟩ := hb
  exact ⟨_, pss_cons pa pb, seq_sim sa sb⟩
theorem sms_one (ha : Sm X W st a) : Sms X W [st] a := by
  obtain ⟨ta, pa, sa⟩ := ha
  exact ⟨_, pss_one pa, sa⟩
theorem sm_set {i : Nat} {x : Str} {pos' : Pos} (hN : X.N.Nodup) (hi : X.N[i]? = some x) (hx : Loc X.env.scope x) (h : Xp X W e m) (hs : swapsWith e (some (.Name x pos')) pos.line X.env = pure false := by rfl) (hf : X.fn x = true ∨ X.env.scope.names.lookup x = some .local := by first | exact .inl rfl | exact .inr rfl | assumption) : Sm X W (.Assign [.Name x pos'] e pos) (sAsg i m) := by
  obtain ⟨t, p, s⟩ := h
  refine ⟨_, ps_set hN hi hx p hs hf, fun σ env H F c cs Dn re I po => ?_⟩
  refine s σ env H F c cs _ re I (PoS.cut re po _ fun d cs1 _ H1 F1 c1 v x1 I1 rv po1 => ?_)
  exact PoS.next I1 ((re.mono x1.le).set i rv) po1
theorem sm_ret (h : Xp X W e m) : Sm X W (.Return (some e) pos) (sRet m) := by
  obtain ⟨t, p, s⟩ := h
  refine ⟨_, ps_ret p, fun σ env H F c cs Dn re I po => ?_⟩
  exact s σ env H F c cs _ re I (PoS.cut re po _ fun d cs1 _ H1 F1 c1 v x1 I1 rv po1 => po1 _ _ _ (Xt.refl _ _ _) I1 v rv)
theorem sm_retN : Sm X W (.Return none pos) (sRet (eC .non)) := ⟨_, ps_retN, fun σ env H F c cs Dn re I po => po _ _ _ (Xt.refl _ _ _) I .non .non⟩
theorem sm_expr (h : Xp X W e m) (hs : swapsWith e none pos.line X.env = pure false := by rfl) : Sm X W (.Expr e pos) (sDrop m) := by
  obtain ⟨t, p, s⟩ := h
  refine ⟨_, ps_expr p hs, fun σ env H F c cs Dn re I po => ?_⟩
  exact s σ env H F c cs _ re I (PoS.cut re po _ fun d cs1 _ H1 F1 c1 v x1 I1 rv po1 => PoS.next I1 (re.mono x1.le) po1)
theorem sm_pass : Sm X W (.Pass pos) sNx := ⟨_, ps_pass, fun _ _ _ _ _ _ _ re I po => PoS.next I re po⟩
theorem sm_break : Sm X W (.Break pos) sBk := ⟨_, ps_break, fun _ _ _ _ _ _ _ re I po => po _ _ _ (Xt.refl _ _ _) I _ re⟩
theorem sm_continue : Sm X W (.Continue pos) sCt := ⟨_, ps_continue, fun _ _ _ _ _ _ _ re I po => po _ _ _ (Xt.refl _ _ _) I _ re⟩
theorem sm_no : Sm X W st sNo := ⟨_, ps_never, fun _ _ _ _ _ _ _ _ _ po => po⟩
theorem sm_if (ht : Xt1 X W t mt) (ha : Sms X W ss a) (hb : Sms X W tt b) : Sm X W (.If t ss tt pos) (sIf mt a b) := by
  obtain ⟨tc, pc, sc⟩ := ht
  obtain ⟨ta, pa, sa⟩ := ha
  obtain ⟨tb, pb, sb⟩ := hb
  refine ⟨_, ps_if pc pa pb, fun σ env H F c cs Dn re I po => ?_⟩
  refine sc σ env H F c cs _ re I (PoS.br (a := fun cs1 => a env cs1) (b := fun cs1 => b env cs1) re po _ fun k cs1 _ H1 F1 c1 x I1 po1 => ?_)
  cases k with
  | true => exact iteT (sa σ env H1 F1 c1 cs1 Dn (re.mono x.le) I1 po1)
  | false => exact iteF (sb σ env H1 F1 c1 cs1 Dn (re.mono x.le) I1 po1)
end

/-! ### loops -/
open Classical in
/-- one item behind the other; chk: what must hold whenever the next one is asked for -/
noncomputable def forL (chk : Cells → Prop) (tg : D → Env → Option Env) (body : MS) : List D → Env → Cells → S
  | [], env, cs => if chk cs then .nx env cs else .stuck
  | d :: ds, env, cs => if chk cs then (match tg d env with
    | none => .stuck
    | some env1 => match body env1 cs with
      | .nx e c => forL chk tg body ds e c
      | .ct e c => forL chk tg body ds e c
      | .bk e c => .nx e c
      | r => r) else .stuck
theorem forL_chk {chk : Cells → Prop} {tg : D → Env → Option Env} {body : MS} {ds : List D} {env : Env} {cs : Cells} (h : ¬ chk cs) : forL chk tg body ds env cs = .stuck := by
  cases ds <;> simp [forL, h]
/-- an iterator gives these items, as long as ok holds -/
structure Itk (g : Gd) (J : It) (items : List D) (ok : Hp → Hp → List Addr → Cells → Prop) : Prop where
  go : ∀ (i : Nat) H F c cs, Ih g H F c cs → ok H F c cs → i < items.length → J.go i H
  yld : ∀ (i : Nat) H F c cs d, Ih g H F c cs → ok H F c cs → items[i]? = some d → ∀ x H', J.yld i H x H' → ∃ F', Xt H F c H' F' c ∧ Ih g H' F' c cs ∧ RV g F' c x d
  stop : ∀ (i : Nat) H F c cs, Ih g H F c cs → ok H F c cs → i = items.length → J.stop i H
/-- a target -/
def Tgt (X : Cx) (tg : Expr) (f : D → Env → Option Env) (own : List Nat) : Prop := ∃ tG, PG X tg tG ∧ ∀ σ env H F c cs v d env1 Q, RE (gd X) F c σ env → Ih (gd X) H F c cs → RV (gd X) F c v d → f d env = some env1 → (∀ σ1, RE (gd X) F c σ1 env1 → L2.wipe σ1 own = L2.wipe σ own → Q σ1 H) → tG v σ H Q
theorem wipe_get (σ : L2.St) (j : Nat) : ∀ vs : List Nat, (L2.wipe σ vs)[j]? = if j ∈ vs then (if j < σ.length then some none else none) else σ[j]?
  | [] => by simp [L2.wipe]
  | v :: vs => by
    unfold L2.wipe
    have ih := wipe_get σ j vs
    by_cases h : j = v
    · subst h
      by_cases hl : j < σ.length
      · rw [List.getElem?_set_self (by rw [wipe_length]; exact hl)]; simp [hl]
      · rw [List.getElem?_eq_none (by rw [List.length_set, wipe_length]; omega)]; simp [hl]
    · rw [List.getElem?_set_ne (Ne.symm h), ih]
      simp [h]
theorem wipe_set {σ : L2.St} {i : Nat} {x : Option V} {vs : List Nat} (h : i ∈ vs) : L2.wipe (σ.set i x) vs = L2.wipe σ vs := by
  apply List.ext_getElem?
  intro j
  rw [wipe_get, wipe_get]
  by_cases hj : j ∈ vs
  · simp [hj]
  · have : j ≠ i := fun e => hj (e ▸ h)
    simp [hj, List.getElem?_set_ne (Ne.symm this)]
theorem wipe_wipe (σ : L2.St) (vs : List Nat) : L2.wipe (L2.wipe σ vs) vs = L2.wipe σ vs := by
  apply List.ext_getElem?
  intro j
  rw [wipe_get, wipe_length]
  by_cases hj : j ∈ vs <;> simp [hj, wipe_get]
theorem for_sim {g : Gd} {W : WX} {J : It} {items : List D} {kn : Hp → List Addr → Prop} {chk : Cells → Prop} (K : Itk g J items fun H F c cs => kn F c ∧ chk cs) (km : ∀ F c F' c', Le F c F' c' → kn F c → kn F' c')
    {tg : D → Env → Option Env} {body : MS} {tG : TG} {tb : TS} (hg : ∀ σ env H F c cs v d env1 Q, RE g F c σ env → Ih g H F c cs → RV g F c v d → tg d env = some env1 → (∀ σ1, RE g F c σ1 env1 → Q σ1 H) → tG v σ H Q)
    (hb : ∀ σ env H F c cs Dn, RE g F c σ env → Ih g H F c cs → PoS g W Dn H F c (body env cs) → tb Dn σ H)
    {σ : L2.St} {env : Env} {H F : Hp} {c : List Addr} {cs : Cells} {Dn : Ends} (re : RE g F c σ env) (I : Ih g H F c cs) (hk : kn F c) (po : PoS g W Dn H F c (forL chk tg body items env cs)) :
    ∃ Wi : Nat → Nat → L2.St → Hp → Prop, (∃ m, Wi 0 m σ H) ∧ ∀ i m σ H, Wi i m σ H →
      (J.stop i H ∧ Dn.nx σ H) ∨ (J.go i H ∧ ∃ N : L2.St → Hp → Prop, (∀ σ' H', N σ' H' → ∃ m', m' < m ∧ Wi (i + 1) m' σ' H') ∧ ∀ x H', J.yld i H x H' → tG x σ H' fun σ2 H2 => tb { Dn with nx := N, ct := N, bk := Dn.nx } σ2 H2) := by
  refine ⟨fun i m σ H => m = items.length - i ∧ i ≤ items.length ∧ ∃ env F c cs, RE g F c σ env ∧ Ih g H F c cs ∧ kn F c ∧ PoS g W Dn H F c (forL chk tg body (items.drop i) env cs), ⟨_, rfl, Nat.zero_le _, env, F, c, cs, re, I, hk, by simpa using po⟩, ?_⟩
  rintro i m σ H ⟨rfl, hi, env, F, c, cs, re, I, hk, po⟩
  by_cases hc : chk cs
  · by_cases hlt : i < items.length
    · refine .inr ⟨K.go i H F c cs I ⟨hk, hc⟩ hlt, fun σ' H' => ∃ m', m' < items.length - i ∧ (m' = items.length - (i + 1) ∧ i + 1 ≤ items.length ∧ ∃ env F c cs, RE g F c σ' env ∧ Ih g H' F c cs ∧ kn F c ∧ PoS g W Dn H' F c (forL chk tg body (items.drop (i + 1)) env cs)), fun σ' H' h => h, fun x H' y => ?_⟩
      obtain ⟨F', x1, I1, rv⟩ := K.yld i H F c cs items[i] I ⟨hk, hc⟩ (by simp [hlt]) x H' y
      rw [List.drop_eq_getElem_cons hlt] at po
      simp only [forL, hc, if_true] at po
      cases ht : tg items[i] env with
      | none => rw [ht] at po; exact po.elim
      | some env1 =>
        rw [ht] at po
        simp only at po
        refine hg σ env H' F' c cs x _ env1 _ (re.mono x1.le) I1 rv ht fun σ1 re1 => ?_
        have po' := PoS.from x1 po
        have k1 := km _ _ _ _ x1.le hk
        refine hb σ1 env1 H' F' c cs _ re1 I1 ?_
        have nxt : ∀ {e1 : Env} {c1 : Cells} {H2 F2 : Hp} {c2 : List Addr} {σ2 : L2.St}, Xt H' F' c H2 F2 c2 → Ih g H2 F2 c2 c1 → RE g F2 c2 σ2 e1 → PoS g W Dn H' F' c (forL chk tg body (items.drop (i + 1)) e1 c1) →
            ∃ m', m' < items.length - i ∧ (m' = items.length - (i + 1) ∧ i + 1 ≤ items.length ∧ ∃ env F c cs, RE g F c σ2 env ∧ Ih g H2 F c cs ∧ kn F c ∧ PoS g W Dn H2 F c (forL chk tg body (items.drop (i + 1)) env cs)) :=
          fun x2 I2 re2 p2 => ⟨_, by omega, rfl, hlt, _, _, _, _, re2, I2, km _ _ _ _ x2.le k1, PoS.from x2 p2⟩
        cases hbd : body env1 cs with
        | nx e1 c1 => rw [hbd] at po'; exact fun H2 F2 c2 x2 I2 σ2 re2 => nxt x2 I2 re2 po'
        | ct e1 c1 => rw [hbd] at po'; exact fun H2 F2 c2 x2 I2 σ2 re2 => nxt x2 I2 re2 po'
        | bk e1 c1 => rw [hbd] at po'; exact po'
        | rt d c1 => rw [hbd] at po'; exact po'
        | exc n fs e1 c1 => rw [hbd] at po'; exact po'
        | stuck => rw [hbd] at po'; exact po'.elim
    · have e : i = items.length := by omega
      subst e
      rw [List.drop_length] at po
      simp only [forL, hc, if_true] at po
      exact .inl ⟨K.stop _ H F c cs I ⟨hk, hc⟩ rfl, PoS.next I re po⟩
  · rw [forL_chk hc] at po
    exact po.elim
section
variable {g : Gd}
theorem itk_list {a : Addr} {d : D} {items : List D} (hd : ∀ l, d ≠ .tup l) : Itk g (Itl g.K a) items fun H F c cs => RV g F c (.ref a) d ∧ seqOf cs d = some items := by
  have get : ∀ {H F c cs}, Ih g H F c cs → RV g F c (.ref a) d ∧ seqOf cs d = some items → ∃ vs, SqL g.K H a vs ∧ RVs g F c vs items := by
    rintro H F c cs I ⟨r, h⟩
    have fl : listOf cs d = some items → ∃ vs, SqL g.K H a vs ∧ RVs g F c vs items := fun h => by
      obtain ⟨b, vs, e, h1, h2⟩ := listOf_at I r h
      cases e
      exact ⟨vs, .inl (.inl h1), h2⟩
    cases d with
    | tup l => exact absurd rfl (hd l)
    | scr l =>
      simp only [seqOf, Option.some.injEq] at h
      subst h
      cases r with
      | scr h1 => exact ⟨_, SqL.up I.sub h1, rvs_ints _⟩
    | _ => exact fl h
  refine ⟨fun i H F c cs I ok hi => ?_, fun i H F c cs d' I ok hd x H' y => ?_, fun i H F c cs I ok hi => ?_⟩
  · obtain ⟨vs, h1, h2⟩ := get I ok
    exact ⟨vs, vs[i]'(by rw [h2.length]; exact hi), h1, by simp⟩
  · obtain ⟨vs, h1, h2⟩ := get I ok
    obtain ⟨rfl, y⟩ := y
    obtain ⟨v, e, rv⟩ := h2.get hd
    have := y vs h1
    rw [e] at this
    cases this
    exact ⟨F, Xt.refl _ _ _, I, rv⟩
  · obtain ⟨vs, h1, h2⟩ := get I ok
    exact ⟨vs, h1, by rw [h2.length]; omega⟩
theorem itk_tup {a : Addr} {items : List D} : Itk g (Itt g.K a) items fun H F c cs => RV g F c (.ref a) (.tup items) ∧ seqOf cs (.tup items) = some items := by
  have get : ∀ {H F c cs}, Ih g H F c cs → RV g F c (.ref a) (.tup items) → ∃ vs, SqT g.K H a vs ∧ RVs g F c vs items := by
    intro H F c cs I r
    cases r with
    | tup h1 h2 => exact ⟨_, SqT.up I.sub h1, h2⟩
  refine ⟨fun i H F c cs I ok hi => ?_, fun i H F c cs d' I ok hd x H' y => ?_, fun i H F c cs I ok hi => ?_⟩
  · obtain ⟨vs, h1, h2⟩ := get I ok.1
    exact ⟨vs, vs[i]'(by rw [h2.length]; exact hi), h1, by simp⟩
  · obtain ⟨vs, h1, h2⟩ := get I ok.1
    obtain ⟨rfl, y⟩ := y
    obtain ⟨v, e, rv⟩ := h2.get hd
    have := y vs h1
    rw [e] at this
    cases this
    exact ⟨F, Xt.refl _ _ _, I, rv⟩
  · obtain ⟨vs, h1, h2⟩ := get I ok.1
    exact ⟨vs, h1, by rw [h2.length]; omega⟩
def rangeD (lo : Int) (n : Nat) : List D := (List.range n).map fun (i : Nat) => D.int (lo + (i : Int))
@[simp] theorem rangeD_length (lo : Int) (n : Nat) : (rangeD lo n).length = n := by simp [rangeD]
theorem itk_range {lo : Int} {n : Nat} : Itk g (Itr lo n) (rangeD lo n) fun _ _ _ _ => True ∧ True := by
  refine ⟨fun i H F c cs I ok hi => (by simpa using hi : i < n), fun i H F c cs d' I ok hd x H' y => ?_, fun i H F c cs I ok hi => ?_⟩
  · obtain ⟨rfl, rfl⟩ := y
    have hl : i < n := by simpa using (List.getElem?_eq_some_iff.mp hd).1
    simp [rangeD, hl] at hd
    subst hd
    exact ⟨F, Xt.refl _ _ _, I, .int _⟩
  · show n ≤ i
    simp at hi; omega
end
def tgN (i : Nat) (d : D) (env : Env) : Option Env := some (env.set i (some d))
section
variable {X : Cx} {W : WX} {pos : Pos} {e t : Expr} {m mt : ME} {ss : List Stmt} {a b : MS}
theorem tgt_name {i : Nat} {x : Str} (hN : X.N.Nodup) (hi : X.N[i]? = some x) (hx : Loc X.env.scope x) {own : List Nat} (ho : i ∈ own := by decide) (hf : X.fn x = true ∨ X.env.scope.names.lookup x = some .local := by first | exact .inl rfl | exact .inr rfl | assumption) : Tgt X (.Name x pos) (tgN i) own := by
  refine ⟨_, pg_name hN hi hx hf, fun σ env H F c cs v d env1 Q re I rv h k => ?_⟩
  simp only [tgN, Option.some.injEq] at h
  subst h
  exact k _ (re.set i rv) (wipe_set ho)
/-! ### while -/
/-- n turns at most -/
def whN (t : ME) (b : MS) : Nat → Env → Cells → S
  | 0, _, _ => .stuck
  | n + 1, env, cs => (t env cs).toS env fun d cs1 => brS d (match b env cs1 with
      | .nx e c => whN t b n e c
      | .ct e c => whN t b n e c
      | .bk e c => .nx e c
      | r => r) (.nx env cs1)
open Classical in
/-- as many turns as it takes -/
noncomputable def sWhile (t : ME) (b : MS) : MS := fun env cs => if h : ∃ n, whN t b n env cs ≠ .stuck then whN t b h.choose env cs else .stuck
theorem whN_mono (t : ME) (b : MS) : ∀ (n : Nat) (env : Env) (cs : Cells), whN t b n env cs ≠ .stuck → whN t b (n + 1) env cs = whN t b n env cs
  | 0, _, _, h => absurd rfl h
  | n + 1, env, cs, h => by
    simp only [whN] at h ⊢
    cases ht : t env cs with
    | ok d cs1 =>
      rw [ht] at h
      simp only [R.toS_ok] at h ⊢
      cases d with
      | bl k =>
        cases k with
        | false => rfl
        | true =>
          simp only [brS_true] at h ⊢
          cases hb : b env cs1 with
          | nx e c => rw [hb] at h; exact whN_mono t b n e c h
          | ct e c => rw [hb] at h; exact whN_mono t b n e c h
          | _ => rfl
      | _ => exact absurd rfl h
    | exc => rfl
    | stuck => rw [ht] at h; exact absurd rfl h
theorem whN_le (t : ME) (b : MS) {n : Nat} {env : Env} {cs : Cells} (h : whN t b n env cs ≠ .stuck) : ∀ k, whN t b (n + k) env cs = whN t b n env cs
  | 0 => rfl
  | k + 1 => by
    have ih := whN_le t b h k
    have := whN_mono t b (n + k) env cs (by rw [ih]; exact h)
    rw [← Nat.add_assoc, this, ih]
theorem sWhile_eq (t : ME) (b : MS) {n : Nat} {env : Env} {cs : Cells} (h : whN t b n env cs ≠ .stuck) : sWhile t b env cs = whN t b n env cs := by
  have hx : ∃ n, whN t b n env cs ≠ .stuck := ⟨n, h⟩
  unfold sWhile
  rw [dif_pos hx]
  generalize hx.choose = k, hx.choose_spec = hk
  rcases Nat.le_total k n with q | q
  · obtain ⟨j, rfl⟩ := Nat.exists_eq_add_of_le q
    rw [whN_le t b hk j]
  · obtain ⟨j, rfl⟩ := Nat.exists_eq_add_of_le q
    rw [whN_le t b h j]
theorem sm_while (hp : PassesOwn (model X.prog X.w) X.A X.env X.xe) (ht : Xt1 X W t mt) (hb : Sms X W ss b) : Sm X W (.While t ss [] pos) (sWhile mt b) := by
  obtain ⟨tc, pc, sc⟩ := ht
  obtain ⟨tb, pb, sb⟩ := hb
  refine ⟨_, ps_while hp pc pb, fun σ env H F c cs Dn re I po => ?_⟩
  unfold sWhile at po
  split at po
  · rename_i hx
    generalize hx.choose = n at po
    refine ⟨fun n σ H => ∃ env F c cs, RE (gd X) F c σ env ∧ Ih (gd X) H F c cs ∧ PoS (gd X) W Dn H F c (whN mt b n env cs), ⟨n, env, F, c, cs, re, I, po⟩, ?_⟩
    rintro n σ H ⟨env, F, c, cs, re, I, po⟩
    cases n with
    | zero => exact po.elim
    | succ n =>
      simp only [whN] at po
      refine sc σ env H F c cs _ re I (PoS.br (a := fun cs1 => match b env cs1 with | .nx e c => whN mt b n e c | .ct e c => whN mt b n e c | .bk e c => .nx e c | r => r) (b := fun cs1 => .nx env cs1) re po _ fun k cs1 _ H1 F1 c1 x I1 po1 => ?_)
      cases k with
      | true =>
        refine iteT ⟨fun σ' H' => ∃ env F c cs, RE (gd X) F c σ' env ∧ Ih (gd X) H' F c cs ∧ PoS (gd X) W Dn H' F c (whN mt b n env cs), fun σ' H' h => ⟨n, Nat.lt_succ_self n, h⟩, ?_⟩
        refine sb σ env H1 F1 c1 cs1 _ (re.mono x.le) I1 ?_
        simp only [if_true] at po1
        cases hbd : b env cs1 with
        | nx e1 c2 => rw [hbd] at po1; exact fun H2 F2 c3 x2 I2 σ2 re2 => ⟨e1, F2, c3, c2, re2, I2, PoS.from x2 po1⟩
        | ct e1 c2 => rw [hbd] at po1; exact fun H2 F2 c3 x2 I2 σ2 re2 => ⟨e1, F2, c3, c2, re2, I2, PoS.from x2 po1⟩
        | bk e1 c2 => rw [hbd] at po1; exact po1
        | rt d c2 => rw [hbd] at po1; exact po1
        | exc n fs e1 c2 => rw [hbd] at po1; exact po1
        | stuck => rw [hbd] at po1; exact po1.elim
      | false => exact iteF (PoS.next I1 (re.mono x.le) po1)
  · exact po.elim
end
end L3

namespace L3
open PySem L2

/-! ### what is walked -/
inductive RW where
  | ok (items : List D) (chk : Cells → Prop) (cs : Cells)
  | exc (n : Str) (fs : List (Str × D)) (cs : Cells)
  | stuck
abbrev MW := Env → Cells → RW
def R.toW (r : R) (k : D → Cells → RW) : RW := match r with
  | .ok d cs => k d cs
  | .exc n fs cs => .exc n fs cs
  | .stuck => .stuck
@[simp] theorem R.toW_ok (d : D) (cs : Cells) (k : D → Cells → RW) : (R.ok d cs).toW k = k d cs := rfl
@[simp] theorem R.toW_exc (n : Str) (fs : List (Str × D)) (cs : Cells) (k : D → Cells → RW) : (R.exc n fs cs).toW k = .exc n fs cs := rfl
@[simp] theorem R.toW_stuck (k : D → Cells → RW) : R.stuck.toW k = .stuck := rfl
def PoW (g : Gd) (W : XK) (H F : Hp) (c : List Addr) (r : RW) (R : It → Hp → Prop) : Prop := match r with
  | .ok items chk cs => Fw g H F c cs fun H' F' c' => ∀ (J : It) (kn : Hp → List Addr → Prop), Itk g J items (fun H F c cs => kn F c ∧ chk cs) → (∀ F c F' c', Le F c F' c' → kn F c → kn F' c') → kn F' c' → R J H'
  | .exc n fs cs => ExK g W H F c n fs cs
  | .stuck => False
def Wk (X : Cx) (W : WX) (tg e : Expr) (m : MW) : Prop := ∃ wi, PI X tg e wi ∧ ∀ σ env H F c cs R, RE (gd X) F c σ env → Ih (gd X) H F c cs → PoW (gd X) (fun a b => W a b σ) H F c (m env cs) R → wi σ H R
theorem PoW.from {g : Gd} {W : XK} {H F H1 F1 : Hp} {c c1 : List Addr} {r : RW} {R : It → Hp → Prop} (x : Xt H F c H1 F1 c1) (h : PoW g W H F c r R) : PoW g W H1 F1 c1 r R := by
  cases r with
  | ok d k cs => exact Fw.from x h fun _ _ _ k => k
  | exc n fs cs => exact ExK.from x h
  | stuck => exact h
theorem PoW.cut {g : Gd} {W : XK} {H F : Hp} {c : List Addr} {r : R} {k : D → Cells → RW} {Rw : It → Hp → Prop} (h : PoW g W H F c (r.toW k) Rw) :
    ∀ Q' : VK, (∀ d cs, r = .ok d cs → ∀ H1 F1 c1 v, Xt H F c H1 F1 c1 → Ih g H1 F1 c1 cs → RV g F1 c1 v d → PoW g W H1 F1 c1 (k d cs) Rw → Q' v H1) → PoE g W H F c r Q' := by
  intro Q' hk
  cases r with
  | ok d cs => exact fun H1 F1 c1 x I v rv => hk d cs rfl H1 F1 c1 v x I rv (PoW.from x h)
  | exc n fs cs => exact h
  | stuck => exact h
section
variable {X : Cx} {W : WX} {pos p p1 : Pos} {tg e e2 e3 : Expr} {m m2 m3 : ME}
theorem seqOf_ref {g : Gd} {H F : Hp} {c : List Addr} {cs : Cells} {v : V} {d : D} {items : List D} (I : Ih g H F c cs) (rv : RV g F c v d) (h : seqOf cs d = some items) : ∃ p, v = .ref p := by
  obtain ⟨p, vs, e, _⟩ := seqOf_at I rv h
  exact ⟨p, e⟩
/-- a list, a tuple, a text -/
def wSeq (m : ME) : MW := fun env cs => (m env cs).toW fun d cs1 => match d with
  | .str l => .ok (l.map fun ch => .str [ch]) (fun _ => True) cs1
  | d => match seqOf cs1 d with
    | some items => .ok items (fun cs2 => seqOf cs2 d = some items) cs1
    | none => .stuck
theorem itk_str {g : Gd} {l : List Nat} : Itk g (Its ⟨l.toArray⟩) (l.map fun ch => .str [ch]) fun _ _ _ _ => True ∧ True := by
  refine ⟨fun i H F c cs I ok hi => ?_, fun i H F c cs d' I ok hd x H' y => ?_, fun i H F c cs I ok hi => ?_⟩
  · show i < l.toArray.size
    simpa using hi
  · obtain ⟨rfl, ch, h1, rfl⟩ := y
    have h1 : l[i]? = some ch := by simpa using h1
    rw [List.getElem?_map, h1] at hd
    simp only [Option.map_some, Option.some.injEq] at hd
    subst hd
    exact ⟨F, Xt.refl _ _ _, I, .str [ch]⟩
  · show l.toArray.size ≤ i
    simp at hi ⊢; omega
theorem wk_seq (he : Xp X W e m) : Wk X W tg e (wSeq m) := by
  obtain ⟨te, pe, se⟩ := he
  refine ⟨_, pi_orE (pi_list pe) (pi_orE (pi_tup pe) (pi_str pe)), fun σ env H F c cs R re I po => ?_⟩
  unfold wSeq at po
  by_cases hstr : ∃ l cs1, m env cs = .ok (.str l) cs1
  · obtain ⟨l, cs1, h⟩ := hstr
    refine .inr (.inr (se σ env H F c cs _ re I (PoW.cut po _ fun d cs2 h2 H1 F1 c1 v x1 I1 rv po1 => ?_)))
    rw [h] at h2
    cases h2
    cases rv
    exact ⟨_, rfl, po1 _ _ _ (Xt.refl _ _ _) I1 _ (fun _ _ => True) itk_str (fun _ _ _ _ _ k => k) trivial⟩
  · by_cases htup : ∃ l cs1, m env cs = .ok (.tup l) cs1
    · obtain ⟨l, cs1, h⟩ := htup
      refine .inr (.inl (se σ env H F c cs _ re I (PoW.cut po _ fun d cs2 h2 H1 F1 c1 v x1 I1 rv po1 => ?_)))
      rw [h] at h2
      cases h2
      obtain ⟨p, rfl⟩ := seqOf_ref I1 rv (items := l) rfl
      refine ⟨p, rfl, ?_, po1 _ _ _ (Xt.refl _ _ _) I1 _ (fun F c => RV (gd X) F c (.ref p) (.tup l)) itk_tup (fun _ _ _ _ e k => k.mono e) rv⟩
      cases rv with
      | tup g1 g2 => exact ⟨_, SqT.up I1.sub g1⟩
    · refine .inl (se σ env H F c cs _ re I (PoW.cut po _ fun d cs2 h2 H1 F1 c1 v x1 I1 rv po1 => ?_))
      have nt : ∀ l, d ≠ .tup l := fun l e => htup ⟨l, cs2, by rw [h2, e]⟩
      have ns : ∀ l, d ≠ .str l := fun l e => hstr ⟨l, cs2, by rw [h2, e]⟩
      have po2 : PoW (gd X) (fun a b => W a b σ) H1 F1 c1 (match seqOf cs2 d with
          | some items => .ok items (fun cs2 => seqOf cs2 d = some items) cs2
          | none => .stuck) R := by
        cases d with
        | str l => exact absurd rfl (ns l)
        | _ => exact po1
      cases hs : seqOf cs2 d with
      | none => rw [hs] at po2; exact po2.elim
      | some items =>
        rw [hs] at po2
        obtain ⟨p, rfl⟩ := seqOf_ref I1 rv hs
        have K := itk_list (g := gd X) (a := p) (items := items) nt
        refine ⟨p, rfl, ?_, po2 _ _ _ (Xt.refl _ _ _) I1 _ (fun F c => RV (gd X) F c (.ref p) d) K (fun _ _ _ _ e k => k.mono e) rv⟩
        by_cases hz : 0 < items.length
        · obtain ⟨xs, _, h1, _⟩ := K.go 0 H1 F1 c1 cs2 I1 ⟨rv, hs⟩ hz
          exact ⟨xs, h1⟩
        · obtain ⟨xs, h1, _⟩ := K.stop 0 H1 F1 c1 cs2 I1 ⟨rv, hs⟩ (by omega)
          exact ⟨xs, h1⟩
/-- range -/
def lim : Int := 4611686018427387904
def wR1 (m : ME) : MW := fun env cs => (m env cs).toW fun d cs1 => match d with
  | .int j => if -lim ≤ j ∧ j < lim then .ok (rangeD 0 j.toNat) (fun _ => True) cs1 else .stuck
  | _ => .stuck
def wR2 (m m2 : ME) : MW := fun env cs => (m env cs).toW fun d cs1 => (m2 env cs1).toW fun d2 cs2 => match d, d2 with
  | .int i, .int j => if -lim ≤ i ∧ i < lim ∧ -lim ≤ j ∧ j < lim then .ok (rangeD i (j - i).toNat) (fun _ => True) cs2 else .stuck
  | _, _ => .stuck
theorem wk_range1 (hg : Gl X "range") (hm : X.mg "range" = none) (he : Xp X W e m) (hs : starEach [e] X.env = (false, eval e X.env) :: starEach [] X.env := by rfl) : Wk X W tg (.Call (.Name "range" p) [e] [] p1) (wR1 m) := by
  obtain ⟨te, pe, se⟩ := he
  refine ⟨_, pi_range1 hg hm (pa_cons pe pa_nil hs) hs, fun σ env H F c cs R re I po => ?_⟩
  refine se σ env H F c cs _ re I (PoW.cut po _ fun d cs2 h2 H1 F1 c1 v x1 I1 rv po1 => ?_)
  cases d with
  | int j =>
    cases rv
    simp only at po1
    split at po1
    · rename_i h
      have p2 : (2 : Int) ^ 62 = lim := by decide
      exact ⟨j, rfl, by rw [p2]; exact h.1, by rw [p2]; exact h.2, po1 _ _ _ (Xt.refl _ _ _) I1 _ (fun _ _ => True) (itk_range (lo := 0) (n := j.toNat)) (fun _ _ _ _ _ k => k) trivial⟩
    · exact po1.elim
  | _ => exact po1.elim
theorem wk_range2 (hg : Gl X "range") (hm : X.mg "range" = none) (he : Xp X W e m) (he2 : Xp X W e2 m2)
    (hs : starEach [e, e2] X.env = (false, eval e X.env) :: starEach [e2] X.env := by rfl) (hs2 : starEach [e2] X.env = (false, eval e2 X.env) :: starEach [] X.env := by rfl) : Wk X W tg (.Call (.Name "range" p) [e, e2] [] p1) (wR2 m m2) := by
  obtain ⟨te, pe, se⟩ := he
  obtain ⟨te2, pe2, se2⟩ := he2
  refine ⟨_, pi_range2 hg hm (pa_cons pe (pa_cons pe2 pa_nil hs2) hs) (hs.trans (by rw [hs2]; rfl)) hs2, fun σ env H F c cs R re I po => ?_⟩
  refine se σ env H F c cs _ re I (PoW.cut po _ fun d cs2 h2 H1 F1 c1 v x1 I1 rv po1 => ?_)
  refine se2 σ env H1 F1 c1 cs2 _ (re.mono x1.le) I1 (PoW.cut po1 _ fun d2 cs3 h3 H2 F2 c2 v2 x2 I2 rv2 po2 => ?_)
  split at po2
  · cases rv; cases rv2
    split at po2
    · rename_i h
      have p2 : (2 : Int) ^ 62 = lim := by decide
      exact ⟨_, _, rfl, by rw [p2]; exact h, po2 _ _ _ (Xt.refl _ _ _) I2 _ (fun _ _ => True) itk_range (fun _ _ _ _ _ k => k) trivial⟩
    · exact po2.elim
  · exact po2.elim

/-! ### for -/
noncomputable def sFor (tg : D → Env → Option Env) (m : MW) (body : MS) : MS := fun env cs => match m env cs with
  | .ok items chk cs1 => forL chk tg body items env cs1
  | .exc n fs cs1 => .exc n fs env cs1
  | .stuck => .stuck
theorem sm_for {f : D → Env → Option Env} {mw : MW} {ss : List Stmt} {b : MS} (hc : X.calm = true) (hp : PassesOwn (model X.prog X.w) X.A X.env X.xe) (he : Wk X W tg e mw) {own : List Nat} (ht : Tgt X tg f own) (hb : Sms X W ss b)
    (hs : ∀ x, foldedSetIterable e X.env x = pure x := by intro _; rfl) : Sm X W (.For tg e ss [] pos) (sFor f mw b) := by
  obtain ⟨wi, pw, sw⟩ := he
  obtain ⟨tG, pg, sg⟩ := ht
  obtain ⟨tb, pb, sb⟩ := hb
  refine ⟨_, ps_for hp hc pw pg pb hs, fun σ env H F c cs Dn re I po => ?_⟩
  refine sw σ env H F c cs _ re I ?_
  unfold sFor at po
  cases h : mw env cs with
  | ok items chk cs1 =>
    rw [h] at po
    exact fun H1 F1 c1 x1 I1 J kn K km hk => for_sim K km (fun σ env H F c cs v d env1 Q re I rv h k => sg σ env H F c cs v d env1 Q re I rv h fun σ1 a _ => k σ1 a) sb (re.mono x1.le) I1 hk (PoS.from x1 po)
  | exc n fs cs1 =>
    rw [h] at po
    exact fun H1 F1 c1 x I C dx vs a b d => po H1 F1 c1 x I σ C dx vs (re.mono x.le) a b d
  | stuck => rw [h] at po; exact po.elim

/-! ### comprehensions -/
def wipeE (env : Env) : List Nat → Env
  | [] => env
  | v :: vs => (wipeE env vs).set v none
theorem RE.wipe {g : Gd} {F : Hp} {c : List Addr} {σ : L2.St} {env : Env} (h : RE g F c σ env) : ∀ vs : List Nat, RE g F c (L2.wipe σ vs) (wipeE env vs)
  | [] => h
  | v :: vs => RE.unset (RE.wipe h vs) v
open Classical in
noncomputable def lcL (chk : Cells → Prop) (tg : D → Env → Option Env) (t e : ME) : List D → Env → Cells → RA
  | [], env, cs => if chk cs then .ok [] cs else .stuck
  | d :: ds, env, cs => if chk cs then (match tg d env with
    | none => .stuck
    | some env1 => match t env1 cs with
      | .ok (.bl true) cs1 => (match e env1 cs1 with
        | .ok y cs2 => (match lcL chk tg t e ds env cs2 with
          | .ok ys cs3 => .ok (y :: ys) cs3
          | _ => .stuck)
        | _ => .stuck)
      | .ok (.bl false) cs1 => lcL chk tg t e ds env cs1
      | _ => .stuck) else .stuck
def RA.pre (l : List D) : RA → RA
  | .ok ds cs => .ok (l ++ ds) cs
  | r => r
noncomputable def eLc (md : Bool) (own : List Nat) (tg : D → Env → Option Env) (m : MW) (t e : ME) : ME := fun env cs => match m env cs with
  | .ok items chk cs1 => (lcL chk tg t e items (wipeE env own) cs1).bind fun ds cs2 => mkL md cs2 ds
  | .exc n fs cs1 => .exc n fs cs1
  | .stuck => .stuck
/-- the tests of a comprehension -/
def Xts (X : Cx) (W : WX) (es : List Expr) (m : ME) : Prop := ∃ t, PTs X es t ∧ ∀ σ env H F c cs Q, RE (gd X) F c σ env → Ih (gd X) H F c cs → PoT (gd X) (fun a b => W a b σ) H F c (m env cs) Q → t σ H Q
theorem xts_nil : Xts X W [] (eC (.bl true)) := ⟨_, pts_nil, fun _ _ _ _ _ _ _ _ I po => PoT.here I po⟩
theorem xts_one (h : Xt1 X W e m) : Xts X W [e] m := by
  obtain ⟨t, p, s⟩ := h
  exact ⟨_, pts_one p, s⟩
end
/-- an object aside of F and c is written -/
theorem Ih.side {g : Gd} {H F : Hp} {c : List Addr} {cs : Cells} (I : Ih g H F c cs) {p : Addr} {o : HO} (hc : p ∉ c) (hF : F p = none) : Ih g (upd H p o) F c cs := by
  refine ⟨fun a u e => by rw [upd_ne (ne_of_none e hF)]; exact I.sub a u e, I.len, I.nd, fun n a x h1 h2 => ?_⟩
  have hne : a ≠ p := fun e => hc (e ▸ List.mem_of_getElem? h1)
  exact CR.mono (I.cell n a x h1 h2) (Le.refl _ _) (fun u e => by rw [upd_ne hne]; exact e) fun e => e
theorem Xt.side {H0 F0 H F : Hp} {c0 c : List Addr} (x : Xt H0 F0 c0 H F c) {p : Addr} {o : HO} (hp : H0 p = none) : Xt H0 F0 c0 (upd H p o) F c :=
  ⟨x.le, fun a u e n => by rw [upd_ne (ne_of_none e hp)]; exact x.kp a u e n, fun a u e => by rw [upd_ne (ne_of_none e hp)]; exact x.dom a u e, x.new, x.out⟩
structure LcI (g : Gd) (W : XK) (H F : Hp) (c : List Addr) (Q : VK) (md : Bool) (Dl : Addr) (rest : Env → Cells → RA) (env : Env) (H' : Hp) : Prop where
  ex : ∃ F' c' cs' acc dacc, Xt H F c H' F' c' ∧ Ih g H' F' c' cs' ∧ H' Dl = some (.lst acc) ∧ Dl ∉ c' ∧ F' Dl = none ∧ RVs g F' c' acc dacc ∧ PoE g W H F c (((rest env cs').pre dacc).bind fun ds cs2 => mkL md cs2 ds) Q
/-- [e for .. in it if t] -/
theorem lc_sim {g : Gd} {W : XK} {J : It} {items : List D} {kn : Hp → List Addr → Prop} {chk : Cells → Prop} (K : Itk g J items fun H F c cs => kn F c ∧ chk cs) (km : ∀ F c F' c', Le F c F' c' → kn F c → kn F' c')
    {tg : D → Env → Option Env} {mt me : ME} {md : Bool} {tG : TG} {tt : TT} {te : TE} {own : List Nat} {Q : VK}
    (hg : ∀ σ env H F c cs v d env1 Q, RE g F c σ env → Ih g H F c cs → RV g F c v d → tg d env = some env1 → (∀ σ1, RE g F c σ1 env1 → L2.wipe σ1 own = L2.wipe σ own → Q σ1 H) → tG v σ H Q)
    (ht : ∀ σ env H F c cs Q, RE g F c σ env → Ih g H F c cs → PoT g (fun _ _ _ => False) H F c (mt env cs) Q → tt σ H Q)
    (he : ∀ σ env H F c cs Q, RE g F c σ env → Ih g H F c cs → PoE g (fun _ _ _ => False) H F c (me env cs) Q → te σ H Q)
    {σ : L2.St} {env : Env} {H F : Hp} {c : List Addr} {cs : Cells} (re : RE g F c σ env) (I : Ih g H F c cs) (hk : kn F c) {Dl : Addr} (hD : H Dl = none)
    (po : PoE g W H F c ((lcL chk tg mt me items env cs).bind fun ds cs2 => mkL md cs2 ds) Q) (hσ : L2.wipe σ own = σ) :
    ∃ Wi : Nat → Nat → Hp → Prop, (∃ m, Wi 0 m (upd H Dl (.lst []))) ∧ ∀ i m H, Wi i m H → (J.stop i H ∧ Q (.ref Dl) H) ∨ (J.go i H ∧ ∃ Nx : Hp → Prop, (∀ H', Nx H' → ∃ m', m' < m ∧ Wi (i + 1) m' H') ∧ ∀ x H', J.yld i H x H' → tG x σ H' fun σ2 H2 => L2.wipe σ2 own = σ ∧ tt σ2 H2 fun b H3 =>
      if b = true then te σ2 H3 fun y H4 => ∃ acc, H4 Dl = some (.lst acc) ∧ acc.length < sizeLine ∧ Nx (upd H4 Dl (.lst (acc ++ [y]))) else Nx H3) := by
  refine ⟨fun i m H' => m = items.length - i ∧ i ≤ items.length ∧ LcI g W H F c Q md Dl (lcL chk tg mt me (items.drop i)) env H', ⟨_, rfl, Nat.zero_le _, F, c, cs, [], [], Xt.side (Xt.refl _ _ _) hD, I.side (I.notMem hD) (I.noF hD), upd_same, I.notMem hD, I.noF hD, .nil, ?_⟩, ?_⟩
  · cases hl : lcL chk tg mt me items env cs <;> simpa [RA.pre, hl] using po
  · rintro i m H1 ⟨rfl, hi, F1, c1, cs1, acc, dacc, x1, I1, hDl, hDc, hDF, rva, po1⟩
    have re1 := re.mono x1.le
    have k1 := km _ _ _ _ x1.le hk
    by_cases hc : chk cs1
    · by_cases hlt : i < items.length
      · refine .inr ⟨K.go i H1 F1 c1 cs1 I1 ⟨k1, hc⟩ hlt, fun H' => ∃ m', m' < items.length - i ∧ m' = items.length - (i + 1) ∧ i + 1 ≤ items.length ∧ LcI g W H F c Q md Dl (lcL chk tg mt me (items.drop (i + 1))) env H', fun H' h => h, fun x H2 y => ?_⟩
        obtain ⟨F2, x2, I2, rv⟩ := K.yld i H1 F1 c1 cs1 items[i] I1 ⟨k1, hc⟩ (by simp [hlt]) x H2 y
        have hDl2 : H2 Dl = some (.lst acc) := x2.kp _ _ hDl hDc
        have hDF2 := x2.out _ _ hDl hDF hDc
        rw [List.drop_eq_getElem_cons hlt] at po1
        simp only [lcL, hc, if_true] at po1
        cases htg : tg items[i] env with
        | none => rw [htg] at po1; exact po1.elim
        | some env1 =>
          rw [htg] at po1
          simp only at po1
          refine hg σ env H2 F2 c1 cs1 x _ env1 _ (re1.mono x2.le) I2 rv htg fun σ2 re2 hw => ⟨hw.trans hσ, ?_⟩
          refine ht σ2 env1 H2 F2 c1 cs1 _ re2 I2 ?_
          cases htt : mt env1 cs1 with
          | ok d cs3 =>
            rw [htt] at po1
            cases d with
            | bl b =>
              intro H3 F3 c3 x3 I3
              have hDc3 : Dl ∉ c3 := fun h => by
                have := x3.new Dl h hDc
                rw [hDl2] at this; cases this
              have hDl3 : H3 Dl = some (.lst acc) := x3.kp _ _ hDl2 hDc
              have hDF3 := x3.out _ _ hDl2 hDF2 hDc
              cases b with
              | true =>
                refine iteT ?_
                simp only at po1
                refine he σ2 env1 H3 F3 c3 cs3 _ (re2.mono x3.le) I3 ?_
                cases hee : me env1 cs3 with
                | ok d4 cs4 =>
                  rw [hee] at po1
                  simp only at po1
                  intro H4 F4 c4 x4 I4 y ry
                  have hDc4 : Dl ∉ c4 := fun h => by
                    have := x4.new Dl h hDc3
                    rw [hDl3] at this; cases this
                  have hDl4 : H4 Dl = some (.lst acc) := x4.kp _ _ hDl3 hDc3
                  have hDF4 := x4.out _ _ hDl3 hDF3 hDc3
                  have xx := ((x1.trans x2).trans x3).trans x4
                  have ra : RVs g F4 c4 (acc ++ [y]) (dacc ++ [d4]) := (((rva.mono x2.le).mono x3.le).mono x4.le).append (.cons ry .nil)
                  cases hl : lcL chk tg mt me (items.drop (i + 1)) env cs4 with
                  | ok ys cs5 =>
                    rw [hl] at po1
                    have po2 : PoE g W H F c (mkL md cs5 (dacc ++ (d4 :: ys))) Q := po1
                    have hlen : acc.length < sizeLine := by
                      unfold mkL at po2
                      split at po2
                      · rename_i q
                        have := rva.length
                        simp at q
                        omega
                      · exact po2.elim
                    refine ⟨acc, hDl4, hlen, _, by omega, rfl, hlt, F4, c4, cs4, acc ++ [y], dacc ++ [d4], xx.side hD, I4.side hDc4 hDF4, upd_same, hDc4, hDF4, ra, ?_⟩
                    rw [hl]
                    simp only [RA.pre, RA.bind_ok, List.append_assoc, List.singleton_append]
                    exact po2
                  | exc n fs cs5 => rw [hl] at po1; exact po1.elim
                  | stuck => rw [hl] at po1; exact po1.elim
                | exc n fs cs4 => rw [hee] at po1; exact po1.elim
                | stuck => rw [hee] at po1; exact po1.elim
              | false =>
                refine iteF ⟨_, by omega, rfl, hlt, F3, c3, cs3, acc, dacc, (x1.trans x2).trans x3, I3, hDl3, hDc3, hDF3, (rva.mono x2.le).mono x3.le, po1⟩
            | _ => exact po1.elim
          | exc n fs cs3 => rw [htt] at po1; exact po1.elim
          | stuck => rw [htt] at po1; exact po1.elim
      · have e : i = items.length := by omega
        subst e
        refine .inl ⟨K.stop _ H1 F1 c1 cs1 I1 ⟨k1, hc⟩ rfl, ?_⟩
        rw [List.drop_length] at po1
        simp only [lcL, hc, if_true, RA.pre, RA.bind_ok, List.append_nil] at po1
        unfold mkL at po1
        split at po1
        · cases md with
          | true =>
            rw [if_pos rfl] at po1
            have xp : Xt H F c H1 F1 (c1 ++ [Dl]) := ⟨x1.le.trans Le.push, x1.kp, x1.dom, fun a h n => by
              rcases List.mem_append.mp h with h | h
              · exact x1.new a h n
              · have : a = Dl := by simpa using h
                rw [this]; exact hD, x1.out⟩
            refine po1 _ _ _ xp ?_ _ (.loc (n := cs1.length) (by rw [← I1.len]; simp))
            refine ⟨I1.sub, by simp [I1.len], ?_, fun n a z h1 h2 => ?_⟩
            · rw [List.nodup_append]
              refine ⟨I1.nd, by simp, fun a ha b hb => ?_⟩
              have : b = Dl := by simpa using hb
              subst this
              rintro rfl
              exact hDc ha
            · by_cases hl : n < c1.length
              · rw [List.getElem?_append_left hl] at h1
                rw [List.getElem?_append_left (by rw [← I1.len]; exact hl)] at h2
                exact CR.mono (I1.cell n a z h1 h2) Le.push (fun _ e => e) fun e => e
              · have hl' : n < (c1 ++ [Dl]).length := (List.getElem?_eq_some_iff.mp h1).1
                have hn : n = c1.length := by simp at hl'; omega
                subst hn
                rw [List.getElem?_append_right (Nat.le_refl _)] at h1
                rw [I1.len, List.getElem?_append_right (Nat.le_refl _)] at h2
                simp at h1 h2
                subst h1; subst h2
                exact ⟨hDF, acc, hDl, rva.mono Le.push⟩
          | false =>
            rw [if_neg Bool.false_ne_true] at po1
            have le2 : Le F1 c1 (upd F1 Dl (.lst acc)) c1 := Le.upd hDF
            have xp : Xt H F c H1 (upd F1 Dl (.lst acc)) c1 := ⟨x1.le.trans le2, x1.kp, x1.dom, x1.new, fun a o h f n => by
              rw [upd_ne (ne_of_none h hD)]; exact x1.out a o h f n⟩
            refine po1 _ _ _ xp ?_ _ (.lst upd_same (rva.mono le2))
            refine ⟨fun a o e => ?_, I1.len, I1.nd, fun n a z h1 h2 => ?_⟩
            · by_cases ha : a = Dl
              · subst ha; rw [upd_same] at e; cases e; exact hDl
              · rw [upd_ne ha] at e; exact I1.sub a o e
            · have hne : a ≠ Dl := fun e => hDc (e ▸ List.mem_of_getElem? h1)
              exact CR.mono (I1.cell n a z h1 h2) le2 (fun _ e => e) fun e => by rw [upd_ne hne]; exact e
        · exact po1.elim
    · have : lcL chk tg mt me (items.drop i) env cs1 = .stuck := by cases items.drop i <;> simp [lcL, hc]
      rw [this] at po1
      exact po1.elim
/-! ### readings that are the same in every context -/
def teOf (g : Gd) (W : WX) (m : ME) : TE := fun σ H Q => ∃ env F c cs, RE g F c σ env ∧ Ih g H F c cs ∧ PoE g (fun a b => W a b σ) H F c (m env cs) Q
def ttOf (g : Gd) (W : WX) (m : ME) : TT := fun σ H Q => ∃ env F c cs, RE g F c σ env ∧ Ih g H F c cs ∧ PoT g (fun a b => W a b σ) H F c (m env cs) Q
def tgOf (g : Gd) (f : D → Env → Option Env) (own : List Nat) : TG := fun v σ H Q => ∃ env F c cs d env1, RE g F c σ env ∧ Ih g H F c cs ∧ RV g F c v d ∧ f d env = some env1 ∧ ∀ σ1, RE g F c σ1 env1 → L2.wipe σ1 own = L2.wipe σ own → Q σ1 H
section
variable {X : Cx} {W : WX} {pos : Pos} {tg iter elt e : Expr} {ifs : List Expr} {scope : Scope} {own : List (Str × Nat)} {f : D → Env → Option Env} {mw : MW} {m mt me : ME} {md : Bool} {ow : List Nat}
theorem Xp.canon (h : Xp X W e m) : PE X e (teOf (gd X) W m) := by
  obtain ⟨t, p, s⟩ := h
  exact ⟨fun pins s0 σ H Q I ⟨env, F, c, cs, re, I1, po⟩ => p.run pins s0 σ H Q I (s σ env H F c cs Q re I1 po)⟩
theorem Xts.canon (h : Xts X W ifs m) : PTs X ifs (ttOf (gd X) W m) := by
  obtain ⟨t, p, s⟩ := h
  exact ⟨fun pins s0 σ H Q I ⟨env, F, c, cs, re, I1, po⟩ => p.run pins s0 σ H Q I (s σ env H F c cs Q re I1 po)⟩
theorem Tgt.canon (h : Tgt X tg f ow) : PG X tg (tgOf (gd X) f ow) := by
  obtain ⟨t, p, s⟩ := h
  exact ⟨fun pins s0 σ H v u Q I r ⟨env, F, c, cs, d, env1, re, I1, rv, e, k⟩ => p.run pins s0 σ H v u Q I r (s σ env H F c cs v d env1 Q re I1 rv e k)⟩
/-- the parts of a comprehension in its block -/
structure LcOk (X : Cx) (tg : Expr) (ifs : List Expr) (elt : Expr) (scope : Scope) (own : List (Str × Nat)) (f : D → Env → Option Env) (mt me : ME) : Prop where
  tgt : ∀ (s : Shared) (H : Hp) (C : Addr) (cl : List (Str × Addr)) (fp : List Addr), Tgt (X.blk s H scope (compEnvC scope cl C X.env) fp) tg f (own.map (·.2))
  tst : ∀ (s : Shared) (H : Hp) (C : Addr) (cl : List (Str × Addr)) (fp : List Addr), Xts (X.blk s H scope (compEnvC scope cl C X.env) fp) (fun _ _ _ _ => False) ifs mt
  elt : ∀ (s : Shared) (H : Hp) (C : Addr) (cl : List (Str × Addr)) (fp : List Addr), Xp (X.blk s H scope (compEnvC scope cl C X.env) fp) (fun _ _ _ _ => False) elt me
theorem lc_go {wi : TI} (sw : ∀ σ env H F c cs R, RE (gd X) F c σ env → Ih (gd X) H F c cs → PoW (gd X) (fun a b => W a b σ) H F c (mw env cs) R → wi σ H R)
    {σ : L2.St} {env : Env} {H F : Hp} {c : List Addr} {cs : Cells} {Q : VK} (re : RE (gd X) F c σ env) (I : Ih (gd X) H F c cs) (po : PoE (gd X) (fun a b => W a b σ) H F c (eLc md (own.map (·.2)) f mw mt me env cs) Q) :
    tLc wi (tgOf (gd X) f (own.map (·.2))) (ttOf (gd X) (fun _ _ _ _ => False) mt) (teOf (gd X) (fun _ _ _ _ => False) me) (own.map (·.2)) σ H Q := by
  refine sw σ env H F c cs _ re I ?_
  unfold eLc at po
  cases h : mw env cs with
  | ok items chk cs1 =>
    rw [h] at po
    intro H1 F1 c1 x1 I1 J kn K km hk Dl hD
    have q := lc_sim K km (tg := f) (mt := mt) (me := me) (md := md) (own := own.map (·.2)) (Q := Q) (fun σ env H F c cs v d env1 Q re I rv h k => (⟨env, F, c, cs, d, env1, re, I, rv, h, k⟩ : tgOf (gd X) f (own.map (·.2)) v σ H Q))
      (fun σ env H F c cs Q re I po => (⟨env, F, c, cs, re, I, po⟩ : ttOf (gd X) (fun _ _ _ _ => False) mt σ H Q)) (fun σ env H F c cs Q re I po => (⟨env, F, c, cs, re, I, po⟩ : teOf (gd X) (fun _ _ _ _ => False) me σ H Q))
      (W := fun a b => W a b σ) ((re.mono x1.le).wipe (own.map (·.2))) I1 hk hD (PoE.from x1 po) (wipe_wipe σ _)
    exact q
  | exc n fs cs1 => rw [h] at po; exact po
  | stuck => rw [h] at po; exact po.elim
theorem xp_lc (md : Bool) (hc : X.calm = true) (hN : X.N.Nodup) (hi : Wk X W tg iter mw) (ok : BlkOk X.N X.env.scope scope own) (h : LcOk X tg ifs elt scope own f mt me) (hs : ∀ x, foldedSetIterable iter X.env x = pure x := by intro _; rfl) :
    Xp X W (.ListComp elt [⟨tg, iter, ifs, 0⟩] scope pos) (eLc md (own.map (·.2)) f mw mt me) := by
  obtain ⟨wi, pw, sw⟩ := hi
  exact ⟨_, pe_lc (g := tgOf (gd X) f (own.map (·.2))) (tt := ttOf (gd X) (fun _ _ _ _ => False) mt) (te := teOf (gd X) (fun _ _ _ _ => False) me) hc hN pw ok (fun s H C cl fp => (h.tgt s H C cl fp).canon) (fun s H C cl fp => (h.tst s H C cl fp).canon) (fun s H C cl fp => (h.elt s H C cl fp).canon) hs, fun σ env H F c cs Q re I po => lc_go sw re I po⟩
/-- y = [..] -/
theorem sm_setLc (md : Bool) {i : Nat} {y : Str} {py spos : Pos} (hc : X.calm = true) (hN : X.N.Nodup) (hy : X.N[i]? = some y) (hyl : X.env.scope.names.lookup y = some .local)
    (hsw : swapsWith (.ListComp elt [⟨tg, iter, ifs, 0⟩] scope pos) (some (.Name y py)) spos.line X.env = pure true) (hi : Wk X W tg iter mw) (ok : BlkOk X.N X.env.scope scope own) (h : LcOk X tg ifs elt scope own f mt me) (hs : ∀ x, foldedSetIterable iter X.env x = pure x := by intro _; rfl) :
    Sm X W (.Assign [.Name y py] (.ListComp elt [⟨tg, iter, ifs, 0⟩] scope pos) spos) (sAsg i (eLc md (own.map (·.2)) f mw mt me)) := by
  obtain ⟨wi, pw, sw⟩ := hi
  refine ⟨_, ps_setLc (g := tgOf (gd X) f (own.map (·.2))) (tt := ttOf (gd X) (fun _ _ _ _ => False) mt) (te := teOf (gd X) (fun _ _ _ _ => False) me) hc hN hy hyl hsw pw ok (fun s H C cl fp => (h.tgt s H C cl fp).canon) (fun s H C cl fp => (h.tst s H C cl fp).canon) (fun s H C cl fp => (h.elt s H C cl fp).canon) hs, fun σ env H F c cs Dn re I po => ?_⟩
  refine lc_go sw re I (PoS.cut re po _ fun d cs1 _ H1 F1 c1 v x1 I1 rv po1 => ?_)
  exact PoS.next I1 ((re.mono x1.le).set i rv) po1
end
end L3

namespace L3
open PySem L2

/-! ### calls of defs -/
/-- a def of the text keeps m -/
def spM (g : Gd) (m : MF) (n : Nat) : Sp := fun vs H Q E => vs.length = n ∧ ∃ F c cs ds, Ih g H F c cs ∧ RVs g F c vs ds ∧ PoE g E H F c (m ds cs) Q
def eCall (m : MF) (a : MA) : ME := fun env cs => (a env cs).bind fun ds cs1 => m ds cs1
section
variable {X : Cx} {W : WX} {k : Nat} {f : Addr} {fd : FuncData} {ps : List Str} {m : MF} {x : Str} {p pos : Pos} {e : Expr} {es : List Expr} {ms : MA} {n : Nat}
abbrev FnM (X : Cx) (k : Nat) (f : Addr) (fd : FuncData) (ps : List Str) (m : MF) : Prop := FnOk X.prog X.w X.K X.mg X.base (L2.CX X.prog X.w) k f fd ps (spM (gd X) m ps.length)
theorem xp_call (F : FnOk X.prog X.w X.K X.mg X.base (L2.CX X.prog X.w) k f fd ps (spM (gd X) m n)) (hr : Room k X.A) (hg : Gl X x) (hm : X.mg x = some (.ref f)) (hk : PySem.W.keepIn X.K (.ref f) = true) (hb : Binds X.K fd ps []) (tk : Takes X W)
    (ha : Xa X W (e :: es) ms) (hn : (e :: es).length = n := by rfl) (hdb : (x == ("__debug__" : Str)) = false := by decide) (he : starEach (e :: es) X.env = (false, eval e X.env) :: starEach es X.env := by rfl) (hpl : (backTo pos (starEach es X.env)).any (·.1) = false := by rfl)
    (hlen : ∀ env cs ds cs1, ms env cs = .ok ds cs1 → ds.length = n) : Xp X W (.Call (.Name x p) (e :: es) [] pos) (eCall m ms) := by
  obtain ⟨t, pa, sa⟩ := ha
  refine ⟨_, pe_callS F hr hg hm hk hb (fun σ => passAt tk σ) pa hdb he hpl, fun σ env H F c cs Q re I po => ?_⟩
  refine sa σ env H F c cs _ re I (PoA.cut po _ fun ds cs1 h1 H1 F1 c1 vs x1 I1 rv po1 => ?_)
  exact ⟨by rw [rv.length]; exact hlen _ _ _ _ h1, F1, c1, cs1, ds, I1, rv, po1⟩
theorem len_nil : ∀ env cs ds cs1, aNil env cs = .ok ds cs1 → ds.length = 0 := fun env cs ds cs1 h => by
  simp only [aNil, RA.ok.injEq] at h
  rw [← h.1]; rfl
theorem len_cons {m : ME} {ms : MA} {n : Nat} (h : ∀ env cs ds cs1, ms env cs = .ok ds cs1 → ds.length = n) : ∀ env cs ds cs1, aCons m ms env cs = .ok ds cs1 → ds.length = n + 1 := fun env cs ds cs1 e => by
  unfold aCons at e
  split at e
  · split at e
    · rename_i h2
      simp only [RA.ok.injEq] at e
      rw [← e.1, List.length_cons, h _ _ _ _ h2]
    · cases e
    · cases e
  · cases e
  · cases e
end
/-- a def's body -/
def mDef (n : Nat) (body : MS) : MF := fun ds cs => match body (ds.map some ++ List.replicate (n - ds.length) none) cs with
  | .nx _ cs1 => .ok .non cs1
  | .rt d cs1 => .ok d cs1
  | .exc x fs _ cs1 => .exc x fs cs1
  | _ => .stuck
section
variable {P : Program} {w : World} {K : PySem.W.Frag} {mg : Str → Option Value} {base : Heap}
theorem re_start {g : Gd} {F : Hp} {c : List Addr} {vs : List V} {ds : List D} (rv : RVs g F c vs ds) (N : List Str) : RE g F c (L2.start N vs) (ds.map some ++ List.replicate (N.length - ds.length) none) := by
  unfold L2.start
  refine ⟨by simp [rv.length], fun i d h => ?_⟩
  by_cases hl : i < ds.length
  · rw [List.getElem?_append_left (by simpa using hl), List.getElem?_map] at h
    cases hd : ds[i]? with
    | none => rw [hd] at h; cases h
    | some d' =>
      rw [hd] at h
      simp only [Option.map_some, Option.some.injEq] at h
      subst h
      obtain ⟨v, hv, r⟩ := rv.get hd
      exact ⟨v, by rw [List.getElem?_append_left (by simp [rv.length]; exact hl), List.getElem?_map, hv]; rfl, r⟩
  · rw [List.getElem?_append_right (by simp; omega)] at h
    rw [List.getElem?_replicate] at h
    split at h <;> cases h
theorem fnM {x qual : Str} {st : Stmt} {f : Addr} {fd : FuncData} {N ps : List Str} {k : Nat} (F : Fun K x qual st f fd) (S : FnScope N ps (defScope st)) (body : MS)
    (h : ∀ (cdv : Value) (A : Around) (outer : List PySem.Env) (s : Shared) (H : Hp) (E : XK), Room k (A.deeper (PyProof.Rows.envOfC qual (defScope st) s.heap.objs.size f cdv)) →
      Sms (cxOf (L2.CX P w) P w K mg base N qual (defScope st) f cdv A outer s H E) (fun cls d _ H => E cls d H) (defBody st) body) :
    FnOk P w K mg base (L2.CX P w) (k + 1) f fd ps (spM ⟨P, w, K, mg⟩ (mDef N.length body) ps.length) := by
  refine F.okX S (fun vs H Q E h => h.1) fun cdv A outer s H vs Q E hr ⟨hl, F0, c, cs, ds, I, rv, po⟩ => ?_
  obtain ⟨t, pt, st⟩ := h cdv A outer s H E hr
  refine ⟨t, pt, st _ _ H F0 c cs _ (re_start rv N) I ?_⟩
  unfold mDef at po
  cases hb : body (ds.map some ++ List.replicate (N.length - ds.length) none) cs with
  | nx e c1 => rw [hb] at po; exact fun H' F' c' x I' σ re => po H' F' c' x I' .non .non
  | rt d c1 => rw [hb] at po; exact po
  | exc n fs e c1 => rw [hb] at po; exact fun H' F' c' x I' σ C dx vs _ a b d => po H' F' c' x I' C dx vs a b d
  | bk e c1 => rw [hb] at po; exact po.elim
  | ct e c1 => rw [hb] at po; exact po.elim
  | stuck => rw [hb] at po; exact po.elim
end
/-- another function that says the same where it says anything -/
theorem spM_imp {g : Gd} {m m' : MF} {n : Nat} (h : ∀ E H F c cs vs ds Q, Ih g H F c cs → RVs g F c vs ds → PoE g E H F c (m' ds cs) Q → PoE g E H F c (m ds cs) Q) : ∀ vs H Q E, spM g m' n vs H Q E → spM g m n vs H Q E :=
  fun vs H Q E ⟨hl, F, c, cs, ds, I, rv, po⟩ => ⟨hl, F, c, cs, ds, I, rv, h _ _ _ _ _ _ _ _ I rv po⟩

/-! ### what a def leaves behind: its own cells are dropped -/
mutual
def below (n : Nat) : D → Bool
  | .lst l => belows n l
  | .tup l => belows n l
  | .dct l => belowk n l
  | .obj _ l => belowf n l
  | .loc k => decide (k < n)
  | _ => true
def belows (n : Nat) : List D → Bool
  | [] => true
  | d :: r => below n d && belows n r
def belowk (n : Nat) : List (Kd × D) → Bool
  | [] => true
  | (_, d) :: r => below n d && belowk n r
def belowf (n : Nat) : List (Str × D) → Bool
  | [] => true
  | (_, d) :: r => below n d && belowf n r
end
def Cell.below (n : Nat) : Cell → Bool
  | .lst l => belows n l
  | .dct l => belowk n l
  | .set _ => true
  | .ins _ l => belowf n l
  | .fz d => L3.below n d
section
variable {g : Gd} {F : Hp} {c : List Addr}
mutual
theorem RV.bel : ∀ {v : V} {d : D}, RV g F c v d → below c.length d = true
  | _, _, .non => rfl
  | _, _, .bl b => rfl
  | _, _, .int i => rfl
  | _, _, .str l => rfl
  | _, _, .lst _ r => RVs.bel r
  | _, _, .tup _ r => RVs.bel r
  | _, _, .dct _ r => RKs.bel r
  | _, _, .scr _ => rfl
  | _, _, .obj _ _ r => RFs.bel r
  | _, _, .loc h => by
    simp only [L3.below, decide_eq_true_eq]
    exact (List.getElem?_eq_some_iff.mp h).1
theorem RVs.bel : ∀ {v : List V} {d : List D}, RVs g F c v d → belows c.length d = true
  | _, _, .nil => rfl
  | _, _, .cons a b => by simp only [L3.belows, RV.bel a, RVs.bel b, Bool.and_self]
theorem RKs.bel : ∀ {v : List (Key × V)} {d : List (Kd × D)}, RKs g F c v d → belowk c.length d = true
  | _, _, .nil => rfl
  | _, _, .cons a b => by simp only [L3.belowk, RV.bel a, RKs.bel b, Bool.and_self]
theorem RFs.bel : ∀ {v : List (Str × V)} {d : List (Str × D)}, RFs g F c v d → belowf c.length d = true
  | _, _, .nil => rfl
  | _, _, .cons a b => by simp only [L3.belowf, RV.bel a, RFs.bel b, Bool.and_self]
end
mutual
theorem RV.cut {n : Nat} : ∀ {v : V} {d : D}, RV g F c v d → below n d = true → RV g F (c.take n) v d
  | _, _, .non, _ => .non
  | _, _, .bl b, _ => .bl b
  | _, _, .int i, _ => .int i
  | _, _, .str l, _ => .str l
  | _, _, .lst h r, b => .lst h (RVs.cut r b)
  | _, _, .tup h r, b => .tup h (RVs.cut r b)
  | _, _, .dct h r, b => .dct h (RKs.cut r b)
  | _, _, .scr h, _ => .scr h
  | _, _, .obj m h r, b => .obj m h (RFs.cut r b)
  | _, _, .loc h, b => .loc (by
    simp only [L3.below, decide_eq_true_eq] at b
    rw [List.getElem?_take, if_pos b]; exact h)
theorem RVs.cut {n : Nat} : ∀ {v : List V} {d : List D}, RVs g F c v d → belows n d = true → RVs g F (c.take n) v d
  | _, _, .nil, _ => .nil
  | _, _, .cons a b, h => by
    simp only [L3.belows, Bool.and_eq_true] at h
    exact .cons (RV.cut a h.1) (RVs.cut b h.2)
theorem RKs.cut {n : Nat} : ∀ {v : List (Key × V)} {d : List (Kd × D)}, RKs g F c v d → belowk n d = true → RKs g F (c.take n) v d
  | _, _, .nil, _ => .nil
  | _, _, .cons a b, h => by
    simp only [L3.belowk, Bool.and_eq_true] at h
    exact .cons (RV.cut a h.1) (RKs.cut b h.2)
theorem RFs.cut {n : Nat} : ∀ {v : List (Str × V)} {d : List (Str × D)}, RFs g F c v d → belowf n d = true → RFs g F (c.take n) v d
  | _, _, .nil, _ => .nil
  | _, _, .cons a b, h => by
    simp only [L3.belowf, Bool.and_eq_true] at h
    exact .cons (RV.cut a h.1) (RFs.cut b h.2)
end
theorem CR.cut {H : Hp} {n : Nat} {a : Addr} {x : Cell} (h : CR g H F c a x) (b : x.below n = true) : CR g H F (c.take n) a x := by
  cases x with
  | lst l => obtain ⟨f, vs, h, r⟩ := h; exact ⟨f, vs, h, r.cut b⟩
  | dct l => obtain ⟨f, vs, h, r⟩ := h; exact ⟨f, vs, h, r.cut b⟩
  | set l => exact h
  | ins m l => obtain ⟨f, C, dx, fs, m, h, r⟩ := h; exact ⟨f, C, dx, fs, m, h, r.cut b⟩
  | fz d => exact ⟨h.1.cut b, h.2⟩
theorem CR.below {H : Hp} {a : Addr} {x : Cell} (h : CR g H F c a x) : x.below c.length = true := by
  cases x with
  | lst l => obtain ⟨f, vs, h, r⟩ := h; exact r.bel
  | dct l => obtain ⟨f, vs, h, r⟩ := h; exact r.bel
  | set l => rfl
  | ins m l => obtain ⟨f, C, dx, fs, m, h, r⟩ := h; exact r.bel
  | fz d => exact h.1.bel
end
/-- the elder cells are as they were, or speak of elder cells alone -/
def Kept (cs cs' : Cells) : Prop := cs.length ≤ cs'.length ∧ ∀ i x, i < cs.length → cs'[i]? = some x → cs[i]? = some x ∨ x.below cs.length = true
theorem ih_cut {g : Gd} {H F H' F' : Hp} {c c' : List Addr} {cs cs' : Cells} (I : Ih g H F c cs) (x : Xt H F c H' F' c') (I' : Ih g H' F' c' cs') (k : Kept cs cs') : Ih g H' F' (c'.take cs.length) (cs'.take cs.length) ∧ Xt H F c H' F' (c'.take cs.length) := by
  refine ⟨⟨I'.sub, by simp [I'.len], I'.nd.sublist (List.take_sublist _ _), fun n a y h1 h2 => ?_⟩, ?_⟩
  · rw [List.getElem?_take] at h1 h2
    split at h1
    · rename_i hn
      rw [if_pos hn] at h2
      have q := I'.cell n a y h1 h2
      refine CR.cut q ?_
      rcases k.2 n y hn h2 with e | e
      · obtain ⟨a0, h0, q0⟩ := I.at e
        have := CR.below q0
        rw [I.len] at this
        exact this
      · exact e
    · cases h1
  · refine ⟨⟨x.le.lst, x.le.tup, x.le.ins, x.le.rd, x.le.frz, fun n a h => ?_⟩, x.kp, x.dom, fun a h n => x.new a (List.mem_of_mem_take h) n, x.out⟩
    have hn : n < cs.length := by rw [← I.len]; exact (List.getElem?_eq_some_iff.mp h).1
    rw [List.getElem?_take, if_pos hn]
    exact x.le.loc n a h
open Classical in
noncomputable def tidy (m : MF) : MF := fun ds cs => match m ds cs with
  | .ok d cs' => if Kept cs cs' ∧ below cs.length d = true then .ok d (cs'.take cs.length) else .stuck
  | .exc n fs cs' => if Kept cs cs' ∧ belowf cs.length fs = true then .exc n fs (cs'.take cs.length) else .stuck
  | .stuck => .stuck
theorem tidy_imp {g : Gd} {m : MF} {n : Nat} : ∀ vs H Q E, spM g (tidy m) n vs H Q E → spM g m n vs H Q E := by
  refine spM_imp fun E H F c cs vs ds Q I rv po => ?_
  unfold tidy at po
  cases h : m ds cs with
  | ok d cs' =>
    rw [h] at po
    simp only at po
    split at po
    · rename_i q
      intro H' F' c' x I' v r
      obtain ⟨I2, x2⟩ := ih_cut I x I' q.1
      exact po H' F' _ x2 I2 v (r.cut q.2)
    · exact po.elim
  | exc k fs cs' =>
    rw [h] at po
    simp only at po
    split at po
    · rename_i q
      intro H' F' c' x I' C dx vs' a b r
      obtain ⟨I2, x2⟩ := ih_cut I x I' q.1
      exact po H' F' _ x2 I2 C dx vs' a b (r.cut q.2)
    · exact po.elim
  | stuck => rw [h] at po; exact po.elim
theorem fn_tidy {P : Program} {w : World} {K : PySem.W.Frag} {mg : Str → Option Value} {base : Heap} {k : Nat} {f : Addr} {fd : FuncData} {ps : List Str} {m : MF} {n : Nat} (F : FnOk P w K mg base (L2.CX P w) k f fd ps (spM ⟨P, w, K, mg⟩ m n)) :
    FnOk P w K mg base (L2.CX P w) k f fd ps (spM ⟨P, w, K, mg⟩ (tidy m) n) := F.imp tidy_imp
theorem kept_app (cs js : Cells) : Kept cs (cs ++ js) := ⟨by simp, fun i x hi h => .inl (by rw [List.getElem?_append_left hi] at h; exact h)⟩
theorem tidy_ok {m : MF} {ds : List D} {cs js : Cells} {d : D} (h : m ds cs = .ok d (cs ++ js)) (b : below cs.length d = true) : tidy m ds cs = .ok d cs := by
  unfold tidy
  rw [h]
  simp only
  rw [if_pos ⟨kept_app cs js, b⟩, List.take_left']
  rfl

/-! ### items -/
def ixD (cs : Cells) (x y : D) : R := match x, y with
  | .str l, .int i => if l.length ≤ sizeLine then (match atI l i with
    | some ch => .ok (.str [ch]) cs
    | none => .stuck) else .stuck
  | x, .int i => match seqOf cs x with
    | some ds => match atI ds i with
      | some d => .ok d cs
      | none => .stuck
    | none => .stuck
  | _, _ => .stuck
theorem atI_rv {g : Gd} {F : Hp} {c : List Addr} {vs : List V} {ds : List D} {i : Int} {d : D} (r : RVs g F c vs ds) (h : atI ds i = some d) : ∃ v, atI vs i = some v ∧ RV g F c v d := by
  unfold atI at h ⊢
  rw [r.length]
  cases e : ixN ds.length i with
  | none => rw [e] at h; cases h
  | some j => rw [e] at h; exact r.get h
section
variable {X : Cx} {W : WX} {pos p p1 p2 : Pos} {a b o : Expr} {ma mb mo : ME}
theorem o2_ix {g : Gd} : O2 g (rIx g.K) ixD := by
  intro W H F c cs x y d e Q I rx ry po
  unfold ixD at po
  split at po
  · split at po
    · split at po
      · rename_i hl _ ch hch
        cases rx; cases ry
        exact .inr (.inr ⟨_, _, ch, rfl, rfl, by rw [str_len]; exact hl, by simpa using hch, PoE.here I (.str [ch]) po⟩)
      · exact po.elim
    · exact po.elim
  · split at po
    · rename_i ds hds
      split at po
      · rename_i d' hd
        obtain ⟨q, vs, rfl, hs, rv⟩ := seqOf_at I rx hds
        cases ry
        obtain ⟨v, hv, r⟩ := atI_rv rv hd
        rcases hs with hs | hs
        · exact .inl ⟨q, vs, _, v, rfl, rfl, hs, hv, PoE.here I r po⟩
        · exact .inr (.inl ⟨q, vs, _, v, rfl, rfl, hs, hv, PoE.here I r po⟩)
      · exact po.elim
    · exact po.elim
  · exact po.elim
theorem xp_ix (ha : Xp X W a ma) (hb : Xp X W b mb) (hs : PlainIx b) : Xp X W (.Subscript a b pos) (op2 ixD ma mb) := by
  obtain ⟨ta, pa, sa⟩ := ha
  obtain ⟨tb, pb, sb⟩ := hb
  exact ⟨_, pe_ix ix_seq pa pb hs, fun σ env H F c cs Q re I po => sim2 sa sb o2_ix re I po⟩

/-! ### slices -/
theorem seqL_at {g : Gd} {H F : Hp} {c : List Addr} {cs : Cells} {v : V} {d : D} {ds : List D} (I : Ih g H F c cs) (r : RV g F c v d) (nt : ∀ l, d ≠ .tup l) (h : seqOf cs d = some ds) : ∃ a vs, v = .ref a ∧ SqL g.K H a vs ∧ RVs g F c vs ds := by
  have fl : listOf cs d = some ds → ∃ a vs, v = .ref a ∧ SqL g.K H a vs ∧ RVs g F c vs ds := fun h => by
    obtain ⟨b, vs, e, h1, h2⟩ := listOf_at I r h
    exact ⟨b, vs, e, .inl (.inl h1), h2⟩
  cases d with
  | tup l => exact absurd rfl (nt l)
  | scr l =>
    simp only [seqOf, Option.some.injEq] at h
    subst h
    cases r with
    | scr h1 => exact ⟨_, _, rfl, SqL.up I.sub h1, rvs_ints _⟩
  | _ => exact fl h

def cutL {α : Type} (xs : List α) (lo hi : Option Int) : List α := (xs.drop (HT.sIx xs.length 0 lo)).take (HT.sIx xs.length xs.length hi - HT.sIx xs.length 0 lo)
abbrev MO := Env → Cells → Option (Option Int × Cells)
def oNone : MO := fun _ cs => some (none, cs)
def oSome (m : ME) : MO := fun env cs => match m env cs with
  | .ok (.int i) cs1 => some (some i, cs1)
  | _ => none
def slD (md : Bool) (cs : Cells) (x : D) (lo hi : Option Int) : R := match x with
  | .str l => if l.length ≤ sizeLine then .ok (.str (cutL l lo hi)) cs else .stuck
  | .tup l => mkT cs (cutL l lo hi)
  | x => match seqOf cs x with
    | some ds => mkL md cs (cutL ds lo hi)
    | none => .stuck
def eSl (md : Bool) (m : ME) (lo hi : MO) : ME := fun env cs => (m env cs).bind fun x cs1 => match lo env cs1 with
  | some (l, cs2) => match hi env cs2 with
    | some (h, cs3) => slD md cs3 x l h
    | none => .stuck
  | none => .stuck
def Xo (X : Cx) (W : WX) (e : Option Expr) (m : MO) : Prop := ∃ t, PO X e t ∧ ∀ σ env H F c cs (Q : Option Int → Hp → Prop), RE (gd X) F c σ env → Ih (gd X) H F c cs →
  (match m env cs with
    | some (o, cs1) => Fw (gd X) H F c cs1 fun H' _ _ => Q o H'
    | none => False) → t σ H Q
theorem xo_none : Xo X W none oNone := ⟨_, po_none, fun _ _ _ _ _ _ _ _ I po => po _ _ _ (Xt.refl _ _ _) I⟩
theorem xo_some (h : Xp X W a ma) : Xo X W (some a) (oSome ma) := by
  obtain ⟨ta, pa, sa⟩ := h
  refine ⟨_, po_some pa, fun σ env H F c cs Q re I po => ?_⟩
  refine sa σ env H F c cs _ re I ?_
  unfold oSome at po
  cases h : ma env cs with
  | ok d cs1 =>
    rw [h] at po
    cases d with
    | int i => exact fun H' F' c' x I' v rv => by cases rv; exact ⟨i, rfl, po H' F' c' x I'⟩
    | _ => exact po.elim
  | exc n fs cs1 => rw [h] at po; exact po.elim
  | stuck => rw [h] at po; exact po.elim
theorem rvs_cut {g : Gd} {F : Hp} {c : List Addr} {vs : List V} {ds : List D} (r : RVs g F c vs ds) (lo hi : Option Int) : RVs g F c (cutV vs lo hi) (cutL ds lo hi) := by
  unfold cutV cutL
  rw [r.length]
  exact (r.drop _).take _
theorem xp_sl (md : Bool) {lo hi : Option Expr} {ml mh : MO} (ha : Xp X W a ma) (hl : Xo X W lo ml) (hh : Xo X W hi mh) : Xp X W (.Subscript a (.Slice lo hi none p2) pos) (eSl md ma ml mh) := by
  obtain ⟨ta, pa, sa⟩ := ha
  obtain ⟨tl, pl, sl⟩ := hl
  obtain ⟨th, ph, sh⟩ := hh
  refine ⟨_, pe_slice ((sl_list (X := X)).or (sl_str.or sl_tupA)) pa pl ph, fun σ env H F c cs Q re I po => ?_⟩
  refine sa σ env H F c cs _ re I (PoE.cut po _ fun d cs1 _ H1 F1 c1 v x1 I1 rv po1 => ?_)
  refine sl σ env H1 F1 c1 cs1 _ (re.mono x1.le) I1 ?_
  cases e1 : ml env cs1 with
  | none => rw [e1] at po1; exact po1.elim
  | some q =>
    obtain ⟨l, cs2⟩ := q
    rw [e1] at po1
    simp only at po1 ⊢
    intro H2 F2 c2 x2 I2
    refine sh σ env H2 F2 c2 cs2 _ ((re.mono x1.le).mono x2.le) I2 ?_
    cases e2 : mh env cs2 with
    | none => rw [e2] at po1; exact po1.elim
    | some q =>
      obtain ⟨h, cs3⟩ := q
      rw [e2] at po1
      simp only at po1 ⊢
      intro H3 F3 c3 x3 I3
      have po3 := PoE.from (x2.trans x3) po1
      have rv3 := (rv.mono x2.le).mono x3.le
      unfold slD at po3
      split at po3
      · split at po3
        · rename_i hl
          cases rv3
          refine .inr (.inl ⟨_, rfl, by rw [str_len]; exact hl, ?_⟩)
          have : cutS (⟨List.toArray ‹List Nat›⟩ : Str) l h = ⟨(cutL ‹List Nat› l h).toArray⟩ := by
            unfold cutS cutL
            rw [str_len]
          rw [this]
          exact PoE.here I3 (.str _) po3
        · exact po3.elim
      · cases rv3 with
        | tup g1 g2 =>
          refine .inr (.inr ⟨_, _, rfl, SqT.up I3.sub g1, fun e => ?_, fun _ p hp => mkT_ok I3 (rvs_cut g2 l h) po3 hp⟩)
          unfold mkT at po3
          split at po3
          · have hc : cutL ‹List D› l h = ‹List D› := by
              unfold cutL
              rw [← g2.length, e.1, e.2, g2.length]
              simp
            rw [hc] at po3
            exact PoE.here I3 (.tup g1 g2) po3
          · exact po3.elim
      · split at po3
        · rename_i ds hds
          have nt : ∀ l, d ≠ .tup l := by
            rintro l rfl
            rename_i hn
            exact hn l rfl
          obtain ⟨q, vs, rfl, hs, r⟩ := seqL_at I3 rv3 nt hds
          exact .inl ⟨q, vs, rfl, hs, fun p hp => mkL_ok I3 (rvs_cut r l h) po3 hp⟩
        · exact po3.elim
end
end L3

namespace L3
open PySem L2

/-! ### calls of built-in functions -/
def Cb (g : Gd) (r : List V → Hp → VK → Prop) (f : Cells → List D → R) : Prop := ∀ (W : XK) (H F : Hp) (c : List Addr) (cs : Cells) (vs : List V) (ds : List D) (Q : VK), Ih g H F c cs → RVs g F c vs ds → PoE g W H F c (f cs ds) Q → r vs H Q
def eBi (f : Cells → List D → R) (a : MA) : ME := fun env cs => (a env cs).bind fun ds cs1 => f cs1 ds
section
variable {X : Cx} {W : WX} {pos p p1 p2 : Pos} {a b o e : Expr} {ma mb mo : ME} {ms : MA} {id T : String} {x : Str} {es : List Expr} {r : List V → Hp → VK → Prop} {f : Cells → List D → R}
theorem xp_bi (hc : CallR X (.builtin id) r) (ho : Cb (gd X) r f) (hg : Gl X x) (hm : X.mg x = none) (hv : bootBuiltins x = some (.builtin id)) (ha : Xa X W (e :: es) ms) (hn : x ≠ "__name__" := by decide) (hdb : (x == ("__debug__" : Str)) = false := by decide)
    (he : starEach (e :: es) X.env = (false, eval e X.env) :: starEach es X.env := by rfl) (hpl : (backTo pos (starEach es X.env)).any (·.1) = false := by rfl) : Xp X W (.Call (.Name x p) (e :: es) [] pos) (eBi f ms) := by
  obtain ⟨t, pa, sa⟩ := ha
  refine ⟨_, pe_callB hc hg hm hv pa hn hdb he hpl, fun σ env H F c cs Q re I po => ?_⟩
  exact sa σ env H F c cs _ re I (PoA.cut po _ fun ds cs1 _ H1 F1 c1 vs x1 I1 rv po1 => ho _ H1 F1 c1 cs1 vs ds Q I1 rv po1)
theorem xp_ty (hc : CallR X (.type T) r) (ho : Cb (gd X) r f) (hg : Gl X x) (hm : X.mg x = none) (hv : bootBuiltins x = some (.type T)) (ha : Xa X W (e :: es) ms) (hn : x ≠ "__name__" := by decide) (hdb : (x == ("__debug__" : Str)) = false := by decide)
    (he : starEach (e :: es) X.env = (false, eval e X.env) :: starEach es X.env := by rfl) (hpl : (backTo pos (starEach es X.env)).any (·.1) = false := by rfl) : Xp X W (.Call (.Name x p) (e :: es) [] pos) (eBi f ms) := by
  obtain ⟨t, pa, sa⟩ := ha
  refine ⟨_, pe_callTy hc hg hm hv pa hn hdb he hpl, fun σ env H F c cs Q re I po => ?_⟩
  exact sa σ env H F c cs _ re I (PoA.cut po _ fun ds cs1 _ H1 F1 c1 vs x1 I1 rv po1 => ho _ H1 F1 c1 cs1 vs ds Q I1 rv po1)
end

/-! len -/
def lenB (cs : Cells) : List D → R
  | [.str l] => if l.length ≤ sizeLine then .ok (.int l.length) cs else .stuck
  | [d] => match seqOf cs d with
    | some ds => .ok (.int ds.length) cs
    | none => .stuck
  | _ => .stuck
theorem cb_len {g : Gd} : Cb g (fun xs H Q => ∃ x n, xs = [x] ∧ LenV g.K x H n ∧ Q (.int n) H) lenB := by
  intro W H F c cs vs ds Q I rv po
  unfold lenB at po
  split at po
  · split at po
    · rename_i l hl
      cases rv with
      | cons r1 r2 =>
        cases r1; cases r2
        exact ⟨_, l.length, rfl, ⟨by rw [str_len]; exact hl, by rw [str_len]⟩, PoE.here I (.int _) po⟩
    · exact po.elim
  · split at po
    · rename_i d _ ds hds
      cases rv with
      | cons r1 r2 =>
        cases r2
        obtain ⟨q, vs, rfl, hs, r⟩ := seqOf_at I r1 hds
        refine ⟨_, ds.length, rfl, ?_, PoE.here I (.int _) po⟩
        rcases hs with hs | hs
        · exact .inl ⟨vs, hs, r.length.symm⟩
        · exact .inr ⟨vs, hs, r.length.symm⟩
    · exact po.elim
  · exact po.elim
/-! max, min, of two -/
def maxB (cs : Cells) : List D → R
  | [.int i, .int j] => .ok (.int (if j > i then j else i)) cs
  | _ => .stuck
def minB (cs : Cells) : List D → R
  | [.int i, .int j] => .ok (.int (if j < i then j else i)) cs
  | _ => .stuck
theorem cb_max {g : Gd} : Cb g (fun xs H Q => ∃ i j, xs = [.int i, .int j] ∧ Q (.int (if j > i then j else i)) H) maxB := by
  intro W H F c cs vs ds Q I rv po
  unfold maxB at po
  split at po
  · cases rv with
    | cons r1 r2 =>
      cases r2 with
      | cons r2 r3 =>
        cases r1; cases r2; cases r3
        exact ⟨_, _, rfl, PoE.here I (.int _) po⟩
  · exact po.elim
theorem cb_min {g : Gd} : Cb g (fun xs H Q => ∃ i j, xs = [.int i, .int j] ∧ Q (.int (if j < i then j else i)) H) minB := by
  intro W H F c cs vs ds Q I rv po
  unfold minB at po
  split at po
  · cases rv with
    | cons r1 r2 =>
      cases r2 with
      | cons r2 r3 =>
        cases r1; cases r2; cases r3
        exact ⟨_, _, rfl, PoE.here I (.int _) po⟩
  · exact po.elim
/-! str, int, repr of flat values -/
def codes (x : Str) : List Nat := x.cps.toList
theorem str_codes (x : Str) : (⟨(codes x).toArray⟩ : Str) = x := by
  cases x; simp [codes]
def strB (cs : Cells) : List D → R
  | [.int i] => if i.natAbs.log2 < 1920 then .ok (.str (codes (toString i))) cs else .stuck
  | [.str l] => .ok (.str l) cs
  | _ => .stuck
abbrev rStrA : List V → Hp → VK → Prop := fun xs H Q => (∃ i, xs = [.int i] ∧ i.natAbs.log2 < 1920 ∧ Q (.str (toString i)) H) ∨ ∃ a, xs = [.str a] ∧ Q (.str a) H
theorem call_strA {X : Cx} : CallR X (.type "str") rStrA := call_str_int.or SkE.call_str_str
theorem cb_str {g : Gd} : Cb g rStrA strB := by
  intro W H F c cs vs ds Q I rv po
  unfold strB at po
  split at po
  · split at po
    · rename_i i hi
      cases rv with
      | cons r1 r2 =>
        cases r1; cases r2
        refine .inl ⟨_, rfl, hi, ?_⟩
        have := PoE.here I (.str (codes (toString i))) po
        rw [str_codes] at this
        exact this
    · exact po.elim
  · cases rv with
    | cons r1 r2 =>
      cases r1; cases r2
      exact .inr ⟨_, rfl, PoE.here I (.str _) po⟩
  · exact po.elim
def intB (cs : Cells) : List D → R
  | [.str l] => match PySem.intText? ⟨l.toArray⟩ with
    | some n => if l.length ≤ 640 then .ok (.int n) cs else .stuck
    | none => .stuck
  | _ => .stuck
theorem cb_int {g : Gd} : Cb g (fun xs H Q => ∃ a n, xs = [.str a] ∧ PySem.intText? a = some n ∧ a.length ≤ 640 ∧ Q (.int n) H) intB := by
  intro W H F c cs vs ds Q I rv po
  unfold intB at po
  split at po
  · split at po
    · split at po
      · rename_i hl
        cases rv with
        | cons r1 r2 =>
          cases r1; cases r2
          exact ⟨_, _, rfl, by assumption, by rw [str_len]; exact hl, PoE.here I (.int _) po⟩
      · exact po.elim
    · exact po.elim
  · exact po.elim
/-- repr of a flat value -/
def reprC : D → Option (List Nat)
  | .non => some (codes "None")
  | .bl b => some (codes (if b then "True" else "False"))
  | .int i => if i.natAbs.log2 < 1920 then some (codes (toString i)) else none
  | .str l => if (reprText ⟨l.toArray⟩).length ≤ sizeLine then some (codes (reprText ⟨l.toArray⟩)) else none
  | _ => none
def reprB (cs : Cells) : List D → R
  | [d] => match reprC d with
    | some l => .ok (.str l) cs
    | none => .stuck
  | _ => .stuck
inductive RepV : V → Str → Prop
  | non : RepV .non "None"
  | bl (b : Bool) : RepV (.bl b) (if b then "True" else "False")
  | int {i : Int} (h : i.natAbs.log2 < 1920) : RepV (.int i) (toString i)
  | str {x : Str} (h : (reprText x).length ≤ sizeLine) : RepV (.str x) (reprText x)
def rRepV : List V → Hp → VK → Prop := fun xs H Q => ∃ x z, xs = [x] ∧ RepV x z ∧ Q (.str z) H
theorem call_repV {X : Cx} : CallR X (.builtin "repr") rRepV := by
  intro pins s σ H xs us Q I r h
  obtain ⟨x, z, rfl, hr, q⟩ := h
  obtain ⟨u, rfl, ru⟩ := vals1 r
  cases hr with
  | non => cases (show u = Value.none from ru); exact PySem.P.repr_of_none ⟨.str _, H, I.tok _, ⟨_, rfl⟩, q⟩
  | bl b => cases (show u = Value.bool b from ru); exact PySem.P.repr_of_bool ⟨.str _, H, I.tok _, by cases b <;> exact ⟨_, rfl⟩, q⟩
  | int h => obtain ⟨t, rfl⟩ := ru; exact PySem.P.repr_of_int h ⟨.str _, H, I.tok _, ⟨_, rfl⟩, q⟩
  | str h => obtain ⟨t, rfl⟩ := ru; exact PySem.P.repr_of_str ⟨.str _, H, I.tok _, ⟨_, rfl⟩, q⟩ h
theorem cb_repr {g : Gd} : Cb g rRepV reprB := by
  intro W H F c cs vs ds Q I rv po
  unfold reprB at po
  split at po
  · rename_i d
    cases rv with
    | cons r1 r2 =>
      cases r2
      split at po
      · rename_i l hl
        have go : ∀ z, codes z = l → ∀ v, RepV v z → rRepV [v] H Q := fun z e v h => ⟨v, z, rfl, h, by
          have := PoE.here I (.str l) po
          rw [← e, str_codes] at this
          exact this⟩
        cases r1 with
        | non => simp only [reprC, Option.some.injEq] at hl; exact go _ hl _ .non
        | bl b => simp only [reprC, Option.some.injEq] at hl; exact go _ hl _ (.bl b)
        | int i =>
          simp only [reprC] at hl
          split at hl
          · simp only [Option.some.injEq] at hl; exact go _ hl _ (.int (by assumption))
          · cases hl
        | str y =>
          simp only [reprC] at hl
          split at hl
          · simp only [Option.some.injEq] at hl; exact go _ hl _ (.str (by assumption))
          · cases hl
        | _ => cases hl
      · exact po.elim
  · exact po.elim
/-! all, any, of a list of truths -/
def blsOf : List D → Option (List Bool)
  | [] => some []
  | .bl b :: r => match blsOf r with
    | some l => some (b :: l)
    | none => none
  | _ => none
def allB (cs : Cells) : List D → R
  | [d] => match listOf cs d with
    | some ds => match blsOf ds with
      | some l => .ok (.bl (l.all id)) cs
      | none => .stuck
    | none => .stuck
  | _ => .stuck
theorem blsOf_rv {g : Gd} {F : Hp} {c : List Addr} : ∀ {vs : List V} {ds : List D} {l : List Bool}, RVs g F c vs ds → blsOf ds = some l → vs = l.map V.bl
  | _, _, _, .nil, h => by simp only [blsOf, Option.some.injEq] at h; subst h; rfl
  | _, _, _, .cons r1 r2, h => by
    cases r1 with
    | bl b =>
      simp only [blsOf] at h
      split at h
      · rename_i l hl
        simp only [Option.some.injEq] at h
        subst h
        rw [blsOf_rv r2 hl]; rfl
      · cases h
    | _ => cases h
theorem cb_all {g : Gd} : Cb g (fun vs H Q => ∃ (a : Addr) (bs : List Bool), vs = [V.ref a] ∧ SqL g.K H a (bs.map V.bl) ∧ Q (.bl (bs.all _root_.id)) H) allB := by
  intro W H F c cs vs ds Q I rv po
  unfold allB at po
  split at po
  · rename_i d
    cases rv with
    | cons r1 r2 =>
      cases r2
      split at po
      · rename_i ds hds
        split at po
        · rename_i l hl
          obtain ⟨q, vs, rfl, hs, r⟩ := listOf_at I r1 hds
          have e := blsOf_rv r hl
          subst e
          exact ⟨q, l, rfl, .inl (.inl hs), PoE.here I (.bl _) po⟩
        · exact po.elim
      · exact po.elim
  · exact po.elim

/-! ### isinstance, one built-in class -/
def tyD : D → Option String
  | .non => some "NoneType"
  | .bl _ => some "bool"
  | .int _ => some "int"
  | .str _ => some "str"
  | .lst _ => some "list"
  | .scr _ => some "list"
  | .tup _ => some "tuple"
  | .dct _ => some "dict"
  | _ => none
def tyC (cs : Cells) : D → Option String
  | .loc n => match cs[n]? with
    | some (.lst _) => some "list"
    | some (.dct _) => some "dict"
    | some (.fz d) => tyD d
    | _ => none
  | d => tyD d
def isiD (t : String) (cs : Cells) (d : D) : R := match tyC cs d with
  | some u => match kitB u t with
    | some b => .ok (.bl b) cs
    | none => .stuck
  | none => .stuck
section
variable {g : Gd} {H F : Hp} {c : List Addr} {cs : Cells}
theorem tyD_at (I : Ih g H F c cs) {v : V} {d : D} {t : String} (r : RV g F c v d) (h : tyD d = some t) : TyX g.K H v (.type t) := by
  cases r with
  | non => cases h; exact .base .non
  | bl b => cases h; exact .base (.bl b)
  | int i => cases h; exact .base (.int i)
  | str l => cases h; exact .base (.str _)
  | lst h1 _ => cases h; exact .base (.lst (I.sub _ _ h1))
  | tup h1 _ =>
    cases h
    rcases h1 with (h1 | ⟨o, h1⟩) | ⟨o, its, n, h1, h2, _⟩
    · exact .base (.tup (I.sub _ _ h1))
    · exact .fTuple (I.sub _ _ h1)
    · exact .kTuple h1 h2
  | dct h1 _ =>
    cases h
    rcases h1 with h1 | ⟨o, h1⟩
    · exact .base (.dK (I.sub _ _ h1))
    · exact .fDict (I.sub _ _ h1)
  | scr h1 =>
    cases h
    rcases h1 with (h1 | ⟨o, h1⟩) | ⟨o, its, n, h1, h2, _⟩
    · exact .base (.lst (I.sub _ _ h1))
    · exact .base (.frz (I.sub _ _ h1))
    · exact .kList h1 h2
  | _ => cases h
theorem tyC_at (I : Ih g H F c cs) {v : V} {d : D} {t : String} (r : RV g F c v d) (h : tyC cs d = some t) : TyX g.K H v (.type t) := by
  cases r with
  | @loc n a ha =>
    simp only [tyC] at h
    obtain ⟨x, hx⟩ := I.there ha
    have q := I.cell n a x ha hx
    rw [hx] at h
    cases x with
    | lst l => cases h; obtain ⟨_, vs, h1, _⟩ := q; exact .base (.lst h1)
    | dct l => cases h; obtain ⟨_, vs, h1, _⟩ := q; exact .base (.dK h1)
    | fz d => exact tyD_at I q.1 h
    | _ => cases h
  | non => exact tyD_at (c := c) I .non h
  | bl b => exact tyD_at (c := c) I (.bl b) h
  | int i => exact tyD_at (c := c) I (.int i) h
  | str l => exact tyD_at (c := c) I (.str l) h
  | lst a b => exact tyD_at I (.lst a b) h
  | tup a b => exact tyD_at I (.tup a b) h
  | dct a b => exact tyD_at I (.dct a b) h
  | scr a => exact tyD_at (c := c) I (.scr a) h
  | obj a b e => exact tyD_at I (.obj a b e) h
end
section
variable {X : Cx} {W : WX} {pos p p1 p2 : Pos} {a b o e : Expr} {ma mb mo m : ME} {ms : MA} {x : Str} {t : String}
theorem pe_blt (hg : Gl X x) (hm : X.mg x = none) (hv : bootBuiltins x = some (.type t)) (hn : x ≠ "__name__" := by decide) (hdb : (x == ("__debug__" : Str)) = false := by decide) : PE X (.Name x p) (tC (.ty t)) :=
  pe_bltn hg hm hv rfl hn hdb
theorem xp_isi (hgi : Gl X "isinstance") (hmi : X.mg "isinstance" = none) (hg : Gl X x) (hm : X.mg x = none) (hv : bootBuiltins x = some (.type t)) (ha : Xp X W a ma) (hn : x ≠ "__name__" := by decide) (hdb : (x == ("__debug__" : Str)) = false := by decide)
    (he : starEach [a, .Name x p2] X.env = (false, eval a X.env) :: starEach [.Name x p2] X.env := by rfl) (he2 : starEach [.Name x p2] X.env = (false, eval (.Name x p2) X.env) :: starEach [] X.env := by rfl)
    (hpl : (backTo pos (starEach [.Name x p2] X.env)).any (·.1) = false := by rfl) : Xp X W (.Call (.Name "isinstance" p) [a, .Name x p2] [] pos) (op1 (isiD t) ma) := by
  obtain ⟨ta, pa, sa⟩ := ha
  refine ⟨_, pe_callB call_isi hgi hmi PyProof.Rows.boot_isinstance (pa_cons pa (pa_cons (pe_blt hg hm hv hn hdb) pa_nil he2) he) (by decide) (by decide) he hpl, fun σ env H F c cs Q re I po => ?_⟩
  refine sa σ env H F c cs _ re I (PoE.cut po _ fun d cs1 _ H1 F1 c1 v x1 I1 rv po1 => ?_)
  unfold isiD at po1
  split at po1
  · rename_i u hu
    split at po1
    · rename_i k hk
      exact ⟨v, .ty t, .type u, .type t, k, rfl, .ty t, tyC_at I1 rv hu, kit_ty hk, PoE.here I1 (.bl k) po1⟩
    · exact po1.elim
  · exact po1.elim
end
end L3

namespace L3
open PySem L2

/-! ### x in y -/
def flatD : D → Bool
  | .non => true
  | .bl _ => true
  | .int _ => true
  | .str _ => true
  | _ => false
def eqF : D → D → Bool
  | .non, .non => true
  | .bl a, .bl b => a == b
  | .bl a, .int b => (if a then 1 else 0) == b
  | .int a, .bl b => a == (if b then 1 else 0)
  | .int a, .int b => a == b
  | .str a, .str b => decide (a = b)
  | _, _ => false
def inF (x : D) (xs : List D) : Bool := xs.any fun y => eqF y x
theorem flat_rv {g : Gd} {F : Hp} {c : List Addr} {v : V} {d : D} (r : RV g F c v d) (h : flatD d = true) : flatV v = true := by
  cases r <;> first | rfl | cases h
theorem flats_rv {g : Gd} {F : Hp} {c : List Addr} : ∀ {v : List V} {d : List D}, RVs g F c v d → d.all flatD = true → v.all flatV = true
  | _, _, .nil, _ => rfl
  | _, _, .cons a b, h => by
    rw [List.all_cons, Bool.and_eq_true] at h ⊢
    exact ⟨flat_rv a h.1, flats_rv b h.2⟩
theorem str_beq (a b : List Nat) : ((⟨a.toArray⟩ : Str) == ⟨b.toArray⟩) = decide (a = b) := by
  rw [Bool.eq_iff_iff, beq_iff_eq, decide_eq_true_eq]
  constructor
  · intro h
    have := congrArg (fun z : Str => z.cps.toList) h
    simpa using this
  · intro h; rw [h]
theorem eqF_rv {g : Gd} {F : Hp} {c : List Addr} {v u : V} {d e : D} (r : RV g F c v d) (q : RV g F c u e) : eqV v u = eqF d e := by
  cases r <;> cases q <;> first | rfl | (simp only [eqV, eqF]; exact str_beq _ _)
theorem inF_rv {g : Gd} {F : Hp} {c : List Addr} {v : V} {d : D} (r : RV g F c v d) : ∀ {vs : List V} {ds : List D}, RVs g F c vs ds → inV v vs = inF d ds
  | _, _, .nil => rfl
  | _, _, .cons a b => by
    unfold inV inF
    rw [List.any_cons, List.any_cons, eqF_rv a r]
    have := inF_rv r b
    unfold inV inF at this
    rw [this]
def inB (cs : Cells) (x y : D) : Option Bool := match x, y with
  | .str [k], .str l => some (decide (k ∈ l))
  | x, y => match seqOf cs y with
    | some ds => if flatD x && ds.all flatD then some (inF x ds) else none
    | none => none
def inD (cs : Cells) (x y : D) : R := match inB cs x y with
  | some b => .ok (.bl b) cs
  | none => .stuck
def ninD (cs : Cells) (x y : D) : R := match inB cs x y with
  | some b => .ok (.bl !b) cs
  | none => .stuck
abbrev rInS1 : R2 := fun x y H Q => ∃ (c : Nat) (z : Str), x = .str ⟨#[c]⟩ ∧ y = .str z ∧ Q (.bl (decide (c ∈ z.cps.toList))) H
abbrev rNInS1 : R2 := fun x y H Q => ∃ (c : Nat) (z : Str), x = .str ⟨#[c]⟩ ∧ y = .str z ∧ Q (.bl (!decide (c ∈ z.cps.toList))) H
section
variable {X : Cx} {W : WX} {pos p p1 p2 : Pos} {a b o e : Expr} {ma mb mo me : ME} {ms : MA}
theorem o2_in {g : Gd} : O2 g (fun x y H Q => rInS1 x y H Q ∨ rIn g.K false x y H Q) inD := by
  intro W H F c cs x y d e Q I rx ry po
  unfold inD inB at po
  split at po
  · rename_i k hk
    split at hk
    · simp only [Option.some.injEq] at hk
      subst hk
      cases rx; cases ry
      exact .inl ⟨_, _, rfl, rfl, PoE.here I (.bl _) po⟩
    · split at hk
      · rename_i ds hds
        split at hk
        · rename_i hf
          simp only [Bool.and_eq_true] at hf
          simp only [Option.some.injEq] at hk
          obtain ⟨q, vs, rfl, hs, r⟩ := seqOf_at I ry hds
          refine .inr ⟨q, vs, rfl, hs, flat_rv rx hf.1, flats_rv r hf.2, ?_⟩
          rw [if_neg Bool.false_ne_true, inF_rv rx r, hk]
          exact PoE.here I (.bl _) po
        · cases hk
      · cases hk
  · exact po.elim
theorem o2_nin {g : Gd} : O2 g (fun x y H Q => rNInS1 x y H Q ∨ rIn g.K true x y H Q) ninD := by
  intro W H F c cs x y d e Q I rx ry po
  unfold ninD inB at po
  split at po
  · rename_i k hk
    split at hk
    · simp only [Option.some.injEq] at hk
      subst hk
      cases rx; cases ry
      exact .inl ⟨_, _, rfl, rfl, PoE.here I (.bl _) po⟩
    · split at hk
      · rename_i ds hds
        split at hk
        · rename_i hf
          simp only [Bool.and_eq_true] at hf
          simp only [Option.some.injEq] at hk
          obtain ⟨q, vs, rfl, hs, r⟩ := seqOf_at I ry hds
          refine .inr ⟨q, vs, rfl, hs, flat_rv rx hf.1, flats_rv r hf.2, ?_⟩
          rw [if_pos rfl, inF_rv rx r, hk]
          exact PoE.here I (.bl _) po
        · cases hk
      · cases hk
  · exact po.elim
theorem xp_in (ha : Xp X W a ma) (hb : Xp X W b mb) (hm : behindInMarks .In b = false) : Xp X W (.Compare a [.In] [b] pos) (op2 inD ma mb) := xp_cmp (op_in_sign.or op_in_seq) o2_in ha hb hm
theorem xp_nin (ha : Xp X W a ma) (hb : Xp X W b mb) (hm : behindInMarks .NotIn b = false) : Xp X W (.Compare a [.NotIn] [b] pos) (op2 ninD ma mb) := xp_cmp (op_notIn_sign.or op_notIn_seq) o2_nin ha hb hm
theorem xt_in (ha : Xp X W a ma) (hb : Xp X W b mb) (hm : behindInMarks .In b = false) : Xt1 X W (.Compare a [.In] [b] pos) (op2 inD ma mb) := xt_cmp (op_in_sign.or op_in_seq) o2_in ha hb hm
theorem xt_nin (ha : Xp X W a ma) (hb : Xp X W b mb) (hm : behindInMarks .NotIn b = false) : Xt1 X W (.Compare a [.NotIn] [b] pos) (op2 ninD ma mb) := xt_cmp (op_notIn_sign.or op_notIn_seq) o2_nin ha hb hm

/-! ### o[i] = e, o a list that is a cell -/
def putL (cs : Cells) (o i v : D) : Option Cells := match o, i with
  | .loc n, .int k => match cs[n]? with
    | some (.lst l) => match ixN l.length k with
      | some j => some (cs.set n (.lst (l.set j v)))
      | none => none
    | _ => none
  | _, _ => none
def sPut (mo mi mv : ME) : MS := fun env cs => (mv env cs).toS env fun v cs1 => (mo env cs1).toS env fun o cs2 => (mi env cs2).toS env fun i cs3 => match putL cs3 o i v with
  | some cs4 => .nx env cs4
  | none => .stuck
theorem RVs.set {g : Gd} {F : Hp} {c : List Addr} : ∀ {vs : List V} {ds : List D} (j : Nat) {v : V} {d : D}, RVs g F c vs ds → RV g F c v d → RVs g F c (vs.set j v) (ds.set j d)
  | _, _, _, _, _, .nil, _ => .nil
  | _, _, 0, _, _, .cons a b, r => .cons r b
  | _, _, j + 1, _, _, .cons a b, r => .cons a (RVs.set j b r)
theorem sm_put {tpos : Pos} (ho : Xp X W o mo) (hi : Xp X W b mb) (hv : Xp X W e me)
    (hs : swapsWithSole [.Subscript o b tpos] e pos.line X.env = pure false := by rfl) (hw : swappedStores [.Subscript o b tpos] e X.env = pure none := by rfl)
    (h1 : (assignEach [.Subscript o b tpos] X.env).map (·.2) = [assign (.Subscript o b tpos) X.env] := by rfl)
    (ha : ∀ v, assign (.Subscript o b tpos) X.env v = (do
      let ov ← holding [v] (eval o X.env)
      let iv ← holding [v, ov] (eval b X.env)
      standAt tpos
      holding [v, ov, iv] (setItem ov iv v)
      release [v, ov, iv] []) := by intro _; rfl) : Sm X W (.Assign [.Subscript o b tpos] e pos) (sPut mo mb me) := by
  obtain ⟨to, po', so⟩ := ho
  obtain ⟨tb, pb, sb⟩ := hi
  obtain ⟨te, pe, se⟩ := hv
  refine ⟨_, ps_asg pe (pg_sub po' pb set_list ha) hs hw h1, fun σ env H F c cs Dn re I po => ?_⟩
  refine se σ env H F c cs _ re I (PoS.cut re po _ fun d cs1 _ H1 F1 c1 v x1 I1 rv po1 => ?_)
  refine so σ env H1 F1 c1 cs1 _ (re.mono x1.le) I1 (PoS.cut (re.mono x1.le) po1 _ fun d2 cs2 _ H2 F2 c2 v2 x2 I2 rv2 po2 => ?_)
  refine sb σ env H2 F2 c2 cs2 _ ((re.mono x1.le).mono x2.le) I2 (PoS.cut ((re.mono x1.le).mono x2.le) po2 _ fun d3 cs3 _ H3 F3 c3 v3 x3 I3 rv3 po3 => ?_)
  have re3 := ((re.mono x1.le).mono x2.le).mono x3.le
  have rv' := (rv.mono x2.le).mono x3.le
  have rv2' := rv2.mono x3.le
  split at po3
  · rename_i cs4 h4
    unfold putL at h4
    split at h4
    · rename_i n k
      split at h4
      · rename_i l hl
        split at h4
        · rename_i j hj
          simp only [Option.some.injEq] at h4
          subst h4
          cases rv3
          cases rv2' with
          | loc ha =>
            have q := I3.cell _ _ _ ha hl
            obtain ⟨f, vs, hH, r⟩ := q
            refine ⟨_, vs, _, j, rfl, rfl, hH, by rw [r.length]; exact hj, ?_⟩
            have x4 := Xt.write I3 (o := .lst (vs.set j v)) ha
            refine po3 _ _ _ x4 (I3.write ha hl rfl ?_) σ (re3.mono x4.le)
            exact ⟨f, _, upd_same, r.set j rv'⟩
        · cases h4
      · cases h4
    · cases h4
  · exact po3.elim
end

/-! ### methods of a text -/
def eM0 (f : Cells → List Nat → R) (mo : ME) : ME := fun env cs => (mo env cs).bind fun x cs1 => match x with
  | .str l => f cs1 l
  | _ => .stuck
def eM1 (f : Cells → List Nat → D → R) (mo me : ME) : ME := fun env cs => (mo env cs).bind fun x cs1 => match x with
  | .str l => (me env cs1).bind fun y cs2 => f cs2 l y
  | _ => .stuck
def Mb0 (g : Gd) (r : V → List V → Hp → VK → Prop) (f : Cells → List Nat → R) : Prop := ∀ (W : XK) (H F : Hp) (c : List Addr) (cs : Cells) (l : List Nat) (Q : VK), Ih g H F c cs → PoE g W H F c (f cs l) Q → r (.str ⟨l.toArray⟩) [] H Q
def Mb1 (g : Gd) (r : V → List V → Hp → VK → Prop) (f : Cells → List Nat → D → R) : Prop := ∀ (W : XK) (H F : Hp) (c : List Addr) (cs : Cells) (l : List Nat) (y : V) (e : D) (Q : VK), Ih g H F c cs → RV g F c y e → PoE g W H F c (f cs l e) Q → r (.str ⟨l.toArray⟩) [y] H Q
section
variable {X : Cx} {W : WX} {pos p p1 p2 apos : Pos} {a b o e : Expr} {ma mb mo me : ME} {ms : MA} {id : String} {name : Str} {r : V → List V → Hp → VK → Prop} {f : Cells → List Nat → D → R} {f0 : Cells → List Nat → R}
theorem xp_m0 (slot : Slot "str" name id) (ty : typeOf (.builtin id) = pure (.type "method_descriptor")) (rule : MtR X id r) (ok : Mb0 (gd X) r f0) (ho : Xp X W o mo)
    (hbase : attributeBase o name X.env (eval o X.env) = eval o X.env := by rfl) (hline : (apos.endLine == pos.line) = true := by rfl) : Xp X W (.Call (.Attribute o name apos) [] [] pos) (eM0 f0 mo) := by
  obtain ⟨to, po', so⟩ := ho
  refine ⟨_, pe_m0 slot ty rule po' hbase hline, fun σ env H F c cs Q re I po => ?_⟩
  refine so σ env H F c cs _ re I (PoE.cut po _ fun d cs1 _ H1 F1 c1 v x1 I1 rv po1 => ?_)
  split at po1
  · cases rv
    exact ⟨⟨_, rfl⟩, ok _ _ _ _ _ _ _ I1 po1⟩
  · exact po1.elim
theorem xp_m1 (slot : Slot "str" name id) (ty : typeOf (.builtin id) = pure (.type "method_descriptor")) (rule : MtR X id r) (ok : Mb1 (gd X) r f) (ho : Xp X W o mo) (he : Xp X W e me)
    (hs : starEach [e] X.env = [(false, eval e X.env)] := by rfl) (hbase : attributeBase o name X.env (eval o X.env) = eval o X.env := by rfl) (hline : (apos.endLine == pos.line) = true := by rfl) :
    Xp X W (.Call (.Attribute o name apos) [e] [] pos) (eM1 f mo me) := by
  obtain ⟨to, po', so⟩ := ho
  obtain ⟨te, pe', se⟩ := he
  refine ⟨_, pe_m1 slot ty rule po' pe' hs hbase hline, fun σ env H F c cs Q re I po => ?_⟩
  refine so σ env H F c cs _ re I (PoE.cut po _ fun d cs1 _ H1 F1 c1 v x1 I1 rv po1 => ?_)
  split at po1
  · cases rv
    refine ⟨⟨_, rfl⟩, se σ env H1 F1 c1 cs1 _ (re.mono x1.le) I1 (PoE.cut po1 _ fun d2 cs2 _ H2 F2 c2 v2 x2 I2 rv2 po2 => ?_)⟩
    exact ok _ _ _ _ _ _ _ _ _ I2 rv2 po2
  · exact po1.elim
/-! join -/
def strsOf : List D → Option (List (List Nat))
  | [] => some []
  | .str l :: r => match strsOf r with
    | some q => some (l :: q)
    | none => none
  | _ => none
def joinD (cs : Cells) (l : List Nat) (y : D) : R := match seqOf cs y with
  | some ds => match strsOf ds with
    | some ls => if (ls.map (·.length)).sum + ls.length * l.length ≤ 16777216 then .ok (.str (TL.joinL l ls)) cs else .stuck
    | none => .stuck
  | none => .stuck
theorem strsOf_rv {g : Gd} {F : Hp} {c : List Addr} : ∀ {vs : List V} {ds : List D} {l : List (List Nat)}, RVs g F c vs ds → strsOf ds = some l → vs = (l.map fun z => (⟨z.toArray⟩ : Str)).map V.str
  | _, _, _, .nil, h => by simp only [strsOf, Option.some.injEq] at h; subst h; rfl
  | _, _, _, .cons r1 r2, h => by
    cases r1 with
    | str y =>
      simp only [strsOf] at h
      split at h
      · rename_i l hl
        simp only [Option.some.injEq] at h
        subst h
        rw [strsOf_rv r2 hl]; rfl
      · cases h
    | _ => cases h
theorem map_tl (ls : List (List Nat)) : (ls.map fun z => (⟨z.toArray⟩ : Str)).map TL.tl = ls := by
  rw [List.map_map]
  conv => rhs; rw [← List.map_id ls]
  exact List.map_congr_left fun z _ => by simp [TL.tl]
theorem join_codes (l : List Nat) (ls : List (List Nat)) : Txt.join ⟨l.toArray⟩ (ls.map fun z => (⟨z.toArray⟩ : Str)) = ⟨(TL.joinL l ls).toArray⟩ := by
  rw [TL.join_eq]
  refine TL.ext_tl ?_
  rw [TL.tl_join, map_tl]
theorem mb_join {g : Gd} : Mb1 g (fun x xs H Q => ∃ a p, ∃ ys : List Str, x = .str a ∧ xs = [.ref p] ∧ (SqL g.K H p (ys.map V.str) ∨ SqT g.K H p (ys.map V.str)) ∧
      (ys.map (·.length)).sum + ys.length * a.length ≤ 16777216 ∧ Q (.str (Txt.join a ys)) H) joinD := by
  intro W H F c cs l y e Q I ry po
  unfold joinD at po
  split at po
  · rename_i ds hds
    split at po
    · rename_i ls hls
      split at po
      · rename_i hz
        obtain ⟨q, vs, rfl, hs, r⟩ := seqOf_at I ry hds
        have e := strsOf_rv r hls
        subst e
        refine ⟨_, q, _, rfl, rfl, hs, ?_, ?_⟩
        · rw [List.map_map, List.length_map, str_len]
          have : ls.map ((fun x : Str => x.length) ∘ fun z => (⟨z.toArray⟩ : Str)) = ls.map (·.length) := List.map_congr_left fun z _ => str_len z
          rw [this]; exact hz
        · rw [join_codes]
          exact PoE.here I (.str _) po
      · exact po.elim
    · exact po.elim
  · exact po.elim
theorem xp_join (ho : Xp X W o mo) (he : Xp X W e me)
    (hs : starEach [e] X.env = [(false, eval e X.env)] := by rfl) (hbase : attributeBase o "join" X.env (eval o X.env) = eval o X.env := by rfl) (hline : (apos.endLine == pos.line) = true := by rfl) :
    Xp X W (.Call (.Attribute o "join" apos) [e] [] pos) (eM1 joinD mo me) := xp_m1 F.slot_str_join F.type_str_join mt_join mb_join ho he hs hbase hline
/-! index of one sign -/
def sixD (cs : Cells) (l : List Nat) (y : D) : R := match y with
  | .str [k] => if k ∈ l then .ok (.int ((l.idxOf k : Nat) : Int)) cs else .stuck
  | _ => .stuck
abbrev rSix : V → List V → Hp → VK → Prop := fun x xs H Q => ∃ a b i rest, x = .str a ∧ xs = [.str b] ∧ Builtin.Str.occurrences a b 0 a.length 1 = i :: rest ∧ Q (.int (i : Nat)) H
theorem idx_of : ∀ {l : List Nat} {k i : Nat}, l[i]? = some k → (∀ j, j < i → l[j]? ≠ some k) → i = l.idxOf k
  | [], _, _, h, _ => by simp at h
  | x :: l, k, 0, h, _ => by simp at h; subst h; simp
  | x :: l, k, i + 1, h, q => by
    have hx : x ≠ k := fun e => q 0 (Nat.succ_pos _) (by simp [e])
    have := idx_of (l := l) (k := k) (i := i) (by simpa using h) fun j hj e => q (j + 1) (by omega) (by simpa using e)
    rw [List.idxOf_cons, ← this]
    have : (x == k) = false := by simpa using hx
    rw [this]; rfl
theorem occ_one (l : List Nat) {k : Nat} (h : k ∈ l) : ∃ rest, Builtin.Str.occurrences ⟨l.toArray⟩ ⟨#[k]⟩ 0 (⟨l.toArray⟩ : Str).length 1 = l.idxOf k :: rest := by
  rcases StrLaws.occ_head ⟨l.toArray⟩ ⟨#[k]⟩ 1 (Nat.le_refl _) with ⟨_, hn⟩ | ⟨i, r, e, ha, hn⟩
  · obtain ⟨i, hi⟩ := List.mem_iff_getElem?.mp h
    exact absurd ((StrLaws.subAt_one ⟨l.toArray⟩ k i).mpr (by simpa using hi)) (hn i)
  · have h1 := (StrLaws.subAt_one ⟨l.toArray⟩ k i).mp ha
    have : i = l.idxOf k := idx_of (by simpa using h1) fun j hj e => hn j hj ((StrLaws.subAt_one ⟨l.toArray⟩ k j).mpr (by simpa using e))
    rw [e, this]
    exact ⟨r, rfl⟩
theorem mb_six {g : Gd} : Mb1 g rSix sixD := by
  intro W H F c cs l y e Q I ry po
  unfold sixD at po
  split at po
  · split at po
    · rename_i h
      cases ry
      obtain ⟨r, hr⟩ := occ_one l h
      exact ⟨_, _, _, r, rfl, rfl, hr, PoE.here I (.int _) po⟩
    · exact po.elim
  · exact po.elim
theorem xp_six (ho : Xp X W o mo) (he : Xp X W e me)
    (hs : starEach [e] X.env = [(false, eval e X.env)] := by rfl) (hbase : attributeBase o "index" X.env (eval o X.env) = eval o X.env := by rfl) (hline : (apos.endLine == pos.line) = true := by rfl) :
    Xp X W (.Call (.Attribute o "index" apos) [e] [] pos) (eM1 sixD mo me) := xp_m1 F.slot_str_index F.type_str_index mt_sindex mb_six ho he hs hbase hline
end

/-! ### {k: v, ..} -/
inductive RPs (g : Gd) (F : Hp) (c : List Addr) : List (V × V) → List D → Prop
  | nil : RPs g F c [] []
  | cons {x y : V} {d e : D} {ps : List (V × V)} {ds : List D} : RV g F c x d → RV g F c y e → RPs g F c ps ds → RPs g F c ((x, y) :: ps) (d :: e :: ds)
def PoP (g : Gd) (W : XK) (H F : Hp) (c : List Addr) (r : RA) (Q : List (V × V) → Hp → Prop) : Prop :=
  match r with
  | .ok ds cs => Fw g H F c cs fun H' F' c' => ∀ ps, RPs g F' c' ps ds → Q ps H'
  | .exc n fs cs => ExK g W H F c n fs cs
  | .stuck => False
def Xps (X : Cx) (W : WX) (pos : Pos) (ks : List (Option Expr)) (vs : List Expr) (m : MA) : Prop := ∃ trs, PPs X pos ks vs trs ∧ ∀ σ env H F c cs Q, RE (gd X) F c σ env → Ih (gd X) H F c cs → PoP (gd X) (fun a b => W a b σ) H F c (m env cs) Q → tPairs trs σ H Q
section
variable {X : Cx} {W : WX} {pos : Pos} {k v : Expr} {ks : List (Option Expr)} {vs : List Expr} {mk mv : ME} {ms : MA}
theorem xps_nil : Xps X W pos [] [] aNil := ⟨[], pps_nil, fun _ _ _ _ _ _ _ _ I po => po _ _ _ (Xt.refl _ _ _) I [] .nil⟩
theorem xps_cons (hk : Xp X W k mk) (hv : Xp X W v mv) (hr : Xps X W pos ks vs ms) : Xps X W pos (some k :: ks) (v :: vs) (aCons mk (aCons mv ms)) := by
  obtain ⟨tk, pk, sk⟩ := hk
  obtain ⟨tv, pv, sv⟩ := hv
  obtain ⟨trs, pr, sr⟩ := hr
  refine ⟨_, pps_cons pk pv pr, fun σ env H F c cs Q re I po => ?_⟩
  refine sk σ env H F c cs _ re I ?_
  unfold aCons at po
  cases h1 : mk env cs with
  | ok d cs1 =>
    rw [h1] at po
    simp only at po
    intro H1 F1 c1 x1 I1 v rv
    refine sv σ env H1 F1 c1 cs1 _ (re.mono x1.le) I1 ?_
    cases h2 : mv env cs1 with
    | ok d2 cs2 =>
      rw [h2] at po
      simp only at po
      intro H2 F2 c2 x2 I2 v2 rv2
      refine sr σ env H2 F2 c2 cs2 _ ((re.mono x1.le).mono x2.le) I2 ?_
      cases h3 : ms env cs2 with
      | ok ds cs3 =>
        rw [h3] at po
        exact fun H3 F3 c3 x3 I3 ps rps => po H3 F3 c3 ((x1.trans x2).trans x3) I3 _ (.cons ((rv.mono x2.le).mono x3.le) (rv2.mono x3.le) rps)
      | exc n fs cs3 =>
        rw [h3] at po
        have po : ExK (gd X) (fun a b => W a b σ) H F c n fs cs3 := po
        exact ExK.from (x1.trans x2) po
      | stuck => rw [h3] at po; exact po.elim
    | exc n fs cs2 =>
      rw [h2] at po
      have po : ExK (gd X) (fun a b => W a b σ) H F c n fs cs2 := po
      exact ExK.from x1 po
    | stuck => rw [h2] at po; exact po.elim
  | exc n fs cs1 => rw [h1] at po; exact po
  | stuck => rw [h1] at po; exact po.elim
def kvD : List D → Option (List (Kd × D))
  | [] => some []
  | .int i :: v :: r => match kvD r with
    | some q => some ((.inl i, v) :: q)
    | none => none
  | .str l :: v :: r => match kvD r with
    | some q => some ((.inr l, v) :: q)
    | none => none
  | _ => none
def putD (kds : List (Kd × D)) (k : Kd) (v : D) : List (Kd × D) := if (kds.any fun kv => decide (kv.1 = k)) = true then kds.map (fun kv => if kv.1 = k then (kv.1, v) else kv) else kds ++ [(k, v)]
def mergeD (kds more : List (Kd × D)) : List (Kd × D) := more.foldl (fun acc kv => putD acc kv.1 kv.2) kds
theorem RKs.app {g : Gd} {F : Hp} {c : List Addr} : ∀ {vs ws : List (Key × V)} {ds es : List (Kd × D)}, RKs g F c vs ds → RKs g F c ws es → RKs g F c (vs ++ ws) (ds ++ es)
  | _, _, _, _, .nil, s => s
  | _, _, _, _, .cons a b, s => .cons a (RKs.app b s)
theorem RKs.any {g : Gd} {F : Hp} {c : List Addr} (k : Kd) : ∀ {vs : List (Key × V)} {ds : List (Kd × D)}, RKs g F c vs ds → (vs.any fun kv => decide (kv.1 = kk k)) = ds.any fun kv => decide (kv.1 = k)
  | _, _, .nil => rfl
  | _, _, .cons a b => by rw [List.any_cons, List.any_cons, RKs.any k b, kk_eq]
theorem RKs.upd {g : Gd} {F : Hp} {c : List Addr} (k : Kd) {v : V} {d : D} (r : RV g F c v d) : ∀ {vs : List (Key × V)} {ds : List (Kd × D)}, RKs g F c vs ds → RKs g F c (vs.map fun kv => if kv.1 = kk k then (kv.1, v) else kv) (ds.map fun kv => if kv.1 = k then (kv.1, d) else kv)
  | _, _, .nil => .nil
  | _, _, @RKs.cons _ _ _ k0 v0 d0 vs ds a b => by
    rw [List.map_cons, List.map_cons]
    by_cases h : k0 = k
    · subst h
      rw [if_pos rfl, if_pos rfl]
      exact .cons r (RKs.upd k0 r b)
    · have h' : ¬ kk k0 = kk k := fun e => h (kk_inj e)
      rw [if_neg h', if_neg h]
      exact .cons a (RKs.upd k r b)
theorem RKs.put {g : Gd} {F : Hp} {c : List Addr} {vs : List (Key × V)} {ds : List (Kd × D)} (r : RKs g F c vs ds) (k : Kd) {v : V} {d : D} (q : RV g F c v d) : RKs g F c (putK vs (kk k) v) (putD ds k d) := by
  unfold putK putD
  rw [r.any k]
  split
  · exact r.upd k q
  · exact r.app (.cons q .nil)
theorem RKs.merge {g : Gd} {F : Hp} {c : List Addr} : ∀ {ws : List (Key × V)} {es : List (Kd × D)} {vs : List (Key × V)} {ds : List (Kd × D)}, RKs g F c ws es → RKs g F c vs ds → RKs g F c (mergeK vs ws) (mergeD ds es)
  | _, _, _, _, .nil, r => r
  | _, _, vs, ds, .cons (k := k) a b, r => by
    have h := RKs.merge b (RKs.put r k a)
    exact h
theorem kvD_rv {g : Gd} {F : Hp} {c : List Addr} : ∀ {ps : List (V × V)} {ds : List D} {kds : List (Kd × D)}, RPs g F c ps ds → kvD ds = some kds → ∃ kvs, ps = kvs.map (fun kv => (kV kv.1, kv.2)) ∧ RKs g F c kvs kds
  | _, _, _, .nil, h => by simp only [kvD, Option.some.injEq] at h; subst h; exact ⟨[], rfl, .nil⟩
  | _, _, _, .cons r1 r2 r3, h => by
    cases r1 with
    | int i =>
      simp only [kvD] at h
      split at h
      · rename_i q hq
        simp only [Option.some.injEq] at h
        subst h
        obtain ⟨kvs, e, r⟩ := kvD_rv r3 hq
        exact ⟨(kk (.inl i), _) :: kvs, by rw [e]; rfl, .cons r2 r⟩
      · cases h
    | str l =>
      simp only [kvD] at h
      split at h
      · rename_i q hq
        simp only [Option.some.injEq] at h
        subst h
        obtain ⟨kvs, e, r⟩ := kvD_rv r3 hq
        exact ⟨(kk (.inr l), _) :: kvs, by rw [e]; rfl, .cons r2 r⟩
      · cases h
    | _ => cases h
theorem RKs.length {g : Gd} {F : Hp} {c : List Addr} : ∀ {vs : List (Key × V)} {ds : List (Kd × D)}, RKs g F c vs ds → vs.length = ds.length
  | _, _, .nil => rfl
  | _, _, .cons _ r => by simp [RKs.length r]
def mkD (md : Bool) (cs : Cells) (ds : List (Kd × D)) : R := if md then .ok (.loc cs.length) (cs ++ [.dct ds]) else .ok (.dct ds) cs
def eDict (md : Bool) (m : MA) : ME := fun env cs => (m env cs).bind fun ds cs1 => match kvD ds with
  | some kds => if kds.length ≤ 15 then mkD md cs1 (mergeD [] kds) else .stuck
  | none => .stuck
/-- an object aside joins: stands still, or a cell -/
theorem mkD_ok {g : Gd} {W : XK} {md : Bool} {H F H1 F1 : Hp} {c c1 : List Addr} {cs : Cells} {kds : List (Kd × D)} {kvs : List (Key × V)} {Q : VK} {p : Addr} (x : Xt H F c H1 F1 c1) (I : Ih g H1 F1 c1 cs) (hp : H p = none) (hF : F1 p = none) (hc : p ∉ c1)
    (r : RKs g F1 c1 kvs kds) (po : PoE g W H F c (mkD md cs kds) Q) : Q (.ref p) (L2.upd H1 p (.dK kvs)) := by
  unfold mkD at po
  cases md with
  | true =>
    rw [if_pos rfl] at po
    have y : Xt H F c (L2.upd H1 p (.dK kvs)) F1 (c1 ++ [p]) := by
      have z := x.side (o := .dK kvs) hp
      exact ⟨z.le.trans Le.push, z.kp, z.dom, fun a h n => by
        rcases List.mem_append.mp h with h | h
        · exact z.new a h n
        · have : a = p := by simpa using h
          rw [this]; exact hp, z.out⟩
    have J := I.side (o := .dK kvs) hc hF
    refine po _ _ _ y ⟨J.sub, by simp [J.len], ?_, fun n a z h1 h2 => ?_⟩ _ (.loc (n := cs.length) (by rw [← I.len]; simp))
    · rw [List.nodup_append]
      refine ⟨I.nd, by simp, fun a ha b hb => ?_⟩
      have : b = p := by simpa using hb
      subst this
      rintro rfl
      exact hc ha
    · by_cases hl : n < c1.length
      · rw [List.getElem?_append_left hl] at h1
        rw [List.getElem?_append_left (by rw [← I.len]; exact hl)] at h2
        exact CR.mono (J.cell n a z h1 h2) Le.push (fun _ e => e) fun e => e
      · have hl' : n < (c1 ++ [p]).length := (List.getElem?_eq_some_iff.mp h1).1
        have hn : n = c1.length := by simp at hl'; omega
        subst hn
        rw [List.getElem?_append_right (Nat.le_refl _)] at h1
        rw [I.len, List.getElem?_append_right (Nat.le_refl _)] at h2
        simp at h1 h2
        subst h1; subst h2
        exact ⟨hF, kvs, upd_same, r.mono Le.push⟩
  | false =>
    rw [if_neg Bool.false_ne_true] at po
    have le2 : Le F1 c1 (L2.upd F1 p (.dK kvs)) c1 := Le.upd hF
    have z := x.side (o := .dK kvs) hp
    have J := I.side (o := .dK kvs) hc hF
    have y : Xt H F c (L2.upd H1 p (.dK kvs)) (L2.upd F1 p (.dK kvs)) c1 := ⟨z.le.trans le2, z.kp, z.dom, z.new, fun a o h f n => by
      rw [upd_ne (ne_of_none h hp)]; exact z.out a o h f n⟩
    refine po _ _ _ y ⟨fun a o e => ?_, I.len, I.nd, fun n a z h1 h2 => ?_⟩ _ (.dct (.inl upd_same) (r.mono le2))
    · by_cases ha : a = p
      · subst ha; rw [upd_same] at e ⊢; exact e
      · rw [upd_ne ha] at e; exact J.sub a o e
    · have hne : a ≠ p := fun e => hc (e ▸ List.mem_of_getElem? h1)
      exact CR.mono (J.cell n a z h1 h2) le2 (fun _ e => e) fun e => by rw [upd_ne hne]; exact e
theorem xp_dict (md : Bool) (h : Xps X W pos ks vs ms) (hall : ks.all (·.isSome) = true := by rfl) (hl : ks.length = vs.length := by rfl) (h0 : ks ≠ [] := by simp) (h15 : ks.length ≤ 15 := by decide) : Xp X W (.Dict ks vs pos) (eDict md ms) := by
  obtain ⟨trs, pr, sr⟩ := h
  refine ⟨_, pe_disp pr hall hl h0 h15, fun σ env H F c cs Q re I po p hp => ?_⟩
  have x0 := Xt.side (Xt.refl H F c) (o := .dK []) hp
  refine sr σ env _ F c cs _ re (I.side (I.notMem hp) (I.noF hp)) ?_
  unfold eDict at po
  cases h1 : ms env cs with
  | ok ds cs1 =>
    rw [h1] at po
    simp only [RA.bind_ok] at po
    intro H1 F1 c1 x1 I1 ps rps
    split at po
    · rename_i kds hk
      split at po
      · rename_i h15
        obtain ⟨kvs, e, r⟩ := kvD_rv rps hk
        refine ⟨x1.kp _ _ upd_same (I.notMem hp), kvs, e, by rw [r.length]; exact h15, ?_⟩
        refine mkD_ok (x0.trans x1) I1 hp (x1.out _ _ upd_same (I.noF hp) (I.notMem hp)) (fun m => ?_) (r.merge .nil) po
        have := x1.new p m (I.notMem hp)
        rw [upd_same] at this; cases this
      · exact po.elim
    · exact po.elim
  | exc n fs cs1 =>
    rw [h1] at po
    have po : ExK (gd X) (fun a b => W a b σ) H F c n fs cs1 := po
    exact ExK.from x0 po
  | stuck => rw [h1] at po; exact po.elim
/-- {} -/
theorem xp_dict0 (md : Bool) : Xp X W (.Dict [] [] pos) (fun _ cs => mkD md cs []) := by
  refine ⟨_, pe_dnewK, fun σ env H F c cs Q re I po p hp => ?_⟩
  exact mkD_ok (Xt.refl _ _ _) I hp (I.noF hp) (I.notMem hp) .nil po
end
end L3
namespace L3
open PySem L2
section
variable {X : Cx} {W : WX} {pos : Pos} {a : Expr} {ma : ME}
theorem xt_tB {t : TE} {m : ME} {σ : L2.St} {env : Env} {H F : Hp} {c : List Addr} {cs : Cells} {Q : Bool → Hp → Prop}
    (s : ∀ σ env H F c cs Q, RE (gd X) F c σ env → Ih (gd X) H F c cs → PoE (gd X) (fun a b => W a b σ) H F c (m env cs) Q → t σ H Q) (re : RE (gd X) F c σ env) (I : Ih (gd X) H F c cs) (po : PoT (gd X) (fun a b => W a b σ) H F c (m env cs) Q) : tB t σ H Q := by
  refine s σ env H F c cs (fun x H' => ∃ k, x = .bl k ∧ Q k H') re I ?_
  cases e : m env cs with
  | ok d cs1 =>
    rw [e] at po
    cases d with
    | bl b => exact fun H' F' c' x I' v rv => by cases rv; exact ⟨b, rfl, po H' F' c' x I'⟩
    | _ => exact po.elim
  | exc n fs cs1 => rw [e] at po; exact po
  | stuck => rw [e] at po; exact po.elim
theorem xt_isN {j} {p : Pos} (ha : Xp X W a ma) : Xt1 X W (.Compare a [.Is] [.Constant .none j p] pos) (op1 (isB none) ma) := by
  obtain ⟨ta, pa, sa⟩ := ha
  refine ⟨_, pt_cmp (pc_isN pa) rfl, fun σ env H F c cs Q re I po => ?_⟩
  refine xt_tB (W := W) (m := op1 (isB none) ma) (fun σ env H F c cs Q re I po => ?_) re I po
  refine sa σ env H F c cs _ re I (PoE.cut po _ fun d cs1 _ H1 F1 c1 v x1 I1 rv po1 => ?_)
  rw [rv_non rv]
  cases d <;> exact PoE.here I1 (.bl _) po1
theorem xt_notN {j} {p : Pos} (ha : Xp X W a ma) : Xt1 X W (.Compare a [.IsNot] [.Constant .none j p] pos) (op1 (isNB none) ma) := by
  obtain ⟨ta, pa, sa⟩ := ha
  refine ⟨_, pt_cmp (pc_notN pa) rfl, fun σ env H F c cs Q re I po => ?_⟩
  refine xt_tB (W := W) (m := op1 (isNB none) ma) (fun σ env H F c cs Q re I po => ?_) re I po
  refine sa σ env H F c cs _ re I (PoE.cut po _ fun d cs1 _ H1 F1 c1 v x1 I1 rv po1 => ?_)
  rw [rv_non rv]
  cases d <;> exact PoE.here I1 (.bl _) po1
theorem xt_isB {j} {p : Pos} {b : Bool} (ha : Xp X W a ma) : Xt1 X W (.Compare a [.Is] [.Constant (.bool b) j p] pos) (op1 (isB (some b)) ma) := by
  obtain ⟨ta, pa, sa⟩ := ha
  refine ⟨_, pt_cmpR op_isB pa pe_bl (nomark _), fun σ env H F c cs Q re I po => ?_⟩
  refine xt_tB (W := W) (m := op1 (isB (some b)) ma) (fun σ env H F c cs Q re I po => ?_) re I po
  refine sa σ env H F c cs _ re I (PoE.cut po _ fun d cs1 _ H1 F1 c1 v x1 I1 rv po1 => ?_)
  refine ⟨b, rfl, ?_⟩
  rw [rv_bl b rv]
  cases d <;> exact PoE.here I1 (.bl _) po1
theorem xt_isNB {j} {p : Pos} {b : Bool} (ha : Xp X W a ma) : Xt1 X W (.Compare a [.IsNot] [.Constant (.bool b) j p] pos) (op1 (isNB (some b)) ma) := by
  obtain ⟨ta, pa, sa⟩ := ha
  refine ⟨_, pt_cmpR op_isNB pa pe_bl (nomark _), fun σ env H F c cs Q re I po => ?_⟩
  refine xt_tB (W := W) (m := op1 (isNB (some b)) ma) (fun σ env H F c cs Q re I po => ?_) re I po
  refine sa σ env H F c cs _ re I (PoE.cut po _ fun d cs1 _ H1 F1 c1 v x1 I1 rv po1 => ?_)
  refine ⟨b, rfl, ?_⟩
  rw [rv_bl b rv]
  cases d <;> exact PoE.here I1 (.bl _) po1
end
end L3

namespace L3
open PySem L2
def anyB (cs : Cells) : List D → R
  | [d] => match listOf cs d with
    | some ds => match blsOf ds with
      | some l => .ok (.bl (l.any id)) cs
      | none => .stuck
    | none => .stuck
  | _ => .stuck
theorem cb_any {g : Gd} : Cb g (fun vs H Q => ∃ (a : Addr) (bs : List Bool), vs = [V.ref a] ∧ SqL g.K H a (bs.map V.bl) ∧ Q (.bl (bs.any _root_.id)) H) anyB := by
  intro W H F c cs vs ds Q I rv po
  unfold anyB at po
  split at po
  · rename_i d
    cases rv with
    | cons r1 r2 =>
      cases r2
      split at po
      · rename_i ds hds
        split at po
        · rename_i l hl
          obtain ⟨q, vs, rfl, hs, r⟩ := listOf_at I r1 hds
          have e := blsOf_rv r hl
          subst e
          exact ⟨q, l, rfl, .inl (.inl hs), PoE.here I (.bl _) po⟩
        · exact po.elim
      · exact po.elim
  · exact po.elim
/-! x.lower(), x.split() -/
def lowerD (cs : Cells) (l : List Nat) : R := if l.length ≤ 5592405 then .ok (.str (codes (Txt.lower ⟨l.toArray⟩))) cs else .stuck
def wordsL (l : List Nat) : List (List Nat) := TL.wfin (l.foldl TL.wstep ([], []))
def wordsD (md : Bool) (cs : Cells) (l : List Nat) : R := if l.length + 2 ≤ sizeLine then mkL md cs ((wordsL l).map D.str) else .stuck
theorem rvs_strs {g : Gd} {F : Hp} {c : List Addr} : ∀ ys : List Str, RVs g F c (ys.map V.str) ((ys.map TL.tl).map D.str)
  | [] => .nil
  | y :: r => .cons (by
      have : RV g F c (.str ⟨(TL.tl y).toArray⟩) (.str (TL.tl y)) := .str _
      rw [TL.mk_tl] at this
      exact this) (rvs_strs r)
section
variable {X : Cx} {W : WX} {pos apos : Pos} {o : Expr} {mo : ME}
theorem mb_lower {g : Gd} : Mb0 g (fun x xs H Q => ∃ a, x = .str a ∧ xs = [] ∧ a.length ≤ 5592405 ∧ Q (.str (Txt.lower a)) H) lowerD := by
  intro W H F c cs l Q I po
  unfold lowerD at po
  split at po
  · rename_i h
    refine ⟨_, rfl, rfl, by rw [str_len]; exact h, ?_⟩
    have := PoE.here I (.str _) po
    rw [str_codes] at this
    exact this
  · exact po.elim
theorem xp_lower (ho : Xp X W o mo) (hbase : attributeBase o "lower" X.env (eval o X.env) = eval o X.env := by rfl) (hline : (apos.endLine == pos.line) = true := by rfl) : Xp X W (.Call (.Attribute o "lower" apos) [] [] pos) (eM0 lowerD mo) :=
  xp_m0 F.slot_str_lower F.type_str_lower mt_lower mb_lower ho hbase hline
theorem mb_words {g : Gd} (md : Bool) : Mb0 g (fun x xs H Q => ∃ a, x = .str a ∧ xs = [] ∧ a.length + 2 ≤ sizeLine ∧ rNewStrs (Txt.words a) H Q) (wordsD md) := by
  intro W H F c cs l Q I po
  unfold wordsD at po
  split at po
  · rename_i h
    refine ⟨_, rfl, rfl, by rw [str_len]; exact h, fun p hp => ?_⟩
    have e : (Txt.words ⟨l.toArray⟩).map TL.tl = wordsL l := TL.words_tl _
    have rv := rvs_strs (g := g) (F := F) (c := c) (Txt.words ⟨l.toArray⟩)
    rw [e] at rv
    exact mkL_ok I rv po hp
  · exact po.elim
theorem xp_words (md : Bool) (ho : Xp X W o mo) (hbase : attributeBase o "split" X.env (eval o X.env) = eval o X.env := by rfl) (hline : (apos.endLine == pos.line) = true := by rfl) : Xp X W (.Call (.Attribute o "split" apos) [] [] pos) (eM0 (wordsD md) mo) :=
  xp_m0 F.slot_str_split F.type_str_split mt_words (mb_words md) ho hbase hline
end
end L3

namespace L3
open PySem L2 PySem.Spec PyProof.Rows

/-! ### defs that are called where no repr is under way -/
structure FnG (P : Program) (w : World) (K : PySem.W.Frag) (mg : Str → Option Value) (base : Heap) (k : Nat) (f : Addr) (fd : FuncData) (ps : List Str) (sp : Sp) : Prop where
  len : ∀ vs H Q E, sp vs H Q E → vs.length = ps.length
  run : ∀ (A : Around) (outer : List PySem.Env) (s : Shared) (H : Hp) (args : Args) (us : List Value) (vs : List V) (Q : VK) (E : XK), A.guards = some [] → Room k A → Env0 P w K mg base A outer s H → BindsTo s fd args (ps.zip us) → Vals vs us → sp vs H Q E →
    codeAny (model P w) A (.call (.ref f) args) (L2.CR (L2.CX P w) outer P w H s Q E) s
section
variable {P : Program} {w : World} {K : PySem.W.Frag} {mg : Str → Option Value} {base : Heap} {k : Nat} {f : Addr} {fd : FuncData} {ps : List Str} {sp sp' : Sp}
theorem FnG.imp (F : FnG P w K mg base k f fd ps sp) (h : ∀ vs H Q E, sp' vs H Q E → sp vs H Q E) : FnG P w K mg base k f fd ps sp' :=
  ⟨fun vs H Q E q => F.len vs H Q E (h _ _ _ _ q), fun A outer s H args us vs Q E hg hr e b v q => F.run A outer s H args us vs Q E hg hr e b v (h _ _ _ _ q)⟩
theorem FnG.mono {j : Nat} (F : FnG P w K mg base j f fd ps sp) (h : j ≤ k) : FnG P w K mg base k f fd ps sp := ⟨F.len, fun A outer s H args us vs Q E hg hr => F.run A outer s H args us vs Q E hg (hr.mono h)⟩
/-- a def by its body -/
theorem fnG_of {x qual : Str} {st : Stmt} {N : List Str} (Fn : Fun K x qual st f fd) (S : FnScope N ps (defScope st)) (len : ∀ vs H Q E, sp vs H Q E → vs.length = ps.length)
    (hbody : ∀ (cdv : Value) (A : Around) (outer : List PySem.Env) (s : Shared) (H : Hp) (vs : List V) (Q : VK) (E : XK), A.guards = some [] → Room k (A.deeper (envOfC qual (defScope st) s.heap.objs.size f cdv)) → sp vs H Q E →
      ∃ t, PSs (cxOf (L2.CX P w) P w K mg base N qual (defScope st) f cdv A outer s H E) (defBody st) t ∧ t { nx := fun _ H' => Q .non H', rt := Q } (start N vs) H) : FnG P w K mg base (k + 1) f fd ps sp := by
  obtain ⟨oc, od, kV, doc, pm, an, cdv, ct, osl, rfl, lk, hcd⟩ := Fn.ex
  constructor
  · exact len
  intro A outer s H args us vs Q E hG hr e0 hb rv hsp
  have hl := len _ _ _ _ hsp
  have KX : K.In s.heap := e0.mod.kin.keeps fun b o e => (e0.bs b o e).1
  have lim : s.heap.NoLimit := e0.mod.nolimit.keeps fun b o e => (e0.bs b o e).1
  have kinds : ∀ y ∈ ps.zip us, (defScope st).names.lookup y.1 = some .local ∨ ((defScope st).names.lookup y.1 = some .cell ∧ ((cellsFrom (s.heap.objs.size + 1) (defScope st).names []).lookup y.1).isSome = true) := by
    rintro ⟨n, v⟩ hy
    rcases S.par n (List.of_mem_zip hy).1 with q | q
    · exact .inl q
    · exact .inr ⟨q, PySem.W.cellsFrom_some _ _ _ (.inl q)⟩
  refine codeAny_call_function hr.depth (KX _ _ lk) rfl S.co S.gen rfl (PySem.W.codeRec_of KX hcd) (hb _ _ _ _ (wpAny_newFunctionEnv_cells S.kind kinds fun env he s1 x => ?_))
  subst he
  refine ⟨lim.keeps x.toInCall.keep, codeAny_func ?_⟩
  obtain ⟨t, ht, hq⟩ := hbody cdv A outer s H vs Q E hG (hr.deeper _) hsp
  have I : Inv (cxOf (L2.CX P w) P w K mg base N qual (defScope st) f cdv A outer s H E) [] (start N vs) H s1 := inv_start S hr.hd e0 hl rv x
  refine wpAny_mono (ht.run [] s1 (start N vs) H _ I hq) (fun fl s' r => ?_) fun e s' r => r
  cases fl with
  | ret u => obtain ⟨v, z, G, J, r', q⟩ := r; exact ⟨v, G, J.os, J.bare, J.base, J.hok, r', q⟩
  | next => obtain ⟨z, G, J, q⟩ := r; exact ⟨.non, G, J.os, J.bare, J.base, J.hok, rfl, q⟩
  | brk => obtain ⟨_, _, _, q⟩ := r; exact q.elim
  | cont => obtain ⟨_, _, _, q⟩ := r; exact q.elim
end
section
variable {X : Cx} {k : Nat} {f : Addr} {fd : FuncData} {ps : List Str} {sp : Sp} {E : L2.St → XK} {x : Str} {p pos : Pos} {e : Expr} {es : List Expr} {t : TA}
theorem run_fnG {pins : List (Addr × Obj)} {σ : L2.St} {H : Hp} {s : Shared} {Q : VK} {us : List Value} {vs : List V} (F : FnG X.prog X.w X.K X.mg X.base k f fd ps sp) (hG : X.A.guards = some []) (hr : Room k X.A) (hb : Binds X.K fd ps []) (hx : PassesAt (L2.CX X.prog X.w) X σ (E σ))
    (I : Inv X pins σ H s) (r : Vals vs us) (h : sp vs H Q (E σ)) : wpAny (model X.prog X.w) X.A (call (.ref f) us) (EP X pins σ Q) X.xe s := by
  have hl : us.length = ps.length := by rw [← r.length]; exact F.len _ _ _ _ h
  have b := hb s us I.kIn (by rw [List.append_nil]; exact hl)
  rw [List.append_nil] at b
  refine wpAny_call (codeAny_mono (F.run X.A X.stack s H ⟨us, []⟩ us vs Q (E σ) hG hr I.env0 b r h) fun q s' z => ?_)
  cases q with
  | error e => exact hx pins H s e s' I z
  | ok fl =>
    cases fl with
    | ret u => exact I.after z
    | next => exact z.elim
    | brk => exact z.elim
    | cont => exact z.elim
theorem pe_callG (F : FnG X.prog X.w X.K X.mg X.base k f fd ps sp) (hG : X.A.guards = some []) (hr : Room k X.A) (hg : Gl X x) (hm : X.mg x = some (.ref f)) (hk : PySem.W.keepIn X.K (.ref f) = true) (hb : Binds X.K fd ps []) (hx : ∀ σ, PassesAt (L2.CX X.prog X.w) X σ (E σ))
    (ha : PA X (e :: es) t) (hdb : (x == ("__debug__" : Str)) = false := by decide) (he : starEach (e :: es) X.env = (false, eval e X.env) :: starEach es X.env := by rfl) (hpl : (backTo pos (starEach es X.env)).any (·.1) = false := by rfl) :
    PE X (.Call (.Name x p) (e :: es) [] pos) (tCallS sp E t) := by
  constructor
  intro pins s σ H Q I h
  refine wpAny_Call_Name_kw (ld_glob I hg hm ?_ hdb)
  refine PySem.W.callWith_K (h₀ := X.base) I.ok.mod.kin hk (thn (ha.run pos pins s σ H _ I h) fun us s1 z => ?_) he hpl
  obtain ⟨vs, H1, I1, r, q⟩ := z
  exact ⟨I1.kIn, run_fnG F hG hr hb (hx σ) I1 r q⟩
end
/-! ### the law itself is called -/
theorem law_callG {P : Program} {w : World} {K : PySem.W.Frag} {mg mb : Str → Option Value} {k : Nat} {fa a : Addr} {fd : FuncData} {x : Str} {sp : Sp} {s₁ : Shared} {vs : List Value} {ns : List Int}
    (KX : K.In s₁.heap) (hns : s₁.heap.Ns mainGlobals mg) (hb : s₁.heap.Ns builtinsNs mb) (hbb : ∀ x : Str, x ≠ "__name__" → mb x = bootBuiltins x) (hlim : s₁.heap.NoLimit) (hg : s₁.gens = #[])
    (ha : s₁.heap.get? a = some { cls := .type "list", data := .seq vs.toArray }) (hi : IntsAre vs ns) (hl : ns.length ≤ sizeLine) (hr : Room k callerA)
    (hsm : ∃ mm, s₁.heap.Ns sysModules mm) (F : ∀ base : Heap, K.In base → base.Ns mainGlobals mg → (∃ mm, base.Ns sysModules mm) → FnG P w K mg base k fa fd [x] sp) (hbind : ∀ (s : Shared) (u : Value), BindsTo s fd ⟨[u], []⟩ [(x, u)])
    (hsp : ∀ H : Hp, SqL K H a (ns.map V.int) → sp [.ref a] H (fun v _ => v = .bl true) fun _ _ _ => False) :
    codeAny (model P w) callerA (.call (.ref fa) ⟨[.ref a], []⟩) (fun r s' => r = .ok (.ret (.bool true)) ∧ OldK s₁.heap s'.heap ∧ s'.os = s₁.os ∧ AllBare s'.gens) s₁ := by
  have rv := vals_ints hi
  have lenV := hi.length
  have core : ∀ H : Hp, (∀ b, H b = none ∨ ∃ ob xs, H b = some (.frz ob (.lst xs))) → SqL K H a (ns.map V.int) → HOk P w H s₁.heap → (∀ b, H b ≠ none → b = a) → (H a ≠ none → K.lookup a = none) →
      codeAny (model P w) callerA (.call (.ref fa) ⟨[.ref a], []⟩) (fun r s' => r = .ok (.ret (.bool true)) ∧ OldK s₁.heap s'.heap ∧ s'.os = s₁.os ∧ AllBare s'.gens) s₁ := by
    intro H hO hS hok only noK
    have aside : ∀ {b : Addr} {o : Obj}, s₁.heap.get? b = some o → (b = a → o ≠ { cls := .type "list", data := .seq vs.toArray } ∨ H b = none) → H b = none := fun {b o} e h => by
      cases q : H b with
      | none => rfl
      | some u =>
        have eb : b = a := only b (by rw [q]; simp)
        rcases h eb with z | z
        · subst eb; rw [ha] at e; cases e; exact absurd rfl z
        · rw [q] at z; cases z
    have spc : ∀ {b : Addr} {m : Str → Option Value}, s₁.heap.Ns b m → (hidT s₁.heap H).Ns b m := fun {b m} ⟨o, es, ep, e, d, r⟩ =>
      ⟨o, es, ep, hidT_get e (aside e fun _ => .inl fun z => by rw [z] at d; cases d), d, r⟩
    have kin : K.In (hidT s₁.heap H) := fun b o e => hidT_get (KX b o e) (aside (KX b o e) fun eb => .inr (by
      cases q : H b with
      | none => rfl
      | some u => subst eb; rw [noK (by rw [q]; simp)] at e; cases e))
    have md : Mod K mg (hidT s₁.heap H) := ⟨kin, spc hns, ⟨mb, spc hb, hbb⟩, let ⟨mc, h1, h2⟩ := hlim; ⟨mc, spc h1, h2⟩⟩
    have e0 : Env0 P w K mg (hidT s₁.heap H) callerA [] s₁ H := ⟨rfl, md, fun b o e => of_hidT e, Nat.le_of_eq (hidT_size _ _), trivial, fun b z => (by cases z), hok, .of_eq hg⟩
    refine codeAny_mono ((F _ kin (spc hns) (let ⟨mm, h1⟩ := hsm; ⟨mm, spc h1⟩)).run callerA [] s₁ H ⟨[.ref a], []⟩ [.ref a] [.ref a] _ _ rfl hr e0 (hbind s₁ (.ref a)) (.cons rfl .nil) (hsp H hS)) fun r s' h => ?_
    cases r with
    | error e => obtain ⟨_, _, _, _, _, _, _, _, _, _, _, _, z⟩ := h; exact z.elim
    | ok fl =>
      cases fl with
      | next => exact h.elim
      | brk => exact h.elim
      | cont => exact h.elim
      | ret u =>
        obtain ⟨v, H', os, bare, un, hok', r', q⟩ := h
        cases (show v = .bl true from q)
        cases (show u = Value.bool true from r')
        refine ⟨rfl, OldK.of_keep fun b o e => ?_, os, bare⟩
        rcases hO b with z | ⟨ob, xs, z⟩
        · exact un.keep b o e z (fun m => by cases m) (fun m => by cases m)
        · obtain ⟨e1, _⟩ := hok b _ z
          obtain ⟨e2, _⟩ := hok' b _ (un.frzs b ob _ z)
          rw [e] at e1; cases e1
          exact e2
  cases hk : K.lookup a with
  | some o =>
    have e := KX a o hk
    rw [ha] at e
    cases e
    exact core (fun _ => none) (fun _ => .inl rfl) (.inr ⟨_, vs.toArray, _, hk, rfl, rfl, rfl, by rw [List.size_toArray, lenV]; exact hl, by simpa using rv⟩) (fun b u z => by cases z) (fun b z => absurd rfl z) fun z => absurd rfl z
  | none =>
    refine core (L2.upd (fun _ => none) a (.frz { cls := .type "list", data := .seq vs.toArray } (.lst (ns.map V.int)))) (fun b => ?_) (.inl (.inr ⟨_, upd_same⟩)) (fun b u z => ?_) (fun b z => ?_) fun _ => hk
    · by_cases e : b = a
      · subst e; exact .inr ⟨_, _, upd_same⟩
      · exact .inl (upd_ne e)
    · by_cases e : b = a
      · subst e
        rw [upd_same] at z
        cases z
        exact ⟨ha, by rw [List.length_map]; exact hl, vs, _, rv, ha⟩
      · rw [upd_ne e] at z; cases z
    · by_cases e : b = a
      · exact e
      · exact absurd (upd_ne e) z
theorem law_walkG {l : PySem.W.OpenLaw} {n : Nat} {q : Program} {loose : List Str} {XP : (Str → Option Value) → Heap → Prop} {YP : World → Heap → Prop} {d : DefRec} {K : Params → PySem.W.Frag} {k : Nat} {x : Str} {sp : World → Sp} (hn : l.most = some n) (hn2 : n ≤ sizeLine) (hdf : d.params.defaults = []) (hr : Room k callerA) (hq : importsNone q = true)
    (hY : ∀ (w : World) (h : Heap), YP w h → (K w.params).In h)
    (F : ∀ (w : World) (mg : Str → Option Value) (fa : Addr) (h : Heap), (K w.params).In h → h.Ns mainGlobals mg → mg d.name = some (.ref fa) →
      ∃ fd : FuncData, (∀ (s : Shared) (u : Value), BindsTo s fd ⟨[u], []⟩ [(x, u)]) ∧ ∀ base : Heap, (K w.params).In base → base.Ns mainGlobals mg → (∃ mm, base.Ns sysModules mm) → FnG l.prog w (K w.params) mg base k fa fd [x] (sp w))
    (hsp : ∀ (w : World) (H : Hp) (a : Addr) (ns : List Int), ns.length ≤ n → (∀ z ∈ ns, Builtin.Int.intBits z ≤ 1048576) → SqL (K w.params) H a (ns.map V.int) → sp w [.ref a] H (fun v _ => v = .bl true) fun _ _ _ => False) :
    PySem.W.WalkO q loose XP YP l.row.toRowW d [] (fun f vs => PySem.call f vs) := by
  refine Att.attach_callB hn hdf fun w s₀ s₁ mg mb fa o pm cd doc a vs ns G Y ho hd hcd hmg hobj hints hlen hbits hg => ?_
  have KX := hY w _ Y
  obtain ⟨fd, hb, hF⟩ := F w mg fa _ KX G.T.g hmg
  have sm : ∃ mm, s₁.heap.Ns sysModules mm := let ⟨mm, h1, _⟩ := (G.T.seer hq).mods; ⟨mm, h1⟩
  exact law_callG KX G.T.g G.T.b G.T.builtins G.T.nolimit hg hobj hints (Nat.le_trans hlen hn2) hr sm hF hb (fun H hS => hsp w H a ns hlen hbits hS)
end L3

namespace L3
open PySem L2 PySem.Spec PyProof.Rows

/-- where sys.modules stands is known to the base -/
def NoS (X : Cx) : Prop := ∃ mm, X.base.Ns sysModules mm
theorem NoS.free {X : Cx} {pins : List (Addr × Obj)} {σ : L2.St} {H : Hp} {s : Shared} (h : NoS X) (I : Inv X pins σ H s) : H sysModules = none := by
  obtain ⟨mm, o, es, ep, e, _⟩ := h
  exact (I.bs _ _ e).2
section
variable {P : Program} {w : World} {H F : Hp} {h : Heap} {g : Gd} {c : List Addr} {cs : Cells}
theorem ns_mem {a : Addr} {as : List Addr} {o : HO} (ns : H sysModules = none) (e : H a = some o) (n : sysModules ∉ as) : sysModules ∉ a :: as := fun m => by
  rcases List.mem_cons.mp m with z | m
  · rw [← z, ns] at e; cases e
  · exact n m
mutual
theorem RV.reads (ok : HOk P w H h) (hs : ∀ a o, F a = some o → H a = some o) (ns : H sysModules = none) (kin : g.K.In h) : ∀ {v : V} {d : D} {p : PyData} {u : Value}, RV g F c v d → py0 d = some p → RelV v u → ∃ as, Reads h u p as ∧ sysModules ∉ as
  | _, _, _, _, .non, e, r => by
    simp only [py0, Option.some.injEq] at e; subst e; cases r
    exact ⟨_, .none, by simp⟩
  | _, _, _, _, .bl b, e, r => by
    simp only [py0, Option.some.injEq] at e; subst e; cases r
    exact ⟨_, .bool b, by simp⟩
  | _, _, _, _, .int i, e, r => by
    simp only [py0, Option.some.injEq] at e; subst e; obtain ⟨t, rfl⟩ := r
    exact ⟨_, .int i t, by simp⟩
  | _, _, _, _, .str l, e, r => by
    simp only [py0, Option.some.injEq] at e; subst e; obtain ⟨t, rfl⟩ := r
    exact ⟨_, .str _ t, by simp⟩
  | _, _, _, _, .lst h1 h2, e, r => by
    simp only [py0, Option.map_eq_some_iff] at e
    obtain ⟨q, e, rfl⟩ := e
    cases r
    have hH := hs _ _ h1
    obtain ⟨z, its, n, rv, ho⟩ := (show ObjOk P w H h _ (.lst _) from ok _ _ hH)
    obtain ⟨as, ra, na⟩ := RVs.reads ok hs ns kin h2 e rv
    exact ⟨_, .list ho rfl rfl ra, ns_mem ns hH na⟩
  | _, _, _, _, .tup h1 h2, e, r => by
    simp only [py0, Option.map_eq_some_iff] at e
    obtain ⟨q, e, rfl⟩ := e
    cases r
    rcases SqT.up hs h1 with hH | ⟨o, its, n, hk, hc, hd, _, rv⟩
    · obtain ⟨z, its, rv, o, ho, hc, n, hd⟩ := (show ObjOk P w H h _ (.tup _) from hH.ok ok)
      obtain ⟨as, ra, na⟩ := RVs.reads ok hs ns kin h2 e rv
      exact ⟨_, .tuple ho hc hd ra, na⟩
    · obtain ⟨as, ra, na⟩ := RVs.reads ok hs ns kin h2 e rv
      exact ⟨_, .tuple (kin _ _ hk) hc (by simpa using hd) ra, na⟩
  | _, _, _, _, .dct (a := a) (kvs := kvs) h1 h2, e, r => by
    simp only [py0, Option.map_eq_some_iff] at e
    obtain ⟨q, e, rfl⟩ := e
    cases r
    have hH : Rd H a (.dK kvs) := by
      rcases h1 with h1 | ⟨o, h1⟩
      · exact .inl (hs _ _ h1)
      · exact .inr ⟨o, hs _ _ h1⟩
    obtain ⟨_, hd, vs, kv, o, es, ep, ho, ex, dt, _, pr, _⟩ := dk_rd ok hH
    obtain ⟨as, bs, ra, rb, na, nb⟩ := RKs.reads ok hs ns kin h2 e kv pr
    refine ⟨_, .dict ho ex.1 dt ra rb, fun m => ?_⟩
    rcases List.mem_append.mp m with m | m
    · rcases List.mem_cons.mp m with z | m
      · rw [← z] at hd; simp at hd
      · exact na m
    · exact nb m
  | _, _, _, _, .scr _, e, _ => by simp [py0] at e
  | _, _, _, _, .obj _ _ _, e, _ => by simp [py0] at e
  | _, _, _, _, .loc _, e, _ => by simp [py0] at e
theorem RVs.reads (ok : HOk P w H h) (hs : ∀ a o, F a = some o → H a = some o) (ns : H sysModules = none) (kin : g.K.In h) : ∀ {v : List V} {d : List D} {p : List PyData} {u : List Value}, RVs g F c v d → py0s d = some p → Vals v u → ∃ as, ReadsAll h u p as ∧ sysModules ∉ as
  | _, _, _, _, .nil, e, r => by
    simp only [py0s, Option.some.injEq] at e; subst e; cases r
    exact ⟨_, .nil, by simp⟩
  | _, _, _, _, .cons a b, e, r => by
    simp only [py0s] at e
    split at e
    · rename_i e1 e2
      simp only [Option.some.injEq] at e
      subst e
      cases r with
      | cons r1 r2 =>
        obtain ⟨as, q1, n1⟩ := RV.reads ok hs ns kin a e1 r1
        obtain ⟨bs, q2, n2⟩ := RVs.reads ok hs ns kin b e2 r2
        exact ⟨_, .cons q1 q2, by simp [n1, n2]⟩
    · cases e
theorem RKs.reads (ok : HOk P w H h) (hs : ∀ a o, F a = some o → H a = some o) (ns : H sysModules = none) (kin : g.K.In h) : ∀ {v : List (Key × V)} {d : List (Kd × D)} {p : List (PyData × PyData)} {vs : List (Key × Value)} {es : List DictEntry}, RKs g F c v d → py0k d = some p → KV v vs → Pairs (mixKind P w) es vs →
    ∃ as bs, ReadsAll h (es.map (·.key)) (p.map (·.1)) as ∧ ReadsAll h (es.map (·.val)) (p.map (·.2)) bs ∧ sysModules ∉ as ∧ sysModules ∉ bs
  | _, _, _, _, _, .nil, e, r, q => by
    simp only [py0k, Option.some.injEq] at e; subst e; cases r; cases q
    exact ⟨_, _, .nil, .nil, by simp, by simp⟩
  | _, _, _, _, _, .cons (k := k) a b, e, r, q => by
    simp only [py0k] at e
    split at e
    · rename_i e1 e2
      simp only [Option.some.injEq] at e
      subst e
      cases r with
      | cons r1 r2 =>
        cases q with
        | @cons en _ _ _ q1 q2 q3 =>
          obtain ⟨k1, r1⟩ := r1
          rw [← q2] at r1
          rw [← k1] at q1
          obtain ⟨as, p1, n1⟩ := RV.reads ok hs ns kin a e1 r1
          obtain ⟨bs, ds, p2, p3, n2, n3⟩ := RKs.reads ok hs ns kin b e2 r2 q3
          have hk : ∃ ts, Reads h en.key (match k with | .inl i => PyData.int i | .inr l => PyData.str ⟨l.toArray⟩) ts ∧ sysModules ∉ ts := by
            rcases keyIs_shape q1 with ⟨i, t, z, zk⟩ | ⟨x, t, z, zk⟩
            · cases k with
              | inl j =>
                cases (show (Sum.inl j : Key) = Sum.inl i from z)
                rw [zk]
                exact ⟨[], .int _ t, by simp⟩
              | inr l => cases (show (Sum.inr _ : Key) = Sum.inl i from z)
            · cases k with
              | inl j => cases (show (Sum.inl j : Key) = Sum.inr x from z)
              | inr l =>
                cases (show (Sum.inr ⟨l.toArray⟩ : Key) = Sum.inr x from z)
                rw [zk]
                exact ⟨[], .str _ t, by simp⟩
          obtain ⟨ts, p4, n4⟩ := hk
          exact ⟨_, _, .cons p4 p2, .cons p1 p3, by simp [n4, n2], by simp [n1, n3]⟩
    · cases e
end
end
/-- .. of what may be a cell -/
theorem pyOf_reads {P : Program} {w : World} {H F : Hp} {h : Heap} {g : Gd} {c : List Addr} {cs : Cells} (ok : HOk P w H h) (kin : g.K.In h) (I : Ih g H F c cs) (ns : H sysModules = none) {v : V} {d : D} {p : PyData} {u : Value} (r : RV g F c v d) (e : pyOf cs d = some p) (rv : RelV v u) : ∃ as, Reads h u p as ∧ sysModules ∉ as := by
  cases r with
  | @loc n a ha =>
    simp only [pyOf] at e
    obtain ⟨x, hx⟩ := I.there ha
    have q := I.cell n a x ha hx
    rw [hx] at e
    cases rv
    cases x with
    | lst l =>
      simp only [Option.map_eq_some_iff] at e
      obtain ⟨y, e, rfl⟩ := e
      obtain ⟨_, vs, h1, h2⟩ := q
      obtain ⟨z, its, n, rv, ho⟩ := (show ObjOk P w H h _ (.lst _) from ok _ _ h1)
      obtain ⟨as, ra, na⟩ := RVs.reads ok I.sub ns kin h2 e rv
      exact ⟨_, .list ho rfl rfl ra, ns_mem ns h1 na⟩
    | dct l =>
      simp only [Option.map_eq_some_iff] at e
      obtain ⟨y, e, rfl⟩ := e
      obtain ⟨_, vs, h1, h2⟩ := q
      obtain ⟨_, hd, vs, kv, o, es, ep, ho, ex, dt, _, pr, _⟩ := dk_rd ok (.inl h1)
      obtain ⟨as, bs, ra, rb, na, nb⟩ := RKs.reads ok I.sub ns kin h2 e kv pr
      refine ⟨_, .dict ho ex.1 dt ra rb, fun m => ?_⟩
      rcases List.mem_append.mp m with m | m
      · rcases List.mem_cons.mp m with z | m
        · rw [← z] at hd; simp at hd
        · exact na m
      · exact nb m
    | fz d => exact RV.reads ok I.sub ns kin q.1 e rfl
    | set l => cases e
    | ins n l => cases e
  | non => exact RV.reads (g := g) (c := c) ok I.sub ns kin .non e rv
  | bl b => exact RV.reads (g := g) (c := c) ok I.sub ns kin (.bl b) e rv
  | int i => exact RV.reads (g := g) (c := c) ok I.sub ns kin (.int i) e rv
  | str l => exact RV.reads (g := g) (c := c) ok I.sub ns kin (.str l) e rv
  | lst a b => exact RV.reads ok I.sub ns kin (.lst a b) e rv
  | tup a b => exact RV.reads ok I.sub ns kin (.tup a b) e rv
  | dct a b => exact RV.reads ok I.sub ns kin (.dct a b) e rv
  | scr a => exact RV.reads (g := g) (c := c) ok I.sub ns kin (.scr a) e rv
  | obj a b e' => exact RV.reads ok I.sub ns kin (.obj a b e') e rv
end L3
namespace L3
open PySem L2 PySem.Spec PyProof.Rows
/-! ### repr of any data -/
def rRepD (P : Program) (w : World) (K : PySem.W.Frag) : List V → Hp → VK → Prop := fun xs H Q => ∃ (a : Addr) (d : PyData), xs = [.ref a] ∧ (∀ h, HOk P w H h → K.In h → ∃ as, Reads h (.ref a) d as ∧ sysModules ∉ as) ∧ d.showable = true ∧ d.depth ≤ 60 ∧ d.shown.length ≤ sizeLine ∧ Q (.str d.shown) H
theorem call_repD {X : Cx} (hG : X.A.guards = some []) (hu : X.A.units + 64 < cLine) : CallR X (.builtin "repr") (rRepD X.prog X.w X.K) := by
  intro pins s σ H xs us Q I r h
  obtain ⟨a, d, rfl, rd, sh, dp, sz, q⟩ := h
  obtain ⟨u, rfl, ru⟩ := vals1 r
  cases ru
  obtain ⟨as, r, n⟩ := rd _ I.hok I.kIn
  exact repr_of_reads' r sh (fun _ => n) hG (by omega) (fun _ _ e => e) (fun h' u tk k => ⟨.str d.shown, H, I.kept k, ⟨_, rfl⟩, q⟩) sz
/-- repr of a flat value or of data -/
def reprBD (cs : Cells) : List D → R
  | [d] => match reprC d with
    | some l => .ok (.str l) cs
    | none => match pyOf cs d with
      | some p => if p.showable = true ∧ p.depth ≤ 60 ∧ p.shown.length ≤ sizeLine then .ok (.str (codes p.shown)) cs else .stuck
      | none => .stuck
  | _ => .stuck
theorem pyOf_ref {g : Gd} {F : Hp} {c : List Addr} {cs : Cells} {v : V} {d : D} {p : PyData} (r : RV g F c v d) (h : reprC d = none) (e : pyOf cs d = some p) (sh : p.showable = true ∧ p.shown.length ≤ sizeLine) : ∃ a, v = .ref a := by
  cases r with
  | non => cases h
  | bl b => cases h
  | int i =>
    simp only [reprC] at h
    split at h
    · cases h
    · rename_i q
      simp only [pyOf, py0, Option.some.injEq] at e
      subst e
      exact absurd (by simpa [PyData.showable] using sh.1) q
  | str l =>
    simp only [reprC] at h
    split at h
    · cases h
    · rename_i q
      simp only [pyOf, py0, Option.some.injEq] at e
      subst e
      exact absurd sh.2 q
  | lst _ _ => exact ⟨_, rfl⟩
  | tup _ _ => exact ⟨_, rfl⟩
  | dct _ _ => exact ⟨_, rfl⟩
  | scr _ => exact ⟨_, rfl⟩
  | obj _ _ _ => exact ⟨_, rfl⟩
  | loc _ => exact ⟨_, rfl⟩
end L3
namespace L3
open PySem L2 PySem.Spec PyProof.Rows
theorem bo_repr' : bootBuiltins "repr" = some (.builtin "repr") := by decide +kernel
def rRepX (P : Program) (w : World) (K : PySem.W.Frag) : List V → Hp → VK → Prop := fun xs H Q => H sysModules = none → (rRepV xs H Q ∨ rRepD P w K xs H Q)
theorem call_repX {X : Cx} (hG : X.A.guards = some []) (hu : X.A.units + 64 < cLine) (hN : NoS X) : CallR X (.builtin "repr") (rRepX X.prog X.w X.K) := by
  intro pins s σ H xs us Q I r h
  rcases h (hN.free I) with h | h
  · exact call_repV pins s σ H xs us Q I r h
  · exact call_repD hG hu pins s σ H xs us Q I r h
theorem cb_reprX {g : Gd} : Cb g (rRepX g.P g.w g.K) reprBD := by
  intro W H F c cs vs ds Q I rv po hns
  unfold reprBD at po
  split at po
  · rename_i d
    cases hl : reprC d with
    | some l =>
      refine .inl (cb_repr W H F c cs vs [d] Q I rv ?_)
      unfold reprB
      rw [hl] at po
      simp only [hl]
      exact po
    | none =>
      rw [hl] at po
      dsimp only at po
      split at po
      · rename_i p hp
        split at po
        · rename_i hc
          obtain ⟨h1, h2, h3⟩ := hc
          cases rv with
          | cons r1 r2 =>
            cases r2
            obtain ⟨a, rfl⟩ := pyOf_ref r1 hl hp ⟨h1, h3⟩
            refine .inr ⟨a, p, rfl, fun h ok kin => pyOf_reads ok kin I hns r1 hp rfl, h1, h2, h3, ?_⟩
            have := PoE.here I (.str (codes p.shown)) po
            rwa [str_codes] at this
        · exact po.elim
      · exact po.elim
  · exact po.elim
section
variable {X : Cx} {W : WX} {pos p : Pos} {e : Expr} {ms : MA}
theorem xp_reprX {k : Nat} (hG : X.A.guards = some []) (hr : Room k X.A) (hN : NoS X) (hg : Gl X "repr") (hm : X.mg "repr" = none) (ha : Xa X W [e] ms)
    (he : starEach [e] X.env = (false, eval e X.env) :: starEach [] X.env := by rfl) : Xp X W (.Call (.Name "repr" p) [e] [] pos) (eBi reprBD ms) :=
  xp_bi (call_repX hG hr.units hN) cb_reprX hg hm bo_repr' ha (he := he)
end
end L3

namespace L3
open PySem L2

/-! ### a def of the text, under its name -/
structure Own (P : Program) (w : World) (K : PySem.W.Frag) (mg : Str → Option Value) (base : Heap) (k : Nat) (x : Str) (n : Nat) (m : MF) : Prop where
  ex : ∃ f fd ps, FnOk P w K mg base (L2.CX P w) k f fd ps (spM ⟨P, w, K, mg⟩ m n) ∧ mg x = some (.ref f) ∧ PySem.W.keepIn K (.ref f) = true ∧ Binds K fd ps []
section
variable {P : Program} {w : World} {K : PySem.W.Frag} {mg : Str → Option Value} {base : Heap} {k n : Nat} {x : Str} {m m' : MF}
/-- another function, the same wherever it says anything -/
theorem Own.imp (o : Own P w K mg base k x n m) (h : ∀ ds cs, m' ds cs = .stuck ∨ m' ds cs = m ds cs) : Own P w K mg base k x n m' := by
  obtain ⟨f, fd, ps, F, a, b, c⟩ := o
  refine ⟨f, fd, ps, F.imp (spM_imp fun E H F c cs vs ds Q I rv po => ?_), a, b, c⟩
  rcases h ds cs with e | e
  · rw [e] at po; exact po.elim
  · rw [e] at po; exact po
theorem Own.tidy (o : Own P w K mg base k x n m) : Own P w K mg base k x n (tidy m) := by
  obtain ⟨f, fd, ps, F, a, b, c⟩ := o
  exact ⟨f, fd, ps, F.imp tidy_imp, a, b, c⟩
theorem own_mk {f : Addr} {fd : FuncData} {st : Stmt} {qual : Str} {ps : List Str} (Fn : Fun K x qual st f fd) (F : FnOk P w K mg base (L2.CX P w) k f fd ps (spM ⟨P, w, K, mg⟩ m ps.length)) (hm : mg x = some (.ref f)) (hb : Binds K fd ps []) (hn : ps.length = n) : Own P w K mg base k x n m := by
  subst hn
  exact ⟨f, fd, ps, F, hm, Fn.kp, hb⟩
end
section
variable {X : Cx} {W : WX} {k n : Nat} {m : MF} {x : Str} {p pos : Pos} {e : Expr} {es : List Expr} {ms : MA}
theorem xp_own (o : Own X.prog X.w X.K X.mg X.base k x n m) (hr : Room k X.A) (tk : Takes X W) (ha : Xa X W (e :: es) ms) (hg : Gl X x) (hlen : ∀ env cs ds cs1, ms env cs = .ok ds cs1 → ds.length = n) (hn : (e :: es).length = n := by rfl) (hdb : (x == ("__debug__" : Str)) = false := by decide)
    (he : starEach (e :: es) X.env = (false, eval e X.env) :: starEach es X.env := by rfl) (hpl : (backTo pos (starEach es X.env)).any (·.1) = false := by rfl) : Xp X W (.Call (.Name x p) (e :: es) [] pos) (eCall m ms) := by
  obtain ⟨f, fd, ps, F, a, b, c⟩ := o
  exact xp_call F hr hg a b c tk ha hn hdb he hpl hlen
end
end L3
namespace L3
open PySem L2
theorem bo_len : bootBuiltins "len" = some (.builtin "len") := by decide +kernel
theorem bo_max : bootBuiltins "max" = some (.builtin "max") := by decide +kernel
theorem bo_min : bootBuiltins "min" = some (.builtin "min") := by decide +kernel
theorem bo_all : bootBuiltins "all" = some (.builtin "all") := by decide +kernel
theorem bo_any : bootBuiltins "any" = some (.builtin "any") := by decide +kernel
theorem bo_sum : bootBuiltins "sum" = some (.builtin "sum") := by decide +kernel
theorem bo_sorted : bootBuiltins "sorted" = some (.builtin "sorted") := by decide +kernel
theorem bo_repr : bootBuiltins "repr" = some (.builtin "repr") := by decide +kernel
theorem bo_isinstance : bootBuiltins "isinstance" = some (.builtin "isinstance") := by decide +kernel
theorem bo_str : bootBuiltins "str" = some (.type "str") := by decide +kernel
theorem bo_int : bootBuiltins "int" = some (.type "int") := by decide +kernel
theorem bo_bool : bootBuiltins "bool" = some (.type "bool") := by decide +kernel
theorem bo_list : bootBuiltins "list" = some (.type "list") := by decide +kernel
theorem bo_tuple : bootBuiltins "tuple" = some (.type "tuple") := by decide +kernel
theorem bo_dict : bootBuiltins "dict" = some (.type "dict") := by decide +kernel
theorem bo_set : bootBuiltins "set" = some (.type "set") := by decide +kernel
/-- what is asked of a law: any script of at most 63 whole numbers -/
def spLaw (K : PySem.W.Frag) : Sp := fun vs H Q _ => ∃ (a : Addr) (ns : List Int), vs = [.ref a] ∧ SqL K H a (ns.map V.int) ∧ ns.length ≤ 63 ∧ (∀ z ∈ ns, Builtin.Int.intBits z ≤ 1048576) ∧ ∀ H', Q (.bl true) H'
theorem law_of {P : Program} {w : World} {K : PySem.W.Frag} {mg : Str → Option Value} {base : Heap} {k : Nat} {f : Addr} {fd : FuncData} {ps : List Str} {m : MF}
    (F : FnOk P w K mg base (L2.CX P w) k f fd ps (spM ⟨P, w, K, mg⟩ m 1)) (h : ∀ ns : List Int, ns.length ≤ 63 → (∀ z ∈ ns, Builtin.Int.intBits z ≤ 1048576) → ∃ cs, m [.scr ns] [] = .ok (.bl true) cs) :
    FnOk P w K mg base (L2.CX P w) k f fd ps (spLaw K) := by
  refine F.imp fun vs H Q E ⟨a, ns, e, hs, hl, hb, q⟩ => ?_
  subst e
  obtain ⟨cs, hc⟩ := h ns hl hb
  refine ⟨rfl, H, [], [], [.scr ns], ⟨fun _ _ h => h, rfl, List.nodup_nil, fun n a x h => by simp at h⟩, .cons (.scr hs) .nil, ?_⟩
  rw [hc]
  intro H' F' c' x I v rv
  cases rv
  exact q H'
theorem law_walk {l : PySem.W.OpenLaw} {q : Program} {loose : List Str} {XP : (Str → Option Value) → Heap → Prop} {YP : World → Heap → Prop} {d : DefRec} {K : Params → PySem.W.Frag} {k : Nat} (hn : l.most = some 63) (hdf : d.params.defaults = []) (hr : Room k callerA)
    (hY : ∀ (w : World) (h : Heap), YP w h → (K w.params).In h)
    (F : ∀ (w : World) (mg : Str → Option Value) (fa : Addr) (h : Heap), (K w.params).In h → h.Ns mainGlobals mg → mg d.name = some (.ref fa) →
      ∃ fd : FuncData, (∀ (s : Shared) (u : Value), BindsTo s fd ⟨[u], []⟩ [("script", u)]) ∧ ∀ base : Heap, (K w.params).In base → base.Ns mainGlobals mg → FnOk l.prog w (K w.params) mg base (L2.CX l.prog w) k fa fd ["script"] (spLaw (K w.params))) :
    PySem.W.WalkO q loose XP YP l.row.toRowW d [] (fun f vs => PySem.call f vs) :=
  L2.walk_ofB (n := 63) (k := k) (x := "script") (CX := fun w => L2.CX l.prog w) (sp := fun w => spLaw (K w.params)) hn (by decide) hdf hr hY F (fun _ _ a ns hl hb _ hS => ⟨a, ns, rfl, hS, hl, hb, fun _ => rfl⟩)
    fun w H s e s' ⟨_, _, _, _, _, _, _, _, _, _, _, _, z⟩ => z
end L3
namespace L3
open PySem L2
theorem takes_no {X : Cx} : L2.Takes X (fun _ _ _ _ => False) := fun _ _ ⟨_, _, _, _, _, _, _, _, _, _, _, _, _, _, _, _, w⟩ => w.elim
def blkOk (N : List Str) (sc scope : Scope) (own : List (Str × Nat)) : Bool :=
  decide (scope.kind = .function) && scope.names.all (fun y => decide (scope.names.lookup y.1 = some y.2)) && own.all (fun p => decide (N[p.2]? = some p.1)) &&
  scope.names.all (fun y => decide (y.2 = .free → sc.names.lookup y.1 = some .cell ∨ sc.names.lookup y.1 = some .free)) &&
  scope.names.all (fun y => decide (y.2 = .local ∨ y.2 = .cell → y.1 ∈ own.map (·.1) ∨ y.1 ∉ N))
theorem blk_ok {N : List Str} {sc scope : Scope} {own : List (Str × Nat)} (h : blkOk N sc scope own = true) : BlkOk N sc scope own := by
  unfold blkOk at h
  simp only [Bool.and_eq_true, List.all_eq_true, decide_eq_true_eq] at h
  obtain ⟨⟨⟨⟨h1, h2⟩, h3⟩, h4⟩, h5⟩ := h
  exact ⟨h1, h2, h3, h4, h5⟩
end L3

namespace L3
open PySem L2

/-! ### defs of the text that are called where no repr is under way -/
structure OwnG (P : Program) (w : World) (K : PySem.W.Frag) (mg : Str → Option Value) (base : Heap) (k : Nat) (x : Str) (n : Nat) (m : MF) : Prop where
  ex : ∃ f fd ps, FnG P w K mg base k f fd ps (spM ⟨P, w, K, mg⟩ m n) ∧ mg x = some (.ref f) ∧ PySem.W.keepIn K (.ref f) = true ∧ Binds K fd ps []
section
variable {P : Program} {w : World} {K : PySem.W.Frag} {mg : Str → Option Value} {base : Heap} {k n : Nat} {x : Str} {m m' : MF}
theorem OwnG.imp (o : OwnG P w K mg base k x n m) (h : ∀ ds cs, m' ds cs = .stuck ∨ m' ds cs = m ds cs) : OwnG P w K mg base k x n m' := by
  obtain ⟨f, fd, ps, F, a, b, c⟩ := o
  refine ⟨f, fd, ps, F.imp (spM_imp fun E H F c cs vs ds Q I rv po => ?_), a, b, c⟩
  rcases h ds cs with e | e
  · rw [e] at po; exact po.elim
  · rw [e] at po; exact po
theorem OwnG.tidy (o : OwnG P w K mg base k x n m) : OwnG P w K mg base k x n (tidy m) := by
  obtain ⟨f, fd, ps, F, a, b, c⟩ := o
  exact ⟨f, fd, ps, F.imp tidy_imp, a, b, c⟩
theorem ownG_mk {f : Addr} {fd : FuncData} {st : Stmt} {qual : Str} {ps : List Str} (Fn : Fun K x qual st f fd) (F : FnG P w K mg base k f fd ps (spM ⟨P, w, K, mg⟩ m ps.length)) (hm : mg x = some (.ref f)) (hb : Binds K fd ps []) (hn : ps.length = n) : OwnG P w K mg base k x n m := by
  subst hn
  exact ⟨f, fd, ps, F, hm, Fn.kp, hb⟩
/-- a def by its body -/
theorem fnMG {x qual : Str} {st : Stmt} {f : Addr} {fd : FuncData} {N ps : List Str} {k : Nat} (F : Fun K x qual st f fd) (S : FnScope N ps (defScope st)) (body : MS)
    (h : ∀ (cdv : Value) (A : Around) (outer : List PySem.Env) (s : Shared) (H : Hp) (E : XK), A.guards = some [] → Room k (A.deeper (PyProof.Rows.envOfC qual (defScope st) s.heap.objs.size f cdv)) →
      Sms (cxOf (L2.CX P w) P w K mg base N qual (defScope st) f cdv A outer s H E) (fun cls d _ H => E cls d H) (defBody st) body) :
    FnG P w K mg base (k + 1) f fd ps (spM ⟨P, w, K, mg⟩ (mDef N.length body) ps.length) := by
  refine fnG_of F S (fun vs H Q E h => h.1) fun cdv A outer s H vs Q E hG hr ⟨hl, F0, c, cs, ds, I, rv, po⟩ => ?_
  obtain ⟨t, pt, st⟩ := h cdv A outer s H E hG hr
  refine ⟨t, pt, st _ _ H F0 c cs _ (re_start rv N) I ?_⟩
  unfold mDef at po
  cases hb : body (ds.map some ++ List.replicate (N.length - ds.length) none) cs with
  | nx e c1 => rw [hb] at po; exact fun H' F' c' x I' σ re => po H' F' c' x I' .non .non
  | rt d c1 => rw [hb] at po; exact po
  | exc n fs e c1 => rw [hb] at po; exact fun H' F' c' x I' σ C dx vs _ a b d => po H' F' c' x I' C dx vs a b d
  | bk e c1 => rw [hb] at po; exact po.elim
  | ct e c1 => rw [hb] at po; exact po.elim
  | stuck => rw [hb] at po; exact po.elim
/-- the law -/
theorem lawG_of {f : Addr} {fd : FuncData} {ps : List Str}
    (F : FnG P w K mg base k f fd ps (spM ⟨P, w, K, mg⟩ m 1)) (h : ∀ ns : List Int, ns.length ≤ 63 → (∀ z ∈ ns, Builtin.Int.intBits z ≤ 1048576) → ∃ cs, m [.scr ns] [] = .ok (.bl true) cs) :
    FnG P w K mg base k f fd ps (spLaw K) := by
  refine F.imp fun vs H Q E ⟨a, ns, e, hs, hl, hb, q⟩ => ?_
  subst e
  obtain ⟨cs, hc⟩ := h ns hl hb
  refine ⟨rfl, H, [], [], [.scr ns], ⟨fun _ _ h => h, rfl, List.nodup_nil, fun n a x h => by simp at h⟩, .cons (.scr hs) .nil, ?_⟩
  rw [hc]
  intro H' F' c' x I v rv
  cases rv
  exact q H'
end
section
variable {X : Cx} {W : WX} {k n : Nat} {m : MF} {x : Str} {p pos : Pos} {e : Expr} {es : List Expr} {ms : MA}
theorem xp_ownG (o : OwnG X.prog X.w X.K X.mg X.base k x n m) (hG : X.A.guards = some []) (hr : Room k X.A) (tk : Takes X W) (ha : Xa X W (e :: es) ms) (hg : Gl X x) (hlen : ∀ env cs ds cs1, ms env cs = .ok ds cs1 → ds.length = n) (hn : (e :: es).length = n := by rfl) (hdb : (x == ("__debug__" : Str)) = false := by decide)
    (he : starEach (e :: es) X.env = (false, eval e X.env) :: starEach es X.env := by rfl) (hpl : (backTo pos (starEach es X.env)).any (·.1) = false := by rfl) : Xp X W (.Call (.Name x p) (e :: es) [] pos) (eCall m ms) := by
  obtain ⟨f, fd, ps, F, hm, hk, hb⟩ := o
  obtain ⟨t, pa, sa⟩ := ha
  refine ⟨_, pe_callG F hG hr hg hm hk hb (fun σ => passAt tk σ) pa hdb he hpl, fun σ env H F c cs Q re I po => ?_⟩
  refine sa σ env H F c cs _ re I (PoA.cut po _ fun ds cs1 h1 H1 F1 c1 vs x1 I1 rv po1 => ?_)
  exact ⟨by rw [rv.length]; exact hlen _ _ _ _ h1, F1, c1, cs1, ds, I1, rv, po1⟩
end
theorem lawG_walk {l : PySem.W.OpenLaw} {q : Program} {loose : List Str} {XP : (Str → Option Value) → Heap → Prop} {YP : World → Heap → Prop} {d : DefRec} {K : Params → PySem.W.Frag} {k : Nat} (hn : l.most = some 63) (hdf : d.params.defaults = []) (hr : Room k callerA) (hq : PyProof.Rows.importsNone q = true)
    (hY : ∀ (w : World) (h : Heap), YP w h → (K w.params).In h)
    (F : ∀ (w : World) (mg : Str → Option Value) (fa : Addr) (h : Heap), (K w.params).In h → h.Ns mainGlobals mg → mg d.name = some (.ref fa) →
      ∃ fd : FuncData, (∀ (s : Shared) (u : Value), BindsTo s fd ⟨[u], []⟩ [("script", u)]) ∧ ∀ base : Heap, (K w.params).In base → base.Ns mainGlobals mg → (∃ mm, base.Ns sysModules mm) → FnG l.prog w (K w.params) mg base k fa fd ["script"] (spLaw (K w.params))) :
    PySem.W.WalkO q loose XP YP l.row.toRowW d [] (fun f vs => PySem.call f vs) :=
  law_walkG (n := 63) (k := k) (x := "script") (sp := fun w => spLaw (K w.params)) hn (by decide) hdf hr hq hY F (fun _ _ a ns hl hb hS => ⟨a, ns, rfl, hS, hl, hb, fun _ => rfl⟩)
end L3

namespace L3
open PySem L2 PySem.Spec PyProof.Rows

/-! ### own exceptions over ValueError that set fields -/
/-- what is known of an own class at B without an own __init__, over ValueError -/
structure BaseC (K : PySem.W.Frag) (B : Addr) : Prop where
  ga : PySem.W.specialIn K (.ref B) "__getattribute__" = some (some (.builtin "type.__getattribute__"))
  rd : PySem.W.readsIn K B (.type "type") = true
  ini : PySem.W.findCls K (.ref B) (.type "type") "__init__" = some (.val (.builtin "ValueError.__init__"))
section
variable {X : Cx} {e : Expr} {es : List Expr} {ta : TA} {p1 p2 pos : Pos} {x : Str} {B : Addr}
/-- Base.__init__(self, ..) -/
theorem pe_cinit {pl : Sem Bool} (hg : Gl X x) (hm : X.mg x = some (.ref B)) (hB : BaseC X.K B) (ha : PA X (e :: es) ta) (hd : (x == ("__debug__" : Str)) = false := by decide)
    (hc : eval (.Call (.Attribute (.Name x p1) "__init__" p2) (e :: es) [] pos) X.env = (do
      let ov ← eval (.Name x p1) X.env
      standAt p2.atName
      let (f, first) ← holding [ov] (getMethod ov "__init__" pl)
      callWith pos f first (backTo pos (starEach (e :: es) X.env)) (backToKw pos (keywordEach [] X.env))) := by rfl)
    (hs : starEach (e :: es) X.env = (false, eval e X.env) :: starEach es X.env := by rfl) (hp : (backTo pos (starEach es X.env)).any (·.1) = false := by rfl) :
    PE X (.Call (.Attribute (.Name x p1) "__init__" p2) (e :: es) [] pos) (tVeI X.K ta) := by
  constructor
  intro pins s σ H Q I h
  refine PySem.W.methodCall_KW (ld_glob I hg hm ?_ hd) hc
  refine PySem.W.method_cls I.kIn hB.ga (PySem.W.cls_value I.kIn hB.rd hB.ini (by decide +kernel) ?_)
  show wpAny _ _ (callWith pos (Value.builtin "ValueError.__init__") [] (backTo pos (starEach (e :: es) X.env)) []) _ _ _
  refine callWith_method1 (thn (ha.run pos pins _ σ H _ (I.tok _) h) fun us s1 hh => ?_) hs hp
  obtain ⟨vs, H1, I1, r1, a, C, ws, ev, hl, T, ea, q⟩ := hh
  subst ev
  obtain ⟨u0, ur, rfl, ra, rw'⟩ : ∃ u0 ur, us = u0 :: ur ∧ RelV (.ref a) u0 ∧ Vals ws ur := by cases r1 with | cons p q => exact ⟨_, _, rfl, p, q⟩
  cases ra
  have hlen : ur.length ≤ sizeLine := by
    have := Paired.length rw'
    rw [sizeLine_eq]; omega
  exact oinit_ok T I1 ea hlen fun s' J => ⟨.non, H1, J, rfl, q⟩
end
/-- the init of such a class: the fields in the order of the arguments -/
def spExI (K : PySem.W.Frag) (C : Addr) (fns : List Str) : Sp := fun vs H Q _ => ∃ (a : Addr) (ys : List V), vs = .ref a :: ys ∧ ys.length = fns.length ∧ H a = some (exo a C none) ∧
  ∀ (dx : Addr) (H' : Hp), H dx = none → dx ≠ a → H' a = some (exo a C (some dx)) → H' dx = some (exd dx (fns.zip ys).reverse) → (∀ b, b ≠ a → b ≠ dx → H' b = H b) → Q .non H'
theorem spExI_len {K : PySem.W.Frag} {C : Addr} {fns : List Str} {n : Nat} (hn : fns.length + 1 = n) {vs : List V} {H : Hp} {Q : VK} {E : XK} (h : spExI K C fns vs H Q E) : vs.length = n := by
  obtain ⟨a, ys, rfl, hl, _⟩ := h
  rw [List.length_cons, hl]; exact hn
/-- what a law knows of an own exception class -/
structure ExF (P : Program) (w : World) (K : PySem.W.Frag) (mg : Str → Option Value) (base : Heap) (x : Str) (fns : List Str) : Prop where
  ex : ∃ C fI fd ps, OexC K C ∧ PySem.W.findIn K (.ref C) "__init__" = some (some (.ref fI)) ∧ PySem.W.typeIn K (.ref fI) = some (.type "function") ∧ FnOk P w K mg base CX0 1 fI fd ps (spExI K C fns) ∧ Binds K fd ps [] ∧ mg x = some (.ref C) ∧ XfC K C ∧ ∀ f ∈ fns, PySem.W.findIn K (.ref C) f = some none
/-! ### raise -/
/-- the fields as they come to stand -/
def exFs (fns : List Str) (ds : List D) : List (Str × D) := (fns.zip ds).reverse
def sRaise (x : Str) (fns : List Str) (ms : MA) : MS := fun env cs => match ms env cs with
  | .ok ds cs1 => if ds.length = fns.length then .exc x (exFs fns ds) env cs1 else .stuck
  | .exc n fs cs1 => .exc n fs env cs1
  | .stuck => .stuck
theorem rfs_zip {g : Gd} {F : Hp} {c : List Addr} : ∀ (fns : List Str) {vs : List V} {ds : List D}, RVs g F c vs ds → RFs g F c (fns.zip vs) (fns.zip ds)
  | [], _, _, _ => .nil
  | _ :: _, _, _, .nil => .nil
  | _ :: fns, _, _, .cons a b => .cons a (rfs_zip fns b)
theorem RFs.app {g : Gd} {F : Hp} {c : List Addr} : ∀ {vs ws : List (Str × V)} {ds es : List (Str × D)}, RFs g F c vs ds → RFs g F c ws es → RFs g F c (vs ++ ws) (ds ++ es)
  | _, _, _, _, .nil, s => s
  | _, _, _, _, .cons a b, s => .cons a (RFs.app b s)
theorem RFs.rev {g : Gd} {F : Hp} {c : List Addr} : ∀ {vs : List (Str × V)} {ds : List (Str × D)}, RFs g F c vs ds → RFs g F c vs.reverse ds.reverse
  | _, _, .nil => .nil
  | _, _, .cons a b => by rw [List.reverse_cons, List.reverse_cons]; exact (RFs.rev b).app (.cons a .nil)
section
variable {X : Cx} {W : WX} {k : Nat} {x : Str} {fns : List Str} {p pos rpos : Pos} {e : Expr} {es : List Expr} {ms : MA}
theorem sm_raise (hcl : X.calm = true) (o : ExF X.prog X.w X.K X.mg X.base x fns) (hr : Room 2 X.A) (tk : Takes X W) (ha : Xa X W (e :: es) ms) (hg : Gl X x) (hlen : fns.length ≤ 900) (hdb : (x == ("__debug__" : Str)) = false := by decide)
    (hs : starEach (e :: es) X.env = (false, eval e X.env) :: starEach es X.env := by rfl) (hp : (backTo pos (starEach es X.env)).any (·.1) = false := by rfl) : Sm X W (.Raise (some (.Call (.Name x p) (e :: es) [] pos)) none rpos) (sRaise x fns ms) := by
  obtain ⟨C, fI, fd, ps, T, iC, tI, F1, hb, hm, _, _⟩ := o
  obtain ⟨t, pa, sa⟩ := ha
  refine ⟨_, ps_raise hcl tk (pmk_oex T iC tI F1 hr hb .nil pass0 hg hm pa hdb hs hp), fun σ env H F c cs Dn re I po => ?_⟩
  refine sa σ env H F c cs _ re I ?_
  unfold sRaise at po
  cases h1 : ms env cs with
  | exc n fs c1 => rw [h1] at po; exact fun H1 F1 c1 x1 I1 C dx vs a b d => po H1 F1 c1 x1 I1 σ C dx vs (re.mono x1.le) a b d
  | stuck => rw [h1] at po; exact po.elim
  | ok ds cs1 =>
    rw [h1] at po
    simp only at po
    split at po
    · rename_i hl
      intro H1 F2 c1 x1 I1 vs rv
      have hvl : vs.length = fns.length := by rw [rv.length]; exact hl
      refine ⟨by omega, fun a na => ⟨a, vs ++ [], rfl, by rw [List.append_nil]; exact hvl, upd_same, fun dx H' nd ne ea ed oth => ⟨rfl, dx, _, ea, ed, ?_, ?_⟩⟩⟩
      · rw [upd_ne ne] at nd; exact nd
      · rw [List.append_nil] at ed ⊢
        rw [upd_ne ne] at nd
        have eq : upd (del H' a) dx (.xd (fns.zip vs).reverse) = upd H1 dx (.xd (fns.zip vs).reverse) := by
          funext b
          by_cases hbd : b = dx
          · subst hbd; rw [upd_same, upd_same]
          · rw [upd_ne hbd, upd_ne hbd]
            by_cases hba : b = a
            · subst hba; rw [del_same, na]
            · rw [del_ne hba, oth b hba hbd, upd_ne hba]
        rw [eq]
        have x2 := Xt.side (Xt.refl H1 F2 c1) (o := .xd (fns.zip vs).reverse) nd
        have I2 := I1.side (o := .xd (fns.zip vs).reverse) (I1.notMem nd) (I1.noF nd)
        refine po _ F2 c1 (x1.trans x2) I2 σ C (some dx) (fns.zip vs).reverse (re.mono x1.le) hm upd_same ?_
        exact (rfs_zip fns rv).rev
    · exact po.elim
end
end L3

namespace L3
open PySem L2 PySem.Spec PyProof.Rows

/-! ### try with several clauses, named or not -/
abbrev HSpec := Option (Value × Option Nat × (Addr → Value → Option Addr → TS))
/-- the slot of a clause's name is forgotten at the end -/
def Ends.clear (D : Ends) (i : Nat) : Ends := { nx := fun s h => D.nx (s.set i none) h, rt := D.rt, bk := fun s h => D.bk (s.set i none) h, ct := fun s h => D.ct (s.set i none) h }
def wHs (K : PySem.W.Frag) (Wo : WX) (D : Ends) : List HSpec → WX
  | [] => Wo
  | none :: _ => fun _ _ _ _ => False
  | some (c, oi, ts) :: r => fun cls d σ H => ∃ b, PySem.W.exmOne K cls c = some b ∧ (b = false → wHs K Wo D r cls d σ H) ∧ (b = true → ∀ a, H a = none → match oi with
    | none => ts a cls d D σ H
    | some i => ts a cls d (Ends.clear D i) (σ.set i (some (.ref a))) H)
inductive HsOk (X : Cx) : List ExceptHandler → List HSpec → Prop
  | nil : HsOk X [] []
  | plain {x : Str} {c : Value} {ts : Addr → Value → Option Addr → TS} {s0 : Stmt} {ss : List Stmt} {q q' : Pos} {hs : List ExceptHandler} {l : List HSpec} (nm : Names X x c)
      (su : ∀ (a : Addr) (oe : Obj) (cls : Value) (d : Option Addr) (pn : List (Addr × Obj)), Zc cls d oe → (∃ vs, oe.data = .fields vs) → PSs (X.suite a ((a, oe) :: pn)) (s0 :: ss) (ts a cls d)) (r : HsOk X hs l) :
      HsOk X (.ExceptHandler (some (.Name x q)) none (s0 :: ss) q' :: hs) (some (c, none, ts) :: l)
  | named {x n : Str} {i : Nat} {c : Value} {ts : Addr → Value → Option Addr → TS} {s0 : Stmt} {ss : List Stmt} {q q' : Pos} {hs : List ExceptHandler} {l : List HSpec} (nm : Names X x c) (hi : X.N[i]? = some n) (hk : X.env.kindOf n = some .local)
      (su : ∀ (a : Addr) (oe : Obj) (cls : Value) (d : Option Addr) (pn : List (Addr × Obj)), Zc cls d oe → (∃ vs, oe.data = .fields vs) → PSs (X.suite a ((a, oe) :: pn)) (s0 :: ss) (ts a cls d)) (r : HsOk X hs l) :
      HsOk X (.ExceptHandler (some (.Name x q)) (some n) (s0 :: ss) q' :: hs) (some (c, some i, ts) :: l)
  /-- the rest is not come to -/
  | stop {hs : List ExceptHandler} : HsOk X hs [none]
section
variable {X : Cx} {body : List Stmt} {h0 : ExceptHandler} {hs : List ExceptHandler} {l : List HSpec} {pos : Pos} {tb : WX → TS} {Wo : WX}
theorem names_run {a : Addr} {oe : Obj} {pn : List (Addr × Obj)} {x : Str} {c : Value} {q : Pos} {σ : L2.St} {H : Hp} {s : Shared} {Q : Value → Shared → Prop} {E : Value → Shared → Prop} (S : Inv (X.suite a pn) [] σ H s) (nm : Names X x c) (k : Q c s) : wpAny (model X.prog X.w) (X.A.mark (some (.ref a))) (eval (.Name x q) X.env) Q E s := by
  obtain ⟨hg, hd, m | ⟨m, v, nn⟩⟩ := nm
  · exact ld_glob (X := X.suite a pn) S hg m k hd
  · exact ld_blt (X := X.suite a pn) S hg m v k nn hd
/-- behind a suite -/
theorem suite_end {a : Addr} {oe : Obj} {pins : List (Addr × Obj)} {D : Ends} {f : Flow} {s : Shared} (ok : X.Ok) (h : SP (X.suite a ((a, oe) :: (X.pn ++ pins))) [] D f s) : SP X pins D f s := by
  cases f with
  | next => obtain ⟨z, G, S, q⟩ := h; exact ⟨z, G, S.unsuite ok, q⟩
  | brk => obtain ⟨z, G, S, q⟩ := h; exact ⟨z, G, S.unsuite ok, q⟩
  | cont => obtain ⟨z, G, S, q⟩ := h; exact ⟨z, G, S.unsuite ok, q⟩
  | ret u => obtain ⟨v, z, G, S, r, q⟩ := h; exact ⟨v, z, G, S.unsuite ok, r, q⟩
theorem try_end {pins pn' : List (Addr × Obj)} {D : Ends} {f : Flow} {s : Shared} {xe : Value → Shared → Prop} (ok : X.Ok) (h : SP (X.tr (X.pn ++ pins) xe) pn' D f s) : SP X pins D f s := by
  cases f with
  | next => obtain ⟨z, G, S, q⟩ := h; exact ⟨z, G, S.ofTry ok, q⟩
  | brk => obtain ⟨z, G, S, q⟩ := h; exact ⟨z, G, S.ofTry ok, q⟩
  | cont => obtain ⟨z, G, S, q⟩ := h; exact ⟨z, G, S.ofTry ok, q⟩
  | ret u => obtain ⟨v, z, G, S, r, q⟩ := h; exact ⟨v, z, G, S.ofTry ok, r, q⟩
theorem ps_try_hs (st : X.stack = X.env :: X.outer) (fr : X.env.frame = some X.env.locals) (nd : X.N.Nodup) (tk : Takes X Wo)
    (bd : ∀ (W : WX) (pn : List (Addr × Obj)) (xe : Value → Shared → Prop), Takes (X.tr pn xe) W → PassesOwn (model X.prog X.w) X.A X.env xe → PSs (X.tr pn xe) body (tb W))
    (hh : HsOk X (h0 :: hs) l) : PS X (.Try body (h0 :: hs) [] [] pos) (fun D σ H => tb (wHs X.K Wo D l) D σ H) := by
  constructor
  intro pins s σ H D I h
  have ok := I.ok
  have frs' : X.A.frames = some (X.env :: X.outer) := by rw [ok.frames, st]
  refine wpAny_Try_except (wpAny_mono ((bd (wHs X.K Wo D l) (X.pn ++ pins) _ (fun u s' xx => ?_) PassesOwn.looking).run [] s σ H D (I.toTry _) h) (fun f s1 r => ?_) fun e s1 r => r)
  · obtain ⟨a, B, sI, _, σ1, H1, cls, d, rfl, J0, nb, up, sky, na, os, ag, w⟩ := xx
    have J : Inv X pins σ1 H1 sI := J0.ofTry ok
    have sky2 : Sky B (X.env :: X.outer) a (Zc cls d) X.env.locals s'.heap := by rw [← st]; exact sky
    show wpAny (model X.prog X.w) X.A (noteFrame (.ref a) X.env) _ _ _
    refine Sky.land Zc.steady frs' fr sky2 fun g1 fl up1 => ?_
    have J1 : Inv X pins σ1 H1 { s' with heap := g1 } := J.landed nb fl.1 (up.trans up1) os ag
    obtain ⟨o1, v1, e1, z1, d1⟩ := fl.there
    have apart : a ∉ frs (X.env :: X.outer) := fun hm => by
      obtain ⟨_, o2, e2, hn⟩ := fl.2.2.1.mem hm
      rw [e1] at e2
      cases e2
      exact hn _ d1
    have nL : a ≠ X.env.locals := fun z => apart (List.mem_filterMap.mpr ⟨X.env, List.mem_cons_self, by rw [fr, z]⟩)
    have nF : a ∉ X.fs := fun hm => by
      obtain ⟨e, he, q⟩ := List.mem_filterMap.mp hm
      exact apart (List.mem_filterMap.mpr ⟨e, List.mem_cons_of_mem _ he, q⟩)
    have S1 := J1.suite e1 d1 na nL nF
    have LT : PySem.W.Looks (model X.prog X.w) g1 (typeOf (.ref a)) cls := fun A Q E s k q => wpAny_typeOf_ref (k _ _ e1) (by rw [z1.1]; exact q)
    have go : ∀ {hs' : List ExceptHandler} {l' : List HSpec}, HsOk X hs' l' → wHs X.K Wo D l' cls d σ1 H1 → wpAny (model X.prog X.w) X.A (handleBy (.ref a) X.env hs') (SP X pins D) X.xe { s' with heap := g1 } := by
      intro hs' l' hk
      induction hk with
      | nil =>
        intro w
        refine wpAny_handleBy_nil ?_
        obtain ⟨_, _, _, o3, v3, T, _, _, g3, _, d3, i3, _⟩ := id fl
        have last : wpAny (model X.prog X.w) X.A (setFlight (.ref a) X.env.frame) (fun _ s4 => wpAny (model X.prog X.w) X.A (throw (.ref a) : Sem Flow) (SP X pins D) X.xe s4) X.xe { s' with heap := g1 } := by
          rw [fr]
          exact HandSPX.setFlight_upZ fl fun g4 k4 up4 => wpAny_throw (tk _ _ ⟨a, B, sI, pins, σ1, H1, cls, d, rfl, J, nb, (up.trans up1).trans up4, .inr (.inr (by rw [st]; exact k4)), na, os, ag, w⟩)
        unfold PySem.passOn
        refine wpAny_bind (wpAny_field g3 d3 i3 ?_)
        rw [if_neg (show ¬ ((Value.ref T == Value.none) = true) from by simp)]
        first | exact wpAny_bind (wpAny_pure (wpAny_bind last)) | exact wpAny_bind last
      | stop => intro w; exact w.elim
      | plain nm su r ih =>
        intro w
        obtain ⟨b, hb, no, yes⟩ := w
        refine wpAny_handleBy_cons (codeAny_handlers_test ?_) (by intro q; cases q)
        refine names_run (oe := o1) S1 nm ((PySem.W.exm_one (M := model X.prog X.w) J1.kIn LT hb).here ?_)
        cases b with
        | false => exact ih (no rfl)
        | true =>
          refine codeAny_handlers_suite (HandSPX.lands_againZ fl fun g2 fl2 up2 => ?_)
          obtain ⟨o2, v2, e2, z2, d2⟩ := fl2.there
          have J2 : Inv X pins σ1 H1 { s' with heap := g2 } := J.landed nb fl2.1 ((up.trans up1).trans up2) os ag
          have S2 := J2.suite e2 d2 na nL nF
          exact wpAny_mono ((su a o2 cls d (X.pn ++ pins) z2 ⟨_, d2⟩).run [] _ _ H1 _ S2 (yes rfl a na)) (fun f s6 q => suite_end ok q) fun _ _ z => z.elim
      | @named x n i c ts s0 ss q q' hs2 l2 nm hi hk su r ih =>
        intro w
        obtain ⟨b, hb, no, yes⟩ := w
        refine wpAny_handleBy_cons (codeAny_handlers_test ?_) (by intro q; cases q)
        refine names_run (oe := o1) S1 nm ((PySem.W.exm_one (M := model X.prog X.w) J1.kIn LT hb).here ?_)
        cases b with
        | false => exact ih (no rfl)
        | true =>
          refine codeAny_handlers_suite_as (HandSPX.lands_againZ fl fun g2 fl2 up2 => ?_)
          obtain ⟨o2, v2, e2, z2, d2⟩ := fl2.there
          have J2 : Inv X pins σ1 H1 { s' with heap := g2 } := J.landed nb fl2.1 ((up.trans up1).trans up2) os ag
          have S2 := J2.suite e2 d2 na nL nF
          refine store_ok (X := X.suite a ((a, o2) :: (X.pn ++ pins))) (v := .ref a) S2 nd hi (.inl hk) rfl (fun s5 S5 => ?_) (.inr hk)
          have fin : ∀ {σ6 : L2.St} {H6 : Hp} {s6 : Shared} {R : Shared → Prop}, Inv (X.suite a ((a, o2) :: (X.pn ++ pins))) [] σ6 H6 s6 → (∀ s7, Inv X pins (σ6.set i none) H6 s7 → R s7) → wpAny (model X.prog X.w) X.A (do bindName X.env n .none; unbindBehindTheSuite X.env n q') (fun _ s7 => R s7) X.xe s6 :=
            fun S6 k => gone_ok (S6.unsuite ok) nd hi hk k
          refine wpAny_mono ((su a o2 cls d (X.pn ++ pins) z2 ⟨_, d2⟩).run [] s5 _ H1 _ S5 (yes rfl a na)) (fun f s6 q => ?_) fun _ _ z => z.elim
          cases f with
          | next => obtain ⟨z, G, S, q⟩ := q; exact fin S fun s7 J7 => ⟨_, _, J7, q⟩
          | brk => obtain ⟨z, G, S, q⟩ := q; exact fin S fun s7 J7 => ⟨_, _, J7, q⟩
          | cont => obtain ⟨z, G, S, q⟩ := q; exact fin S fun s7 J7 => ⟨_, _, J7, q⟩
          | ret u => obtain ⟨v, z, G, S, r, q⟩ := q; exact fin S fun s7 J7 => ⟨_, _, _, J7, r, q⟩
    exact go hh w
  · have q := try_end (X := X) ok r
    cases f with
    | next => obtain ⟨z, G, J, q⟩ := q; exact wpAny_execs_nil ⟨z, G, J, q⟩
    | brk => exact q
    | cont => exact q
    | ret u => exact q
end
end L3

namespace L3
open PySem L2 PySem.Spec PyProof.Rows

def tsOf (g : Gd) (W : WX) (m : MS) : TS := fun D σ H => ∃ env F c cs, RE g F c σ env ∧ Ih g H F c cs ∧ PoS g W D H F c (m env cs)
theorem Sms.canon {X : Cx} {W : WX} {ss : List Stmt} {m : MS} (h : Sms X W ss m) : PSs X ss (tsOf (gd X) W m) := by
  obtain ⟨t, p, q⟩ := h
  exact ⟨fun pins s σ H D I ⟨env, F, c, cs, re, I1, po⟩ => p.run pins s σ H D I (q σ env H F c cs D re I1 po)⟩
/-! ### what a clause's suite says -/
abbrev HM := List (Str × D) → MS
abbrev XNo : WX := fun _ _ _ _ => False
/-- an expression in the suite of 'except C as n', n in slot i -/
def He (X : Cx) (i : Nat) (C : Addr) (e : Expr) (m : List (Str × D) → Cells → R) : Prop := ∃ t : Addr → Value → Option Addr → TE,
  (∀ (a : Addr) (oe : Obj) (cls : Value) (d : Option Addr) (pn : List (Addr × Obj)), Zc cls d oe → (∃ vs, oe.data = .fields vs) → PE (X.suite a ((a, oe) :: pn)) e (t a cls d)) ∧
  ∀ a dx vs fs σ H F c cs Q, σ[i]? = some (some (.ref a)) → XdA H dx vs → RFs (gd X) F c vs fs → Ih (gd X) H F c cs → PoE (gd X) (fun _ _ _ => False) H F c (m fs cs) Q → t a (.ref C) dx σ H Q
theorem Ih.noXd {g : Gd} {H F : Hp} {c : List Addr} {cs : Cells} (I : Ih g H F c cs) {dx : Addr} {vs : List (Str × V)} (h : H dx = some (.xd vs)) : dx ∉ c := fun m => by
  obtain ⟨n, hn⟩ := List.getElem?_of_mem m
  obtain ⟨x, hx⟩ := I.there hn
  have q := I.cell n dx x hn hx
  cases x with
  | lst l => obtain ⟨_, _, e, _⟩ := q; rw [h] at e; cases e
  | dct l => obtain ⟨_, _, e, _⟩ := q; rw [h] at e; cases e
  | set l => obtain ⟨_, e⟩ := q; rw [h] at e; cases e
  | ins n l => obtain ⟨_, _, _, _, _, e, _⟩ := q; rw [h] at e; cases e
  | fz d => obtain ⟨_, o, e, z⟩ := q; rw [h] at e; cases e; exact z vs rfl
theorem he_c {X : Cx} {i : Nat} {C : Addr} {e : Expr} {d : D} (h : ∀ (a : Addr) (oe : Obj) (pn : List (Addr × Obj)), ∃ v : V, PE (X.suite a ((a, oe) :: pn)) e (tC v) ∧ ∀ g F c, RV g F c v d) (v : V) (hv : ∀ g F c, RV g F c v d) (hp : ∀ (a : Addr) (oe : Obj) (pn : List (Addr × Obj)), PE (X.suite a ((a, oe) :: pn)) e (tC v)) : He X i C e (fun _ cs => .ok d cs) :=
  ⟨fun _ _ _ => tC v, fun a oe _ _ pn _ _ => hp a oe pn, fun a dx vs fs σ H F c cs Q _ _ _ I po => PoE.here I (hv _ _ _) po⟩
section
variable {X : Cx} {i : Nat} {C : Addr} {e e2 : Expr} {m m2 : List (Str × D) → Cells → R} {p : Pos}
theorem he_str {x : Str} {l : List Nat} {j} (h : x = ⟨l.toArray⟩) : He X i C (.Constant (.str x) j p) (fun _ cs => .ok (.str l) cs) := by
  subst h
  exact ⟨fun _ _ _ => tC (.str ⟨l.toArray⟩), fun a oe _ _ pn _ _ => pe_str, fun a dx vs fs σ H F c cs Q _ _ _ I po => PoE.here I (.str l) po⟩
theorem he_non {j} : He X i C (.Constant .none j p) (fun _ cs => .ok .non cs) :=
  ⟨fun _ _ _ => tC .non, fun a oe _ _ pn _ _ => pe_non, fun a dx vs fs σ H F c cs Q _ _ _ I po => PoE.here I .non po⟩
def fldD (f : Str) (fs : List (Str × D)) (cs : Cells) : R := match fs.lookup f with
  | some d => .ok d cs
  | none => .stuck
theorem RFs.lookup {g : Gd} {F : Hp} {c : List Addr} {f : Str} : ∀ {vs : List (Str × V)} {fs : List (Str × D)} {d : D}, RFs g F c vs fs → fs.lookup f = some d → ∃ v, vs.lookup f = some v ∧ RV g F c v d
  | _, _, _, .nil, h => by cases h
  | _, _, d, .cons (k := k) a b, h => by
    by_cases e : f = k
    · subst e
      rw [List.lookup_cons, beq_self_eq_true] at h ⊢
      simp only [Option.some.injEq] at h
      subst h
      exact ⟨_, rfl, a⟩
    · have hb : (f == k) = false := by simpa using e
      rw [List.lookup_cons, hb] at h ⊢
      exact RFs.lookup b h
theorem he_fld {f n : Str} {q : Pos} (T : XfC X.K C) (hno : PySem.W.findIn X.K (.ref C) f = some none) (hi : X.N[i]? = some n) (hv : Vis X.env.scope n) (hb : attributeBase (.Name n q) f X.env (eval (.Name n q) X.env) = eval (.Name n q) X.env := by rfl)
    (hd : (n == ("__debug__" : Str)) = false := by decide) (hcd : (n == ("__classdict__" : Str)) = false := by decide) : He X i C (.Attribute (.Name n q) f p) (fldD f) := by
  refine ⟨_, fun a oe cls d pn z hf => pe_xf (X := X) T hno z hf (pe_var (X := X.suite a ((a, oe) :: pn)) (i := i) hi hv hd hcd) hb, fun a dx vs fs σ H F c cs Q hs hx rf I po => ?_⟩
  unfold fldD at po
  split at po
  · rename_i d hl
    obtain ⟨v, e, r⟩ := rf.lookup hl
    cases dx with
    | none =>
      have hx : vs = [] := hx
      subst hx
      cases e
    | some dx => exact ⟨_, hs, rfl, rfl, dx, vs, v, rfl, hx, e, PoE.here I r po⟩
  · exact po.elim
/-- [e, e2] -/
def he2 (m m2 : List (Str × D) → Cells → R) : List (Str × D) → Cells → R := fun fs cs => (m fs cs).bind fun x c1 => (m2 fs c1).bind fun y c2 => mkL false c2 [x, y]
theorem RFs.mono' {g : Gd} {F F' : Hp} {c c' : List Addr} {vs : List (Str × V)} {ds : List (Str × D)} (r : RFs g F c vs ds) (e : Le F c F' c') : RFs g F' c' vs ds := RFs.mono e r
theorem he_list2 (h1 : He X i C e m) (h2 : He X i C e2 m2) (hs1 : starEach [e, e2] X.env = (false, eval e X.env) :: starEach [e2] X.env := by rfl) (hs2 : starEach [e2] X.env = (false, eval e2 X.env) :: starEach [] X.env := by rfl) : He X i C (.List [e, e2] p) (he2 m m2) := by
  obtain ⟨t1, p1, s1⟩ := h1
  obtain ⟨t2, p2, s2⟩ := h2
  refine ⟨_, fun a oe cls d pn z hf => pe_lst (pa_cons (p1 a oe cls d pn z hf) (pa_cons (p2 a oe cls d pn z hf) pa_nil hs2) hs1), fun a dx vs fs σ H F c cs Q hs hx rf I po => ?_⟩
  refine s1 a dx vs fs σ H F c cs _ hs hx rf I (PoE.cut po _ fun d1 cs1 _ H1 F1 c1 v1 x1 I1 r1 po1 => ?_)
  have hx1 : XdA H1 dx vs := by
    cases dx with
    | none => exact hx
    | some dx => exact x1.kp _ _ hx (I.noXd hx)
  refine s2 a dx vs fs σ H1 F1 c1 cs1 _ hs hx1 (rf.mono' x1.le) I1 (PoE.cut po1 _ fun d2 cs2 _ H2 F2 c2 v2 x2 I2 r2 po2 => ?_)
  have rv : RVs (gd X) F2 c2 [v1, v2] [d1, d2] := .cons (r1.mono x2.le) (.cons r2 .nil)
  exact ⟨mkL_len po2 rv, fun p hp => mkL_ok I2 rv po2 hp⟩
end
/-! ### the clauses -/
/-- one clause: its class's name, its slot if it is named, what its suite says -/
abbrev HC := Str × Option Nat × HM
def clrS (oi : Option Nat) : S → S
  | .nx e c => .nx (match oi with | some i => e.set i none | none => e) c
  | .bk e c => .bk (match oi with | some i => e.set i none | none => e) c
  | .ct e c => .ct (match oi with | some i => e.set i none | none => e) c
  | .rt d c => .rt d c
  | _ => .stuck
def catchH (isa : Str → Str → Option Bool) (n : Str) (fs : List (Str × D)) (env : Env) (cs : Cells) : List HC → S
  | [] => .exc n fs env cs
  | (c, some i, m) :: r => if n = c ∧ isa n c = some true ∧ i < env.length then clrS (some i) (m fs (env.set i none) cs) else if isa n c = some false then catchH isa n fs env cs r else .stuck
  | (c, none, m) :: r => match isa n c with
    | some true => clrS none (m fs env cs)
    | some false => catchH isa n fs env cs r
    | none => .stuck
def sTry (isa : Str → Str → Option Bool) (b : MS) (hs : List HC) : MS := fun env cs => match b env cs with
  | .exc n fs e c => catchH isa n fs e c hs
  | s => s
/-- which class is under which -/
def IsaOk (K : PySem.W.Frag) (mg : Str → Option Value) (isa : Str → Str → Option Bool) : Prop := ∀ n c b, isa n c = some b → ∀ A B, mg n = some (.ref A) → mg c = some (.ref B) → PySem.W.exmOne K (.ref A) (.ref B) = some b
inductive HcsOk (X : Cx) : List ExceptHandler → List HC → Prop
  | nil : HcsOk X [] []
  | plain {x : Str} {C : Addr} {m : MS} {s0 : Stmt} {ss : List Stmt} {q q' : Pos} {hs : List ExceptHandler} {l : List HC} (hg : Gl X x) (hd : (x == ("__debug__" : Str)) = false) (hm : X.mg x = some (.ref C))
      (su : ∀ (a : Addr) (oe : Obj) (pn : List (Addr × Obj)), Sms (X.suite a ((a, oe) :: pn)) XNo (s0 :: ss) m) (r : HcsOk X hs l) :
      HcsOk X (.ExceptHandler (some (.Name x q)) none (s0 :: ss) q' :: hs) ((x, none, fun _ => m) :: l)
  | named {x n : Str} {i : Nat} {C : Addr} {m : List (Str × D) → Cells → R} {e : Expr} {rp q q' : Pos} {hs : List ExceptHandler} {l : List HC} (hg : Gl X x) (hd : (x == ("__debug__" : Str)) = false) (hm : X.mg x = some (.ref C)) (hi : X.N[i]? = some n) (hk : X.env.kindOf n = some .local)
      (he : He X i C e m) (r : HcsOk X hs l) :
      HcsOk X (.ExceptHandler (some (.Name x q)) (some n) [.Return (some e) rp] q' :: hs) ((x, some i, fun fs env cs => (m fs cs).toS env fun d c => .rt d c) :: l)
end L3

namespace L3
open PySem L2 PySem.Spec PyProof.Rows

theorem PoS.clr {g : Gd} {Wo : WX} {D : Ends} {H F : Hp} {c : List Addr} {s : S} (h : PoS g Wo D H F c (clrS none s)) : PoS g XNo D H F c s := by
  cases s <;> first | exact h | exact False.elim h
theorem hcs_sim {X : Cx} {Wo : WX} {isa : Str → Str → Option Bool} (ia : IsaOk X.K X.mg isa) : ∀ {hs : List ExceptHandler} {l : List HC}, HcsOk X hs l → ∃ l', HsOk X hs l' ∧ ∀ n fs env cs C dx vs σ H F c D, X.mg n = some (.ref C) → XdA H dx vs →
    RFs (gd X) F c vs fs → RE (gd X) F c σ env → Ih (gd X) H F c cs → PoS (gd X) Wo D H F c (catchH isa n fs env cs l) → wHs X.K Wo D l' (.ref C) dx σ H := by
  intro hs l hk
  induction hk with
  | nil => exact ⟨[], .nil, fun n fs env cs C dx vs σ H F c D hm hx rf re I po => po H F c (Xt.refl _ _ _) I σ C dx vs re hm hx rf⟩
  | @plain x C0 m s0 ss q q' hs l hg hd hm su r ih =>
    obtain ⟨l', k, s⟩ := ih
    refine ⟨some (.ref C0, none, fun _ _ _ => tsOf (gd X) XNo m) :: l', .plain ⟨hg, hd, .inl hm⟩ (fun a oe cls d pn _ _ => (su a oe pn).canon) k, fun n fs env cs C dx vs σ H F c D hn hx rf re I po => ?_⟩
    simp only [catchH] at po
    cases hi : isa n x with
    | none => rw [hi] at po; exact po.elim
    | some b =>
      rw [hi] at po
      cases b with
      | true => exact ⟨true, ia n x true hi C C0 hn hm, fun z => (by cases z), fun _ a _ => ⟨env, F, c, cs, re, I, PoS.clr po⟩⟩
      | false => exact ⟨false, ia n x false hi C C0 hn hm, fun _ => s n fs env cs C dx vs σ H F c D hn hx rf re I po, fun z => by cases z⟩
  | @named x nm i C0 m e rp q q' hs l hg hd hm hi hkd he r ih =>
    obtain ⟨l', k, s⟩ := ih
    obtain ⟨t, pt, st⟩ := he
    refine ⟨some (.ref C0, some i, fun a cls d => tRet (t a cls d)) :: l', .named ⟨hg, hd, .inl hm⟩ hi hkd (fun a oe cls d pn z hf => pss_one (ps_ret (pt a oe cls d pn z hf))) k, fun n fs env cs C dx vs σ H F c D hn hx rf re I po => ?_⟩
    simp only [catchH] at po
    split at po
    · rename_i h
      obtain ⟨rfl, h2, h3⟩ := h
      rw [hm] at hn
      cases hn
      refine ⟨true, ia n n true h2 C0 C0 hm hm, fun z => (by cases z), fun _ a _ => ?_⟩
      have hs : (σ.set i (some (V.ref a)))[i]? = some (some (V.ref a)) := by rw [List.getElem?_set_self (by rw [re.1]; exact h3)]
      refine st a dx vs fs _ H F c cs _ hs hx rf I ?_
      cases h4 : m fs cs with
      | ok d c1 => rw [h4] at po; exact po
      | exc n2 f2 c1 => rw [h4] at po; exact po.elim
      | stuck => rw [h4] at po; exact po.elim
    · split at po
      · rename_i h2
        exact ⟨false, ia n x false h2 C C0 hn hm, fun _ => s n fs env cs C dx vs σ H F c D hn hx rf re I po, fun z => by cases z⟩
      · exact po.elim
theorem sm_try {X : Cx} {Wo : WX} {isa : Str → Str → Option Bool} {body : List Stmt} {h0 : ExceptHandler} {hs : List ExceptHandler} {l : List HC} {mb : MS} {pos : Pos} (ia : IsaOk X.K X.mg isa) (st : X.stack = X.env :: X.outer) (fr : X.env.frame = some X.env.locals) (nd : X.N.Nodup) (tk : Takes X Wo)
    (bd : ∀ (W : WX) (pn : List (Addr × Obj)) (xe : Value → Shared → Prop), Takes (X.tr pn xe) W → PassesOwn (model X.prog X.w) X.A X.env xe → Sms (X.tr pn xe) W body mb) (hh : HcsOk X (h0 :: hs) l) : Sm X Wo (.Try body (h0 :: hs) [] [] pos) (sTry isa mb l) := by
  obtain ⟨l', k, s⟩ := hcs_sim (Wo := Wo) ia hh
  refine ⟨_, ps_try_hs (tb := fun W => tsOf (gd X) W mb) st fr nd tk (fun W pn xe a b => (bd W pn xe a b).canon) k, fun σ env H F c cs Dn re I po => ⟨env, F, c, cs, re, I, ?_⟩⟩
  unfold sTry at po
  cases h : mb env cs with
  | nx e c1 => rw [h] at po; exact po
  | rt d c1 => rw [h] at po; exact po
  | bk e c1 => rw [h] at po; exact po
  | ct e c1 => rw [h] at po; exact po
  | stuck => rw [h] at po; exact po.elim
  | exc n fs e c1 =>
    rw [h] at po
    exact fun H1 F1 c2 x1 I1 σ1 C dx vs re1 hm hx rf => s n fs e c1 C dx vs σ1 H1 F1 c2 Dn hm hx rf re1 I1 (PoS.from x1 po)
end L3

namespace L3
open PySem L2 PySem.Spec PyProof.Rows

/-! ### which class is under which: a table -/
theorem exm_of {K : PySem.W.Frag} {A B : Addr} {cd : ClassData} {b : Bool} (h1 : PySem.W.subIn K (.ref B) (.type "BaseException") = some true) (h2 : PySem.W.clsIn K B = some cd) (h3 : PySem.W.typeIn K (.ref B) = some (.type "type")) (h4 : PySem.W.subIn K (.ref A) (.ref B) = some b) :
    PySem.W.exmOne K (.ref A) (.ref B) = some b := by
  unfold PySem.W.exmOne PySem.W.kitCls
  simp [h1, h2, h3, h4]
def isaT (l : List ((Str × Str) × Bool)) (n c : Str) : Option Bool := l.lookup (n, c)
def IsaE (K : PySem.W.Frag) (mg : Str → Option Value) (e : (Str × Str) × Bool) : Prop := ∀ A B, mg e.1.1 = some (.ref A) → mg e.1.2 = some (.ref B) → PySem.W.exmOne K (.ref A) (.ref B) = some e.2
theorem isaE_mk {K : PySem.W.Frag} {mg : Str → Option Value} {n c : Str} {A B : Addr} {b : Bool} (h1 : mg n = some (.ref A)) (h2 : mg c = some (.ref B)) (h : PySem.W.exmOne K (.ref A) (.ref B) = some b) : IsaE K mg ((n, c), b) := fun A' B' e1 e2 => by
  rw [h1] at e1; rw [h2] at e2
  cases e1; cases e2
  exact h
inductive IsaL (K : PySem.W.Frag) (mg : Str → Option Value) : List ((Str × Str) × Bool) → Prop
  | nil : IsaL K mg []
  | cons {e : (Str × Str) × Bool} {l : List ((Str × Str) × Bool)} (h : IsaE K mg e) (r : IsaL K mg l) : IsaL K mg (e :: l)
theorem isaL_ok {K : PySem.W.Frag} {mg : Str → Option Value} {l : List ((Str × Str) × Bool)} (h : IsaL K mg l) : IsaOk K mg (isaT l) := by
  intro n c b e A B h1 h2
  unfold isaT at e
  induction h with
  | nil => cases e
  | @cons p l h r ih =>
    obtain ⟨k, v⟩ := p
    by_cases z : (n, c) = k
    · subst z
      rw [List.lookup_cons, beq_self_eq_true] at e
      simp only [Option.some.injEq] at e
      subst e
      exact h A B h1 h2
    · have hb : ((n, c) == k) = false := by simpa using z
      rw [List.lookup_cons, hb] at e
      exact ih e
/-! ### methods of a class, by its place -/
def meth (s : Stmt) (i : Nat) : Stmt := match s with
  | .ClassDef _ _ _ b _ _ _ _ _ _ _ => b.getD i (.Pass ⟨0, 0, 0, 0⟩)
  | _ => .Pass ⟨0, 0, 0, 0⟩
theorem xfC_of {K : PySem.W.Frag} {C : Addr} (h1 : PySem.W.findIn K (.ref C) "__getattribute__" = some (some (.builtin "BaseException.__getattribute__"))) (h2 : PySem.W.findIn K (.ref C) "__getattr__" = some none) (h3 : PySem.W.subIn K (.ref C) (.type "BaseException") = some true) (h4 : PySem.W.hasDictIn K C = true) : XfC K C := ⟨h1, h2, h3, h4⟩
section
variable {P : Program} {w : World} {K : PySem.W.Frag} {mg : Str → Option Value} {base : Heap}
/-- def __init__(self, f): Base.__init__(self, text); self.f = f -/
theorem exI_one {a : Addr} {C : Addr} {f : Str} {y : V} {H : Hp} {Q : VK} {fns : List Str} (hfn : fns = [f]) (ha : H a = some (exo a C none))
    (q : ∀ (dx : Addr) (H' : Hp), H dx = none → dx ≠ a → H' a = some (exo a C (some dx)) → H' dx = some (exd dx (fns.zip [y]).reverse) → (∀ b, b ≠ a → b ≠ dx → H' b = H b) → Q .non H') :
    ∀ dx, H dx = none → dx ≠ a → Q .non (upd (upd H dx (exd dx [(f, y)])) a (exo a C (some dx))) := fun dx hn ne => by
  subst hfn
  refine q dx _ hn ne upd_same ?_ fun b h1 h2 => ?_
  · rw [upd_ne ne, upd_same]; rfl
  · rw [upd_ne h1, upd_ne h2]
/-- .. of two fields -/
theorem exI_two {a : Addr} {C : Addr} {f f2 : Str} {y y2 : V} {H : Hp} {Q : VK} {fns : List Str} (hfn : fns = [f, f2])
    (q : ∀ (dx : Addr) (H' : Hp), H dx = none → dx ≠ a → H' a = some (exo a C (some dx)) → H' dx = some (exd dx (fns.zip [y, y2]).reverse) → (∀ b, b ≠ a → b ≠ dx → H' b = H b) → Q .non H') :
    ∀ dx, H dx = none → dx ≠ a → ∃ (dx' : Addr) (fs : List (Str × V)), (upd (upd H dx (exd dx [(f, y)])) a (exo a C (some dx))) a = some (exo a C (some dx')) ∧ (upd (upd H dx (exd dx [(f, y)])) a (exo a C (some dx))) dx' = some (exd dx' fs) ∧ fs.length ≤ 900 ∧
      Q .non (upd (upd (upd H dx (exd dx [(f, y)])) a (exo a C (some dx))) dx' (exd dx' ((f2, y2) :: fs))) := fun dx hn ne => by
  subst hfn
  refine ⟨dx, [(f, y)], upd_same, by rw [upd_ne ne, upd_same], by simp, q dx _ hn ne ?_ ?_ fun b h1 h2 => ?_⟩
  · rw [upd_ne (Ne.symm ne), upd_same]
  · rw [upd_same]; rfl
  · rw [upd_ne h2, upd_ne h1, upd_ne h2]
end
end L3

/-! try with clauses of which the last ones are not come to -/
namespace L3
open PySem L2 PySem.Spec PyProof.Rows
inductive HcsOkZ (X : Cx) : List ExceptHandler → List HC → Prop
  | nil : HcsOkZ X [] []
  | plain {x : Str} {C : Addr} {m : MS} {s0 : Stmt} {ss : List Stmt} {q q' : Pos} {hs : List ExceptHandler} {l : List HC} (hg : Gl X x) (hd : (x == ("__debug__" : Str)) = false) (hm : X.mg x = some (.ref C))
      (su : ∀ (a : Addr) (oe : Obj) (pn : List (Addr × Obj)), Sms (X.suite a ((a, oe) :: pn)) XNo (s0 :: ss) m) (r : HcsOkZ X hs l) :
      HcsOkZ X (.ExceptHandler (some (.Name x q)) none (s0 :: ss) q' :: hs) ((x, none, fun _ => m) :: l)
  | named {x n : Str} {i : Nat} {C : Addr} {m : List (Str × D) → Cells → R} {e : Expr} {rp q q' : Pos} {hs : List ExceptHandler} {l : List HC} (hg : Gl X x) (hd : (x == ("__debug__" : Str)) = false) (hm : X.mg x = some (.ref C)) (hi : X.N[i]? = some n) (hk : X.env.kindOf n = some .local)
      (he : He X i C e m) (r : HcsOkZ X hs l) :
      HcsOkZ X (.ExceptHandler (some (.Name x q)) (some n) [.Return (some e) rp] q' :: hs) ((x, some i, fun fs env cs => (m fs cs).toS env fun d c => .rt d c) :: l)
  /-- the rest is not come to -/
  | stop {hs : List ExceptHandler} : HcsOkZ X hs [("", none, fun _ => sNx)]
theorem hcs_simZ {X : Cx} {Wo : WX} {isa : Str → Str → Option Bool} (ia : IsaOk X.K X.mg isa) (hz : ∀ n, isa n "" = none) : ∀ {hs : List ExceptHandler} {l : List HC}, HcsOkZ X hs l → ∃ l', HsOk X hs l' ∧ ∀ n fs env cs C dx vs σ H F c D, X.mg n = some (.ref C) → XdA H dx vs →
    RFs (gd X) F c vs fs → RE (gd X) F c σ env → Ih (gd X) H F c cs → PoS (gd X) Wo D H F c (catchH isa n fs env cs l) → wHs X.K Wo D l' (.ref C) dx σ H := by
  intro hs l hk
  induction hk with
  | nil => exact ⟨[], .nil, fun n fs env cs C dx vs σ H F c D hm hx rf re I po => po H F c (Xt.refl _ _ _) I σ C dx vs re hm hx rf⟩
  | stop =>
    refine ⟨[none], .stop, fun n fs env cs C dx vs σ H F c D hm hx rf re I po => ?_⟩
    simp only [catchH, hz] at po
    exact po.elim
  | @plain x C0 m s0 ss q q' hs l hg hd hm su r ih =>
    obtain ⟨l', k, s⟩ := ih
    refine ⟨some (.ref C0, none, fun _ _ _ => tsOf (gd X) XNo m) :: l', .plain ⟨hg, hd, .inl hm⟩ (fun a oe cls d pn _ _ => (su a oe pn).canon) k, fun n fs env cs C dx vs σ H F c D hn hx rf re I po => ?_⟩
    simp only [catchH] at po
    cases hi : isa n x with
    | none => rw [hi] at po; exact po.elim
    | some b =>
      rw [hi] at po
      cases b with
      | true => exact ⟨true, ia n x true hi C C0 hn hm, fun z => (by cases z), fun _ a _ => ⟨env, F, c, cs, re, I, PoS.clr po⟩⟩
      | false => exact ⟨false, ia n x false hi C C0 hn hm, fun _ => s n fs env cs C dx vs σ H F c D hn hx rf re I po, fun z => by cases z⟩
  | @named x nm i C0 m e rp q q' hs l hg hd hm hi hkd he r ih =>
    obtain ⟨l', k, s⟩ := ih
    obtain ⟨t, pt, st⟩ := he
    refine ⟨some (.ref C0, some i, fun a cls d => tRet (t a cls d)) :: l', .named ⟨hg, hd, .inl hm⟩ hi hkd (fun a oe cls d pn z hf => pss_one (ps_ret (pt a oe cls d pn z hf))) k, fun n fs env cs C dx vs σ H F c D hn hx rf re I po => ?_⟩
    simp only [catchH] at po
    split at po
    · rename_i h
      obtain ⟨rfl, h2, h3⟩ := h
      rw [hm] at hn
      cases hn
      refine ⟨true, ia n n true h2 C0 C0 hm hm, fun z => (by cases z), fun _ a _ => ?_⟩
      have hs : (σ.set i (some (V.ref a)))[i]? = some (some (V.ref a)) := by rw [List.getElem?_set_self (by rw [re.1]; exact h3)]
      refine st a dx vs fs _ H F c cs _ hs hx rf I ?_
      cases h4 : m fs cs with
      | ok d c1 => rw [h4] at po; exact po
      | exc n2 f2 c1 => rw [h4] at po; exact po.elim
      | stuck => rw [h4] at po; exact po.elim
    · split at po
      · rename_i h2
        exact ⟨false, ia n x false h2 C C0 hn hm, fun _ => s n fs env cs C dx vs σ H F c D hn hx rf re I po, fun z => by cases z⟩
      · exact po.elim
theorem sm_tryZ {X : Cx} {Wo : WX} {isa : Str → Str → Option Bool} {body : List Stmt} {h0 : ExceptHandler} {hs : List ExceptHandler} {l : List HC} {mb : MS} {pos : Pos} (ia : IsaOk X.K X.mg isa) (hz : ∀ n, isa n "" = none) (st : X.stack = X.env :: X.outer) (fr : X.env.frame = some X.env.locals) (nd : X.N.Nodup) (tk : Takes X Wo)
    (bd : ∀ (W : WX) (pn : List (Addr × Obj)) (xe : Value → Shared → Prop), Takes (X.tr pn xe) W → PassesOwn (model X.prog X.w) X.A X.env xe → Sms (X.tr pn xe) W body mb) (hh : HcsOkZ X (h0 :: hs) l) : Sm X Wo (.Try body (h0 :: hs) [] [] pos) (sTry isa mb l) := by
  obtain ⟨l', k, s⟩ := hcs_simZ (Wo := Wo) ia hz hh
  refine ⟨_, ps_try_hs (tb := fun W => tsOf (gd X) W mb) st fr nd tk (fun W pn xe a b => (bd W pn xe a b).canon) k, fun σ env H F c cs Dn re I po => ⟨env, F, c, cs, re, I, ?_⟩⟩
  unfold sTry at po
  cases h : mb env cs with
  | nx e c1 => rw [h] at po; exact po
  | rt d c1 => rw [h] at po; exact po
  | bk e c1 => rw [h] at po; exact po
  | ct e c1 => rw [h] at po; exact po
  | stuck => rw [h] at po; exact po.elim
  | exc n fs e c1 =>
    rw [h] at po
    exact fun H1 F1 c2 x1 I1 σ1 C dx vs re1 hm hx rf => s n fs e c1 C dx vs σ1 H1 F1 c2 Dn hm hx rf re1 I1 (PoS.from x1 po)

theorem isaT_none : ∀ {l : List ((Str × Str) × Bool)}, (l.all fun e => decide (e.1.2 ≠ "")) = true → ∀ n, isaT l n "" = none
  | [], _, n => rfl
  | ((a, b), v) :: l, h, n => by
    rw [List.all_cons, Bool.and_eq_true] at h
    have ih := isaT_none h.2 n
    unfold isaT at ih ⊢
    rw [List.lookup]
    have hb : b ≠ "" := of_decide_eq_true h.1
    have : ((n, ("" : Str)) == (a, b)) = false := by
      rw [beq_eq_false_iff_ne]
      intro e
      exact hb (Prod.mk.inj e).2.symm
    rw [this]; exact ih
end L3

namespace L3
open PySem L2 PySem.Spec PyProof.Rows

/-! ### text[::-1] -/
def tRevS (te : TE) : TE := fun σ H Q => te σ H fun x H1 => ∃ l : List Nat, x = .str ⟨l.toArray⟩ ∧ l.length ≤ sizeLine ∧ Q (.str ⟨l.reverse.toArray⟩) H1
theorem rev_picked (l : List Nat) : ((Builtin.Str.strSliceIndices none none (-1) l.length).filterMap ((⟨l.toArray⟩ : Str).cps[·]?)).toArray = l.reverse.toArray := by
  have e : Builtin.Str.strSliceIndices none none (-1) l.length = sliceRange ((l.length : Int) - 1) (-1) (-1) := rfl
  rw [e, PySem.W.krv_sliceRange, PySem.W.krv_range, List.filterMap_reverse]
  have := PySem.W.krv_all l.toArray
  simp only [List.size_toArray] at this
  rw [show ((⟨l.toArray⟩ : Str).cps) = l.toArray from rfl, this]
theorem pe_revS {X : Cx} {te : TE} {e : Expr} {k : Nat} {p1 p2 p3 pos : Pos} (he : PE X e te) : PE X (.Subscript e (.Slice none none (some (.UnaryOp .USub (.Constant (.int 1) k p1) p2)) p3) pos) (tRevS te) := by
  refine ⟨fun pins s σ H Q I h => ?_⟩
  refine Subscript_ (thn (he.run pins s σ H _ I h) fun v s1 ⟨x, H1, I1, r1, q1⟩ => ?_)
  obtain ⟨l, ex, hz, q⟩ := q1
  subst ex
  obtain ⟨t, rfl⟩ := r1
  have hst : PO X (some (.UnaryOp .USub (.Constant (.int 1) k p1) p2)) (tPart (tUn (rU fun i => .int (-i)) (tC (.int 1)))) := po_some (pe_un un_neg pe_int)
  refine wpAny_Slice (thn (po_none.run pins s1 σ H1 (fun o H2 => o = none ∧ H2 = H1) I1 ⟨rfl, rfl⟩) fun vl s2 ⟨l', H2, I2, pl, el, e2⟩ => ?_)
  subst el e2
  refine thn (po_none.run pins s2 σ H2 (fun o H3 => o = none ∧ H3 = H2) I2 ⟨rfl, rfl⟩) fun vu s3 ⟨u, H3, I3, pu, eu, e3⟩ => ?_
  subst eu e3
  refine thn (hst.run pins s3 σ H3 (fun o H4 => o = some (-1) ∧ H4 = H3) I3 ⟨1, rfl, -1, rfl, rfl, rfl⟩) fun vs s4 ⟨o, H4, I4, ps, eo, e4⟩ => ?_
  subst eo e4
  cases pl
  cases pu
  obtain ⟨tk, rfl⟩ : ∃ tk, vs = .int (-1) tk := by cases ps; exact ⟨_, rfl⟩
  have I5 : Inv X pins σ H4 { s4 with heap := s4.heap.push { cls := .type "slice", data := .fields #[.none, .none, .int (-1) tk] } } := I4.kept (t' := s4.toks) fun b ob q => Heap.get?_push_of_some _ q
  show wpAny (model X.prog X.w) X.A (subscriptTail e (.Slice none none (some (.UnaryOp .USub (.Constant (.int 1) k p1) p2)) p3) (.str ⟨l.toArray⟩ t) (.ref s4.heap.objs.size)) (EP X pins σ Q) X.xe { s4 with heap := s4.heap.push { cls := .type "slice", data := .fields #[.none, .none, .int (-1) tk] } }
  refine tail_any (ops := [.str ⟨l.toArray⟩ t, .ref s4.heap.objs.size]) (typeIs_str _ _ _) (F.slot_str_getitem.lookup) ?_ (by with_unfolding_all rfl)
  refine wpAny_getItem_str_slice (l := none) (u := none) (st := some (-1, tk)) ⟨_, Heap.get?_push_size _ rfl, rfl, rfl⟩ (by rfl) ?_
  have em : sliceMade ⟨l.toArray⟩ t none none (some (-1, tk)) = .str ⟨l.reverse.toArray⟩ := by
    unfold sliceMade slicePicked
    rw [if_neg (by simp)]
    show Made.str ⟨((Builtin.Str.strSliceIndices none none (-1) l.length).filterMap ((⟨l.toArray⟩ : Str).cps[·]?)).toArray⟩ = _
    rw [rev_picked]
  rw [em]
  refine ⟨?_, .str ⟨l.reverse.toArray⟩, H4, I5.tok _, ⟨_, rfl⟩, q⟩
  rw [str_len, List.length_reverse]
  exact hz
def revD (cs : Cells) : D → R
  | .str l => if l.length ≤ sizeLine then .ok (.str l.reverse) cs else .stuck
  | _ => .stuck
theorem xp_rev {X : Cx} {W : WX} {a : Expr} {ma : ME} {k : Nat} {p1 p2 p3 pos : Pos} (ha : Xp X W a ma) : Xp X W (.Subscript a (.Slice none none (some (.UnaryOp .USub (.Constant (.int 1) k p1) p2)) p3) pos) (op1 revD ma) := by
  obtain ⟨ta, pa, sa⟩ := ha
  refine ⟨_, pe_revS pa, fun σ env H F c cs Q re I po => ?_⟩
  refine sa σ env H F c cs _ re I (PoE.cut po _ fun d cs1 _ H1 F1 c1 v x1 I1 rv po1 => ?_)
  unfold revD at po1
  split at po1
  · split at po1
    · rename_i h
      cases rv
      exact ⟨_, rfl, h, PoE.here I1 (.str _) po1⟩
    · exact po1.elim
  · exact po1.elim

/-! ### methods of a text with a text -/
abbrev mk (l : List Nat) : Str := ⟨l.toArray⟩
def cntD (cs : Cells) (l : List Nat) : D → R
  | .str y => .ok (.int (Txt.count (mk l) (mk y))) cs
  | _ => .stuck
theorem mb_cnt {g : Gd} : Mb1 g (fun x xs H Q => ∃ a b, x = .str a ∧ xs = [.str b] ∧ Q (.int (Txt.count a b)) H) cntD := by
  intro W H F c cs l y e Q I ry po
  unfold cntD at po
  split at po
  · cases ry
    exact ⟨_, _, rfl, rfl, PoE.here I (.int _) po⟩
  · exact po.elim
theorem xp_cnt {X : Cx} {W : WX} {pos apos : Pos} {o e : Expr} {mo me : ME} (ho : Xp X W o mo) (he : Xp X W e me)
    (hs : starEach [e] X.env = [(false, eval e X.env)] := by rfl) (hbase : attributeBase o "count" X.env (eval o X.env) = eval o X.env := by rfl) (hline : (apos.endLine == pos.line) = true := by rfl) :
    Xp X W (.Call (.Attribute o "count" apos) [e] [] pos) (eM1 cntD mo me) := xp_m1 F.slot_str_count F.type_str_count mt_count mb_cnt ho he hs hbase hline
def findD (cs : Cells) (l : List Nat) : D → R
  | .str y => .ok (.int (Txt.find (mk l) (mk y))) cs
  | _ => .stuck
theorem mb_find {g : Gd} : Mb1 g (fun x xs H Q => ∃ a b, x = .str a ∧ xs = [.str b] ∧ Q (.int (Txt.find a b)) H) findD := by
  intro W H F c cs l y e Q I ry po
  unfold findD at po
  split at po
  · cases ry
    exact ⟨_, _, rfl, rfl, PoE.here I (.int _) po⟩
  · exact po.elim
theorem xp_find {X : Cx} {W : WX} {pos apos : Pos} {o e : Expr} {mo me : ME} (ho : Xp X W o mo) (he : Xp X W e me)
    (hs : starEach [e] X.env = [(false, eval e X.env)] := by rfl) (hbase : attributeBase o "find" X.env (eval o X.env) = eval o X.env := by rfl) (hline : (apos.endLine == pos.line) = true := by rfl) :
    Xp X W (.Call (.Attribute o "find" apos) [e] [] pos) (eM1 findD mo me) := xp_m1 F.slot_str_find F.type_str_find mt_find mb_find ho he hs hbase hline
def startsD (cs : Cells) (l : List Nat) : D → R
  | .str y => .ok (.bl (Txt.startswith (mk l) (mk y))) cs
  | _ => .stuck
theorem mb_starts {g : Gd} : Mb1 g (fun x xs H Q => ∃ a b, x = .str a ∧ xs = [.str b] ∧ Q (.bl (Txt.startswith a b)) H) startsD := by
  intro W H F c cs l y e Q I ry po
  unfold startsD at po
  split at po
  · cases ry
    exact ⟨_, _, rfl, rfl, PoE.here I (.bl _) po⟩
  · exact po.elim
theorem xp_starts {X : Cx} {W : WX} {pos apos : Pos} {o e : Expr} {mo me : ME} (ho : Xp X W o mo) (he : Xp X W e me)
    (hs : starEach [e] X.env = [(false, eval e X.env)] := by rfl) (hbase : attributeBase o "startswith" X.env (eval o X.env) = eval o X.env := by rfl) (hline : (apos.endLine == pos.line) = true := by rfl) :
    Xp X W (.Call (.Attribute o "startswith" apos) [e] [] pos) (eM1 startsD mo me) := xp_m1 F.slot_str_startswith F.type_str_startswith mt_startswith mb_starts ho he hs hbase hline
def endsD (cs : Cells) (l : List Nat) : D → R
  | .str y => .ok (.bl (Txt.endswith (mk l) (mk y))) cs
  | _ => .stuck
theorem mb_ends {g : Gd} : Mb1 g (fun x xs H Q => ∃ a b, x = .str a ∧ xs = [.str b] ∧ Q (.bl (Txt.endswith a b)) H) endsD := by
  intro W H F c cs l y e Q I ry po
  unfold endsD at po
  split at po
  · cases ry
    exact ⟨_, _, rfl, rfl, PoE.here I (.bl _) po⟩
  · exact po.elim
theorem xp_ends {X : Cx} {W : WX} {pos apos : Pos} {o e : Expr} {mo me : ME} (ho : Xp X W o mo) (he : Xp X W e me)
    (hs : starEach [e] X.env = [(false, eval e X.env)] := by rfl) (hbase : attributeBase o "endswith" X.env (eval o X.env) = eval o X.env := by rfl) (hline : (apos.endLine == pos.line) = true := by rfl) :
    Xp X W (.Call (.Attribute o "endswith" apos) [e] [] pos) (eM1 endsD mo me) := xp_m1 F.slot_str_endswith F.type_str_endswith mt_endswith mb_ends ho he hs hbase hline
def rscD (cs : Cells) (l : List Nat) : D → R
  | .str y => if l.length ≤ sizeLine then .ok (.str (codes (Txt.rstripChars (mk l) (mk y)))) cs else .stuck
  | _ => .stuck
theorem mb_rsc {g : Gd} : Mb1 g (fun x xs H Q => ∃ a b, x = .str a ∧ xs = [.str b] ∧ a.length ≤ sizeLine ∧ Q (.str (Txt.rstripChars a b)) H) rscD := by
  intro W H F c cs l y e Q I ry po
  unfold rscD at po
  split at po
  · split at po
    · rename_i h
      cases ry
      refine ⟨_, _, rfl, rfl, by rw [str_len]; exact h, ?_⟩
      have := PoE.here I (.str _) po
      rw [str_codes] at this
      exact this
    · exact po.elim
  · exact po.elim
theorem xp_rsc {X : Cx} {W : WX} {pos apos : Pos} {o e : Expr} {mo me : ME} (ho : Xp X W o mo) (he : Xp X W e me)
    (hs : starEach [e] X.env = [(false, eval e X.env)] := by rfl) (hbase : attributeBase o "rstrip" X.env (eval o X.env) = eval o X.env := by rfl) (hline : (apos.endLine == pos.line) = true := by rfl) :
    Xp X W (.Call (.Attribute o "rstrip" apos) [e] [] pos) (eM1 rscD mo me) := xp_m1 F.slot_str_rstrip F.type_str_rstrip mt_rstripChars mb_rsc ho he hs hbase hline
def lscD (cs : Cells) (l : List Nat) : D → R
  | .str y => if l.length ≤ sizeLine then .ok (.str (codes (Txt.lstripChars (mk l) (mk y)))) cs else .stuck
  | _ => .stuck
theorem mb_lsc {g : Gd} : Mb1 g (fun x xs H Q => ∃ a b, x = .str a ∧ xs = [.str b] ∧ a.length ≤ sizeLine ∧ Q (.str (Txt.lstripChars a b)) H) lscD := by
  intro W H F c cs l y e Q I ry po
  unfold lscD at po
  split at po
  · split at po
    · rename_i h
      cases ry
      refine ⟨_, _, rfl, rfl, by rw [str_len]; exact h, ?_⟩
      have := PoE.here I (.str _) po
      rw [str_codes] at this
      exact this
    · exact po.elim
  · exact po.elim
theorem xp_lsc {X : Cx} {W : WX} {pos apos : Pos} {o e : Expr} {mo me : ME} (ho : Xp X W o mo) (he : Xp X W e me)
    (hs : starEach [e] X.env = [(false, eval e X.env)] := by rfl) (hbase : attributeBase o "lstrip" X.env (eval o X.env) = eval o X.env := by rfl) (hline : (apos.endLine == pos.line) = true := by rfl) :
    Xp X W (.Call (.Attribute o "lstrip" apos) [e] [] pos) (eM1 lscD mo me) := xp_m1 F.slot_str_lstrip F.type_str_lstrip mt_lstripChars mb_lsc ho he hs hbase hline

/-! ### xs.append(e), xs a cell -/
def pushL (cs : Cells) (o v : D) : Option Cells := match o with
  | .loc n => match cs[n]? with
    | some (.lst l) => if l.length < sizeLine then some (cs.set n (.lst (l ++ [v]))) else none
    | _ => none
  | _ => none
def isLc (cs : Cells) : D → Bool
  | .loc n => match cs[n]? with
    | some (.lst _) => true
    | _ => false
  | _ => false
def ePush (mo me : ME) : ME := fun env cs => (mo env cs).bind fun o cs1 => if isLc cs1 o = true then (me env cs1).bind fun v cs2 => match pushL cs2 o v with
    | some cs3 => .ok .non cs3
    | none => .stuck
  else .stuck
theorem isLc_at {g : Gd} {H F : Hp} {c : List Addr} {cs : Cells} (I : Ih g H F c cs) {v : V} {d : D} (r : RV g F c v d) (h : isLc cs d = true) : ∃ n a l vs, d = .loc n ∧ v = .ref a ∧ c[n]? = some a ∧ cs[n]? = some (.lst l) ∧ H a = some (.lst vs) ∧ RVs g F c vs l := by
  unfold isLc at h
  split at h
  · rename_i n
    split at h
    · rename_i l hl
      cases r with
      | loc ha =>
        obtain ⟨_, vs, h1, h2⟩ := I.cell _ _ _ ha hl
        exact ⟨n, _, l, vs, rfl, rfl, ha, hl, h1, h2⟩
    · cases h
  · cases h
section
variable {X : Cx} {W : WX} {pos apos tpos : Pos} {o b e : Expr} {mo mb me : ME}
theorem pe_push {to : TE} {t : TA} {es : List Expr} (ho : PE X o to) (ha : PA X (e :: es) t)
    (hbase : attributeBase o "append" X.env (eval o X.env) = eval o X.env := by rfl)
    (hfew : ((backTo pos (starEach (e :: es) X.env)).all (fun x => !x.1) && (backToKw pos (keywordEach [] X.env)).all (fun x => x.1.isSome)
      && decide ((e :: es).length + ([] : List Keyword).length + (if ([] : List Keyword).isEmpty then 0 else 1) < 30)) = true := by rfl)
    (hline : (apos.endLine == pos.line) = true := by rfl) (hs : starEach (e :: es) X.env = (false, eval e X.env) :: starEach es X.env := by rfl) (hplain : (backTo pos (starEach es X.env)).any (·.1) = false := by rfl) :
    PE X (.Call (.Attribute o "append" apos) (e :: es) [] pos) (tBM X.K "list" rAppend to t) :=
  pe_bm F.plainAttrs_list F.slot_list_append F.type_list_append mt_append ho ha hbase hfew hline hs hplain
theorem xp_push (ho : Xp X W o mo) (he : Xp X W e me)
    (hbase : attributeBase o "append" X.env (eval o X.env) = eval o X.env := by rfl)
    (hfew : ((backTo pos (starEach [e] X.env)).all (fun x => !x.1) && (backToKw pos (keywordEach [] X.env)).all (fun x => x.1.isSome)
      && decide ([e].length + ([] : List Keyword).length + (if ([] : List Keyword).isEmpty then 0 else 1) < 30)) = true := by rfl)
    (hline : (apos.endLine == pos.line) = true := by rfl) (hs : starEach [e] X.env = (false, eval e X.env) :: starEach [] X.env := by rfl) (hplain : (backTo pos (starEach [] X.env)).any (·.1) = false := by rfl) :
    Xp X W (.Call (.Attribute o "append" apos) [e] [] pos) (ePush mo me) := by
  obtain ⟨to, po', so⟩ := ho
  obtain ⟨te, pe', se⟩ := he
  refine ⟨_, pe_push po' (pa_cons pe' pa_nil hs) hbase hfew hline hs hplain, fun σ env H F c cs Q re I po => ?_⟩
  refine so σ env H F c cs _ re I (PoE.cut po _ fun d cs1 _ H1 F1 c1 v x1 I1 rv po1 => ?_)
  split at po1
  · rename_i hc
    obtain ⟨n, a, l, vs, rfl, rfl, ha, hl, h1, h2⟩ := isLc_at I1 rv hc
    refine ⟨.inl ⟨rfl, vs, .inl (.inl h1)⟩, se σ env H1 F1 c1 cs1 _ (re.mono x1.le) I1 (PoE.cut po1 _ fun d2 cs2 _ H2 F2 c2 v2 x2 I2 rv2 po2 => ?_)⟩
    split at po2
    · rename_i cs3 h3
      simp only [pushL] at h3
      split at h3
      · rename_i l2 hl2
        split at h3
        · rename_i hz
          simp only [Option.some.injEq] at h3
          subst h3
          have ha2 := x2.le.loc _ _ ha
          obtain ⟨f, vs2, hH, r⟩ := I2.cell _ _ _ ha2 hl2
          refine ⟨a, vs2, v2, rfl, rfl, hH, by rw [r.length]; exact hz, ?_⟩
          have x4 := Xt.write I2 (o := .lst (vs2 ++ [v2])) ha2
          exact po2 _ _ _ x4 (I2.write ha2 hl2 rfl ⟨f, _, upd_same, r.append (.cons rv2 .nil)⟩) .non .non
        · cases h3
      · cases h3
    · exact po2.elim
  · exact po1.elim
end

/-! ### d[k] = e, d a dict that is a cell -/
def kdOf : D → Option Kd
  | .int i => some (.inl i)
  | .str l => some (.inr l)
  | _ => none
theorem kdOf_rv {g : Gd} {F : Hp} {c : List Addr} {v : V} {d : D} {k : Kd} (r : RV g F c v d) (h : kdOf d = some k) : v = kV (kk k) := by
  cases r <;> simp only [kdOf] at h
  all_goals first | (cases h; rfl) | cases h
def putC (cs : Cells) (o i v : D) : Option Cells := match o with
  | .loc n => match cs[n]? with
    | some (.dct l) => match kdOf i with
      | some k => if l.length < sizeLine then some (cs.set n (.dct (putD l k v))) else none
      | none => none
    | _ => none
  | _ => none
def sPutK (mo mi mv : ME) : MS := fun env cs => (mv env cs).toS env fun v cs1 => (mo env cs1).toS env fun o cs2 => (mi env cs2).toS env fun i cs3 => match putC cs3 o i v with
  | some cs4 => .nx env cs4
  | none => .stuck
theorem RKs.len {g : Gd} {F : Hp} {c : List Addr} : ∀ {vs : List (Key × V)} {ds : List (Kd × D)}, RKs g F c vs ds → vs.length = ds.length
  | _, _, .nil => rfl
  | _, _, .cons _ r => by rw [List.length_cons, List.length_cons, RKs.len r]
theorem sm_putK {X : Cx} {W : WX} {k : Nat} {o b e : Expr} {mo mb me : ME} {pos tpos : Pos} (hr : Room k X.A) (ho : Xp X W o mo) (hi : Xp X W b mb) (hv : Xp X W e me)
    (hs : swapsWith e (some (.Subscript o b tpos)) pos.line X.env = pure false := by rfl) : Sm X W (.Assign [.Subscript o b tpos] e pos) (sPutK mo mb me) := by
  obtain ⟨to, po', so⟩ := ho
  obtain ⟨tb, pb, sb⟩ := hi
  obtain ⟨te, pe, se⟩ := hv
  refine ⟨_, ps_dput (hu_of hr) po' pb pe hs, fun σ env H F c cs Dn re I po => ?_⟩
  refine se σ env H F c cs _ re I (PoS.cut re po _ fun d cs1 _ H1 F1 c1 v x1 I1 rv po1 => ?_)
  refine so σ env H1 F1 c1 cs1 _ (re.mono x1.le) I1 (PoS.cut (re.mono x1.le) po1 _ fun d2 cs2 _ H2 F2 c2 v2 x2 I2 rv2 po2 => ?_)
  refine sb σ env H2 F2 c2 cs2 _ ((re.mono x1.le).mono x2.le) I2 (PoS.cut ((re.mono x1.le).mono x2.le) po2 _ fun d3 cs3 _ H3 F3 c3 v3 x3 I3 rv3 po3 => ?_)
  have re3 := ((re.mono x1.le).mono x2.le).mono x3.le
  have rv' := (rv.mono x2.le).mono x3.le
  have rv2' := rv2.mono x3.le
  split at po3
  · rename_i cs4 h4
    unfold putC at h4
    split at h4
    · rename_i n
      split at h4
      · rename_i l hl
        split at h4
        · rename_i kd hk
          split at h4
          · rename_i hz
            simp only [Option.some.injEq] at h4
            subst h4
            cases rv2' with
            | @loc _ a ha =>
              obtain ⟨f, kvs, hH, r⟩ := I3.cell _ _ _ ha hl
              have ek := kdOf_rv rv3 hk
              subst ek
              refine ⟨a, _, rfl, .k (k := kk kd) hH (by rw [r.len]; exact hz), ?_⟩
              have x4 := Xt.write I3 (o := .dK (putK kvs (kk kd) v)) ha
              refine po3 _ _ _ x4 (I3.write ha hl rfl ?_) σ (re3.mono x4.le)
              exact ⟨f, _, upd_same, r.put kd rv'⟩
          · cases h4
        · cases h4
      · cases h4
    · cases h4
  · exact po3.elim

/-! ### a, b = .. -/
def tgTs : List Nat → List D → L3.Env → Option L3.Env
  | [], [], env => some env
  | i :: r, d :: ds, env => tgTs r ds (env.set i (some d))
  | _, _, _ => none
def tgTup (is : List Nat) (d : D) (env : L3.Env) : Option L3.Env := match d with
  | .tup ds => tgTs is ds env
  | _ => none
def Tgts (X : Cx) (es : List Expr) (is own : List Nat) : Prop := ∃ t, PGs X es t ∧ ∀ σ env H F c cs vs ds env1 Q, RE (gd X) F c σ env → Ih (gd X) H F c cs → RVs (gd X) F c vs ds → tgTs is ds env = some env1 → (∀ σ1, RE (gd X) F c σ1 env1 → L2.wipe σ1 own = L2.wipe σ own → Q σ1 H) → t vs σ H Q
theorem tgts_nil {X : Cx} {own : List Nat} : Tgts X [] [] own := ⟨_, pgs_nil, fun σ env H F c cs vs ds env1 Q re I rv h k => by
  cases rv with
  | nil =>
    simp only [tgTs, Option.some.injEq] at h
    subst h
    exact ⟨rfl, k σ re rfl⟩
  | cons _ _ => simp [tgTs] at h⟩
theorem tgts_cons {X : Cx} {i : Nat} {is own : List Nat} {e : Expr} {es : List Expr} (h1 : Tgt X e (tgN i) own) (h2 : Tgts X es is own)
    (hs : (assignEach (e :: es) X.env).map (·.2) = assign e X.env :: (assignEach es X.env).map (·.2) := by rfl) : Tgts X (e :: es) (i :: is) own := by
  obtain ⟨t, p, q⟩ := h1
  obtain ⟨u, p2, q2⟩ := h2
  refine ⟨_, pgs_cons p p2 hs, fun σ env H F c cs vs ds env1 Q re I rv h k => ?_⟩
  cases rv with
  | nil => simp [tgTs] at h
  | @cons v d vr dr r1 r2 =>
    simp only [tgTs] at h
    refine ⟨v, vr, rfl, q σ env H F c cs v d _ _ re I r1 rfl fun σ1 re1 w1 => ?_⟩
    exact q2 σ1 _ H F c cs vr dr env1 Q re1 I r2 h fun σ2 re2 w2 => k σ2 re2 (w2.trans w1)
theorem tgts_len {is : List Nat} : ∀ {ds : List D} {env env1 : L3.Env}, tgTs is ds env = some env1 → ds.length = is.length := by
  induction is with
  | nil => intro ds env env1 h; cases ds with
    | nil => rfl
    | cons _ _ => simp [tgTs] at h
  | cons i r ih => intro ds env env1 h; cases ds with
    | nil => simp [tgTs] at h
    | cons d dr => simp only [tgTs] at h; simp [ih h]
theorem tgt_tup {X : Cx} {is own : List Nat} {es : List Expr} {k : Nat} {pos : Pos} (hc : X.calm = true) (h : Tgts X es is own) (hn : (assignEach es X.env).length = is.length := by rfl) (hst : (assignEach es X.env).findIdx? (·.1) = none := by rfl) : Tgt X (.Tuple es k pos) (tgTup is) own := by
  obtain ⟨t, p, q⟩ := h
  refine ⟨_, pg_tup hc p hn hst, fun σ env H F c cs v d env1 Q re I rv h k => ?_⟩
  unfold tgTup at h
  split at h
  · rename_i ds
    cases rv with
    | @tup a vs _ h1 h2 => exact ⟨a, vs, rfl, SqT.up I.sub h1, by rw [h2.length, tgts_len h], q σ env H F c cs vs ds env1 Q re I h2 h k⟩
  · cases h
/-- target = e, the target a tuple of names -/
def sAsgT (f : D → L3.Env → Option L3.Env) (m : ME) : MS := fun env cs => (m env cs).toS env fun d cs1 => match f d env with
  | some env1 => .nx env1 cs1
  | none => .stuck
theorem sm_asgT {X : Cx} {W : WX} {f : D → L3.Env → Option L3.Env} {own : List Nat} {tg e : Expr} {m : ME} {pos : Pos} (ht : Tgt X tg f own) (he : Xp X W e m) (hs : swapsWithSole [tg] e pos.line X.env = pure false := by rfl) (hw : swappedStores [tg] e X.env = pure none := by rfl)
    (h1 : (assignEach [tg] X.env).map (·.2) = [assign tg X.env] := by rfl) : Sm X W (.Assign [tg] e pos) (sAsgT f m) := by
  obtain ⟨t, p, q⟩ := ht
  obtain ⟨te, pe, se⟩ := he
  refine ⟨_, ps_asg pe p hs hw h1, fun σ env H F c cs Dn re I po => ?_⟩
  refine se σ env H F c cs _ re I (PoS.cut re po _ fun d cs1 _ H1 F1 c1 v x1 I1 rv po1 => ?_)
  split at po1
  · rename_i env1 h
    exact q σ env H1 F1 c1 cs1 v d env1 _ (re.mono x1.le) I1 rv h fun σ1 re1 _ => PoS.next I1 re1 po1
  · exact po1.elim

/-! ### a, b = e, f (its stores swap) -/
def sPar (is : List Nat) (ms : MA) : MS := fun env cs => match ms env cs with
  | .ok ds cs1 => match tgTs is ds env with
    | some env1 => .nx env1 cs1
    | none => .stuck
  | .exc n fs cs1 => .exc n fs env cs1
  | .stuck => .stuck
section
variable {X : Cx} {W : WX} {ms : MA} {px py pz pt pos : Pos} {kt k2 : Nat} {pt2 : Pos} {x y z : Str} {i j l : Nat} {a b c : Expr}
theorem sm_par2 (hc : X.calm = true) (hN : X.N.Nodup) (hi : X.N[i]? = some x) (hj : X.N[j]? = some y) (hx : X.env.scope.names.lookup x = some .local) (hy : X.env.scope.names.lookup y = some .local) (ha : Xa X W [a, b] ms) (hij : i ≠ j := by decide)
    (hw : swappedStores [.Tuple [.Name x px, .Name y py] kt pt] (.Tuple [a, b] k2 pt2) X.env = pure (some [x, y]) := by rfl)
    (hs : swapsWithSole [.Tuple [.Name x px, .Name y py] kt pt] (.Tuple [a, b] k2 pt2) pos.line X.env = pure false := by rfl) : Sm X W (.Assign [.Tuple [.Name x px, .Name y py] kt pt] (.Tuple [a, b] k2 pt2) pos) (sPar [i, j] ms) := by
  obtain ⟨t, pa, sa⟩ := ha
  refine ⟨_, ps_par hc hN hi hj hij hx hy pa hw hs, fun σ env H F c cs Dn re I po => ?_⟩
  refine sa σ env H F c cs _ re I ?_
  unfold sPar at po
  cases h1 : ms env cs with
  | exc n fs c1 => rw [h1] at po; exact fun H1 F1 c1 x1 I1 C dx vs a b d => po H1 F1 c1 x1 I1 σ C dx vs (re.mono x1.le) a b d
  | stuck => rw [h1] at po; exact po.elim
  | ok ds cs1 =>
    rw [h1] at po
    simp only at po
    split at po
    · rename_i env1 h
      intro H1 F2 c1 x1 I1 vs rv
      match ds, rv, h with
      | [d1, d2], .cons (v := v1) r1 (.cons (v := v2) r2 .nil), h =>
        simp only [tgTs, Option.some.injEq] at h
        subst h
        exact ⟨v1, v2, rfl, po _ _ _ x1 I1 _ (((re.mono x1.le).set i r1).set j r2)⟩
      | [], .nil, h => simp [tgTs] at h
      | [d1], .cons _ .nil, h => simp [tgTs] at h
      | d1 :: d2 :: d3 :: r, .cons _ (.cons _ (.cons _ _)), h => simp [tgTs] at h
    · exact po.elim
theorem sm_par3 (hc : X.calm = true) (hN : X.N.Nodup) (hi : X.N[i]? = some x) (hj : X.N[j]? = some y) (hl : X.N[l]? = some z) (hx : X.env.scope.names.lookup x = some .local) (hy : X.env.scope.names.lookup y = some .local) (hz : X.env.scope.names.lookup z = some .local) (ha : Xa X W [a, b, c] ms) (hij : i ≠ j := by decide) (hil : i ≠ l := by decide) (hjl : j ≠ l := by decide)
    (hw : swappedStores [.Tuple [.Name x px, .Name y py, .Name z pz] kt pt] (.Tuple [a, b, c] k2 pt2) X.env = pure (some [x, y, z]) := by rfl)
    (hs : swapsWithSole [.Tuple [.Name x px, .Name y py, .Name z pz] kt pt] (.Tuple [a, b, c] k2 pt2) pos.line X.env = pure false := by rfl) : Sm X W (.Assign [.Tuple [.Name x px, .Name y py, .Name z pz] kt pt] (.Tuple [a, b, c] k2 pt2) pos) (sPar [i, j, l] ms) := by
  obtain ⟨t, pa, sa⟩ := ha
  refine ⟨_, ps_par3 hc hN hi hj hl hij hil hjl hx hy hz pa hw hs, fun σ env H F c cs Dn re I po => ?_⟩
  refine sa σ env H F c cs _ re I ?_
  unfold sPar at po
  cases h1 : ms env cs with
  | exc n fs c1 => rw [h1] at po; exact fun H1 F1 c1 x1 I1 C dx vs a b d => po H1 F1 c1 x1 I1 σ C dx vs (re.mono x1.le) a b d
  | stuck => rw [h1] at po; exact po.elim
  | ok ds cs1 =>
    rw [h1] at po
    simp only at po
    split at po
    · rename_i env1 h
      intro H1 F2 c1 x1 I1 vs rv
      match ds, rv, h with
      | [d1, d2, d3], .cons (v := v1) r1 (.cons (v := v2) r2 (.cons (v := v3) r3 .nil)), h =>
        simp only [tgTs, Option.some.injEq] at h
        subst h
        exact ⟨v1, v2, v3, rfl, po _ _ _ x1 I1 _ ((((re.mono x1.le).set i r1).set j r2).set l r3)⟩
      | [], .nil, h => simp [tgTs] at h
      | [d1], .cons _ .nil, h => simp [tgTs] at h
      | [d1, d2], .cons _ (.cons _ .nil), h => simp [tgTs] at h
      | d1 :: d2 :: d3 :: d4 :: r, .cons _ (.cons _ (.cons _ (.cons _ _))), h => simp [tgTs] at h
    · exact po.elim
end
end L3

namespace L3
open PySem L2 PySem.Spec PyProof.Rows PySem.SeqAt MeetsSeq AutoSeq1

/-! ### a dict among texts -/
theorem dict_eq_declines_str (l : Addr) (es : Array DictEntry) (n : Nat) (dd : Option Addr) (sl : Array (Option Value)) (b : Str) (u : Tok) :
    Meets (Builtin.«dict.__eq__» ⟨[.ref l, .str b u], []⟩) (fun _ R s => s.heap.get? l = some { cls := .type "dict", dict := dd, data := .dict es n, slots := sl } ∧ R (.ok (.ret .notImplemented)) s) :=
  .of_wp fun prog w A R s h => by obtain ⟨hp, g, d, tk, os⟩ := s; obtain ⟨hl, h⟩ := h; have f1 := F.sub_str_dict; wp_walk using wpAny_loadPart' hl; exact ⟨_, rfl, h⟩
theorem str_eq_declines_dict (b : Str) (u : Tok) (l : Addr) (es : Array DictEntry) (n : Nat) (dd : Option Addr) (sl : Array (Option Value)) :
    Meets (Builtin.«str.__eq__» ⟨[.str b u, .ref l], []⟩) (fun _ R s => s.heap.get? l = some { cls := .type "dict", dict := dd, data := .dict es n, slots := sl } ∧ R (.ok (.ret .notImplemented)) s) :=
  .of_wp fun prog w A R s h => by obtain ⟨hp, g, d, tk, os⟩ := s; obtain ⟨hl, h⟩ := h; wp_walk using wpAny_loadPart' hl, wpAny_load hl; exact ⟨_, rfl, h⟩
theorem RcAt.str_dict {A : Around} {s : Shared} {l : Addr} {es : Array DictEntry} {n : Nat} {dd : Option Addr} {sl : Array (Option Value)} (b : Str) (u : Tok) (ho : s.heap.get? l = some { cls := .type "dict", dict := dd, data := .dict es n, slots := sl }) (hu : A.units < cLine) : RcAt A s (.str b u) (.ref l) false := fun prog w E Q h => by
  exact rc_eq_decline_or (k := false) (typeIs_str s b u) ⟨_, ho, rfl⟩ (by decide) F.sub_dict_str F.slot_str_eq F.slot_dict_eq_refl
    (fun _ hq => call_meets F.slot_str_eq (typeIs_str s b u) F.entry_str_eq (F.args_str_eq_2 _ _) (str_eq_declines_dict b u l es n dd sl) ⟨ho, hq⟩)
    (fun _ hq => call_meets F.slot_dict_eq_refl ⟨_, ho, rfl⟩ F.entry_dict_eq (F.args_dict_eq_2 _ _) (dict_eq_declines_str l es n dd sl b u) ⟨ho, hq⟩)
    (fun _ hq => wpAny_of_eq (rfl : isSame (.str b u) (.ref l) = pure false) hq) (.inr hu) h
theorem EqAt.str_dict {A : Around} {s : Shared} {l : Addr} {es : Array DictEntry} {n : Nat} {dd : Option Addr} {sl : Array (Option Value)} (b : Str) (u : Tok) (ho : s.heap.get? l = some { cls := .type "dict", dict := dd, data := .dict es n, slots := sl }) (hu : A.units < cLine) : EqAt A s (.str b u) (.ref l) false := fun prog w E Q h => by
  unfold eqBool
  refine wpAny_holding ?_
  refine wpAny_ite_split (fun hab => absurd (eq_of_beq hab) nofun) (fun _ => ?_)
  exact wpAny_bind (RcAt.str_dict b u ho hu prog w E _ (wpAny_truthy_bool h))
end L3
namespace L3
open PySem L2 PySem.Spec PyProof.Rows PySem.SeqAt MeetsSeq AutoSeq1
/-- a dict is none of some texts -/
def rInT (K : PySem.W.Frag) (neg : Bool) : R2 := fun x y H Q => ∃ (p a : Addr) (ys : List Str) (kvs : List (Key × V)), y = .ref p ∧ SqL K H p (ys.map V.str) ∧ x = .ref a ∧ Rd H a (.dK kvs) ∧ Q (.bl neg) H
theorem all_strs : ∀ {ys : List Str} {us : List Value}, Vals (ys.map V.str) us → ∀ u ∈ us, ∃ b t, u = .str b t
  | [], _, .nil, u, m => by cases m
  | y :: ys, _, .cons r q, u, m => by
    rcases List.mem_cons.mp m with e | m
    · subst e; obtain ⟨t, e⟩ := r; exact ⟨y, t, e⟩
    · exact all_strs q u m
theorem any_no (us : Array Value) : us.any (fun _ => false) = false := by
  rw [← Array.any_toList]
  induction us.toList with
  | nil => rfl
  | cons a l ih => simpa using ih
theorem op_inT {X : Cx} (hu : X.A.units + 65 < cLine) : OpR X (compareOp .In) (rInT X.K false) := by
  intro pins s σ H x y v u Q I rx ry h
  obtain ⟨p, a, ys, kvs, rfl, hs, rfl, hd, q⟩ := h
  obtain rfl : u = .ref p := ry
  obtain rfl : v = .ref a := rx
  obtain ⟨its, rv, pl, hz⟩ := I.list hs
  obtain ⟨_, _, vs, kv, o, es, ep, ho, ex, dt, _, pr, _⟩ := dk_rd I.hok hd
  refine in_listAt (fun _ => false) pl.isList (fun y hy => ?_) ?_
  · obtain ⟨b, t, rfl⟩ := all_strs rv y (by simpa using hy)
    obtain ⟨cls, dd, data, sl⟩ := o
    obtain ⟨rfl, _⟩ := ex
    simp only at dt
    subst dt
    exact EqAt.str_dict b t ho (by show X.A.units + 1 < _; omega)
  · rw [any_no]; exact ⟨.bl _, H, I, rfl, q⟩
theorem op_notInT {X : Cx} (hu : X.A.units + 65 < cLine) : OpR X (compareOp .NotIn) (rInT X.K true) := by
  intro pins s σ H x y v u Q I rx ry h
  obtain ⟨p, a, ys, kvs, rfl, hs, rfl, hd, q⟩ := h
  obtain rfl : u = .ref p := ry
  obtain rfl : v = .ref a := rx
  obtain ⟨its, rv, pl, hz⟩ := I.list hs
  obtain ⟨_, _, vs, kv, o, es, ep, ho, ex, dt, _, pr, _⟩ := dk_rd I.hok hd
  refine notIn_listAt (fun _ => false) pl.isList (fun y hy => ?_) ?_
  · obtain ⟨b, t, rfl⟩ := all_strs rv y (by simpa using hy)
    obtain ⟨cls, dd, data, sl⟩ := o
    obtain ⟨rfl, _⟩ := ex
    simp only at dt
    subst dt
    exact EqAt.str_dict b t ho (by show X.A.units + 1 < _; omega)
  · rw [any_no]; exact ⟨.bl _, H, I, rfl, q⟩
end L3

namespace L3
open PySem L2 PySem.Spec PyProof.Rows PySem.SeqAt
def isDct (cs : Cells) : D → Bool
  | .dct _ => true
  | .loc n => match cs[n]? with
    | some (.dct _) => true
    | _ => false
  | _ => false
def strsL : List D → Option (List (List Nat))
  | [] => some []
  | .str l :: r => (strsL r).map (l :: ·)
  | _ => none
theorem strsL_rv {g : Gd} {F : Hp} {c : List Addr} : ∀ {vs : List V} {ds : List D} {ls : List (List Nat)}, RVs g F c vs ds → strsL ds = some ls → vs = (ls.map mk).map V.str
  | _, _, _, .nil, h => by simp only [strsL, Option.some.injEq] at h; subst h; rfl
  | _, _, ls, .cons r q, h => by
    cases r <;> simp only [strsL] at h
    case str l =>
      simp only [Option.map_eq_some_iff] at h
      obtain ⟨t, h1, rfl⟩ := h
      rw [strsL_rv q h1]; rfl
    all_goals cases h
theorem isDct_at {g : Gd} {H F : Hp} {c : List Addr} {cs : Cells} (I : Ih g H F c cs) {v : V} {d : D} (r : RV g F c v d) (h : isDct cs d = true) : ∃ a kvs, v = .ref a ∧ Rd H a (.dK kvs) := by
  unfold isDct at h
  split at h
  · cases r with
    | @dct a kvs _ h1 h2 => exact ⟨a, kvs, rfl, h1.elim (fun e => .inl (I.sub _ _ e)) fun ⟨o, e⟩ => .inr ⟨o, I.sub _ _ e⟩⟩
  · split at h
    · rename_i l hl
      cases r with
      | @loc _ a ha =>
        obtain ⟨_, kvs, h1, _⟩ := I.cell _ _ _ ha hl
        exact ⟨a, kvs, rfl, .inl h1⟩
    · cases h
  · cases h
/-- is it among them, whatever they are -/
def inBX (cs : Cells) (x y : D) : Option Bool := match inB cs x y with
  | some b => some b
  | none => match isDct cs x, listOf cs y with
    | true, some ds => (strsL ds).map fun _ => false
    | _, _ => match pyOf cs x, pyOf cs y with
      | some p, some (.list q) => if shaped p && shaped (.list q) then some (q.any fun z => PyData.eqv z p) else none
      | _, _ => none
def inX (cs : Cells) (x y : D) : R := match inBX cs x y with
  | some b => .ok (.bl b) cs
  | none => .stuck
def ninX (cs : Cells) (x y : D) : R := match inBX cs x y with
  | some b => .ok (.bl !b) cs
  | none => .stuck
theorem o2_inX {g : Gd} : O2 g (fun x y H Q => (rInS1 x y H Q ∨ rIn g.K false x y H Q) ∨ rInD g.K x y H Q ∨ rInT g.K false x y H Q) inX := by
  intro W H F c cs x y d e Q I rx ry po
  unfold inX inBX at po
  split at po
  · rename_i k hk
    split at hk
    · rename_i b hb
      simp only [Option.some.injEq] at hk
      subst hk
      refine .inl (o2_in W H F c cs x y d e Q I rx ry ?_)
      unfold inD
      rw [hb]; exact po
    · split at hk
      · rename_i ds hc hl
        simp only [Option.map_eq_some_iff] at hk
        obtain ⟨ls, h1, rfl⟩ := hk
        obtain ⟨a, kvs, rfl, hd⟩ := isDct_at I rx hc
        obtain ⟨q, vs, rfl, hs, r⟩ := listOf_at I ry hl
        rw [strsL_rv r h1] at hs
        exact .inr (.inr ⟨q, a, _, kvs, rfl, .inl (.inl hs), rfl, hd, PoE.here I (.bl _) po⟩)
      · split at hk
        · rename_i p q e1 e2
          split at hk
          · rename_i sh
            simp only [Bool.and_eq_true] at sh
            simp only [Option.some.injEq] at hk
            subst hk
            exact .inr (.inl ⟨p, q, pyOf_dp I rx e1 (noDict_of (canLay_of_shaped sh.1)), pyOf_dp I ry e2 (noDict_of (canLay_of_shaped sh.2)), sh.1, sh.2, PoE.here I (.bl _) po⟩)
          · cases hk
        · cases hk
  · exact po.elim
theorem o2_ninX {g : Gd} : O2 g (fun x y H Q => (rNInS1 x y H Q ∨ rIn g.K true x y H Q) ∨ rNotInD g.K x y H Q ∨ rInT g.K true x y H Q) ninX := by
  intro W H F c cs x y d e Q I rx ry po
  unfold ninX inBX at po
  split at po
  · rename_i k hk
    split at hk
    · rename_i b hb
      simp only [Option.some.injEq] at hk
      subst hk
      refine .inl (o2_nin W H F c cs x y d e Q I rx ry ?_)
      unfold ninD
      rw [hb]; exact po
    · split at hk
      · rename_i ds hc hl
        simp only [Option.map_eq_some_iff] at hk
        obtain ⟨ls, h1, rfl⟩ := hk
        obtain ⟨a, kvs, rfl, hd⟩ := isDct_at I rx hc
        obtain ⟨q, vs, rfl, hs, r⟩ := listOf_at I ry hl
        rw [strsL_rv r h1] at hs
        exact .inr (.inr ⟨q, a, _, kvs, rfl, .inl (.inl hs), rfl, hd, PoE.here I (.bl _) po⟩)
      · split at hk
        · rename_i p q e1 e2
          split at hk
          · rename_i sh
            simp only [Bool.and_eq_true] at sh
            simp only [Option.some.injEq] at hk
            subst hk
            exact .inr (.inl ⟨p, q, pyOf_dp I rx e1 (noDict_of (canLay_of_shaped sh.1)), pyOf_dp I ry e2 (noDict_of (canLay_of_shaped sh.2)), sh.1, sh.2, PoE.here I (.bl _) po⟩)
          · cases hk
        · cases hk
  · exact po.elim
section
variable {X : Cx} {W : WX} {k : Nat} {pos : Pos} {a b : Expr} {ma mb : ME}
theorem un65 (hr : Room k X.A) : X.A.units + 65 < cLine := by have := hr.un; omega
theorem xp_inX (hr : Room k X.A) (ha : Xp X W a ma) (hb : Xp X W b mb) (hm : behindInMarks .In b = false) : Xp X W (.Compare a [.In] [b] pos) (op2 inX ma mb) := xp_cmp ((op_in_sign.or op_in_seq).or ((op_inD (un65 hr)).or (op_inT (un65 hr)))) o2_inX ha hb hm
theorem xp_ninX (hr : Room k X.A) (ha : Xp X W a ma) (hb : Xp X W b mb) (hm : behindInMarks .NotIn b = false) : Xp X W (.Compare a [.NotIn] [b] pos) (op2 ninX ma mb) := xp_cmp ((op_notIn_sign.or op_notIn_seq).or ((op_notInD (un65 hr)).or (op_notInT (un65 hr)))) o2_ninX ha hb hm
theorem xt_inX (hr : Room k X.A) (ha : Xp X W a ma) (hb : Xp X W b mb) (hm : behindInMarks .In b = false) : Xt1 X W (.Compare a [.In] [b] pos) (op2 inX ma mb) := xt_cmp ((op_in_sign.or op_in_seq).or ((op_inD (un65 hr)).or (op_inT (un65 hr)))) o2_inX ha hb hm
theorem xt_ninX (hr : Room k X.A) (ha : Xp X W a ma) (hb : Xp X W b mb) (hm : behindInMarks .NotIn b = false) : Xt1 X W (.Compare a [.NotIn] [b] pos) (op2 ninX ma mb) := xt_cmp ((op_notIn_sign.or op_notIn_seq).or ((op_notInD (un65 hr)).or (op_notInT (un65 hr)))) o2_ninX ha hb hm
end
end L3

namespace L3
open PySem L2 PySem.Spec PyProof.Rows PySem.SeqAt MeetsSeq AutoSeq1
/-! ### a dict == a text, a dict != a text -/
theorem dict_ne_declines_str (l : Addr) (es : Array DictEntry) (n : Nat) (dd : Option Addr) (sl : Array (Option Value)) (b : Str) (u : Tok) :
    Meets (Builtin.«dict.__ne__» ⟨[.ref l, .str b u], []⟩) (fun _ R s => s.heap.get? l = some { cls := .type "dict", dict := dd, data := .dict es n, slots := sl } ∧ R (.ok (.ret .notImplemented)) s) :=
  .of_wp fun prog w A R s h => by obtain ⟨hp, g, d, tk, os⟩ := s; obtain ⟨hl, h⟩ := h; have f1 := F.sub_str_dict; wp_walk using wpAny_loadPart' hl; exact ⟨_, rfl, h⟩
theorem str_ne_declines_dict (b : Str) (u : Tok) (l : Addr) (es : Array DictEntry) (n : Nat) (dd : Option Addr) (sl : Array (Option Value)) :
    Meets (Builtin.«str.__ne__» ⟨[.str b u, .ref l], []⟩) (fun _ R s => s.heap.get? l = some { cls := .type "dict", dict := dd, data := .dict es n, slots := sl } ∧ R (.ok (.ret .notImplemented)) s) :=
  .of_wp fun prog w A R s h => by obtain ⟨hp, g, d, tk, os⟩ := s; obtain ⟨hl, h⟩ := h; wp_walk using wpAny_loadPart' hl, wpAny_load hl; exact ⟨_, rfl, h⟩
theorem RcNeAt.dict_str {A : Around} {s : Shared} {l : Addr} {es : Array DictEntry} {n : Nat} {dd : Option Addr} {sl : Array (Option Value)} (b : Str) (u : Tok) (ho : s.heap.get? l = some { cls := .type "dict", dict := dd, data := .dict es n, slots := sl }) (hu : A.units < cLine) : RcNeAt A s (.ref l) (.str b u) true := fun prog w E Q h => by
  exact rc_ne_decline_or (k := false) ⟨_, ho, rfl⟩ (typeIs_str s b u) (by decide) F.sub_str_dict F.slot_dict_ne F.slot_str_ne_refl
    (fun _ hq => call_meets F.slot_dict_ne ⟨_, ho, rfl⟩ F.entry_dict_ne (F.args_dict_ne_2 _ _) (dict_ne_declines_str l es n dd sl b u) ⟨ho, hq⟩)
    (fun _ hq => call_meets F.slot_str_ne_refl (typeIs_str s b u) F.entry_str_ne (F.args_str_ne_2 _ _) (str_ne_declines_dict b u l es n dd sl) ⟨ho, hq⟩)
    (fun _ hq => wpAny_of_eq (rfl : isSame (.ref l) (.str b u) = pure false) hq) (.inr hu) h
theorem RcAt.dict_str {A : Around} {s : Shared} {l : Addr} {es : Array DictEntry} {n : Nat} {dd : Option Addr} {sl : Array (Option Value)} (b : Str) (u : Tok) (ho : s.heap.get? l = some { cls := .type "dict", dict := dd, data := .dict es n, slots := sl }) (hu : A.units < cLine) : RcAt A s (.ref l) (.str b u) false := fun prog w E Q h => by
  exact rc_eq_decline_or (k := false) ⟨_, ho, rfl⟩ (typeIs_str s b u) (by decide) F.sub_str_dict F.slot_dict_eq F.slot_str_eq_refl
    (fun _ hq => call_meets F.slot_dict_eq ⟨_, ho, rfl⟩ F.entry_dict_eq (F.args_dict_eq_2 _ _) (dict_eq_declines_str l es n dd sl b u) ⟨ho, hq⟩)
    (fun _ hq => call_meets F.slot_str_eq_refl (typeIs_str s b u) F.entry_str_eq (F.args_str_eq_2 _ _) (str_eq_declines_dict b u l es n dd sl) ⟨ho, hq⟩)
    (fun _ hq => wpAny_of_eq (rfl : isSame (.ref l) (.str b u) = pure false) hq) (.inr hu) h
def rDT (k : Bool) : R2 := fun x y H Q => ∃ (a : Addr) (b : Str) (kvs : List (Key × V)), x = .ref a ∧ y = .str b ∧ Rd H a (.dK kvs) ∧ Q (.bl k) H
theorem op_neT {X : Cx} (hu : X.A.units + 64 < cLine) : OpR X (compareOp .NotEq) (rDT true) := by
  intro pins s σ H x y v u Q I rx ry h
  obtain ⟨a, b, kvs, rfl, rfl, hd, q⟩ := h
  obtain rfl : v = .ref a := rx
  obtain ⟨t, rfl⟩ := (show ∃ t, u = Value.str b t from ry)
  obtain ⟨_, _, vs, kv, o, es, ep, ho, ex, dt, _, pr, _⟩ := dk_rd I.hok hd
  obtain ⟨cls, dd, data, sl⟩ := o
  obtain ⟨rfl, _⟩ := ex
  simp only at dt
  subst dt
  exact RcNeAt.dict_str b t ho (by omega) _ _ _ _ ⟨.bl true, H, I, rfl, q⟩
theorem op_eqT {X : Cx} (hu : X.A.units + 64 < cLine) : OpR X (compareOp .Eq) (rDT false) := by
  intro pins s σ H x y v u Q I rx ry h
  obtain ⟨a, b, kvs, rfl, rfl, hd, q⟩ := h
  obtain rfl : v = .ref a := rx
  obtain ⟨t, rfl⟩ := (show ∃ t, u = Value.str b t from ry)
  obtain ⟨_, _, vs, kv, o, es, ep, ho, ex, dt, _, pr, _⟩ := dk_rd I.hok hd
  obtain ⟨cls, dd, data, sl⟩ := o
  obtain ⟨rfl, _⟩ := ex
  simp only at dt
  subst dt
  exact RcAt.dict_str b t ho (by omega) _ _ _ _ ⟨.bl false, H, I, rfl, q⟩
def isStr : D → Bool
  | .str _ => true
  | _ => false
def eqBX (cs : Cells) (x y : D) : Option Bool := match eqB cs x y with
  | some b => some b
  | none => if isDct cs x = true ∧ isStr y = true then some false else none
def eqX (cs : Cells) (x y : D) : R := match eqBX cs x y with
  | some b => .ok (.bl b) cs
  | none => .stuck
def neX (cs : Cells) (x y : D) : R := match eqBX cs x y with
  | some b => .ok (.bl !b) cs
  | none => .stuck
theorem isStr_rv {g : Gd} {F : Hp} {c : List Addr} {v : V} {d : D} (r : RV g F c v d) (h : isStr d = true) : ∃ b, v = .str b := by
  cases r <;> first | exact ⟨_, rfl⟩ | cases h
theorem o2_eqX {g : Gd} {r : R2} (h : O2 g r eqD) : O2 g (fun x y H Q => r x y H Q ∨ rDT false x y H Q) eqX := by
  intro W H F c cs x y d e Q I rx ry po
  unfold eqX eqBX at po
  split at po
  · rename_i k hk
    split at hk
    · rename_i b hb
      simp only [Option.some.injEq] at hk
      subst hk
      exact .inl (h W H F c cs x y d e Q I rx ry (by unfold eqD; rw [hb]; exact po))
    · split at hk
      · rename_i hc
        simp only [Option.some.injEq] at hk
        subst hk
        obtain ⟨a, kvs, rfl, hd⟩ := isDct_at I rx hc.1
        obtain ⟨b, rfl⟩ := isStr_rv ry hc.2
        exact .inr ⟨a, b, kvs, rfl, rfl, hd, PoE.here I (.bl _) po⟩
      · cases hk
  · exact po.elim
theorem o2_neX {g : Gd} {r : R2} (h : O2 g r neD) : O2 g (fun x y H Q => r x y H Q ∨ rDT true x y H Q) neX := by
  intro W H F c cs x y d e Q I rx ry po
  unfold neX eqBX at po
  split at po
  · rename_i k hk
    split at hk
    · rename_i b hb
      simp only [Option.some.injEq] at hk
      subst hk
      exact .inl (h W H F c cs x y d e Q I rx ry (by unfold neD; rw [hb]; exact po))
    · split at hk
      · rename_i hc
        simp only [Option.some.injEq] at hk
        subst hk
        obtain ⟨a, kvs, rfl, hd⟩ := isDct_at I rx hc.1
        obtain ⟨b, rfl⟩ := isStr_rv ry hc.2
        exact .inr ⟨a, b, kvs, rfl, rfl, hd, PoE.here I (.bl _) po⟩
      · cases hk
  · exact po.elim
section
variable {X : Cx} {W : WX} {k : Nat} {pos : Pos} {a b : Expr} {ma mb : ME}
theorem un64 (hr : Room k X.A) : X.A.units + 64 < cLine := by have := hr.un; omega
theorem xp_eqX (hr : Room k X.A) (ha : Xp X W a ma) (hb : Xp X W b mb) (hm : behindInMarks .Eq b = false := by exact nomark _) : Xp X W (.Compare a [.Eq] [b] pos) (op2 eqX ma mb) := xp_cmp ((op_eq.or (op_eqD (un64 hr))).or (op_eqT (un64 hr))) (o2_eqX o2_eq) ha hb hm
theorem xp_neX (hr : Room k X.A) (ha : Xp X W a ma) (hb : Xp X W b mb) (hm : behindInMarks .NotEq b = false := by exact nomark _) : Xp X W (.Compare a [.NotEq] [b] pos) (op2 neX ma mb) := xp_cmp ((op_ne.or (op_neD (un64 hr))).or (op_neT (un64 hr))) (o2_neX o2_ne) ha hb hm
theorem xt_eqX (hr : Room k X.A) (ha : Xp X W a ma) (hb : Xp X W b mb) (hm : behindInMarks .Eq b = false := by exact nomark _) : Xt1 X W (.Compare a [.Eq] [b] pos) (op2 eqX ma mb) := xt_cmp ((op_eq.or (op_eqD (un64 hr))).or (op_eqT (un64 hr))) (o2_eqX o2_eq) ha hb hm
theorem xt_neX (hr : Room k X.A) (ha : Xp X W a ma) (hb : Xp X W b mb) (hm : behindInMarks .NotEq b = false := by exact nomark _) : Xt1 X W (.Compare a [.NotEq] [b] pos) (op2 neX ma mb) := xt_cmp ((op_ne.or (op_neD (un64 hr))).or (op_neT (un64 hr))) (o2_neX o2_ne) ha hb hm
end
end L3

/-! instances of the text's own classes: they stand in cells -/
namespace L3
open PySem L2
def insAt (cs : Cells) : D → Option (Nat × Str × List (Str × D))
  | .loc n => match cs[n]? with
    | some (.ins x fs) => some (n, x, fs)
    | _ => none
  | _ => none
section
variable {g : Gd} {H F : Hp} {c : List Addr} {cs : Cells}
theorem insAt_at (I : Ih g H F c cs) {v : V} {d : D} {n : Nat} {x : Str} {gs : List (Str × D)} (r : RV g F c v d) (h : insAt cs d = some (n, x, gs)) :
    ∃ a C dx fs, d = .loc n ∧ v = .ref a ∧ c[n]? = some a ∧ cs[n]? = some (.ins x gs) ∧ g.mg x = some (.ref C) ∧ H a = some (.ins C dx fs) ∧ RFs g F c fs gs := by
  unfold insAt at h
  split at h
  · rename_i m
    split at h
    · rename_i y l hl
      simp only [Option.some.injEq, Prod.mk.injEq] at h
      obtain ⟨rfl, rfl, rfl⟩ := h
      cases r with
      | loc ha =>
        obtain ⟨_, C, dx, fs, hm, h1, h2⟩ := I.cell _ _ _ ha hl
        exact ⟨_, C, dx, fs, rfl, rfl, ha, hl, hm, h1, h2⟩
    · cases h
  · cases h
theorem RFs.look {f : Str} : ∀ {fs : List (Str × V)} {gs : List (Str × D)} {d : D}, RFs g F c fs gs → gs.lookup f = some d → ∃ v, fs.lookup f = some v ∧ RV g F c v d
  | _, _, _, .nil, h => by cases h
  | _, _, d, .cons (k := k) r q, h => by
    rw [List.lookup] at h ⊢
    cases e : (f == k) with
    | true =>
      rw [e] at h
      simp only [Option.some.injEq] at h
      subst h
      exact ⟨_, rfl, r⟩
    | false =>
      rw [e] at h
      exact RFs.look q h
theorem RFs.lookN {f : Str} : ∀ {fs : List (Str × V)} {gs : List (Str × D)}, RFs g F c fs gs → gs.lookup f = none → fs.lookup f = none
  | _, _, .nil, _ => rfl
  | _, _, .cons (k := k) r q, h => by
    rw [List.lookup] at h ⊢
    cases e : (f == k) with
    | true => rw [e] at h; cases h
    | false => rw [e] at h; exact RFs.lookN q h
def putFD (f : Str) (v : D) : List (Str × D) → List (Str × D)
  | [] => [(f, v)]
  | (g, x) :: r => if g = f then (g, v) :: r else (g, x) :: putFD f v r
theorem RFs.put {f : Str} {y : V} {d : D} (rv : RV g F c y d) : ∀ {fs : List (Str × V)} {gs : List (Str × D)}, RFs g F c fs gs → RFs g F c (putF f y fs) (putFD f d gs)
  | _, _, .nil => .cons rv .nil
  | _, _, .cons (k := k) r q => by
    unfold putF putFD
    by_cases e : k = f
    · rw [if_pos e, if_pos e]; exact .cons rv q
    · rw [if_neg e, if_neg e]; exact .cons r (RFs.put rv q)
theorem RFs.len : ∀ {fs : List (Str × V)} {gs : List (Str × D)}, RFs g F c fs gs → fs.length = gs.length
  | _, _, .nil => rfl
  | _, _, .cons _ q => by rw [List.length_cons, List.length_cons, RFs.len q]
/-- one more tracked thing, that no value names -/
theorem Ih.other (I : Ih g H F c cs) {p : Addr} {o : HO} (hp : H p = none) : Ih g (L2.upd H p o) F c cs := by
  refine ⟨fun a u e => ?_, I.len, I.nd, fun n a x h1 h2 => ?_⟩
  · have := I.sub a u e
    rw [upd_ne (ne_of_none this hp)]; exact this
  · have q := I.cell n a x h1 h2
    have hne : a ≠ p := fun e => by
      obtain ⟨u, hu⟩ := CR.tracked q
      rw [e, hp] at hu; cases hu
    exact CR.mono q (Le.refl F c) (fun u e => by rw [upd_ne hne]; exact e) (fun e => e)
theorem Xt.other {p : Addr} {o : HO} (hp : H p = none) : Xt H F c (L2.upd H p o) F c :=
  ⟨Le.refl F c, fun a u e _ => by rw [upd_ne (ne_of_none e hp)]; exact e, fun a u e => ⟨u, by rw [upd_ne (ne_of_none e hp)]; exact e⟩, fun a h n => absurd h n, fun _ _ _ f _ => f⟩
end
/-! ### fields -/
def FldOk (K : PySem.W.Frag) (mg : Str → Option Value) (x f : Str) : Prop := ∃ C, mg x = some (.ref C) ∧ Cls K C ∧ NoAttr K C f
def eFld (x f : Str) (mo : ME) : ME := fun env cs => (mo env cs).bind fun o cs1 => match insAt cs1 o with
  | some (_, y, fs) => if y = x then (match fs.lookup f with
    | some d => .ok d cs1
    | none => .stuck) else .stuck
  | none => .stuck
def sFst (x f : Str) (mo mv : ME) : MS := fun env cs => (mv env cs).toS env fun v cs1 => (mo env cs1).toS env fun o cs2 => match insAt cs2 o with
  | some (n, y, fs) => if y = x ∧ fs.length < 1000 then .nx env (cs2.set n (.ins y (putFD f v fs))) else .stuck
  | none => .stuck
section
variable {X : Cx} {W : WX} {x f m : Str} {pos apos tpos p : Pos} {o e : Expr} {es : List Expr} {mo mv me : ME} {ms : MA}
theorem xp_fld (hf : FldOk X.K X.mg x f) (ho : Xp X W o mo) (hb : attributeBase o f X.env (eval o X.env) = eval o X.env := by rfl) : Xp X W (.Attribute o f pos) (eFld x f mo) := by
  obtain ⟨to, po', so⟩ := ho
  refine ⟨_, pe_fld po' hb, fun σ env H F c cs Q re I po => ?_⟩
  refine so σ env H F c cs _ re I (PoE.cut po _ fun d cs1 _ H1 F1 c1 v x1 I1 rv po1 => ?_)
  split at po1
  · rename_i n y fs hi
    split at po1
    · rename_i hy
      subst hy
      split at po1
      · rename_i d2 hd
        obtain ⟨a, C, dx, vs, rfl, rfl, ha, hl, hm, h1, h2⟩ := insAt_at I1 rv hi
        obtain ⟨C', hm', hc, hn⟩ := hf
        rw [show X.mg y = some (.ref C) from hm] at hm'
        cases hm'
        obtain ⟨u, hu, ru⟩ := h2.look hd
        exact ⟨a, C, dx, vs, u, rfl, h1, hc, hn, hu, PoE.here I1 ru po1⟩
      · exact po1.elim
    · exact po1.elim
  · exact po1.elim
theorem sm_fst (hf : FldOk X.K X.mg x f) (ho : Xp X W o mo) (hv : Xp X W e mv) (hs : swapsWith e (some (.Attribute o f tpos)) pos.line X.env = pure false := by rfl) : Sm X W (.Assign [.Attribute o f tpos] e pos) (sFst x f mo mv) := by
  obtain ⟨to, po', so⟩ := ho
  obtain ⟨te, pe', se⟩ := hv
  refine ⟨_, ps_fld po' pe' hs, fun σ env H F c cs Dn re I po => ?_⟩
  refine se σ env H F c cs _ re I (PoS.cut re po _ fun d cs1 _ H1 F1 c1 v x1 I1 rv po1 => ?_)
  refine so σ env H1 F1 c1 cs1 _ (re.mono x1.le) I1 (PoS.cut (re.mono x1.le) po1 _ fun d2 cs2 _ H2 F2 c2 v2 x2 I2 rv2 po2 => ?_)
  split at po2
  · rename_i n y fs hi
    split at po2
    · rename_i hy
      obtain ⟨rfl, hlen⟩ := hy
      obtain ⟨a, C, dx, vs, rfl, rfl, ha, hl, hm, h1, h2⟩ := insAt_at I2 rv2 hi
      obtain ⟨C', hm', hc, hn⟩ := hf
      rw [show X.mg y = some (.ref C) from hm] at hm'
      cases hm'
      refine ⟨a, C, dx, vs, rfl, h1, hc, hn, by rw [h2.len]; exact hlen, ?_⟩
      have x3 := Xt.write I2 (o := .ins C dx (putF f v vs)) ha
      have hF := CR.free (I2.cell n a _ ha hl) rfl
      have I3 := I2.write ha hl rfl (x := .ins y (putFD f d fs)) (o := .ins C dx (putF f v vs)) ⟨hF, C, dx, _, hm, upd_same, h2.put (rv.mono x2.le)⟩
      exact po2 _ _ _ x3 I3 _ (((re.mono x1.le).mono x2.le).mono x3.le)
    · exact po2.elim
  · exact po2.elim
end
/-! ### methods -/
structure OwnM (P : Program) (w : World) (K : PySem.W.Frag) (mg : Str → Option Value) (base : Heap) (k : Nat) (x m : Str) (n : Nat) (mf : MF) : Prop where
  ex : ∃ C f fd ps, mg x = some (.ref C) ∧ Cls K C ∧ Meth K C m f ∧ FnG P w K mg base k f fd ps (spM ⟨P, w, K, mg⟩ mf (n + 1)) ∧ Binds K fd ps []
def tMethS (C : Addr) (m : Str) (sp : Sp) (E : L2.St → XK) (ta : TE) (t : TA) : TE := fun σ H Q => ta σ H fun x H1 => ∃ a dx fs, x = .ref a ∧ H1 a = some (.ins C dx fs) ∧ fs.lookup m = none ∧ t σ H1 fun vs H2 => sp (x :: vs) H2 Q (E σ)
section
variable {X : Cx} {k : Nat} {C f : Addr} {fd : FuncData} {ps : List Str} {sp : Sp} {E : L2.St → XK} {m x : Str} {p pos apos : Pos} {e o : Expr} {es : List Expr} {ta : TE} {t : TA} {pl : Sem Bool}
theorem pe_methG (he : PE X o ta) (c : Cls X.K C) (hm : Meth X.K C m f) (F : FnG X.prog X.w X.K X.mg X.base k f fd ps sp) (hG : X.A.guards = some []) (hr : Room k X.A) (hb : Binds X.K fd ps []) (hx : ∀ σ, PassesAt (L2.CX X.prog X.w) X σ (E σ)) (ha : PA X (e :: es) t)
    (hst : starEach (e :: es) X.env = (false, eval e X.env) :: starEach es X.env := by rfl) (hpl : (backTo pos (starEach es X.env)).any (·.1) = false := by rfl)
    (ht : eval (.Call (.Attribute o m apos) (e :: es) [] pos) X.env = (do
      let ov ← eval o X.env
      standAt apos.atName
      let (f, first) ← holding [ov] (getMethod ov m pl)
      callWith pos f first (backTo pos (starEach (e :: es) X.env)) (backToKw pos (keywordEach [] X.env))) := by rfl) :
    PE X (.Call (.Attribute o m apos) (e :: es) [] pos) (tMethS C m sp E ta t) := by
  refine ⟨fun pins s σ H Q I h => ?_⟩
  refine PySem.W.methodCall_KW (pl := pl) (thn (he.run pins s σ H _ I h) fun u s1 ⟨x, H1, I1, rx, a, dx, fs, ex, ea, l, q⟩ => ?_) ht
  subst ex
  obtain rfl : u = Value.ref a := rx
  refine getmeth_ok I1 ea c hm l ?_
  refine PySem.W.callWith_K (first := [.ref a]) (h₀ := X.base) I.ok.mod.kin hm.kp (thn (ha.run pos pins s1 σ H1 _ I1 q) fun us s2 ⟨vs, H2, I2, r, q2⟩ => ⟨I2.kIn, ?_⟩) hst hpl
  exact run_fnG (us := .ref a :: us) (vs := .ref a :: vs) F hG hr hb (hx σ) I2 (.cons rfl r) q2
theorem pe_methG0 (he : PE X o ta) (c : Cls X.K C) (hm : Meth X.K C m f) (F : FnG X.prog X.w X.K X.mg X.base k f fd ps sp) (hG : X.A.guards = some []) (hr : Room k X.A) (hb : Binds X.K fd ps []) (hx : ∀ σ, PassesAt (L2.CX X.prog X.w) X σ (E σ))
    (ht : eval (.Call (.Attribute o m apos) [] [] pos) X.env = (do
      let ov ← eval o X.env
      standAt apos.atName
      let (f, first) ← holding [ov] (getMethod ov m pl)
      callWith pos f first (backTo pos (starEach [] X.env)) (backToKw pos (keywordEach [] X.env))) := by rfl) :
    PE X (.Call (.Attribute o m apos) [] [] pos) (tMethS C m sp E ta tNil) := by
  refine ⟨fun pins s σ H Q I h => ?_⟩
  refine PySem.W.methodCall_KW (pl := pl) (thn (he.run pins s σ H _ I h) fun u s1 ⟨x, H1, I1, rx, a, dx, fs, ex, ea, l, q⟩ => ?_) ht
  subst ex
  obtain rfl : u = Value.ref a := rx
  refine getmeth_ok I1 ea c hm l ?_
  exact PySem.W.callWith_K0 (first := [.ref a]) I1.kIn hm.kp (run_fnG (us := [.ref a]) (vs := [.ref a]) F hG hr hb (hx σ) I1 (.cons rfl .nil) q)
/-! a new instance -/
def tMakeS (C : Addr) (sp : Sp) (E : L2.St → XK) (t : TA) : TE := fun σ H Q => t σ H fun vs H1 => ∀ x dx, H1 x = none → H1 dx = none → dx ≠ x →
  sp (.ref x :: vs) (L2.upd (L2.upd H1 dx (.own x)) x (.ins C dx [])) (fun v H2 => v = .non ∧ Q (.ref x) H2) (E σ)
theorem make_guards {A : Around} {C : Addr} {us : List Value} {kw : List (Str × Value)} (h : A.guards = some []) : (A.under (.builtin "type.__call__" ⟨.ref C :: us, kw⟩)).guards = some [] := by
  first | exact h | (simp [Around.under, Code.isGuard, guardIds, h])
theorem run_makeG {pins : List (Addr × Obj)} {σ : L2.St} {H : Hp} {s : Shared} {Q : VK} {us : List Value} {vs : List V} (M : Mk X.K C f) (F : FnG X.prog X.w X.K X.mg X.base k f fd ps sp) (hG : X.A.guards = some []) (hr : Room (k + 1) X.A) (hb : Binds X.K fd ps [])
    (hx : PassesAt (L2.CX X.prog X.w) X σ (E σ)) (I : Inv X pins σ H s) (r : Vals vs us)
    (h : ∀ x dx, H x = none → H dx = none → dx ≠ x → sp (.ref x :: vs) (L2.upd (L2.upd H dx (.own x)) x (.ins C dx [])) (fun v H2 => v = .non ∧ Q (.ref x) H2) (E σ)) :
    wpAny (model X.prog X.w) X.A (call (.ref C) us) (EP X pins σ Q) X.xe s := by
  have hq := h (s.heap.objs.size + 1) s.heap.objs.size (I.hok.fresh (Nat.le_succ _)) (I.hok.fresh (Nat.le_refl _)) (Nat.ne_of_lt (Nat.lt_succ_self _))
  have I2 := Inv.made (C := C) I
  have r2 : Vals (V.ref (s.heap.objs.size + 1) :: vs) (Value.ref (s.heap.objs.size + 1) :: us) := .cons rfl r
  have hl : (Value.ref (s.heap.objs.size + 1) :: us).length = ps.length := by rw [← r2.length]; exact F.len _ _ _ _ hq
  have b := hb _ (Value.ref (s.heap.objs.size + 1) :: us) I2.kIn (by rw [List.append_nil]; exact hl)
  rw [List.append_nil] at b
  refine wpAny_call (make_map (f := f) I.kIn M.makes M.init (beq_iff_eq.mp M.fn) (codeAny_mono (F.run _ X.stack _ _ ⟨Value.ref (s.heap.objs.size + 1) :: us, []⟩ (Value.ref (s.heap.objs.size + 1) :: us) _ _ (E σ) (make_guards hG) (hr.make C us [])
    (I2.env0.make C us []) b r2 hq) fun r s' hq' => ?_))
  cases r with
  | error e => exact hx pins _ _ e s' I2 hq'
  | ok fl =>
    cases fl with
    | ret u =>
      obtain ⟨v, H', I3, rv, ev, q3⟩ := I2.after hq'
      subst ev
      exact ⟨rv, ⟨V.ref (s.heap.objs.size + 1), H', I3, rfl, q3⟩⟩
    | next => exact False.elim hq'
    | brk => exact False.elim hq'
    | cont => exact False.elim hq'
theorem pe_makeG (M : Mk X.K C f) (F : FnG X.prog X.w X.K X.mg X.base k f fd ps sp) (hG : X.A.guards = some []) (hr : Room (k + 1) X.A) (hg : Gl X x) (hm : X.mg x = some (.ref C)) (hb : Binds X.K fd ps []) (hx : ∀ σ, PassesAt (L2.CX X.prog X.w) X σ (E σ))
    (ha : PA X (e :: es) t) (hdb : (x == ("__debug__" : Str)) = false := by decide) (he : starEach (e :: es) X.env = (false, eval e X.env) :: starEach es X.env := by rfl) (hpl : (backTo pos (starEach es X.env)).any (·.1) = false := by rfl) :
    PE X (.Call (.Name x p) (e :: es) [] pos) (tMakeS C sp E t) := by
  refine ⟨fun pins s σ H Q I h => ?_⟩
  refine wpAny_Call_Name_kw (ld_glob I hg hm ?_ hdb)
  refine PySem.W.callWith_K (h₀ := X.base) I.ok.mod.kin M.kp (thn (ha.run pos pins s σ H _ I h) fun us s1 ⟨vs, H1, I1, r, q⟩ => ⟨I1.kIn, ?_⟩) he hpl
  exact run_makeG M F hG hr hb (hx σ) I1 r q
end
def eMeth (x m : Str) (mf : MF) (mo : ME) (ms : MA) : ME := fun env cs => (mo env cs).bind fun o cs1 => match insAt cs1 o with
  | some (n, y, fs) => if y = x ∧ fs.lookup m = none then (ms env cs1).bind fun ds cs2 => mf (.loc n :: ds) cs2 else .stuck
  | none => .stuck
structure OwnI (P : Program) (w : World) (K : PySem.W.Frag) (mg : Str → Option Value) (base : Heap) (k : Nat) (x : Str) (n : Nat) (mf : MF) : Prop where
  ex : ∃ C f fd ps, mg x = some (.ref C) ∧ Mk K C f ∧ FnG P w K mg base k f fd ps (spM ⟨P, w, K, mg⟩ mf (n + 1)) ∧ Binds K fd ps []
def eMake (x : Str) (mf : MF) (ms : MA) : ME := fun env cs => (ms env cs).bind fun ds cs1 => (mf (.loc cs1.length :: ds) (cs1 ++ [.ins x []])).bind fun r cs2 => match r with
  | .non => .ok (.loc cs1.length) cs2
  | _ => .stuck
section
variable {X : Cx} {W : WX} {k n : Nat} {x m : Str} {pos apos p : Pos} {o e : Expr} {es : List Expr} {mo : ME} {ms : MA} {mf : MF} {pl : Sem Bool}
theorem xp_meth (om : OwnM X.prog X.w X.K X.mg X.base k x m n mf) (hG : X.A.guards = some []) (hr : Room k X.A) (tk : Takes X W) (ho : Xp X W o mo) (ha : Xa X W (e :: es) ms) (hlen : ∀ env cs ds cs1, ms env cs = .ok ds cs1 → ds.length = n)
    (hst : starEach (e :: es) X.env = (false, eval e X.env) :: starEach es X.env := by rfl) (hpl : (backTo pos (starEach es X.env)).any (·.1) = false := by rfl)
    (ht : eval (.Call (.Attribute o m apos) (e :: es) [] pos) X.env = (do
      let ov ← eval o X.env
      standAt apos.atName
      let (f, first) ← holding [ov] (getMethod ov m pl)
      callWith pos f first (backTo pos (starEach (e :: es) X.env)) (backToKw pos (keywordEach [] X.env))) := by rfl) :
    Xp X W (.Call (.Attribute o m apos) (e :: es) [] pos) (eMeth x m mf mo ms) := by
  obtain ⟨C, f, fd, ps, hm, hc, hme, F, hb⟩ := om
  obtain ⟨to, po', so⟩ := ho
  obtain ⟨t, pa, sa⟩ := ha
  refine ⟨_, pe_methG po' hc hme F hG hr hb (fun σ => passAt tk σ) pa hst hpl ht, fun σ env H F0 c cs Q re I po => ?_⟩
  refine so σ env H F0 c cs _ re I (PoE.cut po _ fun d cs1 _ H1 F1 c1 v x1 I1 rv po1 => ?_)
  split at po1
  · rename_i l y fs hi
    split at po1
    · rename_i hy
      obtain ⟨rfl, hn⟩ := hy
      obtain ⟨a, C', dx, vs, rfl, rfl, ha, hl, hm', h1, h2⟩ := insAt_at I1 rv hi
      rw [show X.mg y = some (.ref C') from hm'] at hm
      cases hm
      refine ⟨a, dx, vs, rfl, h1, h2.lookN hn, ?_⟩
      refine sa σ env H1 F1 c1 cs1 _ (re.mono x1.le) I1 (PoA.cut po1 _ fun ds cs2 h3 H2 F2 c2 us x2 I2 rus po2 => ?_)
      exact ⟨by rw [List.length_cons, rus.length, hlen _ _ _ _ h3], F2, c2, cs2, .loc l :: ds, I2, .cons (rv.mono x2.le) rus, po2⟩
    · exact po1.elim
  · exact po1.elim
theorem xp_meth0 (om : OwnM X.prog X.w X.K X.mg X.base k x m 0 mf) (hG : X.A.guards = some []) (hr : Room k X.A) (tk : Takes X W) (ho : Xp X W o mo)
    (ht : eval (.Call (.Attribute o m apos) [] [] pos) X.env = (do
      let ov ← eval o X.env
      standAt apos.atName
      let (f, first) ← holding [ov] (getMethod ov m pl)
      callWith pos f first (backTo pos (starEach [] X.env)) (backToKw pos (keywordEach [] X.env))) := by rfl) :
    Xp X W (.Call (.Attribute o m apos) [] [] pos) (eMeth x m mf mo aNil) := by
  obtain ⟨C, f, fd, ps, hm, hc, hme, F, hb⟩ := om
  obtain ⟨to, po', so⟩ := ho
  refine ⟨_, pe_methG0 po' hc hme F hG hr hb (fun σ => passAt tk σ) ht, fun σ env H F0 c cs Q re I po => ?_⟩
  refine so σ env H F0 c cs _ re I (PoE.cut po _ fun d cs1 _ H1 F1 c1 v x1 I1 rv po1 => ?_)
  split at po1
  · rename_i l y fs hi
    split at po1
    · rename_i hy
      obtain ⟨rfl, hn⟩ := hy
      obtain ⟨a, C', dx, vs, rfl, rfl, ha, hl, hm', h1, h2⟩ := insAt_at I1 rv hi
      rw [show X.mg y = some (.ref C') from hm'] at hm
      cases hm
      exact ⟨a, dx, vs, rfl, h1, h2.lookN hn, rfl, F1, c1, cs1, [.loc l], I1, .cons rv .nil, po1⟩
    · exact po1.elim
  · exact po1.elim
theorem xp_make (om : OwnI X.prog X.w X.K X.mg X.base k x n mf) (hG : X.A.guards = some []) (hr : Room (k + 1) X.A) (tk : Takes X W) (ha : Xa X W (e :: es) ms) (hg : Gl X x) (hlen : ∀ env cs ds cs1, ms env cs = .ok ds cs1 → ds.length = n) (hdb : (x == ("__debug__" : Str)) = false := by decide)
    (he : starEach (e :: es) X.env = (false, eval e X.env) :: starEach es X.env := by rfl) (hpl : (backTo pos (starEach es X.env)).any (·.1) = false := by rfl) : Xp X W (.Call (.Name x p) (e :: es) [] pos) (eMake x mf ms) := by
  obtain ⟨C, f, fd, ps, hm, M, F, hb⟩ := om
  obtain ⟨t, pa, sa⟩ := ha
  refine ⟨_, pe_makeG M F hG hr hg hm hb (fun σ => passAt tk σ) pa hdb he hpl, fun σ env H F0 c cs Q re I po => ?_⟩
  refine sa σ env H F0 c cs _ re I (PoA.cut po _ fun ds cs1 h3 H1 F1 c1 vs x1 I1 rv po1 => ?_)
  intro a dx h1 h2 ne
  have I2 := I1.other (o := .own a) h2
  have h1' : L2.upd H1 dx (.own a) a = none := by rw [upd_ne (Ne.symm ne)]; exact h1
  have I3 : Ih (gd X) (L2.upd (L2.upd H1 dx (.own a)) a (.ins C dx [])) F1 (c1 ++ [a]) (cs1 ++ [.ins x []]) := I2.push h1' ⟨I1.noF h1, C, dx, [], hm, upd_same, .nil⟩
  have x3 : Xt H1 F1 c1 (L2.upd (L2.upd H1 dx (.own a)) a (.ins C dx [])) F1 (c1 ++ [a]) := (Xt.other h2).trans (Xt.push I2 h1')
  have ra : RV (gd X) F1 (c1 ++ [a]) (.ref a) (.loc cs1.length) := .loc (by rw [← I1.len, List.getElem?_append_right (Nat.le_refl _)]; simp)
  refine ⟨by rw [List.length_cons, rv.length, hlen _ _ _ _ h3], F1, c1 ++ [a], cs1 ++ [.ins x []], .loc cs1.length :: ds, I3, .cons ra (rv.mono x3.le), ?_⟩
  have po2 := PoE.from x3 po1
  refine PoE.cut po2 _ fun d cs2 _ H2 F2 c2 v x4 I4 rv4 po4 => ?_
  split at po4
  · cases rv4
    exact ⟨rfl, PoE.here I4 (ra.mono x4.le) po4⟩
  · exact po4.elim
end
/-! ### isinstance, an own class -/
def InsF (K : PySem.W.Frag) (mg : Str → Option Value) (x : Str) : Prop := ∃ C, mg x = some (.ref C) ∧ C8.InsC K C ∧ ∀ u ∈ ["NoneType", "bool", "int", "str", "list", "tuple", "dict"], PySem.W.kitOne K (.type u) (.ref C) = some false
def isoD (x : Str) (cs : Cells) (d : D) : R := match insAt cs d with
  | some (_, y, _) => if y = x then .ok (.bl true) cs else .stuck
  | none => match tyC cs d with
    | some u => if u ∈ ["NoneType", "bool", "int", "str", "list", "tuple", "dict"] then .ok (.bl false) cs else .stuck
    | none => .stuck
theorem xp_iso {X : Cx} {W : WX} {pos p p2 : Pos} {a : Expr} {ma : ME} {x : Str} (h : InsF X.K X.mg x) (hgi : Gl X "isinstance") (hmi : X.mg "isinstance" = none) (hg : Gl X x) (ha : Xp X W a ma) (hdb : (x == ("__debug__" : Str)) = false := by decide)
    (he : starEach [a, .Name x p2] X.env = (false, eval a X.env) :: starEach [.Name x p2] X.env := by rfl) (he2 : starEach [.Name x p2] X.env = (false, eval (.Name x p2) X.env) :: starEach [] X.env := by rfl)
    (hpl : (backTo pos (starEach [.Name x p2] X.env)).any (·.1) = false := by rfl) : Xp X W (.Call (.Name "isinstance" p) [a, .Name x p2] [] pos) (op1 (isoD x) ma) := by
  obtain ⟨C, hm, ic, hk⟩ := h
  obtain ⟨ta, pa, sa⟩ := ha
  refine ⟨_, pe_callB call_isi hgi hmi PyProof.Rows.boot_isinstance (pa_cons pa (pa_cons (pe_glob (v := .ref C) hg hm rfl hdb) pa_nil he2) he) (by decide) (by decide) he hpl, fun σ env H F c cs Q re I po => ?_⟩
  refine sa σ env H F c cs _ re I (PoE.cut po _ fun d cs1 _ H1 F1 c1 v x1 I1 rv po1 => ?_)
  unfold isoD at po1
  split at po1
  · rename_i n y fs hi
    split at po1
    · rename_i hy
      subst hy
      obtain ⟨a, C', dx, vs, rfl, rfl, ha, hl, hm', h1, h2⟩ := insAt_at I1 rv hi
      rw [show X.mg y = some (.ref C') from hm'] at hm
      cases hm
      exact ⟨.ref a, .ref C, .ref C, .ref C, true, rfl, .own C, .base (.ins h1 ic.cl ic.ha ic.hn ic.htk ic.hm), ic.me, PoE.here I1 (.bl true) po1⟩
    · exact po1.elim
  · split at po1
    · rename_i u hu
      split at po1
      · rename_i hmem
        exact ⟨v, .ref C, .type u, .ref C, false, rfl, .own C, tyC_at I1 rv hu, hk u hmem, PoE.here I1 (.bl false) po1⟩
      · exact po1.elim
    · exact po1.elim
theorem kit_self {K : PySem.W.Frag} {C : Addr} : PySem.W.kitOne K (.ref C) (.ref C) = some true := by
  unfold PySem.W.kitOne
  rw [if_pos (beq_self_eq_true _)]
theorem kit_no {K : PySem.W.Frag} {C : Addr} {cd : ClassData} {u : String} (d : PySem.W.clsIn K C = some cd) (t : PySem.W.typeIn K (.ref C) = some (.type "type")) (s : PySem.W.subIn K (.type u) (.ref C) = some false) : PySem.W.kitOne K (.type u) (.ref C) = some false := by
  unfold PySem.W.kitOne PySem.W.kitCls
  rw [if_neg (by intro h; cases (beq_iff_eq.mp h))]
  simp only [d, t, s]
  rfl
theorem insF_mk {K : PySem.W.Frag} {mg : Str → Option Value} {x : Str} {C : Addr} {cd : ClassData} (hm : mg x = some (.ref C)) (cl : Cls K C) (ha : PySem.W.findIn K (.ref C) "__class__" = some (some (.builtin "object.__class__"))) (hn : PySem.W.specialIn K (.builtin "object.__class__") "__get__" = some (some (.builtin "getset_descriptor.__get__")))
    (ht : PySem.W.takesIn K (.builtin "object.__class__") = some true) (ho : PySem.W.mroIn K C (.type "object") = some true) (d : PySem.W.clsIn K C = some cd) (t : PySem.W.typeIn K (.ref C) = some (.type "type"))
    (s1 : PySem.W.subIn K (.type "NoneType") (.ref C) = some false) (s2 : PySem.W.subIn K (.type "bool") (.ref C) = some false) (s3 : PySem.W.subIn K (.type "int") (.ref C) = some false) (s4 : PySem.W.subIn K (.type "str") (.ref C) = some false)
    (s5 : PySem.W.subIn K (.type "list") (.ref C) = some false) (s6 : PySem.W.subIn K (.type "tuple") (.ref C) = some false) (s7 : PySem.W.subIn K (.type "dict") (.ref C) = some false) : InsF K mg x := by
  refine ⟨C, hm, ⟨cl, ha, hn, ht, ho, kit_self⟩, ?_⟩
  simp only [List.forall_mem_cons]
  exact ⟨kit_no d t s1, kit_no d t s2, kit_no d t s3, kit_no d t s4, kit_no d t s5, kit_no d t s6, kit_no d t s7, fun u h => by cases h⟩
section
variable {P : Program} {w : World} {K : PySem.W.Frag} {mg : Str → Option Value} {base : Heap} {k n : Nat} {x m : Str} {mf : MF} {C f : Addr} {fd : FuncData} {ps : List Str}
theorem ownM_mk (hm : mg x = some (.ref C)) (c : Cls K C) (me : Meth K C m f) (F : FnG P w K mg base k f fd ps (spM ⟨P, w, K, mg⟩ mf ps.length)) (hb : Binds K fd ps []) (hn : ps.length = n + 1) : OwnM P w K mg base k x m n mf := by
  rw [hn] at F
  exact ⟨C, f, fd, ps, hm, c, me, F, hb⟩
theorem ownI_mk (hm : mg x = some (.ref C)) (M : Mk K C f) (F : FnG P w K mg base k f fd ps (spM ⟨P, w, K, mg⟩ mf ps.length)) (hb : Binds K fd ps []) (hn : ps.length = n + 1) : OwnI P w K mg base k x n mf := by
  rw [hn] at F
  exact ⟨C, f, fd, ps, hm, M, F, hb⟩
end
end L3

/-! sets of texts and ints; isinstance with two classes; list(x); x += n -/
namespace L3
open PySem L2
section
variable {X : Cx} {W : WX} {x y f m : Str} {pos apos tpos p p2 p3 p4 : Pos} {a b o e : Expr} {es : List Expr} {mo mv me ma mb : ME} {ms : MA} {k : Nat}
/-! ### set() -/
def eSet0 : ME := fun _ cs => .ok (.loc cs.length) (cs ++ [.set []])
theorem xp_set0 (hg : Gl X "set") (hm : X.mg "set" = none) : Xp X W (.Call (.Name "set" p) [] [] pos) eSet0 := by
  refine ⟨_, pe_callTy0 cr_set0K hg hm (by decide +kernel), fun σ env H F c cs Q re I po => ?_⟩
  refine ⟨rfl, fun p hp => ?_⟩
  have I2 : Ih (gd X) (L2.upd H p (SetK X.prog X.w p (fun _ => false) 0)) F (c ++ [p]) (cs ++ [.set []]) := I.push hp ⟨I.noF hp, upd_same⟩
  exact po _ _ _ (Xt.push I hp) I2 _ (.loc (by rw [← I.len, List.getElem?_append_right (Nat.le_refl _)]; simp))
def setAt (cs : Cells) : D → Option (Nat × List Kd)
  | .loc n => match cs[n]? with
    | some (.set l) => some (n, l)
    | _ => none
  | _ => none
theorem setAt_at {g : Gd} {H F : Hp} {c : List Addr} {cs : Cells} (I : Ih g H F c cs) {v : V} {d : D} {n : Nat} {l : List Kd} (r : RV g F c v d) (h : setAt cs d = some (n, l)) :
    ∃ a, d = .loc n ∧ v = .ref a ∧ c[n]? = some a ∧ cs[n]? = some (.set l) ∧ H a = some (SetK g.P g.w a (fun k => (l.map kk).contains k) l.length) := by
  unfold setAt at h
  split at h
  · rename_i m
    split at h
    · rename_i l2 hl
      simp only [Option.some.injEq, Prod.mk.injEq] at h
      obtain ⟨rfl, rfl⟩ := h
      cases r with
      | loc ha =>
        obtain ⟨_, h1⟩ := I.cell _ _ _ ha hl
        exact ⟨_, rfl, rfl, ha, hl, h1⟩
    · cases h
  · cases h
theorem key_beq : ∀ a b : Key, (a == b) = decide (a = b)
  | .inl a, .inl b => by
    show (a == b) = _
    rw [Bool.eq_iff_iff, beq_iff_eq, decide_eq_true_eq]
    exact ⟨fun h => by rw [h], fun h => Sum.inl.inj h⟩
  | .inl _, .inr _ => by show false = _; simp
  | .inr _, .inl _ => by show false = _; simp
  | .inr a, .inr b => by
    show (a == b) = _
    rw [Bool.eq_iff_iff, beq_iff_eq, decide_eq_true_eq]
    exact ⟨fun h => by rw [h], fun h => Sum.inr.inj h⟩
def hasK (l : List Kd) (k : Kd) : Bool := l.any fun j => decide (j = k)
theorem kk_mem {l : List Kd} {k : Kd} : (l.map kk).contains (kk k) = hasK l k := by
  unfold hasK
  rw [List.contains_eq_any_beq, List.any_map]
  congr 1
  funext j
  show (kk k == kk j) = _
  rw [key_beq, kk_eq]
  exact decide_eq_decide.mpr eq_comm
theorem contains_key {l : List Key} {k : Key} : l.contains k = l.any fun j => decide (j = k) := by
  rw [List.contains_eq_any_beq]
  congr 1
  funext j
  rw [key_beq]
  exact decide_eq_decide.mpr eq_comm
def addK (l : List Kd) (k : Kd) : List Kd := if hasK l k = true then l else l ++ [k]
theorem addK_fn {l : List Kd} {k : Kd} : (fun j => (l.map kk).contains j || decide (j = kk k)) = fun j => ((addK l k).map kk).contains j := by
  funext j
  unfold addK
  split
  · rename_i h
    by_cases e : j = kk k
    · subst e; rw [kk_mem, h]; simp
    · simp [e]
  · rw [List.map_append, contains_key, contains_key, List.any_append]
    simp only [List.map_cons, List.map_nil, List.any_cons, List.any_nil, Bool.or_false]
    congr 1
    exact decide_eq_decide.mpr eq_comm
theorem addK_len {l : List Kd} {k : Kd} : (if (l.map kk).contains (kk k) = true then l.length else l.length + 1) = (addK l k).length := by
  unfold addK
  rw [kk_mem]
  by_cases h : hasK l k = true <;> simp [h]
/-! ### s.add(e) -/
def eSAdd (mo me : ME) : ME := fun env cs => (mo env cs).bind fun o cs1 => match setAt cs1 o with
  | some _ => (me env cs1).bind fun v cs2 => match setAt cs2 o, kdOf v with
    | some (n, l), some k => if l.length + 1 < scanBound then .ok .non (cs2.set n (.set (addK l k))) else .stuck
    | _, _ => .stuck
  | none => .stuck
theorem xp_sadd (ho : Xp X W o mo) (he : Xp X W e me)
    (hbase : attributeBase o "add" X.env (eval o X.env) = eval o X.env := by rfl)
    (hfew : ((backTo pos (starEach [e] X.env)).all (fun x => !x.1) && (backToKw pos (keywordEach [] X.env)).all (fun x => x.1.isSome)
      && decide ([e].length + ([] : List Keyword).length + (if ([] : List Keyword).isEmpty then 0 else 1) < 30)) = true := by rfl)
    (hline : (apos.endLine == pos.line) = true := by rfl) (hs : starEach [e] X.env = (false, eval e X.env) :: starEach [] X.env := by rfl) (hplain : (backTo pos (starEach [] X.env)).any (·.1) = false := by rfl) :
    Xp X W (.Call (.Attribute o "add" apos) [e] [] pos) (eSAdd mo me) := by
  obtain ⟨to, po', so⟩ := ho
  obtain ⟨te, pe', se⟩ := he
  refine ⟨_, pe_saddK po' (pa_cons pe' pa_nil hs) hbase hfew hline hs hplain, fun σ env H F c cs Q re I po => ?_⟩
  refine so σ env H F c cs _ re I (PoE.cut po _ fun d cs1 _ H1 F1 c1 v x1 I1 rv po1 => ?_)
  split at po1
  · rename_i q hq
    obtain ⟨n, l⟩ := q
    obtain ⟨a, rfl, rfl, ha, hl, h1⟩ := setAt_at I1 rv hq
    refine ⟨⟨a, _, _, rfl, h1⟩, se σ env H1 F1 c1 cs1 _ (re.mono x1.le) I1 (PoE.cut po1 _ fun d2 cs2 _ H2 F2 c2 v2 x2 I2 rv2 po2 => ?_)⟩
    split at po2
    · rename_i n2 l2 kd h2 hk
      split at po2
      · rename_i hz
        obtain ⟨a2, e2, e3, ha2, hl2, h3⟩ := setAt_at I2 (rv.mono x2.le) h2
        cases e2; cases e3
        have ev := kdOf_rv rv2 hk
        subst ev
        refine ⟨a, kk kd, _, _, rfl, rfl, h3, hz, ?_⟩
        rw [addK_fn, addK_len]
        have x4 := Xt.write I2 (o := SetK X.prog X.w a (fun j => ((addK l2 kd).map kk).contains j) (addK l2 kd).length) ha2
        have hF := CR.free (I2.cell n a _ ha2 hl2) rfl
        exact po2 _ _ _ x4 (I2.write ha2 hl2 rfl (x := .set (addK l2 kd)) ⟨hF, upd_same⟩) .non .non
      · exact po2.elim
    · exact po2.elim
  · exact po1.elim
/-! ### e in s -/
def inSX (neg : Bool) (cs : Cells) (d s : D) : R := match setAt cs s, kdOf d with
  | some (_, l), some k => .ok (.bl (if neg then !hasK l k else hasK l k)) cs
  | _, _ => .stuck
theorem o2_inS {g : Gd} {neg : Bool} : O2 g (rSInK g.P g.w neg) (inSX neg) := by
  intro W H F c cs x y d e Q I rx ry po
  unfold inSX at po
  split at po
  · rename_i n l k h1 h2
    obtain ⟨a, rfl, rfl, ha, hl, h3⟩ := setAt_at I ry h1
    have ev := kdOf_rv rx h2
    subst ev
    refine ⟨kk k, a, _, _, rfl, rfl, h3, ?_⟩
    rw [kk_mem]
    exact PoE.here I (.bl _) po
  · exact po.elim
theorem xp_inS (ha : Xp X W a ma) (hb : Xp X W b mb) (hm : behindInMarks .In b = false) : Xp X W (.Compare a [.In] [b] pos) (op2 (inSX false) ma mb) := xp_cmp or_sinK o2_inS ha hb hm
theorem xt_inS (ha : Xp X W a ma) (hb : Xp X W b mb) (hm : behindInMarks .In b = false) : Xt1 X W (.Compare a [.In] [b] pos) (op2 (inSX false) ma mb) := xt_cmp or_sinK o2_inS ha hb hm
/-! ### isinstance(e, (T, U)) -/
def isiD2 (t u : String) (cs : Cells) (d : D) : R := match tyC cs d with
  | some v => match kitB v t, kitB v u with
    | some b, some b2 => .ok (.bl (b || b2)) cs
    | _, _ => .stuck
  | none => .stuck
theorem xp_isi2 {t u : String} {tk : Nat} (hgi : Gl X "isinstance") (hmi : X.mg "isinstance" = none) (hg : Gl X x) (hm : X.mg x = none) (hv : bootBuiltins x = some (.type t)) (hg2 : Gl X y) (hm2 : X.mg y = none) (hv2 : bootBuiltins y = some (.type u)) (ha : Xp X W a ma)
    (hn : x ≠ "__name__" := by decide) (hdb : (x == ("__debug__" : Str)) = false := by decide) (hn2 : y ≠ "__name__" := by decide) (hdb2 : (y == ("__debug__" : Str)) = false := by decide)
    (ht1 : starEach [.Name x p2, .Name y p3] X.env = (false, eval (.Name x p2) X.env) :: starEach [.Name y p3] X.env := by rfl) (ht2 : starEach [.Name y p3] X.env = (false, eval (.Name y p3) X.env) :: starEach [] X.env := by rfl)
    (he : starEach [a, .Tuple [.Name x p2, .Name y p3] tk p4] X.env = (false, eval a X.env) :: starEach [.Tuple [.Name x p2, .Name y p3] tk p4] X.env := by rfl) (he2 : starEach [.Tuple [.Name x p2, .Name y p3] tk p4] X.env = (false, eval (.Tuple [.Name x p2, .Name y p3] tk p4) X.env) :: starEach [] X.env := by rfl)
    (hpl : (backTo pos (starEach [.Tuple [.Name x p2, .Name y p3] tk p4] X.env)).any (·.1) = false := by rfl) : Xp X W (.Call (.Name "isinstance" p) [a, .Tuple [.Name x p2, .Name y p3] tk p4] [] pos) (op1 (isiD2 t u) ma) := by
  obtain ⟨ta, pa, sa⟩ := ha
  refine ⟨_, pe_callB call_isiT hgi hmi PyProof.Rows.boot_isinstance (pa_cons pa (pa_cons (pe_tup (pa_cons (pe_blt hg hm hv hn hdb) (pa_cons (pe_blt hg2 hm2 hv2 hn2 hdb2) pa_nil ht2) ht1)) pa_nil he2) he) (by decide) (by decide) he hpl, fun σ env H F c cs Q re I po => ?_⟩
  refine sa σ env H F c cs _ re I (PoE.cut po _ fun d cs1 _ H1 F1 c1 v x1 I1 rv po1 => ?_)
  refine ⟨by rw [sizeLine_eq]; simp, fun q hq => ?_⟩
  unfold isiD2 at po1
  split at po1
  · rename_i w hw
    split at po1
    · rename_i b1 b2 h1 h2
      have I2 := I1.other (o := .tup [.ty t, .ty u]) hq
      refine ⟨v, q, [.ty t, .ty u], .type w, [.type t, .type u], b1 || b2, rfl, upd_same, .cons (.ty t) (.cons (.ty u) .nil), tyC_at I2 rv hw, ?_, ?_⟩
      · refine kitAny_cons (kit_ty h1) (fun e => ?_) (fun e => by rw [e]; rfl)
        rw [e, Bool.false_or]
        exact kitAny_cons (kit_ty h2) (fun e2 => by rw [e2]; exact kitAny_nil) (fun e2 => e2)
      · exact PoE.here I2 (.bl (b1 || b2)) (PoE.from (Xt.other hq) po1)
    · exact po1.elim
  · exact po1.elim
/-! ### list(e) -/
def eListOf (md : Bool) (ma : ME) : ME := fun env cs => (ma env cs).bind fun d cs1 => match seqOf cs1 d with
  | some ds => mkL md cs1 ds
  | none => .stuck
theorem xp_listOf (md : Bool) (hg : Gl X "list") (hm : X.mg "list" = none) (ha : Xp X W a ma) (hs : starEach [a] X.env = (false, eval a X.env) :: starEach [] X.env := by rfl) (hp : (backTo pos (starEach ([] : List Expr) X.env)).any (·.1) = false := by rfl) :
    Xp X W (.Call (.Name "list" p) [a] [] pos) (eListOf md ma) := by
  obtain ⟨ta, pa, sa⟩ := ha
  refine ⟨_, pe_callTy call_list_of hg hm PyProof.Rows.Boot.«list» (pa_cons pa pa_nil hs) (by decide) (by decide) hs hp, fun σ env H F c cs Q re I po => ?_⟩
  refine sa σ env H F c cs _ re I (PoE.cut po _ fun d cs1 _ H1 F1 c1 v x1 I1 rv po1 => ?_)
  split at po1
  · rename_i ds hds
    obtain ⟨q, vs, rfl, h1, h2⟩ := seqOf_at I1 rv hds
    exact ⟨q, vs, rfl, h1, fun l hl => mkL_ok I1 h2 po1 hl⟩
  · exact po1.elim
end
end L3

namespace PySem
section
variable {prog : Program} {w : World} {A : Around} {E : Value → Shared → Prop}
theorem drawL {it t : Addr} {items : Array Value} (hne : t ≠ it) : ∀ (n i : Nat) (s : Shared) (Q : List Value → Shared → Prop), s.heap.IsListIter it t i → s.heap.IsList t items → i + n ≤ items.size →
    (∀ h' : Heap, h'.IsListIter it t (i + n) → Heap.SameBut it s.heap h' → Q ((items.toList.drop i).take n) { s with heap := h' }) → wpAny (model prog w) A (draw (.ref it) n) Q E s
  | 0, i, s, Q, hit, _, _, hQ => wpAny_pure (by simpa using hQ s.heap hit (Heap.SameBut.refl ..))
  | n + 1, i, s, Q, hit, ht, hle, hQ => by
    have hlt : i < items.size := by omega
    show wpAny _ _ (pyNext (.ref it) >>= _) Q E s
    refine wpAny_bind (wpAny_pyNext_list_item hit ht (x := items[i]) (by simp [hlt]) fun h₁ hit₁ hs₁ => ?_)
    refine wpAny_bind (wpAny_holding (drawL hne n (i + 1) _ _ hit₁ (ht.extBut hs₁.extBut hne) (by omega) fun h₂ hit₂ hs₂ => wpAny_pure ?_))
    have hd : items.toList.drop i = items[i] :: items.toList.drop (i + 1) := by simp [List.drop_eq_getElem_cons, hlt]
    have q := hQ h₂ (by rw [show i + (n + 1) = i + 1 + n by omega]; exact hit₂) (hs₁.trans hs₂)
    rw [hd, List.take_succ_cons] at q
    exact q
variable {s : Shared}
theorem unpackL {t : Addr} {items : Array Value} {targets : List (Bool × (Value → Sem Unit))} {Q : Unit → Shared → Prop} (hh : A.handled = none) (ht : s.heap.IsList t items)
    (hn : targets.length = items.size) (hstar : targets.findIdx? (·.1) = none)
    (h : ∀ h' : Heap, Heap.ExtBut s.heap.objs.size s.heap h' → wpAny (model prog w) A (assignInOrder (targets.map (·.2)) items.toList) Q E { s with heap := h' }) :
    wpAny (model prog w) A (unpack (.ref t) targets) Q E s := by
  have hlt : t ≠ s.heap.objs.size := by obtain ⟨o, ho, _⟩ := ht; exact Nat.ne_of_lt (Heap.lt_size ho)
  unfold unpack
  rw [hn, hstar]
  refine wpAny_bind (wpAny_holding ?_)
  unfold unpackItems
  refine wpAny_bind ?_
  unfold notIterableAtAll
  refine wpAny_bind (wpAny_specialOf ht.typeIs slot_list_iter.lookup (wpAny_pure ?_))
  simp only [Bool.false_eq_true, if_false]
  refine wpAny_bind (wpAny_holding (wpAny_pyIter_list ht ?_))
  refine wpAny_bind (wpAny_holding (drawL hlt items.size 0 _ _ ⟨_, Heap.get?_push_size _ rfl, rfl, rfl⟩ (ht.push _) (by omega) fun h₁ hit₁ hs₁ => ?_))
  rw [List.drop_zero, List.take_of_length_le (by simp), if_neg (by simp)]
  have ht₁ : h₁.IsList t items := (ht.push _).extBut hs₁.extBut hlt
  refine wpAny_bind (wpAny_holding (wpAny_pyNext_list_end hh hit₁ ht₁ (by simp) fun h₂ he₂ => ?_))
  simp only [Option.isSome_none, Bool.false_eq_true, if_false]
  exact wpAny_pure (h h₂ fun b o hb e => he₂ b o hb (hs₁.extBut b o hb (Heap.get?_push_of_some _ e)))
end
end PySem
namespace L3
open PySem L2
section
variable {X : Cx} {W : WX} {x y f m : Str} {pos pos' apos tpos p p2 p3 p4 : Pos} {a b o e : Expr} {es : List Expr} {mo mv me ma mb : ME} {ms : MA} {k : Nat}
/-! ### (a, b, ..) = a list of that length -/
def gLst (K : PySem.W.Frag) (n : Nat) (t : TGs) : TG := fun v σ H Q => ∃ a xs, v = .ref a ∧ SqL K H a xs ∧ xs.length = n ∧ t xs σ H Q
theorem pg_lstT {es : List Expr} {k : Nat} {t : TGs} {n : Nat} (hc : X.calm = true) (h : PGs X es t)
    (hn : (assignEach es X.env).length = n := by rfl) (hst : (assignEach es X.env).findIdx? (·.1) = none := by rfl) : PG X (.Tuple es k pos) (gLst X.K n t) := by
  refine ⟨fun pins s σ H v u Q I r hw => ?_⟩
  obtain ⟨a, xs, e1, hq, hl, hw⟩ := hw
  subst e1
  cases r
  obtain ⟨its, rv, pl, hz⟩ := I.list hq
  rw [PyProof.Rows.assign_Tuple]
  refine wpAny_bind (wpAny_standAt (unpackL (I.ok.hd hc) pl.isList (by simp [hn, ← hl, rv.length]) hst fun h' hx => ?_))
  have I1 : Inv X pins σ H { s with heap := h' } := I.kept (t' := s.toks) fun b o e => hx b o (Nat.ne_of_lt (Heap.lt_size e)) e
  exact h.run pins _ σ H xs _ Q I1 (by simpa using rv) hw
theorem pg_or {tg : Expr} {g g2 : TG} (h : PG X tg g) (h2 : PG X tg g2) : PG X tg (fun v σ H Q => g v σ H Q ∨ g2 v σ H Q) := ⟨fun pins s σ H v u Q I r hw => hw.elim (h.run pins s σ H v u Q I r) (h2.run pins s σ H v u Q I r)⟩
def tgSeq (is : List Nat) (d : D) (env : L3.Env) : Option L3.Env := match d with
  | .tup ds => tgTs is ds env
  | .lst ds => tgTs is ds env
  | _ => none
theorem tgt_seq {is own : List Nat} (hc : X.calm = true) (h : Tgts X es is own) (hn : (assignEach es X.env).length = is.length := by rfl) (hst : (assignEach es X.env).findIdx? (·.1) = none := by rfl) : Tgt X (.Tuple es k pos) (tgSeq is) own := by
  obtain ⟨t, p, q⟩ := h
  refine ⟨_, pg_or (pg_tup hc p hn hst) (pg_lstT hc p hn hst), fun σ env H F c cs v d env1 Q re I rv h k => ?_⟩
  unfold tgSeq at h
  split at h
  · rename_i ds
    cases rv with
    | @tup a vs _ h1 h2 => exact .inl ⟨a, vs, rfl, SqT.up I.sub h1, by rw [h2.length, tgts_len h], q σ env H F c cs vs ds env1 Q re I h2 h k⟩
  · rename_i ds
    cases rv with
    | @lst a vs _ h1 h2 => exact .inr ⟨a, vs, rfl, .inl (.inl (I.sub _ _ h1)), by rw [h2.length, tgts_len h], q σ env H F c cs vs ds env1 Q re I h2 h k⟩
  · cases h
/-! ### enumerate -/
def enumD (ds : List D) : List D := (List.range ds.length).map fun i => .tup [.int (i : Nat), (ds[i]?).getD .non]
theorem itk_enum {g : Gd} {a : Addr} {d : D} {ds : List D} (hd : ∀ l, d ≠ .tup l) : Itk g (Ite g.K a) (enumD ds) fun H F c cs => RV g F c (.ref a) d ∧ seqOf cs d = some ds := by
  have K := itk_list (g := g) (a := a) (items := ds) hd
  have len : (enumD ds).length = ds.length := by simp [enumD]
  refine ⟨fun i H F c cs I ok hi => K.go i H F c cs I ok (by rw [← len]; exact hi), fun i H F c cs d' I ok hd' v H' y => ?_, fun i H F c cs I ok hi => K.stop i H F c cs I ok (by rw [← len]; exact hi)⟩
  obtain ⟨T, z, rfl, hT, rfl, hz⟩ := y
  have hi : i < ds.length := by rw [← len]; exact (List.getElem?_eq_some_iff.mp hd').1
  obtain ⟨xs, x1, h1, h2⟩ := K.go i H F c cs I ok hi
  have hx := hz xs h1
  obtain ⟨F', xt, I', rv⟩ := K.yld i H F c cs ds[i] I ok (List.getElem?_eq_getElem hi) z H ⟨rfl, hz⟩
  have e : d' = .tup [.int (i : Nat), ds[i]] := by
    unfold enumD at hd'
    rw [List.getElem?_map, List.getElem?_range hi] at hd'
    simp only [Option.map_some, Option.some.injEq] at hd'
    rw [← hd', List.getElem?_eq_getElem hi]; rfl
  subst e
  have x2 := Xt.still I' (o := .tup [.int (i : Nat), z]) hT
  refine ⟨_, xt.trans x2, I'.still hT, .tup (.of upd_same) (.cons (.int _) (.cons (rv.mono x2.le) .nil))⟩
def wEnum (m : ME) : MW := fun env cs => (m env cs).toW fun d cs1 => match d with
  | .tup _ => .stuck
  | d => match seqOf cs1 d with
    | some ds => .ok (enumD ds) (fun cs2 => seqOf cs2 d = some ds) cs1
    | none => .stuck
theorem wk_enum {kk : Nat} (hg : Gl X "enumerate") (hm : X.mg "enumerate" = none) (he : Xp X W e me) (hs : starEach [e] X.env = [(false, eval e X.env)] := by rfl) : Wk X W (.Tuple es kk tpos) (.Call (.Name "enumerate" p) [e] [] pos) (wEnum me) := by
  obtain ⟨te, pe, se⟩ := he
  refine ⟨_, pi_enum hg hm (pa_cons pe pa_nil hs) hs, fun σ env H F c cs R re I po => ?_⟩
  refine se σ env H F c cs _ re I (PoW.cut po _ fun d cs2 h2 H1 F1 c1 v x1 I1 rv po1 => ?_)
  split at po1
  · exact po1.elim
  · rename_i nt
    split at po1
    · rename_i ds hs'
      obtain ⟨p, rfl⟩ := seqOf_ref I1 rv hs'
      have K := itk_enum (g := gd X) (a := p) (ds := ds) (d := d) nt
      have KL := itk_list (g := gd X) (a := p) (items := ds) (d := d) nt
      have hq : ∃ xs, SqL X.K H1 p xs := by
        by_cases hz : 0 < ds.length
        · obtain ⟨xs, _, h1, _⟩ := KL.go 0 H1 F1 c1 cs2 I1 ⟨rv, hs'⟩ hz
          exact ⟨xs, h1⟩
        · obtain ⟨xs, h1, _⟩ := KL.stop 0 H1 F1 c1 cs2 I1 ⟨rv, hs'⟩ (by omega)
          exact ⟨xs, h1⟩
      obtain ⟨xs, hq⟩ := hq
      exact ⟨p, xs, rfl, hq, po1 _ _ _ (Xt.refl _ _ _) I1 _ (fun F c => RV (gd X) F c (.ref p) d) K (fun _ _ _ _ e k => k.mono e) rv⟩
    · exact po1.elim
/-! ### x += n -/
def sAugI (i : Nat) (m : ME) : MS := fun env cs => match env[i]? with
  | some (some (.int a)) => (m env cs).toS env fun d cs1 => match d with
    | .int b => .nx (env.set i (some (.int (a + b)))) cs1
    | _ => .stuck
  | _ => .stuck
theorem sm_augI {i : Nat} (hN : X.N.Nodup) (hi : X.N[i]? = some x) (hx : Loc X.env.scope x) (he : Xp X W e me) (hf : X.fn x = true ∨ X.env.scope.names.lookup x = some .local := by first | exact .inl rfl | exact .inr rfl | assumption) : Sm X W (.AugAssign (.Name x pos') .Add e pos) (sAugI i me) := by
  obtain ⟨te, pe, se⟩ := he
  refine ⟨_, ps_aug hN hi hx pe ip_add hf, fun σ env H F c cs Dn re I po => ?_⟩
  unfold sAugI at po
  split at po
  · rename_i a ha
    obtain ⟨v, hv, rv⟩ := re.2 i _ ha
    cases rv
    refine ⟨_, hv, se σ env H F c cs _ re I (PoS.cut re po _ fun d cs1 _ H1 F1 c1 v x1 I1 rv po1 => ?_)⟩
    split at po1
    · cases rv
      exact ⟨_, _, rfl, rfl, po1 _ _ _ (Xt.refl _ _ _) I1 _ ((re.mono x1.le).set i (.int _))⟩
    · exact po1.elim
  · exact po.elim
/-! ### what is never reached -/
def sStuck : MS := fun _ _ => .stuck
def eStuck : ME := fun _ _ => .stuck
theorem sm_stuck {st : Stmt} : Sm X W st sStuck := ⟨fun _ _ _ => False, ⟨fun _ _ _ _ _ _ h => h.elim⟩, fun _ _ _ _ _ _ _ _ _ po => po.elim⟩
theorem xp_stuck : Xp X W e eStuck := ⟨fun _ _ _ => False, ⟨fun _ _ _ _ _ _ h => h.elim⟩, fun _ _ _ _ _ _ _ _ _ po => po.elim⟩
/-! ### xs.remove(e), texts -/
def eqs (k : Str) (v : Value) : Bool := match v with
  | .str z _ => z.cps.toList == k.cps.toList
  | _ => false
theorem eqs_gives {k : Str} {t : Tok} : ∀ {us : List Value} {ns : List Str}, Vals (ns.map V.str) us → ∀ y ∈ us, MeetsSeq.EqGives y (.str k t) (eqs k y)
  | _, [], .nil => fun y hy => by cases hy
  | _, n :: ns, .cons r h => fun y hy => by
    rcases List.mem_cons.mp hy with e | e
    · subst e
      obtain ⟨t', rfl⟩ := r
      exact SeqRoads2.EqGives.str n k t' t
    · exact eqs_gives h y e
theorem erase_mapS : ∀ (l : List Str) (j : Nat), (l.map V.str).eraseIdx j = (l.eraseIdx j).map V.str
  | [], j => by simp
  | a :: r, 0 => by simp
  | a :: r, j + 1 => by
    have ih := erase_mapS r j
    simp [ih]
def rRemS : V → List V → Hp → VK → Prop := fun x xs H Q => ∃ (l : Addr) (ns : List Str) (k : Str) (j : Nat), x = .ref l ∧ xs = [.str k] ∧ H l = some (.lst (ns.map V.str)) ∧ ns[j]? = some k ∧ (∀ m : Nat, m < j → ns[m]? ≠ some k) ∧ Q .non (L2.upd H l (.lst ((ns.eraseIdx j).map V.str)))
theorem mt_removeS : MtM X "list.remove" rRemS := by
  intro pins s σ H x xs v us Q I rx rxs h
  obtain ⟨l, ns, k, j, rfl, rfl, hH, hj, hno, q⟩ := h
  cases rx
  obtain ⟨u, rfl, ru⟩ := rxs.one
  obtain ⟨t, rfl⟩ := ru
  obtain ⟨z, its, n, r, hl, e⟩ := I.lstM hH
  rw [List.length_map] at hl z
  have hjn : j < ns.length := (List.getElem?_eq_some_iff.mp hj).1
  have hjl : j < its.toArray.size := by rw [List.size_toArray]; omega
  have at_ : ∀ (i : Nat) (hi : i < its.toArray.size) (n : Str), ns[i]? = some n → ∃ t', its.toArray[i] = .str n t' := by
    intro i hi n hn
    obtain ⟨u, h1, h2⟩ := r.get (i := i) (x := V.str n) (by rw [List.getElem?_map, hn]; rfl)
    obtain ⟨t', rfl⟩ := h2
    obtain ⟨h3, h4⟩ := List.getElem?_eq_some_iff.mp h1
    exact ⟨t', by simpa using h4⟩
  refine call_meets PySem.F.slot_list_remove ⟨_, e, rfl⟩ PySem.F.entry_list_remove (PySem.F.args_list_remove_2 _ _)
    (MeetsSeq.list_remove l its.toArray n (.str k t) (eqs k) (fun y hy => eqs_gives r y (by simpa using hy)) j hjl ?_ ?_ (by rw [List.size_toArray]; omega)) ⟨e, ?_⟩
  · obtain ⟨tj, e1⟩ := at_ j hjl k hj
    rw [e1]
    exact beq_self_eq_true k.cps.toList
  · intro m hm hmj
    have hmn : m < ns.length := by omega
    obtain ⟨tm, e1⟩ := at_ m hm ns[m] (List.getElem?_eq_getElem hmn)
    rw [e1]
    refine beq_eq_false_iff_ne.mpr fun e2 => hno m hmj ?_
    rw [List.getElem?_eq_getElem hmn]
    congr 1
    have e3 : (ns[m]).cps.toList = k.cps.toList := e2
    generalize ns[m] = z1 at e3
    cases z1; cases k
    simpa [Array.toList_inj] using e3
  · have rr := r.eraseIdx j
    rw [erase_mapS] at rr
    refine ⟨.non, _, I.lset (its' := its.eraseIdx j) (t' := s.toks) hH e ?_ rr ?_, rfl, q⟩
    · show its.toArray.eraseIdxIfInBounds j = (its.eraseIdx j).toArray
      rw [List.eraseIdxIfInBounds_toArray]
    · rw [List.length_map]
      have := List.length_eraseIdx_le ns j
      omega
def remL (cs : Cells) (o v : D) : Option Cells := match o, v with
  | .loc n, .str k => match cs[n]? with
    | some (.lst l) => match strsL l with
      | some ls => if k ∈ ls then some (cs.set n (.lst (l.eraseIdx (ls.idxOf k)))) else none
      | none => none
    | _ => none
  | _, _ => none
def eRem (mo me : ME) : ME := fun env cs => (mo env cs).bind fun o cs1 => if isLc cs1 o = true then (me env cs1).bind fun v cs2 => match remL cs2 o v with
    | some cs3 => .ok .non cs3
    | none => .stuck
  else .stuck
theorem RVs.erase {g : Gd} {F : Hp} {c : List Addr} : ∀ {vs : List V} {ds : List D}, RVs g F c vs ds → ∀ j : Nat, RVs g F c (vs.eraseIdx j) (ds.eraseIdx j)
  | _, _, .nil, j => by simp; exact .nil
  | _, _, .cons a b, 0 => by simpa using b
  | _, _, .cons a b, j + 1 => by simp only [List.eraseIdx_cons_succ]; exact .cons a (RVs.erase b j)
theorem mk_inj {a b : List Nat} (h : mk a = mk b) : a = b := by
  have := congrArg (fun z : Str => z.cps.toList) h
  simpa using this
theorem xp_rem (ho : Xp X W o mo) (he : Xp X W e me)
    (hbase : attributeBase o "remove" X.env (eval o X.env) = eval o X.env := by rfl)
    (hfew : ((backTo pos (starEach [e] X.env)).all (fun x => !x.1) && (backToKw pos (keywordEach [] X.env)).all (fun x => x.1.isSome)
      && decide ([e].length + ([] : List Keyword).length + (if ([] : List Keyword).isEmpty then 0 else 1) < 30)) = true := by rfl)
    (hline : (apos.endLine == pos.line) = true := by rfl) (hs : starEach [e] X.env = (false, eval e X.env) :: starEach [] X.env := by rfl) (hplain : (backTo pos (starEach [] X.env)).any (·.1) = false := by rfl) :
    Xp X W (.Call (.Attribute o "remove" apos) [e] [] pos) (eRem mo me) := by
  obtain ⟨to, po', so⟩ := ho
  obtain ⟨te, pe', se⟩ := he
  refine ⟨_, pe_bm F.plainAttrs_list F.slot_list_remove F.type_list_remove mt_removeS po' (pa_cons pe' pa_nil hs) hbase hfew hline hs hplain, fun σ env H F c cs Q re I po => ?_⟩
  refine so σ env H F c cs _ re I (PoE.cut po _ fun d cs1 _ H1 F1 c1 v x1 I1 rv po1 => ?_)
  split at po1
  · rename_i hc
    obtain ⟨n, a, l, vs, rfl, rfl, ha, hl, h1, h2⟩ := isLc_at I1 rv hc
    refine ⟨.inl ⟨rfl, vs, .inl (.inl h1)⟩, se σ env H1 F1 c1 cs1 _ (re.mono x1.le) I1 (PoE.cut po1 _ fun d2 cs2 _ H2 F2 c2 v2 x2 I2 rv2 po2 => ?_)⟩
    split at po2
    · rename_i cs3 h3
      cases d2 with
      | str k =>
        simp only [remL] at h3
        split at h3
        · rename_i l2 hl2
          split at h3
          · rename_i ls hls
            split at h3
            · rename_i hk
              simp only [Option.some.injEq] at h3
              subst h3
              cases rv2
              have ha2 := x2.le.loc _ _ ha
              obtain ⟨f, vs2, hH, r⟩ := I2.cell _ _ _ ha2 hl2
              have ev := strsL_rv r hls
              subst ev
              have hix : ls.idxOf k < ls.length := List.idxOf_lt_length_of_mem hk
              refine ⟨a, ls.map mk, mk k, ls.idxOf k, rfl, rfl, hH, ?_, fun m hm => ?_, ?_⟩
              · rw [List.getElem?_map, List.getElem?_eq_getElem hix, Option.map_some, List.getElem_idxOf hix]
              · have hml : m < ls.length := Nat.lt_trans hm hix
                rw [List.getElem?_map, List.getElem?_eq_getElem hml, Option.map_some]
                intro e
                have e2 := mk_inj (Option.some.inj e)
                have e3 := List.not_of_lt_findIdx (p := (· == k)) (xs := ls) (i := m) hm
                simp [e2] at e3
              · have r2 : RVs (gd X) F2 c2 (((ls.map mk).eraseIdx (ls.idxOf k)).map V.str) (l2.eraseIdx (ls.idxOf k)) := by
                  rw [← erase_mapS]
                  exact RVs.erase r _
                have x4 := Xt.write I2 (o := .lst (((ls.map mk).eraseIdx (ls.idxOf k)).map V.str)) ha2
                exact po2 _ _ _ x4 (I2.write ha2 hl2 rfl ⟨f, _, upd_same, r2⟩) .non .non
            · cases h3
          · cases h3
        · cases h3
      | _ => simp [remL] at h3
    · exact po2.elim
  · exact po1.elim
end
end L3

/-! e.replace("..", "..") inside a written list, behind an item `e + ".."` (a token is out there) -/
namespace L3
open PySem L2 PySem.Spec PyProof.Rows
def XpT (X : Cx) (W : WX) (e : Expr) (m : ME) : Prop := ∃ t, PET X e t ∧ ∀ σ env H F c cs Q, RE (gd X) F c σ env → Ih (gd X) H F c cs → PoE (gd X) (fun a b => W a b σ) H F c (m env cs) Q → t σ H Q
def XaT (X : Cx) (W : WX) (es : List Expr) (m : MA) : Prop := ∃ t, PAT X es t ∧ ∀ σ env H F c cs Q, RE (gd X) F c σ env → Ih (gd X) H F c cs → PoA (gd X) (fun a b => W a b σ) H F c (m env cs) Q → t σ H Q
section
variable {X : Cx} {W : WX} {e o : Expr} {es : List Expr} {m mo : ME} {ms : MA} {pos apos p q c0 c1 : Pos} {y z : Str} {j k : Nat}
theorem sim_cons {ta : TE} {tb : TA} (sa : ∀ σ env H F c cs Q, RE (gd X) F c σ env → Ih (gd X) H F c cs → PoE (gd X) (fun a b => W a b σ) H F c (m env cs) Q → ta σ H Q)
    (sb : ∀ σ env H F c cs Q, RE (gd X) F c σ env → Ih (gd X) H F c cs → PoA (gd X) (fun a b => W a b σ) H F c (ms env cs) Q → tb σ H Q) :
    ∀ σ env H F c cs Q, RE (gd X) F c σ env → Ih (gd X) H F c cs → PoA (gd X) (fun a b => W a b σ) H F c (aCons m ms env cs) Q → tCons ta tb σ H Q := by
  intro σ env H F c cs Q re I po
  refine sa σ env H F c cs _ re I ?_
  unfold aCons at po
  cases h1 : m env cs with
  | ok d cs1 =>
    rw [h1] at po
    simp only at po
    intro H1 F1 c1 x1 I1 v rv
    refine sb σ env H1 F1 c1 cs1 _ (re.mono x1.le) I1 ?_
    cases h2 : ms env cs1 with
    | ok ds cs2 =>
      rw [h2] at po
      exact fun H2 F2 c2 x2 I2 vs rvs => po H2 F2 c2 (x1.trans x2) I2 (v :: vs) (.cons (rv.mono x2.le) rvs)
    | exc n fs cs2 =>
      rw [h2] at po
      have po : ExK (gd X) (fun a b => W a b σ) H F c n fs cs2 := po
      exact ExK.from x1 po
    | stuck => rw [h2] at po; exact po.elim
  | exc n fs cs1 => rw [h1] at po; exact po
  | stuck => rw [h1] at po; exact po.elim
theorem xpT_of (h : Xp X W e m) : XpT X W e m := by
  obtain ⟨t, p, s⟩ := h
  exact ⟨t, fun pins sh σ H Q _ I h => p.run pins sh σ H Q I h, s⟩
theorem xaT_nil : XaT X W [] aNil := ⟨_, pat_nil, fun _ _ _ _ _ _ _ _ I po => po _ _ _ (Xt.refl _ _ _) I [] .nil⟩
theorem xaT_cons (ha : XpT X W e m) (hr : XaT X W es ms) (hs : starEach (e :: es) X.env = (false, eval e X.env) :: starEach es X.env := by rfl) : XaT X W (e :: es) (aCons m ms) := by
  obtain ⟨ta, pa, sa⟩ := ha
  obtain ⟨tb, pb, sb⟩ := hr
  exact ⟨_, pat_cons pa pb hs, sim_cons sa sb⟩
/-- an item `a + ".."`, then items that want a token -/
theorem xa_consP {a : Expr} {ma : ME} {c : Str} {l : List Nat} (hc : c = ⟨l.toArray⟩) (md : Bool) (ha : Xp X W a ma) (hr : XaT X W es ms)
    (hs : starEach (.BinOp a .Add (.Constant (.str c) j p) q :: es) X.env = (false, eval (.BinOp a .Add (.Constant (.str c) j p) q) X.env) :: starEach es X.env := by rfl) :
    Xa X W (.BinOp a .Add (.Constant (.str c) j p) q :: es) (aCons (op2 (addD md) ma (eC (.str l))) ms) := by
  obtain ⟨tb, pb, sb⟩ := hr
  obtain ⟨ta, pa, sa⟩ := ha
  subst hc
  refine ⟨tCons (tOp (rAddAll X.K) ta (tC (.str ⟨l.toArray⟩))) tb, ?_, sim_cons (fun σ env H F c cs Q re I po => sim2 (mb := eC (.str l)) sa (fun σ env H F c cs Q re I po => PoE.here I (.str l) po) (o2_add md) re I po) sb⟩
  constructor
  intro pos pins s σ H Q I h
  rw [hs]
  show wpAny _ _ (spliced ((false, eval (.BinOp a .Add (.Constant (.str ⟨l.toArray⟩) j p) q) X.env) :: backTo pos (starEach es X.env))) _ _ s
  refine Calls.spliced_cons (wpAny_BinOp (thn (pa.run pins s σ H _ I h) fun v s1 ⟨x, H1, I1, r1, q1⟩ => Calls.Constant_str ?_))
  have hb := op_addAll (X := X) pins { s1 with toks := s1.toks + 1 } σ H1 x (.str ⟨l.toArray⟩) v (.str ⟨l.toArray⟩ s1.toks) _ (I1.tok _) r1 ⟨_, rfl⟩ q1
  refine wpAny_mono (PySem.wpAny_toks hb) (fun v2 s2 hq => ?_) fun _ _ z => z.2
  obtain ⟨hk, x2, H2, I2, r2, q2⟩ := hq
  have h1 : 1 ≤ s2.toks := Nat.le_trans (Nat.succ_le_succ (Nat.zero_le _)) hk
  exact thn (pb pos pins s2 σ H2 _ h1 I2 q2) fun us s3 ⟨xs, H3, I3, r3, q3⟩ => ⟨x2 :: xs, H3, I3, .cons r2 r3, q3⟩
/-- x.replace(y, z) of written texts -/
def repD (y z : List Nat) (cs : Cells) (d : D) : R := match d with
  | .str x => if x.length + (x.length + 1) * z.length ≤ 16777216 then .ok (.str (codes (Txt.replace ⟨x.toArray⟩ ⟨y.toArray⟩ ⟨z.toArray⟩))) cs else .stuck
  | _ => .stuck
theorem xpT_repl {ly lz : List Nat} (hy : y = ⟨ly.toArray⟩) (hz : z = ⟨lz.toArray⟩) (ho : Xp X W o mo) (hyz : (y == z) = false)
    (hst : starEach [.Constant (.str y) j c0, .Constant (.str z) k c1] X.env = [(false, eval (.Constant (.str y) j c0) X.env), (false, eval (.Constant (.str z) k c1) X.env)] := by rfl)
    (hbase : attributeBase o "replace" X.env (eval o X.env) = eval o X.env := by rfl) (hline : (apos.endLine == pos.line) = true := by rfl) :
    XpT X W (.Call (.Attribute o "replace" apos) [.Constant (.str y) j c0, .Constant (.str z) k c1] [] pos) (op1 (repD ly lz) mo) := by
  obtain ⟨to, po, so⟩ := ho
  refine ⟨_, CwR.pet_replC po hyz hst hbase hline, fun σ env H F c cs Q re I p => ?_⟩
  refine so σ env H F c cs _ re I (PoE.cut p _ fun d cs1 _ H1 F1 c1 v x1 I1 rv po1 => ?_)
  unfold repD at po1
  split at po1
  · rename_i x
    split at po1
    · rename_i hl
      cases rv
      subst hy hz
      refine ⟨_, rfl, ?_, ?_⟩
      · simpa [PySem.Str.length] using hl
      · exact PoE.here I1 (.str _) po1
    · exact po1.elim
  · exact po1.elim
end
end L3

/-! repr of a list that has cells among its items -/
namespace L3
open PySem L2 PySem.Spec PyProof.Rows
def pyNs (cs : Cells) : List D → Option (List PyData)
  | [] => some []
  | d :: r => match pyOf cs d, pyNs cs r with
    | some p, some q => some (p :: q)
    | _, _ => none
def pyN (cs : Cells) (d : D) : Option PyData := match d with
  | .lst l => (pyNs cs l).map .list
  | d => pyOf cs d
theorem pyNs_reads {P : Program} {w : World} {H F : Hp} {h : Heap} {g : Gd} {c : List Addr} {cs : Cells} (ok : HOk P w H h) (kin : g.K.In h) (I : Ih g H F c cs) (ns : H sysModules = none) :
    ∀ {v : List V} {d : List D} {p : List PyData} {u : List Value}, RVs g F c v d → pyNs cs d = some p → Vals v u → ∃ as, ReadsAll h u p as ∧ sysModules ∉ as
  | _, _, _, _, .nil, e, r => by
    simp only [pyNs, Option.some.injEq] at e; subst e; cases r
    exact ⟨_, .nil, by simp⟩
  | _, _, _, _, .cons a b, e, r => by
    simp only [pyNs] at e
    split at e
    · rename_i p q e1 e2
      simp only [Option.some.injEq] at e
      subst e
      cases r with
      | cons r1 r2 =>
        obtain ⟨as, h1, n1⟩ := pyOf_reads ok kin I ns a e1 r1
        obtain ⟨bs, h2, n2⟩ := pyNs_reads ok kin I ns b e2 r2
        exact ⟨_, .cons h1 h2, by simp [n1, n2]⟩
    · cases e
theorem pyN_reads {P : Program} {w : World} {H F : Hp} {h : Heap} {g : Gd} {c : List Addr} {cs : Cells} (ok : HOk P w H h) (kin : g.K.In h) (I : Ih g H F c cs) (ns : H sysModules = none) {v : V} {d : D} {p : PyData} {u : Value} (r : RV g F c v d) (e : pyN cs d = some p) (rv : RelV v u) : ∃ as, Reads h u p as ∧ sysModules ∉ as := by
  unfold pyN at e
  split at e
  · simp only [Option.map_eq_some_iff] at e
    obtain ⟨y, e, rfl⟩ := e
    cases r with
    | lst h1 h2 =>
      cases rv
      have h1' := I.sub _ _ h1
      obtain ⟨z, its, n, rv, ho⟩ := (show ObjOk P w H h _ (.lst _) from ok _ _ h1')
      obtain ⟨as, ra, na⟩ := pyNs_reads ok kin I ns h2 e rv
      exact ⟨_, .list ho rfl rfl ra, ns_mem ns h1' na⟩
  · exact pyOf_reads ok kin I ns r e rv
def reprND (cs : Cells) : List D → R
  | [.lst l] => match pyN cs (.lst l) with
      | some p => if p.showable = true ∧ p.depth ≤ 60 ∧ p.shown.length ≤ sizeLine then .ok (.str (codes p.shown)) cs else .stuck
      | none => .stuck
  | ds => reprBD cs ds
theorem lst_ref {g : Gd} {F : Hp} {c : List Addr} {v : V} {l : List D} (r : RV g F c v (.lst l)) : ∃ a, v = .ref a := by cases r; exact ⟨_, rfl⟩
theorem cb_reprN {g : Gd} : Cb g (rRepX g.P g.w g.K) reprND := by
  intro W H F c cs vs ds Q I rv po
  unfold reprND at po
  split at po
  · intro hns
    split at po
    · rename_i l p hp
      split at po
      · rename_i hc
        obtain ⟨h1, h2, h3⟩ := hc
        cases rv with
        | cons r1 r2 =>
          cases r2
          obtain ⟨a, rfl⟩ := lst_ref r1
          refine .inr ⟨a, p, rfl, fun h ok kin => pyN_reads ok kin I hns r1 hp rfl, h1, h2, h3, ?_⟩
          have := PoE.here I (.str (codes p.shown)) po
          rwa [str_codes] at this
      · exact po.elim
    · exact po.elim
  · exact cb_reprX W H F c cs vs _ Q I rv po
section
variable {X : Cx} {W : WX} {pos p : Pos} {e : Expr} {ms : MA}
theorem xp_reprN {k : Nat} (hG : X.A.guards = some []) (hr : Room k X.A) (hN : NoS X) (hg : Gl X "repr") (hm : X.mg "repr" = none) (ha : Xa X W [e] ms)
    (he : starEach [e] X.env = (false, eval e X.env) :: starEach [] X.env := by rfl) : Xp X W (.Call (.Name "repr" p) [e] [] pos) (eBi reprND ms) :=
  xp_bi (call_repX hG hr.units hN) cb_reprN hg hm bo_repr' ha (he := he)
end
end L3

/-! sorted (of at most one item), list(range(n)), x.index(text) of a list, defs with defaults -/
namespace L3
open PySem L2 PySem.Spec PyProof.Rows
section
variable {X : Cx} {W : WX} {p p2 pos apos : Pos} {a o e : Expr} {ma mo me : ME}
/-! sorted -/
def eSort1 (ma : ME) : ME := fun env cs => (ma env cs).bind fun d cs1 => match listOf cs1 d with
  | some [] => mkL false cs1 []
  | some [.int i] => mkL false cs1 [.int i]
  | _ => .stuck
theorem xp_sort1 (hg : Gl X "sorted") (hm : X.mg "sorted" = none) (bo : bootBuiltins "sorted" = some (.builtin "sorted")) (ha : Xp X W a ma) (hs : starEach [a] X.env = (false, eval a X.env) :: starEach [] X.env := by rfl) (hp : (backTo pos (starEach ([] : List Expr) X.env)).any (·.1) = false := by rfl) :
    Xp X W (.Call (.Name "sorted" p) [a] [] pos) (eSort1 ma) := by
  obtain ⟨ta, pa, sa⟩ := ha
  refine ⟨_, pe_callB cr_sorted hg hm bo (pa_cons pa pa_nil hs) (by decide) (by decide) hs hp, fun σ env H F c cs Q re I po => ?_⟩
  refine sa σ env H F c cs _ re I (PoE.cut po _ fun d cs1 _ H1 F1 c1 v x1 I1 rv po1 => ?_)
  split at po1
  · rename_i hds
    obtain ⟨q, vs, rfl, h1, h2⟩ := listOf_at I1 rv hds
    cases h2
    refine ⟨q, [], rfl, .inl (.inl h1), by decide, fun ns' p' hpm _ hp' => ?_⟩
    have : ns' = [] := List.Perm.eq_nil hpm
    subst this
    exact mkL_ok I1 .nil po1 hp'
  · rename_i i hds
    obtain ⟨q, vs, rfl, h1, h2⟩ := listOf_at I1 rv hds
    cases h2 with
    | cons r1 r2 =>
      cases r1
      cases r2
      refine ⟨q, [i], rfl, .inl (.inl h1), by simp, fun ns' p' hpm _ hp' => ?_⟩
      have : ns' = [i] := List.perm_singleton.mp hpm
      subst this
      exact mkL_ok I1 (.cons (.int i) .nil) po1 hp'
  · exact po1.elim
/-! list(range(n)) -/
def eListRg (me : ME) : ME := fun env cs => (me env cs).bind fun d cs1 => match d with
  | .int n => if 0 ≤ n ∧ n ≤ 1000000 then mkL false cs1 ((List.range n.toNat).map fun i => .int (i : Nat)) else .stuck
  | _ => .stuck
theorem rvs_rg {g : Gd} {F : Hp} {c : List Addr} : ∀ l : List Nat, RVs g F c (l.map fun i => V.int (0 + (i : Nat))) (l.map fun i => D.int (i : Nat))
  | [] => .nil
  | i :: r => by
    rw [List.map_cons, List.map_cons, Int.zero_add]
    exact .cons (.int _) (rvs_rg r)
theorem xp_listRg (hc : X.calm = true) (hg : Gl X "list") (hm : X.mg "list" = none) (hgr : Gl X "range") (hmr : X.mg "range" = none) (he : Xp X W e me)
    (na : starEach [e] X.env = (false, eval e X.env) :: starEach [] X.env := by rfl) (na2 : starEach [.Call (.Name "range" p2) [e] [] pos'] X.env = (false, eval (.Call (.Name "range" p2) [e] [] pos') X.env) :: starEach [] X.env := by rfl) :
    Xp X W (.Call (.Name "list" p) [.Call (.Name "range" p2) [e] [] pos'] [] pos) (eListRg me) := by
  obtain ⟨te, pe', se⟩ := he
  refine ⟨_, pe_listRg hc hg hm (prg_1 hgr hmr pe' na) na2, fun σ env H F c cs Q re I po => ?_⟩
  refine se σ env H F c cs _ re I (PoE.cut po _ fun d cs1 _ H1 F1 c1 v x1 I1 rv po1 => ?_)
  split at po1
  · rename_i n _
    split at po1
    · rename_i hn
      cases rv
      refine ⟨n, rfl, RgOk.of_le (by decide) (by omega) (by decide) hn.1, fun q hq => ?_⟩
      have hr : RVs (gd X) F1 c1 (rgV 0 n) ((List.range n.toNat).map fun i => D.int (i : Nat)) := by
        unfold rgV
        rw [Int.sub_zero]
        exact rvs_rg _
      exact mkL_ok I1 hr po1 hq
    · exact po1.elim
  · exact po1.elim
end
/-! x.index(text) -/
section
variable {X : Cx} {W : WX} {pos apos : Pos} {o e : Expr} {mo me : ME}
def eLidx (mo me : ME) : ME := fun env cs => (mo env cs).bind fun o cs1 => if isLc cs1 o = true then (me env cs1).bind fun v cs2 => match listOf cs2 o, v with
    | some ds, .str k => match strsL ds with
      | some ls => if k ∈ ls then .ok (.int (ls.idxOf k : Nat)) cs2 else .stuck
      | none => .stuck
    | _, _ => .stuck
  else .stuck
theorem flat_mk (ls : List (List Nat)) : ((ls.map mk).map V.str).all flatV = true := by
  induction ls with
  | nil => rfl
  | cons a r ih => rw [List.map_cons, List.map_cons, List.all_cons, ih]; rfl
theorem xp_lidx (ho : Xp X W o mo) (he : Xp X W e me)
    (hbase : attributeBase o "index" X.env (eval o X.env) = eval o X.env := by rfl)
    (hfew : ((backTo pos (starEach [e] X.env)).all (fun x => !x.1) && (backToKw pos (keywordEach [] X.env)).all (fun x => x.1.isSome)
      && decide ([e].length + ([] : List Keyword).length + (if ([] : List Keyword).isEmpty then 0 else 1) < 30)) = true := by rfl)
    (hline : (apos.endLine == pos.line) = true := by rfl) (hs : starEach [e] X.env = (false, eval e X.env) :: starEach [] X.env := by rfl) (hplain : (backTo pos (starEach [] X.env)).any (·.1) = false := by rfl) :
    Xp X W (.Call (.Attribute o "index" apos) [e] [] pos) (eLidx mo me) := by
  obtain ⟨to, po', so⟩ := ho
  obtain ⟨te, pe', se⟩ := he
  refine ⟨_, pe_bm F.plainAttrs_list F.slot_list_index F.type_list_index mt_index po' (pa_cons pe' pa_nil hs) hbase hfew hline hs hplain, fun σ env H F c cs Q re I po => ?_⟩
  refine so σ env H F c cs _ re I (PoE.cut po _ fun d cs1 _ H1 F1 c1 v x1 I1 rv po1 => ?_)
  split at po1
  · rename_i hc
    obtain ⟨n, a, l, vs, rfl, rfl, ha, hl, h1, h2⟩ := isLc_at I1 rv hc
    refine ⟨.inl ⟨rfl, vs, .inl (.inl h1)⟩, se σ env H1 F1 c1 cs1 _ (re.mono x1.le) I1 (PoE.cut po1 _ fun d2 cs2 _ H2 F2 c2 v2 x2 I2 rv2 po2 => ?_)⟩
    split at po2
    · rename_i ds k hds _
      split at po2
      · rename_i ls hls
        split at po2
        · rename_i hk
          obtain ⟨q, us, e1, hH, r⟩ := listOf_at I2 (rv.mono x2.le) hds
          cases e1
          cases rv2
          have ev := strsL_rv r hls
          subst ev
          have hix : ls.idxOf k < ls.length := List.idxOf_lt_length_of_mem hk
          refine ⟨_, (ls.map mk).map V.str, .str (mk k), ls.idxOf k, .str (mk k), rfl, rfl, .inl (.inl hH), rfl, flat_mk ls, ?_, ?_, fun m z hm hz => ?_, PoE.here I2 (.int _) po2⟩
          · rw [List.getElem?_map, List.getElem?_map, List.getElem?_eq_getElem hix, List.getElem_idxOf hix]; rfl
          · show ((mk k : Str) == mk k) = true
            exact beq_self_eq_true _
          · have hml : m < ls.length := Nat.lt_trans hm hix
            rw [List.getElem?_map, List.getElem?_map, List.getElem?_eq_getElem hml] at hz
            simp only [Option.map_some, Option.some.injEq] at hz
            subst hz
            show ((mk ls[m] : Str) == mk k) = false
            rw [beq_eq_false_iff_ne]
            intro e
            have e2 := mk_inj e
            have e3 := List.not_of_lt_findIdx (p := (· == k)) (xs := ls) (i := m) hm
            simp [e2] at e3
        · exact po2.elim
      · exact po2.elim
    · exact po2.elim
  · exact po1.elim
end
/-! ### defs with defaults, all arguments given -/
structure FunX (K : PySem.W.Frag) (x qual : Str) (st : Stmt) (f : Addr) (fd : FuncData) : Prop where
  ex : ∃ (oc : Value) (od : Option Addr) (dV kV doc pm : Value) (an : Option Addr) (cdv ct : Value) (osl : Array (Option Value)),
    fd = PySem.W.fnOf x qual (defArgs st) (defBody st) (defScope st) dV kV doc pm an cdv ct ∧ K.lookup f = some ⟨oc, od, .func fd, osl⟩ ∧ PySem.W.codeIn K cdv qual = true
  kp : PySem.W.keepIn K (.ref f) = true
section
variable {P : Program} {w : World} {K : PySem.W.Frag} {mg : Str → Option Value} {base : Heap} {k : Nat} {f : Addr} {fd : FuncData} {ps : List Str} {sp : Sp}
theorem fnG_ofX {x qual : Str} {st : Stmt} {N : List Str} (Fn : FunX K x qual st f fd) (S : FnScope N ps (defScope st)) (len : ∀ vs H Q E, sp vs H Q E → vs.length = ps.length)
    (hbody : ∀ (cdv : Value) (A : Around) (outer : List PySem.Env) (s : Shared) (H : Hp) (vs : List V) (Q : VK) (E : XK), A.guards = some [] → Room k (A.deeper (envOfC qual (defScope st) s.heap.objs.size f cdv)) → sp vs H Q E →
      ∃ t, PSs (cxOf (L2.CX P w) P w K mg base N qual (defScope st) f cdv A outer s H E) (defBody st) t ∧ t { nx := fun _ H' => Q .non H', rt := Q } (start N vs) H) : FnG P w K mg base (k + 1) f fd ps sp := by
  obtain ⟨oc, od, dV, kV, doc, pm, an, cdv, ct, osl, rfl, lk, hcd⟩ := Fn.ex
  constructor
  · exact len
  intro A outer s H args us vs Q E hG hr e0 hb rv hsp
  have hl := len _ _ _ _ hsp
  have KX : K.In s.heap := e0.mod.kin.keeps fun b o e => (e0.bs b o e).1
  have lim : s.heap.NoLimit := e0.mod.nolimit.keeps fun b o e => (e0.bs b o e).1
  have kinds : ∀ y ∈ ps.zip us, (defScope st).names.lookup y.1 = some .local ∨ ((defScope st).names.lookup y.1 = some .cell ∧ ((cellsFrom (s.heap.objs.size + 1) (defScope st).names []).lookup y.1).isSome = true) := by
    rintro ⟨n, v⟩ hy
    rcases S.par n (List.of_mem_zip hy).1 with q | q
    · exact .inl q
    · exact .inr ⟨q, PySem.W.cellsFrom_some _ _ _ (.inl q)⟩
  refine codeAny_call_function hr.depth (KX _ _ lk) rfl S.co S.gen rfl (PySem.W.codeRec_of KX hcd) (hb _ _ _ _ (wpAny_newFunctionEnv_cells S.kind kinds fun env he s1 x => ?_))
  subst he
  refine ⟨lim.keeps x.toInCall.keep, codeAny_func ?_⟩
  obtain ⟨t, ht, hq⟩ := hbody cdv A outer s H vs Q E hG (hr.deeper _) hsp
  have I : Inv (cxOf (L2.CX P w) P w K mg base N qual (defScope st) f cdv A outer s H E) [] (start N vs) H s1 := inv_start S hr.hd e0 hl rv x
  refine wpAny_mono (ht.run [] s1 (start N vs) H _ I hq) (fun fl s' r => ?_) fun e s' r => r
  cases fl with
  | ret u => obtain ⟨v, z, G, J, r', q⟩ := r; exact ⟨v, G, J.os, J.bare, J.base, J.hok, r', q⟩
  | next => obtain ⟨z, G, J, q⟩ := r; exact ⟨.non, G, J.os, J.bare, J.base, J.hok, rfl, q⟩
  | brk => obtain ⟨_, _, _, q⟩ := r; exact q.elim
  | cont => obtain ⟨_, _, _, q⟩ := r; exact q.elim
theorem fnMGX {x qual : Str} {st : Stmt} {N : List Str} (F : FunX K x qual st f fd) (S : FnScope N ps (defScope st)) (body : MS)
    (h : ∀ (cdv : Value) (A : Around) (outer : List PySem.Env) (s : Shared) (H : Hp) (E : XK), A.guards = some [] → Room k (A.deeper (PyProof.Rows.envOfC qual (defScope st) s.heap.objs.size f cdv)) →
      Sms (cxOf (L2.CX P w) P w K mg base N qual (defScope st) f cdv A outer s H E) (fun cls d _ H => E cls d H) (defBody st) body) :
    FnG P w K mg base (k + 1) f fd ps (spM ⟨P, w, K, mg⟩ (mDef N.length body) ps.length) := by
  refine fnG_ofX F S (fun vs H Q E h => h.1) fun cdv A outer s H vs Q E hG hr ⟨hl, F0, c, cs, ds, I, rv, po⟩ => ?_
  obtain ⟨t, pt, st⟩ := h cdv A outer s H E hG hr
  refine ⟨t, pt, st _ _ H F0 c cs _ (re_start rv N) I ?_⟩
  unfold mDef at po
  cases hb : body (ds.map some ++ List.replicate (N.length - ds.length) none) cs with
  | nx e c1 => rw [hb] at po; exact fun H' F' c' x I' σ re => po H' F' c' x I' .non .non
  | rt d c1 => rw [hb] at po; exact po
  | exc n fs e c1 => rw [hb] at po; exact fun H' F' c' x I' σ C dx vs _ a b d => po H' F' c' x I' C dx vs a b d
  | bk e c1 => rw [hb] at po; exact po.elim
  | ct e c1 => rw [hb] at po; exact po.elim
  | stuck => rw [hb] at po; exact po.elim
theorem funx_mk {x qual : Str} {st : Stmt} {oc : Value} {od an : Option Addr} {osl : Array (Option Value)} {dV kV doc pm cdv ct : Value} (l : K.lookup f = some ⟨oc, od, .func (PySem.W.fnOf x qual (defArgs st) (defBody st) (defScope st) dV kV doc pm an cdv ct), osl⟩)
    (c : PySem.W.codeIn K cdv qual = true) (k : PySem.W.keepIn K (.ref f) = true) : FunX K x qual st f (PySem.W.fnOf x qual (defArgs st) (defBody st) (defScope st) dV kV doc pm an cdv ct) := ⟨⟨oc, od, dV, kV, doc, pm, an, cdv, ct, osl, rfl, l, c⟩, k⟩
/-- every parameter is given; the defaults stand in a tuple at T -/
theorem bindsX {x qual : Str} {st : Stmt} {T : Addr} {an : Option Addr} {kV doc pm cdv ct : Value} {o : Obj} {its : List Value} {n m : Nat} (lT : K.lookup T = some o) (oT : o.data = .seq its.toArray n) (hm : its.length = m)
    (h : ∀ us its : List Value, us.length = ps.length → its.length = m → ∃ k, bindArgs (PySem.W.fnOf x qual (defArgs st) (defBody st) (defScope st) (.ref T) kV doc pm an cdv ct) ⟨us, []⟩ = seqItems? (.ref T) >>= k ∧ k (some its.toArray) = pure (ps.zip us)) :
    Binds K (PySem.W.fnOf x qual (defArgs st) (defBody st) (defScope st) (.ref T) kV doc pm an cdv ct) ps [] := by
  intro s us X hl
  rw [List.append_nil] at hl ⊢
  obtain ⟨k, e1, e2⟩ := h us its hl hm
  refine BindsTo.of_looks fun M => ?_
  rw [e1]
  exact looks_items X lT oT (.of_pure e2)
theorem ownG_mkX {n : Nat} {x qual : Str} {m : MF} {st : Stmt} (Fn : FunX K x qual st f fd) (F : FnG P w K mg base k f fd ps (spM ⟨P, w, K, mg⟩ m ps.length)) (hm : mg x = some (.ref f)) (hb : Binds K fd ps []) (hn : ps.length = n) : OwnG P w K mg base k x n m := by
  subst hn
  exact ⟨f, fd, ps, F, hm, Fn.kp, hb⟩
end
end L3

namespace L3
open PySem L2
theorem nr {α : Sort _} {a b : α} (h : a = b) : a = b := h

/-! ### what comes out: by conditions -/
abbrev KX := Str → List (Str × D) → Cells → Prop
def RP (r : R) (P : D → Cells → Prop) (X : KX) : Prop := match r with
  | .ok d cs => P d cs
  | .exc n fs cs => X n fs cs
  | .stuck => False
def RAP (r : RA) (P : List D → Cells → Prop) (X : KX) : Prop := match r with
  | .ok d cs => P d cs
  | .exc n fs cs => X n fs cs
  | .stuck => False
structure Cn where
  nx : Env → Cells → Prop
  rt : D → Cells → Prop
  bk : Env → Cells → Prop
  ct : Env → Cells → Prop
  xc : Str → List (Str × D) → Env → Cells → Prop
def SP (s : S) (K : Cn) : Prop := match s with
  | .nx e c => K.nx e c
  | .rt d c => K.rt d c
  | .bk e c => K.bk e c
  | .ct e c => K.ct e c
  | .exc n fs e c => K.xc n fs e c
  | .stuck => False
def noX : KX := fun _ _ _ => False
section
variable {P P' : D → Cells → Prop} {X : KX} {K : Cn} {env : Env} {cs : Cells} {a b c t : ME} {ms : MA} {d e : D}
theorem RP_ok : RP (.ok d cs) P X = P d cs := nr rfl
theorem RP_bind (r : R) (f : D → Cells → R) : RP (r.bind f) P X = RP r (fun d c => RP (f d c) P X) X := by cases r <;> rfl
theorem RAP_bind (r : RA) (f : List D → Cells → R) : RP (r.bind f) P X = RAP r (fun d c => RP (f d c) P X) X := by cases r <;> rfl
theorem RP.mono {r : R} (h : RP r P X) (k : ∀ d cs, P d cs → P' d cs) : RP r P' X := by
  cases r with
  | ok d cs => exact k d cs h
  | exc n fs cs => exact h
  | stuck => exact h
theorem RP.get {r : R} (h : RP r P noX) : ∃ d cs, r = .ok d cs ∧ P d cs := by
  cases r with
  | ok d cs => exact ⟨d, cs, rfl, h⟩
  | exc n fs cs => exact h.elim
  | stuck => exact h.elim
theorem SP_bind (s : S) (k : Env → Cells → S) : SP (s.bind k) K = SP s { K with nx := fun e c => SP (k e c) K } := by cases s <;> rfl
theorem SP_toS (r : R) (k : D → Cells → S) : SP (r.toS env k) K = RP r (fun d c => SP (k d c) K) (fun n fs c => K.xc n fs env c) := by cases r <;> rfl
/-! statements -/
theorem sp_nx : SP (sNx env cs) K = K.nx env cs := nr rfl
theorem sp_seq {a b : MS} : SP (sSeq a b env cs) K = SP (a env cs) { K with nx := fun e c => SP (b e c) K } := SP_bind _ _
theorem sp_asg {i : Nat} : SP (sAsg i a env cs) K = RP (a env cs) (fun d c => K.nx (env.set i (some d)) c) (fun n fs c => K.xc n fs env c) := SP_toS _ _
theorem sp_ret : SP (sRet a env cs) K = RP (a env cs) K.rt (fun n fs c => K.xc n fs env c) := SP_toS _ _
theorem sp_drop : SP (sDrop a env cs) K = RP (a env cs) (fun _ c => K.nx env c) (fun n fs c => K.xc n fs env c) := SP_toS _ _
theorem sp_if {x y : MS} : SP (sIf t x y env cs) K = RP (t env cs) (fun d c => SP (brS d (x env c) (y env c)) K) (fun n fs c => K.xc n fs env c) := SP_toS _ _
theorem SP_brS {k : Bool} {x y : S} : SP (brS (.bl k) x y) K = if k = true then SP x K else SP y K := by cases k <;> rfl
theorem sp_put : SP (sPut a b c env cs) K = RP (c env cs) (fun v c1 => RP (a env c1) (fun o c2 => RP (b env c2) (fun i c3 => ∃ c4, putL c3 o i v = some c4 ∧ K.nx env c4) (fun n fs c => K.xc n fs env c)) (fun n fs c => K.xc n fs env c)) (fun n fs c => K.xc n fs env c) := by
  unfold sPut
  simp only [SP_toS]
  congr; funext v c1; congr; funext o c2; congr; funext i c3
  cases h : putL c3 o i v with
  | none => simp [SP]
  | some c4 => simp [SP]
/-! expressions -/
theorem rp_var {i : Nat} (h : env[i]? = some (some d)) : RP (eVar i env cs) P X = P d cs := by
  unfold eVar; rw [h]; rfl
theorem rp_c : RP (eC d env cs) P X = P d cs := nr rfl
theorem rp_op2 {f : Cells → D → D → R} : RP (op2 f a b env cs) P X = RP (a env cs) (fun x c1 => RP (b env c1) (fun y c2 => RP (f c2 x y) P X) X) X := by
  unfold op2; simp only [RP_bind]
theorem rp_op1 {f : Cells → D → R} : RP (op1 f a env cs) P X = RP (a env cs) (fun x c1 => RP (f c1 x) P X) X := RP_bind _ _
theorem RP_brD {k : Bool} {x y : Cells → R} : RP (brD (.bl k) cs x y) P X = if k = true then RP (x cs) P X else RP (y cs) P X := by cases k <;> rfl
theorem rp_and : RP (eAnd a b env cs) P X = RP (a env cs) (fun x c1 => RP (brD x c1 (b env) fun c2 => .ok (.bl false) c2) P X) X := RP_bind _ _
theorem rp_or : RP (eOr a b env cs) P X = RP (a env cs) (fun x c1 => RP (brD x c1 (fun c2 => .ok (.bl true) c2) (b env)) P X) X := RP_bind _ _
theorem rp_not : RP (eNot a env cs) P X = RP (a env cs) (fun x c1 => RP (notD c1 x) P X) X := RP_bind _ _
theorem rp_notD {k : Bool} : RP (notD cs (.bl k)) P X = P (.bl !k) cs := nr rfl
theorem rp_if : RP (eIf t a b env cs) P X = RP (t env cs) (fun x c1 => RP (brD x c1 (a env) (b env)) P X) X := RP_bind _ _
theorem rap_nil {Q : List D → Cells → Prop} : RAP (aNil env cs) Q X = Q [] cs := nr rfl
theorem rap_cons {Q : List D → Cells → Prop} : RAP (aCons a ms env cs) Q X = RP (a env cs) (fun d c1 => RAP (ms env c1) (fun ds c2 => Q (d :: ds) c2) X) X := by
  unfold aCons
  cases a env cs with
  | ok d c1 =>
    simp only [RP]
    cases ms env c1 <;> rfl
  | exc => rfl
  | stuck => rfl
theorem rp_call {m : MF} : RP (eCall m ms env cs) P X = RAP (ms env cs) (fun ds c => RP (m ds c) P X) X := RAP_bind _ _
theorem rp_bi {f : Cells → List D → R} : RP (eBi f ms env cs) P X = RAP (ms env cs) (fun ds c => RP (f c ds) P X) X := RAP_bind _ _
theorem rp_list {md : Bool} : RP (eList md ms env cs) P X = RAP (ms env cs) (fun ds c => RP (mkL md c ds) P X) X := RAP_bind _ _
theorem rp_tup : RP (eTup ms env cs) P X = RAP (ms env cs) (fun ds c => RP (mkT c ds) P X) X := RAP_bind _ _
theorem rp_mkLf {ds : List D} (h : ds.length ≤ sizeLine) : RP (mkL false cs ds) P X = P (.lst ds) cs := by
  unfold mkL; rw [if_pos h]; rfl
theorem rp_mkLt {ds : List D} (h : ds.length ≤ sizeLine) : RP (mkL true cs ds) P X = P (.loc cs.length) (cs ++ [.lst ds]) := by
  unfold mkL; rw [if_pos h]; rfl
theorem rp_mkT {ds : List D} (h : ds.length ≤ sizeLine) : RP (mkT cs ds) P X = P (.tup ds) cs := by
  unfold mkT; rw [if_pos h]; rfl
theorem rp_chain {f f' : Cells → D → D → R} : RP (eChain f f' a b c env cs) P X = RP (a env cs) (fun x c1 => RP (b env c1) (fun y c2 => RP (f c2 x y) (fun z c3 => RP (brD z c3 (fun c4 => (c env c4).bind fun w c5 => f' c5 y w) fun c4 => .ok (.bl false) c4) P X) X) X) X := by
  unfold eChain; simp only [RP_bind]
theorem rp_m0 {f : Cells → List Nat → R} : RP (eM0 f a env cs) P X = RP (a env cs) (fun x c1 => match x with | .str l => RP (f c1 l) P X | _ => False) X := by
  unfold eM0; rw [RP_bind]; congr; funext x c1; cases x <;> rfl
theorem rp_m1 {f : Cells → List Nat → D → R} : RP (eM1 f a b env cs) P X = RP (a env cs) (fun x c1 => match x with | .str l => RP (b env c1) (fun y c2 => RP (f c2 l y) P X) X | _ => False) X := by
  unfold eM1; rw [RP_bind]; congr; funext x c1; cases x <;> first | rfl | exact RP_bind _ _
/-! primitives -/
variable {i j : Int} {k l : List Nat} {md : Bool}
theorem rp_addI : RP (addD md cs (.int i) (.int j)) P X = P (.int (i + j)) cs := nr rfl
theorem rp_addS (h : k.length + l.length ≤ sizeLine) : RP (addD md cs (.str k) (.str l)) P X = P (.str (k ++ l)) cs := by
  show RP (if _ then _ else _) P X = _
  rw [if_pos h]; rfl
theorem rp_addL {x y : List D} : RP (addD md cs (.lst x) (.lst y)) P X = RP (mkL md cs (x ++ y)) P X := nr rfl
theorem rp_sub : RP (subD cs (.int i) (.int j)) P X = P (.int (i - j)) cs := nr rfl
theorem rp_mulI (h : (-big < i ∧ i < big) ∨ (-big < j ∧ j < big)) : RP (mulD md cs (.int i) (.int j)) P X = P (.int (i * j)) cs := by
  show RP (if _ then _ else _) P X = _
  rw [if_pos h]; rfl
theorem rp_mulS (h : -1000 ≤ j ∧ j ≤ 1000 ∧ k.length ≤ 1000) : RP (mulD md cs (.str k) (.int j)) P X = P (.str (List.replicate j.toNat k).flatten) cs := by
  show RP (if _ then _ else _) P X = _
  rw [if_pos h]; rfl
theorem rp_fdiv (h : 0 < j ∧ j < big) : RP (fdivD cs (.int i) (.int j)) P X = P (.int (i / j)) cs := by
  show RP (if _ then _ else _) P X = _
  rw [if_pos h]; rfl
theorem rp_mod (h : 0 < j) : RP (modD cs (.int i) (.int j)) P X = P (.int (i % j)) cs := by
  show RP (if _ then _ else _) P X = _
  rw [if_pos h]; rfl
theorem rp_pow (h : 0 ≤ j ∧ j ≤ 1000000 ∧ -big < i ∧ i < big) : RP (powD cs (.int i) (.int j)) P X = P (.int (i ^ j.toNat)) cs := by
  show RP (if _ then _ else _) P X = _
  rw [if_pos h]; rfl
theorem rp_neg : RP (negD cs (.int i)) P X = P (.int (-i)) cs := nr rfl
theorem rp_lt : RP (ltD cs (.int i) (.int j)) P X = P (.bl (decide (i < j))) cs := nr rfl
theorem rp_le : RP (leD cs (.int i) (.int j)) P X = P (.bl (decide (i ≤ j))) cs := nr rfl
theorem rp_gt : RP (gtD cs (.int i) (.int j)) P X = P (.bl (decide (j < i))) cs := nr rfl
theorem rp_ge : RP (geD cs (.int i) (.int j)) P X = P (.bl (decide (j ≤ i))) cs := nr rfl
theorem rp_eqS : RP (eqD cs (.str k) (.str l)) P X = P (.bl (decide (k = l))) cs := nr rfl
theorem rp_neS : RP (neD cs (.str k) (.str l)) P X = P (.bl (!decide (k = l))) cs := nr rfl
theorem rp_eqI : RP (eqD cs (.int i) (.int j)) P X = P (.bl (decide (i = j))) cs := nr rfl
theorem rp_neI : RP (neD cs (.int i) (.int j)) P X = P (.bl (!decide (i = j))) cs := nr rfl
theorem rp_max : RP (maxB cs [.int i, .int j]) P X = P (.int (if j > i then j else i)) cs := nr rfl
theorem rp_min : RP (minB cs [.int i, .int j]) P X = P (.int (if j < i then j else i)) cs := nr rfl
theorem rp_lenScr {ns : List Int} : RP (lenB cs [.scr ns]) P X = P (.int ns.length) cs := by
  show P (.int ((ns.map D.int).length : Nat)) cs = _
  rw [List.length_map]
theorem rp_lenLst {ds : List D} : RP (lenB cs [.lst ds]) P X = P (.int ds.length) cs := nr rfl
theorem rp_lenTup {ds : List D} : RP (lenB cs [.tup ds]) P X = P (.int ds.length) cs := nr rfl
theorem rp_lenS (h : l.length ≤ sizeLine) : RP (lenB cs [.str l]) P X = P (.int l.length) cs := by
  show RP (if _ then _ else _) P X = _
  rw [if_pos h]; rfl
theorem rp_strI (h : i.natAbs.log2 < 1920) : RP (strB cs [.int i]) P X = P (.str (codes (toString i))) cs := by
  show RP (if _ then _ else _) P X = _
  rw [if_pos h]; rfl
theorem rp_repr {z : List Nat} (h : reprC d = some z) : RP (reprB cs [d]) P X = P (.str z) cs := by
  show RP (match reprC d with | some l => _ | none => _) P X = _
  rw [h]; rfl
theorem rp_isi {t u : String} {v : Bool} (h : tyC cs d = some u) (q : kitB u t = some v) : RP (isiD t cs d) P X = P (.bl v) cs := by
  unfold isiD; rw [h]; simp only; rw [q]; rfl
theorem rp_ixS {ch : Nat} (h : l.length ≤ sizeLine) (q : atI l i = some ch) : RP (ixD cs (.str l) (.int i)) P X = P (.str [ch]) cs := by
  show RP (if _ then _ else _) P X = _
  rw [if_pos h, q]; rfl
theorem rp_ixL {ds : List D} (q : atI ds i = some d) : RP (ixD cs (.lst ds) (.int i)) P X = P d cs := by
  show RP (match atI ds i with | some d => _ | none => _) P X = _
  rw [q]; rfl
theorem rp_ixScr {ns : List Int} {z : Int} (q : atI ns i = some z) : RP (ixD cs (.scr ns) (.int i)) P X = P (.int z) cs := by
  show RP (match atI (ns.map D.int) i with | some d => _ | none => _) P X = _
  have : atI (ns.map D.int) i = some (.int z) := by
    unfold atI at q ⊢
    rw [List.length_map]
    cases h : ixN ns.length i with
    | none => rw [h] at q; cases q
    | some m =>
      rw [h] at q
      show (ns.map D.int)[m]? = _
      rw [List.getElem?_map, show ns[m]? = some z from q]; rfl
  rw [this]; rfl
theorem rp_ixLoc {ds : List D} {n : Nat} (h : cs[n]? = some (.lst ds)) (q : atI ds i = some d) : RP (ixD cs (.loc n) (.int i)) P X = P d cs := by
  unfold ixD
  simp only [seqOf, listOf, h, q]
  rfl
theorem at_mid {α : Type} {ds : List α} {i : Int} (h0 : 0 ≤ i) (h1 : i < ds.length) : ∃ d, atI ds i = some d ∧ d ∈ ds ∧ ds[i.toNat]? = some d := by
  have hn : i.toNat < ds.length := by omega
  refine ⟨ds[i.toNat], ?_, List.getElem_mem hn, List.getElem?_eq_getElem hn⟩
  unfold atI ixN
  rw [if_pos (by omega)]
  first | rw [if_pos h1] | rw [if_pos (by omega)]
  simp [List.getElem?_eq_getElem hn]
/-! slices of a text -/
theorem rp_sl {lo hi : MO} : RP (eSl md a lo hi env cs) P X = RP (a env cs) (fun x c1 => match lo env c1 with
  | some (l, c2) => (match hi env c2 with
    | some (h, c3) => RP (slD md c3 x l h) P X
    | none => False)
  | none => False) X := by
  unfold eSl
  rw [RP_bind]
  congr; funext x c1
  cases lo env c1 with
  | none => rfl
  | some q =>
    obtain ⟨q1, q2⟩ := q
    simp only
    cases hi env q2 with
    | none => rfl
    | some r => rfl
theorem rp_slS {lo hi : Option Int} (h : l.length ≤ sizeLine) : RP (slD md cs (.str l) lo hi) P X = P (.str (cutL l lo hi)) cs := by
  show RP (if _ then _ else _) P X = _
  rw [if_pos h]; rfl
theorem rp_slL {ds : List D} {lo hi : Option Int} : RP (slD md cs (.lst ds) lo hi) P X = RP (mkL md cs (cutL ds lo hi)) P X := nr rfl
theorem ro_some {env : Env} {cs c1 : Cells} {m : ME} {i : Int} (h : m env cs = .ok (.int i) c1) : oSome m env cs = some (some i, c1) := by
  unfold oSome; rw [h]
theorem ro_var {i : Nat} {j : Int} (h : env[i]? = some (some (.int j))) : oSome (eVar i) env cs = some (some j, cs) := ro_some (by unfold eVar; rw [h])
theorem ro_var1 {i : Nat} {j n : Int} (h : env[i]? = some (some (.int j))) : oSome (op2 (addD md) (eVar i) (eC (.int n))) env cs = some (some (j + n), cs) := ro_some (by unfold op2 eVar; rw [h]; rfl)
theorem cutL_len {α : Type} (xs : List α) (lo hi : Option Int) : (cutL xs lo hi).length ≤ xs.length := by
  unfold cutL
  rw [List.length_take, List.length_drop]
  omega
/-! joins, signs -/
theorem rp_join {ds : List D} {y : D} {ls : List (List Nat)} (h : seqOf cs y = some ds) (q : strsOf ds = some ls) (z : (ls.map (·.length)).sum + ls.length * l.length ≤ 16777216) : RP (joinD cs l y) P X = P (.str (TL.joinL l ls)) cs := by
  unfold joinD; rw [h]; simp only; rw [q]; simp only; rw [if_pos z]; rfl
theorem rp_six {ch : Nat} (h : ch ∈ l) : RP (sixD cs l (.str [ch])) P X = P (.int ((l.idxOf ch : Nat) : Int)) cs := by
  unfold sixD; simp only; rw [if_pos h]; rfl
theorem rp_inS {ch : Nat} : RP (inD cs (.str [ch]) (.str l)) P X = P (.bl (decide (ch ∈ l))) cs := nr rfl
theorem rp_ninS {ch : Nat} : RP (ninD cs (.str [ch]) (.str l)) P X = P (.bl (!decide (ch ∈ l))) cs := nr rfl
theorem rp_all {ds : List D} {bs : List Bool} {y : D} (h : listOf cs y = some ds) (q : blsOf ds = some bs) : RP (allB cs [y]) P X = P (.bl (bs.all id)) cs := by
  unfold allB; simp only; rw [h]; simp only; rw [q]; rfl
theorem rp_int {n : Int} (h : PySem.intText? ⟨l.toArray⟩ = some n) (q : l.length ≤ 640) : RP (intB cs [.str l]) P X = P (.int n) cs := by
  unfold intB; simp only; rw [h]; simp only; rw [if_pos q]; rfl
/-! defs -/
theorem rp_def {n : Nat} {body : MS} {ds : List D} : RP (mDef n body ds cs) P X = SP (body (ds.map some ++ List.replicate (n - ds.length) none) cs) ⟨fun _ c => P .non c, P, fun _ _ => False, fun _ _ => False, fun x fs _ c => X x fs c⟩ := by
  unfold mDef
  cases body (ds.map some ++ List.replicate (n - ds.length) none) cs <;> rfl
/-! loops -/
def WP (r : RW) (P : List D → (Cells → Prop) → Cells → Prop) (X : KX) : Prop := match r with
  | .ok ds k c => P ds k c
  | .exc n fs c => X n fs c
  | .stuck => False
theorem sp_for {tg : D → Env → Option Env} {m : MW} {body : MS} : SP (sFor tg m body env cs) K = WP (m env cs) (fun ds k c => SP (forL k tg body ds env c) K) (fun n fs c => K.xc n fs env c) := by
  unfold sFor
  cases m env cs <;> rfl
theorem wp_toW (r : R) (k : D → Cells → RW) (Q : List D → (Cells → Prop) → Cells → Prop) : WP (r.toW k) Q X = RP r (fun d c => WP (k d c) Q X) X := by cases r <;> rfl
theorem wp_r1 {Q : List D → (Cells → Prop) → Cells → Prop} : WP (wR1 a env cs) Q X = RP (a env cs) (fun d c => match d with
  | .int j => (-lim ≤ j ∧ j < lim) ∧ Q (rangeD 0 j.toNat) (fun _ => True) c
  | _ => False) X := by
  unfold wR1
  rw [wp_toW]
  congr; funext d c
  cases d with
  | int j =>
    simp only
    by_cases h : -lim ≤ j ∧ j < lim
    · rw [if_pos h]; simp [WP, h]
    · rw [if_neg h]; simp [WP, h]
  | _ => rfl
theorem wp_r2 {Q : List D → (Cells → Prop) → Cells → Prop} : WP (wR2 a b env cs) Q X = RP (a env cs) (fun d c => RP (b env c) (fun e c2 => match d, e with
  | .int i, .int j => (-lim ≤ i ∧ i < lim ∧ -lim ≤ j ∧ j < lim) ∧ Q (rangeD i (j - i).toNat) (fun _ => True) c2
  | _, _ => False) X) X := by
  unfold wR2
  rw [wp_toW]
  congr; funext d c
  rw [wp_toW]
  congr; funext e c2
  cases d <;> cases e <;> try rfl
  simp only
  rename_i i j
  by_cases h : -lim ≤ i ∧ i < lim ∧ -lim ≤ j ∧ j < lim
  · rw [if_pos h]; simp [WP, h]
  · rw [if_neg h]; simp only [WP]; simp [h]
theorem wp_seq {Q : List D → (Cells → Prop) → Cells → Prop} : WP (wSeq a env cs) Q X = RP (a env cs) (fun d c => match d with
  | .str l => Q (l.map fun ch => .str [ch]) (fun _ => True) c
  | d => match seqOf c d with
    | some ds => Q ds (fun c2 => seqOf c2 d = some ds) c
    | none => False) X := by
  unfold wSeq
  rw [wp_toW]
  congr; funext d c
  cases d <;> first | rfl | (simp only; split <;> (rename_i h; first | rfl | (rw [h]; rfl)))
theorem for_inv {chk : Cells → Prop} {tg : D → Env → Option Env} {body : MS} : ∀ {items : List D} {env : Env} {cs : Cells} (J : Nat → Env → Cells → Prop), J 0 env cs → (∀ env cs, J items.length env cs → chk cs ∧ K.nx env cs) →
    (∀ i d env cs, items[i]? = some d → J i env cs → chk cs ∧ ∃ env1, tg d env = some env1 ∧ SP (body env1 cs) { K with nx := J (i + 1), ct := J (i + 1), bk := K.nx }) → SP (forL chk tg body items env cs) K
  | [], env, cs, J, h0, hn, hs => by
    obtain ⟨h1, h2⟩ := hn env cs h0
    simp only [forL, h1, if_true]
    exact h2
  | d :: ds, env, cs, J, h0, hn, hs => by
    obtain ⟨h1, env1, h2, h3⟩ := hs 0 d env cs rfl h0
    simp only [forL, h1, if_true, h2]
    have ih : ∀ e c, J 1 e c → SP (forL chk tg body ds e c) K := fun e c hj => for_inv (items := ds) (fun i => J (i + 1)) hj (fun e c h => hn e c (by simpa using h)) fun i d e c hi h => hs (i + 1) d e c (by simpa using hi) h
    cases hb : body env1 cs with
    | nx e c => rw [hb] at h3; exact ih e c h3
    | ct e c => rw [hb] at h3; exact ih e c h3
    | bk e c => rw [hb] at h3; exact h3
    | rt d c => rw [hb] at h3; exact h3
    | exc n fs e c => rw [hb] at h3; exact h3
    | stuck => rw [hb] at h3; exact h3.elim
theorem lc_inv {chk : Cells → Prop} {tg : D → Env → Option Env} {t e : ME} : ∀ {items : List D} {env : Env} {cs : Cells} (J : Nat → List D → Cells → Prop) (acc : List D), J 0 acc cs → (∀ ds cs, J items.length ds cs → chk cs) →
    (∀ i d ds cs, items[i]? = some d → J i ds cs → chk cs ∧ ∃ env1, tg d env = some env1 ∧ RP (t env1 cs) (fun b c1 => ∃ k, b = .bl k ∧ if k = true then RP (e env1 c1) (fun y c2 => J (i + 1) (ds ++ [y]) c2) noX else J (i + 1) ds c1) noX) →
    RAP (lcL chk tg t e items env cs) (fun ds cs => J items.length (acc ++ ds) cs) X
  | [], env, cs, J, acc, h0, hn, hs => by
    have h1 := hn acc cs h0
    simp only [lcL, h1, if_true]
    simpa [RAP] using h0
  | d :: ds, env, cs, J, acc, h0, hn, hs => by
    obtain ⟨h1, env1, h2, h3⟩ := hs 0 d acc cs rfl h0
    simp only [lcL, h1, if_true, h2]
    have ih : ∀ ac c, J 1 ac c → RAP (lcL chk tg t e ds env c) (fun ds' cs => J (ds.length + 1) (ac ++ ds') cs) X := fun ac c hj => lc_inv (items := ds) (fun i => J (i + 1)) ac hj (fun e c h => hn e c (by simpa using h)) fun i d e c hi h => hs (i + 1) d e c (by simpa using hi) h
    obtain ⟨b, c1, e1, k, rfl, h4⟩ := h3.get
    rw [e1]
    cases k with
    | true =>
      rw [if_pos rfl] at h4
      obtain ⟨y, c2, e2, h5⟩ := h4.get
      simp only [e2]
      have r := ih _ _ h5
      cases hl : lcL chk tg t e ds env c2 with
      | ok ys c3 =>
        rw [hl] at r
        simp only [RAP] at r ⊢
        rw [List.length_cons]
        simpa using r
      | exc n fs c3 =>
        exfalso
        have : ∀ (ds : List D) (env : Env) (cs : Cells), lcL chk tg t e ds env cs ≠ .exc n fs c3 := by
          intro ds
          induction ds with
          | nil => intro env cs h; simp only [lcL] at h; split at h <;> cases h
          | cons d ds ih =>
            intro env cs h
            simp only [lcL] at h
            split at h
            · split at h
              · cases h
              · split at h
                · split at h
                  · split at h <;> cases h
                  · cases h
                · exact ih _ _ h
                · cases h
            · cases h
        exact this _ _ _ hl
      | stuck => rw [hl] at r; exact r.elim
    | false =>
      rw [if_neg Bool.false_ne_true] at h4
      exact ih _ _ h4
/-- one value an item, nothing touched -/
theorem lc_map {chk : Cells → Prop} {tg : D → Env → Option Env} {t e : ME} {g : D → D} : ∀ {items : List D} {env : Env} {cs : Cells}, chk cs → (∀ d ∈ items, ∃ env1, tg d env = some env1 ∧ t env1 cs = .ok (.bl true) cs ∧ e env1 cs = .ok (g d) cs) →
    lcL chk tg t e items env cs = .ok (items.map g) cs
  | [], env, cs, hc, _ => by simp [lcL, hc]
  | d :: ds, env, cs, hc, h => by
    obtain ⟨env1, h1, h2, h3⟩ := h d (by simp)
    simp only [lcL, hc, if_true, h1, h2, h3]
    rw [lc_map hc fun d hd => h d (by simp [hd])]
    rfl
theorem rp_lc {own : List Nat} {tg : D → Env → Option Env} {m : MW} {t e : ME} : RP (eLc md own tg m t e env cs) P X = WP (m env cs) (fun ds k c => RAP (lcL k tg t e ds (wipeE env own) c) (fun ys c2 => RP (mkL md c2 ys) P X) X) X := by
  unfold eLc
  cases m env cs with
  | ok ds k c => exact RAP_bind _ _
  | exc n fs c => rfl
  | stuck => rfl
theorem RAP.mono {r : RA} {Q Q' : List D → Cells → Prop} (h : RAP r Q X) (k : ∀ d cs, Q d cs → Q' d cs) : RAP r Q' X := by
  cases r with
  | ok d cs => exact k d cs h
  | exc n fs cs => exact h
  | stuck => exact h
theorem range_get {lo : Int} {n i : Nat} {d : D} (h : (rangeD lo n)[i]? = some d) : i < n ∧ d = .int (lo + (i : Int)) := by
  have hl : i < n := by simpa using (List.getElem?_eq_some_iff.mp h).1
  simp [rangeD, hl] at h
  exact ⟨hl, h.symm⟩
theorem tgN_some {i : Nat} {d : D} : tgN i d env = some (env.set i (some d)) := nr rfl
end
end L3
namespace L3
theorem rp_varM {i : Nat} {env : Env} {cs : Cells} {P : D → Cells → Prop} {X : KX} : RP (eVar i env cs) P X = match env[i]? with
  | some (some d) => P d cs
  | _ => False := by
  unfold eVar
  cases env[i]? with
  | none => rfl
  | some o => cases o <;> rfl
end L3
namespace L3
open PySem L2
theorem at3_0 {x y z : D} : atI [x, y, z] 0 = some x := nr rfl
theorem at3_1 {x y z : D} : atI [x, y, z] 1 = some y := nr rfl
theorem at3_2 {x y z : D} : atI [x, y, z] 2 = some z := nr rfl
theorem rp_ixLocM {cs : Cells} {n : Nat} {i : Int} {P : D → Cells → Prop} {X : KX} : RP (ixD cs (.loc n) (.int i)) P X = match listOf cs (.loc n) with
  | some ds => (match atI ds i with
    | some d => P d cs
    | none => False)
  | none => False := by
  unfold ixD
  simp only [seqOf]
  cases listOf cs (.loc n) with
  | none => rfl
  | some ds =>
    simp only
    cases atI ds i <;> rfl
theorem loc_list {cs : Cells} {n : Nat} {ds : List D} (h : cs[n]? = some (.lst ds)) : listOf cs (.loc n) = some ds := by
  simp only [listOf, h]
/-- the box of the draws -/
def Bx (cs : Cells) (n B : Nat) : Prop := ∃ a b c : Int, cs[n]? = some (.lst [.int a, .int b, .int c]) ∧ 0 ≤ b ∧ b < 2147483648 ∧ 0 ≤ c ∧ c ≤ B
theorem Bx.le {cs : Cells} {n B B' : Nat} (h : Bx cs n B) (l : B ≤ B') : Bx cs n B' := by
  obtain ⟨a, b, c, h1, h2, h3, h4, h5⟩ := h
  exact ⟨a, b, c, h1, h2, h3, h4, by omega⟩
theorem put_at {cs : Cells} {n j : Nat} {k : Int} {ds : List D} {v : D} (h : cs[n]? = some (.lst ds)) (hj : ixN ds.length k = some j) : ∃ c4, putL cs (.loc n) (.int k) v = some c4 ∧ c4[n]? = some (.lst (ds.set j v)) ∧ (∀ m, m ≠ n → c4[m]? = cs[m]?) ∧ c4.length = cs.length := by
  have hl : n < cs.length := (List.getElem?_eq_some_iff.mp h).1
  refine ⟨cs.set n (.lst (ds.set j v)), ?_, List.getElem?_set_self hl, fun m hm => List.getElem?_set_ne (Ne.symm hm), by simp⟩
  unfold putL
  simp only [h, hj]
end L3
namespace L3
open PySem L2
theorem rp_dict {md : Bool} {m : MA} {env : Env} {cs : Cells} {P : D → Cells → Prop} {X : KX} : RP (eDict md m env cs) P X = RAP (m env cs) (fun ds c => match kvD ds with
  | some kds => if kds.length ≤ 15 then RP (mkD md c (mergeD [] kds)) P X else False
  | none => False) X := by
  unfold eDict
  rw [RAP_bind]
  congr; funext ds c
  cases kvD ds with
  | none => rfl
  | some k => simp only; split <;> rfl
theorem rp_mkDf {cs : Cells} {ds : List (Kd × D)} {P : D → Cells → Prop} {X : KX} : RP (mkD false cs ds) P X = P (.dct ds) cs := nr rfl
theorem len_ite {a b : Nat} {p : Prop} (h : a ≤ b) : (if a ≤ b then p else False) = p := if_pos h
end L3
namespace L3
open PySem L2
theorem rp_ixAll {cs : Cells} {ds : List D} {i : Int} {P : D → Cells → Prop} {X : KX} (h0 : 0 ≤ i) (h1 : i < (ds.length : Int)) (h : ∀ d ∈ ds, P d cs) : RP (ixD cs (.lst ds) (.int i)) P X := by
  obtain ⟨d, e, m, _⟩ := at_mid h0 h1
  rw [rp_ixL e]
  exact h d m
end L3
namespace L3
open PySem L2
theorem kit_ss : kitB "str" "str" = some true := by decide +kernel
theorem kit_ns : ∀ u ∈ ["NoneType", "bool", "int", "list", "tuple", "dict"], kitB u "str" = some false := by decide +kernel
theorem isi_str {cs : Cells} {l : List Nat} {P : D → Cells → Prop} {X : KX} : RP (isiD "str" cs (.str l)) P X = P (.bl true) cs := rp_isi rfl kit_ss
theorem isi_nstr {cs : Cells} {d : D} {P : D → Cells → Prop} {X : KX} {u : String} (h : tyC cs d = some u) (q : u ∈ ["NoneType", "bool", "int", "list", "tuple", "dict"]) : RP (isiD "str" cs d) P X = P (.bl false) cs := rp_isi h (kit_ns u q)
theorem RP_br {k : Bool} {cs : Cells} {x y : Cells → R} {P : D → Cells → Prop} {X : KX} : RP (brD (.bl k) cs x y) P X = bif k then RP (x cs) P X else RP (y cs) P X := by cases k <;> rfl
end L3
namespace L3
open PySem L2
theorem blsOf_map : ∀ bs : List Bool, blsOf (bs.map D.bl) = some bs
  | [] => rfl
  | b :: r => by simp only [List.map_cons, blsOf, blsOf_map r]
theorem rp_allL {cs : Cells} {bs : List Bool} {P : D → Cells → Prop} {X : KX} : RP (allB cs [.lst (bs.map D.bl)]) P X = P (.bl (bs.all id)) cs := rp_all rfl (blsOf_map bs)
theorem atI_0 {α : Type} {x : α} {l : List α} : atI (x :: l) 0 = some x := by
  unfold atI ixN
  rw [if_pos (by decide), if_pos (by simp)]
  rfl
end L3
namespace L3
open PySem L2
theorem seq_lst {cs : Cells} {l : List D} : seqOf cs (.lst l) = some l := nr rfl
theorem seq_scr {cs : Cells} {l : List Int} : seqOf cs (.scr l) = some (l.map .int) := nr rfl
theorem seq_tup {cs : Cells} {l : List D} : seqOf cs (.tup l) = some l := nr rfl
theorem joinL_nil : ∀ ls : List (List Nat), TL.joinL [] ls = ls.flatten
  | [] => rfl
  | [p] => by simp [TL.joinL]
  | p :: q :: r => by
    show p ++ ([] ++ TL.joinL [] (q :: r)) = _
    rw [joinL_nil (q :: r)]; simp
theorem strsOf_app : ∀ {ds es : List D} {ls ms : List (List Nat)}, strsOf ds = some ls → strsOf es = some ms → strsOf (ds ++ es) = some (ls ++ ms)
  | [], es, ls, ms, h, q => by simp only [strsOf, Option.some.injEq] at h; subst h; exact q
  | d :: ds, es, ls, ms, h, q => by
    cases d with
    | str l =>
      simp only [strsOf] at h
      split at h
      · rename_i k hk
        simp only [Option.some.injEq] at h
        subst h
        simp only [List.cons_append, strsOf, strsOf_app hk q]
      · cases h
    | _ => cases h
/-- texts of one sign each -/
theorem ones_len {ls : List (List Nat)} (h : ∀ z ∈ ls, z.length = 1) : ls.flatten.length = ls.length := by
  induction ls with
  | nil => rfl
  | cons a r ih =>
    rw [List.flatten_cons, List.length_append, h a (by simp), ih fun z hz => h z (by simp [hz]), List.length_cons]
    omega
theorem ones_sum {ls : List (List Nat)} (h : ∀ z ∈ ls, z.length = 1) : (ls.map (·.length)).sum = ls.length := by
  induction ls with
  | nil => rfl
  | cons a r ih =>
    rw [List.map_cons, List.sum_cons, h a (by simp), ih fun z hz => h z (by simp [hz]), List.length_cons]
    omega
theorem atS {l : List Nat} {i : Int} (h0 : 0 ≤ i) (h1 : i < l.length) : ∃ ch, atI l i = some ch ∧ ch ∈ l := by
  obtain ⟨d, e, m, _⟩ := at_mid h0 h1
  exact ⟨d, e, m⟩
theorem Bx.new {cs : Cells} {a b : Int} (h : 0 ≤ b) (q : b < 2147483648) : Bx (cs ++ [.lst [.int a, .int b, .int 0]]) cs.length 0 :=
  ⟨a, b, 0, by simp, h, q, by decide, by decide⟩
theorem log2_lt {i : Int} (h : i.natAbs < 2 ^ 1000) : i.natAbs.log2 < 1920 := by
  by_cases h0 : i.natAbs = 0
  · rw [h0]; decide
  · have := (Nat.log2_lt h0).mpr h
    omega
theorem RAP.get {r : RA} {Q : List D → Cells → Prop} (h : RAP r Q noX) : ∃ d cs, r = .ok d cs ∧ Q d cs := by
  cases r with
  | ok d cs => exact ⟨d, cs, rfl, h⟩
  | exc n fs cs => exact h.elim
  | stuck => exact h.elim
end L3
namespace L3
open PySem L2
theorem ro_none {env : Env} {cs : Cells} : oNone env cs = some (none, cs) := nr rfl
theorem ro_varM {i : Nat} {env : Env} {cs : Cells} : oSome (eVar i) env cs = match env[i]? with
  | some (some (.int j)) => some (some j, cs)
  | _ => none := by
  unfold oSome eVar
  cases env[i]? with
  | none => rfl
  | some o => cases o with
    | none => rfl
    | some d => cases d <;> rfl
theorem ro_varA {i : Nat} {n : Int} {md : Bool} {env : Env} {cs : Cells} : oSome (op2 (addD md) (eVar i) (eC (.int n))) env cs = match env[i]? with
  | some (some (.int j)) => some (some (j + n), cs)
  | some (some _) => oSome (op2 (addD md) (eVar i) (eC (.int n))) env cs
  | _ => none := by
  cases h : env[i]? with
  | none => simp [oSome, op2, eVar, h]
  | some o => cases o with
    | none => simp [oSome, op2, eVar, h]
    | some d => cases d <;> first | rfl | (simp [oSome, op2, eVar, h, eC, addD])
theorem strsOf_len : ∀ {ds : List D} {ls : List (List Nat)}, strsOf ds = some ls → ds.length = ls.length
  | [], ls, h => by simp only [strsOf, Option.some.injEq] at h; subst h; rfl
  | d :: ds, ls, h => by
    cases d with
    | str l =>
      simp only [strsOf] at h
      split at h
      · rename_i k hk
        simp only [Option.some.injEq] at h
        subst h
        simp [strsOf_len hk]
      · cases h
    | _ => cases h
end L3
namespace L3
open PySem L2
theorem lc_filter {chk : Cells → Prop} {tg : D → Env → Option Env} {t e : ME} {g : D → D} {p : D → Bool} : ∀ {items : List D} {env : Env} {cs : Cells}, chk cs → (∀ d ∈ items, ∃ env1, tg d env = some env1 ∧ t env1 cs = .ok (.bl (p d)) cs ∧ e env1 cs = .ok (g d) cs) →
    lcL chk tg t e items env cs = .ok ((items.filter p).map g) cs
  | [], env, cs, hc, _ => by simp [lcL, hc]
  | d :: ds, env, cs, hc, h => by
    obtain ⟨env1, h1, h2, h3⟩ := h d (by simp)
    have ih := lc_filter (g := g) (p := p) hc fun d hd => h d (List.mem_cons_of_mem _ hd)
    simp only [lcL, hc, if_true, h1, h2]
    cases hp : p d with
    | true => simp only [h3, ih, List.filter_cons, hp, if_true, List.map_cons]
    | false => simp only [ih, List.filter_cons, hp, Bool.false_eq_true, if_false]
theorem py0s_ones : ∀ l : List Nat, py0s (l.map fun c => D.str [c]) = some (l.map fun c => PyData.str ⟨#[c]⟩)
  | [] => rfl
  | c :: r => by simp only [List.map_cons, py0s, py0, py0s_ones r]
theorem lay_ones : ∀ {l : List Nat}, (∀ c ∈ l, c < 0x110000) → PyData.canLayAll0 (l.map fun c => PyData.str ⟨#[c]⟩) = true
  | [], _ => rfl
  | c :: r, h => by
    simp only [List.map_cons, PyData.canLayAll0, PyData.canLay0, lay_ones fun c hc => h c (List.mem_cons_of_mem _ hc), Bool.and_true]
    have := h c (by simp)
    simpa [PyData.strOk] using this
theorem dep_ones : ∀ l : List Nat, PyData.depthAll (l.map fun c => PyData.str ⟨#[c]⟩) = 0
  | [] => rfl
  | c :: r => by simp only [List.map_cons, PyData.depthAll, PyData.depth, dep_ones r, Nat.max_self]
theorem eq_ones_nil {l : List Nat} {cs : Cells} {P : D → Cells → Prop} {X : KX} (h : ∀ c ∈ l, c < 0x110000) : RP (eqD cs (.lst (l.map fun c => D.str [c])) (.lst [])) P X = P (.bl l.isEmpty) cs := by
  have e1 : eqB cs (.lst (l.map fun c => D.str [c])) (.lst []) = some l.isEmpty := by
    unfold eqB
    simp only [pyOf, py0, py0s_ones, py0s, Option.map_some]
    have s1 : SeqAt.shaped (PyData.list (l.map fun c => PyData.str ⟨#[c]⟩)) = true := by
      unfold SeqAt.shaped
      simp only [PyData.canLay0, lay_ones h, PyData.depth, dep_ones, Bool.true_and]
      decide
    have s2 : SeqAt.shaped (PyData.list []) = true := by decide
    rw [s1, s2]
    cases l <;> simp [PyData.eqv, PyData.eqvAll]
  unfold eqD
  rw [e1]; rfl
end L3
namespace L3
open PySem L2
theorem kit_int : ∀ u ∈ ["NoneType", "bool", "int", "str", "list", "tuple", "dict"], kitB u "int" = some (decide (u = "int" ∨ u = "bool")) := by decide +kernel
theorem kit_bool : ∀ u ∈ ["NoneType", "bool", "int", "str", "list", "tuple", "dict"], kitB u "bool" = some (decide (u = "bool")) := by decide +kernel
theorem isi_int {cs : Cells} {d : D} {P : D → Cells → Prop} {X : KX} {u : String} (h : tyC cs d = some u) (q : u ∈ ["NoneType", "bool", "int", "str", "list", "tuple", "dict"]) : RP (isiD "int" cs d) P X = P (.bl (decide (u = "int" ∨ u = "bool"))) cs := rp_isi h (kit_int u q)
theorem isi_bool {cs : Cells} {d : D} {P : D → Cells → Prop} {X : KX} {u : String} (h : tyC cs d = some u) (q : u ∈ ["NoneType", "bool", "int", "str", "list", "tuple", "dict"]) : RP (isiD "bool" cs d) P X = P (.bl (decide (u = "bool"))) cs := rp_isi h (kit_bool u q)
theorem rp_isB {k : Option Bool} {cs : Cells} {d : D} {P : D → Cells → Prop} {X : KX} : RP (isB k cs d) P X = P (.bl (match k, d with
  | none, .non => true
  | some b, .bl b' => decide (b' = b)
  | _, _ => false)) cs := nr rfl
theorem rp_isNB {k : Option Bool} {cs : Cells} {d : D} {P : D → Cells → Prop} {X : KX} : RP (isNB k cs d) P X = P (.bl !(match k, d with
  | none, .non => true
  | some b, .bl b' => decide (b' = b)
  | _, _ => false)) cs := nr rfl
theorem rp_ixSA {l : List Nat} {cs : Cells} {i : Int} {P : D → Cells → Prop} {X : KX} (h : l.length ≤ sizeLine) (h0 : 0 ≤ i) (h1 : i < (l.length : Int)) (k : ∀ ch ∈ l, P (.str [ch]) cs) : RP (ixD cs (.str l) (.int i)) P X := by
  obtain ⟨ch, e, m⟩ := atS h0 h1
  rw [rp_ixS h e]
  exact k ch m
theorem cutL_mem {α : Type} {xs : List α} {lo hi : Option Int} {x : α} (h : x ∈ cutL xs lo hi) : x ∈ xs := by
  unfold cutL at h
  exact List.mem_of_mem_drop (List.mem_of_mem_take h)
end L3
namespace L3
open PySem L2
theorem rp_anyL {cs : Cells} {bs : List Bool} {P : D → Cells → Prop} {X : KX} : RP (anyB cs [.lst (bs.map D.bl)]) P X = P (.bl (bs.any id)) cs := by
  unfold anyB
  simp only [listOf, blsOf_map]
  rfl
theorem rp_words {md : Bool} {cs : Cells} {l : List Nat} {P : D → Cells → Prop} {X : KX} (h : l.length + 2 ≤ sizeLine) : RP (wordsD md cs l) P X = RP (mkL md cs ((wordsL l).map D.str)) P X := by
  unfold wordsD
  rw [if_pos h]
theorem rp_lower {cs : Cells} {l k : List Nat} {P : D → Cells → Prop} {X : KX} (h : l.length ≤ 5592405) (e : codes (Txt.lower ⟨l.toArray⟩) = k) : RP (lowerD cs l) P X = P (.str k) cs := by
  unfold lowerD
  rw [if_pos h, e]; rfl
theorem low1 : ∀ c, c < 128 → codes (Txt.lower ⟨[c].toArray⟩) = [if 65 ≤ c ∧ c ≤ 90 then c + 32 else c] := by decide +kernel
theorem cut_to {α : Type} {xs : List α} {i : Int} (h0 : 0 ≤ i) : cutL xs none (some i) = xs.take i.toNat := by
  have e : HT.sIx xs.length xs.length (some i) = min i.toNat xs.length := by unfold HT.sIx; simp only; rw [if_neg (by omega)]
  have e0 : HT.sIx xs.length 0 none = 0 := rfl
  unfold cutL
  rw [e, e0, List.drop_zero, Nat.sub_zero]
  by_cases h : i.toNat ≤ xs.length
  · rw [Nat.min_eq_left h]
  · rw [Nat.min_eq_right (by omega), List.take_length, List.take_of_length_le (by omega)]
theorem cut_from {α : Type} {xs : List α} {i : Int} (h0 : 0 ≤ i) : cutL xs (some i) none = xs.drop i.toNat := by
  have e : HT.sIx xs.length 0 (some i) = min i.toNat xs.length := by unfold HT.sIx; simp only; rw [if_neg (by omega)]
  have e0 : HT.sIx xs.length xs.length none = xs.length := rfl
  unfold cutL
  rw [e, e0]
  by_cases h : i.toNat ≤ xs.length
  · rw [Nat.min_eq_left h, List.take_of_length_le (by simp)]
  · rw [Nat.min_eq_right (by omega), List.drop_length, List.drop_eq_nil_of_le (by omega), List.take_nil]
theorem cut_back {α : Type} {xs : List α} {i : Int} (h0 : i < 0) : cutL xs (some i) none = xs.drop (i + xs.length).toNat := by
  have e : HT.sIx xs.length 0 (some i) = (i + xs.length).toNat := by unfold HT.sIx; simp only; rw [if_pos h0]
  have e0 : HT.sIx xs.length xs.length none = xs.length := rfl
  unfold cutL
  rw [e, e0, List.take_of_length_le (by simp)]
end L3
namespace L3
open PySem L2
theorem rp_lower1 {cs : Cells} {c : Nat} {P : D → Cells → Prop} {X : KX} (h : c < 128) : RP (lowerD cs [c]) P X = P (.str [if 65 ≤ c ∧ c ≤ 90 then c + 32 else c]) cs := rp_lower (by simp) (low1 c h)
theorem strsOf_map (ls : List (List Nat)) : strsOf (ls.map D.str) = some ls := by
  induction ls with
  | nil => rfl
  | cons a r ih => simp only [List.map_cons, strsOf, ih]
theorem rep_str {l : List Nat} (h : l.length ≤ 100000) (q : ∀ c ∈ l, c < 128) : ∃ z, reprC (.str l) = some z := by
  refine ⟨codes (reprText ⟨l.toArray⟩), ?_⟩
  show (if _ then _ else _) = _
  rw [if_pos]
  have := StrLaws.reprText_len ⟨l.toArray⟩ (fun c hc => Nat.lt_of_lt_of_le (q c (by simpa using hc)) (by decide))
  have e2 : (⟨l.toArray⟩ : Str).length = l.length := str_len l
  rw [sizeLine_eq]; omega
end L3
namespace L3
open PySem L2
theorem ro_c {i : Int} {env : Env} {cs : Cells} : oSome (eC (.int i)) env cs = some (some i, cs) := nr rfl
theorem ro_nc {i : Int} {env : Env} {cs : Cells} : oSome (op1 negD (eC (.int i))) env cs = some (some (-i), cs) := nr rfl
end L3

/-! the calculus, for errors, cells that grow, texts' methods -/
namespace L3
open PySem L2
section
variable {P : D → Cells → Prop} {X : KX} {K : Cn} {env : Env} {cs : Cells} {a b c : ME} {ms : MA}
theorem sp_try {isa : Str → Str → Option Bool} {m : MS} {hs : List HC} : SP (sTry isa m hs env cs) K = SP (m env cs) { K with xc := fun n fs e c => SP (catchH isa n fs e c hs) K } := by
  unfold sTry; cases m env cs <;> rfl
theorem sp_raise {x : Str} {fns : List Str} : SP (sRaise x fns ms env cs) K = RAP (ms env cs) (fun ds c => if ds.length = fns.length then K.xc x (exFs fns ds) env c else False) (fun n fs c => K.xc n fs env c) := by
  unfold sRaise
  cases ms env cs with
  | ok ds c => simp only [RAP]; split <;> rfl
  | exc => rfl
  | stuck => rfl
theorem sp_asgT {f : D → Env → Option Env} : SP (sAsgT f a env cs) K = RP (a env cs) (fun d c => match f d env with
  | some e1 => K.nx e1 c
  | none => False) (fun n fs c => K.xc n fs env c) := by
  unfold sAsgT
  rw [SP_toS]
  congr; funext d c
  cases f d env <;> rfl
theorem sp_par {is : List Nat} : SP (sPar is ms env cs) K = RAP (ms env cs) (fun ds c => match tgTs is ds env with
  | some e1 => K.nx e1 c
  | none => False) (fun n fs c => K.xc n fs env c) := by
  unfold sPar
  cases ms env cs with
  | ok ds c => simp only [RAP]; cases tgTs is ds env <;> rfl
  | exc => rfl
  | stuck => rfl
theorem rp_push : RP (ePush a b env cs) P X = RP (a env cs) (fun o c1 => if isLc c1 o = true then RP (b env c1) (fun v c2 => match pushL c2 o v with
  | some c3 => P .non c3
  | none => False) X else False) X := by
  unfold ePush
  rw [RP_bind]
  congr; funext o c1
  by_cases h : isLc c1 o = true
  · rw [if_pos h, if_pos h, RP_bind]
    congr; funext v c2
    cases pushL c2 o v <;> rfl
  · rw [if_neg h, if_neg h]; rfl
theorem sp_putK : SP (sPutK a b c env cs) K = RP (c env cs) (fun v c1 => RP (a env c1) (fun o c2 => RP (b env c2) (fun i c3 => match putC c3 o i v with
  | some c4 => K.nx env c4
  | none => False) (fun n fs c => K.xc n fs env c)) (fun n fs c => K.xc n fs env c)) (fun n fs c => K.xc n fs env c) := by
  unfold sPutK
  simp only [SP_toS]
  congr; funext v c1; congr; funext o c2; congr; funext i c3
  cases putC c3 o i v <;> rfl
variable {d x y : D} {l k : List Nat}
theorem rp_rev (h : l.length ≤ sizeLine) : RP (revD cs (.str l)) P X = P (.str l.reverse) cs := by
  show RP (if _ then _ else _) P X = _
  rw [if_pos h]; rfl
theorem rp_inX {v : Bool} (h : inBX cs x y = some v) : RP (inX cs x y) P X = P (.bl v) cs := by
  unfold inX; rw [h]; rfl
theorem rp_ninX {v : Bool} (h : inBX cs x y = some v) : RP (ninX cs x y) P X = P (.bl !v) cs := by
  unfold ninX; rw [h]; rfl
theorem rp_reprX {z : List Nat} (h : reprBD cs [d] = .ok (.str z) cs) : RP (reprBD cs [d]) P X = P (.str z) cs := by
  rw [h]; rfl
theorem cnt_count (c : Nat) (l : List Nat) : PyProof.Rows.cnt c l = (l.count c : Nat) := by
  induction l with
  | nil => rfl
  | cons a r ih =>
    rw [PyProof.Rows.cnt_cons, ih, List.count_cons]
    by_cases h : a = c <;> simp [h] <;> omega
theorem rp_cnt {c : Nat} : RP (cntD cs l (.str [c])) P X = P (.int (l.count c : Nat)) cs := by
  show P (.int (Txt.count (mk l) (mk [c]))) cs = _
  rw [show Txt.count (mk l) (mk [c]) = (l.count c : Nat) from (PyProof.Rows.count_cnt (mk l) c).trans (cnt_count c l)]
theorem rp_starts : RP (startsD cs l (.str k)) P X = P (.bl (Txt.startswith (mk l) (mk k))) cs := nr rfl
theorem rp_ends : RP (endsD cs l (.str k)) P X = P (.bl (Txt.endswith (mk l) (mk k))) cs := nr rfl
theorem codes_len (x : Str) : (codes x).length = x.length := by
  unfold codes; first | rfl | simp [PySem.Str.length]
theorem rp_rsc (h : l.length ≤ sizeLine) (q : ∀ z : List Nat, z.length ≤ l.length → P (.str z) cs) : RP (rscD cs l (.str k)) P X := by
  show RP (if _ then _ else _) P X
  rw [if_pos h]
  refine q _ ?_
  rw [codes_len]
  have := PyProof.Rows.len_stripBy (mk k).cps.contains false true (mk l)
  rw [show (mk l).length = l.length from str_len l] at this
  exact this
theorem rp_lsc (h : l.length ≤ sizeLine) (q : ∀ z : List Nat, z.length ≤ l.length → P (.str z) cs) : RP (lscD cs l (.str k)) P X := by
  show RP (if _ then _ else _) P X
  rw [if_pos h]
  refine q _ ?_
  rw [codes_len]
  have := PyProof.Rows.len_stripBy (mk k).cps.contains true false (mk l)
  rw [show (mk l).length = l.length from str_len l] at this
  exact this
/-- .. and its errors -/
theorem RP.monoX {P' : D → Cells → Prop} {X' : KX} {r : R} (h : RP r P X) (k : ∀ d cs, P d cs → P' d cs) (kx : ∀ n fs cs, X n fs cs → X' n fs cs) : RP r P' X' := by
  cases r with
  | ok d cs => exact k d cs h
  | exc n fs cs => exact kx _ _ _ h
  | stuck => exact h
end
theorem RP.eq {r : R} {x : D} {c0 : Cells} (h : RP r (fun d c => d = x ∧ c = c0) noX) : r = .ok x c0 := by
  obtain ⟨d, c, e, rfl, rfl⟩ := h.get
  exact e
theorem wipeE_len {env : Env} : ∀ {vs : List Nat}, (wipeE env vs).length = env.length
  | [] => rfl
  | v :: vs => by simp only [wipeE, List.length_set, wipeE_len (vs := vs)]
theorem cut_mid {α : Type} {xs : List α} {i j : Int} (h0 : 0 ≤ i) (h1 : 0 ≤ j) : cutL xs (some i) (some j) = (xs.drop i.toNat).take (j.toNat - i.toNat) := by
  have e : HT.sIx xs.length 0 (some i) = min i.toNat xs.length := by unfold HT.sIx; simp only; rw [if_neg (by omega)]
  have e2 : HT.sIx xs.length xs.length (some j) = min j.toNat xs.length := by unfold HT.sIx; simp only; rw [if_neg (by omega)]
  unfold cutL
  rw [e, e2]
  by_cases h : i.toNat ≤ xs.length
  · rw [Nat.min_eq_left h]
    by_cases q : j.toNat ≤ xs.length
    · rw [Nat.min_eq_left q]
    · rw [Nat.min_eq_right (a := j.toNat) (by omega), List.take_of_length_le (by simp), List.take_of_length_le (by simp; omega)]
  · rw [Nat.min_eq_right (a := i.toNat) (by omega), List.drop_length, List.drop_eq_nil_of_le (as := xs) (i := i.toNat) (by omega), List.take_nil, List.take_nil]
theorem rp_ixT {ds : List D} {x : D} {i : Int} {cs : Cells} {P : D → Cells → Prop} {X : KX} (q : atI ds i = some x) : RP (ixD cs (.tup ds) (.int i)) P X = P x cs := by
  show RP (match atI ds i with | some d => _ | none => _) P X = _
  rw [q]; rfl
/-! the clauses -/
theorem sp_hit {isa : Str → Str → Option Bool} {n : Str} {i : Nat} {m : HM} {r : List HC} {fs : List (Str × D)} {env : Env} {cs : Cells} {K : Cn} (h : isa n n = some true) (hi : i < env.length) : SP (catchH isa n fs env cs ((n, some i, m) :: r)) K = SP (clrS (some i) (m fs (env.set i none) cs)) K := by
  rw [catchH, if_pos ⟨rfl, h, hi⟩]
theorem sp_miss {isa : Str → Str → Option Bool} {n x : Str} {oi : Option Nat} {m : HM} {r : List HC} {fs : List (Str × D)} {env : Env} {cs : Cells} {K : Cn} (h : isa n x = some false) : SP (catchH isa n fs env cs ((x, oi, m) :: r)) K = SP (catchH isa n fs env cs r) K := by
  cases oi with
  | none => rw [catchH, h]
  | some i => rw [catchH, if_neg (fun q => by rw [h] at q; exact absurd q.2.1 (by decide)), if_pos h]
theorem sp_clr {oi : Option Nat} {r : R} {env : Env} {K : Cn} : SP (clrS oi (r.toS env fun d c => .rt d c)) K = RP r (fun d c => K.rt d c) (fun _ _ _ => False) := by
  cases r <;> rfl
theorem rp_he2 {m m2 : List (Str × D) → Cells → R} {fs : List (Str × D)} {cs : Cells} {P : D → Cells → Prop} {X : KX} : RP (he2 m m2 fs cs) P X = RP (m fs cs) (fun x c1 => RP (m2 fs c1) (fun y c2 => P (.lst [x, y]) c2) X) X := by
  unfold he2
  simp only [RP_bind]
  have e : ∀ (x y : D) (c : Cells), RP (mkL false c [x, y]) P X = P (.lst [x, y]) c := fun x y c => rp_mkLf (by rw [sizeLine_eq]; simp)
  simp only [e]
theorem rp_fld {f : Str} {d : D} {r : List (Str × D)} {cs : Cells} {P : D → Cells → Prop} {X : KX} : RP (fldD f ((f, d) :: r) cs) P X = P d cs := by
  simp [fldD, List.lookup, RP]
theorem rp_fldN {f g : Str} {d : D} {r : List (Str × D)} {cs : Cells} {P : D → Cells → Prop} {X : KX} (h : (f == g) = false) : RP (fldD f ((g, d) :: r) cs) P X = RP (fldD f r cs) P X := by
  unfold fldD; rw [List.lookup, h]
theorem kit_list : ∀ u ∈ ["NoneType", "bool", "int", "str", "list", "tuple", "dict"], kitB u "list" = some (decide (u = "list")) := by decide +kernel
theorem kit_dict : ∀ u ∈ ["NoneType", "bool", "int", "str", "list", "tuple", "dict"], kitB u "dict" = some (decide (u = "dict")) := by decide +kernel
theorem isi_list {cs : Cells} {d : D} {P : D → Cells → Prop} {X : KX} {u : String} (h : tyC cs d = some u) (q : u ∈ ["NoneType", "bool", "int", "str", "list", "tuple", "dict"]) : RP (isiD "list" cs d) P X = P (.bl (decide (u = "list"))) cs := rp_isi h (kit_list u q)
theorem isi_dict {cs : Cells} {d : D} {P : D → Cells → Prop} {X : KX} {u : String} (h : tyC cs d = some u) (q : u ∈ ["NoneType", "bool", "int", "str", "list", "tuple", "dict"]) : RP (isiD "dict" cs d) P X = P (.bl (decide (u = "dict"))) cs := rp_isi h (kit_dict u q)
theorem rp_mkDt {cs : Cells} {ds : List (Kd × D)} {P : D → Cells → Prop} {X : KX} : RP (mkD true cs ds) P X = P (.loc cs.length) (cs ++ [.dct ds]) := nr rfl
/-! a cell's data -/
def pyC : Cell → Option PyData
  | .lst l => (py0s l).map .list
  | .dct l => (py0k l).map .dict
  | _ => none
theorem py_loc {cs : Cells} {n : Nat} {c : Cell} {p : PyData} (h : cs[n]? = some c) (q : pyC c = some p) : pyOf cs (.loc n) = some p := by
  simp only [pyOf, h]
  cases c <;> first | exact q | cases q
def repOk (c : Cell) : Bool := match pyC c with
  | some p => decide (p.showable = true ∧ p.depth ≤ 60 ∧ p.shown.length ≤ sizeLine)
  | none => false
def repOkD (d : D) : Bool := match py0 d with
  | some p => decide (p.showable = true ∧ p.depth ≤ 60 ∧ p.shown.length ≤ sizeLine)
  | none => false
theorem rep_tup {cs : Cells} {t : List D} (q : repOkD (.tup t) = true) : ∃ z, reprBD cs [.tup t] = .ok (.str z) cs := by
  unfold repOkD at q
  split at q
  · rename_i p hp
    have q := of_decide_eq_true q
    refine ⟨codes p.shown, ?_⟩
    have hp' : pyOf cs (.tup t) = some p := hp
    unfold reprBD
    simp only [reprC, hp', if_pos q]
  · cases q
theorem rep_loc {cs : Cells} {n : Nat} {c : Cell} (h : cs[n]? = some c) (q : repOk c = true) : ∃ z, reprBD cs [.loc n] = .ok (.str z) cs := by
  unfold repOk at q
  split at q
  · rename_i p hp
    have q := of_decide_eq_true q
    refine ⟨codes p.shown, ?_⟩
    unfold reprBD
    simp only [reprC, py_loc h hp, if_pos q]
  · cases q
/-- a loop without break -/
theorem for_invN {K : Cn} {chk : Cells → Prop} {tg : D → Env → Option Env} {body : MS} {items : List D} {env : Env} {cs : Cells} (J : Nat → Env → Cells → Prop) (h0 : J 0 env cs) (hn : ∀ env cs, J items.length env cs → chk cs ∧ K.nx env cs)
    (hs : ∀ i d env cs, items[i]? = some d → J i env cs → chk cs ∧ ∃ env1, tg d env = some env1 ∧ SP (body env1 cs) ⟨J (i + 1), K.rt, fun _ _ => False, J (i + 1), K.xc⟩) : SP (forL chk tg body items env cs) K := by
  refine for_inv J h0 hn fun i d env cs hi hj => ?_
  obtain ⟨c, env1, e, h⟩ := hs i d env cs hi hj
  refine ⟨c, env1, e, ?_⟩
  revert h
  cases body env1 cs <;> first | exact id | exact False.elim
end L3

/-! the calculus, for instances -/
namespace L3
open PySem L2
section
variable {P : D → Cells → Prop} {X : KX} {K : Cn} {env : Env} {cs : Cells} {a b c : ME} {ms : MA} {x f m : Str} {mf : MF}
theorem rp_eFld : RP (eFld x f a env cs) P X = RP (a env cs) (fun o c1 => match insAt c1 o with
  | some (_, y, fs) => if y = x then (match fs.lookup f with
    | some d => P d c1
    | none => False) else False
  | none => False) X := by
  unfold eFld
  rw [RP_bind]
  congr; funext o c1
  cases insAt c1 o with
  | none => rfl
  | some q =>
    obtain ⟨_, y, fs⟩ := q
    simp only
    split
    · cases fs.lookup f <;> rfl
    · rfl
theorem sp_fst : SP (sFst x f a b env cs) K = RP (b env cs) (fun v c1 => RP (a env c1) (fun o c2 => match insAt c2 o with
  | some (n, y, fs) => if y = x ∧ fs.length < 1000 then K.nx env (c2.set n (.ins y (putFD f v fs))) else False
  | none => False) (fun n fs c => K.xc n fs env c)) (fun n fs c => K.xc n fs env c) := by
  unfold sFst
  simp only [SP_toS]
  congr; funext v c1; congr; funext o c2
  cases insAt c2 o with
  | none => rfl
  | some q =>
    obtain ⟨n, y, fs⟩ := q
    simp only
    split <;> rfl
theorem rp_eMeth : RP (eMeth x m mf a ms env cs) P X = RP (a env cs) (fun o c1 => match insAt c1 o with
  | some (n, y, fs) => if y = x ∧ fs.lookup m = none then RAP (ms env c1) (fun ds c2 => RP (mf (.loc n :: ds) c2) P X) X else False
  | none => False) X := by
  unfold eMeth
  rw [RP_bind]
  congr; funext o c1
  cases insAt c1 o with
  | none => rfl
  | some q =>
    obtain ⟨n, y, fs⟩ := q
    simp only
    split
    · exact RAP_bind _ _
    · rfl
theorem rp_eMake : RP (eMake x mf ms env cs) P X = RAP (ms env cs) (fun ds c1 => RP (mf (.loc c1.length :: ds) (c1 ++ [.ins x []])) (fun r c2 => match r with
  | .non => P (.loc c1.length) c2
  | _ => False) X) X := by
  unfold eMake
  rw [RAP_bind]
  congr; funext ds c1
  rw [RP_bind]
  congr; funext r c2
  cases r <;> rfl
theorem ins_at {n : Nat} {y : Str} {fs : List (Str × D)} (h : cs[n]? = some (.ins y fs)) : insAt cs (.loc n) = some (n, y, fs) := by
  simp only [insAt, h]
theorem rp_isoT {n : Nat} {fs : List (Str × D)} (h : cs[n]? = some (.ins x fs)) : RP (isoD x cs (.loc n)) P X = P (.bl true) cs := by
  unfold isoD
  rw [ins_at h]
  simp only [if_true]
  rfl
theorem rp_isoF {d : D} {u : String} (h : insAt cs d = none) (q : tyC cs d = some u) (hu : u ∈ ["NoneType", "bool", "int", "str", "list", "tuple", "dict"]) : RP (isoD x cs d) P X = P (.bl false) cs := by
  unfold isoD
  rw [h]
  simp only [q]
  rw [if_pos hu]; rfl
end
end L3

/-! the calculus, for sets, list(), enumerate, remove -/
namespace L3
open PySem L2
section
variable {P : D → Cells → Prop} {X : KX} {K : Cn} {env : Env} {cs : Cells} {a b c : ME} {ms : MA} {d : D} {i : Nat}
theorem kit_tuple : ∀ u ∈ ["NoneType", "bool", "int", "str", "list", "tuple", "dict"], kitB u "tuple" = some (decide (u = "tuple")) := by decide +kernel
theorem isi_tuple {u : String} (h : tyC cs d = some u) (q : u ∈ ["NoneType", "bool", "int", "str", "list", "tuple", "dict"]) : RP (isiD "tuple" cs d) P X = P (.bl (decide (u = "tuple"))) cs := rp_isi h (kit_tuple u q)
theorem rp_isi2 {u : String} (h : tyC cs d = some u) (q : u ∈ ["NoneType", "bool", "int", "str", "list", "tuple", "dict"]) : RP (isiD2 "list" "tuple" cs d) P X = P (.bl (decide (u = "list") || decide (u = "tuple"))) cs := by
  unfold isiD2
  simp only [h, kit_list u q, kit_tuple u q]
  rfl
theorem rp_set0 : RP (eSet0 env cs) P X = P (.loc cs.length) (cs ++ [.set []]) := nr rfl
theorem rp_sadd : RP (eSAdd a b env cs) P X = RP (a env cs) (fun o c1 => match setAt c1 o with
  | some _ => RP (b env c1) (fun v c2 => match setAt c2 o, kdOf v with
    | some (n, l), some k => if l.length + 1 < scanBound then P .non (c2.set n (.set (addK l k))) else False
    | _, _ => False) X
  | none => False) X := by
  unfold eSAdd
  rw [RP_bind]
  congr; funext o c1
  cases setAt c1 o with
  | none => rfl
  | some q =>
    simp only
    rw [RP_bind]
    congr; funext v c2
    cases setAt c2 o with
    | none => rfl
    | some q2 =>
      obtain ⟨n, l⟩ := q2
      cases kdOf v with
      | none => rfl
      | some k => simp only; split <;> rfl
theorem rp_inS2 {neg : Bool} {s : D} {n : Nat} {l : List Kd} {k : Kd} (h1 : setAt cs s = some (n, l)) (h2 : kdOf d = some k) : RP (inSX neg cs d s) P X = P (.bl (if neg then !hasK l k else hasK l k)) cs := by
  unfold inSX; simp only [h1, h2]; rfl
theorem set_at {n : Nat} {l : List Kd} (h : cs[n]? = some (.set l)) : setAt cs (.loc n) = some (n, l) := by
  simp only [setAt, h]
theorem rp_listOf {md : Bool} : RP (eListOf md a env cs) P X = RP (a env cs) (fun d c1 => match seqOf c1 d with
  | some ds => RP (mkL md c1 ds) P X
  | none => False) X := by
  unfold eListOf
  rw [RP_bind]
  congr; funext d c1
  cases seqOf c1 d <;> rfl
theorem rp_rem : RP (eRem a b env cs) P X = RP (a env cs) (fun o c1 => if isLc c1 o = true then RP (b env c1) (fun v c2 => match remL c2 o v with
  | some c3 => P .non c3
  | none => False) X else False) X := by
  unfold eRem
  rw [RP_bind]
  congr; funext o c1
  by_cases h : isLc c1 o = true
  · rw [if_pos h, if_pos h, RP_bind]
    congr; funext v c2
    cases remL c2 o v <;> rfl
  · rw [if_neg h, if_neg h]; rfl
theorem sp_augI : SP (sAugI i a env cs) K = match env[i]? with
  | some (some (.int j)) => RP (a env cs) (fun d c => match d with
    | .int b => K.nx (env.set i (some (.int (j + b)))) c
    | _ => False) (fun n fs c => K.xc n fs env c)
  | _ => False := by
  unfold sAugI
  cases env[i]? with
  | none => rfl
  | some o => cases o with
    | none => rfl
    | some d => cases d <;> first | rfl | (simp only; rw [SP_toS]; congr; funext d c; cases d <;> rfl)
theorem wp_enum {Q : List D → (Cells → Prop) → Cells → Prop} : WP (wEnum a env cs) Q X = RP (a env cs) (fun d c => match d with
  | .tup _ => False
  | d => match seqOf c d with
    | some ds => Q (enumD ds) (fun c2 => seqOf c2 d = some ds) c
    | none => False) X := by
  unfold wEnum
  rw [wp_toW]
  congr; funext d c
  cases d <;> first | rfl | (simp only; split <;> (rename_i h; first | rfl | (rw [h]; rfl)))
theorem rep_lst {t : List D} (q : repOkD (.lst t) = true) : ∃ z, reprBD cs [.lst t] = .ok (.str z) cs := by
  unfold repOkD at q
  split at q
  · rename_i p hp
    have q := of_decide_eq_true q
    refine ⟨codes p.shown, ?_⟩
    have hp' : pyOf cs (.lst t) = some p := hp
    unfold reprBD
    simp only [reprC, hp', if_pos q]
  · cases q
theorem rp_lenT {ds : List D} : RP (lenB cs [.tup ds]) P X = P (.int ds.length) cs := nr rfl
theorem rp_mulL {md : Bool} {a : List D} {k : Int} (h : 0 ≤ k ∧ k ≤ 1000 ∧ a.length ≤ 1000) : RP (mulD md cs (.lst a) (.int k)) P X = RP (mkL md cs (List.replicate k.toNat a).flatten) P X := by
  show RP (match listOf cs (.lst a) with
    | some a => if 0 ≤ k ∧ k ≤ 1000 ∧ a.length ≤ 1000 then mkL md cs (List.replicate k.toNat a).flatten else .stuck
    | none => .stuck) P X = _
  simp only [listOf, if_pos h]
theorem fin_rp {w : List Nat} {v : D} (ok : repOkD (.lst [.str w, v]) = true) (k : P (.bl false) cs) :
    RP (reprBD cs [.lst [.str w, v]]) (fun x c1 => RP (mkL false c1 [.str w, v]) (fun y c2 => RP (reprBD c2 [y]) (fun y2 c3 => RP (neD c3 x y2) P X) X) X) X := by
  obtain ⟨z, e⟩ := rep_lst (cs := cs) ok
  rw [rp_reprX e, rp_mkLf (by rw [sizeLine_eq]; simp), rp_reprX e, rp_neS]
  simp only [decide_true, Bool.not_true]
  exact k
/-- cheaper to ask: no dict, short ints -/
def repQ (d : D) : Bool := match py0 d with
  | some p => PyData.layable0 p && p.intsShort 13 && p.showable && decide (p.depth ≤ 60)
  | none => false
theorem repQ_ok (h : repQ d = true) : repOkD d = true := by
  unfold repQ at h
  unfold repOkD
  split at h
  · rename_i p hp
    rw [Bool.and_eq_true, Bool.and_eq_true, Bool.and_eq_true] at h
    have z := PyProof.Rows.shown_le13 h.1.1.1 h.1.1.2
    try rw [hp]
    refine decide_eq_true ⟨h.1.2, of_decide_eq_true h.2, ?_⟩
    rw [sizeLine_eq]; omega
  · cases h
end
end L3

/-! the calculus, for while loops and lists of texts in cells -/
namespace L3
open PySem L2
section
variable {P : D → Cells → Prop} {X : KX} {K : Cn} {env : Env} {cs : Cells}
theorem sp_whS {t : ME} {b : MS} {n : Nat} : SP (whN t b (n + 1) env cs) K = RP (t env cs) (fun d c1 => SP (brS d (match b env c1 with
      | .nx e c => whN t b n e c
      | .ct e c => whN t b n e c
      | .bk e c => .nx e c
      | r => r) (.nx env c1)) K) (fun x fs c => K.xc x fs env c) := SP_toS _ _
theorem sp_while {t : ME} {b : MS} (n : Nat) (h : SP (whN t b n env cs) K) : SP (sWhile t b env cs) K := by
  rw [sWhile_eq t b (n := n) (fun e => by rw [e] at h; exact h)]
  exact h
/-- so many turns as the invariant says -/
theorem wh_inv {t : ME} {b : MS} (n : Nat) (J : Nat → Env → Cells → Prop) (h0 : J 0 env cs)
    (hs : ∀ i env cs, i < n → J i env cs → RP (t env cs) (fun d c1 => d = .bl true ∧ SP (b env c1) { K with nx := J (i + 1), ct := J (i + 1), bk := K.nx }) (fun x fs c => K.xc x fs env c))
    (hn : ∀ env cs, J n env cs → RP (t env cs) (fun d c1 => d = .bl false ∧ K.nx env c1) (fun x fs c => K.xc x fs env c)) : SP (sWhile t b env cs) K := by
  refine sp_while (n + 1) ?_
  induction n generalizing J env cs with
  | zero =>
    rw [sp_whS]
    refine RP.mono (hn _ _ h0) fun d c1 ⟨e, k⟩ => ?_
    subst e
    exact k
  | succ n ih =>
    rw [sp_whS]
    refine RP.mono (hs 0 _ _ (Nat.succ_pos n) h0) fun d c1 ⟨e, k⟩ => ?_
    subst e
    have ih : ∀ e c, J 1 e c → SP (whN t b (n + 1) e c) K := fun e c hj => ih (fun i => J (i + 1)) hj (fun i e c hi h => hs (i + 1) e c (by omega) h) hn
    rw [brS_true]
    cases hb : b env c1 with
    | nx e c => rw [hb] at k; exact ih e c k
    | ct e c => rw [hb] at k; exact ih e c k
    | bk e c => rw [hb] at k; exact k
    | rt d c => rw [hb] at k; exact k
    | exc n fs e c => rw [hb] at k; exact k
    | stuck => rw [hb] at k; exact k
theorem flat_strs (H : List (List Nat)) : (H.map D.str).all flatD = true := by
  induction H with
  | nil => rfl
  | cons a r ih => rw [List.map_cons, List.all_cons, ih]; rfl
theorem inF_strs {z : List Nat} (H : List (List Nat)) : inF (.str z) (H.map D.str) = decide (z ∈ H) := by
  unfold inF
  rw [List.any_map, Bool.eq_iff_iff, List.any_eq_true, decide_eq_true_eq]
  constructor
  · rintro ⟨x, hx, e⟩
    have : x = z := of_decide_eq_true e
    subst this; exact hx
  · intro h; exact ⟨z, h, decide_eq_true rfl⟩
theorem inB_loc {z : List Nat} {H : List (List Nat)} {n : Nat} (h : cs[n]? = some (.lst (H.map D.str))) : inB cs (.str z) (.loc n) = some (decide (z ∈ H)) := by
  unfold inB
  split
  · rename_i e; cases e
  · simp only [seqOf, loc_list h, flat_strs, show flatD (.str z) = true from rfl, Bool.and_self, if_true, inF_strs]
theorem rp_inLoc {z : List Nat} {H : List (List Nat)} {n : Nat} (h : cs[n]? = some (.lst (H.map D.str))) : RP (inD cs (.str z) (.loc n)) P X = P (.bl (decide (z ∈ H))) cs := by
  unfold inD; rw [inB_loc h]; rfl
theorem rp_ninLoc {z : List Nat} {H : List (List Nat)} {n : Nat} (h : cs[n]? = some (.lst (H.map D.str))) : RP (ninD cs (.str z) (.loc n)) P X = P (.bl !decide (z ∈ H)) cs := by
  unfold ninD; rw [inB_loc h]; rfl
theorem push_at {l : List D} {n : Nat} {v : D} (h : cs[n]? = some (.lst l)) (q : l.length < sizeLine) : pushL cs (.loc n) v = some (cs.set n (.lst (l ++ [v]))) := by
  unfold pushL; simp only [h, if_pos q]
theorem cell_end {c : Cells} {x : Cell} : (c ++ [x])[c.length]? = some x := by
  rw [List.getElem?_append_right (Nat.le_refl _), Nat.sub_self]; rfl
theorem cell_set {c : Cells} {x y : Cell} : (c ++ [x]).set c.length y = c ++ [y] := by
  rw [List.set_append_right _ _ (Nat.le_refl _), Nat.sub_self]; rfl
theorem rp_slLoc {md : Bool} {l : List D} {n : Nat} {lo hi : Option Int} (h : cs[n]? = some (.lst l)) : RP (slD md cs (.loc n) lo hi) P X = RP (mkL md cs (cutL l lo hi)) P X := by
  unfold slD
  simp only [seqOf, loc_list h]
theorem isLc_end {c : Cells} {l : List D} : isLc (c ++ [.lst l]) (.loc c.length) = true := by simp only [isLc, cell_end]
end
end L3

/-! the calculus, for sorted, list(range()), list.index -/
namespace L3
open PySem L2
section
variable {P : D → Cells → Prop} {X : KX} {K : Cn} {env : Env} {cs : Cells} {a b c : ME} {d : D}
theorem rp_sort1 : RP (eSort1 a env cs) P X = RP (a env cs) (fun d c1 => match listOf c1 d with
  | some [] => RP (mkL false c1 []) P X
  | some [.int i] => RP (mkL false c1 [.int i]) P X
  | _ => False) X := by
  unfold eSort1
  rw [RP_bind]
  congr; funext d c1
  cases listOf c1 d with
  | none => rfl
  | some l =>
    rcases l with _ | ⟨x, _ | ⟨y, r⟩⟩
    · rfl
    · cases x <;> rfl
    · cases x <;> rfl
theorem rp_listRg : RP (eListRg a env cs) P X = RP (a env cs) (fun d c1 => match d with
  | .int n => if 0 ≤ n ∧ n ≤ 1000000 then RP (mkL false c1 ((List.range n.toNat).map fun i => .int (i : Nat))) P X else False
  | _ => False) X := by
  unfold eListRg
  rw [RP_bind]
  congr; funext d c1
  cases d <;> first | rfl | (simp only; split <;> rfl)
/-- the index of a text in a list of texts -/
theorem rp_lidx {n : Nat} {k : List Nat} {H : List (List Nat)} {i j : Nat} (hi : env[i]? = some (some (.loc n))) (hj : env[j]? = some (some (.str k))) (h : cs[n]? = some (.lst (H.map D.str))) (hk : k ∈ H) : RP (eLidx (eVar i) (eVar j) env cs) P X = P (.int (H.idxOf k : Nat)) cs := by
  have e1 : listOf cs (.loc n) = some (H.map D.str) := by simp only [listOf, h]
  have e2 : strsL (H.map D.str) = some H := by
    clear h e1 hk
    induction H with
    | nil => rfl
    | cons a r ih => simp only [List.map_cons, strsL, ih, Option.map_some]
  have e3 : isLc cs (.loc n) = true := by simp only [isLc, h]
  unfold eLidx
  rw [RP_bind]
  simp only [rp_varM, hi, e3, if_true, RP_bind, hj, e1, e2, hk]
  rfl
end
end L3

/-! `def f(mark, name, number): return mark.replace("*", name).replace("#", str(number))`, where the name's token is known -/
namespace L3
open PySem L2 PySem.Spec PyProof.Rows
def starL : List Nat := [42]
def hashL : List Nat := [35]
/-- what it answers -/
def lpL (m n : List Nat) (i : Int) : List Nat := codes (Txt.replace (Txt.replace ⟨m.toArray⟩ ⟨starL.toArray⟩ ⟨n.toArray⟩) ⟨hashL.toArray⟩ (toString i : Str))
def lpM : MF := fun ds cs => match ds with
  | [.str m, .str n, .int i] => if m.length ≤ 100 ∧ n.length ≤ 1000 ∧ n ≠ starL ∧ i.natAbs.log2 < 1920 ∧ (toString i : Str).length ≤ 100 ∧ (⟨hashL.toArray⟩ == (toString i : Str)) = false then .ok (.str (lpL m n i)) cs else .stuck
  | _ => .stuck
/-- the promise, of a name whose token is out -/
structure LpG (P : Program) (w : World) (K : PySem.W.Frag) (mg : Str → Option Value) (base : Heap) (k : Nat) (f : Addr) (fd : FuncData) (ps : List Str) : Prop where
  run : ∀ (A : Around) (outer : List PySem.Env) (s : Shared) (H : Hp) (args : Args) (us : List Value) (vs : List V) (Q : VK) (E : XK), A.guards = some [] → Room k A → Env0 P w K mg base A outer s H → BindsTo s fd args (ps.zip us) → Vals vs us →
    (∃ x t, us[1]? = some (.str x t) ∧ 0 < t ∧ t < s.toks) → spM ⟨P, w, K, mg⟩ lpM 3 vs H Q E →
    codeAny (model P w) A (.call (.ref f) args) (L2.CR (L2.CX P w) outer P w H s Q E) s
section
variable {P : Program} {w : World} {K : PySem.W.Frag} {mg : Str → Option Value} {base : Heap} {k : Nat} {f : Addr} {fd : FuncData}
theorem lp_mk {x qual : Str} {st : Stmt} {N : List Str} {a0 a1 a2 : Str} {p1 p2 p3 p4 c0 c1 ap1 ap2 cp1 cp2 cp3 rpos : Pos} {j0 j1 : Nat} (Fn : Fun K x qual st f fd) (S : FnScope N [a0, a1, a2] (defScope st))
    (hbd : defBody st = [.Return (some (.Call (.Attribute (.Call (.Attribute (.Name a0 p1) "replace" ap1) [.Constant (.str "*") j0 c0, .Name a1 p2] [] cp1) "replace" ap2) [.Constant (.str "#") j1 c1, .Call (.Name "str" p3) [.Name a2 p4] [] cp3] [] cp2)) rpos])
    (h0 : (defScope st).names.lookup a0 = some .local) (h1 : (defScope st).names.lookup a1 = some .local) (h2 : (defScope st).names.lookup a2 = some .local) (hstr : (defScope st).names.lookup ("str" : Str) = some .globalImplicit) (hmg : mg ("str" : Str) = none)
    (d0 : (a0 == ("__debug__" : Str)) = false) (d1 : (a1 == ("__debug__" : Str)) = false) (d2 : (a2 == ("__debug__" : Str)) = false) (hl1 : (ap1.endLine == cp1.line) = true) (hl2 : (ap2.endLine == cp2.line) = true) : LpG P w K mg base (k + 1) f fd [a0, a1, a2] := by
  obtain ⟨oc, od, kV, doc, pm, an, cdv, ct, osl, rfl, lk, hcd⟩ := Fn.ex
  constructor
  intro A outer s H args us vs Q E hG hr e0 hb rv hnm hsp
  obtain ⟨hl, F0, c, cs, ds, I0, rds, po⟩ := hsp
  have KX : K.In s.heap := e0.mod.kin.keeps fun b o e => (e0.bs b o e).1
  have lim : s.heap.NoLimit := e0.mod.nolimit.keeps fun b o e => (e0.bs b o e).1
  have kinds : ∀ y ∈ [a0, a1, a2].zip us, (defScope st).names.lookup y.1 = some .local ∨ ((defScope st).names.lookup y.1 = some .cell ∧ ((cellsFrom (s.heap.objs.size + 1) (defScope st).names []).lookup y.1).isSome = true) := by
    rintro ⟨n, v⟩ hy
    rcases S.par n (List.of_mem_zip hy).1 with q | q
    · exact .inl q
    · exact .inr ⟨q, PySem.W.cellsFrom_some _ _ _ (.inl q)⟩
  -- the arguments
  unfold lpM at po
  split at po
  case h_2 => exact po.elim
  rename_i m n i
  split at po
  case isFalse => exact po.elim
  rename_i hc
  obtain ⟨hm, hn, hns, hi, hil, hih⟩ := hc
  cases rds with
  | cons r0 rds =>
  cases rds with
  | cons r1 rds =>
  cases rds with
  | cons r2 rds =>
  cases rds
  cases r0; cases r1; cases r2
  cases rv with
  | cons r0 rv =>
  cases rv with
  | cons r1 rv =>
  cases rv with
  | cons r2 rv =>
  cases rv
  obtain ⟨t0, rfl⟩ := r0
  obtain ⟨t1, rfl⟩ := r1
  obtain ⟨t2, rfl⟩ := r2
  obtain ⟨x', t', hx', ht0, ht1⟩ := hnm
  simp only [List.getElem?_cons_succ, List.getElem?_cons_zero, Option.some.injEq, Value.str.injEq] at hx'
  obtain ⟨rfl, rfl⟩ := hx'
  refine codeAny_call_function hr.depth (KX _ _ lk) rfl S.co S.gen rfl (PySem.W.codeRec_of KX hcd) (hb _ _ _ _ (wpAny_with_toks (Nat.le_refl _) (wpAny_newFunctionEnv_cells S.kind kinds fun env he s1 xx hk1 => ?_)))
  subst he
  refine ⟨lim.keeps xx.toInCall.keep, codeAny_func ?_⟩
  have rv : Vals [V.str ⟨m.toArray⟩, .str ⟨n.toArray⟩, .int i] [Value.str ⟨m.toArray⟩ t0, .str ⟨n.toArray⟩ t1, .int i t2] := .cons ⟨t0, rfl⟩ (.cons ⟨t1, rfl⟩ (.cons ⟨t2, rfl⟩ .nil))
  have I : Inv (cxOf (L2.CX P w) P w K mg base N qual (defScope st) f cdv A outer s H E) [] (start N [.str ⟨m.toArray⟩, .str ⟨n.toArray⟩, .int i]) H s1 := inv_start S hr.hd e0 rfl rv xx
  have hns' := xx.toInCall.ns
  have nd : [a0, a1, a2].Nodup := by
    have e : [a0, a1, a2] = N.take 3 := S.pre.symm
    rw [e]
    exact S.nd.sublist (List.take_sublist _ _)
  have m0 := bindL_get (kindOf := (envOfC qual (defScope st) s.heap.objs.size f cdv).kindOf) (x := a0) (v := Value.str ⟨m.toArray⟩ t0) (P := [a0, a1, a2]) (vs := [.str ⟨m.toArray⟩ t0, .str ⟨n.toArray⟩ t1, .int i t2]) (i := 0) (m := fun _ => none) nd rfl rfl h0
  have m1 := bindL_get (kindOf := (envOfC qual (defScope st) s.heap.objs.size f cdv).kindOf) (x := a1) (v := Value.str ⟨n.toArray⟩ t1) (P := [a0, a1, a2]) (vs := [.str ⟨m.toArray⟩ t0, .str ⟨n.toArray⟩ t1, .int i t2]) (i := 1) (m := fun _ => none) nd rfl rfl h1
  have m2 := bindL_get (kindOf := (envOfC qual (defScope st) s.heap.objs.size f cdv).kindOf) (x := a2) (v := Value.int i t2) (P := [a0, a1, a2]) (vs := [.str ⟨m.toArray⟩ t0, .str ⟨n.toArray⟩ t1, .int i t2]) (i := 2) (m := fun _ => none) nd rfl rfl h2
  have fin : ∀ {v : V} {r : Value} {k : Nat}, RelV v r → Q v H → CE outer P w H s Q r { s1 with toks := k } :=
    fun {v r k} rr q => ⟨v, H, (I.tok k).os, (I.tok k).bare, (I.tok k).base, (I.tok k).hok, rr, q⟩
  have hL1 : (Txt.replace ⟨m.toArray⟩ ⟨starL.toArray⟩ ⟨n.toArray⟩).length ≤ 101100 := by
    have h := TK.replace_len ⟨m.toArray⟩ ⟨starL.toArray⟩ ⟨n.toArray⟩
    have e1 : PySem.Str.length ⟨m.toArray⟩ = m.length := by simp [PySem.Str.length]
    have e2 : PySem.Str.length ⟨n.toArray⟩ = n.length := by simp [PySem.Str.length]
    rw [e1, e2] at h
    have : (m.length + 1) * n.length ≤ 101 * 1000 := Nat.mul_le_mul (by omega) hn
    omega
  rw [hbd]
  refine wpAny_execs_cons (wpAny_Return_some (PySem.Call_method2 rfl rfl hl2 (PySem.Call_method2 rfl rfl hl1 (wpAny_Name (wpAny_loadName_local S.kind h0 hns' m0 ?_) d0))))
  refine ⟨"str", _, F.plainAttrs_str, F.slot_str_replace, F.type_str_replace, typeIs_str _ _ _, (fun _ e => nomatch e), Calls.callWith_builtin rfl (Calls.evalArgs_plain (Calls.spliced_cons ?_))⟩
  refine Calls.Constant_str (Calls.spliced_cons (wpAny_Name (wpAny_loadName_local S.kind h1 hns' m1 ?_) d1))
  refine Calls.spliced_nil ?_
  refine wpAny_with_toks (n := s1.toks + 1) (Nat.le_refl _) ?_
  have q1 : (s1.toks : Nat) ≠ 0 := by omega
  have q2 : t1 ≠ 0 := Nat.ne_of_gt ht0
  have q3 : (s1.toks : Nat) ≠ (t1 : Nat) := by omega
  refine PySem.SC.replace (u := s1.toks) (v := t1) (y := ⟨starL.toArray⟩) (z := ⟨n.toArray⟩) q1 q2 q3 ?_ ?_ fun t' k' hk2 => ?_
  · cases e : ((⟨starL.toArray⟩ : Str) == ⟨n.toArray⟩)
    · rfl
    · have := eq_of_beq e
      exact absurd (by simpa using this.symm) hns
  · have h : (m.length + 1) * n.length ≤ 101 * 1000 := Nat.mul_le_mul (by omega) hn
    simp only [PySem.Str.length, List.size_toArray]
    omega
  have hk2 : s1.toks + 1 ≤ k' := hk2
  refine ⟨"str", _, F.plainAttrs_str, F.slot_str_replace, F.type_str_replace, typeIs_str _ _ _, (fun _ e => nomatch e), Calls.callWith_builtin rfl (Calls.evalArgs_plain (Calls.spliced_cons ?_))⟩
  refine Calls.Constant_str (Calls.spliced_cons ?_)
  have Ik : Inv (cxOf (L2.CX P w) P w K mg base N qual (defScope st) f cdv A outer s H E) [] (start N [.str ⟨m.toArray⟩, .str ⟨n.toArray⟩, .int i]) H { s1 with toks := k' + 1 } := I.tok _
  refine PyProof.Rows.Call_ (ld_blt Ik (show (envOfC qual (defScope st) s.heap.objs.size f cdv).kindOf ("str" : Str) = some .globalImplicit from hstr) hmg bo_str (PyProof.Rows.callWith_type1 (Calls.spliced_cons (wpAny_Name (wpAny_loadName_local S.kind h2 hns' m2 ?_) d2)) rfl rfl))
  refine Calls.spliced_nil ?_
  refine PySem.P.str_of_int hi ?_
  refine Calls.spliced_nil ?_
  refine PySem.SC.replace (x := Txt.replace ⟨m.toArray⟩ ⟨starL.toArray⟩ ⟨n.toArray⟩) (y := ⟨hashL.toArray⟩) (z := (toString i : Str)) ?_ ?_ ?_ hih ?_ fun t'' k'' => fin (v := .str ⟨(lpL m n i).toArray⟩) ⟨t'', ?_⟩ (PoE.here I0 (.str _) po)
  · show (k' : Nat) ≠ 0
    omega
  · show (k' + 1 : Nat) ≠ 0
    omega
  · show (k' : Nat) ≠ k' + 1
    omega
  · have h : ((Txt.replace ⟨m.toArray⟩ ⟨starL.toArray⟩ ⟨n.toArray⟩).length + 1) * (toString i : Str).length ≤ 101101 * 100 := Nat.mul_le_mul (by omega) hil
    omega
  · unfold lpL; rw [show (⟨(codes (Txt.replace (Txt.replace ⟨m.toArray⟩ ⟨starL.toArray⟩ ⟨n.toArray⟩) ⟨hashL.toArray⟩ (toString i : Str))).toArray⟩ : Str) = Txt.replace (Txt.replace ⟨m.toArray⟩ ⟨starL.toArray⟩ ⟨n.toArray⟩) ⟨hashL.toArray⟩ (toString i : Str) from rfl]
end
/-! ### behind it a token is out -/
def PES (X : Cx) (e : Expr) (t : TE) : Prop := ∀ (pins : List (Addr × Obj)) (s : Shared) (σ : L2.St) (H : Hp) (Q : VK), Inv X pins σ H s → t σ H Q → wpAny (model X.prog X.w) X.A (eval e X.env) (fun v s1 => 1 ≤ s1.toks ∧ EP X pins σ Q v s1) X.xe s
def PAS (X : Cx) (es : List Expr) (t : TA) : Prop := ∀ (pos : Pos) (pins : List (Addr × Obj)) (s : Shared) (σ : L2.St) (H : Hp) (Q : List V → Hp → Prop), Inv X pins σ H s → t σ H Q → wpAny (model X.prog X.w) X.A (spliced (backTo pos (starEach es X.env))) (fun v s1 => 1 ≤ s1.toks ∧ AP X pins σ Q v s1) X.xe s
def XpS (X : Cx) (W : WX) (e : Expr) (m : ME) : Prop := ∃ t, PES X e t ∧ ∀ σ env H F c cs Q, RE (gd X) F c σ env → Ih (gd X) H F c cs → PoE (gd X) (fun a b => W a b σ) H F c (m env cs) Q → t σ H Q
def XaS (X : Cx) (W : WX) (es : List Expr) (m : MA) : Prop := ∃ t, PAS X es t ∧ ∀ σ env H F c cs Q, RE (gd X) F c σ env → Ih (gd X) H F c cs → PoA (gd X) (fun a b => W a b σ) H F c (m env cs) Q → t σ H Q
def SmS (X : Cx) (W : WX) (st : Stmt) (m : MS) : Prop := ∃ t : TS, (∀ (pins : List (Addr × Obj)) (s : Shared) (σ : L2.St) (H : Hp) (D : Ends), Inv X pins σ H s → t D σ H → wpAny (model X.prog X.w) X.A (exec st X.env) (fun v s1 => 1 ≤ s1.toks ∧ L2.SP X pins D v s1) X.xe s) ∧
  ∀ σ env H F c cs Dn, RE (gd X) F c σ env → Ih (gd X) H F c cs → PoS (gd X) W Dn H F c (m env cs) → t Dn σ H
def SmT (X : Cx) (W : WX) (st : Stmt) (m : MS) : Prop := ∃ t, PST X st t ∧ ∀ σ env H F c cs Dn, RE (gd X) F c σ env → Ih (gd X) H F c cs → PoS (gd X) W Dn H F c (m env cs) → t Dn σ H
def SmsT (X : Cx) (W : WX) (st : List Stmt) (m : MS) : Prop := ∃ t, PSsT X st t ∧ ∀ σ env H F c cs Dn, RE (gd X) F c σ env → Ih (gd X) H F c cs → PoS (gd X) W Dn H F c (m env cs) → t Dn σ H
section
variable {X : Cx} {W : WX} {e o : Expr} {es : List Expr} {m mo : ME} {ms : MA} {pos p q c0 c1 : Pos} {j : Nat} {st : Stmt} {ss : List Stmt} {a b : MS}
theorem xpS_int {i : Int} : XpS X W (.Constant (.int i) j pos) (eC (.int i)) :=
  ⟨tC (.int i), fun _ s _ H _ I h => wpAny_Constant_int ⟨Nat.succ_le_succ (Nat.zero_le _), .int i, H, I.tok _, ⟨_, rfl⟩, h⟩, fun _ _ _ _ _ _ _ _ I po => PoE.here I (.int i) po⟩
theorem xpS_str {x : Str} {l : List Nat} (h : x = ⟨l.toArray⟩) : XpS X W (.Constant (.str x) j pos) (eC (.str l)) := by
  subst h
  exact ⟨tC (.str ⟨l.toArray⟩), fun _ s _ H _ I h => Calls.Constant_str ⟨Nat.succ_le_succ (Nat.zero_le _), .str _, H, I.tok _, ⟨_, rfl⟩, h⟩, fun _ _ _ _ _ _ _ _ I po => PoE.here I (.str l) po⟩
theorem xaS_here (ha : XpS X W e m) (hr : Xa X W es ms) (hs : starEach (e :: es) X.env = (false, eval e X.env) :: starEach es X.env := by rfl) : XaS X W (e :: es) (aCons m ms) := by
  obtain ⟨ta, pa, sa⟩ := ha
  obtain ⟨tb, pb, sb⟩ := hr
  refine ⟨tCons ta tb, ?_, sim_cons sa sb⟩
  intro pos pins s σ H Q I h
  rw [hs]
  show wpAny _ _ (spliced ((false, eval e X.env) :: backTo pos (starEach es X.env))) _ _ s
  refine Calls.spliced_cons (thn (pa pins s σ H _ I h) fun v s1 ⟨hk, x, H1, I1, r1, q1⟩ => ?_)
  refine thn (wpAny_toks_of hk (wpAny_mono (pb.run pos pins s1 σ H1 _ I1 q1) (fun _ _ z => z) fun _ _ z => z)) ?_ |> fun h => wpAny_mono h (fun _ _ z => z) fun _ _ z => z.2
  exact fun us s2 ⟨hk2, xs, H2, I2, r2, q2⟩ => ⟨hk2, x :: xs, H2, I2, .cons r1 r2, q2⟩
theorem xaS_there (ha : Xp X W e m) (hr : XaS X W es ms) (hs : starEach (e :: es) X.env = (false, eval e X.env) :: starEach es X.env := by rfl) : XaS X W (e :: es) (aCons m ms) := by
  obtain ⟨ta, pa, sa⟩ := ha
  obtain ⟨tb, pb, sb⟩ := hr
  refine ⟨tCons ta tb, ?_, sim_cons sa sb⟩
  intro pos pins s σ H Q I h
  rw [hs]
  show wpAny _ _ (spliced ((false, eval e X.env) :: backTo pos (starEach es X.env))) _ _ s
  refine Calls.spliced_cons (thn (pa.run pins s σ H _ I h) fun v s1 ⟨x, H1, I1, r1, q1⟩ => ?_)
  exact thn (pb pos pins s1 σ H1 _ I1 q1) fun us s2 ⟨hk2, xs, H2, I2, r2, q2⟩ => ⟨hk2, x :: xs, H2, I2, .cons r1 r2, q2⟩
theorem xpS_ownG {k n : Nat} {mf : MF} {x : Str} (o : OwnG X.prog X.w X.K X.mg X.base k x n mf) (hG : X.A.guards = some []) (hr : Room k X.A) (tk : Takes X W) (ha : XaS X W (e :: es) ms) (hg : Gl X x) (hlen : ∀ env cs ds cs1, ms env cs = .ok ds cs1 → ds.length = n) (hn : (e :: es).length = n := by rfl) (hdb : (x == ("__debug__" : Str)) = false := by decide)
    (he : starEach (e :: es) X.env = (false, eval e X.env) :: starEach es X.env := by rfl) (hpl : (backTo pos (starEach es X.env)).any (·.1) = false := by rfl) : XpS X W (.Call (.Name x p) (e :: es) [] pos) (eCall mf ms) := by
  obtain ⟨f, fd, ps, F, hm, hk, hb⟩ := o
  obtain ⟨t, pa, sa⟩ := ha
  refine ⟨tCallS (spM (gd X) mf n) (fun σ a b => W a b σ) t, ?_, fun σ env H F' c cs Q re I po => ?_⟩
  · intro pins s σ H Q I h
    refine wpAny_Call_Name_kw (ld_glob I hg hm ?_ hdb)
    refine PySem.W.callWith_K (h₀ := X.base) I.ok.mod.kin hk (thn (pa pos pins s σ H _ I h) fun us s1 z => ?_) he hpl
    obtain ⟨hk1, vs, H1, I1, r, q⟩ := z
    exact ⟨I1.kIn, wpAny_mono (wpAny_toks_of hk1 (run_fnG F hG hr hb (passAt tk σ) I1 r q)) (fun _ _ z => z) fun _ _ z => z.2⟩
  refine sa σ env H F' c cs _ re I (PoA.cut po _ fun ds cs1 h1 H1 F1 c1 vs x1 I1 rv po1 => ?_)
  exact ⟨by rw [rv.length]; exact hlen _ _ _ _ h1, F1, c1, cs1, ds, I1, rv, po1⟩
/-- base[index], the index behind a token -/
theorem xpS_ix {mb : ME} {b : Expr} (ha : Xp X W o mo) (hb : XpS X W b mb) (hs : PlainIx b) : XpS X W (.Subscript o b pos) (op2 ixD mo mb) := by
  obtain ⟨ta, pa, sa⟩ := ha
  obtain ⟨tb, pb, sb⟩ := hb
  refine ⟨tOp _ ta tb, ?_, fun σ env H F c cs Q re I po => sim2 sa sb o2_ix re I po⟩
  intro pins s σ H Q I h
  refine Subscript_ (thn (pa.run pins s σ H _ I h) fun v s1 ⟨x, H1, I1, r1, q1⟩ => ?_)
  refine thn (pb pins s1 σ H1 _ I1 q1) fun u s2 ⟨hk, y, H2, I2, r2, q2⟩ => ?_
  exact wpAny_mono (wpAny_toks_of hk (ix_seq o b pins s2 σ H2 x y v u Q I2 r1 r2 q2 (hs _ _))) (fun _ _ z => z) fun _ _ z => z.2
theorem smS_set {i : Nat} {x : Str} {pos' : Pos} (hN : X.N.Nodup) (hi : X.N[i]? = some x) (hx : Loc X.env.scope x) (h : XpS X W e m) (hs : swapsWith e (some (.Name x pos')) pos.line X.env = pure false := by rfl) (hf : X.fn x = true ∨ X.env.scope.names.lookup x = some .local := by first | exact .inl rfl | exact .inr rfl | assumption) : SmS X W (.Assign [.Name x pos'] e pos) (sAsg i m) := by
  obtain ⟨t, p, s⟩ := h
  refine ⟨tAsg t (gName i), ?_, fun σ env H F c cs Dn re I po => ?_⟩
  · intro pins s σ H D I h
    refine wpAny_Assign_Name (thn (p pins s σ H _ I h) fun v s1 ⟨hk, y, H1, I1, r1, q1⟩ => ?_) hs
    refine wpAny_mono (wpAny_toks_of hk (store_ok I1 hN hi hx r1 (Q := fun _ s2 => L2.SP X pins D .next s2) (fun s2 I2 => ⟨_, H1, I2, q1⟩) hf)) (fun _ _ z => z) fun _ _ z => z.2
  refine s σ env H F c cs _ re I (PoS.cut re po _ fun d cs1 _ H1 F1 c1 v x1 I1 rv po1 => ?_)
  exact PoS.next I1 ((re.mono x1.le).set i rv) po1
theorem smT_of (h : Sm X W st a) : SmT X W st a := by
  obtain ⟨t, p, s⟩ := h
  exact ⟨t, PST.of p, s⟩
theorem smsT_of (h : Sms X W ss a) : SmsT X W ss a := by
  obtain ⟨t, p, s⟩ := h
  exact ⟨t, PSsT.of p, s⟩
theorem smsT_cons (h : SmT X W st a) (hr : SmsT X W ss b) : SmsT X W (st :: ss) (sSeq a b) := by
  obtain ⟨ta, pa, sa⟩ := h
  obtain ⟨tb, pb, sb⟩ := hr
  exact ⟨_, psst_cons pa pb, seq_sim sa sb⟩
theorem smsT_one (h : SmT X W st a) : SmsT X W [st] a := by
  obtain ⟨ta, pa, sa⟩ := h
  exact ⟨_, CwR.psst_one pa, sa⟩
theorem sms_tok (h : SmS X W st a) (hr : SmsT X W ss b) : Sms X W (st :: ss) (sSeq a b) := by
  obtain ⟨ta, pa, sa⟩ := h
  obtain ⟨tb, pb, sb⟩ := hr
  refine ⟨tSeq ta tb, ⟨fun pins s σ H D I h => ?_⟩, seq_sim sa sb⟩
  refine wpAny_execs_cons (thn (pa pins s σ H { D with nx := tb D } I h) fun f s1 q => ?_)
  obtain ⟨hk, q⟩ := q
  cases f with
  | next =>
    obtain ⟨σ', H', I', q⟩ := q
    exact pb pins s1 σ' H' D hk I' q
  | ret v => exact q
  | brk => exact q
  | cont => exact q
theorem smT_set {i : Nat} {x : Str} {pos' : Pos} (hN : X.N.Nodup) (hi : X.N[i]? = some x) (hx : Loc X.env.scope x) (h : XpT X W e m) (hs : swapsWith e (some (.Name x pos')) pos.line X.env = pure false := by rfl) (hf : X.fn x = true ∨ X.env.scope.names.lookup x = some .local := by first | exact .inl rfl | exact .inr rfl | assumption) : SmT X W (.Assign [.Name x pos'] e pos) (sAsg i m) := by
  obtain ⟨t, p, s⟩ := h
  refine ⟨tAsg t (gName i), ?_, fun σ env H F c cs Dn re I po => ?_⟩
  · intro pins s σ H D h0 I h
    refine wpAny_Assign_Name (thn (p pins s σ H _ h0 I h) fun v s1 ⟨y, H1, I1, r1, q1⟩ => ?_) hs
    exact store_ok I1 hN hi hx r1 (fun s2 I2 => ⟨_, H1, I2, q1⟩) hf
  refine s σ env H F c cs _ re I (PoS.cut re po _ fun d cs1 _ H1 F1 c1 v x1 I1 rv po1 => ?_)
  exact PoS.next I1 ((re.mono x1.le).set i rv) po1
end
/-! ### a call with a written name -/
structure Lp (P : Program) (w : World) (K : PySem.W.Frag) (mg : Str → Option Value) (base : Heap) (k : Nat) (x : Str) : Prop where
  ex : ∃ f fd ps, LpG P w K mg base k f fd ps ∧ mg x = some (.ref f) ∧ PySem.W.keepIn K (.ref f) = true ∧ Binds K fd ps [] ∧ ps.length = 3
section
variable {X : Cx} {W : WX} {e0 e2 : Expr} {m0 m2 : ME} {pos p c1 : Pos} {k j : Nat} {x z : Str} {l : List Nat}
theorem xpT_put (o : Lp X.prog X.w X.K X.mg X.base k x) (hG : X.A.guards = some []) (hr : Room k X.A) (tk : Takes X W) (hz : z = ⟨l.toArray⟩) (h0 : Xp X W e0 m0) (h2 : Xp X W e2 m2) (hg : Gl X x) (hdb : (x == ("__debug__" : Str)) = false := by decide)
    (he : starEach (e0 :: [.Constant (.str z) j c1, e2]) X.env = (false, eval e0 X.env) :: starEach [.Constant (.str z) j c1, e2] X.env := by rfl) (he2 : starEach [.Constant (.str z) j c1, e2] X.env = (false, eval (.Constant (.str z) j c1) X.env) :: starEach [e2] X.env := by rfl)
    (he3 : starEach [e2] X.env = (false, eval e2 X.env) :: starEach [] X.env := by rfl)
    (hpl : (backTo pos (starEach [.Constant (.str z) j c1, e2] X.env)).any (·.1) = false := by rfl) : XpT X W (.Call (.Name x p) [e0, .Constant (.str z) j c1, e2] [] pos) (eCall lpM (aCons m0 (aCons (eC (.str l)) (aCons m2 aNil)))) := by
  subst hz
  obtain ⟨f, fd, ps, F, hm, hk, hb, hps⟩ := o
  obtain ⟨ta, pa, sa⟩ := h0
  obtain ⟨tb, pb, sb⟩ := h2
  refine ⟨tCallS (spM (gd X) lpM 3) (fun σ a b => W a b σ) (tCons ta (tCons (tC (.str ⟨l.toArray⟩)) (tCons tb tNil))), ?_, fun σ env H F' c cs Q re I po => ?_⟩
  rotate_left
  · refine sim_cons sa (sim_cons (m := eC (.str l)) (fun _ _ _ _ _ _ _ _ I po => PoE.here I (.str l) po) (sim_cons (ms := aNil) (tb := tNil) sb (fun _ _ _ _ _ _ _ _ I po => po _ _ _ (Xt.refl _ _ _) I [] .nil))) σ env H F' c cs _ re I (PoA.cut po _ fun ds cs1 h1 H1 F1 c1 vs x1 I1 rv po1 => ?_)
    exact ⟨by rw [rv.length]; exact len_cons (len_cons (len_cons len_nil)) _ _ _ _ h1, F1, c1, cs1, ds, I1, rv, po1⟩
  intro pins s σ H Q htk I h
  refine wpAny_Call_Name_kw (ld_glob I hg hm ?_ hdb)
  refine PySem.W.callWith_K (h₀ := X.base) I.ok.mod.kin hk ?_ he hpl
  rw [he]
  show wpAny _ _ (spliced ((false, eval e0 X.env) :: backTo pos (starEach [.Constant (.str ⟨l.toArray⟩) j c1, e2] X.env))) _ _ s
  refine Calls.spliced_cons (wpAny_mono (wpAny_toks_of htk (pa.run pins s σ H _ I h)) (fun v0 s1 q => ?_) fun _ _ z => z.2)
  obtain ⟨ht1, x0, H1, I1, r1, q1⟩ := q
  rw [he2]
  show wpAny _ _ (spliced ((false, eval (.Constant (.str ⟨l.toArray⟩) j c1) X.env) :: backTo pos (starEach [e2] X.env))) _ _ s1
  refine Calls.spliced_cons (Calls.Constant_str ?_)
  rw [he3]
  show wpAny _ _ (spliced ((false, eval e2 X.env) :: backTo pos (starEach [] X.env))) _ _ _
  have q1 : tb σ H1 (fun x2 H2 => spM (gd X) lpM 3 [x0, .str ⟨l.toArray⟩, x2] H2 Q (fun a b => W a b σ)) := q1
  refine Calls.spliced_cons (wpAny_mono (wpAny_toks_of (n := s1.toks + 1) (Nat.le_refl _) (pb.run pins { s1 with toks := s1.toks + 1 } σ H1 _ (I1.tok _) q1)) (fun v2 s2 q => ?_) fun _ _ z => z.2)
  obtain ⟨ht2, x2, H2, I2, r2, q2⟩ := q
  refine Calls.spliced_nil ⟨I2.kIn, ?_⟩
  have rv : Vals [x0, .str ⟨l.toArray⟩, x2] [v0, .str ⟨l.toArray⟩ s1.toks, v2] := .cons r1 (.cons ⟨_, rfl⟩ (.cons r2 .nil))
  have hbb := hb s2 [v0, .str ⟨l.toArray⟩ s1.toks, v2] I2.kIn (by rw [List.append_nil]; exact hps.symm)
  rw [List.append_nil] at hbb
  refine wpAny_call (codeAny_mono (F.run X.A X.stack s2 H2 ⟨[v0, .str ⟨l.toArray⟩ s1.toks, v2], []⟩ _ [x0, .str ⟨l.toArray⟩, x2] Q _ hG hr I2.env0 hbb rv ⟨⟨l.toArray⟩, s1.toks, rfl, ht1, ht2⟩ q2) fun q s' z => ?_)
  cases q with
  | error e => exact passAt tk σ pins H2 s2 e s' I2 z
  | ok fl =>
    cases fl with
    | ret u => exact I2.after z
    | next => exact z.elim
    | brk => exact z.elim
    | cont => exact z.elim
end
end L3

/-! dicts: d.get(k, e), d[k], k in d, walks over d and d.items(), dict comprehensions -/
namespace L3
open PySem L2 PySem.Spec PyProof.Rows
def dctOf (cs : Cells) : D → Option (List (Kd × D))
  | .dct l => some l
  | .loc n => match cs[n]? with
    | some (.dct l) => some l
    | some (.fz (.dct l)) => some l
    | _ => none
  | _ => none
def getL (l : List (Kd × D)) (k : Kd) : Option D := (l.find? fun p => decide (p.1 = k)).map (·.2)
theorem getL_nil (k : Kd) : getL [] k = none := rfl
theorem getL_cons (k : Kd) (p : Kd × D) (l : List (Kd × D)) : getL (p :: l) k = if p.1 = k then some p.2 else getL l k := by
  unfold getL
  rw [List.find?_cons]
  by_cases h : p.1 = k
  · simp [h]
  · simp [h]
section
variable {g : Gd} {H F : Hp} {c : List Addr} {cs : Cells} {v : V} {d : D} {l : List (Kd × D)}
theorem dctOf_at (I : Ih g H F c cs) (r : RV g F c v d) (h : dctOf cs d = some l) : ∃ a kvs, v = .ref a ∧ Rd H a (.dK kvs) ∧ RKs g F c kvs l := by
  have up : ∀ {a : Addr} {u : HO}, Rd F a u → Rd H a u := fun {a u} e => by
    rcases e with e | ⟨o, e⟩
    · exact .inl (I.sub _ _ e)
    · exact .inr ⟨o, I.sub _ _ e⟩
  cases d with
  | dct l0 =>
    simp only [dctOf, Option.some.injEq] at h
    subst h
    cases r with
    | dct h1 h2 => exact ⟨_, _, rfl, up h1, h2⟩
  | loc n =>
    cases r with
    | @loc _ a ha =>
      simp only [dctOf] at h
      split at h
      · rename_i l0 hl
        simp only [Option.some.injEq] at h
        subst h
        obtain ⟨f, kvs, e, q⟩ := I.cell _ _ _ ha hl
        exact ⟨a, kvs, rfl, .inl e, q⟩
      · rename_i l0 hl
        simp only [Option.some.injEq] at h
        subst h
        obtain ⟨q, o, e, _⟩ := I.cell _ _ _ ha hl
        cases q with
        | dct h1 h2 => exact ⟨a, _, rfl, up h1, h2⟩
      · cases h
  | _ => simp [dctOf] at h
theorem RKs.val : ∀ {vs : List (Key × V)} {ds : List (Kd × D)} (k : Kd), RKs g F c vs ds → (valV vs (kk k) = none ∧ getL ds k = none) ∨ ∃ v d, valV vs (kk k) = some v ∧ getL ds k = some d ∧ RV g F c v d
  | _, _, k, .nil => .inl ⟨valV_nil, rfl⟩
  | _, _, k, @RKs.cons _ _ _ k0 v0 d0 vs ds a b => by
    rw [getL_cons]
    by_cases e : k0 = k
    · subst e
      exact .inr ⟨v0, d0, valV_pos rfl, by rw [if_pos rfl], a⟩
    · have e' : ¬ kk k0 = kk k := fun z => e (kk_inj z)
      rw [valV_neg (p := (kk k0, v0)) e', if_neg e]
      exact RKs.val k b
end
theorem set_same {α : Type} : ∀ {l : List α} {n : Nat} {x : α}, l[n]? = some x → l.set n x = l
  | [], _, _, h => by simp at h
  | a :: r, 0, x, h => by simp at h; subst h; rfl
  | a :: r, n + 1, x, h => by simp at h; rw [List.set_cons_succ, set_same h]
theorem RKs.at {g : Gd} {F : Hp} {c : List Addr} : ∀ {vs : List (Key × V)} {ds : List (Kd × D)} {i : Nat} {k : Key} {v : V}, RKs g F c vs ds → vs[i]? = some (k, v) → ∃ kd d, ds[i]? = some (kd, d) ∧ k = kk kd ∧ RV g F c v d
  | _, _, _, _, _, .nil, h => by simp at h
  | _, _, 0, _, _, @RKs.cons _ _ _ k0 v0 d0 vs ds a b, h => by simp at h; obtain ⟨rfl, rfl⟩ := h; exact ⟨k0, d0, rfl, rfl, a⟩
  | _, _, i + 1, k, v, @RKs.cons _ _ _ k0 v0 d0 vs ds a b, h => by
    obtain ⟨kd, d, h1, h2⟩ := RKs.at (i := i) (k := k) (v := v) b (by simpa using h)
    exact ⟨kd, d, by simpa using h1, h2⟩
/-! ### d.get(k, e), d[k], k in d -/
def eGet2 (mo mk mz : ME) : ME := fun env cs => (mo env cs).bind fun o cs1 => match dctOf cs1 o with
  | some _ => (mk env cs1).bind fun k cs2 => (mz env cs2).bind fun z cs3 => match dctOf cs3 o, kdOf k with
    | some l, some kd => .ok ((getL l kd).getD z) cs3
    | _, _ => .stuck
  | none => .stuck
def dixD (cs : Cells) (o k : D) : R := match dctOf cs o, kdOf k with
  | some l, some kd => match getL l kd with
    | some d => .ok d cs
    | none => .stuck
  | _, _ => .stuck
def kinD (neg : Bool) (cs : Cells) (k o : D) : R := match dctOf cs o, kdOf k with
  | some l, some kd => .ok (.bl ((getL l kd).isSome != neg)) cs
  | _, _ => .stuck
section
variable {X : Cx} {W : WX} {k : Nat} {o e f : Expr} {mo me mf : ME} {pos apos : Pos}
theorem xp_get2 (hr : Room k X.A) (ho : Xp X W o mo) (he : Xp X W e me) (hf : Xp X W f mf) (m : M2 X o "get" apos e f pos) : Xp X W (.Call (.Attribute o "get" apos) [e, f] [] pos) (eGet2 mo me mf) := by
  obtain ⟨to, po', so⟩ := ho
  obtain ⟨te, pe, se⟩ := he
  obtain ⟨tf, pf, sf⟩ := hf
  refine ⟨_, pe_dget2 (hu_of hr) po' pe pf m, fun σ env H F c cs Q re I po => ?_⟩
  refine so σ env H F c cs _ re I (PoE.cut po _ fun d cs1 _ H1 F1 c1 v x1 I1 rv po1 => ?_)
  have re1 := re.mono x1.le
  cases hd : dctOf cs1 d with
  | none => rw [hd] at po1; exact po1.elim
  | some l0 =>
    rw [hd] at po1
    obtain ⟨a, kvs, rfl, hR, _⟩ := dctOf_at I1 rv hd
    refine ⟨a, rfl, .inl ⟨kvs, hR⟩, ?_⟩
    refine se σ env H1 F1 c1 cs1 _ re1 I1 (PoE.cut po1 _ fun kd cs2 _ H2 F2 c2 u x2 I2 ru po2 => ?_)
    refine sf σ env H2 F2 c2 cs2 _ (re1.mono x2.le) I2 (PoE.cut po2 _ fun z cs3 _ H3 F3 c3 w x3 I3 rw3 po3 => ?_)
    split at po3
    · rename_i l kd' hl hk
      obtain ⟨a', kvs', e', hR', rks⟩ := dctOf_at I3 ((rv.mono x2.le).mono x3.le) hl
      cases e'
      have ek := kdOf_rv (ru.mono x3.le) hk
      subst ek
      refine ⟨_, .inl ⟨kvs', kk kd', hR', rfl, rfl⟩, ?_⟩
      rcases rks.val kd' with ⟨h1, h2⟩ | ⟨v', d', h1, h2, r'⟩
      · rw [h1]; rw [h2] at po3
        exact PoE.here I3 rw3 po3
      · rw [h1]; rw [h2] at po3
        exact PoE.here I3 r' po3
    · exact po3.elim
theorem xp_dix (hr : Room k X.A) (ho : Xp X W o mo) (he : Xp X W e me) (hs : NoSl e) : Xp X W (.Subscript o e pos) (op2 dixD mo me) := by
  obtain ⟨to, po', so⟩ := ho
  obtain ⟨te, pe, se⟩ := he
  refine ⟨_, pe_dget (hu_of hr) po' pe hs, fun σ env H F c cs Q re I po => ?_⟩
  refine so σ env H F c cs _ re I (PoE.cut po _ fun d cs1 _ H1 F1 c1 v x1 I1 rv po1 => ?_)
  refine se σ env H1 F1 c1 cs1 _ (re.mono x1.le) I1 (PoE.cut po1 _ fun kd cs2 _ H2 F2 c2 u x2 I2 ru po2 => ?_)
  unfold dixD at po2
  split at po2
  · rename_i l kd' hl hk
    obtain ⟨a, kvs, rfl, hR, rks⟩ := dctOf_at I2 (rv.mono x2.le) hl
    have ek := kdOf_rv ru hk
    subst ek
    rcases rks.val kd' with ⟨h1, h2⟩ | ⟨v', d', h1, h2, r'⟩
    · rw [h2] at po2; exact po2.elim
    · rw [h2] at po2
      exact ⟨a, v', rfl, .inl ⟨kvs, kk kd', hR, rfl, h1.symm⟩, PoE.here I2 r' po2⟩
  · exact po2.elim
theorem kin_go {neg : Bool} {W : XK} {H F : Hp} {c : List Addr} {cs : Cells} {x y : V} {d e : D} {Q : VK} (I : Ih (gd X) H F c cs) (rx : RV (gd X) F c x d) (ry : RV (gd X) F c y e) (po : PoE (gd X) W H F c (kinD neg cs d e) Q) : ∃ a o, y = .ref a ∧ DGet H a x o ∧ Q (.bl (o.isSome != neg)) H := by
  unfold kinD at po
  split at po
  · rename_i l kd' hl hk
    obtain ⟨a, kvs, rfl, hR, rks⟩ := dctOf_at I ry hl
    have ek := kdOf_rv rx hk
    subst ek
    refine ⟨a, _, rfl, .inl ⟨kvs, kk kd', hR, rfl, rfl⟩, ?_⟩
    rcases rks.val kd' with ⟨h1, h2⟩ | ⟨v', d', h1, h2, r'⟩
    · rw [h1]; rw [h2] at po
      exact PoE.here I (.bl _) po
    · rw [h1]; rw [h2] at po
      exact PoE.here I (.bl _) po
  · exact po.elim
theorem xp_kin (hr : Room k X.A) (he : Xp X W e me) (ho : Xp X W o mo) (hm : behindInMarks .In o = false := by rfl) : Xp X W (.Compare e [.In] [o] pos) (op2 (kinD false) me mo) := by
  obtain ⟨to, po', so⟩ := ho
  obtain ⟨te, pe, se⟩ := he
  refine ⟨_, pe_cmp (pc_din (hu_of hr) pe po') hm, fun σ env H F c cs Q re I po => ?_⟩
  refine se σ env H F c cs _ re I (PoE.cut po _ fun d cs1 _ H1 F1 c1 v x1 I1 rv po1 => ?_)
  refine so σ env H1 F1 c1 cs1 _ (re.mono x1.le) I1 (PoE.cut po1 _ fun kd cs2 _ H2 F2 c2 u x2 I2 ru po2 => ?_)
  obtain ⟨a, o, h1, h2, h3⟩ := kin_go I2 (rv.mono x2.le) ru po2
  exact ⟨a, o, h1, h2, by simpa using h3⟩
theorem xp_knin (hr : Room k X.A) (he : Xp X W e me) (ho : Xp X W o mo) (hm : behindInMarks .NotIn o = false := by rfl) : Xp X W (.Compare e [.NotIn] [o] pos) (op2 (kinD true) me mo) := by
  obtain ⟨to, po', so⟩ := ho
  obtain ⟨te, pe, se⟩ := he
  refine ⟨_, pe_cmp (pc_dnotin (hu_of hr) pe po') hm, fun σ env H F c cs Q re I po => ?_⟩
  refine se σ env H F c cs _ re I (PoE.cut po _ fun d cs1 _ H1 F1 c1 v x1 I1 rv po1 => ?_)
  refine so σ env H1 F1 c1 cs1 _ (re.mono x1.le) I1 (PoE.cut po1 _ fun kd cs2 _ H2 F2 c2 u x2 I2 ru po2 => ?_)
  obtain ⟨a, o, h1, h2, h3⟩ := kin_go I2 (rv.mono x2.le) ru po2
  exact ⟨a, o, h1, h2, by simpa using h3⟩
theorem PoE.ofT {g : Gd} {W : XK} {H F : Hp} {c : List Addr} {r : R} {Q : Bool → Hp → Prop} (po : PoT g W H F c r Q) : PoE g W H F c r fun x H' => ∃ k, x = .bl k ∧ Q k H' := by
  cases r with
  | ok d cs1 =>
    cases d with
    | bl b => exact fun H' F' c' x I' v rv => by cases rv; exact ⟨b, rfl, po H' F' c' x I'⟩
    | _ => exact po.elim
  | exc n fs cs1 => exact po
  | stuck => exact po.elim
theorem xt_kin (hr : Room k X.A) (he : Xp X W e me) (ho : Xp X W o mo) (hm : behindInMarks .In o = false := by rfl) : Xt1 X W (.Compare e [.In] [o] pos) (op2 (kinD false) me mo) := by
  obtain ⟨to, po', so⟩ := ho
  obtain ⟨te, pe, se⟩ := he
  refine ⟨_, pt_cmp (pc_din (hu_of hr) pe po') hm, fun σ env H F c cs Q re I po => ?_⟩
  have po := PoE.ofT po
  refine se σ env H F c cs _ re I (PoE.cut po _ fun d cs1 _ H1 F1 c1 v x1 I1 rv po1 => ?_)
  refine so σ env H1 F1 c1 cs1 _ (re.mono x1.le) I1 (PoE.cut po1 _ fun kd cs2 _ H2 F2 c2 u x2 I2 ru po2 => ?_)
  obtain ⟨a, o, h1, h2, h3⟩ := kin_go I2 (rv.mono x2.le) ru po2
  exact ⟨a, o, h1, h2, by simpa using h3⟩
theorem xt_knin (hr : Room k X.A) (he : Xp X W e me) (ho : Xp X W o mo) (hm : behindInMarks .NotIn o = false := by rfl) : Xt1 X W (.Compare e [.NotIn] [o] pos) (op2 (kinD true) me mo) := by
  obtain ⟨to, po', so⟩ := ho
  obtain ⟨te, pe, se⟩ := he
  refine ⟨_, pt_cmp (pc_dnotin (hu_of hr) pe po') hm, fun σ env H F c cs Q re I po => ?_⟩
  have po := PoE.ofT po
  refine se σ env H F c cs _ re I (PoE.cut po _ fun d cs1 _ H1 F1 c1 v x1 I1 rv po1 => ?_)
  refine so σ env H1 F1 c1 cs1 _ (re.mono x1.le) I1 (PoE.cut po1 _ fun kd cs2 _ H2 F2 c2 u x2 I2 ru po2 => ?_)
  obtain ⟨a, o, h1, h2, h3⟩ := kin_go I2 (rv.mono x2.le) ru po2
  exact ⟨a, o, h1, h2, by simpa using h3⟩
end
/-! ### a dict that is walked: a cell, from then on it stands still -/
def keyD : Kd → D
  | .inl i => .int i
  | .inr l => .str l
theorem keyD_rv {g : Gd} {F : Hp} {c : List Addr} (k : Kd) : RV g F c (kV (kk k)) (keyD k) := by
  cases k with
  | inl i => exact .int i
  | inr l => exact .str l
/-- what is walked, and the cells behind it -/
def lockC (cs : Cells) : D → Option (List (Kd × D) × Cells)
  | .loc n => match cs[n]? with
    | some (.dct l) => some (l, cs.set n (.fz (.dct l)))
    | some (.fz (.dct l)) => some (l, cs)
    | _ => none
  | _ => none
theorem pe_lk {X : Cx} {e : Expr} {t : TE} (h : PE X e t) : PE X e fun σ H Q => t σ H fun x H1 => ∃ d u, x = .ref d ∧ ((H1 d = some u ∧ Mut (some u) ∧ ∀ od, Q x (L2.upd H1 d (.frz od u))) ∨ ((∃ od, H1 d = some (.frz od u)) ∧ Q x H1)) := by
  refine ⟨fun pins s σ H Q I hw => thn (h.run pins s σ H _ I hw) fun v s1 ⟨x, H1, I1, r, d, u, e, q⟩ => ?_⟩
  rcases q with ⟨hd, mu, q⟩ | ⟨_, q⟩
  · obtain ⟨od, I2⟩ := I1.lock hd mu
    exact ⟨x, _, I2, r, q od⟩
  · exact ⟨x, H1, I1, r, q⟩
section
variable {g : Gd} {H F : Hp} {c : List Addr} {cs cs' : Cells} {v : V} {d : D} {l : List (Kd × D)}
theorem lock_go (I : Ih g H F c cs) (r : RV g F c v d) (h : lockC cs d = some (l, cs')) :
    ∃ a kvs, v = .ref a ∧ ((H a = some (.dK kvs) ∧ ∀ od, ∃ F', Xt H F c (L2.upd H a (.frz od (.dK kvs))) F' c ∧ Ih g (L2.upd H a (.frz od (.dK kvs))) F' c cs' ∧ F' a = some (.frz od (.dK kvs)) ∧ RKs g F' c kvs l) ∨
      ∃ od, H a = some (.frz od (.dK kvs)) ∧ F a = some (.frz od (.dK kvs)) ∧ cs' = cs ∧ RKs g F c kvs l) := by
  cases d with
  | loc n =>
    cases r with
    | @loc _ a ha =>
      have hm : a ∈ c := List.mem_of_getElem? ha
      have core : ∀ (kvs : List (Key × V)) (l : List (Kd × D)) (cs2 : Cells), H a = some (.dK kvs) → (F a = none ∨ F a = some (.dK kvs)) → RKs g F c kvs l → cs2 = cs.set n (.fz (.dct l)) → ∀ od, ∃ F', Xt H F c (L2.upd H a (.frz od (.dK kvs))) F' c ∧ Ih g (L2.upd H a (.frz od (.dK kvs))) F' c cs2 ∧ F' a = some (.frz od (.dK kvs)) ∧ RKs g F' c kvs l := by
        intro kvs l cs2 e f q e2 od
        subst e2
        have ne : ∀ {b : Addr} {o : HO}, F b = some o → o ≠ .dK kvs → b ≠ a := fun {b o} h1 h2 z => by
          subst z
          rcases f with f | f
          · rw [f] at h1; cases h1
          · rw [f] at h1; cases h1; exact h2 rfl
        have le2 : Le F c (L2.upd F a (.frz od (.dK kvs))) c := by
          refine ⟨fun b xs h => ?_, fun b xs h => ?_, fun b C dx fs h => ?_, fun b u h => ?_, fun b o u h => ?_, fun _ _ h => h⟩
          · rw [upd_ne (ne h (fun z => nomatch z))]; exact h
          · rw [upd_ne (ne h (fun z => nomatch z))]; exact h
          · rw [upd_ne (ne h (fun z => nomatch z))]; exact h
          · by_cases hb : b = a
            · subst hb
              rcases h with h | ⟨o, h⟩
              · rcases f with f | f
                · rw [f] at h; cases h
                · rw [f] at h; cases h; exact .inr ⟨od, upd_same⟩
              · rcases f with f | f
                · rw [f] at h; cases h
                · rw [f] at h; cases h
            · rcases h with h | ⟨o, h⟩
              · exact .inl (by rw [upd_ne hb]; exact h)
              · exact .inr ⟨o, by rw [upd_ne hb]; exact h⟩
          · rw [upd_ne (ne h (fun z => nomatch z))]; exact h
        refine ⟨L2.upd F a (.frz od (.dK kvs)), ⟨le2, fun b u e b1 => ?_, fun b u e => ?_, fun b h hb => absurd h hb, fun b u e f hb => ?_⟩, ⟨fun b u e => ?_, by simp [I.len], I.nd, fun m b y h1 h2 => ?_⟩, upd_same, q.mono le2⟩
        · rw [upd_ne (fun z => b1 (by rw [z]; exact hm))]; exact e
        · by_cases hb : b = a
          · subst hb; exact ⟨_, upd_same⟩
          · exact ⟨u, by rw [upd_ne hb]; exact e⟩
        · rw [upd_ne (fun z => hb (by rw [z]; exact hm))]; exact f
        · by_cases hb : b = a
          · subst hb; rw [upd_same] at e ⊢; exact e
          · rw [upd_ne hb] at e ⊢; exact I.sub b u e
        · by_cases hmn : m = n
          · subst hmn
            rw [ha] at h1; cases h1
            rw [List.getElem?_set_self (by rw [← I.len]; exact (List.getElem?_eq_some_iff.mp ha).1)] at h2
            cases h2
            exact ⟨.dct (.inr ⟨od, upd_same⟩) (q.mono le2), _, upd_same, fun vs z => by cases z⟩
          · rw [List.getElem?_set_ne (Ne.symm hmn)] at h2
            have hne : b ≠ a := fun z => hmn (I.inj (z ▸ h1) ha)
            exact CR.mono (I.cell m b y h1 h2) le2 (fun u e => by rw [upd_ne hne]; exact e) fun e => by rw [upd_ne hne]; exact e
      simp only [lockC] at h
      split at h
      · rename_i l0 hl
        simp only [Option.some.injEq, Prod.mk.injEq] at h
        obtain ⟨rfl, rfl⟩ := h
        obtain ⟨f, kvs, e, q⟩ := I.cell _ _ _ ha hl
        exact ⟨a, kvs, rfl, .inl ⟨e, core kvs l0 _ e (.inl f) q rfl⟩⟩
      · rename_i l0 hl
        simp only [Option.some.injEq, Prod.mk.injEq] at h
        obtain ⟨rfl, rfl⟩ := h
        obtain ⟨q, o, e, _⟩ := I.cell _ _ _ ha hl
        cases q with
        | dct h1 h2 =>
          rcases h1 with h1 | ⟨od, h1⟩
          · refine ⟨a, _, rfl, .inl ⟨I.sub _ _ h1, core _ l0 _ (I.sub _ _ h1) (.inr h1) h2 ?_⟩⟩
            exact (set_same hl).symm
          · exact ⟨a, _, rfl, .inr ⟨od, I.sub _ _ h1, h1, rfl, h2⟩⟩
      · cases h
  | _ => simp [lockC] at h
theorem itk_items {a : Addr} {od : Obj} {kvs : List (Key × V)} : Itk g (Iti a od kvs) (l.map fun p => .tup [keyD p.1, p.2]) fun H F c cs => (F a = some (.frz od (.dK kvs)) ∧ RKs g F c kvs l) ∧ True := by
  refine ⟨fun i H F c cs I ok hi => ?_, fun i H F c cs d' I ok hd x H' y => ?_, fun i H F c cs I ok hi => ?_⟩
  · exact ⟨I.sub _ _ ok.1.1, by rw [RKs.length ok.1.2]; simpa using hi⟩
  · obtain ⟨T, k, v, hkv, rfl, hT, rfl⟩ := y
    obtain ⟨kd, d2, h1, rfl, rv⟩ := ok.1.2.at hkv
    rw [List.getElem?_map, h1] at hd
    simp only [Option.map_some, Option.some.injEq] at hd
    subst hd
    have x2 := Xt.still I (o := .tup [kV (kk kd), v]) hT
    refine ⟨_, x2, I.still hT, .tup (.of upd_same) (.cons (keyD_rv kd) (.cons (rv.mono x2.le) .nil))⟩
  · exact ⟨I.sub _ _ ok.1.1, by rw [RKs.length ok.1.2]; simp at hi; omega⟩
theorem itk_keys {a : Addr} {od : Obj} {kvs : List (Key × V)} : Itk g (L2.Itk a od kvs) (l.map fun p => keyD p.1) fun H F c cs => (F a = some (.frz od (.dK kvs)) ∧ RKs g F c kvs l) ∧ True := by
  refine ⟨fun i H F c cs I ok hi => ?_, fun i H F c cs d' I ok hd x H' y => ?_, fun i H F c cs I ok hi => ?_⟩
  · exact ⟨I.sub _ _ ok.1.1, by rw [RKs.length ok.1.2]; simpa using hi⟩
  · obtain ⟨rfl, k, v, hkv, rfl⟩ := y
    obtain ⟨kd, d2, h1, rfl, rv⟩ := ok.1.2.at hkv
    rw [List.getElem?_map, h1] at hd
    simp only [Option.map_some, Option.some.injEq] at hd
    subst hd
    exact ⟨F, Xt.refl _ _ _, I, keyD_rv kd⟩
  · exact ⟨I.sub _ _ ok.1.1, by rw [RKs.length ok.1.2]; simp at hi; omega⟩
end
def wItems (m : ME) : MW := fun env cs => (m env cs).toW fun d cs1 => match lockC cs1 d with
  | some (l, cs2) => .ok (l.map fun p => .tup [keyD p.1, p.2]) (fun _ => True) cs2
  | none => .stuck
def wKeys (m : ME) : MW := fun env cs => (m env cs).toW fun d cs1 => match lockC cs1 d with
  | some (l, cs2) => .ok (l.map fun p => keyD p.1) (fun _ => True) cs2
  | none => .stuck
section
variable {X : Cx} {W : WX} {e tg : Expr} {m : ME} {pos apos : Pos} {elts : List Expr} {kk0 : Nat} {tpos : Pos}
theorem kn_mono {g : Gd} {a : Addr} {od : Obj} {kvs : List (Key × V)} {l : List (Kd × D)} : ∀ (F : Hp) (c : List Addr) (F' : Hp) (c' : List Addr), Le F c F' c' → (F a = some (.frz od (.dK kvs)) ∧ RKs g F c kvs l) → F' a = some (.frz od (.dK kvs)) ∧ RKs g F' c' kvs l :=
  fun _ _ _ _ e k => ⟨e.frz _ _ _ k.1, k.2.mono e⟩
theorem wk_items (he : Xp X W e m) (hbase : attributeBase e "items" X.env (eval e X.env) = eval e X.env := by rfl) (hline : (apos.endLine == pos.line) = true := by rfl) : Wk X W (.Tuple elts kk0 tpos) (.Call (.Attribute e "items" apos) [] [] pos) (wItems m) := by
  obtain ⟨te, pe, se⟩ := he
  refine ⟨_, pi_items (pe_lk pe) hbase hline, fun σ env H F c cs R re I po => ?_⟩
  refine se σ env H F c cs _ re I (PoW.cut po _ fun d cs1 _ H1 F1 c1 v x1 I1 rv po1 => ?_)
  split at po1
  · rename_i l cs2 hl
    obtain ⟨a, kvs, rfl, q⟩ := lock_go I1 rv hl
    rcases q with ⟨hH, q⟩ | ⟨od, hH, hF, rfl, rk⟩
    · refine ⟨a, _, rfl, .inl ⟨hH, trivial, fun od => ?_⟩⟩
      obtain ⟨F', x2, I2, hF, rk⟩ := q od
      exact ⟨a, od, kvs, rfl, upd_same, po1 _ _ _ x2 I2 _ _ itk_items kn_mono ⟨hF, rk⟩⟩
    · exact ⟨a, .dK kvs, rfl, .inr ⟨⟨od, hH⟩, a, od, kvs, rfl, hH, po1 _ _ _ (Xt.refl _ _ _) I1 _ _ itk_items kn_mono ⟨hF, rk⟩⟩⟩
  · exact po1.elim
theorem wk_keys (he : Xp X W e m) : Wk X W tg e (wKeys m) := by
  obtain ⟨te, pe, se⟩ := he
  refine ⟨_, pi_keys (pe_lk pe), fun σ env H F c cs R re I po => ?_⟩
  refine se σ env H F c cs _ re I (PoW.cut po _ fun d cs1 _ H1 F1 c1 v x1 I1 rv po1 => ?_)
  split at po1
  · rename_i l cs2 hl
    obtain ⟨a, kvs, rfl, q⟩ := lock_go I1 rv hl
    rcases q with ⟨hH, q⟩ | ⟨od, hH, hF, rfl, rk⟩
    · refine ⟨a, _, rfl, .inl ⟨hH, trivial, fun od => ?_⟩⟩
      obtain ⟨F', x2, I2, hF, rk⟩ := q od
      exact ⟨a, od, rfl, .inl ⟨kvs, upd_same, po1 _ _ _ x2 I2 _ _ itk_keys kn_mono ⟨hF, rk⟩⟩⟩
    · exact ⟨a, .dK kvs, rfl, .inr ⟨⟨od, hH⟩, a, od, rfl, .inl ⟨kvs, hH, po1 _ _ _ (Xt.refl _ _ _) I1 _ _ itk_keys kn_mono ⟨hF, rk⟩⟩⟩⟩
  · exact po1.elim
end
/-! ### {k: v for .. in it if t} -/
open Classical in
noncomputable def dcL (chk : Cells → Prop) (tg : D → L3.Env → Option L3.Env) (t ek ev : ME) : List D → L3.Env → Cells → Option (List (Kd × D) × Cells)
  | [], env, cs => if chk cs then some ([], cs) else none
  | d :: ds, env, cs => if chk cs then (match tg d env with
    | none => none
    | some env1 => match t env1 cs with
      | .ok (.bl true) cs1 => (match ek env1 cs1 with
        | .ok kd cs2 => (match kdOf kd with
          | some k => (match ev env1 cs2 with
            | .ok y cs3 => (match dcL chk tg t ek ev ds env cs3 with
              | some (l, cs4) => some ((k, y) :: l, cs4)
              | none => none)
            | _ => none)
          | none => none)
        | _ => none)
      | .ok (.bl false) cs1 => dcL chk tg t ek ev ds env cs1
      | _ => none) else none
noncomputable def eDc (md : Bool) (own : List Nat) (tg : D → L3.Env → Option L3.Env) (m : MW) (t ek ev : ME) : ME := fun env cs => match m env cs with
  | .ok items chk cs1 => (match dcL chk tg t ek ev items (wipeE env own) cs1 with
    | some (l, cs2) => if l.length ≤ 1000 then mkD md cs2 (mergeD [] l) else .stuck
    | none => .stuck)
  | .exc n fs cs1 => .exc n fs cs1
  | .stuck => .stuck
structure DcI (g : Gd) (W : XK) (H F : Hp) (c : List Addr) (Q : VK) (md : Bool) (Dl : Addr) (rest : L3.Env → Cells → Option (List (Kd × D) × Cells)) (env : L3.Env) (H' : Hp) : Prop where
  ex : ∃ F' c' cs' acc dacc l cs2, Xt H F c H' F' c' ∧ Ih g H' F' c' cs' ∧ H' Dl = some (.dK acc) ∧ Dl ∉ c' ∧ F' Dl = none ∧ RKs g F' c' acc dacc ∧ rest env cs' = some (l, cs2) ∧ acc.length + l.length ≤ 1000 ∧ PoE g W H F c (mkD md cs2 (mergeD dacc l)) Q
theorem upd_self {H : Hp} {a : Addr} {o : HO} (h : H a = some o) : L2.upd H a o = H := by
  funext b
  by_cases hb : b = a
  · subst hb; rw [upd_same, h]
  · rw [upd_ne hb]
theorem dc_sim {g : Gd} {W : XK} {J : It} {items : List D} {kn : Hp → List Addr → Prop} {chk : Cells → Prop} (K : L3.Itk g J items fun H F c cs => kn F c ∧ chk cs) (km : ∀ F c F' c', Le F c F' c' → kn F c → kn F' c')
    {tg : D → L3.Env → Option L3.Env} {mt mk mv : ME} {md : Bool} {tG : TG} {tt : TT} {tk tv : TE} {own : List Nat} {Q : VK}
    (hg : ∀ σ env H F c cs v d env1 Q, RE g F c σ env → Ih g H F c cs → RV g F c v d → tg d env = some env1 → (∀ σ1, RE g F c σ1 env1 → L2.wipe σ1 own = L2.wipe σ own → Q σ1 H) → tG v σ H Q)
    (ht : ∀ σ env H F c cs Q, RE g F c σ env → Ih g H F c cs → PoT g (fun _ _ _ => False) H F c (mt env cs) Q → tt σ H Q)
    (hk' : ∀ σ env H F c cs Q, RE g F c σ env → Ih g H F c cs → PoE g (fun _ _ _ => False) H F c (mk env cs) Q → tk σ H Q)
    (he : ∀ σ env H F c cs Q, RE g F c σ env → Ih g H F c cs → PoE g (fun _ _ _ => False) H F c (mv env cs) Q → tv σ H Q)
    {σ : L2.St} {env : L3.Env} {H F : Hp} {c : List Addr} {cs cs2 : Cells} {l : List (Kd × D)} (re : RE g F c σ env) (I : Ih g H F c cs) (hk : kn F c) {Dl : Addr} (hD : H Dl = none)
    (hdc : dcL chk tg mt mk mv items env cs = some (l, cs2)) (hl : l.length ≤ 1000) (po : PoE g W H F c (mkD md cs2 (mergeD [] l)) Q) (hσ : L2.wipe σ own = σ) :
    ∃ Wi : Nat → Nat → Hp → Prop, (∃ m, Wi 0 m (L2.upd H Dl (.dK []))) ∧ ∀ i m H, Wi i m H → (J.stop i H ∧ Q (.ref Dl) H) ∨ (J.go i H ∧ ∃ Nx : Hp → Prop, (∀ H', Nx H' → ∃ m', m' < m ∧ Wi (i + 1) m' H') ∧ ∀ x H', J.yld i H x H' → tG x σ H' fun σ2 H2 => L2.wipe σ2 own = σ ∧ tt σ2 H2 fun b H3 =>
      if b = true then tk σ2 H3 fun y H4 => tv σ2 H4 fun z H5 => ∃ kvs k, y = kV k ∧ H5 Dl = some (.dK kvs) ∧ kvs.length < sizeLine ∧ Nx (L2.upd H5 Dl (.dK (putK kvs k z))) else Nx H3) := by
  refine ⟨fun i m H' => m = items.length - i ∧ i ≤ items.length ∧ DcI g W H F c Q md Dl (dcL chk tg mt mk mv (items.drop i)) env H', ⟨_, rfl, Nat.zero_le _, F, c, cs, [], [], l, cs2, Xt.side (Xt.refl _ _ _) hD, I.side (I.notMem hD) (I.noF hD), upd_same, I.notMem hD, I.noF hD, .nil, hdc, by simpa using hl, po⟩, ?_⟩
  rintro i m H1 ⟨rfl, hi, F1, c1, cs1, acc, dacc, l1, cs3, x1, I1, hDl, hDc, hDF, rva, hd1, hz, po1⟩
  have re1 := re.mono x1.le
  have k1 := km _ _ _ _ x1.le hk
  by_cases hc : chk cs1
  · by_cases hlt : i < items.length
    · refine .inr ⟨K.go i H1 F1 c1 cs1 I1 ⟨k1, hc⟩ hlt, fun H' => ∃ m', m' < items.length - i ∧ m' = items.length - (i + 1) ∧ i + 1 ≤ items.length ∧ DcI g W H F c Q md Dl (dcL chk tg mt mk mv (items.drop (i + 1))) env H', fun H' h => h, fun x H2 y => ?_⟩
      obtain ⟨F2, x2, I2, rv⟩ := K.yld i H1 F1 c1 cs1 items[i] I1 ⟨k1, hc⟩ (by simp [hlt]) x H2 y
      have hDl2 : H2 Dl = some (.dK acc) := x2.kp _ _ hDl hDc
      have hDF2 := x2.out _ _ hDl hDF hDc
      rw [List.drop_eq_getElem_cons hlt] at hd1
      simp only [dcL, hc, if_true] at hd1
      cases htg : tg items[i] env with
      | none => rw [htg] at hd1; cases hd1
      | some env1 =>
        rw [htg] at hd1
        simp only at hd1
        refine hg σ env H2 F2 c1 cs1 x _ env1 _ (re1.mono x2.le) I2 rv htg fun σ2 re2 hw => ⟨hw.trans hσ, ?_⟩
        refine ht σ2 env1 H2 F2 c1 cs1 _ re2 I2 ?_
        cases htt : mt env1 cs1 with
        | ok d cs4 =>
          rw [htt] at hd1
          cases d with
          | bl b =>
            intro H3 F3 c3 x3 I3
            have hDc3 : Dl ∉ c3 := fun h => by
              have := x3.new Dl h hDc
              rw [hDl2] at this; cases this
            have hDl3 : H3 Dl = some (.dK acc) := x3.kp _ _ hDl2 hDc
            have hDF3 := x3.out _ _ hDl2 hDF2 hDc
            cases b with
            | true =>
              refine iteT ?_
              simp only at hd1
              refine hk' σ2 env1 H3 F3 c3 cs4 _ (re2.mono x3.le) I3 ?_
              cases hee : mk env1 cs4 with
              | ok kd cs5 =>
                rw [hee] at hd1
                simp only at hd1
                cases hkd : kdOf kd with
                | none => rw [hkd] at hd1; cases hd1
                | some kq =>
                rw [hkd] at hd1
                simp only at hd1
                intro H4 F4 c4 x4 I4 y ry
                have hDc4 : Dl ∉ c4 := fun h => by
                  have := x4.new Dl h hDc3
                  rw [hDl3] at this; cases this
                have hDl4 : H4 Dl = some (.dK acc) := x4.kp _ _ hDl3 hDc3
                have hDF4 := x4.out _ _ hDl3 hDF3 hDc3
                refine he σ2 env1 H4 F4 c4 cs5 _ ((re2.mono x3.le).mono x4.le) I4 ?_
                cases hvv : mv env1 cs5 with
                | ok d5 cs6 =>
                  rw [hvv] at hd1
                  simp only at hd1
                  intro H5 F5 c5 x5 I5 z rz
                  have hDc5 : Dl ∉ c5 := fun h => by
                    have := x5.new Dl h hDc4
                    rw [hDl4] at this; cases this
                  have hDl5 : H5 Dl = some (.dK acc) := x5.kp _ _ hDl4 hDc4
                  have hDF5 := x5.out _ _ hDl4 hDF4 hDc4
                  have xx := (((x1.trans x2).trans x3).trans x4).trans x5
                  have ek := kdOf_rv ry hkd
                  cases hrest : dcL chk tg mt mk mv (items.drop (i + 1)) env cs6 with
                  | none => rw [hrest] at hd1; cases hd1
                  | some r =>
                    obtain ⟨l2, cs7⟩ := r
                    rw [hrest] at hd1
                    simp only [Option.some.injEq, Prod.mk.injEq] at hd1
                    obtain ⟨rfl, rfl⟩ := hd1
                    have ra := ((((rva.mono x2.le).mono x3.le).mono x4.le).mono x5.le).put kq rz
                    have hlen : (putK acc (kk kq) z).length ≤ acc.length + 1 := length_putK _ _ _
                    simp only [List.length_cons] at hz
                    refine ⟨acc, kk kq, ek, hDl5, by rw [sizeLine_eq]; omega, _, by omega, rfl, hlt, F5, c5, cs6, putK acc (kk kq) z, putD dacc kq d5, l2, cs7, xx.side hD, I5.side hDc5 hDF5, upd_same, hDc5, hDF5, ra, hrest, by omega, po1⟩
                | exc n fs cs6 => rw [hvv] at hd1; cases hd1
                | stuck => rw [hvv] at hd1; cases hd1
              | exc n fs cs5 => rw [hee] at hd1; cases hd1
              | stuck => rw [hee] at hd1; cases hd1
            | false =>
              exact iteF ⟨_, by omega, rfl, hlt, F3, c3, cs4, acc, dacc, l1, cs3, (x1.trans x2).trans x3, I3, hDl3, hDc3, hDF3, (rva.mono x2.le).mono x3.le, hd1, hz, po1⟩
          | _ => cases hd1
        | exc n fs cs4 => rw [htt] at hd1; cases hd1
        | stuck => rw [htt] at hd1; cases hd1
    · have e : i = items.length := by omega
      subst e
      refine .inl ⟨K.stop _ H1 F1 c1 cs1 I1 ⟨k1, hc⟩ rfl, ?_⟩
      rw [List.drop_length] at hd1
      simp only [dcL, hc, if_true, Option.some.injEq, Prod.mk.injEq] at hd1
      obtain ⟨rfl, rfl⟩ := hd1
      have := mkD_ok x1 I1 hD hDF hDc rva po1
      rw [upd_self hDl] at this
      exact this
  · have : dcL chk tg mt mk mv (items.drop i) env cs1 = none := by cases items.drop i <;> simp [dcL, hc]
    rw [this] at hd1
    cases hd1
structure DcOk (X : Cx) (tg : Expr) (ifs : List Expr) (kx vx : Expr) (scope : Scope) (own : List (Str × Nat)) (f : D → L3.Env → Option L3.Env) (mt mk mv : ME) : Prop where
  tgt : ∀ (s : Shared) (H : Hp) (C : Addr) (cl : List (Str × Addr)) (fp : List Addr), Tgt (X.blk s H scope (compEnvC scope cl C X.env) fp) tg f (own.map (·.2))
  tst : ∀ (s : Shared) (H : Hp) (C : Addr) (cl : List (Str × Addr)) (fp : List Addr), Xts (X.blk s H scope (compEnvC scope cl C X.env) fp) (fun _ _ _ _ => False) ifs mt
  key : ∀ (s : Shared) (H : Hp) (C : Addr) (cl : List (Str × Addr)) (fp : List Addr), Xp (X.blk s H scope (compEnvC scope cl C X.env) fp) (fun _ _ _ _ => False) kx mk
  val : ∀ (s : Shared) (H : Hp) (C : Addr) (cl : List (Str × Addr)) (fp : List Addr), Xp (X.blk s H scope (compEnvC scope cl C X.env) fp) (fun _ _ _ _ => False) vx mv
section
variable {X : Cx} {W : WX} {pos : Pos} {tg iter kx vx : Expr} {ifs : List Expr} {scope : Scope} {own : List (Str × Nat)} {f : D → L3.Env → Option L3.Env} {mw : MW} {mt mk mv : ME}
theorem xp_dc (md : Bool) (hc : X.calm = true) (hN : X.N.Nodup) (hi : Wk X W tg iter mw) (ok : BlkOk X.N X.env.scope scope own) (h : DcOk X tg ifs kx vx scope own f mt mk mv) (hs : ∀ x, foldedSetIterable iter X.env x = pure x := by intro _; rfl) :
    Xp X W (.DictComp kx vx [⟨tg, iter, ifs, 0⟩] scope pos) (eDc md (own.map (·.2)) f mw mt mk mv) := by
  obtain ⟨wi, pw, sw⟩ := hi
  refine ⟨_, pe_dc (g := tgOf (gd X) f (own.map (·.2))) (tt := ttOf (gd X) (fun _ _ _ _ => False) mt) (tk := teOf (gd X) (fun _ _ _ _ => False) mk) (tv := teOf (gd X) (fun _ _ _ _ => False) mv) hc hN pw ok (fun s H C cl fp => (h.tgt s H C cl fp).canon) (fun s H C cl fp => (h.tst s H C cl fp).canon) (fun s H C cl fp => (h.key s H C cl fp).canon) (fun s H C cl fp => (h.val s H C cl fp).canon) hs, fun σ env H F c cs Q re I po => ?_⟩
  refine sw σ env H F c cs _ re I ?_
  unfold eDc at po
  cases h : mw env cs with
  | ok items chk cs1 =>
    rw [h] at po
    simp only at po
    intro H1 F1 c1 x1 I1 J kn K km hk Dl hD
    cases hd : dcL chk f mt mk mv items (wipeE env (own.map (·.2))) cs1 with
    | none => rw [hd] at po; exact po.elim
    | some r =>
      obtain ⟨l, cs2⟩ := r
      rw [hd] at po
      simp only at po
      split at po
      · rename_i hl
        exact dc_sim K km (tg := f) (mt := mt) (mk := mk) (mv := mv) (md := md) (own := own.map (·.2)) (Q := Q) (fun σ env H F c cs v d env1 Q re I rv h k => (⟨env, F, c, cs, d, env1, re, I, rv, h, k⟩ : tgOf (gd X) f (own.map (·.2)) v σ H Q))
          (fun σ env H F c cs Q re I po => (⟨env, F, c, cs, re, I, po⟩ : ttOf (gd X) (fun _ _ _ _ => False) mt σ H Q)) (fun σ env H F c cs Q re I po => (⟨env, F, c, cs, re, I, po⟩ : teOf (gd X) (fun _ _ _ _ => False) mk σ H Q))
          (fun σ env H F c cs Q re I po => (⟨env, F, c, cs, re, I, po⟩ : teOf (gd X) (fun _ _ _ _ => False) mv σ H Q))
          (W := fun a b => W a b σ) ((re.mono x1.le).wipe (own.map (·.2))) I1 hk hD hd hl (PoE.from x1 po) (wipe_wipe σ _)
      · exact po.elim
  | exc n fs cs1 => rw [h] at po; exact po
  | stuck => rw [h] at po; exact po.elim
end
end L3

/-! sorted(..) of a list or a tuple of texts -/
namespace L3
open PySem L2 PySem.Spec PyProof.Rows Builtin
section
variable {prog : Program} {w : World} {A : Around} {E : Value → Shared → Prop} {s : Shared}
theorem collect_tupS {l : Addr} {vs : List Value} {Q : List Value → Shared → Prop} (hl : IsTup s.heap l vs.toArray)
    (h : Q vs { s with heap := (s.heap.push (seqObj "list" #[] 0)).update s.heap.objs.size (Obj.mapSeq (· ++ vs.toArray)) }) (hsz : vs.length ≤ sizeLine) :
    wpAny (model prog w) A (collect (.ref l)) Q E s := by
  obtain ⟨o, ho, hc, n, hd⟩ := id hl
  unfold collect
  refine wpAny_bind (wpAny_runValue (codeAny_builtin entry_proto_collect' ?_))
  show wpAny _ _ (do again (.builtin "list.__iadd__" ⟨[← newList [], .ref l], []⟩)) _ _ s
  refine wpAny_bind (wpAny_newList (wpAny_pure ⟨Code.quiet_builtin _ (by decide +kernel), codeAny_builtin entry_list_iadd' ?_⟩))
  show wpAny _ _ (Builtin.List.listExtendWith (.ref s.heap.objs.size) (.ref l) (.ref s.heap.objs.size)) _ _ { s with heap := s.heap.push (seqObj "list" #[] 0) }
  unfold Builtin.List.listExtendWith
  have ho' : (s.heap.push (seqObj "list" #[] 0)).get? l = some o := Heap.get?_push_of_some _ ho
  refine wpAny_bind (wpAny_typeOf (T := "tuple") ⟨o, ho', hc⟩ ?_)
  have ht : (Value.type "tuple" == Value.type "tuple") = true := by rfl
  rw [if_pos (by rw [ht]; simp)]
  refine wpAny_bind (listItems_at ho' hd ?_)
  refine wpAny_bind (listItems_at (xs := #[]) (n := 0) (Heap.get?_push_size _ rfl) rfl ?_)
  rw [if_neg (by simp)]
  refine wpAny_bind (listUpdate_at (xs := #[]) (n := 0) (Heap.get?_push_size _ rfl) rfl ?_ (Nat.zero_le _) (by show (#[] ++ vs.toArray).size ≤ sizeLine + 1; simp only [Array.size_append, List.size_toArray, List.length_nil]; omega))
  refine wpAny_pure ?_
  show wpAny (model prog w) A (do
      let o ← load s.heap.objs.size
      match o.data with
      | .seq xs _ => pure xs.toList
      | _ => unsupported "internal:collect") Q E { s with heap := (s.heap.push (seqObj "list" #[] 0)).update s.heap.objs.size (Obj.mapSeq (· ++ vs.toArray)) }
  refine wpAny_bind (wpAny_load (get?_update_seq (Heap.get?_push_size _ rfl) _) ?_)
  show wpAny _ _ (pure ((#[] : Array Value) ++ vs.toArray).toList) Q E _
  rw [show ((#[] : Array Value) ++ vs.toArray).toList = vs by simp]
  exact wpAny_pure h
theorem sorted_strsT {l : Addr} {vs : List Value} {ss : List Str} {Q : Value → Shared → Prop} (hl : IsTup s.heap l vs.toArray) (hS : StrsAre vs ss) (h64 : vs.length < 64)
    (h : ∀ (out : Array Value) (ss' : List Str), StrsAre out.toList ss' → ss'.Perm ss → sortedS ss' = true → Q (.ref (s.heap.objs.size + 1)) { s with heap := sortedAll s.heap vs out }) :
    wpAny (model prog w) A (call (.builtin "sorted") [.ref l]) Q E s := by
  refine Calls.call_function_entry kind_sorted plain_sorted entry_sorted (args_sorted1 _) ?_
  unfold Builtin.«sorted»
  refine wpAny_bind (m := checkCount "sorted" 1 1 _) (wpAny_pure ?_)
  refine wpAny_bind (collect_tupS hl ?_ (by rw [sizeLine_eq]; omega))
  refine wpAny_bind (wpAny_newList ?_ (by rw [sizeLine_eq]; omega))
  have hsz : ((s.heap.push (seqObj "list" #[] 0)).update s.heap.objs.size (Obj.mapSeq (· ++ vs.toArray))).objs.size = s.heap.objs.size + 1 := by
    rw [Heap.size_update, size_push']
  have hoL : (((s.heap.push (seqObj "list" #[] 0)).update s.heap.objs.size (Obj.mapSeq (· ++ vs.toArray))).push (seqObj "list" vs.toArray 0)).get? (s.heap.objs.size + 1) = some (seqObj "list" vs.toArray 0) := by
    rw [← hsz]; exact Heap.get?_push_size _ rfl
  show wpAny _ _ _ _ _ { s with heap := ((s.heap.push (seqObj "list" #[] 0)).update s.heap.objs.size (Obj.mapSeq (· ++ vs.toArray))).push (seqObj "list" vs.toArray 0) }
  rw [hsz]
  refine wpAny_bind (wpAny_holding (wpAny_call_entry slot_list_sort ⟨_, hoL, rfl⟩ entry_list_sort (list_sort_treeK strKind_oneLt hoL hS.keysOf (fun v₁ v₂ rest e => keyKind_strs (by rw [← e]; exact hS)) h64 fun st' a1 a2 => ⟨_, rfl, ?_⟩) (args_list_sort _)))
  obtain ⟨ss', h1, h2, h3⟩ := sorted_out_str hS a1 a2
  exact wpAny_pure ⟨_, rfl, h _ ss' h1 h2 h3⟩
end
theorem cr_sortedTS {X : Cx} : CallR X (.builtin "sorted") fun vs H Q => ∃ (a : Addr) (xs : List Str), vs = [V.ref a] ∧ SqT X.K H a (xs.map V.str) ∧ xs.length < 64 ∧
    ∀ (ys : List Str) (p : Addr), ys.Perm xs → sortedS ys = true → H p = none → Q (.ref p) (L2.upd H p (.lst (ys.map V.str))) := by
  intro pins s σ H vs us Q I r h
  obtain ⟨a, xs, rfl, hs, h64, q⟩ := h
  obtain ⟨its, rv, hl, _⟩ := I.tuple hs
  rw [Vals.ref1 r]
  have hlen0 := rv.length
  rw [List.length_map] at hlen0
  refine sorted_strsT hl rv.strs (by rw [← hlen0]; exact h64) fun out ys h1 h2 h3 => ?_
  obtain ⟨ep, he'⟩ := PyProof.Rows.sortedAll_at s.heap its out
  have hlen : (ys.map V.str).length ≤ sizeLine := by rw [List.length_map, h2.length_eq]; exact small64 h64
  exact ⟨.ref _, L2.upd H (s.heap.objs.size + 1) (.lst (ys.map V.str)), I.laid (t' := s.toks) (fun _ _ => PyProof.Rows.sortedAll_old) (Nat.le_succ _) ⟨hlen, out.toList, ep, vals_of_strs h1, he'⟩, rfl, q ys _ h2 h3 (I.hok.fresh (Nat.le_succ _))⟩
/-! ### the sorted list of some texts -/
def leC (a b : List Nat) : Bool := !ltCps b a
theorem lt_irr : ∀ a : List Nat, ltCps a a = false
  | [] => rfl
  | a :: r => by simp [ltCps, lt_irr r]
theorem lt_tri : ∀ a b : List Nat, ltCps a b = true ∨ ltCps b a = true ∨ a = b
  | [], [] => .inr (.inr rfl)
  | [], _ :: _ => .inl rfl
  | _ :: _, [] => .inr (.inl rfl)
  | a :: r, b :: t => by
    rcases Nat.lt_trichotomy a b with h | h | h
    · exact .inl (by simp [ltCps, h])
    · subst h
      rcases lt_tri r t with q | q | q
      · exact .inl (by simp [ltCps, q])
      · exact .inr (.inl (by simp [ltCps, q]))
      · exact .inr (.inr (by rw [q]))
    · exact .inr (.inl (by simp [ltCps, h]))
theorem lt_trans : ∀ {a b c : List Nat}, ltCps a b = true → ltCps b c = true → ltCps a c = true
  | [], [], _, h, _ => by cases h
  | [], _ :: _, [], _, h => by cases h
  | [], _ :: _, _ :: _, _, _ => rfl
  | _ :: _, [], _, h, _ => by cases h
  | _ :: _, _ :: _, [], _, h => by cases h
  | a :: r, b :: t, c :: u, h, k => by
    simp only [ltCps, Bool.or_eq_true, Bool.and_eq_true, decide_eq_true_eq, beq_iff_eq] at h k ⊢
    rcases h with h | ⟨h, h2⟩
    · rcases k with k | ⟨k, _⟩
      · exact .inl (by omega)
      · exact .inl (by omega)
    · rcases k with k | ⟨k, k2⟩
      · exact .inl (by omega)
      · exact .inr ⟨by omega, lt_trans h2 k2⟩
theorem leC_trans (a b c : List Nat) (h : leC a b = true) (k : leC b c = true) : leC a c = true := by
  unfold leC at *
  rw [Bool.not_eq_true'] at *
  cases e : ltCps c a with
  | false => rfl
  | true =>
    rcases lt_tri a b with q | q | q
    · have := lt_trans e q; rw [this] at k; cases k
    · rw [q] at h; cases h
    · subst q; rw [e] at k; cases k
theorem leC_total (a b : List Nat) : (leC a b || leC b a) = true := by
  unfold leC
  rcases lt_tri a b with q | q | q
  · have : ltCps b a = false := by
      cases e : ltCps b a with
      | false => rfl
      | true => have := lt_trans q e; rw [lt_irr] at this; cases this
    simp [this]
  · have : ltCps a b = false := by
      cases e : ltCps a b with
      | false => rfl
      | true => have := lt_trans q e; rw [lt_irr] at this; cases this
    simp [this]
  · subst q; simp [lt_irr]
theorem leC_anti {a b : List Nat} (h : leC a b = true) (k : leC b a = true) : a = b := by
  unfold leC at *
  rw [Bool.not_eq_true'] at *
  rcases lt_tri a b with q | q | q
  · rw [q] at k; cases k
  · rw [q] at h; cases h
  · exact q
def sortL (H : List (List Nat)) : List (List Nat) := H.mergeSort leC
theorem srt_uniq : ∀ {a b : List (List Nat)}, a.Perm b → a.Pairwise (fun x y => leC x y = true) → b.Pairwise (fun x y => leC x y = true) → a = b
  | [], b, p, _, _ => (List.Perm.eq_nil p.symm).symm
  | x :: r, [], p, _, _ => by have := p.length_eq; simp at this
  | x :: r, y :: t, p, h, k => by
    rw [List.pairwise_cons] at h k
    have hx : x ∈ y :: t := p.subset (List.mem_cons_self)
    have hy : y ∈ x :: r := p.symm.subset (List.mem_cons_self)
    have e : x = y := by
      rcases List.mem_cons.mp hx with q | q
      · exact q
      · rcases List.mem_cons.mp hy with q2 | q2
        · exact q2.symm
        · exact leC_anti (h.1 _ q2) (k.1 _ q)
    subst e
    rw [srt_uniq (List.Perm.cons_inv p) h.2 k.2]
theorem rising_pw : ∀ (r : List Str) (p : Str), risingS p r = true → (p :: r).Pairwise (fun x y => leC (codes x) (codes y) = true)
  | [], p, _ => by simp
  | x :: r, p, h => by
    simp only [risingS, Bool.and_eq_true] at h
    have ih := rising_pw r x h.2
    rw [List.pairwise_cons]
    refine ⟨fun y hy => ?_, ih⟩
    have h1 : leC (codes p) (codes x) = true := h.1
    rcases List.mem_cons.mp hy with q | q
    · subst q; exact h1
    · exact leC_trans _ _ _ h1 ((List.pairwise_cons.mp ih).1 _ q)
theorem sortL_perm (H : List (List Nat)) : (sortL H).Perm H := List.mergeSort_perm H leC
theorem sortL_len (H : List (List Nat)) : (sortL H).length = H.length := (sortL_perm H).length_eq
theorem sortL_pw (H : List (List Nat)) : (sortL H).Pairwise (fun x y => leC x y = true) := List.pairwise_mergeSort (fun a b c => leC_trans a b c) leC_total H
theorem sortL_eq {H : List (List Nat)} {ys : List Str} (p : ys.Perm (H.map fun l => (⟨l.toArray⟩ : Str))) (s : sortedS ys = true) : ys.map codes = sortL H := by
  refine srt_uniq ?_ ?_ (sortL_pw H)
  · have e : (H.map fun l => (⟨l.toArray⟩ : Str)).map codes = H := by
      rw [List.map_map]
      have : (codes ∘ fun l : List Nat => (⟨l.toArray⟩ : Str)) = _root_.id := by funext l; simp [codes]
      rw [this, List.map_id]
    have := p.map codes
    rw [e] at this
    exact this.trans (sortL_perm H).symm
  · cases ys with
    | nil => simp
    | cons x r =>
      have := rising_pw r x s
      exact this.map codes (fun a b h => h)
def eSortS (ma : ME) : ME := fun env cs => (ma env cs).bind fun d cs1 => match seqOf cs1 d with
  | some ds => (match strsOf ds with
    | some H => if H.length < 64 then mkL false cs1 ((sortL H).map D.str) else .stuck
    | none => .stuck)
  | none => .stuck
theorem strs_rv {g : Gd} {F : Hp} {c : List Addr} : ∀ {vs : List V} {ds : List D} {H : List (List Nat)}, RVs g F c vs ds → strsOf ds = some H → vs = (H.map fun l => (⟨l.toArray⟩ : Str)).map V.str
  | _, _, _, .nil, h => by simp only [strsOf, Option.some.injEq] at h; subst h; rfl
  | _, _, _, .cons a b, h => by
    cases a with
    | str l =>
      simp only [strsOf] at h
      split at h
      · rename_i q hq
        simp only [Option.some.injEq] at h
        subst h
        rw [strs_rv b hq]; rfl
      · cases h
    | _ => simp [strsOf] at h
theorem rvs_cstrs {g : Gd} {F : Hp} {c : List Addr} : ∀ ys : List Str, RVs g F c (ys.map V.str) ((ys.map codes).map D.str)
  | [] => .nil
  | y :: r => by
    have : y = ⟨(codes y).toArray⟩ := by simp [codes]
    refine .cons ?_ (rvs_cstrs r)
    have h := RV.str (g := g) (F := F) (c := c) (codes y)
    rw [← this] at h
    exact h
section
variable {X : Cx} {W : WX} {p pos : Pos} {a : Expr} {ma : ME}
theorem CallR.or' {X : Cx} {f : Value} {r r' : List V → Hp → VK → Prop} (h : CallR X f r) (h' : CallR X f r') : CallR X f fun xs H Q => r xs H Q ∨ r' xs H Q := by
  intro pins s σ H xs us Q I rv q
  rcases q with q | q
  · exact h pins s σ H xs us Q I rv q
  · exact h' pins s σ H xs us Q I rv q
theorem xp_sortS (hg : Gl X "sorted") (hm : X.mg "sorted" = none) (bo : bootBuiltins "sorted" = some (.builtin "sorted")) (ha : Xp X W a ma) (hs : starEach [a] X.env = (false, eval a X.env) :: starEach [] X.env := by rfl) (hp : (backTo pos (starEach ([] : List Expr) X.env)).any (·.1) = false := by rfl) :
    Xp X W (.Call (.Name "sorted" p) [a] [] pos) (eSortS ma) := by
  obtain ⟨ta, pa, sa⟩ := ha
  refine ⟨_, pe_callB (CallR.or' cr_sortedS cr_sortedTS) hg hm bo (pa_cons pa pa_nil hs) (by decide) (by decide) hs hp, fun σ env H F c cs Q re I po => ?_⟩
  refine sa σ env H F c cs _ re I (PoE.cut po _ fun d cs1 _ H1 F1 c1 v x1 I1 rv po1 => ?_)
  split at po1
  · rename_i ds hds
    split at po1
    · rename_i Hs hstr
      split at po1
      · rename_i hl
        have fin : ∀ {q : Addr} (ys : List Str) (p : Addr), ys.Perm (Hs.map fun l => (⟨l.toArray⟩ : Str)) → sortedS ys = true → H1 p = none → Q (.ref p) (L2.upd H1 p (.lst (ys.map V.str))) := fun {q} ys p h1 h2 h3 => by
          have e := sortL_eq h1 h2
          refine mkL_ok I1 ?_ po1 h3
          rw [← e]
          exact rvs_cstrs ys
        by_cases ht : ∃ l, d = .tup l
        · obtain ⟨l, rfl⟩ := ht
          simp only [seqOf, Option.some.injEq] at hds
          subst hds
          cases rv with
          | @tup q vs _ h1 h2 =>
            have ev := strs_rv h2 hstr
            refine .inr ⟨q, _, rfl, (by rw [← ev]; exact SqT.up I1.sub h1), by rw [List.length_map]; exact hl, fun ys p h1 h2 h3 => fin (q := q) ys p h1 h2 h3⟩
        · obtain ⟨q, vs, rfl, hs, r⟩ := seqL_at I1 rv (fun l e => ht ⟨l, e⟩) hds
          have ev := strs_rv r hstr
          refine .inl ⟨q, _, rfl, by rw [← ev]; exact hs, by rw [List.length_map]; exact hl, fun ys p h1 h2 h3 => fin (q := q) ys p h1 h2 h3⟩
      · exact po1.elim
    · exact po1.elim
  · exact po1.elim
end
section
variable {P : D → Cells → Prop} {X : KX} {env : L3.Env} {cs : Cells} {a : ME}
theorem rp_sortS : RP (eSortS a env cs) P X = RP (a env cs) (fun d c1 => match seqOf c1 d with
  | some ds => (match strsOf ds with
    | some H => if H.length < 64 then RP (mkL false c1 ((sortL H).map D.str)) P X else False
    | none => False)
  | none => False) X := by
  unfold eSortS
  rw [RP_bind]
  congr; funext d c1
  cases seqOf c1 d with
  | none => rfl
  | some ds =>
    cases hs : strsOf ds with
    | none => simp only [hs]; rfl
    | some H => simp only [hs]; split <;> rfl
end
end L3

/-! the calculus for dicts -/
namespace L3
open PySem L2
section
variable {P : D → Cells → Prop} {X : KX} {K : Cn} {env : L3.Env} {cs : Cells} {a b c t e ek ev : ME} {d k o : D} {l : List (Kd × D)} {kd : Kd} {md neg : Bool}
theorem rp_get2 : RP (eGet2 a b c env cs) P X = RP (a env cs) (fun o c1 => match dctOf c1 o with
  | some _ => RP (b env c1) (fun k c2 => RP (c env c2) (fun z c3 => match dctOf c3 o, kdOf k with
    | some l, some kd => P ((getL l kd).getD z) c3
    | _, _ => False) X) X
  | none => False) X := by
  unfold eGet2
  rw [RP_bind]
  congr; funext o c1
  cases h : dctOf c1 o with
  | none => rfl
  | some l0 =>
    simp only
    rw [RP_bind]
    congr; funext k c2
    rw [RP_bind]
    congr; funext z c3
    cases h2 : dctOf c3 o <;> cases h3 : kdOf k <;> rfl
theorem rp_dixD (h1 : dctOf cs o = some l) (h2 : kdOf k = some kd) (h3 : getL l kd = some d) : RP (dixD cs o k) P X = P d cs := by
  unfold dixD; rw [h1, h2]; simp only [h3]; rfl
theorem rp_kinD (h1 : dctOf cs o = some l) (h2 : kdOf k = some kd) : RP (kinD neg cs k o) P X = P (.bl ((getL l kd).isSome != neg)) cs := by
  unfold kinD; rw [h1, h2]; rfl
theorem wp_items {Q : List D → (Cells → Prop) → Cells → Prop} : WP (wItems a env cs) Q X = RP (a env cs) (fun d c => match lockC c d with
  | some (l, c2) => Q (l.map fun p => .tup [keyD p.1, p.2]) (fun _ => True) c2
  | none => False) X := by
  unfold wItems
  rw [wp_toW]
  congr; funext d c
  cases h : lockC c d with
  | none => simp only [h]; rfl
  | some r => obtain ⟨l, c2⟩ := r; simp only [h]; rfl
theorem wp_keys {Q : List D → (Cells → Prop) → Cells → Prop} : WP (wKeys a env cs) Q X = RP (a env cs) (fun d c => match lockC c d with
  | some (l, c2) => Q (l.map fun p => keyD p.1) (fun _ => True) c2
  | none => False) X := by
  unfold wKeys
  rw [wp_toW]
  congr; funext d c
  cases h : lockC c d with
  | none => simp only [h]; rfl
  | some r => obtain ⟨l, c2⟩ := r; simp only [h]; rfl
theorem rp_dc {own : List Nat} {tg : D → L3.Env → Option L3.Env} {m : MW} : RP (eDc md own tg m t ek ev env cs) P X = WP (m env cs) (fun ds q c => match dcL q tg t ek ev ds (wipeE env own) c with
  | some (l, c2) => if l.length ≤ 1000 then RP (mkD md c2 (mergeD [] l)) P X else False
  | none => False) X := by
  unfold eDc
  cases h : m env cs with
  | ok ds q c =>
    simp only [h, WP]
    cases h2 : dcL q tg t ek ev ds (wipeE env own) c with
    | none => simp only [h2]; rfl
    | some r => obtain ⟨l, c2⟩ := r; simp only [h2]; split <;> rfl
  | exc n fs c => rfl
  | stuck => rfl
theorem dc_inv {chk : Cells → Prop} {tg : D → L3.Env → Option L3.Env} : ∀ {items : List D} {env : L3.Env} {cs : Cells} (J : Nat → List (Kd × D) → Cells → Prop) (acc : List (Kd × D)), J 0 acc cs → (∀ ds cs, J items.length ds cs → chk cs) →
    (∀ i d ds cs, items[i]? = some d → J i ds cs → chk cs ∧ ∃ env1, tg d env = some env1 ∧ RP (t env1 cs) (fun b c1 => b = .bl true ∧ RP (ek env1 c1) (fun k c2 => ∃ kd, kdOf k = some kd ∧ RP (ev env1 c2) (fun y c3 => J (i + 1) (ds ++ [(kd, y)]) c3) noX) noX) noX) →
    ∃ l c2, dcL chk tg t ek ev items env cs = some (l, c2) ∧ J items.length (acc ++ l) c2
  | [], env, cs, J, acc, h0, hn, hs => by
    have h1 := hn acc cs h0
    exact ⟨[], cs, by simp only [dcL, h1, if_true], by simpa using h0⟩
  | d :: ds, env, cs, J, acc, h0, hn, hs => by
    obtain ⟨h1, env1, h2, h3⟩ := hs 0 d acc cs rfl h0
    obtain ⟨b, c1, e1, rfl, h4⟩ := h3.get
    obtain ⟨k, c2, e2, kd, hk, h5⟩ := h4.get
    obtain ⟨y, c3, e3, h6⟩ := h5.get
    obtain ⟨l, c4, e4, h7⟩ := dc_inv (items := ds) (env := env) (fun i => J (i + 1)) (acc ++ [(kd, y)]) h6 (fun e c h => hn e c (by simpa using h)) fun i d e c hi h => hs (i + 1) d e c (by simpa using hi) h
    refine ⟨(kd, y) :: l, c4, by simp only [dcL, h1, if_true, h2, e1, e2, hk, e3, e4], ?_⟩
    rw [List.length_cons]
    simpa using h7
end
end L3

/-! one sign replaced, what stands at an end, figures stripped: as lists -/
namespace L3
open PySem L2 PySem.Spec PyProof.Rows Builtin
theorem replL_one {c : Nat} {z : List Nat} : ∀ {l : List Nat}, c ∉ l → StrLaws.replL [c] z l = l
  | [], _ => StrLaws.replL_nil
  | d :: r, h => by
    rw [StrLaws.replL_miss (by
      intro e
      have e : [d] = [c] := by simpa using e
      cases e
      exact h (List.mem_cons_self)), replL_one fun m => h (List.mem_cons_of_mem _ m)]
theorem replL_at {c : Nat} {z b : List Nat} (hb : c ∉ b) : ∀ {a : List Nat}, c ∉ a → StrLaws.replL [c] z (a ++ c :: b) = a ++ z ++ b
  | [], _ => by
    rw [List.nil_append, StrLaws.replL_hit (by simp) (by simp)]
    show z ++ StrLaws.replL [c] z b = _
    rw [replL_one hb]; rfl
  | d :: r, h => by
    rw [List.cons_append, StrLaws.replL_miss (by
      intro e
      have e : [d] = [c] := by simpa using e
      cases e
      exact h (List.mem_cons_self)), replL_at hb fun m => h (List.mem_cons_of_mem _ m)]
    rfl
theorem rpl_at {c : Nat} {a b : List Nat} {z : Str} (ha : c ∉ a) (hb : c ∉ b) : Txt.replace ⟨(a ++ c :: b).toArray⟩ ⟨[c].toArray⟩ z = ⟨(a ++ codes z ++ b).toArray⟩ := by
  have := StrLaws.replace_list (x := ⟨(a ++ c :: b).toArray⟩) (y := ⟨[c].toArray⟩) (z := z) (Nat.le_refl 1)
  rw [show (⟨[c].toArray⟩ : Str).cps.toList = [c] from rfl, show (⟨(a ++ c :: b).toArray⟩ : Str).cps.toList = a ++ c :: b from rfl, replL_at hb ha] at this
  generalize Txt.replace ⟨(a ++ c :: b).toArray⟩ ⟨[c].toArray⟩ z = y at this ⊢
  obtain ⟨⟨l⟩⟩ := y
  have h2 : l = a ++ codes z ++ b := this
  rw [h2]
theorem sw_app (x y : List Nat) : Txt.startswith ⟨(x ++ y).toArray⟩ ⟨x.toArray⟩ = true := by
  unfold Txt.startswith
  rw [Bool.and_eq_true, decide_eq_true_eq, StrLaws.subAt_eq]
  refine ⟨by simp [Str.length], ?_⟩
  simp [Str.length]
theorem ew_app (x y : List Nat) : Txt.endswith ⟨(x ++ y).toArray⟩ ⟨y.toArray⟩ = true := by
  unfold Txt.endswith
  rw [Bool.and_eq_true, decide_eq_true_eq, StrLaws.subAt_eq]
  refine ⟨by simp [Str.length], ?_⟩
  simp [Str.length]
theorem lsc_app {k a : List Nat} {c : Nat} {b : List Nat} (ha : ∀ x ∈ a, x ∈ k) (hc : c ∉ k) : codes (Txt.lstripChars ⟨(a ++ c :: b).toArray⟩ ⟨k.toArray⟩) = c :: b := by
  unfold Txt.lstripChars
  rw [stripBy_eq]
  have e : ((a ++ c :: b).takeWhile (⟨k.toArray⟩ : Str).cps.contains).length = a.length := by
    rw [List.takeWhile_append_of_pos (fun x hx => by simpa using ha x hx), List.takeWhile_cons_of_neg (by simpa using hc), List.append_nil]
  have e1 : stripLo (⟨k.toArray⟩ : Str).cps.contains true ⟨(a ++ c :: b).toArray⟩ = a.length := by
    unfold stripLo
    rw [if_pos rfl]; exact e
  rw [e1]
  unfold stripHi
  rw [if_neg (by simp)]
  simp [Builtin.Str.strSub, codes, Str.length]
theorem rsc_app {k a b : List Nat} {c : Nat} (hb : ∀ x ∈ b, x ∈ k) (hc : c ∉ k) : codes (Txt.rstripChars ⟨(a ++ c :: b).toArray⟩ ⟨k.toArray⟩) = a ++ [c] := by
  unfold Txt.rstripChars
  rw [stripBy_eq]
  have e1 : stripLo (⟨k.toArray⟩ : Str).cps.contains false ⟨(a ++ c :: b).toArray⟩ = 0 := by
    unfold stripLo
    rw [if_neg (by simp)]
  rw [e1]
  have e : (((a ++ c :: b).drop 0).reverse.takeWhile (⟨k.toArray⟩ : Str).cps.contains).length = b.length := by
    rw [List.drop_zero, List.reverse_append, List.reverse_cons, List.append_assoc, List.takeWhile_append_of_pos (fun x hx => by simpa using hb x (List.mem_reverse.mp hx)), List.singleton_append, List.takeWhile_cons_of_neg (by simpa using hc), List.append_nil, List.length_reverse]
  have e2 : stripHi (⟨k.toArray⟩ : Str).cps.contains true ⟨(a ++ c :: b).toArray⟩ 0 = a.length + 1 := by
    unfold stripHi
    rw [if_pos rfl]
    show (a ++ c :: b).length - (((a ++ c :: b).drop 0).reverse.takeWhile _).length = _
    rw [e, List.length_append, List.length_cons]
    omega
  rw [e2]
  simp [Builtin.Str.strSub, codes, List.take_append]
  exact List.take_of_length_le (by omega)
theorem first_not {k : List Nat} : ∀ {l : List Nat}, (l.all fun c => decide (c ∈ k)) = false → ∃ a c b, l = a ++ c :: b ∧ (∀ x ∈ a, x ∈ k) ∧ c ∉ k
  | [], h => by cases h
  | d :: r, h => by
    by_cases hd : d ∈ k
    · rw [List.all_cons, decide_eq_true hd, Bool.true_and] at h
      obtain ⟨a, c, b, rfl, h1, h2⟩ := first_not h
      refine ⟨d :: a, c, b, rfl, fun x hx => ?_, h2⟩
      rcases List.mem_cons.mp hx with rfl | hx
      · exact hd
      · exact h1 x hx
    · exact ⟨[], d, r, rfl, fun x hx => (by cases hx), hd⟩
theorem last_not {k l : List Nat} (h : (l.all fun c => decide (c ∈ k)) = false) : ∃ a c b, l = a ++ c :: b ∧ (∀ x ∈ b, x ∈ k) ∧ c ∉ k := by
  obtain ⟨a, c, b, e, h1, h2⟩ := first_not (k := k) (l := l.reverse) (by rw [List.all_reverse]; exact h)
  refine ⟨b.reverse, c, a.reverse, ?_, fun x hx => h1 x (List.mem_reverse.mp hx), h2⟩
  have := congrArg List.reverse e
  rw [List.reverse_reverse] at this
  rw [this]; simp
end L3

/-! a dict != a list; a list of one item != a list of one text; repr of a cell that has cells among its items -/
namespace L3
open PySem L2 PySem.Spec PyProof.Rows PySem.SeqAt MeetsSeq AutoSeq1
theorem dict_ne_declines_list (l : Addr) (es : Array DictEntry) (n : Nat) (dd : Option Addr) (sl : Array (Option Value)) (b : Addr) (items : Array Value) (n2 : Nat) (dd2 : Option Addr) (sl2 : Array (Option Value)) :
    Meets (Builtin.«dict.__ne__» ⟨[.ref l, .ref b], []⟩) (fun _ R s => s.heap.get? l = some { cls := .type "dict", dict := dd, data := .dict es n, slots := sl } ∧ s.heap.get? b = some { cls := .type "list", dict := dd2, data := .seq items n2, slots := sl2 } ∧ R (.ok (.ret .notImplemented)) s) :=
  .of_wp fun prog w A R s h => by obtain ⟨hp, g, d, tk, os⟩ := s; obtain ⟨hl, hb, h⟩ := h; have f1 := F.sub_list_dict; wp_walk using wpAny_loadPart' hl, wpAny_loadPart' hb; exact ⟨_, rfl, h⟩
theorem list_ne_declines_dict (l : Addr) (items : Array Value) (n : Nat) (dd : Option Addr) (sl : Array (Option Value)) (b : Addr) (es : Array DictEntry) (n2 : Nat) (dd2 : Option Addr) (sl2 : Array (Option Value)) :
    Meets (Builtin.«list.__ne__» ⟨[.ref l, .ref b], []⟩) (fun _ R s => s.heap.get? l = some { cls := .type "list", dict := dd, data := .seq items n, slots := sl } ∧ s.heap.get? b = some { cls := .type "dict", dict := dd2, data := .dict es n2, slots := sl2 } ∧ R (.ok (.ret .notImplemented)) s) :=
  .of_wp fun prog w A R s h => by obtain ⟨hp, g, d, tk, os⟩ := s; obtain ⟨hl, hb, h⟩ := h; have f1 := F.sub_dict_list; wp_walk using wpAny_loadPart' hl, wpAny_loadPart' hb; exact ⟨_, rfl, h⟩
theorem RcNeAt.dict_list {A : Around} {s : Shared} {l b : Addr} {es : Array DictEntry} {n : Nat} {dd : Option Addr} {sl : Array (Option Value)} {items : Array Value} (ho : s.heap.get? l = some { cls := .type "dict", dict := dd, data := .dict es n, slots := sl }) (hb : s.heap.IsList b items) (hu : A.units < cLine) : RcNeAt A s (.ref l) (.ref b) true := fun prog w E Q h => by
  obtain ⟨⟨cls2, dd2, data2, sl2⟩, ho2, hc2, n2, hd2⟩ := id hb
  simp only at hc2 hd2
  subst hc2 hd2
  have hne : l ≠ b := by
    rintro rfl
    rw [ho] at ho2
    exact absurd (congrArg Obj.cls (Option.some.inj ho2)) (by simp)
  exact (rc_ne_decline_or (k := false) ⟨_, ho, rfl⟩ ⟨_, ho2, rfl⟩ (by decide) F.sub_list_dict F.slot_dict_ne F.slot_list_ne_refl
    (fun _ hq => call_meets F.slot_dict_ne ⟨_, ho, rfl⟩ F.entry_dict_ne (F.args_dict_ne_2 _ _) (dict_ne_declines_list l es n dd sl b items n2 dd2 sl2) ⟨ho, ho2, hq⟩)
    (fun _ hq => call_meets F.slot_list_ne_refl ⟨_, ho2, rfl⟩ F.entry_list_ne (F.args_list_ne_2 _ _) (list_ne_declines_dict b items n2 dd2 sl2 l es n dd sl) ⟨ho2, ho, hq⟩)
    (fun _ hq => wpAny_isSame_ref_other hne ho ho2 (by simp) hq) (.inr hu) h)
theorem EqAt.dict_str {A : Around} {s : Shared} {l : Addr} {es : Array DictEntry} {n : Nat} {dd : Option Addr} {sl : Array (Option Value)} (b : Str) (u : Tok) (ho : s.heap.get? l = some { cls := .type "dict", dict := dd, data := .dict es n, slots := sl }) (hu : A.units < cLine) : EqAt A s (.ref l) (.str b u) false := fun prog w E Q h => by
  unfold eqBool
  refine wpAny_holding ?_
  refine wpAny_ite_split (fun hab => absurd (eq_of_beq hab) nofun) (fun _ => ?_)
  exact wpAny_bind (RcAt.dict_str b u ho hu prog w E _ (wpAny_truthy_bool h))
theorem plis {h : Heap} {a : Addr} {its : Array Value} (p : PlainL h a its) : h.IsList a its := by
  obtain ⟨o, n, h1, h2, h3, h4⟩ := p
  exact ⟨o, h1, h2, n, h4⟩
/-- an item of a list, == a text -/
def ItK (K : PySem.W.Frag) (H : Hp) (it : V) (t : Str) (k : Bool) : Prop := (∃ t', it = .str t' ∧ k = (t' == t)) ∨ (k = false ∧ (it = .non ∨ (∃ b, it = .bl b) ∨ (∃ i, it = .int i) ∨ ∃ a, it = .ref a ∧ ((∃ xs, SqL K H a xs) ∨ (∃ xs, SqT K H a xs) ∨ ∃ kvs, Rd H a (.dK kvs))))
/-- .. != .. -/
def rNL (K : PySem.W.Frag) : R2 := fun x y H Q => ∃ a b, x = .ref a ∧ y = .ref b ∧ ((∃ it t k, SqL K H a [it] ∧ SqL K H b [.str t] ∧ ItK K H it t k ∧ Q (.bl !k) H) ∨ (∃ kvs ys, Rd H a (.dK kvs) ∧ SqL K H b ys ∧ Q (.bl true) H))
theorem itK_eq {X : Cx} {pins : List (Addr × Obj)} {σ : L2.St} {H : Hp} {s : Shared} {A : Around} (I : Inv X pins σ H s) {it : V} {t : Str} {k : Bool} (h : ItK X.K H it t k) {u v : Value} (ru : RelV it u) (rv : RelV (.str t) v) (hu : A.units < cLine) : EqAt A s u v k := by
  obtain ⟨tk, rfl⟩ := (show ∃ tk, v = Value.str t tk from rv)
  rcases h with ⟨t', rfl, rfl⟩ | ⟨rfl, rfl | ⟨b, rfl⟩ | ⟨i, rfl⟩ | ⟨a, rfl, h⟩⟩
  · obtain ⟨tk', rfl⟩ := (show ∃ tk, u = Value.str t' tk from ru)
    exact EqAt.str_str _ _ _ _
  · cases ru; exact EqAt.none_str _ _
  · cases ru; exact EqAt.bool_str _ _ _
  · obtain ⟨tk', rfl⟩ := (show ∃ tk, u = Value.int i tk from ru)
    exact EqAt.int_str _ _ _ _
  · obtain rfl : u = .ref a := ru
    rcases h with ⟨xs, h⟩ | ⟨xs, h⟩ | ⟨kvs, h⟩
    · obtain ⟨its, _, pl, _⟩ := I.list h
      exact EqAt.list_str _ _ (plis pl) hu
    · obtain ⟨its, _, pl, _⟩ := I.tuple h
      exact EqAt.tuple_str _ _ pl hu
    · obtain ⟨_, _, vs, kv, o, es, ep, ho, ex, dt, _, pr, _⟩ := dk_rd I.hok h
      obtain ⟨cls, dd, data, sl⟩ := o
      obtain ⟨rfl, _⟩ := ex
      simp only at dt
      subst dt
      exact EqAt.dict_str _ _ ho hu
theorem op_neL {X : Cx} (hu : X.A.units + 64 < cLine) : OpR X (compareOp .NotEq) (rNL X.K) := by
  intro pins s σ H x y v u Q I rx ry h
  obtain ⟨a, b, rfl, rfl, h⟩ := h
  obtain rfl : v = .ref a := rx
  obtain rfl : u = .ref b := ry
  rcases h with ⟨it, t, k, h1, h2, h3, q⟩ | ⟨kvs, ys, h1, h2, q⟩
  · obtain ⟨its, rv, pl, _⟩ := I.list h1
    obtain ⟨its2, rv2, pl2, _⟩ := I.list h2
    cases rv with
    | cons r0 r1 =>
    cases r1
    cases rv2 with
    | cons r0' r1' =>
    cases r1'
    refine RcNeAt.lists (e := fun _ => k) (plis pl) (plis pl2) rfl (by omega) (fun j g1 g2 => ?_) _ _ _ _ ?_
    · have hj : j = 0 := by simp at g1; omega
      subst hj
      exact itK_eq I h3 r0 r0' (by show X.A.units + 1 < _; omega)
    · refine ⟨.bl !k, H, I, ?_, q⟩
      show Value.bool _ = Value.bool _
      simp
  · obtain ⟨its2, rv2, pl2, _⟩ := I.list h2
    obtain ⟨_, _, vs, kv, o, es, ep, ho, ex, dt, _, pr, _⟩ := dk_rd I.hok h1
    obtain ⟨cls, dd, data, sl⟩ := o
    obtain ⟨rfl, _⟩ := ex
    simp only at dt
    subst dt
    exact RcNeAt.dict_list ho (plis pl2) (by omega) _ _ _ _ ⟨.bl true, H, I, rfl, q⟩
/-! in the mirror -/
def itB (cs : Cells) (l : List Nat) : D → Option Bool
  | .str k => some (decide (k = l))
  | .non => some false
  | .bl _ => some false
  | .int _ => some false
  | .lst _ => some false
  | .tup _ => some false
  | .dct _ => some false
  | .loc n => match cs[n]? with
    | some (.lst _) => some false
    | some (.dct _) => some false
    | _ => none
  | _ => none
theorem itB_at {g : Gd} {H F : Hp} {c : List Addr} {cs : Cells} (I : Ih g H F c cs) {v : V} {d : D} {l : List Nat} {k : Bool} (r : RV g F c v d) (h : itB cs l d = some k) : ItK g.K H v ⟨l.toArray⟩ k := by
  cases r with
  | @loc n a ha =>
    simp only [itB] at h
    split at h
    · rename_i x hx
      simp only [Option.some.injEq] at h
      obtain ⟨_, vs, h1, _⟩ := I.cell n a _ ha hx
      exact .inr ⟨h.symm, .inr (.inr (.inr ⟨a, rfl, .inl ⟨vs, .inl (.inl h1)⟩⟩))⟩
    · rename_i x hx
      simp only [Option.some.injEq] at h
      obtain ⟨_, kvs, h1, _⟩ := I.cell n a _ ha hx
      exact .inr ⟨h.symm, .inr (.inr (.inr ⟨a, rfl, .inr (.inr ⟨kvs, .inl h1⟩)⟩))⟩
    · cases h
  | non => simp only [itB, Option.some.injEq] at h; exact .inr ⟨h.symm, .inl rfl⟩
  | bl b => simp only [itB, Option.some.injEq] at h; exact .inr ⟨h.symm, .inr (.inl ⟨_, rfl⟩)⟩
  | int i => simp only [itB, Option.some.injEq] at h; exact .inr ⟨h.symm, .inr (.inr (.inl ⟨_, rfl⟩))⟩
  | str k2 =>
    simp only [itB, Option.some.injEq] at h
    refine .inl ⟨_, rfl, ?_⟩
    rw [← h, Bool.eq_iff_iff]
    simp
  | @lst a vs _ h1 h2 => simp only [itB, Option.some.injEq] at h; exact .inr ⟨h.symm, .inr (.inr (.inr ⟨a, rfl, .inl ⟨vs, .inl (.inl (I.sub _ _ h1))⟩⟩))⟩
  | @tup a vs _ h1 h2 => simp only [itB, Option.some.injEq] at h; exact .inr ⟨h.symm, .inr (.inr (.inr ⟨a, rfl, .inr (.inl ⟨vs, SqT.up I.sub h1⟩)⟩))⟩
  | @dct a kvs _ h1 h2 => simp only [itB, Option.some.injEq] at h; exact .inr ⟨h.symm, .inr (.inr (.inr ⟨a, rfl, .inr (.inr ⟨kvs, h1.elim (fun e => .inl (I.sub _ _ e)) fun ⟨o, e⟩ => .inr ⟨o, I.sub _ _ e⟩⟩)⟩))⟩
  | scr _ => cases h
  | obj _ _ _ => cases h
def neC (cs : Cells) (x y : D) : Option Bool := match isDct cs x, listOf cs x, listOf cs y with
  | true, _, some _ => some true
  | _, some [e], some [.str l] => (itB cs l e).map not
  | _, _, _ => none
def neM (cs : Cells) (x y : D) : R := match eqB cs x y with
  | some b => .ok (.bl !b) cs
  | none => match neC cs x y with
    | some b => .ok (.bl b) cs
    | none => .stuck
theorem o2_neM {g : Gd} {r : R2} (h : O2 g r neD) : O2 g (fun x y H Q => r x y H Q ∨ rNL g.K x y H Q) neM := by
  intro W H F c cs x y d e Q I rx ry po
  unfold neM at po
  split at po
  · rename_i b hb
    exact .inl (h W H F c cs x y d e Q I rx ry (by unfold neD; rw [hb]; exact po))
  · split at po
    · rename_i b hb
      unfold neC at hb
      split at hb
      · rename_i hd hy
        simp only [Option.some.injEq] at hb
        subst hb
        obtain ⟨a, kvs, rfl, h1⟩ := isDct_at I rx hd
        obtain ⟨a2, vs, rfl, h2, _⟩ := listOf_at I ry hy
        exact .inr ⟨a, a2, rfl, rfl, .inr ⟨kvs, vs, h1, .inl (.inl h2), PoE.here I (.bl _) po⟩⟩
      · rename_i it l hx hy _
        simp only [Option.map_eq_some_iff] at hb
        obtain ⟨k, hk, rfl⟩ := hb
        obtain ⟨a, vs, rfl, h1, q1⟩ := listOf_at I rx hx
        obtain ⟨a2, vs2, rfl, h2, q2⟩ := listOf_at I ry hy
        cases q1 with
        | cons r1 r2 =>
        cases r2
        cases q2 with
        | cons r3 r4 =>
        cases r4
        cases r3
        exact .inr ⟨a, a2, rfl, rfl, .inl ⟨_, _, k, .inl (.inl h1), .inl (.inl h2), itB_at I r1 hk, PoE.here I (.bl _) po⟩⟩
      · cases hb
    · exact po.elim
section
variable {X : Cx} {W : WX} {k : Nat} {pos : Pos} {a b : Expr} {ma mb : ME}
theorem xp_neM (hr : Room k X.A) (ha : Xp X W a ma) (hb : Xp X W b mb) (hm : behindInMarks .NotEq b = false := by exact nomark _) : Xp X W (.Compare a [.NotEq] [b] pos) (op2 neM ma mb) := xp_cmp ((op_ne.or (op_neD (un64 hr))).or (op_neL (un64 hr))) (o2_neM o2_ne) ha hb hm
theorem xt_neM (hr : Room k X.A) (ha : Xp X W a ma) (hb : Xp X W b mb) (hm : behindInMarks .NotEq b = false := by exact nomark _) : Xt1 X W (.Compare a [.NotEq] [b] pos) (op2 neM ma mb) := xt_cmp ((op_ne.or (op_neD (un64 hr))).or (op_neL (un64 hr))) (o2_neM o2_ne) ha hb hm
end
/-! repr of a cell that has cells among its items -/
def pyM (cs : Cells) (d : D) : Option PyData := match d with
  | .loc n => match cs[n]? with
    | some (.lst l) => (pyNs cs l).map .list
    | _ => none
  | _ => none
theorem pyM_reads {P : Program} {w : World} {H F : Hp} {h : Heap} {g : Gd} {c : List Addr} {cs : Cells} (ok : HOk P w H h) (kin : g.K.In h) (I : Ih g H F c cs) (ns : H sysModules = none) {v : V} {n : Nat} {p : PyData} {u : Value} (r : RV g F c v (.loc n)) (e : pyM cs (.loc n) = some p) (rv : RelV v u) : ∃ as, Reads h u p as ∧ sysModules ∉ as := by
  cases r with
  | @loc n a ha =>
    simp only [pyM] at e
    split at e
    · rename_i l hx
      simp only [Option.map_eq_some_iff] at e
      obtain ⟨y, e, rfl⟩ := e
      obtain ⟨_, vs, h1, h2⟩ := I.cell n a _ ha hx
      cases rv
      obtain ⟨z, its, n, rv, ho⟩ := (show ObjOk P w H h _ (.lst _) from ok _ _ h1)
      obtain ⟨as, ra, na⟩ := pyNs_reads ok kin I ns h2 e rv
      exact ⟨_, .list ho rfl rfl ra, ns_mem ns h1 na⟩
    · cases e
def reprMD (cs : Cells) : List D → R
  | [.loc n] => match pyM cs (.loc n) with
      | some p => if p.showable = true ∧ p.depth ≤ 60 ∧ p.shown.length ≤ sizeLine then .ok (.str (codes p.shown)) cs else .stuck
      | none => reprBD cs [.loc n]
  | ds => reprBD cs ds
theorem loc_ref {g : Gd} {F : Hp} {c : List Addr} {v : V} {n : Nat} (r : RV g F c v (.loc n)) : ∃ a, v = .ref a := by cases r; exact ⟨_, rfl⟩
theorem cb_reprM {g : Gd} : Cb g (rRepX g.P g.w g.K) reprMD := by
  intro W H F c cs vs ds Q I rv po
  unfold reprMD at po
  split at po
  · split at po
    · rename_i n p hp
      intro hns
      split at po
      · rename_i hc
        obtain ⟨h1, h2, h3⟩ := hc
        cases rv with
        | cons r1 r2 =>
          cases r2
          obtain ⟨a, rfl⟩ := loc_ref r1
          refine .inr ⟨a, p, rfl, fun h ok kin => pyM_reads ok kin I hns r1 hp rfl, h1, h2, h3, ?_⟩
          have := PoE.here I (.str (codes p.shown)) po
          rwa [str_codes] at this
      · exact po.elim
    · exact cb_reprX W H F c cs vs _ Q I rv po
  · exact cb_reprX W H F c cs vs _ Q I rv po
section
variable {X : Cx} {W : WX} {pos p : Pos} {e : Expr} {ms : MA}
theorem xp_reprM {k : Nat} (hG : X.A.guards = some []) (hr : Room k X.A) (hN : NoS X) (hg : Gl X "repr") (hm : X.mg "repr" = none) (ha : Xa X W [e] ms)
    (he : starEach [e] X.env = (false, eval e X.env) :: starEach [] X.env := by rfl) : Xp X W (.Call (.Name "repr" p) [e] [] pos) (eBi reprMD ms) :=
  xp_bi (call_repX hG hr.units hN) cb_reprM hg hm bo_repr' ha (he := he)
end
end L3

/-! == and != of two instances by the class's own __eq__; len by its own __len__ -/
namespace HNe
open PySem PySem.Spec PyProof.Rows PySem.SeqAt Builtin
section
variable {M : Model} {prog : Program} {w : World} {A : Around} {E : Value → Shared → Prop} {s : Shared} {K : PySem.W.Frag} {x y C f : Addr} {ox oy : Obj} {od od' : Option Obj}
theorem ifBound_objNe {args : List Value} {Q : Option Value → Shared → Prop} (X : K.In s.heap) (I : PySem.W.InstAt s.heap x ox C od) (hs : PySem.W.findIn K (.ref C) "__ne__" = some (some (.builtin "object.__ne__")))
    (h : wpAny M A (call (.builtin "object.__ne__") (.ref x :: args)) (fun v => Q (some v)) E s) : wpAny M A (callSpecialIfBound? (.ref x) "__ne__" args) Q E s := by
  simp only [callSpecialIfBound?, bindSpecialIfBound?]
  refine wpAny_holding (wpAny_bind (wpAny_bind (wpAny_bind (I.type.here ((PySem.W.looks_findIn X hs).here ?_)))))
  refine wpAny_bind (wpAny_askSetting (wpAny_ite ?_))
  have fin : wpAny M A (call (.builtin "object.__ne__") ([.ref x] ++ args) >>= fun v => pure (some v)) Q E s := wpAny_bind (wpAny_mono h (fun v s' h' => wpAny_pure h') fun _ _ h' => h')
  split
  · exact wpAny_bind (wpAny_of_eq (F.cmp_object.ne.bind _) (wpAny_pure (by exact fin)))
  · exact wpAny_tryCatch (wpAny_bind (wpAny_of_eq (F.cmp_object.ne.bind _) (wpAny_pure (by exact fin))))
theorem objNe_own (X : K.In s.heap) (I : PySem.W.InstAt s.heap x ox C od) (hs : PySem.W.findIn K (.ref C) "__eq__" = some (some (.ref f))) (hf : PySem.W.isFn K (.ref f) = true) (hu : A.units < cLine) {Q : Fin → Shared → Prop}
    (hcall : wpAny M A (call (.ref f) [.ref x, .ref y]) (fun v s' => ∃ b, v = .bool b ∧ Q (.done (.ret (.bool (!b)))) s') E s) :
    wpAny M A (Builtin.«object.__ne__» ⟨[.ref x, .ref y], []⟩) Q E s := by
  unfold Builtin.«object.__ne__»
  repeat (first
    | with_reducible refine wpAny_cRoomFor hu ?_
    | (refine wpAny_bind (m := callSpecialIfBound? (.ref x) (Str.ofString "__eq__") [.ref y])
        (PySem.W.ifBound_K X I hs hf (wpAny_mono hcall (fun r s' hr => by
          obtain ⟨b, rfl, hq⟩ := hr
          repeat (first | exact hq | exact wpAny_pure hq | exact wpAny_truthy_bool hq | (refine wpAny_bind (m := truthy (.bool _)) (wpAny_truthy_bool ?_)) | wp_step)) fun _ _ e => e)))
    | wp_step)
theorem cmpNe_K (hu : A.units + 1 < cLine) (X : K.In s.heap) (I : PySem.W.InstAt s.heap x ox C od) (J : PySem.W.InstAt s.heap y oy C od') (hm : PySem.W.mroIn K C (.type "object") = some true) (hn : PySem.W.findIn K (.ref C) "__ne__" = some (some (.builtin "object.__ne__")))
    (hs : PySem.W.findIn K (.ref C) "__eq__" = some (some (.ref f))) (hf : PySem.W.isFn K (.ref f) = true) {Q : Value → Shared → Prop}
    (hcall : wpAny (model prog w) A.in1 (call (.ref f) [.ref x, .ref y]) (fun v s' => ∃ b, v = .bool b ∧ Q (.bool (!b)) s') E s) : wpAny (model prog w) A (richCompare .NotEq (.ref x) (.ref y)) Q E s := by
  have one : wpAny (model prog w) A (tryCompare (.ref x) "__ne__" (.ref y)) (fun r s' => ∃ v, r = some v ∧ Q v s') E s := by
    unfold tryCompare
    refine wpAny_bind (ifBound_objNe X I hn (wpAny_call (codeAny_call_builtin F.cmp_object.ne.plain F.cmpEntry_ne (PySem.W.check_slot F.cmpKind_ne F.cmpSplit_ne (I.type.andThen (PySem.W.looks_mroIn X hm)) (F.cmpArgs_ne _ _)
      (objNe_own (A := A.in1) X I hs hf hu (wpAny_mono hcall (fun v s' hv => ?_) fun _ _ e => e))))))
    obtain ⟨b, rfl, hq⟩ := hv
    first | exact ⟨b, rfl, wpAny_pure ⟨_, rfl, hq⟩⟩ | exact ⟨b, rfl, wpAny_pure (wpAny_pure ⟨_, rfl, hq⟩)⟩
  unfold richCompare
  simp only [oneThing_ref]
  refine wpAny_holding (wpAny_bind (wpAny_cRoomFor (by omega) ?_))
  rw [cmpInfo_NotEq]
  dsimp only
  refine wpAny_bind (I.type.here (wpAny_bind (J.type.here ?_)))
  rw [show (Value.ref C != Value.ref C) = false from by simp]
  simp only [Bool.false_eq_true, if_false]
  refine wpAny_bind (wpAny_pure ?_)
  simp only [Bool.false_eq_true, if_false]
  refine wpAny_bind (wpAny_mono one (fun r s' z => ?_) fun _ _ e => e)
  obtain ⟨v, rfl, hq⟩ := z
  exact wpAny_pure hq
end
end HNe
namespace L3
open PySem L2 PySem.Spec PyProof.Rows PySem.SeqAt
section
variable {X : Cx} {W : WX} {k : Nat} {f : Addr} {fd : FuncData} {ps : List Str} {sp : Sp}
/-- a call inside a builtin that the running body has called -/
theorem run_fnA {A : Around} {E : L2.St → XK} {pins : List (Addr × Obj)} {σ : L2.St} {H : Hp} {s : Shared} {Q : VK} {us : List Value} {vs : List V} (F : FnG X.prog X.w X.K X.mg X.base k f fd ps sp) (hf : A.frames = X.A.frames) (hG : A.guards = some []) (hr : Room k A) (hb : Binds X.K fd ps []) (hx : PassesAt (L2.CX X.prog X.w) X σ (E σ))
    (I : Inv X pins σ H s) (r : Vals vs us) (h : sp vs H Q (E σ)) : wpAny (model X.prog X.w) A (call (.ref f) us) (EP X pins σ Q) X.xe s := by
  have hl : us.length = ps.length := by rw [← r.length]; exact F.len _ _ _ _ h
  have b := hb s us I.kIn (by rw [List.append_nil]; exact hl)
  rw [List.append_nil] at b
  have e0 : Env0 X.prog X.w X.K X.mg X.base A X.stack s H := by
    have e := I.env0
    exact ⟨by rw [hf]; exact e.frames, e.mod, e.bs, e.bsz, e.funs, e.frf, e.hok, e.bare⟩
  refine wpAny_call (codeAny_mono (F.run A X.stack s H ⟨us, []⟩ us vs Q (E σ) hG hr e0 b r h) fun q s' z => ?_)
  cases q with
  | error e => exact hx pins H s e s' I z
  | ok fl =>
    cases fl with
    | ret u => exact I.after z
    | next => exact z.elim
    | brk => exact z.elim
    | cont => exact z.elim
/-- what a class must have for != -/
structure NeOk (K : PySem.W.Frag) (mg : Str → Option Value) (x : Str) : Prop where
  ex : ∀ C, mg x = some (.ref C) → PySem.W.mroIn K C (.type "object") = some true ∧ PySem.W.findIn K (.ref C) "__ne__" = some (some (.builtin "object.__ne__"))
def rInsB (mg : Str → Option Value) (x : Str) (neg : Bool) (sp : Sp) : R2 := fun a b H Q => ∃ p q C dx dy fs gs, a = .ref p ∧ b = .ref q ∧ mg x = some (.ref C) ∧ H p = some (.ins C dx fs) ∧ H q = some (.ins C dy gs) ∧
  ∀ E : XK, sp [.ref p, .ref q] H (fun v H' => ∃ r, v = .bl r ∧ Q (.bl (if neg then !r else r)) H') E
def eqID (x : Str) (mf : MF) (neg : Bool) (cs : Cells) (d e : D) : R := match insAt cs d, insAt cs e with
  | some (n, y, _), some (m, z, _) => if y = x ∧ z = x then (match mf [.loc n, .loc m] cs with
    | .ok (.bl r) cs2 => .ok (.bl (if neg then !r else r)) cs2
    | _ => .stuck) else .stuck
  | _, _ => .stuck
theorem o2_eqI {g : Gd} {x : Str} {mf : MF} {neg : Bool} : O2 g (rInsB g.mg x neg (spM g mf 2)) (eqID x mf neg) := by
  intro W H F c cs a b d e Q I ra rb po
  unfold eqID at po
  split at po
  · rename_i n y fs m z gs h1 h2
    split at po
    · rename_i hy
      obtain ⟨rfl, rfl⟩ := hy
      obtain ⟨p, C, dx, vs, rfl, rfl, ha, hl, hm, e1, e2⟩ := insAt_at I ra h1
      obtain ⟨q, C2, dy, ws, rfl, rfl, ha2, hl2, hm2, e3, e4⟩ := insAt_at I rb h2
      rw [hm] at hm2
      cases hm2
      refine ⟨p, q, C, dx, dy, vs, ws, rfl, rfl, hm, e1, e3, fun E => ⟨rfl, F, c, cs, [.loc n, .loc m], I, .cons ra (.cons rb .nil), ?_⟩⟩
      cases hr : mf [.loc n, .loc m] cs with
      | ok d2 cs2 =>
        rw [hr] at po
        cases d2 with
        | bl r =>
          intro H' F' c' x1 I' v rv
          cases rv
          exact ⟨r, rfl, po H' F' c' x1 I' _ (.bl _)⟩
        | _ => exact po.elim
      | exc _ _ _ => rw [hr] at po; exact po.elim
      | stuck => rw [hr] at po; exact po.elim
    · exact po.elim
  · exact po.elim
theorem op_eqI {x : Str} {mf : MF} (om : OwnM X.prog X.w X.K X.mg X.base k x "__eq__" 1 mf) (hG : X.A.guards = some []) (hr : Room k X.A) (tk : Takes X W) : OpR X (compareOp .Eq) (rInsB X.mg x false (spM (gd X) mf 2)) := by
  obtain ⟨C0, f, fd, ps, hm0, hc, hme, F, hb⟩ := om
  intro pins s σ H a b u v Q I ra rb h
  obtain ⟨p, q, C, dx, dy, fs, gs, rfl, rfl, hm, e1, e2, hsp⟩ := h
  rw [hm0] at hm
  cases hm
  obtain rfl : u = .ref p := ra
  obtain rfl : v = .ref q := rb
  obtain ⟨mA, J, _⟩ := ins_get I.hok e1
  obtain ⟨mB, J', _⟩ := ins_get I.hok e2
  obtain ⟨od, J, _⟩ := J.look
  obtain ⟨od', J', _⟩ := J'.look
  obtain ⟨m, hF⟩ := I.fr
  show wpAny (model X.prog X.w) X.A (richCompare .Eq (.ref p) (.ref q)) _ _ _
  refine PySem.W.cmp_K (op := .Eq) (tb := .ref C0) hr.units0 hF I.ok.mod.kin J J'.type (by simp [PySem.W.notFirst]) hme.at_ hme.fn ?_
  refine wpAny_mono (run_fnA F rfl hG hr hb (passAt tk σ) I (show Vals [V.ref p, V.ref q] [Value.ref p, Value.ref q] from .cons rfl (.cons rfl .nil)) (hsp (WE W σ))) (fun r s' hq => ?_) fun _ _ e => e
  obtain ⟨z, H', I', rz, r, rfl, hQ⟩ := hq
  cases rz
  exact ⟨.bl r, H', I', rfl, hQ⟩
theorem op_neI {x : Str} {mf : MF} (om : OwnM X.prog X.w X.K X.mg X.base k x "__eq__" 1 mf) (ne : NeOk X.K X.mg x) (hG : X.A.guards = some []) (hr : Room (k + 1) X.A) (tk : Takes X W) : OpR X (compareOp .NotEq) (rInsB X.mg x true (spM (gd X) mf 2)) := by
  obtain ⟨C0, f, fd, ps, hm0, hc, hme, F, hb⟩ := om
  intro pins s σ H a b u v Q I ra rb h
  obtain ⟨p, q, C, dx, dy, fs, gs, rfl, rfl, hm, e1, e2, hsp⟩ := h
  rw [hm0] at hm
  cases hm
  obtain ⟨n1, n2⟩ := ne.ex _ hm0
  obtain rfl : u = .ref p := ra
  obtain rfl : v = .ref q := rb
  obtain ⟨mA, J, _⟩ := ins_get I.hok e1
  obtain ⟨mB, J', _⟩ := ins_get I.hok e2
  obtain ⟨od, J, _⟩ := J.look
  obtain ⟨od', J', _⟩ := J'.look
  show wpAny (model X.prog X.w) X.A (richCompare .NotEq (.ref p) (.ref q)) _ _ _
  refine HNe.cmpNe_K (by have := hr.un; omega) I.kIn J J' n1 n2 hme.at_ hme.fn ?_
  refine wpAny_mono (run_fnA (A := X.A.in1) F rfl hG hr.in1 hb (passAt tk σ) I (show Vals [V.ref p, V.ref q] [Value.ref p, Value.ref q] from .cons rfl (.cons rfl .nil)) (hsp (WE W σ))) (fun r s' hq => ?_) fun _ _ e => e
  obtain ⟨z, H', I', rz, r, rfl, hQ⟩ := hq
  cases rz
  exact ⟨r, rfl, .bl !r, H', I', rfl, hQ⟩
end
section
variable {X : Cx} {W : WX} {k : Nat} {pos : Pos} {a b : Expr} {ma mb : ME} {x : Str} {mf : MF}
theorem xp_eqI (om : OwnM X.prog X.w X.K X.mg X.base k x "__eq__" 1 mf) (hG : X.A.guards = some []) (hr : Room k X.A) (tk : Takes X W) (ha : Xp X W a ma) (hb : Xp X W b mb) (hm : behindInMarks .Eq b = false := by exact nomark _) : Xp X W (.Compare a [.Eq] [b] pos) (op2 (eqID x mf false) ma mb) := xp_cmp (op_eqI om hG hr tk) o2_eqI ha hb hm
theorem xp_neI (om : OwnM X.prog X.w X.K X.mg X.base k x "__eq__" 1 mf) (ne : NeOk X.K X.mg x) (hG : X.A.guards = some []) (hr : Room (k + 1) X.A) (tk : Takes X W) (ha : Xp X W a ma) (hb : Xp X W b mb) (hm : behindInMarks .NotEq b = false := by exact nomark _) : Xp X W (.Compare a [.NotEq] [b] pos) (op2 (eqID x mf true) ma mb) := xp_cmp (op_neI om ne hG hr tk) o2_eqI ha hb hm
theorem xt_eqI (om : OwnM X.prog X.w X.K X.mg X.base k x "__eq__" 1 mf) (hG : X.A.guards = some []) (hr : Room k X.A) (tk : Takes X W) (ha : Xp X W a ma) (hb : Xp X W b mb) (hm : behindInMarks .Eq b = false := by exact nomark _) : Xt1 X W (.Compare a [.Eq] [b] pos) (op2 (eqID x mf false) ma mb) := xt_cmp (op_eqI om hG hr tk) o2_eqI ha hb hm
theorem xt_neI (om : OwnM X.prog X.w X.K X.mg X.base k x "__eq__" 1 mf) (ne : NeOk X.K X.mg x) (hG : X.A.guards = some []) (hr : Room (k + 1) X.A) (tk : Takes X W) (ha : Xp X W a ma) (hb : Xp X W b mb) (hm : behindInMarks .NotEq b = false := by exact nomark _) : Xt1 X W (.Compare a [.NotEq] [b] pos) (op2 (eqID x mf true) ma mb) := xt_cmp (op_neI om ne hG hr tk) o2_eqI ha hb hm
end
end L3
namespace L3
open PySem L2 PySem.Spec PyProof.Rows PySem.SeqAt
/-! ### len -/
def rLenI (mg : Str → Option Value) (x : Str) (sp : Sp) : List V → Hp → VK → Prop := fun vs H Q => ∃ p C dx fs, vs = [.ref p] ∧ mg x = some (.ref C) ∧ H p = some (.ins C dx fs) ∧ ∀ E : XK, sp [.ref p] H (fun v H' => ∃ i : Int, v = .int i ∧ (0 ≤ i ∧ i < 2 ^ 63) ∧ Q (.int i) H') E
def lenI (x : Str) (mf : MF) (cs : Cells) : List D → R
  | [d] => (match insAt cs d with
    | some (n, y, _) => if y = x then (match mf [.loc n] cs with
      | .ok (.int i) cs2 => if 0 ≤ i ∧ i < 2 ^ 63 then .ok (.int i) cs2 else .stuck
      | _ => .stuck) else .stuck
    | none => .stuck)
  | _ => .stuck
theorem cb_lenI {g : Gd} {x : Str} {mf : MF} : Cb g (rLenI g.mg x (spM g mf 1)) (lenI x mf) := by
  intro W H F c cs vs ds Q I rv po
  unfold lenI at po
  split at po
  · rename_i d
    cases rv with
    | cons ra r2 =>
    cases r2
    split at po
    · rename_i n y fs h1
      split at po
      · rename_i hy
        subst hy
        obtain ⟨p, C, dx, vs, rfl, rfl, ha, hl, hm, e1, e2⟩ := insAt_at I ra h1
        refine ⟨p, C, dx, vs, rfl, hm, e1, fun E => ⟨rfl, F, c, cs, [.loc n], I, .cons ra .nil, ?_⟩⟩
        cases hr : mf [.loc n] cs with
        | ok d2 cs2 =>
          rw [hr] at po
          cases d2 with
          | int i =>
            simp only at po
            split at po
            · rename_i hi
              intro H' F' c' x1 I' v rv
              cases rv
              exact ⟨i, rfl, hi, po H' F' c' x1 I' _ (.int _)⟩
            · exact po.elim
          | _ => exact po.elim
        | exc _ _ _ => rw [hr] at po; exact po.elim
        | stuck => rw [hr] at po; exact po.elim
      · exact po.elim
    · exact po.elim
  · exact po.elim
section
variable {X : Cx} {W : WX} {k : Nat} {x : Str} {mf : MF} {pos p : Pos} {e : Expr} {ms : MA}
theorem call_lenI (om : OwnM X.prog X.w X.K X.mg X.base k x "__len__" 0 mf) (hG : X.A.guards = some []) (hr : Room (k + 1) X.A) (tk : Takes X W) : CallR X (.builtin "len") (rLenI X.mg x (spM (gd X) mf 1)) := by
  obtain ⟨C0, f, fd, ps, hm0, hc, hme, F, hb⟩ := om
  intro pins s σ H xs us Q I r h
  obtain ⟨p, C, dx, fs, rfl, hm, e1, hsp⟩ := h
  rw [hm0] at hm
  cases hm
  obtain ⟨u, rfl, rx⟩ := vals1 r
  obtain rfl : u = .ref p := rx
  obtain ⟨mA, J, _⟩ := ins_get I.hok e1
  obtain ⟨od, J, _⟩ := J.look
  obtain ⟨m, hF⟩ := I.fr
  refine PySem.W.len_K hF I.ok.mod.kin J hme.at_ hme.fn ?_
  refine wpAny_mono (run_fnA (A := X.A.in1) F rfl hG hr.in1 hb (passAt tk σ) I (show Vals [V.ref p] [Value.ref p] from .cons rfl .nil) (hsp (WE W σ))) (fun r s' hq => ?_) fun _ _ e => e
  obtain ⟨z, H', I', rz, i, rfl, hi, hQ⟩ := hq
  obtain ⟨t, rfl⟩ := (show ∃ t, r = Value.int i t from rz)
  exact ⟨hi, .int i, H', I'.tok _, ⟨_, rfl⟩, hQ⟩
theorem xp_lenI (om : OwnM X.prog X.w X.K X.mg X.base k x "__len__" 0 mf) (hG : X.A.guards = some []) (hr : Room (k + 1) X.A) (tk : Takes X W) (hg : Gl X "len") (hm : X.mg "len" = none) (ha : Xa X W [e] ms)
    (he : starEach [e] X.env = (false, eval e X.env) :: starEach [] X.env := by rfl) : Xp X W (.Call (.Name "len" p) [e] [] pos) (eBi (lenI x mf) ms) :=
  xp_bi (call_lenI om hG hr tk) cb_lenI hg hm (by decide +kernel) ha (he := he)
end
end L3

/-! x.split(y) -/
namespace L3
open PySem L2 PySem.Spec PyProof.Rows
def splD (md : Bool) (cs : Cells) (l : List Nat) : D → R
  | .str y => if l.length + 2 ≤ sizeLine ∧ 1 ≤ y.length then mkL md cs (((Txt.split ⟨l.toArray⟩ ⟨y.toArray⟩).map TL.tl).map D.str) else .stuck
  | _ => .stuck
theorem mb_spl {g : Gd} (md : Bool) : Mb1 g (fun x xs H Q => ∃ a b, x = .str a ∧ xs = [.str b] ∧ (b.length == 0) = false ∧ a.length + 2 ≤ sizeLine ∧ rNewStrs (Txt.split a b) H Q) (splD md) := by
  intro W H F c cs l y e Q I ry po
  unfold splD at po
  split at po
  · rename_i k
    split at po
    · rename_i h
      cases ry
      refine ⟨_, _, rfl, rfl, ?_, by rw [str_len]; exact h.1, fun p hp => ?_⟩
      · rw [str_len]; simp only [beq_eq_false_iff_ne]; omega
      · exact mkL_ok I (rvs_strs (g := g) (F := F) (c := c) _) po hp
    · exact po.elim
  · exact po.elim
theorem xp_spl {X : Cx} {W : WX} {pos apos : Pos} {o e : Expr} {mo me : ME} (md : Bool) (ho : Xp X W o mo) (he : Xp X W e me)
    (hs : starEach [e] X.env = [(false, eval e X.env)] := by rfl) (hbase : attributeBase o "split" X.env (eval o X.env) = eval o X.env := by rfl) (hline : (apos.endLine == pos.line) = true := by rfl) :
    Xp X W (.Call (.Attribute o "split" apos) [e] [] pos) (eM1 (splD md) mo me) := xp_m1 F.slot_str_split F.type_str_split mt_split (mb_spl md) ho he hs hbase hline
end L3
namespace L3
open PySem L2 PySem.Spec PyProof.Rows
/-! tuple(list) -/
def eTupOf (ma : ME) : ME := fun env cs => (ma env cs).bind fun d cs1 => match listOf cs1 d with
  | some ds => mkT cs1 ds
  | none => .stuck
theorem xp_tupOf {X : Cx} {W : WX} {pos p : Pos} {a : Expr} {ma : ME} (hg : Gl X "tuple") (hm : X.mg "tuple" = none) (ha : Xp X W a ma) (hs : starEach [a] X.env = (false, eval a X.env) :: starEach [] X.env := by rfl) (hp : (backTo pos (starEach ([] : List Expr) X.env)).any (·.1) = false := by rfl) :
    Xp X W (.Call (.Name "tuple" p) [a] [] pos) (eTupOf ma) := by
  obtain ⟨ta, pa, sa⟩ := ha
  refine ⟨_, pe_callTy call_tuple_of hg hm PyProof.Rows.Boot.«tuple» (pa_cons pa pa_nil hs) (by decide) (by decide) hs hp, fun σ env H F c cs Q re I po => ?_⟩
  refine sa σ env H F c cs _ re I (PoE.cut po _ fun d cs1 _ H1 F1 c1 v x1 I1 rv po1 => ?_)
  split at po1
  · rename_i ds hds
    obtain ⟨q, vs, rfl, h1, h2⟩ := listOf_at I1 rv hds
    exact ⟨q, vs, rfl, .inl ⟨.inl (.inl h1), fun l hl => mkT_ok I1 h2 po1 hl⟩⟩
  · exact po1.elim
theorem rp_tupOf {a : ME} {env : Env} {cs : Cells} {P : D → Cells → Prop} {X : KX} : RP (eTupOf a env cs) P X = RP (a env cs) (fun d c1 => match listOf c1 d with
  | some ds => RP (mkT c1 ds) P X
  | none => False) X := by
  unfold eTupOf
  rw [RP_bind]
  congr; funext d c1
  cases listOf c1 d <;> rfl
end L3

/-! a new instance where the last parameter, whose default is (), is left out -/
namespace L3
open PySem L2 PySem.Spec PyProof.Rows
section
variable {X : Cx} {k : Nat} {f C : Addr} {fd : FuncData} {ps : List Str} {sp : Sp} {E : L2.St → XK} {x m : Str} {p pos apos : Pos} {e o : Expr} {es : List Expr} {ta : TE} {t : TA} {dvs : List V} {dus : List Value}
def tMakeSD (C : Addr) (sp : Sp) (E : L2.St → XK) (dvs : List V) (t : TA) : TE := fun σ H Q => t σ H fun vs H1 => ∀ x dx, H1 x = none → H1 dx = none → dx ≠ x →
  sp (.ref x :: (vs ++ dvs)) (L2.upd (L2.upd H1 dx (.own x)) x (.ins C dx [])) (fun v H2 => v = .non ∧ Q (.ref x) H2) (E σ)
theorem run_makeGD {pins : List (Addr × Obj)} {σ : L2.St} {H : Hp} {s : Shared} {Q : VK} {us : List Value} {vs : List V} (M : Mk X.K C f) (F : FnG X.prog X.w X.K X.mg X.base k f fd ps sp) (hG : X.A.guards = some []) (hr : Room (k + 1) X.A) (hb : Binds X.K fd ps dus) (hd : Vals dvs dus)
    (hx : PassesAt (L2.CX X.prog X.w) X σ (E σ)) (I : Inv X pins σ H s) (r : Vals vs us)
    (h : ∀ x dx, H x = none → H dx = none → dx ≠ x → sp (.ref x :: (vs ++ dvs)) (L2.upd (L2.upd H dx (.own x)) x (.ins C dx [])) (fun v H2 => v = .non ∧ Q (.ref x) H2) (E σ)) :
    wpAny (model X.prog X.w) X.A (call (.ref C) us) (EP X pins σ Q) X.xe s := by
  have hq := h (s.heap.objs.size + 1) s.heap.objs.size (I.hok.fresh (Nat.le_succ _)) (I.hok.fresh (Nat.le_refl _)) (Nat.ne_of_lt (Nat.lt_succ_self _))
  have I2 := Inv.made (C := C) I
  have r2 : Vals (V.ref (s.heap.objs.size + 1) :: (vs ++ dvs)) ((Value.ref (s.heap.objs.size + 1) :: us) ++ dus) := .cons rfl (r.append hd)
  have hl : ((Value.ref (s.heap.objs.size + 1) :: us) ++ dus).length = ps.length := by rw [← r2.length]; exact F.len _ _ _ _ hq
  have b := hb _ (Value.ref (s.heap.objs.size + 1) :: us) I2.kIn hl
  refine wpAny_call (make_map (f := f) I.kIn M.makes M.init (beq_iff_eq.mp M.fn) (codeAny_mono (F.run _ X.stack _ _ ⟨Value.ref (s.heap.objs.size + 1) :: us, []⟩ ((Value.ref (s.heap.objs.size + 1) :: us) ++ dus) _ _ (E σ) (make_guards hG) (hr.make C us [])
    (I2.env0.make C us []) b r2 hq) fun r s' hq' => ?_))
  cases r with
  | error e => exact hx pins _ _ e s' I2 hq'
  | ok fl =>
    cases fl with
    | ret u =>
      obtain ⟨v, H', I3, rv, ev, q3⟩ := I2.after hq'
      subst ev
      exact ⟨rv, ⟨V.ref (s.heap.objs.size + 1), H', I3, rfl, q3⟩⟩
    | next => exact False.elim hq'
    | brk => exact False.elim hq'
    | cont => exact False.elim hq'
theorem pe_makeGD (M : Mk X.K C f) (F : FnG X.prog X.w X.K X.mg X.base k f fd ps sp) (hG : X.A.guards = some []) (hr : Room (k + 1) X.A) (hg : Gl X x) (hm : X.mg x = some (.ref C)) (hb : Binds X.K fd ps dus) (hd : Vals dvs dus) (hx : ∀ σ, PassesAt (L2.CX X.prog X.w) X σ (E σ))
    (ha : PA X (e :: es) t) (hdb : (x == ("__debug__" : Str)) = false := by decide) (he : starEach (e :: es) X.env = (false, eval e X.env) :: starEach es X.env := by rfl) (hpl : (backTo pos (starEach es X.env)).any (·.1) = false := by rfl) :
    PE X (.Call (.Name x p) (e :: es) [] pos) (tMakeSD C sp E dvs t) := by
  refine ⟨fun pins s σ H Q I h => ?_⟩
  refine wpAny_Call_Name_kw (ld_glob I hg hm ?_ hdb)
  refine PySem.W.callWith_K (h₀ := X.base) I.ok.mod.kin M.kp (thn (ha.run pos pins s σ H _ I h) fun us s1 ⟨vs, H1, I1, r, q⟩ => ⟨I1.kIn, ?_⟩) he hpl
  exact run_makeGD M F hG hr hb hd (hx σ) I1 r q
end
structure OwnJ (P : Program) (w : World) (K : PySem.W.Frag) (mg : Str → Option Value) (base : Heap) (k : Nat) (x : Str) (n : Nat) (mf : MF) : Prop where
  ex : ∃ C f fd ps T, mg x = some (.ref C) ∧ Mk K C f ∧ FnG P w K mg base k f fd ps (spM ⟨P, w, K, mg⟩ mf (n + 2)) ∧ Binds K fd ps [.ref T] ∧ ∀ H : Hp, SqT K H T []
def eMakeJ (x : Str) (mf : MF) (ms : MA) : ME := fun env cs => (ms env cs).bind fun ds cs1 => (mf (.loc cs1.length :: (ds ++ [.tup []])) (cs1 ++ [.ins x []])).bind fun r cs2 => match r with
  | .non => .ok (.loc cs1.length) cs2
  | _ => .stuck
section
variable {X : Cx} {W : WX} {k n : Nat} {x m : Str} {pos apos p : Pos} {o e : Expr} {es : List Expr} {mo : ME} {ms : MA} {mf : MF} {pl : Sem Bool}
theorem xp_makeJ (om : OwnJ X.prog X.w X.K X.mg X.base k x n mf) (hG : X.A.guards = some []) (hr : Room (k + 1) X.A) (tk : Takes X W) (ha : Xa X W (e :: es) ms) (hg : Gl X x) (hlen : ∀ env cs ds cs1, ms env cs = .ok ds cs1 → ds.length = n) (hdb : (x == ("__debug__" : Str)) = false := by decide)
    (he : starEach (e :: es) X.env = (false, eval e X.env) :: starEach es X.env := by rfl) (hpl : (backTo pos (starEach es X.env)).any (·.1) = false := by rfl) : Xp X W (.Call (.Name x p) (e :: es) [] pos) (eMakeJ x mf ms) := by
  obtain ⟨C, f, fd, ps, T, hm, M, F, hb, hT⟩ := om
  obtain ⟨t, pa, sa⟩ := ha
  have hd : Vals [V.ref T] [Value.ref T] := .cons rfl .nil
  refine ⟨_, pe_makeGD M F hG hr hg hm hb hd (fun σ => passAt tk σ) pa hdb he hpl, fun σ env H F0 c cs Q re I po => ?_⟩
  refine sa σ env H F0 c cs _ re I (PoA.cut po _ fun ds cs1 h3 H1 F1 c1 vs x1 I1 rv po1 => ?_)
  intro a dx h1 h2 ne
  have I2 := I1.other (o := .own a) h2
  have h1' : L2.upd H1 dx (.own a) a = none := by rw [upd_ne (Ne.symm ne)]; exact h1
  have I3 : Ih (gd X) (L2.upd (L2.upd H1 dx (.own a)) a (.ins C dx [])) F1 (c1 ++ [a]) (cs1 ++ [.ins x []]) := I2.push h1' ⟨I1.noF h1, C, dx, [], hm, upd_same, .nil⟩
  have x3 : Xt H1 F1 c1 (L2.upd (L2.upd H1 dx (.own a)) a (.ins C dx [])) F1 (c1 ++ [a]) := (Xt.other h2).trans (Xt.push I2 h1')
  have ra : RV (gd X) F1 (c1 ++ [a]) (.ref a) (.loc cs1.length) := .loc (by rw [← I1.len, List.getElem?_append_right (Nat.le_refl _)]; simp)
  have rT : RV (gd X) F1 (c1 ++ [a]) (.ref T) (.tup []) := .tup (hT F1) .nil
  have rv2 : RVs (gd X) F1 (c1 ++ [a]) (vs ++ [V.ref T]) (ds ++ [.tup []]) := (rv.mono x3.le).append (.cons rT .nil)
  refine ⟨by rw [List.length_cons, List.length_append, rv.length, hlen _ _ _ _ h3]; rfl, F1, c1 ++ [a], cs1 ++ [.ins x []], .loc cs1.length :: (ds ++ [.tup []]), I3, .cons ra rv2, ?_⟩
  have po2 := PoE.from x3 po1
  refine PoE.cut po2 _ fun d cs2 _ H2 F2 c2 v x4 I4 rv4 po4 => ?_
  split at po4
  · cases rv4
    exact ⟨rfl, PoE.here I4 (ra.mono x4.le) po4⟩
  · exact po4.elim
end
section
variable {P : Program} {w : World} {K : PySem.W.Frag} {mg : Str → Option Value} {base : Heap} {k n : Nat} {x m : Str} {mf : MF} {C f : Addr} {fd : FuncData} {ps : List Str}
/-- the last default, where it is left out -/
theorem bindsJ {qual : Str} {st : Stmt} {T : Addr} {an : Option Addr} {kV doc pm cdv ct : Value} {o : Obj} {u : Value} {n m : Nat} (lT : K.lookup T = some o) (oT : o.data = .seq ([u] : List Value).toArray n) (hm : ps.length = m + 1)
    (h : ∀ (us : List Value) (u : Value), us.length = m → ∃ k, bindArgs (PySem.W.fnOf x qual (defArgs st) (defBody st) (defScope st) (.ref T) kV doc pm an cdv ct) ⟨us, []⟩ = seqItems? (.ref T) >>= k ∧ k (some ([u] : List Value).toArray) = pure (ps.zip (us ++ [u]))) :
    Binds K (PySem.W.fnOf x qual (defArgs st) (defBody st) (defScope st) (.ref T) kV doc pm an cdv ct) ps [u] := by
  intro s us X hl
  have hl' : us.length = m := by rw [List.length_append, List.length_singleton, hm] at hl; omega
  obtain ⟨k, e1, e2⟩ := h us u hl'
  refine BindsTo.of_looks fun M => ?_
  rw [e1]
  exact looks_items X lT oT (.of_pure e2)
theorem ownJ_mk {T : Addr} {oT : Option Addr} {nT : Nat} {sT : Array (Option Value)} (hm : mg x = some (.ref C)) (M : Mk K C f) (F : FnG P w K mg base k f fd ps (spM ⟨P, w, K, mg⟩ mf ps.length)) (hb : Binds K fd ps [.ref T]) (hn : ps.length = n + 2)
    (hT : K.lookup T = some ⟨.type "tuple", oT, .seq #[] nT, sT⟩) : OwnJ P w K mg base k x n mf := by
  rw [hn] at F
  exact ⟨C, f, fd, ps, T, hm, M, F, hb, fun H => .inr ⟨_, #[], nT, hT, rfl, rfl, Nat.zero_le _, .nil⟩⟩
end
end L3

set_option maxHeartbeats 4000000
/-! own errors under LookupError that set one field -/
namespace L3
open PySem L2 PySem.Spec PyProof.Rows PySem.W PySem.Calls Builtin Builtin.ObjectAttr
abbrev lkTail : List Value := [.type "LookupError", .type "Exception", .type "BaseException", .type "object"]
/-- classes of the text, LookupError's row behind them -/
def lkRow : List Value → Bool
  | .ref _ :: r => lkRow r
  | l => l == lkTail
theorem lkRow_or (l : List Value) (e : lkRow l = true) : (∃ c r, l = .ref c :: r ∧ lkRow r = true) ∨ l = lkTail := by
  cases l with
  | nil => exact absurd e (by decide)
  | cons a r => cases a <;> first | exact .inl ⟨_, _, rfl, e⟩ | exact .inr (beq_iff_eq.mp e)
theorem lkRow_has (Y : String) : ∀ l : List Value, lkRow l = true → l.contains (.type Y) = lkTail.contains (.type Y)
  | [], e => absurd e (by decide)
  | a :: r, e => by
    rcases lkRow_or _ e with ⟨c, r2, q, k⟩ | q
    · cases q
      rw [List.contains_cons, lkRow_has Y r k]; rfl
    · rw [q]
theorem lkRow_ps (self : Value) : ∀ l : List Value, lkRow l = true → refuseLoop self "__setattr__" l = pure ()
  | [], e => absurd e (by decide)
  | a :: r, e => by
    rcases lkRow_or _ e with ⟨c, r2, q, k⟩ | q
    · cases q
      rw [refuseLoop_ref]; exact lkRow_ps self r k
    · rw [q]; exact PySem.F.store_LookupError.passes self
/-- what the written part says of such a class -/
structure LexC (K : PySem.W.Frag) (C : Addr) : Prop where
  row : ∃ nm q N bs bm sn sub ab col dd k0 k1 k2 k3 k5, K.lookup C = some (excClassObj nm q C N bs bm true sn sub ab col dd k0 k1 k2 k3 k5 "LookupError.__new__") ∧ lkRow bm = true
  sets : PySem.W.findIn K (.ref C) "__setattr__" = some (some (.builtin "object.__setattr__"))
  exc : PySem.W.subIn K (.ref C) (.type "BaseException") = some true
  typ : PySem.W.typeIn K (.ref C) = some (.type "type")
  kept : PySem.W.keepIn K (.ref C) = true
/-- the first field of an error that has no dict as yet; what is asked of the class's row stands ahead -/
theorem lk_set {P : Program} {w : World} {A : Around} {R : Result → Shared → Prop} {hp : Heap} {g : Array GenState} {d : Drawn} {t : Nat} {os : OsState} {K : W.Frag} {f : Str} {tk : Tok} {v : Value} {x C : Addr} {fv : Array Value} {cd : ClassData}
    (kin : K.In hp) (at' : hp.get? x = some { cls := .ref C, data := .fields fv }) (hcd : W.clsIn K C = some cd) (ne : cd.mro.isEmpty = false) (ob : cd.mro.contains (.type "object") = true) (ps : refuseLoop (.ref x) "__setattr__" cd.mro = pure ()) (hd : cd.hasDict = true) (no : W.findIn K (.ref C) f = some none)
    (hq : ∀ h' tk' dx, (∀ b o, b ≠ x → hp.get? b = some o → h'.get? b = some o) → hp.objs.size ≤ dx → dx ≠ x → h'.get? x = some { cls := .ref C, dict := some dx, data := .fields fv } →
      h'.Ns1 dx (fun y => if y = f then some v else none) → R (.ok (.ret .none)) ⟨h', g, d, tk', os⟩) :
    codeAny (model P w) A (.call (.builtin "object.__setattr__") ⟨[.ref x, .str f tk, v], []⟩) R ⟨hp, g, d, t, os⟩ := by
  have J : W.InstAt hp x { cls := .ref C, data := .fields fv } C none := ⟨at', rfl, rfl, trivial⟩
  have st := PySem.F.store_object
  have apart : x ≠ hp.objs.size := Nat.ne_of_lt (Heap.lt_size at')
  have mr : W.mroIn K C (.type "object") = some true := by
    unfold W.mroIn
    rw [hcd, Option.bind_some, if_neg (by rw [ne]; decide), ob]
  have is : W.Looks (model P w) hp (isInstance (.ref x) (.type "object")) true := J.type.andThen (W.looks_mroIn kin mr)
  have l1 : W.Looks (model P w) hp (mroOf (.ref C)) cd.mro := (W.looks_clsIn kin hcd).andThen .now
  have l2 : W.Looks (model P w) hp (storeTaker? none) none := .now
  have l3 : W.Looks (model P w) hp (classData C) cd := W.looks_clsIn kin hcd
  refine codeAny_call_builtin st.slot.plain st.entry ?_
  refine @W.check_slot (model P w) _ _ ⟨hp, g, d, t, os⟩ "object.__setattr__" "object" "__setattr__" (.ref x) [.str f tk, v] [] _ st.kind st.split is (st.args (.ref x) (.str f tk) v) ?_
  rw [W.osa_eq, refuse_eq]
  refine wpAny_bind (wpAny_bind (J.type.at (wpAny_bind (l1.at ?_))))
  rw [ps]
  refine wpAny_pure (wpAny_bind (J.type.at (wpAny_bind ((W.looks_findIn kin no).at (wpAny_bind (l2.at ?_))))))
  show wpAny _ _ (storeInOwnDict (.ref x) (.ref C) (.str f tk) f v false) _ _ _
  obtain ⟨c1, c2, c3, c4, c5, c6, c7, c8, c9, c10, c11⟩ := cd
  dsimp only at hd
  subst hd
  unfold storeInOwnDict ownDictForStores
  repeat (first | with_reducible refine PySem.HandSPX.store_in_new ?_ ?_ | with_reducible refine wpAny_loadPart_at at' ?_ | with_reducible refine l3.at ?_ | wp_step)
  · exact ⟨_, #[], _, (Heap.get?_update_ne _ _ _ _ apart.symm).trans (Heap.get?_push_at rfl rfl), rfl, fun e he => absurd he (by simp), fun _ => rfl⟩
  · intro h' tk' n1 sb
    have at2 : (hp.push { cls := .type "dict", data := .dict #[] }).get? x = some { cls := .ref C, data := .fields fv } := Heap.get?_push_of_some _ at'
    refine hq h' tk' hp.objs.size (fun b o hb ho => ?_) (Nat.le_refl _) apart.symm ?_ n1
    · rw [sb.2 b (Nat.ne_of_lt (Heap.lt_size ho)), Heap.get?_update_ne _ _ _ _ hb]
      exact Heap.get?_push_of_some _ ho
    · rw [sb.2 x apart]
      exact Heap.get?_update_self _ at2 rfl
section
variable {X : Cx} {pins : List (Addr × Obj)} {σ : L2.St} {H : Hp} {s : Shared} {a C dx : Addr} {f : Str} {y : V} {u : Value} {E : Value → Shared → Prop} {A : Around}
theorem lk_cls {K : PySem.W.Frag} {nm q : Str} {N : Addr} {bs bm : List Value} {sn : List Str} {sub : List Value} {ab : Bool} {col : Option Bool} {dd : Option Addr} {k0 k1 k2 k3 k5 : Option Value} {nid : String}
    (h : K.lookup C = some (excClassObj nm q C N bs bm true sn sub ab col dd k0 k1 k2 k3 k5 nid)) : ∃ cd, PySem.W.clsIn K C = some cd ∧ cd.mro = .ref C :: bm ∧ cd.hasDict = true :=
  ⟨{ name := nm, bases := bs, mro := .ref C :: bm, ns := N, qualname := q, hasDict := true, slotNames := sn, subclasses := sub, abstract := ab, collection := col, hasDel := false }, by unfold PySem.W.clsIn; rw [h] <;> rfl, rfl, rfl⟩
/-- self.f = y, the one field -/
theorem lk_field {Q : Unit → Shared → Prop} (T : LexC X.K C) (I : Inv X pins σ H s) (e : H a = some (exo a C none)) (no : PySem.W.findIn X.K (.ref C) f = some none) (ry : RelV y u)
    (h : ∀ dx s', H dx = none → dx ≠ a → Inv X pins σ (L2.upd (L2.upd H dx (exd dx [(f, y)])) a (exo a C (some dx))) s' → Q () s') : wpAny (model X.prog X.w) A (setAttr (.ref a) f u) Q E s := by
  obtain ⟨nm, q, N, bs, bm, sn, sub, ab, col, dd, k0, k1, k2, k3, k5, hC, hbm⟩ := T.row
  obtain ⟨cd, hcd, hm, hd⟩ := lk_cls hC
  have row : lkRow cd.mro = true := by rw [hm]; exact hbm
  obtain ⟨t1, ho⟩ := exo_at I.hok e
  obtain ⟨hp, g, d, t, os⟩ := s
  refine PySem.W.set_plain I.kIn (ox := { cls := .ref C, dict := none, data := .fields #[.ref t1, .none, .none, .none, .bool false, .none] }) (od := none) ⟨ho, rfl, rfl, trivial⟩ T.sets ?_
  refine lk_set I.kIn ho hcd (by rw [hm]; rfl) ((lkRow_has "object" _ row).trans (by decide +kernel)) (lkRow_ps _ _ row) hd no (fun h' tk' dx k dn dne hx hn => ?_)
  have free : H dx = none := I.hok.fresh dn
  have old : ∀ {b : Addr} {o : Obj}, hp.get? b = some o → b ≠ dx := fun {b o} q => Nat.ne_of_lt (Nat.lt_of_lt_of_le (Heap.lt_size q) dn)
  have na : ∀ {b : Addr}, H b = none → b ≠ a := fun {b} n z => by rw [z, e] at n; cases n
  have un : Un X.fs [] H (L2.upd (L2.upd H dx (exd dx [(f, y)])) a (exo a C (some dx))) hp h' := {
    keep := fun b o q n _ _ => k b o (na n) q
    slot := fun b o q n _ _ => ⟨o.slots, k b o (na n) q⟩
    free := fun b o q n _ => by rw [upd_ne (na n), upd_ne (old q)]; exact n
    there := fun b o q _ => (Classical.em (b = a)).elim (fun z => ⟨_, z ▸ hx⟩) fun z => ⟨o, k b o z q⟩
    tups := fun b xs q => by rw [upd_ne (at_ne e q exo_tup), upd_ne (ne_of_none q free)]; exact q
    frzs := fun b o v q => by rw [upd_ne (at_ne e q exo_frz), upd_ne (ne_of_none q free)]; exact q
    tbls := fun b ps q => ⟨#[], by rw [upd_ne (at_ne e q exo_tbl), upd_ne (ne_of_none q free), q, Array.append_empty]⟩ }
  refine h dx _ free dne (I.un (t' := tk') un fun b o q => ?_)
  by_cases hb : b = a
  · subst hb
    rw [upd_same] at q; cases q
    exact exo_ok hx
  rw [upd_ne hb] at q
  by_cases hd : b = dx
  · subst hd
    rw [upd_same] at q; cases q
    exact exd_ok hn (relO_put (fs := []) ry fun g => trivial)
  rw [upd_ne hd] at q
  refine (I.hok b o q).stay (fun c v hc z => k c v ?_ z) (fun c hc => ?_) (fun c xs hc => ?_)
  · rcases hc with rfl | hc
    · exact hb
    · exact at_ne e hc exo_own
  · rw [upd_ne (at_ne e hc exo_own), upd_ne (ne_of_none hc free)]; exact hc
  · rw [upd_ne (at_ne e hc exo_tup), upd_ne (ne_of_none hc free)]; exact hc
/-- LookupError.__init__(self, ..) -/
theorem lk_init {us : List Value} {Q : Value → Shared → Prop} (T : LexC X.K C) (I : Inv X pins σ H s) (e : H a = some (exo a C none)) (hl : us.length ≤ sizeLine) (h : ∀ s', Inv X pins σ H s' → Q .none s') :
    wpAny (model X.prog X.w) A (call (.builtin "LookupError.__init__") (.ref a :: us)) Q E s := by
  obtain ⟨nm, q, N, bs, bm, sn, sub, ab, col, dd, k0, k1, k2, k3, k5, hC, hbm⟩ := T.row
  obtain ⟨t1, ho⟩ := exo_at I.hok e
  obtain ⟨hp, g, d, t, os⟩ := s
  have same : L2.upd H a (exo a C none) = H := by
    funext b
    by_cases hb : b = a
    · subst hb; rw [upd_same, e]
    · exact upd_ne hb
  refine wpAny_call (PySem.HandSPX.init_base PySem.F.excBase_LookupError (fun Y => lkRow_has Y bm hbm) (I.kIn _ _ hC) ho hl fun h' t2 k hx => h _ ?_)
  have J := I.write (t' := t) (x := a) (e := a) (o := exo a C none) (by rw [e]; trivial) (.inl rfl) k ⟨_, hx⟩ (exo_ok hx)
  rwa [same] at J
end
/-! ### readings -/
def tLkI (K : PySem.W.Frag) (ta : TA) : TE := fun σ H Q => ta σ H fun vs H1 => ∃ (a C : Addr) (ws : List V), vs = .ref a :: ws ∧ ws.length ≤ 1000 ∧ LexC K C ∧ H1 a = some (exo a C none) ∧ Q .non H1
def tLkF (K : PySem.W.Frag) (f : Str) (to te : TE) : TS := fun D σ H => te σ H fun y H1 => to σ H1 fun x H2 => ∃ a C : Addr, x = .ref a ∧ LexC K C ∧ PySem.W.findIn K (.ref C) f = some none ∧
  H2 a = some (exo a C none) ∧ ∀ dx, H2 dx = none → dx ≠ a → D.nx σ (L2.upd (L2.upd H2 dx (exd dx [(f, y)])) a (exo a C (some dx)))
/-- a class of the text without an own __init__, over LookupError -/
structure BaseL (K : PySem.W.Frag) (B : Addr) : Prop where
  ga : PySem.W.specialIn K (.ref B) "__getattribute__" = some (some (.builtin "type.__getattribute__"))
  rd : PySem.W.readsIn K B (.type "type") = true
  ini : PySem.W.findCls K (.ref B) (.type "type") "__init__" = some (.val (.builtin "LookupError.__init__"))
section
variable {X : Cx} {o e : Expr} {es : List Expr} {to te : TE} {ta : TA} {f x : Str} {p p' p1 p2 pos : Pos} {B : Addr}
theorem pe_linit {pl : Sem Bool} (hg : Gl X x) (hm : X.mg x = some (.ref B)) (hB : BaseL X.K B) (ha : PA X (e :: es) ta) (hd : (x == ("__debug__" : Str)) = false := by decide)
    (hc : eval (.Call (.Attribute (.Name x p1) "__init__" p2) (e :: es) [] pos) X.env = (do
      let ov ← eval (.Name x p1) X.env
      standAt p2.atName
      let (f, first) ← holding [ov] (getMethod ov "__init__" pl)
      callWith pos f first (backTo pos (starEach (e :: es) X.env)) (backToKw pos (keywordEach [] X.env))) := by rfl)
    (hs : starEach (e :: es) X.env = (false, eval e X.env) :: starEach es X.env := by rfl) (hp : (backTo pos (starEach es X.env)).any (·.1) = false := by rfl) :
    PE X (.Call (.Attribute (.Name x p1) "__init__" p2) (e :: es) [] pos) (tLkI X.K ta) := by
  constructor
  intro pins s σ H Q I h
  refine PySem.W.methodCall_KW (ld_glob I hg hm ?_ hd) hc
  refine PySem.W.method_cls I.kIn hB.ga (PySem.W.cls_value I.kIn hB.rd hB.ini (by decide +kernel) ?_)
  show wpAny _ _ (callWith pos (Value.builtin "LookupError.__init__") [] (backTo pos (starEach (e :: es) X.env)) []) _ _ _
  refine callWith_method1 (thn (ha.run pos pins _ σ H _ (I.tok _) h) fun us s1 hh => ?_) hs hp
  obtain ⟨vs, H1, I1, r1, a, C, ws, ev, hl, T, ea, q⟩ := hh
  subst ev
  obtain ⟨u0, ur, rfl, ra, rw'⟩ : ∃ u0 ur, us = u0 :: ur ∧ RelV (.ref a) u0 ∧ Vals ws ur := by cases r1 with | cons p q => exact ⟨_, _, rfl, p, q⟩
  cases ra
  have hlen : ur.length ≤ sizeLine := by
    have := Paired.length rw'
    rw [sizeLine_eq]; omega
  exact lk_init T I1 ea hlen fun s' J => ⟨.non, H1, J, rfl, q⟩
theorem ps_lset (ho : PE X o to) (he : PE X e te) (hs : swapsWith e (some (.Attribute o f p')) pos.line X.env = pure false := by rfl) : PS X (.Assign [.Attribute o f p'] e pos) (tLkF X.K f to te) := by
  constructor
  intro pins s σ H D I h
  refine plainObj_wpAny_Assign_Attribute (thn (he.run pins s σ H _ I h) fun v s1 r1 => ?_) hs
  obtain ⟨y, H1, I1, ry, q1⟩ := r1
  refine thn (ho.run pins s1 σ H1 _ I1 q1) fun u s2 r2 => ?_
  obtain ⟨x, H2, I2, rx, a, C, ex, T, no, ea, q⟩ := r2
  subst ex
  cases rx
  exact lk_field T I2 ea no ry fun dx s' n ne J => ⟨σ, _, J, q dx n ne⟩
theorem pmk_lk {CX : CXT} {C fI : Addr} {k : Nat} {fd : FuncData} {ps : List Str} {sp : Sp} (T : LexC X.K C) (iC : PySem.W.findIn X.K (.ref C) "__init__" = some (some (.ref fI))) (tI : PySem.W.typeIn X.K (.ref fI) = some (.type "function"))
    (F1 : FnOk X.prog X.w X.K X.mg X.base CX k fI fd ps sp) (hr : Room (k + 1) X.A) (hb : Binds X.K fd ps []) (hx : Passes CX X (fun _ _ _ => False)) (hg : Gl X x) (hm : X.mg x = some (.ref C)) (ha : PA X (e :: es) ta)
    (hdb : (x == ("__debug__" : Str)) = false := by decide) (he : starEach (e :: es) X.env = (false, eval e X.env) :: starEach es X.env := by rfl) (hpl : (backTo pos (starEach es X.env)).any (·.1) = false := by rfl) :
    PMk X (.Call (.Name x p) (e :: es) [] pos) (tMkO C sp [] ta) := by
  intro pins s σ H Q I h
  obtain ⟨nm, q, N, bs, bm, sn, sub, ab, col, dd, k0, k1, k2, k3, k5, hC, hbm⟩ := T.row
  refine wpAny_Call_Name_kw (ld_glob I hg hm ?_ hdb)
  refine PySem.W.callWith_K (h₀ := X.base) I.ok.mod.kin T.kept (thn (ha.run pos pins s σ H _ I h) fun us s1 ⟨vs, H1, I1, r1, hz, q1⟩ => ⟨I1.kIn, ?_⟩) he hpl
  show wpAny _ _ (call (.ref C) us) _ _ _
  obtain ⟨hp, g, dr, tk, os⟩ := s1
  have up : hp.objs.size ≤ hp.objs.size + 1 := Nat.le_succ _
  have free : H1 (hp.objs.size + 1) = none := I1.hok.fresh up
  have hq := q1 (hp.objs.size + 1) free
  have grown : ∀ b o, hp.get? b = some o → ((hp.push (PySem.W.kdv_tup us)).push (PySem.HandSPX.excO C hp.objs.size)).get? b = some o := fun b o e => Heap.get?_push_of_some _ (Heap.get?_push_of_some _ e)
  have there : ((hp.push (PySem.W.kdv_tup us)).push (PySem.HandSPX.excO C hp.objs.size)).get? (hp.objs.size + 1) = some (PySem.HandSPX.excO C hp.objs.size) := by heap_get
  have I2 := I1.laid (t' := tk) (a := hp.objs.size + 1) (o := exo (hp.objs.size + 1) C none) (h' := (hp.push (PySem.W.kdv_tup us)).push (PySem.HandSPX.excO C hp.objs.size)) grown up (exo_ok there)
  have r2 : Vals (V.ref (hp.objs.size + 1) :: (vs ++ [])) (Value.ref (hp.objs.size + 1) :: us) := .cons rfl (by rw [List.append_nil]; exact r1)
  have hl : (Value.ref (hp.objs.size + 1) :: us ++ []).length = ps.length := by
    rw [List.append_nil, ← r2.length]; exact F1.len _ _ _ _ hq
  have hus : us.length ≤ sizeLine := by
    rw [← Paired.length r1, sizeLine_eq]; omega
  have b := hb _ (Value.ref (hp.objs.size + 1) :: us) I2.kIn hl
  rw [List.append_nil] at b
  refine wpAny_call (PySem.HandSPX.call_own PySem.F.excBase_LookupError (fun Y => lkRow_has Y bm hbm) (I1.kIn _ _ hC) (PySem.W.looks_findIn I1.kIn iC) (fun self => PySem.W.bind_fn I1.kIn self tI) hus ?_)
  refine codeAny_mono (F1.run _ X.stack _ _ ⟨Value.ref (hp.objs.size + 1) :: us, []⟩ (Value.ref (hp.objs.size + 1) :: us) _ _ (fun _ _ _ => False) (hr.make C us []) (I2.env0.make C us []) b r2 hq) fun r s' hq' => ?_
  cases r with
  | error er => exact hx pins σ _ _ er s' I2 hq'
  | ok fl =>
    cases fl with
    | ret u =>
      obtain ⟨v, H2, os2, bare2, un2, hok2, rv, ev, d, fs, ea, ed, hd1, q2⟩ := hq'
      subst ev
      obtain ⟨h2, g2, d2, t2, os'⟩ := s'
      exact ⟨rv, mk_end (raises_own T.exc T.typ) I1 up grown un2 hok2 os2 bare2 ea ed hd1 q2⟩
    | _ => exact False.elim hq'
end
/-! ### raise -/
structure ExL (P : Program) (w : World) (K : PySem.W.Frag) (mg : Str → Option Value) (base : Heap) (x : Str) (fns : List Str) : Prop where
  ex : ∃ C fI fd ps, LexC K C ∧ PySem.W.findIn K (.ref C) "__init__" = some (some (.ref fI)) ∧ PySem.W.typeIn K (.ref fI) = some (.type "function") ∧ FnOk P w K mg base CX0 1 fI fd ps (spExI K C fns) ∧ Binds K fd ps [] ∧ mg x = some (.ref C) ∧ XfC K C ∧ ∀ f ∈ fns, PySem.W.findIn K (.ref C) f = some none
section
variable {X : Cx} {W : WX} {k : Nat} {x : Str} {fns : List Str} {p pos rpos : Pos} {e : Expr} {es : List Expr} {ms : MA}
theorem sm_raiseL (hcl : X.calm = true) (o : ExL X.prog X.w X.K X.mg X.base x fns) (hr : Room 2 X.A) (tk : Takes X W) (ha : Xa X W (e :: es) ms) (hg : Gl X x) (hlen : fns.length ≤ 900) (hdb : (x == ("__debug__" : Str)) = false := by decide)
    (hs : starEach (e :: es) X.env = (false, eval e X.env) :: starEach es X.env := by rfl) (hp : (backTo pos (starEach es X.env)).any (·.1) = false := by rfl) : Sm X W (.Raise (some (.Call (.Name x p) (e :: es) [] pos)) none rpos) (sRaise x fns ms) := by
  obtain ⟨C, fI, fd, ps, T, iC, tI, F1, hb, hm, _, _⟩ := o
  obtain ⟨t, pa, sa⟩ := ha
  refine ⟨_, ps_raise hcl tk (pmk_lk T iC tI F1 hr hb pass0 hg hm pa hdb hs hp), fun σ env H F c cs Dn re I po => ?_⟩
  refine sa σ env H F c cs _ re I ?_
  unfold sRaise at po
  cases h1 : ms env cs with
  | exc n fs c1 => rw [h1] at po; exact fun H1 F1 c1 x1 I1 C dx vs a b d => po H1 F1 c1 x1 I1 σ C dx vs (re.mono x1.le) a b d
  | stuck => rw [h1] at po; exact po.elim
  | ok ds cs1 =>
    rw [h1] at po
    simp only at po
    split at po
    · rename_i hl
      intro H1 F2 c1 x1 I1 vs rv
      have hvl : vs.length = fns.length := by rw [rv.length]; exact hl
      refine ⟨by omega, fun a na => ⟨a, vs ++ [], rfl, by rw [List.append_nil]; exact hvl, upd_same, fun dx H' nd ne ea ed oth => ⟨rfl, dx, _, ea, ed, ?_, ?_⟩⟩⟩
      · rw [upd_ne ne] at nd; exact nd
      · rw [List.append_nil] at ed ⊢
        rw [upd_ne ne] at nd
        have eq : upd (del H' a) dx (.xd (fns.zip vs).reverse) = upd H1 dx (.xd (fns.zip vs).reverse) := by
          funext b
          by_cases hbd : b = dx
          · subst hbd; rw [upd_same, upd_same]
          · rw [upd_ne hbd, upd_ne hbd]
            by_cases hba : b = a
            · subst hba; rw [del_same, na]
            · rw [del_ne hba, oth b hba hbd, upd_ne hba]
        rw [eq]
        have x2 := Xt.side (Xt.refl H1 F2 c1) (o := .xd (fns.zip vs).reverse) nd
        have I2 := I1.side (o := .xd (fns.zip vs).reverse) (I1.notMem nd) (I1.noF nd)
        refine po _ F2 c1 (x1.trans x2) I2 σ C (some dx) (fns.zip vs).reverse (re.mono x1.le) hm upd_same ?_
        exact (rfs_zip fns rv).rev
    · exact po.elim
end
end L3

/-! a put behind a written text: 'give ' + _law_put(..) -/
namespace L3
open PySem PySem.W PySem.Calls PyProof.Rows L2
section
variable {X : Cx} {W : WX} {a b : Expr} {ma mb : ME} {pos : Pos}
theorem xp_addST (md : Bool) (ha : XpS X W a ma) (hb : XpT X W b mb) : Xp X W (.BinOp a .Add b pos) (op2 (addD md) ma mb) := by
  obtain ⟨ta, pa, sa⟩ := ha
  obtain ⟨tb, pb, sb⟩ := hb
  refine ⟨tOp _ ta tb, ⟨fun pins s σ H Q I h => wpAny_BinOp ?_⟩, fun σ env H F c cs Q re I po => sim2 sa sb (o2_add md) re I po⟩
  refine thn (pa pins s σ H _ I h) fun v s1 ⟨hk, x, H1, I1, r1, q1⟩ => ?_
  refine thn (pb pins s1 σ H1 _ hk I1 q1) fun u s2 ⟨y, H2, I2, r2, q2⟩ => ?_
  exact op_addAll pins s2 σ H2 x y v u Q I2 r1 r2 q2
end
end L3

/-! zip of two lists, as a walk; sum of a list of ints -/
namespace L3
open PySem PySem.W PySem.Calls PyProof.Rows L2
def isTup : D → Bool
  | .tup _ => true
  | _ => false
def zipD (ds es : List D) : List D := (ds.zip es).map fun p => .tup [p.1, p.2]
theorem itk_zip {g : Gd} {a b : Addr} {d e : D} {ds es : List D} (hd : ∀ l, d ≠ .tup l) (he : ∀ l, e ≠ .tup l) : Itk g (Itz g.K a b) (zipD ds es) fun H F c cs => (RV g F c (.ref a) d ∧ RV g F c (.ref b) e) ∧ (seqOf cs d = some ds ∧ seqOf cs e = some es) := by
  have Ka := itk_list (g := g) (a := a) (items := ds) hd
  have Kb := itk_list (g := g) (a := b) (items := es) he
  have len : (zipD ds es).length = min ds.length es.length := by simp [zipD]
  refine ⟨fun i H F c cs I ok hi => ?_, fun i H F c cs d' I ok hd' v H' y => ?_, fun i H F c cs I ok hi => ?_⟩
  · obtain ⟨xs, x, h1, h2⟩ := Ka.go i H F c cs I ⟨ok.1.1, ok.2.1⟩ (by omega)
    obtain ⟨ys, y, h3, h4⟩ := Kb.go i H F c cs I ⟨ok.1.2, ok.2.2⟩ (by omega)
    exact ⟨xs, ys, x, y, h1, h3, h2, h4⟩
  · obtain ⟨T, x, z, rfl, hT, rfl, hx, hz⟩ := y
    have hi : i < min ds.length es.length := by rw [← len]; exact (List.getElem?_eq_some_iff.mp hd').1
    have hi1 : i < ds.length := by omega
    have hi2 : i < es.length := by omega
    obtain ⟨F1, xt1, I1, rv1⟩ := Ka.yld i H F c cs ds[i] I ⟨ok.1.1, ok.2.1⟩ (List.getElem?_eq_getElem hi1) x H ⟨rfl, hx⟩
    obtain ⟨F2, xt2, I2, rv2⟩ := Kb.yld i H F1 c cs es[i] I1 ⟨ok.1.2.mono xt1.le, ok.2.2⟩ (List.getElem?_eq_getElem hi2) z H ⟨rfl, hz⟩
    have e : d' = .tup [ds[i], es[i]] := by
      unfold zipD at hd'
      rw [List.getElem?_map, List.getElem?_zip_eq_some (z := (ds[i], es[i])) |>.mpr ⟨List.getElem?_eq_getElem hi1, List.getElem?_eq_getElem hi2⟩] at hd'
      simpa using hd'.symm
    subst e
    have x2 := Xt.still I2 (o := .tup [x, z]) hT
    exact ⟨_, (xt1.trans xt2).trans x2, I2.still hT, .tup (.of upd_same) (.cons ((rv1.mono xt2.le).mono x2.le) (.cons (rv2.mono x2.le) .nil))⟩
  · have hi' : ds.length ≤ i ∨ es.length ≤ i := by omega
    have q1 : ∃ xs, SqL g.K H a xs ∧ (ds.length ≤ i → xs.length ≤ i) := by
      rcases Nat.lt_or_ge i ds.length with h | h
      · obtain ⟨xs, x, h1, h2⟩ := Ka.go i H F c cs I ⟨ok.1.1, ok.2.1⟩ h
        exact ⟨xs, h1, fun h' => by omega⟩
      · obtain ⟨xs, h1, h2⟩ := Ka.stop i H F c cs I ⟨ok.1.1, ok.2.1⟩ (by omega)
        exact ⟨xs, h1, fun _ => h2⟩
    have q2 : ∃ ys, SqL g.K H b ys ∧ (es.length ≤ i → ys.length ≤ i) := by
      rcases Nat.lt_or_ge i es.length with h | h
      · obtain ⟨xs, x, h1, h2⟩ := Kb.go i H F c cs I ⟨ok.1.2, ok.2.2⟩ h
        exact ⟨xs, h1, fun h' => by omega⟩
      · obtain ⟨xs, h1, h2⟩ := Kb.stop i H F c cs I ⟨ok.1.2, ok.2.2⟩ (by omega)
        exact ⟨xs, h1, fun _ => h2⟩
    obtain ⟨xs, a1, a2⟩ := q1
    obtain ⟨ys, b1, b2⟩ := q2
    exact ⟨xs, ys, a1, b1, hi'.imp a2 b2⟩
def wZip (ma mb : ME) : MW := fun env cs => (ma env cs).toW fun d cs1 => (mb env cs1).toW fun e cs2 =>
  if isTup d = true ∨ isTup e = true then .stuck else match seqOf cs2 d, seqOf cs2 e with
    | some ds, some es => .ok (zipD ds es) (fun cs3 => seqOf cs3 d = some ds ∧ seqOf cs3 e = some es) cs2
    | _, _ => .stuck
section
variable {X : Cx} {W : WX} {e0 e1 : Expr} {es : List Expr} {m0 m1 : ME} {pos p tpos : Pos} {kk : Nat}
theorem wk_zip (hg : Gl X "zip") (hm : X.mg "zip" = none) (h0 : Xp X W e0 m0) (h1 : Xp X W e1 m1) (hs1 : starEach [e1] X.env = [(false, eval e1 X.env)] := by rfl) (hs : starEach [e0, e1] X.env = (false, eval e0 X.env) :: starEach [e1] X.env := by rfl) (hpl : (backTo pos (starEach [e1] X.env)).any (·.1) = false := by rfl) :
    Wk X W (.Tuple es kk tpos) (.Call (.Name "zip" p) [e0, e1] [] pos) (wZip m0 m1) := by
  obtain ⟨ta, pa, sa⟩ := h0
  obtain ⟨tb, pb, sb⟩ := h1
  refine ⟨_, pi_zip hg hm (pa_cons pa (pa_cons pb pa_nil hs1) hs) hs hpl, fun σ env H F c cs R re I po => ?_⟩
  refine sa σ env H F c cs _ re I (PoW.cut po _ fun d cs1 h1 H1 F1 c1 v x1 I1 rv po1 => ?_)
  refine sb σ env H1 F1 c1 cs1 _ (re.mono x1.le) I1 (PoW.cut po1 _ fun e cs2 h2 H2 F2 c2 u x2 I2 ru po2 => ?_)
  split at po2
  · exact po2.elim
  · rename_i nt
    have nd : ∀ l, d ≠ .tup l := fun l h => nt (.inl (by rw [h]; rfl))
    have ne : ∀ l, e ≠ .tup l := fun l h => nt (.inr (by rw [h]; rfl))
    split at po2
    · rename_i ds es' hs1 hs2
      have rv' := rv.mono x2.le
      obtain ⟨a, rfl⟩ := seqOf_ref I2 rv' hs1
      obtain ⟨b, rfl⟩ := seqOf_ref I2 ru hs2
      have K := itk_zip (g := gd X) (a := a) (b := b) (ds := ds) (es := es') nd ne
      have qa : ∀ {q : Addr} {f : D} {fs : List D}, (∀ l, f ≠ .tup l) → RV (gd X) F2 c2 (.ref q) f → seqOf cs2 f = some fs → ∃ xs, SqL X.K H2 q xs := fun {q f fs} nf rf hf => by
        have KL := itk_list (g := gd X) (a := q) (items := fs) (d := f) nf
        by_cases hz : 0 < fs.length
        · obtain ⟨xs, _, h1, _⟩ := KL.go 0 H2 F2 c2 cs2 I2 ⟨rf, hf⟩ hz
          exact ⟨xs, h1⟩
        · obtain ⟨xs, h1, _⟩ := KL.stop 0 H2 F2 c2 cs2 I2 ⟨rf, hf⟩ (by omega)
          exact ⟨xs, h1⟩
      obtain ⟨xs, hqa⟩ := qa nd rv' hs1
      obtain ⟨ys, hqb⟩ := qa ne ru hs2
      exact ⟨a, b, xs, ys, rfl, hqa, hqb, po2 _ _ _ (Xt.refl _ _ _) I2 _ (fun F c => RV (gd X) F c (.ref a) d ∧ RV (gd X) F c (.ref b) e) K (fun _ _ _ _ h k => ⟨k.1.mono h, k.2.mono h⟩) ⟨rv', ru⟩⟩
    · exact po2.elim
end
section
variable {a b : ME} {env : Env} {cs : Cells} {X : KX}
theorem wp_zip {Q : List D → (Cells → Prop) → Cells → Prop} : WP (wZip a b env cs) Q X = RP (a env cs) (fun d c => RP (b env c) (fun e c2 => if isTup d = true ∨ isTup e = true then False else match seqOf c2 d, seqOf c2 e with
    | some ds, some es => Q (zipD ds es) (fun c3 => seqOf c3 d = some ds ∧ seqOf c3 e = some es) c2
    | _, _ => False) X) X := by
  unfold wZip
  rw [wp_toW]
  congr; funext d c
  rw [wp_toW]
  congr; funext e c2
  split
  · rfl
  · split <;> rfl
end
end L3

/-! sum of a list of ints -/
namespace L3
open PySem PySem.W PySem.Calls PyProof.Rows L2
def intsOf : List D → Option (List Int)
  | [] => some []
  | .int i :: r => (intsOf r).map (i :: ·)
  | _ => none
theorem ints_rv {g : Gd} {F : Hp} {c : List Addr} : ∀ {vs : List V} {ds : List D} {ns : List Int}, RVs g F c vs ds → intsOf ds = some ns → vs = ns.map V.int
  | _, _, _, .nil, h => by simp only [intsOf, Option.some.injEq] at h; subst h; rfl
  | _, _, _, .cons a b, h => by
    cases a with
    | int i =>
      simp only [intsOf, Option.map_eq_some_iff] at h
      obtain ⟨q, hq, rfl⟩ := h
      rw [ints_rv b hq]; rfl
    | _ => simp [intsOf] at h
theorem intsOf_map (ns : List Int) : intsOf (ns.map D.int) = some ns := by
  induction ns with
  | nil => rfl
  | cons a r ih => simp only [List.map_cons, intsOf, ih, Option.map_some]
def eSum (ma : ME) : ME := fun env cs => (ma env cs).bind fun d cs1 => if isTup d = true then .stuck else match seqOf cs1 d with
  | some ds => (match intsOf ds with
    | some ns => .ok (.int ns.sum) cs1
    | none => .stuck)
  | none => .stuck
section
variable {X : Cx} {W : WX} {p pos : Pos} {a : Expr} {ma : ME}
theorem xp_sum (hc : X.calm = true) (hg : Gl X "sum") (hm : X.mg "sum" = none) (bo : bootBuiltins "sum" = some (.builtin "sum")) (ha : Xp X W a ma) (hs : starEach [a] X.env = (false, eval a X.env) :: starEach [] X.env := by rfl) (hp : (backTo pos (starEach ([] : List Expr) X.env)).any (·.1) = false := by rfl) :
    Xp X W (.Call (.Name "sum" p) [a] [] pos) (eSum ma) := by
  obtain ⟨ta, pa, sa⟩ := ha
  refine ⟨_, pe_callB (cr_sum hc) hg hm bo (pa_cons pa pa_nil hs) (by decide) (by decide) hs hp, fun σ env H F c cs Q re I po => ?_⟩
  refine sa σ env H F c cs _ re I (PoE.cut po _ fun d cs1 _ H1 F1 c1 v x1 I1 rv po1 => ?_)
  split at po1
  · exact po1.elim
  · rename_i nt
    split at po1
    · rename_i ds hds
      split at po1
      · rename_i ns hn
        obtain ⟨q, vs, rfl, hs, r⟩ := seqL_at I1 rv (fun l e => nt (by rw [e]; rfl)) hds
        have ev := ints_rv r hn
        exact ⟨q, ns, rfl, by rw [← ev]; exact hs, PoE.here I1 (.int _) po1⟩
      · exact po1.elim
    · exact po1.elim
end
section
variable {P : D → Cells → Prop} {X : KX} {env : L3.Env} {cs : Cells} {a : ME}
theorem rp_sum : RP (eSum a env cs) P X = RP (a env cs) (fun d c1 => if isTup d = true then False else match seqOf c1 d with
  | some ds => (match intsOf ds with
    | some ns => P (.int ns.sum) c1
    | none => False)
  | none => False) X := by
  unfold eSum
  rw [RP_bind]
  congr; funext d c1
  split
  · rfl
  · cases seqOf c1 d with
    | none => rfl
    | some ds =>
      cases hs : intsOf ds with
      | none => simp only [hs]; rfl
      | some H => simp only [hs]; rfl
end
end L3

/-! xs.pop() of a list that is a cell -/
namespace L3
open PySem PySem.W PySem.Calls PyProof.Rows L2
def popL (cs : Cells) : D → Option (D × Cells)
  | .loc n => match cs[n]? with
    | some (.lst l) => match l[l.length - 1]? with
      | some d => some (d, cs.set n (.lst l.dropLast))
      | none => none
    | _ => none
  | _ => none
def ePop (mo : ME) : ME := fun env cs => (mo env cs).bind fun o cs1 => match popL cs1 o with
  | some (d, cs2) => .ok d cs2
  | none => .stuck
theorem RVs.dropL {g : Gd} {F : Hp} {c : List Addr} : ∀ {vs : List V} {ds : List D}, RVs g F c vs ds → RVs g F c vs.dropLast ds.dropLast
  | _, _, .nil => .nil
  | _, _, .cons _ .nil => .nil
  | _, _, .cons a (.cons b r) => .cons a (RVs.dropL (.cons b r))
section
variable {X : Cx} {W : WX} {pos apos : Pos} {o : Expr} {mo : ME}
theorem xp_pop (ho : Xp X W o mo) (hbase : attributeBase o "pop" X.env (eval o X.env) = eval o X.env := by rfl) (hline : (apos.endLine == pos.line) = true := by rfl) :
    Xp X W (.Call (.Attribute o "pop" apos) [] [] pos) (ePop mo) := by
  obtain ⟨to, po', so⟩ := ho
  refine ⟨_, pe_bm0 F.plainAttrs_list F.slot_list_pop F.type_list_pop mt_pop po' hbase hline, fun σ env H F c cs Q re I po => ?_⟩
  refine so σ env H F c cs _ re I (PoE.cut po _ fun d cs1 _ H1 F1 c1 v x1 I1 rv po1 => ?_)
  split at po1
  · rename_i d2 cs2 h
    cases d with
    | loc n =>
      simp only [popL] at h
      split at h
      · rename_i l hl
        split at h
        · rename_i d3 hd3
          simp only [Option.some.injEq, Prod.mk.injEq] at h
          obtain ⟨rfl, rfl⟩ := h
          cases rv with
          | loc ha =>
            rename_i a
            obtain ⟨f, vs, hH, r⟩ := I1.cell _ _ _ ha hl
            obtain ⟨y, hy, ry⟩ := r.get hd3
            refine ⟨.inl ⟨rfl, vs, .inl (.inl hH)⟩, a, vs, y, rfl, rfl, hH, ?_, ?_⟩
            · rw [r.length]; exact hy
            · have x4 := Xt.write I1 (o := .lst vs.dropLast) ha
              exact po1 _ _ _ x4 (I1.write ha hl rfl ⟨f, _, upd_same, r.dropL⟩) _ (ry.mono x4.le)
        · cases h
      · cases h
    | _ => simp [popL] at h
  · exact po1.elim
end
section
variable {P : D → Cells → Prop} {X : KX} {env : L3.Env} {cs : Cells} {a : ME}
theorem rp_pop : RP (ePop a env cs) P X = RP (a env cs) (fun d c1 => match popL c1 d with
  | some (x, c2) => P x c2
  | none => False) X := by
  unfold ePop
  rw [RP_bind]
  congr; funext d c1
  cases popL c1 d with
  | none => rfl
  | some p => rfl
end
end L3

/-! an own error under LookupError without fields: raise NothingToUndo() -/
namespace L3
open PySem PySem.W PySem.Calls PyProof.Rows L2
section
variable {X : Cx}
theorem mk_end0n {pins : List (Addr × Obj)} {σ : L2.St} {H1 H2 : Hp} {hp hp2 h2 : Heap} {g1 g2 : Array GenState} {d1 d2 : Drawn} {t1 t2 : Nat} {os1 os2 : OsState} {a C : Addr} (I1 : Inv X pins σ H1 ⟨hp, g1, d1, t1, os1⟩)
    (ha : hp.objs.size ≤ a) (k : ∀ b o, hp.get? b = some o → hp2.get? b = some o) (un : Un (frs X.stack) [] (L2.upd H1 a (exo a C none)) H2 hp2 h2) (hok : HOk X.prog X.w H2 h2) (ho : os2 = os1) (hb : AllBare g2)
    (ea : H2 a = some (exo a C none)) :
    ∃ (t0 : Addr) (G : Heap), Inv X pins σ (del H2 a) ⟨G, g2, d2, t2, os2⟩ ∧ (∀ b o, G.get? b = some o → h2.get? b = some o) ∧ G.get? a = none ∧
      h2.get? a = some ({ cls := .ref C, dict := none, data := .fields #[.ref t0, .none, .none, .none, .bool false, .none] } : Obj) ∧ (del H2 a) a = none := by
  obtain ⟨t0, hoe⟩ := exo_at hok ea
  have hn : H1 a = none := I1.hok.fresh ha
  obtain ⟨G, g1', g2'⟩ := restrict h2 fun b => decide (b ≠ a)
  have gk : ∀ b, b ≠ a → G.get? b = h2.get? b := fun b hb => g1' b (decide_eq_true hb)
  have ge : G.get? a = none := g2' a (by simp)
  have nha : ∀ {b : Addr} {o : Obj}, hp.get? b = some o → b ≠ a := fun {b o} z => Nat.ne_of_lt (Nat.lt_of_lt_of_le (Heap.lt_size z) ha)
  have up : ∀ {b : Addr}, b ≠ a → H1 b = none → L2.upd H1 a (exo a C none) b = none := fun {b} hb n => by rw [upd_ne hb]; exact n
  have U : Un (frs X.stack) [] H1 (del H2 a) hp G := {
    keep := fun b o z n hf hx => by
      rw [gk b (nha z)]
      exact un.keep b o (k b o z) (up (nha z) n) hf hx
    slot := fun b o z n hf hx => by
      rw [gk b (nha z)]
      exact un.slot b o (k b o z) (up (nha z) n) hf hx
    free := fun b o z n hx => by
      rw [del_ne (nha z)]
      exact un.free b o (k b o z) (up (nha z) n) hx
    there := fun b o z hx => by
      rw [gk b (nha z)]
      exact un.there b o (k b o z) hx
    tups := fun b xs z => by
      rw [del_ne (ne_of_none z hn)]
      exact un.tups b xs (by rw [upd_ne (ne_of_none z hn)]; exact z)
    frzs := fun b o v z => by
      rw [del_ne (ne_of_none z hn)]
      exact un.frzs b o v (by rw [upd_ne (ne_of_none z hn)]; exact z)
    tbls := fun b ps z => by
      rw [del_ne (ne_of_none z hn)]
      exact un.tbls b ps (by rw [upd_ne (ne_of_none z hn)]; exact z) }
  have hok3 : HOk X.prog X.w (del H2 a) G := fun b o z => by
    have hba : b ≠ a := fun e => by
      rw [e, del_same] at z
      cases z
    rw [del_ne hba] at z
    have noa : ∀ {c : Addr}, H2 c = some (.own b) → c ≠ a := fun {c} hc => at_ne ea hc exo_own
    exact (hok b o z).stay (fun c v hc y => by
        have hca : c ≠ a := by
          rcases hc with hc | hc
          · rw [hc]
            exact hba
          · exact noa hc
        rw [gk c hca]
        exact y)
      (fun c hc => by rw [del_ne (noa hc)]; exact hc) (fun c xs hc => by rw [del_ne (at_ne ea hc exo_tup)]; exact hc)
  have J : Inv X pins σ (del H2 a) ⟨G, g2, d2, t2, os2⟩ := I1.call' (ch := []) ho U hok3 hb (fun b z => absurd z (by simp))
  refine ⟨t0, G, J, fun b o z => ?_, ge, hoe, del_same⟩
  by_cases hba : b = a
  · rw [hba, ge] at z
    cases z
  · exact (gk b hba).symm.trans z
/-- the making of an error without fields -/
def tMk0 (C : Addr) (sp : Sp) : L2.St → Hp → XK → Prop := fun _ H1 Q => ∀ a, H1 a = none → sp [.ref a] (L2.upd H1 a (exo a C none))
  (fun v H2 => v = .non ∧ H2 a = some (exo a C none) ∧ Q (.ref C) none (del H2 a)) (fun _ _ _ => False)
theorem pmk_lk0 {CX : CXT} {C fI : Addr} {k : Nat} {fd : FuncData} {ps : List Str} {sp : Sp} {x : Str} {p pos : Pos} (T : LexC X.K C) (iC : PySem.W.findIn X.K (.ref C) "__init__" = some (some (.ref fI))) (tI : PySem.W.typeIn X.K (.ref fI) = some (.type "function"))
    (F1 : FnOk X.prog X.w X.K X.mg X.base CX k fI fd ps sp) (hr : Room (k + 1) X.A) (hb : Binds X.K fd ps []) (hx : Passes CX X (fun _ _ _ => False)) (hg : Gl X x) (hm : X.mg x = some (.ref C))
    (hdb : (x == ("__debug__" : Str)) = false := by decide) :
    PMk X (.Call (.Name x p) [] [] pos) (tMk0 C sp) := by
  intro pins s σ H Q I h
  obtain ⟨nm, q, N, bs, bm, sn, sub, ab, col, dd, k0, k1, k2, k3, k5, hC, hbm⟩ := T.row
  refine wpAny_Call_Name_kw (ld_glob I hg hm ?_ hdb)
  refine PySem.W.callWith_K0 I.kIn T.kept ?_
  show wpAny _ _ (call (.ref C) []) _ _ _
  obtain ⟨hp, g, dr, tk, os⟩ := s
  have up : hp.objs.size ≤ hp.objs.size + 1 := Nat.le_succ _
  have free : H (hp.objs.size + 1) = none := I.hok.fresh up
  have hq := h (hp.objs.size + 1) free
  have grown : ∀ b o, hp.get? b = some o → ((hp.push (PySem.W.kdv_tup [])).push (PySem.HandSPX.excO C hp.objs.size)).get? b = some o := fun b o e => Heap.get?_push_of_some _ (Heap.get?_push_of_some _ e)
  have there : ((hp.push (PySem.W.kdv_tup [])).push (PySem.HandSPX.excO C hp.objs.size)).get? (hp.objs.size + 1) = some (PySem.HandSPX.excO C hp.objs.size) := by heap_get
  have I2 := I.laid (t' := tk) (a := hp.objs.size + 1) (o := exo (hp.objs.size + 1) C none) (h' := (hp.push (PySem.W.kdv_tup [])).push (PySem.HandSPX.excO C hp.objs.size)) grown up (exo_ok there)
  have r2 : Vals [V.ref (hp.objs.size + 1)] [Value.ref (hp.objs.size + 1)] := .cons rfl .nil
  have hl : ([Value.ref (hp.objs.size + 1)] ++ ([] : List Value)).length = ps.length := by
    rw [List.append_nil, ← r2.length]; exact F1.len _ _ _ _ hq
  have b := hb _ [Value.ref (hp.objs.size + 1)] I2.kIn hl
  rw [List.append_nil] at b
  refine wpAny_call (PySem.HandSPX.call_own PySem.F.excBase_LookupError (fun Y => lkRow_has Y bm hbm) (I.kIn _ _ hC) (PySem.W.looks_findIn I.kIn iC) (fun self => PySem.W.bind_fn I.kIn self tI) (Nat.zero_le _) ?_)
  refine codeAny_mono (F1.run _ X.stack _ _ ⟨[Value.ref (hp.objs.size + 1)], []⟩ [Value.ref (hp.objs.size + 1)] _ _ (fun _ _ _ => False) (hr.make C [] []) (I2.env0.make C [] []) b r2 hq) fun r s' hq' => ?_
  cases r with
  | error er => exact hx pins σ _ _ er s' I2 hq'
  | ok fl =>
    cases fl with
    | ret u =>
      obtain ⟨v, H2, os2, bare2, un2, hok2, rv, ev, ea, q2⟩ := hq'
      subst ev
      obtain ⟨h2, g2, d2, t2, os'⟩ := s'
      obtain ⟨t0, G, J, kG, ge, hoe, na⟩ := mk_end0n (d2 := d2) (t2 := t2) I up grown un2 hok2 os2 bare2 ea
      exact ⟨rv, _, _, _, ⟨G, g2, d2, t2, os'⟩, _, .ref C, none, rfl, J, kG, ge, hoe, ⟨rfl, rfl⟩, rfl, rfl, na, rfl, bare2, raises_own T.exc T.typ, q2⟩
    | _ => exact False.elim hq'
end
/-- the init of such a class -/
def spEx0 (K : PySem.W.Frag) (C : Addr) : Sp := fun vs H Q _ => ∃ a : Addr, vs = [.ref a] ∧ H a = some (exo a C none) ∧ Q .non H
theorem spEx0_len {K : PySem.W.Frag} {C : Addr} {vs : List V} {H : Hp} {Q : VK} {E : XK} (h : spEx0 K C vs H Q E) : vs.length = 1 := by
  obtain ⟨a, rfl, _⟩ := h
  rfl
structure ExL0 (P : Program) (w : World) (K : PySem.W.Frag) (mg : Str → Option Value) (base : Heap) (x : Str) : Prop where
  ex : ∃ C fI fd ps, LexC K C ∧ PySem.W.findIn K (.ref C) "__init__" = some (some (.ref fI)) ∧ PySem.W.typeIn K (.ref fI) = some (.type "function") ∧ FnOk P w K mg base CX0 1 fI fd ps (spEx0 K C) ∧ Binds K fd ps [] ∧ mg x = some (.ref C)
section
variable {X : Cx} {W : WX} {x : Str} {p pos rpos : Pos}
theorem sm_raiseL0 (hcl : X.calm = true) (o : ExL0 X.prog X.w X.K X.mg X.base x) (hr : Room 2 X.A) (tk : Takes X W) (hg : Gl X x) (hdb : (x == ("__debug__" : Str)) = false := by decide) :
    Sm X W (.Raise (some (.Call (.Name x p) [] [] pos)) none rpos) (sRaise x [] aNil) := by
  obtain ⟨C, fI, fd, ps, T, iC, tI, F1, hb, hm⟩ := o
  refine ⟨_, ps_raise hcl tk (pmk_lk0 T iC tI F1 hr hb pass0 hg hm hdb), fun σ env H F c cs Dn re I po => ?_⟩
  intro a na
  refine ⟨a, rfl, upd_same, rfl, upd_same, ?_⟩
  have eq : del (L2.upd H a (exo a C none)) a = H := by
    funext b
    by_cases hb : b = a
    · subst hb; rw [del_same, na]
    · rw [del_ne hb, upd_ne hb]
  rw [eq]
  exact po H F c (Xt.refl _ _ _) I σ C none [] re hm rfl .nil
end
end L3

/-! the program by its places -/
namespace T_k70
open PySem L2 L3
def top (i : Nat) : Stmt := PySem.Challenge.pw_tailnames_k70_desks_refused.main.body.getD i (.Pass ⟨0, 0, 0, 0⟩)
/-- what the top has given names -/
structure Tx (K : PySem.W.Frag) (mg : Str → Option Value) : Prop where
  b_all : mg "all" = none
  b_dict : mg "dict" = none
  b_int : mg "int" = none
  b_isinstance : mg "isinstance" = none
  b_len : mg "len" = none
  b_list : mg "list" = none
  b_max : mg "max" = none
  b_min : mg "min" = none
  b_range : mg "range" = none
  b_repr : mg "repr" = none
  b_set : mg "set" = none
  b_str : mg "str" = none
  b_tuple : mg "tuple" = none
  c_CLIMB : ∃ t, mg "CLIMB" = some (.str "climb" t)
  c_FIGURES : ∃ t, mg "FIGURES" = some (.str "0123456789" t)
  c_HASH : ∃ t, mg "HASH" = some (.str "#" t)
  c_LONGEST_MARK : ∃ t, mg "LONGEST_MARK" = some (.int 12 t)
  c_LONGEST_NAME : ∃ t, mg "LONGEST_NAME" = some (.int 200 t)
  c_MOST_NAMES : ∃ t, mg "MOST_NAMES" = some (.int 200 t)
  c_NEST : ∃ t, mg "NEST" = some (.str "nest" t)
  c_SIGNS : ∃ t, mg "SIGNS" = some (.str "abcdefghijklmnopqrstuvwxyz0123456789-_.()" t)
  c_STAR : ∃ t, mg "STAR" = some (.str "*" t)
section
variable {P : Program} {w : World} {K : PySem.W.Frag} {mg : Str → Option Value} {base : Heap}
abbrev si_BadMark : Stmt := meth (top 6) 0
theorem ssi_BadMark : FnScope ["self", "found"] ["self", "found"] (defScope si_BadMark) := ⟨rfl, rfl, rfl, by decide +kernel, rfl, by decide +kernel, by decide +kernel⟩
theorem init_BadMark {f C B : Addr} {fd : FuncData} (F : Fun K "__init__" "BadMark.__init__" si_BadMark f fd) (hC : OexC K C) (hB : BaseC K B) (hm : mg "TailError" = some (.ref B)) (hf0 : PySem.W.findIn K (.ref C) "found" = some none) : FnOk P w K mg base CX0 1 f fd ["self", "found"] (spExI K C ["found"]) := by
  refine F.ok ssi_BadMark (fun vs H Q E h => spExI_len rfl h) fun cdv A outer s H vs Q E hr h => ?_
  obtain ⟨a, ys, rfl, hl, ha, q⟩ := h
  match ys, hl with
  | [y0], _ =>
    exact ⟨_, pss_cons (ps_expr (pe_cinit rfl hm hB (pa_cons (pv 0) (pa_cons pe_str pa_nil)))) (pss_one (ps_ost (pv 0) (pv 1))),
      ⟨_, rfl, a, C, _, rfl, by simp, hC, ha, ⟨_, rfl, _, rfl, a, C, rfl, hC, hf0, .inl ⟨ha, exI_one rfl ha q⟩⟩⟩⟩
abbrev si_BadName : Stmt := meth (top 4) 0
theorem ssi_BadName : FnScope ["self", "found"] ["self", "found"] (defScope si_BadName) := ⟨rfl, rfl, rfl, by decide +kernel, rfl, by decide +kernel, by decide +kernel⟩
theorem init_BadName {f C B : Addr} {fd : FuncData} (F : Fun K "__init__" "BadName.__init__" si_BadName f fd) (hC : OexC K C) (hB : BaseC K B) (hm : mg "TailError" = some (.ref B)) (hf0 : PySem.W.findIn K (.ref C) "found" = some none) : FnOk P w K mg base CX0 1 f fd ["self", "found"] (spExI K C ["found"]) := by
  refine F.ok ssi_BadName (fun vs H Q E h => spExI_len rfl h) fun cdv A outer s H vs Q E hr h => ?_
  obtain ⟨a, ys, rfl, hl, ha, q⟩ := h
  match ys, hl with
  | [y0], _ =>
    exact ⟨_, pss_cons (ps_expr (pe_cinit rfl hm hB (pa_cons (pv 0) (pa_cons pe_str pa_nil)))) (pss_one (ps_ost (pv 0) (pv 1))),
      ⟨_, rfl, a, C, _, rfl, by simp, hC, ha, ⟨_, rfl, _, rfl, a, C, rfl, hC, hf0, .inl ⟨ha, exI_one rfl ha q⟩⟩⟩⟩
abbrev si_BadNames : Stmt := meth (top 11) 0
theorem ssi_BadNames : FnScope ["self", "found"] ["self", "found"] (defScope si_BadNames) := ⟨rfl, rfl, rfl, by decide +kernel, rfl, by decide +kernel, by decide +kernel⟩
theorem init_BadNames {f C B : Addr} {fd : FuncData} (F : Fun K "__init__" "BadNames.__init__" si_BadNames f fd) (hC : OexC K C) (hB : BaseC K B) (hm : mg "TailError" = some (.ref B)) (hf0 : PySem.W.findIn K (.ref C) "found" = some none) : FnOk P w K mg base CX0 1 f fd ["self", "found"] (spExI K C ["found"]) := by
  refine F.ok ssi_BadNames (fun vs H Q E h => spExI_len rfl h) fun cdv A outer s H vs Q E hr h => ?_
  obtain ⟨a, ys, rfl, hl, ha, q⟩ := h
  match ys, hl with
  | [y0], _ =>
    exact ⟨_, pss_cons (ps_expr (pe_cinit rfl hm hB (pa_cons (pv 0) (pa_cons pe_str pa_nil)))) (pss_one (ps_ost (pv 0) (pv 1))),
      ⟨_, rfl, a, C, _, rfl, by simp, hC, ha, ⟨_, rfl, _, rfl, a, C, rfl, hC, hf0, .inl ⟨ha, exI_one rfl ha q⟩⟩⟩⟩
abbrev si_BadRule : Stmt := meth (top 9) 0
theorem ssi_BadRule : FnScope ["self", "found"] ["self", "found"] (defScope si_BadRule) := ⟨rfl, rfl, rfl, by decide +kernel, rfl, by decide +kernel, by decide +kernel⟩
theorem init_BadRule {f C B : Addr} {fd : FuncData} (F : Fun K "__init__" "BadRule.__init__" si_BadRule f fd) (hC : OexC K C) (hB : BaseC K B) (hm : mg "TailError" = some (.ref B)) (hf0 : PySem.W.findIn K (.ref C) "found" = some none) : FnOk P w K mg base CX0 1 f fd ["self", "found"] (spExI K C ["found"]) := by
  refine F.ok ssi_BadRule (fun vs H Q E h => spExI_len rfl h) fun cdv A outer s H vs Q E hr h => ?_
  obtain ⟨a, ys, rfl, hl, ha, q⟩ := h
  match ys, hl with
  | [y0], _ =>
    exact ⟨_, pss_cons (ps_expr (pe_cinit rfl hm hB (pa_cons (pv 0) (pa_cons pe_str pa_nil)))) (pss_one (ps_ost (pv 0) (pv 1))),
      ⟨_, rfl, a, C, _, rfl, by simp, hC, ha, ⟨_, rfl, _, rfl, a, C, rfl, hC, hf0, .inl ⟨ha, exI_one rfl ha q⟩⟩⟩⟩
abbrev si_BadWay : Stmt := meth (top 8) 0
theorem ssi_BadWay : FnScope ["self", "found"] ["self", "found"] (defScope si_BadWay) := ⟨rfl, rfl, rfl, by decide +kernel, rfl, by decide +kernel, by decide +kernel⟩
theorem init_BadWay {f C B : Addr} {fd : FuncData} (F : Fun K "__init__" "BadWay.__init__" si_BadWay f fd) (hC : OexC K C) (hB : BaseC K B) (hm : mg "TailError" = some (.ref B)) (hf0 : PySem.W.findIn K (.ref C) "found" = some none) : FnOk P w K mg base CX0 1 f fd ["self", "found"] (spExI K C ["found"]) := by
  refine F.ok ssi_BadWay (fun vs H Q E h => spExI_len rfl h) fun cdv A outer s H vs Q E hr h => ?_
  obtain ⟨a, ys, rfl, hl, ha, q⟩ := h
  match ys, hl with
  | [y0], _ =>
    exact ⟨_, pss_cons (ps_expr (pe_cinit rfl hm hB (pa_cons (pv 0) (pa_cons pe_str pa_nil)))) (pss_one (ps_ost (pv 0) (pv 1))),
      ⟨_, rfl, a, C, _, rfl, by simp, hC, ha, ⟨_, rfl, _, rfl, a, C, rfl, hC, hf0, .inl ⟨ha, exI_one rfl ha q⟩⟩⟩⟩
abbrev si_Blurred : Stmt := meth (top 7) 0
theorem ssi_Blurred : FnScope ["self", "one", "other"] ["self", "one", "other"] (defScope si_Blurred) := ⟨rfl, rfl, rfl, by decide +kernel, rfl, by decide +kernel, by decide +kernel⟩
theorem init_Blurred {f C B : Addr} {fd : FuncData} (F : Fun K "__init__" "Blurred.__init__" si_Blurred f fd) (hC : OexC K C) (hB : BaseC K B) (hm : mg "TailError" = some (.ref B)) (hf0 : PySem.W.findIn K (.ref C) "one" = some none) (hf1 : PySem.W.findIn K (.ref C) "other" = some none) : FnOk P w K mg base CX0 1 f fd ["self", "one", "other"] (spExI K C ["one", "other"]) := by
  refine F.ok ssi_Blurred (fun vs H Q E h => spExI_len rfl h) fun cdv A outer s H vs Q E hr h => ?_
  obtain ⟨a, ys, rfl, hl, ha, q⟩ := h
  match ys, hl with
  | [y0, y1], _ =>
    exact ⟨_, pss_cons (ps_expr (pe_cinit rfl hm hB (pa_cons (pv 0) (pa_cons pe_str pa_nil)))) (pss_cons (ps_ost (pv 0) (pv 1)) (pss_one (ps_ost (pv 0) (pv 2)))),
      ⟨_, rfl, a, C, _, rfl, by simp, hC, ha, ⟨_, rfl, _, rfl, a, C, rfl, hC, hf0, .inl ⟨ha, fun dx hn ne => ⟨_, rfl, _, rfl, a, C, rfl, hC, hf1, .inr (exI_two rfl q dx hn ne)⟩⟩⟩⟩⟩
abbrev si_Doubled : Stmt := meth (top 12) 0
theorem ssi_Doubled : FnScope ["self", "found"] ["self", "found"] (defScope si_Doubled) := ⟨rfl, rfl, rfl, by decide +kernel, rfl, by decide +kernel, by decide +kernel⟩
theorem init_Doubled {f C B : Addr} {fd : FuncData} (F : Fun K "__init__" "Doubled.__init__" si_Doubled f fd) (hC : OexC K C) (hB : BaseC K B) (hm : mg "TailError" = some (.ref B)) (hf0 : PySem.W.findIn K (.ref C) "found" = some none) : FnOk P w K mg base CX0 1 f fd ["self", "found"] (spExI K C ["found"]) := by
  refine F.ok ssi_Doubled (fun vs H Q E h => spExI_len rfl h) fun cdv A outer s H vs Q E hr h => ?_
  obtain ⟨a, ys, rfl, hl, ha, q⟩ := h
  match ys, hl with
  | [y0], _ =>
    exact ⟨_, pss_cons (ps_expr (pe_cinit rfl hm hB (pa_cons (pv 0) (pa_cons pe_str pa_nil)))) (pss_one (ps_ost (pv 0) (pv 1))),
      ⟨_, rfl, a, C, _, rfl, by simp, hC, ha, ⟨_, rfl, _, rfl, a, C, rfl, hC, hf0, .inl ⟨ha, exI_one rfl ha q⟩⟩⟩⟩
/-- which error is under which -/
def isa : List ((Str × Str) × Bool) := [((("BadMark" : Str), ("BadName" : Str)), false), ((("BadMark" : Str), ("BadNames" : Str)), false), ((("BadMark" : Str), ("BadRule" : Str)), false), ((("BadMark" : Str), ("Doubled" : Str)), false), ((("BadMark" : Str), ("TailError" : Str)), true), ((("BadName" : Str), ("BadName" : Str)), true), ((("BadName" : Str), ("BadNames" : Str)), false), ((("BadName" : Str), ("BadRule" : Str)), false), ((("BadName" : Str), ("Doubled" : Str)), false), ((("BadName" : Str), ("TailError" : Str)), true), ((("BadNames" : Str), ("BadName" : Str)), false), ((("BadNames" : Str), ("BadNames" : Str)), true), ((("BadNames" : Str), ("BadRule" : Str)), false), ((("BadNames" : Str), ("Doubled" : Str)), false), ((("BadNames" : Str), ("TailError" : Str)), true), ((("BadRule" : Str), ("BadName" : Str)), false), ((("BadRule" : Str), ("BadNames" : Str)), false), ((("BadRule" : Str), ("BadRule" : Str)), true), ((("BadRule" : Str), ("Doubled" : Str)), false), ((("BadRule" : Str), ("TailError" : Str)), true), ((("BadWay" : Str), ("BadName" : Str)), false), ((("BadWay" : Str), ("BadNames" : Str)), false), ((("BadWay" : Str), ("BadRule" : Str)), false), ((("BadWay" : Str), ("Doubled" : Str)), false), ((("BadWay" : Str), ("TailError" : Str)), true), ((("Blurred" : Str), ("BadName" : Str)), false), ((("Blurred" : Str), ("BadNames" : Str)), false), ((("Blurred" : Str), ("BadRule" : Str)), false), ((("Blurred" : Str), ("Doubled" : Str)), false), ((("Blurred" : Str), ("TailError" : Str)), true), ((("Doubled" : Str), ("BadName" : Str)), false), ((("Doubled" : Str), ("BadNames" : Str)), false), ((("Doubled" : Str), ("BadRule" : Str)), false), ((("Doubled" : Str), ("Doubled" : Str)), true), ((("Doubled" : Str), ("TailError" : Str)), true)]
abbrev st__law_box : Stmt := top 88
theorem sc__law_box : FnScope ["cell"] ["cell"] (defScope st__law_box) := ⟨rfl, rfl, rfl, by decide +kernel, rfl, by decide +kernel, by decide +kernel⟩
noncomputable def mb__law_box : MS := (sRet (eList true (aCons (eBi maxB (aCons (eC (.int 0)) (aCons (op2 subD (eVar 0) (op2 powD (eC (.int 10)) (eC (.int 18)))) aNil))) (aCons (op2 modD (eVar 0) (eC (.int 2147483629))) (aCons (eC (.int 0)) aNil)))))
noncomputable def m__law_box : MF := mDef 1 mb__law_box
theorem ok__law_box {f : Addr} {fd : FuncData} (F : Fun K "_law_box" "_law_box" st__law_box f fd) (T : Tx K mg) (hN : ∃ mm, base.Ns sysModules mm) : FnG P w K mg base 1 f fd ["cell"] (spM ⟨P, w, K, mg⟩ m__law_box 1) := by
  refine fnMG F sc__law_box mb__law_box fun cdv A outer s H E hG hr => ?_
  exact (sms_one (sm_ret (xp_list true (xa_cons (xp_bi (call_max2 rfl) cb_max rfl T.b_max bo_max (xa_cons xp_int (xa_cons (xp_sub (xp_var (i := 0) rfl (.inl rfl)) (xp_pow xp_int xp_int)) xa_nil))) (xa_cons (xp_mod (xp_var (i := 0) rfl (.inl rfl)) xp_int) (xa_cons xp_int xa_nil))))))
abbrev st_need_rule : Stmt := top 53
theorem sc_need_rule : FnScope ["rule"] ["rule"] (defScope st_need_rule) := ⟨rfl, rfl, rfl, by decide +kernel, rfl, by decide +kernel, by decide +kernel⟩
noncomputable def mb_need_rule : MS := (sIf (eNot (op1 (isoD "Rule") (eVar 0))) (sRaise "BadRule" ["found"] (aCons (eVar 0) aNil)) sNx)
noncomputable def m_need_rule : MF := mDef 1 mb_need_rule
theorem ok_need_rule {f : Addr} {fd : FuncData} (F : Fun K "need_rule" "need_rule" st_need_rule f fd) (T : Tx K mg) (hN : ∃ mm, base.Ns sysModules mm) (n_Rule : InsF K mg "Rule") (x_BadRule : ExF P w K mg base "BadRule" ["found"]) : FnG P w K mg base 3 f fd ["rule"] (spM ⟨P, w, K, mg⟩ m_need_rule 1) := by
  refine fnMG F sc_need_rule mb_need_rule fun cdv A outer s H E hG hr => ?_
  exact (sms_one (sm_if (xt_not (xt_val (xp_iso n_Rule rfl T.b_isinstance rfl (xp_var (i := 0) rfl (.inl rfl))))) (sms_one (sm_raise rfl x_BadRule (hr.mono (by decide)) (takes_of rfl rfl rfl rfl) (xa_cons (xp_var (i := 0) rfl (.inl rfl)) xa_nil) rfl (by decide))) sms_nil))
abbrev st_is_list : Stmt := top 25
theorem sc_is_list : FnScope ["value", "most"] ["value", "most"] (defScope st_is_list) := ⟨rfl, rfl, rfl, by decide +kernel, rfl, by decide +kernel, by decide +kernel⟩
noncomputable def mb_is_list : MS := (sRet (eAnd (op1 (isiD2 "list" "tuple") (eVar 0)) (op2 leD (eBi lenB (aCons (eVar 0) aNil)) (eVar 1))))
noncomputable def m_is_list : MF := mDef 2 mb_is_list
theorem ok_is_list {f : Addr} {fd : FuncData} (F : Fun K "is_list" "is_list" st_is_list f fd) (T : Tx K mg) (hN : ∃ mm, base.Ns sysModules mm) : FnG P w K mg base 1 f fd ["value", "most"] (spM ⟨P, w, K, mg⟩ m_is_list 2) := by
  refine fnMG F sc_is_list mb_is_list fun cdv A outer s H E hG hr => ?_
  exact (sms_one (sm_ret (xp_and (p2 := ⟨0, 0, 0, 0⟩) (xp_isi2 rfl T.b_isinstance rfl T.b_list bo_list rfl T.b_tuple bo_tuple (xp_var (i := 0) rfl (.inl rfl))) (xp_one (xp_le (xp_bi call_len cb_len rfl T.b_len bo_len (xa_cons (xp_var (i := 0) rfl (.inl rfl)) xa_nil)) (xp_var (i := 1) rfl (.inl rfl)))))))
abbrev st_is_name : Stmt := top 26
theorem sc_is_name : FnScope ["value", "sign"] ["value"] (defScope st_is_name) := ⟨rfl, rfl, rfl, by decide +kernel, rfl, by decide +kernel, by decide +kernel⟩
noncomputable def mb_is_name : MS := (sSeq (sIf (eOr (eNot (op1 (isiD "str") (eVar 0))) (eNot (eChain leD leD (eC (.int 1)) (eBi lenB (aCons (eVar 0) aNil)) (eC (.int 200))))) (sRet (eC (.bl false))) sNx) (sRet (eBi allB (aCons (eLc false [1] (tgN 1) (wSeq (eVar 0)) (eC (.bl true)) (op2 inD (eVar 1) (eC (.str [97, 98, 99, 100, 101, 102, 103, 104, 105, 106, 107, 108, 109, 110, 111, 112, 113, 114, 115, 116, 117, 118, 119, 120, 121, 122, 48, 49, 50, 51, 52, 53, 54, 55, 56, 57, 45, 95, 46, 40, 41])))) aNil))))
noncomputable def m_is_name : MF := mDef 2 mb_is_name
theorem ok_is_name {f : Addr} {fd : FuncData} (F : Fun K "is_name" "is_name" st_is_name f fd) (T : Tx K mg) (hN : ∃ mm, base.Ns sysModules mm) : FnG P w K mg base 1 f fd ["value"] (spM ⟨P, w, K, mg⟩ m_is_name 1) := by
  refine fnMG F sc_is_name mb_is_name fun cdv A outer s H E hG hr => ?_
  obtain ⟨tk_LONGEST_NAME, g_LONGEST_NAME⟩ := T.c_LONGEST_NAME
  obtain ⟨tk_SIGNS, g_SIGNS⟩ := T.c_SIGNS
  exact (sms_cons (sm_if (Xw.t (xw_or (xt_not (xt_val (xp_isi rfl T.b_isinstance rfl T.b_str bo_str (xp_var (i := 0) rfl (.inl rfl))))) (xw_or1 (xt_not (xt_chain op_le o2_le op_le o2_le xp_int (xp_bi call_len cb_len rfl T.b_len bo_len (xa_cons (xp_var (i := 0) rfl (.inl rfl)) xa_nil)) (xp_globI rfl g_LONGEST_NAME)))))) (sms_one (sm_ret xp_bl)) sms_nil)
    (sms_one (sm_ret (xp_bi (cr_all rfl) cb_all rfl T.b_all bo_all (xa_cons (xp_lc false rfl sc_is_name.nd (wk_seq (xp_var (i := 0) rfl (.inl rfl))) (own := [("sign", 1)]) (blk_ok (N := ["value", "sign"]) (sc := defScope st_is_name) (by decide +kernel)) ⟨fun s H C cl fp => (tgt_name (i := 1) (own := [1]) sc_is_name.nd rfl (.inl rfl)), fun s H C cl fp => xts_nil, fun s H C cl fp => (xp_in (xp_var (i := 1) rfl (.inl rfl)) (xp_globS (l := [97, 98, 99, 100, 101, 102, 103, 104, 105, 106, 107, 108, 109, 110, 111, 112, 113, 114, 115, 116, 117, 118, 119, 120, 121, 122, 48, 49, 50, 51, 52, 53, 54, 55, 56, 57, 45, 95, 46, 40, 41]) rfl g_SIGNS (by decide +kernel)) rfl)⟩) xa_nil)))))
abbrev st_need_unlike : Stmt := top 61
theorem sc_need_unlike : FnScope ["names", "most", "seen", "name"] ["names", "most"] (defScope st_need_unlike) := ⟨rfl, rfl, rfl, by decide +kernel, rfl, by decide +kernel, by decide +kernel⟩
noncomputable def mb_need_unlike : MS := (sSeq (sIf (eNot (eCall m_is_list (aCons (eVar 0) (aCons (eVar 1) aNil)))) (sRaise "BadNames" ["found"] (aCons (eVar 0) aNil)) sNx) (sSeq (sAsg 2 eSet0) (sFor (tgN 3) (wSeq (eVar 0)) (sSeq (sIf (eNot (eCall m_is_name (aCons (eVar 3) aNil))) (sRaise "BadName" ["found"] (aCons (eVar 3) aNil)) sNx) (sSeq (sIf (op2 (inSX false) (eVar 3) (eVar 2)) (sRaise "Doubled" ["found"] (aCons (eVar 3) aNil)) sNx) (sDrop (eSAdd (eVar 2) (eVar 3))))))))
noncomputable def m_need_unlike : MF := mDef 4 mb_need_unlike
theorem ok_need_unlike {f : Addr} {fd : FuncData} (F : Fun K "need_unlike" "need_unlike" st_need_unlike f fd) (T : Tx K mg) (hN : ∃ mm, base.Ns sysModules mm) (o_is_list : OwnG P w K mg base 1 "is_list" 2 m_is_list) (o_is_name : OwnG P w K mg base 1 "is_name" 1 m_is_name) (x_BadName : ExF P w K mg base "BadName" ["found"]) (x_BadNames : ExF P w K mg base "BadNames" ["found"]) (x_Doubled : ExF P w K mg base "Doubled" ["found"]) : FnG P w K mg base 3 f fd ["names", "most"] (spM ⟨P, w, K, mg⟩ m_need_unlike 2) := by
  refine fnMG F sc_need_unlike mb_need_unlike fun cdv A outer s H E hG hr => ?_
  exact (sms_cons (sm_if (xt_not (xt_val (xp_ownG o_is_list hG (hr.mono (by decide)) (takes_of rfl rfl rfl rfl) (xa_cons (xp_var (i := 0) rfl (.inl rfl)) (xa_cons (xp_var (i := 1) rfl (.inl rfl)) xa_nil)) rfl (len_cons (len_cons len_nil))))) (sms_one (sm_raise rfl x_BadNames (hr.mono (by decide)) (takes_of rfl rfl rfl rfl) (xa_cons (xp_var (i := 0) rfl (.inl rfl)) xa_nil) rfl (by decide))) sms_nil)
    (sms_cons (sm_set (i := 2) sc_need_unlike.nd rfl (.inl rfl) (xp_set0 rfl T.b_set))
    (sms_one (sm_for rfl (passes_of rfl) (wk_seq (xp_var (i := 0) rfl (.inl rfl))) (tgt_name (i := 3) (own := [3]) sc_need_unlike.nd rfl (.inl rfl)) (sms_cons (sm_if (xt_not (xt_val (xp_ownG o_is_name hG (hr.mono (by decide)) (takes_of rfl rfl rfl rfl) (xa_cons (xp_var (i := 3) rfl (.inl rfl)) xa_nil) rfl (len_cons len_nil)))) (sms_one (sm_raise rfl x_BadName (hr.mono (by decide)) (takes_of rfl rfl rfl rfl) (xa_cons (xp_var (i := 3) rfl (.inl rfl)) xa_nil) rfl (by decide))) sms_nil)
    (sms_cons (sm_if (xt_inS (xp_var (i := 3) rfl (.inl rfl)) (xp_var (i := 2) rfl (.inl rfl)) rfl) (sms_one (sm_raise rfl x_Doubled (hr.mono (by decide)) (takes_of rfl rfl rfl rfl) (xa_cons (xp_var (i := 3) rfl (.inl rfl)) xa_nil) rfl (by decide))) sms_nil)
    (sms_one (sm_expr (xp_sadd (xp_var (i := 2) rfl (.inl rfl)) (xp_var (i := 3) rfl (.inl rfl)))))))))))
abbrev st_Book___init__ : Stmt := meth (top 65) 0
theorem sc_Book___init__ : FnScope ["self", "rule", "names"] ["self", "rule", "names"] (defScope st_Book___init__) := ⟨rfl, rfl, rfl, by decide +kernel, rfl, by decide +kernel, by decide +kernel⟩
noncomputable def mb_Book___init__ : MS := (sSeq (sDrop (eCall m_need_rule (aCons (eVar 1) aNil))) (sSeq (sDrop (eCall m_need_unlike (aCons (eVar 2) (aCons (eC (.int 200)) aNil)))) (sSeq (sFst "Book" "book_rule" (eVar 0) (eVar 1)) (sFst "Book" "book_names" (eVar 0) (eListOf true (eVar 2))))))
noncomputable def m_Book___init__ : MF := mDef 3 mb_Book___init__
theorem ok_Book___init__ {f : Addr} {fd : FuncData} (F : FunX K "__init__" "Book.__init__" st_Book___init__ f fd) (T : Tx K mg) (hN : ∃ mm, base.Ns sysModules mm) (o_need_rule : OwnG P w K mg base 3 "need_rule" 1 m_need_rule) (o_need_unlike : OwnG P w K mg base 3 "need_unlike" 2 m_need_unlike) (f_Book_book_names : FldOk K mg "Book" "book_names") (f_Book_book_rule : FldOk K mg "Book" "book_rule") : FnG P w K mg base 4 f fd ["self", "rule", "names"] (spM ⟨P, w, K, mg⟩ m_Book___init__ 3) := by
  refine fnMGX F sc_Book___init__ mb_Book___init__ fun cdv A outer s H E hG hr => ?_
  obtain ⟨tk_MOST_NAMES, g_MOST_NAMES⟩ := T.c_MOST_NAMES
  exact (sms_cons (sm_expr (xp_ownG o_need_rule hG (hr.mono (by decide)) (takes_of rfl rfl rfl rfl) (xa_cons (xp_var (i := 1) rfl (.inl rfl)) xa_nil) rfl (len_cons len_nil)))
    (sms_cons (sm_expr (xp_ownG o_need_unlike hG (hr.mono (by decide)) (takes_of rfl rfl rfl rfl) (xa_cons (xp_var (i := 2) rfl (.inl rfl)) (xa_cons (xp_globI rfl g_MOST_NAMES) xa_nil)) rfl (len_cons (len_cons len_nil))))
    (sms_cons (sm_fst f_Book_book_rule (xp_var (i := 0) rfl (.inl rfl)) (xp_var (i := 1) rfl (.inl rfl)))
    (sms_one (sm_fst f_Book_book_names (xp_var (i := 0) rfl (.inl rfl)) (xp_listOf true rfl T.b_list (xp_var (i := 2) rfl (.inl rfl))))))))
abbrev st_Desk___init__ : Stmt := meth (top 85) 0
theorem sc_Desk___init__ : FnScope ["self", "rule", "names"] ["self", "rule", "names"] (defScope st_Desk___init__) := ⟨rfl, rfl, rfl, by decide +kernel, rfl, by decide +kernel, by decide +kernel⟩
noncomputable def mb_Desk___init__ : MS := (sSeq (sFst "Desk" "desk_book" (eVar 0) (eMake "Book" m_Book___init__ (aCons (eVar 1) (aCons (eVar 2) aNil)))) (sSeq (sFst "Desk" "elder_names" (eVar 0) (eList false aNil)) (sFst "Desk" "deeds_done" (eVar 0) (eList false aNil))))
noncomputable def m_Desk___init__ : MF := mDef 3 mb_Desk___init__
theorem ok_Desk___init__ {f : Addr} {fd : FuncData} (F : FunX K "__init__" "Desk.__init__" st_Desk___init__ f fd) (T : Tx K mg) (hN : ∃ mm, base.Ns sysModules mm) (i_Book : OwnI P w K mg base 4 "Book" 2 m_Book___init__) (f_Desk_deeds_done : FldOk K mg "Desk" "deeds_done") (f_Desk_desk_book : FldOk K mg "Desk" "desk_book") (f_Desk_elder_names : FldOk K mg "Desk" "elder_names") : FnG P w K mg base 6 f fd ["self", "rule", "names"] (spM ⟨P, w, K, mg⟩ m_Desk___init__ 3) := by
  refine fnMGX F sc_Desk___init__ mb_Desk___init__ fun cdv A outer s H E hG hr => ?_
  exact (sms_cons (sm_fst f_Desk_desk_book (xp_var (i := 0) rfl (.inl rfl)) (xp_make i_Book hG (hr.mono (by decide)) (takes_of rfl rfl rfl rfl) (xa_cons (xp_var (i := 1) rfl (.inl rfl)) (xa_cons (xp_var (i := 2) rfl (.inl rfl)) xa_nil)) rfl (len_cons (len_cons len_nil))))
    (sms_cons (sm_fst f_Desk_elder_names (xp_var (i := 0) rfl (.inl rfl)) (xp_list false xa_nil))
    (sms_one (sm_fst f_Desk_deeds_done (xp_var (i := 0) rfl (.inl rfl)) (xp_list false xa_nil)))))
abbrev st__law_asked : Stmt := top 94
theorem sc__law_asked : FnScope ["rule", "names", "e"] ["rule", "names"] (defScope st__law_asked) := ⟨rfl, rfl, rfl, by decide +kernel, rfl, by decide +kernel, by decide +kernel⟩
noncomputable def mb__law_asked : MS := (sSeq (sTry (isaT isa) (sDrop (eMake "Desk" m_Desk___init__ (aCons (eVar 0) (aCons (eVar 1) aNil)))) (("BadRule", some 2, fun fs env cs => ((he2 (fun _ cs => .ok (.str [114, 117, 108, 101]) cs) (fldD "found")) fs cs).toS env fun d c => .rt d c) :: (("BadNames", some 2, fun fs env cs => ((he2 (fun _ cs => .ok (.str [110, 97, 109, 101, 115]) cs) (fldD "found")) fs cs).toS env fun d c => .rt d c) :: (("BadName", some 2, fun fs env cs => ((he2 (fun _ cs => .ok (.str [110, 97, 109, 101]) cs) (fldD "found")) fs cs).toS env fun d c => .rt d c) :: (("Doubled", some 2, fun fs env cs => ((he2 (fun _ cs => .ok (.str [100, 111, 117, 98, 108, 101, 100]) cs) (fldD "found")) fs cs).toS env fun d c => .rt d c) :: (("TailError", none, fun _ => (sRet (eList false (aCons (eC (.str [111, 116, 104, 101, 114])) (aCons (eC .non) aNil))))) :: [])))))) (sRet (eList false (aCons (eC (.str [110, 111, 110, 101])) (aCons (eC .non) aNil)))))
noncomputable def m__law_asked : MF := mDef 3 mb__law_asked
theorem ok__law_asked {f : Addr} {fd : FuncData} (F : Fun K "_law_asked" "_law_asked" st__law_asked f fd) (T : Tx K mg) (hN : ∃ mm, base.Ns sysModules mm) (i_Desk : OwnI P w K mg base 6 "Desk" 2 m_Desk___init__) (x_BadName : ExF P w K mg base "BadName" ["found"]) (x_BadNames : ExF P w K mg base "BadNames" ["found"]) (x_BadRule : ExF P w K mg base "BadRule" ["found"]) (x_Doubled : ExF P w K mg base "Doubled" ["found"]) (p_TailError : ∃ C, mg "TailError" = some (.ref C)) (ia : IsaOk K mg (isaT isa)) : FnG P w K mg base 8 f fd ["rule", "names"] (spM ⟨P, w, K, mg⟩ m__law_asked 2) := by
  refine fnMG F sc__law_asked mb__law_asked fun cdv A outer s H E hG hr => ?_
  obtain ⟨C_BadName, _, _, _, _, _, _, _, _, hm_BadName, xf_BadName, hn_BadName⟩ := id x_BadName
  obtain ⟨C_BadNames, _, _, _, _, _, _, _, _, hm_BadNames, xf_BadNames, hn_BadNames⟩ := id x_BadNames
  obtain ⟨C_BadRule, _, _, _, _, _, _, _, _, hm_BadRule, xf_BadRule, hn_BadRule⟩ := id x_BadRule
  obtain ⟨C_Doubled, _, _, _, _, _, _, _, _, hm_Doubled, xf_Doubled, hn_Doubled⟩ := id x_Doubled
  obtain ⟨_, hm_TailError⟩ := p_TailError
  exact (sms_cons (sm_try ia rfl rfl sc__law_asked.nd (takes_of rfl rfl rfl rfl) (fun W pn xe tk po => (sms_one (sm_expr (xp_make i_Desk hG (hr.mono (by decide)) tk (xa_cons (xp_var (i := 0) rfl (.inl rfl)) (xa_cons (xp_var (i := 1) rfl (.inl rfl)) xa_nil)) rfl (len_cons (len_cons len_nil)))))) (.named rfl (by decide) hm_BadRule rfl rfl (he_list2 (he_str (l := [114, 117, 108, 101]) (by decide +kernel)) (he_fld xf_BadRule (hn_BadRule _ (by decide)) rfl (.inl rfl))) (.named rfl (by decide) hm_BadNames rfl rfl (he_list2 (he_str (l := [110, 97, 109, 101, 115]) (by decide +kernel)) (he_fld xf_BadNames (hn_BadNames _ (by decide)) rfl (.inl rfl))) (.named rfl (by decide) hm_BadName rfl rfl (he_list2 (he_str (l := [110, 97, 109, 101]) (by decide +kernel)) (he_fld xf_BadName (hn_BadName _ (by decide)) rfl (.inl rfl))) (.named rfl (by decide) hm_Doubled rfl rfl (he_list2 (he_str (l := [100, 111, 117, 98, 108, 101, 100]) (by decide +kernel)) (he_fld xf_Doubled (hn_Doubled _ (by decide)) rfl (.inl rfl))) (.plain rfl (by decide) hm_TailError (fun a oe pn => (sms_one (sm_ret (xp_list false (xa_cons (xp_str (l := [111, 116, 104, 101, 114]) (by decide +kernel)) (xa_cons xp_non xa_nil)))))) .nil))))))
    (sms_one (sm_ret (xp_list false (xa_cons (xp_str (l := [110, 111, 110, 101]) (by decide +kernel)) (xa_cons xp_non xa_nil))))))
abbrev st__law_take : Stmt := top 89
theorem sc__law_take : FnScope ["box", "many", "digit", "one", "two"] ["box", "many"] (defScope st__law_take) := ⟨rfl, rfl, rfl, by decide +kernel, rfl, by decide +kernel, by decide +kernel⟩
noncomputable def mb__law_take : MS := (sSeq (sIf (op2 gtD (op2 ixD (eVar 0) (eC (.int 0))) (eC (.int 0))) (sSeq (sAsg 2 (op2 modD (op2 ixD (eVar 0) (eC (.int 0))) (eVar 1))) (sSeq (sPut (eVar 0) (eC (.int 0)) (op2 fdivD (op2 ixD (eVar 0) (eC (.int 0))) (eVar 1))) (sRet (eVar 2)))) sNx) (sSeq (sPut (eVar 0) (eC (.int 2)) (op2 (addD false) (op2 ixD (eVar 0) (eC (.int 2))) (eC (.int 1)))) (sSeq (sAsg 3 (op2 modD (op2 powD (op2 (addD false) (op2 (addD false) (op2 ixD (eVar 0) (eC (.int 1))) (op2 (mulD false) (eC (.int 7919)) (op2 ixD (eVar 0) (eC (.int 2))))) (eC (.int 147))) (eC (.int 5))) (eC (.int 2147483647)))) (sSeq (sAsg 4 (op2 modD (op2 powD (op2 (addD false) (op2 (addD false) (op2 fdivD (eVar 3) (eC (.int 8))) (op2 (mulD false) (op2 (mulD false) (eC (.int 104729)) (op2 ixD (eVar 0) (eC (.int 2)))) (op2 ixD (eVar 0) (eC (.int 2))))) (eC (.int 11))) (eC (.int 3))) (eC (.int 2147483587)))) (sRet (op2 modD (op2 (addD false) (op2 fdivD (eVar 3) (eC (.int 4))) (op2 (mulD false) (eC (.int 536870909)) (op2 fdivD (eVar 4) (eC (.int 4))))) (eVar 1)))))))
noncomputable def m__law_take : MF := mDef 5 mb__law_take
theorem ok__law_take {f : Addr} {fd : FuncData} (F : Fun K "_law_take" "_law_take" st__law_take f fd) (T : Tx K mg) (hN : ∃ mm, base.Ns sysModules mm) : FnG P w K mg base 1 f fd ["box", "many"] (spM ⟨P, w, K, mg⟩ m__law_take 2) := by
  refine fnMG F sc__law_take mb__law_take fun cdv A outer s H E hG hr => ?_
  exact (sms_cons (sm_if (xt_gt (xp_ix (xp_var (i := 0) rfl (.inl rfl)) xp_int (fun _ _ => rfl)) xp_int) (sms_cons (sm_set (i := 2) sc__law_take.nd rfl (.inl rfl) (xp_mod (xp_ix (xp_var (i := 0) rfl (.inl rfl)) xp_int (fun _ _ => rfl)) (xp_var (i := 1) rfl (.inl rfl))))
    (sms_cons (sm_put (xp_var (i := 0) rfl (.inl rfl)) xp_int (xp_fdiv (xp_ix (xp_var (i := 0) rfl (.inl rfl)) xp_int (fun _ _ => rfl)) (xp_var (i := 1) rfl (.inl rfl))))
    (sms_one (sm_ret (xp_var (i := 2) rfl (.inl rfl)))))) sms_nil)
    (sms_cons (sm_put (xp_var (i := 0) rfl (.inl rfl)) xp_int (xp_add false (xp_ix (xp_var (i := 0) rfl (.inl rfl)) xp_int (fun _ _ => rfl)) xp_int))
    (sms_cons (sm_set (i := 3) sc__law_take.nd rfl (.inl rfl) (xp_mod (xp_pow (xp_add false (xp_add false (xp_ix (xp_var (i := 0) rfl (.inl rfl)) xp_int (fun _ _ => rfl)) (xp_mul false xp_int (xp_ix (xp_var (i := 0) rfl (.inl rfl)) xp_int (fun _ _ => rfl)))) xp_int) xp_int) xp_int))
    (sms_cons (sm_set (i := 4) sc__law_take.nd rfl (.inl rfl) (xp_mod (xp_pow (xp_add false (xp_add false (xp_fdiv (xp_var (i := 3) rfl (.inl rfl)) xp_int) (xp_mul false (xp_mul false xp_int (xp_ix (xp_var (i := 0) rfl (.inl rfl)) xp_int (fun _ _ => rfl))) (xp_ix (xp_var (i := 0) rfl (.inl rfl)) xp_int (fun _ _ => rfl)))) xp_int) xp_int) xp_int))
    (sms_one (sm_ret (xp_mod (xp_add false (xp_fdiv (xp_var (i := 3) rfl (.inl rfl)) xp_int) (xp_mul false xp_int (xp_fdiv (xp_var (i := 4) rfl (.inl rfl)) xp_int))) (xp_var (i := 1) rfl (.inl rfl)))))))))
abbrev st__law_cell : Stmt := top 87
theorem sc__law_cell : FnScope ["script", "k"] ["script", "k"] (defScope st__law_cell) := ⟨rfl, rfl, rfl, by decide +kernel, rfl, by decide +kernel, by decide +kernel⟩
noncomputable def mb__law_cell : MS := (sSeq (sIf (op2 ltD (eVar 1) (eBi lenB (aCons (eVar 0) aNil))) (sRet (op2 ixD (eVar 0) (eVar 1))) sNx) (sRet (op2 (addD false) (op2 (mulD false) (eC (.int 67867967)) (eVar 1)) (eC (.int 147)))))
noncomputable def m__law_cell : MF := mDef 2 mb__law_cell
theorem ok__law_cell {f : Addr} {fd : FuncData} (F : Fun K "_law_cell" "_law_cell" st__law_cell f fd) (T : Tx K mg) (hN : ∃ mm, base.Ns sysModules mm) : FnG P w K mg base 1 f fd ["script", "k"] (spM ⟨P, w, K, mg⟩ m__law_cell 2) := by
  refine fnMG F sc__law_cell mb__law_cell fun cdv A outer s H E hG hr => ?_
  exact (sms_cons (sm_if (xt_lt (xp_var (i := 1) rfl (.inl rfl)) (xp_bi call_len cb_len rfl T.b_len bo_len (xa_cons (xp_var (i := 0) rfl (.inl rfl)) xa_nil))) (sms_one (sm_ret (xp_ix (xp_var (i := 0) rfl (.inl rfl)) (xp_var (i := 1) rfl (.inl rfl)) (fun _ _ => rfl)))) sms_nil)
    (sms_one (sm_ret (xp_add false (xp_mul false xp_int (xp_var (i := 1) rfl (.inl rfl))) xp_int))))
abbrev st_is_mark : Stmt := top 33
theorem sc_is_mark : FnScope ["value", "sign"] ["value"] (defScope st_is_mark) := ⟨rfl, rfl, rfl, by decide +kernel, rfl, by decide +kernel, by decide +kernel⟩
noncomputable def mb_is_mark : MS := (sSeq (sIf (eOr (eNot (op1 (isiD "str") (eVar 0))) (op2 gtD (eBi lenB (aCons (eVar 0) aNil)) (eC (.int 12)))) (sRet (eC (.bl false))) sNx) (sSeq (sIf (eOr (op2 neD (eM1 cntD (eVar 0) (eC (.str [42]))) (eC (.int 1))) (op2 neD (eM1 cntD (eVar 0) (eC (.str [35]))) (eC (.int 1)))) (sRet (eC (.bl false))) sNx) (sRet (eBi allB (aCons (eLc false [1] (tgN 1) (wSeq (eVar 0)) (eC (.bl true)) (eOr (op2 inD (eVar 1) (eC (.str [97, 98, 99, 100, 101, 102, 103, 104, 105, 106, 107, 108, 109, 110, 111, 112, 113, 114, 115, 116, 117, 118, 119, 120, 121, 122, 48, 49, 50, 51, 52, 53, 54, 55, 56, 57, 45, 95, 46, 40, 41]))) (op2 inD (eVar 1) (eTup (aCons (eC (.str [42])) (aCons (eC (.str [35])) aNil)))))) aNil)))))
noncomputable def m_is_mark : MF := mDef 2 mb_is_mark
theorem ok_is_mark {f : Addr} {fd : FuncData} (F : Fun K "is_mark" "is_mark" st_is_mark f fd) (T : Tx K mg) (hN : ∃ mm, base.Ns sysModules mm) : FnG P w K mg base 1 f fd ["value"] (spM ⟨P, w, K, mg⟩ m_is_mark 1) := by
  refine fnMG F sc_is_mark mb_is_mark fun cdv A outer s H E hG hr => ?_
  obtain ⟨tk_HASH, g_HASH⟩ := T.c_HASH
  obtain ⟨tk_LONGEST_MARK, g_LONGEST_MARK⟩ := T.c_LONGEST_MARK
  obtain ⟨tk_SIGNS, g_SIGNS⟩ := T.c_SIGNS
  obtain ⟨tk_STAR, g_STAR⟩ := T.c_STAR
  exact (sms_cons (sm_if (Xw.t (xw_or (xt_not (xt_val (xp_isi rfl T.b_isinstance rfl T.b_str bo_str (xp_var (i := 0) rfl (.inl rfl))))) (xw_or1 (xt_gt (xp_bi call_len cb_len rfl T.b_len bo_len (xa_cons (xp_var (i := 0) rfl (.inl rfl)) xa_nil)) (xp_globI rfl g_LONGEST_MARK))))) (sms_one (sm_ret xp_bl)) sms_nil)
    (sms_cons (sm_if (Xw.t (xw_or (xt_ne hr.units (xp_cnt (xp_var (i := 0) rfl (.inl rfl)) (xp_globS (l := [42]) rfl g_STAR (by decide +kernel))) xp_int) (xw_or1 (xt_ne hr.units (xp_cnt (xp_var (i := 0) rfl (.inl rfl)) (xp_globS (l := [35]) rfl g_HASH (by decide +kernel))) xp_int)))) (sms_one (sm_ret xp_bl)) sms_nil)
    (sms_one (sm_ret (xp_bi (cr_all rfl) cb_all rfl T.b_all bo_all (xa_cons (xp_lc false rfl sc_is_mark.nd (wk_seq (xp_var (i := 0) rfl (.inl rfl))) (own := [("sign", 1)]) (blk_ok (N := ["value", "sign"]) (sc := defScope st_is_mark) (by decide +kernel)) ⟨fun s H C cl fp => (tgt_name (i := 1) (own := [1]) sc_is_mark.nd rfl (.inl rfl)), fun s H C cl fp => xts_nil, fun s H C cl fp => (xp_or (p2 := ⟨0, 0, 0, 0⟩) (xp_in (xp_var (i := 1) rfl (.inl rfl)) (xp_globS (l := [97, 98, 99, 100, 101, 102, 103, 104, 105, 106, 107, 108, 109, 110, 111, 112, 113, 114, 115, 116, 117, 118, 119, 120, 121, 122, 48, 49, 50, 51, 52, 53, 54, 55, 56, 57, 45, 95, 46, 40, 41]) rfl g_SIGNS (by decide +kernel)) rfl) (xp_one (xp_in (xp_var (i := 1) rfl (.inl rfl)) (xp_tup (xa_cons (xp_globS (l := [42]) rfl g_STAR (by decide +kernel)) (xa_cons (xp_globS (l := [35]) rfl g_HASH (by decide +kernel)) xa_nil))) rfl)))⟩) xa_nil))))))
abbrev st_need_mark : Stmt := top 34
theorem sc_need_mark : FnScope ["mark"] ["mark"] (defScope st_need_mark) := ⟨rfl, rfl, rfl, by decide +kernel, rfl, by decide +kernel, by decide +kernel⟩
noncomputable def mb_need_mark : MS := (sIf (eNot (eCall m_is_mark (aCons (eVar 0) aNil))) (sRaise "BadMark" ["found"] (aCons (eVar 0) aNil)) sNx)
noncomputable def m_need_mark : MF := mDef 1 mb_need_mark
theorem ok_need_mark {f : Addr} {fd : FuncData} (F : Fun K "need_mark" "need_mark" st_need_mark f fd) (T : Tx K mg) (hN : ∃ mm, base.Ns sysModules mm) (o_is_mark : OwnG P w K mg base 1 "is_mark" 1 m_is_mark) (x_BadMark : ExF P w K mg base "BadMark" ["found"]) : FnG P w K mg base 3 f fd ["mark"] (spM ⟨P, w, K, mg⟩ m_need_mark 1) := by
  refine fnMG F sc_need_mark mb_need_mark fun cdv A outer s H E hG hr => ?_
  exact (sms_one (sm_if (xt_not (xt_val (xp_ownG o_is_mark hG (hr.mono (by decide)) (takes_of rfl rfl rfl rfl) (xa_cons (xp_var (i := 0) rfl (.inl rfl)) xa_nil) rfl (len_cons len_nil)))) (sms_one (sm_raise rfl x_BadMark (hr.mono (by decide)) (takes_of rfl rfl rfl rfl) (xa_cons (xp_var (i := 0) rfl (.inl rfl)) xa_nil) rfl (by decide))) sms_nil))
abbrev st_parts : Stmt := top 38
theorem sc_parts : FnScope ["mark", "one", "other"] ["mark"] (defScope st_parts) := ⟨rfl, rfl, rfl, by decide +kernel, rfl, by decide +kernel, by decide +kernel⟩
noncomputable def mb_parts : MS := (sSeq (sAsg 1 (eBi minB (aCons (eM1 sixD (eVar 0) (eC (.str [42]))) (aCons (eM1 sixD (eVar 0) (eC (.str [35]))) aNil)))) (sSeq (sAsg 2 (eBi maxB (aCons (eM1 sixD (eVar 0) (eC (.str [42]))) (aCons (eM1 sixD (eVar 0) (eC (.str [35]))) aNil)))) (sRet (eTup (aCons (eSl false (eVar 0) oNone (oSome (eVar 1))) (aCons (eSl false (eVar 0) (oSome (op2 (addD false) (eVar 1) (eC (.int 1)))) (oSome (eVar 2))) (aCons (eSl false (eVar 0) (oSome (op2 (addD false) (eVar 2) (eC (.int 1)))) oNone) aNil)))))))
noncomputable def m_parts : MF := mDef 3 mb_parts
theorem ok_parts {f : Addr} {fd : FuncData} (F : Fun K "parts" "parts" st_parts f fd) (T : Tx K mg) (hN : ∃ mm, base.Ns sysModules mm) : FnG P w K mg base 1 f fd ["mark"] (spM ⟨P, w, K, mg⟩ m_parts 1) := by
  refine fnMG F sc_parts mb_parts fun cdv A outer s H E hG hr => ?_
  obtain ⟨tk_HASH, g_HASH⟩ := T.c_HASH
  obtain ⟨tk_STAR, g_STAR⟩ := T.c_STAR
  exact (sms_cons (sm_set (i := 1) sc_parts.nd rfl (.inl rfl) (xp_bi (call_min2 rfl) cb_min rfl T.b_min bo_min (xa_cons (xp_six (xp_var (i := 0) rfl (.inl rfl)) (xp_globS (l := [42]) rfl g_STAR (by decide +kernel))) (xa_cons (xp_six (xp_var (i := 0) rfl (.inl rfl)) (xp_globS (l := [35]) rfl g_HASH (by decide +kernel))) xa_nil))))
    (sms_cons (sm_set (i := 2) sc_parts.nd rfl (.inl rfl) (xp_bi (call_max2 rfl) cb_max rfl T.b_max bo_max (xa_cons (xp_six (xp_var (i := 0) rfl (.inl rfl)) (xp_globS (l := [42]) rfl g_STAR (by decide +kernel))) (xa_cons (xp_six (xp_var (i := 0) rfl (.inl rfl)) (xp_globS (l := [35]) rfl g_HASH (by decide +kernel))) xa_nil))))
    (sms_one (sm_ret (xp_tup (xa_cons (xp_sl false (xp_var (i := 0) rfl (.inl rfl)) xo_none (xo_some (xp_var (i := 1) rfl (.inl rfl)))) (xa_cons (xp_sl false (xp_var (i := 0) rfl (.inl rfl)) (xo_some (xp_add false (xp_var (i := 1) rfl (.inl rfl)) xp_int)) (xo_some (xp_var (i := 2) rfl (.inl rfl)))) (xa_cons (xp_sl false (xp_var (i := 0) rfl (.inl rfl)) (xo_some (xp_add false (xp_var (i := 2) rfl (.inl rfl)) xp_int)) xo_none) xa_nil))))))))
abbrev st_is_clear : Stmt := top 40
theorem sc_is_clear : FnScope ["mark", "sign"] ["mark"] (defScope st_is_clear) := ⟨rfl, rfl, rfl, by decide +kernel, rfl, by decide +kernel, by decide +kernel⟩
noncomputable def mb_is_clear : MS := (sSeq (sDrop (eCall m_need_mark (aCons (eVar 0) aNil))) (sRet (eNot (eBi allB (aCons (eLc false [1] (tgN 1) (wSeq (op2 ixD (eCall m_parts (aCons (eVar 0) aNil)) (eC (.int 1)))) (eC (.bl true)) (op2 inD (eVar 1) (eC (.str [48, 49, 50, 51, 52, 53, 54, 55, 56, 57])))) aNil)))))
noncomputable def m_is_clear : MF := mDef 2 mb_is_clear
theorem ok_is_clear {f : Addr} {fd : FuncData} (F : Fun K "is_clear" "is_clear" st_is_clear f fd) (T : Tx K mg) (hN : ∃ mm, base.Ns sysModules mm) (o_need_mark : OwnG P w K mg base 3 "need_mark" 1 m_need_mark) (o_parts : OwnG P w K mg base 1 "parts" 1 m_parts) : FnG P w K mg base 4 f fd ["mark"] (spM ⟨P, w, K, mg⟩ m_is_clear 1) := by
  refine fnMG F sc_is_clear mb_is_clear fun cdv A outer s H E hG hr => ?_
  obtain ⟨tk_FIGURES, g_FIGURES⟩ := T.c_FIGURES
  exact (sms_cons (sm_expr (xp_ownG o_need_mark hG (hr.mono (by decide)) (takes_of rfl rfl rfl rfl) (xa_cons (xp_var (i := 0) rfl (.inl rfl)) xa_nil) rfl (len_cons len_nil)))
    (sms_one (sm_ret (xp_not (xp_bi (cr_all rfl) cb_all rfl T.b_all bo_all (xa_cons (xp_lc false rfl sc_is_clear.nd (wk_seq (xp_ix (xp_ownG o_parts hG (hr.mono (by decide)) (takes_of rfl rfl rfl rfl) (xa_cons (xp_var (i := 0) rfl (.inl rfl)) xa_nil) rfl (len_cons len_nil)) xp_int (fun _ _ => rfl))) (own := [("sign", 1)]) (blk_ok (N := ["mark", "sign"]) (sc := defScope st_is_clear) (by decide +kernel)) ⟨fun s H C cl fp => (tgt_name (i := 1) (own := [1]) sc_is_clear.nd rfl (.inl rfl)), fun s H C cl fp => xts_nil, fun s H C cl fp => (xp_in (xp_var (i := 1) rfl (.inl rfl)) (xp_globS (l := [48, 49, 50, 51, 52, 53, 54, 55, 56, 57]) rfl g_FIGURES (by decide +kernel)) rfl)⟩) xa_nil))))))
abbrev st_name_first : Stmt := top 37
theorem sc_name_first : FnScope ["mark"] ["mark"] (defScope st_name_first) := ⟨rfl, rfl, rfl, by decide +kernel, rfl, by decide +kernel, by decide +kernel⟩
noncomputable def mb_name_first : MS := (sRet (op2 ltD (eM1 sixD (eVar 0) (eC (.str [42]))) (eM1 sixD (eVar 0) (eC (.str [35])))))
noncomputable def m_name_first : MF := mDef 1 mb_name_first
theorem ok_name_first {f : Addr} {fd : FuncData} (F : Fun K "name_first" "name_first" st_name_first f fd) (T : Tx K mg) (hN : ∃ mm, base.Ns sysModules mm) : FnG P w K mg base 1 f fd ["mark"] (spM ⟨P, w, K, mg⟩ m_name_first 1) := by
  refine fnMG F sc_name_first mb_name_first fun cdv A outer s H E hG hr => ?_
  obtain ⟨tk_HASH, g_HASH⟩ := T.c_HASH
  obtain ⟨tk_STAR, g_STAR⟩ := T.c_STAR
  exact (sms_one (sm_ret (xp_lt (xp_six (xp_var (i := 0) rfl (.inl rfl)) (xp_globS (l := [42]) rfl g_STAR (by decide +kernel))) (xp_six (xp_var (i := 0) rfl (.inl rfl)) (xp_globS (l := [35]) rfl g_HASH (by decide +kernel))))))
abbrev st_two_readings : Stmt := top 41
theorem sc_two_readings : FnScope ["mark", "between", "other"] ["mark"] (defScope st_two_readings) := ⟨rfl, rfl, rfl, by decide +kernel, rfl, by decide +kernel, by decide +kernel⟩
noncomputable def mb_two_readings : MS := (sSeq (sIf (eCall m_is_clear (aCons (eVar 0) aNil)) (sRet (eC .non)) sNx) (sSeq (sAsg 1 (op2 ixD (eCall m_parts (aCons (eVar 0) aNil)) (eC (.int 1)))) (sSeq (sAsg 2 (eIf (eCall m_name_first (aCons (eVar 0) aNil)) (op2 (addD false) (op2 (addD false) (eC (.str [97])) (eVar 1)) (eC (.str [50]))) (op2 (addD false) (op2 (addD false) (eC (.str [50])) (eVar 1)) (eC (.str [97]))))) (sRet (eTup (aCons (eTup (aCons (eC (.str [97])) (aCons (eBi intB (aCons (op2 (addD false) (op2 (addD false) (eC (.str [50])) (eVar 1)) (eC (.str [50]))) aNil)) aNil))) (aCons (eTup (aCons (eVar 2) (aCons (eC (.int 2)) aNil))) aNil)))))))
noncomputable def m_two_readings : MF := mDef 3 mb_two_readings
theorem ok_two_readings {f : Addr} {fd : FuncData} (F : Fun K "two_readings" "two_readings" st_two_readings f fd) (T : Tx K mg) (hN : ∃ mm, base.Ns sysModules mm) (o_is_clear : OwnG P w K mg base 4 "is_clear" 1 m_is_clear) (o_parts : OwnG P w K mg base 1 "parts" 1 m_parts) (o_name_first : OwnG P w K mg base 1 "name_first" 1 m_name_first) : FnG P w K mg base 5 f fd ["mark"] (spM ⟨P, w, K, mg⟩ m_two_readings 1) := by
  refine fnMG F sc_two_readings mb_two_readings fun cdv A outer s H E hG hr => ?_
  exact (sms_cons (sm_if (xt_val (xp_ownG o_is_clear hG (hr.mono (by decide)) (takes_of rfl rfl rfl rfl) (xa_cons (xp_var (i := 0) rfl (.inl rfl)) xa_nil) rfl (len_cons len_nil))) (sms_one (sm_ret xp_non)) sms_nil)
    (sms_cons (sm_set (i := 1) sc_two_readings.nd rfl (.inl rfl) (xp_ix (xp_ownG o_parts hG (hr.mono (by decide)) (takes_of rfl rfl rfl rfl) (xa_cons (xp_var (i := 0) rfl (.inl rfl)) xa_nil) rfl (len_cons len_nil)) xp_int (fun _ _ => rfl)))
    (sms_cons (sm_set (i := 2) sc_two_readings.nd rfl (.inl rfl) (xp_if (xt_val (xp_ownG o_name_first hG (hr.mono (by decide)) (takes_of rfl rfl rfl rfl) (xa_cons (xp_var (i := 0) rfl (.inl rfl)) xa_nil) rfl (len_cons len_nil))) (xp_add false (xp_add false (xp_str (l := [97]) (by decide +kernel)) (xp_var (i := 1) rfl (.inl rfl))) (xp_str (l := [50]) (by decide +kernel))) (xp_add false (xp_add false (xp_str (l := [50]) (by decide +kernel)) (xp_var (i := 1) rfl (.inl rfl))) (xp_str (l := [97]) (by decide +kernel)))))
    (sms_one (sm_ret (xp_tup (xa_cons (xp_tup (xa_cons (xp_str (l := [97]) (by decide +kernel)) (xa_cons (xp_ty call_int_str cb_int rfl T.b_int bo_int (xa_cons (xp_add false (xp_add false (xp_str (l := [50]) (by decide +kernel)) (xp_var (i := 1) rfl (.inl rfl))) (xp_str (l := [50]) (by decide +kernel))) xa_nil)) xa_nil))) (xa_cons (xp_tup (xa_cons (xp_var (i := 2) rfl (.inl rfl)) (xa_cons xp_int xa_nil))) xa_nil))))))))
abbrev st_need_clear : Stmt := top 42
theorem sc_need_clear : FnScope ["mark", "found"] ["mark"] (defScope st_need_clear) := ⟨rfl, rfl, rfl, by decide +kernel, rfl, by decide +kernel, by decide +kernel⟩
noncomputable def mb_need_clear : MS := (sSeq (sAsg 1 (eCall m_two_readings (aCons (eVar 0) aNil))) (sIf (op1 (isNB none) (eVar 1)) (sRaise "Blurred" ["one", "other"] (aCons (op2 ixD (eVar 1) (eC (.int 0))) (aCons (op2 ixD (eVar 1) (eC (.int 1))) aNil))) sNx))
noncomputable def m_need_clear : MF := mDef 2 mb_need_clear
theorem ok_need_clear {f : Addr} {fd : FuncData} (F : Fun K "need_clear" "need_clear" st_need_clear f fd) (T : Tx K mg) (hN : ∃ mm, base.Ns sysModules mm) (o_two_readings : OwnG P w K mg base 5 "two_readings" 1 m_two_readings) (x_Blurred : ExF P w K mg base "Blurred" ["one", "other"]) : FnG P w K mg base 6 f fd ["mark"] (spM ⟨P, w, K, mg⟩ m_need_clear 1) := by
  refine fnMG F sc_need_clear mb_need_clear fun cdv A outer s H E hG hr => ?_
  exact (sms_cons (sm_set (i := 1) sc_need_clear.nd rfl (.inl rfl) (xp_ownG o_two_readings hG (hr.mono (by decide)) (takes_of rfl rfl rfl rfl) (xa_cons (xp_var (i := 0) rfl (.inl rfl)) xa_nil) rfl (len_cons len_nil)))
    (sms_one (sm_if (xt_notN (xp_var (i := 1) rfl (.inl rfl))) (sms_one (sm_raise rfl x_Blurred (hr.mono (by decide)) (takes_of rfl rfl rfl rfl) (xa_cons (xp_ix (xp_var (i := 1) rfl (.inl rfl)) xp_int (fun _ _ => rfl)) (xa_cons (xp_ix (xp_var (i := 1) rfl (.inl rfl)) xp_int (fun _ _ => rfl)) xa_nil)) rfl (by decide))) sms_nil)))
abbrev st_Rule___init__ : Stmt := meth (top 52) 0
theorem sc_Rule___init__ : FnScope ["self", "mark", "way"] ["self", "mark", "way"] (defScope st_Rule___init__) := ⟨rfl, rfl, rfl, by decide +kernel, rfl, by decide +kernel, by decide +kernel⟩
noncomputable def mb_Rule___init__ : MS := (sSeq (sDrop (eCall m_need_clear (aCons (eVar 1) aNil))) (sSeq (sIf (eOr (eNot (op1 (isiD "str") (eVar 2))) (op2 ninD (eVar 2) (eTup (aCons (eC (.str [110, 101, 115, 116])) (aCons (eC (.str [99, 108, 105, 109, 98])) aNil))))) (sRaise "BadWay" ["found"] (aCons (eVar 2) aNil)) sNx) (sSeq (sFst "Rule" "rule_mark" (eVar 0) (eVar 1)) (sFst "Rule" "rule_way" (eVar 0) (eVar 2)))))
noncomputable def m_Rule___init__ : MF := mDef 3 mb_Rule___init__
theorem ok_Rule___init__ {f : Addr} {fd : FuncData} (F : Fun K "__init__" "Rule.__init__" st_Rule___init__ f fd) (T : Tx K mg) (hN : ∃ mm, base.Ns sysModules mm) (o_need_clear : OwnG P w K mg base 6 "need_clear" 1 m_need_clear) (f_Rule_rule_mark : FldOk K mg "Rule" "rule_mark") (f_Rule_rule_way : FldOk K mg "Rule" "rule_way") (x_BadWay : ExF P w K mg base "BadWay" ["found"]) : FnG P w K mg base 7 f fd ["self", "mark", "way"] (spM ⟨P, w, K, mg⟩ m_Rule___init__ 3) := by
  refine fnMG F sc_Rule___init__ mb_Rule___init__ fun cdv A outer s H E hG hr => ?_
  obtain ⟨tk_CLIMB, g_CLIMB⟩ := T.c_CLIMB
  obtain ⟨tk_NEST, g_NEST⟩ := T.c_NEST
  exact (sms_cons (sm_expr (xp_ownG o_need_clear hG (hr.mono (by decide)) (takes_of rfl rfl rfl rfl) (xa_cons (xp_var (i := 1) rfl (.inl rfl)) xa_nil) rfl (len_cons len_nil)))
    (sms_cons (sm_if (Xw.t (xw_or (xt_not (xt_val (xp_isi rfl T.b_isinstance rfl T.b_str bo_str (xp_var (i := 2) rfl (.inl rfl))))) (xw_or1 (xt_nin (xp_var (i := 2) rfl (.inl rfl)) (xp_tup (xa_cons (xp_globS (l := [110, 101, 115, 116]) rfl g_NEST (by decide +kernel)) (xa_cons (xp_globS (l := [99, 108, 105, 109, 98]) rfl g_CLIMB (by decide +kernel)) xa_nil))) rfl)))) (sms_one (sm_raise rfl x_BadWay (hr.mono (by decide)) (takes_of rfl rfl rfl rfl) (xa_cons (xp_var (i := 2) rfl (.inl rfl)) xa_nil) rfl (by decide))) sms_nil)
    (sms_cons (sm_fst f_Rule_rule_mark (xp_var (i := 0) rfl (.inl rfl)) (xp_var (i := 1) rfl (.inl rfl)))
    (sms_one (sm_fst f_Rule_rule_way (xp_var (i := 0) rfl (.inl rfl)) (xp_var (i := 2) rfl (.inl rfl)))))))
abbrev st__law_odd : Stmt := top 93
theorem sc__law_odd : FnScope ["box", "some"] ["box"] (defScope st__law_odd) := ⟨rfl, rfl, rfl, by decide +kernel, rfl, by decide +kernel, by decide +kernel⟩
noncomputable def mb__law_odd : MS := (sSeq (sAsg 1 (eList false (aCons (eC .non) (aCons (eC (.bl true)) (aCons (eC (.bl false)) (aCons (eC (.int 0)) (aCons (eC (.int 2)) (aCons (op1 negD (eC (.int 1))) (aCons (eC (.int 201)) (aCons (op2 powD (eC (.int 10)) (eC (.int 29))) (aCons (op2 subD (eC (.int 0)) (op2 powD (eC (.int 10)) (eC (.int 29)))) (aCons (eC (.str [])) (aCons (eC (.str [97])) (aCons (eC (.str [65])) (aCons (eC (.str [97, 32, 98])) (aCons (eC (.str [97, 45, 50])) (aCons (eC (.str [42, 45, 35])) (aCons (eC (.str [42, 35])) (aCons (eC (.str [110, 101, 115, 116])) aNil))))))))))))))))))) (sSeq (sAsg 1 (op2 (addD false) (eVar 1) (eList false (aCons (eList true aNil) (aCons (eList true (aCons (eC (.str [97])) aNil)) (aCons (eList true (aCons (eC (.str [97])) (aCons (eC (.str [97])) aNil))) (aCons (eList true (aCons (eC (.str [65])) aNil)) (aCons (eTup aNil) (aCons (eTup (aCons (eC (.str [97])) aNil)) (aCons (eTup (aCons (eC (.str [97])) (aCons (eC (.str [97])) aNil))) (aCons (eTup (aCons (eC (.str [97])) (aCons (eC (.int 2)) aNil))) (aCons (eTup (aCons (eC (.int 2)) (aCons (eC (.str [97])) aNil))) (aCons (fun _ cs => mkD true cs []) (aCons (eDict true (aCons (eC (.str [97])) (aCons (eC (.int 2)) aNil))) (aCons (eDict true (aCons (eC (.int 7)) (aCons (eList false (aCons (eC (.str [97])) aNil)) aNil))) aNil))))))))))))))) (sSeq (sAsg 1 (op2 (addD false) (eVar 1) (eList false (aCons (eList true (aCons (eList false (aCons (eC (.str [97])) aNil)) aNil)) (aCons (eList true (aCons (eTup (aCons (eC (.str [97])) (aCons (eC (.str [97])) aNil))) aNil)) (aCons (op2 (mulD false) (eC (.str [97])) (eC (.int 151))) (aCons (op2 (mulD false) (eC (.str [97])) (eC (.int 201))) (aCons (eC (.str [97, 42])) (aCons (eC (.str [97, 98, 35])) (aCons (eC (.int 15)) (aCons (eC (.str [48, 50])) aNil))))))))))) (sRet (op2 ixD (eVar 1) (eCall m__law_take (aCons (eVar 0) (aCons (eBi lenB (aCons (eVar 1) aNil)) aNil))))))))
noncomputable def m__law_odd : MF := mDef 2 mb__law_odd
theorem ok__law_odd {f : Addr} {fd : FuncData} (F : Fun K "_law_odd" "_law_odd" st__law_odd f fd) (T : Tx K mg) (hN : ∃ mm, base.Ns sysModules mm) (o__law_take : OwnG P w K mg base 1 "_law_take" 2 m__law_take) : FnG P w K mg base 2 f fd ["box"] (spM ⟨P, w, K, mg⟩ m__law_odd 1) := by
  refine fnMG F sc__law_odd mb__law_odd fun cdv A outer s H E hG hr => ?_
  exact (sms_cons (sm_set (i := 1) sc__law_odd.nd rfl (.inl rfl) (xp_list false (xa_cons xp_non (xa_cons xp_bl (xa_cons xp_bl (xa_cons xp_int (xa_cons xp_int (xa_cons (xp_neg xp_int) (xa_cons xp_int (xa_cons (xp_pow xp_int xp_int) (xa_cons (xp_sub xp_int (xp_pow xp_int xp_int)) (xa_cons (xp_str (l := []) (by decide +kernel)) (xa_cons (xp_str (l := [97]) (by decide +kernel)) (xa_cons (xp_str (l := [65]) (by decide +kernel)) (xa_cons (xp_str (l := [97, 32, 98]) (by decide +kernel)) (xa_cons (xp_str (l := [97, 45, 50]) (by decide +kernel)) (xa_cons (xp_str (l := [42, 45, 35]) (by decide +kernel)) (xa_cons (xp_str (l := [42, 35]) (by decide +kernel)) (xa_cons (xp_str (l := [110, 101, 115, 116]) (by decide +kernel)) xa_nil)))))))))))))))))))
    (sms_cons (sm_set (i := 1) sc__law_odd.nd rfl (.inl rfl) (xp_add false (xp_var (i := 1) rfl (.inl rfl)) (xp_list false (xa_cons (xp_list true xa_nil) (xa_cons (xp_list true (xa_cons (xp_str (l := [97]) (by decide +kernel)) xa_nil)) (xa_cons (xp_list true (xa_cons (xp_str (l := [97]) (by decide +kernel)) (xa_cons (xp_str (l := [97]) (by decide +kernel)) xa_nil))) (xa_cons (xp_list true (xa_cons (xp_str (l := [65]) (by decide +kernel)) xa_nil)) (xa_cons (xp_tup xa_nil) (xa_cons (xp_tup (xa_cons (xp_str (l := [97]) (by decide +kernel)) xa_nil)) (xa_cons (xp_tup (xa_cons (xp_str (l := [97]) (by decide +kernel)) (xa_cons (xp_str (l := [97]) (by decide +kernel)) xa_nil))) (xa_cons (xp_tup (xa_cons (xp_str (l := [97]) (by decide +kernel)) (xa_cons xp_int xa_nil))) (xa_cons (xp_tup (xa_cons xp_int (xa_cons (xp_str (l := [97]) (by decide +kernel)) xa_nil))) (xa_cons (xp_dict0 true) (xa_cons (xp_dict true (xps_cons (xp_str (l := [97]) (by decide +kernel)) xp_int xps_nil)) (xa_cons (xp_dict true (xps_cons xp_int (xp_list false (xa_cons (xp_str (l := [97]) (by decide +kernel)) xa_nil)) xps_nil)) xa_nil)))))))))))))))
    (sms_cons (sm_set (i := 1) sc__law_odd.nd rfl (.inl rfl) (xp_add false (xp_var (i := 1) rfl (.inl rfl)) (xp_list false (xa_cons (xp_list true (xa_cons (xp_list false (xa_cons (xp_str (l := [97]) (by decide +kernel)) xa_nil)) xa_nil)) (xa_cons (xp_list true (xa_cons (xp_tup (xa_cons (xp_str (l := [97]) (by decide +kernel)) (xa_cons (xp_str (l := [97]) (by decide +kernel)) xa_nil))) xa_nil)) (xa_cons (xp_mul false (xp_str (l := [97]) (by decide +kernel)) xp_int) (xa_cons (xp_mul false (xp_str (l := [97]) (by decide +kernel)) xp_int) (xa_cons (xp_str (l := [97, 42]) (by decide +kernel)) (xa_cons (xp_str (l := [97, 98, 35]) (by decide +kernel)) (xa_cons xp_int (xa_cons (xp_str (l := [48, 50]) (by decide +kernel)) xa_nil)))))))))))
    (sms_one (sm_ret (xp_ix (xp_var (i := 1) rfl (.inl rfl)) (xp_ownG o__law_take hG (hr.mono (by decide)) (takes_of rfl rfl rfl rfl) (xa_cons (xp_var (i := 0) rfl (.inl rfl)) (xa_cons (xp_bi call_len cb_len rfl T.b_len bo_len (xa_cons (xp_var (i := 1) rfl (.inl rfl)) xa_nil)) xa_nil)) rfl (len_cons (len_cons len_nil))) (fun _ _ => rfl)))))))
abbrev st__law_signs : Stmt := top 90
theorem sc__law_signs : FnScope ["box", "many", "k"] ["box", "many"] (defScope st__law_signs) := ⟨rfl, rfl, rfl, by decide +kernel, rfl, by decide +kernel, by decide +kernel⟩
noncomputable def mb__law_signs : MS := (sRet (eM1 joinD (eC (.str [])) (eLc false [2] (tgN 2) (wR1 (eVar 1)) (eC (.bl true)) (op2 ixD (eC (.str [97, 98, 99, 100, 101, 102, 103, 104, 105, 106, 107, 108, 109, 110, 111, 112, 113, 114, 115, 116, 117, 118, 119, 120, 121, 122, 48, 49, 50, 51, 52, 53, 54, 55, 56, 57, 45, 95, 46, 40, 41])) (eCall m__law_take (aCons (eVar 0) (aCons (eC (.int 41)) aNil)))))))
noncomputable def m__law_signs : MF := mDef 3 mb__law_signs
theorem ok__law_signs {f : Addr} {fd : FuncData} (F : Fun K "_law_signs" "_law_signs" st__law_signs f fd) (T : Tx K mg) (hN : ∃ mm, base.Ns sysModules mm) (o__law_take : OwnG P w K mg base 1 "_law_take" 2 m__law_take) : FnG P w K mg base 2 f fd ["box", "many"] (spM ⟨P, w, K, mg⟩ m__law_signs 2) := by
  refine fnMG F sc__law_signs mb__law_signs fun cdv A outer s H E hG hr => ?_
  exact (sms_one (sm_ret (xp_join (xp_str (l := []) (by decide +kernel)) (xp_lc false rfl sc__law_signs.nd (wk_range1 rfl T.b_range (xp_var (i := 1) rfl (.inl rfl))) (own := [("k", 2)]) (blk_ok (N := ["box", "many", "k"]) (sc := defScope st__law_signs) (by decide +kernel)) ⟨fun s H C cl fp => (tgt_name (i := 2) (own := [2]) sc__law_signs.nd rfl (.inl rfl)), fun s H C cl fp => xts_nil, fun s H C cl fp => (xp_ix (xp_str (l := [97, 98, 99, 100, 101, 102, 103, 104, 105, 106, 107, 108, 109, 110, 111, 112, 113, 114, 115, 116, 117, 118, 119, 120, 121, 122, 48, 49, 50, 51, 52, 53, 54, 55, 56, 57, 45, 95, 46, 40, 41]) (by decide +kernel)) (xp_ownG o__law_take hG (hr.mono (by decide)) takes_no (xa_cons (xp_var (i := 0) rfl (.inr (.inl rfl))) (xa_cons xp_int xa_nil)) rfl (len_cons (len_cons len_nil))) (fun _ _ => rfl))⟩))))
abbrev st__law_mark : Stmt := top 91
theorem sc__law_mark : FnScope ["box", "near", "places"] ["box"] (defScope st__law_mark) := ⟨rfl, rfl, rfl, by decide +kernel, rfl, by decide +kernel, by decide +kernel⟩
noncomputable def mb__law_mark : MS := (sSeq (sIf (op2 eqD (eCall m__law_take (aCons (eVar 0) (aCons (eC (.int 3)) aNil))) (eC (.int 0))) (sRet (op2 ixD (eList false (aCons (eC (.str [42, 45, 35])) (aCons (eC (.str [42, 40, 35, 41])) (aCons (eC (.str [35, 46, 42])) aNil)))) (eCall m__law_take (aCons (eVar 0) (aCons (eC (.int 3)) aNil))))) sNx) (sSeq (sAsg 1 (op2 (addD false) (op2 (addD false) (eCall m__law_signs (aCons (eVar 0) (aCons (eCall m__law_take (aCons (eVar 0) (aCons (eC (.int 3)) aNil))) aNil))) (op2 ixD (eC (.str [97, 98, 122, 45, 95, 46, 40, 41])) (eCall m__law_take (aCons (eVar 0) (aCons (eC (.int 8)) aNil))))) (op2 ixD (eList false (aCons (eC (.str [])) (aCons (eC (.str [48])) (aCons (eC (.str [49, 50])) (aCons (eC (.str [53])) aNil))))) (eCall m__law_take (aCons (eVar 0) (aCons (eC (.int 4)) aNil)))))) (sSeq (sAsg 1 (eIf (op2 eqD (eCall m__law_take (aCons (eVar 0) (aCons (eC (.int 2)) aNil))) (eC (.int 0))) (eVar 1) (op1 revD (eVar 1)))) (sSeq (sAsg 2 (eIf (op2 gtD (eCall m__law_take (aCons (eVar 0) (aCons (eC (.int 3)) aNil))) (eC (.int 0))) (op2 (addD false) (op2 (addD false) (eC (.str [42])) (eVar 1)) (eC (.str [35]))) (op2 (addD false) (op2 (addD false) (eC (.str [35])) (eVar 1)) (eC (.str [42]))))) (sRet (op2 (addD false) (op2 (addD false) (eCall m__law_signs (aCons (eVar 0) (aCons (eCall m__law_take (aCons (eVar 0) (aCons (eC (.int 3)) aNil))) aNil))) (eVar 2)) (eCall m__law_signs (aCons (eVar 0) (aCons (eCall m__law_take (aCons (eVar 0) (aCons (eC (.int 3)) aNil))) aNil)))))))))
noncomputable def m__law_mark : MF := mDef 3 mb__law_mark
theorem ok__law_mark {f : Addr} {fd : FuncData} (F : Fun K "_law_mark" "_law_mark" st__law_mark f fd) (T : Tx K mg) (hN : ∃ mm, base.Ns sysModules mm) (o__law_take : OwnG P w K mg base 1 "_law_take" 2 m__law_take) (o__law_signs : OwnG P w K mg base 2 "_law_signs" 2 m__law_signs) : FnG P w K mg base 3 f fd ["box"] (spM ⟨P, w, K, mg⟩ m__law_mark 1) := by
  refine fnMG F sc__law_mark mb__law_mark fun cdv A outer s H E hG hr => ?_
  exact (sms_cons (sm_if (xt_eq hr.units (xp_ownG o__law_take hG (hr.mono (by decide)) (takes_of rfl rfl rfl rfl) (xa_cons (xp_var (i := 0) rfl (.inl rfl)) (xa_cons xp_int xa_nil)) rfl (len_cons (len_cons len_nil))) xp_int) (sms_one (sm_ret (xp_ix (xp_list false (xa_cons (xp_str (l := [42, 45, 35]) (by decide +kernel)) (xa_cons (xp_str (l := [42, 40, 35, 41]) (by decide +kernel)) (xa_cons (xp_str (l := [35, 46, 42]) (by decide +kernel)) xa_nil)))) (xp_ownG o__law_take hG (hr.mono (by decide)) (takes_of rfl rfl rfl rfl) (xa_cons (xp_var (i := 0) rfl (.inl rfl)) (xa_cons xp_int xa_nil)) rfl (len_cons (len_cons len_nil))) (fun _ _ => rfl)))) sms_nil)
    (sms_cons (sm_set (i := 1) sc__law_mark.nd rfl (.inl rfl) (xp_add false (xp_add false (xp_ownG o__law_signs hG (hr.mono (by decide)) (takes_of rfl rfl rfl rfl) (xa_cons (xp_var (i := 0) rfl (.inl rfl)) (xa_cons (xp_ownG o__law_take hG (hr.mono (by decide)) (takes_of rfl rfl rfl rfl) (xa_cons (xp_var (i := 0) rfl (.inl rfl)) (xa_cons xp_int xa_nil)) rfl (len_cons (len_cons len_nil))) xa_nil)) rfl (len_cons (len_cons len_nil))) (xp_ix (xp_str (l := [97, 98, 122, 45, 95, 46, 40, 41]) (by decide +kernel)) (xp_ownG o__law_take hG (hr.mono (by decide)) (takes_of rfl rfl rfl rfl) (xa_cons (xp_var (i := 0) rfl (.inl rfl)) (xa_cons xp_int xa_nil)) rfl (len_cons (len_cons len_nil))) (fun _ _ => rfl))) (xp_ix (xp_list false (xa_cons (xp_str (l := []) (by decide +kernel)) (xa_cons (xp_str (l := [48]) (by decide +kernel)) (xa_cons (xp_str (l := [49, 50]) (by decide +kernel)) (xa_cons (xp_str (l := [53]) (by decide +kernel)) xa_nil))))) (xp_ownG o__law_take hG (hr.mono (by decide)) (takes_of rfl rfl rfl rfl) (xa_cons (xp_var (i := 0) rfl (.inl rfl)) (xa_cons xp_int xa_nil)) rfl (len_cons (len_cons len_nil))) (fun _ _ => rfl))))
    (sms_cons (sm_set (i := 1) sc__law_mark.nd rfl (.inl rfl) (xp_if (xt_eq hr.units (xp_ownG o__law_take hG (hr.mono (by decide)) (takes_of rfl rfl rfl rfl) (xa_cons (xp_var (i := 0) rfl (.inl rfl)) (xa_cons xp_int xa_nil)) rfl (len_cons (len_cons len_nil))) xp_int) (xp_var (i := 1) rfl (.inl rfl)) (xp_rev (xp_var (i := 1) rfl (.inl rfl)))))
    (sms_cons (sm_set (i := 2) sc__law_mark.nd rfl (.inl rfl) (xp_if (xt_gt (xp_ownG o__law_take hG (hr.mono (by decide)) (takes_of rfl rfl rfl rfl) (xa_cons (xp_var (i := 0) rfl (.inl rfl)) (xa_cons xp_int xa_nil)) rfl (len_cons (len_cons len_nil))) xp_int) (xp_add false (xp_add false (xp_str (l := [42]) (by decide +kernel)) (xp_var (i := 1) rfl (.inl rfl))) (xp_str (l := [35]) (by decide +kernel))) (xp_add false (xp_add false (xp_str (l := [35]) (by decide +kernel)) (xp_var (i := 1) rfl (.inl rfl))) (xp_str (l := [42]) (by decide +kernel)))))
    (sms_one (sm_ret (xp_add false (xp_add false (xp_ownG o__law_signs hG (hr.mono (by decide)) (takes_of rfl rfl rfl rfl) (xa_cons (xp_var (i := 0) rfl (.inl rfl)) (xa_cons (xp_ownG o__law_take hG (hr.mono (by decide)) (takes_of rfl rfl rfl rfl) (xa_cons (xp_var (i := 0) rfl (.inl rfl)) (xa_cons xp_int xa_nil)) rfl (len_cons (len_cons len_nil))) xa_nil)) rfl (len_cons (len_cons len_nil))) (xp_var (i := 2) rfl (.inl rfl))) (xp_ownG o__law_signs hG (hr.mono (by decide)) (takes_of rfl rfl rfl rfl) (xa_cons (xp_var (i := 0) rfl (.inl rfl)) (xa_cons (xp_ownG o__law_take hG (hr.mono (by decide)) (takes_of rfl rfl rfl rfl) (xa_cons (xp_var (i := 0) rfl (.inl rfl)) (xa_cons xp_int xa_nil)) rfl (len_cons (len_cons len_nil))) xa_nil)) rfl (len_cons (len_cons len_nil))))))))))
abbrev st__law_very : Stmt := top 92
theorem sc__law_very : FnScope ["found", "thing"] ["found", "thing"] (defScope st__law_very) := ⟨rfl, rfl, rfl, by decide +kernel, rfl, by decide +kernel, by decide +kernel⟩
noncomputable def mb__law_very : MS := (sSeq (sIf (op1 (isiD "list") (eVar 1)) (sDrop (ePush (eVar 1) (eC (.str [109, 111, 114, 101])))) sNx) (sSeq (sIf (op1 (isiD "dict") (eVar 1)) (sPutK (eVar 1) (eC (.str [109, 111, 114, 101])) (eC (.int 1))) sNx) (sRet (op2 eqD (eBi reprBD (aCons (eVar 0) aNil)) (eBi reprBD (aCons (eVar 1) aNil))))))
noncomputable def m__law_very : MF := mDef 2 mb__law_very
theorem ok__law_very {f : Addr} {fd : FuncData} (F : Fun K "_law_very" "_law_very" st__law_very f fd) (T : Tx K mg) (hN : ∃ mm, base.Ns sysModules mm) : FnG P w K mg base 1 f fd ["found", "thing"] (spM ⟨P, w, K, mg⟩ m__law_very 2) := by
  refine fnMG F sc__law_very mb__law_very fun cdv A outer s H E hG hr => ?_
  exact (sms_cons (sm_if (xt_val (xp_isi rfl T.b_isinstance rfl T.b_list bo_list (xp_var (i := 1) rfl (.inl rfl)))) (sms_one (sm_expr (xp_push (xp_var (i := 1) rfl (.inl rfl)) (xp_str (l := [109, 111, 114, 101]) (by decide +kernel))))) sms_nil)
    (sms_cons (sm_if (xt_val (xp_isi rfl T.b_isinstance rfl T.b_dict bo_dict (xp_var (i := 1) rfl (.inl rfl)))) (sms_one (sm_putK hr (xp_var (i := 1) rfl (.inl rfl)) (xp_str (l := [109, 111, 114, 101]) (by decide +kernel)) xp_int)) sms_nil)
    (sms_one (sm_ret (xp_eq hr.units (xp_reprX hG hr hN rfl T.b_repr (xa_cons (xp_var (i := 0) rfl (.inl rfl)) xa_nil)) (xp_reprX hG hr hN rfl T.b_repr (xa_cons (xp_var (i := 1) rfl (.inl rfl)) xa_nil)))))))
abbrev st_Book_names : Stmt := meth (top 65) 4
theorem sc_Book_names : FnScope ["self"] ["self"] (defScope st_Book_names) := ⟨rfl, rfl, rfl, by decide +kernel, rfl, by decide +kernel, by decide +kernel⟩
noncomputable def mb_Book_names : MS := (sRet (eListOf true (eFld "Book" "book_names" (eVar 0))))
noncomputable def m_Book_names : MF := mDef 1 mb_Book_names
theorem ok_Book_names {f : Addr} {fd : FuncData} (F : Fun K "names" "Book.names" st_Book_names f fd) (T : Tx K mg) (hN : ∃ mm, base.Ns sysModules mm) (f_Book_book_names : FldOk K mg "Book" "book_names") : FnG P w K mg base 1 f fd ["self"] (spM ⟨P, w, K, mg⟩ m_Book_names 1) := by
  refine fnMG F sc_Book_names mb_Book_names fun cdv A outer s H E hG hr => ?_
  exact (sms_one (sm_ret (xp_listOf true rfl T.b_list (xp_fld f_Book_book_names (xp_var (i := 0) rfl (.inl rfl))))))
abbrev st_Desk_log : Stmt := meth (top 85) 2
theorem sc_Desk_log : FnScope ["self"] ["self"] (defScope st_Desk_log) := ⟨rfl, rfl, rfl, by decide +kernel, rfl, by decide +kernel, by decide +kernel⟩
noncomputable def mb_Desk_log : MS := (sRet (eListOf true (eFld "Desk" "deeds_done" (eVar 0))))
noncomputable def m_Desk_log : MF := mDef 1 mb_Desk_log
theorem ok_Desk_log {f : Addr} {fd : FuncData} (F : Fun K "log" "Desk.log" st_Desk_log f fd) (T : Tx K mg) (hN : ∃ mm, base.Ns sysModules mm) (f_Desk_deeds_done : FldOk K mg "Desk" "deeds_done") : FnG P w K mg base 1 f fd ["self"] (spM ⟨P, w, K, mg⟩ m_Desk_log 1) := by
  refine fnMG F sc_Desk_log mb_Desk_log fun cdv A outer s H E hG hr => ?_
  exact (sms_one (sm_ret (xp_listOf true rfl T.b_list (xp_fld f_Desk_deeds_done (xp_var (i := 0) rfl (.inl rfl))))))
abbrev st_Rule___eq__ : Stmt := meth (top 52) 1
theorem sc_Rule___eq__ : FnScope ["self", "other"] ["self", "other"] (defScope st_Rule___eq__) := ⟨rfl, rfl, rfl, by decide +kernel, rfl, by decide +kernel, by decide +kernel⟩
noncomputable def mb_Rule___eq__ : MS := (sRet (eAnd (op1 (isoD "Rule") (eVar 1)) (eAnd (op2 eqD (eFld "Rule" "rule_mark" (eVar 0)) (eFld "Rule" "rule_mark" (eVar 1))) (op2 eqD (eFld "Rule" "rule_way" (eVar 0)) (eFld "Rule" "rule_way" (eVar 1))))))
noncomputable def m_Rule___eq__ : MF := mDef 2 mb_Rule___eq__
theorem ok_Rule___eq__ {f : Addr} {fd : FuncData} (F : Fun K "__eq__" "Rule.__eq__" st_Rule___eq__ f fd) (T : Tx K mg) (hN : ∃ mm, base.Ns sysModules mm) (f_Rule_rule_mark : FldOk K mg "Rule" "rule_mark") (f_Rule_rule_way : FldOk K mg "Rule" "rule_way") (n_Rule : InsF K mg "Rule") : FnG P w K mg base 1 f fd ["self", "other"] (spM ⟨P, w, K, mg⟩ m_Rule___eq__ 2) := by
  refine fnMG F sc_Rule___eq__ mb_Rule___eq__ fun cdv A outer s H E hG hr => ?_
  exact (sms_one (sm_ret (xp_and (p2 := ⟨0, 0, 0, 0⟩) (xp_iso n_Rule rfl T.b_isinstance rfl (xp_var (i := 1) rfl (.inl rfl))) (xp_and (p2 := ⟨0, 0, 0, 0⟩) (xp_eq hr.units (xp_fld f_Rule_rule_mark (xp_var (i := 0) rfl (.inl rfl))) (xp_fld f_Rule_rule_mark (xp_var (i := 1) rfl (.inl rfl)))) (xp_one (xp_eq hr.units (xp_fld f_Rule_rule_way (xp_var (i := 0) rfl (.inl rfl))) (xp_fld f_Rule_rule_way (xp_var (i := 1) rfl (.inl rfl)))))))))
abbrev st_Book___len__ : Stmt := meth (top 65) 2
theorem sc_Book___len__ : FnScope ["self"] ["self"] (defScope st_Book___len__) := ⟨rfl, rfl, rfl, by decide +kernel, rfl, by decide +kernel, by decide +kernel⟩
noncomputable def mb_Book___len__ : MS := (sRet (eBi lenB (aCons (eFld "Book" "book_names" (eVar 0)) aNil)))
noncomputable def m_Book___len__ : MF := mDef 1 mb_Book___len__
theorem ok_Book___len__ {f : Addr} {fd : FuncData} (F : Fun K "__len__" "Book.__len__" st_Book___len__ f fd) (T : Tx K mg) (hN : ∃ mm, base.Ns sysModules mm) (f_Book_book_names : FldOk K mg "Book" "book_names") : FnG P w K mg base 1 f fd ["self"] (spM ⟨P, w, K, mg⟩ m_Book___len__ 1) := by
  refine fnMG F sc_Book___len__ mb_Book___len__ fun cdv A outer s H E hG hr => ?_
  exact (sms_one (sm_ret (xp_bi call_len cb_len rfl T.b_len bo_len (xa_cons (xp_fld f_Book_book_names (xp_var (i := 0) rfl (.inl rfl))) xa_nil))))
abbrev st_Desk_say : Stmt := meth (top 85) 9
theorem sc_Desk_say : FnScope ["self", "line", "words"] ["self", "line"] (defScope st_Desk_say) := ⟨rfl, rfl, rfl, by decide +kernel, rfl, by decide +kernel, by decide +kernel⟩
noncomputable def mb_Desk_say : MS := (sSeq (sIf (eNot (op1 (isiD "str") (eVar 1))) sStuck sNx) (sSeq (sAsg 2 (eM1 (splD false) (eVar 1) (eC (.str [32])))) (sSeq (sIf (op2 eqD (eVar 1) (eC (.str [117, 110, 100, 111]))) sStuck sNx) (sSeq (sIf (op2 eqD (eVar 1) (eC (.str [99, 111, 117, 110, 116]))) (sRet (eBi strB (aCons (eBi (lenI "Book" m_Book___len__) (aCons (eFld "Desk" "desk_book" (eVar 0)) aNil)) aNil))) sNx) (sSeq sStuck (sSeq sStuck (sSeq sStuck (sSeq sStuck (sSeq sStuck (sSeq sStuck sStuck))))))))))
noncomputable def m_Desk_say : MF := mDef 3 mb_Desk_say
theorem ok_Desk_say {f : Addr} {fd : FuncData} (F : Fun K "say" "Desk.say" st_Desk_say f fd) (T : Tx K mg) (hN : ∃ mm, base.Ns sysModules mm) (o_Book___len__ : OwnM P w K mg base 1 "Book" "__len__" 0 m_Book___len__) (f_Desk_desk_book : FldOk K mg "Desk" "desk_book") : FnG P w K mg base 3 f fd ["self", "line"] (spM ⟨P, w, K, mg⟩ m_Desk_say 2) := by
  refine fnMG F sc_Desk_say mb_Desk_say fun cdv A outer s H E hG hr => ?_
  exact (sms_cons (sm_if (xt_not (xt_val (xp_isi rfl T.b_isinstance rfl T.b_str bo_str (xp_var (i := 1) rfl (.inl rfl))))) (sms_one sm_stuck) sms_nil)
    (sms_cons (sm_set (i := 2) sc_Desk_say.nd rfl (.inl rfl) (xp_spl false (xp_var (i := 1) rfl (.inl rfl)) (xp_str (l := [32]) (by decide +kernel))))
    (sms_cons (sm_if (xt_eq hr.units (xp_var (i := 1) rfl (.inl rfl)) (xp_str (l := [117, 110, 100, 111]) (by decide +kernel))) (sms_one sm_stuck) sms_nil)
    (sms_cons (sm_if (xt_eq hr.units (xp_var (i := 1) rfl (.inl rfl)) (xp_str (l := [99, 111, 117, 110, 116]) (by decide +kernel))) (sms_one (sm_ret (xp_ty call_strA cb_str rfl T.b_str bo_str (xa_cons (xp_lenI o_Book___len__ hG (hr.mono (by decide)) (takes_of rfl rfl rfl rfl) rfl T.b_len (xa_cons (xp_fld f_Desk_desk_book (xp_var (i := 0) rfl (.inl rfl))) xa_nil)) xa_nil)))) sms_nil)
    (sms_cons sm_stuck
    (sms_cons sm_stuck
    (sms_cons sm_stuck
    (sms_cons sm_stuck
    (sms_cons sm_stuck
    (sms_cons sm_stuck
    (sms_one sm_stuck)))))))))))
abbrev st_Book_rule : Stmt := meth (top 65) 3
theorem sc_Book_rule : FnScope ["self"] ["self"] (defScope st_Book_rule) := ⟨rfl, rfl, rfl, by decide +kernel, rfl, by decide +kernel, by decide +kernel⟩
noncomputable def mb_Book_rule : MS := (sRet (eFld "Book" "book_rule" (eVar 0)))
noncomputable def m_Book_rule : MF := mDef 1 mb_Book_rule
theorem ok_Book_rule {f : Addr} {fd : FuncData} (F : Fun K "rule" "Book.rule" st_Book_rule f fd) (T : Tx K mg) (hN : ∃ mm, base.Ns sysModules mm) (f_Book_book_rule : FldOk K mg "Book" "book_rule") : FnG P w K mg base 1 f fd ["self"] (spM ⟨P, w, K, mg⟩ m_Book_rule 1) := by
  refine fnMG F sc_Book_rule mb_Book_rule fun cdv A outer s H E hG hr => ?_
  exact (sms_one (sm_ret (xp_fld f_Book_book_rule (xp_var (i := 0) rfl (.inl rfl)))))
abbrev st_Book_copied : Stmt := meth (top 65) 9
theorem sc_Book_copied : FnScope ["self"] ["self"] (defScope st_Book_copied) := ⟨rfl, rfl, rfl, by decide +kernel, rfl, by decide +kernel, by decide +kernel⟩
noncomputable def mb_Book_copied : MS := (sRet (eMake "Book" m_Book___init__ (aCons (eFld "Book" "book_rule" (eVar 0)) (aCons (eFld "Book" "book_names" (eVar 0)) aNil))))
noncomputable def m_Book_copied : MF := mDef 1 mb_Book_copied
theorem ok_Book_copied {f : Addr} {fd : FuncData} (F : Fun K "copied" "Book.copied" st_Book_copied f fd) (T : Tx K mg) (hN : ∃ mm, base.Ns sysModules mm) (i_Book : OwnI P w K mg base 4 "Book" 2 m_Book___init__) (f_Book_book_names : FldOk K mg "Book" "book_names") (f_Book_book_rule : FldOk K mg "Book" "book_rule") : FnG P w K mg base 6 f fd ["self"] (spM ⟨P, w, K, mg⟩ m_Book_copied 1) := by
  refine fnMG F sc_Book_copied mb_Book_copied fun cdv A outer s H E hG hr => ?_
  exact (sms_one (sm_ret (xp_make i_Book hG (hr.mono (by decide)) (takes_of rfl rfl rfl rfl) (xa_cons (xp_fld f_Book_book_rule (xp_var (i := 0) rfl (.inl rfl))) (xa_cons (xp_fld f_Book_book_names (xp_var (i := 0) rfl (.inl rfl))) xa_nil)) rfl (len_cons (len_cons len_nil)))))
abbrev st_Desk_book : Stmt := meth (top 85) 1
theorem sc_Desk_book : FnScope ["self"] ["self"] (defScope st_Desk_book) := ⟨rfl, rfl, rfl, by decide +kernel, rfl, by decide +kernel, by decide +kernel⟩
noncomputable def mb_Desk_book : MS := (sRet (eMeth "Book" "copied" m_Book_copied (eFld "Desk" "desk_book" (eVar 0)) aNil))
noncomputable def m_Desk_book : MF := mDef 1 mb_Desk_book
theorem ok_Desk_book {f : Addr} {fd : FuncData} (F : Fun K "book" "Desk.book" st_Desk_book f fd) (T : Tx K mg) (hN : ∃ mm, base.Ns sysModules mm) (o_Book_copied : OwnM P w K mg base 6 "Book" "copied" 0 m_Book_copied) (f_Desk_desk_book : FldOk K mg "Desk" "desk_book") : FnG P w K mg base 7 f fd ["self"] (spM ⟨P, w, K, mg⟩ m_Desk_book 1) := by
  refine fnMG F sc_Desk_book mb_Desk_book fun cdv A outer s H E hG hr => ?_
  exact (sms_one (sm_ret (xp_meth0 o_Book_copied hG (hr.mono (by decide)) (takes_of rfl rfl rfl rfl) (xp_fld f_Desk_desk_book (xp_var (i := 0) rfl (.inl rfl))))))
abbrev st_law : Stmt := top 95
theorem sc_law : FnScope ["script", "k", "box", "rule", "odd", "other", "found", "names", "at", "bad", "whole", "value", "word", "due", "passed", "desk"] ["script"] (defScope st_law) := ⟨rfl, rfl, rfl, by decide +kernel, rfl, by decide +kernel, by decide +kernel⟩
noncomputable def mb_law : MS := (sSeq (sFor (tgN 1) (wR1 (eBi maxB (aCons (eC (.int 2)) (aCons (eBi minB (aCons (eC (.int 10)) (aCons (eBi lenB (aCons (eVar 0) aNil)) aNil))) aNil)))) (sSeq (sAsg 2 (eCall m__law_box (aCons (eCall m__law_cell (aCons (eVar 0) (aCons (eVar 1) aNil))) aNil))) (sSeq (sPar [3, 4, 5] (aCons (eMake "Rule" m_Rule___init__ (aCons (eCall m__law_mark (aCons (eVar 2) aNil)) (aCons (op2 ixD (eList false (aCons (eC (.str [110, 101, 115, 116])) (aCons (eC (.str [99, 108, 105, 109, 98])) aNil))) (eCall m__law_take (aCons (eVar 2) (aCons (eC (.int 2)) aNil)))) aNil))) (aCons (eCall m__law_odd (aCons (eVar 2) aNil)) (aCons (eCall m__law_odd (aCons (eVar 2) aNil)) aNil)))) (sSeq (sAsg 6 (eCall m__law_asked (aCons (eVar 4) (aCons (eVar 5) aNil)))) (sSeq (sIf (eOr (op2 neD (op2 ixD (eVar 6) (eC (.int 0))) (eC (.str [114, 117, 108, 101]))) (eNot (eCall m__law_very (aCons (op2 ixD (eVar 6) (eC (.int 1))) (aCons (eVar 4) aNil))))) (sRet (eC (.bl false))) sNx) (sSeq (sAsg 7 (eLc false [8] (tgN 8) (wR1 (eC (.int 200))) (eC (.bl true)) (op2 (mulD false) (eC (.str [97])) (op2 (addD false) (eC (.int 1)) (eVar 8))))) (sSeq (sAsg 8 (eCall m__law_take (aCons (eVar 2) (aCons (eC (.int 190)) aNil)))) (sSeq (sAsg 9 (op2 ixD (eList false (aCons (eC (.str [])) (aCons (eC (.str [65])) (aCons (eC (.int 7)) (aCons (eC .non) (aCons (eList false (aCons (eC (.str [97])) aNil)) (aCons (op2 (mulD false) (eC (.str [97])) (eC (.int 201))) aNil))))))) (eCall m__law_take (aCons (eVar 2) (aCons (eC (.int 6)) aNil))))) (sSeq (sAsg 10 (op2 ixD (eList false (aCons (op2 (addD false) (eVar 7) (eList false (aCons (eC (.str [98])) aNil))) (aCons (eDict false (aCons (eC (.str [97])) (aCons (eC (.int 1)) aNil))) (aCons (eC (.str [97, 98])) (aCons (eC .non) (aCons (eC (.int 5)) aNil)))))) (eCall m__law_take (aCons (eVar 2) (aCons (eC (.int 5)) aNil))))) (sSeq (sFor (tgSeq [11, 12, 13]) (wSeq (eList false (aCons (eList false (aCons (eVar 10) (aCons (eC (.str [110, 97, 109, 101, 115])) (aCons (eVar 10) aNil)))) (aCons (eList false (aCons (op2 (addD false) (eSl false (eVar 7) oNone (oSome (eVar 8))) (eList false (aCons (eVar 9) (aCons (eC (.int 7)) aNil)))) (aCons (eC (.str [110, 97, 109, 101])) (aCons (eVar 9) aNil)))) (aCons (eList false (aCons (op2 (addD false) (eSl false (eVar 7) oNone (oSome (op2 (addD false) (eVar 8) (eC (.int 1))))) (eList false (aCons (op2 ixD (eVar 7) (eVar 8)) (aCons (eC (.int 7)) aNil)))) (aCons (eC (.str [100, 111, 117, 98, 108, 101, 100])) (aCons (op2 ixD (eVar 7) (eVar 8)) aNil)))) aNil))))) (sIf (op2 neD (eBi reprBD (aCons (eCall m__law_asked (aCons (eVar 3) (aCons (eVar 11) aNil))) aNil)) (eBi reprBD (aCons (eList false (aCons (eVar 12) (aCons (eVar 13) aNil))) aNil))) (sRet (eC (.bl false))) sNx)) (sSeq (sAsg 14 (eListOf true (eSl false (eVar 7) oNone (oSome (eC (.int 9)))))) (sSeq (sAsg 15 (eMake "Desk" m_Desk___init__ (aCons (eVar 3) (aCons (eVar 14) aNil)))) (sSeq (sDrop (ePush (eVar 14) (eC (.str [98])))) (sSeq (sIf (eOr (op2 neD (eMeth "Book" "names" m_Book_names (eMeth "Desk" "book" m_Desk_book (eVar 15) aNil) aNil) (eSl false (eVar 7) oNone (oSome (eC (.int 9))))) (eOr (op2 neD (eMeth "Desk" "log" m_Desk_log (eVar 15) aNil) (eList false aNil)) (op1 (isNB (some true)) (op2 (eqID "Rule" m_Rule___eq__ false) (eMeth "Book" "rule" m_Book_rule (eMeth "Desk" "book" m_Desk_book (eVar 15) aNil) aNil) (eVar 3))))) (sRet (eC (.bl false))) sNx) (sIf (eOr (op2 neD (op2 ixD (eCall m__law_asked (aCons (eVar 3) (aCons (eVar 7) aNil))) (eC (.int 0))) (eC (.str [110, 111, 110, 101]))) (eOr (op2 neD (eMeth "Book" "names" m_Book_names (eMeth "Desk" "book" m_Desk_book (eMakeJ "Desk" m_Desk___init__ (aCons (eVar 3) aNil)) aNil) aNil) (eList false aNil)) (op2 neD (eMeth "Desk" "say" m_Desk_say (eMake "Desk" m_Desk___init__ (aCons (eVar 3) (aCons (eTupOf (eVar 7)) aNil))) (aCons (eC (.str [99, 111, 117, 110, 116])) aNil)) (eC (.str [50, 48, 48]))))) (sRet (eC (.bl false))) sNx))))))))))))))) (sRet (eC (.bl true))))
noncomputable def m_law : MF := mDef 16 mb_law
theorem ok_law {f : Addr} {fd : FuncData} (F : Fun K "law" "law" st_law f fd) (T : Tx K mg) (hN : ∃ mm, base.Ns sysModules mm) (o__law_box : OwnG P w K mg base 1 "_law_box" 1 m__law_box) (o__law_cell : OwnG P w K mg base 1 "_law_cell" 2 m__law_cell) (o__law_mark : OwnG P w K mg base 3 "_law_mark" 1 m__law_mark) (o__law_take : OwnG P w K mg base 1 "_law_take" 2 m__law_take) (o__law_odd : OwnG P w K mg base 2 "_law_odd" 1 m__law_odd) (o__law_asked : OwnG P w K mg base 8 "_law_asked" 2 m__law_asked) (o__law_very : OwnG P w K mg base 1 "_law_very" 2 m__law_very) (o_Book_names : OwnM P w K mg base 1 "Book" "names" 0 m_Book_names) (o_Desk_book : OwnM P w K mg base 7 "Desk" "book" 0 m_Desk_book) (o_Desk_log : OwnM P w K mg base 1 "Desk" "log" 0 m_Desk_log) (o_Book_rule : OwnM P w K mg base 1 "Book" "rule" 0 m_Book_rule) (o_Rule___eq__ : OwnM P w K mg base 1 "Rule" "__eq__" 1 m_Rule___eq__) (o_Desk_say : OwnM P w K mg base 3 "Desk" "say" 1 m_Desk_say) (i_Desk : OwnI P w K mg base 6 "Desk" 2 m_Desk___init__) (i_Rule : OwnI P w K mg base 7 "Rule" 2 m_Rule___init__) (j_Desk : OwnJ P w K mg base 6 "Desk" 1 m_Desk___init__) : FnG P w K mg base 9 f fd ["script"] (spM ⟨P, w, K, mg⟩ m_law 1) := by
  refine fnMG F sc_law mb_law fun cdv A outer s H E hG hr => ?_
  exact (sms_cons (sm_for rfl (passes_of rfl) (wk_range1 rfl T.b_range (xp_bi (call_max2 rfl) cb_max rfl T.b_max bo_max (xa_cons xp_int (xa_cons (xp_bi (call_min2 rfl) cb_min rfl T.b_min bo_min (xa_cons xp_int (xa_cons (xp_bi call_len cb_len rfl T.b_len bo_len (xa_cons (xp_var (i := 0) rfl (.inl rfl)) xa_nil)) xa_nil))) xa_nil)))) (tgt_name (i := 1) (own := [1]) sc_law.nd rfl (.inl rfl)) (sms_cons (sm_set (i := 2) sc_law.nd rfl (.inl rfl) (xp_ownG o__law_box hG (hr.mono (by decide)) (takes_of rfl rfl rfl rfl) (xa_cons (xp_ownG o__law_cell hG (hr.mono (by decide)) (takes_of rfl rfl rfl rfl) (xa_cons (xp_var (i := 0) rfl (.inl rfl)) (xa_cons (xp_var (i := 1) rfl (.inl rfl)) xa_nil)) rfl (len_cons (len_cons len_nil))) xa_nil) rfl (len_cons len_nil)))
    (sms_cons (sm_par3 rfl sc_law.nd rfl rfl rfl rfl rfl rfl (xa_cons (xp_make i_Rule hG (hr.mono (by decide)) (takes_of rfl rfl rfl rfl) (xa_cons (xp_ownG o__law_mark hG (hr.mono (by decide)) (takes_of rfl rfl rfl rfl) (xa_cons (xp_var (i := 2) rfl (.inl rfl)) xa_nil) rfl (len_cons len_nil)) (xa_cons (xp_ix (xp_list false (xa_cons (xp_str (l := [110, 101, 115, 116]) (by decide +kernel)) (xa_cons (xp_str (l := [99, 108, 105, 109, 98]) (by decide +kernel)) xa_nil))) (xp_ownG o__law_take hG (hr.mono (by decide)) (takes_of rfl rfl rfl rfl) (xa_cons (xp_var (i := 2) rfl (.inl rfl)) (xa_cons xp_int xa_nil)) rfl (len_cons (len_cons len_nil))) (fun _ _ => rfl)) xa_nil)) rfl (len_cons (len_cons len_nil))) (xa_cons (xp_ownG o__law_odd hG (hr.mono (by decide)) (takes_of rfl rfl rfl rfl) (xa_cons (xp_var (i := 2) rfl (.inl rfl)) xa_nil) rfl (len_cons len_nil)) (xa_cons (xp_ownG o__law_odd hG (hr.mono (by decide)) (takes_of rfl rfl rfl rfl) (xa_cons (xp_var (i := 2) rfl (.inl rfl)) xa_nil) rfl (len_cons len_nil)) xa_nil))))
    (sms_cons (sm_set (i := 6) sc_law.nd rfl (.inl rfl) (xp_ownG o__law_asked hG (hr.mono (by decide)) (takes_of rfl rfl rfl rfl) (xa_cons (xp_var (i := 4) rfl (.inl rfl)) (xa_cons (xp_var (i := 5) rfl (.inl rfl)) xa_nil)) rfl (len_cons (len_cons len_nil))))
    (sms_cons (sm_if (Xw.t (xw_or (xt_ne hr.units (xp_ix (xp_var (i := 6) rfl (.inl rfl)) xp_int (fun _ _ => rfl)) (xp_str (l := [114, 117, 108, 101]) (by decide +kernel))) (xw_or1 (xt_not (xt_val (xp_ownG o__law_very hG (hr.mono (by decide)) (takes_of rfl rfl rfl rfl) (xa_cons (xp_ix (xp_var (i := 6) rfl (.inl rfl)) xp_int (fun _ _ => rfl)) (xa_cons (xp_var (i := 4) rfl (.inl rfl)) xa_nil)) rfl (len_cons (len_cons len_nil)))))))) (sms_one (sm_ret xp_bl)) sms_nil)
    (sms_cons (sm_setLc (i := 7) false rfl sc_law.nd rfl rfl rfl (wk_range1 rfl T.b_range xp_int) (own := [("at", 8)]) (blk_ok (N := ["script", "k", "box", "rule", "odd", "other", "found", "names", "at", "bad", "whole", "value", "word", "due", "passed", "desk"]) (sc := defScope st_law) (by decide +kernel)) ⟨fun s H C cl fp => (tgt_name (i := 8) (own := [8]) sc_law.nd rfl (.inl rfl)), fun s H C cl fp => xts_nil, fun s H C cl fp => (xp_mul false (xp_str (l := [97]) (by decide +kernel)) (xp_add false xp_int (xp_var (i := 8) rfl (.inl rfl))))⟩)
    (sms_cons (sm_set (i := 8) sc_law.nd rfl (.inl rfl) (xp_ownG o__law_take hG (hr.mono (by decide)) (takes_of rfl rfl rfl rfl) (xa_cons (xp_var (i := 2) rfl (.inl rfl)) (xa_cons xp_int xa_nil)) rfl (len_cons (len_cons len_nil))))
    (sms_cons (sm_set (i := 9) sc_law.nd rfl (.inl rfl) (xp_ix (xp_list false (xa_cons (xp_str (l := []) (by decide +kernel)) (xa_cons (xp_str (l := [65]) (by decide +kernel)) (xa_cons xp_int (xa_cons xp_non (xa_cons (xp_list false (xa_cons (xp_str (l := [97]) (by decide +kernel)) xa_nil)) (xa_cons (xp_mul false (xp_str (l := [97]) (by decide +kernel)) xp_int) xa_nil))))))) (xp_ownG o__law_take hG (hr.mono (by decide)) (takes_of rfl rfl rfl rfl) (xa_cons (xp_var (i := 2) rfl (.inl rfl)) (xa_cons xp_int xa_nil)) rfl (len_cons (len_cons len_nil))) (fun _ _ => rfl)))
    (sms_cons (sm_set (i := 10) sc_law.nd rfl (.inl rfl) (xp_ix (xp_list false (xa_cons (xp_add false (xp_var (i := 7) rfl (.inl rfl)) (xp_list false (xa_cons (xp_str (l := [98]) (by decide +kernel)) xa_nil))) (xa_cons (xp_dict false (xps_cons (xp_str (l := [97]) (by decide +kernel)) xp_int xps_nil)) (xa_cons (xp_str (l := [97, 98]) (by decide +kernel)) (xa_cons xp_non (xa_cons xp_int xa_nil)))))) (xp_ownG o__law_take hG (hr.mono (by decide)) (takes_of rfl rfl rfl rfl) (xa_cons (xp_var (i := 2) rfl (.inl rfl)) (xa_cons xp_int xa_nil)) rfl (len_cons (len_cons len_nil))) (fun _ _ => rfl)))
    (sms_cons (sm_for rfl (passes_of rfl) (wk_seq (xp_list false (xa_cons (xp_list false (xa_cons (xp_var (i := 10) rfl (.inl rfl)) (xa_cons (xp_str (l := [110, 97, 109, 101, 115]) (by decide +kernel)) (xa_cons (xp_var (i := 10) rfl (.inl rfl)) xa_nil)))) (xa_cons (xp_list false (xa_cons (xp_add false (xp_sl false (xp_var (i := 7) rfl (.inl rfl)) xo_none (xo_some (xp_var (i := 8) rfl (.inl rfl)))) (xp_list false (xa_cons (xp_var (i := 9) rfl (.inl rfl)) (xa_cons xp_int xa_nil)))) (xa_cons (xp_str (l := [110, 97, 109, 101]) (by decide +kernel)) (xa_cons (xp_var (i := 9) rfl (.inl rfl)) xa_nil)))) (xa_cons (xp_list false (xa_cons (xp_add false (xp_sl false (xp_var (i := 7) rfl (.inl rfl)) xo_none (xo_some (xp_add false (xp_var (i := 8) rfl (.inl rfl)) xp_int))) (xp_list false (xa_cons (xp_ix (xp_var (i := 7) rfl (.inl rfl)) (xp_var (i := 8) rfl (.inl rfl)) (fun _ _ => rfl)) (xa_cons xp_int xa_nil)))) (xa_cons (xp_str (l := [100, 111, 117, 98, 108, 101, 100]) (by decide +kernel)) (xa_cons (xp_ix (xp_var (i := 7) rfl (.inl rfl)) (xp_var (i := 8) rfl (.inl rfl)) (fun _ _ => rfl)) xa_nil)))) xa_nil))))) (tgt_seq rfl (tgts_cons (tgt_name (i := 11) (own := [11, 12, 13]) sc_law.nd rfl (.inl rfl)) (tgts_cons (tgt_name (i := 12) (own := [11, 12, 13]) sc_law.nd rfl (.inl rfl)) (tgts_cons (tgt_name (i := 13) (own := [11, 12, 13]) sc_law.nd rfl (.inl rfl)) (tgts_nil (own := [11, 12, 13])))))) (sms_one (sm_if (xt_ne hr.units (xp_reprX hG hr hN rfl T.b_repr (xa_cons (xp_ownG o__law_asked hG (hr.mono (by decide)) (takes_of rfl rfl rfl rfl) (xa_cons (xp_var (i := 3) rfl (.inl rfl)) (xa_cons (xp_var (i := 11) rfl (.inl rfl)) xa_nil)) rfl (len_cons (len_cons len_nil))) xa_nil)) (xp_reprX hG hr hN rfl T.b_repr (xa_cons (xp_list false (xa_cons (xp_var (i := 12) rfl (.inl rfl)) (xa_cons (xp_var (i := 13) rfl (.inl rfl)) xa_nil))) xa_nil))) (sms_one (sm_ret xp_bl)) sms_nil)))
    (sms_cons (sm_set (i := 14) sc_law.nd rfl (.inl rfl) (xp_listOf true rfl T.b_list (xp_sl false (xp_var (i := 7) rfl (.inl rfl)) xo_none (xo_some xp_int))))
    (sms_cons (sm_set (i := 15) sc_law.nd rfl (.inl rfl) (xp_make i_Desk hG (hr.mono (by decide)) (takes_of rfl rfl rfl rfl) (xa_cons (xp_var (i := 3) rfl (.inl rfl)) (xa_cons (xp_var (i := 14) rfl (.inl rfl)) xa_nil)) rfl (len_cons (len_cons len_nil))))
    (sms_cons (sm_expr (xp_push (xp_var (i := 14) rfl (.inl rfl)) (xp_str (l := [98]) (by decide +kernel))))
    (sms_cons (sm_if (Xw.t (xw_or (xt_ne hr.units (xp_meth0 o_Book_names hG (hr.mono (by decide)) (takes_of rfl rfl rfl rfl) (xp_meth0 o_Desk_book hG (hr.mono (by decide)) (takes_of rfl rfl rfl rfl) (xp_var (i := 15) rfl (.inl rfl)))) (xp_sl false (xp_var (i := 7) rfl (.inl rfl)) xo_none (xo_some xp_int))) (xw_or (xt_ne hr.units (xp_meth0 o_Desk_log hG (hr.mono (by decide)) (takes_of rfl rfl rfl rfl) (xp_var (i := 15) rfl (.inl rfl))) (xp_list false xa_nil)) (xw_or1 (xt_isNB (xp_eqI o_Rule___eq__ hG (hr.mono (by decide)) (takes_of rfl rfl rfl rfl) (xp_meth0 o_Book_rule hG (hr.mono (by decide)) (takes_of rfl rfl rfl rfl) (xp_meth0 o_Desk_book hG (hr.mono (by decide)) (takes_of rfl rfl rfl rfl) (xp_var (i := 15) rfl (.inl rfl)))) (xp_var (i := 3) rfl (.inl rfl)))))))) (sms_one (sm_ret xp_bl)) sms_nil)
    (sms_one (sm_if (Xw.t (xw_or (xt_ne hr.units (xp_ix (xp_ownG o__law_asked hG (hr.mono (by decide)) (takes_of rfl rfl rfl rfl) (xa_cons (xp_var (i := 3) rfl (.inl rfl)) (xa_cons (xp_var (i := 7) rfl (.inl rfl)) xa_nil)) rfl (len_cons (len_cons len_nil))) xp_int (fun _ _ => rfl)) (xp_str (l := [110, 111, 110, 101]) (by decide +kernel))) (xw_or (xt_ne hr.units (xp_meth0 o_Book_names hG (hr.mono (by decide)) (takes_of rfl rfl rfl rfl) (xp_meth0 o_Desk_book hG (hr.mono (by decide)) (takes_of rfl rfl rfl rfl) (xp_makeJ j_Desk hG (hr.mono (by decide)) (takes_of rfl rfl rfl rfl) (xa_cons (xp_var (i := 3) rfl (.inl rfl)) xa_nil) rfl (len_cons len_nil)))) (xp_list false xa_nil)) (xw_or1 (xt_ne hr.units (xp_meth o_Desk_say hG (hr.mono (by decide)) (takes_of rfl rfl rfl rfl) (xp_make i_Desk hG (hr.mono (by decide)) (takes_of rfl rfl rfl rfl) (xa_cons (xp_var (i := 3) rfl (.inl rfl)) (xa_cons (xp_tupOf rfl T.b_tuple (xp_var (i := 7) rfl (.inl rfl))) xa_nil)) rfl (len_cons (len_cons len_nil))) (xa_cons (xp_str (l := [99, 111, 117, 110, 116]) (by decide +kernel)) xa_nil) (len_cons len_nil)) (xp_str (l := [50, 48, 48]) (by decide +kernel))))))) (sms_one (sm_ret xp_bl)) sms_nil))))))))))))))))
    (sms_one (sm_ret xp_bl)))
set_option maxHeartbeats 0 in
theorem all_mk {l : PySem.W.OpenLaw} {w : World} {K : PySem.W.Frag} {h : Heap} {mg : Str → Option Value} {fa f1 f2 f3 f4 f5 f6 f7 f8 f9 f10 f11 f12 f13 f14 f15 f16 f17 f18 f19 f20 f21 f22 f23 f24 f25 f26 f27 f28 f29 f30 f31 : Addr} (X : K.In h) (G : h.Ns mainGlobals mg) (hfa : mg "law" = some (.ref fa))
    {od1 an1 od2 an2 od3 an3 od4 an4 od5 an5 od6 an6 od7 an7 od8 an8 od9 an9 od10 an10 od11 an11 od12 an12 od13 an13 od14 an14 od15 an15 od16 an16 od17 an17 od18 an18 od19 an19 od20 an20 od21 an21 od22 an22 od23 an23 od24 an24 od25 an25 od26 an26 od27 an27 od28 an28 od29 an29 od30 an30 od31 an31 : Option Addr} {sl1 sl2 sl3 sl4 sl5 sl6 sl7 sl8 sl9 sl10 sl11 sl12 sl13 sl14 sl15 sl16 sl17 sl18 sl19 sl20 sl21 sl22 sl23 sl24 sl25 sl26 sl27 sl28 sl29 sl30 sl31 : Array (Option Value)} {oc1 kV1 dc1 pm1 cd1 ct1 oc2 kV2 dc2 pm2 cd2 ct2 oc3 kV3 dc3 pm3 cd3 ct3 oc4 kV4 dc4 pm4 cd4 ct4 oc5 kV5 dc5 pm5 cd5 ct5 oc6 kV6 dc6 pm6 cd6 ct6 oc7 kV7 dc7 pm7 cd7 ct7 oc8 kV8 dc8 pm8 cd8 ct8 oc9 kV9 dc9 pm9 cd9 ct9 oc10 kV10 dc10 pm10 cd10 ct10 oc11 kV11 dc11 pm11 cd11 ct11 oc12 kV12 dc12 pm12 cd12 ct12 oc13 kV13 dc13 pm13 cd13 ct13 oc14 kV14 dc14 pm14 cd14 ct14 oc15 kV15 dc15 pm15 cd15 ct15 oc16 kV16 dc16 pm16 cd16 ct16 oc17 kV17 dc17 pm17 cd17 ct17 oc18 kV18 dc18 pm18 cd18 ct18 oc19 kV19 dc19 pm19 cd19 ct19 oc20 kV20 dc20 pm20 cd20 ct20 oc21 kV21 dc21 pm21 cd21 ct21 oc22 kV22 dc22 pm22 cd22 ct22 oc23 kV23 dc23 pm23 cd23 ct23 oc24 kV24 dc24 pm24 cd24 ct24 oc25 kV25 dc25 pm25 cd25 ct25 oc26 kV26 dc26 pm26 cd26 ct26 oc27 kV27 dc27 pm27 cd27 ct27 oc28 kV28 dc28 pm28 cd28 ct28 oc29 kV29 dc29 pm29 cd29 ct29 oc30 kV30 dc30 pm30 cd30 ct30 oc31 kV31 dc31 pm31 cd31 ct31 : Value} {t_CLIMB t_FIGURES t_HASH t_LONGEST_MARK t_LONGEST_NAME t_MOST_NAMES t_NEST t_SIGNS t_STAR : Tok} {T6 : Addr} {oT6 : Value} {dT6 : Option Addr} {nT6 : Nat} {sT6 : Array (Option Value)} {uT6_0 : Value} {T7 Ej7 : Addr} {oT7 : Value} {dT7 dj_7 : Option Addr} {nT7 nj7 : Nat} {sT7 sj7 : Array (Option Value)} {C_BadMark : Addr} {cd_BadMark : ClassData} {C_BadName : Addr} {cd_BadName : ClassData} {C_BadNames : Addr} {cd_BadNames : ClassData} {C_BadRule : Addr} {cd_BadRule : ClassData} {C_BadWay : Addr} {cd_BadWay : ClassData} {C_Blurred : Addr} {cd_Blurred : ClassData} {C_Doubled : Addr} {cd_Doubled : ClassData} {C_TailError : Addr} {cd_TailError : ClassData} {C_Book : Addr} {cd_Book : ClassData} {C_Desk : Addr} {cd_Desk : ClassData} {C_Rule : Addr} {cd_Rule : ClassData} {nm_BadMark q_BadMark : Str} {N_BadMark fI_BadMark : Addr} {bs_BadMark bm_BadMark sub_BadMark : List Value} {sn_BadMark : List Str} {ab_BadMark : Bool} {col_BadMark : Option Bool} {dd_BadMark od_BadMark an_BadMark : Option Addr} {k0_BadMark k1_BadMark k2_BadMark k3_BadMark k5_BadMark : Option Value} {sl_BadMark : Array (Option Value)} {oc_BadMark kV_BadMark dc_BadMark pm_BadMark cdv_BadMark ct_BadMark : Value} {nm_BadName q_BadName : Str} {N_BadName fI_BadName : Addr} {bs_BadName bm_BadName sub_BadName : List Value} {sn_BadName : List Str} {ab_BadName : Bool} {col_BadName : Option Bool} {dd_BadName od_BadName an_BadName : Option Addr} {k0_BadName k1_BadName k2_BadName k3_BadName k5_BadName : Option Value} {sl_BadName : Array (Option Value)} {oc_BadName kV_BadName dc_BadName pm_BadName cdv_BadName ct_BadName : Value} {nm_BadNames q_BadNames : Str} {N_BadNames fI_BadNames : Addr} {bs_BadNames bm_BadNames sub_BadNames : List Value} {sn_BadNames : List Str} {ab_BadNames : Bool} {col_BadNames : Option Bool} {dd_BadNames od_BadNames an_BadNames : Option Addr} {k0_BadNames k1_BadNames k2_BadNames k3_BadNames k5_BadNames : Option Value} {sl_BadNames : Array (Option Value)} {oc_BadNames kV_BadNames dc_BadNames pm_BadNames cdv_BadNames ct_BadNames : Value} {nm_BadRule q_BadRule : Str} {N_BadRule fI_BadRule : Addr} {bs_BadRule bm_BadRule sub_BadRule : List Value} {sn_BadRule : List Str} {ab_BadRule : Bool} {col_BadRule : Option Bool} {dd_BadRule od_BadRule an_BadRule : Option Addr} {k0_BadRule k1_BadRule k2_BadRule k3_BadRule k5_BadRule : Option Value} {sl_BadRule : Array (Option Value)} {oc_BadRule kV_BadRule dc_BadRule pm_BadRule cdv_BadRule ct_BadRule : Value} {nm_BadWay q_BadWay : Str} {N_BadWay fI_BadWay : Addr} {bs_BadWay bm_BadWay sub_BadWay : List Value} {sn_BadWay : List Str} {ab_BadWay : Bool} {col_BadWay : Option Bool} {dd_BadWay od_BadWay an_BadWay : Option Addr} {k0_BadWay k1_BadWay k2_BadWay k3_BadWay k5_BadWay : Option Value} {sl_BadWay : Array (Option Value)} {oc_BadWay kV_BadWay dc_BadWay pm_BadWay cdv_BadWay ct_BadWay : Value} {nm_Blurred q_Blurred : Str} {N_Blurred fI_Blurred : Addr} {bs_Blurred bm_Blurred sub_Blurred : List Value} {sn_Blurred : List Str} {ab_Blurred : Bool} {col_Blurred : Option Bool} {dd_Blurred od_Blurred an_Blurred : Option Addr} {k0_Blurred k1_Blurred k2_Blurred k3_Blurred k5_Blurred : Option Value} {sl_Blurred : Array (Option Value)} {oc_Blurred kV_Blurred dc_Blurred pm_Blurred cdv_Blurred ct_Blurred : Value} {nm_Doubled q_Doubled : Str} {N_Doubled fI_Doubled : Addr} {bs_Doubled bm_Doubled sub_Doubled : List Value} {sn_Doubled : List Str} {ab_Doubled : Bool} {col_Doubled : Option Bool} {dd_Doubled od_Doubled an_Doubled : Option Addr} {k0_Doubled k1_Doubled k2_Doubled k3_Doubled k5_Doubled : Option Value} {sl_Doubled : Array (Option Value)} {oc_Doubled kV_Doubled dc_Doubled pm_Doubled cdv_Doubled ct_Doubled : Value}
    (a1 : PySem.W.nsIn K mainGlobals "_law_box" = some (some (.ref f1))) (l1 : K.lookup f1 = some ⟨oc1, od1, .func (PySem.W.fnOf "_law_box" "_law_box" (defArgs st__law_box) (defBody st__law_box) (defScope st__law_box) .none kV1 dc1 pm1 an1 cd1 ct1), sl1⟩) (c1 : PySem.W.codeIn K cd1 "_law_box" = true) (k1 : PySem.W.keepIn K (.ref f1) = true)
    (a2 : PySem.W.nsIn K mainGlobals "need_rule" = some (some (.ref f2))) (l2 : K.lookup f2 = some ⟨oc2, od2, .func (PySem.W.fnOf "need_rule" "need_rule" (defArgs st_need_rule) (defBody st_need_rule) (defScope st_need_rule) .none kV2 dc2 pm2 an2 cd2 ct2), sl2⟩) (c2 : PySem.W.codeIn K cd2 "need_rule" = true) (k2 : PySem.W.keepIn K (.ref f2) = true)
    (a3 : PySem.W.nsIn K mainGlobals "is_list" = some (some (.ref f3))) (l3 : K.lookup f3 = some ⟨oc3, od3, .func (PySem.W.fnOf "is_list" "is_list" (defArgs st_is_list) (defBody st_is_list) (defScope st_is_list) .none kV3 dc3 pm3 an3 cd3 ct3), sl3⟩) (c3 : PySem.W.codeIn K cd3 "is_list" = true) (k3 : PySem.W.keepIn K (.ref f3) = true)
    (a4 : PySem.W.nsIn K mainGlobals "is_name" = some (some (.ref f4))) (l4 : K.lookup f4 = some ⟨oc4, od4, .func (PySem.W.fnOf "is_name" "is_name" (defArgs st_is_name) (defBody st_is_name) (defScope st_is_name) .none kV4 dc4 pm4 an4 cd4 ct4), sl4⟩) (c4 : PySem.W.codeIn K cd4 "is_name" = true) (k4 : PySem.W.keepIn K (.ref f4) = true)
    (a5 : PySem.W.nsIn K mainGlobals "need_unlike" = some (some (.ref f5))) (l5 : K.lookup f5 = some ⟨oc5, od5, .func (PySem.W.fnOf "need_unlike" "need_unlike" (defArgs st_need_unlike) (defBody st_need_unlike) (defScope st_need_unlike) .none kV5 dc5 pm5 an5 cd5 ct5), sl5⟩) (c5 : PySem.W.codeIn K cd5 "need_unlike" = true) (k5 : PySem.W.keepIn K (.ref f5) = true)
    (y6 : PySem.W.isFn K (.ref f6) = true) (a6 : PySem.W.findIn K (.ref C_Book) "__init__" = some (some (.ref f6))) (l6 : K.lookup f6 = some ⟨oc6, od6, .func (PySem.W.fnOf "__init__" "Book.__init__" (defArgs st_Book___init__) (defBody st_Book___init__) (defScope st_Book___init__) (.ref T6) kV6 dc6 pm6 an6 cd6 ct6), sl6⟩) (dt6 : K.lookup T6 = some ⟨oT6, dT6, .seq ([uT6_0] : List Value).toArray nT6, sT6⟩) (c6 : PySem.W.codeIn K cd6 "Book.__init__" = true) (k6 : PySem.W.keepIn K (.ref f6) = true)
    (y7 : PySem.W.isFn K (.ref f7) = true) (a7 : PySem.W.findIn K (.ref C_Desk) "__init__" = some (some (.ref f7))) (l7 : K.lookup f7 = some ⟨oc7, od7, .func (PySem.W.fnOf "__init__" "Desk.__init__" (defArgs st_Desk___init__) (defBody st_Desk___init__) (defScope st_Desk___init__) (.ref T7) kV7 dc7 pm7 an7 cd7 ct7), sl7⟩) (dt7 : K.lookup T7 = some ⟨oT7, dT7, .seq ([.ref Ej7] : List Value).toArray nT7, sT7⟩) (dj7 : K.lookup Ej7 = some ⟨.type "tuple", dj_7, .seq #[] nj7, sj7⟩) (c7 : PySem.W.codeIn K cd7 "Desk.__init__" = true) (k7 : PySem.W.keepIn K (.ref f7) = true)
    (a8 : PySem.W.nsIn K mainGlobals "_law_asked" = some (some (.ref f8))) (l8 : K.lookup f8 = some ⟨oc8, od8, .func (PySem.W.fnOf "_law_asked" "_law_asked" (defArgs st__law_asked) (defBody st__law_asked) (defScope st__law_asked) .none kV8 dc8 pm8 an8 cd8 ct8), sl8⟩) (c8 : PySem.W.codeIn K cd8 "_law_asked" = true) (k8 : PySem.W.keepIn K (.ref f8) = true)
    (a9 : PySem.W.nsIn K mainGlobals "_law_take" = some (some (.ref f9))) (l9 : K.lookup f9 = some ⟨oc9, od9, .func (PySem.W.fnOf "_law_take" "_law_take" (defArgs st__law_take) (defBody st__law_take) (defScope st__law_take) .none kV9 dc9 pm9 an9 cd9 ct9), sl9⟩) (c9 : PySem.W.codeIn K cd9 "_law_take" = true) (k9 : PySem.W.keepIn K (.ref f9) = true)
    (a10 : PySem.W.nsIn K mainGlobals "_law_cell" = some (some (.ref f10))) (l10 : K.lookup f10 = some ⟨oc10, od10, .func (PySem.W.fnOf "_law_cell" "_law_cell" (defArgs st__law_cell) (defBody st__law_cell) (defScope st__law_cell) .none kV10 dc10 pm10 an10 cd10 ct10), sl10⟩) (c10 : PySem.W.codeIn K cd10 "_law_cell" = true) (k10 : PySem.W.keepIn K (.ref f10) = true)
    (a11 : PySem.W.nsIn K mainGlobals "is_mark" = some (some (.ref f11))) (l11 : K.lookup f11 = some ⟨oc11, od11, .func (PySem.W.fnOf "is_mark" "is_mark" (defArgs st_is_mark) (defBody st_is_mark) (defScope st_is_mark) .none kV11 dc11 pm11 an11 cd11 ct11), sl11⟩) (c11 : PySem.W.codeIn K cd11 "is_mark" = true) (k11 : PySem.W.keepIn K (.ref f11) = true)
    (a12 : PySem.W.nsIn K mainGlobals "need_mark" = some (some (.ref f12))) (l12 : K.lookup f12 = some ⟨oc12, od12, .func (PySem.W.fnOf "need_mark" "need_mark" (defArgs st_need_mark) (defBody st_need_mark) (defScope st_need_mark) .none kV12 dc12 pm12 an12 cd12 ct12), sl12⟩) (c12 : PySem.W.codeIn K cd12 "need_mark" = true) (k12 : PySem.W.keepIn K (.ref f12) = true)
    (a13 : PySem.W.nsIn K mainGlobals "parts" = some (some (.ref f13))) (l13 : K.lookup f13 = some ⟨oc13, od13, .func (PySem.W.fnOf "parts" "parts" (defArgs st_parts) (defBody st_parts) (defScope st_parts) .none kV13 dc13 pm13 an13 cd13 ct13), sl13⟩) (c13 : PySem.W.codeIn K cd13 "parts" = true) (k13 : PySem.W.keepIn K (.ref f13) = true)
    (a14 : PySem.W.nsIn K mainGlobals "is_clear" = some (some (.ref f14))) (l14 : K.lookup f14 = some ⟨oc14, od14, .func (PySem.W.fnOf "is_clear" "is_clear" (defArgs st_is_clear) (defBody st_is_clear) (defScope st_is_clear) .none kV14 dc14 pm14 an14 cd14 ct14), sl14⟩) (c14 : PySem.W.codeIn K cd14 "is_clear" = true) (k14 : PySem.W.keepIn K (.ref f14) = true)
    (a15 : PySem.W.nsIn K mainGlobals "name_first" = some (some (.ref f15))) (l15 : K.lookup f15 = some ⟨oc15, od15, .func (PySem.W.fnOf "name_first" "name_first" (defArgs st_name_first) (defBody st_name_first) (defScope st_name_first) .none kV15 dc15 pm15 an15 cd15 ct15), sl15⟩) (c15 : PySem.W.codeIn K cd15 "name_first" = true) (k15 : PySem.W.keepIn K (.ref f15) = true)
    (a16 : PySem.W.nsIn K mainGlobals "two_readings" = some (some (.ref f16))) (l16 : K.lookup f16 = some ⟨oc16, od16, .func (PySem.W.fnOf "two_readings" "two_readings" (defArgs st_two_readings) (defBody st_two_readings) (defScope st_two_readings) .none kV16 dc16 pm16 an16 cd16 ct16), sl16⟩) (c16 : PySem.W.codeIn K cd16 "two_readings" = true) (k16 : PySem.W.keepIn K (.ref f16) = true)
    (a17 : PySem.W.nsIn K mainGlobals "need_clear" = some (some (.ref f17))) (l17 : K.lookup f17 = some ⟨oc17, od17, .func (PySem.W.fnOf "need_clear" "need_clear" (defArgs st_need_clear) (defBody st_need_clear) (defScope st_need_clear) .none kV17 dc17 pm17 an17 cd17 ct17), sl17⟩) (c17 : PySem.W.codeIn K cd17 "need_clear" = true) (k17 : PySem.W.keepIn K (.ref f17) = true)
    (y18 : PySem.W.isFn K (.ref f18) = true) (a18 : PySem.W.findIn K (.ref C_Rule) "__init__" = some (some (.ref f18))) (l18 : K.lookup f18 = some ⟨oc18, od18, .func (PySem.W.fnOf "__init__" "Rule.__init__" (defArgs st_Rule___init__) (defBody st_Rule___init__) (defScope st_Rule___init__) .none kV18 dc18 pm18 an18 cd18 ct18), sl18⟩) (c18 : PySem.W.codeIn K cd18 "Rule.__init__" = true) (k18 : PySem.W.keepIn K (.ref f18) = true)
    (a19 : PySem.W.nsIn K mainGlobals "_law_odd" = some (some (.ref f19))) (l19 : K.lookup f19 = some ⟨oc19, od19, .func (PySem.W.fnOf "_law_odd" "_law_odd" (defArgs st__law_odd) (defBody st__law_odd) (defScope st__law_odd) .none kV19 dc19 pm19 an19 cd19 ct19), sl19⟩) (c19 : PySem.W.codeIn K cd19 "_law_odd" = true) (k19 : PySem.W.keepIn K (.ref f19) = true)
    (a20 : PySem.W.nsIn K mainGlobals "_law_signs" = some (some (.ref f20))) (l20 : K.lookup f20 = some ⟨oc20, od20, .func (PySem.W.fnOf "_law_signs" "_law_signs" (defArgs st__law_signs) (defBody st__law_signs) (defScope st__law_signs) .none kV20 dc20 pm20 an20 cd20 ct20), sl20⟩) (c20 : PySem.W.codeIn K cd20 "_law_signs" = true) (k20 : PySem.W.keepIn K (.ref f20) = true)
    (a21 : PySem.W.nsIn K mainGlobals "_law_mark" = some (some (.ref f21))) (l21 : K.lookup f21 = some ⟨oc21, od21, .func (PySem.W.fnOf "_law_mark" "_law_mark" (defArgs st__law_mark) (defBody st__law_mark) (defScope st__law_mark) .none kV21 dc21 pm21 an21 cd21 ct21), sl21⟩) (c21 : PySem.W.codeIn K cd21 "_law_mark" = true) (k21 : PySem.W.keepIn K (.ref f21) = true)
    (a22 : PySem.W.nsIn K mainGlobals "_law_very" = some (some (.ref f22))) (l22 : K.lookup f22 = some ⟨oc22, od22, .func (PySem.W.fnOf "_law_very" "_law_very" (defArgs st__law_very) (defBody st__law_very) (defScope st__law_very) .none kV22 dc22 pm22 an22 cd22 ct22), sl22⟩) (c22 : PySem.W.codeIn K cd22 "_law_very" = true) (k22 : PySem.W.keepIn K (.ref f22) = true)
    (y23 : PySem.W.isFn K (.ref f23) = true) (a23 : PySem.W.findIn K (.ref C_Book) "names" = some (some (.ref f23))) (l23 : K.lookup f23 = some ⟨oc23, od23, .func (PySem.W.fnOf "names" "Book.names" (defArgs st_Book_names) (defBody st_Book_names) (defScope st_Book_names) .none kV23 dc23 pm23 an23 cd23 ct23), sl23⟩) (c23 : PySem.W.codeIn K cd23 "Book.names" = true) (k23 : PySem.W.keepIn K (.ref f23) = true)
    (y24 : PySem.W.isFn K (.ref f24) = true) (a24 : PySem.W.findIn K (.ref C_Desk) "log" = some (some (.ref f24))) (l24 : K.lookup f24 = some ⟨oc24, od24, .func (PySem.W.fnOf "log" "Desk.log" (defArgs st_Desk_log) (defBody st_Desk_log) (defScope st_Desk_log) .none kV24 dc24 pm24 an24 cd24 ct24), sl24⟩) (c24 : PySem.W.codeIn K cd24 "Desk.log" = true) (k24 : PySem.W.keepIn K (.ref f24) = true)
    (y25 : PySem.W.isFn K (.ref f25) = true) (a25 : PySem.W.findIn K (.ref C_Rule) "__eq__" = some (some (.ref f25))) (l25 : K.lookup f25 = some ⟨oc25, od25, .func (PySem.W.fnOf "__eq__" "Rule.__eq__" (defArgs st_Rule___eq__) (defBody st_Rule___eq__) (defScope st_Rule___eq__) .none kV25 dc25 pm25 an25 cd25 ct25), sl25⟩) (c25 : PySem.W.codeIn K cd25 "Rule.__eq__" = true) (k25 : PySem.W.keepIn K (.ref f25) = true)
    (y26 : PySem.W.isFn K (.ref f26) = true) (a26 : PySem.W.findIn K (.ref C_Book) "__len__" = some (some (.ref f26))) (l26 : K.lookup f26 = some ⟨oc26, od26, .func (PySem.W.fnOf "__len__" "Book.__len__" (defArgs st_Book___len__) (defBody st_Book___len__) (defScope st_Book___len__) .none kV26 dc26 pm26 an26 cd26 ct26), sl26⟩) (c26 : PySem.W.codeIn K cd26 "Book.__len__" = true) (k26 : PySem.W.keepIn K (.ref f26) = true)
    (y27 : PySem.W.isFn K (.ref f27) = true) (a27 : PySem.W.findIn K (.ref C_Desk) "say" = some (some (.ref f27))) (l27 : K.lookup f27 = some ⟨oc27, od27, .func (PySem.W.fnOf "say" "Desk.say" (defArgs st_Desk_say) (defBody st_Desk_say) (defScope st_Desk_say) .none kV27 dc27 pm27 an27 cd27 ct27), sl27⟩) (c27 : PySem.W.codeIn K cd27 "Desk.say" = true) (k27 : PySem.W.keepIn K (.ref f27) = true)
    (y28 : PySem.W.isFn K (.ref f28) = true) (a28 : PySem.W.findIn K (.ref C_Book) "rule" = some (some (.ref f28))) (l28 : K.lookup f28 = some ⟨oc28, od28, .func (PySem.W.fnOf "rule" "Book.rule" (defArgs st_Book_rule) (defBody st_Book_rule) (defScope st_Book_rule) .none kV28 dc28 pm28 an28 cd28 ct28), sl28⟩) (c28 : PySem.W.codeIn K cd28 "Book.rule" = true) (k28 : PySem.W.keepIn K (.ref f28) = true)
    (y29 : PySem.W.isFn K (.ref f29) = true) (a29 : PySem.W.findIn K (.ref C_Book) "copied" = some (some (.ref f29))) (l29 : K.lookup f29 = some ⟨oc29, od29, .func (PySem.W.fnOf "copied" "Book.copied" (defArgs st_Book_copied) (defBody st_Book_copied) (defScope st_Book_copied) .none kV29 dc29 pm29 an29 cd29 ct29), sl29⟩) (c29 : PySem.W.codeIn K cd29 "Book.copied" = true) (k29 : PySem.W.keepIn K (.ref f29) = true)
    (y30 : PySem.W.isFn K (.ref f30) = true) (a30 : PySem.W.findIn K (.ref C_Desk) "book" = some (some (.ref f30))) (l30 : K.lookup f30 = some ⟨oc30, od30, .func (PySem.W.fnOf "book" "Desk.book" (defArgs st_Desk_book) (defBody st_Desk_book) (defScope st_Desk_book) .none kV30 dc30 pm30 an30 cd30 ct30), sl30⟩) (c30 : PySem.W.codeIn K cd30 "Desk.book" = true) (k30 : PySem.W.keepIn K (.ref f30) = true)
    (a31 : PySem.W.nsIn K mainGlobals "law" = some (some (.ref f31))) (l31 : K.lookup f31 = some ⟨oc31, od31, .func (PySem.W.fnOf "law" "law" (defArgs st_law) (defBody st_law) (defScope st_law) .none kV31 dc31 pm31 an31 cd31 ct31), sl31⟩) (c31 : PySem.W.codeIn K cd31 "law" = true) (k31 : PySem.W.keepIn K (.ref f31) = true)
    (n_BadMark : PySem.W.nsIn K mainGlobals "BadMark" = some (some (.ref C_BadMark))) (e_BadMark : PySem.W.subIn K (.ref C_BadMark) (.type "BaseException") = some true) (t_BadMark : PySem.W.typeIn K (.ref C_BadMark) = some (.type "type")) (d_BadMark : PySem.W.clsIn K C_BadMark = some cd_BadMark)
    (n_BadName : PySem.W.nsIn K mainGlobals "BadName" = some (some (.ref C_BadName))) (e_BadName : PySem.W.subIn K (.ref C_BadName) (.type "BaseException") = some true) (t_BadName : PySem.W.typeIn K (.ref C_BadName) = some (.type "type")) (d_BadName : PySem.W.clsIn K C_BadName = some cd_BadName)
    (n_BadNames : PySem.W.nsIn K mainGlobals "BadNames" = some (some (.ref C_BadNames))) (e_BadNames : PySem.W.subIn K (.ref C_BadNames) (.type "BaseException") = some true) (t_BadNames : PySem.W.typeIn K (.ref C_BadNames) = some (.type "type")) (d_BadNames : PySem.W.clsIn K C_BadNames = some cd_BadNames)
    (n_BadRule : PySem.W.nsIn K mainGlobals "BadRule" = some (some (.ref C_BadRule))) (e_BadRule : PySem.W.subIn K (.ref C_BadRule) (.type "BaseException") = some true) (t_BadRule : PySem.W.typeIn K (.ref C_BadRule) = some (.type "type")) (d_BadRule : PySem.W.clsIn K C_BadRule = some cd_BadRule)
    (n_BadWay : PySem.W.nsIn K mainGlobals "BadWay" = some (some (.ref C_BadWay))) (e_BadWay : PySem.W.subIn K (.ref C_BadWay) (.type "BaseException") = some true) (t_BadWay : PySem.W.typeIn K (.ref C_BadWay) = some (.type "type")) (d_BadWay : PySem.W.clsIn K C_BadWay = some cd_BadWay)
    (n_Blurred : PySem.W.nsIn K mainGlobals "Blurred" = some (some (.ref C_Blurred))) (e_Blurred : PySem.W.subIn K (.ref C_Blurred) (.type "BaseException") = some true) (t_Blurred : PySem.W.typeIn K (.ref C_Blurred) = some (.type "type")) (d_Blurred : PySem.W.clsIn K C_Blurred = some cd_Blurred)
    (n_Doubled : PySem.W.nsIn K mainGlobals "Doubled" = some (some (.ref C_Doubled))) (e_Doubled : PySem.W.subIn K (.ref C_Doubled) (.type "BaseException") = some true) (t_Doubled : PySem.W.typeIn K (.ref C_Doubled) = some (.type "type")) (d_Doubled : PySem.W.clsIn K C_Doubled = some cd_Doubled)
    (n_TailError : PySem.W.nsIn K mainGlobals "TailError" = some (some (.ref C_TailError))) (e_TailError : PySem.W.subIn K (.ref C_TailError) (.type "BaseException") = some true) (t_TailError : PySem.W.typeIn K (.ref C_TailError) = some (.type "type")) (d_TailError : PySem.W.clsIn K C_TailError = some cd_TailError)
    (n_Book : PySem.W.nsIn K mainGlobals "Book" = some (some (.ref C_Book))) (t_Book : PySem.W.typeIn K (.ref C_Book) = some (.type "type")) (d_Book : PySem.W.clsIn K C_Book = some cd_Book)
    (pg_Book : PySem.W.plainGet K C_Book Str.empty = true) (hd_Book : PySem.W.hasDictIn K C_Book = true) (po_Book : PySem.W.plainOver K C_Book = true) (sa_Book : PySem.W.findIn K (.ref C_Book) "__setattr__" = some (some (.builtin "object.__setattr__")))
    (mk_Book : PySem.W.makesIn K C_Book = true) (kp_Book : PySem.W.keepIn K (.ref C_Book) = true)
    (fl_Book_book_names : PySem.W.findIn K (.ref C_Book) "book_names" = some none)
    (fl_Book_book_rule : PySem.W.findIn K (.ref C_Book) "book_rule" = some none)
    (n_Desk : PySem.W.nsIn K mainGlobals "Desk" = some (some (.ref C_Desk))) (t_Desk : PySem.W.typeIn K (.ref C_Desk) = some (.type "type")) (d_Desk : PySem.W.clsIn K C_Desk = some cd_Desk)
    (pg_Desk : PySem.W.plainGet K C_Desk Str.empty = true) (hd_Desk : PySem.W.hasDictIn K C_Desk = true) (po_Desk : PySem.W.plainOver K C_Desk = true) (sa_Desk : PySem.W.findIn K (.ref C_Desk) "__setattr__" = some (some (.builtin "object.__setattr__")))
    (mk_Desk : PySem.W.makesIn K C_Desk = true) (kp_Desk : PySem.W.keepIn K (.ref C_Desk) = true)
    (fl_Desk_deeds_done : PySem.W.findIn K (.ref C_Desk) "deeds_done" = some none)
    (fl_Desk_desk_book : PySem.W.findIn K (.ref C_Desk) "desk_book" = some none)
    (fl_Desk_elder_names : PySem.W.findIn K (.ref C_Desk) "elder_names" = some none)
    (n_Rule : PySem.W.nsIn K mainGlobals "Rule" = some (some (.ref C_Rule))) (t_Rule : PySem.W.typeIn K (.ref C_Rule) = some (.type "type")) (d_Rule : PySem.W.clsIn K C_Rule = some cd_Rule)
    (pg_Rule : PySem.W.plainGet K C_Rule Str.empty = true) (hd_Rule : PySem.W.hasDictIn K C_Rule = true) (po_Rule : PySem.W.plainOver K C_Rule = true) (sa_Rule : PySem.W.findIn K (.ref C_Rule) "__setattr__" = some (some (.builtin "object.__setattr__")))
    (mk_Rule : PySem.W.makesIn K C_Rule = true) (kp_Rule : PySem.W.keepIn K (.ref C_Rule) = true)
    (fl_Rule_rule_mark : PySem.W.findIn K (.ref C_Rule) "rule_mark" = some none)
    (fl_Rule_rule_way : PySem.W.findIn K (.ref C_Rule) "rule_way" = some none)
    (ha_Rule : PySem.W.findIn K (.ref C_Rule) "__class__" = some (some (.builtin "object.__class__"))) (hn_Rule : PySem.W.specialIn K (.builtin "object.__class__") "__get__" = some (some (.builtin "getset_descriptor.__get__"))) (ht_Rule : PySem.W.takesIn K (.builtin "object.__class__") = some true) (hm_Rule : PySem.W.mroIn K C_Rule (.type "object") = some true)
    (s_Rule_NoneType : PySem.W.subIn K (.type "NoneType") (.ref C_Rule) = some false) (s_Rule_bool : PySem.W.subIn K (.type "bool") (.ref C_Rule) = some false) (s_Rule_int : PySem.W.subIn K (.type "int") (.ref C_Rule) = some false) (s_Rule_str : PySem.W.subIn K (.type "str") (.ref C_Rule) = some false) (s_Rule_list : PySem.W.subIn K (.type "list") (.ref C_Rule) = some false) (s_Rule_tuple : PySem.W.subIn K (.type "tuple") (.ref C_Rule) = some false) (s_Rule_dict : PySem.W.subIn K (.type "dict") (.ref C_Rule) = some false)
    (bg_TailError : PySem.W.specialIn K (.ref C_TailError) "__getattribute__" = some (some (.builtin "type.__getattribute__"))) (br_TailError : PySem.W.readsIn K C_TailError (.type "type") = true) (bi_TailError : PySem.W.findCls K (.ref C_TailError) (.type "type") "__init__" = some (.val (.builtin "ValueError.__init__")))
    (l_BadMark : K.lookup C_BadMark = some (excClassObj nm_BadMark q_BadMark C_BadMark N_BadMark bs_BadMark bm_BadMark true sn_BadMark sub_BadMark ab_BadMark col_BadMark dd_BadMark k0_BadMark k1_BadMark k2_BadMark k3_BadMark k5_BadMark "ValueError.__new__")) (v_BadMark : PySem.HandSPX.refsVE bm_BadMark = true) (s_BadMark : PySem.W.findIn K (.ref C_BadMark) "__setattr__" = some (some (.builtin "object.__setattr__"))) (k_BadMark : PySem.W.keepIn K (.ref C_BadMark) = true)
    (i_BadMark : PySem.W.findIn K (.ref C_BadMark) "__init__" = some (some (.ref fI_BadMark))) (j_BadMark : PySem.W.typeIn K (.ref fI_BadMark) = some (.type "function")) (il_BadMark : K.lookup fI_BadMark = some ⟨oc_BadMark, od_BadMark, .func (PySem.W.fnOf "__init__" "BadMark.__init__" (defArgs si_BadMark) (defBody si_BadMark) (defScope si_BadMark) .none kV_BadMark dc_BadMark pm_BadMark an_BadMark cdv_BadMark ct_BadMark), sl_BadMark⟩) (ic_BadMark : PySem.W.codeIn K cdv_BadMark "BadMark.__init__" = true) (ik_BadMark : PySem.W.keepIn K (.ref fI_BadMark) = true)
    (xg_BadMark : PySem.W.findIn K (.ref C_BadMark) "__getattribute__" = some (some (.builtin "BaseException.__getattribute__"))) (xn_BadMark : PySem.W.findIn K (.ref C_BadMark) "__getattr__" = some none) (xh_BadMark : PySem.W.hasDictIn K C_BadMark = true) (f0_BadMark : PySem.W.findIn K (.ref C_BadMark) "found" = some none)
    (l_BadName : K.lookup C_BadName = some (excClassObj nm_BadName q_BadName C_BadName N_BadName bs_BadName bm_BadName true sn_BadName sub_BadName ab_BadName col_BadName dd_BadName k0_BadName k1_BadName k2_BadName k3_BadName k5_BadName "ValueError.__new__")) (v_BadName : PySem.HandSPX.refsVE bm_BadName = true) (s_BadName : PySem.W.findIn K (.ref C_BadName) "__setattr__" = some (some (.builtin "object.__setattr__"))) (k_BadName : PySem.W.keepIn K (.ref C_BadName) = true)
    (i_BadName : PySem.W.findIn K (.ref C_BadName) "__init__" = some (some (.ref fI_BadName))) (j_BadName : PySem.W.typeIn K (.ref fI_BadName) = some (.type "function")) (il_BadName : K.lookup fI_BadName = some ⟨oc_BadName, od_BadName, .func (PySem.W.fnOf "__init__" "BadName.__init__" (defArgs si_BadName) (defBody si_BadName) (defScope si_BadName) .none kV_BadName dc_BadName pm_BadName an_BadName cdv_BadName ct_BadName), sl_BadName⟩) (ic_BadName : PySem.W.codeIn K cdv_BadName "BadName.__init__" = true) (ik_BadName : PySem.W.keepIn K (.ref fI_BadName) = true)
    (xg_BadName : PySem.W.findIn K (.ref C_BadName) "__getattribute__" = some (some (.builtin "BaseException.__getattribute__"))) (xn_BadName : PySem.W.findIn K (.ref C_BadName) "__getattr__" = some none) (xh_BadName : PySem.W.hasDictIn K C_BadName = true) (f0_BadName : PySem.W.findIn K (.ref C_BadName) "found" = some none)
    (l_BadNames : K.lookup C_BadNames = some (excClassObj nm_BadNames q_BadNames C_BadNames N_BadNames bs_BadNames bm_BadNames true sn_BadNames sub_BadNames ab_BadNames col_BadNames dd_BadNames k0_BadNames k1_BadNames k2_BadNames k3_BadNames k5_BadNames "ValueError.__new__")) (v_BadNames : PySem.HandSPX.refsVE bm_BadNames = true) (s_BadNames : PySem.W.findIn K (.ref C_BadNames) "__setattr__" = some (some (.builtin "object.__setattr__"))) (k_BadNames : PySem.W.keepIn K (.ref C_BadNames) = true)
    (i_BadNames : PySem.W.findIn K (.ref C_BadNames) "__init__" = some (some (.ref fI_BadNames))) (j_BadNames : PySem.W.typeIn K (.ref fI_BadNames) = some (.type "function")) (il_BadNames : K.lookup fI_BadNames = some ⟨oc_BadNames, od_BadNames, .func (PySem.W.fnOf "__init__" "BadNames.__init__" (defArgs si_BadNames) (defBody si_BadNames) (defScope si_BadNames) .none kV_BadNames dc_BadNames pm_BadNames an_BadNames cdv_BadNames ct_BadNames), sl_BadNames⟩) (ic_BadNames : PySem.W.codeIn K cdv_BadNames "BadNames.__init__" = true) (ik_BadNames : PySem.W.keepIn K (.ref fI_BadNames) = true)
    (xg_BadNames : PySem.W.findIn K (.ref C_BadNames) "__getattribute__" = some (some (.builtin "BaseException.__getattribute__"))) (xn_BadNames : PySem.W.findIn K (.ref C_BadNames) "__getattr__" = some none) (xh_BadNames : PySem.W.hasDictIn K C_BadNames = true) (f0_BadNames : PySem.W.findIn K (.ref C_BadNames) "found" = some none)
    (l_BadRule : K.lookup C_BadRule = some (excClassObj nm_BadRule q_BadRule C_BadRule N_BadRule bs_BadRule bm_BadRule true sn_BadRule sub_BadRule ab_BadRule col_BadRule dd_BadRule k0_BadRule k1_BadRule k2_BadRule k3_BadRule k5_BadRule "ValueError.__new__")) (v_BadRule : PySem.HandSPX.refsVE bm_BadRule = true) (s_BadRule : PySem.W.findIn K (.ref C_BadRule) "__setattr__" = some (some (.builtin "object.__setattr__"))) (k_BadRule : PySem.W.keepIn K (.ref C_BadRule) = true)
    (i_BadRule : PySem.W.findIn K (.ref C_BadRule) "__init__" = some (some (.ref fI_BadRule))) (j_BadRule : PySem.W.typeIn K (.ref fI_BadRule) = some (.type "function")) (il_BadRule : K.lookup fI_BadRule = some ⟨oc_BadRule, od_BadRule, .func (PySem.W.fnOf "__init__" "BadRule.__init__" (defArgs si_BadRule) (defBody si_BadRule) (defScope si_BadRule) .none kV_BadRule dc_BadRule pm_BadRule an_BadRule cdv_BadRule ct_BadRule), sl_BadRule⟩) (ic_BadRule : PySem.W.codeIn K cdv_BadRule "BadRule.__init__" = true) (ik_BadRule : PySem.W.keepIn K (.ref fI_BadRule) = true)
    (xg_BadRule : PySem.W.findIn K (.ref C_BadRule) "__getattribute__" = some (some (.builtin "BaseException.__getattribute__"))) (xn_BadRule : PySem.W.findIn K (.ref C_BadRule) "__getattr__" = some none) (xh_BadRule : PySem.W.hasDictIn K C_BadRule = true) (f0_BadRule : PySem.W.findIn K (.ref C_BadRule) "found" = some none)
    (l_BadWay : K.lookup C_BadWay = some (excClassObj nm_BadWay q_BadWay C_BadWay N_BadWay bs_BadWay bm_BadWay true sn_BadWay sub_BadWay ab_BadWay col_BadWay dd_BadWay k0_BadWay k1_BadWay k2_BadWay k3_BadWay k5_BadWay "ValueError.__new__")) (v_BadWay : PySem.HandSPX.refsVE bm_BadWay = true) (s_BadWay : PySem.W.findIn K (.ref C_BadWay) "__setattr__" = some (some (.builtin "object.__setattr__"))) (k_BadWay : PySem.W.keepIn K (.ref C_BadWay) = true)
    (i_BadWay : PySem.W.findIn K (.ref C_BadWay) "__init__" = some (some (.ref fI_BadWay))) (j_BadWay : PySem.W.typeIn K (.ref fI_BadWay) = some (.type "function")) (il_BadWay : K.lookup fI_BadWay = some ⟨oc_BadWay, od_BadWay, .func (PySem.W.fnOf "__init__" "BadWay.__init__" (defArgs si_BadWay) (defBody si_BadWay) (defScope si_BadWay) .none kV_BadWay dc_BadWay pm_BadWay an_BadWay cdv_BadWay ct_BadWay), sl_BadWay⟩) (ic_BadWay : PySem.W.codeIn K cdv_BadWay "BadWay.__init__" = true) (ik_BadWay : PySem.W.keepIn K (.ref fI_BadWay) = true)
    (xg_BadWay : PySem.W.findIn K (.ref C_BadWay) "__getattribute__" = some (some (.builtin "BaseException.__getattribute__"))) (xn_BadWay : PySem.W.findIn K (.ref C_BadWay) "__getattr__" = some none) (xh_BadWay : PySem.W.hasDictIn K C_BadWay = true) (f0_BadWay : PySem.W.findIn K (.ref C_BadWay) "found" = some none)
    (l_Blurred : K.lookup C_Blurred = some (excClassObj nm_Blurred q_Blurred C_Blurred N_Blurred bs_Blurred bm_Blurred true sn_Blurred sub_Blurred ab_Blurred col_Blurred dd_Blurred k0_Blurred k1_Blurred k2_Blurred k3_Blurred k5_Blurred "ValueError.__new__")) (v_Blurred : PySem.HandSPX.refsVE bm_Blurred = true) (s_Blurred : PySem.W.findIn K (.ref C_Blurred) "__setattr__" = some (some (.builtin "object.__setattr__"))) (k_Blurred : PySem.W.keepIn K (.ref C_Blurred) = true)
    (i_Blurred : PySem.W.findIn K (.ref C_Blurred) "__init__" = some (some (.ref fI_Blurred))) (j_Blurred : PySem.W.typeIn K (.ref fI_Blurred) = some (.type "function")) (il_Blurred : K.lookup fI_Blurred = some ⟨oc_Blurred, od_Blurred, .func (PySem.W.fnOf "__init__" "Blurred.__init__" (defArgs si_Blurred) (defBody si_Blurred) (defScope si_Blurred) .none kV_Blurred dc_Blurred pm_Blurred an_Blurred cdv_Blurred ct_Blurred), sl_Blurred⟩) (ic_Blurred : PySem.W.codeIn K cdv_Blurred "Blurred.__init__" = true) (ik_Blurred : PySem.W.keepIn K (.ref fI_Blurred) = true)
    (xg_Blurred : PySem.W.findIn K (.ref C_Blurred) "__getattribute__" = some (some (.builtin "BaseException.__getattribute__"))) (xn_Blurred : PySem.W.findIn K (.ref C_Blurred) "__getattr__" = some none) (xh_Blurred : PySem.W.hasDictIn K C_Blurred = true) (f0_Blurred : PySem.W.findIn K (.ref C_Blurred) "one" = some none) (f1_Blurred : PySem.W.findIn K (.ref C_Blurred) "other" = some none)
    (l_Doubled : K.lookup C_Doubled = some (excClassObj nm_Doubled q_Doubled C_Doubled N_Doubled bs_Doubled bm_Doubled true sn_Doubled sub_Doubled ab_Doubled col_Doubled dd_Doubled k0_Doubled k1_Doubled k2_Doubled k3_Doubled k5_Doubled "ValueError.__new__")) (v_Doubled : PySem.HandSPX.refsVE bm_Doubled = true) (s_Doubled : PySem.W.findIn K (.ref C_Doubled) "__setattr__" = some (some (.builtin "object.__setattr__"))) (k_Doubled : PySem.W.keepIn K (.ref C_Doubled) = true)
    (i_Doubled : PySem.W.findIn K (.ref C_Doubled) "__init__" = some (some (.ref fI_Doubled))) (j_Doubled : PySem.W.typeIn K (.ref fI_Doubled) = some (.type "function")) (il_Doubled : K.lookup fI_Doubled = some ⟨oc_Doubled, od_Doubled, .func (PySem.W.fnOf "__init__" "Doubled.__init__" (defArgs si_Doubled) (defBody si_Doubled) (defScope si_Doubled) .none kV_Doubled dc_Doubled pm_Doubled an_Doubled cdv_Doubled ct_Doubled), sl_Doubled⟩) (ic_Doubled : PySem.W.codeIn K cdv_Doubled "Doubled.__init__" = true) (ik_Doubled : PySem.W.keepIn K (.ref fI_Doubled) = true)
    (xg_Doubled : PySem.W.findIn K (.ref C_Doubled) "__getattribute__" = some (some (.builtin "BaseException.__getattribute__"))) (xn_Doubled : PySem.W.findIn K (.ref C_Doubled) "__getattr__" = some none) (xh_Doubled : PySem.W.hasDictIn K C_Doubled = true) (f0_Doubled : PySem.W.findIn K (.ref C_Doubled) "found" = some none)
    (p_Doubled_TailError : PySem.W.subIn K (.ref C_Doubled) (.ref C_TailError) = some true)
    (p_Doubled_Doubled : PySem.W.subIn K (.ref C_Doubled) (.ref C_Doubled) = some true)
    (p_Doubled_BadRule : PySem.W.subIn K (.ref C_Doubled) (.ref C_BadRule) = some false)
    (p_Doubled_BadNames : PySem.W.subIn K (.ref C_Doubled) (.ref C_BadNames) = some false)
    (p_Doubled_BadName : PySem.W.subIn K (.ref C_Doubled) (.ref C_BadName) = some false)
    (p_Blurred_TailError : PySem.W.subIn K (.ref C_Blurred) (.ref C_TailError) = some true)
    (p_Blurred_Doubled : PySem.W.subIn K (.ref C_Blurred) (.ref C_Doubled) = some false)
    (p_Blurred_BadRule : PySem.W.subIn K (.ref C_Blurred) (.ref C_BadRule) = some false)
    (p_Blurred_BadNames : PySem.W.subIn K (.ref C_Blurred) (.ref C_BadNames) = some false)
    (p_Blurred_BadName : PySem.W.subIn K (.ref C_Blurred) (.ref C_BadName) = some false)
    (p_BadWay_TailError : PySem.W.subIn K (.ref C_BadWay) (.ref C_TailError) = some true)
    (p_BadWay_Doubled : PySem.W.subIn K (.ref C_BadWay) (.ref C_Doubled) = some false)
    (p_BadWay_BadRule : PySem.W.subIn K (.ref C_BadWay) (.ref C_BadRule) = some false)
    (p_BadWay_BadNames : PySem.W.subIn K (.ref C_BadWay) (.ref C_BadNames) = some false)
    (p_BadWay_BadName : PySem.W.subIn K (.ref C_BadWay) (.ref C_BadName) = some false)
    (p_BadRule_TailError : PySem.W.subIn K (.ref C_BadRule) (.ref C_TailError) = some true)
    (p_BadRule_Doubled : PySem.W.subIn K (.ref C_BadRule) (.ref C_Doubled) = some false)
    (p_BadRule_BadRule : PySem.W.subIn K (.ref C_BadRule) (.ref C_BadRule) = some true)
    (p_BadRule_BadNames : PySem.W.subIn K (.ref C_BadRule) (.ref C_BadNames) = some false)
    (p_BadRule_BadName : PySem.W.subIn K (.ref C_BadRule) (.ref C_BadName) = some false)
    (p_BadNames_TailError : PySem.W.subIn K (.ref C_BadNames) (.ref C_TailError) = some true)
    (p_BadNames_Doubled : PySem.W.subIn K (.ref C_BadNames) (.ref C_Doubled) = some false)
    (p_BadNames_BadRule : PySem.W.subIn K (.ref C_BadNames) (.ref C_BadRule) = some false)
    (p_BadNames_BadNames : PySem.W.subIn K (.ref C_BadNames) (.ref C_BadNames) = some true)
    (p_BadNames_BadName : PySem.W.subIn K (.ref C_BadNames) (.ref C_BadName) = some false)
    (p_BadName_TailError : PySem.W.subIn K (.ref C_BadName) (.ref C_TailError) = some true)
    (p_BadName_Doubled : PySem.W.subIn K (.ref C_BadName) (.ref C_Doubled) = some false)
    (p_BadName_BadRule : PySem.W.subIn K (.ref C_BadName) (.ref C_BadRule) = some false)
    (p_BadName_BadNames : PySem.W.subIn K (.ref C_BadName) (.ref C_BadNames) = some false)
    (p_BadName_BadName : PySem.W.subIn K (.ref C_BadName) (.ref C_BadName) = some true)
    (p_BadMark_TailError : PySem.W.subIn K (.ref C_BadMark) (.ref C_TailError) = some true)
    (p_BadMark_Doubled : PySem.W.subIn K (.ref C_BadMark) (.ref C_Doubled) = some false)
    (p_BadMark_BadRule : PySem.W.subIn K (.ref C_BadMark) (.ref C_BadRule) = some false)
    (p_BadMark_BadNames : PySem.W.subIn K (.ref C_BadMark) (.ref C_BadNames) = some false)
    (p_BadMark_BadName : PySem.W.subIn K (.ref C_BadMark) (.ref C_BadName) = some false)
    (z_all : PySem.W.nsIn K mainGlobals "all" = some none) (z_dict : PySem.W.nsIn K mainGlobals "dict" = some none) (z_int : PySem.W.nsIn K mainGlobals "int" = some none) (z_isinstance : PySem.W.nsIn K mainGlobals "isinstance" = some none) (z_len : PySem.W.nsIn K mainGlobals "len" = some none) (z_list : PySem.W.nsIn K mainGlobals "list" = some none) (z_max : PySem.W.nsIn K mainGlobals "max" = some none) (z_min : PySem.W.nsIn K mainGlobals "min" = some none) (z_range : PySem.W.nsIn K mainGlobals "range" = some none) (z_repr : PySem.W.nsIn K mainGlobals "repr" = some none) (z_set : PySem.W.nsIn K mainGlobals "set" = some none) (z_str : PySem.W.nsIn K mainGlobals "str" = some none) (z_tuple : PySem.W.nsIn K mainGlobals "tuple" = some none) (z_CLIMB : PySem.W.nsIn K mainGlobals "CLIMB" = some (some (.str "climb" t_CLIMB))) (z_FIGURES : PySem.W.nsIn K mainGlobals "FIGURES" = some (some (.str "0123456789" t_FIGURES))) (z_HASH : PySem.W.nsIn K mainGlobals "HASH" = some (some (.str "#" t_HASH))) (z_LONGEST_MARK : PySem.W.nsIn K mainGlobals "LONGEST_MARK" = some (some (.int 12 t_LONGEST_MARK))) (z_LONGEST_NAME : PySem.W.nsIn K mainGlobals "LONGEST_NAME" = some (some (.int 200 t_LONGEST_NAME))) (z_MOST_NAMES : PySem.W.nsIn K mainGlobals "MOST_NAMES" = some (some (.int 200 t_MOST_NAMES))) (z_NEST : PySem.W.nsIn K mainGlobals "NEST" = some (some (.str "nest" t_NEST))) (z_SIGNS : PySem.W.nsIn K mainGlobals "SIGNS" = some (some (.str "abcdefghijklmnopqrstuvwxyz0123456789-_.()" t_SIGNS))) (z_STAR : PySem.W.nsIn K mainGlobals "STAR" = some (some (.str "*" t_STAR)))
    (pure : ∀ ns : List Int, ns.length ≤ 63 → (∀ z ∈ ns, Builtin.Int.intBits z ≤ 1048576) → ∃ cs, m_law [.scr ns] [] = .ok (.bl true) cs) :
    ∃ fd : FuncData, (∀ (s : Shared) (v : Value), BindsTo s fd ⟨[v], []⟩ [("script", v)]) ∧ ∀ base : Heap, K.In base → base.Ns mainGlobals mg → (∃ mm, base.Ns sysModules mm) → FnG l.prog w K mg base 9 fa fd ["script"] (spLaw K) := by
  have e := hfa.symm.trans (PySem.W.mg_of X G a31)
  cases e
  have T : Tx K mg := ⟨PySem.W.mg_none_of X G z_all, PySem.W.mg_none_of X G z_dict, PySem.W.mg_none_of X G z_int, PySem.W.mg_none_of X G z_isinstance, PySem.W.mg_none_of X G z_len, PySem.W.mg_none_of X G z_list, PySem.W.mg_none_of X G z_max, PySem.W.mg_none_of X G z_min, PySem.W.mg_none_of X G z_range, PySem.W.mg_none_of X G z_repr, PySem.W.mg_none_of X G z_set, PySem.W.mg_none_of X G z_str, PySem.W.mg_none_of X G z_tuple, ⟨_, PySem.W.mg_of X G z_CLIMB⟩, ⟨_, PySem.W.mg_of X G z_FIGURES⟩, ⟨_, PySem.W.mg_of X G z_HASH⟩, ⟨_, PySem.W.mg_of X G z_LONGEST_MARK⟩, ⟨_, PySem.W.mg_of X G z_LONGEST_NAME⟩, ⟨_, PySem.W.mg_of X G z_MOST_NAMES⟩, ⟨_, PySem.W.mg_of X G z_NEST⟩, ⟨_, PySem.W.mg_of X G z_SIGNS⟩, ⟨_, PySem.W.mg_of X G z_STAR⟩⟩
  have m_BadMark := PySem.W.mg_of X G n_BadMark
  have m_BadName := PySem.W.mg_of X G n_BadName
  have m_BadNames := PySem.W.mg_of X G n_BadNames
  have m_BadRule := PySem.W.mg_of X G n_BadRule
  have m_BadWay := PySem.W.mg_of X G n_BadWay
  have m_Blurred := PySem.W.mg_of X G n_Blurred
  have m_Doubled := PySem.W.mg_of X G n_Doubled
  have m_TailError := PySem.W.mg_of X G n_TailError
  have m_Book := PySem.W.mg_of X G n_Book
  have CL_Book : Cls K C_Book := ⟨pg_Book, hd_Book, po_Book, sa_Book⟩
  have FL_Book_book_names : FldOk K mg "Book" "book_names" := ⟨_, m_Book, CL_Book, fl_Book_book_names⟩
  have FL_Book_book_rule : FldOk K mg "Book" "book_rule" := ⟨_, m_Book, CL_Book, fl_Book_book_rule⟩
  have m_Desk := PySem.W.mg_of X G n_Desk
  have CL_Desk : Cls K C_Desk := ⟨pg_Desk, hd_Desk, po_Desk, sa_Desk⟩
  have FL_Desk_deeds_done : FldOk K mg "Desk" "deeds_done" := ⟨_, m_Desk, CL_Desk, fl_Desk_deeds_done⟩
  have FL_Desk_desk_book : FldOk K mg "Desk" "desk_book" := ⟨_, m_Desk, CL_Desk, fl_Desk_desk_book⟩
  have FL_Desk_elder_names : FldOk K mg "Desk" "elder_names" := ⟨_, m_Desk, CL_Desk, fl_Desk_elder_names⟩
  have m_Rule := PySem.W.mg_of X G n_Rule
  have CL_Rule : Cls K C_Rule := ⟨pg_Rule, hd_Rule, po_Rule, sa_Rule⟩
  have FL_Rule_rule_mark : FldOk K mg "Rule" "rule_mark" := ⟨_, m_Rule, CL_Rule, fl_Rule_rule_mark⟩
  have FL_Rule_rule_way : FldOk K mg "Rule" "rule_way" := ⟨_, m_Rule, CL_Rule, fl_Rule_rule_way⟩
  have NI_Rule : InsF K mg "Rule" := insF_mk m_Rule CL_Rule ha_Rule hn_Rule ht_Rule hm_Rule d_Rule t_Rule s_Rule_NoneType s_Rule_bool s_Rule_int s_Rule_str s_Rule_list s_Rule_tuple s_Rule_dict
  have B_TailError : BaseC K C_TailError := ⟨bg_TailError, br_TailError, bi_TailError⟩
  have O_BadMark : OexC K C_BadMark := ⟨⟨_, _, _, _, _, _, _, _, _, _, _, _, _, _, _, l_BadMark, v_BadMark⟩, s_BadMark, e_BadMark, t_BadMark, k_BadMark⟩
  have I_BadMark := fun_mk (st := si_BadMark) il_BadMark ic_BadMark ik_BadMark
  have ib_BadMark := I_BadMark.binds (ps := ["self", "found"]) fun _ _ _ _ _ _ us hl => match us, hl with | [_, _], _ => rfl
  have X_BadMark : ∀ base : Heap, ExF l.prog w K mg base "BadMark" ["found"] := fun base => ⟨C_BadMark, fI_BadMark, _, _, O_BadMark, i_BadMark, j_BadMark, init_BadMark I_BadMark O_BadMark B_TailError m_TailError f0_BadMark, ib_BadMark, m_BadMark, xfC_of xg_BadMark xn_BadMark e_BadMark xh_BadMark, fun f hf => by simp only [List.mem_cons, List.not_mem_nil, or_false] at hf; subst hf; exact f0_BadMark⟩
  have O_BadName : OexC K C_BadName := ⟨⟨_, _, _, _, _, _, _, _, _, _, _, _, _, _, _, l_BadName, v_BadName⟩, s_BadName, e_BadName, t_BadName, k_BadName⟩
  have I_BadName := fun_mk (st := si_BadName) il_BadName ic_BadName ik_BadName
  have ib_BadName := I_BadName.binds (ps := ["self", "found"]) fun _ _ _ _ _ _ us hl => match us, hl with | [_, _], _ => rfl
  have X_BadName : ∀ base : Heap, ExF l.prog w K mg base "BadName" ["found"] := fun base => ⟨C_BadName, fI_BadName, _, _, O_BadName, i_BadName, j_BadName, init_BadName I_BadName O_BadName B_TailError m_TailError f0_BadName, ib_BadName, m_BadName, xfC_of xg_BadName xn_BadName e_BadName xh_BadName, fun f hf => by simp only [List.mem_cons, List.not_mem_nil, or_false] at hf; subst hf; exact f0_BadName⟩
  have O_BadNames : OexC K C_BadNames := ⟨⟨_, _, _, _, _, _, _, _, _, _, _, _, _, _, _, l_BadNames, v_BadNames⟩, s_BadNames, e_BadNames, t_BadNames, k_BadNames⟩
  have I_BadNames := fun_mk (st := si_BadNames) il_BadNames ic_BadNames ik_BadNames
  have ib_BadNames := I_BadNames.binds (ps := ["self", "found"]) fun _ _ _ _ _ _ us hl => match us, hl with | [_, _], _ => rfl
  have X_BadNames : ∀ base : Heap, ExF l.prog w K mg base "BadNames" ["found"] := fun base => ⟨C_BadNames, fI_BadNames, _, _, O_BadNames, i_BadNames, j_BadNames, init_BadNames I_BadNames O_BadNames B_TailError m_TailError f0_BadNames, ib_BadNames, m_BadNames, xfC_of xg_BadNames xn_BadNames e_BadNames xh_BadNames, fun f hf => by simp only [List.mem_cons, List.not_mem_nil, or_false] at hf; subst hf; exact f0_BadNames⟩
  have O_BadRule : OexC K C_BadRule := ⟨⟨_, _, _, _, _, _, _, _, _, _, _, _, _, _, _, l_BadRule, v_BadRule⟩, s_BadRule, e_BadRule, t_BadRule, k_BadRule⟩
  have I_BadRule := fun_mk (st := si_BadRule) il_BadRule ic_BadRule ik_BadRule
  have ib_BadRule := I_BadRule.binds (ps := ["self", "found"]) fun _ _ _ _ _ _ us hl => match us, hl with | [_, _], _ => rfl
  have X_BadRule : ∀ base : Heap, ExF l.prog w K mg base "BadRule" ["found"] := fun base => ⟨C_BadRule, fI_BadRule, _, _, O_BadRule, i_BadRule, j_BadRule, init_BadRule I_BadRule O_BadRule B_TailError m_TailError f0_BadRule, ib_BadRule, m_BadRule, xfC_of xg_BadRule xn_BadRule e_BadRule xh_BadRule, fun f hf => by simp only [List.mem_cons, List.not_mem_nil, or_false] at hf; subst hf; exact f0_BadRule⟩
  have O_BadWay : OexC K C_BadWay := ⟨⟨_, _, _, _, _, _, _, _, _, _, _, _, _, _, _, l_BadWay, v_BadWay⟩, s_BadWay, e_BadWay, t_BadWay, k_BadWay⟩
  have I_BadWay := fun_mk (st := si_BadWay) il_BadWay ic_BadWay ik_BadWay
  have ib_BadWay := I_BadWay.binds (ps := ["self", "found"]) fun _ _ _ _ _ _ us hl => match us, hl with | [_, _], _ => rfl
  have X_BadWay : ∀ base : Heap, ExF l.prog w K mg base "BadWay" ["found"] := fun base => ⟨C_BadWay, fI_BadWay, _, _, O_BadWay, i_BadWay, j_BadWay, init_BadWay I_BadWay O_BadWay B_TailError m_TailError f0_BadWay, ib_BadWay, m_BadWay, xfC_of xg_BadWay xn_BadWay e_BadWay xh_BadWay, fun f hf => by simp only [List.mem_cons, List.not_mem_nil, or_false] at hf; subst hf; exact f0_BadWay⟩
  have O_Blurred : OexC K C_Blurred := ⟨⟨_, _, _, _, _, _, _, _, _, _, _, _, _, _, _, l_Blurred, v_Blurred⟩, s_Blurred, e_Blurred, t_Blurred, k_Blurred⟩
  have I_Blurred := fun_mk (st := si_Blurred) il_Blurred ic_Blurred ik_Blurred
  have ib_Blurred := I_Blurred.binds (ps := ["self", "one", "other"]) fun _ _ _ _ _ _ us hl => match us, hl with | [_, _, _], _ => rfl
  have X_Blurred : ∀ base : Heap, ExF l.prog w K mg base "Blurred" ["one", "other"] := fun base => ⟨C_Blurred, fI_Blurred, _, _, O_Blurred, i_Blurred, j_Blurred, init_Blurred I_Blurred O_Blurred B_TailError m_TailError f0_Blurred f1_Blurred, ib_Blurred, m_Blurred, xfC_of xg_Blurred xn_Blurred e_Blurred xh_Blurred, fun f hf => by simp only [List.mem_cons, List.not_mem_nil, or_false] at hf; rcases hf with rfl | rfl; exact f0_Blurred; exact f1_Blurred⟩
  have O_Doubled : OexC K C_Doubled := ⟨⟨_, _, _, _, _, _, _, _, _, _, _, _, _, _, _, l_Doubled, v_Doubled⟩, s_Doubled, e_Doubled, t_Doubled, k_Doubled⟩
  have I_Doubled := fun_mk (st := si_Doubled) il_Doubled ic_Doubled ik_Doubled
  have ib_Doubled := I_Doubled.binds (ps := ["self", "found"]) fun _ _ _ _ _ _ us hl => match us, hl with | [_, _], _ => rfl
  have X_Doubled : ∀ base : Heap, ExF l.prog w K mg base "Doubled" ["found"] := fun base => ⟨C_Doubled, fI_Doubled, _, _, O_Doubled, i_Doubled, j_Doubled, init_Doubled I_Doubled O_Doubled B_TailError m_TailError f0_Doubled, ib_Doubled, m_Doubled, xfC_of xg_Doubled xn_Doubled e_Doubled xh_Doubled, fun f hf => by simp only [List.mem_cons, List.not_mem_nil, or_false] at hf; subst hf; exact f0_Doubled⟩
  have ia : IsaOk K mg (isaT isa) := isaL_ok (.cons (isaE_mk m_BadMark m_BadName (exm_of e_BadName d_BadName t_BadName p_BadMark_BadName)) (.cons (isaE_mk m_BadMark m_BadNames (exm_of e_BadNames d_BadNames t_BadNames p_BadMark_BadNames)) (.cons (isaE_mk m_BadMark m_BadRule (exm_of e_BadRule d_BadRule t_BadRule p_BadMark_BadRule)) (.cons (isaE_mk m_BadMark m_Doubled (exm_of e_Doubled d_Doubled t_Doubled p_BadMark_Doubled)) (.cons (isaE_mk m_BadMark m_TailError (exm_of e_TailError d_TailError t_TailError p_BadMark_TailError)) (.cons (isaE_mk m_BadName m_BadName (exm_of e_BadName d_BadName t_BadName p_BadName_BadName)) (.cons (isaE_mk m_BadName m_BadNames (exm_of e_BadNames d_BadNames t_BadNames p_BadName_BadNames)) (.cons (isaE_mk m_BadName m_BadRule (exm_of e_BadRule d_BadRule t_BadRule p_BadName_BadRule)) (.cons (isaE_mk m_BadName m_Doubled (exm_of e_Doubled d_Doubled t_Doubled p_BadName_Doubled)) (.cons (isaE_mk m_BadName m_TailError (exm_of e_TailError d_TailError t_TailError p_BadName_TailError)) (.cons (isaE_mk m_BadNames m_BadName (exm_of e_BadName d_BadName t_BadName p_BadNames_BadName)) (.cons (isaE_mk m_BadNames m_BadNames (exm_of e_BadNames d_BadNames t_BadNames p_BadNames_BadNames)) (.cons (isaE_mk m_BadNames m_BadRule (exm_of e_BadRule d_BadRule t_BadRule p_BadNames_BadRule)) (.cons (isaE_mk m_BadNames m_Doubled (exm_of e_Doubled d_Doubled t_Doubled p_BadNames_Doubled)) (.cons (isaE_mk m_BadNames m_TailError (exm_of e_TailError d_TailError t_TailError p_BadNames_TailError)) (.cons (isaE_mk m_BadRule m_BadName (exm_of e_BadName d_BadName t_BadName p_BadRule_BadName)) (.cons (isaE_mk m_BadRule m_BadNames (exm_of e_BadNames d_BadNames t_BadNames p_BadRule_BadNames)) (.cons (isaE_mk m_BadRule m_BadRule (exm_of e_BadRule d_BadRule t_BadRule p_BadRule_BadRule)) (.cons (isaE_mk m_BadRule m_Doubled (exm_of e_Doubled d_Doubled t_Doubled p_BadRule_Doubled)) (.cons (isaE_mk m_BadRule m_TailError (exm_of e_TailError d_TailError t_TailError p_BadRule_TailError)) (.cons (isaE_mk m_BadWay m_BadName (exm_of e_BadName d_BadName t_BadName p_BadWay_BadName)) (.cons (isaE_mk m_BadWay m_BadNames (exm_of e_BadNames d_BadNames t_BadNames p_BadWay_BadNames)) (.cons (isaE_mk m_BadWay m_BadRule (exm_of e_BadRule d_BadRule t_BadRule p_BadWay_BadRule)) (.cons (isaE_mk m_BadWay m_Doubled (exm_of e_Doubled d_Doubled t_Doubled p_BadWay_Doubled)) (.cons (isaE_mk m_BadWay m_TailError (exm_of e_TailError d_TailError t_TailError p_BadWay_TailError)) (.cons (isaE_mk m_Blurred m_BadName (exm_of e_BadName d_BadName t_BadName p_Blurred_BadName)) (.cons (isaE_mk m_Blurred m_BadNames (exm_of e_BadNames d_BadNames t_BadNames p_Blurred_BadNames)) (.cons (isaE_mk m_Blurred m_BadRule (exm_of e_BadRule d_BadRule t_BadRule p_Blurred_BadRule)) (.cons (isaE_mk m_Blurred m_Doubled (exm_of e_Doubled d_Doubled t_Doubled p_Blurred_Doubled)) (.cons (isaE_mk m_Blurred m_TailError (exm_of e_TailError d_TailError t_TailError p_Blurred_TailError)) (.cons (isaE_mk m_Doubled m_BadName (exm_of e_BadName d_BadName t_BadName p_Doubled_BadName)) (.cons (isaE_mk m_Doubled m_BadNames (exm_of e_BadNames d_BadNames t_BadNames p_Doubled_BadNames)) (.cons (isaE_mk m_Doubled m_BadRule (exm_of e_BadRule d_BadRule t_BadRule p_Doubled_BadRule)) (.cons (isaE_mk m_Doubled m_Doubled (exm_of e_Doubled d_Doubled t_Doubled p_Doubled_Doubled)) (.cons (isaE_mk m_Doubled m_TailError (exm_of e_TailError d_TailError t_TailError p_Doubled_TailError)) .nil)))))))))))))))))))))))))))))))))))
  have F1 := fun_mk (st := st__law_box) l1 c1 k1
  have b1 := F1.binds (ps := ["cell"]) fun _ _ _ _ _ _ us hl => match us, hl with | [_], _ => rfl
  have F2 := fun_mk (st := st_need_rule) l2 c2 k2
  have b2 := F2.binds (ps := ["rule"]) fun _ _ _ _ _ _ us hl => match us, hl with | [_], _ => rfl
  have F3 := fun_mk (st := st_is_list) l3 c3 k3
  have b3 := F3.binds (ps := ["value", "most"]) fun _ _ _ _ _ _ us hl => match us, hl with | [_, _], _ => rfl
  have F4 := fun_mk (st := st_is_name) l4 c4 k4
  have b4 := F4.binds (ps := ["value"]) fun _ _ _ _ _ _ us hl => match us, hl with | [_], _ => rfl
  have F5 := fun_mk (st := st_need_unlike) l5 c5 k5
  have b5 := F5.binds (ps := ["names", "most"]) fun _ _ _ _ _ _ us hl => match us, hl with | [_, _], _ => rfl
  have F6 := funx_mk (st := st_Book___init__) l6 c6 k6
  have b6 := bindsX (x := "__init__") (qual := "Book.__init__") (st := st_Book___init__) (an := an6) (kV := kV6) (doc := dc6) (pm := pm6) (cdv := cd6) (ct := ct6) (ps := ["self", "rule", "names"]) (m := 1) dt6 rfl rfl fun us its hl hm => match us, hl, its, hm with | [_, _, _], _, [_], _ => ⟨_, rfl, rfl⟩
  have F7 := funx_mk (st := st_Desk___init__) l7 c7 k7
  have b7 := bindsX (x := "__init__") (qual := "Desk.__init__") (st := st_Desk___init__) (an := an7) (kV := kV7) (doc := dc7) (pm := pm7) (cdv := cd7) (ct := ct7) (ps := ["self", "rule", "names"]) (m := 1) dt7 rfl rfl fun us its hl hm => match us, hl, its, hm with | [_, _, _], _, [_], _ => ⟨_, rfl, rfl⟩
  have bj7 := bindsJ (x := "__init__") (qual := "Desk.__init__") (st := st_Desk___init__) (an := an7) (kV := kV7) (doc := dc7) (pm := pm7) (cdv := cd7) (ct := ct7) (ps := ["self", "rule", "names"]) (m := 2) dt7 rfl rfl fun us u hl => match us, hl with | [_, _], _ => ⟨_, rfl, rfl⟩
  have F8 := fun_mk (st := st__law_asked) l8 c8 k8
  have b8 := F8.binds (ps := ["rule", "names"]) fun _ _ _ _ _ _ us hl => match us, hl with | [_, _], _ => rfl
  have F9 := fun_mk (st := st__law_take) l9 c9 k9
  have b9 := F9.binds (ps := ["box", "many"]) fun _ _ _ _ _ _ us hl => match us, hl with | [_, _], _ => rfl
  have F10 := fun_mk (st := st__law_cell) l10 c10 k10
  have b10 := F10.binds (ps := ["script", "k"]) fun _ _ _ _ _ _ us hl => match us, hl with | [_, _], _ => rfl
  have F11 := fun_mk (st := st_is_mark) l11 c11 k11
  have b11 := F11.binds (ps := ["value"]) fun _ _ _ _ _ _ us hl => match us, hl with | [_], _ => rfl
  have F12 := fun_mk (st := st_need_mark) l12 c12 k12
  have b12 := F12.binds (ps := ["mark"]) fun _ _ _ _ _ _ us hl => match us, hl with | [_], _ => rfl
  have F13 := fun_mk (st := st_parts) l13 c13 k13
  have b13 := F13.binds (ps := ["mark"]) fun _ _ _ _ _ _ us hl => match us, hl with | [_], _ => rfl
  have F14 := fun_mk (st := st_is_clear) l14 c14 k14
  have b14 := F14.binds (ps := ["mark"]) fun _ _ _ _ _ _ us hl => match us, hl with | [_], _ => rfl
  have F15 := fun_mk (st := st_name_first) l15 c15 k15
  have b15 := F15.binds (ps := ["mark"]) fun _ _ _ _ _ _ us hl => match us, hl with | [_], _ => rfl
  have F16 := fun_mk (st := st_two_readings) l16 c16 k16
  have b16 := F16.binds (ps := ["mark"]) fun _ _ _ _ _ _ us hl => match us, hl with | [_], _ => rfl
  have F17 := fun_mk (st := st_need_clear) l17 c17 k17
  have b17 := F17.binds (ps := ["mark"]) fun _ _ _ _ _ _ us hl => match us, hl with | [_], _ => rfl
  have F18 := fun_mk (st := st_Rule___init__) l18 c18 k18
  have b18 := F18.binds (ps := ["self", "mark", "way"]) fun _ _ _ _ _ _ us hl => match us, hl with | [_, _, _], _ => rfl
  have F19 := fun_mk (st := st__law_odd) l19 c19 k19
  have b19 := F19.binds (ps := ["box"]) fun _ _ _ _ _ _ us hl => match us, hl with | [_], _ => rfl
  have F20 := fun_mk (st := st__law_signs) l20 c20 k20
  have b20 := F20.binds (ps := ["box", "many"]) fun _ _ _ _ _ _ us hl => match us, hl with | [_, _], _ => rfl
  have F21 := fun_mk (st := st__law_mark) l21 c21 k21
  have b21 := F21.binds (ps := ["box"]) fun _ _ _ _ _ _ us hl => match us, hl with | [_], _ => rfl
  have F22 := fun_mk (st := st__law_very) l22 c22 k22
  have b22 := F22.binds (ps := ["found", "thing"]) fun _ _ _ _ _ _ us hl => match us, hl with | [_, _], _ => rfl
  have F23 := fun_mk (st := st_Book_names) l23 c23 k23
  have b23 := F23.binds (ps := ["self"]) fun _ _ _ _ _ _ us hl => match us, hl with | [_], _ => rfl
  have F24 := fun_mk (st := st_Desk_log) l24 c24 k24
  have b24 := F24.binds (ps := ["self"]) fun _ _ _ _ _ _ us hl => match us, hl with | [_], _ => rfl
  have F25 := fun_mk (st := st_Rule___eq__) l25 c25 k25
  have b25 := F25.binds (ps := ["self", "other"]) fun _ _ _ _ _ _ us hl => match us, hl with | [_, _], _ => rfl
  have F26 := fun_mk (st := st_Book___len__) l26 c26 k26
  have b26 := F26.binds (ps := ["self"]) fun _ _ _ _ _ _ us hl => match us, hl with | [_], _ => rfl
  have F27 := fun_mk (st := st_Desk_say) l27 c27 k27
  have b27 := F27.binds (ps := ["self", "line"]) fun _ _ _ _ _ _ us hl => match us, hl with | [_, _], _ => rfl
  have F28 := fun_mk (st := st_Book_rule) l28 c28 k28
  have b28 := F28.binds (ps := ["self"]) fun _ _ _ _ _ _ us hl => match us, hl with | [_], _ => rfl
  have F29 := fun_mk (st := st_Book_copied) l29 c29 k29
  have b29 := F29.binds (ps := ["self"]) fun _ _ _ _ _ _ us hl => match us, hl with | [_], _ => rfl
  have F30 := fun_mk (st := st_Desk_book) l30 c30 k30
  have b30 := F30.binds (ps := ["self"]) fun _ _ _ _ _ _ us hl => match us, hl with | [_], _ => rfl
  have F31 := fun_mk (st := st_law) l31 c31 k31
  refine ⟨PySem.W.fnOf "law" "law" (defArgs st_law) (defBody st_law) (defScope st_law) .none kV31 dc31 pm31 an31 cd31 ct31, fun s v => .of_eq rfl, fun base _ _ hN => ?_⟩
  have o__law_box := ownG_mk F1 (ok__law_box (P := l.prog) (w := w) (base := base) F1 T hN ) (PySem.W.mg_of X G a1) b1 rfl
  have o_need_rule := ownG_mk F2 (ok_need_rule (P := l.prog) (w := w) (base := base) F2 T hN NI_Rule (X_BadRule base)) (PySem.W.mg_of X G a2) b2 rfl
  have o_is_list := ownG_mk F3 (ok_is_list (P := l.prog) (w := w) (base := base) F3 T hN ) (PySem.W.mg_of X G a3) b3 rfl
  have o_is_name := ownG_mk F4 (ok_is_name (P := l.prog) (w := w) (base := base) F4 T hN ) (PySem.W.mg_of X G a4) b4 rfl
  have o_need_unlike := ownG_mk F5 (ok_need_unlike (P := l.prog) (w := w) (base := base) F5 T hN o_is_list o_is_name (X_BadName base) (X_BadNames base) (X_Doubled base)) (PySem.W.mg_of X G a5) b5 rfl
  have I_Book := ownI_mk (x := "Book") m_Book ⟨mk_Book, a6, y6, kp_Book⟩ (ok_Book___init__ (P := l.prog) (w := w) (base := base) F6 T hN o_need_rule o_need_unlike FL_Book_book_names FL_Book_book_rule) b6 rfl
  have I_Desk := ownI_mk (x := "Desk") m_Desk ⟨mk_Desk, a7, y7, kp_Desk⟩ (ok_Desk___init__ (P := l.prog) (w := w) (base := base) F7 T hN I_Book FL_Desk_deeds_done FL_Desk_desk_book FL_Desk_elder_names) b7 rfl
  have J_Desk := ownJ_mk (x := "Desk") m_Desk ⟨mk_Desk, a7, y7, kp_Desk⟩ (ok_Desk___init__ (P := l.prog) (w := w) (base := base) F7 T hN I_Book FL_Desk_deeds_done FL_Desk_desk_book FL_Desk_elder_names) bj7 rfl dj7
  have o__law_asked := ownG_mk F8 (ok__law_asked (P := l.prog) (w := w) (base := base) F8 T hN I_Desk (X_BadName base) (X_BadNames base) (X_BadRule base) (X_Doubled base) ⟨_, m_TailError⟩ ia) (PySem.W.mg_of X G a8) b8 rfl
  have o__law_take := ownG_mk F9 (ok__law_take (P := l.prog) (w := w) (base := base) F9 T hN ) (PySem.W.mg_of X G a9) b9 rfl
  have o__law_cell := ownG_mk F10 (ok__law_cell (P := l.prog) (w := w) (base := base) F10 T hN ) (PySem.W.mg_of X G a10) b10 rfl
  have o_is_mark := ownG_mk F11 (ok_is_mark (P := l.prog) (w := w) (base := base) F11 T hN ) (PySem.W.mg_of X G a11) b11 rfl
  have o_need_mark := ownG_mk F12 (ok_need_mark (P := l.prog) (w := w) (base := base) F12 T hN o_is_mark (X_BadMark base)) (PySem.W.mg_of X G a12) b12 rfl
  have o_parts := ownG_mk F13 (ok_parts (P := l.prog) (w := w) (base := base) F13 T hN ) (PySem.W.mg_of X G a13) b13 rfl
  have o_is_clear := ownG_mk F14 (ok_is_clear (P := l.prog) (w := w) (base := base) F14 T hN o_need_mark o_parts) (PySem.W.mg_of X G a14) b14 rfl
  have o_name_first := ownG_mk F15 (ok_name_first (P := l.prog) (w := w) (base := base) F15 T hN ) (PySem.W.mg_of X G a15) b15 rfl
  have o_two_readings := ownG_mk F16 (ok_two_readings (P := l.prog) (w := w) (base := base) F16 T hN o_is_clear o_parts o_name_first) (PySem.W.mg_of X G a16) b16 rfl
  have o_need_clear := ownG_mk F17 (ok_need_clear (P := l.prog) (w := w) (base := base) F17 T hN o_two_readings (X_Blurred base)) (PySem.W.mg_of X G a17) b17 rfl
  have I_Rule := ownI_mk (x := "Rule") m_Rule ⟨mk_Rule, a18, y18, kp_Rule⟩ (ok_Rule___init__ (P := l.prog) (w := w) (base := base) F18 T hN o_need_clear FL_Rule_rule_mark FL_Rule_rule_way (X_BadWay base)) b18 rfl
  have o__law_odd := ownG_mk F19 (ok__law_odd (P := l.prog) (w := w) (base := base) F19 T hN o__law_take) (PySem.W.mg_of X G a19) b19 rfl
  have o__law_signs := ownG_mk F20 (ok__law_signs (P := l.prog) (w := w) (base := base) F20 T hN o__law_take) (PySem.W.mg_of X G a20) b20 rfl
  have o__law_mark := ownG_mk F21 (ok__law_mark (P := l.prog) (w := w) (base := base) F21 T hN o__law_take o__law_signs) (PySem.W.mg_of X G a21) b21 rfl
  have o__law_very := ownG_mk F22 (ok__law_very (P := l.prog) (w := w) (base := base) F22 T hN ) (PySem.W.mg_of X G a22) b22 rfl
  have o_Book_names := ownM_mk (x := "Book") m_Book CL_Book ⟨a23, y23, k23⟩ (ok_Book_names (P := l.prog) (w := w) (base := base) F23 T hN FL_Book_book_names) b23 rfl
  have o_Desk_log := ownM_mk (x := "Desk") m_Desk CL_Desk ⟨a24, y24, k24⟩ (ok_Desk_log (P := l.prog) (w := w) (base := base) F24 T hN FL_Desk_deeds_done) b24 rfl
  have o_Rule___eq__ := ownM_mk (x := "Rule") m_Rule CL_Rule ⟨a25, y25, k25⟩ (ok_Rule___eq__ (P := l.prog) (w := w) (base := base) F25 T hN FL_Rule_rule_mark FL_Rule_rule_way NI_Rule) b25 rfl
  have o_Book___len__ := ownM_mk (x := "Book") m_Book CL_Book ⟨a26, y26, k26⟩ (ok_Book___len__ (P := l.prog) (w := w) (base := base) F26 T hN FL_Book_book_names) b26 rfl
  have o_Desk_say := ownM_mk (x := "Desk") m_Desk CL_Desk ⟨a27, y27, k27⟩ (ok_Desk_say (P := l.prog) (w := w) (base := base) F27 T hN o_Book___len__ FL_Desk_desk_book) b27 rfl
  have o_Book_rule := ownM_mk (x := "Book") m_Book CL_Book ⟨a28, y28, k28⟩ (ok_Book_rule (P := l.prog) (w := w) (base := base) F28 T hN FL_Book_book_rule) b28 rfl
  have o_Book_copied := ownM_mk (x := "Book") m_Book CL_Book ⟨a29, y29, k29⟩ (ok_Book_copied (P := l.prog) (w := w) (base := base) F29 T hN I_Book FL_Book_book_names FL_Book_book_rule) b29 rfl
  have o_Desk_book := ownM_mk (x := "Desk") m_Desk CL_Desk ⟨a30, y30, k30⟩ (ok_Desk_book (P := l.prog) (w := w) (base := base) F30 T hN o_Book_copied FL_Desk_desk_book) b30 rfl
  exact lawG_of (ok_law (P := l.prog) (w := w) (base := base) F31 T hN o__law_box o__law_cell o__law_mark o__law_take o__law_odd o__law_asked o__law_very o_Book_names o_Desk_book o_Desk_log o_Book_rule o_Rule___eq__ o_Desk_say I_Desk I_Rule J_Desk) pure
end
end T_k70

namespace T_k70
open PySem L2 L3
theorem box_rp {z : Int} {cs : Cells} {P : D → Cells → Prop} {X : KX} (h : P (.loc cs.length) (cs ++ [.lst [.int (if z - 10 ^ 18 > 0 then z - 10 ^ 18 else 0), .int (z % 2147483629), .int 0]])) : RP (m__law_box [.int z] cs) P X := by
  unfold m__law_box mb__law_box
  simp only [rp_def, List.map_cons, List.map_nil, List.length_cons, List.length_nil, Nat.reduceAdd, Nat.reduceSub, List.replicate_zero, List.replicate_succ, List.append_nil, List.cons_append, List.nil_append,
    sp_ret, rp_list, rap_cons, rap_nil, rp_bi, rp_c, rp_op2, rp_op1, rp_max, rp_varM, List.getElem?_cons_zero, List.getElem?_cons_succ, rp_sub, rp_pow, rp_mod, Int.reduceLT, Int.reduceLE, Int.reduceNeg, true_and, and_true, and_self, Int.reduceToNat, rp_mkLt, sizeLine_eq, Nat.reduceLeDiff]
  exact h
theorem take_rp {n B : Nat} {many : Int} {cs : Cells} {P : D → Cells → Prop} {X : KX} (hb : Bx cs n B) (hB : B < 1000000) (h1 : 0 < many) (h2 : many < big)
    (hP : ∀ (r : Int) (c' : Cells), 0 ≤ r → r < many → Bx c' n (B + 1) → (∀ m, m ≠ n → c'[m]? = cs[m]?) → c'.length = cs.length → P (.int r) c') : RP (m__law_take [.loc n, .int many] cs) P X := by
  obtain ⟨a, b, c, hc, hb0, hb1, hc0, hc1⟩ := hb
  have hl := loc_list hc
  have hd : 0 < many ∧ many < big := ⟨h1, h2⟩
  unfold m__law_take mb__law_take
  simp only [rp_def, List.map_cons, List.map_nil, List.length_cons, List.length_nil, Nat.reduceAdd, Nat.reduceSub, List.replicate_zero, List.replicate_succ, List.append_nil, List.cons_append, List.nil_append, List.set_cons_zero, List.set_cons_succ,
    sp_ret, sp_seq, sp_asg, sp_if, sp_put, sp_nx, SP_brS, rp_c, rp_op2, rp_op1, rp_varM, List.getElem?_cons_zero, List.getElem?_cons_succ, rp_ixLocM, hl, at3_0, at3_1, at3_2, rp_gt, decide_eq_true_eq, rp_mod, h1, rp_fdiv, hd, and_self]
  split
  · obtain ⟨c4, e4, q4, k4, l4⟩ := put_at (v := .int (a / many)) hc (k := 0) (j := 0) rfl
    exact ⟨c4, e4, hP _ c4 (Int.emod_nonneg _ (by omega)) (Int.emod_lt_of_pos _ h1) ⟨_, b, c, q4, hb0, hb1, hc0, by omega⟩ k4 l4⟩
  · rename_i ha
    simp only [rp_addI]
    obtain ⟨c4, e4, q4, k4, l4⟩ := put_at (v := .int (c + 1)) hc (k := 2) (j := 2) rfl
    refine ⟨c4, e4, ?_⟩
    have hl4 := loc_list q4
    simp only [List.set_cons_zero, List.set_cons_succ] at hl4 q4
    simp only [hl4, at3_0, at3_1, at3_2, rp_c, rp_op2, rp_varM, List.getElem?_cons_zero, List.getElem?_cons_succ, rp_ixLocM, List.set_cons_zero, List.set_cons_succ]
    have m1 : ∀ y : Int, (-big < 7919 ∧ 7919 < big) ∨ (-big < y ∧ y < big) := fun _ => .inl (by decide)
    have p1 : 0 ≤ (5 : Int) ∧ (5 : Int) ≤ 1000000 ∧ -big < b + 7919 * (c + 1) + 147 ∧ b + 7919 * (c + 1) + 147 < big := by unfold big; omega
    have m2 : ∀ y : Int, (-big < 104729 ∧ 104729 < big) ∨ (-big < y ∧ y < big) := fun _ => .inl (by decide)
    have m3 : ∀ x : Int, (-big < x ∧ x < big) ∨ (-big < c + 1 ∧ c + 1 < big) := fun _ => .inr (by unfold big; omega)
    have m4 : ∀ y : Int, (-big < 536870909 ∧ 536870909 < big) ∨ (-big < y ∧ y < big) := fun _ => .inl (by decide)
    have d8 : 0 < (8 : Int) ∧ (8 : Int) < big := by decide
    have d4 : 0 < (4 : Int) ∧ (4 : Int) < big := by decide
    rw [rp_mulI (m1 _), rp_addI, rp_addI, rp_pow p1, rp_mod (by decide)]
    generalize hone : (b + 7919 * (c + 1) + 147) ^ Int.toNat 5 % 2147483647 = one
    have o0 : 0 ≤ one := by rw [← hone]; exact Int.emod_nonneg _ (by decide)
    have o1 : one < 2147483647 := by rw [← hone]; exact Int.emod_lt_of_pos _ (by decide)
    have hcc : 0 ≤ (c + 1) * (c + 1) ∧ (c + 1) * (c + 1) ≤ 1000001 * 1000001 := ⟨Int.mul_nonneg (by omega) (by omega), Int.mul_le_mul (by omega) (by omega) (by omega) (by decide)⟩
    have hass : 104729 * (c + 1) * (c + 1) = 104729 * ((c + 1) * (c + 1)) := Int.mul_assoc _ _ _
    have p2 : 0 ≤ (3 : Int) ∧ (3 : Int) ≤ 1000000 ∧ -big < one / 8 + 104729 * (c + 1) * (c + 1) + 11 ∧ one / 8 + 104729 * (c + 1) * (c + 1) + 11 < big := by
      rw [hass]; unfold big; omega
    rw [rp_fdiv d8]
    simp only [hl4, at3_2]
    rw [rp_mulI (m2 _)]
    simp only [hl4, at3_2]
    rw [rp_mulI (m3 _), rp_addI, rp_addI, rp_pow p2, rp_mod (by decide), rp_fdiv d4, rp_fdiv d4, rp_mulI (m4 _), rp_addI, rp_mod h1]
    exact hP _ c4 (Int.emod_nonneg _ (by omega)) (Int.emod_lt_of_pos _ h1) ⟨a, b, c + 1, q4, hb0, hb1, by omega, by omega⟩ k4 l4
theorem cell_rp {ns : List Int} {k : Int} {cs : Cells} {P : D → Cells → Prop} {X : KX} (h0 : 0 ≤ k) (h : ∀ z, P (.int z) cs) : RP (m__law_cell [.scr ns, .int k] cs) P X := by
  unfold m__law_cell mb__law_cell
  simp only [rp_def, List.map_cons, List.map_nil, List.length_cons, List.length_nil, Nat.reduceAdd, Nat.reduceSub, List.replicate_zero, List.replicate_succ, List.append_nil, List.cons_append, List.nil_append,
    sp_ret, sp_seq, sp_if, sp_nx, SP_brS, rap_cons, rap_nil, rp_bi, rp_c, rp_op2, rp_varM, List.getElem?_cons_zero, List.getElem?_cons_succ, rp_lenScr, rp_lt, decide_eq_true_eq]
  split
  · rename_i hk
    obtain ⟨z, e, _⟩ := at_mid (ds := ns) h0 hk
    rw [rp_ixScr e]
    exact h z
  · rw [rp_mulI (.inl (by decide)), rp_addI]
    exact h _

abbrev SG : List Nat := [97, 98, 99, 100, 101, 102, 103, 104, 105, 106, 107, 108, 109, 110, 111, 112, 113, 114, 115, 116, 117, 118, 119, 120, 121, 122, 48, 49, 50, 51, 52, 53, 54, 55, 56, 57, 45, 95, 46, 40, 41]
theorem all_filter (S l : List Nat) : (l.all fun c => decide (c ∈ S)) = (l.filter fun c => !decide (c ∈ S)).isEmpty := by
  rw [Bool.eq_iff_iff, List.isEmpty_iff, List.filter_eq_nil_iff, List.all_eq_true]
  simp
def nm (l : List Nat) : Bool := decide (1 ≤ l.length ∧ l.length ≤ 200) && l.all fun c => decide (c ∈ SG)
abbrev TY : List String := ["NoneType", "bool", "int", "list", "tuple", "dict"]
theorem isn_non {d : D} {cs : Cells} {u : String} {P : D → Cells → Prop} {X : KX} (h : tyC cs d = some u) (q : u ∈ TY) (k : P (.bl false) cs) : RP (m_is_name [d] cs) P X := by
  unfold m_is_name mb_is_name
  simp only [rp_def, List.map_cons, List.map_nil, List.length_cons, List.length_nil, Nat.reduceAdd, Nat.reduceSub, List.replicate_zero, List.replicate_succ, List.append_nil, List.cons_append, List.nil_append,
    sp_ret, sp_seq, sp_if, sp_nx, SP_brS, rp_c, rp_op1, rp_not, rp_or, rp_varM, List.getElem?_cons_zero, isi_nstr h q, rp_notD, RP_br, RP_ok, Bool.not_false, cond_true, if_true]
  exact k
theorem isn_str {l : List Nat} {cs : Cells} {P : D → Cells → Prop} {X : KX} (hl : l.length ≤ sizeLine) (k : P (.bl (nm l)) cs) : RP (m_is_name [.str l] cs) P X := by
  unfold m_is_name mb_is_name
  simp only [rp_def, List.map_cons, List.map_nil, List.length_cons, List.length_nil, Nat.reduceAdd, Nat.reduceSub, List.replicate_zero, List.replicate_succ, List.append_nil, List.cons_append, List.nil_append,
    sp_ret, sp_seq, sp_if, sp_nx, SP_brS, rap_cons, rap_nil, rp_bi, rp_c, rp_op2, rp_op1, rp_not, rp_or, rp_varM, List.getElem?_cons_zero, List.getElem?_cons_succ, isi_str, rp_notD, RP_br, RP_ok, Bool.not_true, cond_false, rp_chain, rp_lenS hl, rp_le, RP_bind, rp_lc, wp_seq]
  by_cases hlen : 1 ≤ l.length ∧ l.length ≤ 200
  · have a1 : decide ((1 : Int) ≤ (l.length : Int)) = true := by simp; omega
    have a2 : decide ((l.length : Int) ≤ 200) = true := by simp; omega
    simp only [a1, a2, cond_true, Bool.not_true, Bool.false_eq_true, if_false]
    rw [lc_map (g := fun d => match d with | .str [c] => .bl (decide (c ∈ SG)) | _ => .non) trivial ?_]
    · have e1 : (List.map (fun d => match d with | D.str [c] => D.bl (decide (c ∈ SG)) | x => D.non) (List.map (fun ch => D.str [ch]) l)) = (l.map fun c => decide (c ∈ SG)).map D.bl := by
        rw [List.map_map, List.map_map]; rfl
      rw [e1]
      show RP (mkL false cs _) _ _
      rw [rp_mkLf (by rw [List.length_map, List.length_map]; exact hl), rp_allL]
      have : nm l = ((l.map fun c => decide (c ∈ SG)).all _root_.id) := by
        unfold nm
        rw [decide_eq_true hlen, Bool.true_and, List.all_map]
        rfl
      rw [← this]
      exact k
    · intro d hd
      obtain ⟨c, hc, rfl⟩ := List.mem_map.mp hd
      exact ⟨_, rfl, rfl, rfl⟩
  · have en : nm l = false := by unfold nm; rw [decide_eq_false hlen]; rfl
    rw [en] at k
    by_cases h1 : (1 : Int) ≤ (l.length : Int)
    · have h2 : ¬ (l.length : Int) ≤ 200 := by omega
      simp only [h1, h2, decide_true, decide_false, cond_true, Bool.not_false, if_true]
      exact k
    · simp only [h1, decide_false, cond_false, Bool.not_false, cond_true, if_true]
      exact k

abbrev TZ : List String := ["NoneType", "bool", "int", "str", "list", "tuple", "dict"]
def ig (d : D) (lo hi : Int) : Bool := match d with
  | .int i => decide (lo ≤ i) && decide (i ≤ hi)
  | _ => false
theorem chain_ii {lo i hi : Int} {env : L3.Env} {cs : Cells} {a b c : Nat} {P : D → Cells → Prop} {X : KX} (h1 : env[a]? = some (some (.int lo))) (h2 : env[b]? = some (some (.int i))) (h3 : env[c]? = some (some (.int hi))) (k : P (.bl (decide (lo ≤ i) && decide (i ≤ hi))) cs) : RP (eChain leD leD (eVar a) (eVar b) (eVar c) env cs) P X := by
  simp only [rp_chain, rp_varM, h1, h2, h3, rp_le, RP_br, RP_bind, RP_ok]
  by_cases q : lo ≤ i
  · simp only [q, decide_true, cond_true, Bool.true_and] at k ⊢; exact k
  · simp only [q, decide_false, cond_false, Bool.false_and] at k ⊢; exact k
theorem signs_rp {n B : Nat} {m : Int} {cs : Cells} {P : D → Cells → Prop} {X : KX} (hb : Bx cs n B) (h0 : 0 ≤ m) (h1 : m ≤ 1000) (hB : B < 900000)
    (k : ∀ (l : List Nat) (c' : Cells), l.length = m.toNat → (∀ c ∈ l, c ∈ SG) → Bx c' n (B + m.toNat) → P (.str l) c') : RP (m__law_signs [.loc n, .int m] cs) P X := by
  unfold m__law_signs mb__law_signs
  simp only [rp_def, List.map_cons, List.map_nil, List.length_cons, List.length_nil, Nat.reduceAdd, Nat.reduceSub, List.replicate_zero, List.replicate_succ, List.append_nil, List.cons_append, List.nil_append,
    sp_ret, rp_m1, rp_c, rp_lc, wp_r1, rp_varM, List.getElem?_cons_zero, List.getElem?_cons_succ]
  refine ⟨by unfold lim; omega, ?_⟩
  have hlc := lc_inv (X := X) (chk := fun _ => True) (tg := tgN 2) (t := eC (.bl true)) (e := op2 ixD (eC (D.str SG)) (eCall m__law_take (aCons (eVar 0) (aCons (eC (D.int 41)) aNil))))
    (items := rangeD 0 m.toNat) (env := wipeE [some (D.loc n), some (D.int m), none] [2]) (cs := cs)
    (fun i ds c => Bx c n (B + i) ∧ ∃ ls, strsOf ds = some ls ∧ ls.length = i ∧ ∀ z ∈ ls, z.length = 1 ∧ ∀ c ∈ z, c ∈ SG) [] ⟨hb, [], rfl, rfl, fun _ h => by cases h⟩ (fun _ _ _ => trivial) (fun j d ds c hj ⟨hb, ls, h1, h2, h3⟩ => by
    obtain ⟨hj, rfl⟩ := range_get hj
    refine ⟨trivial, _, rfl, ?_⟩
    rw [rp_c]
    refine ⟨true, rfl, ?_⟩
    rw [if_pos rfl]
    simp only [rp_op2, rp_c, rp_call, rap_cons, rap_nil, rp_varM, wipeE, List.set_cons_zero, List.set_cons_succ, List.getElem?_cons_zero, List.getElem?_cons_succ]
    refine take_rp hb (by omega) (by decide) (by decide) fun r c' r0 r1 hb' _ _ => ?_
    refine rp_ixSA (by rw [sizeLine_eq]; decide) r0 (Int.lt_of_lt_of_le r1 (by decide)) fun ch hch => ?_
    refine ⟨hb', ls ++ [[ch]], strsOf_app h1 rfl, by simp [h2], fun z hz => ?_⟩
    rcases List.mem_append.mp hz with hz | hz
    · exact h3 z hz
    · rw [List.mem_singleton.mp hz]; exact ⟨rfl, fun c hc => by rw [List.mem_singleton.mp hc]; exact hch⟩)
  refine RAP.mono hlc fun ds c6 ⟨hb, ls, h1, h2, h3⟩ => ?_
  rw [List.nil_append] at h1
  rw [rangeD_length] at hb h2
  have hjn : (ls.map (·.length)).sum + ls.length * ([] : List Nat).length ≤ 16777216 := by rw [ones_sum fun z hz => (h3 z hz).1]; simp; omega
  rw [rp_mkLf (by rw [sizeLine_eq, strsOf_len h1]; omega), rp_join seq_lst h1 hjn, joinL_nil]
  refine k _ _ (by rw [ones_len fun z hz => (h3 z hz).1, h2]) (fun c hc => ?_) hb
  obtain ⟨z, hz, hcz⟩ := List.mem_flatten.mp hc
  exact (h3 z hz).2 c hcz

abbrev figs : List Nat := [48, 49, 50, 51, 52, 53, 54, 55, 56, 57]
theorem figs_mem {c : Nat} : c ∈ figs ↔ 48 ≤ c ∧ c ≤ 57 := by
  simp only [figs, List.mem_cons, List.not_mem_nil, or_false]; omega
instance decDig (l : List Nat) : Decidable (NumText.AllDigits l) := inferInstanceAs (Decidable (∀ c ∈ l, 48 ≤ c ∧ c ≤ 57))
open NumText in
def nuL (l : List Nat) : D := if 1 ≤ l.length ∧ l.length ≤ 15 ∧ AllDigits l ∧ l.head? ≠ some 48 ∧ 1 < digitsVal l then .int (digitsVal l) else .non
section
open NumText
end

abbrev FG : List Nat := [48, 49, 50, 51, 52, 53, 54, 55, 56, 57]
/-- a mark, by its parts -/
structure Mk (l pre near post : List Nat) (s1 s2 : Nat) : Prop where
  eq : l = pre ++ s1 :: (near ++ s2 :: post)
  pl : (s1 = 42 ∧ s2 = 35) ∨ (s1 = 35 ∧ s2 = 42)
  a : ∀ c ∈ pre, c ∈ SG
  b : ∀ c ∈ near, c ∈ SG
  c : ∀ c ∈ post, c ∈ SG
  len : l.length ≤ 12
def mkB (l : List Nat) : Bool := decide (l.length ≤ 12) && (decide (l.count 42 = 1) && (decide (l.count 35 = 1) && l.all fun c => decide (c ∈ SG) || (decide ([42] = [c]) || (decide ([35] = [c]) || false))))
theorem no_star {l : List Nat} (h : ∀ c ∈ l, c ∈ SG) : 42 ∉ l := fun m => absurd (h _ m) (by decide)
theorem no_hash {l : List Nat} (h : ∀ c ∈ l, c ∈ SG) : 35 ∉ l := fun m => absurd (h _ m) (by decide)
theorem Mk.ok {l pre near post : List Nat} {s1 s2 : Nat} (m : Mk l pre near post s1 s2) : mkB l = true := by
  have p1 := List.count_eq_zero.mpr (no_star m.a)
  have p2 := List.count_eq_zero.mpr (no_star m.b)
  have p3 := List.count_eq_zero.mpr (no_star m.c)
  have q1 := List.count_eq_zero.mpr (no_hash m.a)
  have q2 := List.count_eq_zero.mpr (no_hash m.b)
  have q3 := List.count_eq_zero.mpr (no_hash m.c)
  have hl := m.len
  have c1 : l.count 42 = 1 := by
    rw [m.eq]
    rcases m.pl with ⟨rfl, rfl⟩ | ⟨rfl, rfl⟩ <;> simp [List.count_append, List.count_cons, p1, p2, p3]
  have c2 : l.count 35 = 1 := by
    rw [m.eq]
    rcases m.pl with ⟨rfl, rfl⟩ | ⟨rfl, rfl⟩ <;> simp [List.count_append, List.count_cons, q1, q2, q3]
  have c3 : l.all (fun c => decide (c ∈ SG) || (decide ([42] = [c]) || (decide ([35] = [c]) || false))) = true := by
    rw [List.all_eq_true]
    intro x hx
    rw [m.eq] at hx
    have sg : ∀ z, z ∈ SG → (decide (z ∈ SG) || (decide ([42] = [z]) || (decide ([35] = [z]) || false))) = true := fun z hz => by rw [decide_eq_true hz]; rfl
    have pl : ∀ z, z = s1 ∨ z = s2 → (decide (z ∈ SG) || (decide ([42] = [z]) || (decide ([35] = [z]) || false))) = true := by
      intro z hz
      rcases m.pl with ⟨e1, e2⟩ | ⟨e1, e2⟩ <;> rw [e1, e2] at hz <;> rcases hz with rfl | rfl <;> decide
    rcases List.mem_append.mp hx with h | h
    · exact sg _ (m.a _ h)
    · rcases List.mem_cons.mp h with h | h
      · exact pl _ (.inl h)
      · rcases List.mem_append.mp h with h | h
        · exact sg _ (m.b _ h)
        · rcases List.mem_cons.mp h with h | h
          · exact pl _ (.inr h)
          · exact sg _ (m.c _ h)
  unfold mkB
  rw [decide_eq_true hl, decide_eq_true c1, decide_eq_true c2, c3]; rfl
theorem ism_non {d : D} {cs : Cells} {u : String} {P : D → Cells → Prop} {X : KX} (h : tyC cs d = some u) (q : u ∈ TY) (k : P (.bl false) cs) : RP (m_is_mark [d] cs) P X := by
  unfold m_is_mark mb_is_mark
  simp only [rp_def, List.map_cons, List.map_nil, List.length_cons, List.length_nil, Nat.reduceAdd, Nat.reduceSub, List.replicate_zero, List.replicate_succ, List.append_nil, List.cons_append, List.nil_append, List.set_cons_zero, List.set_cons_succ, sp_ret, sp_seq, sp_asg, sp_if, sp_nx, sp_drop, SP_brS, rap_cons, rap_nil, rp_bi, rp_c, rp_op2, rp_op1, rp_not, rp_or, rp_and, rp_if, rp_call, rp_varM, List.getElem?_cons_zero, List.getElem?_cons_succ, rp_notD, RP_br, RP_ok, isi_nstr h q, Bool.not_false, cond_true, if_true]
  exact k
theorem sg_elem {c : Nat} {i : Nat} {env : L3.Env} {cs : Cells} (h : env[i]? = some (some (.str [c]))) : (eOr (op2 inD (eVar i) (eC (.str SG))) (op2 inD (eVar i) (eTup (aCons (eC (.str [42])) (aCons (eC (.str [35])) aNil))))) env cs = .ok (.bl (decide (c ∈ SG) || (decide ([42] = [c]) || (decide ([35] = [c]) || false)))) cs := by
  refine RP.eq ?_
  simp only [rp_or, rp_op2, rp_varM, rp_c, h, rp_inS, RP_br, RP_ok, rp_tup, rap_cons, rap_nil, rp_mkT (cs := cs) (ds := [D.str [42], .str [35]]) (by rw [sizeLine_eq]; simp)]
  cases decide (c ∈ SG) with
  | true => first | exact ⟨rfl, rfl⟩ | exact ⟨rfl, trivial⟩ | exact ⟨trivial, rfl⟩ | exact trivial | exact ⟨trivial, trivial⟩
  | false => first | exact ⟨rfl, rfl⟩ | exact ⟨rfl, trivial⟩ | exact ⟨trivial, rfl⟩ | exact trivial | exact ⟨trivial, trivial⟩
theorem ism_str {l : List Nat} {cs : Cells} {P : D → Cells → Prop} {X : KX} (hl : l.length ≤ sizeLine) (k : P (.bl (mkB l)) cs) : RP (m_is_mark [.str l] cs) P X := by
  unfold m_is_mark mb_is_mark
  simp only [rp_def, List.map_cons, List.map_nil, List.length_cons, List.length_nil, Nat.reduceAdd, Nat.reduceSub, List.replicate_zero, List.replicate_succ, List.append_nil, List.cons_append, List.nil_append, List.set_cons_zero, List.set_cons_succ, sp_ret, sp_seq, sp_asg, sp_if, sp_nx, sp_drop, SP_brS, rap_cons, rap_nil, rp_bi, rp_c, rp_op2, rp_op1, rp_not, rp_or, rp_and, rp_if, rp_call, rp_varM, List.getElem?_cons_zero, List.getElem?_cons_succ, rp_notD, RP_br, RP_ok, isi_str, rp_lenS hl, rp_gt, Bool.not_true, cond_false]
  by_cases h1 : l.length ≤ 12
  · have a1 : decide ((12 : Int) < (l.length : Int)) = false := by simp; omega
    simp only [a1, Bool.false_eq_true, if_false, rp_m1, rp_cnt, rp_neI, rp_def, List.map_cons, List.map_nil, List.length_cons, List.length_nil, Nat.reduceAdd, Nat.reduceSub, List.replicate_zero, List.replicate_succ, List.append_nil, List.cons_append, List.nil_append, List.set_cons_zero, List.set_cons_succ, sp_ret, sp_seq, sp_asg, sp_if, sp_nx, sp_drop, SP_brS, rap_cons, rap_nil, rp_bi, rp_c, rp_op2, rp_op1, rp_not, rp_or, rp_and, rp_if, rp_call, rp_varM, List.getElem?_cons_zero, List.getElem?_cons_succ, rp_notD, RP_br, RP_ok]
    by_cases h2 : l.count 42 = 1
    · have a2 : decide (((l.count 42 : Nat) : Int) = 1) = true := by simp [h2]
      simp only [a2, Bool.not_true, cond_false]
      by_cases h3 : l.count 35 = 1
      · have a3 : decide (((l.count 35 : Nat) : Int) = 1) = true := by simp [h3]
        simp only [a3, Bool.not_true, Bool.false_eq_true, if_false, RP_bind, rp_lc, wp_seq, rp_def, List.map_cons, List.map_nil, List.length_cons, List.length_nil, Nat.reduceAdd, Nat.reduceSub, List.replicate_zero, List.replicate_succ, List.append_nil, List.cons_append, List.nil_append, List.set_cons_zero, List.set_cons_succ, sp_ret, sp_seq, sp_asg, sp_if, sp_nx, sp_drop, SP_brS, rap_cons, rap_nil, rp_bi, rp_c, rp_op2, rp_op1, rp_not, rp_or, rp_and, rp_if, rp_call, rp_varM, List.getElem?_cons_zero, List.getElem?_cons_succ, rp_notD, RP_br, RP_ok]
        rw [lc_map (g := fun d => match d with | .str [c] => .bl (decide (c ∈ SG) || (decide ([42] = [c]) || (decide ([35] = [c]) || false))) | _ => .non) trivial ?_]
        · have e1 : (List.map (fun d => match d with | D.str [c] => D.bl (decide (c ∈ SG) || (decide ([42] = [c]) || (decide ([35] = [c]) || false))) | x => D.non) (List.map (fun ch => D.str [ch]) l)) = (l.map fun c => decide (c ∈ SG) || (decide ([42] = [c]) || (decide ([35] = [c]) || false))).map D.bl := by
            rw [List.map_map, List.map_map]; rfl
          rw [e1]
          show RP (mkL false cs _) _ _
          rw [rp_mkLf (by rw [List.length_map, List.length_map]; exact hl), rp_allL]
          have : mkB l = ((l.map fun c => decide (c ∈ SG) || (decide ([42] = [c]) || (decide ([35] = [c]) || false))).all _root_.id) := by
            unfold mkB
            rw [decide_eq_true h1, decide_eq_true h2, decide_eq_true h3, Bool.true_and, Bool.true_and, Bool.true_and, List.all_map]
            rfl
          rw [← this]
          exact k
        · intro d hd
          obtain ⟨c, hc, rfl⟩ := List.mem_map.mp hd
          exact ⟨_, rfl, rfl, sg_elem rfl⟩
      · have a3 : decide (((l.count 35 : Nat) : Int) = 1) = false := by simp; omega
        have : mkB l = false := by unfold mkB; rw [decide_eq_false h3]; simp
        rw [this] at k
        simp only [a3, Bool.not_false, if_true, rp_def, List.map_cons, List.map_nil, List.length_cons, List.length_nil, Nat.reduceAdd, Nat.reduceSub, List.replicate_zero, List.replicate_succ, List.append_nil, List.cons_append, List.nil_append, List.set_cons_zero, List.set_cons_succ, sp_ret, sp_seq, sp_asg, sp_if, sp_nx, sp_drop, SP_brS, rap_cons, rap_nil, rp_bi, rp_c, rp_op2, rp_op1, rp_not, rp_or, rp_and, rp_if, rp_call, rp_varM, List.getElem?_cons_zero, List.getElem?_cons_succ, rp_notD, RP_br, RP_ok]
        exact k
    · have a2 : decide (((l.count 42 : Nat) : Int) = 1) = false := by simp; omega
      have : mkB l = false := by unfold mkB; rw [decide_eq_false h2]; simp
      rw [this] at k
      simp only [a2, Bool.not_false, cond_true, if_true, rp_def, List.map_cons, List.map_nil, List.length_cons, List.length_nil, Nat.reduceAdd, Nat.reduceSub, List.replicate_zero, List.replicate_succ, List.append_nil, List.cons_append, List.nil_append, List.set_cons_zero, List.set_cons_succ, sp_ret, sp_seq, sp_asg, sp_if, sp_nx, sp_drop, SP_brS, rap_cons, rap_nil, rp_bi, rp_c, rp_op2, rp_op1, rp_not, rp_or, rp_and, rp_if, rp_call, rp_varM, List.getElem?_cons_zero, List.getElem?_cons_succ, rp_notD, RP_br, RP_ok]
      exact k
  · have a1 : decide ((12 : Int) < (l.length : Int)) = true := by simp; omega
    have : mkB l = false := by unfold mkB; rw [decide_eq_false h1]; rfl
    rw [this] at k
    simp only [a1, if_true, rp_def, List.map_cons, List.map_nil, List.length_cons, List.length_nil, Nat.reduceAdd, Nat.reduceSub, List.replicate_zero, List.replicate_succ, List.append_nil, List.cons_append, List.nil_append, List.set_cons_zero, List.set_cons_succ, sp_ret, sp_seq, sp_asg, sp_if, sp_nx, sp_drop, SP_brS, rap_cons, rap_nil, rp_bi, rp_c, rp_op2, rp_op1, rp_not, rp_or, rp_and, rp_if, rp_call, rp_varM, List.getElem?_cons_zero, List.getElem?_cons_succ, rp_notD, RP_br, RP_ok]
    exact k
/-- what is_mark, is_name, is_number say of d -/
def IsM (cs : Cells) (d : D) (b : Bool) : Prop := ∀ (P : D → Cells → Prop) (X : KX), P (.bl b) cs → RP (m_is_mark [d] cs) P X
def IsN (cs : Cells) (d : D) (b : Bool) : Prop := ∀ (P : D → Cells → Prop) (X : KX), P (.bl b) cs → RP (m_is_name [d] cs) P X
theorem Mk.ism {l pre near post : List Nat} {s1 s2 : Nat} (m : Mk l pre near post s1 s2) {cs : Cells} : IsM cs (.str l) true := fun P X k => ism_str (by rw [sizeLine_eq]; have := m.len; omega) (by rw [m.ok]; exact k)
theorem nm_rp {d : D} {cs : Cells} {P : D → Cells → Prop} {X : KX} (h : IsM cs d true) (k : P .non cs) : RP (m_need_mark [d] cs) P X := by
  unfold m_need_mark mb_need_mark
  try simp only [rp_def, List.map_cons, List.map_nil, List.length_cons, List.length_nil, Nat.reduceAdd, Nat.reduceSub, List.replicate_zero, List.replicate_succ, List.append_nil, List.cons_append, List.nil_append, List.set_cons_zero, List.set_cons_succ, sp_ret, sp_seq, sp_asg, sp_if, sp_nx, sp_drop, SP_brS, rap_cons, rap_nil, rp_bi, rp_c, rp_op2, rp_op1, rp_not, rp_or, rp_and, rp_if, rp_call, rp_varM, List.getElem?_cons_zero, List.getElem?_cons_succ, rp_notD, RP_br, RP_ok]
  refine h _ _ ?_
  simp only [rp_def, List.map_cons, List.map_nil, List.length_cons, List.length_nil, Nat.reduceAdd, Nat.reduceSub, List.replicate_zero, List.replicate_succ, List.append_nil, List.cons_append, List.nil_append, List.set_cons_zero, List.set_cons_succ, sp_ret, sp_seq, sp_asg, sp_if, sp_nx, sp_drop, SP_brS, rap_cons, rap_nil, rp_bi, rp_c, rp_op2, rp_op1, rp_not, rp_or, rp_and, rp_if, rp_call, rp_varM, List.getElem?_cons_zero, List.getElem?_cons_succ, rp_notD, RP_br, RP_ok, Bool.not_true, Bool.false_eq_true, if_false]
  exact k
theorem nm_x {d : D} {cs : Cells} {P : D → Cells → Prop} {X : KX} (h : IsM cs d false) (k : X "BadMark" [("found", d)] cs) : RP (m_need_mark [d] cs) P X := by
  unfold m_need_mark mb_need_mark
  try simp only [rp_def, List.map_cons, List.map_nil, List.length_cons, List.length_nil, Nat.reduceAdd, Nat.reduceSub, List.replicate_zero, List.replicate_succ, List.append_nil, List.cons_append, List.nil_append, List.set_cons_zero, List.set_cons_succ, sp_ret, sp_seq, sp_asg, sp_if, sp_nx, sp_drop, SP_brS, rap_cons, rap_nil, rp_bi, rp_c, rp_op2, rp_op1, rp_not, rp_or, rp_and, rp_if, rp_call, rp_varM, List.getElem?_cons_zero, List.getElem?_cons_succ, rp_notD, RP_br, RP_ok]
  refine h _ _ ?_
  simp only [rp_def, List.map_cons, List.map_nil, List.length_cons, List.length_nil, Nat.reduceAdd, Nat.reduceSub, List.replicate_zero, List.replicate_succ, List.append_nil, List.cons_append, List.nil_append, List.set_cons_zero, List.set_cons_succ, sp_ret, sp_seq, sp_asg, sp_if, sp_nx, sp_drop, SP_brS, rap_cons, rap_nil, rp_bi, rp_c, rp_op2, rp_op1, rp_not, rp_or, rp_and, rp_if, rp_call, rp_varM, List.getElem?_cons_zero, List.getElem?_cons_succ, rp_notD, RP_br, RP_ok, Bool.not_false, if_true, sp_raise]
  exact k
/-! ### the parts of a mark -/
section
variable {l pre near post : List Nat} {s1 s2 : Nat} {cs : Cells} {P : D → Cells → Prop} {X : KX}
theorem Mk.i1 (m : Mk l pre near post s1 s2) : l.idxOf s1 = pre.length := by
  have h : s1 ∉ pre := by rcases m.pl with ⟨e, _⟩ | ⟨e, _⟩ <;> rw [e] <;> first | exact no_star m.a | exact no_hash m.a
  rw [m.eq, List.idxOf_append, if_neg h, List.idxOf_cons_self, Nat.zero_add]
theorem Mk.i2 (m : Mk l pre near post s1 s2) : l.idxOf s2 = pre.length + 1 + near.length := by
  have h : s2 ∉ pre := by rcases m.pl with ⟨_, e⟩ | ⟨_, e⟩ <;> rw [e] <;> first | exact no_star m.a | exact no_hash m.a
  have h2 : s2 ∉ near := by rcases m.pl with ⟨_, e⟩ | ⟨_, e⟩ <;> rw [e] <;> first | exact no_star m.b | exact no_hash m.b
  have h3 : s1 ≠ s2 := by rcases m.pl with ⟨rfl, rfl⟩ | ⟨rfl, rfl⟩ <;> decide
  rw [m.eq, List.idxOf_append, if_neg h, List.idxOf_cons, beq_false_of_ne h3, cond_false, List.idxOf_append, if_neg h2, List.idxOf_cons_self]
  omega
theorem Mk.m1 (m : Mk l pre near post s1 s2) : s1 ∈ l := by rw [m.eq]; simp
theorem Mk.m2 (m : Mk l pre near post s1 s2) : s2 ∈ l := by rw [m.eq]; simp
theorem Mk.cut1 (m : Mk l pre near post s1 s2) : cutL l none (some (pre.length : Int)) = pre := by
  rw [cut_to (by omega), m.eq]; simp
theorem Mk.cut2 (m : Mk l pre near post s1 s2) : cutL l (some ((pre.length : Int) + 1)) (some ((pre.length + 1 + near.length : Nat) : Int)) = near := by
  rw [cut_mid (by omega) (by omega), m.eq]
  have e1 : ((pre.length + 1 + near.length : Nat) : Int).toNat = (pre ++ [s1]).length + near.length := by simp; omega
  have e2 : ((pre.length : Int) + 1).toNat = (pre ++ [s1]).length := by simp
  have e3 : pre ++ s1 :: (near ++ s2 :: post) = (pre ++ [s1]) ++ (near ++ s2 :: post) := by simp
  rw [e1, e2, e3, Nat.add_sub_cancel_left, List.drop_left, List.take_left]
theorem Mk.cut3 (m : Mk l pre near post s1 s2) : cutL l (some (((pre.length + 1 + near.length : Nat) : Int) + 1)) none = post := by
  rw [cut_from (by omega), m.eq]
  have e1 : (((pre.length + 1 + near.length : Nat) : Int) + 1).toNat = (pre ++ s1 :: (near ++ [s2])).length := by simp; omega
  have e3 : pre ++ s1 :: (near ++ s2 :: post) = (pre ++ s1 :: (near ++ [s2])) ++ post := by simp
  rw [e1, e3, List.drop_left]
theorem Mk.size (m : Mk l pre near post s1 s2) : l.length ≤ sizeLine := by have := m.len; rw [sizeLine_eq]; omega
theorem Mk.lens (m : Mk l pre near post s1 s2) : pre.length + near.length + post.length ≤ 10 := by
  have := m.len; rw [m.eq] at this; simp at this; omega
theorem parts_rp (m : Mk l pre near post s1 s2) (k : P (.tup [.str pre, .str near, .str post]) cs) : RP (m_parts [.str l] cs) P X := by
  unfold m_parts mb_parts
  have hs := m.size
  have ln := m.lens
  have w : RP (mkT cs [.str pre, .str near, .str post]) P X := by rw [rp_mkT (by rw [sizeLine_eq]; simp)]; exact k
  have c1 := m.cut1
  have c2 := m.cut2
  have c3 := m.cut3
  rcases m.pl with ⟨e1, e2⟩ | ⟨e1, e2⟩
  · have i1 := m.i1; have i2 := m.i2; have m1 := m.m1; have m2 := m.m2
    rw [e1] at i1 m1; rw [e2] at i2 m2
    have x1 : ¬ ((pre.length + 1 + near.length : Nat) : Int) < (pre.length : Int) := by omega
    have x2 : ((pre.length + 1 + near.length : Nat) : Int) > (pre.length : Int) := by omega
    simp only [rp_def, List.map_cons, List.map_nil, List.length_cons, List.length_nil, Nat.reduceAdd, Nat.reduceSub, List.replicate_zero, List.replicate_succ, List.append_nil, List.cons_append, List.nil_append, List.set_cons_zero, List.set_cons_succ, sp_ret, sp_seq, sp_asg, sp_if, sp_nx, sp_drop, SP_brS, rap_cons, rap_nil, rp_bi, rp_c, rp_op2, rp_op1, rp_not, rp_or, rp_and, rp_if, rp_call, rp_varM, List.getElem?_cons_zero, List.getElem?_cons_succ, rp_notD, RP_br, RP_ok, rp_m1, rp_six m1, rp_six m2, i1, i2, rp_min, rp_max]
    rw [if_neg x1, if_pos x2]
    simp only [rp_tup, rap_cons, rap_nil, rp_sl, rp_varM, List.getElem?_cons_zero, List.getElem?_cons_succ, ro_none, ro_varM, ro_varA, rp_slS hs]
    rw [c1, c2, c3]
    exact w
  · have i1 := m.i1; have i2 := m.i2; have m1 := m.m1; have m2 := m.m2
    rw [e1] at i1 m1; rw [e2] at i2 m2
    have x1 : (pre.length : Int) < ((pre.length + 1 + near.length : Nat) : Int) := by omega
    have x2 : ¬ (pre.length : Int) > ((pre.length + 1 + near.length : Nat) : Int) := by omega
    simp only [rp_def, List.map_cons, List.map_nil, List.length_cons, List.length_nil, Nat.reduceAdd, Nat.reduceSub, List.replicate_zero, List.replicate_succ, List.append_nil, List.cons_append, List.nil_append, List.set_cons_zero, List.set_cons_succ, sp_ret, sp_seq, sp_asg, sp_if, sp_nx, sp_drop, SP_brS, rap_cons, rap_nil, rp_bi, rp_c, rp_op2, rp_op1, rp_not, rp_or, rp_and, rp_if, rp_call, rp_varM, List.getElem?_cons_zero, List.getElem?_cons_succ, rp_notD, RP_br, RP_ok, rp_m1, rp_six m1, rp_six m2, i1, i2, rp_min, rp_max]
    rw [if_pos x1, if_neg x2]
    simp only [rp_tup, rap_cons, rap_nil, rp_sl, rp_varM, List.getElem?_cons_zero, List.getElem?_cons_succ, ro_none, ro_varM, ro_varA, rp_slS hs]
    rw [c1, c2, c3]
    exact w
theorem nf_rp (m : Mk l pre near post s1 s2) (k : P (.bl (decide (s1 = 42))) cs) : RP (m_name_first [.str l] cs) P X := by
  unfold m_name_first mb_name_first
  rcases m.pl with ⟨e1, e2⟩ | ⟨e1, e2⟩
  · have i1 := m.i1; have i2 := m.i2; have m1 := m.m1; have m2 := m.m2
    rw [e1] at i1 m1; rw [e2] at i2 m2
    have x : decide ((pre.length : Int) < ((pre.length + 1 + near.length : Nat) : Int)) = true := by simp; omega
    simp only [rp_def, List.map_cons, List.map_nil, List.length_cons, List.length_nil, Nat.reduceAdd, Nat.reduceSub, List.replicate_zero, List.replicate_succ, List.append_nil, List.cons_append, List.nil_append, List.set_cons_zero, List.set_cons_succ, sp_ret, sp_seq, sp_asg, sp_if, sp_nx, sp_drop, SP_brS, rap_cons, rap_nil, rp_bi, rp_c, rp_op2, rp_op1, rp_not, rp_or, rp_and, rp_if, rp_call, rp_varM, List.getElem?_cons_zero, List.getElem?_cons_succ, rp_notD, RP_br, RP_ok, rp_m1, rp_six m1, rp_six m2, i1, i2, rp_lt, x]
    rw [e1] at k; exact k
  · have i1 := m.i1; have i2 := m.i2; have m1 := m.m1; have m2 := m.m2
    rw [e1] at i1 m1; rw [e2] at i2 m2
    have x : decide (((pre.length + 1 + near.length : Nat) : Int) < (pre.length : Int)) = false := by simp; omega
    simp only [rp_def, List.map_cons, List.map_nil, List.length_cons, List.length_nil, Nat.reduceAdd, Nat.reduceSub, List.replicate_zero, List.replicate_succ, List.append_nil, List.cons_append, List.nil_append, List.set_cons_zero, List.set_cons_succ, sp_ret, sp_seq, sp_asg, sp_if, sp_nx, sp_drop, SP_brS, rap_cons, rap_nil, rp_bi, rp_c, rp_op2, rp_op1, rp_not, rp_or, rp_and, rp_if, rp_call, rp_varM, List.getElem?_cons_zero, List.getElem?_cons_succ, rp_notD, RP_br, RP_ok, rp_m1, rp_six m1, rp_six m2, i1, i2, rp_lt, x]
    rw [e1] at k; exact k
/-! ### written -/
def wrL (pre near post : List Nat) (s1 : Nat) (n : List Nat) (i : Int) : List Nat := if s1 = 42 then pre ++ n ++ near ++ codes (toString i) ++ post else pre ++ codes (toString i) ++ near ++ n ++ post
/-! ### is_clear, two_readings -/
def allF (l : List Nat) : Bool := l.all fun c => decide (c ∈ FG)
theorem figs_rp {y : List Nat} {i : Nat} {env : L3.Env} {a : ME} (ha : ∀ P' : D → Cells → Prop, P' (.str y) cs → RP (a env cs) P' X) (hy : y.length ≤ sizeLine) (hi : i < env.length) (k : P (.bl (allF y)) cs) : RP (eBi allB (aCons (eLc false [i] (tgN i) (wSeq a) (eC (.bl true)) (op2 inD (eVar i) (eC (.str FG)))) aNil) env cs) P X := by
  simp only [rp_def, List.map_cons, List.map_nil, List.length_cons, List.length_nil, Nat.reduceAdd, Nat.reduceSub, List.replicate_zero, List.replicate_succ, List.append_nil, List.cons_append, List.nil_append, List.set_cons_zero, List.set_cons_succ, sp_ret, sp_seq, sp_asg, sp_if, sp_nx, sp_drop, SP_brS, rap_cons, rap_nil, rp_bi, rp_c, rp_op2, rp_op1, rp_not, rp_or, rp_and, rp_if, rp_call, rp_varM, List.getElem?_cons_zero, List.getElem?_cons_succ, rp_notD, RP_br, RP_ok, RP_bind, rp_lc, wp_seq]
  refine ha _ ?_
  simp only
  rw [lc_map (g := fun d => match d with | .str [c] => .bl (decide (c ∈ FG)) | _ => .non) trivial ?_]
  · have e1 : (List.map (fun d => match d with | D.str [c] => D.bl (decide (c ∈ FG)) | x => D.non) (List.map (fun ch => D.str [ch]) y)) = (y.map fun c => decide (c ∈ FG)).map D.bl := by
      rw [List.map_map, List.map_map]; rfl
    rw [e1]
    show RP (mkL false cs _) _ _
    rw [rp_mkLf (by rw [List.length_map, List.length_map]; exact hy), rp_allL]
    have : allF y = ((y.map fun c => decide (c ∈ FG)).all _root_.id) := by
      unfold allF; rw [List.all_map]; rfl
    rw [← this]
    exact k
  · intro d hd
    obtain ⟨c, hc, rfl⟩ := List.mem_map.mp hd
    refine ⟨_, rfl, rfl, RP.eq ?_⟩
    have : (List.set (wipeE env [i]) i (some (D.str [c])))[i]? = some (some (.str [c])) := List.getElem?_set_self (by rw [wipeE_len]; exact hi)
    simp only [rp_op2, rp_varM, this, rp_c, rp_inS]
    first | exact ⟨rfl, rfl⟩ | exact ⟨rfl, trivial⟩ | exact ⟨trivial, rfl⟩ | exact trivial | exact ⟨trivial, trivial⟩
theorem cl_mark {d : D} (h : IsM cs d false) (k : X "BadMark" [("found", d)] cs) : RP (m_is_clear [d] cs) P X := by
  unfold m_is_clear mb_is_clear
  try simp only [rp_def, List.map_cons, List.map_nil, List.length_cons, List.length_nil, Nat.reduceAdd, Nat.reduceSub, List.replicate_zero, List.replicate_succ, List.append_nil, List.cons_append, List.nil_append, List.set_cons_zero, List.set_cons_succ, sp_ret, sp_seq, sp_asg, sp_if, sp_nx, sp_drop, SP_brS, rap_cons, rap_nil, rp_bi, rp_c, rp_op2, rp_op1, rp_not, rp_or, rp_and, rp_if, rp_call, rp_varM, List.getElem?_cons_zero, List.getElem?_cons_succ, rp_notD, RP_br, RP_ok]
  exact nm_x h k
theorem cl_rp (m : Mk l pre near post s1 s2) (k : P (.bl (!allF near)) cs) : RP (m_is_clear [.str l] cs) P X := by
  have ln := m.lens
  unfold m_is_clear mb_is_clear
  simp only [rp_def, List.map_cons, List.map_nil, List.length_cons, List.length_nil, Nat.reduceAdd, Nat.reduceSub, List.replicate_zero, List.replicate_succ, List.append_nil, List.cons_append, List.nil_append, sp_seq, sp_drop, sp_ret, rp_call, rap_cons, rap_nil, rp_varM, List.getElem?_cons_zero]
  refine nm_rp m.ism ?_
  rw [rp_not]
  refine figs_rp (y := near) (fun P' k' => ?_) (by rw [sizeLine_eq]; omega) (by simp) ?_
  · simp only [rp_def, List.map_cons, List.map_nil, List.length_cons, List.length_nil, Nat.reduceAdd, Nat.reduceSub, List.replicate_zero, List.replicate_succ, List.append_nil, List.cons_append, List.nil_append, List.set_cons_zero, List.set_cons_succ, sp_ret, sp_seq, sp_asg, sp_if, sp_nx, sp_drop, SP_brS, rap_cons, rap_nil, rp_bi, rp_c, rp_op2, rp_op1, rp_not, rp_or, rp_and, rp_if, rp_call, rp_varM, List.getElem?_cons_zero, List.getElem?_cons_succ, rp_notD, RP_br, RP_ok]
    refine parts_rp m ?_
    rw [rp_ixT (x := D.str near) rfl]
    exact k'
  · rw [rp_notD]; exact k
theorem tr_mark {d : D} (h : IsM cs d false) (k : X "BadMark" [("found", d)] cs) : RP (m_two_readings [d] cs) P X := by
  unfold m_two_readings mb_two_readings
  try simp only [rp_def, List.map_cons, List.map_nil, List.length_cons, List.length_nil, Nat.reduceAdd, Nat.reduceSub, List.replicate_zero, List.replicate_succ, List.append_nil, List.cons_append, List.nil_append, List.set_cons_zero, List.set_cons_succ, sp_ret, sp_seq, sp_asg, sp_if, sp_nx, sp_drop, SP_brS, rap_cons, rap_nil, rp_bi, rp_c, rp_op2, rp_op1, rp_not, rp_or, rp_and, rp_if, rp_call, rp_varM, List.getElem?_cons_zero, List.getElem?_cons_succ, rp_notD, RP_br, RP_ok]
  exact cl_mark h k
theorem tr_clear (m : Mk l pre near post s1 s2) (h : allF near = false) (k : P .non cs) : RP (m_two_readings [.str l] cs) P X := by
  unfold m_two_readings mb_two_readings
  try simp only [rp_def, List.map_cons, List.map_nil, List.length_cons, List.length_nil, Nat.reduceAdd, Nat.reduceSub, List.replicate_zero, List.replicate_succ, List.append_nil, List.cons_append, List.nil_append, List.set_cons_zero, List.set_cons_succ, sp_ret, sp_seq, sp_asg, sp_if, sp_nx, sp_drop, SP_brS, rap_cons, rap_nil, rp_bi, rp_c, rp_op2, rp_op1, rp_not, rp_or, rp_and, rp_if, rp_call, rp_varM, List.getElem?_cons_zero, List.getElem?_cons_succ, rp_notD, RP_br, RP_ok]
  refine cl_rp m ?_
  rw [h]
  simp only [rp_def, List.map_cons, List.map_nil, List.length_cons, List.length_nil, Nat.reduceAdd, Nat.reduceSub, List.replicate_zero, List.replicate_succ, List.append_nil, List.cons_append, List.nil_append, List.set_cons_zero, List.set_cons_succ, sp_ret, sp_seq, sp_asg, sp_if, sp_nx, sp_drop, SP_brS, rap_cons, rap_nil, rp_bi, rp_c, rp_op2, rp_op1, rp_not, rp_or, rp_and, rp_if, rp_call, rp_varM, List.getElem?_cons_zero, List.getElem?_cons_succ, rp_notD, RP_br, RP_ok, Bool.not_false, if_true]
  exact k
theorem tr_dim (m : Mk l pre near post s1 s2) (h : allF near = true) (k : ∀ (i : Int) (z : List Nat), z.length ≤ 100 → P (.tup [.tup [.str [97], .int i], .tup [.str z, .int 2]]) cs) : RP (m_two_readings [.str l] cs) P X := by
  have ln := m.lens
  have hd : NumText.AllDigits (50 :: (near ++ [50])) := by
    intro c hc
    rcases List.mem_cons.mp hc with rfl | hc
    · decide
    · rcases List.mem_append.mp hc with hc | hc
      · have := of_decide_eq_true (List.all_eq_true.mp h c hc)
        simp only [FG, List.mem_cons, List.not_mem_nil, or_false] at this
        omega
      · rw [List.mem_singleton.mp hc]; decide
  have ht := intText_digits (x := ⟨(50 :: (near ++ [50])).toArray⟩) (by simpa using hd) (by simp) (by rw [str_len]; simp; omega)
  unfold m_two_readings mb_two_readings
  try simp only [rp_def, List.map_cons, List.map_nil, List.length_cons, List.length_nil, Nat.reduceAdd, Nat.reduceSub, List.replicate_zero, List.replicate_succ, List.append_nil, List.cons_append, List.nil_append, List.set_cons_zero, List.set_cons_succ, sp_ret, sp_seq, sp_asg, sp_if, sp_nx, sp_drop, SP_brS, rap_cons, rap_nil, rp_bi, rp_c, rp_op2, rp_op1, rp_not, rp_or, rp_and, rp_if, rp_call, rp_varM, List.getElem?_cons_zero, List.getElem?_cons_succ, rp_notD, RP_br, RP_ok]
  refine cl_rp m ?_
  rw [h]
  simp only [rp_def, List.map_cons, List.map_nil, List.length_cons, List.length_nil, Nat.reduceAdd, Nat.reduceSub, List.replicate_zero, List.replicate_succ, List.append_nil, List.cons_append, List.nil_append, List.set_cons_zero, List.set_cons_succ, sp_ret, sp_seq, sp_asg, sp_if, sp_nx, sp_drop, SP_brS, rap_cons, rap_nil, rp_bi, rp_c, rp_op2, rp_op1, rp_not, rp_or, rp_and, rp_if, rp_call, rp_varM, List.getElem?_cons_zero, List.getElem?_cons_succ, rp_notD, RP_br, RP_ok, Bool.not_true, Bool.false_eq_true, if_false]
  refine parts_rp m ?_
  rw [rp_ixT (x := D.str near) rfl]
  try simp only [rp_def, List.map_cons, List.map_nil, List.length_cons, List.length_nil, Nat.reduceAdd, Nat.reduceSub, List.replicate_zero, List.replicate_succ, List.append_nil, List.cons_append, List.nil_append, List.set_cons_zero, List.set_cons_succ, sp_ret, sp_seq, sp_asg, sp_if, sp_nx, sp_drop, SP_brS, rap_cons, rap_nil, rp_bi, rp_c, rp_op2, rp_op1, rp_not, rp_or, rp_and, rp_if, rp_call, rp_varM, List.getElem?_cons_zero, List.getElem?_cons_succ, rp_notD, RP_br, RP_ok]
  refine nf_rp m ?_
  have w : ∀ z : List Nat, z.length ≤ 100 → SP (sRet (eTup (aCons (eTup (aCons (eC (.str [97])) (aCons (eBi intB (aCons (op2 (addD false) (op2 (addD false) (eC (.str [50])) (eVar 1)) (eC (.str [50]))) aNil)) aNil))) (aCons (eTup (aCons (eVar 2) (aCons (eC (.int 2)) aNil))) aNil))) [some (.str l), some (.str near), some (.str z)] cs) ⟨fun _ c => P .non c, P, fun _ _ => False, fun _ _ => False, fun x fs _ c => X x fs c⟩ := by
    intro z hz
    simp only [rp_def, List.map_cons, List.map_nil, List.length_cons, List.length_nil, Nat.reduceAdd, Nat.reduceSub, List.replicate_zero, List.replicate_succ, List.append_nil, List.cons_append, List.nil_append, List.set_cons_zero, List.set_cons_succ, sp_ret, sp_seq, sp_asg, sp_if, sp_nx, sp_drop, SP_brS, rap_cons, rap_nil, rp_bi, rp_c, rp_op2, rp_op1, rp_not, rp_or, rp_and, rp_if, rp_call, rp_varM, List.getElem?_cons_zero, List.getElem?_cons_succ, rp_notD, RP_br, RP_ok, rp_tup]
    rw [rp_addS (by rw [sizeLine_eq]; simp; omega), rp_addS (by rw [sizeLine_eq]; simp; omega)]
    simp only [List.cons_append, List.nil_append]
    rw [rp_int ht (by simp; omega), rp_mkT (by rw [sizeLine_eq]; simp)]
    simp only [rp_def, List.map_cons, List.map_nil, List.length_cons, List.length_nil, Nat.reduceAdd, Nat.reduceSub, List.replicate_zero, List.replicate_succ, List.append_nil, List.cons_append, List.nil_append, List.set_cons_zero, List.set_cons_succ, sp_ret, sp_seq, sp_asg, sp_if, sp_nx, sp_drop, SP_brS, rap_cons, rap_nil, rp_bi, rp_c, rp_op2, rp_op1, rp_not, rp_or, rp_and, rp_if, rp_call, rp_varM, List.getElem?_cons_zero, List.getElem?_cons_succ, rp_notD, RP_br, RP_ok, rp_tup]
    rw [rp_mkT (by rw [sizeLine_eq]; simp), rp_mkT (by rw [sizeLine_eq]; simp)]
    exact k _ z hz
  by_cases e : s1 = 42
  · simp only [e, decide_true, cond_true, rp_def, List.map_cons, List.map_nil, List.length_cons, List.length_nil, Nat.reduceAdd, Nat.reduceSub, List.replicate_zero, List.replicate_succ, List.append_nil, List.cons_append, List.nil_append, List.set_cons_zero, List.set_cons_succ, sp_ret, sp_seq, sp_asg, sp_if, sp_nx, sp_drop, SP_brS, rap_cons, rap_nil, rp_bi, rp_c, rp_op2, rp_op1, rp_not, rp_or, rp_and, rp_if, rp_call, rp_varM, List.getElem?_cons_zero, List.getElem?_cons_succ, rp_notD, RP_br, RP_ok]
    rw [rp_addS (by rw [sizeLine_eq]; simp; omega), rp_addS (by rw [sizeLine_eq]; simp; omega)]
    have := w ([97] ++ near ++ [50]) (by simp; omega)
    simp only [rp_def, List.map_cons, List.map_nil, List.length_cons, List.length_nil, Nat.reduceAdd, Nat.reduceSub, List.replicate_zero, List.replicate_succ, List.append_nil, List.cons_append, List.nil_append, List.set_cons_zero, List.set_cons_succ, sp_ret, sp_seq, sp_asg, sp_if, sp_nx, sp_drop, SP_brS, rap_cons, rap_nil, rp_bi, rp_c, rp_op2, rp_op1, rp_not, rp_or, rp_and, rp_if, rp_call, rp_varM, List.getElem?_cons_zero, List.getElem?_cons_succ, rp_notD, RP_br, RP_ok] at this ⊢
    exact this
  · simp only [e, decide_false, cond_false, rp_def, List.map_cons, List.map_nil, List.length_cons, List.length_nil, Nat.reduceAdd, Nat.reduceSub, List.replicate_zero, List.replicate_succ, List.append_nil, List.cons_append, List.nil_append, List.set_cons_zero, List.set_cons_succ, sp_ret, sp_seq, sp_asg, sp_if, sp_nx, sp_drop, SP_brS, rap_cons, rap_nil, rp_bi, rp_c, rp_op2, rp_op1, rp_not, rp_or, rp_and, rp_if, rp_call, rp_varM, List.getElem?_cons_zero, List.getElem?_cons_succ, rp_notD, RP_br, RP_ok]
    rw [rp_addS (by rw [sizeLine_eq]; simp; omega), rp_addS (by rw [sizeLine_eq]; simp; omega)]
    have := w ([50] ++ near ++ [97]) (by simp; omega)
    simp only [rp_def, List.map_cons, List.map_nil, List.length_cons, List.length_nil, Nat.reduceAdd, Nat.reduceSub, List.replicate_zero, List.replicate_succ, List.append_nil, List.cons_append, List.nil_append, List.set_cons_zero, List.set_cons_succ, sp_ret, sp_seq, sp_asg, sp_if, sp_nx, sp_drop, SP_brS, rap_cons, rap_nil, rp_bi, rp_c, rp_op2, rp_op1, rp_not, rp_or, rp_and, rp_if, rp_call, rp_varM, List.getElem?_cons_zero, List.getElem?_cons_succ, rp_notD, RP_br, RP_ok] at this ⊢
    exact this
theorem nc_mark {d : D} (h : IsM cs d false) (k : X "BadMark" [("found", d)] cs) : RP (m_need_clear [d] cs) P X := by
  unfold m_need_clear mb_need_clear
  try simp only [rp_def, List.map_cons, List.map_nil, List.length_cons, List.length_nil, Nat.reduceAdd, Nat.reduceSub, List.replicate_zero, List.replicate_succ, List.append_nil, List.cons_append, List.nil_append, List.set_cons_zero, List.set_cons_succ, sp_ret, sp_seq, sp_asg, sp_if, sp_nx, sp_drop, SP_brS, rap_cons, rap_nil, rp_bi, rp_c, rp_op2, rp_op1, rp_not, rp_or, rp_and, rp_if, rp_call, rp_varM, List.getElem?_cons_zero, List.getElem?_cons_succ, rp_notD, RP_br, RP_ok]
  exact tr_mark h k
theorem nc_rp (m : Mk l pre near post s1 s2) (h : allF near = false) (k : P .non cs) : RP (m_need_clear [.str l] cs) P X := by
  unfold m_need_clear mb_need_clear
  try simp only [rp_def, List.map_cons, List.map_nil, List.length_cons, List.length_nil, Nat.reduceAdd, Nat.reduceSub, List.replicate_zero, List.replicate_succ, List.append_nil, List.cons_append, List.nil_append, List.set_cons_zero, List.set_cons_succ, sp_ret, sp_seq, sp_asg, sp_if, sp_nx, sp_drop, SP_brS, rap_cons, rap_nil, rp_bi, rp_c, rp_op2, rp_op1, rp_not, rp_or, rp_and, rp_if, rp_call, rp_varM, List.getElem?_cons_zero, List.getElem?_cons_succ, rp_notD, RP_br, RP_ok]
  refine tr_clear m h ?_
  simp only [rp_def, List.map_cons, List.map_nil, List.length_cons, List.length_nil, Nat.reduceAdd, Nat.reduceSub, List.replicate_zero, List.replicate_succ, List.append_nil, List.cons_append, List.nil_append, List.set_cons_zero, List.set_cons_succ, sp_ret, sp_seq, sp_asg, sp_if, sp_nx, sp_drop, SP_brS, rap_cons, rap_nil, rp_bi, rp_c, rp_op2, rp_op1, rp_not, rp_or, rp_and, rp_if, rp_call, rp_varM, List.getElem?_cons_zero, List.getElem?_cons_succ, rp_notD, RP_br, RP_ok, rp_isNB, Bool.not_true, Bool.false_eq_true, if_false]
  exact k
theorem nc_dim (m : Mk l pre near post s1 s2) (h : allF near = true) (k : ∀ a b, X "Blurred" [("other", b), ("one", a)] cs) : RP (m_need_clear [.str l] cs) P X := by
  unfold m_need_clear mb_need_clear
  try simp only [rp_def, List.map_cons, List.map_nil, List.length_cons, List.length_nil, Nat.reduceAdd, Nat.reduceSub, List.replicate_zero, List.replicate_succ, List.append_nil, List.cons_append, List.nil_append, List.set_cons_zero, List.set_cons_succ, sp_ret, sp_seq, sp_asg, sp_if, sp_nx, sp_drop, SP_brS, rap_cons, rap_nil, rp_bi, rp_c, rp_op2, rp_op1, rp_not, rp_or, rp_and, rp_if, rp_call, rp_varM, List.getElem?_cons_zero, List.getElem?_cons_succ, rp_notD, RP_br, RP_ok]
  refine tr_dim m h fun i z hz => ?_
  simp only [rp_def, List.map_cons, List.map_nil, List.length_cons, List.length_nil, Nat.reduceAdd, Nat.reduceSub, List.replicate_zero, List.replicate_succ, List.append_nil, List.cons_append, List.nil_append, List.set_cons_zero, List.set_cons_succ, sp_ret, sp_seq, sp_asg, sp_if, sp_nx, sp_drop, SP_brS, rap_cons, rap_nil, rp_bi, rp_c, rp_op2, rp_op1, rp_not, rp_or, rp_and, rp_if, rp_call, rp_varM, List.getElem?_cons_zero, List.getElem?_cons_succ, rp_notD, RP_br, RP_ok, rp_isNB, Bool.not_false, if_true, sp_raise]
  rw [rp_ixT (x := D.tup [.str [97], .int i]) rfl, rp_ixT (x := D.tup [.str z, .int 2]) rfl]
  exact k _ _
/-! ### reading -/
end

end T_k70

namespace T_k70
open PySem L2 L3
/-! ### rules -/
abbrev wNest : List Nat := [110, 101, 115, 116]
abbrev wClimb : List Nat := [99, 108, 105, 109, 98]
def RuF (l w : List Nat) : List (Str × D) := [("rule_mark", .str l), ("rule_way", .str w)]
def RuleAt (cs : Cells) (n : Nat) (l w : List Nat) : Prop := cs[n]? = some (.ins "Rule" (RuF l w))
section
variable {l w : List Nat} {cs : Cells} {n : Nat} {P : D → Cells → Prop} {X : KX}
theorem ru_mark : (RuF l w).lookup ("rule_mark" : Str) = some (.str l) := by
  unfold RuF; rw [List.lookup, beq_self_eq_true]
theorem ru_way : (RuF l w).lookup ("rule_way" : Str) = some (.str w) := by
  unfold RuF; rw [List.lookup, show (("rule_way" : Str) == "rule_mark") = false by decide +kernel, List.lookup, beq_self_eq_true]
theorem ru_no {m : Str} (h : (m == "rule_mark") = false) (h2 : (m == "rule_way") = false) : (RuF l w).lookup m = none := by
  unfold RuF; rw [List.lookup, h, List.lookup, h2]; rfl
theorem ru_read : (RuF l w).lookup ("read" : Str) = none := ru_no (by decide +kernel) (by decide +kernel)
theorem ru_wayM : (RuF l w).lookup ("way" : Str) = none := ru_no (by decide +kernel) (by decide +kernel)
theorem ru_put : (RuF l w).lookup ("put" : Str) = none := ru_no (by decide +kernel) (by decide +kernel)
theorem RuleAt.ins (h : RuleAt cs n l w) : insAt cs (.loc n) = some (n, ("Rule" : Str), RuF l w) := ins_at h
/-! making one -/
def WayBad (cs : Cells) (d : D) : Prop := (∃ u, tyC cs d = some u ∧ u ∈ TY) ∨ ∃ l, d = .str l ∧ wNest ≠ l ∧ wClimb ≠ l
theorem in_ways {l : List Nat} : inB cs (.str l) (.tup [.str wNest, .str wClimb]) = some (decide (wNest = l) || (decide (wClimb = l) || false)) := by
  unfold inB
  split
  · rename_i e; cases e
  · rfl
theorem rp_ways {l : List Nat} : RP (ninD cs (.str l) (.tup [.str wNest, .str wClimb])) P X = P (.bl !(decide (wNest = l) || (decide (wClimb = l) || false))) cs := by
  unfold ninD; rw [in_ways]; rfl
theorem ri_mark {d e : D} (h : IsM cs d false) (k : X "BadMark" [("found", d)] cs) : RP (m_Rule___init__ [.loc n, d, e] cs) P X := by
  unfold m_Rule___init__ mb_Rule___init__
  simp only [rp_def, List.map_cons, List.map_nil, List.length_cons, List.length_nil, Nat.reduceAdd, Nat.reduceSub, List.replicate_zero, List.replicate_succ, List.append_nil, List.cons_append, List.nil_append, List.set_cons_zero, List.set_cons_succ, sp_ret, sp_seq, sp_asg, sp_if, sp_nx, sp_drop, SP_brS, rap_cons, rap_nil, rp_bi, rp_c, rp_op2, rp_op1, rp_not, rp_or, rp_and, rp_if, rp_call, rp_varM, List.getElem?_cons_zero, List.getElem?_cons_succ, rp_notD, RP_br, RP_ok]
  exact nc_mark h k
variable {pre near post : List Nat} {s1 s2 : Nat}
theorem ri_dim (m : Mk l pre near post s1 s2) (h : allF near = true) {e : D} (k : ∀ a b, X "Blurred" [("other", b), ("one", a)] cs) : RP (m_Rule___init__ [.loc n, .str l, e] cs) P X := by
  unfold m_Rule___init__ mb_Rule___init__
  simp only [rp_def, List.map_cons, List.map_nil, List.length_cons, List.length_nil, Nat.reduceAdd, Nat.reduceSub, List.replicate_zero, List.replicate_succ, List.append_nil, List.cons_append, List.nil_append, List.set_cons_zero, List.set_cons_succ, sp_ret, sp_seq, sp_asg, sp_if, sp_nx, sp_drop, SP_brS, rap_cons, rap_nil, rp_bi, rp_c, rp_op2, rp_op1, rp_not, rp_or, rp_and, rp_if, rp_call, rp_varM, List.getElem?_cons_zero, List.getElem?_cons_succ, rp_notD, RP_br, RP_ok]
  exact nc_dim m h k
theorem ri_way (m : Mk l pre near post s1 s2) (h : allF near = false) {e : D} (q : WayBad cs e) (k : X "BadWay" [("found", e)] cs) : RP (m_Rule___init__ [.loc n, .str l, e] cs) P X := by
  unfold m_Rule___init__ mb_Rule___init__
  simp only [rp_def, List.map_cons, List.map_nil, List.length_cons, List.length_nil, Nat.reduceAdd, Nat.reduceSub, List.replicate_zero, List.replicate_succ, List.append_nil, List.cons_append, List.nil_append, List.set_cons_zero, List.set_cons_succ, sp_ret, sp_seq, sp_asg, sp_if, sp_nx, sp_drop, SP_brS, rap_cons, rap_nil, rp_bi, rp_c, rp_op2, rp_op1, rp_not, rp_or, rp_and, rp_if, rp_call, rp_varM, List.getElem?_cons_zero, List.getElem?_cons_succ, rp_notD, RP_br, RP_ok]
  refine nc_rp m h ?_
  rcases q with ⟨u, hu, hm⟩ | ⟨z, rfl, n1, n2⟩
  · simp only [rp_def, List.map_cons, List.map_nil, List.length_cons, List.length_nil, Nat.reduceAdd, Nat.reduceSub, List.replicate_zero, List.replicate_succ, List.append_nil, List.cons_append, List.nil_append, List.set_cons_zero, List.set_cons_succ, sp_ret, sp_seq, sp_asg, sp_if, sp_nx, sp_drop, SP_brS, rap_cons, rap_nil, rp_bi, rp_c, rp_op2, rp_op1, rp_not, rp_or, rp_and, rp_if, rp_call, rp_varM, List.getElem?_cons_zero, List.getElem?_cons_succ, rp_notD, RP_br, RP_ok, isi_nstr hu hm, Bool.not_false, cond_true, if_true, sp_raise]
    exact k
  · have e1 : RP (mkT cs [.str wNest, .str wClimb]) = fun P X => P (.tup [.str wNest, .str wClimb]) cs := by
      funext P X; exact rp_mkT (by rw [sizeLine_eq]; simp)
    simp only [rp_def, List.map_cons, List.map_nil, List.length_cons, List.length_nil, Nat.reduceAdd, Nat.reduceSub, List.replicate_zero, List.replicate_succ, List.append_nil, List.cons_append, List.nil_append, List.set_cons_zero, List.set_cons_succ, sp_ret, sp_seq, sp_asg, sp_if, sp_nx, sp_drop, SP_brS, rap_cons, rap_nil, rp_bi, rp_c, rp_op2, rp_op1, rp_not, rp_or, rp_and, rp_if, rp_call, rp_varM, List.getElem?_cons_zero, List.getElem?_cons_succ, rp_notD, RP_br, RP_ok, isi_str, Bool.not_true, cond_false, rp_tup, e1, rp_ways, n1, n2, decide_false, Bool.or_false, Bool.not_false, if_true, sp_raise]
    exact k
theorem ri_ok (m : Mk l pre near post s1 s2) (h : allF near = false) {z : List Nat} (q : z = wNest ∨ z = wClimb) (hn : cs[n]? = some (.ins "Rule" [])) (k : P .non (cs.set n (.ins "Rule" (RuF l z)))) : RP (m_Rule___init__ [.loc n, .str l, .str z] cs) P X := by
  have e1 : RP (mkT cs [.str wNest, .str wClimb]) = fun P X => P (.tup [.str wNest, .str wClimb]) cs := by
    funext P X; exact rp_mkT (by rw [sizeLine_eq]; simp)
  have hl : n < cs.length := (List.getElem?_eq_some_iff.mp hn).1
  have hb : (!(decide (wNest = z) || (decide (wClimb = z) || false))) = false := by rcases q with rfl | rfl <;> decide
  have h2 : (cs.set n (.ins "Rule" (putFD "rule_mark" (.str l) [])))[n]? = some (.ins "Rule" (putFD "rule_mark" (.str l) [])) := List.getElem?_set_self hl
  have e3 : putFD "rule_way" (.str z) (putFD "rule_mark" (.str l) []) = RuF l z := by
    unfold RuF
    rw [show putFD ("rule_mark" : Str) (.str l) [] = [(("rule_mark" : Str), D.str l)] from rfl, putFD, if_neg (by decide +kernel)]
    rfl
  have l0 : ([] : List (Str × D)).length < 1000 := by decide
  have l1 : (putFD "rule_mark" (.str l) []).length < 1000 := (by decide : 1 < 1000)
  unfold m_Rule___init__ mb_Rule___init__
  simp only [rp_def, List.map_cons, List.map_nil, List.length_cons, List.length_nil, Nat.reduceAdd, Nat.reduceSub, List.replicate_zero, List.replicate_succ, List.append_nil, List.cons_append, List.nil_append, List.set_cons_zero, List.set_cons_succ, sp_ret, sp_seq, sp_asg, sp_if, sp_nx, sp_drop, SP_brS, rap_cons, rap_nil, rp_bi, rp_c, rp_op2, rp_op1, rp_not, rp_or, rp_and, rp_if, rp_call, rp_varM, List.getElem?_cons_zero, List.getElem?_cons_succ, rp_notD, RP_br, RP_ok]
  refine nc_rp m h ?_
  simp only [rp_def, List.map_cons, List.map_nil, List.length_cons, List.length_nil, Nat.reduceAdd, Nat.reduceSub, List.replicate_zero, List.replicate_succ, List.append_nil, List.cons_append, List.nil_append, List.set_cons_zero, List.set_cons_succ, sp_ret, sp_seq, sp_asg, sp_if, sp_nx, sp_drop, SP_brS, rap_cons, rap_nil, rp_bi, rp_c, rp_op2, rp_op1, rp_not, rp_or, rp_and, rp_if, rp_call, rp_varM, List.getElem?_cons_zero, List.getElem?_cons_succ, rp_notD, RP_br, RP_ok, isi_str, Bool.not_true, cond_false, rp_tup, e1, rp_ways, hb, Bool.false_eq_true, if_false, sp_fst, ins_at hn, eq_self, true_and, l0, if_true]
  simp only [ins_at h2, eq_self, true_and, l1, if_true, e3, List.set_set]
  exact k
theorem set_last {a b : Cell} : (cs ++ [a]).set cs.length b = cs ++ [b] := by
  rw [List.set_append_right _ _ (Nat.le_refl _), Nat.sub_self]; rfl
/-! need_rule -/
theorem nr_rp (h : RuleAt cs n l w) (k : P .non cs) : RP (m_need_rule [.loc n] cs) P X := by
  unfold m_need_rule mb_need_rule
  simp only [rp_def, List.map_cons, List.map_nil, List.length_cons, List.length_nil, Nat.reduceAdd, Nat.reduceSub, List.replicate_zero, List.replicate_succ, List.append_nil, List.cons_append, List.nil_append, List.set_cons_zero, List.set_cons_succ, sp_ret, sp_seq, sp_asg, sp_if, sp_nx, sp_drop, SP_brS, rap_cons, rap_nil, rp_bi, rp_c, rp_op2, rp_op1, rp_not, rp_or, rp_and, rp_if, rp_call, rp_varM, List.getElem?_cons_zero, List.getElem?_cons_succ, rp_notD, RP_br, RP_ok, rp_isoT h, Bool.not_true, Bool.false_eq_true, if_false]
  exact k
theorem nr_x {d : D} {u : String} (h : insAt cs d = none) (q : tyC cs d = some u) (hu : u ∈ TZ) (k : X "BadRule" [("found", d)] cs) : RP (m_need_rule [d] cs) P X := by
  unfold m_need_rule mb_need_rule
  simp only [rp_def, List.map_cons, List.map_nil, List.length_cons, List.length_nil, Nat.reduceAdd, Nat.reduceSub, List.replicate_zero, List.replicate_succ, List.append_nil, List.cons_append, List.nil_append, List.set_cons_zero, List.set_cons_succ, sp_ret, sp_seq, sp_asg, sp_if, sp_nx, sp_drop, SP_brS, rap_cons, rap_nil, rp_bi, rp_c, rp_op2, rp_op1, rp_not, rp_or, rp_and, rp_if, rp_call, rp_varM, List.getElem?_cons_zero, List.getElem?_cons_succ, rp_notD, RP_br, RP_ok, rp_isoF h q hu, Bool.not_false, if_true, sp_raise]
  exact k
theorem RuleAt.app (h : RuleAt cs n l w) {news : Cells} : RuleAt (cs ++ news) n l w := by
  unfold RuleAt at *
  rw [List.getElem?_append_left (List.getElem?_eq_some_iff.mp h).1]; exact h
theorem RuleAt.tk {c' : Cells} {m B : Nat} (h : RuleAt cs m l w) (hb : Bx cs n B) (k : ∀ m, m ≠ n → c'[m]? = cs[m]?) : RuleAt c' m l w := by
  refine (k m fun e => ?_).trans h
  subst e
  obtain ⟨a, b, c, h2, _⟩ := hb
  rw [show cs[m]? = some (.ins "Rule" (RuF l w)) from h] at h2
  cases h2
end

end T_k70

namespace T_k70
open PySem L2 L3
/-! ### the box, with the other cells kept -/
def Bk (c0 c : Cells) (n B : Nat) : Prop := Bx c n B ∧ ∀ m : Nat, m ≠ n → c[m]? = c0[m]?
theorem Bk.refl {c : Cells} {n B : Nat} (h : Bx c n B) : Bk c c n B := ⟨h, fun _ _ => rfl⟩
theorem Bk.le {c0 c : Cells} {n B B' : Nat} (h : Bk c0 c n B) (l : B ≤ B') : Bk c0 c n B' := ⟨h.1.le l, h.2⟩
theorem take_bk {n B : Nat} {many : Int} {c0 cs : Cells} {P : D → Cells → Prop} {X : KX} (hb : Bk c0 cs n B) (hB : B < 1000000) (h1 : 0 < many) (h2 : many < big)
    (hP : ∀ (r : Int) (c' : Cells), 0 ≤ r → r < many → Bk c0 c' n (B + 1) → True → True → P (.int r) c') : RP (m__law_take [.loc n, .int many] cs) P X :=
  take_rp hb.1 hB h1 h2 fun r c' a b h k _ => hP r c' a b ⟨h, fun m hm => (k m hm).trans (hb.2 m hm)⟩ trivial trivial

theorem signs_bk {n B : Nat} {m : Int} {c0 cs : Cells} {P : D → Cells → Prop} {X : KX} (hb : Bk c0 cs n B) (h0 : 0 ≤ m) (h1 : m ≤ 1000) (hB : B < 900000)
    (k : ∀ (l : List Nat) (c' : Cells), l.length = m.toNat → (∀ c ∈ l, c ∈ SG) → Bk c0 c' n (B + m.toNat) → P (.str l) c') : RP (m__law_signs [.loc n, .int m] cs) P X := by
  unfold m__law_signs mb__law_signs
  simp only [rp_def, List.map_cons, List.map_nil, List.length_cons, List.length_nil, Nat.reduceAdd, Nat.reduceSub, List.replicate_zero, List.replicate_succ, List.append_nil, List.cons_append, List.nil_append,
    sp_ret, rp_m1, rp_c, rp_lc, wp_r1, rp_varM, List.getElem?_cons_zero, List.getElem?_cons_succ]
  refine ⟨by unfold lim; omega, ?_⟩
  have hlc := lc_inv (X := X) (chk := fun _ => True) (tg := tgN 2) (t := eC (.bl true)) (e := op2 ixD (eC (D.str SG)) (eCall m__law_take (aCons (eVar 0) (aCons (eC (D.int 41)) aNil))))
    (items := rangeD 0 m.toNat) (env := wipeE [some (D.loc n), some (D.int m), none] [2]) (cs := cs)
    (fun i ds c => Bk c0 c n (B + i) ∧ ∃ ls, strsOf ds = some ls ∧ ls.length = i ∧ ∀ z ∈ ls, z.length = 1 ∧ ∀ c ∈ z, c ∈ SG) [] ⟨hb, [], rfl, rfl, fun _ h => by cases h⟩ (fun _ _ _ => trivial) (fun j d ds c hj ⟨hb, ls, h1, h2, h3⟩ => by
    obtain ⟨hj, rfl⟩ := range_get hj
    refine ⟨trivial, _, rfl, ?_⟩
    rw [rp_c]
    refine ⟨true, rfl, ?_⟩
    rw [if_pos rfl]
    simp only [rp_op2, rp_c, rp_call, rap_cons, rap_nil, rp_varM, wipeE, List.set_cons_zero, List.set_cons_succ, List.getElem?_cons_zero, List.getElem?_cons_succ]
    refine take_bk hb (by omega) (by decide) (by decide) fun r c' r0 r1 hb' _ _ => ?_
    refine rp_ixSA (by rw [sizeLine_eq]; decide) r0 (Int.lt_of_lt_of_le r1 (by decide)) fun ch hch => ?_
    refine ⟨hb', ls ++ [[ch]], strsOf_app h1 rfl, by simp [h2], fun z hz => ?_⟩
    rcases List.mem_append.mp hz with hz | hz
    · exact h3 z hz
    · rw [List.mem_singleton.mp hz]; exact ⟨rfl, fun c hc => by rw [List.mem_singleton.mp hc]; exact hch⟩)
  refine RAP.mono hlc fun ds c6 ⟨hb, ls, h1, h2, h3⟩ => ?_
  rw [List.nil_append] at h1
  rw [rangeD_length] at hb h2
  have hjn : (ls.map (·.length)).sum + ls.length * ([] : List Nat).length ≤ 16777216 := by rw [ones_sum fun z hz => (h3 z hz).1]; simp; omega
  rw [rp_mkLf (by rw [sizeLine_eq, strsOf_len h1]; omega), rp_join seq_lst h1 hjn, joinL_nil]
  refine k _ _ (by rw [ones_len fun z hz => (h3 z hz).1, h2]) (fun c hc => ?_) hb
  obtain ⟨z, hz, hcz⟩ := List.mem_flatten.mp hc
  exact (h3 z hz).2 c hcz

/-! ### the marks that are drawn -/
theorem mark_bk {n B : Nat} {c0 cs : Cells} {P : D → Cells → Prop} {X : KX} (hb : Bk c0 cs n B) (hB : B < 800000)
    (k : ∀ (l pre near post : List Nat) (s1 s2 : Nat) (c' : Cells), Mk l pre near post s1 s2 → allF near = false → Bk c0 c' n (B + 20) → P (.str l) c') : RP (m__law_mark [.loc n] cs) P X := by
  unfold m__law_mark mb__law_mark
  try simp only [rp_def, List.map_cons, List.map_nil, List.length_cons, List.length_nil, Nat.reduceAdd, Nat.reduceSub, List.replicate_zero, List.replicate_succ, List.append_nil, List.cons_append, List.nil_append, List.set_cons_zero, List.set_cons_succ, sp_ret, sp_seq, sp_asg, sp_if, sp_nx, sp_drop, SP_brS, rap_cons, rap_nil, rp_bi, rp_c, rp_op2, rp_op1, rp_not, rp_or, rp_and, rp_if, rp_call, rp_varM, List.getElem?_cons_zero, List.getElem?_cons_succ, rp_notD, RP_br, RP_ok]
  refine take_bk hb (by omega) (by decide) (by decide) fun r1 c1 q1 q1' hb _ _ => ?_
  rw [rp_eqI]
  by_cases h0 : r1 = 0
  · simp only [h0, decide_true, if_true, rp_def, List.map_cons, List.map_nil, List.length_cons, List.length_nil, Nat.reduceAdd, Nat.reduceSub, List.replicate_zero, List.replicate_succ, List.append_nil, List.cons_append, List.nil_append, List.set_cons_zero, List.set_cons_succ, sp_ret, sp_seq, sp_asg, sp_if, sp_nx, sp_drop, SP_brS, rap_cons, rap_nil, rp_bi, rp_c, rp_op2, rp_op1, rp_not, rp_or, rp_and, rp_if, rp_call, rp_varM, List.getElem?_cons_zero, List.getElem?_cons_succ, rp_notD, RP_br, RP_ok, rp_list]
    rw [rp_mkLf (by rw [sizeLine_eq]; simp)]
    refine take_bk hb (by omega) (by decide) (by decide) fun r2 c2 q2 q2' hb _ _ => ?_
    refine rp_ixAll q2 (by simpa using q2') fun d hd => ?_
    simp only [List.mem_cons, List.not_mem_nil, or_false] at hd
    rcases hd with rfl | rfl | rfl
    · exact k _ [] [45] [] 42 35 c2 ⟨rfl, .inl ⟨rfl, rfl⟩, by decide, by decide, by decide, by decide⟩ (by decide) (hb.le (by omega))
    · exact k _ [] [40] [41] 42 35 c2 ⟨rfl, .inl ⟨rfl, rfl⟩, by decide, by decide, by decide, by decide⟩ (by decide) (hb.le (by omega))
    · exact k _ [] [46] [] 35 42 c2 ⟨rfl, .inr ⟨rfl, rfl⟩, by decide, by decide, by decide, by decide⟩ (by decide) (hb.le (by omega))
  · simp only [h0, decide_false, Bool.false_eq_true, if_false, rp_def, List.map_cons, List.map_nil, List.length_cons, List.length_nil, Nat.reduceAdd, Nat.reduceSub, List.replicate_zero, List.replicate_succ, List.append_nil, List.cons_append, List.nil_append, List.set_cons_zero, List.set_cons_succ, sp_ret, sp_seq, sp_asg, sp_if, sp_nx, sp_drop, SP_brS, rap_cons, rap_nil, rp_bi, rp_c, rp_op2, rp_op1, rp_not, rp_or, rp_and, rp_if, rp_call, rp_varM, List.getElem?_cons_zero, List.getElem?_cons_succ, rp_notD, RP_br, RP_ok]
    refine take_bk hb (by omega) (by decide) (by decide) fun r2 c2 q2 q2' hb _ _ => ?_
    refine signs_bk hb (by omega) (by omega) (by omega) fun l1 c3 e1 g1 hb => ?_
    have hb := hb.le (B' := B + 4) (by omega)
    refine take_bk hb (by omega) (by decide) (by decide) fun r3 c4 q3 q3' hb _ _ => ?_
    refine rp_ixSA (by rw [sizeLine_eq]; decide) q3 (by simpa using q3') fun ch hch => ?_
    rw [rp_addS (by rw [sizeLine_eq]; first | omega | (simp; omega) | simp)]
    simp only [rp_def, List.map_cons, List.map_nil, List.length_cons, List.length_nil, Nat.reduceAdd, Nat.reduceSub, List.replicate_zero, List.replicate_succ, List.append_nil, List.cons_append, List.nil_append, List.set_cons_zero, List.set_cons_succ, sp_ret, sp_seq, sp_asg, sp_if, sp_nx, sp_drop, SP_brS, rap_cons, rap_nil, rp_bi, rp_c, rp_op2, rp_op1, rp_not, rp_or, rp_and, rp_if, rp_call, rp_varM, List.getElem?_cons_zero, List.getElem?_cons_succ, rp_notD, RP_br, RP_ok, rp_list]
    rw [rp_mkLf (by rw [sizeLine_eq]; simp)]
    refine take_bk hb (by omega) (by decide) (by decide) fun r4 c5 q4 q4' hb _ _ => ?_
    have hz : ∀ d ∈ [D.str [], .str [48], .str [49, 50], .str [53]], ∃ z : List Nat, d = .str z ∧ z.length ≤ 2 ∧ ∀ c ∈ z, c ∈ SG := by
      simp only [List.forall_mem_cons]
      exact ⟨⟨_, rfl, by decide, by decide⟩, ⟨_, rfl, by decide, by decide⟩, ⟨_, rfl, by decide, by decide⟩, ⟨_, rfl, by decide, by decide⟩, fun d h => by cases h⟩
    refine rp_ixAll q4 (by simpa using q4') fun d hd => ?_
    obtain ⟨z, rfl, z1, z2⟩ := hz d hd
    rw [rp_addS (by rw [sizeLine_eq]; first | omega | (simp; omega) | simp)]
    have n1 : (l1 ++ [ch] ++ z).length ≤ 5 := by simp; omega
    have n2 : ∀ c ∈ l1 ++ [ch] ++ z, c ∈ SG := by
      intro c hc
      rcases List.mem_append.mp hc with hc | hc
      · rcases List.mem_append.mp hc with hc | hc
        · exact g1 c hc
        · rw [List.mem_singleton.mp hc]
          revert hch
          generalize ch = x
          revert x
          decide
      · exact z2 c hc
    have n3 : allF (l1 ++ [ch] ++ z) = false := by
      cases h : allF (l1 ++ [ch] ++ z) with
      | false => rfl
      | true =>
        have := of_decide_eq_true (List.all_eq_true.mp h ch (by simp))
        exfalso
        revert this hch
        generalize ch = x
        revert x
        decide
    revert n1 n2 n3
    generalize l1 ++ [ch] ++ z = near
    intro n1 n2 n3
    try simp only [rp_def, List.map_cons, List.map_nil, List.length_cons, List.length_nil, Nat.reduceAdd, Nat.reduceSub, List.replicate_zero, List.replicate_succ, List.append_nil, List.cons_append, List.nil_append, List.set_cons_zero, List.set_cons_succ, sp_ret, sp_seq, sp_asg, sp_if, sp_nx, sp_drop, SP_brS, rap_cons, rap_nil, rp_bi, rp_c, rp_op2, rp_op1, rp_not, rp_or, rp_and, rp_if, rp_call, rp_varM, List.getElem?_cons_zero, List.getElem?_cons_succ, rp_notD, RP_br, RP_ok]
    refine take_bk hb (by omega) (by decide) (by decide) fun r5 c6 q5 q5' hb _ _ => ?_
    rw [rp_eqI]
    have go : ∀ y : List Nat, y.length ≤ 5 → (∀ c ∈ y, c ∈ SG) → allF y = false → SP (sSeq (sAsg 2 (eIf (op2 gtD (eCall m__law_take (aCons (eVar 0) (aCons (eC (.int 3)) aNil))) (eC (.int 0))) (op2 (addD false) (op2 (addD false) (eC (.str [42])) (eVar 1)) (eC (.str [35]))) (op2 (addD false) (op2 (addD false) (eC (.str [35])) (eVar 1)) (eC (.str [42]))))) (sRet (op2 (addD false) (op2 (addD false) (eCall m__law_signs (aCons (eVar 0) (aCons (eCall m__law_take (aCons (eVar 0) (aCons (eC (.int 3)) aNil))) aNil))) (eVar 2)) (eCall m__law_signs (aCons (eVar 0) (aCons (eCall m__law_take (aCons (eVar 0) (aCons (eC (.int 3)) aNil))) aNil))))) [some (.loc n), some (.str y), none] c6) ⟨fun _ c => P .non c, P, fun _ _ => False, fun _ _ => False, fun x fs _ c => X x fs c⟩ := by
      intro y y1 y2 y3
      simp only [rp_def, List.map_cons, List.map_nil, List.length_cons, List.length_nil, Nat.reduceAdd, Nat.reduceSub, List.replicate_zero, List.replicate_succ, List.append_nil, List.cons_append, List.nil_append, List.set_cons_zero, List.set_cons_succ, sp_ret, sp_seq, sp_asg, sp_if, sp_nx, sp_drop, SP_brS, rap_cons, rap_nil, rp_bi, rp_c, rp_op2, rp_op1, rp_not, rp_or, rp_and, rp_if, rp_call, rp_varM, List.getElem?_cons_zero, List.getElem?_cons_succ, rp_notD, RP_br, RP_ok]
      refine take_bk hb (by omega) (by decide) (by decide) fun r6 c7 q6 q6' hb _ _ => ?_
      rw [rp_gt]
      have fin : ∀ s1 s2 : Nat, ((s1 = 42 ∧ s2 = 35) ∨ (s1 = 35 ∧ s2 = 42)) → SP (sRet (op2 (addD false) (op2 (addD false) (eCall m__law_signs (aCons (eVar 0) (aCons (eCall m__law_take (aCons (eVar 0) (aCons (eC (.int 3)) aNil))) aNil))) (eVar 2)) (eCall m__law_signs (aCons (eVar 0) (aCons (eCall m__law_take (aCons (eVar 0) (aCons (eC (.int 3)) aNil))) aNil)))) [some (.loc n), some (.str y), some (.str ([s1] ++ y ++ [s2]))] c7) ⟨fun _ c => P .non c, P, fun _ _ => False, fun _ _ => False, fun x fs _ c => X x fs c⟩ := by
        intro s1 s2 hp
        try simp only [rp_def, List.map_cons, List.map_nil, List.length_cons, List.length_nil, Nat.reduceAdd, Nat.reduceSub, List.replicate_zero, List.replicate_succ, List.append_nil, List.cons_append, List.nil_append, List.set_cons_zero, List.set_cons_succ, sp_ret, sp_seq, sp_asg, sp_if, sp_nx, sp_drop, SP_brS, rap_cons, rap_nil, rp_bi, rp_c, rp_op2, rp_op1, rp_not, rp_or, rp_and, rp_if, rp_call, rp_varM, List.getElem?_cons_zero, List.getElem?_cons_succ, rp_notD, RP_br, RP_ok]
        refine take_bk hb (by omega) (by decide) (by decide) fun r7 c8 q7 q7' hb _ _ => ?_
        refine signs_bk hb (by omega) (by omega) (by omega) fun l7 c9 e7 g7 hb => ?_
        have hb := hb.le (B' := B + 12) (by omega)
        rw [rp_addS (by rw [sizeLine_eq]; first | omega | (simp; omega) | simp)]
        try simp only [rp_def, List.map_cons, List.map_nil, List.length_cons, List.length_nil, Nat.reduceAdd, Nat.reduceSub, List.replicate_zero, List.replicate_succ, List.append_nil, List.cons_append, List.nil_append, List.set_cons_zero, List.set_cons_succ, sp_ret, sp_seq, sp_asg, sp_if, sp_nx, sp_drop, SP_brS, rap_cons, rap_nil, rp_bi, rp_c, rp_op2, rp_op1, rp_not, rp_or, rp_and, rp_if, rp_call, rp_varM, List.getElem?_cons_zero, List.getElem?_cons_succ, rp_notD, RP_br, RP_ok]
        refine take_bk hb (by omega) (by decide) (by decide) fun r8 c10 q8 q8' hb _ _ => ?_
        refine signs_bk hb (by omega) (by omega) (by omega) fun l8 c11 e8 g8 hb => ?_
        rw [rp_addS (by rw [sizeLine_eq]; first | omega | (simp; omega) | simp)]
        exact k _ l7 y l8 s1 s2 c11 ⟨by simp, hp, g7, y2, g8, by simp; omega⟩ y3 (hb.le (by omega))
      by_cases h6 : 0 < r6
      · simp only [h6, decide_true, cond_true, rp_def, List.map_cons, List.map_nil, List.length_cons, List.length_nil, Nat.reduceAdd, Nat.reduceSub, List.replicate_zero, List.replicate_succ, List.append_nil, List.cons_append, List.nil_append, List.set_cons_zero, List.set_cons_succ, sp_ret, sp_seq, sp_asg, sp_if, sp_nx, sp_drop, SP_brS, rap_cons, rap_nil, rp_bi, rp_c, rp_op2, rp_op1, rp_not, rp_or, rp_and, rp_if, rp_call, rp_varM, List.getElem?_cons_zero, List.getElem?_cons_succ, rp_notD, RP_br, RP_ok]
        rw [rp_addS (by rw [sizeLine_eq]; first | omega | (simp; omega) | simp), rp_addS (by rw [sizeLine_eq]; first | omega | (simp; omega) | simp)]
        have := fin 42 35 (.inl ⟨rfl, rfl⟩)
        simp only [rp_def, List.map_cons, List.map_nil, List.length_cons, List.length_nil, Nat.reduceAdd, Nat.reduceSub, List.replicate_zero, List.replicate_succ, List.append_nil, List.cons_append, List.nil_append, List.set_cons_zero, List.set_cons_succ, sp_ret, sp_seq, sp_asg, sp_if, sp_nx, sp_drop, SP_brS, rap_cons, rap_nil, rp_bi, rp_c, rp_op2, rp_op1, rp_not, rp_or, rp_and, rp_if, rp_call, rp_varM, List.getElem?_cons_zero, List.getElem?_cons_succ, rp_notD, RP_br, RP_ok] at this ⊢
        exact this
      · simp only [h6, decide_false, cond_false, rp_def, List.map_cons, List.map_nil, List.length_cons, List.length_nil, Nat.reduceAdd, Nat.reduceSub, List.replicate_zero, List.replicate_succ, List.append_nil, List.cons_append, List.nil_append, List.set_cons_zero, List.set_cons_succ, sp_ret, sp_seq, sp_asg, sp_if, sp_nx, sp_drop, SP_brS, rap_cons, rap_nil, rp_bi, rp_c, rp_op2, rp_op1, rp_not, rp_or, rp_and, rp_if, rp_call, rp_varM, List.getElem?_cons_zero, List.getElem?_cons_succ, rp_notD, RP_br, RP_ok]
        rw [rp_addS (by rw [sizeLine_eq]; first | omega | (simp; omega) | simp), rp_addS (by rw [sizeLine_eq]; first | omega | (simp; omega) | simp)]
        have := fin 35 42 (.inr ⟨rfl, rfl⟩)
        simp only [rp_def, List.map_cons, List.map_nil, List.length_cons, List.length_nil, Nat.reduceAdd, Nat.reduceSub, List.replicate_zero, List.replicate_succ, List.append_nil, List.cons_append, List.nil_append, List.set_cons_zero, List.set_cons_succ, sp_ret, sp_seq, sp_asg, sp_if, sp_nx, sp_drop, SP_brS, rap_cons, rap_nil, rp_bi, rp_c, rp_op2, rp_op1, rp_not, rp_or, rp_and, rp_if, rp_call, rp_varM, List.getElem?_cons_zero, List.getElem?_cons_succ, rp_notD, RP_br, RP_ok] at this ⊢
        exact this
    by_cases h5 : r5 = 0
    · simp only [h5, decide_true, RP_br, cond_true, rp_varM, List.getElem?_cons_zero, List.getElem?_cons_succ, List.set_cons_zero, List.set_cons_succ]
      have := go near n1 n2 n3
      simp only [rp_def, List.map_cons, List.map_nil, List.length_cons, List.length_nil, Nat.reduceAdd, Nat.reduceSub, List.replicate_zero, List.replicate_succ, List.append_nil, List.cons_append, List.nil_append, List.set_cons_zero, List.set_cons_succ, sp_ret, sp_seq, sp_asg, sp_if, sp_nx, sp_drop, SP_brS, rap_cons, rap_nil, rp_bi, rp_c, rp_op2, rp_op1, rp_not, rp_or, rp_and, rp_if, rp_call, rp_varM, List.getElem?_cons_zero, List.getElem?_cons_succ, rp_notD, RP_br, RP_ok] at this
      exact this
    · simp only [h5, decide_false, RP_br, cond_false, rp_op1, rp_varM, List.getElem?_cons_zero, List.getElem?_cons_succ, rp_rev (l := near) (by rw [sizeLine_eq]; omega), List.set_cons_zero, List.set_cons_succ]
      have := go near.reverse (by simpa using n1) (fun c hc => n2 c (List.mem_reverse.mp hc)) (by unfold allF at *; rw [List.all_reverse]; exact n3)
      simp only [rp_def, List.map_cons, List.map_nil, List.length_cons, List.length_nil, Nat.reduceAdd, Nat.reduceSub, List.replicate_zero, List.replicate_succ, List.append_nil, List.cons_append, List.nil_append, List.set_cons_zero, List.set_cons_succ, sp_ret, sp_seq, sp_asg, sp_if, sp_nx, sp_drop, SP_brS, rap_cons, rap_nil, rp_bi, rp_c, rp_op2, rp_op1, rp_not, rp_or, rp_and, rp_if, rp_call, rp_varM, List.getElem?_cons_zero, List.getElem?_cons_succ, rp_notD, RP_br, RP_ok] at this
      exact this

/-! ### odd values, some of them in cells that grow -/
def moreD : D := .str [109, 111, 114, 101]
def lsB : List (List D) := [[], [.str [97]], [.str [97], .str [97]], [.str [65]], [.lst [.str [97]]], [.tup [.str [97], .str [97]]], [.int 2], [.str [98]], [.bl true], [.str [110, 101, 115, 116]], [.int 3]]
def dsB : List (List (Kd × D)) := [[], [(.inr [97], .int 2)], [(.inl 7, .lst [.str [97]])], [(.inr [97], .int 1)]]
def dsC : List (List (Kd × D)) := dsB ++ dsB.map fun b => putD b (.inr [109, 111, 114, 101]) (.int 1)
def OkC (j : Nat) (c : Cell) : Prop := (∃ b ∈ lsB, ∃ i, i ≤ j ∧ c = .lst (b ++ List.replicate i moreD)) ∨ ∃ b ∈ dsC, c = .dct b
def allC (f : Cell → Bool) : Bool := (lsB.all fun b => (List.range 13).all fun i => f (.lst (b ++ List.replicate i moreD))) && dsC.all fun b => f (.dct b)
theorem OkC.all {f : Cell → Bool} (h : allC f = true) {j : Nat} (hj : j ≤ 12) {c : Cell} (q : OkC j c) : f c = true := by
  unfold allC at h
  rw [Bool.and_eq_true] at h
  rcases q with ⟨b, hb, i, hi, rfl⟩ | ⟨b, hb, rfl⟩
  · exact List.all_eq_true.mp (List.all_eq_true.mp h.1 b hb) i (List.mem_range.mpr (by omega))
  · exact List.all_eq_true.mp h.2 b hb
def stB : List (List Nat) := [[], [97], [65], [97, 32, 98], [97, 45, 50], [42, 45, 35], [42, 35], [110, 101, 115, 116], (List.replicate (Int.toNat 151) [97]).flatten, (List.replicate (Int.toNat 201) [97]).flatten, [97, 42], [97, 98, 35], [48, 50], [50]]
def tpB : List (List D) := [[], [.str [97]], [.str [97], .str [97]], [.str [97], .int 2], [.int 2, .str [97]]]
inductive Od (cs : Cells) (j : Nat) : D → Prop
  | non : Od cs j .non
  | bl (b : Bool) : Od cs j (.bl b)
  | int (i : Int) (h : -10 ^ 30 < i ∧ i < 10 ^ 30) : Od cs j (.int i)
  | str (l : List Nat) (h : l.length ≤ 250 ∧ ∀ c ∈ l, c < 128) : Od cs j (.str l)
  | tup (t : List D) (h : t ∈ tpB) : Od cs j (.tup t)
  | loc (n : Nat) (c : Cell) (h : cs[n]? = some c) (q : OkC j c) : Od cs j (.loc n)
theorem st_len : ∀ l ∈ stB, l.length ≤ 201 := by decide +kernel
theorem st_ok : ∀ l ∈ stB, ∀ c ∈ l, c < 128 := by decide +kernel
/-- if it is a text, then one of these -/
def OdS (d : D) : Prop := ∀ l, d = .str l → l ∈ stB
theorem Od.stB {cs : Cells} {j : Nat} {l : List Nat} (h : l ∈ stB) : Od cs j (.str l) := .str l ⟨Nat.le_trans (st_len l h) (by decide), st_ok l h⟩
theorem OkC.up {j i : Nat} {c : Cell} (q : OkC j c) (h : j ≤ i) : OkC i c := by
  rcases q with ⟨b, hb, k, hk, rfl⟩ | q
  · exact .inl ⟨b, hb, k, by omega, rfl⟩
  · exact .inr q
theorem OkC.nbox {j : Nat} {a b c : Int} (q : OkC j (.lst [.int a, .int b, .int c])) : False := by
  rcases q with ⟨z, hz, i, _, e⟩ | ⟨z, _, e⟩
  · simp only [lsB, List.mem_cons, List.not_mem_nil, or_false] at hz
    rcases hz with rfl | rfl | rfl | rfl | rfl | rfl | rfl | rfl | rfl | rfl | rfl <;> cases i <;> simp [moreD, List.replicate_succ] at e
  · cases e
def Upd (cs c' : Cells) (j : Nat) : Prop := c'.length = cs.length ∧ ∀ m : Nat, c'[m]? = cs[m]? ∨ ∃ c c2, cs[m]? = some c ∧ OkC j c ∧ c'[m]? = some c2 ∧ OkC (j + 1) c2
theorem Upd.refl {cs : Cells} {j : Nat} : Upd cs cs j := ⟨rfl, fun _ => .inl rfl⟩
theorem Od.mono {cs : Cells} {i j : Nat} {d : D} (o : Od cs j d) (h : j ≤ i) : Od cs i d := by
  cases o with
  | non => exact .non
  | bl b => exact .bl b
  | int i h => exact .int i h
  | str l h => exact .str l h
  | tup t h => exact .tup t h
  | loc n c h1 q => exact .loc n c h1 (q.up h)
theorem Od.up {cs c' : Cells} {j : Nat} {d : D} (o : Od cs j d) (u : Upd cs c' j) : Od c' (j + 1) d := by
  cases o with
  | non => exact .non
  | bl b => exact .bl b
  | int i h => exact .int i h
  | str l h => exact .str l h
  | tup t h => exact .tup t h
  | loc n c h1 q =>
    rcases u.2 n with e | ⟨_, c2, _, _, h2, q2⟩
    · exact .loc n c (e.trans h1) (q.up (by omega))
    · exact .loc n c2 h2 q2
theorem _root_.L3.Bx.up {cs c' : Cells} {n B j : Nat} (hb : Bx cs n B) (u : Upd cs c' j) : Bx c' n B := by
  obtain ⟨a, b, c, h1, h2⟩ := hb
  rcases u.2 n with e | ⟨c0, _, h3, q, _⟩
  · exact ⟨a, b, c, e.trans h1, h2⟩
  · rw [h1] at h3
    cases h3
    exact q.nbox.elim
theorem Od.tk {cs c' : Cells} {n B j : Nat} {d : D} (o : Od cs j d) (hb : Bx cs n B) (k : ∀ m, m ≠ n → c'[m]? = cs[m]?) : Od c' j d := by
  cases o with
  | non => exact .non
  | bl b => exact .bl b
  | int i h => exact .int i h
  | str l h => exact .str l h
  | tup t h => exact .tup t h
  | loc m c h1 q =>
    refine .loc m c ((k m fun e => ?_).trans h1) q
    subst e
    obtain ⟨a, b, c, h2, _⟩ := hb
    rw [h2] at h1
    cases h1
    exact q.nbox
/-! what the values are -/
def isMd : D → Bool
  | .str l => mkB l
  | _ => false
def isNd : D → Bool
  | .str l => nm l
  | _ => false
theorem tyTup {cs : Cells} {t : List D} : tyC cs (.tup t) = some "tuple" := rfl
theorem OkC.ty {cs : Cells} {j n : Nat} {c : Cell} (h : cs[n]? = some c) (q : OkC j c) : tyC cs (.loc n) = some "list" ∨ tyC cs (.loc n) = some "dict" := by
  rcases q with ⟨b, hb, i, hi, rfl⟩ | ⟨b, hb, rfl⟩
  · exact .inl (by simp only [tyC, h])
  · exact .inr (by simp only [tyC, h])
theorem Od.ns {cs : Cells} {j : Nat} {d : D} (o : Od cs j d) : (∃ l, (l.length ≤ 250 ∧ ∀ c ∈ l, c < 128) ∧ d = .str l) ∨ ((∃ u, tyC cs d = some u ∧ u ∈ TY) ∧ isMd d = false ∧ isNd d = false) := by
  cases o with
  | non => exact .inr ⟨⟨"NoneType", rfl, by simp⟩, rfl, rfl⟩
  | bl b => exact .inr ⟨⟨"bool", rfl, by simp⟩, rfl, rfl⟩
  | int i h => exact .inr ⟨⟨"int", rfl, by simp⟩, rfl, rfl⟩
  | str l h => exact .inl ⟨l, h, rfl⟩
  | tup t h => exact .inr ⟨⟨"tuple", rfl, by simp⟩, rfl, rfl⟩
  | loc n c h1 q => rcases OkC.ty h1 q with e | e <;> exact .inr ⟨⟨_, e, by simp⟩, rfl, rfl⟩
theorem Od.ism {cs : Cells} {j : Nat} {d : D} (o : Od cs j d) : IsM cs d (isMd d) := by
  intro P X k
  rcases o.ns with ⟨l, h, rfl⟩ | ⟨⟨u, h, q⟩, e, _⟩
  · exact ism_str (by have := h.1; rw [sizeLine_eq]; omega) k
  · rw [e] at k; exact ism_non h q k
theorem Od.isn {cs : Cells} {j : Nat} {d : D} (o : Od cs j d) : IsN cs d (isNd d) := by
  intro P X k
  rcases o.ns with ⟨l, h, rfl⟩ | ⟨⟨u, h, q⟩, _, e⟩
  · exact isn_str (by have := h.1; rw [sizeLine_eq]; omega) k
  · rw [e] at k; exact isn_non h q k
/-! repr -/
theorem rep_all : allC repOk = true := by decide +kernel
theorem rep_tups : (tpB.all fun t => repOkD (.tup t)) = true := by decide +kernel
theorem Od.rep {cs : Cells} {j : Nat} {d : D} (o : Od cs j d) (hj : j ≤ 12) : ∃ z, reprBD cs [d] = .ok (.str z) cs := by
  cases o with
  | non => exact ⟨_, rfl⟩
  | bl b => exact ⟨_, rfl⟩
  | int i h => exact ⟨_, by unfold reprBD; simp only [reprC]; rw [if_pos (log2_lt (by omega))]⟩
  | str l h => obtain ⟨z, e⟩ := rep_str (l := l) (by have := h.1; omega) h.2; exact ⟨z, by unfold reprBD; simp only [e]⟩
  | tup t h => exact rep_tup (List.all_eq_true.mp rep_tups t h)
  | loc n c h1 q => exact rep_loc h1 (OkC.all rep_all hj q)
theorem very_rp {cs : Cells} {j : Nat} {d : D} {P : D → Cells → Prop} {X : KX} (o : Od cs j d) (hj : j ≤ 11) (k : ∀ c', Upd cs c' j → P (.bl true) c') : RP (m__law_very [d, d] cs) P X := by
  have fin : ∀ c', Od c' (j + 1) d → Upd cs c' j → SP (sRet (op2 eqD (eBi reprBD (aCons (eVar 0) aNil)) (eBi reprBD (aCons (eVar 1) aNil))) [some d, some d] c') ⟨fun _ c => P .non c, P, fun _ _ => False, fun _ _ => False, fun x fs _ c => X x fs c⟩ := by
    intro c' o' u
    obtain ⟨z, e⟩ := o'.rep (by omega)
    simp only [sp_ret, rp_op2, rp_bi, rap_cons, rap_nil, rp_varM, List.getElem?_cons_zero, List.getElem?_cons_succ, rp_reprX e, rp_eqS, decide_true]
    exact k c' u
  unfold m__law_very mb__law_very
  simp only [rp_def, List.map_cons, List.map_nil, List.length_cons, List.length_nil, Nat.reduceAdd, Nat.reduceSub, List.replicate_zero, List.append_nil, sp_seq, sp_if, rp_op1, rp_varM, List.getElem?_cons_zero, List.getElem?_cons_succ]
  have plain : ∀ u, tyC cs d = some u → u ∈ TZ → u ≠ "list" → u ≠ "dict" → RP (isiD "list" cs d) (fun x c => SP (brS x (sDrop (ePush (eVar 1) (eC (.str [109, 111, 114, 101]))) [some d, some d] c) (sNx [some d, some d] c)) ⟨fun e c => SP (sIf (op1 (isiD "dict") (eVar 1)) (sPutK (eVar 1) (eC (.str [109, 111, 114, 101])) (eC (.int 1))) sNx e c) ⟨fun e c => SP (sRet (op2 eqD (eBi reprBD (aCons (eVar 0) aNil)) (eBi reprBD (aCons (eVar 1) aNil))) e c) ⟨fun _ c => P .non c, P, fun _ _ => False, fun _ _ => False, fun x fs _ c => X x fs c⟩, P, fun _ _ => False, fun _ _ => False, fun x fs _ c => X x fs c⟩, P, fun _ _ => False, fun _ _ => False, fun x fs _ c => X x fs c⟩) (fun n fs c => X n fs c) := by
    intro u h q n1 n2
    simp only [isi_list h q, n1, decide_false, SP_brS, Bool.false_eq_true, if_false, sp_nx, sp_if, rp_op1, rp_varM, List.getElem?_cons_zero, List.getElem?_cons_succ, isi_dict h q, n2]
    exact fin cs (o.mono (by omega)) .refl
  cases o with
  | non => exact plain "NoneType" rfl (by simp) (by decide) (by decide)
  | bl b => exact plain "bool" rfl (by simp) (by decide) (by decide)
  | int i h => exact plain "int" rfl (by simp) (by decide) (by decide)
  | str l h => exact plain "str" rfl (by simp) (by decide) (by decide)
  | tup t h => exact plain "tuple" rfl (by simp) (by decide) (by decide)
  | loc n c h1 q =>
    have hn : n < cs.length := (List.getElem?_eq_some_iff.mp h1).1
    rcases id q with ⟨b, hb, i, hi, rfl⟩ | ⟨b, hb, rfl⟩
    · have ht : tyC cs (.loc n) = some "list" := by simp only [tyC, h1]
      have hl : isLc cs (.loc n) = true := by simp only [isLc, h1]
      have hlen : (b ++ List.replicate i moreD).length < sizeLine := by
        have : ∀ b ∈ lsB, b.length ≤ 2 := by
          simp only [lsB, List.forall_mem_cons]; refine ⟨?_, ?_, ?_, ?_, ?_, ?_, ?_, ?_, ?_, ?_, ?_, fun d h => by cases h⟩ <;> simp
        have := this b hb
        rw [sizeLine_eq]; simp; omega
      have hp : pushL cs (.loc n) (.str [109, 111, 114, 101]) = some (cs.set n (.lst (b ++ List.replicate i moreD ++ [moreD]))) := by
        unfold pushL; simp only [h1, if_pos hlen]; rfl
      have e2 : (cs.set n (.lst (b ++ List.replicate i moreD ++ [moreD])))[n]? = some (.lst (b ++ List.replicate (i + 1) moreD)) := by
        rw [List.getElem?_set_self hn, List.append_assoc, List.replicate_succ']
      have u : Upd cs (cs.set n (.lst (b ++ List.replicate i moreD ++ [moreD]))) j := by
        refine ⟨by simp, fun m => ?_⟩
        by_cases e : m = n
        · subst e
          exact .inr ⟨_, _, h1, q, e2, .inl ⟨b, hb, i + 1, by omega, rfl⟩⟩
        · exact .inl (List.getElem?_set_ne (Ne.symm e))
      have ht2 : tyC (cs.set n (.lst (b ++ List.replicate i moreD ++ [moreD]))) (.loc n) = some "list" := by simp only [tyC, e2]
      have d1 : decide (("list" : String) = "list") = true := by decide
      have d2 : decide (("list" : String) = "dict") = false := by decide
      simp only [isi_list ht (by simp), d1, SP_brS, if_true, sp_drop, rp_push, rp_varM, List.getElem?_cons_zero, List.getElem?_cons_succ, hl, rp_c, hp, sp_if, rp_op1, isi_dict ht2 (by simp), d2, Bool.false_eq_true, if_false, sp_nx]
      exact fin _ ((Od.loc n _ h1 q).up u) u
    · have ht : tyC cs (.loc n) = some "dict" := by simp only [tyC, h1]
      have hd : ∀ b ∈ dsC, b.length ≤ 3 ∧ putD b (.inr [109, 111, 114, 101]) (.int 1) ∈ dsC := by
        simp only [dsC, dsB, List.map_cons, List.map_nil, List.cons_append, List.nil_append, List.forall_mem_cons]
        refine ⟨⟨by decide, ?_⟩, ⟨by decide, ?_⟩, ⟨by decide, ?_⟩, ⟨by decide, ?_⟩, ⟨by decide, ?_⟩, ⟨by decide, ?_⟩, ⟨by decide, ?_⟩, ⟨by decide, ?_⟩, fun d h => by cases h⟩ <;> simp [putD]
      obtain ⟨hl, hm⟩ := hd b hb
      have hp : putC cs (.loc n) (.str [109, 111, 114, 101]) (.int 1) = some (cs.set n (.dct (putD b (.inr [109, 111, 114, 101]) (.int 1)))) := by
        unfold putC; simp only [h1, kdOf]; rw [if_pos (by rw [sizeLine_eq]; omega)]
      have e2 : (cs.set n (.dct (putD b (.inr [109, 111, 114, 101]) (.int 1))))[n]? = some (.dct (putD b (.inr [109, 111, 114, 101]) (.int 1))) := List.getElem?_set_self hn
      have u : Upd cs (cs.set n (.dct (putD b (.inr [109, 111, 114, 101]) (.int 1)))) j := by
        refine ⟨by simp, fun m => ?_⟩
        by_cases e : m = n
        · subst e
          exact .inr ⟨_, _, h1, q, e2, .inr ⟨_, hm, rfl⟩⟩
        · exact .inl (List.getElem?_set_ne (Ne.symm e))
      have d1 : decide (("dict" : String) = "dict") = true := by decide
      have d2 : decide (("dict" : String) = "list") = false := by decide
      simp only [isi_list ht (by simp), d2, SP_brS, Bool.false_eq_true, if_false, sp_nx, sp_if, rp_op1, rp_varM, List.getElem?_cons_zero, List.getElem?_cons_succ, isi_dict ht (by simp), d1, if_true, sp_putK, rp_c, hp]
      exact fin _ ((Od.loc n _ h1 q).up u) u

/-! ### an odd value, drawn -/
theorem app_at {cs news : Cells} {i : Nat} {c : Cell} (h : news[i]? = some c) : (cs ++ news)[cs.length + i]? = some c := by
  rw [List.getElem?_append_right (by omega), Nat.add_sub_cancel_left]; exact h
theorem _root_.L3.Bx.app {cs news : Cells} {n B : Nat} (hb : Bx cs n B) : Bx (cs ++ news) n B := by
  obtain ⟨a, b, c, h1, h2⟩ := hb
  exact ⟨a, b, c, by rw [List.getElem?_append_left (List.getElem?_eq_some_iff.mp h1).1]; exact h1, h2⟩
theorem Od.app {cs news : Cells} {j : Nat} {d : D} (o : Od cs j d) : Od (cs ++ news) j d := by
  cases o with
  | non => exact .non
  | bl b => exact .bl b
  | int i h => exact .int i h
  | str l h => exact .str l h
  | tup t h => exact .tup t h
  | loc m c h1 q => exact .loc m c (by rw [List.getElem?_append_left (List.getElem?_eq_some_iff.mp h1).1]; exact h1) q
theorem Od.lsN {cs news : Cells} {i : Nat} {b : List D} (h : news[i]? = some (.lst b)) (q : b ∈ lsB) : Od (cs ++ news) 0 (.loc (cs.length + i)) := .loc _ _ (app_at h) (.inl ⟨b, q, 0, Nat.le_refl _, by rw [List.replicate_zero, List.append_nil]⟩)
theorem Od.dsN {cs news : Cells} {i : Nat} {b : List (Kd × D)} (h : news[i]? = some (.dct b)) (q : b ∈ dsC) : Od (cs ++ news) 0 (.loc (cs.length + i)) := .loc _ _ (app_at h) (.inr ⟨b, q, rfl⟩)
theorem oddc_rp {n B : Nat} {cs : Cells} {P : D → Cells → Prop} {X : KX} (hb : Bx cs n B) (hB : B < 1000000) (k : ∀ d c', Od c' 0 d → OdS d → Bx c' n (B + 1) → (∀ j e, Od cs j e → Od c' j e) → (∀ rn mk w, RuleAt cs rn mk w → RuleAt c' rn mk w) → P d c') : RP (m__law_odd [.loc n] cs) P X := by
  unfold m__law_odd mb__law_odd
  simp only [rp_def, List.map_cons, List.map_nil, List.length_cons, List.length_nil, Nat.reduceAdd, Nat.reduceSub, List.replicate_zero, List.replicate_succ, List.append_nil, List.cons_append, List.nil_append, List.set_cons_zero, List.set_cons_succ,
    sp_ret, sp_seq, sp_asg, sp_nx, rap_cons, rap_nil, rp_bi, rp_c, rp_op2, rp_op1, rp_neg, rp_call, rp_varM, List.getElem?_cons_zero, List.getElem?_cons_succ, rp_sub, rp_pow, rp_list, rp_tup, rp_dict, kvD, len_ite, rp_mkDf, rp_mkDt, rp_mkLf, rp_mkLt, rp_mkT, rp_mulS, rp_addL, rp_lenLst, sizeLine_eq, Nat.reduceLeDiff, Int.reduceLE, Int.reduceLT, Int.reduceNeg, big, and_self, List.append_assoc, List.length_append, Nat.add_assoc]
  refine take_rp hb.app hB (by decide) (by decide) fun r c' r0 r1 b1 hk l => ?_
  refine rp_ixAll r0 (by simpa using r1) fun d hd => ?_
  suffices h : Od (cs ++ _) 0 d ∧ OdS d from k d c' (Od.tk (cs := cs ++ _) h.1 hb.app hk) h.2 b1 (fun j e o => o.app.tk hb.app hk) fun rn mk w h => RuleAt.tk (RuleAt.app h) hb.app hk
  refine ⟨?_, ?_⟩
  · revert d
    simp only [List.forall_mem_cons]
    and_intros <;> first | exact .non | exact .bl _ | exact .int _ ⟨by decide, by decide⟩ | exact Od.stB (by decide +kernel) | exact .tup _ (by simp [tpB]) | exact Od.lsN rfl (by simp [lsB]) | exact Od.dsN rfl (by simp [dsC, dsB, mergeD, putD]) | exact Od.lsN (i := 0) rfl (by simp [lsB]) | (intro d hd; cases hd)
  · revert d
    simp only [List.forall_mem_cons]
    and_intros <;> first | (intro l e; cases e; decide +kernel) | (intro d hd; cases hd)

end T_k70

namespace T_k70
open PySem L2 L3
/-! ### is_list, need_unlike -/
def okE (e : D) : Bool := match e with
  | .non => true
  | .bl _ => true
  | .int _ => true
  | .lst _ => true
  | .tup _ => true
  | .dct _ => true
  | .str l => decide (l.length ≤ 1000)
  | _ => false
def isNe (e : D) : Bool := match e with
  | .str l => nm l
  | _ => false
theorem okE_ty {cs : Cells} {e : D} (h : okE e = true) : ∃ u, tyC cs e = some u ∧ u ∈ TZ := by
  cases e <;> first | exact ⟨_, rfl, by simp⟩ | cases h
theorem okE_isn {cs : Cells} {e : D} (h : okE e = true) : IsN cs e (isNe e) := by
  intro P X k
  cases e with
  | str l => exact isn_str (by have := of_decide_eq_true h; rw [sizeLine_eq]; omega) k
  | non => exact isn_non (u := "NoneType") rfl (by simp) k
  | bl b => exact isn_non (u := "bool") rfl (by simp) k
  | int i => exact isn_non (u := "int") rfl (by simp) k
  | lst l => exact isn_non (u := "list") rfl (by simp) k
  | tup l => exact isn_non (u := "tuple") rfl (by simp) k
  | dct l => exact isn_non (u := "dict") rfl (by simp) k
  | scr l => cases h
  | obj n l => cases h
  | loc n => cases h
section
variable {cs : Cells} {P : D → Cells → Prop} {X : KX} {d e : D} {most : Int} {ds rest : List D} {N : List (List Nat)}
theorem isl_rp (k : P (.bl (decide ((ds.length : Int) ≤ most))) cs) : RP (m_is_list [.lst ds, .int most] cs) P X := by
  unfold m_is_list mb_is_list
  have e1 : (decide (("list" : String) = "list") || decide (("list" : String) = "tuple")) = true := by decide
  simp only [rp_def, List.map_cons, List.map_nil, List.length_cons, List.length_nil, Nat.reduceAdd, Nat.reduceSub, List.replicate_zero, List.replicate_succ, List.append_nil, List.cons_append, List.nil_append, List.set_cons_zero, List.set_cons_succ, sp_ret, sp_seq, sp_asg, sp_if, sp_nx, sp_drop, SP_brS, rap_cons, rap_nil, rp_bi, rp_c, rp_op2, rp_op1, rp_not, rp_or, rp_and, rp_if, rp_call, rp_varM, List.getElem?_cons_zero, List.getElem?_cons_succ, rp_notD, RP_br, RP_ok, rp_isi2 (u := "list") (d := D.lst ds) rfl (by simp), e1, cond_true, rp_lenLst, rp_le]
  exact k
theorem isl_no {u : String} (h : tyC cs d = some u) (q : u ∈ ["NoneType", "bool", "int", "str", "dict"]) (k : P (.bl false) cs) : RP (m_is_list [d, .int most] cs) P X := by
  unfold m_is_list mb_is_list
  have q2 : u ∈ TZ := by
    simp only [List.mem_cons, List.not_mem_nil, or_false] at q ⊢
    rcases q with rfl | rfl | rfl | rfl | rfl <;> simp
  have e1 : (decide (u = "list") || decide (u = "tuple")) = false := by
    simp only [List.mem_cons, List.not_mem_nil, or_false] at q
    rcases q with rfl | rfl | rfl | rfl | rfl <;> decide
  simp only [rp_def, List.map_cons, List.map_nil, List.length_cons, List.length_nil, Nat.reduceAdd, Nat.reduceSub, List.replicate_zero, List.replicate_succ, List.append_nil, List.cons_append, List.nil_append, List.set_cons_zero, List.set_cons_succ, sp_ret, sp_seq, sp_asg, sp_if, sp_nx, sp_drop, SP_brS, rap_cons, rap_nil, rp_bi, rp_c, rp_op2, rp_op1, rp_not, rp_or, rp_and, rp_if, rp_call, rp_varM, List.getElem?_cons_zero, List.getElem?_cons_succ, rp_notD, RP_br, RP_ok, rp_isi2 h q2, e1, cond_false]
  exact k
theorem un_no (h : ∀ (P : D → Cells → Prop) (X : KX), P (.bl false) cs → RP (m_is_list [d, .int most] cs) P X) (k : X "BadNames" [("found", d)] cs) : RP (m_need_unlike [d, .int most] cs) P X := by
  unfold m_need_unlike mb_need_unlike
  simp only [rp_def, List.map_cons, List.map_nil, List.length_cons, List.length_nil, Nat.reduceAdd, Nat.reduceSub, List.replicate_zero, List.replicate_succ, List.append_nil, List.cons_append, List.nil_append, List.set_cons_zero, List.set_cons_succ, sp_ret, sp_seq, sp_asg, sp_if, sp_nx, sp_drop, SP_brS, rap_cons, rap_nil, rp_bi, rp_c, rp_op2, rp_op1, rp_not, rp_or, rp_and, rp_if, rp_call, rp_varM, List.getElem?_cons_zero, List.getElem?_cons_succ, rp_notD, RP_br, RP_ok]
  refine h _ _ ?_
  simp only [rp_def, List.map_cons, List.map_nil, List.length_cons, List.length_nil, Nat.reduceAdd, Nat.reduceSub, List.replicate_zero, List.replicate_succ, List.append_nil, List.cons_append, List.nil_append, List.set_cons_zero, List.set_cons_succ, sp_ret, sp_seq, sp_asg, sp_if, sp_nx, sp_drop, SP_brS, rap_cons, rap_nil, rp_bi, rp_c, rp_op2, rp_op1, rp_not, rp_or, rp_and, rp_if, rp_call, rp_varM, List.getElem?_cons_zero, List.getElem?_cons_succ, rp_notD, RP_br, RP_ok, Bool.not_false, if_true, sp_raise]
  exact k
/-- the keys of some texts -/
def keysN (N : List (List Nat)) : List Kd := N.map Sum.inr
theorem hasK_N {z : List Nat} : hasK (keysN N) (.inr z) = decide (z ∈ N) := by
  unfold hasK keysN
  rw [List.any_map, Bool.eq_iff_iff, List.any_eq_true, decide_eq_true_eq]
  constructor
  · rintro ⟨x, hx, e⟩
    have e2 : (Sum.inr x : Kd) = .inr z := of_decide_eq_true e
    cases e2; exact hx
  · intro h; exact ⟨z, h, decide_eq_true rfl⟩
/-- what behind the first names comes to: an end, a name that is none, a name twice -/
def UnEnd (N : List (List Nat)) (rest : List D) (cs : Cells) (Pn : Cells → Prop) (X : KX) : Prop := match rest with
  | [] => Pn (cs ++ [.set (keysN N)])
  | e :: _ => (okE e = true ∧ isNe e = false ∧ X "BadName" [("found", e)] (cs ++ [.set (keysN N)])) ∨ ∃ z, e = .str z ∧ nm z = true ∧ z.length ≤ 1000 ∧ z ∈ N ∧ X "Doubled" [("found", e)] (cs ++ [.set (keysN N)])
theorem un_rp (hN : ∀ z ∈ N, nm z = true ∧ z.length ≤ 1000) (hd : N.Nodup) (hl : ((N.map D.str ++ rest).length : Int) ≤ most) (hz : N.length ≤ 1000) (k : UnEnd N rest cs (fun c => P .non c) X) : RP (m_need_unlike [.lst (N.map D.str ++ rest), .int most] cs) P X := by
  unfold m_need_unlike mb_need_unlike
  simp only [rp_def, List.map_cons, List.map_nil, List.length_cons, List.length_nil, Nat.reduceAdd, Nat.reduceSub, List.replicate_zero, List.replicate_succ, List.append_nil, List.cons_append, List.nil_append, List.set_cons_zero, List.set_cons_succ, sp_ret, sp_seq, sp_asg, sp_if, sp_nx, sp_drop, SP_brS, rap_cons, rap_nil, rp_bi, rp_c, rp_op2, rp_op1, rp_not, rp_or, rp_and, rp_if, rp_call, rp_varM, List.getElem?_cons_zero, List.getElem?_cons_succ, rp_notD, RP_br, RP_ok]
  refine isl_rp ?_
  simp only [hl, decide_true, rp_def, List.map_cons, List.map_nil, List.length_cons, List.length_nil, Nat.reduceAdd, Nat.reduceSub, List.replicate_zero, List.replicate_succ, List.append_nil, List.cons_append, List.nil_append, List.set_cons_zero, List.set_cons_succ, sp_ret, sp_seq, sp_asg, sp_if, sp_nx, sp_drop, SP_brS, rap_cons, rap_nil, rp_bi, rp_c, rp_op2, rp_op1, rp_not, rp_or, rp_and, rp_if, rp_call, rp_varM, List.getElem?_cons_zero, List.getElem?_cons_succ, rp_notD, RP_br, RP_ok, Bool.not_true, Bool.false_eq_true, if_false, rp_set0, sp_for, wp_seq, seq_lst]
  refine for_invN (fun i env c => i ≤ N.length ∧ ∃ e3, env = [some (.lst (N.map D.str ++ rest)), some (.int most), some (.loc cs.length), e3] ∧ c = cs ++ [.set (keysN (N.take i))]) ⟨Nat.zero_le _, _, rfl, rfl⟩ ?_ ?_
  · rintro env c ⟨hi, e3, rfl, rfl⟩
    refine ⟨by trivial, ?_⟩
    have hr : rest = [] := by
      cases rest with
      | nil => rfl
      | cons a r => simp at hi; omega
    subst hr
    rw [List.take_of_length_le (by simp)]
    exact k
  · rintro i d env c hd' ⟨hi, e3, rfl, rfl⟩
    refine ⟨by trivial, _, rfl, ?_⟩
    have hs : (cs ++ [Cell.set (keysN (N.take i))])[cs.length]? = some (.set (keysN (N.take i))) := by
      rw [List.getElem?_append_right (Nat.le_refl _), Nat.sub_self]; rfl
    by_cases hlt : i < N.length
    · have e1 : d = .str N[i] := by
        rw [List.getElem?_append_left (by simpa using hlt), List.getElem?_map, List.getElem?_eq_getElem hlt] at hd'
        simpa using hd'.symm
      subst e1
      obtain ⟨n1, n2⟩ := hN _ (List.getElem_mem hlt)
      have nk : hasK (keysN (N.take i)) (.inr N[i]) = false := by
        rw [hasK_N]
        refine decide_eq_false fun hm => ?_
        obtain ⟨j, hj, e⟩ := List.getElem_of_mem hm
        rw [List.length_take] at hj
        rw [List.getElem_take] at e
        have := (List.getElem_inj hd).mp e
        omega
      simp only [rp_def, List.map_cons, List.map_nil, List.length_cons, List.length_nil, Nat.reduceAdd, Nat.reduceSub, List.replicate_zero, List.replicate_succ, List.append_nil, List.cons_append, List.nil_append, List.set_cons_zero, List.set_cons_succ, sp_ret, sp_seq, sp_asg, sp_if, sp_nx, sp_drop, SP_brS, rap_cons, rap_nil, rp_bi, rp_c, rp_op2, rp_op1, rp_not, rp_or, rp_and, rp_if, rp_call, rp_varM, List.getElem?_cons_zero, List.getElem?_cons_succ, rp_notD, RP_br, RP_ok]
      refine isn_str (by rw [sizeLine_eq]; omega) ?_
      rw [n1]
      simp only [rp_def, List.map_cons, List.map_nil, List.length_cons, List.length_nil, Nat.reduceAdd, Nat.reduceSub, List.replicate_zero, List.replicate_succ, List.append_nil, List.cons_append, List.nil_append, List.set_cons_zero, List.set_cons_succ, sp_ret, sp_seq, sp_asg, sp_if, sp_nx, sp_drop, SP_brS, rap_cons, rap_nil, rp_bi, rp_c, rp_op2, rp_op1, rp_not, rp_or, rp_and, rp_if, rp_call, rp_varM, List.getElem?_cons_zero, List.getElem?_cons_succ, rp_notD, RP_br, RP_ok, Bool.not_true, Bool.false_eq_true, if_false, rp_inS2 (set_at hs) (show kdOf (.str N[i]) = some (.inr N[i]) from rfl), nk, rp_sadd, set_at hs, kdOf]
      have hb : (keysN (N.take i)).length + 1 < scanBound := by
        have : (keysN (N.take i)).length ≤ 1000 := by unfold keysN; rw [List.length_map, List.length_take]; omega
        have h2 : (1001 : Nat) < scanBound := by decide +kernel
        omega
      rw [if_pos hb]
      refine ⟨hlt, _, rfl, ?_⟩
      rw [List.set_append_right _ _ (Nat.le_refl _), Nat.sub_self]
      unfold addK
      rw [if_neg (by rw [nk]; decide)]
      show cs ++ [Cell.set (keysN (N.take i) ++ [.inr N[i]])] = _
      unfold keysN
      rw [List.take_succ, List.getElem?_eq_getElem hlt, List.map_append]
      rfl
    · have hi2 : i = N.length := by omega
      subst hi2
      have ht : N.take N.length = N := List.take_length
      rw [ht] at hs ⊢
      rw [List.getElem?_append_right (by simp)] at hd'
      simp only [List.length_map, Nat.sub_self] at hd'
      cases rest with
      | nil => simp at hd'
      | cons e r =>
        simp only [List.getElem?_cons_zero, Option.some.injEq] at hd'
        subst hd'
        rcases k with ⟨k1, k2, k3⟩ | ⟨z, rfl, k1, k2, k3, k4⟩
        · simp only [rp_def, List.map_cons, List.map_nil, List.length_cons, List.length_nil, Nat.reduceAdd, Nat.reduceSub, List.replicate_zero, List.replicate_succ, List.append_nil, List.cons_append, List.nil_append, List.set_cons_zero, List.set_cons_succ, sp_ret, sp_seq, sp_asg, sp_if, sp_nx, sp_drop, SP_brS, rap_cons, rap_nil, rp_bi, rp_c, rp_op2, rp_op1, rp_not, rp_or, rp_and, rp_if, rp_call, rp_varM, List.getElem?_cons_zero, List.getElem?_cons_succ, rp_notD, RP_br, RP_ok]
          refine okE_isn k1 _ _ ?_
          rw [k2]
          simp only [rp_def, List.map_cons, List.map_nil, List.length_cons, List.length_nil, Nat.reduceAdd, Nat.reduceSub, List.replicate_zero, List.replicate_succ, List.append_nil, List.cons_append, List.nil_append, List.set_cons_zero, List.set_cons_succ, sp_ret, sp_seq, sp_asg, sp_if, sp_nx, sp_drop, SP_brS, rap_cons, rap_nil, rp_bi, rp_c, rp_op2, rp_op1, rp_not, rp_or, rp_and, rp_if, rp_call, rp_varM, List.getElem?_cons_zero, List.getElem?_cons_succ, rp_notD, RP_br, RP_ok, Bool.not_false, if_true, sp_raise]
          exact k3
        · simp only [rp_def, List.map_cons, List.map_nil, List.length_cons, List.length_nil, Nat.reduceAdd, Nat.reduceSub, List.replicate_zero, List.replicate_succ, List.append_nil, List.cons_append, List.nil_append, List.set_cons_zero, List.set_cons_succ, sp_ret, sp_seq, sp_asg, sp_if, sp_nx, sp_drop, SP_brS, rap_cons, rap_nil, rp_bi, rp_c, rp_op2, rp_op1, rp_not, rp_or, rp_and, rp_if, rp_call, rp_varM, List.getElem?_cons_zero, List.getElem?_cons_succ, rp_notD, RP_br, RP_ok]
          refine isn_str (by rw [sizeLine_eq]; omega) ?_
          rw [k1]
          simp only [rp_def, List.map_cons, List.map_nil, List.length_cons, List.length_nil, Nat.reduceAdd, Nat.reduceSub, List.replicate_zero, List.replicate_succ, List.append_nil, List.cons_append, List.nil_append, List.set_cons_zero, List.set_cons_succ, sp_ret, sp_seq, sp_asg, sp_if, sp_nx, sp_drop, SP_brS, rap_cons, rap_nil, rp_bi, rp_c, rp_op2, rp_op1, rp_not, rp_or, rp_and, rp_if, rp_call, rp_varM, List.getElem?_cons_zero, List.getElem?_cons_succ, rp_notD, RP_br, RP_ok, Bool.not_true, Bool.false_eq_true, if_false, rp_inS2 (set_at hs) (show kdOf (.str z) = some (.inr z) from rfl), hasK_N, k3, decide_true, if_true, sp_raise]
          exact k4
end

/-- what behind the first names comes to: an end, a name that is none, a name twice -/
def UnEndO (N : List (List Nat)) (rest : List D) (cs : Cells) (Pn : Cells → Prop) (X : KX) : Prop := match rest with
  | [] => Pn (cs ++ [.set (keysN N)])
  | e :: _ => ((∀ P X, P (.bl false) (cs ++ [.set (keysN N)]) → RP (m_is_name [e] (cs ++ [.set (keysN N)])) P X) ∧ X "BadName" [("found", e)] (cs ++ [.set (keysN N)])) ∨ ∃ z, e = .str z ∧ nm z = true ∧ z.length ≤ 1000 ∧ z ∈ N ∧ X "Doubled" [("found", e)] (cs ++ [.set (keysN N)])
section
variable {cs : Cells} {P : D → Cells → Prop} {X : KX} {d e : D} {most : Int} {ds rest : List D} {N : List (List Nat)}
theorem un_rpO (hN : ∀ z ∈ N, nm z = true ∧ z.length ≤ 1000) (hd : N.Nodup) (hl : ((N.map D.str ++ rest).length : Int) ≤ most) (hz : N.length ≤ 1000) (k : UnEndO N rest cs (fun c => P .non c) X) : RP (m_need_unlike [.lst (N.map D.str ++ rest), .int most] cs) P X := by
  unfold m_need_unlike mb_need_unlike
  simp only [rp_def, List.map_cons, List.map_nil, List.length_cons, List.length_nil, Nat.reduceAdd, Nat.reduceSub, List.replicate_zero, List.replicate_succ, List.append_nil, List.cons_append, List.nil_append, List.set_cons_zero, List.set_cons_succ, sp_ret, sp_seq, sp_asg, sp_if, sp_nx, sp_drop, SP_brS, rap_cons, rap_nil, rp_bi, rp_c, rp_op2, rp_op1, rp_not, rp_or, rp_and, rp_if, rp_call, rp_varM, List.getElem?_cons_zero, List.getElem?_cons_succ, rp_notD, RP_br, RP_ok]
  refine isl_rp ?_
  simp only [hl, decide_true, rp_def, List.map_cons, List.map_nil, List.length_cons, List.length_nil, Nat.reduceAdd, Nat.reduceSub, List.replicate_zero, List.replicate_succ, List.append_nil, List.cons_append, List.nil_append, List.set_cons_zero, List.set_cons_succ, sp_ret, sp_seq, sp_asg, sp_if, sp_nx, sp_drop, SP_brS, rap_cons, rap_nil, rp_bi, rp_c, rp_op2, rp_op1, rp_not, rp_or, rp_and, rp_if, rp_call, rp_varM, List.getElem?_cons_zero, List.getElem?_cons_succ, rp_notD, RP_br, RP_ok, Bool.not_true, Bool.false_eq_true, if_false, rp_set0, sp_for, wp_seq, seq_lst]
  refine for_invN (fun i env c => i ≤ N.length ∧ ∃ e3, env = [some (.lst (N.map D.str ++ rest)), some (.int most), some (.loc cs.length), e3] ∧ c = cs ++ [.set (keysN (N.take i))]) ⟨Nat.zero_le _, _, rfl, rfl⟩ ?_ ?_
  · rintro env c ⟨hi, e3, rfl, rfl⟩
    refine ⟨by trivial, ?_⟩
    have hr : rest = [] := by
      cases rest with
      | nil => rfl
      | cons a r => simp at hi; omega
    subst hr
    rw [List.take_of_length_le (by simp)]
    exact k
  · rintro i d env c hd' ⟨hi, e3, rfl, rfl⟩
    refine ⟨by trivial, _, rfl, ?_⟩
    have hs : (cs ++ [Cell.set (keysN (N.take i))])[cs.length]? = some (.set (keysN (N.take i))) := by
      rw [List.getElem?_append_right (Nat.le_refl _), Nat.sub_self]; rfl
    by_cases hlt : i < N.length
    · have e1 : d = .str N[i] := by
        rw [List.getElem?_append_left (by simpa using hlt), List.getElem?_map, List.getElem?_eq_getElem hlt] at hd'
        simpa using hd'.symm
      subst e1
      obtain ⟨n1, n2⟩ := hN _ (List.getElem_mem hlt)
      have nk : hasK (keysN (N.take i)) (.inr N[i]) = false := by
        rw [hasK_N]
        refine decide_eq_false fun hm => ?_
        obtain ⟨j, hj, e⟩ := List.getElem_of_mem hm
        rw [List.length_take] at hj
        rw [List.getElem_take] at e
        have := (List.getElem_inj hd).mp e
        omega
      simp only [rp_def, List.map_cons, List.map_nil, List.length_cons, List.length_nil, Nat.reduceAdd, Nat.reduceSub, List.replicate_zero, List.replicate_succ, List.append_nil, List.cons_append, List.nil_append, List.set_cons_zero, List.set_cons_succ, sp_ret, sp_seq, sp_asg, sp_if, sp_nx, sp_drop, SP_brS, rap_cons, rap_nil, rp_bi, rp_c, rp_op2, rp_op1, rp_not, rp_or, rp_and, rp_if, rp_call, rp_varM, List.getElem?_cons_zero, List.getElem?_cons_succ, rp_notD, RP_br, RP_ok]
      refine isn_str (by rw [sizeLine_eq]; omega) ?_
      rw [n1]
      simp only [rp_def, List.map_cons, List.map_nil, List.length_cons, List.length_nil, Nat.reduceAdd, Nat.reduceSub, List.replicate_zero, List.replicate_succ, List.append_nil, List.cons_append, List.nil_append, List.set_cons_zero, List.set_cons_succ, sp_ret, sp_seq, sp_asg, sp_if, sp_nx, sp_drop, SP_brS, rap_cons, rap_nil, rp_bi, rp_c, rp_op2, rp_op1, rp_not, rp_or, rp_and, rp_if, rp_call, rp_varM, List.getElem?_cons_zero, List.getElem?_cons_succ, rp_notD, RP_br, RP_ok, Bool.not_true, Bool.false_eq_true, if_false, rp_inS2 (set_at hs) (show kdOf (.str N[i]) = some (.inr N[i]) from rfl), nk, rp_sadd, set_at hs, kdOf]
      have hb : (keysN (N.take i)).length + 1 < scanBound := by
        have : (keysN (N.take i)).length ≤ 1000 := by unfold keysN; rw [List.length_map, List.length_take]; omega
        have h2 : (1001 : Nat) < scanBound := by decide +kernel
        omega
      rw [if_pos hb]
      refine ⟨hlt, _, rfl, ?_⟩
      rw [List.set_append_right _ _ (Nat.le_refl _), Nat.sub_self]
      unfold addK
      rw [if_neg (by rw [nk]; decide)]
      show cs ++ [Cell.set (keysN (N.take i) ++ [.inr N[i]])] = _
      unfold keysN
      rw [List.take_succ, List.getElem?_eq_getElem hlt, List.map_append]
      rfl
    · have hi2 : i = N.length := by omega
      subst hi2
      have ht : N.take N.length = N := List.take_length
      rw [ht] at hs ⊢
      rw [List.getElem?_append_right (by simp)] at hd'
      simp only [List.length_map, Nat.sub_self] at hd'
      cases rest with
      | nil => simp at hd'
      | cons e r =>
        simp only [List.getElem?_cons_zero, Option.some.injEq] at hd'
        subst hd'
        rcases k with ⟨k1, k3⟩ | ⟨z, rfl, k1, k2, k3, k4⟩
        · simp only [rp_def, List.map_cons, List.map_nil, List.length_cons, List.length_nil, Nat.reduceAdd, Nat.reduceSub, List.replicate_zero, List.replicate_succ, List.append_nil, List.cons_append, List.nil_append, List.set_cons_zero, List.set_cons_succ, sp_ret, sp_seq, sp_asg, sp_if, sp_nx, sp_drop, SP_brS, rap_cons, rap_nil, rp_bi, rp_c, rp_op2, rp_op1, rp_not, rp_or, rp_and, rp_if, rp_call, rp_varM, List.getElem?_cons_zero, List.getElem?_cons_succ, rp_notD, RP_br, RP_ok]
          refine k1 _ _ ?_
          simp only [rp_def, List.map_cons, List.map_nil, List.length_cons, List.length_nil, Nat.reduceAdd, Nat.reduceSub, List.replicate_zero, List.replicate_succ, List.append_nil, List.cons_append, List.nil_append, List.set_cons_zero, List.set_cons_succ, sp_ret, sp_seq, sp_asg, sp_if, sp_nx, sp_drop, SP_brS, rap_cons, rap_nil, rp_bi, rp_c, rp_op2, rp_op1, rp_not, rp_or, rp_and, rp_if, rp_call, rp_varM, List.getElem?_cons_zero, List.getElem?_cons_succ, rp_notD, RP_br, RP_ok, Bool.not_false, if_true, sp_raise]
          exact k3
        · simp only [rp_def, List.map_cons, List.map_nil, List.length_cons, List.length_nil, Nat.reduceAdd, Nat.reduceSub, List.replicate_zero, List.replicate_succ, List.append_nil, List.cons_append, List.nil_append, List.set_cons_zero, List.set_cons_succ, sp_ret, sp_seq, sp_asg, sp_if, sp_nx, sp_drop, SP_brS, rap_cons, rap_nil, rp_bi, rp_c, rp_op2, rp_op1, rp_not, rp_or, rp_and, rp_if, rp_call, rp_varM, List.getElem?_cons_zero, List.getElem?_cons_succ, rp_notD, RP_br, RP_ok]
          refine isn_str (by rw [sizeLine_eq]; omega) ?_
          rw [k1]
          simp only [rp_def, List.map_cons, List.map_nil, List.length_cons, List.length_nil, Nat.reduceAdd, Nat.reduceSub, List.replicate_zero, List.replicate_succ, List.append_nil, List.cons_append, List.nil_append, List.set_cons_zero, List.set_cons_succ, sp_ret, sp_seq, sp_asg, sp_if, sp_nx, sp_drop, SP_brS, rap_cons, rap_nil, rp_bi, rp_c, rp_op2, rp_op1, rp_not, rp_or, rp_and, rp_if, rp_call, rp_varM, List.getElem?_cons_zero, List.getElem?_cons_succ, rp_notD, RP_br, RP_ok, Bool.not_true, Bool.false_eq_true, if_false, rp_inS2 (set_at hs) (show kdOf (.str z) = some (.inr z) from rfl), hasK_N, k3, decide_true, if_true, sp_raise]
          exact k4
theorem isl_loc {n : Nat} {L : List D} (h : cs[n]? = some (.lst L)) (k : P (.bl (decide ((L.length : Int) ≤ most))) cs) : RP (m_is_list [.loc n, .int most] cs) P X := by
  have ht : tyC cs (.loc n) = some "list" := by simp only [tyC, h]
  have hl : ∀ (P : D → Cells → Prop) (X : KX), RP (lenB cs [.loc n]) P X = P (.int L.length) cs := fun P X => by
    show RP (match L3.listOf cs (.loc n) with | some l => _ | none => _) P X = _
    simp only [L3.listOf, h]; rfl
  unfold m_is_list mb_is_list
  have e1 : (decide (("list" : String) = "list") || decide (("list" : String) = "tuple")) = true := by decide
  simp only [rp_def, List.map_cons, List.map_nil, List.length_cons, List.length_nil, Nat.reduceAdd, Nat.reduceSub, List.replicate_zero, List.replicate_succ, List.append_nil, List.cons_append, List.nil_append, List.set_cons_zero, List.set_cons_succ, sp_ret, sp_seq, sp_asg, sp_if, sp_nx, sp_drop, SP_brS, rap_cons, rap_nil, rp_bi, rp_c, rp_op2, rp_op1, rp_not, rp_or, rp_and, rp_if, rp_call, rp_varM, List.getElem?_cons_zero, List.getElem?_cons_succ, rp_notD, RP_br, RP_ok, rp_isi2 (u := "list") ht (by simp), e1, cond_true, hl, rp_le]
  exact k
end

/-! ### `_law_is_name(value, most)` -/
def nmM (most : Nat) (l : List Nat) : Bool := decide (1 ≤ l.length ∧ l.length ≤ most) && l.all fun c => decide (c ∈ SG)
theorem nmM_200 (l : List Nat) : nmM 200 l = nm l := rfl
def nmD (most : Nat) (d : D) : Bool := match d with
  | .str l => nmM most l
  | _ => false

section
variable {cs : Cells} {P : D → Cells → Prop} {X : KX} {d e : D} {most : Int} {ds rest : List D} {N : List (List Nat)}
theorem un_loc {n : Nat} (h1 : cs[n]? = some (.lst (N.map D.str))) (hN : ∀ z ∈ N, nm z = true ∧ z.length ≤ 1000) (hd : N.Nodup) (hl : ((N.map D.str).length : Int) ≤ most) (hz : N.length ≤ 1000) (k : P .non (cs ++ [.set (keysN N)])) : RP (m_need_unlike [.loc n, .int most] cs) P X := by
  unfold m_need_unlike mb_need_unlike
  simp only [rp_def, List.map_cons, List.map_nil, List.length_cons, List.length_nil, Nat.reduceAdd, Nat.reduceSub, List.replicate_zero, List.replicate_succ, List.append_nil, List.cons_append, List.nil_append, List.set_cons_zero, List.set_cons_succ, sp_ret, sp_seq, sp_asg, sp_if, sp_nx, sp_drop, SP_brS, rap_cons, rap_nil, rp_bi, rp_c, rp_op2, rp_op1, rp_not, rp_or, rp_and, rp_if, rp_call, rp_varM, List.getElem?_cons_zero, List.getElem?_cons_succ, rp_notD, RP_br, RP_ok]
  refine isl_loc h1 ?_
  have sq : ∀ {x : Cell}, seqOf (cs ++ [x]) (.loc n) = some (N.map D.str) := fun {x} => by
    show L3.listOf (cs ++ [x]) (.loc n) = _
    have h2 : (cs ++ [x])[n]? = some (.lst (N.map D.str)) := by
      rw [List.getElem?_append_left (List.getElem?_eq_some_iff.mp h1).1]; exact h1
    simp only [L3.listOf, h2]
  simp only [hl, decide_true, rp_def, List.map_cons, List.map_nil, List.length_cons, List.length_nil, Nat.reduceAdd, Nat.reduceSub, List.replicate_zero, List.replicate_succ, List.append_nil, List.cons_append, List.nil_append, List.set_cons_zero, List.set_cons_succ, sp_ret, sp_seq, sp_asg, sp_if, sp_nx, sp_drop, SP_brS, rap_cons, rap_nil, rp_bi, rp_c, rp_op2, rp_op1, rp_not, rp_or, rp_and, rp_if, rp_call, rp_varM, List.getElem?_cons_zero, List.getElem?_cons_succ, rp_notD, RP_br, RP_ok, Bool.not_true, Bool.false_eq_true, if_false, rp_set0, sp_for, wp_seq, sq]
  refine for_invN (fun i env c => i ≤ N.length ∧ ∃ e3, env = [some (.loc n), some (.int most), some (.loc cs.length), e3] ∧ c = cs ++ [.set (keysN (N.take i))]) ⟨Nat.zero_le _, _, rfl, rfl⟩ ?_ ?_
  · rintro env c ⟨hi, e3, rfl, rfl⟩
    refine ⟨sq, ?_⟩
    rw [List.take_of_length_le (by simp)]
    exact k
  · rintro i d env c hd' ⟨hi, e3, rfl, rfl⟩
    refine ⟨sq, _, rfl, ?_⟩
    have hs : (cs ++ [Cell.set (keysN (N.take i))])[cs.length]? = some (.set (keysN (N.take i))) := by
      rw [List.getElem?_append_right (Nat.le_refl _), Nat.sub_self]; rfl
    by_cases hlt : i < N.length
    · have e1 : d = .str N[i] := by
        rw [List.getElem?_map, List.getElem?_eq_getElem hlt] at hd'
        simpa using hd'.symm
      subst e1
      obtain ⟨n1, n2⟩ := hN _ (List.getElem_mem hlt)
      have nk : hasK (keysN (N.take i)) (.inr N[i]) = false := by
        rw [hasK_N]
        refine decide_eq_false fun hm => ?_
        obtain ⟨j, hj, e⟩ := List.getElem_of_mem hm
        rw [List.length_take] at hj
        rw [List.getElem_take] at e
        have := (List.getElem_inj hd).mp e
        omega
      simp only [rp_def, List.map_cons, List.map_nil, List.length_cons, List.length_nil, Nat.reduceAdd, Nat.reduceSub, List.replicate_zero, List.replicate_succ, List.append_nil, List.cons_append, List.nil_append, List.set_cons_zero, List.set_cons_succ, sp_ret, sp_seq, sp_asg, sp_if, sp_nx, sp_drop, SP_brS, rap_cons, rap_nil, rp_bi, rp_c, rp_op2, rp_op1, rp_not, rp_or, rp_and, rp_if, rp_call, rp_varM, List.getElem?_cons_zero, List.getElem?_cons_succ, rp_notD, RP_br, RP_ok]
      refine isn_str (by rw [sizeLine_eq]; omega) ?_
      rw [n1]
      simp only [rp_def, List.map_cons, List.map_nil, List.length_cons, List.length_nil, Nat.reduceAdd, Nat.reduceSub, List.replicate_zero, List.replicate_succ, List.append_nil, List.cons_append, List.nil_append, List.set_cons_zero, List.set_cons_succ, sp_ret, sp_seq, sp_asg, sp_if, sp_nx, sp_drop, SP_brS, rap_cons, rap_nil, rp_bi, rp_c, rp_op2, rp_op1, rp_not, rp_or, rp_and, rp_if, rp_call, rp_varM, List.getElem?_cons_zero, List.getElem?_cons_succ, rp_notD, RP_br, RP_ok, Bool.not_true, Bool.false_eq_true, if_false, rp_inS2 (set_at hs) (show kdOf (.str N[i]) = some (.inr N[i]) from rfl), nk, rp_sadd, set_at hs, kdOf]
      have hb : (keysN (N.take i)).length + 1 < scanBound := by
        have : (keysN (N.take i)).length ≤ 1000 := by unfold keysN; rw [List.length_map, List.length_take]; omega
        have h2 : (1001 : Nat) < scanBound := by decide +kernel
        omega
      rw [if_pos hb]
      refine ⟨hlt, _, rfl, ?_⟩
      rw [List.set_append_right _ _ (Nat.le_refl _), Nat.sub_self]
      unfold addK
      rw [if_neg (by rw [nk]; decide)]
      show cs ++ [Cell.set (keysN (N.take i) ++ [.inr N[i]])] = _
      unfold keysN
      rw [List.take_succ, List.getElem?_eq_getElem hlt, List.map_append]
      rfl
    · rw [List.getElem?_eq_none (by rw [List.length_map]; omega)] at hd'
      cases hd'
end

end T_k70

namespace T_k70
open PySem L2 L3
/-! ### lists that are the same -/
def sameOk (d : D) : Bool := match py0 d with
  | some p => SeqAt.shaped p && PyData.eqv p p
  | none => false
theorem ne_same {cs : Cells} {P : D → Cells → Prop} {X : KX} {t : List D} (h : sameOk (.lst t) = true) (k : P (.bl false) cs) : RP (neD cs (.lst t) (.lst t)) P X := by
  have : eqB cs (.lst t) (.lst t) = some true := by
    show (match pyOf cs (.lst t), pyOf cs (.lst t) with
      | some p, some q => if SeqAt.shaped p && SeqAt.shaped q then some (PyData.eqv p q) else none
      | _, _ => none) = _
    have e : pyOf cs (.lst t) = py0 (.lst t) := rfl
    rw [e]
    unfold sameOk at h
    cases hp : py0 (.lst t) with
    | none => rw [hp] at h; cases h
    | some p =>
      rw [hp] at h
      simp only [Bool.and_eq_true] at h
      simp only [h.1, h.2, Bool.and_self, if_true]
  unfold neD; rw [this]; exact k
theorem eq_same {cs : Cells} {P : D → Cells → Prop} {X : KX} {t : List D} (h : sameOk (.lst t) = true) (k : P (.bl true) cs) : RP (eqD cs (.lst t) (.lst t)) P X := by
  have : eqB cs (.lst t) (.lst t) = some true := by
    show (match pyOf cs (.lst t), pyOf cs (.lst t) with
      | some p, some q => if SeqAt.shaped p && SeqAt.shaped q then some (PyData.eqv p q) else none
      | _, _ => none) = _
    have e : pyOf cs (.lst t) = py0 (.lst t) := rfl
    rw [e]
    unfold sameOk at h
    cases hp : py0 (.lst t) with
    | none => rw [hp] at h; cases h
    | some p =>
      rw [hp] at h
      simp only [Bool.and_eq_true] at h
      simp only [h.1, h.2, Bool.and_self, if_true]
  unfold eqD; rw [this]; exact k
theorem rep_dct {cs : Cells} {t : List (Kd × D)} (q : repOkD (.dct t) = true) : ∃ z, reprBD cs [.dct t] = .ok (.str z) cs := by
  unfold repOkD at q
  cases hp : py0 (.dct t) with
  | none => try rw [hp] at q
            cases q
  | some p =>
    try rw [hp] at q
    have q := of_decide_eq_true q
    refine ⟨codes p.shown, ?_⟩
    have hp' : pyOf cs (.dct t) = some p := hp
    unfold reprBD
    simp only [reprC, hp', if_pos q]

/-! ### books -/
def Kp (cs c : Cells) : Prop := ∀ (m : Nat) (x : Cell), cs[m]? = some x → c[m]? = some x
theorem Kp.refl {cs : Cells} : Kp cs cs := fun _ _ h => h
theorem Kp.app {cs news : Cells} : Kp cs (cs ++ news) := fun m x h => by
  rw [List.getElem?_append_left (List.getElem?_eq_some_iff.mp h).1]; exact h
theorem Kp.trans {a b c : Cells} (h : Kp a b) (k : Kp b c) : Kp a c := fun m x q => k m x (h m x q)
theorem Kp.len {a b : Cells} (h : Kp a b) : a.length ≤ b.length := by
  cases ha : a.length with
  | zero => exact Nat.zero_le _
  | succ n =>
    have : n < a.length := by omega
    have := h n a[n] (List.getElem?_eq_getElem this)
    have := (List.getElem?_eq_some_iff.mp this).1
    omega
theorem RuleAt.kp {cs c : Cells} {n : Nat} {l w : List Nat} (h : RuleAt cs n l w) (k : Kp cs c) : RuleAt c n l w := k _ _ h
theorem _root_.L3.Bx.kp {cs c : Cells} {n B : Nat} (h : Bx cs n B) (k : Kp cs c) : Bx c n B := by
  obtain ⟨a, b, e, h1, h2⟩ := h
  exact ⟨a, b, e, k _ _ h1, h2⟩
def BkF (rn nn : Nat) : List (Str × D) := [("book_rule", .loc rn), ("book_names", .loc nn)]
theorem bk_rule {rn nn : Nat} : (BkF rn nn).lookup ("book_rule" : Str) = some (.loc rn) := by
  unfold BkF; rw [List.lookup, beq_self_eq_true]
theorem bk_names {rn nn : Nat} : (BkF rn nn).lookup ("book_names" : Str) = some (.loc nn) := by
  unfold BkF; rw [List.lookup, show (("book_names" : Str) == "book_rule") = false by decide +kernel, List.lookup, beq_self_eq_true]
theorem bk_no {rn nn : Nat} {m : Str} (h : (m == "book_rule") = false) (h2 : (m == "book_names") = false) : (BkF rn nn).lookup m = none := by
  unfold BkF; rw [List.lookup, h, List.lookup, h2]; rfl
structure BookAt (cs : Cells) (n rn nn : Nat) (N : List (List Nat)) : Prop where
  b : cs[n]? = some (.ins "Book" (BkF rn nn))
  s : cs[nn]? = some (.lst (N.map D.str))
theorem BookAt.kp {cs c : Cells} {n rn nn : Nat} {N : List (List Nat)} (h : BookAt cs n rn nn N) (k : Kp cs c) : BookAt c n rn nn N := ⟨k _ _ h.b, k _ _ h.s⟩
theorem BookAt.app {cs news : Cells} {n rn nn : Nat} {N : List (List Nat)} (h : BookAt cs n rn nn N) : BookAt (cs ++ news) n rn nn N := h.kp .app
theorem BookAt.ins {cs : Cells} {n rn nn : Nat} {N : List (List Nat)} (h : BookAt cs n rn nn N) : insAt cs (.loc n) = some (n, ("Book" : Str), BkF rn nn) := ins_at h.b
section
variable {l w l2 w2 : List Nat} {cs : Cells} {n m rn nn : Nat} {P : D → Cells → Prop} {X : KX} {N : List (List Nat)} {d : D} {neg : Bool}
/-! == of rules -/
theorem eq_okR {r : R} {v : D} {c : Cells} (h : ∀ (P : D → Cells → Prop) (X : KX), P v c → RP r P X) : r = .ok v c := by
  obtain ⟨d, c', e, rfl, rfl⟩ := RP.get (h (fun d c' => d = v ∧ c' = c) noX ⟨rfl, rfl⟩)
  exact e
theorem req_rp (h1 : RuleAt cs n l w) (h2 : RuleAt cs m l2 w2) : m_Rule___eq__ [.loc n, .loc m] cs = .ok (.bl (decide (l = l2) && decide (w = w2))) cs := by
  refine eq_okR fun P X k => ?_
  unfold m_Rule___eq__ mb_Rule___eq__
  simp only [rp_def, List.map_cons, List.map_nil, List.length_cons, List.length_nil, Nat.reduceAdd, Nat.reduceSub, List.replicate_zero, List.replicate_succ, List.append_nil, List.cons_append, List.nil_append, List.set_cons_zero, List.set_cons_succ, sp_ret, sp_seq, sp_asg, sp_if, sp_nx, sp_drop, SP_brS, rap_cons, rap_nil, rp_bi, rp_c, rp_op2, rp_op1, rp_not, rp_or, rp_and, rp_if, rp_call, rp_varM, List.getElem?_cons_zero, List.getElem?_cons_succ, rp_notD, RP_br, RP_ok, rp_isoT h2, cond_true, rp_eFld, h1.ins, h2.ins, eq_self, if_true, ru_mark, ru_way, rp_eqS]
  by_cases h : l = l2
  · simp only [h, decide_true, cond_true, Bool.true_and] at k ⊢
    try simp only [rp_def, List.map_cons, List.map_nil, List.length_cons, List.length_nil, Nat.reduceAdd, Nat.reduceSub, List.replicate_zero, List.replicate_succ, List.append_nil, List.cons_append, List.nil_append, List.set_cons_zero, List.set_cons_succ, sp_ret, sp_seq, sp_asg, sp_if, sp_nx, sp_drop, SP_brS, rap_cons, rap_nil, rp_bi, rp_c, rp_op2, rp_op1, rp_not, rp_or, rp_and, rp_if, rp_call, rp_varM, List.getElem?_cons_zero, List.getElem?_cons_succ, rp_notD, RP_br, RP_ok, rp_eFld, h1.ins, h2.ins, eq_self, if_true, ru_mark, ru_way, rp_eqS]
    exact k
  · simp only [h, decide_false, cond_false, Bool.false_and] at k ⊢
    exact k
theorem rp_ruleEq (h1 : RuleAt cs n l w) (h2 : RuleAt cs m l2 w2) : RP (eqID "Rule" m_Rule___eq__ neg cs (.loc n) (.loc m)) P X = P (.bl (if neg then !(decide (l = l2) && decide (w = w2)) else (decide (l = l2) && decide (w = w2)))) cs := by
  unfold eqID
  simp only [h1.ins, h2.ins, eq_self, and_self, if_true, req_rp h1 h2]
  rfl
/-! a book's parts -/
theorem bn_rp (h : BookAt cs n rn nn N) (hl : N.length ≤ 1000) (k : P (.loc cs.length) (cs ++ [.lst (N.map D.str)])) : RP (m_Book_names [.loc n] cs) P X := by
  have hs : seqOf cs (.loc nn) = some (N.map D.str) := by
    show L3.listOf cs (.loc nn) = _
    simp only [L3.listOf, h.s]
  unfold m_Book_names mb_Book_names
  simp only [rp_def, List.map_cons, List.map_nil, List.length_cons, List.length_nil, Nat.reduceAdd, Nat.reduceSub, List.replicate_zero, List.replicate_succ, List.append_nil, List.cons_append, List.nil_append, List.set_cons_zero, List.set_cons_succ, sp_ret, sp_seq, sp_asg, sp_if, sp_nx, sp_drop, SP_brS, rap_cons, rap_nil, rp_bi, rp_c, rp_op2, rp_op1, rp_not, rp_or, rp_and, rp_if, rp_call, rp_varM, List.getElem?_cons_zero, List.getElem?_cons_succ, rp_notD, RP_br, RP_ok, rp_listOf, rp_eFld, h.ins, eq_self, if_true, bk_names, hs]
  rw [rp_mkLt (by rw [List.length_map, sizeLine_eq]; omega)]
  exact k
theorem br_rp (h : BookAt cs n rn nn N) (k : P (.loc rn) cs) : RP (m_Book_rule [.loc n] cs) P X := by
  unfold m_Book_rule mb_Book_rule
  simp only [rp_def, List.map_cons, List.map_nil, List.length_cons, List.length_nil, Nat.reduceAdd, Nat.reduceSub, List.replicate_zero, List.replicate_succ, List.append_nil, List.cons_append, List.nil_append, List.set_cons_zero, List.set_cons_succ, sp_ret, sp_seq, sp_asg, sp_if, sp_nx, sp_drop, SP_brS, rap_cons, rap_nil, rp_bi, rp_c, rp_op2, rp_op1, rp_not, rp_or, rp_and, rp_if, rp_call, rp_varM, List.getElem?_cons_zero, List.getElem?_cons_succ, rp_notD, RP_br, RP_ok, rp_eFld, h.ins, eq_self, if_true, bk_rule]
  exact k
theorem blen_ok (h : BookAt cs n rn nn N) : m_Book___len__ [.loc n] cs = .ok (.int N.length) cs := by
  have hl : ∀ (P : D → Cells → Prop) (X : KX), RP (lenB cs [.loc nn]) P X = P (.int N.length) cs := fun P X => by
    show RP (match L3.listOf cs (.loc nn) with | some l => _ | none => _) P X = _
    simp only [L3.listOf, h.s, List.length_map]; rfl
  refine eq_okR fun P X k => ?_
  unfold m_Book___len__ mb_Book___len__
  simp only [rp_def, List.map_cons, List.map_nil, List.length_cons, List.length_nil, Nat.reduceAdd, Nat.reduceSub, List.replicate_zero, List.replicate_succ, List.append_nil, List.cons_append, List.nil_append, List.set_cons_zero, List.set_cons_succ, sp_ret, sp_seq, sp_asg, sp_if, sp_nx, sp_drop, SP_brS, rap_cons, rap_nil, rp_bi, rp_c, rp_op2, rp_op1, rp_not, rp_or, rp_and, rp_if, rp_call, rp_varM, List.getElem?_cons_zero, List.getElem?_cons_succ, rp_notD, RP_br, RP_ok, rp_eFld, h.ins, eq_self, if_true, bk_names, hl]
  exact k
theorem rp_bookLen (h : BookAt cs n rn nn N) (hN : N.length ≤ 1000) : RP (lenI "Book" m_Book___len__ cs [.loc n]) P X = P (.int N.length) cs := by
  unfold lenI
  simp only [h.ins, eq_self, if_true, blen_ok h]
  rw [if_pos ⟨by omega, by omega⟩]; rfl
/-! a new one -/
theorem mkBook {c : Cells} {dN : D} {K : D → Cells → Prop} (hr : RuleAt c rn l w) (hU : ∀ (P : D → Cells → Prop) (X : KX), P .non (c ++ [.ins "Book" []] ++ [.set (keysN N)]) → RP (m_need_unlike [dN, .int 200] (c ++ [.ins "Book" []])) P X) (hS : ∀ x y, seqOf (c ++ [x] ++ [y]) dN = some (N.map D.str)) (hl : N.length ≤ 1000)
    (k : ∀ news nn, c.length ≤ nn → BookAt (c ++ news) c.length rn nn N → K .non (c ++ news)) : RP (m_Book___init__ [.loc c.length, .loc rn, dN] (c ++ [.ins "Book" []])) K X := by
  unfold m_Book___init__ mb_Book___init__
  simp only [rp_def, List.map_cons, List.map_nil, List.length_cons, List.length_nil, Nat.reduceAdd, Nat.reduceSub, List.replicate_zero, List.replicate_succ, List.append_nil, List.cons_append, List.nil_append, List.set_cons_zero, List.set_cons_succ, sp_ret, sp_seq, sp_asg, sp_if, sp_nx, sp_drop, SP_brS, rap_cons, rap_nil, rp_bi, rp_c, rp_op2, rp_op1, rp_not, rp_or, rp_and, rp_if, rp_call, rp_varM, List.getElem?_cons_zero, List.getElem?_cons_succ, rp_notD, RP_br, RP_ok]
  refine nr_rp hr.app ?_
  try simp only [rp_def, List.map_cons, List.map_nil, List.length_cons, List.length_nil, Nat.reduceAdd, Nat.reduceSub, List.replicate_zero, List.replicate_succ, List.append_nil, List.cons_append, List.nil_append, List.set_cons_zero, List.set_cons_succ, sp_ret, sp_seq, sp_asg, sp_if, sp_nx, sp_drop, SP_brS, rap_cons, rap_nil, rp_bi, rp_c, rp_op2, rp_op1, rp_not, rp_or, rp_and, rp_if, rp_call, rp_varM, List.getElem?_cons_zero, List.getElem?_cons_succ, rp_notD, RP_br, RP_ok]
  refine hU _ _ ?_
  have hn : (c ++ [Cell.ins "Book" []] ++ [.set (keysN N)])[c.length]? = some (.ins "Book" []) := by
    rw [List.append_assoc, List.getElem?_append_right (Nat.le_refl _), Nat.sub_self]; rfl
  have e1 : ∀ x : Cell, (c ++ [Cell.ins "Book" []] ++ [Cell.set (keysN N)]).set c.length x = c ++ [x] ++ [Cell.set (keysN N)] := fun x => by
    rw [List.append_assoc, List.set_append_right _ _ (Nat.le_refl _), Nat.sub_self, List.append_assoc]; rfl
  simp only [rp_def, List.map_cons, List.map_nil, List.length_cons, List.length_nil, Nat.reduceAdd, Nat.reduceSub, List.replicate_zero, List.replicate_succ, List.append_nil, List.cons_append, List.nil_append, List.set_cons_zero, List.set_cons_succ, sp_ret, sp_seq, sp_asg, sp_if, sp_nx, sp_drop, SP_brS, rap_cons, rap_nil, rp_bi, rp_c, rp_op2, rp_op1, rp_not, rp_or, rp_and, rp_if, rp_call, rp_varM, List.getElem?_cons_zero, List.getElem?_cons_succ, rp_notD, RP_br, RP_ok, sp_fst, ins_at hn, eq_self, true_and, if_true, e1]
  have h0 : (0 : Nat) < 1000 := by decide
  rw [if_pos h0]
  simp only [rp_listOf, rp_varM, List.getElem?_cons_zero, List.getElem?_cons_succ, hS]
  rw [rp_mkLt (by rw [List.length_map, sizeLine_eq]; omega)]
  generalize hx1 : Cell.ins "Book" (putFD "book_rule" (D.loc rn) []) = x1
  have hn2 : (c ++ [x1] ++ [Cell.set (keysN N)] ++ [Cell.lst (N.map D.str)])[c.length]? = some (.ins "Book" (putFD "book_rule" (D.loc rn) [])) := by
    rw [List.append_assoc, List.append_assoc, List.getElem?_append_right (Nat.le_refl _), Nat.sub_self, ← hx1]; rfl
  have e2 : ∀ x : Cell, (c ++ [x1] ++ [Cell.set (keysN N)] ++ [Cell.lst (N.map D.str)]).set c.length x = c ++ [x, Cell.set (keysN N), Cell.lst (N.map D.str)] := fun x => by
    rw [List.append_assoc, List.append_assoc, List.set_append_right _ _ (Nat.le_refl _), Nat.sub_self]; rfl
  have l1 : (putFD "book_rule" (D.loc rn) []).length < 1000 := (by decide : 1 < 1000)
  simp only [ins_at hn2, eq_self, true_and, l1, if_true, e2]
  have e3 : putFD "book_names" (D.loc (c ++ [x1] ++ [Cell.set (keysN N)]).length) (putFD "book_rule" (D.loc rn) []) = BkF rn (c.length + 2) := by
    unfold BkF
    rw [show putFD ("book_rule" : Str) (D.loc rn) [] = [(("book_rule" : Str), D.loc rn)] from rfl, putFD, if_neg (by decide +kernel)]
    simp [putFD]
  rw [e3]
  refine k _ (c.length + 2) (by omega) ⟨?_, ?_⟩
  · rw [List.getElem?_append_right (Nat.le_refl _), Nat.sub_self]; rfl
  · rw [List.getElem?_append_right (by omega), show c.length + 2 - c.length = 2 by omega]; rfl
/-- of a written list, of the names of a book -/
theorem mkBookL {c : Cells} {K : D → Cells → Prop} (hr : RuleAt c rn l w) (hN : ∀ z ∈ N, T_k70.nm z = true ∧ z.length ≤ 1000) (hd : N.Nodup) (hl : N.length ≤ 200)
    (k : ∀ news nn, c.length ≤ nn → BookAt (c ++ news) c.length rn nn N → K .non (c ++ news)) : RP (m_Book___init__ [.loc c.length, .loc rn, .lst (N.map D.str)] (c ++ [.ins "Book" []])) K X := by
  refine mkBook hr (fun P X k => ?_) (fun x y => rfl) (by omega) k
  have := un_rp (cs := c ++ [Cell.ins "Book" []]) (X := X) (most := 200) (N := N) (rest := []) (P := P) hN hd (by rw [List.append_nil, List.length_map]; omega) (by omega) k
  rw [List.append_nil] at this
  exact this
theorem mkBookC {c : Cells} {m nn0 : Nat} {Q : D → Cells → Prop} (hr : RuleAt c rn l w) (hb : BookAt c m rn nn0 N) (hN : ∀ z ∈ N, T_k70.nm z = true ∧ z.length ≤ 1000) (hd : N.Nodup) (hl : N.length ≤ 200)
    (k : ∀ news nn, c.length ≤ nn → BookAt (c ++ news) c.length rn nn N → Q (.loc c.length) (c ++ news)) : RP (m_Book_copied [.loc m] c) Q X := by
  unfold m_Book_copied mb_Book_copied
  simp only [rp_def, List.map_cons, List.map_nil, List.length_cons, List.length_nil, Nat.reduceAdd, Nat.reduceSub, List.replicate_zero, List.replicate_succ, List.append_nil, List.cons_append, List.nil_append, List.set_cons_zero, List.set_cons_succ, sp_ret, sp_seq, sp_asg, sp_if, sp_nx, sp_drop, SP_brS, rap_cons, rap_nil, rp_bi, rp_c, rp_op2, rp_op1, rp_not, rp_or, rp_and, rp_if, rp_call, rp_varM, List.getElem?_cons_zero, List.getElem?_cons_succ, rp_notD, RP_br, RP_ok, rp_eMake, rp_eFld, hb.ins, eq_self, if_true, bk_rule, bk_names]
  refine mkBook hr (fun P X k => ?_) (fun x y => ?_) (by omega) fun news nn h1 h2 => k news nn h1 h2
  · refine un_loc ?_ hN hd (by rw [List.length_map]; omega) (by omega) k
    rw [List.getElem?_append_left (List.getElem?_eq_some_iff.mp hb.s).1]; exact hb.s
  · show L3.listOf (c ++ [x] ++ [y]) (.loc nn0) = _
    have h2 : (c ++ [x] ++ [y])[nn0]? = some (.lst (N.map D.str)) := by
      rw [List.append_assoc, List.getElem?_append_left (List.getElem?_eq_some_iff.mp hb.s).1]; exact hb.s
    simp only [L3.listOf, h2]
end
/-! ### gifts -/
section
variable {l w pre near post z : List Nat} {s1 s2 : Nat} {cs : Cells} {n m rn nn : Nat} {P : D → Cells → Prop} {X : KX} {N : List (List Nat)}
end

end T_k70

namespace T_k70
open PySem L2 L3
section
variable {cs : Cells} {P : D → Cells → Prop} {X : KX} {d e r t : D} {most : Int} {N : List (List Nat)} {l w : List Nat} {n m rn nn bn : Nat}
/-- need_unlike of a tuple -/
theorem un_tup (hN : ∀ z ∈ N, nm z = true ∧ z.length ≤ 1000) (hd : N.Nodup) (hl : ((N.map D.str).length : Int) ≤ most) (hz : N.length ≤ 1000) (k : P .non (cs ++ [.set (keysN N)])) : RP (m_need_unlike [.tup (N.map D.str), .int most] cs) P X := by
  have il : ∀ (P : D → Cells → Prop) (X : KX), P (.bl true) cs → RP (m_is_list [.tup (N.map D.str), .int most] cs) P X := by
    intro P X k
    have hlt : ∀ (P : D → Cells → Prop) (X : KX), RP (lenB cs [.tup (N.map D.str)]) P X = P (.int (N.map D.str).length) cs := fun P X => rfl
    unfold m_is_list mb_is_list
    have e1 : (decide (("tuple" : String) = "list") || decide (("tuple" : String) = "tuple")) = true := by decide
    simp only [rp_def, List.map_cons, List.map_nil, List.length_cons, List.length_nil, Nat.reduceAdd, Nat.reduceSub, List.replicate_zero, List.replicate_succ, List.append_nil, List.cons_append, List.nil_append, List.set_cons_zero, List.set_cons_succ, sp_ret, sp_seq, sp_asg, sp_if, sp_nx, sp_drop, SP_brS, rap_cons, rap_nil, rp_bi, rp_c, rp_op2, rp_op1, rp_not, rp_or, rp_and, rp_if, rp_call, rp_varM, List.getElem?_cons_zero, List.getElem?_cons_succ, rp_notD, RP_br, RP_ok, rp_isi2 (u := "tuple") (d := D.tup (N.map D.str)) rfl (by simp), e1, cond_true, hlt, rp_le, hl, decide_true]
    exact k
  unfold m_need_unlike mb_need_unlike
  simp only [rp_def, List.map_cons, List.map_nil, List.length_cons, List.length_nil, Nat.reduceAdd, Nat.reduceSub, List.replicate_zero, List.replicate_succ, List.append_nil, List.cons_append, List.nil_append, List.set_cons_zero, List.set_cons_succ, sp_ret, sp_seq, sp_asg, sp_if, sp_nx, sp_drop, SP_brS, rap_cons, rap_nil, rp_bi, rp_c, rp_op2, rp_op1, rp_not, rp_or, rp_and, rp_if, rp_call, rp_varM, List.getElem?_cons_zero, List.getElem?_cons_succ, rp_notD, RP_br, RP_ok]
  refine il _ _ ?_
  have sq : ∀ {x : Cell}, seqOf (cs ++ [x]) (.tup (N.map D.str)) = some (N.map D.str) := fun {x} => rfl
  simp only [rp_def, List.map_cons, List.map_nil, List.length_cons, List.length_nil, Nat.reduceAdd, Nat.reduceSub, List.replicate_zero, List.replicate_succ, List.append_nil, List.cons_append, List.nil_append, List.set_cons_zero, List.set_cons_succ, sp_ret, sp_seq, sp_asg, sp_if, sp_nx, sp_drop, SP_brS, rap_cons, rap_nil, rp_bi, rp_c, rp_op2, rp_op1, rp_not, rp_or, rp_and, rp_if, rp_call, rp_varM, List.getElem?_cons_zero, List.getElem?_cons_succ, rp_notD, RP_br, RP_ok, Bool.not_true, Bool.false_eq_true, if_false, rp_set0, sp_for, wp_seq, sq]
  refine for_invN (fun i env c => i ≤ N.length ∧ ∃ e3, env = [some (.tup (N.map D.str)), some (.int most), some (.loc cs.length), e3] ∧ c = cs ++ [.set (keysN (N.take i))]) ⟨Nat.zero_le _, _, rfl, rfl⟩ ?_ ?_
  · rintro env c ⟨hi, e3, rfl, rfl⟩
    refine ⟨sq, ?_⟩
    rw [List.take_of_length_le (by simp)]
    exact k
  · rintro i d env c hd' ⟨hi, e3, rfl, rfl⟩
    refine ⟨sq, _, rfl, ?_⟩
    have hs : (cs ++ [Cell.set (keysN (N.take i))])[cs.length]? = some (.set (keysN (N.take i))) := by
      rw [List.getElem?_append_right (Nat.le_refl _), Nat.sub_self]; rfl
    by_cases hlt : i < N.length
    · have e1 : d = .str N[i] := by
        rw [List.getElem?_map, List.getElem?_eq_getElem hlt] at hd'
        simpa using hd'.symm
      subst e1
      obtain ⟨n1, n2⟩ := hN _ (List.getElem_mem hlt)
      have nk : hasK (keysN (N.take i)) (.inr N[i]) = false := by
        rw [hasK_N]
        refine decide_eq_false fun hm => ?_
        obtain ⟨j, hj, e⟩ := List.getElem_of_mem hm
        rw [List.length_take] at hj
        rw [List.getElem_take] at e
        have := (List.getElem_inj hd).mp e
        omega
      simp only [rp_def, List.map_cons, List.map_nil, List.length_cons, List.length_nil, Nat.reduceAdd, Nat.reduceSub, List.replicate_zero, List.replicate_succ, List.append_nil, List.cons_append, List.nil_append, List.set_cons_zero, List.set_cons_succ, sp_ret, sp_seq, sp_asg, sp_if, sp_nx, sp_drop, SP_brS, rap_cons, rap_nil, rp_bi, rp_c, rp_op2, rp_op1, rp_not, rp_or, rp_and, rp_if, rp_call, rp_varM, List.getElem?_cons_zero, List.getElem?_cons_succ, rp_notD, RP_br, RP_ok]
      refine isn_str (by rw [sizeLine_eq]; omega) ?_
      rw [n1]
      simp only [rp_def, List.map_cons, List.map_nil, List.length_cons, List.length_nil, Nat.reduceAdd, Nat.reduceSub, List.replicate_zero, List.replicate_succ, List.append_nil, List.cons_append, List.nil_append, List.set_cons_zero, List.set_cons_succ, sp_ret, sp_seq, sp_asg, sp_if, sp_nx, sp_drop, SP_brS, rap_cons, rap_nil, rp_bi, rp_c, rp_op2, rp_op1, rp_not, rp_or, rp_and, rp_if, rp_call, rp_varM, List.getElem?_cons_zero, List.getElem?_cons_succ, rp_notD, RP_br, RP_ok, Bool.not_true, Bool.false_eq_true, if_false, rp_inS2 (set_at hs) (show kdOf (.str N[i]) = some (.inr N[i]) from rfl), nk, rp_sadd, set_at hs, kdOf]
      have hb : (keysN (N.take i)).length + 1 < scanBound := by
        have : (keysN (N.take i)).length ≤ 1000 := by unfold keysN; rw [List.length_map, List.length_take]; omega
        have h2 : (1001 : Nat) < scanBound := by decide +kernel
        omega
      rw [if_pos hb]
      refine ⟨hlt, _, rfl, ?_⟩
      rw [List.set_append_right _ _ (Nat.le_refl _), Nat.sub_self]
      unfold addK
      rw [if_neg (by rw [nk]; decide)]
      show cs ++ [Cell.set (keysN (N.take i) ++ [.inr N[i]])] = _
      unfold keysN
      rw [List.take_succ, List.getElem?_eq_getElem hlt, List.map_append]
      rfl
    · rw [List.getElem?_eq_none (by rw [List.length_map]; omega)] at hd'
      cases hd'
/-! ### desks -/
def DkF (bn : Nat) : List (Str × D) := [("desk_book", .loc bn), ("elder_names", .lst []), ("deeds_done", .lst [])]
theorem dk_book : (DkF bn).lookup ("desk_book" : Str) = some (.loc bn) := by
  unfold DkF; rw [List.lookup, beq_self_eq_true]
theorem dk_done : (DkF bn).lookup ("deeds_done" : Str) = some (.lst []) := by
  unfold DkF; rw [List.lookup, show (("deeds_done" : Str) == "desk_book") = false by decide +kernel, List.lookup, show (("deeds_done" : Str) == "elder_names") = false by decide +kernel, List.lookup, beq_self_eq_true]
theorem dk_no {m : Str} (h : (m == "desk_book") = false) (h2 : (m == "elder_names") = false) (h3 : (m == "deeds_done") = false) : (DkF bn).lookup m = none := by
  unfold DkF; rw [List.lookup, h, List.lookup, h2, List.lookup, h3]; rfl
structure DeskAt (cs : Cells) (n bn rn nn : Nat) (N : List (List Nat)) : Prop where
  d : cs[n]? = some (.ins "Desk" (DkF bn))
  bk : BookAt cs bn rn nn N
theorem DeskAt.app {news : Cells} (h : DeskAt cs n bn rn nn N) : DeskAt (cs ++ news) n bn rn nn N := ⟨Kp.app _ _ h.d, h.bk.app⟩
theorem DeskAt.ins (h : DeskAt cs n bn rn nn N) : insAt cs (.loc n) = some (n, ("Desk" : Str), DkF bn) := ins_at h.d
theorem mkDesk {c : Cells} {dN : D} {K : D → Cells → Prop} (hr : RuleAt c rn l w)
    (hU : ∀ (P : D → Cells → Prop) (X : KX), P .non (c ++ [.ins "Desk" []] ++ [.ins "Book" []] ++ [.set (keysN N)]) → RP (m_need_unlike [dN, .int 200] (c ++ [.ins "Desk" []] ++ [.ins "Book" []])) P X)
    (hS : ∀ x y, seqOf (c ++ [.ins "Desk" []] ++ [x] ++ [y]) dN = some (N.map D.str)) (hl : N.length ≤ 1000)
    (k : ∀ news nn, c.length < nn → DeskAt (c ++ news) c.length (c.length + 1) rn nn N → K .non (c ++ news)) : RP (m_Desk___init__ [.loc c.length, .loc rn, dN] (c ++ [.ins "Desk" []])) K X := by
  unfold m_Desk___init__ mb_Desk___init__
  simp only [rp_def, List.map_cons, List.map_nil, List.length_cons, List.length_nil, Nat.reduceAdd, Nat.reduceSub, List.replicate_zero, List.replicate_succ, List.append_nil, List.cons_append, List.nil_append, List.set_cons_zero, List.set_cons_succ, sp_ret, sp_seq, sp_asg, sp_if, sp_nx, sp_drop, SP_brS, rap_cons, rap_nil, rp_bi, rp_c, rp_op2, rp_op1, rp_not, rp_or, rp_and, rp_if, rp_call, rp_varM, List.getElem?_cons_zero, List.getElem?_cons_succ, rp_notD, RP_br, RP_ok, sp_fst, rp_eMake, rp_varM, List.getElem?_cons_zero, List.getElem?_cons_succ]
  have hbk : RP (m_Book___init__ [.loc (c ++ [Cell.ins "Desk" []]).length, .loc rn, dN] (c ++ [Cell.ins "Desk" []] ++ [.ins "Book" []])) (fun r c2 => r = .non ∧ ∃ news nn, (c ++ [Cell.ins "Desk" []]).length ≤ nn ∧ BookAt (c ++ [Cell.ins "Desk" []] ++ news) (c ++ [Cell.ins "Desk" []]).length rn nn N ∧ c2 = c ++ [Cell.ins "Desk" []] ++ news) X :=
    mkBook (c := c ++ [Cell.ins "Desk" []]) (N := N) (l := l) (w := w) hr.app hU hS hl fun news nn hnn hb => ⟨rfl, news, nn, hnn, hb, rfl⟩
  refine RP.monoX hbk ?_ (fun _ _ _ p => p)
  rintro r c2 ⟨rfl, news, nn, hnn, hb, rfl⟩
  have hlen : (c ++ [Cell.ins "Desk" []]).length = c.length + 1 := by simp
  rw [hlen] at hb hnn
  have hn : ∀ x : Cell, (c ++ [x] ++ news)[c.length]? = some x := fun x => by
    rw [List.append_assoc, List.getElem?_append_right (Nat.le_refl _), Nat.sub_self]; rfl
  have e1 : ∀ x y : Cell, (c ++ [x] ++ news).set c.length y = c ++ [y] ++ news := fun x y => by
    rw [List.append_assoc, List.set_append_right _ _ (Nat.le_refl _), Nat.sub_self, List.append_assoc]; rfl
  have hb2 : ∀ y : Cell, BookAt (c ++ [y] ++ news) (c.length + 1) rn nn N := fun y => by
    have g : ∀ m, m ≠ c.length → (c ++ [y] ++ news)[m]? = (c ++ [Cell.ins "Desk" []] ++ news)[m]? := fun m hm => by
      rw [← e1 (.ins "Desk" []) y, List.getElem?_set_ne (Ne.symm hm)]
    exact ⟨(g _ (by omega)).trans hb.b, (g _ (by omega)).trans hb.s⟩
  have h0 : (0 : Nat) < 1000 := by decide
  simp only [rp_def, List.map_cons, List.map_nil, List.length_cons, List.length_nil, Nat.reduceAdd, Nat.reduceSub, List.replicate_zero, List.replicate_succ, List.append_nil, List.cons_append, List.nil_append, List.set_cons_zero, List.set_cons_succ, sp_ret, sp_seq, sp_asg, sp_if, sp_nx, sp_drop, SP_brS, rap_cons, rap_nil, rp_bi, rp_c, rp_op2, rp_op1, rp_not, rp_or, rp_and, rp_if, rp_call, rp_varM, List.getElem?_cons_zero, List.getElem?_cons_succ, rp_notD, RP_br, RP_ok, sp_fst, ins_at (hn _), eq_self, true_and, if_true, e1, List.length_nil, h0, hlen]
  have l1 : (putFD "desk_book" (D.loc (c.length + 1)) []).length < 1000 := (by decide : 1 < 1000)
  have f1 : putFD ("desk_book" : Str) (D.loc (c.length + 1)) [] = [(("desk_book" : Str), D.loc (c.length + 1))] := rfl
  have f2 : putFD ("elder_names" : Str) (.lst []) [(("desk_book" : Str), D.loc (c.length + 1))] = [(("desk_book" : Str), D.loc (c.length + 1)), ("elder_names", .lst [])] := by
    rw [putFD, if_neg (by decide +kernel)]; rfl
  have f3 : putFD ("deeds_done" : Str) (.lst []) [(("desk_book" : Str), D.loc (c.length + 1)), ("elder_names", .lst [])] = DkF (c.length + 1) := by
    rw [putFD, if_neg (by decide +kernel), putFD, if_neg (by decide +kernel)]; rfl
  simp only [rp_list, rap_nil, f1]
  rw [rp_mkLf (by rw [sizeLine_eq]; simp)]
  simp only [rp_def, List.map_cons, List.map_nil, List.length_cons, List.length_nil, Nat.reduceAdd, Nat.reduceSub, List.replicate_zero, List.replicate_succ, List.append_nil, List.cons_append, List.nil_append, List.set_cons_zero, List.set_cons_succ, sp_ret, sp_seq, sp_asg, sp_if, sp_nx, sp_drop, SP_brS, rap_cons, rap_nil, rp_bi, rp_c, rp_op2, rp_op1, rp_not, rp_or, rp_and, rp_if, rp_call, rp_varM, List.getElem?_cons_zero, List.getElem?_cons_succ, rp_notD, RP_br, RP_ok, ins_at (hn _), eq_self, true_and, if_true, e1, List.length_cons, List.length_nil, f2, sp_fst]
  rw [if_pos (by decide)]
  try simp only [rp_def, List.map_cons, List.map_nil, List.length_cons, List.length_nil, Nat.reduceAdd, Nat.reduceSub, List.replicate_zero, List.replicate_succ, List.append_nil, List.cons_append, List.nil_append, List.set_cons_zero, List.set_cons_succ, sp_ret, sp_seq, sp_asg, sp_if, sp_nx, sp_drop, SP_brS, rap_cons, rap_nil, rp_bi, rp_c, rp_op2, rp_op1, rp_not, rp_or, rp_and, rp_if, rp_call, rp_varM, List.getElem?_cons_zero, List.getElem?_cons_succ, rp_notD, RP_br, RP_ok, sp_fst, rp_list, rap_nil]
  try rw [rp_mkLf (by rw [sizeLine_eq]; simp)]
  try simp only [rp_def, List.map_cons, List.map_nil, List.length_cons, List.length_nil, Nat.reduceAdd, Nat.reduceSub, List.replicate_zero, List.replicate_succ, List.append_nil, List.cons_append, List.nil_append, List.set_cons_zero, List.set_cons_succ, sp_ret, sp_seq, sp_asg, sp_if, sp_nx, sp_drop, SP_brS, rap_cons, rap_nil, rp_bi, rp_c, rp_op2, rp_op1, rp_not, rp_or, rp_and, rp_if, rp_call, rp_varM, List.getElem?_cons_zero, List.getElem?_cons_succ, rp_notD, RP_br, RP_ok, ins_at (hn _), eq_self, true_and, if_true, e1, List.length_cons, List.length_nil, f3]
  rw [if_pos (by decide)]
  rw [List.append_assoc]
  refine k _ nn (by omega) ⟨?_, ?_⟩
  · rw [← List.append_assoc]; exact hn _
  · rw [← List.append_assoc]; exact hb2 _
theorem mkDeskL {c : Cells} {K : D → Cells → Prop} (hr : RuleAt c rn l w) (hN : ∀ z ∈ N, nm z = true ∧ z.length ≤ 1000) (hd : N.Nodup) (hl : N.length ≤ 200)
    (k : ∀ news nn, c.length < nn → DeskAt (c ++ news) c.length (c.length + 1) rn nn N → K .non (c ++ news)) : RP (m_Desk___init__ [.loc c.length, .loc rn, .lst (N.map D.str)] (c ++ [.ins "Desk" []])) K X := by
  refine mkDesk hr (fun P X k => ?_) (fun x y => rfl) (by omega) k
  have := un_rp (cs := c ++ [Cell.ins "Desk" []] ++ [Cell.ins "Book" []]) (X := X) (most := 200) (N := N) (rest := []) (P := P) hN hd (by rw [List.append_nil, List.length_map]; omega) (by omega) k
  rw [List.append_nil] at this
  exact this
theorem mkDeskT {c : Cells} {K : D → Cells → Prop} (hr : RuleAt c rn l w) (hN : ∀ z ∈ N, nm z = true ∧ z.length ≤ 1000) (hd : N.Nodup) (hl : N.length ≤ 200)
    (k : ∀ news nn, c.length < nn → DeskAt (c ++ news) c.length (c.length + 1) rn nn N → K .non (c ++ news)) : RP (m_Desk___init__ [.loc c.length, .loc rn, .tup (N.map D.str)] (c ++ [.ins "Desk" []])) K X :=
  mkDesk hr (fun P X k => un_tup hN hd (by rw [List.length_map]; omega) (by omega) k) (fun x y => rfl) (by omega) k
theorem mkDeskC {c : Cells} {K : D → Cells → Prop} (hr : RuleAt c rn l w) (hc : c[n]? = some (.lst (N.map D.str))) (hN : ∀ z ∈ N, nm z = true ∧ z.length ≤ 1000) (hd : N.Nodup) (hl : N.length ≤ 200)
    (k : ∀ news nn, c.length < nn → DeskAt (c ++ news) c.length (c.length + 1) rn nn N → K .non (c ++ news)) : RP (m_Desk___init__ [.loc c.length, .loc rn, .loc n] (c ++ [.ins "Desk" []])) K X := by
  refine mkDesk hr (fun P X k => un_loc ?_ hN hd (by rw [List.length_map]; omega) (by omega) k) (fun x y => ?_) (by omega) k
  · exact Kp.app _ _ (Kp.app _ _ hc)
  · show L3.listOf _ (.loc n) = _
    have h2 : (c ++ [Cell.ins "Desk" []] ++ [x] ++ [y])[n]? = some (.lst (N.map D.str)) := Kp.app _ _ (Kp.app _ _ (Kp.app _ _ hc))
    simp only [L3.listOf, h2]
theorem dbook_rp (h : DeskAt cs n bn rn nn N) (hr : RuleAt cs rn l w) (hN : ∀ z ∈ N, nm z = true ∧ z.length ≤ 1000) (hd : N.Nodup) (hl : N.length ≤ 200)
    (k : ∀ news nn, cs.length ≤ nn → BookAt (cs ++ news) cs.length rn nn N → P (.loc cs.length) (cs ++ news)) : RP (m_Desk_book [.loc n] cs) P X := by
  unfold m_Desk_book mb_Desk_book
  simp only [rp_def, List.map_cons, List.map_nil, List.length_cons, List.length_nil, Nat.reduceAdd, Nat.reduceSub, List.replicate_zero, List.replicate_succ, List.append_nil, List.cons_append, List.nil_append, List.set_cons_zero, List.set_cons_succ, sp_ret, sp_seq, sp_asg, sp_if, sp_nx, sp_drop, SP_brS, rap_cons, rap_nil, rp_bi, rp_c, rp_op2, rp_op1, rp_not, rp_or, rp_and, rp_if, rp_call, rp_varM, List.getElem?_cons_zero, List.getElem?_cons_succ, rp_notD, RP_br, RP_ok, rp_eMeth, rp_eFld, h.ins, eq_self, if_true, dk_book, h.bk.ins, true_and, bk_no (m := "copied") (by decide +kernel) (by decide +kernel)]
  exact mkBookC hr h.bk hN hd hl k
theorem dlog_rp (h : DeskAt cs n bn rn nn N) (k : P (.loc cs.length) (cs ++ [.lst []])) : RP (m_Desk_log [.loc n] cs) P X := by
  unfold m_Desk_log mb_Desk_log
  have hs : seqOf cs (.lst []) = some [] := rfl
  simp only [rp_def, List.map_cons, List.map_nil, List.length_cons, List.length_nil, Nat.reduceAdd, Nat.reduceSub, List.replicate_zero, List.replicate_succ, List.append_nil, List.cons_append, List.nil_append, List.set_cons_zero, List.set_cons_succ, sp_ret, sp_seq, sp_asg, sp_if, sp_nx, sp_drop, SP_brS, rap_cons, rap_nil, rp_bi, rp_c, rp_op2, rp_op1, rp_not, rp_or, rp_and, rp_if, rp_call, rp_varM, List.getElem?_cons_zero, List.getElem?_cons_succ, rp_notD, RP_br, RP_ok, rp_listOf, rp_eFld, h.ins, eq_self, if_true, dk_done, hs]
  rw [rp_mkLt (by rw [sizeLine_eq]; simp)]
  exact k
/-- say("count") -/
theorem dsay_rp (h : DeskAt cs n bn rn nn N) (hl : N.length ≤ 1000) (k : P (.str (codes (toString (N.length : Int)))) cs) : RP (m_Desk_say [.loc n, .str [99, 111, 117, 110, 116]] cs) P X := by
  unfold m_Desk_say mb_Desk_say
  have e1 : ∀ (P : D → Cells → Prop) (X : KX), RP (splD false cs [99, 111, 117, 110, 116] (.str [32])) P X = P (.lst (((Txt.split ⟨[99, 111, 117, 110, 116].toArray⟩ ⟨[32].toArray⟩).map TL.tl).map D.str)) cs := fun P X => by
    unfold splD
    simp only []
    rw [if_pos ⟨by rw [sizeLine_eq]; decide, by decide⟩, rp_mkLf (by rw [sizeLine_eq]; decide +kernel)]
  have e2 : decide (([99, 111, 117, 110, 116] : List Nat) = [117, 110, 100, 111]) = false := by decide
  have e3 : decide (([99, 111, 117, 110, 116] : List Nat) = [99, 111, 117, 110, 116]) = true := by decide
  simp only [rp_def, List.map_cons, List.map_nil, List.length_cons, List.length_nil, Nat.reduceAdd, Nat.reduceSub, List.replicate_zero, List.replicate_succ, List.append_nil, List.cons_append, List.nil_append, List.set_cons_zero, List.set_cons_succ, sp_ret, sp_seq, sp_asg, sp_if, sp_nx, sp_drop, SP_brS, rap_cons, rap_nil, rp_bi, rp_c, rp_op2, rp_op1, rp_not, rp_or, rp_and, rp_if, rp_call, rp_varM, List.getElem?_cons_zero, List.getElem?_cons_succ, rp_notD, RP_br, RP_ok, isi_str, Bool.not_true, Bool.false_eq_true, if_false, rp_m1, e1, rp_eqS, e2, e3, if_true, rp_eFld, h.ins, dk_book]
  rw [rp_bookLen h.bk hl]
  rw [if_pos (by decide), rp_strI (log2_lt (Nat.lt_of_lt_of_le (show ((N.length : Int)).natAbs < 10 ^ 15 by omega) (by decide +kernel)))]
  exact k
end

end T_k70

namespace T_k70
open PySem L2 L3
/-! ### repr of texts and lists of texts, by their lengths -/
def psS (A : List (List Nat)) : List PyData := (A.map fun l => (⟨l.toArray⟩ : Str)).map PyData.str
theorem py_psS (A : List (List Nat)) : py0s (A.map D.str) = some (psS A) := by
  induction A with
  | nil => rfl
  | cons a r ih => simp only [List.map_cons, py0s, py0, ih, psS]
theorem can_psS : ∀ {A : List (List Nat)}, (∀ z ∈ A, ∀ c ∈ z, c < 0x110000) → PyData.canLayAll0 (psS A) = true
  | [], _ => by simp only [psS, List.map_nil, PyData.canLayAll0]
  | z :: r, h => by
    have h1 : PyData.strOk ⟨z.toArray⟩ = true := by
      show (z.toArray.all (· < 0x110000)) = true
      rw [List.all_toArray, List.all_eq_true]
      exact fun c hc => decide_eq_true (h z (by simp) c hc)
    have h2 := can_psS (A := r) fun y hy => h y (List.mem_cons_of_mem _ hy)
    simp only [psS, List.map_cons, PyData.canLayAll0, PyData.canLay0, h1, Bool.true_and] at h2 ⊢
    exact h2
theorem wt_psS : ∀ A : List (List Nat), PyData.weightAll (psS A) = (A.map fun z => z.length + 1).sum
  | [] => by simp [psS, PyData.weightAll]
  | z :: r => by
    have := wt_psS r
    simp only [psS, List.map_cons, PyData.weightAll, PyData.weight, List.size_toArray, List.sum_cons] at this ⊢
    rw [this]
theorem sh_psS : ∀ A : List (List Nat), PyData.showableAll (psS A) = true
  | [] => by simp [psS, PyData.showableAll]
  | z :: r => by
    have := sh_psS r
    simp only [psS, List.map_cons, PyData.showableAll, PyData.showable, Bool.true_and] at this ⊢
    exact this
theorem in_psS : ∀ A : List (List Nat), PyData.intsShortAll 13 (psS A) = true
  | [] => by simp [psS, PyData.intsShortAll]
  | z :: r => by
    have := in_psS r
    simp only [psS, List.map_cons, PyData.intsShortAll, PyData.intsShort, Bool.true_and] at this ⊢
    exact this
theorem dp_psS : ∀ A : List (List Nat), PyData.depthAll (psS A) = 0
  | [] => by simp [psS, PyData.depthAll]
  | z :: r => by
    have := dp_psS r
    simp only [psS, List.map_cons, PyData.depthAll, PyData.depth] at this ⊢
    rw [this]; rfl
theorem wt_le {A : List (List Nat)} {b : Nat} (h : ∀ z ∈ A, z.length ≤ b) : (A.map fun z => z.length + 1).sum ≤ A.length * (b + 1) := by
  induction A with
  | nil => simp
  | cons z r ih =>
    have h1 := h z (by simp)
    have h2 := ih fun y hy => h y (List.mem_cons_of_mem _ hy)
    simp only [List.map_cons, List.sum_cons, List.length_cons]
    rw [Nat.add_mul]; omega
/-- a list of texts -/
theorem rq_list {A : List (List Nat)} {b : Nat} (h : ∀ z ∈ A, z.length ≤ b ∧ ∀ c ∈ z, c < 0x110000) (hw : A.length * (b + 1) ≤ 1000000) : repOkD (.lst (A.map D.str)) = true := by
  refine repQ_ok ?_
  unfold repQ
  have e : py0 (.lst (A.map D.str)) = some (.list (psS A)) := by simp only [py0, py_psS, Option.map_some]
  rw [e]
  have w := wt_le (b := b) fun z hz => (h z hz).1
  rw [← wt_psS] at w
  have c := can_psS fun z hz => (h z hz).2
  show (PyData.layable0 _ && _ && _ && decide (_ ≤ 60)) = true
  simp only [PyData.layable0, PyData.canLay0, PyData.intsShort, PyData.showable, PyData.depth, PyData.weight, c, sh_psS, in_psS, dp_psS, Bool.and_true, Bool.true_and, Bool.and_eq_true, decide_eq_true_eq]
  exact ⟨⟨by decide, decide_eq_true (by omega)⟩, by decide⟩
/-- a word and a text -/
theorem rq_two {w z : List Nat} (hw : w.length ≤ 1000) (hz : z.length ≤ 1000) (cw : ∀ c ∈ w, c < 0x110000) (cz : ∀ c ∈ z, c < 0x110000) : repOkD (.lst [.str w, .str z]) = true :=
  rq_list (A := [w, z]) (b := 1000) (by
    intro y hy
    simp only [List.mem_cons, List.not_mem_nil, or_false] at hy
    rcases hy with rfl | rfl
    · exact ⟨hw, cw⟩
    · exact ⟨hz, cz⟩) (by simp)
/-- a word and a list of texts -/
theorem rq_wl {w : List Nat} {A : List (List Nat)} {b : Nat} (hw : w.length ≤ 1000) (cw : ∀ c ∈ w, c < 0x110000) (h : ∀ z ∈ A, z.length ≤ b ∧ ∀ c ∈ z, c < 0x110000) (hb : A.length * (b + 1) ≤ 1000000) : repOkD (.lst [.str w, .lst (A.map D.str)]) = true := by
  refine repQ_ok ?_
  unfold repQ
  have e : py0 (.lst [.str w, .lst (A.map D.str)]) = some (.list [.str ⟨w.toArray⟩, .list (psS A)]) := by
    show (py0s _).map _ = _
    simp only [py0s, py0, py_psS, Option.map_some]
  rw [e]
  have wl := wt_le (b := b) fun z hz => (h z hz).1
  rw [← wt_psS] at wl
  have c := can_psS fun z hz => (h z hz).2
  have c0 : PyData.strOk ⟨w.toArray⟩ = true := by
    show (w.toArray.all (· < 0x110000)) = true
    rw [List.all_toArray, List.all_eq_true]
    exact fun c hc => decide_eq_true (cw c hc)
  show (PyData.layable0 _ && _ && _ && decide (_ ≤ 60)) = true
  simp only [PyData.layable0, PyData.canLay0, PyData.canLayAll0, PyData.intsShort, PyData.intsShortAll, PyData.showable, PyData.showableAll, PyData.depth, PyData.depthAll, PyData.weight, PyData.weightAll, c, c0, sh_psS, in_psS, dp_psS, List.size_toArray, Bool.and_true, Bool.true_and, Bool.and_eq_true, decide_eq_true_eq]
  omega

/-! ### what `_law_asked` answers -/
abbrev w_BadRule : List Nat := [114, 117, 108, 101]
abbrev w_BadNames : List Nat := [110, 97, 109, 101, 115]
abbrev w_BadName : List Nat := [110, 97, 109, 101]
abbrev w_Doubled : List Nat := [100, 111, 117, 98, 108, 101, 100]
abbrev w_none : List Nat := [110, 111, 110, 101]
def AskX (P : D → Cells → Prop) : KX := fun n fs c => (n = "BadRule" ∧ ∃ d : D, fs = ([("found", d)] : List (Str × D)) ∧ P (.lst [.str w_BadRule, d]) c) ∨ (n = "BadNames" ∧ ∃ d : D, fs = ([("found", d)] : List (Str × D)) ∧ P (.lst [.str w_BadNames, d]) c) ∨ (n = "BadName" ∧ ∃ d : D, fs = ([("found", d)] : List (Str × D)) ∧ P (.lst [.str w_BadName, d]) c) ∨ (n = "Doubled" ∧ ∃ d : D, fs = ([("found", d)] : List (Str × D)) ∧ P (.lst [.str w_Doubled, d]) c)
theorem ask_catch {P : D → Cells → Prop} {K : Cn} {n : Str} {fs : List (Str × D)} {env : L3.Env} {cs : Cells} (hK : K.rt = P) (he : env.length = 3) (h : AskX P n fs cs) : L3.SP (catchH (isaT isa) n fs env cs
    (("BadRule", some 2, fun fs env cs => ((he2 (fun _ cs => .ok (.str [114, 117, 108, 101]) cs) (fldD "found")) fs cs).toS env fun d c => .rt d c) :: (("BadNames", some 2, fun fs env cs => ((he2 (fun _ cs => .ok (.str [110, 97, 109, 101, 115]) cs) (fldD "found")) fs cs).toS env fun d c => .rt d c) :: (("BadName", some 2, fun fs env cs => ((he2 (fun _ cs => .ok (.str [110, 97, 109, 101]) cs) (fldD "found")) fs cs).toS env fun d c => .rt d c) :: (("Doubled", some 2, fun fs env cs => ((he2 (fun _ cs => .ok (.str [100, 111, 117, 98, 108, 101, 100]) cs) (fldD "found")) fs cs).toS env fun d c => .rt d c) :: (("TailError", none, fun _ => (sRet (eList false (aCons (eC (.str [111, 116, 104, 101, 114])) (aCons (eC .non) aNil))))) :: [])))))) K := by
  subst hK
  rcases h with ⟨rfl, d, rfl, h⟩ | ⟨rfl, d, rfl, h⟩ | ⟨rfl, d, rfl, h⟩ | ⟨rfl, d, rfl, h⟩
  · rw [sp_hit (by decide +kernel) (by rw [he]; decide), sp_clr, rp_he2]
    simp only [RP_ok, rp_fld]
    exact h
  · rw [sp_miss (by decide +kernel), sp_hit (by decide +kernel) (by rw [he]; decide), sp_clr, rp_he2]
    simp only [RP_ok, rp_fld]
    exact h
  · rw [sp_miss (by decide +kernel), sp_miss (by decide +kernel), sp_hit (by decide +kernel) (by rw [he]; decide), sp_clr, rp_he2]
    simp only [RP_ok, rp_fld]
    exact h
  · rw [sp_miss (by decide +kernel), sp_miss (by decide +kernel), sp_miss (by decide +kernel), sp_hit (by decide +kernel) (by rw [he]; decide), sp_clr, rp_he2]
    simp only [RP_ok, rp_fld]
    exact h
theorem AskX.BadRule {P : D → Cells → Prop} {c : Cells} {d : D} (k : P (.lst [.str w_BadRule, d]) c) : AskX P "BadRule" [("found", d)] c := .inl ⟨rfl, _, rfl, k⟩
theorem AskX.BadNames {P : D → Cells → Prop} {c : Cells} {d : D} (k : P (.lst [.str w_BadNames, d]) c) : AskX P "BadNames" [("found", d)] c := .inr (.inl ⟨rfl, _, rfl, k⟩)
theorem AskX.BadName {P : D → Cells → Prop} {c : Cells} {d : D} (k : P (.lst [.str w_BadName, d]) c) : AskX P "BadName" [("found", d)] c := .inr (.inr (.inl ⟨rfl, _, rfl, k⟩))
theorem AskX.Doubled {P : D → Cells → Prop} {c : Cells} {d : D} (k : P (.lst [.str w_Doubled, d]) c) : AskX P "Doubled" [("found", d)] c := .inr (.inr (.inr (⟨rfl, _, rfl, k⟩)))

/-! ### the names, the odd values -/
def run (x n : Nat) : List (List Nat) := (List.range n).map fun p => List.replicate (p + 1) x
theorem run_mem {x n : Nat} : ∀ z ∈ run x n, ∃ p, p < n ∧ z = List.replicate (p + 1) x := by
  intro z hz
  obtain ⟨p, hp, rfl⟩ := List.mem_map.mp hz
  exact ⟨p, List.mem_range.mp hp, rfl⟩
theorem run_len {x n : Nat} : (run x n).length = n := by unfold run; rw [List.length_map, List.length_range]
theorem run_nd {x n : Nat} : (run x n).Nodup := by
  unfold run
  refine List.Pairwise.map _ ?_ List.nodup_range
  intro a b hab e
  have := congrArg List.length e
  simp at this
  exact hab this
theorem nm_run {x p : Nat} (hx : x ∈ SG) (h : p < 200) : nm (List.replicate (p + 1) x) = true := by
  unfold nm
  rw [Bool.and_eq_true, decide_eq_true_eq, List.length_replicate, List.all_eq_true]
  exact ⟨by omega, fun c hc => by rw [List.eq_of_mem_replicate hc]; exact decide_eq_true hx⟩
theorem cut_fst {α : Type} {xs : List α} {i : Nat} : cutL xs none (some (i : Int)) = xs.take i := by
  rw [cut_to (by omega), Int.toNat_natCast]
theorem Od.tyz {c : Cells} {j : Nat} {d : D} (o : Od c j d) : ∃ u, tyC c d = some u ∧ u ∈ TZ := by
  cases o with
  | non => exact ⟨"NoneType", rfl, by simp⟩
  | bl b => exact ⟨"bool", rfl, by simp⟩
  | int i h => exact ⟨"int", rfl, by simp⟩
  | str l h => exact ⟨"str", rfl, by simp⟩
  | tup t h => exact ⟨"tuple", rfl, by simp⟩
  | loc n c h1 q => rcases OkC.ty h1 q with e | e <;> exact ⟨_, e, by simp⟩
theorem Od.ins {c : Cells} {j : Nat} {d : D} (o : Od c j d) : insAt c d = none := by
  cases o with
  | loc n c h1 q =>
    rcases q with ⟨b, hb, i, hi, rfl⟩ | ⟨b, hb, rfl⟩ <;> simp only [insAt, h1]
  | _ => rfl
theorem RuleAt.upd {cs c' : Cells} {n j : Nat} {l w : List Nat} (h : RuleAt cs n l w) (u : Upd cs c' j) : RuleAt c' n l w := by
  rcases u.2 n with e | ⟨c, _, h3, q, _⟩
  · exact e.trans h
  · rw [show cs[n]? = _ from h] at h3
    cases h3
    rcases q with ⟨_, _, _, _, e⟩ | ⟨_, _, e⟩ <;> cases e
theorem py_strs (A : List (List Nat)) : py0s (A.map D.str) = some ((A.map fun l => (⟨l.toArray⟩ : Str)).map PyData.str) := by
  induction A with
  | nil => rfl
  | cons a r ih => simp only [List.map_cons, py0s, py0, ih]
theorem dep_strs (A : List Str) : PyData.depthAll (A.map PyData.str) = 0 := by
  induction A with
  | nil => rfl
  | cons a r ih => simp only [List.map_cons, PyData.depthAll, PyData.depth, ih]; rfl
theorem shp_strs {A : List (List Nat)} (h : ∀ z ∈ A, ∀ c ∈ z, c < 0x110000) : SeqAt.shaped (.list ((A.map fun l => (⟨l.toArray⟩ : Str)).map PyData.str)) = true := by
  unfold SeqAt.shaped
  rw [Bool.and_eq_true]
  refine ⟨?_, decide_eq_true ?_⟩
  · show PyData.canLayAll0 _ = true
    rw [PyProof.Rows.canLayAll_strs']
    rw [List.all_map, List.all_eq_true]
    intro z hz
    show (z.toArray.all (· < 0x110000)) = true
    rw [List.all_toArray, List.all_eq_true]
    intro c hc
    exact decide_eq_true (h z hz c hc)
  · show PyData.depthAll _ + 1 ≤ 64
    rw [dep_strs]; decide
theorem sg_low : ∀ c ∈ SG, c < 0x110000 := by decide +kernel
theorem nm_low {z : List Nat} (h : nm z = true) : ∀ c ∈ z, c < 0x110000 := by
  unfold nm at h
  rw [Bool.and_eq_true] at h
  intro c hc
  exact sg_low c (of_decide_eq_true (List.all_eq_true.mp h.2 c hc))
theorem same_none : sameOk (.lst [.str w_none, .non]) = true := by decide +kernel
def NA (n : Nat) : List (List Nat) := run 97 n
theorem NA_len {n : Nat} : (NA n).length = n := run_len
theorem NA_nd {n : Nat} : (NA n).Nodup := run_nd
theorem NA_nm {n : Nat} (h : n ≤ 200) : ∀ z ∈ NA n, nm z = true ∧ z.length ≤ 1000 := by
  intro z hz
  obtain ⟨p, hp, rfl⟩ := run_mem z hz
  exact ⟨nm_run (by decide) (by omega), by rw [List.length_replicate]; omega⟩
theorem NA_take {n k : Nat} (h : k ≤ n) : (NA n).take k = NA k := by
  unfold NA run
  rw [← List.map_take, List.take_range, Nat.min_eq_left h]
theorem NA_get {n k : Nat} (h : k < n) : (NA n)[k]? = some (List.replicate (k + 1) 97) := by
  unfold NA run
  rw [List.getElem?_map, List.getElem?_range h]; rfl
theorem eqv_strs (A : List Str) : PyData.eqv (.list (A.map PyData.str)) (.list (A.map PyData.str)) = true := by
  have : ∀ A : List Str, PyData.eqvAll (A.map PyData.str) (A.map PyData.str) = true := by
    intro A
    induction A with
    | nil => simp [PyData.eqvAll]
    | cons a r ih => simp [PyData.eqvAll, PyData.eqv, ih]
  simp [PyData.eqv, this A]
theorem ne_cellS {cs : Cells} {P : D → Cells → Prop} {X : KX} {n : Nat} {A : List (List Nat)} (h : cs[n]? = some (.lst (A.map D.str))) (hl : ∀ z ∈ A, ∀ c ∈ z, c < 0x110000) (k : P (.bl false) cs) : RP (neD cs (.loc n) (.lst (A.map D.str))) P X := by
  have e1 : pyOf cs (.loc n) = some (.list ((A.map fun l => (⟨l.toArray⟩ : Str)).map PyData.str)) := by
    simp only [pyOf, h, py_strs, Option.map_some]
  have e2 : pyOf cs (.lst (A.map D.str)) = some (.list ((A.map fun l => (⟨l.toArray⟩ : Str)).map PyData.str)) := by
    show py0 _ = _
    simp only [py0, py_strs, Option.map_some]
  have : eqB cs (.loc n) (.lst (A.map D.str)) = some true := by
    show (match pyOf cs (.loc n), pyOf cs (.lst (A.map D.str)) with
      | some p, some q => if SeqAt.shaped p && SeqAt.shaped q then some (PyData.eqv p q) else none
      | _, _ => none) = _
    rw [e1, e2]
    simp only [shp_strs hl, Bool.and_self, if_true, eqv_strs]
  unfold neD; rw [this]; exact k
theorem rp_eMakeJ {x : Str} {mf : MF} {ms : MA} {env : L3.Env} {cs : Cells} {P : D → Cells → Prop} {X : KX} : RP (eMakeJ x mf ms env cs) P X = RAP (ms env cs) (fun ds c1 => RP (mf (.loc c1.length :: (ds ++ [.tup []])) (c1 ++ [.ins x []])) (fun r c2 => match r with
  | .non => P (.loc c1.length) c2
  | _ => False) X) X := by
  unfold eMakeJ
  rw [RAP_bind]
  congr; funext ds c1
  rw [RP_bind]
  congr; funext r c2
  cases r <;> rfl
theorem rp_tupOf {a : ME} {env : L3.Env} {cs : Cells} {P : D → Cells → Prop} {X : KX} : RP (eTupOf a env cs) P X = RP (a env cs) (fun d c1 => match L3.listOf c1 d with
  | some ds => RP (mkT c1 ds) P X
  | none => False) X := by
  unfold eTupOf
  rw [RP_bind]
  congr; funext d c1
  cases L3.listOf c1 d <;> rfl
/-! ### what is asked -/
section
variable {cs : Cells} {P : D → Cells → Prop} {X : KX} {d e r t : D} {N : List (List Nat)} {l w : List Nat} {n rn nn bn : Nat}
theorem e_none {c' : Cells} : RP (mkL false c' [.str w_none, .non]) P X = P (.lst [.str w_none, .non]) c' := rp_mkLf (by rw [sizeLine_eq]; simp)
theorem asked (h : RP (m_Desk___init__ [.loc cs.length, r, t] (cs ++ [.ins "Desk" []])) (fun d c' => d = .non ∧ P (.lst [.str w_none, .non]) c') (AskX P)) : RP (m__law_asked [r, t] cs) P X := by
  unfold m__law_asked mb__law_asked
  simp only [rp_def, List.map_cons, List.map_nil, List.length_cons, List.length_nil, Nat.reduceAdd, Nat.reduceSub, List.replicate_zero, List.replicate_succ, List.cons_append, List.nil_append, sp_seq, sp_try, sp_drop, rp_eMake, rap_cons, rap_nil, rp_varM, List.getElem?_cons_zero, List.getElem?_cons_succ]
  refine RP.monoX h ?_ fun n fs c q => ask_catch rfl rfl q
  rintro d c' ⟨rfl, p⟩
  simp only [rp_def, List.map_cons, List.map_nil, List.length_cons, List.length_nil, Nat.reduceAdd, Nat.reduceSub, List.replicate_zero, List.replicate_succ, List.append_nil, List.cons_append, List.nil_append, List.set_cons_zero, List.set_cons_succ, sp_ret, sp_seq, sp_asg, sp_if, sp_nx, sp_drop, SP_brS, rap_cons, rap_nil, rp_bi, rp_c, rp_op2, rp_op1, rp_not, rp_or, rp_and, rp_if, rp_call, rp_varM, List.getElem?_cons_zero, List.getElem?_cons_succ, rp_notD, RP_br, RP_ok, rp_list, e_none]
  exact p
/-- an error of the book -/
theorem a_un (h : RP (m_Book___init__ [.loc (cs ++ [Cell.ins "Desk" []]).length, r, t] (cs ++ [Cell.ins "Desk" []] ++ [.ins "Book" []])) (fun _ _ => False) (AskX P)) : RP (m__law_asked [r, t] cs) P X := by
  refine asked ?_
  unfold m_Desk___init__ mb_Desk___init__
  simp only [rp_def, List.map_cons, List.map_nil, List.length_cons, List.length_nil, Nat.reduceAdd, Nat.reduceSub, List.replicate_zero, List.replicate_succ, List.append_nil, List.cons_append, List.nil_append, List.set_cons_zero, List.set_cons_succ, sp_ret, sp_seq, sp_asg, sp_if, sp_nx, sp_drop, SP_brS, rap_cons, rap_nil, rp_bi, rp_c, rp_op2, rp_op1, rp_not, rp_or, rp_and, rp_if, rp_call, rp_varM, List.getElem?_cons_zero, List.getElem?_cons_succ, rp_notD, RP_br, RP_ok, sp_fst, rp_eMake]
  exact RP.monoX h (fun _ _ f => f.elim) fun _ _ _ p => p
theorem a_rule (h : ∀ news, insAt (cs ++ news) r = none) (q : ∀ news, ∃ u, tyC (cs ++ news) r = some u ∧ u ∈ TZ) (k : ∀ news, P (.lst [.str w_BadRule, r]) (cs ++ news)) : RP (m__law_asked [r, t] cs) P X := by
  refine a_un ?_
  unfold m_Book___init__ mb_Book___init__
  simp only [rp_def, List.map_cons, List.map_nil, List.length_cons, List.length_nil, Nat.reduceAdd, Nat.reduceSub, List.replicate_zero, List.replicate_succ, List.append_nil, List.cons_append, List.nil_append, List.set_cons_zero, List.set_cons_succ, sp_ret, sp_seq, sp_asg, sp_if, sp_nx, sp_drop, SP_brS, rap_cons, rap_nil, rp_bi, rp_c, rp_op2, rp_op1, rp_not, rp_or, rp_and, rp_if, rp_call, rp_varM, List.getElem?_cons_zero, List.getElem?_cons_succ, rp_notD, RP_br, RP_ok]
  rw [List.append_assoc]
  obtain ⟨u, hq, hu⟩ := q _
  exact nr_x (h _) hq hu (AskX.BadRule (k _))
theorem a_names (hr : RuleAt cs rn l w) (h : ∀ c : Cells, RP (m_need_unlike [t, .int 200] c) (fun _ _ => False) (fun n fs c' => ∃ news, c' = c ++ news ∧ ((n = "BadNames" ∧ fs = ([("found", d)] : List (Str × D)) ∧ e = .str w_BadNames) ∨ (n = "BadName" ∧ fs = ([("found", d)] : List (Str × D)) ∧ e = .str w_BadName) ∨ (n = "Doubled" ∧ fs = ([("found", d)] : List (Str × D)) ∧ e = .str w_Doubled)))) (k : ∀ news, P (.lst [e, d]) (cs ++ news)) : RP (m__law_asked [.loc rn, t] cs) P X := by
  refine a_un ?_
  unfold m_Book___init__ mb_Book___init__
  simp only [rp_def, List.map_cons, List.map_nil, List.length_cons, List.length_nil, Nat.reduceAdd, Nat.reduceSub, List.replicate_zero, List.replicate_succ, List.append_nil, List.cons_append, List.nil_append, List.set_cons_zero, List.set_cons_succ, sp_ret, sp_seq, sp_asg, sp_if, sp_nx, sp_drop, SP_brS, rap_cons, rap_nil, rp_bi, rp_c, rp_op2, rp_op1, rp_not, rp_or, rp_and, rp_if, rp_call, rp_varM, List.getElem?_cons_zero, List.getElem?_cons_succ, rp_notD, RP_br, RP_ok]
  refine nr_rp hr.app.app ?_
  try simp only [rp_def, List.map_cons, List.map_nil, List.length_cons, List.length_nil, Nat.reduceAdd, Nat.reduceSub, List.replicate_zero, List.replicate_succ, List.append_nil, List.cons_append, List.nil_append, List.set_cons_zero, List.set_cons_succ, sp_ret, sp_seq, sp_asg, sp_if, sp_nx, sp_drop, SP_brS, rap_cons, rap_nil, rp_bi, rp_c, rp_op2, rp_op1, rp_not, rp_or, rp_and, rp_if, rp_call, rp_varM, List.getElem?_cons_zero, List.getElem?_cons_succ, rp_notD, RP_br, RP_ok]
  refine RP.monoX (h _) (fun _ _ f => f.elim) ?_
  rintro n fs c' ⟨news, rfl, h⟩
  rw [List.append_assoc, List.append_assoc]
  rcases h with ⟨rfl, rfl, rfl⟩ | ⟨rfl, rfl, rfl⟩ | ⟨rfl, rfl, rfl⟩
  · exact AskX.BadNames (k _)
  · exact AskX.BadName (k _)
  · exact AskX.Doubled (k _)
theorem a_ok (hr : RuleAt cs rn l w) (hN : ∀ z ∈ N, nm z = true ∧ z.length ≤ 1000) (hd : N.Nodup) (hl : N.length ≤ 200) (k : ∀ news, P (.lst [.str w_none, .non]) (cs ++ news)) : RP (m__law_asked [.loc rn, .lst (N.map D.str)] cs) P X :=
  asked (mkDeskL hr hN hd hl fun news nn _ _ => ⟨rfl, k _⟩)
end
/-! ### the values -/
abbrev badL : List D := [.str [], .str [65], .int 7, .non, .lst [.str [97]], .str (List.replicate (Int.toNat 201) [97]).flatten]
theorem badL_ok : (badL.all fun b => okE b && (!isNe b && repOkD (.lst [.str w_BadName, b]))) = true := by decide +kernel
theorem bad_ok {b : D} (h : b ∈ badL) : okE b = true ∧ isNe b = false ∧ repOkD (.lst [.str w_BadName, b]) = true := by
  have := List.all_eq_true.mp badL_ok b h
  rw [Bool.and_eq_true, Bool.and_eq_true, Bool.not_eq_true'] at this
  exact ⟨this.1, this.2.1, this.2.2⟩
abbrev whL : List D := [.lst ((NA 200 ++ [[98]]).map D.str), .dct (mergeD [] [(.inr [97], .int 1)]), .str [97, 98], .non, .int 5]
theorem wh_low : ∀ z ∈ NA 200 ++ [[98]], z.length ≤ 200 ∧ ∀ c ∈ z, c < 0x110000 := by
  intro z hz
  rcases List.mem_append.mp hz with h | h
  · obtain ⟨p, hp, rfl⟩ := run_mem z h
    exact ⟨by rw [List.length_replicate]; omega, fun c hc => by rw [List.eq_of_mem_replicate hc]; decide⟩
  · rw [List.mem_singleton] at h
    subst h
    exact ⟨by decide, by decide⟩
theorem wh_rep : ∀ d ∈ whL, repOkD (.lst [.str w_BadNames, d]) = true := by
  simp only [whL, List.forall_mem_cons]
  exact ⟨rq_wl (b := 200) (by decide) (by decide) wh_low (by rw [List.length_append, NA_len]; decide), by decide +kernel, by decide +kernel, by decide +kernel, by decide +kernel, fun d h => by cases h⟩
theorem wh_no {cs : Cells} : ∀ d ∈ whL, ∀ (P : D → Cells → Prop) (X : KX), P (.bl false) cs → RP (m_is_list [d, .int 200] cs) P X := by
  simp only [whL, List.forall_mem_cons]
  refine ⟨fun P X k => isl_rp (by have : decide ((((NA 200 ++ [[98]]).map D.str).length : Int) ≤ 200) = false := decide_eq_false (by rw [List.length_map, List.length_append, NA_len]; decide)
                                  rw [this]; exact k), fun P X k => isl_no (u := "dict") rfl (by simp) k, fun P X k => isl_no (u := "str") rfl (by simp) k, fun P X k => isl_no (u := "NoneType") rfl (by simp) k, fun P X k => isl_no (u := "int") rfl (by simp) k, fun d h => by cases h⟩
theorem low97 {n : Nat} : ∀ c ∈ List.replicate n 97, c < 0x110000 := fun c hc => by rw [List.eq_of_mem_replicate hc]; decide
theorem dbl_rep {a : Nat} (h : a < 190) : repOkD (.lst [.str w_Doubled, .str (List.replicate (a + 1) 97)]) = true :=
  rq_two (by decide) (by rw [List.length_replicate]; omega) (by decide) low97
theorem atI_nat {α : Type} {l : List α} {i : Nat} (h : i < l.length) : atI l (i : Int) = l[i]? := by
  unfold atI ixN
  rw [if_pos (by omega), if_pos (by omega), Int.toNat_natCast]; rfl

end T_k70

namespace T_k70
open PySem L2 L3
theorem law_pure : ∀ ns : List Int, ns.length ≤ 63 → (∀ z ∈ ns, Builtin.Int.intBits z ≤ 1048576) → ∃ cs, m_law [.scr ns] [] = .ok (.bl true) cs := by
  intro ns hns _
  suffices h : RP (m_law [.scr ns] []) (fun d _ => d = .bl true) noX by
    obtain ⟨d, cs, e, rfl⟩ := h.get
    exact ⟨cs, e⟩
  unfold m_law mb_law
  simp only [rp_def, List.map_cons, List.map_nil, List.length_cons, List.length_nil, Nat.reduceAdd, Nat.reduceSub, List.replicate_zero, List.replicate_succ, List.append_nil, List.cons_append, List.nil_append,
    sp_seq, sp_for, wp_r1, rap_cons, rap_nil, rp_bi, rp_c, rp_varM, List.getElem?_cons_zero, rp_lenScr, rp_min, rp_max, sp_ret]
  refine ⟨by unfold lim; split <;> split <;> omega, ?_⟩
  refine for_invN (fun i env c => ∃ e1 e2 e3 e4 e5 e6 e7 e8 e9 e10 e11 e12 e13 e14 e15, env = [some (.scr ns), e1, e2, e3, e4, e5, e6, e7, e8, e9, e10, e11, e12, e13, e14, e15]) ⟨_, _, _, _, _, _, _, _, _, _, _, _, _, _, _, rfl⟩ (fun env c _ => ⟨trivial, trivial⟩) ?_
  rintro i d env c hi ⟨e1, e2, e3, e4, e5, e6, e7, e8, e9, e10, e11, e12, e13, e14, e15, rfl⟩
  obtain ⟨hi1, rfl⟩ := range_get hi
  refine ⟨trivial, _, rfl, ?_⟩
  simp only [List.set_cons_zero, List.set_cons_succ, List.getElem?_cons_zero, List.getElem?_cons_succ, sp_seq, sp_asg, sp_par, sp_asgT, rp_call, rap_cons, rap_nil, rp_varM]
  refine cell_rp (by omega) fun z => box_rp ?_
  have hb : Bx (c ++ [.lst [.int (if z - 10 ^ 18 > 0 then z - 10 ^ 18 else 0), .int (z % 2147483629), .int 0]]) c.length 0 := Bx.new (Int.emod_nonneg _ (by decide)) (Int.lt_trans (Int.emod_lt_of_pos _ (by decide)) (by decide))
  revert hb
  generalize (c ++ [Cell.lst [.int (if z - 10 ^ 18 > 0 then z - 10 ^ 18 else 0), .int (z % 2147483629), .int 0]]) = c1
  generalize c.length = n
  intro hb
  try simp only [tgTs, List.set_cons_zero, List.set_cons_succ, List.getElem?_cons_zero, List.getElem?_cons_succ, rp_eMake, rp_tup, rap_cons, rap_nil, rp_varM, rp_op2, rp_list, rp_c, rp_call]
  refine mark_bk (Bk.refl hb) (by decide) fun mk mp mn mq s1 s2 c5 M hf hbk => ?_
  have hb := hbk.1
  clear hbk
  try simp only [tgTs, List.set_cons_zero, List.set_cons_succ, List.getElem?_cons_zero, List.getElem?_cons_succ, rp_eMake, rap_cons, rap_nil, rp_varM, rp_op2, rp_list, rp_c, rp_call]
  rw [rp_mkLf (by rw [sizeLine_eq]; simp)]
  refine take_rp hb (by decide) (by decide) (by decide) fun r1 c6 q1 q1' hb k6 _ => ?_
  have hz : ∀ d ∈ [D.str wNest, .str wClimb], ∃ w, d = .str w ∧ (w = wNest ∨ w = wClimb) := by
    simp only [List.forall_mem_cons]
    exact ⟨⟨_, rfl, .inl rfl⟩, ⟨_, rfl, .inr rfl⟩, fun d h => by cases h⟩
  refine rp_ixAll q1 (by simpa using q1') fun d hd => ?_
  obtain ⟨w, rfl, hw⟩ := hz d hd
  clear hz hd k6 q1 q1'
  try simp only [tgTs, List.set_cons_zero, List.set_cons_succ, List.getElem?_cons_zero, List.getElem?_cons_succ, rp_eMake, rap_cons, rap_nil, rp_varM, rp_op2, rp_list, rp_c, rp_call]
  refine ri_ok M hf hw cell_end ?_
  rw [cell_set]
  have hr : RuleAt (c6 ++ [.ins "Rule" (RuF mk w)]) c6.length mk w := cell_end
  have hb := hb.app (news := [Cell.ins "Rule" (RuF mk w)])
  revert hr hb
  generalize (c6 ++ [Cell.ins "Rule" (RuF mk w)]) = c7
  generalize c6.length = rn
  intro hr hb
  try simp only [tgTs, List.set_cons_zero, List.set_cons_succ, List.getElem?_cons_zero, List.getElem?_cons_succ, rp_eMake, rap_cons, rap_nil, rp_varM, rp_op2, rp_list, rp_c, rp_call]
  refine oddc_rp hb (by decide) fun odd c8 o1 _ hb _ hru => ?_
  have hr := hru _ _ _ hr
  clear hru
  try simp only [tgTs, List.set_cons_zero, List.set_cons_succ, List.getElem?_cons_zero, List.getElem?_cons_succ, rp_eMake, rap_cons, rap_nil, rp_varM, rp_op2, rp_list, rp_c, rp_call]
  refine oddc_rp hb (by decide) fun oth c9 o2 _ hb ho hru => ?_
  have hr := hru _ _ _ hr
  have o1 := ho _ _ o1
  clear hru ho
  try simp only [tgTs, List.set_cons_zero, List.set_cons_succ, List.getElem?_cons_zero, List.getElem?_cons_succ, rp_eMake, rap_cons, rap_nil, rp_varM, rp_op2, rp_list, rp_c, rp_call]
  -- the rule refused
  refine a_rule (fun news => o1.app.ins) (fun news => o1.app.tyz) fun news => ?_
  have hr := hr.app (news := news)
  have hb := hb.app (news := news)
  have o1 := o1.app (news := news)
  revert hr hb o1
  generalize c9 ++ news = c10
  intro hr hb o1
  have j0 : ∀ (a b : D) (c : Cells) (P : D → Cells → Prop) (X : KX), RP (ixD c (.lst [a, b]) (.int 0)) P X = P a c := fun a b c P X => rp_ixL rfl
  have j1 : ∀ (a b : D) (c : Cells) (P : D → Cells → Prop) (X : KX), RP (ixD c (.lst [a, b]) (.int 1)) P X = P b c := fun a b c P X => rp_ixL rfl
  simp only [sp_if, rp_or, rp_op2, rp_varM, rp_c, rp_not, rp_call, rap_cons, rap_nil, List.set_cons_zero, List.set_cons_succ, List.getElem?_cons_zero, List.getElem?_cons_succ, j0, j1, rp_neS, decide_true, Bool.not_true, RP_br, cond_false]
  refine very_rp o1 (by decide) fun c11 up => ?_
  have hr := hr.upd up
  have hb := hb.up up
  clear up o1 o2
  simp only [rp_notD, Bool.not_true, SP_brS, Bool.false_eq_true, if_false, sp_nx]
  have rk : ∀ (ds : List D) (c : Cells) (P : List D → Cells → Prop) (X : KX), RAP (RA.ok ds c) P X = P ds c := fun _ _ _ _ => rfl
  have lcn : ∀ (x m : Nat) (env : L3.Env) (c : Cells), 8 < env.length → m ≤ 200 → lcL (fun _ => True) (tgN 8) (eC (D.bl true)) (op2 (mulD false) (eC (.str [x])) (op2 (addD false) (eC (.int 1)) (eVar 8))) (rangeD 0 m) (wipeE env [8]) c = .ok ((run x m).map D.str) c := by
    intro x m env c he hm
    rw [lc_map (g := fun d => match d with | .int p => .str (List.replicate (p.toNat + 1) x) | _ => .non) trivial fun d hd => ?_]
    · refine congrArg (fun x => RA.ok x c) ?_
      unfold rangeD run
      rw [List.map_map, List.map_map]
      refine List.map_congr_left fun p _ => ?_
      show D.str (List.replicate ((0 + (p : Int)).toNat + 1) x) = D.str (List.replicate (p + 1) x)
      rw [show (0 + (p : Int)).toNat = p by omega]
    · obtain ⟨q, hq0⟩ := List.getElem?_of_mem hd
      obtain ⟨hq, rfl⟩ := range_get hq0
      refine ⟨_, rfl, rfl, RP.eq ?_⟩
      have hg : ((wipeE env [8]).set 8 (some (D.int (0 + (q : Int)))))[8]? = some (some (.int (0 + (q : Int)))) := List.getElem?_set_self (by simp [wipeE]; exact he)
      simp only [rp_op2, rp_c, rp_varM, hg, rp_addI]
      rw [rp_mulS ⟨by omega, by omega, by simp⟩]
      have : (List.replicate (1 + (0 + (q : Int))).toNat [x]).flatten = List.replicate ((0 + (q : Int)).toNat + 1) x := by
        rw [show (1 + (0 + (q : Int))).toNat = (0 + (q : Int)).toNat + 1 by omega]; simp
      rw [this]
      exact ⟨rfl, rfl⟩
  simp only [rp_lc, wp_r1, rp_c]
  refine ⟨by unfold lim; decide, ?_⟩
  rw [lcn 97 (Int.toNat 200) _ _ (by simp) (by decide), rk, rp_mkLf (by rw [List.length_map, run_len, sizeLine_eq]; decide)]
  rw [show (run 97 (Int.toNat 200)).map D.str = (NA 200).map D.str from rfl]
  try simp only [List.set_cons_zero, List.set_cons_succ, List.getElem?_cons_zero, List.getElem?_cons_succ]
  refine take_rp hb (by decide) (by decide) (by decide) fun r2 c12 q2 q2' hb2 k2 _ => ?_
  have hr := hr.tk hb k2
  have hb := hb2
  clear hb2 k2
  obtain ⟨a, rfl⟩ := Int.eq_ofNat_of_zero_le q2
  have ha : a < 190 := by omega
  clear q2 q2'
  rw [rp_mkLf (by rw [sizeLine_eq]; simp), rp_mulS ⟨by decide, by decide, by simp⟩, rp_mkLf (by rw [sizeLine_eq]; simp)]
  try simp only [List.set_cons_zero, List.set_cons_succ, List.getElem?_cons_zero, List.getElem?_cons_succ]
  refine take_rp hb (by decide) (by decide) (by decide) fun r3 c13 q3 q3' hb2 k2 _ => ?_
  have hr := hr.tk hb k2
  have hb := hb2
  clear hb2 k2
  refine rp_ixAll q3 (by simpa using q3') fun bad hbd => ?_
  obtain ⟨b1, b2, b3⟩ := bad_ok (b := bad) hbd
  clear q3 q3' hbd
  try simp only [List.set_cons_zero, List.set_cons_succ, List.getElem?_cons_zero, List.getElem?_cons_succ]
  rw [rp_mkLf (by rw [sizeLine_eq]; simp), rp_addL, show (NA 200).map D.str ++ [D.str [98]] = (NA 200 ++ [[98]]).map D.str by simp, rp_mkLf (by rw [List.length_map, List.length_append, NA_len, sizeLine_eq]; decide)]
  simp only [rp_dict, rap_cons, rap_nil, rp_c, kvD, len_ite, rp_mkDf]
  rw [rp_mkLf (by rw [sizeLine_eq]; simp)]
  try simp only [List.set_cons_zero, List.set_cons_succ, List.getElem?_cons_zero, List.getElem?_cons_succ]
  refine take_rp hb (by decide) (by decide) (by decide) fun r4 c14 q4 q4' hb2 k2 _ => ?_
  have hr := hr.tk hb k2
  clear hb hb2 k2
  refine rp_ixAll q4 (by simpa using q4') fun whole hwh => ?_
  have hwr := wh_rep whole hwh
  have hwn := fun {cs : Cells} => wh_no (cs := cs) whole hwh
  clear hwh q4 q4'
  have slA : ∀ (m : Nat) (c : Cells) (P : D → Cells → Prop) (X : KX), m ≤ 200 → RP (slD false c (.lst ((NA 200).map D.str)) none (some (m : Int))) P X = P (.lst ((NA m).map D.str)) c := fun m c P X h => by
    rw [rp_slL, cut_fst, ← List.map_take, NA_take h, rp_mkLf (by rw [List.length_map, NA_len, sizeLine_eq]; omega)]
  have ixA : ∀ (c : Cells) (P : D → Cells → Prop) (X : KX), RP (ixD c (.lst ((NA 200).map D.str)) (.int (a : Int))) P X = P (.str (List.replicate (a + 1) 97)) c := fun c P X => by
    refine rp_ixL (d := .str (List.replicate (a + 1) 97)) ?_
    have e := NA_get (n := 200) (k := a) (by omega)
    rw [atI_nat (by rw [List.length_map, NA_len]; omega), List.getElem?_map, e]; rfl
  have roA : ∀ (c : Cells) (env : L3.Env), env[8]? = some (some (.int (a : Int))) → oSome (op2 (addD false) (eVar 8) (eC (D.int 1))) env c = some (some ((a + 1 : Nat) : Int), c) := fun c env h => by
    have e : op2 (addD false) (eVar 8) (eC (D.int 1)) env c = .ok (.int ((a : Int) + 1)) c := by
      unfold op2 eVar
      simp only [h]
      rfl
    unfold oSome
    rw [e]
    rfl
  simp only [sp_for, wp_seq, rp_list, rap_cons, rap_nil, rp_varM, rp_c, rp_op2, rp_sl, ro_none, ro_varM, List.set_cons_zero, List.set_cons_succ, List.getElem?_cons_zero, List.getElem?_cons_succ]
  rw [rp_mkLf (by rw [sizeLine_eq]; simp), slA a _ _ _ (by omega), rp_mkLf (by rw [sizeLine_eq]; simp), rp_addL, rp_mkLf (by rw [List.length_append, List.length_map, NA_len, sizeLine_eq]; simp; omega), rp_mkLf (by rw [sizeLine_eq]; simp), roA _ _ rfl]
  simp only []
  rw [slA (a + 1) _ _ _ (by omega), ixA, rp_mkLf (by rw [sizeLine_eq]; simp), rp_addL, rp_mkLf (by rw [List.length_append, List.length_map, NA_len, sizeLine_eq]; simp; omega), ixA, rp_mkLf (by rw [sizeLine_eq]; simp), rp_mkLf (by rw [sizeLine_eq]; simp)]
  simp only [seq_lst]
  refine for_invN (fun _ env c => ∃ f11 f12 f13, env = [some (.scr ns), some (.int (0 + ↑i)), some (.loc n), some (.loc rn), some odd, some oth, some (.lst [.str w_BadRule, odd]), some (.lst ((NA 200).map D.str)), some (.int (a : Int)), some bad, some whole, f11, f12, f13, e14, e15] ∧ RuleAt c rn mk w) ⟨_, _, _, rfl, hr⟩ ?_ ?_
  rotate_left
  · rintro i2 d2 env c hd ⟨f11, f12, f13, rfl, hr⟩
    refine ⟨by trivial, ?_⟩
    match i2, hd with
    | 0, hd =>
      simp only [List.getElem?_cons_zero, Option.some.injEq] at hd
      subst hd
      refine ⟨_, rfl, ?_⟩
      simp only [rp_def, List.map_cons, List.map_nil, List.length_cons, List.length_nil, Nat.reduceAdd, Nat.reduceSub, List.replicate_zero, List.replicate_succ, List.append_nil, List.cons_append, List.nil_append, List.set_cons_zero, List.set_cons_succ, sp_ret, sp_seq, sp_asg, sp_if, sp_nx, sp_drop, SP_brS, rap_cons, rap_nil, rp_bi, rp_c, rp_op2, rp_op1, rp_not, rp_or, rp_and, rp_if, rp_call, rp_varM, List.getElem?_cons_zero, List.getElem?_cons_succ, rp_notD, RP_br, RP_ok, rp_list]
      refine a_names (d := whole) (e := .str w_BadNames) hr (fun c0 => un_no hwn ⟨[], by simp, .inl ⟨rfl, rfl, rfl⟩⟩) fun news => ?_
      refine fin_rp hwr ?_
      simp only [rp_def, List.map_cons, List.map_nil, List.length_cons, List.length_nil, Nat.reduceAdd, Nat.reduceSub, List.replicate_zero, List.replicate_succ, List.append_nil, List.cons_append, List.nil_append, List.set_cons_zero, List.set_cons_succ, sp_ret, sp_seq, sp_asg, sp_if, sp_nx, sp_drop, SP_brS, rap_cons, rap_nil, rp_bi, rp_c, rp_op2, rp_op1, rp_not, rp_or, rp_and, rp_if, rp_call, rp_varM, List.getElem?_cons_zero, List.getElem?_cons_succ, rp_notD, RP_br, RP_ok, Bool.false_eq_true, if_false]
      exact ⟨_, _, _, rfl, hr.app⟩
    | 1, hd =>
      simp only [List.getElem?_cons_zero, List.getElem?_cons_succ, Option.some.injEq] at hd
      subst hd
      refine ⟨_, rfl, ?_⟩
      simp only [rp_def, List.map_cons, List.map_nil, List.length_cons, List.length_nil, Nat.reduceAdd, Nat.reduceSub, List.replicate_zero, List.replicate_succ, List.append_nil, List.cons_append, List.nil_append, List.set_cons_zero, List.set_cons_succ, sp_ret, sp_seq, sp_asg, sp_if, sp_nx, sp_drop, SP_brS, rap_cons, rap_nil, rp_bi, rp_c, rp_op2, rp_op1, rp_not, rp_or, rp_and, rp_if, rp_call, rp_varM, List.getElem?_cons_zero, List.getElem?_cons_succ, rp_notD, RP_br, RP_ok, rp_list]
      refine a_names (d := bad) (e := .str w_BadName) hr (fun c0 => un_rp (N := NA a) (rest := [bad, .int 7]) (NA_nm (by omega)) NA_nd (by rw [List.length_append, List.length_map, NA_len]; simp; omega) (by rw [NA_len]; omega) (.inl ⟨b1, b2, _, rfl, .inr (.inl ⟨rfl, rfl, rfl⟩)⟩)) fun news => ?_
      refine fin_rp b3 ?_
      simp only [rp_def, List.map_cons, List.map_nil, List.length_cons, List.length_nil, Nat.reduceAdd, Nat.reduceSub, List.replicate_zero, List.replicate_succ, List.append_nil, List.cons_append, List.nil_append, List.set_cons_zero, List.set_cons_succ, sp_ret, sp_seq, sp_asg, sp_if, sp_nx, sp_drop, SP_brS, rap_cons, rap_nil, rp_bi, rp_c, rp_op2, rp_op1, rp_not, rp_or, rp_and, rp_if, rp_call, rp_varM, List.getElem?_cons_zero, List.getElem?_cons_succ, rp_notD, RP_br, RP_ok, Bool.false_eq_true, if_false]
      exact ⟨_, _, _, rfl, hr.app⟩
    | 2, hd =>
      simp only [List.getElem?_cons_zero, List.getElem?_cons_succ, Option.some.injEq] at hd
      subst hd
      refine ⟨_, rfl, ?_⟩
      simp only [rp_def, List.map_cons, List.map_nil, List.length_cons, List.length_nil, Nat.reduceAdd, Nat.reduceSub, List.replicate_zero, List.replicate_succ, List.append_nil, List.cons_append, List.nil_append, List.set_cons_zero, List.set_cons_succ, sp_ret, sp_seq, sp_asg, sp_if, sp_nx, sp_drop, SP_brS, rap_cons, rap_nil, rp_bi, rp_c, rp_op2, rp_op1, rp_not, rp_or, rp_and, rp_if, rp_call, rp_varM, List.getElem?_cons_zero, List.getElem?_cons_succ, rp_notD, RP_br, RP_ok, rp_list]
      have hmem : List.replicate (a + 1) 97 ∈ NA (a + 1) := List.mem_of_getElem? (NA_get (Nat.lt_succ_self a))
      obtain ⟨n1, n2⟩ := NA_nm (n := a + 1) (by omega) _ hmem
      refine a_names (d := .str (List.replicate (a + 1) 97)) (e := .str w_Doubled) hr (fun c0 => un_rp (N := NA (a + 1)) (rest := [.str (List.replicate (a + 1) 97), .int 7]) (NA_nm (by omega)) NA_nd (by rw [List.length_append, List.length_map, NA_len]; simp; omega) (by rw [NA_len]; omega) (.inr ⟨_, rfl, n1, n2, hmem, _, rfl, .inr (.inr ⟨rfl, rfl, rfl⟩)⟩)) fun news => ?_
      refine fin_rp (dbl_rep ha) ?_
      simp only [rp_def, List.map_cons, List.map_nil, List.length_cons, List.length_nil, Nat.reduceAdd, Nat.reduceSub, List.replicate_zero, List.replicate_succ, List.append_nil, List.cons_append, List.nil_append, List.set_cons_zero, List.set_cons_succ, sp_ret, sp_seq, sp_asg, sp_if, sp_nx, sp_drop, SP_brS, rap_cons, rap_nil, rp_bi, rp_c, rp_op2, rp_op1, rp_not, rp_or, rp_and, rp_if, rp_call, rp_varM, List.getElem?_cons_zero, List.getElem?_cons_succ, rp_notD, RP_br, RP_ok, Bool.false_eq_true, if_false]
      exact ⟨_, _, _, rfl, hr.app⟩
    | k + 3, hd => simp at hd
  rintro env c ⟨f11, f12, f13, rfl, hr⟩
  refine ⟨by trivial, ?_⟩
  clear hwr hwn b1 b2 b3
  have sl9 : ∀ (c : Cells) (P : D → Cells → Prop) (X : KX), RP (slD false c (.lst ((NA 200).map D.str)) none (some 9)) P X = P (.lst ((NA 9).map D.str)) c := fun c P X => slA 9 c P X (by decide)
  show RP _ _ _
  simp only [rp_listOf, rp_sl, rp_varM, ro_none, ro_c, List.set_cons_zero, List.set_cons_succ, List.getElem?_cons_zero, List.getElem?_cons_succ, sl9, seq_lst]
  have ecut : cutL ((NA 200).map D.str) none (some 9) = (NA 9).map D.str := by
    rw [show (9 : Int) = ((9 : Nat) : Int) from rfl, cut_fst, ← List.map_take, NA_take (by decide)]
  try rw [rp_mkLt (by rw [List.length_map, NA_len, sizeLine_eq]; decide)]
  try rw [ecut]
  have hp : (c ++ [Cell.lst ((NA 9).map D.str)])[c.length]? = some (.lst ((NA 9).map D.str)) := cell_end
  have hr := hr.app (news := [Cell.lst ((NA 9).map D.str)])
  revert hp hr
  generalize c ++ [Cell.lst ((NA 9).map D.str)] = c15
  generalize c.length = pn
  intro hp hr
  try simp only [List.set_cons_zero, List.set_cons_succ, List.getElem?_cons_zero, List.getElem?_cons_succ]
  have hpl : pn < c15.length := (List.getElem?_eq_some_iff.mp hp).1
  refine mkDeskC hr hp (NA_nm (by decide)) NA_nd (by rw [NA_len]; decide) fun news nn hnn hD => ?_
  have hp := Kp.app (news := news) _ _ hp
  have hr := hr.app (news := news)
  have hkn : pn ≠ c15.length ∧ pn ≠ c15.length + 1 ∧ pn ≠ nn := ⟨by omega, by omega, by omega⟩
  revert hp hr hD
  generalize c15 ++ news = c16
  generalize c15.length + 1 = bn at *
  generalize c15.length = dn at *
  intro hD hp hr
  have hlc : isLc c16 (.loc pn) = true := by simp only [isLc, hp]
  simp only [sp_drop, rp_push, rp_varM, rp_c, List.set_cons_zero, List.set_cons_succ, List.getElem?_cons_zero, List.getElem?_cons_succ, hlc, if_true]
  rw [push_at hp (by rw [List.length_map, NA_len, sizeLine_eq]; decide)]
  have hD : DeskAt (c16.set pn (.lst ((NA 9).map D.str ++ [.str [98]]))) dn bn rn nn (NA 9) := ⟨by rw [List.getElem?_set_ne hkn.1]; exact hD.d, by rw [List.getElem?_set_ne hkn.2.1]; exact hD.bk.b, by rw [List.getElem?_set_ne hkn.2.2]; exact hD.bk.s⟩
  have hr : RuleAt (c16.set pn (.lst ((NA 9).map D.str ++ [.str [98]]))) rn mk w := by
    have hne : pn ≠ rn := by
      rintro rfl
      rw [show c16[pn]? = some (.ins "Rule" (RuF mk w)) from hr] at hp
      cases hp
    show (c16.set pn _)[rn]? = _
    rw [List.getElem?_set_ne hne]; exact hr
  clear hp hlc hkn hnn hpl
  revert hr hD
  generalize (c16.set pn (.lst ((NA 9).map D.str ++ [.str [98]]))) = c17
  intro hD hr
  have low9 : ∀ z ∈ NA 9, ∀ c ∈ z, c < 0x110000 := fun z hz c hc => by
    obtain ⟨p, _, rfl⟩ := run_mem z hz
    exact low97 c hc
  have eN : (List.map D.str (NA 0)) = [] := rfl
  have nm9 : ∀ z ∈ NA 9, nm z = true ∧ z.length ≤ 1000 := NA_nm (by decide)
  have nm200 : ∀ z ∈ NA 200, nm z = true ∧ z.length ≤ 1000 := NA_nm (by decide)
  have nd9 : (NA 9).Nodup := NA_nd
  have nd200 : (NA 200).Nodup := NA_nd
  have l9 : (NA 9).length ≤ 200 := by rw [NA_len]; decide
  have l200 : (NA 200).length ≤ 200 := by rw [NA_len]; decide
  have kB : ∀ {a b : Nat}, (BkF a b).lookup ("names" : Str) = none := fun {a b} => bk_no (by decide +kernel) (by decide +kernel)
  have kR : ∀ {a b : Nat}, (BkF a b).lookup ("rule" : Str) = none := fun {a b} => bk_no (by decide +kernel) (by decide +kernel)
  have kD : ∀ {a : Nat}, (DkF a).lookup ("book" : Str) = none := fun {a} => dk_no (by decide +kernel) (by decide +kernel) (by decide +kernel)
  have kL : ∀ {a : Nat}, (DkF a).lookup ("log" : Str) = none := fun {a} => dk_no (by decide +kernel) (by decide +kernel) (by decide +kernel)
  have kS : ∀ {a : Nat}, (DkF a).lookup ("say" : Str) = none := fun {a} => dk_no (by decide +kernel) (by decide +kernel) (by decide +kernel)
  simp only []
  simp only [rp_eMeth, rp_varM, List.set_cons_zero, List.set_cons_succ, List.getElem?_cons_zero, List.getElem?_cons_succ, hD.ins, kD, and_self, if_true, rap_nil]
  refine dbook_rp hD hr nm9 nd9 l9 fun news nb _ hB => ?_
  have hr := hr.app (news := news)
  have hD := hD.app (news := news)
  revert hr hD hB
  generalize c17 ++ news = c18
  generalize c17.length = kb
  intro hB hr hD
  simp only [hB.ins, kB, and_self, if_true, rap_nil]
  refine bn_rp hB (by omega) ?_
  have hn : (c18 ++ [Cell.lst ((NA 9).map D.str)])[c18.length]? = some (.lst ((NA 9).map D.str)) := cell_end
  have hr := hr.app (news := [Cell.lst ((NA 9).map D.str)])
  have hD := hD.app (news := [Cell.lst ((NA 9).map D.str)])
  revert hr hD hn
  generalize c18 ++ [Cell.lst ((NA 9).map D.str)] = c19
  generalize c18.length = kn
  intro hn hr hD
  try simp only [List.getElem?_cons_zero, List.getElem?_cons_succ, ro_c]
  try rw [sl9]
  refine ne_cellS hn low9 ?_
  clear hn hB
  simp only [RP_br, cond_false, rp_or, rp_op2, rp_eMeth, rp_varM, List.getElem?_cons_zero, List.getElem?_cons_succ, hD.ins, kL, and_self, if_true, rap_nil]
  refine dlog_rp hD ?_
  have hn : (c19 ++ [Cell.lst []])[c19.length]? = some (.lst (([] : List (List Nat)).map D.str)) := cell_end
  have hr := hr.app (news := [Cell.lst []])
  have hD := hD.app (news := [Cell.lst []])
  revert hr hD hn
  generalize c19 ++ [Cell.lst []] = c20
  generalize c19.length = kn
  intro hn hr hD
  simp only [rp_list, rap_nil]
  rw [rp_mkLf (by rw [sizeLine_eq]; simp)]
  refine ne_cellS (A := []) hn (by intro z hz; cases hz) ?_
  clear hn
  simp only [RP_br, cond_false, rp_op1, rp_op2, rp_eMeth, rp_varM, List.getElem?_cons_zero, List.getElem?_cons_succ, hD.ins, kD, and_self, if_true, rap_nil]
  refine dbook_rp hD hr nm9 nd9 l9 fun news nb _ hB => ?_
  have hr := hr.app (news := news)
  revert hr hB
  generalize c20 ++ news = c21
  generalize c20.length = kb
  intro hB hr
  simp only [hB.ins, kR, and_self, if_true, rap_nil]
  refine br_rp hB ?_
  rw [rp_ruleEq hr hr]
  simp only [decide_true, Bool.and_self, Bool.false_eq_true, if_false, rp_isNB, beq_self_eq_true, Bool.not_true, SP_brS, sp_nx]
  clear hB hD
  -- the names, all of them
  try simp only [sp_if, rp_or, rp_op2, rp_call, rap_cons, rap_nil, rp_varM, rp_c, List.getElem?_cons_zero, List.getElem?_cons_succ]
  refine a_ok hr nm200 nd200 l200 fun news => ?_
  have hr := hr.app (news := news)
  revert hr
  generalize c21 ++ news = c22
  intro hr
  simp only [j0, rp_neS, decide_true, Bool.not_true, RP_br, cond_false, rp_eMeth, rp_eMakeJ, rp_eMake, rp_op2, rap_cons, rap_nil, rp_varM, rp_c, List.getElem?_cons_zero, List.getElem?_cons_succ]
  simp only [rp_or, rp_op2, rp_eMeth, rp_eMakeJ, rp_eMake, rap_cons, rap_nil, rp_varM, rp_c, List.getElem?_cons_zero, List.getElem?_cons_succ, List.cons_append, List.nil_append]
  refine mkDeskT (N := []) hr (by intro z hz; cases hz) List.nodup_nil (by decide) fun news nn2 _ hD => ?_
  have hr := hr.app (news := news)
  revert hr hD
  generalize c22 ++ news = c23
  generalize c22.length + 1 = bn2
  generalize c22.length = dn2
  intro hD hr
  simp only [hD.ins, kD, and_self, if_true, rap_nil]
  refine dbook_rp hD hr (by intro z hz; cases hz) List.nodup_nil (by decide) fun news nb _ hB => ?_
  have hr := hr.app (news := news)
  revert hr hB
  generalize c23 ++ news = c24
  generalize c23.length = kb
  intro hB hr
  simp only [hB.ins, kB, and_self, if_true, rap_nil]
  refine bn_rp hB (by decide) ?_
  have hn : (c24 ++ [Cell.lst (([] : List (List Nat)).map D.str)])[c24.length]? = some (.lst (([] : List (List Nat)).map D.str)) := cell_end
  have hr := hr.app (news := [Cell.lst (([] : List (List Nat)).map D.str)])
  revert hr hn
  generalize c24 ++ [Cell.lst (([] : List (List Nat)).map D.str)] = c25
  generalize c24.length = kn
  intro hn hr
  simp only [rp_list, rap_nil]
  rw [rp_mkLf (by rw [sizeLine_eq]; simp)]
  refine ne_cellS (A := []) hn (by intro z hz; cases hz) ?_
  clear hn hB hD
  simp only [RP_br, cond_false, rp_op2, rp_eMeth, rp_eMake, rap_cons, rap_nil, rp_tupOf, rp_varM, rp_c, List.getElem?_cons_zero, List.getElem?_cons_succ]
  have lo : ∀ c : Cells, L3.listOf c (.lst ((NA 200).map D.str)) = some ((NA 200).map D.str) := fun _ => rfl
  simp only [lo]
  rw [rp_mkT (by rw [List.length_map, NA_len, sizeLine_eq]; decide)]
  refine mkDeskT hr nm200 nd200 l200 fun news nn3 _ hD => ?_
  have hr := hr.app (news := news)
  revert hr hD
  generalize c25 ++ news = c26
  generalize c25.length + 1 = bn3
  generalize c25.length = dn3
  intro hD hr
  simp only [hD.ins, kS, and_self, if_true, rap_cons, rap_nil, rp_c]
  refine dsay_rp hD (by omega) ?_
  have e200 : codes (toString (((NA 200).length : Nat) : Int)) = [50, 48, 48] := by rw [NA_len]; decide +kernel
  rw [e200, rp_neS]
  simp only [decide_true, Bool.not_true, SP_brS, Bool.false_eq_true, if_false, sp_nx]
  exact ⟨_, _, _, _, _, _, _, _, _, _, _, _, _, _, _, rfl⟩

end T_k70

open PySem PySem.W PyProof.Rows
set_option maxRecDepth 100000 in
set_option maxHeartbeats 0 in
theorem PySem.Challenge.cw_tailnames_k70_desks_refused_holds : PySem.Challenge.rw_tailnames_k70_desks_refused.Holds := by
  refine hdK ?_
  k_fill
  refine L3.lawG_walk (k := 9) (l := PySem.Challenge.rw_tailnames_k70_desks_refused) rfl rfl ⟨by decide, by decide, by decide⟩ rfl (fun w h Y => PySem.W.kIn_of Y) ?F
  case F =>
    intro w mg fa h KX G hmg
    refine' T_k70.all_mk (l := PySem.Challenge.rw_tailnames_k70_desks_refused) KX G hmg ?a1 ?l1 ?c1 ?k1 ?a2 ?l2 ?c2 ?k2 ?a3 ?l3 ?c3 ?k3 ?a4 ?l4 ?c4 ?k4 ?a5 ?l5 ?c5 ?k5 ?y6 ?a6 ?l6 ?dt6 ?c6 ?k6 ?y7 ?a7 ?l7 ?dt7 ?dj7 ?c7 ?k7 ?a8 ?l8 ?c8 ?k8 ?a9 ?l9 ?c9 ?k9 ?a10 ?l10 ?c10 ?k10 ?a11 ?l11 ?c11 ?k11 ?a12 ?l12 ?c12 ?k12 ?a13 ?l13 ?c13 ?k13 ?a14 ?l14 ?c14 ?k14 ?a15 ?l15 ?c15 ?k15 ?a16 ?l16 ?c16 ?k16 ?a17 ?l17 ?c17 ?k17 ?y18 ?a18 ?l18 ?c18 ?k18 ?a19 ?l19 ?c19 ?k19 ?a20 ?l20 ?c20 ?k20 ?a21 ?l21 ?c21 ?k21 ?a22 ?l22 ?c22 ?k22 ?y23 ?a23 ?l23 ?c23 ?k23 ?y24 ?a24 ?l24 ?c24 ?k24 ?y25 ?a25 ?l25 ?c25 ?k25 ?y26 ?a26 ?l26 ?c26 ?k26 ?y27 ?a27 ?l27 ?c27 ?k27 ?y28 ?a28 ?l28 ?c28 ?k28 ?y29 ?a29 ?l29 ?c29 ?k29 ?y30 ?a30 ?l30 ?c30 ?k30 ?a31 ?l31 ?c31 ?k31 ?n_BadMark ?e_BadMark ?t_BadMark ?d_BadMark ?n_BadName ?e_BadName ?t_BadName ?d_BadName ?n_BadNames ?e_BadNames ?t_BadNames ?d_BadNames ?n_BadRule ?e_BadRule ?t_BadRule ?d_BadRule ?n_BadWay ?e_BadWay ?t_BadWay ?d_BadWay ?n_Blurred ?e_Blurred ?t_Blurred ?d_Blurred ?n_Doubled ?e_Doubled ?t_Doubled ?d_Doubled ?n_TailError ?e_TailError ?t_TailError ?d_TailError ?n_Book ?t_Book ?d_Book ?pg_Book ?hd_Book ?po_Book ?sa_Book ?mk_Book ?kp_Book ?fl_Book_book_names ?fl_Book_book_rule ?n_Desk ?t_Desk ?d_Desk ?pg_Desk ?hd_Desk ?po_Desk ?sa_Desk ?mk_Desk ?kp_Desk ?fl_Desk_deeds_done ?fl_Desk_desk_book ?fl_Desk_elder_names ?n_Rule ?t_Rule ?d_Rule ?pg_Rule ?hd_Rule ?po_Rule ?sa_Rule ?mk_Rule ?kp_Rule ?fl_Rule_rule_mark ?fl_Rule_rule_way ?ha_Rule ?hn_Rule ?ht_Rule ?hm_Rule ?s_Rule_NoneType ?s_Rule_bool ?s_Rule_int ?s_Rule_str ?s_Rule_list ?s_Rule_tuple ?s_Rule_dict ?bg_TailError ?br_TailError ?bi_TailError ?l_BadMark ?v_BadMark ?s_BadMark ?k_BadMark ?i_BadMark ?j_BadMark ?il_BadMark ?ic_BadMark ?ik_BadMark ?xg_BadMark ?xn_BadMark ?xh_BadMark ?f0_BadMark ?l_BadName ?v_BadName ?s_BadName ?k_BadName ?i_BadName ?j_BadName ?il_BadName ?ic_BadName ?ik_BadName ?xg_BadName ?xn_BadName ?xh_BadName ?f0_BadName ?l_BadNames ?v_BadNames ?s_BadNames ?k_BadNames ?i_BadNames ?j_BadNames ?il_BadNames ?ic_BadNames ?ik_BadNames ?xg_BadNames ?xn_BadNames ?xh_BadNames ?f0_BadNames ?l_BadRule ?v_BadRule ?s_BadRule ?k_BadRule ?i_BadRule ?j_BadRule ?il_BadRule ?ic_BadRule ?ik_BadRule ?xg_BadRule ?xn_BadRule ?xh_BadRule ?f0_BadRule ?l_BadWay ?v_BadWay ?s_BadWay ?k_BadWay ?i_BadWay ?j_BadWay ?il_BadWay ?ic_BadWay ?ik_BadWay ?xg_BadWay ?xn_BadWay ?xh_BadWay ?f0_BadWay ?l_Blurred ?v_Blurred ?s_Blurred ?k_Blurred ?i_Blurred ?j_Blurred ?il_Blurred ?ic_Blurred ?ik_Blurred ?xg_Blurred ?xn_Blurred ?xh_Blurred ?f0_Blurred ?f1_Blurred ?l_Doubled ?v_Doubled ?s_Doubled ?k_Doubled ?i_Doubled ?j_Doubled ?il_Doubled ?ic_Doubled ?ik_Doubled ?xg_Doubled ?xn_Doubled ?xh_Doubled ?f0_Doubled ?p_Doubled_TailError ?p_Doubled_Doubled ?p_Doubled_BadRule ?p_Doubled_BadNames ?p_Doubled_BadName ?p_Blurred_TailError ?p_Blurred_Doubled ?p_Blurred_BadRule ?p_Blurred_BadNames ?p_Blurred_BadName ?p_BadWay_TailError ?p_BadWay_Doubled ?p_BadWay_BadRule ?p_BadWay_BadNames ?p_BadWay_BadName ?p_BadRule_TailError ?p_BadRule_Doubled ?p_BadRule_BadRule ?p_BadRule_BadNames ?p_BadRule_BadName ?p_BadNames_TailError ?p_BadNames_Doubled ?p_BadNames_BadRule ?p_BadNames_BadNames ?p_BadNames_BadName ?p_BadName_TailError ?p_BadName_Doubled ?p_BadName_BadRule ?p_BadName_BadNames ?p_BadName_BadName ?p_BadMark_TailError ?p_BadMark_Doubled ?p_BadMark_BadRule ?p_BadMark_BadNames ?p_BadMark_BadName ?z_all ?z_dict ?z_int ?z_isinstance ?z_len ?z_list ?z_max ?z_min ?z_range ?z_repr ?z_set ?z_str ?z_tuple ?z_CLIMB ?z_FIGURES ?z_HASH ?z_LONGEST_MARK ?z_LONGEST_NAME ?z_MOST_NAMES ?z_NEST ?z_SIGNS ?z_STAR T_k70.law_pure
    (case n_BadMark => k_is); (case n_BadName => k_is); (case n_BadNames => k_is); (case n_BadRule => k_is); (case n_BadWay => k_is); (case n_Blurred => k_is)
    (case n_Doubled => k_is); (case n_TailError => k_is); (case n_Book => k_is); (case n_Desk => k_is); (case n_Rule => k_is); (case a1 => k_is)
    (case l1 => k_is); (case c1 => k_is); (case k1 => k_is); (case a2 => k_is); (case l2 => k_is); (case c2 => k_is)
    (case k2 => k_is); (case a3 => k_is); (case l3 => k_is); (case c3 => k_is); (case k3 => k_is); (case a4 => k_is)
    (case l4 => k_is); (case c4 => k_is); (case k4 => k_is); (case a5 => k_is); (case l5 => k_is); (case c5 => k_is)
    (case k5 => k_is); (case a6 => k_is); (case l6 => k_is); (case dt6 => k_is); (case c6 => k_is); (case k6 => k_is)
    (case a7 => k_is); (case l7 => k_is); (case dt7 => k_is); (case dj7 => k_is); (case c7 => k_is); (case k7 => k_is)
    (case a8 => k_is); (case l8 => k_is); (case c8 => k_is); (case k8 => k_is); (case a9 => k_is); (case l9 => k_is)
    (case c9 => k_is); (case k9 => k_is); (case a10 => k_is); (case l10 => k_is); (case c10 => k_is); (case k10 => k_is)
    (case a11 => k_is); (case l11 => k_is); (case c11 => k_is); (case k11 => k_is); (case a12 => k_is); (case l12 => k_is)
    (case c12 => k_is); (case k12 => k_is); (case a13 => k_is); (case l13 => k_is); (case c13 => k_is); (case k13 => k_is)
    (case a14 => k_is); (case l14 => k_is); (case c14 => k_is); (case k14 => k_is); (case a15 => k_is); (case l15 => k_is)
    (case c15 => k_is); (case k15 => k_is); (case a16 => k_is); (case l16 => k_is); (case c16 => k_is); (case k16 => k_is)
    (case a17 => k_is); (case l17 => k_is); (case c17 => k_is); (case k17 => k_is); (case a18 => k_is); (case l18 => k_is)
    (case c18 => k_is); (case k18 => k_is); (case a19 => k_is); (case l19 => k_is); (case c19 => k_is); (case k19 => k_is)
    (case a20 => k_is); (case l20 => k_is); (case c20 => k_is); (case k20 => k_is); (case a21 => k_is); (case l21 => k_is)
    (case c21 => k_is); (case k21 => k_is); (case a22 => k_is); (case l22 => k_is); (case c22 => k_is); (case k22 => k_is)
    (case a23 => k_is); (case l23 => k_is); (case c23 => k_is); (case k23 => k_is); (case a24 => k_is); (case l24 => k_is)
    (case c24 => k_is); (case k24 => k_is); (case a25 => k_is); (case l25 => k_is); (case c25 => k_is); (case k25 => k_is)
    (case a26 => k_is); (case l26 => k_is); (case c26 => k_is); (case k26 => k_is); (case a27 => k_is); (case l27 => k_is)
    (case c27 => k_is); (case k27 => k_is); (case a28 => k_is); (case l28 => k_is); (case c28 => k_is); (case k28 => k_is)
    (case a29 => k_is); (case l29 => k_is); (case c29 => k_is); (case k29 => k_is); (case a30 => k_is); (case l30 => k_is)
    (case c30 => k_is); (case k30 => k_is); (case a31 => k_is); (case l31 => k_is); (case c31 => k_is); (case k31 => k_is)
    (case e_BadMark => k_is); (case t_BadMark => k_is); (case d_BadMark => k_is); (case e_BadName => k_is); (case t_BadName => k_is); (case d_BadName => k_is)
    (case e_BadNames => k_is); (case t_BadNames => k_is); (case d_BadNames => k_is); (case e_BadRule => k_is); (case t_BadRule => k_is); (case d_BadRule => k_is)
    (case e_BadWay => k_is); (case t_BadWay => k_is); (case d_BadWay => k_is); (case e_Blurred => k_is); (case t_Blurred => k_is); (case d_Blurred => k_is)
    (case e_Doubled => k_is); (case t_Doubled => k_is); (case d_Doubled => k_is); (case e_TailError => k_is); (case t_TailError => k_is); (case d_TailError => k_is)
    (case t_Book => k_is); (case d_Book => k_is); (case pg_Book => k_is); (case hd_Book => k_is); (case po_Book => k_is); (case sa_Book => k_is)
    (case mk_Book => k_is); (case kp_Book => k_is); (case fl_Book_book_names => k_is); (case fl_Book_book_rule => k_is); (case t_Desk => k_is); (case d_Desk => k_is)
    (case pg_Desk => k_is); (case hd_Desk => k_is); (case po_Desk => k_is); (case sa_Desk => k_is); (case mk_Desk => k_is); (case kp_Desk => k_is)
    (case fl_Desk_deeds_done => k_is); (case fl_Desk_desk_book => k_is); (case fl_Desk_elder_names => k_is); (case t_Rule => k_is); (case d_Rule => k_is); (case pg_Rule => k_is)
    (case hd_Rule => k_is); (case po_Rule => k_is); (case sa_Rule => k_is); (case mk_Rule => k_is); (case kp_Rule => k_is); (case fl_Rule_rule_mark => k_is)
    (case fl_Rule_rule_way => k_is); (case ha_Rule => k_is); (case hn_Rule => k_is); (case ht_Rule => k_is); (case hm_Rule => k_is); (case s_Rule_NoneType => k_is)
    (case s_Rule_bool => k_is); (case s_Rule_int => k_is); (case s_Rule_str => k_is); (case s_Rule_list => k_is); (case s_Rule_tuple => k_is); (case s_Rule_dict => k_is)
    (case bg_TailError => k_is); (case br_TailError => k_is); (case bi_TailError => k_is); (case l_BadMark => k_is); (case v_BadMark => rfl); (case s_BadMark => k_is)
    (case k_BadMark => k_is); (case i_BadMark => k_is); (case j_BadMark => k_is); (case il_BadMark => k_is); (case ic_BadMark => k_is); (case ik_BadMark => k_is)
    (case xg_BadMark => k_is); (case xn_BadMark => k_is); (case xh_BadMark => k_is); (case f0_BadMark => k_is); (case l_BadName => k_is); (case v_BadName => rfl)
    (case s_BadName => k_is); (case k_BadName => k_is); (case i_BadName => k_is); (case j_BadName => k_is); (case il_BadName => k_is); (case ic_BadName => k_is)
    (case ik_BadName => k_is); (case xg_BadName => k_is); (case xn_BadName => k_is); (case xh_BadName => k_is); (case f0_BadName => k_is); (case l_BadNames => k_is)
    (case v_BadNames => rfl); (case s_BadNames => k_is); (case k_BadNames => k_is); (case i_BadNames => k_is); (case j_BadNames => k_is); (case il_BadNames => k_is)
    (case ic_BadNames => k_is); (case ik_BadNames => k_is); (case xg_BadNames => k_is); (case xn_BadNames => k_is); (case xh_BadNames => k_is); (case f0_BadNames => k_is)
    (case l_BadRule => k_is); (case v_BadRule => rfl); (case s_BadRule => k_is); (case k_BadRule => k_is); (case i_BadRule => k_is); (case j_BadRule => k_is)
    (case il_BadRule => k_is); (case ic_BadRule => k_is); (case ik_BadRule => k_is); (case xg_BadRule => k_is); (case xn_BadRule => k_is); (case xh_BadRule => k_is)
    (case f0_BadRule => k_is); (case l_BadWay => k_is); (case v_BadWay => rfl); (case s_BadWay => k_is); (case k_BadWay => k_is); (case i_BadWay => k_is)
    (case j_BadWay => k_is); (case il_BadWay => k_is); (case ic_BadWay => k_is); (case ik_BadWay => k_is); (case xg_BadWay => k_is); (case xn_BadWay => k_is)
    (case xh_BadWay => k_is); (case f0_BadWay => k_is); (case l_Blurred => k_is); (case v_Blurred => rfl); (case s_Blurred => k_is); (case k_Blurred => k_is)
    (case i_Blurred => k_is); (case j_Blurred => k_is); (case il_Blurred => k_is); (case ic_Blurred => k_is); (case ik_Blurred => k_is); (case xg_Blurred => k_is)
    (case xn_Blurred => k_is); (case xh_Blurred => k_is); (case f0_Blurred => k_is); (case f1_Blurred => k_is); (case l_Doubled => k_is); (case v_Doubled => rfl)
    (case s_Doubled => k_is); (case k_Doubled => k_is); (case i_Doubled => k_is); (case j_Doubled => k_is); (case il_Doubled => k_is); (case ic_Doubled => k_is)
    (case ik_Doubled => k_is); (case xg_Doubled => k_is); (case xn_Doubled => k_is); (case xh_Doubled => k_is); (case f0_Doubled => k_is); (case p_Doubled_TailError => k_is)
    (case p_Doubled_Doubled => k_is); (case p_Doubled_BadRule => k_is); (case p_Doubled_BadNames => k_is); (case p_Doubled_BadName => k_is); (case p_Blurred_TailError => k_is); (case p_Blurred_Doubled => k_is)
    (case p_Blurred_BadRule => k_is); (case p_Blurred_BadNames => k_is); (case p_Blurred_BadName => k_is); (case p_BadWay_TailError => k_is); (case p_BadWay_Doubled => k_is); (case p_BadWay_BadRule => k_is)
    (case p_BadWay_BadNames => k_is); (case p_BadWay_BadName => k_is); (case p_BadRule_TailError => k_is); (case p_BadRule_Doubled => k_is); (case p_BadRule_BadRule => k_is); (case p_BadRule_BadNames => k_is)
    (case p_BadRule_BadName => k_is); (case p_BadNames_TailError => k_is); (case p_BadNames_Doubled => k_is); (case p_BadNames_BadRule => k_is); (case p_BadNames_BadNames => k_is); (case p_BadNames_BadName => k_is)
    (case p_BadName_TailError => k_is); (case p_BadName_Doubled => k_is); (case p_BadName_BadRule => k_is); (case p_BadName_BadNames => k_is); (case p_BadName_BadName => k_is); (case p_BadMark_TailError => k_is)
    (case p_BadMark_Doubled => k_is); (case p_BadMark_BadRule => k_is); (case p_BadMark_BadNames => k_is); (case p_BadMark_BadName => k_is); (case z_all => k_is); (case z_dict => k_is)
    (case z_int => k_is); (case z_isinstance => k_is); (case z_len => k_is); (case z_list => k_is); (case z_max => k_is); (case z_min => k_is)
    (case z_range => k_is); (case z_repr => k_is); (case z_set => k_is); (case z_str => k_is); (case z_tuple => k_is); (case z_CLIMB => k_is)
    (case z_FIGURES => k_is); (case z_HASH => k_is); (case z_LONGEST_MARK => k_is); (case z_LONGEST_NAME => k_is); (case z_MOST_NAMES => k_is); (case z_NEST => k_is)
    (case z_SIGNS => k_is); (case z_STAR => k_is); (case y6 => k_is); (case y7 => k_is); (case y18 => k_is); (case y23 => k_is)
    (case y24 => k_is); (case y25 => k_is); (case y26 => k_is); (case y27 => k_is); (case y28 => k_is); (case y29 => k_is)
    (case y30 => k_is)

#print axioms PySem.Challenge.cw_tailnames_k70_desks_refused_holds
