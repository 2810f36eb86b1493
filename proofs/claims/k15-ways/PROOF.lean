import PyProof.Rows.All
import Wide.All
import OpenK.AllK
import Wide.FinOn
import HandS.ForMost
import HandS.ForExc
import HandS.SetKeys
import HandS.Flow
import HandS.Wide
import HandS.IsInst
import HandS.TupLe
import HandS.TupAny
import HandS.StrMore
import HandS.ExcOwn
import HandS.Steps
import PyProof.StrOps2
import HandS.CallSlots
import HandS.RaiseMore
import HandS.Replace
import HandS.EndBits
import PyProof.ReprRoads
import HandS.ExcInit
import HandS.ExcField
import HandS.TryMany
import HandS.Style
import PyProof.SliceStr2
import PyProof.EqKinds
import PyProof.P3In
import HandS.Deep
import PyProof.NeKinds
import HandS.Codes
import HandS.SetFor
import HandS.Walk
import HandS.ReplaceLit
import HandS.Conv
import HandS.Defaults
import PyProof.Rows.RegReprOcc
import PyProof.Rows.StrFit
import PyProof.Rows.RegFStrParts
import PySem.Challenge.RW_tailnames_k15_ways_refused
set_option Elab.async false
set_option linter.all false
set_option maxRecDepth 100000
/-! L3: Python's values as plain data; what a piece of the text does, as a plain function of data. -/
namespace L3
open PySem L2

/-- a dict's key: an int, or a text by its codes -/
abbrev Kd := Sum Int (List Nat)
def kk : Kd → Key
  | .inl i => .inl i
  | .inr l => .inr ⟨l.toArray⟩
theorem kk_inj {a b : Kd} (h : kk a = kk b) : a = b := by
  cases a <;> cases b <;> simp [kk] at h
  · rw [h]
  · rw [h]
theorem kk_eq (a b : Kd) : decide (kk a = kk b) = decide (a = b) := by
  by_cases h : a = b
  · rw [h]; simp
  · have : ¬ kk a = kk b := fun e => h (kk_inj e)
    simp [h, this]

/-- a value -/
inductive D where
  | non | bl (b : Bool) | int (i : Int) | str (l : List Nat)
  | lst (l : List D) | tup (l : List D) | dct (l : List (Kd × D))
  | scr (l : List Int)
  | obj (n : Str) (l : List (Str × D))
  | loc (n : Nat)

/-- what stands at a place that may change -/
inductive Cell where
  | lst (l : List D) | dct (l : List (Kd × D)) | set (l : List Kd)
  | ins (n : Str) (l : List (Str × D))
  | fz (d : D)

abbrev Cells := List Cell
abbrev Env := List (Option D)

/-- how an expression ends -/
inductive R where
  | ok (d : D) (cs : Cells)
  | exc (n : Str) (fs : List (Str × D)) (cs : Cells)
  | stuck
def R.bind : R → (D → Cells → R) → R
  | .ok d cs, f => f d cs
  | .exc n fs cs, _ => .exc n fs cs
  | .stuck, _ => .stuck
@[simp] theorem R.bind_ok (d : D) (cs : Cells) (f : D → Cells → R) : (R.ok d cs).bind f = f d cs := rfl
@[simp] theorem R.bind_exc (n : Str) (fs : List (Str × D)) (cs : Cells) (f : D → Cells → R) : (R.exc n fs cs).bind f = .exc n fs cs := rfl
@[simp] theorem R.bind_stuck (f : D → Cells → R) : R.stuck.bind f = .stuck := rfl
/-- how an argument list ends -/
inductive RA where
  | ok (ds : List D) (cs : Cells)
  | exc (n : Str) (fs : List (Str × D)) (cs : Cells)
  | stuck
def RA.bind : RA → (List D → Cells → R) → R
  | .ok d cs, f => f d cs
  | .exc n fs cs, _ => .exc n fs cs
  | .stuck, _ => .stuck
@[simp] theorem RA.bind_ok (d : List D) (cs : Cells) (f : List D → Cells → R) : (RA.ok d cs).bind f = f d cs := rfl
@[simp] theorem RA.bind_exc (n : Str) (fs : List (Str × D)) (cs : Cells) (f : List D → Cells → R) : (RA.exc n fs cs).bind f = .exc n fs cs := rfl
@[simp] theorem RA.bind_stuck (f : List D → Cells → R) : RA.stuck.bind f = .stuck := rfl
/-- how a statement ends -/
inductive S where
  | nx (env : Env) (cs : Cells)
  | rt (d : D) (cs : Cells)
  | bk (env : Env) (cs : Cells)
  | ct (env : Env) (cs : Cells)
  | exc (n : Str) (fs : List (Str × D)) (env : Env) (cs : Cells)
  | stuck
abbrev ME := Env → Cells → R
abbrev MA := Env → Cells → RA
abbrev MS := Env → Cells → S
abbrev MF := List D → Cells → R

/-- what is fixed: the program, the world, the written part, the module's names -/
structure Gd where
  P : Program
  w : World
  K : PySem.W.Frag
  mg : Str → Option Value
abbrev gd (X : Cx) : Gd := ⟨X.prog, X.w, X.K, X.mg⟩

/-! ### which value stands for which data; F: what stands still -/
mutual
inductive RV (g : Gd) (F : Hp) (c : List Addr) : V → D → Prop
  | non : RV g F c .non .non
  | bl (b : Bool) : RV g F c (.bl b) (.bl b)
  | int (i : Int) : RV g F c (.int i) (.int i)
  | str (l : List Nat) : RV g F c (.str ⟨l.toArray⟩) (.str l)
  | lst {a : Addr} {vs : List V} {ds : List D} : F a = some (.lst vs) → RVs g F c vs ds → RV g F c (.ref a) (.lst ds)
  | tup {a : Addr} {vs : List V} {ds : List D} : F a = some (.tup vs) → RVs g F c vs ds → RV g F c (.ref a) (.tup ds)
  | dct {a : Addr} {kvs : List (Key × V)} {kds : List (Kd × D)} : Rd F a (.dK kvs) → RKs g F c kvs kds → RV g F c (.ref a) (.dct kds)
  | scr {a : Addr} {ns : List Int} : SqL g.K F a (ns.map V.int) → RV g F c (.ref a) (.scr ns)
  | obj {a C dx : Addr} {n : Str} {fs : List (Str × V)} {gs : List (Str × D)} : g.mg n = some (.ref C) → F a = some (.ins C dx fs) → RFs g F c fs gs → RV g F c (.ref a) (.obj n gs)
  | loc {n : Nat} {a : Addr} : c[n]? = some a → RV g F c (.ref a) (.loc n)
inductive RVs (g : Gd) (F : Hp) (c : List Addr) : List V → List D → Prop
  | nil : RVs g F c [] []
  | cons {v : V} {d : D} {vs : List V} {ds : List D} : RV g F c v d → RVs g F c vs ds → RVs g F c (v :: vs) (d :: ds)
inductive RKs (g : Gd) (F : Hp) (c : List Addr) : List (Key × V) → List (Kd × D) → Prop
  | nil : RKs g F c [] []
  | cons {k : Kd} {v : V} {d : D} {vs : List (Key × V)} {ds : List (Kd × D)} : RV g F c v d → RKs g F c vs ds → RKs g F c ((kk k, v) :: vs) ((k, d) :: ds)
inductive RFs (g : Gd) (F : Hp) (c : List Addr) : List (Str × V) → List (Str × D) → Prop
  | nil : RFs g F c [] []
  | cons {k : Str} {v : V} {d : D} {vs : List (Str × V)} {ds : List (Str × D)} : RV g F c v d → RFs g F c vs ds → RFs g F c ((k, v) :: vs) ((k, d) :: ds)
end

/-- more is known (a dict may be locked meanwhile) -/
structure Le (F : Hp) (c : List Addr) (F' : Hp) (c' : List Addr) : Prop where
  lst : ∀ a xs, F a = some (.lst xs) → F' a = some (.lst xs)
  tup : ∀ a xs, F a = some (.tup xs) → F' a = some (.tup xs)
  ins : ∀ a C dx fs, F a = some (.ins C dx fs) → F' a = some (.ins C dx fs)
  rd : ∀ a u, Rd F a u → Rd F' a u
  loc : ∀ (n : Nat) (a : Addr), c[n]? = some a → c'[n]? = some a
theorem Le.refl (F : Hp) (c : List Addr) : Le F c F c := ⟨fun _ _ h => h, fun _ _ h => h, fun _ _ _ _ h => h, fun _ _ h => h, fun _ _ h => h⟩
theorem Le.trans {F F1 F2 : Hp} {c c1 c2 : List Addr} (a : Le F c F1 c1) (b : Le F1 c1 F2 c2) : Le F c F2 c2 :=
  ⟨fun x xs h => b.lst x xs (a.lst x xs h), fun x xs h => b.tup x xs (a.tup x xs h), fun x C dx fs h => b.ins x C dx fs (a.ins x C dx fs h), fun x u h => b.rd x u (a.rd x u h), fun n x h => b.loc n x (a.loc n x h)⟩
theorem Le.seq {K : PySem.W.Frag} {F F' : Hp} {c c' : List Addr} {a : Addr} {xs : List V} (e : Le F c F' c') (h : SqL K F a xs) : SqL K F' a xs := by
  rcases h with h | h
  · exact .inl (e.rd _ _ h)
  · exact .inr h
/-- from a plain extension -/
theorem Le.of {F F' : Hp} {c c' : List Addr} (h : ∀ a o, F a = some o → F' a = some o) (hc : ∀ (n : Nat) (a : Addr), c[n]? = some a → c'[n]? = some a) : Le F c F' c' :=
  ⟨fun _ _ e => h _ _ e, fun _ _ e => h _ _ e, fun _ _ _ _ e => h _ _ e, fun a u e => by
    rcases e with e | ⟨o, e⟩
    · exact .inl (h _ _ e)
    · exact .inr ⟨o, h _ _ e⟩, hc⟩

section
variable {g : Gd} {F F' : Hp} {c c' : List Addr}
mutual
theorem RV.mono (e : Le F c F' c') : ∀ {v : V} {d : D}, RV g F c v d → RV g F' c' v d
  | _, _, .non => .non
  | _, _, .bl b => .bl b
  | _, _, .int i => .int i
  | _, _, .str l => .str l
  | _, _, .lst h r => .lst (e.lst _ _ h) (RVs.mono e r)
  | _, _, .tup h r => .tup (e.tup _ _ h) (RVs.mono e r)
  | _, _, .dct h r => .dct (e.rd _ _ h) (RKs.mono e r)
  | _, _, .scr h => .scr (e.seq h)
  | _, _, .obj m h r => .obj m (e.ins _ _ _ _ h) (RFs.mono e r)
  | _, _, .loc h => .loc (e.loc _ _ h)
theorem RVs.mono (e : Le F c F' c') : ∀ {vs : List V} {ds : List D}, RVs g F c vs ds → RVs g F' c' vs ds
  | _, _, .nil => .nil
  | _, _, .cons a b => .cons (RV.mono e a) (RVs.mono e b)
theorem RKs.mono (e : Le F c F' c') : ∀ {vs : List (Key × V)} {ds : List (Kd × D)}, RKs g F c vs ds → RKs g F' c' vs ds
  | _, _, .nil => .nil
  | _, _, .cons a b => .cons (RV.mono e a) (RKs.mono e b)
theorem RFs.mono (e : Le F c F' c') : ∀ {vs : List (Str × V)} {ds : List (Str × D)}, RFs g F c vs ds → RFs g F' c' vs ds
  | _, _, .nil => .nil
  | _, _, .cons a b => .cons (RV.mono e a) (RFs.mono e b)
end
theorem RVs.length : ∀ {vs : List V} {ds : List D}, RVs g F c vs ds → vs.length = ds.length
  | _, _, .nil => rfl
  | _, _, .cons _ r => by simp [RVs.length r]
theorem RVs.get : ∀ {vs : List V} {ds : List D} {i : Nat} {d : D}, RVs g F c vs ds → ds[i]? = some d → ∃ v, vs[i]? = some v ∧ RV g F c v d
  | _, _, _, _, .nil, e => by simp at e
  | _, _, 0, _, .cons r _, e => by simp at e; subst e; exact ⟨_, rfl, r⟩
  | _, _, i + 1, d, .cons _ t, e => by
    obtain ⟨u, h1, h2⟩ := RVs.get (i := i) (d := d) t (by simpa using e)
    exact ⟨u, by simpa using h1, h2⟩
theorem RVs.get' : ∀ {vs : List V} {ds : List D} {i : Nat} {v : V}, RVs g F c vs ds → vs[i]? = some v → ∃ d, ds[i]? = some d ∧ RV g F c v d
  | _, _, _, _, .nil, e => by simp at e
  | _, _, 0, _, .cons r _, e => by simp at e; subst e; exact ⟨_, rfl, r⟩
  | _, _, i + 1, v, .cons _ t, e => by
    obtain ⟨u, h1, h2⟩ := RVs.get' (i := i) (v := v) t (by simpa using e)
    exact ⟨u, by simpa using h1, h2⟩
theorem RVs.append : ∀ {vs ws : List V} {ds es : List D}, RVs g F c vs ds → RVs g F c ws es → RVs g F c (vs ++ ws) (ds ++ es)
  | _, _, _, _, .nil, s => s
  | _, _, _, _, .cons a b, s => .cons a (RVs.append b s)
theorem RVs.take : ∀ {vs : List V} {ds : List D} (n : Nat), RVs g F c vs ds → RVs g F c (vs.take n) (ds.take n)
  | _, _, 0, _ => by simp; exact .nil
  | _, _, _ + 1, .nil => .nil
  | _, _, n + 1, .cons a b => .cons a (RVs.take n b)
theorem RVs.drop : ∀ {vs : List V} {ds : List D} (n : Nat), RVs g F c vs ds → RVs g F c (vs.drop n) (ds.drop n)
  | _, _, 0, r => by simpa using r
  | _, _, _ + 1, .nil => .nil
  | _, _, n + 1, .cons _ b => by simpa using RVs.drop n b
theorem RVs.reverse {vs : List V} {ds : List D} (r : RVs g F c vs ds) : RVs g F c vs.reverse ds.reverse := by
  induction r using RVs.rec (motive_1 := fun _ _ _ => True) (motive_3 := fun _ _ _ => True) (motive_4 := fun _ _ _ => True) with
  | nil => exact .nil
  | cons a b _ ih => simp only [List.reverse_cons]; exact ih.append (.cons a .nil)
  | _ => trivial
end

/-! ### the state: H what is tracked, F what stands still, c where the cells lie -/
def CR (g : Gd) (H F : Hp) (c : List Addr) (a : Addr) : Cell → Prop
  | .lst ds => F a = none ∧ ∃ vs, H a = some (.lst vs) ∧ RVs g F c vs ds
  | .dct ks => F a = none ∧ ∃ kvs, H a = some (.dK kvs) ∧ RKs g F c kvs ks
  | .set l => F a = none ∧ H a = some (SetK g.P g.w a (fun k => (l.map kk).contains k) l.length)
  | .ins n gs => F a = none ∧ ∃ C dx fs, g.mg n = some (.ref C) ∧ H a = some (.ins C dx fs) ∧ RFs g F c fs gs
  | .fz d => RV g F c (.ref a) d ∧ ∃ o, H a = some o ∧ ∀ vs, o ≠ .xd vs
structure Ih (g : Gd) (H F : Hp) (c : List Addr) (cs : Cells) : Prop where
  sub : ∀ a o, F a = some o → H a = some o
  len : c.length = cs.length
  nd : c.Nodup
  cell : ∀ (n : Nat) (a : Addr) (x : Cell), c[n]? = some a → cs[n]? = some x → CR g H F c a x
structure Xt (H F : Hp) (c : List Addr) (H' F' : Hp) (c' : List Addr) : Prop where
  le : Le F c F' c'
  kp : ∀ a o, H a = some o → a ∉ c → H' a = some o
  dom : ∀ a o, H a = some o → ∃ o', H' a = some o'
  new : ∀ a, a ∈ c' → a ∉ c → H a = none
  out : ∀ a o, H a = some o → F a = none → a ∉ c → F' a = none
theorem Xt.refl (H F : Hp) (c : List Addr) : Xt H F c H F c := ⟨Le.refl F c, fun _ _ h _ => h, fun _ o h => ⟨o, h⟩, fun a h n => absurd h n, fun _ _ _ h _ => h⟩
theorem Xt.trans {H F H1 F1 H2 F2 : Hp} {c c1 c2 : List Addr} (a : Xt H F c H1 F1 c1) (b : Xt H1 F1 c1 H2 F2 c2) : Xt H F c H2 F2 c2 := by
  refine ⟨a.le.trans b.le, fun x o h n => ?_, fun x o h => ?_, fun x h n => ?_, fun x o h f n => ?_⟩
  · refine b.kp x o (a.kp x o h n) fun m => ?_
    have := a.new x m n
    rw [h] at this; cases this
  · obtain ⟨o1, h1⟩ := a.dom x o h
    exact b.dom x o1 h1
  · by_cases m : x ∈ c1
    · exact a.new x m n
    · have := b.new x h m
      cases e : H x with
      | none => rfl
      | some o => obtain ⟨o1, h1⟩ := a.dom x o e; rw [this] at h1; cases h1
  · obtain ⟨o1, h1⟩ := a.dom x o h
    refine b.out x o1 h1 (a.out x o h f n) fun m => ?_
    have := a.new x m n
    rw [h] at this; cases this

section
variable {g : Gd} {H F : Hp} {c : List Addr} {cs : Cells}
theorem Ih.there (I : Ih g H F c cs) {n : Nat} {a : Addr} (h : c[n]? = some a) : ∃ x, cs[n]? = some x := by
  have hl : n < c.length := (List.getElem?_eq_some_iff.mp h).1
  exact ⟨cs[n]'(by rw [← I.len]; exact hl), by rw [List.getElem?_eq_getElem]⟩
theorem Ih.at (I : Ih g H F c cs) {n : Nat} {x : Cell} (h : cs[n]? = some x) : ∃ a, c[n]? = some a ∧ CR g H F c a x := by
  have hl : n < cs.length := (List.getElem?_eq_some_iff.mp h).1
  have hl' : n < c.length := by rw [I.len]; exact hl
  exact ⟨c[n], List.getElem?_eq_getElem hl', I.cell n _ x (List.getElem?_eq_getElem hl') h⟩
theorem CR.tracked {a : Addr} {x : Cell} (h : CR g H F c a x) : ∃ o, H a = some o := by
  cases x with
  | lst l => obtain ⟨_, vs, h, _⟩ := h; exact ⟨_, h⟩
  | dct l => obtain ⟨_, vs, h, _⟩ := h; exact ⟨_, h⟩
  | set l => obtain ⟨_, h⟩ := h; exact ⟨_, h⟩
  | ins n l => obtain ⟨_, C, dx, fs, _, h, _⟩ := h; exact ⟨_, h⟩
  | fz d => obtain ⟨_, o, e, _⟩ := h; exact ⟨o, e⟩
theorem Ih.mem (I : Ih g H F c cs) {a : Addr} (h : a ∈ c) : ∃ o, H a = some o := by
  obtain ⟨n, hn⟩ := List.getElem?_of_mem h
  obtain ⟨x, hx⟩ := I.there hn
  exact CR.tracked (I.cell n a x hn hx)
theorem Ih.notMem (I : Ih g H F c cs) {a : Addr} (h : H a = none) : a ∉ c := fun m => by
  obtain ⟨o, e⟩ := I.mem m
  rw [h] at e; cases e
theorem Ih.noF (I : Ih g H F c cs) {a : Addr} (h : H a = none) : F a = none := by
  cases e : F a with
  | none => rfl
  | some o => rw [I.sub a o e] at h; cases h
/-- what stands still is no cell that changes -/
def Cell.live : Cell → Bool
  | .fz _ => false
  | _ => true
theorem CR.free {a : Addr} {x : Cell} (h : CR g H F c a x) (l : x.live = true) : F a = none := by
  cases x with
  | fz d => cases l
  | lst l => exact h.1
  | dct l => exact h.1
  | set l => exact h.1
  | ins n l => exact h.1
theorem Ih.inj (I : Ih g H F c cs) {n m : Nat} {a : Addr} (h : c[n]? = some a) (h' : c[m]? = some a) : n = m := by
  obtain ⟨h1, e1⟩ := List.getElem?_eq_some_iff.mp h
  obtain ⟨h2, e2⟩ := List.getElem?_eq_some_iff.mp h'
  exact (List.getElem_inj I.nd).mp (e1.trans e2.symm)

/-- a cell's facts where what is around it has grown -/
theorem CR.mono {H' F' : Hp} {c' : List Addr} {a : Addr} {x : Cell} (h : CR g H F c a x) (e : Le F c F' c') (hH : ∀ o, H a = some o → H' a = some o) (hF : F a = none → F' a = none) : CR g H' F' c' a x := by
  cases x with
  | lst l => obtain ⟨f, vs, h, r⟩ := h; exact ⟨hF f, vs, hH _ h, r.mono e⟩
  | dct l => obtain ⟨f, vs, h, r⟩ := h; exact ⟨hF f, vs, hH _ h, r.mono e⟩
  | set l => obtain ⟨f, h⟩ := h; exact ⟨hF f, hH _ h⟩
  | ins n l => obtain ⟨f, C, dx, fs, m, h, r⟩ := h; exact ⟨hF f, C, dx, fs, m, hH _ h, r.mono e⟩
  | fz d => obtain ⟨r, o, h, n⟩ := h; exact ⟨r.mono e, o, hH _ h, n⟩

/-- a new object that stands still -/
theorem Le.upd (hn : F p = none) : Le F c (upd F p o) c := Le.of (fun a u e => by rw [upd_ne (ne_of_none e hn)]; exact e) fun _ _ e => e
theorem Ih.still (I : Ih g H F c cs) {p : Addr} {o : HO} (hp : H p = none) : Ih g (upd H p o) (upd F p o) c cs := by
  have hF := I.noF hp
  refine ⟨fun a u e => ?_, I.len, I.nd, fun n a x h1 h2 => ?_⟩
  · by_cases hb : a = p
    · subst hb; rw [upd_same] at e ⊢; exact e
    · rw [upd_ne hb] at e ⊢; exact I.sub a u e
  · have q := I.cell n a x h1 h2
    have hne : a ≠ p := fun e => by
      obtain ⟨u, hu⟩ := CR.tracked q
      rw [e, hp] at hu; cases hu
    exact CR.mono q (Le.upd hF) (fun u e => by rw [upd_ne hne]; exact e) (fun e => by rw [upd_ne hne]; exact e)
theorem Xt.still (I : Ih g H F c cs) {p : Addr} {o : HO} (hp : H p = none) : Xt H F c (L2.upd H p o) (L2.upd F p o) c :=
  ⟨Le.upd (I.noF hp), fun a u e _ => by rw [upd_ne (ne_of_none e hp)]; exact e, fun a u e => ⟨u, by rw [upd_ne (ne_of_none e hp)]; exact e⟩, fun a h n => absurd h n, fun a u e f _ => by rw [upd_ne (ne_of_none e hp)]; exact f⟩
/-- a new cell -/
theorem Le.push : Le F c F (c ++ [p]) := Le.of (fun _ _ e => e) fun n a e => by
  rw [List.getElem?_append_left (List.getElem?_eq_some_iff.mp e).1]; exact e
theorem Ih.push (I : Ih g H F c cs) {p : Addr} {o : HO} {x : Cell} (hp : H p = none) (hx : CR g (L2.upd H p o) F (c ++ [p]) p x) : Ih g (L2.upd H p o) F (c ++ [p]) (cs ++ [x]) := by
  refine ⟨fun a u e => ?_, by simp [I.len], ?_, fun n a y h1 h2 => ?_⟩
  · have := I.sub a u e
    rw [upd_ne (ne_of_none this hp)]; exact this
  · rw [List.nodup_append]
    refine ⟨I.nd, by simp, fun a ha b hb => ?_⟩
    have : b = p := by simpa using hb
    subst this
    rintro rfl
    exact I.notMem hp ha
  · by_cases hlt : n < c.length
    · rw [List.getElem?_append_left hlt] at h1
      rw [List.getElem?_append_left (by rw [← I.len]; exact hlt)] at h2
      have q := I.cell n a y h1 h2
      have hne : a ≠ p := fun e => by
        obtain ⟨u, hu⟩ := CR.tracked q
        rw [e, hp] at hu; cases hu
      exact CR.mono q Le.push (fun u e => by rw [upd_ne hne]; exact e) (fun e => e)
    · have hl : n < (c ++ [p]).length := (List.getElem?_eq_some_iff.mp h1).1
      have hn : n = c.length := by simp at hl; omega
      subst hn
      rw [List.getElem?_append_right (Nat.le_refl _)] at h1
      rw [I.len, List.getElem?_append_right (Nat.le_refl _)] at h2
      simp at h1 h2
      subst h1; subst h2
      exact hx
theorem Xt.push (I : Ih g H F c cs) {p : Addr} {o : HO} (hp : H p = none) : Xt H F c (L2.upd H p o) F (c ++ [p]) :=
  ⟨Le.push, fun a u e _ => by rw [upd_ne (ne_of_none e hp)]; exact e, fun a u e => ⟨u, by rw [upd_ne (ne_of_none e hp)]; exact e⟩, fun a h n => by
    rcases List.mem_append.mp h with h | h
    · exact absurd h n
    · have : a = p := by simpa using h
      rw [this]; exact hp, fun _ _ _ f _ => f⟩
/-- a cell is written -/
theorem Ih.write (I : Ih g H F c cs) {n : Nat} {a : Addr} {x0 x : Cell} {o : HO} (ha : c[n]? = some a) (h0 : cs[n]? = some x0) (hl : x0.live = true) (hx : CR g (L2.upd H a o) F c a x) : Ih g (L2.upd H a o) F c (cs.set n x) := by
  have hF := CR.free (I.cell n a x0 ha h0) hl
  refine ⟨fun b u e => ?_, by simp [I.len], I.nd, fun m b y h1 h2 => ?_⟩
  · rw [upd_ne (ne_of_none e hF)]; exact I.sub b u e
  · by_cases hm : m = n
    · subst hm
      rw [ha] at h1; cases h1
      have hlt : m < cs.length := (List.getElem?_eq_some_iff.mp h0).1
      rw [List.getElem?_set_self hlt] at h2
      cases h2
      exact hx
    · rw [List.getElem?_set_ne (Ne.symm hm)] at h2
      have hne : b ≠ a := fun e => hm (I.inj (e ▸ h1) ha)
      exact CR.mono (I.cell m b y h1 h2) (Le.refl F c) (fun u e => by rw [upd_ne hne]; exact e) (fun e => e)
theorem Xt.write (I : Ih g H F c cs) {n : Nat} {a : Addr} {o : HO} (ha : c[n]? = some a) : Xt H F c (L2.upd H a o) F c := by
  have hm : a ∈ c := List.mem_of_getElem? ha
  refine ⟨Le.refl F c, fun b u e hb => ?_, fun b u e => ?_, fun b h hb => absurd h hb, fun _ _ _ f _ => f⟩
  · rw [upd_ne (fun z => hb (by rw [z]; exact hm))]; exact e
  · by_cases hb : b = a
    · subst hb; exact ⟨o, upd_same⟩
    · exact ⟨u, by rw [upd_ne hb]; exact e⟩
end

/-! ### the frame -/
def RE (g : Gd) (F : Hp) (c : List Addr) (σ : L2.St) (env : Env) : Prop :=
  σ.length = env.length ∧ ∀ (i : Nat) (d : D), env[i]? = some (some d) → ∃ v, σ[i]? = some (some v) ∧ RV g F c v d
section
variable {g : Gd} {F F' : Hp} {c c' : List Addr} {σ : L2.St} {env : Env}
theorem RE.mono (h : RE g F c σ env) (e : Le F c F' c') : RE g F' c' σ env := ⟨h.1, fun i d q => by
  obtain ⟨v, a, b⟩ := h.2 i d q
  exact ⟨v, a, b.mono e⟩⟩
theorem RE.set (h : RE g F c σ env) (i : Nat) {v : V} {d : D} (r : RV g F c v d) : RE g F c (σ.set i (some v)) (env.set i (some d)) := by
  refine ⟨by simp [h.1], fun j e q => ?_⟩
  by_cases hj : j = i
  · subst hj
    by_cases hl : j < env.length
    · rw [List.getElem?_set_self hl] at q
      cases q
      exact ⟨v, by rw [List.getElem?_set_self (by rw [h.1]; exact hl)], r⟩
    · rw [List.getElem?_eq_none (by simp; omega)] at q; cases q
  · rw [List.getElem?_set_ne (Ne.symm hj)] at q
    rw [List.getElem?_set_ne (Ne.symm hj)]
    exact h.2 j e q
theorem RE.unset (h : RE g F c σ env) (i : Nat) : RE g F c (σ.set i none) (env.set i none) := by
  refine ⟨by simp [h.1], fun j e q => ?_⟩
  by_cases hj : j = i
  · subst hj
    by_cases hl : j < env.length
    · rw [List.getElem?_set_self hl] at q; cases q
    · rw [List.getElem?_eq_none (by simp; omega)] at q; cases q
  · rw [List.getElem?_set_ne (Ne.symm hj)] at q
    rw [List.getElem?_set_ne (Ne.symm hj)]
    exact h.2 j e q
end

/-! ### what is wanted behind a piece -/
abbrev Q3 := Hp → Hp → List Addr → Prop
/-- all that comes out of (H, F, c) and has the cells cs -/
def Fw (g : Gd) (H F : Hp) (c : List Addr) (cs : Cells) (κ : Q3) : Prop := ∀ H' F' c', Xt H F c H' F' c' → Ih g H' F' c' cs → κ H' F' c'
def ExK (g : Gd) (W : XK) (H F : Hp) (c : List Addr) (n : Str) (fs : List (Str × D)) (cs : Cells) : Prop :=
  Fw g H F c cs fun H' F' c' => ∀ C dx vs, g.mg n = some (.ref C) → H' dx = some (.xd vs) → RFs g F' c' vs fs → W (.ref C) (some dx) H'
def PoE (g : Gd) (W : XK) (H F : Hp) (c : List Addr) (r : R) (Q : VK) : Prop :=
  match r with
  | .ok d cs => Fw g H F c cs fun H' F' c' => ∀ v, RV g F' c' v d → Q v H'
  | .exc n fs cs => ExK g W H F c n fs cs
  | .stuck => False
def PoA (g : Gd) (W : XK) (H F : Hp) (c : List Addr) (r : RA) (Q : List V → Hp → Prop) : Prop :=
  match r with
  | .ok ds cs => Fw g H F c cs fun H' F' c' => ∀ vs, RVs g F' c' vs ds → Q vs H'
  | .exc n fs cs => ExK g W H F c n fs cs
  | .stuck => False
def PoT (g : Gd) (W : XK) (H F : Hp) (c : List Addr) (r : R) (Q : Bool → Hp → Prop) : Prop :=
  match r with
  | .ok (.bl b) cs => Fw g H F c cs fun H' _ _ => Q b H'
  | .exc n fs cs => ExK g W H F c n fs cs
  | _ => False
def PoS (g : Gd) (W : WX) (Dn : Ends) (H F : Hp) (c : List Addr) (r : S) : Prop :=
  match r with
  | .nx env cs => Fw g H F c cs fun H' F' c' => ∀ σ, RE g F' c' σ env → Dn.nx σ H'
  | .rt d cs => Fw g H F c cs fun H' F' c' => ∀ v, RV g F' c' v d → Dn.rt v H'
  | .bk env cs => Fw g H F c cs fun H' F' c' => ∀ σ, RE g F' c' σ env → Dn.bk σ H'
  | .ct env cs => Fw g H F c cs fun H' F' c' => ∀ σ, RE g F' c' σ env → Dn.ct σ H'
  | .exc n fs env cs => Fw g H F c cs fun H' F' c' => ∀ σ C dx vs, RE g F' c' σ env → g.mg n = some (.ref C) → H' dx = some (.xd vs) → RFs g F' c' vs fs → W (.ref C) (some dx) σ H'
  | .stuck => False

/-! ### the judgements: a piece of the text does what the plain function says -/
def Xp (X : Cx) (W : WX) (e : Expr) (m : ME) : Prop := ∃ t, PE X e t ∧ ∀ σ env H F c cs Q, RE (gd X) F c σ env → Ih (gd X) H F c cs → PoE (gd X) (fun a b => W a b σ) H F c (m env cs) Q → t σ H Q
def Xt1 (X : Cx) (W : WX) (e : Expr) (m : ME) : Prop := ∃ t, PT X e t ∧ ∀ σ env H F c cs Q, RE (gd X) F c σ env → Ih (gd X) H F c cs → PoT (gd X) (fun a b => W a b σ) H F c (m env cs) Q → t σ H Q
def Xw (X : Cx) (W : WX) (e : Expr) (m : ME) : Prop := ∃ t, PW X e t ∧ ∀ σ env H F c cs Q, RE (gd X) F c σ env → Ih (gd X) H F c cs → PoT (gd X) (fun a b => W a b σ) H F c (m env cs) Q → t σ H Q
def Xa (X : Cx) (W : WX) (es : List Expr) (m : MA) : Prop := ∃ t, PA X es t ∧ ∀ σ env H F c cs Q, RE (gd X) F c σ env → Ih (gd X) H F c cs → PoA (gd X) (fun a b => W a b σ) H F c (m env cs) Q → t σ H Q
def Sm (X : Cx) (W : WX) (st : Stmt) (m : MS) : Prop := ∃ t, PS X st t ∧ ∀ σ env H F c cs Dn, RE (gd X) F c σ env → Ih (gd X) H F c cs → PoS (gd X) W Dn H F c (m env cs) → t Dn σ H
def Sms (X : Cx) (W : WX) (st : List Stmt) (m : MS) : Prop := ∃ t, PSs X st t ∧ ∀ σ env H F c cs Dn, RE (gd X) F c σ env → Ih (gd X) H F c cs → PoS (gd X) W Dn H F c (m env cs) → t Dn σ H

theorem Fw.from {g : Gd} {H F H1 F1 : Hp} {c c1 : List Addr} {cs : Cells} {κ κ' : Q3} (x : Xt H F c H1 F1 c1) (h : Fw g H F c cs κ) (k : ∀ H' F' c', κ H' F' c' → κ' H' F' c') : Fw g H1 F1 c1 cs κ' :=
  fun H' F' c' y I => k _ _ _ (h H' F' c' (x.trans y) I)
theorem ExK.from {g : Gd} {W : XK} {H F H1 F1 : Hp} {c c1 : List Addr} {n : Str} {fs : List (Str × D)} {cs : Cells} (x : Xt H F c H1 F1 c1) (h : ExK g W H F c n fs cs) : ExK g W H1 F1 c1 n fs cs := Fw.from x h fun _ _ _ k => k
theorem PoE.from {g : Gd} {W : XK} {H F H1 F1 : Hp} {c c1 : List Addr} {r : R} {Q : VK} (x : Xt H F c H1 F1 c1) (h : PoE g W H F c r Q) : PoE g W H1 F1 c1 r Q := by
  cases r with
  | ok d cs => exact Fw.from x h fun _ _ _ k => k
  | exc n fs cs => exact ExK.from x h
  | stuck => exact h
theorem PoT.from {g : Gd} {W : XK} {H F H1 F1 : Hp} {c c1 : List Addr} {r : R} {Q : Bool → Hp → Prop} (x : Xt H F c H1 F1 c1) (h : PoT g W H F c r Q) : PoT g W H1 F1 c1 r Q := by
  cases r with
  | ok d cs => cases d <;> first | exact h | exact Fw.from x h fun _ _ _ k => k
  | exc n fs cs => exact ExK.from x h
  | stuck => exact h
theorem PoA.from {g : Gd} {W : XK} {H F H1 F1 : Hp} {c c1 : List Addr} {r : RA} {Q : List V → Hp → Prop} (x : Xt H F c H1 F1 c1) (h : PoA g W H F c r Q) : PoA g W H1 F1 c1 r Q := by
  cases r with
  | ok d cs => exact Fw.from x h fun _ _ _ k => k
  | exc n fs cs => exact ExK.from x h
  | stuck => exact h
theorem PoS.from {g : Gd} {W : WX} {Dn : Ends} {H F H1 F1 : Hp} {c c1 : List Addr} {r : S} (x : Xt H F c H1 F1 c1) (h : PoS g W Dn H F c r) : PoS g W Dn H1 F1 c1 r := by
  cases r <;> first | exact h | exact Fw.from x h fun _ _ _ k => k

/-- the bind: what is wanted of the whole, from what the first part gives -/
theorem PoE.cut {g : Gd} {W : XK} {H F : Hp} {c : List Addr} {r : R} {k : D → Cells → R} {Q : VK} (h : PoE g W H F c (r.bind k) Q) :
    ∀ Q' : VK, (∀ d cs, r = .ok d cs → ∀ H1 F1 c1 v, Xt H F c H1 F1 c1 → Ih g H1 F1 c1 cs → RV g F1 c1 v d → PoE g W H1 F1 c1 (k d cs) Q → Q' v H1) → PoE g W H F c r Q' := by
  intro Q' hk
  cases r with
  | ok d cs => exact fun H1 F1 c1 x I v rv => hk d cs rfl H1 F1 c1 v x I rv (PoE.from x h)
  | exc n fs cs => exact h
  | stuck => exact h
theorem PoE.here {g : Gd} {W : XK} {H F : Hp} {c : List Addr} {cs : Cells} {d : D} {Q : VK} {v : V} (I : Ih g H F c cs) (r : RV g F c v d) (h : PoE g W H F c (.ok d cs) Q) : Q v H := h H F c (Xt.refl H F c) I v r
theorem PoT.here {g : Gd} {W : XK} {H F : Hp} {c : List Addr} {cs : Cells} {b : Bool} {Q : Bool → Hp → Prop} (I : Ih g H F c cs) (h : PoT g W H F c (.ok (.bl b) cs) Q) : Q b H := h H F c (Xt.refl H F c) I
end L3

namespace L3
open PySem L2

/-! ### names, constants -/
def eVar (i : Nat) : ME := fun env cs => match env[i]? with
  | some (some d) => .ok d cs
  | _ => .stuck
def eC (d : D) : ME := fun _ cs => .ok d cs

section
variable {X : Cx} {W : WX} {pos : Pos}
theorem xp_var {i : Nat} {x : Str} (hN : X.N[i]? = some x) (hv : Vis X.env.scope x) (hd : (x == ("__debug__" : Str)) = false := by decide) (hcd : (x == ("__classdict__" : Str)) = false := by decide) : Xp X W (.Name x pos) (eVar i) := by
  refine ⟨_, pe_var hN hv hd hcd, fun σ env H F c cs Q re I po => ?_⟩
  unfold eVar at po
  cases e : env[i]? with
  | none => rw [e] at po; exact po.elim
  | some o =>
    cases o with
    | none => rw [e] at po; exact po.elim
    | some d =>
      rw [e] at po
      obtain ⟨v, hv, rv⟩ := re.2 i d e
      exact ⟨v, hv, PoE.here I rv po⟩
theorem xp_int {i : Int} {j} : Xp X W (.Constant (.int i) j pos) (eC (.int i)) := ⟨_, pe_int, fun _ _ _ _ _ _ _ _ I po => PoE.here I (.int i) po⟩
theorem xp_bl {b : Bool} {j} : Xp X W (.Constant (.bool b) j pos) (eC (.bl b)) := ⟨_, pe_bl, fun _ _ _ _ _ _ _ _ I po => PoE.here I (.bl b) po⟩
theorem xp_non {j} : Xp X W (.Constant .none j pos) (eC .non) := ⟨_, pe_non, fun _ _ _ _ _ _ _ _ I po => PoE.here I .non po⟩
theorem xp_str {x : Str} {l : List Nat} {j} (h : x = ⟨l.toArray⟩) : Xp X W (.Constant (.str x) j pos) (eC (.str l)) := by
  subst h
  exact ⟨_, pe_str, fun _ _ _ _ _ _ _ _ I po => PoE.here I (.str l) po⟩
/-- a module's constant -/
theorem xp_glob {x : Str} {u : Value} {v : V} {d : D} (hg : Gl X x) (hm : X.mg x = some u) (r : RelV v u) (rv : ∀ g F c, RV g F c v d) (hd : (x == ("__debug__" : Str)) = false := by decide) : Xp X W (.Name x pos) (eC d) :=
  ⟨_, pe_glob hg hm r hd, fun _ _ _ _ _ _ _ _ I po => PoE.here I (rv _ _ _) po⟩
theorem xp_globS {x z : Str} {t : Tok} {l : List Nat} (hg : Gl X x) (hm : X.mg x = some (.str z t)) (h : z = ⟨l.toArray⟩) (hd : (x == ("__debug__" : Str)) = false := by decide) : Xp X W (.Name x pos) (eC (.str l)) := by
  subst h
  exact xp_glob hg hm (v := .str ⟨l.toArray⟩) ⟨_, rfl⟩ (fun _ _ _ => .str l) hd
theorem xp_globI {x : Str} {t : Tok} {i : Int} (hg : Gl X x) (hm : X.mg x = some (.int i t)) (hd : (x == ("__debug__" : Str)) = false := by decide) : Xp X W (.Name x pos) (eC (.int i)) :=
  xp_glob hg hm (v := .int i) ⟨_, rfl⟩ (fun _ _ _ => .int i) hd
end

/-! ### operations on values -/
def op2 (f : Cells → D → D → R) (a b : ME) : ME := fun env cs => (a env cs).bind fun x cs1 => (b env cs1).bind fun y cs2 => f cs2 x y
def op1 (f : Cells → D → R) (a : ME) : ME := fun env cs => (a env cs).bind fun x cs1 => f cs1 x
/-- an operation's rule does what f says -/
def O2 (g : Gd) (r : R2) (f : Cells → D → D → R) : Prop := ∀ (W : XK) (H F : Hp) (c : List Addr) (cs : Cells) (x y : V) (d e : D) (Q : VK), Ih g H F c cs → RV g F c x d → RV g F c y e → PoE g W H F c (f cs d e) Q → r x y H Q
def O1 (g : Gd) (r : V → Hp → VK → Prop) (f : Cells → D → R) : Prop := ∀ (W : XK) (H F : Hp) (c : List Addr) (cs : Cells) (x : V) (d : D) (Q : VK), Ih g H F c cs → RV g F c x d → PoE g W H F c (f cs d) Q → r x H Q
theorem O2.or {g : Gd} {r r' : R2} {f f' h : Cells → D → D → R} (a : O2 g r f) (b : O2 g r' f') (e : ∀ cs d e, h cs d e = f cs d e ∨ h cs d e = f' cs d e) : O2 g (fun x y H Q => r x y H Q ∨ r' x y H Q) h :=
  fun W H F c cs x y d e' Q I rx ry po => by
    rcases e cs d e' with q | q
    · rw [q] at po; exact .inl (a W H F c cs x y d e' Q I rx ry po)
    · rw [q] at po; exact .inr (b W H F c cs x y d e' Q I rx ry po)

section
variable {X : Cx} {W : WX} {pos : Pos} {a b c : Expr} {ma mb mc : ME}
/-- two parts, then what f says -/
theorem sim2 {ta tb : TE} {r : R2} {f : Cells → D → D → R} {σ : L2.St} {env : Env} {H F : Hp} {c : List Addr} {cs : Cells} {Q : VK}
    (ha : ∀ σ env H F c cs Q, RE (gd X) F c σ env → Ih (gd X) H F c cs → PoE (gd X) (fun a b => W a b σ) H F c (ma env cs) Q → ta σ H Q)
    (hb : ∀ σ env H F c cs Q, RE (gd X) F c σ env → Ih (gd X) H F c cs → PoE (gd X) (fun a b => W a b σ) H F c (mb env cs) Q → tb σ H Q)
    (ho : O2 (gd X) r f) (re : RE (gd X) F c σ env) (I : Ih (gd X) H F c cs) (po : PoE (gd X) (fun a b => W a b σ) H F c (op2 f ma mb env cs) Q) : tOp r ta tb σ H Q := by
  refine ha σ env H F c cs _ re I (PoE.cut po _ fun d cs1 _ H1 F1 c1 v x1 I1 rv po1 => ?_)
  refine hb σ env H1 F1 c1 cs1 _ (re.mono x1.le) I1 (PoE.cut po1 _ fun e cs2 _ H2 F2 c2 u x2 I2 ru po2 => ?_)
  exact ho _ H2 F2 c2 cs2 v u d e Q I2 (rv.mono x2.le) ru po2
theorem xp_op {op : Operator} {r : R2} {f : Cells → D → D → R} (h : OpR X (binaryOp op) r) (o : O2 (gd X) r f) (ha : Xp X W a ma) (hb : Xp X W b mb) : Xp X W (.BinOp a op b pos) (op2 f ma mb) := by
  obtain ⟨ta, pa, sa⟩ := ha
  obtain ⟨tb, pb, sb⟩ := hb
  exact ⟨_, pe_op h pa pb, fun σ env H F c cs Q re I po => sim2 sa sb o re I po⟩
theorem xp_cmp {op : CmpOp} {r : R2} {f : Cells → D → D → R} (h : OpR X (compareOp op) r) (o : O2 (gd X) r f) (ha : Xp X W a ma) (hb : Xp X W b mb) (hm : behindInMarks op b = false) : Xp X W (.Compare a [op] [b] pos) (op2 f ma mb) := by
  obtain ⟨ta, pa, sa⟩ := ha
  obtain ⟨tb, pb, sb⟩ := hb
  exact ⟨_, pe_cmpR h pa pb hm, fun σ env H F c cs Q re I po => sim2 sa sb o re I po⟩
theorem xp_un {op : UnaryOp} {r : V → Hp → VK → Prop} {f : Cells → D → R} (h : UnR X (unaryOp op) r) (o : O1 (gd X) r f) (ha : Xp X W a ma) : Xp X W (.UnaryOp op a pos) (op1 f ma) := by
  obtain ⟨ta, pa, sa⟩ := ha
  refine ⟨_, pe_un h pa, fun σ env H F c cs Q re I po => ?_⟩
  exact sa σ env H F c cs _ re I (PoE.cut po _ fun d cs1 _ H1 F1 c1 v x1 I1 rv po1 => o _ H1 F1 c1 cs1 v d Q I1 rv po1)
/-- a value that is a truth, as a test -/
theorem xt_val (ha : Xp X W a ma) (he : ∀ whole, isTrue a X.env whole = (do let v ← whole; standAt a.pos; holding [v] (truthy v)) := by intro _; rfl) : Xt1 X W a ma := by
  obtain ⟨ta, pa, sa⟩ := ha
  refine ⟨_, pt_val pa he, fun σ env H F c cs Q re I po => ?_⟩
  refine sa σ env H F c cs _ re I ?_
  cases e : ma env cs with
  | ok d cs1 =>
    rw [e] at po
    cases d with
    | bl b => exact fun H' F' c' x I' v rv => by cases rv; exact ⟨b, rfl, po H' F' c' x I'⟩
    | _ => exact po.elim
  | exc n fs cs1 => rw [e] at po; exact po
  | stuck => rw [e] at po; exact po.elim
theorem Xw.t (h : Xw X W a ma) : Xt1 X W a ma := by
  obtain ⟨t, p, s⟩ := h
  exact ⟨t, p.pt, s⟩

/-! ### and, or, not, if .. else -/
/-- two ways on, by a truth -/
def brD (x : D) (cs : Cells) (a b : Cells → R) : R := match x with
  | .bl true => a cs
  | .bl false => b cs
  | _ => .stuck
@[simp] theorem brD_true (cs : Cells) (a b : Cells → R) : brD (.bl true) cs a b = a cs := rfl
@[simp] theorem brD_false (cs : Cells) (a b : Cells → R) : brD (.bl false) cs a b = b cs := rfl
def eAnd (a b : ME) : ME := fun env cs => (a env cs).bind fun x cs1 => brD x cs1 (b env) fun cs2 => .ok (.bl false) cs2
def eOr (a b : ME) : ME := fun env cs => (a env cs).bind fun x cs1 => brD x cs1 (fun cs2 => .ok (.bl true) cs2) (b env)
def notD (cs : Cells) : D → R
  | .bl b => .ok (.bl !b) cs
  | _ => .stuck
def eNot (a : ME) : ME := op1 notD a
def eIf (t a b : ME) : ME := fun env cs => (t env cs).bind fun x cs1 => brD x cs1 (a env) (b env)

theorem PoE.br {g : Gd} {W : XK} {H F : Hp} {c : List Addr} {r : R} {fa fb : Cells → R} {Q : VK} (h : PoE g W H F c (r.bind fun x cs1 => brD x cs1 fa fb) Q) :
    ∀ Q' : Bool → Hp → Prop, (∀ b cs, r = .ok (.bl b) cs → ∀ H1 F1 c1, Xt H F c H1 F1 c1 → Ih g H1 F1 c1 cs → PoE g W H1 F1 c1 (if b = true then fa cs else fb cs) Q → Q' b H1) → PoT g W H F c r Q' := by
  intro Q' hq
  cases r with
  | ok d cs =>
    cases d with
    | bl b => exact fun H1 F1 c1 x I => hq b cs rfl H1 F1 c1 x I (by cases b <;> exact PoE.from x h)
    | _ => exact h.elim
  | exc n fs cs => exact h
  | stuck => exact h.elim
theorem PoT.br {g : Gd} {W : XK} {H F : Hp} {c : List Addr} {r : R} {fa fb : Cells → R} {Q : Bool → Hp → Prop} (h : PoT g W H F c (r.bind fun x cs1 => brD x cs1 fa fb) Q) :
    ∀ Q' : Bool → Hp → Prop, (∀ b cs, r = .ok (.bl b) cs → ∀ H1 F1 c1, Xt H F c H1 F1 c1 → Ih g H1 F1 c1 cs → PoT g W H1 F1 c1 (if b = true then fa cs else fb cs) Q → Q' b H1) → PoT g W H F c r Q' := by
  intro Q' hq
  cases r with
  | ok d cs =>
    cases d with
    | bl b => exact fun H1 F1 c1 x I => hq b cs rfl H1 F1 c1 x I (by cases b <;> exact PoT.from x h)
    | _ => exact h.elim
  | exc n fs cs => exact h
  | stuck => exact h.elim
theorem PoT.map {g : Gd} {W : XK} {H F : Hp} {c : List Addr} {r : R} {Q : Bool → Hp → Prop} (h : PoT g W H F c (r.bind fun x cs1 => notD cs1 x) Q) : PoT g W H F c r fun b H1 => Q (!b) H1 := by
  cases r with
  | ok d cs =>
    cases d with
    | bl b => exact h
    | _ => exact h.elim
  | exc n fs cs => exact h
  | stuck => exact h.elim

theorem xp_if (ht : Xt1 X W c mc) (ha : Xp X W a ma) (hb : Xp X W b mb) : Xp X W (.IfExp c a b pos) (eIf mc ma mb) := by
  obtain ⟨tc, pc, sc⟩ := ht
  obtain ⟨ta, pa, sa⟩ := ha
  obtain ⟨tb, pb, sb⟩ := hb
  refine ⟨_, pe_ifExp pc pa pb, fun σ env H F c cs Q re I po => ?_⟩
  refine sc σ env H F c cs _ re I (PoE.br po _ fun b cs1 _ H1 F1 c1 x I1 po1 => ?_)
  cases b with
  | true => exact iteT (sa σ env H1 F1 c1 cs1 Q (re.mono x.le) I1 po1)
  | false => exact iteF (sb σ env H1 F1 c1 cs1 Q (re.mono x.le) I1 po1)

/-- .. of truths, as values -/
theorem xp_and {rest : List Expr} {p2 : Pos} (ha : Xp X W a ma) (hb : Xp X W (.BoolOp .And (b :: rest) pos) mb) : Xp X W (.BoolOp .And (a :: b :: rest) pos) (eAnd ma mb) := by
  obtain ⟨ta, pa, sa⟩ := ha
  obtain ⟨tb, pb, sb⟩ := hb
  refine ⟨_, pe_and pa pb, fun σ env H F c cs Q re I po => ?_⟩
  refine sa σ env H F c cs _ re I (PoE.cut po _ fun d cs1 _ H1 F1 c1 v x1 I1 rv po1 => ?_)
  cases d with
  | bl k =>
    cases rv
    cases k with
    | true => exact ⟨true, rfl, iteT (sb σ env H1 F1 c1 cs1 Q (re.mono x1.le) I1 po1)⟩
    | false => exact ⟨false, rfl, iteF (PoE.here I1 (.bl false) po1)⟩
  | _ => exact po1.elim
theorem xp_or {rest : List Expr} {p2 : Pos} (ha : Xp X W a ma) (hb : Xp X W (.BoolOp .Or (b :: rest) pos) mb) : Xp X W (.BoolOp .Or (a :: b :: rest) pos) (eOr ma mb) := by
  obtain ⟨ta, pa, sa⟩ := ha
  obtain ⟨tb, pb, sb⟩ := hb
  refine ⟨_, pe_or pa pb, fun σ env H F c cs Q re I po => ?_⟩
  refine sa σ env H F c cs _ re I (PoE.cut po _ fun d cs1 _ H1 F1 c1 v x1 I1 rv po1 => ?_)
  cases d with
  | bl k =>
    cases rv
    cases k with
    | true => exact ⟨true, rfl, iteT (PoE.here I1 (.bl true) po1)⟩
    | false => exact ⟨false, rfl, iteF (sb σ env H1 F1 c1 cs1 Q (re.mono x1.le) I1 po1)⟩
  | _ => exact po1.elim
theorem xp_one {op : BoolOp} (ha : Xp X W a ma) : Xp X W (.BoolOp op [a] pos) ma := by
  obtain ⟨ta, pa, sa⟩ := ha
  exact ⟨_, pe_one pa, sa⟩
theorem xp_not (ha : Xp X W a ma) : Xp X W (.UnaryOp .Not a pos) (eNot ma) := by
  obtain ⟨ta, pa, sa⟩ := ha
  refine ⟨_, pe_not pa, fun σ env H F c cs Q re I po => ?_⟩
  refine sa σ env H F c cs _ re I (PoE.cut po _ fun d cs1 _ H1 F1 c1 v x1 I1 rv po1 => ?_)
  cases d with
  | bl k => cases rv; exact ⟨k, rfl, PoE.here I1 (.bl !k) po1⟩
  | _ => exact po1.elim
/-- .. as tests -/
theorem xw_and {rest : List Expr} (ha : Xt1 X W a ma) (hb : Xw X W (.BoolOp .And (b :: rest) pos) mb) : Xw X W (.BoolOp .And (a :: b :: rest) pos) (eAnd ma mb) := by
  obtain ⟨ta, pa, sa⟩ := ha
  obtain ⟨tb, pb, sb⟩ := hb
  refine ⟨_, pw_and pa pb, fun σ env H F c cs Q re I po => ?_⟩
  refine sa σ env H F c cs _ re I (PoT.br po _ fun b cs1 _ H1 F1 c1 x I1 po1 => ?_)
  cases b with
  | true => exact iteT (sb σ env H1 F1 c1 cs1 Q (re.mono x.le) I1 po1)
  | false => exact iteF (PoT.here I1 po1)
theorem xw_or {rest : List Expr} (ha : Xt1 X W a ma) (hb : Xw X W (.BoolOp .Or (b :: rest) pos) mb) : Xw X W (.BoolOp .Or (a :: b :: rest) pos) (eOr ma mb) := by
  obtain ⟨ta, pa, sa⟩ := ha
  obtain ⟨tb, pb, sb⟩ := hb
  refine ⟨_, pw_or pa pb, fun σ env H F c cs Q re I po => ?_⟩
  refine sa σ env H F c cs _ re I (PoT.br po _ fun b cs1 _ H1 F1 c1 x I1 po1 => ?_)
  cases b with
  | true => exact iteT (PoT.here I1 po1)
  | false => exact iteF (sb σ env H1 F1 c1 cs1 Q (re.mono x.le) I1 po1)
theorem xw_and1 (ha : Xt1 X W a ma) : Xw X W (.BoolOp .And [a] pos) ma := by
  obtain ⟨ta, pa, sa⟩ := ha
  exact ⟨_, pw_and1 pa, sa⟩
theorem xw_or1 (ha : Xt1 X W a ma) : Xw X W (.BoolOp .Or [a] pos) ma := by
  obtain ⟨ta, pa, sa⟩ := ha
  exact ⟨_, pw_or1 pa, sa⟩
theorem xt_not (ha : Xt1 X W a ma) : Xt1 X W (.UnaryOp .Not a pos) (eNot ma) := by
  obtain ⟨ta, pa, sa⟩ := ha
  refine ⟨_, pt_not pa, fun σ env H F c cs Q re I po => ?_⟩
  exact sa σ env H F c cs _ re I (PoT.map po)
end

/-! ### arguments -/
def aNil : MA := fun _ cs => .ok [] cs
def aCons (a : ME) (r : MA) : MA := fun env cs => match a env cs with
  | .ok d cs1 => (match r env cs1 with
    | .ok ds cs2 => .ok (d :: ds) cs2
    | .exc n fs cs2 => .exc n fs cs2
    | .stuck => .stuck)
  | .exc n fs cs1 => .exc n fs cs1
  | .stuck => .stuck
theorem PoA.cut {g : Gd} {W : XK} {H F : Hp} {c : List Addr} {r : RA} {k : List D → Cells → R} {Q : VK} (h : PoE g W H F c (r.bind k) Q) :
    ∀ Q' : List V → Hp → Prop, (∀ ds cs, r = .ok ds cs → ∀ H1 F1 c1 vs, Xt H F c H1 F1 c1 → Ih g H1 F1 c1 cs → RVs g F1 c1 vs ds → PoE g W H1 F1 c1 (k ds cs) Q → Q' vs H1) → PoA g W H F c r Q' := by
  intro Q' hk
  cases r with
  | ok d cs => exact fun H1 F1 c1 x I v rv => hk d cs rfl H1 F1 c1 v x I rv (PoE.from x h)
  | exc n fs cs => exact h
  | stuck => exact h
section
variable {X : Cx} {W : WX} {pos : Pos} {e : Expr} {es : List Expr} {m : ME} {ms : MA}
theorem xa_nil : Xa X W [] aNil := ⟨_, pa_nil, fun _ _ _ _ _ _ _ _ I po => po _ _ _ (Xt.refl _ _ _) I [] .nil⟩
theorem xa_cons (ha : Xp X W e m) (hr : Xa X W es ms) (hs : starEach (e :: es) X.env = (false, eval e X.env) :: starEach es X.env := by rfl) : Xa X W (e :: es) (aCons m ms) := by
  obtain ⟨ta, pa, sa⟩ := ha
  obtain ⟨tb, pb, sb⟩ := hr
  refine ⟨_, pa_cons pa pb hs, fun σ env H F c cs Q re I po => ?_⟩
  refine sa σ env H F c cs _ re I ?_
  unfold aCons at po
  cases h1 : m env cs with
  | ok d cs1 =>
    rw [h1] at po
    simp only at po
    intro H1 F1 c1 x1 I1 v rv
    refine sb σ env H1 F1 c1 cs1 _ (re.mono x1.le) I1 ?_
    cases h2 : ms env cs1 with
    | ok ds cs2 =>
      rw [h2] at po
      exact fun H2 F2 c2 x2 I2 vs rvs => po H2 F2 c2 (x1.trans x2) I2 (v :: vs) (.cons (rv.mono x2.le) rvs)
    | exc n fs cs2 =>
      rw [h2] at po
      have po : ExK (gd X) (fun a b => W a b σ) H F c n fs cs2 := po
      exact ExK.from x1 po
    | stuck => rw [h2] at po; exact po.elim
  | exc n fs cs1 => rw [h1] at po; exact po
  | stuck => rw [h1] at po; exact po.elim
end

/-! ### lists, tuples -/
/-- a new list: one that stands still, or (md) a cell -/
def mkL (md : Bool) (cs : Cells) (ds : List D) : R := if ds.length ≤ sizeLine then (if md then .ok (.loc cs.length) (cs ++ [.lst ds]) else .ok (.lst ds) cs) else .stuck
def mkT (cs : Cells) (ds : List D) : R := if ds.length ≤ sizeLine then .ok (.tup ds) cs else .stuck
section
variable {g : Gd} {W : XK} {H F : Hp} {c : List Addr} {cs : Cells} {vs : List V} {ds : List D} {Q : VK} {md : Bool}
theorem mkL_len (h : PoE g W H F c (mkL md cs ds) Q) (rv : RVs g F c vs ds) : vs.length ≤ sizeLine := by
  unfold mkL at h
  split at h
  · rw [rv.length]; assumption
  · exact h.elim
theorem mkL_ok (I : Ih g H F c cs) (rv : RVs g F c vs ds) (h : PoE g W H F c (mkL md cs ds) Q) {p : Addr} (hp : H p = none) : Q (.ref p) (upd H p (.lst vs)) := by
  unfold mkL at h
  split at h
  · cases md with
    | true =>
      rw [if_pos rfl] at h
      have x := Xt.push I (o := .lst vs) hp
      refine h _ _ _ x (I.push hp ?_) _ (.loc (by rw [← I.len]; simp))
      exact ⟨I.noF hp, vs, upd_same, rv.mono x.le⟩
    | false =>
      rw [if_neg Bool.false_ne_true] at h
      have x := Xt.still I (o := .lst vs) hp
      exact h _ _ _ x (I.still hp) _ (.lst upd_same (rv.mono x.le))
  · exact h.elim
theorem mkT_len (h : PoE g W H F c (mkT cs ds) Q) (rv : RVs g F c vs ds) : vs.length ≤ sizeLine := by
  unfold mkT at h
  split at h
  · rw [rv.length]; assumption
  · exact h.elim
theorem mkT_ok (I : Ih g H F c cs) (rv : RVs g F c vs ds) (h : PoE g W H F c (mkT cs ds) Q) {p : Addr} (hp : H p = none) : Q (.ref p) (upd H p (.tup vs)) := by
  unfold mkT at h
  split at h
  · have x := Xt.still I (o := .tup vs) hp
    exact h _ _ _ x (I.still hp) _ (.tup upd_same (rv.mono x.le))
  · exact h.elim
end
def eList (md : Bool) (a : MA) : ME := fun env cs => (a env cs).bind fun ds cs1 => mkL md cs1 ds
def eTup (a : MA) : ME := fun env cs => (a env cs).bind fun ds cs1 => mkT cs1 ds
section
variable {X : Cx} {W : WX} {pos : Pos} {es : List Expr} {ms : MA}
theorem xp_list (md : Bool) (h : Xa X W es ms) : Xp X W (.List es pos) (eList md ms) := by
  obtain ⟨t, p, s⟩ := h
  refine ⟨_, pe_lst p, fun σ env H F c cs Q re I po => ?_⟩
  refine s σ env H F c cs _ re I (PoA.cut po _ fun ds cs1 _ H1 F1 c1 vs x1 I1 rv po1 => ?_)
  exact ⟨mkL_len po1 rv, fun p hp => mkL_ok I1 rv po1 hp⟩
theorem xp_tup {x1} (h : Xa X W es ms) : Xp X W (.Tuple es x1 pos) (eTup ms) := by
  obtain ⟨t, p, s⟩ := h
  refine ⟨_, pe_tup p, fun σ env H F c cs Q re I po => ?_⟩
  refine s σ env H F c cs _ re I (PoA.cut po _ fun ds cs1 _ H1 F1 c1 vs x1 I1 rv po1 => ?_)
  exact ⟨mkT_len po1 rv, fun p hp => mkT_ok I1 rv po1 hp⟩
end
/-- what a list holds -/
def listOf (cs : Cells) : D → Option (List D)
  | .lst l => some l
  | .loc n => match cs[n]? with
    | some (.lst l) => some l
    | some (.fz (.lst l)) => some l
    | _ => none
  | _ => none
/-- .. a list, a tuple, the script -/
def seqOf (cs : Cells) : D → Option (List D)
  | .tup l => some l
  | .scr l => some (l.map .int)
  | d => listOf cs d
theorem rvs_ints {g : Gd} {F : Hp} {c : List Addr} : ∀ ns : List Int, RVs g F c (ns.map V.int) (ns.map D.int)
  | [] => .nil
  | n :: r => .cons (.int n) (rvs_ints r)
section
variable {g : Gd} {H F : Hp} {c : List Addr} {cs : Cells} {v : V} {d : D} {ds : List D}
theorem listOf_at (I : Ih g H F c cs) (r : RV g F c v d) (h : listOf cs d = some ds) : ∃ a vs, v = .ref a ∧ H a = some (.lst vs) ∧ RVs g F c vs ds := by
  cases r with
  | lst h1 h2 =>
    simp only [listOf, Option.some.injEq] at h
    subst h
    exact ⟨_, _, rfl, I.sub _ _ h1, h2⟩
  | @loc n a ha =>
    simp only [listOf] at h
    obtain ⟨x, hx⟩ := I.there ha
    have q := I.cell n a x ha hx
    rw [hx] at h
    cases x with
    | lst l =>
      simp only [Option.some.injEq] at h
      subst h
      obtain ⟨_, vs, h1, h2⟩ := q
      exact ⟨a, vs, rfl, h1, h2⟩
    | fz d =>
      cases d with
      | lst l =>
        simp only [Option.some.injEq] at h
        subst h
        obtain ⟨q1, _⟩ := q
        cases q1 with
        | lst h1 h2 => exact ⟨a, _, rfl, I.sub _ _ h1, h2⟩
      | _ => cases h
    | _ => cases h
  | _ => cases h
theorem SqL.up {K : PySem.W.Frag} (hs : ∀ a o, F a = some o → H a = some o) {a : Addr} {xs : List V} (h : SqL K F a xs) : SqL K H a xs := by
  rcases h with (h | ⟨o, h⟩) | h
  · exact .inl (.inl (hs _ _ h))
  · exact .inl (.inr ⟨o, hs _ _ h⟩)
  · exact .inr h
theorem seqOf_at (I : Ih g H F c cs) (r : RV g F c v d) (h : seqOf cs d = some ds) : ∃ a vs, v = .ref a ∧ (SqL g.K H a vs ∨ SqT g.K H a vs) ∧ RVs g F c vs ds := by
  have fl : listOf cs d = some ds → ∃ a vs, v = .ref a ∧ (SqL g.K H a vs ∨ SqT g.K H a vs) ∧ RVs g F c vs ds := fun h => by
    obtain ⟨a, vs, e, h1, h2⟩ := listOf_at I r h
    exact ⟨a, vs, e, .inl (.inl (.inl h1)), h2⟩
  cases d with
  | tup l =>
    simp only [seqOf, Option.some.injEq] at h
    subst h
    cases r with
    | tup h1 h2 => exact ⟨_, _, rfl, .inr (.inl (.inl (I.sub _ _ h1))), h2⟩
  | scr l =>
    simp only [seqOf, Option.some.injEq] at h
    subst h
    cases r with
    | scr h1 => exact ⟨_, _, rfl, .inl (SqL.up I.sub h1), rvs_ints _⟩
  | _ => exact fl h
end

/-! ### arithmetic, joining -/
def addD (md : Bool) (cs : Cells) (x y : D) : R := match x, y with
  | .int i, .int j => .ok (.int (i + j)) cs
  | .str a, .str b => if a.length + b.length ≤ sizeLine then .ok (.str (a ++ b)) cs else .stuck
  | .tup a, .tup b => mkT cs (a ++ b)
  | x, y => match listOf cs x, listOf cs y with
    | some a, some b => mkL md cs (a ++ b)
    | _, _ => .stuck
def subD (cs : Cells) (x y : D) : R := match x, y with
  | .int i, .int j => .ok (.int (i - j)) cs
  | _, _ => .stuck
abbrev big : Int := 18446744073709551616
def mulD (md : Bool) (cs : Cells) (x y : D) : R := match x, y with
  | .int i, .int j => if (-big < i ∧ i < big) ∨ (-big < j ∧ j < big) then .ok (.int (i * j)) cs else .stuck
  | .str a, .int j => if -1000 ≤ j ∧ j ≤ 1000 ∧ a.length ≤ 1000 then .ok (.str (List.replicate j.toNat a).flatten) cs else .stuck
  | x, .int k => match listOf cs x with
    | some a => if 0 ≤ k ∧ k ≤ 1000 ∧ a.length ≤ 1000 then mkL md cs (List.replicate k.toNat a).flatten else .stuck
    | none => .stuck
  | _, _ => .stuck
def fdivD (cs : Cells) (x y : D) : R := match x, y with
  | .int i, .int j => if 0 < j ∧ j < big then .ok (.int (i / j)) cs else .stuck
  | _, _ => .stuck
def modD (cs : Cells) (x y : D) : R := match x, y with
  | .int i, .int j => if 0 < j then .ok (.int (i % j)) cs else .stuck
  | _, _ => .stuck
def powD (cs : Cells) (x y : D) : R := match x, y with
  | .int i, .int j => if 0 ≤ j ∧ j ≤ 1000000 ∧ -big < i ∧ i < big then .ok (.int (i ^ j.toNat)) cs else .stuck
  | _, _ => .stuck
def negD (cs : Cells) : D → R
  | .int i => .ok (.int (-i)) cs
  | _ => .stuck

/-- a binary rule on two ints -/
theorem o2_ii {g : Gd} {C : Int → Int → Prop} {h : Int → Int → V} {f : Cells → D → D → R} (k : Int → Int → D) (hk : ∀ g F c i j, RV g F c (h i j) (k i j))
    (hf : ∀ cs d e, f cs d e = .stuck ∨ ∃ i j, d = .int i ∧ e = .int j ∧ C i j ∧ f cs d e = .ok (k i j) cs) : O2 g (fun x y H Q => ∃ i j, x = .int i ∧ y = .int j ∧ C i j ∧ Q (h i j) H) f := by
  intro W H F c cs x y d e Q I rx ry po
  rcases hf cs d e with q | ⟨i, j, rfl, rfl, hC, q⟩
  · rw [q] at po; exact po.elim
  · rw [q] at po
    cases rx; cases ry
    exact ⟨i, j, rfl, rfl, hC, PoE.here I (hk _ _ _ i j) po⟩
theorem o2_ii0 {g : Gd} {h : Int → Int → V} {f : Cells → D → D → R} (k : Int → Int → D) (hk : ∀ g F c i j, RV g F c (h i j) (k i j))
    (hf : ∀ cs d e, f cs d e = .stuck ∨ ∃ i j, d = .int i ∧ e = .int j ∧ f cs d e = .ok (k i j) cs) : O2 g (rI0 h) f := by
  intro W H F c cs x y d e Q I rx ry po
  rcases hf cs d e with q | ⟨i, j, rfl, rfl, q⟩
  · rw [q] at po; exact po.elim
  · rw [q] at po
    cases rx; cases ry
    exact ⟨i, j, rfl, rfl, PoE.here I (hk _ _ _ i j) po⟩
section
variable {X : Cx} {W : WX} {pos : Pos} {a b : Expr} {ma mb : ME}
theorem o2_sub {g : Gd} : O2 g (rI0 fun i j => .int (i - j)) subD := by
  refine o2_ii0 (fun i j => .int (i - j)) (fun _ _ _ _ _ => .int _) fun cs d e => ?_
  unfold subD
  split
  · exact .inr ⟨_, _, rfl, rfl, rfl⟩
  · exact .inl rfl
theorem xp_sub (ha : Xp X W a ma) (hb : Xp X W b mb) : Xp X W (.BinOp a .Sub b pos) (op2 subD ma mb) := xp_op op_sub o2_sub ha hb
theorem log2_big {j : Int} (h0 : 0 < j) (h1 : j < big) : j.natAbs.log2 < 9000 := by
  have : j.natAbs < 2 ^ 64 := by have : (2 : Nat) ^ 64 = 18446744073709551616 := by decide
                                 unfold big at h1; omega
  have := Nat.log2_lt (n := j.natAbs) (k := 64) (by omega) |>.mpr this
  omega
theorem o2_fdiv {g : Gd} : O2 g (rI CDivW fun i j => .int (i / j)) fdivD := by
  refine o2_ii (fun i j => .int (i / j)) (fun _ _ _ _ _ => .int _) fun cs d e => ?_
  unfold fdivD
  split
  · split
    · rename_i h
      exact .inr ⟨_, _, rfl, rfl, ⟨h.1, log2_big h.1 h.2⟩, rfl⟩
    · exact .inl rfl
  · exact .inl rfl
theorem xp_fdiv (ha : Xp X W a ma) (hb : Xp X W b mb) : Xp X W (.BinOp a .FloorDiv b pos) (op2 fdivD ma mb) := xp_op op_fdivW o2_fdiv ha hb
theorem o2_mod {g : Gd} : O2 g (rI (fun _ j => 0 < j) fun i j => .int (i % j)) modD := by
  refine o2_ii (fun i j => .int (i % j)) (fun _ _ _ _ _ => .int _) fun cs d e => ?_
  unfold modD
  split
  · split
    · exact .inr ⟨_, _, rfl, rfl, by assumption, rfl⟩
    · exact .inl rfl
  · exact .inl rfl
theorem xp_mod (ha : Xp X W a ma) (hb : Xp X W b mb) : Xp X W (.BinOp a .Mod b pos) (op2 modD ma mb) := xp_op op_mod o2_mod ha hb
theorem o2_pow {g : Gd} : O2 g (rI CPow fun i j => .int (i ^ j.toNat)) powD := by
  refine o2_ii (fun i j => .int (i ^ j.toNat)) (fun _ _ _ _ _ => .int _) fun cs d e => ?_
  unfold powD
  split
  · split
    · rename_i h
      refine .inr ⟨_, _, rfl, rfl, ⟨h.1, h.2.1, ?_⟩, rfl⟩
      have : (2 : Nat) ^ 64 = 18446744073709551616 := by decide
      unfold big at h; omega
    · exact .inl rfl
  · exact .inl rfl
theorem xp_pow (ha : Xp X W a ma) (hb : Xp X W b mb) : Xp X W (.BinOp a .Pow b pos) (op2 powD ma mb) := xp_op op_pow o2_pow ha hb
theorem o1_neg {g : Gd} : O1 g (rU fun i => .int (-i)) negD := by
  intro W H F c cs x d Q I rx po
  cases d with
  | int i => cases rx; exact ⟨i, rfl, PoE.here I (.int _) po⟩
  | _ => exact po.elim
theorem xp_neg (ha : Xp X W a ma) : Xp X W (.UnaryOp .USub a pos) (op1 negD ma) := xp_un un_neg o1_neg ha

def rAddAll (K : PySem.W.Frag) : R2 := fun x y H Q => rI0 (fun i j => .int (i + j)) x y H Q ∨ (∃ i j, x = .str i ∧ y = .str j ∧ i.length + j.length ≤ sizeLine ∧ Q (.str (i ++ j)) H) ∨ rCatA K x y H Q ∨ rCat x y H Q
theorem op_addAll : OpR X (binaryOp .Add) (rAddAll X.K) := op_add.or (op_add_str.or (op_catA.or op_cat))
theorem str_app (a b : List Nat) : ((⟨a.toArray⟩ : Str) ++ (⟨b.toArray⟩ : Str)) = ⟨(a ++ b).toArray⟩ := by
  show Str.append _ _ = _
  unfold Str.append
  simp
theorem str_len (a : List Nat) : (⟨a.toArray⟩ : Str).length = a.length := by
  unfold Str.length
  simp
theorem o2_add {g : Gd} (md : Bool) : O2 g (rAddAll g.K) (addD md) := by
  intro W H F c cs x y d e Q I rx ry po
  unfold addD at po
  split at po
  · cases rx; cases ry
    exact .inl ⟨_, _, rfl, rfl, PoE.here I (.int _) po⟩
  · split at po
    · cases rx; cases ry
      refine .inr (.inl ⟨_, _, rfl, rfl, by rw [str_len, str_len]; assumption, ?_⟩)
      rw [str_app]
      exact PoE.here I (.str _) po
    · exact po.elim
  · rename_i l m
    cases rx with
    | tup h1 h2 =>
      cases ry with
      | tup h3 h4 =>
        have rv := h2.append h4
        have len := mkT_len po rv
        rw [List.length_append] at len
        refine .inr (.inr (.inl ⟨_, _, _, _, rfl, rfl, .inl (.inl (I.sub _ _ h1)), .inl (.inl (I.sub _ _ h3)), len, fun e => ?_, fun ne e => ?_, fun _ _ p hp => mkT_ok I rv po hp⟩))
        · subst e
          cases h2
          unfold mkT at po
          split at po
          · exact po _ _ _ (Xt.refl _ _ _) I _ (.tup h3 h4)
          · exact po.elim
        · subst e
          cases h4
          unfold mkT at po
          split at po
          · rw [List.append_nil] at po
            exact po _ _ _ (Xt.refl _ _ _) I _ (.tup h1 h2)
          · exact po.elim
  · split at po
    · rename_i l1 l2 e1 e2
      obtain ⟨p1, vs1, rfl, g1, r1⟩ := listOf_at I rx e1
      obtain ⟨p2, vs2, rfl, g2, r2⟩ := listOf_at I ry e2
      have rv := r1.append r2
      have len := mkL_len po rv
      rw [List.length_append] at len
      exact .inr (.inr (.inr ⟨_, _, _, _, rfl, rfl, g1, g2, len, fun p hp => mkL_ok I rv po hp⟩))
    · exact po.elim
theorem xp_add (md : Bool) (ha : Xp X W a ma) (hb : Xp X W b mb) : Xp X W (.BinOp a .Add b pos) (op2 (addD md) ma mb) := xp_op op_addAll (o2_add md) ha hb
end
end L3

namespace L3
open PySem L2

section
variable {X : Cx}
theorem pe_orE {e : Expr} {t u : TE} (a : PE X e t) (b : PE X e u) : PE X e (fun σ H Q => t σ H Q ∨ u σ H Q) := ⟨fun pins s σ H Q I h => h.elim (a.run pins s σ H Q I) (b.run pins s σ H Q I)⟩
theorem pt_orE {e : Expr} {t u : TT} (a : PT X e t) (b : PT X e u) : PT X e (fun σ H Q => t σ H Q ∨ u σ H Q) := ⟨fun pins s σ H Q I h => h.elim (a.run pins s σ H Q I) (b.run pins s σ H Q I)⟩
theorem pi_orE {tg e : Expr} {t u : TI} (a : PI X tg e t) (b : PI X tg e u) : PI X tg e (fun σ H R => t σ H R ∨ u σ H R) := ⟨fun pins s σ H R I h => h.elim (a.run pins s σ H R I) (b.run pins s σ H R I)⟩
/-- text * int -/
theorem op_mulS : OpR X (binaryOp .Mult) (fun x y H Q => ∃ (l : List Nat) (j : Int), x = .str ⟨l.toArray⟩ ∧ y = .int j ∧ -1000 ≤ j ∧ j ≤ 1000 ∧ l.length ≤ 1000 ∧ Q (.str ⟨(List.replicate j.toNat l).flatten.toArray⟩) H) := by
  intro pins s σ H x y v u Q I rx ry h
  obtain ⟨l, j, rfl, rfl, h2, h3, h5, q⟩ := h
  obtain ⟨t, rfl⟩ := rx
  obtain ⟨t2, rfl⟩ := ry
  have hlen : (⟨l.toArray⟩ : Str).length = l.length := str_len l
  have hfold : ∀ (n : Nat) (acc : Array Nat), (List.replicate n (⟨l.toArray⟩ : Str).cps).foldl (· ++ ·) acc = acc ++ (List.replicate n l).flatten.toArray := by
    intro n
    induction n with
    | zero => intro acc; simp
    | succ n ih => intro acc; simp only [List.replicate_succ, List.foldl_cons, ih, List.flatten_cons]; simp [Array.append_assoc]
  refine PySem.P.mul_str (by simp; omega) (fun h1 _ => ?_) (fun h1 _ => ?_) ?_
  · rw [hlen]
    have : (2 ^ 63 - 1) / j ≥ 1000 := by
      have h := Int.ediv_le_ediv (a := 1000 * j) (b := 2 ^ 63 - 1) (c := j) (by omega) (by omega)
      rw [Int.mul_ediv_cancel _ (by omega)] at h
      exact h
    exact Int.not_lt.mpr (Int.le_trans (by omega : (l.length : Int) ≤ 1000) this)
  · rw [hlen]
    have hmul : l.length * j.toNat ≤ 1000 * 1000 := Nat.mul_le_mul h5 (by omega)
    have : Builtin.Str.tooLong (l.length * j.toNat) = decide (l.length * j.toNat > 16777216) := by rfl
    rw [this]
    simp; omega
  · by_cases h1 : j < 1
    · rw [if_pos h1]
      have : j.toNat = 0 := by omega
      rw [this] at q
      refine ⟨by decide, .str _, H, I.tok _, ⟨_, rfl⟩, q⟩
    · rw [if_neg h1, hlen]
      by_cases h4 : (j == 1 || l.length == 0) = true
      · rw [if_pos h4]
        refine ⟨.str _, H, I, ⟨_, rfl⟩, ?_⟩
        simp only [Bool.or_eq_true, beq_iff_eq] at h4
        rcases h4 with h4 | h4
        · subst h4
          simpa using q
        · have : l = [] := List.length_eq_zero_iff.mp h4
          subst this
          have e : (List.replicate j.toNat ([] : List Nat)).flatten = [] := by simp
          rw [e] at q
          exact q
      · rw [if_neg h4]
        have hmul : l.length * j.toNat ≤ 1000 * 1000 := Nat.mul_le_mul h5 (by omega)
        refine ⟨?_, ?_⟩
        · rw [hfold]
          show ((#[] : Array Nat) ++ _).size ≤ sizeLine
          rw [show sizeLine = 16777216 from sizeLine_eq]
          simp
          rw [Nat.mul_comm]
          omega
        · refine ⟨.str _, H, I.tok _, ⟨_, rfl⟩, ?_⟩
          rw [hfold]
          simpa using q
end

/-! ### multiplication -/
section
variable {X : Cx} {W : WX} {pos : Pos} {a b c : Expr} {ma mb mc : ME}
def rMulAll : R2 := fun x y H Q => rI CMul (fun i j => .int (i * j)) x y H Q ∨ (∃ (l : List Nat) (j : Int), x = .str ⟨l.toArray⟩ ∧ y = .int j ∧ -1000 ≤ j ∧ j ≤ 1000 ∧ l.length ≤ 1000 ∧ Q (.str ⟨(List.replicate j.toNat l).flatten.toArray⟩) H) ∨ rRep x y H Q
theorem op_mulAll : OpR X (binaryOp .Mult) rMulAll := op_mul.or (op_mulS.or op_rep)
theorem rvs_rep {g : Gd} {F : Hp} {c : List Addr} {vs : List V} {ds : List D} (r : RVs g F c vs ds) : ∀ n : Nat, RVs g F c (List.replicate n vs).flatten (List.replicate n ds).flatten
  | 0 => .nil
  | n + 1 => by simp only [List.replicate_succ, List.flatten_cons]; exact r.append (rvs_rep r n)
theorem rep_len (n : Nat) (vs : List V) : (List.replicate n vs).flatten.length = n * vs.length := by
  induction n with
  | zero => simp
  | succ n ih => simp only [List.replicate_succ, List.flatten_cons, List.length_append, ih, Nat.succ_mul]; omega
theorem o2_mul {g : Gd} (md : Bool) : O2 g rMulAll (mulD md) := by
  intro W H F c cs x y d e Q I rx ry po
  unfold mulD at po
  split at po
  · split at po
    · rename_i h
      cases rx; cases ry
      have p : (2 : Int) ^ 64 = 18446744073709551616 := by decide
      refine .inl ⟨_, _, rfl, rfl, ?_, PoE.here I (.int _) po⟩
      unfold CMul
      unfold big at h
      rw [p]; exact h
    · exact po.elim
  · split at po
    · rename_i h
      cases rx; cases ry
      exact .inr (.inl ⟨_, _, rfl, rfl, h.1, h.2.1, h.2.2, PoE.here I (.str _) po⟩)
    · exact po.elim
  · split at po
    · rename_i h1
      split at po
      · rename_i h2
        obtain ⟨p1, vs1, rfl, g1, r1⟩ := listOf_at I rx h1
        cases ry
        have rv := rvs_rep r1 ‹Int›.toNat
        have len := mkL_len po rv
        rw [rep_len] at len
        exact .inr (.inr ⟨_, _, _, rfl, rfl, g1, by omega, by omega, by rw [Nat.mul_comm]; exact len, fun p hp => mkL_ok I rv po hp⟩)
      · exact po.elim
    · exact po.elim
  · exact po.elim
theorem xp_mul (md : Bool) (ha : Xp X W a ma) (hb : Xp X W b mb) : Xp X W (.BinOp a .Mult b pos) (op2 (mulD md) ma mb) := xp_op op_mulAll (o2_mul md) ha hb
end

/-! ### equality -/
mutual
def py0 : D → Option PyData
  | .non => some .none
  | .bl b => some (.bool b)
  | .int i => some (.int i)
  | .str l => some (.str ⟨l.toArray⟩)
  | .lst l => (py0s l).map .list
  | .tup l => (py0s l).map .tuple
  | .dct l => (py0k l).map .dict
  | .scr _ => none
  | .obj _ _ => none
  | .loc _ => none
def py0s : List D → Option (List PyData)
  | [] => some []
  | d :: r => match py0 d, py0s r with
    | some p, some q => some (p :: q)
    | _, _ => none
def py0k : List (Kd × D) → Option (List (PyData × PyData))
  | [] => some []
  | (k, d) :: r => match py0 d, py0k r with
    | some p, some q => some (((match k with | .inl i => PyData.int i | .inr l => PyData.str ⟨l.toArray⟩), p) :: q)
    | _, _ => none
end
def pyOf (cs : Cells) : D → Option PyData
  | .loc n => match cs[n]? with
    | some (.lst l) => (py0s l).map .list
    | some (.dct l) => (py0k l).map .dict
    | some (.fz d) => py0 d
    | _ => none
  | d => py0 d
mutual
def noDict : PyData → Bool
  | .list xs | .tuple xs => noDicts xs
  | .dict _ => false
  | _ => true
def noDicts : List PyData → Bool
  | [] => true
  | x :: xs => noDict x && noDicts xs
end
mutual
theorem noDict_of : ∀ {p : PyData}, p.canLay0 = true → noDict p = true
  | .none, _ => rfl
  | .bool _, _ => rfl
  | .int _, _ => rfl
  | .str _, _ => rfl
  | .list xs, h => noDicts_of (by simpa [PyData.canLay0] using h)
  | .tuple xs, h => noDicts_of (by simpa [PyData.canLay0] using h)
  | .dict _, h => by simp [PyData.canLay0] at h
theorem noDicts_of : ∀ {p : List PyData}, PyData.canLayAll0 p = true → noDicts p = true
  | [], _ => rfl
  | x :: xs, h => by
    simp only [PyData.canLayAll0, Bool.and_eq_true] at h
    simp only [noDicts, noDict_of h.1, noDicts_of h.2, Bool.and_self]
end
section
variable {g : Gd} {H F : Hp} {c : List Addr} {cs : Cells}
mutual
theorem py0_dp (hs : ∀ a o, F a = some o → H a = some o) : ∀ {v : V} {d : D} {p : PyData}, RV g F c v d → py0 d = some p → noDict p = true → Dp g.K H v p
  | _, _, _, .non, h, _ => by simp only [py0, Option.some.injEq] at h; subst h; exact .non
  | _, _, _, .bl b, h, _ => by simp only [py0, Option.some.injEq] at h; subst h; exact .bl b
  | _, _, _, .int i, h, _ => by simp only [py0, Option.some.injEq] at h; subst h; exact .int i
  | _, _, _, .str l, h, _ => by simp only [py0, Option.some.injEq] at h; subst h; exact .str _
  | _, _, _, .lst h1 h2, h, n => by
    simp only [py0, Option.map_eq_some_iff] at h
    obtain ⟨q, e, rfl⟩ := h
    exact .lst (.inl (.inl (hs _ _ h1))) (py0s_dp hs h2 e n)
  | _, _, _, .tup h1 h2, h, n => by
    simp only [py0, Option.map_eq_some_iff] at h
    obtain ⟨q, e, rfl⟩ := h
    exact .tup (.inl (.inl (hs _ _ h1))) (py0s_dp hs h2 e n)
  | _, _, _, .dct h1 h2, h, n => by
    simp only [py0, Option.map_eq_some_iff] at h
    obtain ⟨q, e, rfl⟩ := h
    cases n
  | _, _, _, .scr _, h, _ => by simp [py0] at h
  | _, _, _, .obj _ _ _, h, _ => by simp [py0] at h
  | _, _, _, .loc _, h, _ => by simp [py0] at h
theorem py0s_dp (hs : ∀ a o, F a = some o → H a = some o) : ∀ {v : List V} {d : List D} {p : List PyData}, RVs g F c v d → py0s d = some p → noDicts p = true → DpAll g.K H v p
  | _, _, _, .nil, h, _ => by simp only [py0s, Option.some.injEq] at h; subst h; exact .nil
  | _, _, _, .cons a b, h, n => by
    simp only [py0s] at h
    split at h
    · rename_i e1 e2
      simp only [Option.some.injEq] at h
      subst h
      simp only [noDicts, Bool.and_eq_true] at n
      exact .cons (py0_dp hs a e1 n.1) (py0s_dp hs b e2 n.2)
    · cases h
end
theorem pyOf_dp (I : Ih g H F c cs) {v : V} {d : D} {p : PyData} (r : RV g F c v d) (h : pyOf cs d = some p) (n : noDict p = true) : Dp g.K H v p := by
  cases r with
  | @loc k a ha =>
    simp only [pyOf] at h
    obtain ⟨x, hx⟩ := I.there ha
    have q := I.cell k a x ha hx
    rw [hx] at h
    cases x with
    | lst l =>
      simp only [Option.map_eq_some_iff] at h
      obtain ⟨y, e, rfl⟩ := h
      obtain ⟨_, vs, h1, h2⟩ := q
      exact .lst (.inl (.inl h1)) (py0s_dp I.sub h2 e n)
    | dct l =>
      simp only [Option.map_eq_some_iff] at h
      obtain ⟨y, e, rfl⟩ := h
      cases n
    | fz d => exact py0_dp I.sub q.1 h n
    | set l => cases h
    | ins n l => cases h
  | non => exact py0_dp (c := c) I.sub .non h n
  | bl b => exact py0_dp (c := c) I.sub (.bl b) h n
  | int i => exact py0_dp (c := c) I.sub (.int i) h n
  | str l => exact py0_dp (c := c) I.sub (.str l) h n
  | lst a b => exact py0_dp I.sub (.lst a b) h n
  | tup a b => exact py0_dp I.sub (.tup a b) h n
  | dct a b => exact py0_dp I.sub (.dct a b) h n
  | scr a => exact py0_dp (c := c) I.sub (.scr a) h n
  | obj a b e => exact py0_dp I.sub (.obj a b e) h n
end
def eqB (cs : Cells) (d e : D) : Option Bool := match d, e with
  | .str a, .str b => some (decide (a = b))
  | .int i, .int j => some (decide (i = j))
  | .bl a, .bl b => some (decide (a = b))
  | d, e => match pyOf cs d, pyOf cs e with
    | some p, some q => if SeqAt.shaped p && SeqAt.shaped q then some (PyData.eqv p q) else none
    | _, _ => none
def eqD (cs : Cells) (d e : D) : R := match eqB cs d e with
  | some b => .ok (.bl b) cs
  | none => .stuck
def neD (cs : Cells) (d e : D) : R := match eqB cs d e with
  | some b => .ok (.bl !b) cs
  | none => .stuck
theorem str_eq (a b : List Nat) : decide ((V.str ⟨a.toArray⟩ : V) = V.str ⟨b.toArray⟩) = decide (a = b) := by
  by_cases h : a = b
  · simp [h]
  · have : ¬ (V.str ⟨a.toArray⟩ : V) = V.str ⟨b.toArray⟩ := fun e => h (by simpa using e)
    simp [h, this]
section
variable {X : Cx} {W : WX} {pos : Pos} {a b c : Expr} {ma mb mc : ME}
theorem o2_eq {g : Gd} : O2 g (fun x y H Q => rEq x y H Q ∨ rEqD g.K x y H Q) eqD := by
  intro W H F c cs x y d e Q I rx ry po
  unfold eqD eqB at po
  split at po
  · rename_i b hb
    split at hb
    · simp only [Option.some.injEq] at hb
      subst hb
      cases rx; cases ry
      exact .inl ⟨rfl, by rw [str_eq]; exact PoE.here I (.bl _) po⟩
    · simp only [Option.some.injEq] at hb
      subst hb
      cases rx; cases ry
      exact .inl ⟨rfl, by simpa using PoE.here I (.bl _) po⟩
    · simp only [Option.some.injEq] at hb
      subst hb
      cases rx; cases ry
      exact .inl ⟨rfl, by simpa using PoE.here I (.bl _) po⟩
    · split at hb
      · rename_i p q e1 e2
        split at hb
        · rename_i sh
          simp only [Bool.and_eq_true] at sh
          simp only [Option.some.injEq] at hb
          subst hb
          exact .inr ⟨p, q, pyOf_dp I rx e1 (noDict_of (SeqAt.canLay_of_shaped sh.1)), pyOf_dp I ry e2 (noDict_of (SeqAt.canLay_of_shaped sh.2)), sh.1, sh.2, PoE.here I (.bl _) po⟩
        · cases hb
      · cases hb
  · exact po.elim
theorem o2_ne {g : Gd} : O2 g (fun x y H Q => rNe x y H Q ∨ rNeD g.K x y H Q) neD := by
  intro W H F c cs x y d e Q I rx ry po
  unfold neD eqB at po
  split at po
  · rename_i b hb
    split at hb
    · simp only [Option.some.injEq] at hb
      subst hb
      cases rx; cases ry
      exact .inl ⟨rfl, by rw [str_eq]; exact PoE.here I (.bl _) po⟩
    · simp only [Option.some.injEq] at hb
      subst hb
      cases rx; cases ry
      exact .inl ⟨rfl, by simpa using PoE.here I (.bl _) po⟩
    · simp only [Option.some.injEq] at hb
      subst hb
      cases rx; cases ry
      exact .inl ⟨rfl, by simpa using PoE.here I (.bl _) po⟩
    · split at hb
      · rename_i p q e1 e2
        split at hb
        · rename_i sh
          simp only [Bool.and_eq_true] at sh
          simp only [Option.some.injEq] at hb
          subst hb
          exact .inr ⟨p, q, pyOf_dp I rx e1 (noDict_of (SeqAt.canLay_of_shaped sh.1)), pyOf_dp I ry e2 (noDict_of (SeqAt.canLay_of_shaped sh.2)), sh.1, sh.2, PoE.here I (.bl _) po⟩
        · cases hb
      · cases hb
  · exact po.elim
theorem xp_eq (hu : X.A.units + 64 < cLine) (ha : Xp X W a ma) (hb : Xp X W b mb) (hm : behindInMarks .Eq b = false := by exact nomark _) : Xp X W (.Compare a [.Eq] [b] pos) (op2 eqD ma mb) := xp_cmp (op_eq.or (op_eqD hu)) o2_eq ha hb hm
theorem xp_ne (hu : X.A.units + 64 < cLine) (ha : Xp X W a ma) (hb : Xp X W b mb) (hm : behindInMarks .NotEq b = false := by exact nomark _) : Xp X W (.Compare a [.NotEq] [b] pos) (op2 neD ma mb) := xp_cmp (op_ne.or (op_neD hu)) o2_ne ha hb hm
/-- a comparison as a test -/
theorem xt_cmp {op : CmpOp} {r : R2} {f : Cells → D → D → R} (h : OpR X (compareOp op) r) (o : O2 (gd X) r f) (ha : Xp X W a ma) (hb : Xp X W b mb) (hm : behindInMarks op b = false) : Xt1 X W (.Compare a [op] [b] pos) (op2 f ma mb) := by
  obtain ⟨ta, pa, sa⟩ := ha
  obtain ⟨tb, pb, sb⟩ := hb
  refine ⟨_, pt_cmpR h pa pb hm, fun σ env H F c cs Q re I po => ?_⟩
  refine sim2 sa sb o re I (Q := fun x H' => ∃ k, x = .bl k ∧ Q k H') ?_
  cases e : op2 f ma mb env cs with
  | ok d cs1 =>
    rw [e] at po
    cases d with
    | bl b => exact fun H' F' c' x I' v rv => by cases rv; exact ⟨b, rfl, po H' F' c' x I'⟩
    | _ => exact po.elim
  | exc n fs cs1 => rw [e] at po; exact po
  | stuck => rw [e] at po; exact po.elim
theorem xt_eq (hu : X.A.units + 64 < cLine) (ha : Xp X W a ma) (hb : Xp X W b mb) (hm : behindInMarks .Eq b = false := by exact nomark _) : Xt1 X W (.Compare a [.Eq] [b] pos) (op2 eqD ma mb) := xt_cmp (op_eq.or (op_eqD hu)) o2_eq ha hb hm
theorem xt_ne (hu : X.A.units + 64 < cLine) (ha : Xp X W a ma) (hb : Xp X W b mb) (hm : behindInMarks .NotEq b = false := by exact nomark _) : Xt1 X W (.Compare a [.NotEq] [b] pos) (op2 neD ma mb) := xt_cmp (op_ne.or (op_neD hu)) o2_ne ha hb hm

/-! ### order -/
def ltD (cs : Cells) (d e : D) : R := match d, e with
  | .int i, .int j => .ok (.bl (decide (i < j))) cs
  | _, _ => .stuck
def leD (cs : Cells) (d e : D) : R := match d, e with
  | .int i, .int j => .ok (.bl (decide (i ≤ j))) cs
  | _, _ => .stuck
def gtD (cs : Cells) (d e : D) : R := match d, e with
  | .int i, .int j => .ok (.bl (decide (j < i))) cs
  | _, _ => .stuck
def geD (cs : Cells) (d e : D) : R := match d, e with
  | .int i, .int j => .ok (.bl (decide (j ≤ i))) cs
  | _, _ => .stuck
theorem o2_lt {g : Gd} : O2 g (rI0 fun i j => .bl (decide (i < j))) ltD := by
  refine o2_ii0 (fun i j => .bl (decide (i < j))) (fun _ _ _ _ _ => .bl _) fun cs d e => ?_
  unfold ltD
  split
  · exact .inr ⟨_, _, rfl, rfl, rfl⟩
  · exact .inl rfl
theorem o2_le {g : Gd} : O2 g (rI0 fun i j => .bl (decide (i ≤ j))) leD := by
  refine o2_ii0 (fun i j => .bl (decide (i ≤ j))) (fun _ _ _ _ _ => .bl _) fun cs d e => ?_
  unfold leD
  split
  · exact .inr ⟨_, _, rfl, rfl, rfl⟩
  · exact .inl rfl
theorem o2_gt {g : Gd} : O2 g (rI0 fun i j => .bl (decide (j < i))) gtD := by
  refine o2_ii0 (fun i j => .bl (decide (j < i))) (fun _ _ _ _ _ => .bl _) fun cs d e => ?_
  unfold gtD
  split
  · exact .inr ⟨_, _, rfl, rfl, rfl⟩
  · exact .inl rfl
theorem o2_ge {g : Gd} : O2 g (rI0 fun i j => .bl (decide (j ≤ i))) geD := by
  refine o2_ii0 (fun i j => .bl (decide (j ≤ i))) (fun _ _ _ _ _ => .bl _) fun cs d e => ?_
  unfold geD
  split
  · exact .inr ⟨_, _, rfl, rfl, rfl⟩
  · exact .inl rfl
theorem xp_lt (ha : Xp X W a ma) (hb : Xp X W b mb) (hm : behindInMarks .Lt b = false := by exact nomark _) : Xp X W (.Compare a [.Lt] [b] pos) (op2 ltD ma mb) := xp_cmp op_lt o2_lt ha hb hm
theorem xt_lt (ha : Xp X W a ma) (hb : Xp X W b mb) (hm : behindInMarks .Lt b = false := by exact nomark _) : Xt1 X W (.Compare a [.Lt] [b] pos) (op2 ltD ma mb) := xt_cmp op_lt o2_lt ha hb hm
theorem xp_le (ha : Xp X W a ma) (hb : Xp X W b mb) (hm : behindInMarks .LtE b = false := by exact nomark _) : Xp X W (.Compare a [.LtE] [b] pos) (op2 leD ma mb) := xp_cmp op_le o2_le ha hb hm
theorem xt_le (ha : Xp X W a ma) (hb : Xp X W b mb) (hm : behindInMarks .LtE b = false := by exact nomark _) : Xt1 X W (.Compare a [.LtE] [b] pos) (op2 leD ma mb) := xt_cmp op_le o2_le ha hb hm
theorem xp_gt (ha : Xp X W a ma) (hb : Xp X W b mb) (hm : behindInMarks .Gt b = false := by exact nomark _) : Xp X W (.Compare a [.Gt] [b] pos) (op2 gtD ma mb) := xp_cmp op_gt o2_gt ha hb hm
theorem xt_gt (ha : Xp X W a ma) (hb : Xp X W b mb) (hm : behindInMarks .Gt b = false := by exact nomark _) : Xt1 X W (.Compare a [.Gt] [b] pos) (op2 gtD ma mb) := xt_cmp op_gt o2_gt ha hb hm
theorem xp_ge (ha : Xp X W a ma) (hb : Xp X W b mb) (hm : behindInMarks .GtE b = false := by exact nomark _) : Xp X W (.Compare a [.GtE] [b] pos) (op2 geD ma mb) := xp_cmp op_ge o2_ge ha hb hm
theorem xt_ge (ha : Xp X W a ma) (hb : Xp X W b mb) (hm : behindInMarks .GtE b = false := by exact nomark _) : Xt1 X W (.Compare a [.GtE] [b] pos) (op2 geD ma mb) := xt_cmp op_ge o2_ge ha hb hm

/-! ### a < b < c -/
def eChain (f f' : Cells → D → D → R) (a b c : ME) : ME := fun env cs => (a env cs).bind fun x cs1 => (b env cs1).bind fun y cs2 => (f cs2 x y).bind fun z cs3 => brD z cs3 (fun cs4 => (c env cs4).bind fun w cs5 => f' cs5 y w) fun cs4 => .ok (.bl false) cs4
theorem simChain {ta tb tc : TE} {r r' : R2} {f f' : Cells → D → D → R} {σ : L2.St} {env : Env} {H F : Hp} {c : List Addr} {cs : Cells} {Q : VK}
    (ha : ∀ σ env H F c cs Q, RE (gd X) F c σ env → Ih (gd X) H F c cs → PoE (gd X) (fun a b => W a b σ) H F c (ma env cs) Q → ta σ H Q)
    (hb : ∀ σ env H F c cs Q, RE (gd X) F c σ env → Ih (gd X) H F c cs → PoE (gd X) (fun a b => W a b σ) H F c (mb env cs) Q → tb σ H Q)
    (hc : ∀ σ env H F c cs Q, RE (gd X) F c σ env → Ih (gd X) H F c cs → PoE (gd X) (fun a b => W a b σ) H F c (mc env cs) Q → tc σ H Q)
    (ho : O2 (gd X) r f) (ho' : O2 (gd X) r' f') (re : RE (gd X) F c σ env) (I : Ih (gd X) H F c cs) (po : PoE (gd X) (fun a b => W a b σ) H F c (eChain f f' ma mb mc env cs) Q) : tChain r r' ta tb tc σ H Q := by
  refine ha σ env H F c cs _ re I (PoE.cut po _ fun d cs1 _ H1 F1 c1 v x1 I1 rv po1 => ?_)
  refine hb σ env H1 F1 c1 cs1 _ (re.mono x1.le) I1 (PoE.cut po1 _ fun e cs2 _ H2 F2 c2 u x2 I2 ru po2 => ?_)
  refine ho _ H2 F2 c2 cs2 v u d e _ I2 (rv.mono x2.le) ru (PoE.cut po2 _ fun z cs3 _ H3 F3 c3 w x3 I3 rw' po3 => ?_)
  cases z with
  | bl k =>
    cases rw'
    cases k with
    | true =>
      refine ⟨true, rfl, iteT ?_⟩
      refine hc σ env H3 F3 c3 cs3 _ (((re.mono x1.le).mono x2.le).mono x3.le) I3 (PoE.cut po3 _ fun z2 cs4 _ H4 F4 c4 w2 x4 I4 rw2 po4 => ?_)
      exact ho' _ H4 F4 c4 cs4 u w2 e z2 Q I4 ((ru.mono x3.le).mono x4.le) rw2 po4
    | false => exact ⟨false, rfl, iteF (PoE.here I3 (.bl false) po3)⟩
  | _ => exact po3.elim
theorem xp_chain {op op' : CmpOp} {r r' : R2} {f f' : Cells → D → D → R} (h : OpR X (compareOp op) r) (o : O2 (gd X) r f) (h' : OpR X (compareOp op') r') (o' : O2 (gd X) r' f') (ha : Xp X W a ma) (hb : Xp X W b mb) (hc : Xp X W c mc) (hm : lastMarks [op, op'] [b, c] = false := by with_unfolding_all rfl) : Xp X W (.Compare a [op, op'] [b, c] pos) (eChain f f' ma mb mc) := by
  obtain ⟨ta, pa, sa⟩ := ha
  obtain ⟨tb, pb, sb⟩ := hb
  obtain ⟨tc, pc, sc⟩ := hc
  exact ⟨_, pe_chain h h' pa pb pc hm, fun σ env H F c cs Q re I po => simChain sa sb sc o o' re I po⟩
theorem xt_chain {op op' : CmpOp} {r r' : R2} {f f' : Cells → D → D → R} (h : OpR X (compareOp op) r) (o : O2 (gd X) r f) (h' : OpR X (compareOp op') r') (o' : O2 (gd X) r' f') (ha : Xp X W a ma) (hb : Xp X W b mb) (hc : Xp X W c mc) (hm : lastMarks [op, op'] [b, c] = false := by with_unfolding_all rfl) : Xt1 X W (.Compare a [op, op'] [b, c] pos) (eChain f f' ma mb mc) := by
  obtain ⟨ta, pa, sa⟩ := ha
  obtain ⟨tb, pb, sb⟩ := hb
  obtain ⟨tc, pc, sc⟩ := hc
  refine ⟨_, pt_chain h h' pa pb pc hm, fun σ env H F c cs Q re I po => ?_⟩
  refine simChain sa sb sc o o' re I (Q := fun x H' => ∃ k, x = .bl k ∧ Q k H') ?_
  cases e : eChain f f' ma mb mc env cs with
  | ok d cs1 =>
    rw [e] at po
    cases d with
    | bl b => exact fun H' F' c' x I' v rv => by cases rv; exact ⟨b, rfl, po H' F' c' x I'⟩
    | _ => exact po.elim
  | exc n fs cs1 => rw [e] at po; exact po
  | stuck => rw [e] at po; exact po.elim

/-! ### is -/
def isB (k : Option Bool) (cs : Cells) (d : D) : R := .ok (.bl (match k, d with
  | none, .non => true
  | some b, .bl b' => decide (b' = b)
  | _, _ => false)) cs
def isNB (k : Option Bool) (cs : Cells) (d : D) : R := .ok (.bl !(match k, d with
  | none, .non => true
  | some b, .bl b' => decide (b' = b)
  | _, _ => false)) cs
theorem rv_non {g : Gd} {F : Hp} {c : List Addr} {v : V} {d : D} (r : RV g F c v d) : decide (v = .non) = (match d with | .non => true | _ => false) := by
  cases r <;> rfl
theorem rv_bl {g : Gd} {F : Hp} {c : List Addr} {v : V} {d : D} (b : Bool) (r : RV g F c v d) : decide (v = .bl b) = (match d with | .bl b' => decide (b' = b) | _ => false) := by
  cases r <;> first | rfl | simp
theorem xp_isN {j} {p : Pos} (ha : Xp X W a ma) : Xp X W (.Compare a [.Is] [.Constant .none j p] pos) (op1 (isB none) ma) := by
  obtain ⟨ta, pa, sa⟩ := ha
  refine ⟨_, pe_cmp (pc_isN pa) rfl, fun σ env H F c cs Q re I po => ?_⟩
  refine sa σ env H F c cs _ re I (PoE.cut po _ fun d cs1 _ H1 F1 c1 v x1 I1 rv po1 => ?_)
  rw [rv_non rv]
  cases d <;> exact PoE.here I1 (.bl _) po1
theorem xp_notN {j} {p : Pos} (ha : Xp X W a ma) : Xp X W (.Compare a [.IsNot] [.Constant .none j p] pos) (op1 (isNB none) ma) := by
  obtain ⟨ta, pa, sa⟩ := ha
  refine ⟨_, pe_cmp (pc_notN pa) rfl, fun σ env H F c cs Q re I po => ?_⟩
  refine sa σ env H F c cs _ re I (PoE.cut po _ fun d cs1 _ H1 F1 c1 v x1 I1 rv po1 => ?_)
  rw [rv_non rv]
  cases d <;> exact PoE.here I1 (.bl _) po1
theorem op_isB {X : Cx} : OpR X (compareOp .Is) (fun x y H Q => ∃ b, y = .bl b ∧ Q (.bl (decide (x = .bl b))) H) := by
  intro pins s σ H x y v u Q I rx ry h
  obtain ⟨b, rfl, q⟩ := h
  cases (show u = Value.bool b from ry)
  have hp : plainIs v (.bool b) = true := by
    cases x <;> first | (cases (show v = _ from rx); rfl) | (obtain ⟨t, rfl⟩ := rx; rfl)
  by_cases e : x = .bl b
  · subst e
    cases (show v = Value.bool b from rx)
    exact wpAny_is_self hp ⟨.bl true, H, I, rfl, by simpa using q⟩
  · have ne : v ≠ .bool b := by
      rintro rfl
      cases x <;> first | (cases (show Value.bool b = _ from rx); try exact e rfl) | (obtain ⟨t, z⟩ := rx; cases z)
    exact wpAny_is_other hp ne ⟨.bl false, H, I, rfl, by simpa [e] using q⟩
theorem op_isNB {X : Cx} : OpR X (compareOp .IsNot) (fun x y H Q => ∃ b, y = .bl b ∧ Q (.bl (!decide (x = .bl b))) H) := by
  intro pins s σ H x y v u Q I rx ry h
  obtain ⟨b, rfl, q⟩ := h
  cases (show u = Value.bool b from ry)
  have hp : plainIs v (.bool b) = true := by
    cases x <;> first | (cases (show v = _ from rx); rfl) | (obtain ⟨t, rfl⟩ := rx; rfl)
  by_cases e : x = .bl b
  · subst e
    cases (show v = Value.bool b from rx)
    exact wpAny_isNot_self hp ⟨.bl false, H, I, rfl, by simpa using q⟩
  · have ne : v ≠ .bool b := by
      rintro rfl
      cases x <;> first | (cases (show Value.bool b = _ from rx); try exact e rfl) | (obtain ⟨t, z⟩ := rx; cases z)
    exact wpAny_isNot_other hp ne ⟨.bl true, H, I, rfl, by simpa [e] using q⟩
theorem xp_isB {j} {p : Pos} {b : Bool} (ha : Xp X W a ma) : Xp X W (.Compare a [.Is] [.Constant (.bool b) j p] pos) (op1 (isB (some b)) ma) := by
  obtain ⟨ta, pa, sa⟩ := ha
  refine ⟨_, pe_cmpR op_isB pa pe_bl (nomark _), fun σ env H F c cs Q re I po => ?_⟩
  refine sa σ env H F c cs _ re I (PoE.cut po _ fun d cs1 _ H1 F1 c1 v x1 I1 rv po1 => ?_)
  refine ⟨b, rfl, ?_⟩
  rw [rv_bl b rv]
  cases d <;> exact PoE.here I1 (.bl _) po1
theorem xp_isNB {j} {p : Pos} {b : Bool} (ha : Xp X W a ma) : Xp X W (.Compare a [.IsNot] [.Constant (.bool b) j p] pos) (op1 (isNB (some b)) ma) := by
  obtain ⟨ta, pa, sa⟩ := ha
  refine ⟨_, pe_cmpR op_isNB pa pe_bl (nomark _), fun σ env H F c cs Q re I po => ?_⟩
  refine sa σ env H F c cs _ re I (PoE.cut po _ fun d cs1 _ H1 F1 c1 v x1 I1 rv po1 => ?_)
  refine ⟨b, rfl, ?_⟩
  rw [rv_bl b rv]
  cases d <;> exact PoE.here I1 (.bl _) po1
/-- any comparison that is a value, as a test -/
theorem xt_of {t : TE} {op : CmpOp} (hp : PE X (.Compare a [op] [b] pos) t) : True := trivial
end
end L3

namespace L3
open PySem L2

/-! ### statements -/
def R.toS (r : R) (env : Env) (k : D → Cells → S) : S := match r with
  | .ok d cs => k d cs
  | .exc n fs cs => .exc n fs env cs
  | .stuck => .stuck
@[simp] theorem R.toS_ok (d : D) (cs : Cells) (env : Env) (k : D → Cells → S) : (R.ok d cs).toS env k = k d cs := rfl
@[simp] theorem R.toS_exc (n : Str) (fs : List (Str × D)) (cs : Cells) (env : Env) (k : D → Cells → S) : (R.exc n fs cs).toS env k = .exc n fs env cs := rfl
@[simp] theorem R.toS_stuck (env : Env) (k : D → Cells → S) : R.stuck.toS env k = .stuck := rfl
def S.bind (s : S) (k : Env → Cells → S) : S := match s with
  | .nx e c => k e c
  | s => s
@[simp] theorem S.bind_nx (e : Env) (c : Cells) (k : Env → Cells → S) : (S.nx e c).bind k = k e c := rfl
@[simp] theorem S.bind_rt (d : D) (c : Cells) (k : Env → Cells → S) : (S.rt d c).bind k = .rt d c := rfl
@[simp] theorem S.bind_exc (n : Str) (fs : List (Str × D)) (e : Env) (c : Cells) (k : Env → Cells → S) : (S.exc n fs e c).bind k = .exc n fs e c := rfl
@[simp] theorem S.bind_bk (e : Env) (c : Cells) (k : Env → Cells → S) : (S.bk e c).bind k = .bk e c := rfl
@[simp] theorem S.bind_ct (e : Env) (c : Cells) (k : Env → Cells → S) : (S.ct e c).bind k = .ct e c := rfl
@[simp] theorem S.bind_stuck (k : Env → Cells → S) : S.stuck.bind k = .stuck := rfl
def brS (x : D) (a b : S) : S := match x with
  | .bl true => a
  | .bl false => b
  | _ => .stuck
@[simp] theorem brS_true (a b : S) : brS (.bl true) a b = a := rfl
@[simp] theorem brS_false (a b : S) : brS (.bl false) a b = b := rfl

def sNx : MS := fun env cs => .nx env cs
def sSeq (a b : MS) : MS := fun env cs => (a env cs).bind b
def sAsg (i : Nat) (m : ME) : MS := fun env cs => (m env cs).toS env fun d cs1 => .nx (env.set i (some d)) cs1
def sIf (t : ME) (a b : MS) : MS := fun env cs => (t env cs).toS env fun d cs1 => brS d (a env cs1) (b env cs1)
def sRet (m : ME) : MS := fun env cs => (m env cs).toS env fun d cs1 => .rt d cs1
def sDrop (m : ME) : MS := fun env cs => (m env cs).toS env fun _ cs1 => .nx env cs1
def sBk : MS := fun env cs => .bk env cs
def sCt : MS := fun env cs => .ct env cs
def sNo : MS := fun _ _ => .stuck

theorem PoS.cut {g : Gd} {W : WX} {Dn : Ends} {H F : Hp} {c : List Addr} {r : R} {env : Env} {σ : L2.St} {k : D → Cells → S} (re : RE g F c σ env) (h : PoS g W Dn H F c (r.toS env k)) :
    ∀ Q' : VK, (∀ d cs, r = .ok d cs → ∀ H1 F1 c1 v, Xt H F c H1 F1 c1 → Ih g H1 F1 c1 cs → RV g F1 c1 v d → PoS g W Dn H1 F1 c1 (k d cs) → Q' v H1) → PoE g (fun a b => W a b σ) H F c r Q' := by
  intro Q' hk
  cases r with
  | ok d cs => exact fun H1 F1 c1 x I v rv => hk d cs rfl H1 F1 c1 v x I rv (PoS.from x h)
  | exc n fs cs => exact fun H1 F1 c1 x I C dx vs a b d => h H1 F1 c1 x I σ C dx vs (re.mono x.le) a b d
  | stuck => exact h.elim
theorem PoS.br {g : Gd} {W : WX} {Dn : Ends} {H F : Hp} {c : List Addr} {r : R} {env : Env} {σ : L2.St} {a b : Cells → S} (re : RE g F c σ env) (h : PoS g W Dn H F c (r.toS env fun d cs1 => brS d (a cs1) (b cs1))) :
    ∀ Q' : Bool → Hp → Prop, (∀ t cs, r = .ok (.bl t) cs → ∀ H1 F1 c1, Xt H F c H1 F1 c1 → Ih g H1 F1 c1 cs → PoS g W Dn H1 F1 c1 (if t = true then a cs else b cs) → Q' t H1) → PoT g (fun a b => W a b σ) H F c r Q' := by
  intro Q' hq
  cases r with
  | ok d cs =>
    cases d with
    | bl t => exact fun H1 F1 c1 x I => hq t cs rfl H1 F1 c1 x I (by cases t <;> exact PoS.from x h)
    | _ => exact h.elim
  | exc n fs cs => exact fun H1 F1 c1 x I C dx vs a b d => h H1 F1 c1 x I σ C dx vs (re.mono x.le) a b d
  | stuck => exact h.elim
theorem PoS.next {g : Gd} {W : WX} {Dn : Ends} {H F : Hp} {c : List Addr} {env : Env} {σ : L2.St} {cs : Cells} (I : Ih g H F c cs) (re : RE g F c σ env) (h : PoS g W Dn H F c (.nx env cs)) : Dn.nx σ H := h H F c (Xt.refl _ _ _) I σ re
section
variable {X : Cx} {W : WX} {pos : Pos} {e t : Expr} {m mt : ME} {st : Stmt} {ss tt : List Stmt} {a b : MS}
theorem sms_nil : Sms X W [] sNx := ⟨_, pss_nil, fun _ _ _ _ _ _ _ re I po => PoS.next I re po⟩
theorem seq_sim {ta tb : TS} (sa : ∀ σ env H F c cs Dn, RE (gd X) F c σ env → Ih (gd X) H F c cs → PoS (gd X) W Dn H F c (a env cs) → ta Dn σ H)
    (sb : ∀ σ env H F c cs Dn, RE (gd X) F c σ env → Ih (gd X) H F c cs → PoS (gd X) W Dn H F c (b env cs) → tb Dn σ H) :
    ∀ σ env H F c cs Dn, RE (gd X) F c σ env → Ih (gd X) H F c cs → PoS (gd X) W Dn H F c (sSeq a b env cs) → tSeq ta tb Dn σ H := by
  intro σ env H F c cs Dn re I po
  refine sa σ env H F c cs _ re I ?_
  unfold sSeq at po
  cases h : a env cs with
  | nx e1 c1 => rw [h] at po; exact fun H' F' c' x I' σ' re' => sb σ' e1 H' F' c' c1 Dn re' I' (PoS.from x po)
  | rt d c1 => rw [h] at po; exact po
  | bk e1 c1 => rw [h] at po; exact po
  | ct e1 c1 => rw [h] at po; exact po
  | exc n fs e1 c1 => rw [h] at po; exact po
  | stuck => rw [h] at po; exact po.elim
theorem sms_cons (ha : Sm X W st a) (hb : Sms X W ss b) : Sms X W (st :: ss) (sSeq a b) := by
  obtain ⟨ta, pa, sa⟩ := ha
  obtain ⟨tb, pb, sb⟩ := hb
  exact ⟨_, pss_cons pa pb, seq_sim sa sb⟩
theorem sms_one (ha : Sm X W st a) : Sms X W [st] a := by
  obtain ⟨ta, pa, sa⟩ := ha
  exact ⟨_, pss_one pa, sa⟩
theorem sm_set {i : Nat} {x : Str} {pos' : Pos} (hN : X.N.Nodup) (hi : X.N[i]? = some x) (hx : Loc X.env.scope x) (h : Xp X W e m) (hs : swapsWith e (some (.Name x pos')) pos.line X.env = pure false := by rfl) (hf : X.fn x = true ∨ X.env.scope.names.lookup x = some .local := by first | exact .inl rfl | exact .inr rfl | assumption) : Sm X W (.Assign [.Name x pos'] e pos) (sAsg i m) := by
  obtain ⟨t, p, s⟩ := h
  refine ⟨_, ps_set hN hi hx p hs hf, fun σ env H F c cs Dn re I po => ?_⟩
  refine s σ env H F c cs _ re I (PoS.cut re po _ fun d cs1 _ H1 F1 c1 v x1 I1 rv po1 => ?_)
  exact PoS.next I1 ((re.mono x1.le).set i rv) po1
theorem sm_ret (h : Xp X W e m) : Sm X W (.Return (some e) pos) (sRet m) := by
  obtain ⟨t, p, s⟩ := h
  refine ⟨_, ps_ret p, fun σ env H F c cs Dn re I po => ?_⟩
  exact s σ env H F c cs _ re I (PoS.cut re po _ fun d cs1 _ H1 F1 c1 v x1 I1 rv po1 => po1 _ _ _ (Xt.refl _ _ _) I1 v rv)
theorem sm_retN : Sm X W (.Return none pos) (sRet (eC .non)) := ⟨_, ps_retN, fun σ env H F c cs Dn re I po => po _ _ _ (Xt.refl _ _ _) I .non .non⟩
theorem sm_expr (h : Xp X W e m) (hs : swapsWith e none pos.line X.env = pure false := by rfl) : Sm X W (.Expr e pos) (sDrop m) := by
  obtain ⟨t, p, s⟩ := h
  refine ⟨_, ps_expr p hs, fun σ env H F c cs Dn re I po => ?_⟩
  exact s σ env H F c cs _ re I (PoS.cut re po _ fun d cs1 _ H1 F1 c1 v x1 I1 rv po1 => PoS.next I1 (re.mono x1.le) po1)
theorem sm_pass : Sm X W (.Pass pos) sNx := ⟨_, ps_pass, fun _ _ _ _ _ _ _ re I po => PoS.next I re po⟩
theorem sm_break : Sm X W (.Break pos) sBk := ⟨_, ps_break, fun _ _ _ _ _ _ _ re I po => po _ _ _ (Xt.refl _ _ _) I _ re⟩
theorem sm_continue : Sm X W (.Continue pos) sCt := ⟨_, ps_continue, fun _ _ _ _ _ _ _ re I po => po _ _ _ (Xt.refl _ _ _) I _ re⟩
theorem sm_no : Sm X W st sNo := ⟨_, ps_never, fun _ _ _ _ _ _ _ _ _ po => po⟩
theorem sm_if (ht : Xt1 X W t mt) (ha : Sms X W ss a) (hb : Sms X W tt b) : Sm X W (.If t ss tt pos) (sIf mt a b) := by
  obtain ⟨tc, pc, sc⟩ := ht
  obtain ⟨ta, pa, sa⟩ := ha
  obtain ⟨tb, pb, sb⟩ := hb
  refine ⟨_, ps_if pc pa pb, fun σ env H F c cs Dn re I po => ?_⟩
  refine sc σ env H F c cs _ re I (PoS.br (a := fun cs1 => a env cs1) (b := fun cs1 => b env cs1) re po _ fun k cs1 _ H1 F1 c1 x I1 po1 => ?_)
  cases k with
  | true => exact iteT (sa σ env H1 F1 c1 cs1 Dn (re.mono x.le) I1 po1)
  | false => exact iteF (sb σ env H1 F1 c1 cs1 Dn (re.mono x.le) I1 po1)
end

/-! ### loops -/
open Classical in
/-- one item behind the other; chk: what must hold whenever the next one is asked for -/
noncomputable def forL (chk : Cells → Prop) (tg : D → Env → Option Env) (body : MS) : List D → Env → Cells → S
  | [], env, cs => if chk cs then .nx env cs else .stuck
  | d :: ds, env, cs => if chk cs then (match tg d env with
    | none => .stuck
    | some env1 => match body env1 cs with
      | .nx e c => forL chk tg body ds e c
      | .ct e c => forL chk tg body ds e c
      | .bk e c => .nx e c
      | r => r) else .stuck
theorem forL_chk {chk : Cells → Prop} {tg : D → Env → Option Env} {body : MS} {ds : List D} {env : Env} {cs : Cells} (h : ¬ chk cs) : forL chk tg body ds env cs = .stuck := by
  cases ds <;> simp [forL, h]
/-- an iterator gives these items, as long as ok holds -/
structure Itk (g : Gd) (J : It) (items : List D) (ok : Hp → Hp → List Addr → Cells → Prop) : Prop where
  go : ∀ (i : Nat) H F c cs, Ih g H F c cs → ok H F c cs → i < items.length → J.go i H
  yld : ∀ (i : Nat) H F c cs d, Ih g H F c cs → ok H F c cs → items[i]? = some d → ∀ x H', J.yld i H x H' → ∃ F', Xt H F c H' F' c ∧ Ih g H' F' c cs ∧ RV g F' c x d
  stop : ∀ (i : Nat) H F c cs, Ih g H F c cs → ok H F c cs → i = items.length → J.stop i H
/-- a target -/
def Tgt (X : Cx) (tg : Expr) (f : D → Env → Option Env) (own : List Nat) : Prop := ∃ tG, PG X tg tG ∧ ∀ σ env H F c cs v d env1 Q, RE (gd X) F c σ env → Ih (gd X) H F c cs → RV (gd X) F c v d → f d env = some env1 → (∀ σ1, RE (gd X) F c σ1 env1 → L2.wipe σ1 own = L2.wipe σ own → Q σ1 H) → tG v σ H Q
theorem wipe_get (σ : L2.St) (j : Nat) : ∀ vs : List Nat, (L2.wipe σ vs)[j]? = if j ∈ vs then (if j < σ.length then some none else none) else σ[j]?
  | [] => by simp [L2.wipe]
  | v :: vs => by
    unfold L2.wipe
    have ih := wipe_get σ j vs
    by_cases h : j = v
    · subst h
      by_cases hl : j < σ.length
      · rw [List.getElem?_set_self (by rw [wipe_length]; exact hl)]; simp [hl]
      · rw [List.getElem?_eq_none (by rw [List.length_set, wipe_length]; omega)]; simp [hl]
    · rw [List.getElem?_set_ne (Ne.symm h), ih]
      simp [h]
theorem wipe_set {σ : L2.St} {i : Nat} {x : Option V} {vs : List Nat} (h : i ∈ vs) : L2.wipe (σ.set i x) vs = L2.wipe σ vs := by
  apply List.ext_getElem?
  intro j
  rw [wipe_get, wipe_get]
  by_cases hj : j ∈ vs
  · simp [hj]
  · have : j ≠ i := fun e => hj (e ▸ h)
    simp [hj, List.getElem?_set_ne (Ne.symm this)]
theorem wipe_wipe (σ : L2.St) (vs : List Nat) : L2.wipe (L2.wipe σ vs) vs = L2.wipe σ vs := by
  apply List.ext_getElem?
  intro j
  rw [wipe_get, wipe_length]
  by_cases hj : j ∈ vs <;> simp [hj, wipe_get]
theorem for_sim {g : Gd} {W : WX} {J : It} {items : List D} {kn : Hp → List Addr → Prop} {chk : Cells → Prop} (K : Itk g J items fun H F c cs => kn F c ∧ chk cs) (km : ∀ F c F' c', Le F c F' c' → kn F c → kn F' c')
    {tg : D → Env → Option Env} {body : MS} {tG : TG} {tb : TS} (hg : ∀ σ env H F c cs v d env1 Q, RE g F c σ env → Ih g H F c cs → RV g F c v d → tg d env = some env1 → (∀ σ1, RE g F c σ1 env1 → Q σ1 H) → tG v σ H Q)
    (hb : ∀ σ env H F c cs Dn, RE g F c σ env → Ih g H F c cs → PoS g W Dn H F c (body env cs) → tb Dn σ H)
    {σ : L2.St} {env : Env} {H F : Hp} {c : List Addr} {cs : Cells} {Dn : Ends} (re : RE g F c σ env) (I : Ih g H F c cs) (hk : kn F c) (po : PoS g W Dn H F c (forL chk tg body items env cs)) :
    ∃ Wi : Nat → Nat → L2.St → Hp → Prop, (∃ m, Wi 0 m σ H) ∧ ∀ i m σ H, Wi i m σ H →
      (J.stop i H ∧ Dn.nx σ H) ∨ (J.go i H ∧ ∃ N : L2.St → Hp → Prop, (∀ σ' H', N σ' H' → ∃ m', m' < m ∧ Wi (i + 1) m' σ' H') ∧ ∀ x H', J.yld i H x H' → tG x σ H' fun σ2 H2 => tb { Dn with nx := N, ct := N, bk := Dn.nx } σ2 H2) := by
  refine ⟨fun i m σ H => m = items.length - i ∧ i ≤ items.length ∧ ∃ env F c cs, RE g F c σ env ∧ Ih g H F c cs ∧ kn F c ∧ PoS g W Dn H F c (forL chk tg body (items.drop i) env cs), ⟨_, rfl, Nat.zero_le _, env, F, c, cs, re, I, hk, by simpa using po⟩, ?_⟩
  rintro i m σ H ⟨rfl, hi, env, F, c, cs, re, I, hk, po⟩
  by_cases hc : chk cs
  · by_cases hlt : i < items.length
    · refine .inr ⟨K.go i H F c cs I ⟨hk, hc⟩ hlt, fun σ' H' => ∃ m', m' < items.length - i ∧ (m' = items.length - (i + 1) ∧ i + 1 ≤ items.length ∧ ∃ env F c cs, RE g F c σ' env ∧ Ih g H' F c cs ∧ kn F c ∧ PoS g W Dn H' F c (forL chk tg body (items.drop (i + 1)) env cs)), fun σ' H' h => h, fun x H' y => ?_⟩
      obtain ⟨F', x1, I1, rv⟩ := K.yld i H F c cs items[i] I ⟨hk, hc⟩ (by simp [hlt]) x H' y
      rw [List.drop_eq_getElem_cons hlt] at po
      simp only [forL, hc, if_true] at po
      cases ht : tg items[i] env with
      | none => rw [ht] at po; exact po.elim
      | some env1 =>
        rw [ht] at po
        simp only at po
        refine hg σ env H' F' c cs x _ env1 _ (re.mono x1.le) I1 rv ht fun σ1 re1 => ?_
        have po' := PoS.from x1 po
        have k1 := km _ _ _ _ x1.le hk
        refine hb σ1 env1 H' F' c cs _ re1 I1 ?_
        have nxt : ∀ {e1 : Env} {c1 : Cells} {H2 F2 : Hp} {c2 : List Addr} {σ2 : L2.St}, Xt H' F' c H2 F2 c2 → Ih g H2 F2 c2 c1 → RE g F2 c2 σ2 e1 → PoS g W Dn H' F' c (forL chk tg body (items.drop (i + 1)) e1 c1) →
            ∃ m', m' < items.length - i ∧ (m' = items.length - (i + 1) ∧ i + 1 ≤ items.length ∧ ∃ env F c cs, RE g F c σ2 env ∧ Ih g H2 F c cs ∧ kn F c ∧ PoS g W Dn H2 F c (forL chk tg body (items.drop (i + 1)) env cs)) :=
          fun x2 I2 re2 p2 => ⟨_, by omega, rfl, hlt, _, _, _, _, re2, I2, km _ _ _ _ x2.le k1, PoS.from x2 p2⟩
        cases hbd : body env1 cs with
        | nx e1 c1 => rw [hbd] at po'; exact fun H2 F2 c2 x2 I2 σ2 re2 => nxt x2 I2 re2 po'
        | ct e1 c1 => rw [hbd] at po'; exact fun H2 F2 c2 x2 I2 σ2 re2 => nxt x2 I2 re2 po'
        | bk e1 c1 => rw [hbd] at po'; exact po'
        | rt d c1 => rw [hbd] at po'; exact po'
        | exc n fs e1 c1 => rw [hbd] at po'; exact po'
        | stuck => rw [hbd] at po'; exact po'.elim
    · have e : i = items.length := by omega
      subst e
      rw [List.drop_length] at po
      simp only [forL, hc, if_true] at po
      exact .inl ⟨K.stop _ H F c cs I ⟨hk, hc⟩ rfl, PoS.next I re po⟩
  · rw [forL_chk hc] at po
    exact po.elim
section
variable {g : Gd}
theorem itk_list {a : Addr} {d : D} {items : List D} (hd : ∀ l, d ≠ .tup l) : Itk g (Itl g.K a) items fun H F c cs => RV g F c (.ref a) d ∧ seqOf cs d = some items := by
  have get : ∀ {H F c cs}, Ih g H F c cs → RV g F c (.ref a) d ∧ seqOf cs d = some items → ∃ vs, SqL g.K H a vs ∧ RVs g F c vs items := by
    rintro H F c cs I ⟨r, h⟩
    have fl : listOf cs d = some items → ∃ vs, SqL g.K H a vs ∧ RVs g F c vs items := fun h => by
      obtain ⟨b, vs, e, h1, h2⟩ := listOf_at I r h
      cases e
      exact ⟨vs, .inl (.inl h1), h2⟩
    cases d with
    | tup l => exact absurd rfl (hd l)
    | scr l =>
      simp only [seqOf, Option.some.injEq] at h
      subst h
      cases r with
      | scr h1 => exact ⟨_, SqL.up I.sub h1, rvs_ints _⟩
    | _ => exact fl h
  refine ⟨fun i H F c cs I ok hi => ?_, fun i H F c cs d' I ok hd x H' y => ?_, fun i H F c cs I ok hi => ?_⟩
  · obtain ⟨vs, h1, h2⟩ := get I ok
    exact ⟨vs, vs[i]'(by rw [h2.length]; exact hi), h1, by simp⟩
  · obtain ⟨vs, h1, h2⟩ := get I ok
    obtain ⟨rfl, y⟩ := y
    obtain ⟨v, e, rv⟩ := h2.get hd
    have := y vs h1
    rw [e] at this
    cases this
    exact ⟨F, Xt.refl _ _ _, I, rv⟩
  · obtain ⟨vs, h1, h2⟩ := get I ok
    exact ⟨vs, h1, by rw [h2.length]; omega⟩
theorem itk_tup {a : Addr} {items : List D} : Itk g (Itt g.K a) items fun H F c cs => RV g F c (.ref a) (.tup items) ∧ seqOf cs (.tup items) = some items := by
  have get : ∀ {H F c cs}, Ih g H F c cs → RV g F c (.ref a) (.tup items) → ∃ vs, SqT g.K H a vs ∧ RVs g F c vs items := by
    intro H F c cs I r
    cases r with
    | tup h1 h2 => exact ⟨_, .inl (.inl (I.sub _ _ h1)), h2⟩
  refine ⟨fun i H F c cs I ok hi => ?_, fun i H F c cs d' I ok hd x H' y => ?_, fun i H F c cs I ok hi => ?_⟩
  · obtain ⟨vs, h1, h2⟩ := get I ok.1
    exact ⟨vs, vs[i]'(by rw [h2.length]; exact hi), h1, by simp⟩
  · obtain ⟨vs, h1, h2⟩ := get I ok.1
    obtain ⟨rfl, y⟩ := y
    obtain ⟨v, e, rv⟩ := h2.get hd
    have := y vs h1
    rw [e] at this
    cases this
    exact ⟨F, Xt.refl _ _ _, I, rv⟩
  · obtain ⟨vs, h1, h2⟩ := get I ok.1
    exact ⟨vs, h1, by rw [h2.length]; omega⟩
def rangeD (lo : Int) (n : Nat) : List D := (List.range n).map fun (i : Nat) => D.int (lo + (i : Int))
@[simp] theorem rangeD_length (lo : Int) (n : Nat) : (rangeD lo n).length = n := by simp [rangeD]
theorem itk_range {lo : Int} {n : Nat} : Itk g (Itr lo n) (rangeD lo n) fun _ _ _ _ => True ∧ True := by
  refine ⟨fun i H F c cs I ok hi => (by simpa using hi : i < n), fun i H F c cs d' I ok hd x H' y => ?_, fun i H F c cs I ok hi => ?_⟩
  · obtain ⟨rfl, rfl⟩ := y
    have hl : i < n := by simpa using (List.getElem?_eq_some_iff.mp hd).1
    simp [rangeD, hl] at hd
    subst hd
    exact ⟨F, Xt.refl _ _ _, I, .int _⟩
  · show n ≤ i
    simp at hi; omega
end
def tgN (i : Nat) (d : D) (env : Env) : Option Env := some (env.set i (some d))
section
variable {X : Cx} {W : WX} {pos : Pos} {e t : Expr} {m mt : ME} {ss : List Stmt} {a b : MS}
theorem tgt_name {i : Nat} {x : Str} (hN : X.N.Nodup) (hi : X.N[i]? = some x) (hx : Loc X.env.scope x) {own : List Nat} (ho : i ∈ own := by decide) (hf : X.fn x = true ∨ X.env.scope.names.lookup x = some .local := by first | exact .inl rfl | exact .inr rfl | assumption) : Tgt X (.Name x pos) (tgN i) own := by
  refine ⟨_, pg_name hN hi hx hf, fun σ env H F c cs v d env1 Q re I rv h k => ?_⟩
  simp only [tgN, Option.some.injEq] at h
  subst h
  exact k _ (re.set i rv) (wipe_set ho)
/-! ### while -/
/-- n turns at most -/
def whN (t : ME) (b : MS) : Nat → Env → Cells → S
  | 0, _, _ => .stuck
  | n + 1, env, cs => (t env cs).toS env fun d cs1 => brS d (match b env cs1 with
      | .nx e c => whN t b n e c
      | .ct e c => whN t b n e c
      | .bk e c => .nx e c
      | r => r) (.nx env cs1)
open Classical in
/-- as many turns as it takes -/
noncomputable def sWhile (t : ME) (b : MS) : MS := fun env cs => if h : ∃ n, whN t b n env cs ≠ .stuck then whN t b h.choose env cs else .stuck
theorem whN_mono (t : ME) (b : MS) : ∀ (n : Nat) (env : Env) (cs : Cells), whN t b n env cs ≠ .stuck → whN t b (n + 1) env cs = whN t b n env cs
  | 0, _, _, h => absurd rfl h
  | n + 1, env, cs, h => by
    simp only [whN] at h ⊢
    cases ht : t env cs with
    | ok d cs1 =>
      rw [ht] at h
      simp only [R.toS_ok] at h ⊢
      cases d with
      | bl k =>
        cases k with
        | false => rfl
        | true =>
          simp only [brS_true] at h ⊢
          cases hb : b env cs1 with
          | nx e c => rw [hb] at h; exact whN_mono t b n e c h
          | ct e c => rw [hb] at h; exact whN_mono t b n e c h
          | _ => rfl
      | _ => exact absurd rfl h
    | exc => rfl
    | stuck => rw [ht] at h; exact absurd rfl h
theorem whN_le (t : ME) (b : MS) {n : Nat} {env : Env} {cs : Cells} (h : whN t b n env cs ≠ .stuck) : ∀ k, whN t b (n + k) env cs = whN t b n env cs
  | 0 => rfl
  | k + 1 => by
    have ih := whN_le t b h k
    have := whN_mono t b (n + k) env cs (by rw [ih]; exact h)
    rw [← Nat.add_assoc, this, ih]
theorem sWhile_eq (t : ME) (b : MS) {n : Nat} {env : Env} {cs : Cells} (h : whN t b n env cs ≠ .stuck) : sWhile t b env cs = whN t b n env cs := by
  have hx : ∃ n, whN t b n env cs ≠ .stuck := ⟨n, h⟩
  unfold sWhile
  rw [dif_pos hx]
  generalize hx.choose = k, hx.choose_spec = hk
  rcases Nat.le_total k n with q | q
  · obtain ⟨j, rfl⟩ := Nat.exists_eq_add_of_le q
    rw [whN_le t b hk j]
  · obtain ⟨j, rfl⟩ := Nat.exists_eq_add_of_le q
    rw [whN_le t b h j]
theorem sm_while (hp : PassesOwn (model X.prog X.w) X.A X.env X.xe) (ht : Xt1 X W t mt) (hb : Sms X W ss b) : Sm X W (.While t ss [] pos) (sWhile mt b) := by
  obtain ⟨tc, pc, sc⟩ := ht
  obtain ⟨tb, pb, sb⟩ := hb
  refine ⟨_, ps_while hp pc pb, fun σ env H F c cs Dn re I po => ?_⟩
  unfold sWhile at po
  split at po
  · rename_i hx
    generalize hx.choose = n at po
    refine ⟨fun n σ H => ∃ env F c cs, RE (gd X) F c σ env ∧ Ih (gd X) H F c cs ∧ PoS (gd X) W Dn H F c (whN mt b n env cs), ⟨n, env, F, c, cs, re, I, po⟩, ?_⟩
    rintro n σ H ⟨env, F, c, cs, re, I, po⟩
    cases n with
    | zero => exact po.elim
    | succ n =>
      simp only [whN] at po
      refine sc σ env H F c cs _ re I (PoS.br (a := fun cs1 => match b env cs1 with | .nx e c => whN mt b n e c | .ct e c => whN mt b n e c | .bk e c => .nx e c | r => r) (b := fun cs1 => .nx env cs1) re po _ fun k cs1 _ H1 F1 c1 x I1 po1 => ?_)
      cases k with
      | true =>
        refine iteT ⟨fun σ' H' => ∃ env F c cs, RE (gd X) F c σ' env ∧ Ih (gd X) H' F c cs ∧ PoS (gd X) W Dn H' F c (whN mt b n env cs), fun σ' H' h => ⟨n, Nat.lt_succ_self n, h⟩, ?_⟩
        refine sb σ env H1 F1 c1 cs1 _ (re.mono x.le) I1 ?_
        simp only [if_true] at po1
        cases hbd : b env cs1 with
        | nx e1 c2 => rw [hbd] at po1; exact fun H2 F2 c3 x2 I2 σ2 re2 => ⟨e1, F2, c3, c2, re2, I2, PoS.from x2 po1⟩
        | ct e1 c2 => rw [hbd] at po1; exact fun H2 F2 c3 x2 I2 σ2 re2 => ⟨e1, F2, c3, c2, re2, I2, PoS.from x2 po1⟩
        | bk e1 c2 => rw [hbd] at po1; exact po1
        | rt d c2 => rw [hbd] at po1; exact po1
        | exc n fs e1 c2 => rw [hbd] at po1; exact po1
        | stuck => rw [hbd] at po1; exact po1.elim
      | false => exact iteF (PoS.next I1 (re.mono x.le) po1)
  · exact po.elim
end
end L3

namespace L3
open PySem L2

/-! ### what is walked -/
inductive RW where
  | ok (items : List D) (chk : Cells → Prop) (cs : Cells)
  | exc (n : Str) (fs : List (Str × D)) (cs : Cells)
  | stuck
abbrev MW := Env → Cells → RW
def R.toW (r : R) (k : D → Cells → RW) : RW := match r with
  | .ok d cs => k d cs
  | .exc n fs cs => .exc n fs cs
  | .stuck => .stuck
@[simp] theorem R.toW_ok (d : D) (cs : Cells) (k : D → Cells → RW) : (R.ok d cs).toW k = k d cs := rfl
@[simp] theorem R.toW_exc (n : Str) (fs : List (Str × D)) (cs : Cells) (k : D → Cells → RW) : (R.exc n fs cs).toW k = .exc n fs cs := rfl
@[simp] theorem R.toW_stuck (k : D → Cells → RW) : R.stuck.toW k = .stuck := rfl
def PoW (g : Gd) (W : XK) (H F : Hp) (c : List Addr) (r : RW) (R : It → Hp → Prop) : Prop := match r with
  | .ok items chk cs => Fw g H F c cs fun H' F' c' => ∀ (J : It) (kn : Hp → List Addr → Prop), Itk g J items (fun H F c cs => kn F c ∧ chk cs) → (∀ F c F' c', Le F c F' c' → kn F c → kn F' c') → kn F' c' → R J H'
  | .exc n fs cs => ExK g W H F c n fs cs
  | .stuck => False
def Wk (X : Cx) (W : WX) (tg e : Expr) (m : MW) : Prop := ∃ wi, PI X tg e wi ∧ ∀ σ env H F c cs R, RE (gd X) F c σ env → Ih (gd X) H F c cs → PoW (gd X) (fun a b => W a b σ) H F c (m env cs) R → wi σ H R
theorem PoW.from {g : Gd} {W : XK} {H F H1 F1 : Hp} {c c1 : List Addr} {r : RW} {R : It → Hp → Prop} (x : Xt H F c H1 F1 c1) (h : PoW g W H F c r R) : PoW g W H1 F1 c1 r R := by
  cases r with
  | ok d k cs => exact Fw.from x h fun _ _ _ k => k
  | exc n fs cs => exact ExK.from x h
  | stuck => exact h
theorem PoW.cut {g : Gd} {W : XK} {H F : Hp} {c : List Addr} {r : R} {k : D → Cells → RW} {Rw : It → Hp → Prop} (h : PoW g W H F c (r.toW k) Rw) :
    ∀ Q' : VK, (∀ d cs, r = .ok d cs → ∀ H1 F1 c1 v, Xt H F c H1 F1 c1 → Ih g H1 F1 c1 cs → RV g F1 c1 v d → PoW g W H1 F1 c1 (k d cs) Rw → Q' v H1) → PoE g W H F c r Q' := by
  intro Q' hk
  cases r with
  | ok d cs => exact fun H1 F1 c1 x I v rv => hk d cs rfl H1 F1 c1 v x I rv (PoW.from x h)
  | exc n fs cs => exact h
  | stuck => exact h
section
variable {X : Cx} {W : WX} {pos p p1 : Pos} {tg e e2 e3 : Expr} {m m2 m3 : ME}
theorem seqOf_ref {g : Gd} {H F : Hp} {c : List Addr} {cs : Cells} {v : V} {d : D} {items : List D} (I : Ih g H F c cs) (rv : RV g F c v d) (h : seqOf cs d = some items) : ∃ p, v = .ref p := by
  obtain ⟨p, vs, e, _⟩ := seqOf_at I rv h
  exact ⟨p, e⟩
/-- a list, a tuple, a text -/
def wSeq (m : ME) : MW := fun env cs => (m env cs).toW fun d cs1 => match d with
  | .str l => .ok (l.map fun ch => .str [ch]) (fun _ => True) cs1
  | d => match seqOf cs1 d with
    | some items => .ok items (fun cs2 => seqOf cs2 d = some items) cs1
    | none => .stuck
theorem itk_str {g : Gd} {l : List Nat} : Itk g (Its ⟨l.toArray⟩) (l.map fun ch => .str [ch]) fun _ _ _ _ => True ∧ True := by
  refine ⟨fun i H F c cs I ok hi => ?_, fun i H F c cs d' I ok hd x H' y => ?_, fun i H F c cs I ok hi => ?_⟩
  · show i < l.toArray.size
    simpa using hi
  · obtain ⟨rfl, ch, h1, rfl⟩ := y
    have h1 : l[i]? = some ch := by simpa using h1
    rw [List.getElem?_map, h1] at hd
    simp only [Option.map_some, Option.some.injEq] at hd
    subst hd
    exact ⟨F, Xt.refl _ _ _, I, .str [ch]⟩
  · show l.toArray.size ≤ i
    simp at hi ⊢; omega
theorem wk_seq (he : Xp X W e m) : Wk X W tg e (wSeq m) := by
  obtain ⟨te, pe, se⟩ := he
  refine ⟨_, pi_orE (pi_list pe) (pi_orE (pi_tup pe) (pi_str pe)), fun σ env H F c cs R re I po => ?_⟩
  unfold wSeq at po
  by_cases hstr : ∃ l cs1, m env cs = .ok (.str l) cs1
  · obtain ⟨l, cs1, h⟩ := hstr
    refine .inr (.inr (se σ env H F c cs _ re I (PoW.cut po _ fun d cs2 h2 H1 F1 c1 v x1 I1 rv po1 => ?_)))
    rw [h] at h2
    cases h2
    cases rv
    exact ⟨_, rfl, po1 _ _ _ (Xt.refl _ _ _) I1 _ (fun _ _ => True) itk_str (fun _ _ _ _ _ k => k) trivial⟩
  · by_cases htup : ∃ l cs1, m env cs = .ok (.tup l) cs1
    · obtain ⟨l, cs1, h⟩ := htup
      refine .inr (.inl (se σ env H F c cs _ re I (PoW.cut po _ fun d cs2 h2 H1 F1 c1 v x1 I1 rv po1 => ?_)))
      rw [h] at h2
      cases h2
      obtain ⟨p, rfl⟩ := seqOf_ref I1 rv (items := l) rfl
      refine ⟨p, rfl, ?_, po1 _ _ _ (Xt.refl _ _ _) I1 _ (fun F c => RV (gd X) F c (.ref p) (.tup l)) itk_tup (fun _ _ _ _ e k => k.mono e) rv⟩
      cases rv with
      | tup g1 g2 => exact ⟨_, .inl (.inl (I1.sub _ _ g1))⟩
    · refine .inl (se σ env H F c cs _ re I (PoW.cut po _ fun d cs2 h2 H1 F1 c1 v x1 I1 rv po1 => ?_))
      have nt : ∀ l, d ≠ .tup l := fun l e => htup ⟨l, cs2, by rw [h2, e]⟩
      have ns : ∀ l, d ≠ .str l := fun l e => hstr ⟨l, cs2, by rw [h2, e]⟩
      have po2 : PoW (gd X) (fun a b => W a b σ) H1 F1 c1 (match seqOf cs2 d with
          | some items => .ok items (fun cs2 => seqOf cs2 d = some items) cs2
          | none => .stuck) R := by
        cases d with
        | str l => exact absurd rfl (ns l)
        | _ => exact po1
      cases hs : seqOf cs2 d with
      | none => rw [hs] at po2; exact po2.elim
      | some items =>
        rw [hs] at po2
        obtain ⟨p, rfl⟩ := seqOf_ref I1 rv hs
        have K := itk_list (g := gd X) (a := p) (items := items) nt
        refine ⟨p, rfl, ?_, po2 _ _ _ (Xt.refl _ _ _) I1 _ (fun F c => RV (gd X) F c (.ref p) d) K (fun _ _ _ _ e k => k.mono e) rv⟩
        by_cases hz : 0 < items.length
        · obtain ⟨xs, _, h1, _⟩ := K.go 0 H1 F1 c1 cs2 I1 ⟨rv, hs⟩ hz
          exact ⟨xs, h1⟩
        · obtain ⟨xs, h1, _⟩ := K.stop 0 H1 F1 c1 cs2 I1 ⟨rv, hs⟩ (by omega)
          exact ⟨xs, h1⟩
/-- range -/
def lim : Int := 4611686018427387904
def wR1 (m : ME) : MW := fun env cs => (m env cs).toW fun d cs1 => match d with
  | .int j => if -lim ≤ j ∧ j < lim then .ok (rangeD 0 j.toNat) (fun _ => True) cs1 else .stuck
  | _ => .stuck
def wR2 (m m2 : ME) : MW := fun env cs => (m env cs).toW fun d cs1 => (m2 env cs1).toW fun d2 cs2 => match d, d2 with
  | .int i, .int j => if -lim ≤ i ∧ i < lim ∧ -lim ≤ j ∧ j < lim then .ok (rangeD i (j - i).toNat) (fun _ => True) cs2 else .stuck
  | _, _ => .stuck
theorem wk_range1 (hg : Gl X "range") (hm : X.mg "range" = none) (he : Xp X W e m) (hs : starEach [e] X.env = (false, eval e X.env) :: starEach [] X.env := by rfl) : Wk X W tg (.Call (.Name "range" p) [e] [] p1) (wR1 m) := by
  obtain ⟨te, pe, se⟩ := he
  refine ⟨_, pi_range1 hg hm (pa_cons pe pa_nil hs) hs, fun σ env H F c cs R re I po => ?_⟩
  refine se σ env H F c cs _ re I (PoW.cut po _ fun d cs2 h2 H1 F1 c1 v x1 I1 rv po1 => ?_)
  cases d with
  | int j =>
    cases rv
    simp only at po1
    split at po1
    · rename_i h
      have p2 : (2 : Int) ^ 62 = lim := by decide
      exact ⟨j, rfl, by rw [p2]; exact h.1, by rw [p2]; exact h.2, po1 _ _ _ (Xt.refl _ _ _) I1 _ (fun _ _ => True) (itk_range (lo := 0) (n := j.toNat)) (fun _ _ _ _ _ k => k) trivial⟩
    · exact po1.elim
  | _ => exact po1.elim
theorem wk_range2 (hg : Gl X "range") (hm : X.mg "range" = none) (he : Xp X W e m) (he2 : Xp X W e2 m2)
    (hs : starEach [e, e2] X.env = (false, eval e X.env) :: starEach [e2] X.env := by rfl) (hs2 : starEach [e2] X.env = (false, eval e2 X.env) :: starEach [] X.env := by rfl) : Wk X W tg (.Call (.Name "range" p) [e, e2] [] p1) (wR2 m m2) := by
  obtain ⟨te, pe, se⟩ := he
  obtain ⟨te2, pe2, se2⟩ := he2
  refine ⟨_, pi_range2 hg hm (pa_cons pe (pa_cons pe2 pa_nil hs2) hs) (hs.trans (by rw [hs2]; rfl)) hs2, fun σ env H F c cs R re I po => ?_⟩
  refine se σ env H F c cs _ re I (PoW.cut po _ fun d cs2 h2 H1 F1 c1 v x1 I1 rv po1 => ?_)
  refine se2 σ env H1 F1 c1 cs2 _ (re.mono x1.le) I1 (PoW.cut po1 _ fun d2 cs3 h3 H2 F2 c2 v2 x2 I2 rv2 po2 => ?_)
  split at po2
  · cases rv; cases rv2
    split at po2
    · rename_i h
      have p2 : (2 : Int) ^ 62 = lim := by decide
      exact ⟨_, _, rfl, by rw [p2]; exact h, po2 _ _ _ (Xt.refl _ _ _) I2 _ (fun _ _ => True) itk_range (fun _ _ _ _ _ k => k) trivial⟩
    · exact po2.elim
  · exact po2.elim

/-! ### for -/
noncomputable def sFor (tg : D → Env → Option Env) (m : MW) (body : MS) : MS := fun env cs => match m env cs with
  | .ok items chk cs1 => forL chk tg body items env cs1
  | .exc n fs cs1 => .exc n fs env cs1
  | .stuck => .stuck
theorem sm_for {f : D → Env → Option Env} {mw : MW} {ss : List Stmt} {b : MS} (hc : X.calm = true) (hp : PassesOwn (model X.prog X.w) X.A X.env X.xe) (he : Wk X W tg e mw) {own : List Nat} (ht : Tgt X tg f own) (hb : Sms X W ss b)
    (hs : ∀ x, foldedSetIterable e X.env x = pure x := by intro _; rfl) : Sm X W (.For tg e ss [] pos) (sFor f mw b) := by
  obtain ⟨wi, pw, sw⟩ := he
  obtain ⟨tG, pg, sg⟩ := ht
  obtain ⟨tb, pb, sb⟩ := hb
  refine ⟨_, ps_for hp hc pw pg pb hs, fun σ env H F c cs Dn re I po => ?_⟩
  refine sw σ env H F c cs _ re I ?_
  unfold sFor at po
  cases h : mw env cs with
  | ok items chk cs1 =>
    rw [h] at po
    exact fun H1 F1 c1 x1 I1 J kn K km hk => for_sim K km (fun σ env H F c cs v d env1 Q re I rv h k => sg σ env H F c cs v d env1 Q re I rv h fun σ1 a _ => k σ1 a) sb (re.mono x1.le) I1 hk (PoS.from x1 po)
  | exc n fs cs1 =>
    rw [h] at po
    exact fun H1 F1 c1 x I C dx vs a b d => po H1 F1 c1 x I σ C dx vs (re.mono x.le) a b d
  | stuck => rw [h] at po; exact po.elim

/-! ### comprehensions -/
def wipeE (env : Env) : List Nat → Env
  | [] => env
  | v :: vs => (wipeE env vs).set v none
theorem RE.wipe {g : Gd} {F : Hp} {c : List Addr} {σ : L2.St} {env : Env} (h : RE g F c σ env) : ∀ vs : List Nat, RE g F c (L2.wipe σ vs) (wipeE env vs)
  | [] => h
  | v :: vs => RE.unset (RE.wipe h vs) v
open Classical in
noncomputable def lcL (chk : Cells → Prop) (tg : D → Env → Option Env) (t e : ME) : List D → Env → Cells → RA
  | [], env, cs => if chk cs then .ok [] cs else .stuck
  | d :: ds, env, cs => if chk cs then (match tg d env with
    | none => .stuck
    | some env1 => match t env1 cs with
      | .ok (.bl true) cs1 => (match e env1 cs1 with
        | .ok y cs2 => (match lcL chk tg t e ds env cs2 with
          | .ok ys cs3 => .ok (y :: ys) cs3
          | _ => .stuck)
        | _ => .stuck)
      | .ok (.bl false) cs1 => lcL chk tg t e ds env cs1
      | _ => .stuck) else .stuck
def RA.pre (l : List D) : RA → RA
  | .ok ds cs => .ok (l ++ ds) cs
  | r => r
noncomputable def eLc (md : Bool) (own : List Nat) (tg : D → Env → Option Env) (m : MW) (t e : ME) : ME := fun env cs => match m env cs with
  | .ok items chk cs1 => (lcL chk tg t e items (wipeE env own) cs1).bind fun ds cs2 => mkL md cs2 ds
  | .exc n fs cs1 => .exc n fs cs1
  | .stuck => .stuck
/-- the tests of a comprehension -/
def Xts (X : Cx) (W : WX) (es : List Expr) (m : ME) : Prop := ∃ t, PTs X es t ∧ ∀ σ env H F c cs Q, RE (gd X) F c σ env → Ih (gd X) H F c cs → PoT (gd X) (fun a b => W a b σ) H F c (m env cs) Q → t σ H Q
theorem xts_nil : Xts X W [] (eC (.bl true)) := ⟨_, pts_nil, fun _ _ _ _ _ _ _ _ I po => PoT.here I po⟩
theorem xts_one (h : Xt1 X W e m) : Xts X W [e] m := by
  obtain ⟨t, p, s⟩ := h
  exact ⟨_, pts_one p, s⟩
end
/-- an object aside of F and c is written -/
theorem Ih.side {g : Gd} {H F : Hp} {c : List Addr} {cs : Cells} (I : Ih g H F c cs) {p : Addr} {o : HO} (hc : p ∉ c) (hF : F p = none) : Ih g (upd H p o) F c cs := by
  refine ⟨fun a u e => by rw [upd_ne (ne_of_none e hF)]; exact I.sub a u e, I.len, I.nd, fun n a x h1 h2 => ?_⟩
  have hne : a ≠ p := fun e => hc (e ▸ List.mem_of_getElem? h1)
  exact CR.mono (I.cell n a x h1 h2) (Le.refl _ _) (fun u e => by rw [upd_ne hne]; exact e) fun e => e
theorem Xt.side {H0 F0 H F : Hp} {c0 c : List Addr} (x : Xt H0 F0 c0 H F c) {p : Addr} {o : HO} (hp : H0 p = none) : Xt H0 F0 c0 (upd H p o) F c :=
  ⟨x.le, fun a u e n => by rw [upd_ne (ne_of_none e hp)]; exact x.kp a u e n, fun a u e => by rw [upd_ne (ne_of_none e hp)]; exact x.dom a u e, x.new, x.out⟩
structure LcI (g : Gd) (W : XK) (H F : Hp) (c : List Addr) (Q : VK) (md : Bool) (Dl : Addr) (rest : Env → Cells → RA) (env : Env) (H' : Hp) : Prop where
  ex : ∃ F' c' cs' acc dacc, Xt H F c H' F' c' ∧ Ih g H' F' c' cs' ∧ H' Dl = some (.lst acc) ∧ Dl ∉ c' ∧ F' Dl = none ∧ RVs g F' c' acc dacc ∧ PoE g W H F c (((rest env cs').pre dacc).bind fun ds cs2 => mkL md cs2 ds) Q
/-- [e for .. in it if t] -/
theorem lc_sim {g : Gd} {W : XK} {J : It} {items : List D} {kn : Hp → List Addr → Prop} {chk : Cells → Prop} (K : Itk g J items fun H F c cs => kn F c ∧ chk cs) (km : ∀ F c F' c', Le F c F' c' → kn F c → kn F' c')
    {tg : D → Env → Option Env} {mt me : ME} {md : Bool} {tG : TG} {tt : TT} {te : TE} {own : List Nat} {Q : VK}
    (hg : ∀ σ env H F c cs v d env1 Q, RE g F c σ env → Ih g H F c cs → RV g F c v d → tg d env = some env1 → (∀ σ1, RE g F c σ1 env1 → L2.wipe σ1 own = L2.wipe σ own → Q σ1 H) → tG v σ H Q)
    (ht : ∀ σ env H F c cs Q, RE g F c σ env → Ih g H F c cs → PoT g (fun _ _ _ => False) H F c (mt env cs) Q → tt σ H Q)
    (he : ∀ σ env H F c cs Q, RE g F c σ env → Ih g H F c cs → PoE g (fun _ _ _ => False) H F c (me env cs) Q → te σ H Q)
    {σ : L2.St} {env : Env} {H F : Hp} {c : List Addr} {cs : Cells} (re : RE g F c σ env) (I : Ih g H F c cs) (hk : kn F c) {Dl : Addr} (hD : H Dl = none)
    (po : PoE g W H F c ((lcL chk tg mt me items env cs).bind fun ds cs2 => mkL md cs2 ds) Q) (hσ : L2.wipe σ own = σ) :
    ∃ Wi : Nat → Nat → Hp → Prop, (∃ m, Wi 0 m (upd H Dl (.lst []))) ∧ ∀ i m H, Wi i m H → (J.stop i H ∧ Q (.ref Dl) H) ∨ (J.go i H ∧ ∃ Nx : Hp → Prop, (∀ H', Nx H' → ∃ m', m' < m ∧ Wi (i + 1) m' H') ∧ ∀ x H', J.yld i H x H' → tG x σ H' fun σ2 H2 => L2.wipe σ2 own = σ ∧ tt σ2 H2 fun b H3 =>
      if b = true then te σ2 H3 fun y H4 => ∃ acc, H4 Dl = some (.lst acc) ∧ acc.length < sizeLine ∧ Nx (upd H4 Dl (.lst (acc ++ [y]))) else Nx H3) := by
  refine ⟨fun i m H' => m = items.length - i ∧ i ≤ items.length ∧ LcI g W H F c Q md Dl (lcL chk tg mt me (items.drop i)) env H', ⟨_, rfl, Nat.zero_le _, F, c, cs, [], [], Xt.side (Xt.refl _ _ _) hD, I.side (I.notMem hD) (I.noF hD), upd_same, I.notMem hD, I.noF hD, .nil, ?_⟩, ?_⟩
  · cases hl : lcL chk tg mt me items env cs <;> simpa [RA.pre, hl] using po
  · rintro i m H1 ⟨rfl, hi, F1, c1, cs1, acc, dacc, x1, I1, hDl, hDc, hDF, rva, po1⟩
    have re1 := re.mono x1.le
    have k1 := km _ _ _ _ x1.le hk
    by_cases hc : chk cs1
    · by_cases hlt : i < items.length
      · refine .inr ⟨K.go i H1 F1 c1 cs1 I1 ⟨k1, hc⟩ hlt, fun H' => ∃ m', m' < items.length - i ∧ m' = items.length - (i + 1) ∧ i + 1 ≤ items.length ∧ LcI g W H F c Q md Dl (lcL chk tg mt me (items.drop (i + 1))) env H', fun H' h => h, fun x H2 y => ?_⟩
        obtain ⟨F2, x2, I2, rv⟩ := K.yld i H1 F1 c1 cs1 items[i] I1 ⟨k1, hc⟩ (by simp [hlt]) x H2 y
        have hDl2 : H2 Dl = some (.lst acc) := x2.kp _ _ hDl hDc
        have hDF2 := x2.out _ _ hDl hDF hDc
        rw [List.drop_eq_getElem_cons hlt] at po1
        simp only [lcL, hc, if_true] at po1
        cases htg : tg items[i] env with
        | none => rw [htg] at po1; exact po1.elim
        | some env1 =>
          rw [htg] at po1
          simp only at po1
          refine hg σ env H2 F2 c1 cs1 x _ env1 _ (re1.mono x2.le) I2 rv htg fun σ2 re2 hw => ⟨hw.trans hσ, ?_⟩
          refine ht σ2 env1 H2 F2 c1 cs1 _ re2 I2 ?_
          cases htt : mt env1 cs1 with
          | ok d cs3 =>
            rw [htt] at po1
            cases d with
            | bl b =>
              intro H3 F3 c3 x3 I3
              have hDc3 : Dl ∉ c3 := fun h => by
                have := x3.new Dl h hDc
                rw [hDl2] at this; cases this
              have hDl3 : H3 Dl = some (.lst acc) := x3.kp _ _ hDl2 hDc
              have hDF3 := x3.out _ _ hDl2 hDF2 hDc
              cases b with
              | true =>
                refine iteT ?_
                simp only at po1
                refine he σ2 env1 H3 F3 c3 cs3 _ (re2.mono x3.le) I3 ?_
                cases hee : me env1 cs3 with
                | ok d4 cs4 =>
                  rw [hee] at po1
                  simp only at po1
                  intro H4 F4 c4 x4 I4 y ry
                  have hDc4 : Dl ∉ c4 := fun h => by
                    have := x4.new Dl h hDc3
                    rw [hDl3] at this; cases this
                  have hDl4 : H4 Dl = some (.lst acc) := x4.kp _ _ hDl3 hDc3
                  have hDF4 := x4.out _ _ hDl3 hDF3 hDc3
                  have xx := ((x1.trans x2).trans x3).trans x4
                  have ra : RVs g F4 c4 (acc ++ [y]) (dacc ++ [d4]) := (((rva.mono x2.le).mono x3.le).mono x4.le).append (.cons ry .nil)
                  cases hl : lcL chk tg mt me (items.drop (i + 1)) env cs4 with
                  | ok ys cs5 =>
                    rw [hl] at po1
                    have po2 : PoE g W H F c (mkL md cs5 (dacc ++ (d4 :: ys))) Q := po1
                    have hlen : acc.length < sizeLine := by
                      unfold mkL at po2
                      split at po2
                      · rename_i q
                        have := rva.length
                        simp at q
                        omega
                      · exact po2.elim
                    refine ⟨acc, hDl4, hlen, _, by omega, rfl, hlt, F4, c4, cs4, acc ++ [y], dacc ++ [d4], xx.side hD, I4.side hDc4 hDF4, upd_same, hDc4, hDF4, ra, ?_⟩
                    rw [hl]
                    simp only [RA.pre, RA.bind_ok, List.append_assoc, List.singleton_append]
                    exact po2
                  | exc n fs cs5 => rw [hl] at po1; exact po1.elim
                  | stuck => rw [hl] at po1; exact po1.elim
                | exc n fs cs4 => rw [hee] at po1; exact po1.elim
                | stuck => rw [hee] at po1; exact po1.elim
              | false =>
                refine iteF ⟨_, by omega, rfl, hlt, F3, c3, cs3, acc, dacc, (x1.trans x2).trans x3, I3, hDl3, hDc3, hDF3, (rva.mono x2.le).mono x3.le, po1⟩
            | _ => exact po1.elim
          | exc n fs cs3 => rw [htt] at po1; exact po1.elim
          | stuck => rw [htt] at po1; exact po1.elim
      · have e : i = items.length := by omega
        subst e
        refine .inl ⟨K.stop _ H1 F1 c1 cs1 I1 ⟨k1, hc⟩ rfl, ?_⟩
        rw [List.drop_length] at po1
        simp only [lcL, hc, if_true, RA.pre, RA.bind_ok, List.append_nil] at po1
        unfold mkL at po1
        split at po1
        · cases md with
          | true =>
            rw [if_pos rfl] at po1
            have xp : Xt H F c H1 F1 (c1 ++ [Dl]) := ⟨x1.le.trans Le.push, x1.kp, x1.dom, fun a h n => by
              rcases List.mem_append.mp h with h | h
              · exact x1.new a h n
              · have : a = Dl := by simpa using h
                rw [this]; exact hD, x1.out⟩
            refine po1 _ _ _ xp ?_ _ (.loc (n := cs1.length) (by rw [← I1.len]; simp))
            refine ⟨I1.sub, by simp [I1.len], ?_, fun n a z h1 h2 => ?_⟩
            · rw [List.nodup_append]
              refine ⟨I1.nd, by simp, fun a ha b hb => ?_⟩
              have : b = Dl := by simpa using hb
              subst this
              rintro rfl
              exact hDc ha
            · by_cases hl : n < c1.length
              · rw [List.getElem?_append_left hl] at h1
                rw [List.getElem?_append_left (by rw [← I1.len]; exact hl)] at h2
                exact CR.mono (I1.cell n a z h1 h2) Le.push (fun _ e => e) fun e => e
              · have hl' : n < (c1 ++ [Dl]).length := (List.getElem?_eq_some_iff.mp h1).1
                have hn : n = c1.length := by simp at hl'; omega
                subst hn
                rw [List.getElem?_append_right (Nat.le_refl _)] at h1
                rw [I1.len, List.getElem?_append_right (Nat.le_refl _)] at h2
                simp at h1 h2
                subst h1; subst h2
                exact ⟨hDF, acc, hDl, rva.mono Le.push⟩
          | false =>
            rw [if_neg Bool.false_ne_true] at po1
            have le2 : Le F1 c1 (upd F1 Dl (.lst acc)) c1 := Le.upd hDF
            have xp : Xt H F c H1 (upd F1 Dl (.lst acc)) c1 := ⟨x1.le.trans le2, x1.kp, x1.dom, x1.new, fun a o h f n => by
              rw [upd_ne (ne_of_none h hD)]; exact x1.out a o h f n⟩
            refine po1 _ _ _ xp ?_ _ (.lst upd_same (rva.mono le2))
            refine ⟨fun a o e => ?_, I1.len, I1.nd, fun n a z h1 h2 => ?_⟩
            · by_cases ha : a = Dl
              · subst ha; rw [upd_same] at e; cases e; exact hDl
              · rw [upd_ne ha] at e; exact I1.sub a o e
            · have hne : a ≠ Dl := fun e => hDc (e ▸ List.mem_of_getElem? h1)
              exact CR.mono (I1.cell n a z h1 h2) le2 (fun _ e => e) fun e => by rw [upd_ne hne]; exact e
        · exact po1.elim
    · have : lcL chk tg mt me (items.drop i) env cs1 = .stuck := by cases items.drop i <;> simp [lcL, hc]
      rw [this] at po1
      exact po1.elim
/-! ### readings that are the same in every context -/
def teOf (g : Gd) (W : WX) (m : ME) : TE := fun σ H Q => ∃ env F c cs, RE g F c σ env ∧ Ih g H F c cs ∧ PoE g (fun a b => W a b σ) H F c (m env cs) Q
def ttOf (g : Gd) (W : WX) (m : ME) : TT := fun σ H Q => ∃ env F c cs, RE g F c σ env ∧ Ih g H F c cs ∧ PoT g (fun a b => W a b σ) H F c (m env cs) Q
def tgOf (g : Gd) (f : D → Env → Option Env) (own : List Nat) : TG := fun v σ H Q => ∃ env F c cs d env1, RE g F c σ env ∧ Ih g H F c cs ∧ RV g F c v d ∧ f d env = some env1 ∧ ∀ σ1, RE g F c σ1 env1 → L2.wipe σ1 own = L2.wipe σ own → Q σ1 H
section
variable {X : Cx} {W : WX} {pos : Pos} {tg iter elt e : Expr} {ifs : List Expr} {scope : Scope} {own : List (Str × Nat)} {f : D → Env → Option Env} {mw : MW} {m mt me : ME} {md : Bool} {ow : List Nat}
theorem Xp.canon (h : Xp X W e m) : PE X e (teOf (gd X) W m) := by
  obtain ⟨t, p, s⟩ := h
  exact ⟨fun pins s0 σ H Q I ⟨env, F, c, cs, re, I1, po⟩ => p.run pins s0 σ H Q I (s σ env H F c cs Q re I1 po)⟩
theorem Xts.canon (h : Xts X W ifs m) : PTs X ifs (ttOf (gd X) W m) := by
  obtain ⟨t, p, s⟩ := h
  exact ⟨fun pins s0 σ H Q I ⟨env, F, c, cs, re, I1, po⟩ => p.run pins s0 σ H Q I (s σ env H F c cs Q re I1 po)⟩
theorem Tgt.canon (h : Tgt X tg f ow) : PG X tg (tgOf (gd X) f ow) := by
  obtain ⟨t, p, s⟩ := h
  exact ⟨fun pins s0 σ H v u Q I r ⟨env, F, c, cs, d, env1, re, I1, rv, e, k⟩ => p.run pins s0 σ H v u Q I r (s σ env H F c cs v d env1 Q re I1 rv e k)⟩
/-- the parts of a comprehension in its block -/
structure LcOk (X : Cx) (tg : Expr) (ifs : List Expr) (elt : Expr) (scope : Scope) (own : List (Str × Nat)) (f : D → Env → Option Env) (mt me : ME) : Prop where
  tgt : ∀ (s : Shared) (H : Hp) (C : Addr) (cl : List (Str × Addr)) (fp : List Addr), Tgt (X.blk s H scope (compEnvC scope cl C X.env) fp) tg f (own.map (·.2))
  tst : ∀ (s : Shared) (H : Hp) (C : Addr) (cl : List (Str × Addr)) (fp : List Addr), Xts (X.blk s H scope (compEnvC scope cl C X.env) fp) (fun _ _ _ _ => False) ifs mt
  elt : ∀ (s : Shared) (H : Hp) (C : Addr) (cl : List (Str × Addr)) (fp : List Addr), Xp (X.blk s H scope (compEnvC scope cl C X.env) fp) (fun _ _ _ _ => False) elt me
theorem lc_go {wi : TI} (sw : ∀ σ env H F c cs R, RE (gd X) F c σ env → Ih (gd X) H F c cs → PoW (gd X) (fun a b => W a b σ) H F c (mw env cs) R → wi σ H R)
    {σ : L2.St} {env : Env} {H F : Hp} {c : List Addr} {cs : Cells} {Q : VK} (re : RE (gd X) F c σ env) (I : Ih (gd X) H F c cs) (po : PoE (gd X) (fun a b => W a b σ) H F c (eLc md (own.map (·.2)) f mw mt me env cs) Q) :
    tLc wi (tgOf (gd X) f (own.map (·.2))) (ttOf (gd X) (fun _ _ _ _ => False) mt) (teOf (gd X) (fun _ _ _ _ => False) me) (own.map (·.2)) σ H Q := by
  refine sw σ env H F c cs _ re I ?_
  unfold eLc at po
  cases h : mw env cs with
  | ok items chk cs1 =>
    rw [h] at po
    intro H1 F1 c1 x1 I1 J kn K km hk Dl hD
    have q := lc_sim K km (tg := f) (mt := mt) (me := me) (md := md) (own := own.map (·.2)) (Q := Q) (fun σ env H F c cs v d env1 Q re I rv h k => (⟨env, F, c, cs, d, env1, re, I, rv, h, k⟩ : tgOf (gd X) f (own.map (·.2)) v σ H Q))
      (fun σ env H F c cs Q re I po => (⟨env, F, c, cs, re, I, po⟩ : ttOf (gd X) (fun _ _ _ _ => False) mt σ H Q)) (fun σ env H F c cs Q re I po => (⟨env, F, c, cs, re, I, po⟩ : teOf (gd X) (fun _ _ _ _ => False) me σ H Q))
      (W := fun a b => W a b σ) ((re.mono x1.le).wipe (own.map (·.2))) I1 hk hD (PoE.from x1 po) (wipe_wipe σ _)
    exact q
  | exc n fs cs1 => rw [h] at po; exact po
  | stuck => rw [h] at po; exact po.elim
theorem xp_lc (md : Bool) (hc : X.calm = true) (hN : X.N.Nodup) (hi : Wk X W tg iter mw) (ok : BlkOk X.N X.env.scope scope own) (h : LcOk X tg ifs elt scope own f mt me) (hs : ∀ x, foldedSetIterable iter X.env x = pure x := by intro _; rfl) :
    Xp X W (.ListComp elt [⟨tg, iter, ifs, 0⟩] scope pos) (eLc md (own.map (·.2)) f mw mt me) := by
  obtain ⟨wi, pw, sw⟩ := hi
  exact ⟨_, pe_lc (g := tgOf (gd X) f (own.map (·.2))) (tt := ttOf (gd X) (fun _ _ _ _ => False) mt) (te := teOf (gd X) (fun _ _ _ _ => False) me) hc hN pw ok (fun s H C cl fp => (h.tgt s H C cl fp).canon) (fun s H C cl fp => (h.tst s H C cl fp).canon) (fun s H C cl fp => (h.elt s H C cl fp).canon) hs, fun σ env H F c cs Q re I po => lc_go sw re I po⟩
/-- y = [..] -/
theorem sm_setLc (md : Bool) {i : Nat} {y : Str} {py spos : Pos} (hc : X.calm = true) (hN : X.N.Nodup) (hy : X.N[i]? = some y) (hyl : X.env.scope.names.lookup y = some .local)
    (hsw : swapsWith (.ListComp elt [⟨tg, iter, ifs, 0⟩] scope pos) (some (.Name y py)) spos.line X.env = pure true) (hi : Wk X W tg iter mw) (ok : BlkOk X.N X.env.scope scope own) (h : LcOk X tg ifs elt scope own f mt me) (hs : ∀ x, foldedSetIterable iter X.env x = pure x := by intro _; rfl) :
    Sm X W (.Assign [.Name y py] (.ListComp elt [⟨tg, iter, ifs, 0⟩] scope pos) spos) (sAsg i (eLc md (own.map (·.2)) f mw mt me)) := by
  obtain ⟨wi, pw, sw⟩ := hi
  refine ⟨_, ps_setLc (g := tgOf (gd X) f (own.map (·.2))) (tt := ttOf (gd X) (fun _ _ _ _ => False) mt) (te := teOf (gd X) (fun _ _ _ _ => False) me) hc hN hy hyl hsw pw ok (fun s H C cl fp => (h.tgt s H C cl fp).canon) (fun s H C cl fp => (h.tst s H C cl fp).canon) (fun s H C cl fp => (h.elt s H C cl fp).canon) hs, fun σ env H F c cs Dn re I po => ?_⟩
  refine lc_go sw re I (PoS.cut re po _ fun d cs1 _ H1 F1 c1 v x1 I1 rv po1 => ?_)
  exact PoS.next I1 ((re.mono x1.le).set i rv) po1
end
end L3

namespace L3
open PySem L2

/-! ### calls of defs -/
/-- a def of the text keeps m -/
def spM (g : Gd) (m : MF) (n : Nat) : Sp := fun vs H Q E => vs.length = n ∧ ∃ F c cs ds, Ih g H F c cs ∧ RVs g F c vs ds ∧ PoE g E H F c (m ds cs) Q
def eCall (m : MF) (a : MA) : ME := fun env cs => (a env cs).bind fun ds cs1 => m ds cs1
section
variable {X : Cx} {W : WX} {k : Nat} {f : Addr} {fd : FuncData} {ps : List Str} {m : MF} {x : Str} {p pos : Pos} {e : Expr} {es : List Expr} {ms : MA} {n : Nat}
abbrev FnM (X : Cx) (k : Nat) (f : Addr) (fd : FuncData) (ps : List Str) (m : MF) : Prop := FnOk X.prog X.w X.K X.mg X.base (L2.CX X.prog X.w) k f fd ps (spM (gd X) m ps.length)
theorem xp_call (F : FnOk X.prog X.w X.K X.mg X.base (L2.CX X.prog X.w) k f fd ps (spM (gd X) m n)) (hr : Room k X.A) (hg : Gl X x) (hm : X.mg x = some (.ref f)) (hk : PySem.W.keepIn X.K (.ref f) = true) (hb : Binds X.K fd ps []) (tk : Takes X W)
    (ha : Xa X W (e :: es) ms) (hn : (e :: es).length = n := by rfl) (hdb : (x == ("__debug__" : Str)) = false := by decide) (he : starEach (e :: es) X.env = (false, eval e X.env) :: starEach es X.env := by rfl) (hpl : (backTo pos (starEach es X.env)).any (·.1) = false := by rfl)
    (hlen : ∀ env cs ds cs1, ms env cs = .ok ds cs1 → ds.length = n) : Xp X W (.Call (.Name x p) (e :: es) [] pos) (eCall m ms) := by
  obtain ⟨t, pa, sa⟩ := ha
  refine ⟨_, pe_callS F hr hg hm hk hb (fun σ => passAt tk σ) pa hdb he hpl, fun σ env H F c cs Q re I po => ?_⟩
  refine sa σ env H F c cs _ re I (PoA.cut po _ fun ds cs1 h1 H1 F1 c1 vs x1 I1 rv po1 => ?_)
  exact ⟨by rw [rv.length]; exact hlen _ _ _ _ h1, F1, c1, cs1, ds, I1, rv, po1⟩
theorem len_nil : ∀ env cs ds cs1, aNil env cs = .ok ds cs1 → ds.length = 0 := fun env cs ds cs1 h => by
  simp only [aNil, RA.ok.injEq] at h
  rw [← h.1]; rfl
theorem len_cons {m : ME} {ms : MA} {n : Nat} (h : ∀ env cs ds cs1, ms env cs = .ok ds cs1 → ds.length = n) : ∀ env cs ds cs1, aCons m ms env cs = .ok ds cs1 → ds.length = n + 1 := fun env cs ds cs1 e => by
  unfold aCons at e
  split at e
  · split at e
    · rename_i h2
      simp only [RA.ok.injEq] at e
      rw [← e.1, List.length_cons, h _ _ _ _ h2]
    · cases e
    · cases e
  · cases e
  · cases e
end
/-- a def's body -/
def mDef (n : Nat) (body : MS) : MF := fun ds cs => match body (ds.map some ++ List.replicate (n - ds.length) none) cs with
  | .nx _ cs1 => .ok .non cs1
  | .rt d cs1 => .ok d cs1
  | .exc x fs _ cs1 => .exc x fs cs1
  | _ => .stuck
section
variable {P : Program} {w : World} {K : PySem.W.Frag} {mg : Str → Option Value} {base : Heap}
theorem re_start {g : Gd} {F : Hp} {c : List Addr} {vs : List V} {ds : List D} (rv : RVs g F c vs ds) (N : List Str) : RE g F c (L2.start N vs) (ds.map some ++ List.replicate (N.length - ds.length) none) := by
  unfold L2.start
  refine ⟨by simp [rv.length], fun i d h => ?_⟩
  by_cases hl : i < ds.length
  · rw [List.getElem?_append_left (by simpa using hl), List.getElem?_map] at h
    cases hd : ds[i]? with
    | none => rw [hd] at h; cases h
    | some d' =>
      rw [hd] at h
      simp only [Option.map_some, Option.some.injEq] at h
      subst h
      obtain ⟨v, hv, r⟩ := rv.get hd
      exact ⟨v, by rw [List.getElem?_append_left (by simp [rv.length]; exact hl), List.getElem?_map, hv]; rfl, r⟩
  · rw [List.getElem?_append_right (by simp; omega)] at h
    rw [List.getElem?_replicate] at h
    split at h <;> cases h
theorem fnM {x qual : Str} {st : Stmt} {f : Addr} {fd : FuncData} {N ps : List Str} {k : Nat} (F : Fun K x qual st f fd) (S : FnScope N ps (defScope st)) (body : MS)
    (h : ∀ (cdv : Value) (A : Around) (outer : List PySem.Env) (s : Shared) (H : Hp) (E : XK), Room k (A.deeper (PyProof.Rows.envOfC qual (defScope st) s.heap.objs.size f cdv)) →
      Sms (cxOf (L2.CX P w) P w K mg base N qual (defScope st) f cdv A outer s H E) (fun cls d _ H => E cls d H) (defBody st) body) :
    FnOk P w K mg base (L2.CX P w) (k + 1) f fd ps (spM ⟨P, w, K, mg⟩ (mDef N.length body) ps.length) := by
  refine F.okX S (fun vs H Q E h => h.1) fun cdv A outer s H vs Q E hr ⟨hl, F0, c, cs, ds, I, rv, po⟩ => ?_
  obtain ⟨t, pt, st⟩ := h cdv A outer s H E hr
  refine ⟨t, pt, st _ _ H F0 c cs _ (re_start rv N) I ?_⟩
  unfold mDef at po
  cases hb : body (ds.map some ++ List.replicate (N.length - ds.length) none) cs with
  | nx e c1 => rw [hb] at po; exact fun H' F' c' x I' σ re => po H' F' c' x I' .non .non
  | rt d c1 => rw [hb] at po; exact po
  | exc n fs e c1 => rw [hb] at po; exact fun H' F' c' x I' σ C dx vs _ a b d => po H' F' c' x I' C dx vs a b d
  | bk e c1 => rw [hb] at po; exact po.elim
  | ct e c1 => rw [hb] at po; exact po.elim
  | stuck => rw [hb] at po; exact po.elim
end
/-- another function that says the same where it says anything -/
theorem spM_imp {g : Gd} {m m' : MF} {n : Nat} (h : ∀ E H F c cs vs ds Q, Ih g H F c cs → RVs g F c vs ds → PoE g E H F c (m' ds cs) Q → PoE g E H F c (m ds cs) Q) : ∀ vs H Q E, spM g m' n vs H Q E → spM g m n vs H Q E :=
  fun vs H Q E ⟨hl, F, c, cs, ds, I, rv, po⟩ => ⟨hl, F, c, cs, ds, I, rv, h _ _ _ _ _ _ _ _ I rv po⟩

/-! ### what a def leaves behind: its own cells are dropped -/
mutual
def below (n : Nat) : D → Bool
  | .lst l => belows n l
  | .tup l => belows n l
  | .dct l => belowk n l
  | .obj _ l => belowf n l
  | .loc k => decide (k < n)
  | _ => true
def belows (n : Nat) : List D → Bool
  | [] => true
  | d :: r => below n d && belows n r
def belowk (n : Nat) : List (Kd × D) → Bool
  | [] => true
  | (_, d) :: r => below n d && belowk n r
def belowf (n : Nat) : List (Str × D) → Bool
  | [] => true
  | (_, d) :: r => below n d && belowf n r
end
def Cell.below (n : Nat) : Cell → Bool
  | .lst l => belows n l
  | .dct l => belowk n l
  | .set _ => true
  | .ins _ l => belowf n l
  | .fz d => L3.below n d
section
variable {g : Gd} {F : Hp} {c : List Addr}
mutual
theorem RV.bel : ∀ {v : V} {d : D}, RV g F c v d → below c.length d = true
  | _, _, .non => rfl
  | _, _, .bl b => rfl
  | _, _, .int i => rfl
  | _, _, .str l => rfl
  | _, _, .lst _ r => RVs.bel r
  | _, _, .tup _ r => RVs.bel r
  | _, _, .dct _ r => RKs.bel r
  | _, _, .scr _ => rfl
  | _, _, .obj _ _ r => RFs.bel r
  | _, _, .loc h => by
    simp only [L3.below, decide_eq_true_eq]
    exact (List.getElem?_eq_some_iff.mp h).1
theorem RVs.bel : ∀ {v : List V} {d : List D}, RVs g F c v d → belows c.length d = true
  | _, _, .nil => rfl
  | _, _, .cons a b => by simp only [L3.belows, RV.bel a, RVs.bel b, Bool.and_self]
theorem RKs.bel : ∀ {v : List (Key × V)} {d : List (Kd × D)}, RKs g F c v d → belowk c.length d = true
  | _, _, .nil => rfl
  | _, _, .cons a b => by simp only [L3.belowk, RV.bel a, RKs.bel b, Bool.and_self]
theorem RFs.bel : ∀ {v : List (Str × V)} {d : List (Str × D)}, RFs g F c v d → belowf c.length d = true
  | _, _, .nil => rfl
  | _, _, .cons a b => by simp only [L3.belowf, RV.bel a, RFs.bel b, Bool.and_self]
end
mutual
theorem RV.cut {n : Nat} : ∀ {v : V} {d : D}, RV g F c v d → below n d = true → RV g F (c.take n) v d
  | _, _, .non, _ => .non
  | _, _, .bl b, _ => .bl b
  | _, _, .int i, _ => .int i
  | _, _, .str l, _ => .str l
  | _, _, .lst h r, b => .lst h (RVs.cut r b)
  | _, _, .tup h r, b => .tup h (RVs.cut r b)
  | _, _, .dct h r, b => .dct h (RKs.cut r b)
  | _, _, .scr h, _ => .scr h
  | _, _, .obj m h r, b => .obj m h (RFs.cut r b)
  | _, _, .loc h, b => .loc (by
    simp only [L3.below, decide_eq_true_eq] at b
    rw [List.getElem?_take, if_pos b]; exact h)
theorem RVs.cut {n : Nat} : ∀ {v : List V} {d : List D}, RVs g F c v d → belows n d = true → RVs g F (c.take n) v d
  | _, _, .nil, _ => .nil
  | _, _, .cons a b, h => by
    simp only [L3.belows, Bool.and_eq_true] at h
    exact .cons (RV.cut a h.1) (RVs.cut b h.2)
theorem RKs.cut {n : Nat} : ∀ {v : List (Key × V)} {d : List (Kd × D)}, RKs g F c v d → belowk n d = true → RKs g F (c.take n) v d
  | _, _, .nil, _ => .nil
  | _, _, .cons a b, h => by
    simp only [L3.belowk, Bool.and_eq_true] at h
    exact .cons (RV.cut a h.1) (RKs.cut b h.2)
theorem RFs.cut {n : Nat} : ∀ {v : List (Str × V)} {d : List (Str × D)}, RFs g F c v d → belowf n d = true → RFs g F (c.take n) v d
  | _, _, .nil, _ => .nil
  | _, _, .cons a b, h => by
    simp only [L3.belowf, Bool.and_eq_true] at h
    exact .cons (RV.cut a h.1) (RFs.cut b h.2)
end
theorem CR.cut {H : Hp} {n : Nat} {a : Addr} {x : Cell} (h : CR g H F c a x) (b : x.below n = true) : CR g H F (c.take n) a x := by
  cases x with
  | lst l => obtain ⟨f, vs, h, r⟩ := h; exact ⟨f, vs, h, r.cut b⟩
  | dct l => obtain ⟨f, vs, h, r⟩ := h; exact ⟨f, vs, h, r.cut b⟩
  | set l => exact h
  | ins m l => obtain ⟨f, C, dx, fs, m, h, r⟩ := h; exact ⟨f, C, dx, fs, m, h, r.cut b⟩
  | fz d => exact ⟨h.1.cut b, h.2⟩
theorem CR.below {H : Hp} {a : Addr} {x : Cell} (h : CR g H F c a x) : x.below c.length = true := by
  cases x with
  | lst l => obtain ⟨f, vs, h, r⟩ := h; exact r.bel
  | dct l => obtain ⟨f, vs, h, r⟩ := h; exact r.bel
  | set l => rfl
  | ins m l => obtain ⟨f, C, dx, fs, m, h, r⟩ := h; exact r.bel
  | fz d => exact h.1.bel
end
/-- the elder cells are as they were, or speak of elder cells alone -/
def Kept (cs cs' : Cells) : Prop := cs.length ≤ cs'.length ∧ ∀ i x, i < cs.length → cs'[i]? = some x → cs[i]? = some x ∨ x.below cs.length = true
theorem ih_cut {g : Gd} {H F H' F' : Hp} {c c' : List Addr} {cs cs' : Cells} (I : Ih g H F c cs) (x : Xt H F c H' F' c') (I' : Ih g H' F' c' cs') (k : Kept cs cs') : Ih g H' F' (c'.take cs.length) (cs'.take cs.length) ∧ Xt H F c H' F' (c'.take cs.length) := by
  refine ⟨⟨I'.sub, by simp [I'.len], I'.nd.sublist (List.take_sublist _ _), fun n a y h1 h2 => ?_⟩, ?_⟩
  · rw [List.getElem?_take] at h1 h2
    split at h1
    · rename_i hn
      rw [if_pos hn] at h2
      have q := I'.cell n a y h1 h2
      refine CR.cut q ?_
      rcases k.2 n y hn h2 with e | e
      · obtain ⟨a0, h0, q0⟩ := I.at e
        have := CR.below q0
        rw [I.len] at this
        exact this
      · exact e
    · cases h1
  · refine ⟨⟨x.le.lst, x.le.tup, x.le.ins, x.le.rd, fun n a h => ?_⟩, x.kp, x.dom, fun a h n => x.new a (List.mem_of_mem_take h) n, x.out⟩
    have hn : n < cs.length := by rw [← I.len]; exact (List.getElem?_eq_some_iff.mp h).1
    rw [List.getElem?_take, if_pos hn]
    exact x.le.loc n a h
open Classical in
noncomputable def tidy (m : MF) : MF := fun ds cs => match m ds cs with
  | .ok d cs' => if Kept cs cs' ∧ below cs.length d = true then .ok d (cs'.take cs.length) else .stuck
  | .exc n fs cs' => if Kept cs cs' ∧ belowf cs.length fs = true then .exc n fs (cs'.take cs.length) else .stuck
  | .stuck => .stuck
theorem tidy_imp {g : Gd} {m : MF} {n : Nat} : ∀ vs H Q E, spM g (tidy m) n vs H Q E → spM g m n vs H Q E := by
  refine spM_imp fun E H F c cs vs ds Q I rv po => ?_
  unfold tidy at po
  cases h : m ds cs with
  | ok d cs' =>
    rw [h] at po
    simp only at po
    split at po
    · rename_i q
      intro H' F' c' x I' v r
      obtain ⟨I2, x2⟩ := ih_cut I x I' q.1
      exact po H' F' _ x2 I2 v (r.cut q.2)
    · exact po.elim
  | exc k fs cs' =>
    rw [h] at po
    simp only at po
    split at po
    · rename_i q
      intro H' F' c' x I' C dx vs' a b r
      obtain ⟨I2, x2⟩ := ih_cut I x I' q.1
      exact po H' F' _ x2 I2 C dx vs' a b (r.cut q.2)
    · exact po.elim
  | stuck => rw [h] at po; exact po.elim
theorem fn_tidy {P : Program} {w : World} {K : PySem.W.Frag} {mg : Str → Option Value} {base : Heap} {k : Nat} {f : Addr} {fd : FuncData} {ps : List Str} {m : MF} {n : Nat} (F : FnOk P w K mg base (L2.CX P w) k f fd ps (spM ⟨P, w, K, mg⟩ m n)) :
    FnOk P w K mg base (L2.CX P w) k f fd ps (spM ⟨P, w, K, mg⟩ (tidy m) n) := F.imp tidy_imp
theorem kept_app (cs js : Cells) : Kept cs (cs ++ js) := ⟨by simp, fun i x hi h => .inl (by rw [List.getElem?_append_left hi] at h; exact h)⟩
theorem tidy_ok {m : MF} {ds : List D} {cs js : Cells} {d : D} (h : m ds cs = .ok d (cs ++ js)) (b : below cs.length d = true) : tidy m ds cs = .ok d cs := by
  unfold tidy
  rw [h]
  simp only
  rw [if_pos ⟨kept_app cs js, b⟩, List.take_left']
  rfl

/-! ### items -/
def ixD (cs : Cells) (x y : D) : R := match x, y with
  | .str l, .int i => if l.length ≤ sizeLine then (match atI l i with
    | some ch => .ok (.str [ch]) cs
    | none => .stuck) else .stuck
  | x, .int i => match seqOf cs x with
    | some ds => match atI ds i with
      | some d => .ok d cs
      | none => .stuck
    | none => .stuck
  | _, _ => .stuck
theorem atI_rv {g : Gd} {F : Hp} {c : List Addr} {vs : List V} {ds : List D} {i : Int} {d : D} (r : RVs g F c vs ds) (h : atI ds i = some d) : ∃ v, atI vs i = some v ∧ RV g F c v d := by
  unfold atI at h ⊢
  rw [r.length]
  cases e : ixN ds.length i with
  | none => rw [e] at h; cases h
  | some j => rw [e] at h; exact r.get h
section
variable {X : Cx} {W : WX} {pos p p1 p2 : Pos} {a b o : Expr} {ma mb mo : ME}
theorem o2_ix {g : Gd} : O2 g (rIx g.K) ixD := by
  intro W H F c cs x y d e Q I rx ry po
  unfold ixD at po
  split at po
  · split at po
    · split at po
      · rename_i hl _ ch hch
        cases rx; cases ry
        exact .inr (.inr ⟨_, _, ch, rfl, rfl, by rw [str_len]; exact hl, by simpa using hch, PoE.here I (.str [ch]) po⟩)
      · exact po.elim
    · exact po.elim
  · split at po
    · rename_i ds hds
      split at po
      · rename_i d' hd
        obtain ⟨q, vs, rfl, hs, rv⟩ := seqOf_at I rx hds
        cases ry
        obtain ⟨v, hv, r⟩ := atI_rv rv hd
        rcases hs with hs | hs
        · exact .inl ⟨q, vs, _, v, rfl, rfl, hs, hv, PoE.here I r po⟩
        · exact .inr (.inl ⟨q, vs, _, v, rfl, rfl, hs, hv, PoE.here I r po⟩)
      · exact po.elim
    · exact po.elim
  · exact po.elim
theorem xp_ix (ha : Xp X W a ma) (hb : Xp X W b mb) (hs : PlainIx b) : Xp X W (.Subscript a b pos) (op2 ixD ma mb) := by
  obtain ⟨ta, pa, sa⟩ := ha
  obtain ⟨tb, pb, sb⟩ := hb
  exact ⟨_, pe_ix ix_seq pa pb hs, fun σ env H F c cs Q re I po => sim2 sa sb o2_ix re I po⟩

/-! ### slices -/
theorem seqL_at {g : Gd} {H F : Hp} {c : List Addr} {cs : Cells} {v : V} {d : D} {ds : List D} (I : Ih g H F c cs) (r : RV g F c v d) (nt : ∀ l, d ≠ .tup l) (h : seqOf cs d = some ds) : ∃ a vs, v = .ref a ∧ SqL g.K H a vs ∧ RVs g F c vs ds := by
  have fl : listOf cs d = some ds → ∃ a vs, v = .ref a ∧ SqL g.K H a vs ∧ RVs g F c vs ds := fun h => by
    obtain ⟨b, vs, e, h1, h2⟩ := listOf_at I r h
    exact ⟨b, vs, e, .inl (.inl h1), h2⟩
  cases d with
  | tup l => exact absurd rfl (nt l)
  | scr l =>
    simp only [seqOf, Option.some.injEq] at h
    subst h
    cases r with
    | scr h1 => exact ⟨_, _, rfl, SqL.up I.sub h1, rvs_ints _⟩
  | _ => exact fl h

def cutL {α : Type} (xs : List α) (lo hi : Option Int) : List α := (xs.drop (HT.sIx xs.length 0 lo)).take (HT.sIx xs.length xs.length hi - HT.sIx xs.length 0 lo)
abbrev MO := Env → Cells → Option (Option Int × Cells)
def oNone : MO := fun _ cs => some (none, cs)
def oSome (m : ME) : MO := fun env cs => match m env cs with
  | .ok (.int i) cs1 => some (some i, cs1)
  | _ => none
def slD (md : Bool) (cs : Cells) (x : D) (lo hi : Option Int) : R := match x with
  | .str l => if l.length ≤ sizeLine then .ok (.str (cutL l lo hi)) cs else .stuck
  | .tup l => mkT cs (cutL l lo hi)
  | x => match seqOf cs x with
    | some ds => mkL md cs (cutL ds lo hi)
    | none => .stuck
def eSl (md : Bool) (m : ME) (lo hi : MO) : ME := fun env cs => (m env cs).bind fun x cs1 => match lo env cs1 with
  | some (l, cs2) => match hi env cs2 with
    | some (h, cs3) => slD md cs3 x l h
    | none => .stuck
  | none => .stuck
def Xo (X : Cx) (W : WX) (e : Option Expr) (m : MO) : Prop := ∃ t, PO X e t ∧ ∀ σ env H F c cs (Q : Option Int → Hp → Prop), RE (gd X) F c σ env → Ih (gd X) H F c cs →
  (match m env cs with
    | some (o, cs1) => Fw (gd X) H F c cs1 fun H' _ _ => Q o H'
    | none => False) → t σ H Q
theorem xo_none : Xo X W none oNone := ⟨_, po_none, fun _ _ _ _ _ _ _ _ I po => po _ _ _ (Xt.refl _ _ _) I⟩
theorem xo_some (h : Xp X W a ma) : Xo X W (some a) (oSome ma) := by
  obtain ⟨ta, pa, sa⟩ := h
  refine ⟨_, po_some pa, fun σ env H F c cs Q re I po => ?_⟩
  refine sa σ env H F c cs _ re I ?_
  unfold oSome at po
  cases h : ma env cs with
  | ok d cs1 =>
    rw [h] at po
    cases d with
    | int i => exact fun H' F' c' x I' v rv => by cases rv; exact ⟨i, rfl, po H' F' c' x I'⟩
    | _ => exact po.elim
  | exc n fs cs1 => rw [h] at po; exact po.elim
  | stuck => rw [h] at po; exact po.elim
theorem rvs_cut {g : Gd} {F : Hp} {c : List Addr} {vs : List V} {ds : List D} (r : RVs g F c vs ds) (lo hi : Option Int) : RVs g F c (cutV vs lo hi) (cutL ds lo hi) := by
  unfold cutV cutL
  rw [r.length]
  exact (r.drop _).take _
theorem xp_sl (md : Bool) {lo hi : Option Expr} {ml mh : MO} (ha : Xp X W a ma) (hl : Xo X W lo ml) (hh : Xo X W hi mh) : Xp X W (.Subscript a (.Slice lo hi none p2) pos) (eSl md ma ml mh) := by
  obtain ⟨ta, pa, sa⟩ := ha
  obtain ⟨tl, pl, sl⟩ := hl
  obtain ⟨th, ph, sh⟩ := hh
  refine ⟨_, pe_slice ((sl_list (X := X)).or (sl_str.or sl_tupA)) pa pl ph, fun σ env H F c cs Q re I po => ?_⟩
  refine sa σ env H F c cs _ re I (PoE.cut po _ fun d cs1 _ H1 F1 c1 v x1 I1 rv po1 => ?_)
  refine sl σ env H1 F1 c1 cs1 _ (re.mono x1.le) I1 ?_
  cases e1 : ml env cs1 with
  | none => rw [e1] at po1; exact po1.elim
  | some q =>
    obtain ⟨l, cs2⟩ := q
    rw [e1] at po1
    simp only at po1 ⊢
    intro H2 F2 c2 x2 I2
    refine sh σ env H2 F2 c2 cs2 _ ((re.mono x1.le).mono x2.le) I2 ?_
    cases e2 : mh env cs2 with
    | none => rw [e2] at po1; exact po1.elim
    | some q =>
      obtain ⟨h, cs3⟩ := q
      rw [e2] at po1
      simp only at po1 ⊢
      intro H3 F3 c3 x3 I3
      have po3 := PoE.from (x2.trans x3) po1
      have rv3 := (rv.mono x2.le).mono x3.le
      unfold slD at po3
      split at po3
      · split at po3
        · rename_i hl
          cases rv3
          refine .inr (.inl ⟨_, rfl, by rw [str_len]; exact hl, ?_⟩)
          have : cutS (⟨List.toArray ‹List Nat›⟩ : Str) l h = ⟨(cutL ‹List Nat› l h).toArray⟩ := by
            unfold cutS cutL
            rw [str_len]
          rw [this]
          exact PoE.here I3 (.str _) po3
        · exact po3.elim
      · cases rv3 with
        | tup g1 g2 =>
          refine .inr (.inr ⟨_, _, rfl, .inl (.inl (I3.sub _ _ g1)), fun e => ?_, fun _ p hp => mkT_ok I3 (rvs_cut g2 l h) po3 hp⟩)
          unfold mkT at po3
          split at po3
          · have hc : cutL ‹List D› l h = ‹List D› := by
              unfold cutL
              rw [← g2.length, e.1, e.2, g2.length]
              simp
            rw [hc] at po3
            exact PoE.here I3 (.tup g1 g2) po3
          · exact po3.elim
      · split at po3
        · rename_i ds hds
          have nt : ∀ l, d ≠ .tup l := by
            rintro l rfl
            rename_i hn
            exact hn l rfl
          obtain ⟨q, vs, rfl, hs, r⟩ := seqL_at I3 rv3 nt hds
          exact .inl ⟨q, vs, rfl, hs, fun p hp => mkL_ok I3 (rvs_cut r l h) po3 hp⟩
        · exact po3.elim
end
end L3

namespace L3
open PySem L2

/-! ### calls of built-in functions -/
def Cb (g : Gd) (r : List V → Hp → VK → Prop) (f : Cells → List D → R) : Prop := ∀ (W : XK) (H F : Hp) (c : List Addr) (cs : Cells) (vs : List V) (ds : List D) (Q : VK), Ih g H F c cs → RVs g F c vs ds → PoE g W H F c (f cs ds) Q → r vs H Q
def eBi (f : Cells → List D → R) (a : MA) : ME := fun env cs => (a env cs).bind fun ds cs1 => f cs1 ds
section
variable {X : Cx} {W : WX} {pos p p1 p2 : Pos} {a b o e : Expr} {ma mb mo : ME} {ms : MA} {id T : String} {x : Str} {es : List Expr} {r : List V → Hp → VK → Prop} {f : Cells → List D → R}
theorem xp_bi (hc : CallR X (.builtin id) r) (ho : Cb (gd X) r f) (hg : Gl X x) (hm : X.mg x = none) (hv : bootBuiltins x = some (.builtin id)) (ha : Xa X W (e :: es) ms) (hn : x ≠ "__name__" := by decide) (hdb : (x == ("__debug__" : Str)) = false := by decide)
    (he : starEach (e :: es) X.env = (false, eval e X.env) :: starEach es X.env := by rfl) (hpl : (backTo pos (starEach es X.env)).any (·.1) = false := by rfl) : Xp X W (.Call (.Name x p) (e :: es) [] pos) (eBi f ms) := by
  obtain ⟨t, pa, sa⟩ := ha
  refine ⟨_, pe_callB hc hg hm hv pa hn hdb he hpl, fun σ env H F c cs Q re I po => ?_⟩
  exact sa σ env H F c cs _ re I (PoA.cut po _ fun ds cs1 _ H1 F1 c1 vs x1 I1 rv po1 => ho _ H1 F1 c1 cs1 vs ds Q I1 rv po1)
theorem xp_ty (hc : CallR X (.type T) r) (ho : Cb (gd X) r f) (hg : Gl X x) (hm : X.mg x = none) (hv : bootBuiltins x = some (.type T)) (ha : Xa X W (e :: es) ms) (hn : x ≠ "__name__" := by decide) (hdb : (x == ("__debug__" : Str)) = false := by decide)
    (he : starEach (e :: es) X.env = (false, eval e X.env) :: starEach es X.env := by rfl) (hpl : (backTo pos (starEach es X.env)).any (·.1) = false := by rfl) : Xp X W (.Call (.Name x p) (e :: es) [] pos) (eBi f ms) := by
  obtain ⟨t, pa, sa⟩ := ha
  refine ⟨_, pe_callTy hc hg hm hv pa hn hdb he hpl, fun σ env H F c cs Q re I po => ?_⟩
  exact sa σ env H F c cs _ re I (PoA.cut po _ fun ds cs1 _ H1 F1 c1 vs x1 I1 rv po1 => ho _ H1 F1 c1 cs1 vs ds Q I1 rv po1)
end

/-! len -/
def lenB (cs : Cells) : List D → R
  | [.str l] => if l.length ≤ sizeLine then .ok (.int l.length) cs else .stuck
  | [d] => match seqOf cs d with
    | some ds => .ok (.int ds.length) cs
    | none => .stuck
  | _ => .stuck
theorem cb_len {g : Gd} : Cb g (fun xs H Q => ∃ x n, xs = [x] ∧ LenV g.K x H n ∧ Q (.int n) H) lenB := by
  intro W H F c cs vs ds Q I rv po
  unfold lenB at po
  split at po
  · split at po
    · rename_i l hl
      cases rv with
      | cons r1 r2 =>
        cases r1; cases r2
        exact ⟨_, l.length, rfl, ⟨by rw [str_len]; exact hl, by rw [str_len]⟩, PoE.here I (.int _) po⟩
    · exact po.elim
  · split at po
    · rename_i d _ ds hds
      cases rv with
      | cons r1 r2 =>
        cases r2
        obtain ⟨q, vs, rfl, hs, r⟩ := seqOf_at I r1 hds
        refine ⟨_, ds.length, rfl, ?_, PoE.here I (.int _) po⟩
        rcases hs with hs | hs
        · exact .inl ⟨vs, hs, r.length.symm⟩
        · exact .inr ⟨vs, hs, r.length.symm⟩
    · exact po.elim
  · exact po.elim
/-! max, min, of two -/
def maxB (cs : Cells) : List D → R
  | [.int i, .int j] => .ok (.int (if j > i then j else i)) cs
  | _ => .stuck
def minB (cs : Cells) : List D → R
  | [.int i, .int j] => .ok (.int (if j < i then j else i)) cs
  | _ => .stuck
theorem cb_max {g : Gd} : Cb g (fun xs H Q => ∃ i j, xs = [.int i, .int j] ∧ Q (.int (if j > i then j else i)) H) maxB := by
  intro W H F c cs vs ds Q I rv po
  unfold maxB at po
  split at po
  · cases rv with
    | cons r1 r2 =>
      cases r2 with
      | cons r2 r3 =>
        cases r1; cases r2; cases r3
        exact ⟨_, _, rfl, PoE.here I (.int _) po⟩
  · exact po.elim
theorem cb_min {g : Gd} : Cb g (fun xs H Q => ∃ i j, xs = [.int i, .int j] ∧ Q (.int (if j < i then j else i)) H) minB := by
  intro W H F c cs vs ds Q I rv po
  unfold minB at po
  split at po
  · cases rv with
    | cons r1 r2 =>
      cases r2 with
      | cons r2 r3 =>
        cases r1; cases r2; cases r3
        exact ⟨_, _, rfl, PoE.here I (.int _) po⟩
  · exact po.elim
/-! str, int, repr of flat values -/
def codes (x : Str) : List Nat := x.cps.toList
theorem str_codes (x : Str) : (⟨(codes x).toArray⟩ : Str) = x := by
  cases x; simp [codes]
def strB (cs : Cells) : List D → R
  | [.int i] => if i.natAbs.log2 < 1920 then .ok (.str (codes (toString i))) cs else .stuck
  | [.str l] => .ok (.str l) cs
  | _ => .stuck
abbrev rStrA : List V → Hp → VK → Prop := fun xs H Q => (∃ i, xs = [.int i] ∧ i.natAbs.log2 < 1920 ∧ Q (.str (toString i)) H) ∨ ∃ a, xs = [.str a] ∧ Q (.str a) H
theorem call_strA {X : Cx} : CallR X (.type "str") rStrA := call_str_int.or SkE.call_str_str
theorem cb_str {g : Gd} : Cb g rStrA strB := by
  intro W H F c cs vs ds Q I rv po
  unfold strB at po
  split at po
  · split at po
    · rename_i i hi
      cases rv with
      | cons r1 r2 =>
        cases r1; cases r2
        refine .inl ⟨_, rfl, hi, ?_⟩
        have := PoE.here I (.str (codes (toString i))) po
        rw [str_codes] at this
        exact this
    · exact po.elim
  · cases rv with
    | cons r1 r2 =>
      cases r1; cases r2
      exact .inr ⟨_, rfl, PoE.here I (.str _) po⟩
  · exact po.elim
def intB (cs : Cells) : List D → R
  | [.str l] => match PySem.intText? ⟨l.toArray⟩ with
    | some n => if l.length ≤ 640 then .ok (.int n) cs else .stuck
    | none => .stuck
  | _ => .stuck
theorem cb_int {g : Gd} : Cb g (fun xs H Q => ∃ a n, xs = [.str a] ∧ PySem.intText? a = some n ∧ a.length ≤ 640 ∧ Q (.int n) H) intB := by
  intro W H F c cs vs ds Q I rv po
  unfold intB at po
  split at po
  · split at po
    · split at po
      · rename_i hl
        cases rv with
        | cons r1 r2 =>
          cases r1; cases r2
          exact ⟨_, _, rfl, by assumption, by rw [str_len]; exact hl, PoE.here I (.int _) po⟩
      · exact po.elim
    · exact po.elim
  · exact po.elim
/-- repr of a flat value -/
def reprC : D → Option (List Nat)
  | .non => some (codes "None")
  | .bl b => some (codes (if b then "True" else "False"))
  | .int i => if i.natAbs.log2 < 1920 then some (codes (toString i)) else none
  | .str l => if (reprText ⟨l.toArray⟩).length ≤ sizeLine then some (codes (reprText ⟨l.toArray⟩)) else none
  | _ => none
def reprB (cs : Cells) : List D → R
  | [d] => match reprC d with
    | some l => .ok (.str l) cs
    | none => .stuck
  | _ => .stuck
inductive RepV : V → Str → Prop
  | non : RepV .non "None"
  | bl (b : Bool) : RepV (.bl b) (if b then "True" else "False")
  | int {i : Int} (h : i.natAbs.log2 < 1920) : RepV (.int i) (toString i)
  | str {x : Str} (h : (reprText x).length ≤ sizeLine) : RepV (.str x) (reprText x)
def rRepV : List V → Hp → VK → Prop := fun xs H Q => ∃ x z, xs = [x] ∧ RepV x z ∧ Q (.str z) H
theorem call_repV {X : Cx} : CallR X (.builtin "repr") rRepV := by
  intro pins s σ H xs us Q I r h
  obtain ⟨x, z, rfl, hr, q⟩ := h
  obtain ⟨u, rfl, ru⟩ := vals1 r
  cases hr with
  | non => cases (show u = Value.none from ru); exact PySem.P.repr_of_none ⟨.str _, H, I.tok _, ⟨_, rfl⟩, q⟩
  | bl b => cases (show u = Value.bool b from ru); exact PySem.P.repr_of_bool ⟨.str _, H, I.tok _, by cases b <;> exact ⟨_, rfl⟩, q⟩
  | int h => obtain ⟨t, rfl⟩ := ru; exact PySem.P.repr_of_int h ⟨.str _, H, I.tok _, ⟨_, rfl⟩, q⟩
  | str h => obtain ⟨t, rfl⟩ := ru; exact PySem.P.repr_of_str ⟨.str _, H, I.tok _, ⟨_, rfl⟩, q⟩ h
theorem cb_repr {g : Gd} : Cb g rRepV reprB := by
  intro W H F c cs vs ds Q I rv po
  unfold reprB at po
  split at po
  · rename_i d
    cases rv with
    | cons r1 r2 =>
      cases r2
      split at po
      · rename_i l hl
        have go : ∀ z, codes z = l → ∀ v, RepV v z → rRepV [v] H Q := fun z e v h => ⟨v, z, rfl, h, by
          have := PoE.here I (.str l) po
          rw [← e, str_codes] at this
          exact this⟩
        cases r1 with
        | non => simp only [reprC, Option.some.injEq] at hl; exact go _ hl _ .non
        | bl b => simp only [reprC, Option.some.injEq] at hl; exact go _ hl _ (.bl b)
        | int i =>
          simp only [reprC] at hl
          split at hl
          · simp only [Option.some.injEq] at hl; exact go _ hl _ (.int (by assumption))
          · cases hl
        | str y =>
          simp only [reprC] at hl
          split at hl
          · simp only [Option.some.injEq] at hl; exact go _ hl _ (.str (by assumption))
          · cases hl
        | _ => cases hl
      · exact po.elim
  · exact po.elim
/-! all, any, of a list of truths -/
def blsOf : List D → Option (List Bool)
  | [] => some []
  | .bl b :: r => match blsOf r with
    | some l => some (b :: l)
    | none => none
  | _ => none
def allB (cs : Cells) : List D → R
  | [d] => match listOf cs d with
    | some ds => match blsOf ds with
      | some l => .ok (.bl (l.all id)) cs
      | none => .stuck
    | none => .stuck
  | _ => .stuck
theorem blsOf_rv {g : Gd} {F : Hp} {c : List Addr} : ∀ {vs : List V} {ds : List D} {l : List Bool}, RVs g F c vs ds → blsOf ds = some l → vs = l.map V.bl
  | _, _, _, .nil, h => by simp only [blsOf, Option.some.injEq] at h; subst h; rfl
  | _, _, _, .cons r1 r2, h => by
    cases r1 with
    | bl b =>
      simp only [blsOf] at h
      split at h
      · rename_i l hl
        simp only [Option.some.injEq] at h
        subst h
        rw [blsOf_rv r2 hl]; rfl
      · cases h
    | _ => cases h
theorem cb_all {g : Gd} : Cb g (fun vs H Q => ∃ (a : Addr) (bs : List Bool), vs = [V.ref a] ∧ SqL g.K H a (bs.map V.bl) ∧ Q (.bl (bs.all _root_.id)) H) allB := by
  intro W H F c cs vs ds Q I rv po
  unfold allB at po
  split at po
  · rename_i d
    cases rv with
    | cons r1 r2 =>
      cases r2
      split at po
      · rename_i ds hds
        split at po
        · rename_i l hl
          obtain ⟨q, vs, rfl, hs, r⟩ := listOf_at I r1 hds
          have e := blsOf_rv r hl
          subst e
          exact ⟨q, l, rfl, .inl (.inl hs), PoE.here I (.bl _) po⟩
        · exact po.elim
      · exact po.elim
  · exact po.elim

/-! ### isinstance, one built-in class -/
def tyD : D → Option String
  | .non => some "NoneType"
  | .bl _ => some "bool"
  | .int _ => some "int"
  | .str _ => some "str"
  | .lst _ => some "list"
  | .scr _ => some "list"
  | .tup _ => some "tuple"
  | .dct _ => some "dict"
  | _ => none
def tyC (cs : Cells) : D → Option String
  | .loc n => match cs[n]? with
    | some (.lst _) => some "list"
    | some (.dct _) => some "dict"
    | some (.fz d) => tyD d
    | _ => none
  | d => tyD d
def isiD (t : String) (cs : Cells) (d : D) : R := match tyC cs d with
  | some u => match kitB u t with
    | some b => .ok (.bl b) cs
    | none => .stuck
  | none => .stuck
section
variable {g : Gd} {H F : Hp} {c : List Addr} {cs : Cells}
theorem tyD_at (I : Ih g H F c cs) {v : V} {d : D} {t : String} (r : RV g F c v d) (h : tyD d = some t) : TyX g.K H v (.type t) := by
  cases r with
  | non => cases h; exact .base .non
  | bl b => cases h; exact .base (.bl b)
  | int i => cases h; exact .base (.int i)
  | str l => cases h; exact .base (.str _)
  | lst h1 _ => cases h; exact .base (.lst (I.sub _ _ h1))
  | tup h1 _ => cases h; exact .base (.tup (I.sub _ _ h1))
  | dct h1 _ =>
    cases h
    rcases h1 with h1 | ⟨o, h1⟩
    · exact .base (.dK (I.sub _ _ h1))
    · exact .fDict (I.sub _ _ h1)
  | scr h1 =>
    cases h
    rcases h1 with (h1 | ⟨o, h1⟩) | ⟨o, its, n, h1, h2, _⟩
    · exact .base (.lst (I.sub _ _ h1))
    · exact .base (.frz (I.sub _ _ h1))
    · exact .kList h1 h2
  | _ => cases h
theorem tyC_at (I : Ih g H F c cs) {v : V} {d : D} {t : String} (r : RV g F c v d) (h : tyC cs d = some t) : TyX g.K H v (.type t) := by
  cases r with
  | @loc n a ha =>
    simp only [tyC] at h
    obtain ⟨x, hx⟩ := I.there ha
    have q := I.cell n a x ha hx
    rw [hx] at h
    cases x with
    | lst l => cases h; obtain ⟨_, vs, h1, _⟩ := q; exact .base (.lst h1)
    | dct l => cases h; obtain ⟨_, vs, h1, _⟩ := q; exact .base (.dK h1)
    | fz d => exact tyD_at I q.1 h
    | _ => cases h
  | non => exact tyD_at (c := c) I .non h
  | bl b => exact tyD_at (c := c) I (.bl b) h
  | int i => exact tyD_at (c := c) I (.int i) h
  | str l => exact tyD_at (c := c) I (.str l) h
  | lst a b => exact tyD_at I (.lst a b) h
  | tup a b => exact tyD_at I (.tup a b) h
  | dct a b => exact tyD_at I (.dct a b) h
  | scr a => exact tyD_at (c := c) I (.scr a) h
  | obj a b e => exact tyD_at I (.obj a b e) h
end
section
variable {X : Cx} {W : WX} {pos p p1 p2 : Pos} {a b o e : Expr} {ma mb mo m : ME} {ms : MA} {x : Str} {t : String}
theorem pe_blt (hg : Gl X x) (hm : X.mg x = none) (hv : bootBuiltins x = some (.type t)) (hn : x ≠ "__name__" := by decide) (hdb : (x == ("__debug__" : Str)) = false := by decide) : PE X (.Name x p) (tC (.ty t)) :=
  pe_bltn hg hm hv rfl hn hdb
theorem xp_isi (hgi : Gl X "isinstance") (hmi : X.mg "isinstance" = none) (hg : Gl X x) (hm : X.mg x = none) (hv : bootBuiltins x = some (.type t)) (ha : Xp X W a ma) (hn : x ≠ "__name__" := by decide) (hdb : (x == ("__debug__" : Str)) = false := by decide)
    (he : starEach [a, .Name x p2] X.env = (false, eval a X.env) :: starEach [.Name x p2] X.env := by rfl) (he2 : starEach [.Name x p2] X.env = (false, eval (.Name x p2) X.env) :: starEach [] X.env := by rfl)
    (hpl : (backTo pos (starEach [.Name x p2] X.env)).any (·.1) = false := by rfl) : Xp X W (.Call (.Name "isinstance" p) [a, .Name x p2] [] pos) (op1 (isiD t) ma) := by
  obtain ⟨ta, pa, sa⟩ := ha
  refine ⟨_, pe_callB call_isi hgi hmi PyProof.Rows.boot_isinstance (pa_cons pa (pa_cons (pe_blt hg hm hv hn hdb) pa_nil he2) he) (by decide) (by decide) he hpl, fun σ env H F c cs Q re I po => ?_⟩
  refine sa σ env H F c cs _ re I (PoE.cut po _ fun d cs1 _ H1 F1 c1 v x1 I1 rv po1 => ?_)
  unfold isiD at po1
  split at po1
  · rename_i u hu
    split at po1
    · rename_i k hk
      exact ⟨v, .ty t, .type u, .type t, k, rfl, .ty t, tyC_at I1 rv hu, kit_ty hk, PoE.here I1 (.bl k) po1⟩
    · exact po1.elim
  · exact po1.elim
end
end L3

namespace L3
open PySem L2

/-! ### x in y -/
def flatD : D → Bool
  | .non => true
  | .bl _ => true
  | .int _ => true
  | .str _ => true
  | _ => false
def eqF : D → D → Bool
  | .non, .non => true
  | .bl a, .bl b => a == b
  | .bl a, .int b => (if a then 1 else 0) == b
  | .int a, .bl b => a == (if b then 1 else 0)
  | .int a, .int b => a == b
  | .str a, .str b => decide (a = b)
  | _, _ => false
def inF (x : D) (xs : List D) : Bool := xs.any fun y => eqF y x
theorem flat_rv {g : Gd} {F : Hp} {c : List Addr} {v : V} {d : D} (r : RV g F c v d) (h : flatD d = true) : flatV v = true := by
  cases r <;> first | rfl | cases h
theorem flats_rv {g : Gd} {F : Hp} {c : List Addr} : ∀ {v : List V} {d : List D}, RVs g F c v d → d.all flatD = true → v.all flatV = true
  | _, _, .nil, _ => rfl
  | _, _, .cons a b, h => by
    rw [List.all_cons, Bool.and_eq_true] at h ⊢
    exact ⟨flat_rv a h.1, flats_rv b h.2⟩
theorem str_beq (a b : List Nat) : ((⟨a.toArray⟩ : Str) == ⟨b.toArray⟩) = decide (a = b) := by
  rw [Bool.eq_iff_iff, beq_iff_eq, decide_eq_true_eq]
  constructor
  · intro h
    have := congrArg (fun z : Str => z.cps.toList) h
    simpa using this
  · intro h; rw [h]
theorem eqF_rv {g : Gd} {F : Hp} {c : List Addr} {v u : V} {d e : D} (r : RV g F c v d) (q : RV g F c u e) : eqV v u = eqF d e := by
  cases r <;> cases q <;> first | rfl | (simp only [eqV, eqF]; exact str_beq _ _)
theorem inF_rv {g : Gd} {F : Hp} {c : List Addr} {v : V} {d : D} (r : RV g F c v d) : ∀ {vs : List V} {ds : List D}, RVs g F c vs ds → inV v vs = inF d ds
  | _, _, .nil => rfl
  | _, _, .cons a b => by
    unfold inV inF
    rw [List.any_cons, List.any_cons, eqF_rv a r]
    have := inF_rv r b
    unfold inV inF at this
    rw [this]
def inB (cs : Cells) (x y : D) : Option Bool := match x, y with
  | .str [k], .str l => some (decide (k ∈ l))
  | x, y => match seqOf cs y with
    | some ds => if flatD x && ds.all flatD then some (inF x ds) else none
    | none => none
def inD (cs : Cells) (x y : D) : R := match inB cs x y with
  | some b => .ok (.bl b) cs
  | none => .stuck
def ninD (cs : Cells) (x y : D) : R := match inB cs x y with
  | some b => .ok (.bl !b) cs
  | none => .stuck
abbrev rInS1 : R2 := fun x y H Q => ∃ (c : Nat) (z : Str), x = .str ⟨#[c]⟩ ∧ y = .str z ∧ Q (.bl (decide (c ∈ z.cps.toList))) H
abbrev rNInS1 : R2 := fun x y H Q => ∃ (c : Nat) (z : Str), x = .str ⟨#[c]⟩ ∧ y = .str z ∧ Q (.bl (!decide (c ∈ z.cps.toList))) H
section
variable {X : Cx} {W : WX} {pos p p1 p2 : Pos} {a b o e : Expr} {ma mb mo me : ME} {ms : MA}
theorem o2_in {g : Gd} : O2 g (fun x y H Q => rInS1 x y H Q ∨ rIn g.K false x y H Q) inD := by
  intro W H F c cs x y d e Q I rx ry po
  unfold inD inB at po
  split at po
  · rename_i k hk
    split at hk
    · simp only [Option.some.injEq] at hk
      subst hk
      cases rx; cases ry
      exact .inl ⟨_, _, rfl, rfl, PoE.here I (.bl _) po⟩
    · split at hk
      · rename_i ds hds
        split at hk
        · rename_i hf
          simp only [Bool.and_eq_true] at hf
          simp only [Option.some.injEq] at hk
          obtain ⟨q, vs, rfl, hs, r⟩ := seqOf_at I ry hds
          refine .inr ⟨q, vs, rfl, hs, flat_rv rx hf.1, flats_rv r hf.2, ?_⟩
          rw [if_neg Bool.false_ne_true, inF_rv rx r, hk]
          exact PoE.here I (.bl _) po
        · cases hk
      · cases hk
  · exact po.elim
theorem o2_nin {g : Gd} : O2 g (fun x y H Q => rNInS1 x y H Q ∨ rIn g.K true x y H Q) ninD := by
  intro W H F c cs x y d e Q I rx ry po
  unfold ninD inB at po
  split at po
  · rename_i k hk
    split at hk
    · simp only [Option.some.injEq] at hk
      subst hk
      cases rx; cases ry
      exact .inl ⟨_, _, rfl, rfl, PoE.here I (.bl _) po⟩
    · split at hk
      · rename_i ds hds
        split at hk
        · rename_i hf
          simp only [Bool.and_eq_true] at hf
          simp only [Option.some.injEq] at hk
          obtain ⟨q, vs, rfl, hs, r⟩ := seqOf_at I ry hds
          refine .inr ⟨q, vs, rfl, hs, flat_rv rx hf.1, flats_rv r hf.2, ?_⟩
          rw [if_pos rfl, inF_rv rx r, hk]
          exact PoE.here I (.bl _) po
        · cases hk
      · cases hk
  · exact po.elim
theorem xp_in (ha : Xp X W a ma) (hb : Xp X W b mb) (hm : behindInMarks .In b = false) : Xp X W (.Compare a [.In] [b] pos) (op2 inD ma mb) := xp_cmp (op_in_sign.or op_in_seq) o2_in ha hb hm
theorem xp_nin (ha : Xp X W a ma) (hb : Xp X W b mb) (hm : behindInMarks .NotIn b = false) : Xp X W (.Compare a [.NotIn] [b] pos) (op2 ninD ma mb) := xp_cmp (op_notIn_sign.or op_notIn_seq) o2_nin ha hb hm
theorem xt_in (ha : Xp X W a ma) (hb : Xp X W b mb) (hm : behindInMarks .In b = false) : Xt1 X W (.Compare a [.In] [b] pos) (op2 inD ma mb) := xt_cmp (op_in_sign.or op_in_seq) o2_in ha hb hm
theorem xt_nin (ha : Xp X W a ma) (hb : Xp X W b mb) (hm : behindInMarks .NotIn b = false) : Xt1 X W (.Compare a [.NotIn] [b] pos) (op2 ninD ma mb) := xt_cmp (op_notIn_sign.or op_notIn_seq) o2_nin ha hb hm

/-! ### o[i] = e, o a list that is a cell -/
def putL (cs : Cells) (o i v : D) : Option Cells := match o, i with
  | .loc n, .int k => match cs[n]? with
    | some (.lst l) => match ixN l.length k with
      | some j => some (cs.set n (.lst (l.set j v)))
      | none => none
    | _ => none
  | _, _ => none
def sPut (mo mi mv : ME) : MS := fun env cs => (mv env cs).toS env fun v cs1 => (mo env cs1).toS env fun o cs2 => (mi env cs2).toS env fun i cs3 => match putL cs3 o i v with
  | some cs4 => .nx env cs4
  | none => .stuck
theorem RVs.set {g : Gd} {F : Hp} {c : List Addr} : ∀ {vs : List V} {ds : List D} (j : Nat) {v : V} {d : D}, RVs g F c vs ds → RV g F c v d → RVs g F c (vs.set j v) (ds.set j d)
  | _, _, _, _, _, .nil, _ => .nil
  | _, _, 0, _, _, .cons a b, r => .cons r b
  | _, _, j + 1, _, _, .cons a b, r => .cons a (RVs.set j b r)
theorem sm_put {tpos : Pos} (ho : Xp X W o mo) (hi : Xp X W b mb) (hv : Xp X W e me)
    (hs : swapsWithSole [.Subscript o b tpos] e pos.line X.env = pure false := by rfl) (hw : swappedStores [.Subscript o b tpos] e X.env = pure none := by rfl)
    (h1 : (assignEach [.Subscript o b tpos] X.env).map (·.2) = [assign (.Subscript o b tpos) X.env] := by rfl)
    (ha : ∀ v, assign (.Subscript o b tpos) X.env v = (do
      let ov ← holding [v] (eval o X.env)
      let iv ← holding [v, ov] (eval b X.env)
      standAt tpos
      holding [v, ov, iv] (setItem ov iv v)
      release [v, ov, iv] []) := by intro _; rfl) : Sm X W (.Assign [.Subscript o b tpos] e pos) (sPut mo mb me) := by
  obtain ⟨to, po', so⟩ := ho
  obtain ⟨tb, pb, sb⟩ := hi
  obtain ⟨te, pe, se⟩ := hv
  refine ⟨_, ps_asg pe (pg_sub po' pb set_list ha) hs hw h1, fun σ env H F c cs Dn re I po => ?_⟩
  refine se σ env H F c cs _ re I (PoS.cut re po _ fun d cs1 _ H1 F1 c1 v x1 I1 rv po1 => ?_)
  refine so σ env H1 F1 c1 cs1 _ (re.mono x1.le) I1 (PoS.cut (re.mono x1.le) po1 _ fun d2 cs2 _ H2 F2 c2 v2 x2 I2 rv2 po2 => ?_)
  refine sb σ env H2 F2 c2 cs2 _ ((re.mono x1.le).mono x2.le) I2 (PoS.cut ((re.mono x1.le).mono x2.le) po2 _ fun d3 cs3 _ H3 F3 c3 v3 x3 I3 rv3 po3 => ?_)
  have re3 := ((re.mono x1.le).mono x2.le).mono x3.le
  have rv' := (rv.mono x2.le).mono x3.le
  have rv2' := rv2.mono x3.le
  split at po3
  · rename_i cs4 h4
    unfold putL at h4
    split at h4
    · rename_i n k
      split at h4
      · rename_i l hl
        split at h4
        · rename_i j hj
          simp only [Option.some.injEq] at h4
          subst h4
          cases rv3
          cases rv2' with
          | loc ha =>
            have q := I3.cell _ _ _ ha hl
            obtain ⟨f, vs, hH, r⟩ := q
            refine ⟨_, vs, _, j, rfl, rfl, hH, by rw [r.length]; exact hj, ?_⟩
            have x4 := Xt.write I3 (o := .lst (vs.set j v)) ha
            refine po3 _ _ _ x4 (I3.write ha hl rfl ?_) σ (re3.mono x4.le)
            exact ⟨f, _, upd_same, r.set j rv'⟩
        · cases h4
      · cases h4
    · cases h4
  · exact po3.elim
end

/-! ### methods of a text -/
def eM0 (f : Cells → List Nat → R) (mo : ME) : ME := fun env cs => (mo env cs).bind fun x cs1 => match x with
  | .str l => f cs1 l
  | _ => .stuck
def eM1 (f : Cells → List Nat → D → R) (mo me : ME) : ME := fun env cs => (mo env cs).bind fun x cs1 => match x with
  | .str l => (me env cs1).bind fun y cs2 => f cs2 l y
  | _ => .stuck
def Mb0 (g : Gd) (r : V → List V → Hp → VK → Prop) (f : Cells → List Nat → R) : Prop := ∀ (W : XK) (H F : Hp) (c : List Addr) (cs : Cells) (l : List Nat) (Q : VK), Ih g H F c cs → PoE g W H F c (f cs l) Q → r (.str ⟨l.toArray⟩) [] H Q
def Mb1 (g : Gd) (r : V → List V → Hp → VK → Prop) (f : Cells → List Nat → D → R) : Prop := ∀ (W : XK) (H F : Hp) (c : List Addr) (cs : Cells) (l : List Nat) (y : V) (e : D) (Q : VK), Ih g H F c cs → RV g F c y e → PoE g W H F c (f cs l e) Q → r (.str ⟨l.toArray⟩) [y] H Q
section
variable {X : Cx} {W : WX} {pos p p1 p2 apos : Pos} {a b o e : Expr} {ma mb mo me : ME} {ms : MA} {id : String} {name : Str} {r : V → List V → Hp → VK → Prop} {f : Cells → List Nat → D → R} {f0 : Cells → List Nat → R}
theorem xp_m0 (slot : Slot "str" name id) (ty : typeOf (.builtin id) = pure (.type "method_descriptor")) (rule : MtR X id r) (ok : Mb0 (gd X) r f0) (ho : Xp X W o mo)
    (hbase : attributeBase o name X.env (eval o X.env) = eval o X.env := by rfl) (hline : (apos.endLine == pos.line) = true := by rfl) : Xp X W (.Call (.Attribute o name apos) [] [] pos) (eM0 f0 mo) := by
  obtain ⟨to, po', so⟩ := ho
  refine ⟨_, pe_m0 slot ty rule po' hbase hline, fun σ env H F c cs Q re I po => ?_⟩
  refine so σ env H F c cs _ re I (PoE.cut po _ fun d cs1 _ H1 F1 c1 v x1 I1 rv po1 => ?_)
  split at po1
  · cases rv
    exact ⟨⟨_, rfl⟩, ok _ _ _ _ _ _ _ I1 po1⟩
  · exact po1.elim
theorem xp_m1 (slot : Slot "str" name id) (ty : typeOf (.builtin id) = pure (.type "method_descriptor")) (rule : MtR X id r) (ok : Mb1 (gd X) r f) (ho : Xp X W o mo) (he : Xp X W e me)
    (hs : starEach [e] X.env = [(false, eval e X.env)] := by rfl) (hbase : attributeBase o name X.env (eval o X.env) = eval o X.env := by rfl) (hline : (apos.endLine == pos.line) = true := by rfl) :
    Xp X W (.Call (.Attribute o name apos) [e] [] pos) (eM1 f mo me) := by
  obtain ⟨to, po', so⟩ := ho
  obtain ⟨te, pe', se⟩ := he
  refine ⟨_, pe_m1 slot ty rule po' pe' hs hbase hline, fun σ env H F c cs Q re I po => ?_⟩
  refine so σ env H F c cs _ re I (PoE.cut po _ fun d cs1 _ H1 F1 c1 v x1 I1 rv po1 => ?_)
  split at po1
  · cases rv
    refine ⟨⟨_, rfl⟩, se σ env H1 F1 c1 cs1 _ (re.mono x1.le) I1 (PoE.cut po1 _ fun d2 cs2 _ H2 F2 c2 v2 x2 I2 rv2 po2 => ?_)⟩
    exact ok _ _ _ _ _ _ _ _ _ I2 rv2 po2
  · exact po1.elim
/-! join -/
def strsOf : List D → Option (List (List Nat))
  | [] => some []
  | .str l :: r => match strsOf r with
    | some q => some (l :: q)
    | none => none
  | _ => none
def joinD (cs : Cells) (l : List Nat) (y : D) : R := match seqOf cs y with
  | some ds => match strsOf ds with
    | some ls => if (ls.map (·.length)).sum + ls.length * l.length ≤ 16777216 then .ok (.str (TL.joinL l ls)) cs else .stuck
    | none => .stuck
  | none => .stuck
theorem strsOf_rv {g : Gd} {F : Hp} {c : List Addr} : ∀ {vs : List V} {ds : List D} {l : List (List Nat)}, RVs g F c vs ds → strsOf ds = some l → vs = (l.map fun z => (⟨z.toArray⟩ : Str)).map V.str
  | _, _, _, .nil, h => by simp only [strsOf, Option.some.injEq] at h; subst h; rfl
  | _, _, _, .cons r1 r2, h => by
    cases r1 with
    | str y =>
      simp only [strsOf] at h
      split at h
      · rename_i l hl
        simp only [Option.some.injEq] at h
        subst h
        rw [strsOf_rv r2 hl]; rfl
      · cases h
    | _ => cases h
theorem map_tl (ls : List (List Nat)) : (ls.map fun z => (⟨z.toArray⟩ : Str)).map TL.tl = ls := by
  rw [List.map_map]
  conv => rhs; rw [← List.map_id ls]
  exact List.map_congr_left fun z _ => by simp [TL.tl]
theorem join_codes (l : List Nat) (ls : List (List Nat)) : Txt.join ⟨l.toArray⟩ (ls.map fun z => (⟨z.toArray⟩ : Str)) = ⟨(TL.joinL l ls).toArray⟩ := by
  rw [TL.join_eq]
  refine TL.ext_tl ?_
  rw [TL.tl_join, map_tl]
theorem mb_join {g : Gd} : Mb1 g (fun x xs H Q => ∃ a p, ∃ ys : List Str, x = .str a ∧ xs = [.ref p] ∧ (SqL g.K H p (ys.map V.str) ∨ SqT g.K H p (ys.map V.str)) ∧
      (ys.map (·.length)).sum + ys.length * a.length ≤ 16777216 ∧ Q (.str (Txt.join a ys)) H) joinD := by
  intro W H F c cs l y e Q I ry po
  unfold joinD at po
  split at po
  · rename_i ds hds
    split at po
    · rename_i ls hls
      split at po
      · rename_i hz
        obtain ⟨q, vs, rfl, hs, r⟩ := seqOf_at I ry hds
        have e := strsOf_rv r hls
        subst e
        refine ⟨_, q, _, rfl, rfl, hs, ?_, ?_⟩
        · rw [List.map_map, List.length_map, str_len]
          have : ls.map ((fun x : Str => x.length) ∘ fun z => (⟨z.toArray⟩ : Str)) = ls.map (·.length) := List.map_congr_left fun z _ => str_len z
          rw [this]; exact hz
        · rw [join_codes]
          exact PoE.here I (.str _) po
      · exact po.elim
    · exact po.elim
  · exact po.elim
theorem xp_join (ho : Xp X W o mo) (he : Xp X W e me)
    (hs : starEach [e] X.env = [(false, eval e X.env)] := by rfl) (hbase : attributeBase o "join" X.env (eval o X.env) = eval o X.env := by rfl) (hline : (apos.endLine == pos.line) = true := by rfl) :
    Xp X W (.Call (.Attribute o "join" apos) [e] [] pos) (eM1 joinD mo me) := xp_m1 F.slot_str_join F.type_str_join mt_join mb_join ho he hs hbase hline
/-! index of one sign -/
def sixD (cs : Cells) (l : List Nat) (y : D) : R := match y with
  | .str [k] => if k ∈ l then .ok (.int ((l.idxOf k : Nat) : Int)) cs else .stuck
  | _ => .stuck
abbrev rSix : V → List V → Hp → VK → Prop := fun x xs H Q => ∃ a b i rest, x = .str a ∧ xs = [.str b] ∧ Builtin.Str.occurrences a b 0 a.length 1 = i :: rest ∧ Q (.int (i : Nat)) H
theorem idx_of : ∀ {l : List Nat} {k i : Nat}, l[i]? = some k → (∀ j, j < i → l[j]? ≠ some k) → i = l.idxOf k
  | [], _, _, h, _ => by simp at h
  | x :: l, k, 0, h, _ => by simp at h; subst h; simp
  | x :: l, k, i + 1, h, q => by
    have hx : x ≠ k := fun e => q 0 (Nat.succ_pos _) (by simp [e])
    have := idx_of (l := l) (k := k) (i := i) (by simpa using h) fun j hj e => q (j + 1) (by omega) (by simpa using e)
    rw [List.idxOf_cons, ← this]
    have : (x == k) = false := by simpa using hx
    rw [this]; rfl
theorem occ_one (l : List Nat) {k : Nat} (h : k ∈ l) : ∃ rest, Builtin.Str.occurrences ⟨l.toArray⟩ ⟨#[k]⟩ 0 (⟨l.toArray⟩ : Str).length 1 = l.idxOf k :: rest := by
  rcases StrLaws.occ_head ⟨l.toArray⟩ ⟨#[k]⟩ 1 (Nat.le_refl _) with ⟨_, hn⟩ | ⟨i, r, e, ha, hn⟩
  · obtain ⟨i, hi⟩ := List.mem_iff_getElem?.mp h
    exact absurd ((StrLaws.subAt_one ⟨l.toArray⟩ k i).mpr (by simpa using hi)) (hn i)
  · have h1 := (StrLaws.subAt_one ⟨l.toArray⟩ k i).mp ha
    have : i = l.idxOf k := idx_of (by simpa using h1) fun j hj e => hn j hj ((StrLaws.subAt_one ⟨l.toArray⟩ k j).mpr (by simpa using e))
    rw [e, this]
    exact ⟨r, rfl⟩
theorem mb_six {g : Gd} : Mb1 g rSix sixD := by
  intro W H F c cs l y e Q I ry po
  unfold sixD at po
  split at po
  · split at po
    · rename_i h
      cases ry
      obtain ⟨r, hr⟩ := occ_one l h
      exact ⟨_, _, _, r, rfl, rfl, hr, PoE.here I (.int _) po⟩
    · exact po.elim
  · exact po.elim
theorem xp_six (ho : Xp X W o mo) (he : Xp X W e me)
    (hs : starEach [e] X.env = [(false, eval e X.env)] := by rfl) (hbase : attributeBase o "index" X.env (eval o X.env) = eval o X.env := by rfl) (hline : (apos.endLine == pos.line) = true := by rfl) :
    Xp X W (.Call (.Attribute o "index" apos) [e] [] pos) (eM1 sixD mo me) := xp_m1 F.slot_str_index F.type_str_index mt_sindex mb_six ho he hs hbase hline
end

/-! ### {k: v, ..} -/
inductive RPs (g : Gd) (F : Hp) (c : List Addr) : List (V × V) → List D → Prop
  | nil : RPs g F c [] []
  | cons {x y : V} {d e : D} {ps : List (V × V)} {ds : List D} : RV g F c x d → RV g F c y e → RPs g F c ps ds → RPs g F c ((x, y) :: ps) (d :: e :: ds)
def PoP (g : Gd) (W : XK) (H F : Hp) (c : List Addr) (r : RA) (Q : List (V × V) → Hp → Prop) : Prop :=
  match r with
  | .ok ds cs => Fw g H F c cs fun H' F' c' => ∀ ps, RPs g F' c' ps ds → Q ps H'
  | .exc n fs cs => ExK g W H F c n fs cs
  | .stuck => False
def Xps (X : Cx) (W : WX) (pos : Pos) (ks : List (Option Expr)) (vs : List Expr) (m : MA) : Prop := ∃ trs, PPs X pos ks vs trs ∧ ∀ σ env H F c cs Q, RE (gd X) F c σ env → Ih (gd X) H F c cs → PoP (gd X) (fun a b => W a b σ) H F c (m env cs) Q → tPairs trs σ H Q
section
variable {X : Cx} {W : WX} {pos : Pos} {k v : Expr} {ks : List (Option Expr)} {vs : List Expr} {mk mv : ME} {ms : MA}
theorem xps_nil : Xps X W pos [] [] aNil := ⟨[], pps_nil, fun _ _ _ _ _ _ _ _ I po => po _ _ _ (Xt.refl _ _ _) I [] .nil⟩
theorem xps_cons (hk : Xp X W k mk) (hv : Xp X W v mv) (hr : Xps X W pos ks vs ms) : Xps X W pos (some k :: ks) (v :: vs) (aCons mk (aCons mv ms)) := by
  obtain ⟨tk, pk, sk⟩ := hk
  obtain ⟨tv, pv, sv⟩ := hv
  obtain ⟨trs, pr, sr⟩ := hr
  refine ⟨_, pps_cons pk pv pr, fun σ env H F c cs Q re I po => ?_⟩
  refine sk σ env H F c cs _ re I ?_
  unfold aCons at po
  cases h1 : mk env cs with
  | ok d cs1 =>
    rw [h1] at po
    simp only at po
    intro H1 F1 c1 x1 I1 v rv
    refine sv σ env H1 F1 c1 cs1 _ (re.mono x1.le) I1 ?_
    cases h2 : mv env cs1 with
    | ok d2 cs2 =>
      rw [h2] at po
      simp only at po
      intro H2 F2 c2 x2 I2 v2 rv2
      refine sr σ env H2 F2 c2 cs2 _ ((re.mono x1.le).mono x2.le) I2 ?_
      cases h3 : ms env cs2 with
      | ok ds cs3 =>
        rw [h3] at po
        exact fun H3 F3 c3 x3 I3 ps rps => po H3 F3 c3 ((x1.trans x2).trans x3) I3 _ (.cons ((rv.mono x2.le).mono x3.le) (rv2.mono x3.le) rps)
      | exc n fs cs3 =>
        rw [h3] at po
        have po : ExK (gd X) (fun a b => W a b σ) H F c n fs cs3 := po
        exact ExK.from (x1.trans x2) po
      | stuck => rw [h3] at po; exact po.elim
    | exc n fs cs2 =>
      rw [h2] at po
      have po : ExK (gd X) (fun a b => W a b σ) H F c n fs cs2 := po
      exact ExK.from x1 po
    | stuck => rw [h2] at po; exact po.elim
  | exc n fs cs1 => rw [h1] at po; exact po
  | stuck => rw [h1] at po; exact po.elim
def kvD : List D → Option (List (Kd × D))
  | [] => some []
  | .int i :: v :: r => match kvD r with
    | some q => some ((.inl i, v) :: q)
    | none => none
  | .str l :: v :: r => match kvD r with
    | some q => some ((.inr l, v) :: q)
    | none => none
  | _ => none
def putD (kds : List (Kd × D)) (k : Kd) (v : D) : List (Kd × D) := if (kds.any fun kv => decide (kv.1 = k)) = true then kds.map (fun kv => if kv.1 = k then (kv.1, v) else kv) else kds ++ [(k, v)]
def mergeD (kds more : List (Kd × D)) : List (Kd × D) := more.foldl (fun acc kv => putD acc kv.1 kv.2) kds
theorem RKs.app {g : Gd} {F : Hp} {c : List Addr} : ∀ {vs ws : List (Key × V)} {ds es : List (Kd × D)}, RKs g F c vs ds → RKs g F c ws es → RKs g F c (vs ++ ws) (ds ++ es)
  | _, _, _, _, .nil, s => s
  | _, _, _, _, .cons a b, s => .cons a (RKs.app b s)
theorem RKs.any {g : Gd} {F : Hp} {c : List Addr} (k : Kd) : ∀ {vs : List (Key × V)} {ds : List (Kd × D)}, RKs g F c vs ds → (vs.any fun kv => decide (kv.1 = kk k)) = ds.any fun kv => decide (kv.1 = k)
  | _, _, .nil => rfl
  | _, _, .cons a b => by rw [List.any_cons, List.any_cons, RKs.any k b, kk_eq]
theorem RKs.upd {g : Gd} {F : Hp} {c : List Addr} (k : Kd) {v : V} {d : D} (r : RV g F c v d) : ∀ {vs : List (Key × V)} {ds : List (Kd × D)}, RKs g F c vs ds → RKs g F c (vs.map fun kv => if kv.1 = kk k then (kv.1, v) else kv) (ds.map fun kv => if kv.1 = k then (kv.1, d) else kv)
  | _, _, .nil => .nil
  | _, _, @RKs.cons _ _ _ k0 v0 d0 vs ds a b => by
    rw [List.map_cons, List.map_cons]
    by_cases h : k0 = k
    · subst h
      rw [if_pos rfl, if_pos rfl]
      exact .cons r (RKs.upd k0 r b)
    · have h' : ¬ kk k0 = kk k := fun e => h (kk_inj e)
      rw [if_neg h', if_neg h]
      exact .cons a (RKs.upd k r b)
theorem RKs.put {g : Gd} {F : Hp} {c : List Addr} {vs : List (Key × V)} {ds : List (Kd × D)} (r : RKs g F c vs ds) (k : Kd) {v : V} {d : D} (q : RV g F c v d) : RKs g F c (putK vs (kk k) v) (putD ds k d) := by
  unfold putK putD
  rw [r.any k]
  split
  · exact r.upd k q
  · exact r.app (.cons q .nil)
theorem RKs.merge {g : Gd} {F : Hp} {c : List Addr} : ∀ {ws : List (Key × V)} {es : List (Kd × D)} {vs : List (Key × V)} {ds : List (Kd × D)}, RKs g F c ws es → RKs g F c vs ds → RKs g F c (mergeK vs ws) (mergeD ds es)
  | _, _, _, _, .nil, r => r
  | _, _, vs, ds, .cons (k := k) a b, r => by
    have h := RKs.merge b (RKs.put r k a)
    exact h
theorem kvD_rv {g : Gd} {F : Hp} {c : List Addr} : ∀ {ps : List (V × V)} {ds : List D} {kds : List (Kd × D)}, RPs g F c ps ds → kvD ds = some kds → ∃ kvs, ps = kvs.map (fun kv => (kV kv.1, kv.2)) ∧ RKs g F c kvs kds
  | _, _, _, .nil, h => by simp only [kvD, Option.some.injEq] at h; subst h; exact ⟨[], rfl, .nil⟩
  | _, _, _, .cons r1 r2 r3, h => by
    cases r1 with
    | int i =>
      simp only [kvD] at h
      split at h
      · rename_i q hq
        simp only [Option.some.injEq] at h
        subst h
        obtain ⟨kvs, e, r⟩ := kvD_rv r3 hq
        exact ⟨(kk (.inl i), _) :: kvs, by rw [e]; rfl, .cons r2 r⟩
      · cases h
    | str l =>
      simp only [kvD] at h
      split at h
      · rename_i q hq
        simp only [Option.some.injEq] at h
        subst h
        obtain ⟨kvs, e, r⟩ := kvD_rv r3 hq
        exact ⟨(kk (.inr l), _) :: kvs, by rw [e]; rfl, .cons r2 r⟩
      · cases h
    | _ => cases h
theorem RKs.length {g : Gd} {F : Hp} {c : List Addr} : ∀ {vs : List (Key × V)} {ds : List (Kd × D)}, RKs g F c vs ds → vs.length = ds.length
  | _, _, .nil => rfl
  | _, _, .cons _ r => by simp [RKs.length r]
def mkD (md : Bool) (cs : Cells) (ds : List (Kd × D)) : R := if md then .ok (.loc cs.length) (cs ++ [.dct ds]) else .ok (.dct ds) cs
def eDict (md : Bool) (m : MA) : ME := fun env cs => (m env cs).bind fun ds cs1 => match kvD ds with
  | some kds => if kds.length ≤ 15 then mkD md cs1 (mergeD [] kds) else .stuck
  | none => .stuck
/-- an object aside joins: stands still, or a cell -/
theorem mkD_ok {g : Gd} {W : XK} {md : Bool} {H F H1 F1 : Hp} {c c1 : List Addr} {cs : Cells} {kds : List (Kd × D)} {kvs : List (Key × V)} {Q : VK} {p : Addr} (x : Xt H F c H1 F1 c1) (I : Ih g H1 F1 c1 cs) (hp : H p = none) (hF : F1 p = none) (hc : p ∉ c1)
    (r : RKs g F1 c1 kvs kds) (po : PoE g W H F c (mkD md cs kds) Q) : Q (.ref p) (L2.upd H1 p (.dK kvs)) := by
  unfold mkD at po
  cases md with
  | true =>
    rw [if_pos rfl] at po
    have y : Xt H F c (L2.upd H1 p (.dK kvs)) F1 (c1 ++ [p]) := by
      have z := x.side (o := .dK kvs) hp
      exact ⟨z.le.trans Le.push, z.kp, z.dom, fun a h n => by
        rcases List.mem_append.mp h with h | h
        · exact z.new a h n
        · have : a = p := by simpa using h
          rw [this]; exact hp, z.out⟩
    have J := I.side (o := .dK kvs) hc hF
    refine po _ _ _ y ⟨J.sub, by simp [J.len], ?_, fun n a z h1 h2 => ?_⟩ _ (.loc (n := cs.length) (by rw [← I.len]; simp))
    · rw [List.nodup_append]
      refine ⟨I.nd, by simp, fun a ha b hb => ?_⟩
      have : b = p := by simpa using hb
      subst this
      rintro rfl
      exact hc ha
    · by_cases hl : n < c1.length
      · rw [List.getElem?_append_left hl] at h1
        rw [List.getElem?_append_left (by rw [← I.len]; exact hl)] at h2
        exact CR.mono (J.cell n a z h1 h2) Le.push (fun _ e => e) fun e => e
      · have hl' : n < (c1 ++ [p]).length := (List.getElem?_eq_some_iff.mp h1).1
        have hn : n = c1.length := by simp at hl'; omega
        subst hn
        rw [List.getElem?_append_right (Nat.le_refl _)] at h1
        rw [I.len, List.getElem?_append_right (Nat.le_refl _)] at h2
        simp at h1 h2
        subst h1; subst h2
        exact ⟨hF, kvs, upd_same, r.mono Le.push⟩
  | false =>
    rw [if_neg Bool.false_ne_true] at po
    have le2 : Le F1 c1 (L2.upd F1 p (.dK kvs)) c1 := Le.upd hF
    have z := x.side (o := .dK kvs) hp
    have J := I.side (o := .dK kvs) hc hF
    have y : Xt H F c (L2.upd H1 p (.dK kvs)) (L2.upd F1 p (.dK kvs)) c1 := ⟨z.le.trans le2, z.kp, z.dom, z.new, fun a o h f n => by
      rw [upd_ne (ne_of_none h hp)]; exact z.out a o h f n⟩
    refine po _ _ _ y ⟨fun a o e => ?_, I.len, I.nd, fun n a z h1 h2 => ?_⟩ _ (.dct (.inl upd_same) (r.mono le2))
    · by_cases ha : a = p
      · subst ha; rw [upd_same] at e ⊢; exact e
      · rw [upd_ne ha] at e; exact J.sub a o e
    · have hne : a ≠ p := fun e => hc (e ▸ List.mem_of_getElem? h1)
      exact CR.mono (J.cell n a z h1 h2) le2 (fun _ e => e) fun e => by rw [upd_ne hne]; exact e
theorem xp_dict (md : Bool) (h : Xps X W pos ks vs ms) (hall : ks.all (·.isSome) = true := by rfl) (hl : ks.length = vs.length := by rfl) (h0 : ks ≠ [] := by simp) (h15 : ks.length ≤ 15 := by decide) : Xp X W (.Dict ks vs pos) (eDict md ms) := by
  obtain ⟨trs, pr, sr⟩ := h
  refine ⟨_, pe_disp pr hall hl h0 h15, fun σ env H F c cs Q re I po p hp => ?_⟩
  have x0 := Xt.side (Xt.refl H F c) (o := .dK []) hp
  refine sr σ env _ F c cs _ re (I.side (I.notMem hp) (I.noF hp)) ?_
  unfold eDict at po
  cases h1 : ms env cs with
  | ok ds cs1 =>
    rw [h1] at po
    simp only [RA.bind_ok] at po
    intro H1 F1 c1 x1 I1 ps rps
    split at po
    · rename_i kds hk
      split at po
      · rename_i h15
        obtain ⟨kvs, e, r⟩ := kvD_rv rps hk
        refine ⟨x1.kp _ _ upd_same (I.notMem hp), kvs, e, by rw [r.length]; exact h15, ?_⟩
        refine mkD_ok (x0.trans x1) I1 hp (x1.out _ _ upd_same (I.noF hp) (I.notMem hp)) (fun m => ?_) (r.merge .nil) po
        have := x1.new p m (I.notMem hp)
        rw [upd_same] at this; cases this
      · exact po.elim
    · exact po.elim
  | exc n fs cs1 =>
    rw [h1] at po
    have po : ExK (gd X) (fun a b => W a b σ) H F c n fs cs1 := po
    exact ExK.from x0 po
  | stuck => rw [h1] at po; exact po.elim
/-- {} -/
theorem xp_dict0 (md : Bool) : Xp X W (.Dict [] [] pos) (fun _ cs => mkD md cs []) := by
  refine ⟨_, pe_dnewK, fun σ env H F c cs Q re I po p hp => ?_⟩
  exact mkD_ok (Xt.refl _ _ _) I hp (I.noF hp) (I.notMem hp) .nil po
end
end L3
namespace L3
open PySem L2
section
variable {X : Cx} {W : WX} {pos : Pos} {a : Expr} {ma : ME}
theorem xt_tB {t : TE} {m : ME} {σ : L2.St} {env : Env} {H F : Hp} {c : List Addr} {cs : Cells} {Q : Bool → Hp → Prop}
    (s : ∀ σ env H F c cs Q, RE (gd X) F c σ env → Ih (gd X) H F c cs → PoE (gd X) (fun a b => W a b σ) H F c (m env cs) Q → t σ H Q) (re : RE (gd X) F c σ env) (I : Ih (gd X) H F c cs) (po : PoT (gd X) (fun a b => W a b σ) H F c (m env cs) Q) : tB t σ H Q := by
  refine s σ env H F c cs (fun x H' => ∃ k, x = .bl k ∧ Q k H') re I ?_
  cases e : m env cs with
  | ok d cs1 =>
    rw [e] at po
    cases d with
    | bl b => exact fun H' F' c' x I' v rv => by cases rv; exact ⟨b, rfl, po H' F' c' x I'⟩
    | _ => exact po.elim
  | exc n fs cs1 => rw [e] at po; exact po
  | stuck => rw [e] at po; exact po.elim
theorem xt_isN {j} {p : Pos} (ha : Xp X W a ma) : Xt1 X W (.Compare a [.Is] [.Constant .none j p] pos) (op1 (isB none) ma) := by
  obtain ⟨ta, pa, sa⟩ := ha
  refine ⟨_, pt_cmp (pc_isN pa) rfl, fun σ env H F c cs Q re I po => ?_⟩
  refine xt_tB (W := W) (m := op1 (isB none) ma) (fun σ env H F c cs Q re I po => ?_) re I po
  refine sa σ env H F c cs _ re I (PoE.cut po _ fun d cs1 _ H1 F1 c1 v x1 I1 rv po1 => ?_)
  rw [rv_non rv]
  cases d <;> exact PoE.here I1 (.bl _) po1
theorem xt_notN {j} {p : Pos} (ha : Xp X W a ma) : Xt1 X W (.Compare a [.IsNot] [.Constant .none j p] pos) (op1 (isNB none) ma) := by
  obtain ⟨ta, pa, sa⟩ := ha
  refine ⟨_, pt_cmp (pc_notN pa) rfl, fun σ env H F c cs Q re I po => ?_⟩
  refine xt_tB (W := W) (m := op1 (isNB none) ma) (fun σ env H F c cs Q re I po => ?_) re I po
  refine sa σ env H F c cs _ re I (PoE.cut po _ fun d cs1 _ H1 F1 c1 v x1 I1 rv po1 => ?_)
  rw [rv_non rv]
  cases d <;> exact PoE.here I1 (.bl _) po1
theorem xt_isB {j} {p : Pos} {b : Bool} (ha : Xp X W a ma) : Xt1 X W (.Compare a [.Is] [.Constant (.bool b) j p] pos) (op1 (isB (some b)) ma) := by
  obtain ⟨ta, pa, sa⟩ := ha
  refine ⟨_, pt_cmpR op_isB pa pe_bl (nomark _), fun σ env H F c cs Q re I po => ?_⟩
  refine xt_tB (W := W) (m := op1 (isB (some b)) ma) (fun σ env H F c cs Q re I po => ?_) re I po
  refine sa σ env H F c cs _ re I (PoE.cut po _ fun d cs1 _ H1 F1 c1 v x1 I1 rv po1 => ?_)
  refine ⟨b, rfl, ?_⟩
  rw [rv_bl b rv]
  cases d <;> exact PoE.here I1 (.bl _) po1
theorem xt_isNB {j} {p : Pos} {b : Bool} (ha : Xp X W a ma) : Xt1 X W (.Compare a [.IsNot] [.Constant (.bool b) j p] pos) (op1 (isNB (some b)) ma) := by
  obtain ⟨ta, pa, sa⟩ := ha
  refine ⟨_, pt_cmpR op_isNB pa pe_bl (nomark _), fun σ env H F c cs Q re I po => ?_⟩
  refine xt_tB (W := W) (m := op1 (isNB (some b)) ma) (fun σ env H F c cs Q re I po => ?_) re I po
  refine sa σ env H F c cs _ re I (PoE.cut po _ fun d cs1 _ H1 F1 c1 v x1 I1 rv po1 => ?_)
  refine ⟨b, rfl, ?_⟩
  rw [rv_bl b rv]
  cases d <;> exact PoE.here I1 (.bl _) po1
end
end L3

namespace L3
open PySem L2
def anyB (cs : Cells) : List D → R
  | [d] => match listOf cs d with
    | some ds => match blsOf ds with
      | some l => .ok (.bl (l.any id)) cs
      | none => .stuck
    | none => .stuck
  | _ => .stuck
theorem cb_any {g : Gd} : Cb g (fun vs H Q => ∃ (a : Addr) (bs : List Bool), vs = [V.ref a] ∧ SqL g.K H a (bs.map V.bl) ∧ Q (.bl (bs.any _root_.id)) H) anyB := by
  intro W H F c cs vs ds Q I rv po
  unfold anyB at po
  split at po
  · rename_i d
    cases rv with
    | cons r1 r2 =>
      cases r2
      split at po
      · rename_i ds hds
        split at po
        · rename_i l hl
          obtain ⟨q, vs, rfl, hs, r⟩ := listOf_at I r1 hds
          have e := blsOf_rv r hl
          subst e
          exact ⟨q, l, rfl, .inl (.inl hs), PoE.here I (.bl _) po⟩
        · exact po.elim
      · exact po.elim
  · exact po.elim
/-! x.lower(), x.split() -/
def lowerD (cs : Cells) (l : List Nat) : R := if l.length ≤ 5592405 then .ok (.str (codes (Txt.lower ⟨l.toArray⟩))) cs else .stuck
def wordsL (l : List Nat) : List (List Nat) := TL.wfin (l.foldl TL.wstep ([], []))
def wordsD (md : Bool) (cs : Cells) (l : List Nat) : R := if l.length + 2 ≤ sizeLine then mkL md cs ((wordsL l).map D.str) else .stuck
theorem rvs_strs {g : Gd} {F : Hp} {c : List Addr} : ∀ ys : List Str, RVs g F c (ys.map V.str) ((ys.map TL.tl).map D.str)
  | [] => .nil
  | y :: r => .cons (by
      have : RV g F c (.str ⟨(TL.tl y).toArray⟩) (.str (TL.tl y)) := .str _
      rw [TL.mk_tl] at this
      exact this) (rvs_strs r)
section
variable {X : Cx} {W : WX} {pos apos : Pos} {o : Expr} {mo : ME}
theorem mb_lower {g : Gd} : Mb0 g (fun x xs H Q => ∃ a, x = .str a ∧ xs = [] ∧ a.length ≤ 5592405 ∧ Q (.str (Txt.lower a)) H) lowerD := by
  intro W H F c cs l Q I po
  unfold lowerD at po
  split at po
  · rename_i h
    refine ⟨_, rfl, rfl, by rw [str_len]; exact h, ?_⟩
    have := PoE.here I (.str _) po
    rw [str_codes] at this
    exact this
  · exact po.elim
theorem xp_lower (ho : Xp X W o mo) (hbase : attributeBase o "lower" X.env (eval o X.env) = eval o X.env := by rfl) (hline : (apos.endLine == pos.line) = true := by rfl) : Xp X W (.Call (.Attribute o "lower" apos) [] [] pos) (eM0 lowerD mo) :=
  xp_m0 F.slot_str_lower F.type_str_lower mt_lower mb_lower ho hbase hline
theorem mb_words {g : Gd} (md : Bool) : Mb0 g (fun x xs H Q => ∃ a, x = .str a ∧ xs = [] ∧ a.length + 2 ≤ sizeLine ∧ rNewStrs (Txt.words a) H Q) (wordsD md) := by
  intro W H F c cs l Q I po
  unfold wordsD at po
  split at po
  · rename_i h
    refine ⟨_, rfl, rfl, by rw [str_len]; exact h, fun p hp => ?_⟩
    have e : (Txt.words ⟨l.toArray⟩).map TL.tl = wordsL l := TL.words_tl _
    have rv := rvs_strs (g := g) (F := F) (c := c) (Txt.words ⟨l.toArray⟩)
    rw [e] at rv
    exact mkL_ok I rv po hp
  · exact po.elim
theorem xp_words (md : Bool) (ho : Xp X W o mo) (hbase : attributeBase o "split" X.env (eval o X.env) = eval o X.env := by rfl) (hline : (apos.endLine == pos.line) = true := by rfl) : Xp X W (.Call (.Attribute o "split" apos) [] [] pos) (eM0 (wordsD md) mo) :=
  xp_m0 F.slot_str_split F.type_str_split mt_words (mb_words md) ho hbase hline
end
end L3

namespace L3
open PySem L2 PySem.Spec PyProof.Rows

/-! ### defs that are called where no repr is under way -/
structure FnG (P : Program) (w : World) (K : PySem.W.Frag) (mg : Str → Option Value) (base : Heap) (k : Nat) (f : Addr) (fd : FuncData) (ps : List Str) (sp : Sp) : Prop where
  len : ∀ vs H Q E, sp vs H Q E → vs.length = ps.length
  run : ∀ (A : Around) (outer : List PySem.Env) (s : Shared) (H : Hp) (args : Args) (us : List Value) (vs : List V) (Q : VK) (E : XK), A.guards = some [] → Room k A → Env0 P w K mg base A outer s H → BindsTo s fd args (ps.zip us) → Vals vs us → sp vs H Q E →
    codeAny (model P w) A (.call (.ref f) args) (L2.CR (L2.CX P w) outer P w H s Q E) s
section
variable {P : Program} {w : World} {K : PySem.W.Frag} {mg : Str → Option Value} {base : Heap} {k : Nat} {f : Addr} {fd : FuncData} {ps : List Str} {sp sp' : Sp}
theorem FnG.imp (F : FnG P w K mg base k f fd ps sp) (h : ∀ vs H Q E, sp' vs H Q E → sp vs H Q E) : FnG P w K mg base k f fd ps sp' :=
  ⟨fun vs H Q E q => F.len vs H Q E (h _ _ _ _ q), fun A outer s H args us vs Q E hg hr e b v q => F.run A outer s H args us vs Q E hg hr e b v (h _ _ _ _ q)⟩
theorem FnG.mono {j : Nat} (F : FnG P w K mg base j f fd ps sp) (h : j ≤ k) : FnG P w K mg base k f fd ps sp := ⟨F.len, fun A outer s H args us vs Q E hg hr => F.run A outer s H args us vs Q E hg (hr.mono h)⟩
/-- a def by its body -/
theorem fnG_of {x qual : Str} {st : Stmt} {N : List Str} (Fn : Fun K x qual st f fd) (S : FnScope N ps (defScope st)) (len : ∀ vs H Q E, sp vs H Q E → vs.length = ps.length)
    (hbody : ∀ (cdv : Value) (A : Around) (outer : List PySem.Env) (s : Shared) (H : Hp) (vs : List V) (Q : VK) (E : XK), A.guards = some [] → Room k (A.deeper (envOfC qual (defScope st) s.heap.objs.size f cdv)) → sp vs H Q E →
      ∃ t, PSs (cxOf (L2.CX P w) P w K mg base N qual (defScope st) f cdv A outer s H E) (defBody st) t ∧ t { nx := fun _ H' => Q .non H', rt := Q } (start N vs) H) : FnG P w K mg base (k + 1) f fd ps sp := by
  obtain ⟨oc, od, kV, doc, pm, an, cdv, ct, osl, rfl, lk, hcd⟩ := Fn.ex
  constructor
  · exact len
  intro A outer s H args us vs Q E hG hr e0 hb rv hsp
  have hl := len _ _ _ _ hsp
  have KX : K.In s.heap := e0.mod.kin.keeps fun b o e => (e0.bs b o e).1
  have lim : s.heap.NoLimit := e0.mod.nolimit.keeps fun b o e => (e0.bs b o e).1
  have kinds : ∀ y ∈ ps.zip us, (defScope st).names.lookup y.1 = some .local ∨ ((defScope st).names.lookup y.1 = some .cell ∧ ((cellsFrom (s.heap.objs.size + 1) (defScope st).names []).lookup y.1).isSome = true) := by
    rintro ⟨n, v⟩ hy
    rcases S.par n (List.of_mem_zip hy).1 with q | q
    · exact .inl q
    · exact .inr ⟨q, PySem.W.cellsFrom_some _ _ _ (.inl q)⟩
  refine codeAny_call_function hr.depth (KX _ _ lk) rfl S.co S.gen rfl (PySem.W.codeRec_of KX hcd) (hb _ _ _ _ (wpAny_newFunctionEnv_cells S.kind kinds fun env he s1 x => ?_))
  subst he
  refine ⟨lim.keeps x.toInCall.keep, codeAny_func ?_⟩
  obtain ⟨t, ht, hq⟩ := hbody cdv A outer s H vs Q E hG (hr.deeper _) hsp
  have I : Inv (cxOf (L2.CX P w) P w K mg base N qual (defScope st) f cdv A outer s H E) [] (start N vs) H s1 := inv_start S hr.hd e0 hl rv x
  refine wpAny_mono (ht.run [] s1 (start N vs) H _ I hq) (fun fl s' r => ?_) fun e s' r => r
  cases fl with
  | ret u => obtain ⟨v, z, G, J, r', q⟩ := r; exact ⟨v, G, J.os, J.bare, J.base, J.hok, r', q⟩
  | next => obtain ⟨z, G, J, q⟩ := r; exact ⟨.non, G, J.os, J.bare, J.base, J.hok, rfl, q⟩
  | brk => obtain ⟨_, _, _, q⟩ := r; exact q.elim
  | cont => obtain ⟨_, _, _, q⟩ := r; exact q.elim
end
section
variable {X : Cx} {k : Nat} {f : Addr} {fd : FuncData} {ps : List Str} {sp : Sp} {E : L2.St → XK} {x : Str} {p pos : Pos} {e : Expr} {es : List Expr} {t : TA}
theorem run_fnG {pins : List (Addr × Obj)} {σ : L2.St} {H : Hp} {s : Shared} {Q : VK} {us : List Value} {vs : List V} (F : FnG X.prog X.w X.K X.mg X.base k f fd ps sp) (hG : X.A.guards = some []) (hr : Room k X.A) (hb : Binds X.K fd ps []) (hx : PassesAt (L2.CX X.prog X.w) X σ (E σ))
    (I : Inv X pins σ H s) (r : Vals vs us) (h : sp vs H Q (E σ)) : wpAny (model X.prog X.w) X.A (call (.ref f) us) (EP X pins σ Q) X.xe s := by
  have hl : us.length = ps.length := by rw [← r.length]; exact F.len _ _ _ _ h
  have b := hb s us I.kIn (by rw [List.append_nil]; exact hl)
  rw [List.append_nil] at b
  refine wpAny_call (codeAny_mono (F.run X.A X.stack s H ⟨us, []⟩ us vs Q (E σ) hG hr I.env0 b r h) fun q s' z => ?_)
  cases q with
  | error e => exact hx pins H s e s' I z
  | ok fl =>
    cases fl with
    | ret u => exact I.after z
    | next => exact z.elim
    | brk => exact z.elim
    | cont => exact z.elim
theorem pe_callG (F : FnG X.prog X.w X.K X.mg X.base k f fd ps sp) (hG : X.A.guards = some []) (hr : Room k X.A) (hg : Gl X x) (hm : X.mg x = some (.ref f)) (hk : PySem.W.keepIn X.K (.ref f) = true) (hb : Binds X.K fd ps []) (hx : ∀ σ, PassesAt (L2.CX X.prog X.w) X σ (E σ))
    (ha : PA X (e :: es) t) (hdb : (x == ("__debug__" : Str)) = false := by decide) (he : starEach (e :: es) X.env = (false, eval e X.env) :: starEach es X.env := by rfl) (hpl : (backTo pos (starEach es X.env)).any (·.1) = false := by rfl) :
    PE X (.Call (.Name x p) (e :: es) [] pos) (tCallS sp E t) := by
  constructor
  intro pins s σ H Q I h
  refine wpAny_Call_Name_kw (ld_glob I hg hm ?_ hdb)
  refine PySem.W.callWith_K (h₀ := X.base) I.ok.mod.kin hk (thn (ha.run pos pins s σ H _ I h) fun us s1 z => ?_) he hpl
  obtain ⟨vs, H1, I1, r, q⟩ := z
  exact ⟨I1.kIn, run_fnG F hG hr hb (hx σ) I1 r q⟩
end
/-! ### the law itself is called -/
theorem law_callG {P : Program} {w : World} {K : PySem.W.Frag} {mg mb : Str → Option Value} {k : Nat} {fa a : Addr} {fd : FuncData} {x : Str} {sp : Sp} {s₁ : Shared} {vs : List Value} {ns : List Int}
    (KX : K.In s₁.heap) (hns : s₁.heap.Ns mainGlobals mg) (hb : s₁.heap.Ns builtinsNs mb) (hbb : ∀ x : Str, x ≠ "__name__" → mb x = bootBuiltins x) (hlim : s₁.heap.NoLimit) (hg : s₁.gens = #[])
    (ha : s₁.heap.get? a = some { cls := .type "list", data := .seq vs.toArray }) (hi : IntsAre vs ns) (hl : ns.length ≤ sizeLine) (hr : Room k callerA)
    (hsm : ∃ mm, s₁.heap.Ns sysModules mm) (F : ∀ base : Heap, K.In base → base.Ns mainGlobals mg → (∃ mm, base.Ns sysModules mm) → FnG P w K mg base k fa fd [x] sp) (hbind : ∀ (s : Shared) (u : Value), BindsTo s fd ⟨[u], []⟩ [(x, u)])
    (hsp : ∀ H : Hp, SqL K H a (ns.map V.int) → sp [.ref a] H (fun v _ => v = .bl true) fun _ _ _ => False) :
    codeAny (model P w) callerA (.call (.ref fa) ⟨[.ref a], []⟩) (fun r s' => r = .ok (.ret (.bool true)) ∧ OldK s₁.heap s'.heap ∧ s'.os = s₁.os ∧ AllBare s'.gens) s₁ := by
  have rv := vals_ints hi
  have lenV := hi.length
  have core : ∀ H : Hp, (∀ b, H b = none ∨ ∃ ob xs, H b = some (.frz ob (.lst xs))) → SqL K H a (ns.map V.int) → HOk P w H s₁.heap → (∀ b, H b ≠ none → b = a) → (H a ≠ none → K.lookup a = none) →
      codeAny (model P w) callerA (.call (.ref fa) ⟨[.ref a], []⟩) (fun r s' => r = .ok (.ret (.bool true)) ∧ OldK s₁.heap s'.heap ∧ s'.os = s₁.os ∧ AllBare s'.gens) s₁ := by
    intro H hO hS hok only noK
    have aside : ∀ {b : Addr} {o : Obj}, s₁.heap.get? b = some o → (b = a → o ≠ { cls := .type "list", data := .seq vs.toArray } ∨ H b = none) → H b = none := fun {b o} e h => by
      cases q : H b with
      | none => rfl
      | some u =>
        have eb : b = a := only b (by rw [q]; simp)
        rcases h eb with z | z
        · subst eb; rw [ha] at e; cases e; exact absurd rfl z
        · rw [q] at z; cases z
    have spc : ∀ {b : Addr} {m : Str → Option Value}, s₁.heap.Ns b m → (hidT s₁.heap H).Ns b m := fun {b m} ⟨o, es, ep, e, d, r⟩ =>
      ⟨o, es, ep, hidT_get e (aside e fun _ => .inl fun z => by rw [z] at d; cases d), d, r⟩
    have kin : K.In (hidT s₁.heap H) := fun b o e => hidT_get (KX b o e) (aside (KX b o e) fun eb => .inr (by
      cases q : H b with
      | none => rfl
      | some u => subst eb; rw [noK (by rw [q]; simp)] at e; cases e))
    have md : Mod K mg (hidT s₁.heap H) := ⟨kin, spc hns, ⟨mb, spc hb, hbb⟩, let ⟨mc, h1, h2⟩ := hlim; ⟨mc, spc h1, h2⟩⟩
    have e0 : Env0 P w K mg (hidT s₁.heap H) callerA [] s₁ H := ⟨rfl, md, fun b o e => of_hidT e, Nat.le_of_eq (hidT_size _ _), trivial, fun b z => (by cases z), hok, .of_eq hg⟩
    refine codeAny_mono ((F _ kin (spc hns) (let ⟨mm, h1⟩ := hsm; ⟨mm, spc h1⟩)).run callerA [] s₁ H ⟨[.ref a], []⟩ [.ref a] [.ref a] _ _ rfl hr e0 (hbind s₁ (.ref a)) (.cons rfl .nil) (hsp H hS)) fun r s' h => ?_
    cases r with
    | error e => obtain ⟨_, _, _, _, _, _, _, _, _, _, _, _, z⟩ := h; exact z.elim
    | ok fl =>
      cases fl with
      | next => exact h.elim
      | brk => exact h.elim
      | cont => exact h.elim
      | ret u =>
        obtain ⟨v, H', os, bare, un, hok', r', q⟩ := h
        cases (show v = .bl true from q)
        cases (show u = Value.bool true from r')
        refine ⟨rfl, OldK.of_keep fun b o e => ?_, os, bare⟩
        rcases hO b with z | ⟨ob, xs, z⟩
        · exact un.keep b o e z (fun m => by cases m) (fun m => by cases m)
        · obtain ⟨e1, _⟩ := hok b _ z
          obtain ⟨e2, _⟩ := hok' b _ (un.frzs b ob _ z)
          rw [e] at e1; cases e1
          exact e2
  cases hk : K.lookup a with
  | some o =>
    have e := KX a o hk
    rw [ha] at e
    cases e
    exact core (fun _ => none) (fun _ => .inl rfl) (.inr ⟨_, vs.toArray, _, hk, rfl, rfl, rfl, by rw [List.size_toArray, lenV]; exact hl, by simpa using rv⟩) (fun b u z => by cases z) (fun b z => absurd rfl z) fun z => absurd rfl z
  | none =>
    refine core (L2.upd (fun _ => none) a (.frz { cls := .type "list", data := .seq vs.toArray } (.lst (ns.map V.int)))) (fun b => ?_) (.inl (.inr ⟨_, upd_same⟩)) (fun b u z => ?_) (fun b z => ?_) fun _ => hk
    · by_cases e : b = a
      · subst e; exact .inr ⟨_, _, upd_same⟩
      · exact .inl (upd_ne e)
    · by_cases e : b = a
      · subst e
        rw [upd_same] at z
        cases z
        exact ⟨ha, by rw [List.length_map]; exact hl, vs, _, rv, ha⟩
      · rw [upd_ne e] at z; cases z
    · by_cases e : b = a
      · exact e
      · exact absurd (upd_ne e) z
theorem law_walkG {l : PySem.W.OpenLaw} {n : Nat} {q : Program} {loose : List Str} {XP : (Str → Option Value) → Heap → Prop} {YP : World → Heap → Prop} {d : DefRec} {K : Params → PySem.W.Frag} {k : Nat} {x : Str} {sp : World → Sp} (hn : l.most = some n) (hn2 : n ≤ sizeLine) (hdf : d.params.defaults = []) (hr : Room k callerA) (hq : importsNone q = true)
    (hY : ∀ (w : World) (h : Heap), YP w h → (K w.params).In h)
    (F : ∀ (w : World) (mg : Str → Option Value) (fa : Addr) (h : Heap), (K w.params).In h → h.Ns mainGlobals mg → mg d.name = some (.ref fa) →
      ∃ fd : FuncData, (∀ (s : Shared) (u : Value), BindsTo s fd ⟨[u], []⟩ [(x, u)]) ∧ ∀ base : Heap, (K w.params).In base → base.Ns mainGlobals mg → (∃ mm, base.Ns sysModules mm) → FnG l.prog w (K w.params) mg base k fa fd [x] (sp w))
    (hsp : ∀ (w : World) (H : Hp) (a : Addr) (ns : List Int), ns.length ≤ n → (∀ z ∈ ns, Builtin.Int.intBits z ≤ 1048576) → SqL (K w.params) H a (ns.map V.int) → sp w [.ref a] H (fun v _ => v = .bl true) fun _ _ _ => False) :
    PySem.W.WalkO q loose XP YP l.row.toRowW d [] (fun f vs => PySem.call f vs) := by
  refine Att.attach_callB hn hdf fun w s₀ s₁ mg mb fa o pm cd doc a vs ns G Y ho hd hcd hmg hobj hints hlen hbits hg => ?_
  have KX := hY w _ Y
  obtain ⟨fd, hb, hF⟩ := F w mg fa _ KX G.T.g hmg
  have sm : ∃ mm, s₁.heap.Ns sysModules mm := let ⟨mm, h1, _⟩ := (G.T.seer hq).mods; ⟨mm, h1⟩
  exact law_callG KX G.T.g G.T.b G.T.builtins G.T.nolimit hg hobj hints (Nat.le_trans hlen hn2) hr sm hF hb (fun H hS => hsp w H a ns hlen hbits hS)
end L3

namespace L3
open PySem L2 PySem.Spec PyProof.Rows

/-- where sys.modules stands is known to the base -/
def NoS (X : Cx) : Prop := ∃ mm, X.base.Ns sysModules mm
theorem NoS.free {X : Cx} {pins : List (Addr × Obj)} {σ : L2.St} {H : Hp} {s : Shared} (h : NoS X) (I : Inv X pins σ H s) : H sysModules = none := by
  obtain ⟨mm, o, es, ep, e, _⟩ := h
  exact (I.bs _ _ e).2
section
variable {P : Program} {w : World} {H F : Hp} {h : Heap} {g : Gd} {c : List Addr} {cs : Cells}
theorem ns_mem {a : Addr} {as : List Addr} {o : HO} (ns : H sysModules = none) (e : H a = some o) (n : sysModules ∉ as) : sysModules ∉ a :: as := fun m => by
  rcases List.mem_cons.mp m with z | m
  · rw [← z, ns] at e; cases e
  · exact n m
mutual
theorem RV.reads (ok : HOk P w H h) (hs : ∀ a o, F a = some o → H a = some o) (ns : H sysModules = none) : ∀ {v : V} {d : D} {p : PyData} {u : Value}, RV g F c v d → py0 d = some p → RelV v u → ∃ as, Reads h u p as ∧ sysModules ∉ as
  | _, _, _, _, .non, e, r => by
    simp only [py0, Option.some.injEq] at e; subst e; cases r
    exact ⟨_, .none, by simp⟩
  | _, _, _, _, .bl b, e, r => by
    simp only [py0, Option.some.injEq] at e; subst e; cases r
    exact ⟨_, .bool b, by simp⟩
  | _, _, _, _, .int i, e, r => by
    simp only [py0, Option.some.injEq] at e; subst e; obtain ⟨t, rfl⟩ := r
    exact ⟨_, .int i t, by simp⟩
  | _, _, _, _, .str l, e, r => by
    simp only [py0, Option.some.injEq] at e; subst e; obtain ⟨t, rfl⟩ := r
    exact ⟨_, .str _ t, by simp⟩
  | _, _, _, _, .lst h1 h2, e, r => by
    simp only [py0, Option.map_eq_some_iff] at e
    obtain ⟨q, e, rfl⟩ := e
    cases r
    have hH := hs _ _ h1
    obtain ⟨z, its, n, rv, ho⟩ := (show ObjOk P w H h _ (.lst _) from ok _ _ hH)
    obtain ⟨as, ra, na⟩ := RVs.reads ok hs ns h2 e rv
    exact ⟨_, .list ho rfl rfl ra, ns_mem ns hH na⟩
  | _, _, _, _, .tup h1 h2, e, r => by
    simp only [py0, Option.map_eq_some_iff] at e
    obtain ⟨q, e, rfl⟩ := e
    cases r
    have hH := hs _ _ h1
    obtain ⟨z, its, rv, o, ho, hc, n, hd⟩ := (show ObjOk P w H h _ (.tup _) from ok _ _ hH)
    obtain ⟨as, ra, na⟩ := RVs.reads ok hs ns h2 e rv
    exact ⟨_, .tuple ho hc hd ra, na⟩
  | _, _, _, _, .dct (a := a) (kvs := kvs) h1 h2, e, r => by
    simp only [py0, Option.map_eq_some_iff] at e
    obtain ⟨q, e, rfl⟩ := e
    cases r
    have hH : Rd H a (.dK kvs) := by
      rcases h1 with h1 | ⟨o, h1⟩
      · exact .inl (hs _ _ h1)
      · exact .inr ⟨o, hs _ _ h1⟩
    obtain ⟨_, hd, vs, kv, o, es, ep, ho, ex, dt, _, pr, _⟩ := dk_rd ok hH
    obtain ⟨as, bs, ra, rb, na, nb⟩ := RKs.reads ok hs ns h2 e kv pr
    refine ⟨_, .dict ho ex.1 dt ra rb, fun m => ?_⟩
    rcases List.mem_append.mp m with m | m
    · rcases List.mem_cons.mp m with z | m
      · rw [← z] at hd; simp at hd
      · exact na m
    · exact nb m
  | _, _, _, _, .scr _, e, _ => by simp [py0] at e
  | _, _, _, _, .obj _ _ _, e, _ => by simp [py0] at e
  | _, _, _, _, .loc _, e, _ => by simp [py0] at e
theorem RVs.reads (ok : HOk P w H h) (hs : ∀ a o, F a = some o → H a = some o) (ns : H sysModules = none) : ∀ {v : List V} {d : List D} {p : List PyData} {u : List Value}, RVs g F c v d → py0s d = some p → Vals v u → ∃ as, ReadsAll h u p as ∧ sysModules ∉ as
  | _, _, _, _, .nil, e, r => by
    simp only [py0s, Option.some.injEq] at e; subst e; cases r
    exact ⟨_, .nil, by simp⟩
  | _, _, _, _, .cons a b, e, r => by
    simp only [py0s] at e
    split at e
    · rename_i e1 e2
      simp only [Option.some.injEq] at e
      subst e
      cases r with
      | cons r1 r2 =>
        obtain ⟨as, q1, n1⟩ := RV.reads ok hs ns a e1 r1
        obtain ⟨bs, q2, n2⟩ := RVs.reads ok hs ns b e2 r2
        exact ⟨_, .cons q1 q2, by simp [n1, n2]⟩
    · cases e
theorem RKs.reads (ok : HOk P w H h) (hs : ∀ a o, F a = some o → H a = some o) (ns : H sysModules = none) : ∀ {v : List (Key × V)} {d : List (Kd × D)} {p : List (PyData × PyData)} {vs : List (Key × Value)} {es : List DictEntry}, RKs g F c v d → py0k d = some p → KV v vs → Pairs (mixKind P w) es vs →
    ∃ as bs, ReadsAll h (es.map (·.key)) (p.map (·.1)) as ∧ ReadsAll h (es.map (·.val)) (p.map (·.2)) bs ∧ sysModules ∉ as ∧ sysModules ∉ bs
  | _, _, _, _, _, .nil, e, r, q => by
    simp only [py0k, Option.some.injEq] at e; subst e; cases r; cases q
    exact ⟨_, _, .nil, .nil, by simp, by simp⟩
  | _, _, _, _, _, .cons (k := k) a b, e, r, q => by
    simp only [py0k] at e
    split at e
    · rename_i e1 e2
      simp only [Option.some.injEq] at e
      subst e
      cases r with
      | cons r1 r2 =>
        cases q with
        | @cons en _ _ _ q1 q2 q3 =>
          obtain ⟨k1, r1⟩ := r1
          rw [← q2] at r1
          rw [← k1] at q1
          obtain ⟨as, p1, n1⟩ := RV.reads ok hs ns a e1 r1
          obtain ⟨bs, ds, p2, p3, n2, n3⟩ := RKs.reads ok hs ns b e2 r2 q3
          have hk : ∃ ts, Reads h en.key (match k with | .inl i => PyData.int i | .inr l => PyData.str ⟨l.toArray⟩) ts ∧ sysModules ∉ ts := by
            rcases keyIs_shape q1 with ⟨i, t, z, zk⟩ | ⟨x, t, z, zk⟩
            · cases k with
              | inl j =>
                cases (show (Sum.inl j : Key) = Sum.inl i from z)
                rw [zk]
                exact ⟨[], .int _ t, by simp⟩
              | inr l => cases (show (Sum.inr _ : Key) = Sum.inl i from z)
            · cases k with
              | inl j => cases (show (Sum.inl j : Key) = Sum.inr x from z)
              | inr l =>
                cases (show (Sum.inr ⟨l.toArray⟩ : Key) = Sum.inr x from z)
                rw [zk]
                exact ⟨[], .str _ t, by simp⟩
          obtain ⟨ts, p4, n4⟩ := hk
          exact ⟨_, _, .cons p4 p2, .cons p1 p3, by simp [n4, n2], by simp [n1, n3]⟩
    · cases e
end
end
/-- .. of what may be a cell -/
theorem pyOf_reads {P : Program} {w : World} {H F : Hp} {h : Heap} {g : Gd} {c : List Addr} {cs : Cells} (ok : HOk P w H h) (I : Ih g H F c cs) (ns : H sysModules = none) {v : V} {d : D} {p : PyData} {u : Value} (r : RV g F c v d) (e : pyOf cs d = some p) (rv : RelV v u) : ∃ as, Reads h u p as ∧ sysModules ∉ as := by
  cases r with
  | @loc n a ha =>
    simp only [pyOf] at e
    obtain ⟨x, hx⟩ := I.there ha
    have q := I.cell n a x ha hx
    rw [hx] at e
    cases rv
    cases x with
    | lst l =>
      simp only [Option.map_eq_some_iff] at e
      obtain ⟨y, e, rfl⟩ := e
      obtain ⟨_, vs, h1, h2⟩ := q
      obtain ⟨z, its, n, rv, ho⟩ := (show ObjOk P w H h _ (.lst _) from ok _ _ h1)
      obtain ⟨as, ra, na⟩ := RVs.reads ok I.sub ns h2 e rv
      exact ⟨_, .list ho rfl rfl ra, ns_mem ns h1 na⟩
    | dct l =>
      simp only [Option.map_eq_some_iff] at e
      obtain ⟨y, e, rfl⟩ := e
      obtain ⟨_, vs, h1, h2⟩ := q
      obtain ⟨_, hd, vs, kv, o, es, ep, ho, ex, dt, _, pr, _⟩ := dk_rd ok (.inl h1)
      obtain ⟨as, bs, ra, rb, na, nb⟩ := RKs.reads ok I.sub ns h2 e kv pr
      refine ⟨_, .dict ho ex.1 dt ra rb, fun m => ?_⟩
      rcases List.mem_append.mp m with m | m
      · rcases List.mem_cons.mp m with z | m
        · rw [← z] at hd; simp at hd
        · exact na m
      · exact nb m
    | fz d => exact RV.reads ok I.sub ns q.1 e rfl
    | set l => cases e
    | ins n l => cases e
  | non => exact RV.reads (g := g) (c := c) ok I.sub ns .non e rv
  | bl b => exact RV.reads (g := g) (c := c) ok I.sub ns (.bl b) e rv
  | int i => exact RV.reads (g := g) (c := c) ok I.sub ns (.int i) e rv
  | str l => exact RV.reads (g := g) (c := c) ok I.sub ns (.str l) e rv
  | lst a b => exact RV.reads ok I.sub ns (.lst a b) e rv
  | tup a b => exact RV.reads ok I.sub ns (.tup a b) e rv
  | dct a b => exact RV.reads ok I.sub ns (.dct a b) e rv
  | scr a => exact RV.reads (g := g) (c := c) ok I.sub ns (.scr a) e rv
  | obj a b e' => exact RV.reads ok I.sub ns (.obj a b e') e rv
end L3
namespace L3
open PySem L2 PySem.Spec PyProof.Rows
/-! ### repr of any data -/
def rRepD (P : Program) (w : World) : List V → Hp → VK → Prop := fun xs H Q => ∃ (a : Addr) (d : PyData), xs = [.ref a] ∧ (∀ h, HOk P w H h → ∃ as, Reads h (.ref a) d as ∧ sysModules ∉ as) ∧ d.showable = true ∧ d.depth ≤ 60 ∧ d.shown.length ≤ sizeLine ∧ Q (.str d.shown) H
theorem call_repD {X : Cx} (hG : X.A.guards = some []) (hu : X.A.units + 64 < cLine) : CallR X (.builtin "repr") (rRepD X.prog X.w) := by
  intro pins s σ H xs us Q I r h
  obtain ⟨a, d, rfl, rd, sh, dp, sz, q⟩ := h
  obtain ⟨u, rfl, ru⟩ := vals1 r
  cases ru
  obtain ⟨as, r, n⟩ := rd _ I.hok
  exact repr_of_reads' r sh (fun _ => n) hG (by omega) (fun _ _ e => e) (fun h' u tk k => ⟨.str d.shown, H, I.kept k, ⟨_, rfl⟩, q⟩) sz
/-- repr of a flat value or of data -/
def reprBD (cs : Cells) : List D → R
  | [d] => match reprC d with
    | some l => .ok (.str l) cs
    | none => match pyOf cs d with
      | some p => if p.showable = true ∧ p.depth ≤ 60 ∧ p.shown.length ≤ sizeLine then .ok (.str (codes p.shown)) cs else .stuck
      | none => .stuck
  | _ => .stuck
theorem pyOf_ref {g : Gd} {F : Hp} {c : List Addr} {cs : Cells} {v : V} {d : D} {p : PyData} (r : RV g F c v d) (h : reprC d = none) (e : pyOf cs d = some p) (sh : p.showable = true ∧ p.shown.length ≤ sizeLine) : ∃ a, v = .ref a := by
  cases r with
  | non => cases h
  | bl b => cases h
  | int i =>
    simp only [reprC] at h
    split at h
    · cases h
    · rename_i q
      simp only [pyOf, py0, Option.some.injEq] at e
      subst e
      exact absurd (by simpa [PyData.showable] using sh.1) q
  | str l =>
    simp only [reprC] at h
    split at h
    · cases h
    · rename_i q
      simp only [pyOf, py0, Option.some.injEq] at e
      subst e
      exact absurd sh.2 q
  | lst _ _ => exact ⟨_, rfl⟩
  | tup _ _ => exact ⟨_, rfl⟩
  | dct _ _ => exact ⟨_, rfl⟩
  | scr _ => exact ⟨_, rfl⟩
  | obj _ _ _ => exact ⟨_, rfl⟩
  | loc _ => exact ⟨_, rfl⟩
end L3
namespace L3
open PySem L2 PySem.Spec PyProof.Rows
theorem bo_repr' : bootBuiltins "repr" = some (.builtin "repr") := by decide +kernel
def rRepX (P : Program) (w : World) : List V → Hp → VK → Prop := fun xs H Q => H sysModules = none → (rRepV xs H Q ∨ rRepD P w xs H Q)
theorem call_repX {X : Cx} (hG : X.A.guards = some []) (hu : X.A.units + 64 < cLine) (hN : NoS X) : CallR X (.builtin "repr") (rRepX X.prog X.w) := by
  intro pins s σ H xs us Q I r h
  rcases h (hN.free I) with h | h
  · exact call_repV pins s σ H xs us Q I r h
  · exact call_repD hG hu pins s σ H xs us Q I r h
theorem cb_reprX {g : Gd} : Cb g (rRepX g.P g.w) reprBD := by
  intro W H F c cs vs ds Q I rv po hns
  unfold reprBD at po
  split at po
  · rename_i d
    cases hl : reprC d with
    | some l =>
      refine .inl (cb_repr W H F c cs vs [d] Q I rv ?_)
      unfold reprB
      rw [hl] at po
      simp only [hl]
      exact po
    | none =>
      rw [hl] at po
      dsimp only at po
      split at po
      · rename_i p hp
        split at po
        · rename_i hc
          obtain ⟨h1, h2, h3⟩ := hc
          cases rv with
          | cons r1 r2 =>
            cases r2
            obtain ⟨a, rfl⟩ := pyOf_ref r1 hl hp ⟨h1, h3⟩
            refine .inr ⟨a, p, rfl, fun h ok => pyOf_reads ok I hns r1 hp rfl, h1, h2, h3, ?_⟩
            have := PoE.here I (.str (codes p.shown)) po
            rwa [str_codes] at this
        · exact po.elim
      · exact po.elim
  · exact po.elim
section
variable {X : Cx} {W : WX} {pos p : Pos} {e : Expr} {ms : MA}
theorem xp_reprX {k : Nat} (hG : X.A.guards = some []) (hr : Room k X.A) (hN : NoS X) (hg : Gl X "repr") (hm : X.mg "repr" = none) (ha : Xa X W [e] ms)
    (he : starEach [e] X.env = (false, eval e X.env) :: starEach [] X.env := by rfl) : Xp X W (.Call (.Name "repr" p) [e] [] pos) (eBi reprBD ms) :=
  xp_bi (call_repX hG hr.units hN) cb_reprX hg hm bo_repr' ha (he := he)
end
end L3

namespace L3
open PySem L2

/-! ### a def of the text, under its name -/
structure Own (P : Program) (w : World) (K : PySem.W.Frag) (mg : Str → Option Value) (base : Heap) (k : Nat) (x : Str) (n : Nat) (m : MF) : Prop where
  ex : ∃ f fd ps, FnOk P w K mg base (L2.CX P w) k f fd ps (spM ⟨P, w, K, mg⟩ m n) ∧ mg x = some (.ref f) ∧ PySem.W.keepIn K (.ref f) = true ∧ Binds K fd ps []
section
variable {P : Program} {w : World} {K : PySem.W.Frag} {mg : Str → Option Value} {base : Heap} {k n : Nat} {x : Str} {m m' : MF}
/-- another function, the same wherever it says anything -/
theorem Own.imp (o : Own P w K mg base k x n m) (h : ∀ ds cs, m' ds cs = .stuck ∨ m' ds cs = m ds cs) : Own P w K mg base k x n m' := by
  obtain ⟨f, fd, ps, F, a, b, c⟩ := o
  refine ⟨f, fd, ps, F.imp (spM_imp fun E H F c cs vs ds Q I rv po => ?_), a, b, c⟩
  rcases h ds cs with e | e
  · rw [e] at po; exact po.elim
  · rw [e] at po; exact po
theorem Own.tidy (o : Own P w K mg base k x n m) : Own P w K mg base k x n (tidy m) := by
  obtain ⟨f, fd, ps, F, a, b, c⟩ := o
  exact ⟨f, fd, ps, F.imp tidy_imp, a, b, c⟩
theorem own_mk {f : Addr} {fd : FuncData} {st : Stmt} {qual : Str} {ps : List Str} (Fn : Fun K x qual st f fd) (F : FnOk P w K mg base (L2.CX P w) k f fd ps (spM ⟨P, w, K, mg⟩ m ps.length)) (hm : mg x = some (.ref f)) (hb : Binds K fd ps []) (hn : ps.length = n) : Own P w K mg base k x n m := by
  subst hn
  exact ⟨f, fd, ps, F, hm, Fn.kp, hb⟩
end
section
variable {X : Cx} {W : WX} {k n : Nat} {m : MF} {x : Str} {p pos : Pos} {e : Expr} {es : List Expr} {ms : MA}
theorem xp_own (o : Own X.prog X.w X.K X.mg X.base k x n m) (hr : Room k X.A) (tk : Takes X W) (ha : Xa X W (e :: es) ms) (hg : Gl X x) (hlen : ∀ env cs ds cs1, ms env cs = .ok ds cs1 → ds.length = n) (hn : (e :: es).length = n := by rfl) (hdb : (x == ("__debug__" : Str)) = false := by decide)
    (he : starEach (e :: es) X.env = (false, eval e X.env) :: starEach es X.env := by rfl) (hpl : (backTo pos (starEach es X.env)).any (·.1) = false := by rfl) : Xp X W (.Call (.Name x p) (e :: es) [] pos) (eCall m ms) := by
  obtain ⟨f, fd, ps, F, a, b, c⟩ := o
  exact xp_call F hr hg a b c tk ha hn hdb he hpl hlen
end
end L3
namespace L3
open PySem L2
theorem bo_len : bootBuiltins "len" = some (.builtin "len") := by decide +kernel
theorem bo_max : bootBuiltins "max" = some (.builtin "max") := by decide +kernel
theorem bo_min : bootBuiltins "min" = some (.builtin "min") := by decide +kernel
theorem bo_all : bootBuiltins "all" = some (.builtin "all") := by decide +kernel
theorem bo_any : bootBuiltins "any" = some (.builtin "any") := by decide +kernel
theorem bo_sum : bootBuiltins "sum" = some (.builtin "sum") := by decide +kernel
theorem bo_sorted : bootBuiltins "sorted" = some (.builtin "sorted") := by decide +kernel
theorem bo_repr : bootBuiltins "repr" = some (.builtin "repr") := by decide +kernel
theorem bo_isinstance : bootBuiltins "isinstance" = some (.builtin "isinstance") := by decide +kernel
theorem bo_str : bootBuiltins "str" = some (.type "str") := by decide +kernel
theorem bo_int : bootBuiltins "int" = some (.type "int") := by decide +kernel
theorem bo_bool : bootBuiltins "bool" = some (.type "bool") := by decide +kernel
theorem bo_list : bootBuiltins "list" = some (.type "list") := by decide +kernel
theorem bo_tuple : bootBuiltins "tuple" = some (.type "tuple") := by decide +kernel
theorem bo_dict : bootBuiltins "dict" = some (.type "dict") := by decide +kernel
theorem bo_set : bootBuiltins "set" = some (.type "set") := by decide +kernel
/-- what is asked of a law: any script of at most 63 whole numbers -/
def spLaw (K : PySem.W.Frag) : Sp := fun vs H Q _ => ∃ (a : Addr) (ns : List Int), vs = [.ref a] ∧ SqL K H a (ns.map V.int) ∧ ns.length ≤ 63 ∧ (∀ z ∈ ns, Builtin.Int.intBits z ≤ 1048576) ∧ ∀ H', Q (.bl true) H'
theorem law_of {P : Program} {w : World} {K : PySem.W.Frag} {mg : Str → Option Value} {base : Heap} {k : Nat} {f : Addr} {fd : FuncData} {ps : List Str} {m : MF}
    (F : FnOk P w K mg base (L2.CX P w) k f fd ps (spM ⟨P, w, K, mg⟩ m 1)) (h : ∀ ns : List Int, ns.length ≤ 63 → (∀ z ∈ ns, Builtin.Int.intBits z ≤ 1048576) → ∃ cs, m [.scr ns] [] = .ok (.bl true) cs) :
    FnOk P w K mg base (L2.CX P w) k f fd ps (spLaw K) := by
  refine F.imp fun vs H Q E ⟨a, ns, e, hs, hl, hb, q⟩ => ?_
  subst e
  obtain ⟨cs, hc⟩ := h ns hl hb
  refine ⟨rfl, H, [], [], [.scr ns], ⟨fun _ _ h => h, rfl, List.nodup_nil, fun n a x h => by simp at h⟩, .cons (.scr hs) .nil, ?_⟩
  rw [hc]
  intro H' F' c' x I v rv
  cases rv
  exact q H'
theorem law_walk {l : PySem.W.OpenLaw} {q : Program} {loose : List Str} {XP : (Str → Option Value) → Heap → Prop} {YP : World → Heap → Prop} {d : DefRec} {K : Params → PySem.W.Frag} {k : Nat} (hn : l.most = some 63) (hdf : d.params.defaults = []) (hr : Room k callerA)
    (hY : ∀ (w : World) (h : Heap), YP w h → (K w.params).In h)
    (F : ∀ (w : World) (mg : Str → Option Value) (fa : Addr) (h : Heap), (K w.params).In h → h.Ns mainGlobals mg → mg d.name = some (.ref fa) →
      ∃ fd : FuncData, (∀ (s : Shared) (u : Value), BindsTo s fd ⟨[u], []⟩ [("script", u)]) ∧ ∀ base : Heap, (K w.params).In base → base.Ns mainGlobals mg → FnOk l.prog w (K w.params) mg base (L2.CX l.prog w) k fa fd ["script"] (spLaw (K w.params))) :
    PySem.W.WalkO q loose XP YP l.row.toRowW d [] (fun f vs => PySem.call f vs) :=
  L2.walk_ofB (n := 63) (k := k) (x := "script") (CX := fun w => L2.CX l.prog w) (sp := fun w => spLaw (K w.params)) hn (by decide) hdf hr hY F (fun _ _ a ns hl hb _ hS => ⟨a, ns, rfl, hS, hl, hb, fun _ => rfl⟩)
    fun w H s e s' ⟨_, _, _, _, _, _, _, _, _, _, _, _, z⟩ => z
end L3
namespace L3
open PySem L2
theorem takes_no {X : Cx} : L2.Takes X (fun _ _ _ _ => False) := fun _ _ ⟨_, _, _, _, _, _, _, _, _, _, _, _, _, _, _, _, w⟩ => w.elim
def blkOk (N : List Str) (sc scope : Scope) (own : List (Str × Nat)) : Bool :=
  decide (scope.kind = .function) && scope.names.all (fun y => decide (scope.names.lookup y.1 = some y.2)) && own.all (fun p => decide (N[p.2]? = some p.1)) &&
  scope.names.all (fun y => decide (y.2 = .free → sc.names.lookup y.1 = some .cell ∨ sc.names.lookup y.1 = some .free)) &&
  scope.names.all (fun y => decide (y.2 = .local ∨ y.2 = .cell → y.1 ∈ own.map (·.1) ∨ y.1 ∉ N))
theorem blk_ok {N : List Str} {sc scope : Scope} {own : List (Str × Nat)} (h : blkOk N sc scope own = true) : BlkOk N sc scope own := by
  unfold blkOk at h
  simp only [Bool.and_eq_true, List.all_eq_true, decide_eq_true_eq] at h
  obtain ⟨⟨⟨⟨h1, h2⟩, h3⟩, h4⟩, h5⟩ := h
  exact ⟨h1, h2, h3, h4, h5⟩
end L3

namespace L3
open PySem L2

/-! ### defs of the text that are called where no repr is under way -/
structure OwnG (P : Program) (w : World) (K : PySem.W.Frag) (mg : Str → Option Value) (base : Heap) (k : Nat) (x : Str) (n : Nat) (m : MF) : Prop where
  ex : ∃ f fd ps, FnG P w K mg base k f fd ps (spM ⟨P, w, K, mg⟩ m n) ∧ mg x = some (.ref f) ∧ PySem.W.keepIn K (.ref f) = true ∧ Binds K fd ps []
section
variable {P : Program} {w : World} {K : PySem.W.Frag} {mg : Str → Option Value} {base : Heap} {k n : Nat} {x : Str} {m m' : MF}
theorem OwnG.imp (o : OwnG P w K mg base k x n m) (h : ∀ ds cs, m' ds cs = .stuck ∨ m' ds cs = m ds cs) : OwnG P w K mg base k x n m' := by
  obtain ⟨f, fd, ps, F, a, b, c⟩ := o
  refine ⟨f, fd, ps, F.imp (spM_imp fun E H F c cs vs ds Q I rv po => ?_), a, b, c⟩
  rcases h ds cs with e | e
  · rw [e] at po; exact po.elim
  · rw [e] at po; exact po
theorem OwnG.tidy (o : OwnG P w K mg base k x n m) : OwnG P w K mg base k x n (tidy m) := by
  obtain ⟨f, fd, ps, F, a, b, c⟩ := o
  exact ⟨f, fd, ps, F.imp tidy_imp, a, b, c⟩
theorem ownG_mk {f : Addr} {fd : FuncData} {st : Stmt} {qual : Str} {ps : List Str} (Fn : Fun K x qual st f fd) (F : FnG P w K mg base k f fd ps (spM ⟨P, w, K, mg⟩ m ps.length)) (hm : mg x = some (.ref f)) (hb : Binds K fd ps []) (hn : ps.length = n) : OwnG P w K mg base k x n m := by
  subst hn
  exact ⟨f, fd, ps, F, hm, Fn.kp, hb⟩
/-- a def by its body -/
theorem fnMG {x qual : Str} {st : Stmt} {f : Addr} {fd : FuncData} {N ps : List Str} {k : Nat} (F : Fun K x qual st f fd) (S : FnScope N ps (defScope st)) (body : MS)
    (h : ∀ (cdv : Value) (A : Around) (outer : List PySem.Env) (s : Shared) (H : Hp) (E : XK), A.guards = some [] → Room k (A.deeper (PyProof.Rows.envOfC qual (defScope st) s.heap.objs.size f cdv)) →
      Sms (cxOf (L2.CX P w) P w K mg base N qual (defScope st) f cdv A outer s H E) (fun cls d _ H => E cls d H) (defBody st) body) :
    FnG P w K mg base (k + 1) f fd ps (spM ⟨P, w, K, mg⟩ (mDef N.length body) ps.length) := by
  refine fnG_of F S (fun vs H Q E h => h.1) fun cdv A outer s H vs Q E hG hr ⟨hl, F0, c, cs, ds, I, rv, po⟩ => ?_
  obtain ⟨t, pt, st⟩ := h cdv A outer s H E hG hr
  refine ⟨t, pt, st _ _ H F0 c cs _ (re_start rv N) I ?_⟩
  unfold mDef at po
  cases hb : body (ds.map some ++ List.replicate (N.length - ds.length) none) cs with
  | nx e c1 => rw [hb] at po; exact fun H' F' c' x I' σ re => po H' F' c' x I' .non .non
  | rt d c1 => rw [hb] at po; exact po
  | exc n fs e c1 => rw [hb] at po; exact fun H' F' c' x I' σ C dx vs _ a b d => po H' F' c' x I' C dx vs a b d
  | bk e c1 => rw [hb] at po; exact po.elim
  | ct e c1 => rw [hb] at po; exact po.elim
  | stuck => rw [hb] at po; exact po.elim
/-- the law -/
theorem lawG_of {f : Addr} {fd : FuncData} {ps : List Str}
    (F : FnG P w K mg base k f fd ps (spM ⟨P, w, K, mg⟩ m 1)) (h : ∀ ns : List Int, ns.length ≤ 63 → (∀ z ∈ ns, Builtin.Int.intBits z ≤ 1048576) → ∃ cs, m [.scr ns] [] = .ok (.bl true) cs) :
    FnG P w K mg base k f fd ps (spLaw K) := by
  refine F.imp fun vs H Q E ⟨a, ns, e, hs, hl, hb, q⟩ => ?_
  subst e
  obtain ⟨cs, hc⟩ := h ns hl hb
  refine ⟨rfl, H, [], [], [.scr ns], ⟨fun _ _ h => h, rfl, List.nodup_nil, fun n a x h => by simp at h⟩, .cons (.scr hs) .nil, ?_⟩
  rw [hc]
  intro H' F' c' x I v rv
  cases rv
  exact q H'
end
section
variable {X : Cx} {W : WX} {k n : Nat} {m : MF} {x : Str} {p pos : Pos} {e : Expr} {es : List Expr} {ms : MA}
theorem xp_ownG (o : OwnG X.prog X.w X.K X.mg X.base k x n m) (hG : X.A.guards = some []) (hr : Room k X.A) (tk : Takes X W) (ha : Xa X W (e :: es) ms) (hg : Gl X x) (hlen : ∀ env cs ds cs1, ms env cs = .ok ds cs1 → ds.length = n) (hn : (e :: es).length = n := by rfl) (hdb : (x == ("__debug__" : Str)) = false := by decide)
    (he : starEach (e :: es) X.env = (false, eval e X.env) :: starEach es X.env := by rfl) (hpl : (backTo pos (starEach es X.env)).any (·.1) = false := by rfl) : Xp X W (.Call (.Name x p) (e :: es) [] pos) (eCall m ms) := by
  obtain ⟨f, fd, ps, F, hm, hk, hb⟩ := o
  obtain ⟨t, pa, sa⟩ := ha
  refine ⟨_, pe_callG F hG hr hg hm hk hb (fun σ => passAt tk σ) pa hdb he hpl, fun σ env H F c cs Q re I po => ?_⟩
  refine sa σ env H F c cs _ re I (PoA.cut po _ fun ds cs1 h1 H1 F1 c1 vs x1 I1 rv po1 => ?_)
  exact ⟨by rw [rv.length]; exact hlen _ _ _ _ h1, F1, c1, cs1, ds, I1, rv, po1⟩
end
theorem lawG_walk {l : PySem.W.OpenLaw} {q : Program} {loose : List Str} {XP : (Str → Option Value) → Heap → Prop} {YP : World → Heap → Prop} {d : DefRec} {K : Params → PySem.W.Frag} {k : Nat} (hn : l.most = some 63) (hdf : d.params.defaults = []) (hr : Room k callerA) (hq : PyProof.Rows.importsNone q = true)
    (hY : ∀ (w : World) (h : Heap), YP w h → (K w.params).In h)
    (F : ∀ (w : World) (mg : Str → Option Value) (fa : Addr) (h : Heap), (K w.params).In h → h.Ns mainGlobals mg → mg d.name = some (.ref fa) →
      ∃ fd : FuncData, (∀ (s : Shared) (u : Value), BindsTo s fd ⟨[u], []⟩ [("script", u)]) ∧ ∀ base : Heap, (K w.params).In base → base.Ns mainGlobals mg → (∃ mm, base.Ns sysModules mm) → FnG l.prog w (K w.params) mg base k fa fd ["script"] (spLaw (K w.params))) :
    PySem.W.WalkO q loose XP YP l.row.toRowW d [] (fun f vs => PySem.call f vs) :=
  law_walkG (n := 63) (k := k) (x := "script") (sp := fun w => spLaw (K w.params)) hn (by decide) hdf hr hq hY F (fun _ _ a ns hl hb hS => ⟨a, ns, rfl, hS, hl, hb, fun _ => rfl⟩)
end L3

namespace L3
open PySem L2 PySem.Spec PyProof.Rows

/-! ### own exceptions over ValueError that set fields -/
/-- what is known of an own class at B without an own __init__, over ValueError -/
structure BaseC (K : PySem.W.Frag) (B : Addr) : Prop where
  ga : PySem.W.specialIn K (.ref B) "__getattribute__" = some (some (.builtin "type.__getattribute__"))
  rd : PySem.W.readsIn K B (.type "type") = true
  ini : PySem.W.findCls K (.ref B) (.type "type") "__init__" = some (.val (.builtin "ValueError.__init__"))
section
variable {X : Cx} {e : Expr} {es : List Expr} {ta : TA} {p1 p2 pos : Pos} {x : Str} {B : Addr}
/-- Base.__init__(self, ..) -/
theorem pe_cinit {pl : Sem Bool} (hg : Gl X x) (hm : X.mg x = some (.ref B)) (hB : BaseC X.K B) (ha : PA X (e :: es) ta) (hd : (x == ("__debug__" : Str)) = false := by decide)
    (hc : eval (.Call (.Attribute (.Name x p1) "__init__" p2) (e :: es) [] pos) X.env = (do
      let ov ← eval (.Name x p1) X.env
      standAt p2.atName
      let (f, first) ← holding [ov] (getMethod ov "__init__" pl)
      callWith pos f first (backTo pos (starEach (e :: es) X.env)) (backToKw pos (keywordEach [] X.env))) := by rfl)
    (hs : starEach (e :: es) X.env = (false, eval e X.env) :: starEach es X.env := by rfl) (hp : (backTo pos (starEach es X.env)).any (·.1) = false := by rfl) :
    PE X (.Call (.Attribute (.Name x p1) "__init__" p2) (e :: es) [] pos) (tVeI X.K ta) := by
  constructor
  intro pins s σ H Q I h
  refine PySem.W.methodCall_KW (ld_glob I hg hm ?_ hd) hc
  refine PySem.W.method_cls I.kIn hB.ga (PySem.W.cls_value I.kIn hB.rd hB.ini (by decide +kernel) ?_)
  show wpAny _ _ (callWith pos (Value.builtin "ValueError.__init__") [] (backTo pos (starEach (e :: es) X.env)) []) _ _ _
  refine callWith_method1 (thn (ha.run pos pins _ σ H _ (I.tok _) h) fun us s1 hh => ?_) hs hp
  obtain ⟨vs, H1, I1, r1, a, C, ws, ev, hl, T, ea, q⟩ := hh
  subst ev
  obtain ⟨u0, ur, rfl, ra, rw'⟩ : ∃ u0 ur, us = u0 :: ur ∧ RelV (.ref a) u0 ∧ Vals ws ur := by cases r1 with | cons p q => exact ⟨_, _, rfl, p, q⟩
  cases ra
  have hlen : ur.length ≤ sizeLine := by
    have := Paired.length rw'
    rw [sizeLine_eq]; omega
  exact oinit_ok T I1 ea hlen fun s' J => ⟨.non, H1, J, rfl, q⟩
end
/-- the init of such a class: the fields in the order of the arguments -/
def spExI (K : PySem.W.Frag) (C : Addr) (fns : List Str) : Sp := fun vs H Q _ => ∃ (a : Addr) (ys : List V), vs = .ref a :: ys ∧ ys.length = fns.length ∧ H a = some (exo a C none) ∧
  ∀ (dx : Addr) (H' : Hp), H dx = none → dx ≠ a → H' a = some (exo a C (some dx)) → H' dx = some (exd dx (fns.zip ys).reverse) → (∀ b, b ≠ a → b ≠ dx → H' b = H b) → Q .non H'
theorem spExI_len {K : PySem.W.Frag} {C : Addr} {fns : List Str} {n : Nat} (hn : fns.length + 1 = n) {vs : List V} {H : Hp} {Q : VK} {E : XK} (h : spExI K C fns vs H Q E) : vs.length = n := by
  obtain ⟨a, ys, rfl, hl, _⟩ := h
  rw [List.length_cons, hl]; exact hn
/-- what a law knows of an own exception class -/
structure ExF (P : Program) (w : World) (K : PySem.W.Frag) (mg : Str → Option Value) (base : Heap) (x : Str) (fns : List Str) : Prop where
  ex : ∃ C fI fd ps, OexC K C ∧ PySem.W.findIn K (.ref C) "__init__" = some (some (.ref fI)) ∧ PySem.W.typeIn K (.ref fI) = some (.type "function") ∧ FnOk P w K mg base CX0 1 fI fd ps (spExI K C fns) ∧ Binds K fd ps [] ∧ mg x = some (.ref C) ∧ XfC K C ∧ ∀ f ∈ fns, PySem.W.findIn K (.ref C) f = some none
/-! ### raise -/
/-- the fields as they come to stand -/
def exFs (fns : List Str) (ds : List D) : List (Str × D) := (fns.zip ds).reverse
def sRaise (x : Str) (fns : List Str) (ms : MA) : MS := fun env cs => match ms env cs with
  | .ok ds cs1 => if ds.length = fns.length then .exc x (exFs fns ds) env cs1 else .stuck
  | .exc n fs cs1 => .exc n fs env cs1
  | .stuck => .stuck
theorem rfs_zip {g : Gd} {F : Hp} {c : List Addr} : ∀ (fns : List Str) {vs : List V} {ds : List D}, RVs g F c vs ds → RFs g F c (fns.zip vs) (fns.zip ds)
  | [], _, _, _ => .nil
  | _ :: _, _, _, .nil => .nil
  | _ :: fns, _, _, .cons a b => .cons a (rfs_zip fns b)
theorem RFs.app {g : Gd} {F : Hp} {c : List Addr} : ∀ {vs ws : List (Str × V)} {ds es : List (Str × D)}, RFs g F c vs ds → RFs g F c ws es → RFs g F c (vs ++ ws) (ds ++ es)
  | _, _, _, _, .nil, s => s
  | _, _, _, _, .cons a b, s => .cons a (RFs.app b s)
theorem RFs.rev {g : Gd} {F : Hp} {c : List Addr} : ∀ {vs : List (Str × V)} {ds : List (Str × D)}, RFs g F c vs ds → RFs g F c vs.reverse ds.reverse
  | _, _, .nil => .nil
  | _, _, .cons a b => by rw [List.reverse_cons, List.reverse_cons]; exact (RFs.rev b).app (.cons a .nil)
section
variable {X : Cx} {W : WX} {k : Nat} {x : Str} {fns : List Str} {p pos rpos : Pos} {e : Expr} {es : List Expr} {ms : MA}
theorem sm_raise (hcl : X.calm = true) (o : ExF X.prog X.w X.K X.mg X.base x fns) (hr : Room 2 X.A) (tk : Takes X W) (ha : Xa X W (e :: es) ms) (hg : Gl X x) (hlen : fns.length ≤ 900) (hdb : (x == ("__debug__" : Str)) = false := by decide)
    (hs : starEach (e :: es) X.env = (false, eval e X.env) :: starEach es X.env := by rfl) (hp : (backTo pos (starEach es X.env)).any (·.1) = false := by rfl) : Sm X W (.Raise (some (.Call (.Name x p) (e :: es) [] pos)) none rpos) (sRaise x fns ms) := by
  obtain ⟨C, fI, fd, ps, T, iC, tI, F1, hb, hm, _, _⟩ := o
  obtain ⟨t, pa, sa⟩ := ha
  refine ⟨_, ps_raise hcl tk (pmk_oex T iC tI F1 hr hb .nil pass0 hg hm pa hdb hs hp), fun σ env H F c cs Dn re I po => ?_⟩
  refine sa σ env H F c cs _ re I ?_
  unfold sRaise at po
  cases h1 : ms env cs with
  | exc n fs c1 => rw [h1] at po; exact fun H1 F1 c1 x1 I1 C dx vs a b d => po H1 F1 c1 x1 I1 σ C dx vs (re.mono x1.le) a b d
  | stuck => rw [h1] at po; exact po.elim
  | ok ds cs1 =>
    rw [h1] at po
    simp only at po
    split at po
    · rename_i hl
      intro H1 F2 c1 x1 I1 vs rv
      have hvl : vs.length = fns.length := by rw [rv.length]; exact hl
      refine ⟨by omega, fun a na => ⟨a, vs ++ [], rfl, by rw [List.append_nil]; exact hvl, upd_same, fun dx H' nd ne ea ed oth => ⟨rfl, dx, _, ea, ed, ?_, ?_⟩⟩⟩
      · rw [upd_ne ne] at nd; exact nd
      · rw [List.append_nil] at ed ⊢
        rw [upd_ne ne] at nd
        have eq : upd (del H' a) dx (.xd (fns.zip vs).reverse) = upd H1 dx (.xd (fns.zip vs).reverse) := by
          funext b
          by_cases hbd : b = dx
          · subst hbd; rw [upd_same, upd_same]
          · rw [upd_ne hbd, upd_ne hbd]
            by_cases hba : b = a
            · subst hba; rw [del_same, na]
            · rw [del_ne hba, oth b hba hbd, upd_ne hba]
        rw [eq]
        have x2 := Xt.side (Xt.refl H1 F2 c1) (o := .xd (fns.zip vs).reverse) nd
        have I2 := I1.side (o := .xd (fns.zip vs).reverse) (I1.notMem nd) (I1.noF nd)
        refine po _ F2 c1 (x1.trans x2) I2 σ C dx (fns.zip vs).reverse (re.mono x1.le) hm upd_same ?_
        exact (rfs_zip fns rv).rev
    · exact po.elim
end
end L3

namespace L3
open PySem L2 PySem.Spec PyProof.Rows

/-! ### try with several clauses, named or not -/
abbrev HSpec := Option (Value × Option Nat × (Addr → Value → Option Addr → TS))
/-- the slot of a clause's name is forgotten at the end -/
def Ends.clear (D : Ends) (i : Nat) : Ends := { nx := fun s h => D.nx (s.set i none) h, rt := D.rt, bk := fun s h => D.bk (s.set i none) h, ct := fun s h => D.ct (s.set i none) h }
def wHs (K : PySem.W.Frag) (Wo : WX) (D : Ends) : List HSpec → WX
  | [] => Wo
  | none :: _ => fun _ _ _ _ => False
  | some (c, oi, ts) :: r => fun cls d σ H => ∃ b, PySem.W.exmOne K cls c = some b ∧ (b = false → wHs K Wo D r cls d σ H) ∧ (b = true → ∀ a, H a = none → match oi with
    | none => ts a cls d D σ H
    | some i => ts a cls d (Ends.clear D i) (σ.set i (some (.ref a))) H)
inductive HsOk (X : Cx) : List ExceptHandler → List HSpec → Prop
  | nil : HsOk X [] []
  | plain {x : Str} {c : Value} {ts : Addr → Value → Option Addr → TS} {s0 : Stmt} {ss : List Stmt} {q q' : Pos} {hs : List ExceptHandler} {l : List HSpec} (nm : Names X x c)
      (su : ∀ (a : Addr) (oe : Obj) (cls : Value) (d : Option Addr) (pn : List (Addr × Obj)), Zc cls d oe → (∃ vs, oe.data = .fields vs) → PSs (X.suite a ((a, oe) :: pn)) (s0 :: ss) (ts a cls d)) (r : HsOk X hs l) :
      HsOk X (.ExceptHandler (some (.Name x q)) none (s0 :: ss) q' :: hs) (some (c, none, ts) :: l)
  | named {x n : Str} {i : Nat} {c : Value} {ts : Addr → Value → Option Addr → TS} {s0 : Stmt} {ss : List Stmt} {q q' : Pos} {hs : List ExceptHandler} {l : List HSpec} (nm : Names X x c) (hi : X.N[i]? = some n) (hk : X.env.kindOf n = some .local)
      (su : ∀ (a : Addr) (oe : Obj) (cls : Value) (d : Option Addr) (pn : List (Addr × Obj)), Zc cls d oe → (∃ vs, oe.data = .fields vs) → PSs (X.suite a ((a, oe) :: pn)) (s0 :: ss) (ts a cls d)) (r : HsOk X hs l) :
      HsOk X (.ExceptHandler (some (.Name x q)) (some n) (s0 :: ss) q' :: hs) (some (c, some i, ts) :: l)
  /-- the rest is not come to -/
  | stop {hs : List ExceptHandler} : HsOk X hs [none]
section
variable {X : Cx} {body : List Stmt} {h0 : ExceptHandler} {hs : List ExceptHandler} {l : List HSpec} {pos : Pos} {tb : WX → TS} {Wo : WX}
theorem names_run {a : Addr} {oe : Obj} {pn : List (Addr × Obj)} {x : Str} {c : Value} {q : Pos} {σ : L2.St} {H : Hp} {s : Shared} {Q : Value → Shared → Prop} {E : Value → Shared → Prop} (S : Inv (X.suite a pn) [] σ H s) (nm : Names X x c) (k : Q c s) : wpAny (model X.prog X.w) (X.A.mark (some (.ref a))) (eval (.Name x q) X.env) Q E s := by
  obtain ⟨hg, hd, m | ⟨m, v, nn⟩⟩ := nm
  · exact ld_glob (X := X.suite a pn) S hg m k hd
  · exact ld_blt (X := X.suite a pn) S hg m v k nn hd
/-- behind a suite -/
theorem suite_end {a : Addr} {oe : Obj} {pins : List (Addr × Obj)} {D : Ends} {f : Flow} {s : Shared} (ok : X.Ok) (h : SP (X.suite a ((a, oe) :: (X.pn ++ pins))) [] D f s) : SP X pins D f s := by
  cases f with
  | next => obtain ⟨z, G, S, q⟩ := h; exact ⟨z, G, S.unsuite ok, q⟩
  | brk => obtain ⟨z, G, S, q⟩ := h; exact ⟨z, G, S.unsuite ok, q⟩
  | cont => obtain ⟨z, G, S, q⟩ := h; exact ⟨z, G, S.unsuite ok, q⟩
  | ret u => obtain ⟨v, z, G, S, r, q⟩ := h; exact ⟨v, z, G, S.unsuite ok, r, q⟩
theorem try_end {pins pn' : List (Addr × Obj)} {D : Ends} {f : Flow} {s : Shared} {xe : Value → Shared → Prop} (ok : X.Ok) (h : SP (X.tr (X.pn ++ pins) xe) pn' D f s) : SP X pins D f s := by
  cases f with
  | next => obtain ⟨z, G, S, q⟩ := h; exact ⟨z, G, S.ofTry ok, q⟩
  | brk => obtain ⟨z, G, S, q⟩ := h; exact ⟨z, G, S.ofTry ok, q⟩
  | cont => obtain ⟨z, G, S, q⟩ := h; exact ⟨z, G, S.ofTry ok, q⟩
  | ret u => obtain ⟨v, z, G, S, r, q⟩ := h; exact ⟨v, z, G, S.ofTry ok, r, q⟩
theorem ps_try_hs (st : X.stack = X.env :: X.outer) (fr : X.env.frame = some X.env.locals) (nd : X.N.Nodup) (tk : Takes X Wo)
    (bd : ∀ (W : WX) (pn : List (Addr × Obj)) (xe : Value → Shared → Prop), Takes (X.tr pn xe) W → PassesOwn (model X.prog X.w) X.A X.env xe → PSs (X.tr pn xe) body (tb W))
    (hh : HsOk X (h0 :: hs) l) : PS X (.Try body (h0 :: hs) [] [] pos) (fun D σ H => tb (wHs X.K Wo D l) D σ H) := by
  constructor
  intro pins s σ H D I h
  have ok := I.ok
  have frs' : X.A.frames = some (X.env :: X.outer) := by rw [ok.frames, st]
  refine wpAny_Try_except (wpAny_mono ((bd (wHs X.K Wo D l) (X.pn ++ pins) _ (fun u s' xx => ?_) PassesOwn.looking).run [] s σ H D (I.toTry _) h) (fun f s1 r => ?_) fun e s1 r => r)
  · obtain ⟨a, B, sI, _, σ1, H1, cls, d, rfl, J0, nb, up, sky, na, os, ag, w⟩ := xx
    have J : Inv X pins σ1 H1 sI := J0.ofTry ok
    have sky2 : Sky B (X.env :: X.outer) a (Zc cls d) X.env.locals s'.heap := by rw [← st]; exact sky
    show wpAny (model X.prog X.w) X.A (noteFrame (.ref a) X.env) _ _ _
    refine Sky.land Zc.steady frs' fr sky2 fun g1 fl up1 => ?_
    have J1 : Inv X pins σ1 H1 { s' with heap := g1 } := J.landed nb fl.1 (up.trans up1) os ag
    obtain ⟨o1, v1, e1, z1, d1⟩ := fl.there
    have apart : a ∉ frs (X.env :: X.outer) := fun hm => by
      obtain ⟨_, o2, e2, hn⟩ := fl.2.2.1.mem hm
      rw [e1] at e2
      cases e2
      exact hn _ d1
    have nL : a ≠ X.env.locals := fun z => apart (List.mem_filterMap.mpr ⟨X.env, List.mem_cons_self, by rw [fr, z]⟩)
    have nF : a ∉ X.fs := fun hm => by
      obtain ⟨e, he, q⟩ := List.mem_filterMap.mp hm
      exact apart (List.mem_filterMap.mpr ⟨e, List.mem_cons_of_mem _ he, q⟩)
    have S1 := J1.suite e1 d1 na nL nF
    have LT : PySem.W.Looks (model X.prog X.w) g1 (typeOf (.ref a)) cls := fun A Q E s k q => wpAny_typeOf_ref (k _ _ e1) (by rw [z1.1]; exact q)
    have go : ∀ {hs' : List ExceptHandler} {l' : List HSpec}, HsOk X hs' l' → wHs X.K Wo D l' cls d σ1 H1 → wpAny (model X.prog X.w) X.A (handleBy (.ref a) X.env hs') (SP X pins D) X.xe { s' with heap := g1 } := by
      intro hs' l' hk
      induction hk with
      | nil =>
        intro w
        refine wpAny_handleBy_nil ?_
        obtain ⟨_, _, _, o3, v3, T, _, _, g3, _, d3, i3, _⟩ := id fl
        have last : wpAny (model X.prog X.w) X.A (setFlight (.ref a) X.env.frame) (fun _ s4 => wpAny (model X.prog X.w) X.A (throw (.ref a) : Sem Flow) (SP X pins D) X.xe s4) X.xe { s' with heap := g1 } := by
          rw [fr]
          exact HandSPX.setFlight_upZ fl fun g4 k4 up4 => wpAny_throw (tk _ _ ⟨a, B, sI, pins, σ1, H1, cls, d, rfl, J, nb, (up.trans up1).trans up4, .inr (.inr (by rw [st]; exact k4)), na, os, ag, w⟩)
        unfold PySem.passOn
        refine wpAny_bind (wpAny_field g3 d3 i3 ?_)
        rw [if_neg (show ¬ ((Value.ref T == Value.none) = true) from by simp)]
        first | exact wpAny_bind (wpAny_pure (wpAny_bind last)) | exact wpAny_bind last
      | stop => intro w; exact w.elim
      | plain nm su r ih =>
        intro w
        obtain ⟨b, hb, no, yes⟩ := w
        refine wpAny_handleBy_cons (codeAny_handlers_test ?_) (by intro q; cases q)
        refine names_run (oe := o1) S1 nm ((PySem.W.exm_one (M := model X.prog X.w) J1.kIn LT hb).here ?_)
        cases b with
        | false => exact ih (no rfl)
        | true =>
          refine codeAny_handlers_suite (HandSPX.lands_againZ fl fun g2 fl2 up2 => ?_)
          obtain ⟨o2, v2, e2, z2, d2⟩ := fl2.there
          have J2 : Inv X pins σ1 H1 { s' with heap := g2 } := J.landed nb fl2.1 ((up.trans up1).trans up2) os ag
          have S2 := J2.suite e2 d2 na nL nF
          exact wpAny_mono ((su a o2 cls d (X.pn ++ pins) z2 ⟨_, d2⟩).run [] _ _ H1 _ S2 (yes rfl a na)) (fun f s6 q => suite_end ok q) fun _ _ z => z.elim
      | @named x n i c ts s0 ss q q' hs2 l2 nm hi hk su r ih =>
        intro w
        obtain ⟨b, hb, no, yes⟩ := w
        refine wpAny_handleBy_cons (codeAny_handlers_test ?_) (by intro q; cases q)
        refine names_run (oe := o1) S1 nm ((PySem.W.exm_one (M := model X.prog X.w) J1.kIn LT hb).here ?_)
        cases b with
        | false => exact ih (no rfl)
        | true =>
          refine codeAny_handlers_suite_as (HandSPX.lands_againZ fl fun g2 fl2 up2 => ?_)
          obtain ⟨o2, v2, e2, z2, d2⟩ := fl2.there
          have J2 : Inv X pins σ1 H1 { s' with heap := g2 } := J.landed nb fl2.1 ((up.trans up1).trans up2) os ag
          have S2 := J2.suite e2 d2 na nL nF
          refine store_ok (X := X.suite a ((a, o2) :: (X.pn ++ pins))) (v := .ref a) S2 nd hi (.inl hk) rfl (fun s5 S5 => ?_) (.inr hk)
          have fin : ∀ {σ6 : L2.St} {H6 : Hp} {s6 : Shared} {R : Shared → Prop}, Inv (X.suite a ((a, o2) :: (X.pn ++ pins))) [] σ6 H6 s6 → (∀ s7, Inv X pins (σ6.set i none) H6 s7 → R s7) → wpAny (model X.prog X.w) X.A (do bindName X.env n .none; unbindBehindTheSuite X.env n q') (fun _ s7 => R s7) X.xe s6 :=
            fun S6 k => gone_ok (S6.unsuite ok) nd hi hk k
          refine wpAny_mono ((su a o2 cls d (X.pn ++ pins) z2 ⟨_, d2⟩).run [] s5 _ H1 _ S5 (yes rfl a na)) (fun f s6 q => ?_) fun _ _ z => z.elim
          cases f with
          | next => obtain ⟨z, G, S, q⟩ := q; exact fin S fun s7 J7 => ⟨_, _, J7, q⟩
          | brk => obtain ⟨z, G, S, q⟩ := q; exact fin S fun s7 J7 => ⟨_, _, J7, q⟩
          | cont => obtain ⟨z, G, S, q⟩ := q; exact fin S fun s7 J7 => ⟨_, _, J7, q⟩
          | ret u => obtain ⟨v, z, G, S, r, q⟩ := q; exact fin S fun s7 J7 => ⟨_, _, _, J7, r, q⟩
    exact go hh w
  · have q := try_end (X := X) ok r
    cases f with
    | next => obtain ⟨z, G, J, q⟩ := q; exact wpAny_execs_nil ⟨z, G, J, q⟩
    | brk => exact q
    | cont => exact q
    | ret u => exact q
end
end L3

namespace L3
open PySem L2 PySem.Spec PyProof.Rows

def tsOf (g : Gd) (W : WX) (m : MS) : TS := fun D σ H => ∃ env F c cs, RE g F c σ env ∧ Ih g H F c cs ∧ PoS g W D H F c (m env cs)
theorem Sms.canon {X : Cx} {W : WX} {ss : List Stmt} {m : MS} (h : Sms X W ss m) : PSs X ss (tsOf (gd X) W m) := by
  obtain ⟨t, p, q⟩ := h
  exact ⟨fun pins s σ H D I ⟨env, F, c, cs, re, I1, po⟩ => p.run pins s σ H D I (q σ env H F c cs D re I1 po)⟩
/-! ### what a clause's suite says -/
abbrev HM := List (Str × D) → MS
abbrev XNo : WX := fun _ _ _ _ => False
/-- an expression in the suite of 'except C as n', n in slot i -/
def He (X : Cx) (i : Nat) (C : Addr) (e : Expr) (m : List (Str × D) → Cells → R) : Prop := ∃ t : Addr → Value → Option Addr → TE,
  (∀ (a : Addr) (oe : Obj) (cls : Value) (d : Option Addr) (pn : List (Addr × Obj)), Zc cls d oe → (∃ vs, oe.data = .fields vs) → PE (X.suite a ((a, oe) :: pn)) e (t a cls d)) ∧
  ∀ a dx vs fs σ H F c cs Q, σ[i]? = some (some (.ref a)) → H dx = some (.xd vs) → RFs (gd X) F c vs fs → Ih (gd X) H F c cs → PoE (gd X) (fun _ _ _ => False) H F c (m fs cs) Q → t a (.ref C) (some dx) σ H Q
theorem Ih.noXd {g : Gd} {H F : Hp} {c : List Addr} {cs : Cells} (I : Ih g H F c cs) {dx : Addr} {vs : List (Str × V)} (h : H dx = some (.xd vs)) : dx ∉ c := fun m => by
  obtain ⟨n, hn⟩ := List.getElem?_of_mem m
  obtain ⟨x, hx⟩ := I.there hn
  have q := I.cell n dx x hn hx
  cases x with
  | lst l => obtain ⟨_, _, e, _⟩ := q; rw [h] at e; cases e
  | dct l => obtain ⟨_, _, e, _⟩ := q; rw [h] at e; cases e
  | set l => obtain ⟨_, e⟩ := q; rw [h] at e; cases e
  | ins n l => obtain ⟨_, _, _, _, _, e, _⟩ := q; rw [h] at e; cases e
  | fz d => obtain ⟨_, o, e, z⟩ := q; rw [h] at e; cases e; exact z vs rfl
theorem he_c {X : Cx} {i : Nat} {C : Addr} {e : Expr} {d : D} (h : ∀ (a : Addr) (oe : Obj) (pn : List (Addr × Obj)), ∃ v : V, PE (X.suite a ((a, oe) :: pn)) e (tC v) ∧ ∀ g F c, RV g F c v d) (v : V) (hv : ∀ g F c, RV g F c v d) (hp : ∀ (a : Addr) (oe : Obj) (pn : List (Addr × Obj)), PE (X.suite a ((a, oe) :: pn)) e (tC v)) : He X i C e (fun _ cs => .ok d cs) :=
  ⟨fun _ _ _ => tC v, fun a oe _ _ pn _ _ => hp a oe pn, fun a dx vs fs σ H F c cs Q _ _ _ I po => PoE.here I (hv _ _ _) po⟩
section
variable {X : Cx} {i : Nat} {C : Addr} {e e2 : Expr} {m m2 : List (Str × D) → Cells → R} {p : Pos}
theorem he_str {x : Str} {l : List Nat} {j} (h : x = ⟨l.toArray⟩) : He X i C (.Constant (.str x) j p) (fun _ cs => .ok (.str l) cs) := by
  subst h
  exact ⟨fun _ _ _ => tC (.str ⟨l.toArray⟩), fun a oe _ _ pn _ _ => pe_str, fun a dx vs fs σ H F c cs Q _ _ _ I po => PoE.here I (.str l) po⟩
theorem he_non {j} : He X i C (.Constant .none j p) (fun _ cs => .ok .non cs) :=
  ⟨fun _ _ _ => tC .non, fun a oe _ _ pn _ _ => pe_non, fun a dx vs fs σ H F c cs Q _ _ _ I po => PoE.here I .non po⟩
def fldD (f : Str) (fs : List (Str × D)) (cs : Cells) : R := match fs.lookup f with
  | some d => .ok d cs
  | none => .stuck
theorem RFs.lookup {g : Gd} {F : Hp} {c : List Addr} {f : Str} : ∀ {vs : List (Str × V)} {fs : List (Str × D)} {d : D}, RFs g F c vs fs → fs.lookup f = some d → ∃ v, vs.lookup f = some v ∧ RV g F c v d
  | _, _, _, .nil, h => by cases h
  | _, _, d, .cons (k := k) a b, h => by
    by_cases e : f = k
    · subst e
      rw [List.lookup_cons, beq_self_eq_true] at h ⊢
      simp only [Option.some.injEq] at h
      subst h
      exact ⟨_, rfl, a⟩
    · have hb : (f == k) = false := by simpa using e
      rw [List.lookup_cons, hb] at h ⊢
      exact RFs.lookup b h
theorem he_fld {f n : Str} {q : Pos} (T : XfC X.K C) (hno : PySem.W.findIn X.K (.ref C) f = some none) (hi : X.N[i]? = some n) (hv : Vis X.env.scope n) (hb : attributeBase (.Name n q) f X.env (eval (.Name n q) X.env) = eval (.Name n q) X.env := by rfl)
    (hd : (n == ("__debug__" : Str)) = false := by decide) (hcd : (n == ("__classdict__" : Str)) = false := by decide) : He X i C (.Attribute (.Name n q) f p) (fldD f) := by
  refine ⟨_, fun a oe cls d pn z hf => pe_xf (X := X) T hno z hf (pe_var (X := X.suite a ((a, oe) :: pn)) (i := i) hi hv hd hcd) hb, fun a dx vs fs σ H F c cs Q hs hx rf I po => ?_⟩
  unfold fldD at po
  split at po
  · rename_i d hl
    obtain ⟨v, e, r⟩ := rf.lookup hl
    exact ⟨_, hs, rfl, rfl, dx, vs, v, rfl, hx, e, PoE.here I r po⟩
  · exact po.elim
/-- [e, e2] -/
def he2 (m m2 : List (Str × D) → Cells → R) : List (Str × D) → Cells → R := fun fs cs => (m fs cs).bind fun x c1 => (m2 fs c1).bind fun y c2 => mkL false c2 [x, y]
theorem RFs.mono' {g : Gd} {F F' : Hp} {c c' : List Addr} {vs : List (Str × V)} {ds : List (Str × D)} (r : RFs g F c vs ds) (e : Le F c F' c') : RFs g F' c' vs ds := RFs.mono e r
theorem he_list2 (h1 : He X i C e m) (h2 : He X i C e2 m2) (hs1 : starEach [e, e2] X.env = (false, eval e X.env) :: starEach [e2] X.env := by rfl) (hs2 : starEach [e2] X.env = (false, eval e2 X.env) :: starEach [] X.env := by rfl) : He X i C (.List [e, e2] p) (he2 m m2) := by
  obtain ⟨t1, p1, s1⟩ := h1
  obtain ⟨t2, p2, s2⟩ := h2
  refine ⟨_, fun a oe cls d pn z hf => pe_lst (pa_cons (p1 a oe cls d pn z hf) (pa_cons (p2 a oe cls d pn z hf) pa_nil hs2) hs1), fun a dx vs fs σ H F c cs Q hs hx rf I po => ?_⟩
  refine s1 a dx vs fs σ H F c cs _ hs hx rf I (PoE.cut po _ fun d1 cs1 _ H1 F1 c1 v1 x1 I1 r1 po1 => ?_)
  have hx1 := x1.kp _ _ hx (I.noXd hx)
  refine s2 a dx vs fs σ H1 F1 c1 cs1 _ hs hx1 (rf.mono' x1.le) I1 (PoE.cut po1 _ fun d2 cs2 _ H2 F2 c2 v2 x2 I2 r2 po2 => ?_)
  have rv : RVs (gd X) F2 c2 [v1, v2] [d1, d2] := .cons (r1.mono x2.le) (.cons r2 .nil)
  exact ⟨mkL_len po2 rv, fun p hp => mkL_ok I2 rv po2 hp⟩
end
/-! ### the clauses -/
/-- one clause: its class's name, its slot if it is named, what its suite says -/
abbrev HC := Str × Option Nat × HM
def clrS (oi : Option Nat) : S → S
  | .nx e c => .nx (match oi with | some i => e.set i none | none => e) c
  | .bk e c => .bk (match oi with | some i => e.set i none | none => e) c
  | .ct e c => .ct (match oi with | some i => e.set i none | none => e) c
  | .rt d c => .rt d c
  | _ => .stuck
def catchH (isa : Str → Str → Option Bool) (n : Str) (fs : List (Str × D)) (env : Env) (cs : Cells) : List HC → S
  | [] => .exc n fs env cs
  | (c, some i, m) :: r => if n = c ∧ isa n c = some true ∧ i < env.length then clrS (some i) (m fs (env.set i none) cs) else if isa n c = some false then catchH isa n fs env cs r else .stuck
  | (c, none, m) :: r => match isa n c with
    | some true => clrS none (m fs env cs)
    | some false => catchH isa n fs env cs r
    | none => .stuck
def sTry (isa : Str → Str → Option Bool) (b : MS) (hs : List HC) : MS := fun env cs => match b env cs with
  | .exc n fs e c => catchH isa n fs e c hs
  | s => s
/-- which class is under which -/
def IsaOk (K : PySem.W.Frag) (mg : Str → Option Value) (isa : Str → Str → Option Bool) : Prop := ∀ n c b, isa n c = some b → ∀ A B, mg n = some (.ref A) → mg c = some (.ref B) → PySem.W.exmOne K (.ref A) (.ref B) = some b
inductive HcsOk (X : Cx) : List ExceptHandler → List HC → Prop
  | nil : HcsOk X [] []
  | plain {x : Str} {C : Addr} {m : MS} {s0 : Stmt} {ss : List Stmt} {q q' : Pos} {hs : List ExceptHandler} {l : List HC} (hg : Gl X x) (hd : (x == ("__debug__" : Str)) = false) (hm : X.mg x = some (.ref C))
      (su : ∀ (a : Addr) (oe : Obj) (pn : List (Addr × Obj)), Sms (X.suite a ((a, oe) :: pn)) XNo (s0 :: ss) m) (r : HcsOk X hs l) :
      HcsOk X (.ExceptHandler (some (.Name x q)) none (s0 :: ss) q' :: hs) ((x, none, fun _ => m) :: l)
  | named {x n : Str} {i : Nat} {C : Addr} {m : List (Str × D) → Cells → R} {e : Expr} {rp q q' : Pos} {hs : List ExceptHandler} {l : List HC} (hg : Gl X x) (hd : (x == ("__debug__" : Str)) = false) (hm : X.mg x = some (.ref C)) (hi : X.N[i]? = some n) (hk : X.env.kindOf n = some .local)
      (he : He X i C e m) (r : HcsOk X hs l) :
      HcsOk X (.ExceptHandler (some (.Name x q)) (some n) [.Return (some e) rp] q' :: hs) ((x, some i, fun fs env cs => (m fs cs).toS env fun d c => .rt d c) :: l)
end L3

namespace L3
open PySem L2 PySem.Spec PyProof.Rows

theorem PoS.clr {g : Gd} {Wo : WX} {D : Ends} {H F : Hp} {c : List Addr} {s : S} (h : PoS g Wo D H F c (clrS none s)) : PoS g XNo D H F c s := by
  cases s <;> first | exact h | exact False.elim h
theorem hcs_sim {X : Cx} {Wo : WX} {isa : Str → Str → Option Bool} (ia : IsaOk X.K X.mg isa) : ∀ {hs : List ExceptHandler} {l : List HC}, HcsOk X hs l → ∃ l', HsOk X hs l' ∧ ∀ n fs env cs C dx vs σ H F c D, X.mg n = some (.ref C) → H dx = some (.xd vs) →
    RFs (gd X) F c vs fs → RE (gd X) F c σ env → Ih (gd X) H F c cs → PoS (gd X) Wo D H F c (catchH isa n fs env cs l) → wHs X.K Wo D l' (.ref C) (some dx) σ H := by
  intro hs l hk
  induction hk with
  | nil => exact ⟨[], .nil, fun n fs env cs C dx vs σ H F c D hm hx rf re I po => po H F c (Xt.refl _ _ _) I σ C dx vs re hm hx rf⟩
  | @plain x C0 m s0 ss q q' hs l hg hd hm su r ih =>
    obtain ⟨l', k, s⟩ := ih
    refine ⟨some (.ref C0, none, fun _ _ _ => tsOf (gd X) XNo m) :: l', .plain ⟨hg, hd, .inl hm⟩ (fun a oe cls d pn _ _ => (su a oe pn).canon) k, fun n fs env cs C dx vs σ H F c D hn hx rf re I po => ?_⟩
    simp only [catchH] at po
    cases hi : isa n x with
    | none => rw [hi] at po; exact po.elim
    | some b =>
      rw [hi] at po
      cases b with
      | true => exact ⟨true, ia n x true hi C C0 hn hm, fun z => (by cases z), fun _ a _ => ⟨env, F, c, cs, re, I, PoS.clr po⟩⟩
      | false => exact ⟨false, ia n x false hi C C0 hn hm, fun _ => s n fs env cs C dx vs σ H F c D hn hx rf re I po, fun z => by cases z⟩
  | @named x nm i C0 m e rp q q' hs l hg hd hm hi hkd he r ih =>
    obtain ⟨l', k, s⟩ := ih
    obtain ⟨t, pt, st⟩ := he
    refine ⟨some (.ref C0, some i, fun a cls d => tRet (t a cls d)) :: l', .named ⟨hg, hd, .inl hm⟩ hi hkd (fun a oe cls d pn z hf => pss_one (ps_ret (pt a oe cls d pn z hf))) k, fun n fs env cs C dx vs σ H F c D hn hx rf re I po => ?_⟩
    simp only [catchH] at po
    split at po
    · rename_i h
      obtain ⟨rfl, h2, h3⟩ := h
      rw [hm] at hn
      cases hn
      refine ⟨true, ia n n true h2 C0 C0 hm hm, fun z => (by cases z), fun _ a _ => ?_⟩
      have hs : (σ.set i (some (V.ref a)))[i]? = some (some (V.ref a)) := by rw [List.getElem?_set_self (by rw [re.1]; exact h3)]
      refine st a dx vs fs _ H F c cs _ hs hx rf I ?_
      cases h4 : m fs cs with
      | ok d c1 => rw [h4] at po; exact po
      | exc n2 f2 c1 => rw [h4] at po; exact po.elim
      | stuck => rw [h4] at po; exact po.elim
    · split at po
      · rename_i h2
        exact ⟨false, ia n x false h2 C C0 hn hm, fun _ => s n fs env cs C dx vs σ H F c D hn hx rf re I po, fun z => by cases z⟩
      · exact po.elim
theorem sm_try {X : Cx} {Wo : WX} {isa : Str → Str → Option Bool} {body : List Stmt} {h0 : ExceptHandler} {hs : List ExceptHandler} {l : List HC} {mb : MS} {pos : Pos} (ia : IsaOk X.K X.mg isa) (st : X.stack = X.env :: X.outer) (fr : X.env.frame = some X.env.locals) (nd : X.N.Nodup) (tk : Takes X Wo)
    (bd : ∀ (W : WX) (pn : List (Addr × Obj)) (xe : Value → Shared → Prop), Takes (X.tr pn xe) W → PassesOwn (model X.prog X.w) X.A X.env xe → Sms (X.tr pn xe) W body mb) (hh : HcsOk X (h0 :: hs) l) : Sm X Wo (.Try body (h0 :: hs) [] [] pos) (sTry isa mb l) := by
  obtain ⟨l', k, s⟩ := hcs_sim (Wo := Wo) ia hh
  refine ⟨_, ps_try_hs (tb := fun W => tsOf (gd X) W mb) st fr nd tk (fun W pn xe a b => (bd W pn xe a b).canon) k, fun σ env H F c cs Dn re I po => ⟨env, F, c, cs, re, I, ?_⟩⟩
  unfold sTry at po
  cases h : mb env cs with
  | nx e c1 => rw [h] at po; exact po
  | rt d c1 => rw [h] at po; exact po
  | bk e c1 => rw [h] at po; exact po
  | ct e c1 => rw [h] at po; exact po
  | stuck => rw [h] at po; exact po.elim
  | exc n fs e c1 =>
    rw [h] at po
    exact fun H1 F1 c2 x1 I1 σ1 C dx vs re1 hm hx rf => s n fs e c1 C dx vs σ1 H1 F1 c2 Dn hm hx rf re1 I1 (PoS.from x1 po)
end L3

namespace L3
open PySem L2 PySem.Spec PyProof.Rows

/-! ### which class is under which: a table -/
theorem exm_of {K : PySem.W.Frag} {A B : Addr} {cd : ClassData} {b : Bool} (h1 : PySem.W.subIn K (.ref B) (.type "BaseException") = some true) (h2 : PySem.W.clsIn K B = some cd) (h3 : PySem.W.typeIn K (.ref B) = some (.type "type")) (h4 : PySem.W.subIn K (.ref A) (.ref B) = some b) :
    PySem.W.exmOne K (.ref A) (.ref B) = some b := by
  unfold PySem.W.exmOne PySem.W.kitCls
  simp [h1, h2, h3, h4]
def isaT (l : List ((Str × Str) × Bool)) (n c : Str) : Option Bool := l.lookup (n, c)
def IsaE (K : PySem.W.Frag) (mg : Str → Option Value) (e : (Str × Str) × Bool) : Prop := ∀ A B, mg e.1.1 = some (.ref A) → mg e.1.2 = some (.ref B) → PySem.W.exmOne K (.ref A) (.ref B) = some e.2
theorem isaE_mk {K : PySem.W.Frag} {mg : Str → Option Value} {n c : Str} {A B : Addr} {b : Bool} (h1 : mg n = some (.ref A)) (h2 : mg c = some (.ref B)) (h : PySem.W.exmOne K (.ref A) (.ref B) = some b) : IsaE K mg ((n, c), b) := fun A' B' e1 e2 => by
  rw [h1] at e1; rw [h2] at e2
  cases e1; cases e2
  exact h
inductive IsaL (K : PySem.W.Frag) (mg : Str → Option Value) : List ((Str × Str) × Bool) → Prop
  | nil : IsaL K mg []
  | cons {e : (Str × Str) × Bool} {l : List ((Str × Str) × Bool)} (h : IsaE K mg e) (r : IsaL K mg l) : IsaL K mg (e :: l)
theorem isaL_ok {K : PySem.W.Frag} {mg : Str → Option Value} {l : List ((Str × Str) × Bool)} (h : IsaL K mg l) : IsaOk K mg (isaT l) := by
  intro n c b e A B h1 h2
  unfold isaT at e
  induction h with
  | nil => cases e
  | @cons p l h r ih =>
    obtain ⟨k, v⟩ := p
    by_cases z : (n, c) = k
    · subst z
      rw [List.lookup_cons, beq_self_eq_true] at e
      simp only [Option.some.injEq] at e
      subst e
      exact h A B h1 h2
    · have hb : ((n, c) == k) = false := by simpa using z
      rw [List.lookup_cons, hb] at e
      exact ih e
/-! ### methods of a class, by its place -/
def meth (s : Stmt) (i : Nat) : Stmt := match s with
  | .ClassDef _ _ _ b _ _ _ _ _ _ _ => b.getD i (.Pass ⟨0, 0, 0, 0⟩)
  | _ => .Pass ⟨0, 0, 0, 0⟩
theorem xfC_of {K : PySem.W.Frag} {C : Addr} (h1 : PySem.W.findIn K (.ref C) "__getattribute__" = some (some (.builtin "BaseException.__getattribute__"))) (h2 : PySem.W.findIn K (.ref C) "__getattr__" = some none) (h3 : PySem.W.subIn K (.ref C) (.type "BaseException") = some true) (h4 : PySem.W.hasDictIn K C = true) : XfC K C := ⟨h1, h2, h3, h4⟩
section
variable {P : Program} {w : World} {K : PySem.W.Frag} {mg : Str → Option Value} {base : Heap}
/-- def __init__(self, f): Base.__init__(self, text); self.f = f -/
theorem exI_one {a : Addr} {C : Addr} {f : Str} {y : V} {H : Hp} {Q : VK} {fns : List Str} (hfn : fns = [f]) (ha : H a = some (exo a C none))
    (q : ∀ (dx : Addr) (H' : Hp), H dx = none → dx ≠ a → H' a = some (exo a C (some dx)) → H' dx = some (exd dx (fns.zip [y]).reverse) → (∀ b, b ≠ a → b ≠ dx → H' b = H b) → Q .non H') :
    ∀ dx, H dx = none → dx ≠ a → Q .non (upd (upd H dx (exd dx [(f, y)])) a (exo a C (some dx))) := fun dx hn ne => by
  subst hfn
  refine q dx _ hn ne upd_same ?_ fun b h1 h2 => ?_
  · rw [upd_ne ne, upd_same]; rfl
  · rw [upd_ne h1, upd_ne h2]
/-- .. of two fields -/
theorem exI_two {a : Addr} {C : Addr} {f f2 : Str} {y y2 : V} {H : Hp} {Q : VK} {fns : List Str} (hfn : fns = [f, f2])
    (q : ∀ (dx : Addr) (H' : Hp), H dx = none → dx ≠ a → H' a = some (exo a C (some dx)) → H' dx = some (exd dx (fns.zip [y, y2]).reverse) → (∀ b, b ≠ a → b ≠ dx → H' b = H b) → Q .non H') :
    ∀ dx, H dx = none → dx ≠ a → ∃ (dx' : Addr) (fs : List (Str × V)), (upd (upd H dx (exd dx [(f, y)])) a (exo a C (some dx))) a = some (exo a C (some dx')) ∧ (upd (upd H dx (exd dx [(f, y)])) a (exo a C (some dx))) dx' = some (exd dx' fs) ∧ fs.length ≤ 900 ∧
      Q .non (upd (upd (upd H dx (exd dx [(f, y)])) a (exo a C (some dx))) dx' (exd dx' ((f2, y2) :: fs))) := fun dx hn ne => by
  subst hfn
  refine ⟨dx, [(f, y)], upd_same, by rw [upd_ne ne, upd_same], by simp, q dx _ hn ne ?_ ?_ fun b h1 h2 => ?_⟩
  · rw [upd_ne (Ne.symm ne), upd_same]
  · rw [upd_same]; rfl
  · rw [upd_ne h2, upd_ne h1, upd_ne h2]
end
end L3

/-! try with clauses of which the last ones are not come to -/
namespace L3
open PySem L2 PySem.Spec PyProof.Rows
inductive HcsOkZ (X : Cx) : List ExceptHandler → List HC → Prop
  | nil : HcsOkZ X [] []
  | plain {x : Str} {C : Addr} {m : MS} {s0 : Stmt} {ss : List Stmt} {q q' : Pos} {hs : List ExceptHandler} {l : List HC} (hg : Gl X x) (hd : (x == ("__debug__" : Str)) = false) (hm : X.mg x = some (.ref C))
      (su : ∀ (a : Addr) (oe : Obj) (pn : List (Addr × Obj)), Sms (X.suite a ((a, oe) :: pn)) XNo (s0 :: ss) m) (r : HcsOkZ X hs l) :
      HcsOkZ X (.ExceptHandler (some (.Name x q)) none (s0 :: ss) q' :: hs) ((x, none, fun _ => m) :: l)
  | named {x n : Str} {i : Nat} {C : Addr} {m : List (Str × D) → Cells → R} {e : Expr} {rp q q' : Pos} {hs : List ExceptHandler} {l : List HC} (hg : Gl X x) (hd : (x == ("__debug__" : Str)) = false) (hm : X.mg x = some (.ref C)) (hi : X.N[i]? = some n) (hk : X.env.kindOf n = some .local)
      (he : He X i C e m) (r : HcsOkZ X hs l) :
      HcsOkZ X (.ExceptHandler (some (.Name x q)) (some n) [.Return (some e) rp] q' :: hs) ((x, some i, fun fs env cs => (m fs cs).toS env fun d c => .rt d c) :: l)
  /-- the rest is not come to -/
  | stop {hs : List ExceptHandler} : HcsOkZ X hs [("", none, fun _ => sNx)]
theorem hcs_simZ {X : Cx} {Wo : WX} {isa : Str → Str → Option Bool} (ia : IsaOk X.K X.mg isa) (hz : ∀ n, isa n "" = none) : ∀ {hs : List ExceptHandler} {l : List HC}, HcsOkZ X hs l → ∃ l', HsOk X hs l' ∧ ∀ n fs env cs C dx vs σ H F c D, X.mg n = some (.ref C) → H dx = some (.xd vs) →
    RFs (gd X) F c vs fs → RE (gd X) F c σ env → Ih (gd X) H F c cs → PoS (gd X) Wo D H F c (catchH isa n fs env cs l) → wHs X.K Wo D l' (.ref C) (some dx) σ H := by
  intro hs l hk
  induction hk with
  | nil => exact ⟨[], .nil, fun n fs env cs C dx vs σ H F c D hm hx rf re I po => po H F c (Xt.refl _ _ _) I σ C dx vs re hm hx rf⟩
  | stop =>
    refine ⟨[none], .stop, fun n fs env cs C dx vs σ H F c D hm hx rf re I po => ?_⟩
    simp only [catchH, hz] at po
    exact po.elim
  | @plain x C0 m s0 ss q q' hs l hg hd hm su r ih =>
    obtain ⟨l', k, s⟩ := ih
    refine ⟨some (.ref C0, none, fun _ _ _ => tsOf (gd X) XNo m) :: l', .plain ⟨hg, hd, .inl hm⟩ (fun a oe cls d pn _ _ => (su a oe pn).canon) k, fun n fs env cs C dx vs σ H F c D hn hx rf re I po => ?_⟩
    simp only [catchH] at po
    cases hi : isa n x with
    | none => rw [hi] at po; exact po.elim
    | some b =>
      rw [hi] at po
      cases b with
      | true => exact ⟨true, ia n x true hi C C0 hn hm, fun z => (by cases z), fun _ a _ => ⟨env, F, c, cs, re, I, PoS.clr po⟩⟩
      | false => exact ⟨false, ia n x false hi C C0 hn hm, fun _ => s n fs env cs C dx vs σ H F c D hn hx rf re I po, fun z => by cases z⟩
  | @named x nm i C0 m e rp q q' hs l hg hd hm hi hkd he r ih =>
    obtain ⟨l', k, s⟩ := ih
    obtain ⟨t, pt, st⟩ := he
    refine ⟨some (.ref C0, some i, fun a cls d => tRet (t a cls d)) :: l', .named ⟨hg, hd, .inl hm⟩ hi hkd (fun a oe cls d pn z hf => pss_one (ps_ret (pt a oe cls d pn z hf))) k, fun n fs env cs C dx vs σ H F c D hn hx rf re I po => ?_⟩
    simp only [catchH] at po
    split at po
    · rename_i h
      obtain ⟨rfl, h2, h3⟩ := h
      rw [hm] at hn
      cases hn
      refine ⟨true, ia n n true h2 C0 C0 hm hm, fun z => (by cases z), fun _ a _ => ?_⟩
      have hs : (σ.set i (some (V.ref a)))[i]? = some (some (V.ref a)) := by rw [List.getElem?_set_self (by rw [re.1]; exact h3)]
      refine st a dx vs fs _ H F c cs _ hs hx rf I ?_
      cases h4 : m fs cs with
      | ok d c1 => rw [h4] at po; exact po
      | exc n2 f2 c1 => rw [h4] at po; exact po.elim
      | stuck => rw [h4] at po; exact po.elim
    · split at po
      · rename_i h2
        exact ⟨false, ia n x false h2 C C0 hn hm, fun _ => s n fs env cs C dx vs σ H F c D hn hx rf re I po, fun z => by cases z⟩
      · exact po.elim
theorem sm_tryZ {X : Cx} {Wo : WX} {isa : Str → Str → Option Bool} {body : List Stmt} {h0 : ExceptHandler} {hs : List ExceptHandler} {l : List HC} {mb : MS} {pos : Pos} (ia : IsaOk X.K X.mg isa) (hz : ∀ n, isa n "" = none) (st : X.stack = X.env :: X.outer) (fr : X.env.frame = some X.env.locals) (nd : X.N.Nodup) (tk : Takes X Wo)
    (bd : ∀ (W : WX) (pn : List (Addr × Obj)) (xe : Value → Shared → Prop), Takes (X.tr pn xe) W → PassesOwn (model X.prog X.w) X.A X.env xe → Sms (X.tr pn xe) W body mb) (hh : HcsOkZ X (h0 :: hs) l) : Sm X Wo (.Try body (h0 :: hs) [] [] pos) (sTry isa mb l) := by
  obtain ⟨l', k, s⟩ := hcs_simZ (Wo := Wo) ia hz hh
  refine ⟨_, ps_try_hs (tb := fun W => tsOf (gd X) W mb) st fr nd tk (fun W pn xe a b => (bd W pn xe a b).canon) k, fun σ env H F c cs Dn re I po => ⟨env, F, c, cs, re, I, ?_⟩⟩
  unfold sTry at po
  cases h : mb env cs with
  | nx e c1 => rw [h] at po; exact po
  | rt d c1 => rw [h] at po; exact po
  | bk e c1 => rw [h] at po; exact po
  | ct e c1 => rw [h] at po; exact po
  | stuck => rw [h] at po; exact po.elim
  | exc n fs e c1 =>
    rw [h] at po
    exact fun H1 F1 c2 x1 I1 σ1 C dx vs re1 hm hx rf => s n fs e c1 C dx vs σ1 H1 F1 c2 Dn hm hx rf re1 I1 (PoS.from x1 po)

theorem isaT_none : ∀ {l : List ((Str × Str) × Bool)}, (l.all fun e => decide (e.1.2 ≠ "")) = true → ∀ n, isaT l n "" = none
  | [], _, n => rfl
  | ((a, b), v) :: l, h, n => by
    rw [List.all_cons, Bool.and_eq_true] at h
    have ih := isaT_none h.2 n
    unfold isaT at ih ⊢
    rw [List.lookup]
    have hb : b ≠ "" := of_decide_eq_true h.1
    have : ((n, ("" : Str)) == (a, b)) = false := by
      rw [beq_eq_false_iff_ne]
      intro e
      exact hb (Prod.mk.inj e).2.symm
    rw [this]; exact ih
end L3

namespace L3
open PySem L2 PySem.Spec PyProof.Rows

/-! ### text[::-1] -/
def tRevS (te : TE) : TE := fun σ H Q => te σ H fun x H1 => ∃ l : List Nat, x = .str ⟨l.toArray⟩ ∧ l.length ≤ sizeLine ∧ Q (.str ⟨l.reverse.toArray⟩) H1
theorem rev_picked (l : List Nat) : ((Builtin.Str.strSliceIndices none none (-1) l.length).filterMap ((⟨l.toArray⟩ : Str).cps[·]?)).toArray = l.reverse.toArray := by
  have e : Builtin.Str.strSliceIndices none none (-1) l.length = sliceRange ((l.length : Int) - 1) (-1) (-1) := rfl
  rw [e, PySem.W.krv_sliceRange, PySem.W.krv_range, List.filterMap_reverse]
  have := PySem.W.krv_all l.toArray
  simp only [List.size_toArray] at this
  rw [show ((⟨l.toArray⟩ : Str).cps) = l.toArray from rfl, this]
theorem pe_revS {X : Cx} {te : TE} {e : Expr} {k : Nat} {p1 p2 p3 pos : Pos} (he : PE X e te) : PE X (.Subscript e (.Slice none none (some (.UnaryOp .USub (.Constant (.int 1) k p1) p2)) p3) pos) (tRevS te) := by
  refine ⟨fun pins s σ H Q I h => ?_⟩
  refine Subscript_ (thn (he.run pins s σ H _ I h) fun v s1 ⟨x, H1, I1, r1, q1⟩ => ?_)
  obtain ⟨l, ex, hz, q⟩ := q1
  subst ex
  obtain ⟨t, rfl⟩ := r1
  have hst : PO X (some (.UnaryOp .USub (.Constant (.int 1) k p1) p2)) (tPart (tUn (rU fun i => .int (-i)) (tC (.int 1)))) := po_some (pe_un un_neg pe_int)
  refine wpAny_Slice (thn (po_none.run pins s1 σ H1 (fun o H2 => o = none ∧ H2 = H1) I1 ⟨rfl, rfl⟩) fun vl s2 ⟨l', H2, I2, pl, el, e2⟩ => ?_)
  subst el e2
  refine thn (po_none.run pins s2 σ H2 (fun o H3 => o = none ∧ H3 = H2) I2 ⟨rfl, rfl⟩) fun vu s3 ⟨u, H3, I3, pu, eu, e3⟩ => ?_
  subst eu e3
  refine thn (hst.run pins s3 σ H3 (fun o H4 => o = some (-1) ∧ H4 = H3) I3 ⟨1, rfl, -1, rfl, rfl, rfl⟩) fun vs s4 ⟨o, H4, I4, ps, eo, e4⟩ => ?_
  subst eo e4
  cases pl
  cases pu
  obtain ⟨tk, rfl⟩ : ∃ tk, vs = .int (-1) tk := by cases ps; exact ⟨_, rfl⟩
  have I5 : Inv X pins σ H4 { s4 with heap := s4.heap.push { cls := .type "slice", data := .fields #[.none, .none, .int (-1) tk] } } := I4.kept (t' := s4.toks) fun b ob q => Heap.get?_push_of_some _ q
  show wpAny (model X.prog X.w) X.A (subscriptTail e (.Slice none none (some (.UnaryOp .USub (.Constant (.int 1) k p1) p2)) p3) (.str ⟨l.toArray⟩ t) (.ref s4.heap.objs.size)) (EP X pins σ Q) X.xe { s4 with heap := s4.heap.push { cls := .type "slice", data := .fields #[.none, .none, .int (-1) tk] } }
  refine tail_any (ops := [.str ⟨l.toArray⟩ t, .ref s4.heap.objs.size]) (typeIs_str _ _ _) (F.slot_str_getitem.lookup) ?_ (by with_unfolding_all rfl)
  refine wpAny_getItem_str_slice (l := none) (u := none) (st := some (-1, tk)) ⟨_, Heap.get?_push_size _ rfl, rfl, rfl⟩ (by rfl) ?_
  have em : sliceMade ⟨l.toArray⟩ t none none (some (-1, tk)) = .str ⟨l.reverse.toArray⟩ := by
    unfold sliceMade slicePicked
    rw [if_neg (by simp)]
    show Made.str ⟨((Builtin.Str.strSliceIndices none none (-1) l.length).filterMap ((⟨l.toArray⟩ : Str).cps[·]?)).toArray⟩ = _
    rw [rev_picked]
  rw [em]
  refine ⟨?_, .str ⟨l.reverse.toArray⟩, H4, I5.tok _, ⟨_, rfl⟩, q⟩
  rw [str_len, List.length_reverse]
  exact hz
def revD (cs : Cells) : D → R
  | .str l => if l.length ≤ sizeLine then .ok (.str l.reverse) cs else .stuck
  | _ => .stuck
theorem xp_rev {X : Cx} {W : WX} {a : Expr} {ma : ME} {k : Nat} {p1 p2 p3 pos : Pos} (ha : Xp X W a ma) : Xp X W (.Subscript a (.Slice none none (some (.UnaryOp .USub (.Constant (.int 1) k p1) p2)) p3) pos) (op1 revD ma) := by
  obtain ⟨ta, pa, sa⟩ := ha
  refine ⟨_, pe_revS pa, fun σ env H F c cs Q re I po => ?_⟩
  refine sa σ env H F c cs _ re I (PoE.cut po _ fun d cs1 _ H1 F1 c1 v x1 I1 rv po1 => ?_)
  unfold revD at po1
  split at po1
  · split at po1
    · rename_i h
      cases rv
      exact ⟨_, rfl, h, PoE.here I1 (.str _) po1⟩
    · exact po1.elim
  · exact po1.elim

/-! ### methods of a text with a text -/
abbrev mk (l : List Nat) : Str := ⟨l.toArray⟩
def cntD (cs : Cells) (l : List Nat) : D → R
  | .str y => .ok (.int (Txt.count (mk l) (mk y))) cs
  | _ => .stuck
theorem mb_cnt {g : Gd} : Mb1 g (fun x xs H Q => ∃ a b, x = .str a ∧ xs = [.str b] ∧ Q (.int (Txt.count a b)) H) cntD := by
  intro W H F c cs l y e Q I ry po
  unfold cntD at po
  split at po
  · cases ry
    exact ⟨_, _, rfl, rfl, PoE.here I (.int _) po⟩
  · exact po.elim
theorem xp_cnt {X : Cx} {W : WX} {pos apos : Pos} {o e : Expr} {mo me : ME} (ho : Xp X W o mo) (he : Xp X W e me)
    (hs : starEach [e] X.env = [(false, eval e X.env)] := by rfl) (hbase : attributeBase o "count" X.env (eval o X.env) = eval o X.env := by rfl) (hline : (apos.endLine == pos.line) = true := by rfl) :
    Xp X W (.Call (.Attribute o "count" apos) [e] [] pos) (eM1 cntD mo me) := xp_m1 F.slot_str_count F.type_str_count mt_count mb_cnt ho he hs hbase hline
def findD (cs : Cells) (l : List Nat) : D → R
  | .str y => .ok (.int (Txt.find (mk l) (mk y))) cs
  | _ => .stuck
theorem mb_find {g : Gd} : Mb1 g (fun x xs H Q => ∃ a b, x = .str a ∧ xs = [.str b] ∧ Q (.int (Txt.find a b)) H) findD := by
  intro W H F c cs l y e Q I ry po
  unfold findD at po
  split at po
  · cases ry
    exact ⟨_, _, rfl, rfl, PoE.here I (.int _) po⟩
  · exact po.elim
theorem xp_find {X : Cx} {W : WX} {pos apos : Pos} {o e : Expr} {mo me : ME} (ho : Xp X W o mo) (he : Xp X W e me)
    (hs : starEach [e] X.env = [(false, eval e X.env)] := by rfl) (hbase : attributeBase o "find" X.env (eval o X.env) = eval o X.env := by rfl) (hline : (apos.endLine == pos.line) = true := by rfl) :
    Xp X W (.Call (.Attribute o "find" apos) [e] [] pos) (eM1 findD mo me) := xp_m1 F.slot_str_find F.type_str_find mt_find mb_find ho he hs hbase hline
def startsD (cs : Cells) (l : List Nat) : D → R
  | .str y => .ok (.bl (Txt.startswith (mk l) (mk y))) cs
  | _ => .stuck
theorem mb_starts {g : Gd} : Mb1 g (fun x xs H Q => ∃ a b, x = .str a ∧ xs = [.str b] ∧ Q (.bl (Txt.startswith a b)) H) startsD := by
  intro W H F c cs l y e Q I ry po
  unfold startsD at po
  split at po
  · cases ry
    exact ⟨_, _, rfl, rfl, PoE.here I (.bl _) po⟩
  · exact po.elim
theorem xp_starts {X : Cx} {W : WX} {pos apos : Pos} {o e : Expr} {mo me : ME} (ho : Xp X W o mo) (he : Xp X W e me)
    (hs : starEach [e] X.env = [(false, eval e X.env)] := by rfl) (hbase : attributeBase o "startswith" X.env (eval o X.env) = eval o X.env := by rfl) (hline : (apos.endLine == pos.line) = true := by rfl) :
    Xp X W (.Call (.Attribute o "startswith" apos) [e] [] pos) (eM1 startsD mo me) := xp_m1 F.slot_str_startswith F.type_str_startswith mt_startswith mb_starts ho he hs hbase hline
def endsD (cs : Cells) (l : List Nat) : D → R
  | .str y => .ok (.bl (Txt.endswith (mk l) (mk y))) cs
  | _ => .stuck
theorem mb_ends {g : Gd} : Mb1 g (fun x xs H Q => ∃ a b, x = .str a ∧ xs = [.str b] ∧ Q (.bl (Txt.endswith a b)) H) endsD := by
  intro W H F c cs l y e Q I ry po
  unfold endsD at po
  split at po
  · cases ry
    exact ⟨_, _, rfl, rfl, PoE.here I (.bl _) po⟩
  · exact po.elim
theorem xp_ends {X : Cx} {W : WX} {pos apos : Pos} {o e : Expr} {mo me : ME} (ho : Xp X W o mo) (he : Xp X W e me)
    (hs : starEach [e] X.env = [(false, eval e X.env)] := by rfl) (hbase : attributeBase o "endswith" X.env (eval o X.env) = eval o X.env := by rfl) (hline : (apos.endLine == pos.line) = true := by rfl) :
    Xp X W (.Call (.Attribute o "endswith" apos) [e] [] pos) (eM1 endsD mo me) := xp_m1 F.slot_str_endswith F.type_str_endswith mt_endswith mb_ends ho he hs hbase hline
def rscD (cs : Cells) (l : List Nat) : D → R
  | .str y => if l.length ≤ sizeLine then .ok (.str (codes (Txt.rstripChars (mk l) (mk y)))) cs else .stuck
  | _ => .stuck
theorem mb_rsc {g : Gd} : Mb1 g (fun x xs H Q => ∃ a b, x = .str a ∧ xs = [.str b] ∧ a.length ≤ sizeLine ∧ Q (.str (Txt.rstripChars a b)) H) rscD := by
  intro W H F c cs l y e Q I ry po
  unfold rscD at po
  split at po
  · split at po
    · rename_i h
      cases ry
      refine ⟨_, _, rfl, rfl, by rw [str_len]; exact h, ?_⟩
      have := PoE.here I (.str _) po
      rw [str_codes] at this
      exact this
    · exact po.elim
  · exact po.elim
theorem xp_rsc {X : Cx} {W : WX} {pos apos : Pos} {o e : Expr} {mo me : ME} (ho : Xp X W o mo) (he : Xp X W e me)
    (hs : starEach [e] X.env = [(false, eval e X.env)] := by rfl) (hbase : attributeBase o "rstrip" X.env (eval o X.env) = eval o X.env := by rfl) (hline : (apos.endLine == pos.line) = true := by rfl) :
    Xp X W (.Call (.Attribute o "rstrip" apos) [e] [] pos) (eM1 rscD mo me) := xp_m1 F.slot_str_rstrip F.type_str_rstrip mt_rstripChars mb_rsc ho he hs hbase hline
def lscD (cs : Cells) (l : List Nat) : D → R
  | .str y => if l.length ≤ sizeLine then .ok (.str (codes (Txt.lstripChars (mk l) (mk y)))) cs else .stuck
  | _ => .stuck
theorem mb_lsc {g : Gd} : Mb1 g (fun x xs H Q => ∃ a b, x = .str a ∧ xs = [.str b] ∧ a.length ≤ sizeLine ∧ Q (.str (Txt.lstripChars a b)) H) lscD := by
  intro W H F c cs l y e Q I ry po
  unfold lscD at po
  split at po
  · split at po
    · rename_i h
      cases ry
      refine ⟨_, _, rfl, rfl, by rw [str_len]; exact h, ?_⟩
      have := PoE.here I (.str _) po
      rw [str_codes] at this
      exact this
    · exact po.elim
  · exact po.elim
theorem xp_lsc {X : Cx} {W : WX} {pos apos : Pos} {o e : Expr} {mo me : ME} (ho : Xp X W o mo) (he : Xp X W e me)
    (hs : starEach [e] X.env = [(false, eval e X.env)] := by rfl) (hbase : attributeBase o "lstrip" X.env (eval o X.env) = eval o X.env := by rfl) (hline : (apos.endLine == pos.line) = true := by rfl) :
    Xp X W (.Call (.Attribute o "lstrip" apos) [e] [] pos) (eM1 lscD mo me) := xp_m1 F.slot_str_lstrip F.type_str_lstrip mt_lstripChars mb_lsc ho he hs hbase hline

/-! ### xs.append(e), xs a cell -/
def pushL (cs : Cells) (o v : D) : Option Cells := match o with
  | .loc n => match cs[n]? with
    | some (.lst l) => if l.length < sizeLine then some (cs.set n (.lst (l ++ [v]))) else none
    | _ => none
  | _ => none
def isLc (cs : Cells) : D → Bool
  | .loc n => match cs[n]? with
    | some (.lst _) => true
    | _ => false
  | _ => false
def ePush (mo me : ME) : ME := fun env cs => (mo env cs).bind fun o cs1 => if isLc cs1 o = true then (me env cs1).bind fun v cs2 => match pushL cs2 o v with
    | some cs3 => .ok .non cs3
    | none => .stuck
  else .stuck
theorem isLc_at {g : Gd} {H F : Hp} {c : List Addr} {cs : Cells} (I : Ih g H F c cs) {v : V} {d : D} (r : RV g F c v d) (h : isLc cs d = true) : ∃ n a l vs, d = .loc n ∧ v = .ref a ∧ c[n]? = some a ∧ cs[n]? = some (.lst l) ∧ H a = some (.lst vs) ∧ RVs g F c vs l := by
  unfold isLc at h
  split at h
  · rename_i n
    split at h
    · rename_i l hl
      cases r with
      | loc ha =>
        obtain ⟨_, vs, h1, h2⟩ := I.cell _ _ _ ha hl
        exact ⟨n, _, l, vs, rfl, rfl, ha, hl, h1, h2⟩
    · cases h
  · cases h
section
variable {X : Cx} {W : WX} {pos apos tpos : Pos} {o b e : Expr} {mo mb me : ME}
theorem pe_push {to : TE} {t : TA} {es : List Expr} (ho : PE X o to) (ha : PA X (e :: es) t)
    (hbase : attributeBase o "append" X.env (eval o X.env) = eval o X.env := by rfl)
    (hfew : ((backTo pos (starEach (e :: es) X.env)).all (fun x => !x.1) && (backToKw pos (keywordEach [] X.env)).all (fun x => x.1.isSome)
      && decide ((e :: es).length + ([] : List Keyword).length + (if ([] : List Keyword).isEmpty then 0 else 1) < 30)) = true := by rfl)
    (hline : (apos.endLine == pos.line) = true := by rfl) (hs : starEach (e :: es) X.env = (false, eval e X.env) :: starEach es X.env := by rfl) (hplain : (backTo pos (starEach es X.env)).any (·.1) = false := by rfl) :
    PE X (.Call (.Attribute o "append" apos) (e :: es) [] pos) (tBM X.K "list" rAppend to t) :=
  pe_bm F.plainAttrs_list F.slot_list_append F.type_list_append mt_append ho ha hbase hfew hline hs hplain
theorem xp_push (ho : Xp X W o mo) (he : Xp X W e me)
    (hbase : attributeBase o "append" X.env (eval o X.env) = eval o X.env := by rfl)
    (hfew : ((backTo pos (starEach [e] X.env)).all (fun x => !x.1) && (backToKw pos (keywordEach [] X.env)).all (fun x => x.1.isSome)
      && decide ([e].length + ([] : List Keyword).length + (if ([] : List Keyword).isEmpty then 0 else 1) < 30)) = true := by rfl)
    (hline : (apos.endLine == pos.line) = true := by rfl) (hs : starEach [e] X.env = (false, eval e X.env) :: starEach [] X.env := by rfl) (hplain : (backTo pos (starEach [] X.env)).any (·.1) = false := by rfl) :
    Xp X W (.Call (.Attribute o "append" apos) [e] [] pos) (ePush mo me) := by
  obtain ⟨to, po', so⟩ := ho
  obtain ⟨te, pe', se⟩ := he
  refine ⟨_, pe_push po' (pa_cons pe' pa_nil hs) hbase hfew hline hs hplain, fun σ env H F c cs Q re I po => ?_⟩
  refine so σ env H F c cs _ re I (PoE.cut po _ fun d cs1 _ H1 F1 c1 v x1 I1 rv po1 => ?_)
  split at po1
  · rename_i hc
    obtain ⟨n, a, l, vs, rfl, rfl, ha, hl, h1, h2⟩ := isLc_at I1 rv hc
    refine ⟨.inl ⟨rfl, vs, .inl (.inl h1)⟩, se σ env H1 F1 c1 cs1 _ (re.mono x1.le) I1 (PoE.cut po1 _ fun d2 cs2 _ H2 F2 c2 v2 x2 I2 rv2 po2 => ?_)⟩
    split at po2
    · rename_i cs3 h3
      simp only [pushL] at h3
      split at h3
      · rename_i l2 hl2
        split at h3
        · rename_i hz
          simp only [Option.some.injEq] at h3
          subst h3
          have ha2 := x2.le.loc _ _ ha
          obtain ⟨f, vs2, hH, r⟩ := I2.cell _ _ _ ha2 hl2
          refine ⟨a, vs2, v2, rfl, rfl, hH, by rw [r.length]; exact hz, ?_⟩
          have x4 := Xt.write I2 (o := .lst (vs2 ++ [v2])) ha2
          exact po2 _ _ _ x4 (I2.write ha2 hl2 rfl ⟨f, _, upd_same, r.append (.cons rv2 .nil)⟩) .non .non
        · cases h3
      · cases h3
    · exact po2.elim
  · exact po1.elim
end

/-! ### d[k] = e, d a dict that is a cell -/
def kdOf : D → Option Kd
  | .int i => some (.inl i)
  | .str l => some (.inr l)
  | _ => none
theorem kdOf_rv {g : Gd} {F : Hp} {c : List Addr} {v : V} {d : D} {k : Kd} (r : RV g F c v d) (h : kdOf d = some k) : v = kV (kk k) := by
  cases r <;> simp only [kdOf] at h
  all_goals first | (cases h; rfl) | cases h
def putC (cs : Cells) (o i v : D) : Option Cells := match o with
  | .loc n => match cs[n]? with
    | some (.dct l) => match kdOf i with
      | some k => if l.length < sizeLine then some (cs.set n (.dct (putD l k v))) else none
      | none => none
    | _ => none
  | _ => none
def sPutK (mo mi mv : ME) : MS := fun env cs => (mv env cs).toS env fun v cs1 => (mo env cs1).toS env fun o cs2 => (mi env cs2).toS env fun i cs3 => match putC cs3 o i v with
  | some cs4 => .nx env cs4
  | none => .stuck
theorem RKs.len {g : Gd} {F : Hp} {c : List Addr} : ∀ {vs : List (Key × V)} {ds : List (Kd × D)}, RKs g F c vs ds → vs.length = ds.length
  | _, _, .nil => rfl
  | _, _, .cons _ r => by rw [List.length_cons, List.length_cons, RKs.len r]
theorem sm_putK {X : Cx} {W : WX} {k : Nat} {o b e : Expr} {mo mb me : ME} {pos tpos : Pos} (hr : Room k X.A) (ho : Xp X W o mo) (hi : Xp X W b mb) (hv : Xp X W e me)
    (hs : swapsWith e (some (.Subscript o b tpos)) pos.line X.env = pure false := by rfl) : Sm X W (.Assign [.Subscript o b tpos] e pos) (sPutK mo mb me) := by
  obtain ⟨to, po', so⟩ := ho
  obtain ⟨tb, pb, sb⟩ := hi
  obtain ⟨te, pe, se⟩ := hv
  refine ⟨_, ps_dput (hu_of hr) po' pb pe hs, fun σ env H F c cs Dn re I po => ?_⟩
  refine se σ env H F c cs _ re I (PoS.cut re po _ fun d cs1 _ H1 F1 c1 v x1 I1 rv po1 => ?_)
  refine so σ env H1 F1 c1 cs1 _ (re.mono x1.le) I1 (PoS.cut (re.mono x1.le) po1 _ fun d2 cs2 _ H2 F2 c2 v2 x2 I2 rv2 po2 => ?_)
  refine sb σ env H2 F2 c2 cs2 _ ((re.mono x1.le).mono x2.le) I2 (PoS.cut ((re.mono x1.le).mono x2.le) po2 _ fun d3 cs3 _ H3 F3 c3 v3 x3 I3 rv3 po3 => ?_)
  have re3 := ((re.mono x1.le).mono x2.le).mono x3.le
  have rv' := (rv.mono x2.le).mono x3.le
  have rv2' := rv2.mono x3.le
  split at po3
  · rename_i cs4 h4
    unfold putC at h4
    split at h4
    · rename_i n
      split at h4
      · rename_i l hl
        split at h4
        · rename_i kd hk
          split at h4
          · rename_i hz
            simp only [Option.some.injEq] at h4
            subst h4
            cases rv2' with
            | @loc _ a ha =>
              obtain ⟨f, kvs, hH, r⟩ := I3.cell _ _ _ ha hl
              have ek := kdOf_rv rv3 hk
              subst ek
              refine ⟨a, _, rfl, .k (k := kk kd) hH (by rw [r.len]; exact hz), ?_⟩
              have x4 := Xt.write I3 (o := .dK (putK kvs (kk kd) v)) ha
              refine po3 _ _ _ x4 (I3.write ha hl rfl ?_) σ (re3.mono x4.le)
              exact ⟨f, _, upd_same, r.put kd rv'⟩
          · cases h4
        · cases h4
      · cases h4
    · cases h4
  · exact po3.elim

/-! ### a, b = .. -/
def tgTs : List Nat → List D → L3.Env → Option L3.Env
  | [], [], env => some env
  | i :: r, d :: ds, env => tgTs r ds (env.set i (some d))
  | _, _, _ => none
def tgTup (is : List Nat) (d : D) (env : L3.Env) : Option L3.Env := match d with
  | .tup ds => tgTs is ds env
  | _ => none
def Tgts (X : Cx) (es : List Expr) (is own : List Nat) : Prop := ∃ t, PGs X es t ∧ ∀ σ env H F c cs vs ds env1 Q, RE (gd X) F c σ env → Ih (gd X) H F c cs → RVs (gd X) F c vs ds → tgTs is ds env = some env1 → (∀ σ1, RE (gd X) F c σ1 env1 → L2.wipe σ1 own = L2.wipe σ own → Q σ1 H) → t vs σ H Q
theorem tgts_nil {X : Cx} {own : List Nat} : Tgts X [] [] own := ⟨_, pgs_nil, fun σ env H F c cs vs ds env1 Q re I rv h k => by
  cases rv with
  | nil =>
    simp only [tgTs, Option.some.injEq] at h
    subst h
    exact ⟨rfl, k σ re rfl⟩
  | cons _ _ => simp [tgTs] at h⟩
theorem tgts_cons {X : Cx} {i : Nat} {is own : List Nat} {e : Expr} {es : List Expr} (h1 : Tgt X e (tgN i) own) (h2 : Tgts X es is own)
    (hs : (assignEach (e :: es) X.env).map (·.2) = assign e X.env :: (assignEach es X.env).map (·.2) := by rfl) : Tgts X (e :: es) (i :: is) own := by
  obtain ⟨t, p, q⟩ := h1
  obtain ⟨u, p2, q2⟩ := h2
  refine ⟨_, pgs_cons p p2 hs, fun σ env H F c cs vs ds env1 Q re I rv h k => ?_⟩
  cases rv with
  | nil => simp [tgTs] at h
  | @cons v d vr dr r1 r2 =>
    simp only [tgTs] at h
    refine ⟨v, vr, rfl, q σ env H F c cs v d _ _ re I r1 rfl fun σ1 re1 w1 => ?_⟩
    exact q2 σ1 _ H F c cs vr dr env1 Q re1 I r2 h fun σ2 re2 w2 => k σ2 re2 (w2.trans w1)
theorem tgts_len {is : List Nat} : ∀ {ds : List D} {env env1 : L3.Env}, tgTs is ds env = some env1 → ds.length = is.length := by
  induction is with
  | nil => intro ds env env1 h; cases ds with
    | nil => rfl
    | cons _ _ => simp [tgTs] at h
  | cons i r ih => intro ds env env1 h; cases ds with
    | nil => simp [tgTs] at h
    | cons d dr => simp only [tgTs] at h; simp [ih h]
theorem tgt_tup {X : Cx} {is own : List Nat} {es : List Expr} {k : Nat} {pos : Pos} (hc : X.calm = true) (h : Tgts X es is own) (hn : (assignEach es X.env).length = is.length := by rfl) (hst : (assignEach es X.env).findIdx? (·.1) = none := by rfl) : Tgt X (.Tuple es k pos) (tgTup is) own := by
  obtain ⟨t, p, q⟩ := h
  refine ⟨_, pg_tup hc p hn hst, fun σ env H F c cs v d env1 Q re I rv h k => ?_⟩
  unfold tgTup at h
  split at h
  · rename_i ds
    cases rv with
    | @tup a vs _ h1 h2 => exact ⟨a, vs, rfl, .inl (.inl (I.sub _ _ h1)), by rw [h2.length, tgts_len h], q σ env H F c cs vs ds env1 Q re I h2 h k⟩
  · cases h
/-- target = e, the target a tuple of names -/
def sAsgT (f : D → L3.Env → Option L3.Env) (m : ME) : MS := fun env cs => (m env cs).toS env fun d cs1 => match f d env with
  | some env1 => .nx env1 cs1
  | none => .stuck
theorem sm_asgT {X : Cx} {W : WX} {f : D → L3.Env → Option L3.Env} {own : List Nat} {tg e : Expr} {m : ME} {pos : Pos} (ht : Tgt X tg f own) (he : Xp X W e m) (hs : swapsWithSole [tg] e pos.line X.env = pure false := by rfl) (hw : swappedStores [tg] e X.env = pure none := by rfl)
    (h1 : (assignEach [tg] X.env).map (·.2) = [assign tg X.env] := by rfl) : Sm X W (.Assign [tg] e pos) (sAsgT f m) := by
  obtain ⟨t, p, q⟩ := ht
  obtain ⟨te, pe, se⟩ := he
  refine ⟨_, ps_asg pe p hs hw h1, fun σ env H F c cs Dn re I po => ?_⟩
  refine se σ env H F c cs _ re I (PoS.cut re po _ fun d cs1 _ H1 F1 c1 v x1 I1 rv po1 => ?_)
  split at po1
  · rename_i env1 h
    exact q σ env H1 F1 c1 cs1 v d env1 _ (re.mono x1.le) I1 rv h fun σ1 re1 _ => PoS.next I1 re1 po1
  · exact po1.elim

/-! ### a, b = e, f (its stores swap) -/
def sPar (is : List Nat) (ms : MA) : MS := fun env cs => match ms env cs with
  | .ok ds cs1 => match tgTs is ds env with
    | some env1 => .nx env1 cs1
    | none => .stuck
  | .exc n fs cs1 => .exc n fs env cs1
  | .stuck => .stuck
section
variable {X : Cx} {W : WX} {ms : MA} {px py pz pt pos : Pos} {kt k2 : Nat} {pt2 : Pos} {x y z : Str} {i j l : Nat} {a b c : Expr}
theorem sm_par2 (hc : X.calm = true) (hN : X.N.Nodup) (hi : X.N[i]? = some x) (hj : X.N[j]? = some y) (hx : X.env.scope.names.lookup x = some .local) (hy : X.env.scope.names.lookup y = some .local) (ha : Xa X W [a, b] ms) (hij : i ≠ j := by decide)
    (hw : swappedStores [.Tuple [.Name x px, .Name y py] kt pt] (.Tuple [a, b] k2 pt2) X.env = pure (some [x, y]) := by rfl)
    (hs : swapsWithSole [.Tuple [.Name x px, .Name y py] kt pt] (.Tuple [a, b] k2 pt2) pos.line X.env = pure false := by rfl) : Sm X W (.Assign [.Tuple [.Name x px, .Name y py] kt pt] (.Tuple [a, b] k2 pt2) pos) (sPar [i, j] ms) := by
  obtain ⟨t, pa, sa⟩ := ha
  refine ⟨_, ps_par hc hN hi hj hij hx hy pa hw hs, fun σ env H F c cs Dn re I po => ?_⟩
  refine sa σ env H F c cs _ re I ?_
  unfold sPar at po
  cases h1 : ms env cs with
  | exc n fs c1 => rw [h1] at po; exact fun H1 F1 c1 x1 I1 C dx vs a b d => po H1 F1 c1 x1 I1 σ C dx vs (re.mono x1.le) a b d
  | stuck => rw [h1] at po; exact po.elim
  | ok ds cs1 =>
    rw [h1] at po
    simp only at po
    split at po
    · rename_i env1 h
      intro H1 F2 c1 x1 I1 vs rv
      match ds, rv, h with
      | [d1, d2], .cons (v := v1) r1 (.cons (v := v2) r2 .nil), h =>
        simp only [tgTs, Option.some.injEq] at h
        subst h
        exact ⟨v1, v2, rfl, po _ _ _ x1 I1 _ (((re.mono x1.le).set i r1).set j r2)⟩
      | [], .nil, h => simp [tgTs] at h
      | [d1], .cons _ .nil, h => simp [tgTs] at h
      | d1 :: d2 :: d3 :: r, .cons _ (.cons _ (.cons _ _)), h => simp [tgTs] at h
    · exact po.elim
theorem sm_par3 (hc : X.calm = true) (hN : X.N.Nodup) (hi : X.N[i]? = some x) (hj : X.N[j]? = some y) (hl : X.N[l]? = some z) (hx : X.env.scope.names.lookup x = some .local) (hy : X.env.scope.names.lookup y = some .local) (hz : X.env.scope.names.lookup z = some .local) (ha : Xa X W [a, b, c] ms) (hij : i ≠ j := by decide) (hil : i ≠ l := by decide) (hjl : j ≠ l := by decide)
    (hw : swappedStores [.Tuple [.Name x px, .Name y py, .Name z pz] kt pt] (.Tuple [a, b, c] k2 pt2) X.env = pure (some [x, y, z]) := by rfl)
    (hs : swapsWithSole [.Tuple [.Name x px, .Name y py, .Name z pz] kt pt] (.Tuple [a, b, c] k2 pt2) pos.line X.env = pure false := by rfl) : Sm X W (.Assign [.Tuple [.Name x px, .Name y py, .Name z pz] kt pt] (.Tuple [a, b, c] k2 pt2) pos) (sPar [i, j, l] ms) := by
  obtain ⟨t, pa, sa⟩ := ha
  refine ⟨_, ps_par3 hc hN hi hj hl hij hil hjl hx hy hz pa hw hs, fun σ env H F c cs Dn re I po => ?_⟩
  refine sa σ env H F c cs _ re I ?_
  unfold sPar at po
  cases h1 : ms env cs with
  | exc n fs c1 => rw [h1] at po; exact fun H1 F1 c1 x1 I1 C dx vs a b d => po H1 F1 c1 x1 I1 σ C dx vs (re.mono x1.le) a b d
  | stuck => rw [h1] at po; exact po.elim
  | ok ds cs1 =>
    rw [h1] at po
    simp only at po
    split at po
    · rename_i env1 h
      intro H1 F2 c1 x1 I1 vs rv
      match ds, rv, h with
      | [d1, d2, d3], .cons (v := v1) r1 (.cons (v := v2) r2 (.cons (v := v3) r3 .nil)), h =>
        simp only [tgTs, Option.some.injEq] at h
        subst h
        exact ⟨v1, v2, v3, rfl, po _ _ _ x1 I1 _ ((((re.mono x1.le).set i r1).set j r2).set l r3)⟩
      | [], .nil, h => simp [tgTs] at h
      | [d1], .cons _ .nil, h => simp [tgTs] at h
      | [d1, d2], .cons _ (.cons _ .nil), h => simp [tgTs] at h
      | d1 :: d2 :: d3 :: d4 :: r, .cons _ (.cons _ (.cons _ (.cons _ _))), h => simp [tgTs] at h
    · exact po.elim
end
end L3

namespace L3
open PySem L2 PySem.Spec PyProof.Rows PySem.SeqAt MeetsSeq AutoSeq1

/-! ### a dict among texts -/
theorem dict_eq_declines_str (l : Addr) (es : Array DictEntry) (n : Nat) (dd : Option Addr) (sl : Array (Option Value)) (b : Str) (u : Tok) :
    Meets (Builtin.«dict.__eq__» ⟨[.ref l, .str b u], []⟩) (fun _ R s => s.heap.get? l = some { cls := .type "dict", dict := dd, data := .dict es n, slots := sl } ∧ R (.ok (.ret .notImplemented)) s) :=
  .of_wp fun prog w A R s h => by obtain ⟨hp, g, d, tk, os⟩ := s; obtain ⟨hl, h⟩ := h; have f1 := F.sub_str_dict; wp_walk using wpAny_loadPart' hl; exact ⟨_, rfl, h⟩
theorem str_eq_declines_dict (b : Str) (u : Tok) (l : Addr) (es : Array DictEntry) (n : Nat) (dd : Option Addr) (sl : Array (Option Value)) :
    Meets (Builtin.«str.__eq__» ⟨[.str b u, .ref l], []⟩) (fun _ R s => s.heap.get? l = some { cls := .type "dict", dict := dd, data := .dict es n, slots := sl } ∧ R (.ok (.ret .notImplemented)) s) :=
  .of_wp fun prog w A R s h => by obtain ⟨hp, g, d, tk, os⟩ := s; obtain ⟨hl, h⟩ := h; wp_walk using wpAny_loadPart' hl, wpAny_load hl; exact ⟨_, rfl, h⟩
theorem RcAt.str_dict {A : Around} {s : Shared} {l : Addr} {es : Array DictEntry} {n : Nat} {dd : Option Addr} {sl : Array (Option Value)} (b : Str) (u : Tok) (ho : s.heap.get? l = some { cls := .type "dict", dict := dd, data := .dict es n, slots := sl }) (hu : A.units < cLine) : RcAt A s (.str b u) (.ref l) false := fun prog w E Q h => by
  exact rc_eq_decline_or (k := false) (typeIs_str s b u) ⟨_, ho, rfl⟩ (by decide) F.sub_dict_str F.slot_str_eq F.slot_dict_eq_refl
    (fun _ hq => call_meets F.slot_str_eq (typeIs_str s b u) F.entry_str_eq (F.args_str_eq_2 _ _) (str_eq_declines_dict b u l es n dd sl) ⟨ho, hq⟩)
    (fun _ hq => call_meets F.slot_dict_eq_refl ⟨_, ho, rfl⟩ F.entry_dict_eq (F.args_dict_eq_2 _ _) (dict_eq_declines_str l es n dd sl b u) ⟨ho, hq⟩)
    (fun _ hq => wpAny_of_eq (rfl : isSame (.str b u) (.ref l) = pure false) hq) (.inr hu) h
theorem EqAt.str_dict {A : Around} {s : Shared} {l : Addr} {es : Array DictEntry} {n : Nat} {dd : Option Addr} {sl : Array (Option Value)} (b : Str) (u : Tok) (ho : s.heap.get? l = some { cls := .type "dict", dict := dd, data := .dict es n, slots := sl }) (hu : A.units < cLine) : EqAt A s (.str b u) (.ref l) false := fun prog w E Q h => by
  unfold eqBool
  refine wpAny_holding ?_
  refine wpAny_ite_split (fun hab => absurd (eq_of_beq hab) nofun) (fun _ => ?_)
  exact wpAny_bind (RcAt.str_dict b u ho hu prog w E _ (wpAny_truthy_bool h))
end L3
namespace L3
open PySem L2 PySem.Spec PyProof.Rows PySem.SeqAt MeetsSeq AutoSeq1
/-- a dict is none of some texts -/
def rInT (K : PySem.W.Frag) (neg : Bool) : R2 := fun x y H Q => ∃ (p a : Addr) (ys : List Str) (kvs : List (Key × V)), y = .ref p ∧ SqL K H p (ys.map V.str) ∧ x = .ref a ∧ Rd H a (.dK kvs) ∧ Q (.bl neg) H
theorem all_strs : ∀ {ys : List Str} {us : List Value}, Vals (ys.map V.str) us → ∀ u ∈ us, ∃ b t, u = .str b t
  | [], _, .nil, u, m => by cases m
  | y :: ys, _, .cons r q, u, m => by
    rcases List.mem_cons.mp m with e | m
    · subst e; obtain ⟨t, e⟩ := r; exact ⟨y, t, e⟩
    · exact all_strs q u m
theorem any_no (us : Array Value) : us.any (fun _ => false) = false := by
  rw [← Array.any_toList]
  induction us.toList with
  | nil => rfl
  | cons a l ih => simpa using ih
theorem op_inT {X : Cx} (hu : X.A.units + 65 < cLine) : OpR X (compareOp .In) (rInT X.K false) := by
  intro pins s σ H x y v u Q I rx ry h
  obtain ⟨p, a, ys, kvs, rfl, hs, rfl, hd, q⟩ := h
  obtain rfl : u = .ref p := ry
  obtain rfl : v = .ref a := rx
  obtain ⟨its, rv, pl, hz⟩ := I.list hs
  obtain ⟨_, _, vs, kv, o, es, ep, ho, ex, dt, _, pr, _⟩ := dk_rd I.hok hd
  refine in_listAt (fun _ => false) pl.isList (fun y hy => ?_) ?_
  · obtain ⟨b, t, rfl⟩ := all_strs rv y (by simpa using hy)
    obtain ⟨cls, dd, data, sl⟩ := o
    obtain ⟨rfl, _⟩ := ex
    simp only at dt
    subst dt
    exact EqAt.str_dict b t ho (by show X.A.units + 1 < _; omega)
  · rw [any_no]; exact ⟨.bl _, H, I, rfl, q⟩
theorem op_notInT {X : Cx} (hu : X.A.units + 65 < cLine) : OpR X (compareOp .NotIn) (rInT X.K true) := by
  intro pins s σ H x y v u Q I rx ry h
  obtain ⟨p, a, ys, kvs, rfl, hs, rfl, hd, q⟩ := h
  obtain rfl : u = .ref p := ry
  obtain rfl : v = .ref a := rx
  obtain ⟨its, rv, pl, hz⟩ := I.list hs
  obtain ⟨_, _, vs, kv, o, es, ep, ho, ex, dt, _, pr, _⟩ := dk_rd I.hok hd
  refine notIn_listAt (fun _ => false) pl.isList (fun y hy => ?_) ?_
  · obtain ⟨b, t, rfl⟩ := all_strs rv y (by simpa using hy)
    obtain ⟨cls, dd, data, sl⟩ := o
    obtain ⟨rfl, _⟩ := ex
    simp only at dt
    subst dt
    exact EqAt.str_dict b t ho (by show X.A.units + 1 < _; omega)
  · rw [any_no]; exact ⟨.bl _, H, I, rfl, q⟩
end L3

namespace L3
open PySem L2 PySem.Spec PyProof.Rows PySem.SeqAt
def isDct (cs : Cells) : D → Bool
  | .dct _ => true
  | .loc n => match cs[n]? with
    | some (.dct _) => true
    | _ => false
  | _ => false
def strsL : List D → Option (List (List Nat))
  | [] => some []
  | .str l :: r => (strsL r).map (l :: ·)
  | _ => none
theorem strsL_rv {g : Gd} {F : Hp} {c : List Addr} : ∀ {vs : List V} {ds : List D} {ls : List (List Nat)}, RVs g F c vs ds → strsL ds = some ls → vs = (ls.map mk).map V.str
  | _, _, _, .nil, h => by simp only [strsL, Option.some.injEq] at h; subst h; rfl
  | _, _, ls, .cons r q, h => by
    cases r <;> simp only [strsL] at h
    case str l =>
      simp only [Option.map_eq_some_iff] at h
      obtain ⟨t, h1, rfl⟩ := h
      rw [strsL_rv q h1]; rfl
    all_goals cases h
theorem isDct_at {g : Gd} {H F : Hp} {c : List Addr} {cs : Cells} (I : Ih g H F c cs) {v : V} {d : D} (r : RV g F c v d) (h : isDct cs d = true) : ∃ a kvs, v = .ref a ∧ Rd H a (.dK kvs) := by
  unfold isDct at h
  split at h
  · cases r with
    | @dct a kvs _ h1 h2 => exact ⟨a, kvs, rfl, h1.elim (fun e => .inl (I.sub _ _ e)) fun ⟨o, e⟩ => .inr ⟨o, I.sub _ _ e⟩⟩
  · split at h
    · rename_i l hl
      cases r with
      | @loc _ a ha =>
        obtain ⟨_, kvs, h1, _⟩ := I.cell _ _ _ ha hl
        exact ⟨a, kvs, rfl, .inl h1⟩
    · cases h
  · cases h
/-- is it among them, whatever they are -/
def inBX (cs : Cells) (x y : D) : Option Bool := match inB cs x y with
  | some b => some b
  | none => match isDct cs x, listOf cs y with
    | true, some ds => (strsL ds).map fun _ => false
    | _, _ => match pyOf cs x, pyOf cs y with
      | some p, some (.list q) => if shaped p && shaped (.list q) then some (q.any fun z => PyData.eqv z p) else none
      | _, _ => none
def inX (cs : Cells) (x y : D) : R := match inBX cs x y with
  | some b => .ok (.bl b) cs
  | none => .stuck
def ninX (cs : Cells) (x y : D) : R := match inBX cs x y with
  | some b => .ok (.bl !b) cs
  | none => .stuck
theorem o2_inX {g : Gd} : O2 g (fun x y H Q => (rInS1 x y H Q ∨ rIn g.K false x y H Q) ∨ rInD g.K x y H Q ∨ rInT g.K false x y H Q) inX := by
  intro W H F c cs x y d e Q I rx ry po
  unfold inX inBX at po
  split at po
  · rename_i k hk
    split at hk
    · rename_i b hb
      simp only [Option.some.injEq] at hk
      subst hk
      refine .inl (o2_in W H F c cs x y d e Q I rx ry ?_)
      unfold inD
      rw [hb]; exact po
    · split at hk
      · rename_i ds hc hl
        simp only [Option.map_eq_some_iff] at hk
        obtain ⟨ls, h1, rfl⟩ := hk
        obtain ⟨a, kvs, rfl, hd⟩ := isDct_at I rx hc
        obtain ⟨q, vs, rfl, hs, r⟩ := listOf_at I ry hl
        rw [strsL_rv r h1] at hs
        exact .inr (.inr ⟨q, a, _, kvs, rfl, .inl (.inl hs), rfl, hd, PoE.here I (.bl _) po⟩)
      · split at hk
        · rename_i p q e1 e2
          split at hk
          · rename_i sh
            simp only [Bool.and_eq_true] at sh
            simp only [Option.some.injEq] at hk
            subst hk
            exact .inr (.inl ⟨p, q, pyOf_dp I rx e1 (noDict_of (canLay_of_shaped sh.1)), pyOf_dp I ry e2 (noDict_of (canLay_of_shaped sh.2)), sh.1, sh.2, PoE.here I (.bl _) po⟩)
          · cases hk
        · cases hk
  · exact po.elim
theorem o2_ninX {g : Gd} : O2 g (fun x y H Q => (rNInS1 x y H Q ∨ rIn g.K true x y H Q) ∨ rNotInD g.K x y H Q ∨ rInT g.K true x y H Q) ninX := by
  intro W H F c cs x y d e Q I rx ry po
  unfold ninX inBX at po
  split at po
  · rename_i k hk
    split at hk
    · rename_i b hb
      simp only [Option.some.injEq] at hk
      subst hk
      refine .inl (o2_nin W H F c cs x y d e Q I rx ry ?_)
      unfold ninD
      rw [hb]; exact po
    · split at hk
      · rename_i ds hc hl
        simp only [Option.map_eq_some_iff] at hk
        obtain ⟨ls, h1, rfl⟩ := hk
        obtain ⟨a, kvs, rfl, hd⟩ := isDct_at I rx hc
        obtain ⟨q, vs, rfl, hs, r⟩ := listOf_at I ry hl
        rw [strsL_rv r h1] at hs
        exact .inr (.inr ⟨q, a, _, kvs, rfl, .inl (.inl hs), rfl, hd, PoE.here I (.bl _) po⟩)
      · split at hk
        · rename_i p q e1 e2
          split at hk
          · rename_i sh
            simp only [Bool.and_eq_true] at sh
            simp only [Option.some.injEq] at hk
            subst hk
            exact .inr (.inl ⟨p, q, pyOf_dp I rx e1 (noDict_of (canLay_of_shaped sh.1)), pyOf_dp I ry e2 (noDict_of (canLay_of_shaped sh.2)), sh.1, sh.2, PoE.here I (.bl _) po⟩)
          · cases hk
        · cases hk
  · exact po.elim
section
variable {X : Cx} {W : WX} {k : Nat} {pos : Pos} {a b : Expr} {ma mb : ME}
theorem un65 (hr : Room k X.A) : X.A.units + 65 < cLine := by have := hr.un; omega
theorem xp_inX (hr : Room k X.A) (ha : Xp X W a ma) (hb : Xp X W b mb) (hm : behindInMarks .In b = false) : Xp X W (.Compare a [.In] [b] pos) (op2 inX ma mb) := xp_cmp ((op_in_sign.or op_in_seq).or ((op_inD (un65 hr)).or (op_inT (un65 hr)))) o2_inX ha hb hm
theorem xp_ninX (hr : Room k X.A) (ha : Xp X W a ma) (hb : Xp X W b mb) (hm : behindInMarks .NotIn b = false) : Xp X W (.Compare a [.NotIn] [b] pos) (op2 ninX ma mb) := xp_cmp ((op_notIn_sign.or op_notIn_seq).or ((op_notInD (un65 hr)).or (op_notInT (un65 hr)))) o2_ninX ha hb hm
theorem xt_inX (hr : Room k X.A) (ha : Xp X W a ma) (hb : Xp X W b mb) (hm : behindInMarks .In b = false) : Xt1 X W (.Compare a [.In] [b] pos) (op2 inX ma mb) := xt_cmp ((op_in_sign.or op_in_seq).or ((op_inD (un65 hr)).or (op_inT (un65 hr)))) o2_inX ha hb hm
theorem xt_ninX (hr : Room k X.A) (ha : Xp X W a ma) (hb : Xp X W b mb) (hm : behindInMarks .NotIn b = false) : Xt1 X W (.Compare a [.NotIn] [b] pos) (op2 ninX ma mb) := xt_cmp ((op_notIn_sign.or op_notIn_seq).or ((op_notInD (un65 hr)).or (op_notInT (un65 hr)))) o2_ninX ha hb hm
end
end L3

namespace L3
open PySem L2 PySem.Spec PyProof.Rows PySem.SeqAt MeetsSeq AutoSeq1
/-! ### a dict == a text, a dict != a text -/
theorem dict_ne_declines_str (l : Addr) (es : Array DictEntry) (n : Nat) (dd : Option Addr) (sl : Array (Option Value)) (b : Str) (u : Tok) :
    Meets (Builtin.«dict.__ne__» ⟨[.ref l, .str b u], []⟩) (fun _ R s => s.heap.get? l = some { cls := .type "dict", dict := dd, data := .dict es n, slots := sl } ∧ R (.ok (.ret .notImplemented)) s) :=
  .of_wp fun prog w A R s h => by obtain ⟨hp, g, d, tk, os⟩ := s; obtain ⟨hl, h⟩ := h; have f1 := F.sub_str_dict; wp_walk using wpAny_loadPart' hl; exact ⟨_, rfl, h⟩
theorem str_ne_declines_dict (b : Str) (u : Tok) (l : Addr) (es : Array DictEntry) (n : Nat) (dd : Option Addr) (sl : Array (Option Value)) :
    Meets (Builtin.«str.__ne__» ⟨[.str b u, .ref l], []⟩) (fun _ R s => s.heap.get? l = some { cls := .type "dict", dict := dd, data := .dict es n, slots := sl } ∧ R (.ok (.ret .notImplemented)) s) :=
  .of_wp fun prog w A R s h => by obtain ⟨hp, g, d, tk, os⟩ := s; obtain ⟨hl, h⟩ := h; wp_walk using wpAny_loadPart' hl, wpAny_load hl; exact ⟨_, rfl, h⟩
theorem RcNeAt.dict_str {A : Around} {s : Shared} {l : Addr} {es : Array DictEntry} {n : Nat} {dd : Option Addr} {sl : Array (Option Value)} (b : Str) (u : Tok) (ho : s.heap.get? l = some { cls := .type "dict", dict := dd, data := .dict es n, slots := sl }) (hu : A.units < cLine) : RcNeAt A s (.ref l) (.str b u) true := fun prog w E Q h => by
  exact rc_ne_decline_or (k := false) ⟨_, ho, rfl⟩ (typeIs_str s b u) (by decide) F.sub_str_dict F.slot_dict_ne F.slot_str_ne_refl
    (fun _ hq => call_meets F.slot_dict_ne ⟨_, ho, rfl⟩ F.entry_dict_ne (F.args_dict_ne_2 _ _) (dict_ne_declines_str l es n dd sl b u) ⟨ho, hq⟩)
    (fun _ hq => call_meets F.slot_str_ne_refl (typeIs_str s b u) F.entry_str_ne (F.args_str_ne_2 _ _) (str_ne_declines_dict b u l es n dd sl) ⟨ho, hq⟩)
    (fun _ hq => wpAny_of_eq (rfl : isSame (.ref l) (.str b u) = pure false) hq) (.inr hu) h
theorem RcAt.dict_str {A : Around} {s : Shared} {l : Addr} {es : Array DictEntry} {n : Nat} {dd : Option Addr} {sl : Array (Option Value)} (b : Str) (u : Tok) (ho : s.heap.get? l = some { cls := .type "dict", dict := dd, data := .dict es n, slots := sl }) (hu : A.units < cLine) : RcAt A s (.ref l) (.str b u) false := fun prog w E Q h => by
  exact rc_eq_decline_or (k := false) ⟨_, ho, rfl⟩ (typeIs_str s b u) (by decide) F.sub_str_dict F.slot_dict_eq F.slot_str_eq_refl
    (fun _ hq => call_meets F.slot_dict_eq ⟨_, ho, rfl⟩ F.entry_dict_eq (F.args_dict_eq_2 _ _) (dict_eq_declines_str l es n dd sl b u) ⟨ho, hq⟩)
    (fun _ hq => call_meets F.slot_str_eq_refl (typeIs_str s b u) F.entry_str_eq (F.args_str_eq_2 _ _) (str_eq_declines_dict b u l es n dd sl) ⟨ho, hq⟩)
    (fun _ hq => wpAny_of_eq (rfl : isSame (.ref l) (.str b u) = pure false) hq) (.inr hu) h
def rDT (k : Bool) : R2 := fun x y H Q => ∃ (a : Addr) (b : Str) (kvs : List (Key × V)), x = .ref a ∧ y = .str b ∧ Rd H a (.dK kvs) ∧ Q (.bl k) H
theorem op_neT {X : Cx} (hu : X.A.units + 64 < cLine) : OpR X (compareOp .NotEq) (rDT true) := by
  intro pins s σ H x y v u Q I rx ry h
  obtain ⟨a, b, kvs, rfl, rfl, hd, q⟩ := h
  obtain rfl : v = .ref a := rx
  obtain ⟨t, rfl⟩ := (show ∃ t, u = Value.str b t from ry)
  obtain ⟨_, _, vs, kv, o, es, ep, ho, ex, dt, _, pr, _⟩ := dk_rd I.hok hd
  obtain ⟨cls, dd, data, sl⟩ := o
  obtain ⟨rfl, _⟩ := ex
  simp only at dt
  subst dt
  exact RcNeAt.dict_str b t ho (by omega) _ _ _ _ ⟨.bl true, H, I, rfl, q⟩
theorem op_eqT {X : Cx} (hu : X.A.units + 64 < cLine) : OpR X (compareOp .Eq) (rDT false) := by
  intro pins s σ H x y v u Q I rx ry h
  obtain ⟨a, b, kvs, rfl, rfl, hd, q⟩ := h
  obtain rfl : v = .ref a := rx
  obtain ⟨t, rfl⟩ := (show ∃ t, u = Value.str b t from ry)
  obtain ⟨_, _, vs, kv, o, es, ep, ho, ex, dt, _, pr, _⟩ := dk_rd I.hok hd
  obtain ⟨cls, dd, data, sl⟩ := o
  obtain ⟨rfl, _⟩ := ex
  simp only at dt
  subst dt
  exact RcAt.dict_str b t ho (by omega) _ _ _ _ ⟨.bl false, H, I, rfl, q⟩
def isStr : D → Bool
  | .str _ => true
  | _ => false
def eqBX (cs : Cells) (x y : D) : Option Bool := match eqB cs x y with
  | some b => some b
  | none => if isDct cs x = true ∧ isStr y = true then some false else none
def eqX (cs : Cells) (x y : D) : R := match eqBX cs x y with
  | some b => .ok (.bl b) cs
  | none => .stuck
def neX (cs : Cells) (x y : D) : R := match eqBX cs x y with
  | some b => .ok (.bl !b) cs
  | none => .stuck
theorem isStr_rv {g : Gd} {F : Hp} {c : List Addr} {v : V} {d : D} (r : RV g F c v d) (h : isStr d = true) : ∃ b, v = .str b := by
  cases r <;> first | exact ⟨_, rfl⟩ | cases h
theorem o2_eqX {g : Gd} {r : R2} (h : O2 g r eqD) : O2 g (fun x y H Q => r x y H Q ∨ rDT false x y H Q) eqX := by
  intro W H F c cs x y d e Q I rx ry po
  unfold eqX eqBX at po
  split at po
  · rename_i k hk
    split at hk
    · rename_i b hb
      simp only [Option.some.injEq] at hk
      subst hk
      exact .inl (h W H F c cs x y d e Q I rx ry (by unfold eqD; rw [hb]; exact po))
    · split at hk
      · rename_i hc
        simp only [Option.some.injEq] at hk
        subst hk
        obtain ⟨a, kvs, rfl, hd⟩ := isDct_at I rx hc.1
        obtain ⟨b, rfl⟩ := isStr_rv ry hc.2
        exact .inr ⟨a, b, kvs, rfl, rfl, hd, PoE.here I (.bl _) po⟩
      · cases hk
  · exact po.elim
theorem o2_neX {g : Gd} {r : R2} (h : O2 g r neD) : O2 g (fun x y H Q => r x y H Q ∨ rDT true x y H Q) neX := by
  intro W H F c cs x y d e Q I rx ry po
  unfold neX eqBX at po
  split at po
  · rename_i k hk
    split at hk
    · rename_i b hb
      simp only [Option.some.injEq] at hk
      subst hk
      exact .inl (h W H F c cs x y d e Q I rx ry (by unfold neD; rw [hb]; exact po))
    · split at hk
      · rename_i hc
        simp only [Option.some.injEq] at hk
        subst hk
        obtain ⟨a, kvs, rfl, hd⟩ := isDct_at I rx hc.1
        obtain ⟨b, rfl⟩ := isStr_rv ry hc.2
        exact .inr ⟨a, b, kvs, rfl, rfl, hd, PoE.here I (.bl _) po⟩
      · cases hk
  · exact po.elim
section
variable {X : Cx} {W : WX} {k : Nat} {pos : Pos} {a b : Expr} {ma mb : ME}
theorem un64 (hr : Room k X.A) : X.A.units + 64 < cLine := by have := hr.un; omega
theorem xp_eqX (hr : Room k X.A) (ha : Xp X W a ma) (hb : Xp X W b mb) (hm : behindInMarks .Eq b = false := by exact nomark _) : Xp X W (.Compare a [.Eq] [b] pos) (op2 eqX ma mb) := xp_cmp ((op_eq.or (op_eqD (un64 hr))).or (op_eqT (un64 hr))) (o2_eqX o2_eq) ha hb hm
theorem xp_neX (hr : Room k X.A) (ha : Xp X W a ma) (hb : Xp X W b mb) (hm : behindInMarks .NotEq b = false := by exact nomark _) : Xp X W (.Compare a [.NotEq] [b] pos) (op2 neX ma mb) := xp_cmp ((op_ne.or (op_neD (un64 hr))).or (op_neT (un64 hr))) (o2_neX o2_ne) ha hb hm
theorem xt_eqX (hr : Room k X.A) (ha : Xp X W a ma) (hb : Xp X W b mb) (hm : behindInMarks .Eq b = false := by exact nomark _) : Xt1 X W (.Compare a [.Eq] [b] pos) (op2 eqX ma mb) := xt_cmp ((op_eq.or (op_eqD (un64 hr))).or (op_eqT (un64 hr))) (o2_eqX o2_eq) ha hb hm
theorem xt_neX (hr : Room k X.A) (ha : Xp X W a ma) (hb : Xp X W b mb) (hm : behindInMarks .NotEq b = false := by exact nomark _) : Xt1 X W (.Compare a [.NotEq] [b] pos) (op2 neX ma mb) := xt_cmp ((op_ne.or (op_neD (un64 hr))).or (op_neT (un64 hr))) (o2_neX o2_ne) ha hb hm
end
end L3

/-! instances of the text's own classes: they stand in cells -/
namespace L3
open PySem L2
def insAt (cs : Cells) : D → Option (Nat × Str × List (Str × D))
  | .loc n => match cs[n]? with
    | some (.ins x fs) => some (n, x, fs)
    | _ => none
  | _ => none
section
variable {g : Gd} {H F : Hp} {c : List Addr} {cs : Cells}
theorem insAt_at (I : Ih g H F c cs) {v : V} {d : D} {n : Nat} {x : Str} {gs : List (Str × D)} (r : RV g F c v d) (h : insAt cs d = some (n, x, gs)) :
    ∃ a C dx fs, d = .loc n ∧ v = .ref a ∧ c[n]? = some a ∧ cs[n]? = some (.ins x gs) ∧ g.mg x = some (.ref C) ∧ H a = some (.ins C dx fs) ∧ RFs g F c fs gs := by
  unfold insAt at h
  split at h
  · rename_i m
    split at h
    · rename_i y l hl
      simp only [Option.some.injEq, Prod.mk.injEq] at h
      obtain ⟨rfl, rfl, rfl⟩ := h
      cases r with
      | loc ha =>
        obtain ⟨_, C, dx, fs, hm, h1, h2⟩ := I.cell _ _ _ ha hl
        exact ⟨_, C, dx, fs, rfl, rfl, ha, hl, hm, h1, h2⟩
    · cases h
  · cases h
theorem RFs.look {f : Str} : ∀ {fs : List (Str × V)} {gs : List (Str × D)} {d : D}, RFs g F c fs gs → gs.lookup f = some d → ∃ v, fs.lookup f = some v ∧ RV g F c v d
  | _, _, _, .nil, h => by cases h
  | _, _, d, .cons (k := k) r q, h => by
    rw [List.lookup] at h ⊢
    cases e : (f == k) with
    | true =>
      rw [e] at h
      simp only [Option.some.injEq] at h
      subst h
      exact ⟨_, rfl, r⟩
    | false =>
      rw [e] at h
      exact RFs.look q h
theorem RFs.lookN {f : Str} : ∀ {fs : List (Str × V)} {gs : List (Str × D)}, RFs g F c fs gs → gs.lookup f = none → fs.lookup f = none
  | _, _, .nil, _ => rfl
  | _, _, .cons (k := k) r q, h => by
    rw [List.lookup] at h ⊢
    cases e : (f == k) with
    | true => rw [e] at h; cases h
    | false => rw [e] at h; exact RFs.lookN q h
def putFD (f : Str) (v : D) : List (Str × D) → List (Str × D)
  | [] => [(f, v)]
  | (g, x) :: r => if g = f then (g, v) :: r else (g, x) :: putFD f v r
theorem RFs.put {f : Str} {y : V} {d : D} (rv : RV g F c y d) : ∀ {fs : List (Str × V)} {gs : List (Str × D)}, RFs g F c fs gs → RFs g F c (putF f y fs) (putFD f d gs)
  | _, _, .nil => .cons rv .nil
  | _, _, .cons (k := k) r q => by
    unfold putF putFD
    by_cases e : k = f
    · rw [if_pos e, if_pos e]; exact .cons rv q
    · rw [if_neg e, if_neg e]; exact .cons r (RFs.put rv q)
theorem RFs.len : ∀ {fs : List (Str × V)} {gs : List (Str × D)}, RFs g F c fs gs → fs.length = gs.length
  | _, _, .nil => rfl
  | _, _, .cons _ q => by rw [List.length_cons, List.length_cons, RFs.len q]
/-- one more tracked thing, that no value names -/
theorem Ih.other (I : Ih g H F c cs) {p : Addr} {o : HO} (hp : H p = none) : Ih g (L2.upd H p o) F c cs := by
  refine ⟨fun a u e => ?_, I.len, I.nd, fun n a x h1 h2 => ?_⟩
  · have := I.sub a u e
    rw [upd_ne (ne_of_none this hp)]; exact this
  · have q := I.cell n a x h1 h2
    have hne : a ≠ p := fun e => by
      obtain ⟨u, hu⟩ := CR.tracked q
      rw [e, hp] at hu; cases hu
    exact CR.mono q (Le.refl F c) (fun u e => by rw [upd_ne hne]; exact e) (fun e => e)
theorem Xt.other {p : Addr} {o : HO} (hp : H p = none) : Xt H F c (L2.upd H p o) F c :=
  ⟨Le.refl F c, fun a u e _ => by rw [upd_ne (ne_of_none e hp)]; exact e, fun a u e => ⟨u, by rw [upd_ne (ne_of_none e hp)]; exact e⟩, fun a h n => absurd h n, fun _ _ _ f _ => f⟩
end
/-! ### fields -/
def FldOk (K : PySem.W.Frag) (mg : Str → Option Value) (x f : Str) : Prop := ∃ C, mg x = some (.ref C) ∧ Cls K C ∧ NoAttr K C f
def eFld (x f : Str) (mo : ME) : ME := fun env cs => (mo env cs).bind fun o cs1 => match insAt cs1 o with
  | some (_, y, fs) => if y = x then (match fs.lookup f with
    | some d => .ok d cs1
    | none => .stuck) else .stuck
  | none => .stuck
def sFst (x f : Str) (mo mv : ME) : MS := fun env cs => (mv env cs).toS env fun v cs1 => (mo env cs1).toS env fun o cs2 => match insAt cs2 o with
  | some (n, y, fs) => if y = x ∧ fs.length < 1000 then .nx env (cs2.set n (.ins y (putFD f v fs))) else .stuck
  | none => .stuck
section
variable {X : Cx} {W : WX} {x f m : Str} {pos apos tpos p : Pos} {o e : Expr} {es : List Expr} {mo mv me : ME} {ms : MA}
theorem xp_fld (hf : FldOk X.K X.mg x f) (ho : Xp X W o mo) (hb : attributeBase o f X.env (eval o X.env) = eval o X.env := by rfl) : Xp X W (.Attribute o f pos) (eFld x f mo) := by
  obtain ⟨to, po', so⟩ := ho
  refine ⟨_, pe_fld po' hb, fun σ env H F c cs Q re I po => ?_⟩
  refine so σ env H F c cs _ re I (PoE.cut po _ fun d cs1 _ H1 F1 c1 v x1 I1 rv po1 => ?_)
  split at po1
  · rename_i n y fs hi
    split at po1
    · rename_i hy
      subst hy
      split at po1
      · rename_i d2 hd
        obtain ⟨a, C, dx, vs, rfl, rfl, ha, hl, hm, h1, h2⟩ := insAt_at I1 rv hi
        obtain ⟨C', hm', hc, hn⟩ := hf
        rw [show X.mg y = some (.ref C) from hm] at hm'
        cases hm'
        obtain ⟨u, hu, ru⟩ := h2.look hd
        exact ⟨a, C, dx, vs, u, rfl, h1, hc, hn, hu, PoE.here I1 ru po1⟩
      · exact po1.elim
    · exact po1.elim
  · exact po1.elim
theorem sm_fst (hf : FldOk X.K X.mg x f) (ho : Xp X W o mo) (hv : Xp X W e mv) (hs : swapsWith e (some (.Attribute o f tpos)) pos.line X.env = pure false := by rfl) : Sm X W (.Assign [.Attribute o f tpos] e pos) (sFst x f mo mv) := by
  obtain ⟨to, po', so⟩ := ho
  obtain ⟨te, pe', se⟩ := hv
  refine ⟨_, ps_fld po' pe' hs, fun σ env H F c cs Dn re I po => ?_⟩
  refine se σ env H F c cs _ re I (PoS.cut re po _ fun d cs1 _ H1 F1 c1 v x1 I1 rv po1 => ?_)
  refine so σ env H1 F1 c1 cs1 _ (re.mono x1.le) I1 (PoS.cut (re.mono x1.le) po1 _ fun d2 cs2 _ H2 F2 c2 v2 x2 I2 rv2 po2 => ?_)
  split at po2
  · rename_i n y fs hi
    split at po2
    · rename_i hy
      obtain ⟨rfl, hlen⟩ := hy
      obtain ⟨a, C, dx, vs, rfl, rfl, ha, hl, hm, h1, h2⟩ := insAt_at I2 rv2 hi
      obtain ⟨C', hm', hc, hn⟩ := hf
      rw [show X.mg y = some (.ref C) from hm] at hm'
      cases hm'
      refine ⟨a, C, dx, vs, rfl, h1, hc, hn, by rw [h2.len]; exact hlen, ?_⟩
      have x3 := Xt.write I2 (o := .ins C dx (putF f v vs)) ha
      have hF := CR.free (I2.cell n a _ ha hl) rfl
      have I3 := I2.write ha hl rfl (x := .ins y (putFD f d fs)) (o := .ins C dx (putF f v vs)) ⟨hF, C, dx, _, hm, upd_same, h2.put (rv.mono x2.le)⟩
      exact po2 _ _ _ x3 I3 _ (((re.mono x1.le).mono x2.le).mono x3.le)
    · exact po2.elim
  · exact po2.elim
end
/-! ### methods -/
structure OwnM (P : Program) (w : World) (K : PySem.W.Frag) (mg : Str → Option Value) (base : Heap) (k : Nat) (x m : Str) (n : Nat) (mf : MF) : Prop where
  ex : ∃ C f fd ps, mg x = some (.ref C) ∧ Cls K C ∧ Meth K C m f ∧ FnG P w K mg base k f fd ps (spM ⟨P, w, K, mg⟩ mf (n + 1)) ∧ Binds K fd ps []
def tMethS (C : Addr) (m : Str) (sp : Sp) (E : L2.St → XK) (ta : TE) (t : TA) : TE := fun σ H Q => ta σ H fun x H1 => ∃ a dx fs, x = .ref a ∧ H1 a = some (.ins C dx fs) ∧ fs.lookup m = none ∧ t σ H1 fun vs H2 => sp (x :: vs) H2 Q (E σ)
section
variable {X : Cx} {k : Nat} {C f : Addr} {fd : FuncData} {ps : List Str} {sp : Sp} {E : L2.St → XK} {m x : Str} {p pos apos : Pos} {e o : Expr} {es : List Expr} {ta : TE} {t : TA} {pl : Sem Bool}
theorem pe_methG (he : PE X o ta) (c : Cls X.K C) (hm : Meth X.K C m f) (F : FnG X.prog X.w X.K X.mg X.base k f fd ps sp) (hG : X.A.guards = some []) (hr : Room k X.A) (hb : Binds X.K fd ps []) (hx : ∀ σ, PassesAt (L2.CX X.prog X.w) X σ (E σ)) (ha : PA X (e :: es) t)
    (hst : starEach (e :: es) X.env = (false, eval e X.env) :: starEach es X.env := by rfl) (hpl : (backTo pos (starEach es X.env)).any (·.1) = false := by rfl)
    (ht : eval (.Call (.Attribute o m apos) (e :: es) [] pos) X.env = (do
      let ov ← eval o X.env
      standAt apos.atName
      let (f, first) ← holding [ov] (getMethod ov m pl)
      callWith pos f first (backTo pos (starEach (e :: es) X.env)) (backToKw pos (keywordEach [] X.env))) := by rfl) :
    PE X (.Call (.Attribute o m apos) (e :: es) [] pos) (tMethS C m sp E ta t) := by
  refine ⟨fun pins s σ H Q I h => ?_⟩
  refine PySem.W.methodCall_KW (pl := pl) (thn (he.run pins s σ H _ I h) fun u s1 ⟨x, H1, I1, rx, a, dx, fs, ex, ea, l, q⟩ => ?_) ht
  subst ex
  obtain rfl : u = Value.ref a := rx
  refine getmeth_ok I1 ea c hm l ?_
  refine PySem.W.callWith_K (first := [.ref a]) (h₀ := X.base) I.ok.mod.kin hm.kp (thn (ha.run pos pins s1 σ H1 _ I1 q) fun us s2 ⟨vs, H2, I2, r, q2⟩ => ⟨I2.kIn, ?_⟩) hst hpl
  exact run_fnG (us := .ref a :: us) (vs := .ref a :: vs) F hG hr hb (hx σ) I2 (.cons rfl r) q2
theorem pe_methG0 (he : PE X o ta) (c : Cls X.K C) (hm : Meth X.K C m f) (F : FnG X.prog X.w X.K X.mg X.base k f fd ps sp) (hG : X.A.guards = some []) (hr : Room k X.A) (hb : Binds X.K fd ps []) (hx : ∀ σ, PassesAt (L2.CX X.prog X.w) X σ (E σ))
    (ht : eval (.Call (.Attribute o m apos) [] [] pos) X.env = (do
      let ov ← eval o X.env
      standAt apos.atName
      let (f, first) ← holding [ov] (getMethod ov m pl)
      callWith pos f first (backTo pos (starEach [] X.env)) (backToKw pos (keywordEach [] X.env))) := by rfl) :
    PE X (.Call (.Attribute o m apos) [] [] pos) (tMethS C m sp E ta tNil) := by
  refine ⟨fun pins s σ H Q I h => ?_⟩
  refine PySem.W.methodCall_KW (pl := pl) (thn (he.run pins s σ H _ I h) fun u s1 ⟨x, H1, I1, rx, a, dx, fs, ex, ea, l, q⟩ => ?_) ht
  subst ex
  obtain rfl : u = Value.ref a := rx
  refine getmeth_ok I1 ea c hm l ?_
  exact PySem.W.callWith_K0 (first := [.ref a]) I1.kIn hm.kp (run_fnG (us := [.ref a]) (vs := [.ref a]) F hG hr hb (hx σ) I1 (.cons rfl .nil) q)
/-! a new instance -/
def tMakeS (C : Addr) (sp : Sp) (E : L2.St → XK) (t : TA) : TE := fun σ H Q => t σ H fun vs H1 => ∀ x dx, H1 x = none → H1 dx = none → dx ≠ x →
  sp (.ref x :: vs) (L2.upd (L2.upd H1 dx (.own x)) x (.ins C dx [])) (fun v H2 => v = .non ∧ Q (.ref x) H2) (E σ)
theorem make_guards {A : Around} {C : Addr} {us : List Value} {kw : List (Str × Value)} (h : A.guards = some []) : (A.under (.builtin "type.__call__" ⟨.ref C :: us, kw⟩)).guards = some [] := by
  first | exact h | (simp [Around.under, Code.isGuard, guardIds, h])
theorem run_makeG {pins : List (Addr × Obj)} {σ : L2.St} {H : Hp} {s : Shared} {Q : VK} {us : List Value} {vs : List V} (M : Mk X.K C f) (F : FnG X.prog X.w X.K X.mg X.base k f fd ps sp) (hG : X.A.guards = some []) (hr : Room (k + 1) X.A) (hb : Binds X.K fd ps [])
    (hx : PassesAt (L2.CX X.prog X.w) X σ (E σ)) (I : Inv X pins σ H s) (r : Vals vs us)
    (h : ∀ x dx, H x = none → H dx = none → dx ≠ x → sp (.ref x :: vs) (L2.upd (L2.upd H dx (.own x)) x (.ins C dx [])) (fun v H2 => v = .non ∧ Q (.ref x) H2) (E σ)) :
    wpAny (model X.prog X.w) X.A (call (.ref C) us) (EP X pins σ Q) X.xe s := by
  have hq := h (s.heap.objs.size + 1) s.heap.objs.size (I.hok.fresh (Nat.le_succ _)) (I.hok.fresh (Nat.le_refl _)) (Nat.ne_of_lt (Nat.lt_succ_self _))
  have I2 := Inv.made (C := C) I
  have r2 : Vals (V.ref (s.heap.objs.size + 1) :: vs) (Value.ref (s.heap.objs.size + 1) :: us) := .cons rfl r
  have hl : (Value.ref (s.heap.objs.size + 1) :: us).length = ps.length := by rw [← r2.length]; exact F.len _ _ _ _ hq
  have b := hb _ (Value.ref (s.heap.objs.size + 1) :: us) I2.kIn (by rw [List.append_nil]; exact hl)
  rw [List.append_nil] at b
  refine wpAny_call (make_map (f := f) I.kIn M.makes M.init (beq_iff_eq.mp M.fn) (codeAny_mono (F.run _ X.stack _ _ ⟨Value.ref (s.heap.objs.size + 1) :: us, []⟩ (Value.ref (s.heap.objs.size + 1) :: us) _ _ (E σ) (make_guards hG) (hr.make C us [])
    (I2.env0.make C us []) b r2 hq) fun r s' hq' => ?_))
  cases r with
  | error e => exact hx pins _ _ e s' I2 hq'
  | ok fl =>
    cases fl with
    | ret u =>
      obtain ⟨v, H', I3, rv, ev, q3⟩ := I2.after hq'
      subst ev
      exact ⟨rv, ⟨V.ref (s.heap.objs.size + 1), H', I3, rfl, q3⟩⟩
    | next => exact False.elim hq'
    | brk => exact False.elim hq'
    | cont => exact False.elim hq'
theorem pe_makeG (M : Mk X.K C f) (F : FnG X.prog X.w X.K X.mg X.base k f fd ps sp) (hG : X.A.guards = some []) (hr : Room (k + 1) X.A) (hg : Gl X x) (hm : X.mg x = some (.ref C)) (hb : Binds X.K fd ps []) (hx : ∀ σ, PassesAt (L2.CX X.prog X.w) X σ (E σ))
    (ha : PA X (e :: es) t) (hdb : (x == ("__debug__" : Str)) = false := by decide) (he : starEach (e :: es) X.env = (false, eval e X.env) :: starEach es X.env := by rfl) (hpl : (backTo pos (starEach es X.env)).any (·.1) = false := by rfl) :
    PE X (.Call (.Name x p) (e :: es) [] pos) (tMakeS C sp E t) := by
  refine ⟨fun pins s σ H Q I h => ?_⟩
  refine wpAny_Call_Name_kw (ld_glob I hg hm ?_ hdb)
  refine PySem.W.callWith_K (h₀ := X.base) I.ok.mod.kin M.kp (thn (ha.run pos pins s σ H _ I h) fun us s1 ⟨vs, H1, I1, r, q⟩ => ⟨I1.kIn, ?_⟩) he hpl
  exact run_makeG M F hG hr hb (hx σ) I1 r q
end
def eMeth (x m : Str) (mf : MF) (mo : ME) (ms : MA) : ME := fun env cs => (mo env cs).bind fun o cs1 => match insAt cs1 o with
  | some (n, y, fs) => if y = x ∧ fs.lookup m = none then (ms env cs1).bind fun ds cs2 => mf (.loc n :: ds) cs2 else .stuck
  | none => .stuck
structure OwnI (P : Program) (w : World) (K : PySem.W.Frag) (mg : Str → Option Value) (base : Heap) (k : Nat) (x : Str) (n : Nat) (mf : MF) : Prop where
  ex : ∃ C f fd ps, mg x = some (.ref C) ∧ Mk K C f ∧ FnG P w K mg base k f fd ps (spM ⟨P, w, K, mg⟩ mf (n + 1)) ∧ Binds K fd ps []
def eMake (x : Str) (mf : MF) (ms : MA) : ME := fun env cs => (ms env cs).bind fun ds cs1 => (mf (.loc cs1.length :: ds) (cs1 ++ [.ins x []])).bind fun r cs2 => match r with
  | .non => .ok (.loc cs1.length) cs2
  | _ => .stuck
section
variable {X : Cx} {W : WX} {k n : Nat} {x m : Str} {pos apos p : Pos} {o e : Expr} {es : List Expr} {mo : ME} {ms : MA} {mf : MF} {pl : Sem Bool}
theorem xp_meth (om : OwnM X.prog X.w X.K X.mg X.base k x m n mf) (hG : X.A.guards = some []) (hr : Room k X.A) (tk : Takes X W) (ho : Xp X W o mo) (ha : Xa X W (e :: es) ms) (hlen : ∀ env cs ds cs1, ms env cs = .ok ds cs1 → ds.length = n)
    (hst : starEach (e :: es) X.env = (false, eval e X.env) :: starEach es X.env := by rfl) (hpl : (backTo pos (starEach es X.env)).any (·.1) = false := by rfl)
    (ht : eval (.Call (.Attribute o m apos) (e :: es) [] pos) X.env = (do
      let ov ← eval o X.env
      standAt apos.atName
      let (f, first) ← holding [ov] (getMethod ov m pl)
      callWith pos f first (backTo pos (starEach (e :: es) X.env)) (backToKw pos (keywordEach [] X.env))) := by rfl) :
    Xp X W (.Call (.Attribute o m apos) (e :: es) [] pos) (eMeth x m mf mo ms) := by
  obtain ⟨C, f, fd, ps, hm, hc, hme, F, hb⟩ := om
  obtain ⟨to, po', so⟩ := ho
  obtain ⟨t, pa, sa⟩ := ha
  refine ⟨_, pe_methG po' hc hme F hG hr hb (fun σ => passAt tk σ) pa hst hpl ht, fun σ env H F0 c cs Q re I po => ?_⟩
  refine so σ env H F0 c cs _ re I (PoE.cut po _ fun d cs1 _ H1 F1 c1 v x1 I1 rv po1 => ?_)
  split at po1
  · rename_i l y fs hi
    split at po1
    · rename_i hy
      obtain ⟨rfl, hn⟩ := hy
      obtain ⟨a, C', dx, vs, rfl, rfl, ha, hl, hm', h1, h2⟩ := insAt_at I1 rv hi
      rw [show X.mg y = some (.ref C') from hm'] at hm
      cases hm
      refine ⟨a, dx, vs, rfl, h1, h2.lookN hn, ?_⟩
      refine sa σ env H1 F1 c1 cs1 _ (re.mono x1.le) I1 (PoA.cut po1 _ fun ds cs2 h3 H2 F2 c2 us x2 I2 rus po2 => ?_)
      exact ⟨by rw [List.length_cons, rus.length, hlen _ _ _ _ h3], F2, c2, cs2, .loc l :: ds, I2, .cons (rv.mono x2.le) rus, po2⟩
    · exact po1.elim
  · exact po1.elim
theorem xp_meth0 (om : OwnM X.prog X.w X.K X.mg X.base k x m 0 mf) (hG : X.A.guards = some []) (hr : Room k X.A) (tk : Takes X W) (ho : Xp X W o mo)
    (ht : eval (.Call (.Attribute o m apos) [] [] pos) X.env = (do
      let ov ← eval o X.env
      standAt apos.atName
      let (f, first) ← holding [ov] (getMethod ov m pl)
      callWith pos f first (backTo pos (starEach [] X.env)) (backToKw pos (keywordEach [] X.env))) := by rfl) :
    Xp X W (.Call (.Attribute o m apos) [] [] pos) (eMeth x m mf mo aNil) := by
  obtain ⟨C, f, fd, ps, hm, hc, hme, F, hb⟩ := om
  obtain ⟨to, po', so⟩ := ho
  refine ⟨_, pe_methG0 po' hc hme F hG hr hb (fun σ => passAt tk σ) ht, fun σ env H F0 c cs Q re I po => ?_⟩
  refine so σ env H F0 c cs _ re I (PoE.cut po _ fun d cs1 _ H1 F1 c1 v x1 I1 rv po1 => ?_)
  split at po1
  · rename_i l y fs hi
    split at po1
    · rename_i hy
      obtain ⟨rfl, hn⟩ := hy
      obtain ⟨a, C', dx, vs, rfl, rfl, ha, hl, hm', h1, h2⟩ := insAt_at I1 rv hi
      rw [show X.mg y = some (.ref C') from hm'] at hm
      cases hm
      exact ⟨a, dx, vs, rfl, h1, h2.lookN hn, rfl, F1, c1, cs1, [.loc l], I1, .cons rv .nil, po1⟩
    · exact po1.elim
  · exact po1.elim
theorem xp_make (om : OwnI X.prog X.w X.K X.mg X.base k x n mf) (hG : X.A.guards = some []) (hr : Room (k + 1) X.A) (tk : Takes X W) (ha : Xa X W (e :: es) ms) (hg : Gl X x) (hlen : ∀ env cs ds cs1, ms env cs = .ok ds cs1 → ds.length = n) (hdb : (x == ("__debug__" : Str)) = false := by decide)
    (he : starEach (e :: es) X.env = (false, eval e X.env) :: starEach es X.env := by rfl) (hpl : (backTo pos (starEach es X.env)).any (·.1) = false := by rfl) : Xp X W (.Call (.Name x p) (e :: es) [] pos) (eMake x mf ms) := by
  obtain ⟨C, f, fd, ps, hm, M, F, hb⟩ := om
  obtain ⟨t, pa, sa⟩ := ha
  refine ⟨_, pe_makeG M F hG hr hg hm hb (fun σ => passAt tk σ) pa hdb he hpl, fun σ env H F0 c cs Q re I po => ?_⟩
  refine sa σ env H F0 c cs _ re I (PoA.cut po _ fun ds cs1 h3 H1 F1 c1 vs x1 I1 rv po1 => ?_)
  intro a dx h1 h2 ne
  have I2 := I1.other (o := .own a) h2
  have h1' : L2.upd H1 dx (.own a) a = none := by rw [upd_ne (Ne.symm ne)]; exact h1
  have I3 : Ih (gd X) (L2.upd (L2.upd H1 dx (.own a)) a (.ins C dx [])) F1 (c1 ++ [a]) (cs1 ++ [.ins x []]) := I2.push h1' ⟨I1.noF h1, C, dx, [], hm, upd_same, .nil⟩
  have x3 : Xt H1 F1 c1 (L2.upd (L2.upd H1 dx (.own a)) a (.ins C dx [])) F1 (c1 ++ [a]) := (Xt.other h2).trans (Xt.push I2 h1')
  have ra : RV (gd X) F1 (c1 ++ [a]) (.ref a) (.loc cs1.length) := .loc (by rw [← I1.len, List.getElem?_append_right (Nat.le_refl _)]; simp)
  refine ⟨by rw [List.length_cons, rv.length, hlen _ _ _ _ h3], F1, c1 ++ [a], cs1 ++ [.ins x []], .loc cs1.length :: ds, I3, .cons ra (rv.mono x3.le), ?_⟩
  have po2 := PoE.from x3 po1
  refine PoE.cut po2 _ fun d cs2 _ H2 F2 c2 v x4 I4 rv4 po4 => ?_
  split at po4
  · cases rv4
    exact ⟨rfl, PoE.here I4 (ra.mono x4.le) po4⟩
  · exact po4.elim
end
/-! ### isinstance, an own class -/
def InsF (K : PySem.W.Frag) (mg : Str → Option Value) (x : Str) : Prop := ∃ C, mg x = some (.ref C) ∧ C8.InsC K C ∧ ∀ u ∈ ["NoneType", "bool", "int", "str", "list", "tuple", "dict"], PySem.W.kitOne K (.type u) (.ref C) = some false
def isoD (x : Str) (cs : Cells) (d : D) : R := match insAt cs d with
  | some (_, y, _) => if y = x then .ok (.bl true) cs else .stuck
  | none => match tyC cs d with
    | some u => if u ∈ ["NoneType", "bool", "int", "str", "list", "tuple", "dict"] then .ok (.bl false) cs else .stuck
    | none => .stuck
theorem xp_iso {X : Cx} {W : WX} {pos p p2 : Pos} {a : Expr} {ma : ME} {x : Str} (h : InsF X.K X.mg x) (hgi : Gl X "isinstance") (hmi : X.mg "isinstance" = none) (hg : Gl X x) (ha : Xp X W a ma) (hdb : (x == ("__debug__" : Str)) = false := by decide)
    (he : starEach [a, .Name x p2] X.env = (false, eval a X.env) :: starEach [.Name x p2] X.env := by rfl) (he2 : starEach [.Name x p2] X.env = (false, eval (.Name x p2) X.env) :: starEach [] X.env := by rfl)
    (hpl : (backTo pos (starEach [.Name x p2] X.env)).any (·.1) = false := by rfl) : Xp X W (.Call (.Name "isinstance" p) [a, .Name x p2] [] pos) (op1 (isoD x) ma) := by
  obtain ⟨C, hm, ic, hk⟩ := h
  obtain ⟨ta, pa, sa⟩ := ha
  refine ⟨_, pe_callB call_isi hgi hmi PyProof.Rows.boot_isinstance (pa_cons pa (pa_cons (pe_glob (v := .ref C) hg hm rfl hdb) pa_nil he2) he) (by decide) (by decide) he hpl, fun σ env H F c cs Q re I po => ?_⟩
  refine sa σ env H F c cs _ re I (PoE.cut po _ fun d cs1 _ H1 F1 c1 v x1 I1 rv po1 => ?_)
  unfold isoD at po1
  split at po1
  · rename_i n y fs hi
    split at po1
    · rename_i hy
      subst hy
      obtain ⟨a, C', dx, vs, rfl, rfl, ha, hl, hm', h1, h2⟩ := insAt_at I1 rv hi
      rw [show X.mg y = some (.ref C') from hm'] at hm
      cases hm
      exact ⟨.ref a, .ref C, .ref C, .ref C, true, rfl, .own C, .base (.ins h1 ic.cl ic.ha ic.hn ic.htk ic.hm), ic.me, PoE.here I1 (.bl true) po1⟩
    · exact po1.elim
  · split at po1
    · rename_i u hu
      split at po1
      · rename_i hmem
        exact ⟨v, .ref C, .type u, .ref C, false, rfl, .own C, tyC_at I1 rv hu, hk u hmem, PoE.here I1 (.bl false) po1⟩
      · exact po1.elim
    · exact po1.elim
theorem kit_self {K : PySem.W.Frag} {C : Addr} : PySem.W.kitOne K (.ref C) (.ref C) = some true := by
  unfold PySem.W.kitOne
  rw [if_pos (beq_self_eq_true _)]
theorem kit_no {K : PySem.W.Frag} {C : Addr} {cd : ClassData} {u : String} (d : PySem.W.clsIn K C = some cd) (t : PySem.W.typeIn K (.ref C) = some (.type "type")) (s : PySem.W.subIn K (.type u) (.ref C) = some false) : PySem.W.kitOne K (.type u) (.ref C) = some false := by
  unfold PySem.W.kitOne PySem.W.kitCls
  rw [if_neg (by intro h; cases (beq_iff_eq.mp h))]
  simp only [d, t, s]
  rfl
theorem insF_mk {K : PySem.W.Frag} {mg : Str → Option Value} {x : Str} {C : Addr} {cd : ClassData} (hm : mg x = some (.ref C)) (cl : Cls K C) (ha : PySem.W.findIn K (.ref C) "__class__" = some (some (.builtin "object.__class__"))) (hn : PySem.W.specialIn K (.builtin "object.__class__") "__get__" = some (some (.builtin "getset_descriptor.__get__")))
    (ht : PySem.W.takesIn K (.builtin "object.__class__") = some true) (ho : PySem.W.mroIn K C (.type "object") = some true) (d : PySem.W.clsIn K C = some cd) (t : PySem.W.typeIn K (.ref C) = some (.type "type"))
    (s1 : PySem.W.subIn K (.type "NoneType") (.ref C) = some false) (s2 : PySem.W.subIn K (.type "bool") (.ref C) = some false) (s3 : PySem.W.subIn K (.type "int") (.ref C) = some false) (s4 : PySem.W.subIn K (.type "str") (.ref C) = some false)
    (s5 : PySem.W.subIn K (.type "list") (.ref C) = some false) (s6 : PySem.W.subIn K (.type "tuple") (.ref C) = some false) (s7 : PySem.W.subIn K (.type "dict") (.ref C) = some false) : InsF K mg x := by
  refine ⟨C, hm, ⟨cl, ha, hn, ht, ho, kit_self⟩, ?_⟩
  simp only [List.forall_mem_cons]
  exact ⟨kit_no d t s1, kit_no d t s2, kit_no d t s3, kit_no d t s4, kit_no d t s5, kit_no d t s6, kit_no d t s7, fun u h => by cases h⟩
section
variable {P : Program} {w : World} {K : PySem.W.Frag} {mg : Str → Option Value} {base : Heap} {k n : Nat} {x m : Str} {mf : MF} {C f : Addr} {fd : FuncData} {ps : List Str}
theorem ownM_mk (hm : mg x = some (.ref C)) (c : Cls K C) (me : Meth K C m f) (F : FnG P w K mg base k f fd ps (spM ⟨P, w, K, mg⟩ mf ps.length)) (hb : Binds K fd ps []) (hn : ps.length = n + 1) : OwnM P w K mg base k x m n mf := by
  rw [hn] at F
  exact ⟨C, f, fd, ps, hm, c, me, F, hb⟩
theorem ownI_mk (hm : mg x = some (.ref C)) (M : Mk K C f) (F : FnG P w K mg base k f fd ps (spM ⟨P, w, K, mg⟩ mf ps.length)) (hb : Binds K fd ps []) (hn : ps.length = n + 1) : OwnI P w K mg base k x n mf := by
  rw [hn] at F
  exact ⟨C, f, fd, ps, hm, M, F, hb⟩
end
end L3

/-! sets of texts and ints; isinstance with two classes; list(x); x += n -/
namespace L3
open PySem L2
section
variable {X : Cx} {W : WX} {x y f m : Str} {pos apos tpos p p2 p3 p4 : Pos} {a b o e : Expr} {es : List Expr} {mo mv me ma mb : ME} {ms : MA} {k : Nat}
/-! ### set() -/
def eSet0 : ME := fun _ cs => .ok (.loc cs.length) (cs ++ [.set []])
theorem xp_set0 (hg : Gl X "set") (hm : X.mg "set" = none) : Xp X W (.Call (.Name "set" p) [] [] pos) eSet0 := by
  refine ⟨_, pe_callTy0 cr_set0K hg hm (by decide +kernel), fun σ env H F c cs Q re I po => ?_⟩
  refine ⟨rfl, fun p hp => ?_⟩
  have I2 : Ih (gd X) (L2.upd H p (SetK X.prog X.w p (fun _ => false) 0)) F (c ++ [p]) (cs ++ [.set []]) := I.push hp ⟨I.noF hp, upd_same⟩
  exact po _ _ _ (Xt.push I hp) I2 _ (.loc (by rw [← I.len, List.getElem?_append_right (Nat.le_refl _)]; simp))
def setAt (cs : Cells) : D → Option (Nat × List Kd)
  | .loc n => match cs[n]? with
    | some (.set l) => some (n, l)
    | _ => none
  | _ => none
theorem setAt_at {g : Gd} {H F : Hp} {c : List Addr} {cs : Cells} (I : Ih g H F c cs) {v : V} {d : D} {n : Nat} {l : List Kd} (r : RV g F c v d) (h : setAt cs d = some (n, l)) :
    ∃ a, d = .loc n ∧ v = .ref a ∧ c[n]? = some a ∧ cs[n]? = some (.set l) ∧ H a = some (SetK g.P g.w a (fun k => (l.map kk).contains k) l.length) := by
  unfold setAt at h
  split at h
  · rename_i m
    split at h
    · rename_i l2 hl
      simp only [Option.some.injEq, Prod.mk.injEq] at h
      obtain ⟨rfl, rfl⟩ := h
      cases r with
      | loc ha =>
        obtain ⟨_, h1⟩ := I.cell _ _ _ ha hl
        exact ⟨_, rfl, rfl, ha, hl, h1⟩
    · cases h
  · cases h
theorem key_beq : ∀ a b : Key, (a == b) = decide (a = b)
  | .inl a, .inl b => by
    show (a == b) = _
    rw [Bool.eq_iff_iff, beq_iff_eq, decide_eq_true_eq]
    exact ⟨fun h => by rw [h], fun h => Sum.inl.inj h⟩
  | .inl _, .inr _ => by show false = _; simp
  | .inr _, .inl _ => by show false = _; simp
  | .inr a, .inr b => by
    show (a == b) = _
    rw [Bool.eq_iff_iff, beq_iff_eq, decide_eq_true_eq]
    exact ⟨fun h => by rw [h], fun h => Sum.inr.inj h⟩
def hasK (l : List Kd) (k : Kd) : Bool := l.any fun j => decide (j = k)
theorem kk_mem {l : List Kd} {k : Kd} : (l.map kk).contains (kk k) = hasK l k := by
  unfold hasK
  rw [List.contains_eq_any_beq, List.any_map]
  congr 1
  funext j
  show (kk k == kk j) = _
  rw [key_beq, kk_eq]
  exact decide_eq_decide.mpr eq_comm
theorem contains_key {l : List Key} {k : Key} : l.contains k = l.any fun j => decide (j = k) := by
  rw [List.contains_eq_any_beq]
  congr 1
  funext j
  rw [key_beq]
  exact decide_eq_decide.mpr eq_comm
def addK (l : List Kd) (k : Kd) : List Kd := if hasK l k = true then l else l ++ [k]
theorem addK_fn {l : List Kd} {k : Kd} : (fun j => (l.map kk).contains j || decide (j = kk k)) = fun j => ((addK l k).map kk).contains j := by
  funext j
  unfold addK
  split
  · rename_i h
    by_cases e : j = kk k
    · subst e; rw [kk_mem, h]; simp
    · simp [e]
  · rw [List.map_append, contains_key, contains_key, List.any_append]
    simp only [List.map_cons, List.map_nil, List.any_cons, List.any_nil, Bool.or_false]
    congr 1
    exact decide_eq_decide.mpr eq_comm
theorem addK_len {l : List Kd} {k : Kd} : (if (l.map kk).contains (kk k) = true then l.length else l.length + 1) = (addK l k).length := by
  unfold addK
  rw [kk_mem]
  by_cases h : hasK l k = true <;> simp [h]
/-! ### s.add(e) -/
def eSAdd (mo me : ME) : ME := fun env cs => (mo env cs).bind fun o cs1 => match setAt cs1 o with
  | some _ => (me env cs1).bind fun v cs2 => match setAt cs2 o, kdOf v with
    | some (n, l), some k => if l.length + 1 < scanBound then .ok .non (cs2.set n (.set (addK l k))) else .stuck
    | _, _ => .stuck
  | none => .stuck
theorem xp_sadd (ho : Xp X W o mo) (he : Xp X W e me)
    (hbase : attributeBase o "add" X.env (eval o X.env) = eval o X.env := by rfl)
    (hfew : ((backTo pos (starEach [e] X.env)).all (fun x => !x.1) && (backToKw pos (keywordEach [] X.env)).all (fun x => x.1.isSome)
      && decide ([e].length + ([] : List Keyword).length + (if ([] : List Keyword).isEmpty then 0 else 1) < 30)) = true := by rfl)
    (hline : (apos.endLine == pos.line) = true := by rfl) (hs : starEach [e] X.env = (false, eval e X.env) :: starEach [] X.env := by rfl) (hplain : (backTo pos (starEach [] X.env)).any (·.1) = false := by rfl) :
    Xp X W (.Call (.Attribute o "add" apos) [e] [] pos) (eSAdd mo me) := by
  obtain ⟨to, po', so⟩ := ho
  obtain ⟨te, pe', se⟩ := he
  refine ⟨_, pe_saddK po' (pa_cons pe' pa_nil hs) hbase hfew hline hs hplain, fun σ env H F c cs Q re I po => ?_⟩
  refine so σ env H F c cs _ re I (PoE.cut po _ fun d cs1 _ H1 F1 c1 v x1 I1 rv po1 => ?_)
  split at po1
  · rename_i q hq
    obtain ⟨n, l⟩ := q
    obtain ⟨a, rfl, rfl, ha, hl, h1⟩ := setAt_at I1 rv hq
    refine ⟨⟨a, _, _, rfl, h1⟩, se σ env H1 F1 c1 cs1 _ (re.mono x1.le) I1 (PoE.cut po1 _ fun d2 cs2 _ H2 F2 c2 v2 x2 I2 rv2 po2 => ?_)⟩
    split at po2
    · rename_i n2 l2 kd h2 hk
      split at po2
      · rename_i hz
        obtain ⟨a2, e2, e3, ha2, hl2, h3⟩ := setAt_at I2 (rv.mono x2.le) h2
        cases e2; cases e3
        have ev := kdOf_rv rv2 hk
        subst ev
        refine ⟨a, kk kd, _, _, rfl, rfl, h3, hz, ?_⟩
        rw [addK_fn, addK_len]
        have x4 := Xt.write I2 (o := SetK X.prog X.w a (fun j => ((addK l2 kd).map kk).contains j) (addK l2 kd).length) ha2
        have hF := CR.free (I2.cell n a _ ha2 hl2) rfl
        exact po2 _ _ _ x4 (I2.write ha2 hl2 rfl (x := .set (addK l2 kd)) ⟨hF, upd_same⟩) .non .non
      · exact po2.elim
    · exact po2.elim
  · exact po1.elim
/-! ### e in s -/
def inSX (neg : Bool) (cs : Cells) (d s : D) : R := match setAt cs s, kdOf d with
  | some (_, l), some k => .ok (.bl (if neg then !hasK l k else hasK l k)) cs
  | _, _ => .stuck
theorem o2_inS {g : Gd} {neg : Bool} : O2 g (rSInK g.P g.w neg) (inSX neg) := by
  intro W H F c cs x y d e Q I rx ry po
  unfold inSX at po
  split at po
  · rename_i n l k h1 h2
    obtain ⟨a, rfl, rfl, ha, hl, h3⟩ := setAt_at I ry h1
    have ev := kdOf_rv rx h2
    subst ev
    refine ⟨kk k, a, _, _, rfl, rfl, h3, ?_⟩
    rw [kk_mem]
    exact PoE.here I (.bl _) po
  · exact po.elim
theorem xp_inS (ha : Xp X W a ma) (hb : Xp X W b mb) (hm : behindInMarks .In b = false) : Xp X W (.Compare a [.In] [b] pos) (op2 (inSX false) ma mb) := xp_cmp or_sinK o2_inS ha hb hm
theorem xt_inS (ha : Xp X W a ma) (hb : Xp X W b mb) (hm : behindInMarks .In b = false) : Xt1 X W (.Compare a [.In] [b] pos) (op2 (inSX false) ma mb) := xt_cmp or_sinK o2_inS ha hb hm
/-! ### isinstance(e, (T, U)) -/
def isiD2 (t u : String) (cs : Cells) (d : D) : R := match tyC cs d with
  | some v => match kitB v t, kitB v u with
    | some b, some b2 => .ok (.bl (b || b2)) cs
    | _, _ => .stuck
  | none => .stuck
theorem xp_isi2 {t u : String} {tk : Nat} (hgi : Gl X "isinstance") (hmi : X.mg "isinstance" = none) (hg : Gl X x) (hm : X.mg x = none) (hv : bootBuiltins x = some (.type t)) (hg2 : Gl X y) (hm2 : X.mg y = none) (hv2 : bootBuiltins y = some (.type u)) (ha : Xp X W a ma)
    (hn : x ≠ "__name__" := by decide) (hdb : (x == ("__debug__" : Str)) = false := by decide) (hn2 : y ≠ "__name__" := by decide) (hdb2 : (y == ("__debug__" : Str)) = false := by decide)
    (ht1 : starEach [.Name x p2, .Name y p3] X.env = (false, eval (.Name x p2) X.env) :: starEach [.Name y p3] X.env := by rfl) (ht2 : starEach [.Name y p3] X.env = (false, eval (.Name y p3) X.env) :: starEach [] X.env := by rfl)
    (he : starEach [a, .Tuple [.Name x p2, .Name y p3] tk p4] X.env = (false, eval a X.env) :: starEach [.Tuple [.Name x p2, .Name y p3] tk p4] X.env := by rfl) (he2 : starEach [.Tuple [.Name x p2, .Name y p3] tk p4] X.env = (false, eval (.Tuple [.Name x p2, .Name y p3] tk p4) X.env) :: starEach [] X.env := by rfl)
    (hpl : (backTo pos (starEach [.Tuple [.Name x p2, .Name y p3] tk p4] X.env)).any (·.1) = false := by rfl) : Xp X W (.Call (.Name "isinstance" p) [a, .Tuple [.Name x p2, .Name y p3] tk p4] [] pos) (op1 (isiD2 t u) ma) := by
  obtain ⟨ta, pa, sa⟩ := ha
  refine ⟨_, pe_callB call_isiT hgi hmi PyProof.Rows.boot_isinstance (pa_cons pa (pa_cons (pe_tup (pa_cons (pe_blt hg hm hv hn hdb) (pa_cons (pe_blt hg2 hm2 hv2 hn2 hdb2) pa_nil ht2) ht1)) pa_nil he2) he) (by decide) (by decide) he hpl, fun σ env H F c cs Q re I po => ?_⟩
  refine sa σ env H F c cs _ re I (PoE.cut po _ fun d cs1 _ H1 F1 c1 v x1 I1 rv po1 => ?_)
  refine ⟨by rw [sizeLine_eq]; simp, fun q hq => ?_⟩
  unfold isiD2 at po1
  split at po1
  · rename_i w hw
    split at po1
    · rename_i b1 b2 h1 h2
      have I2 := I1.other (o := .tup [.ty t, .ty u]) hq
      refine ⟨v, q, [.ty t, .ty u], .type w, [.type t, .type u], b1 || b2, rfl, upd_same, .cons (.ty t) (.cons (.ty u) .nil), tyC_at I2 rv hw, ?_, ?_⟩
      · refine kitAny_cons (kit_ty h1) (fun e => ?_) (fun e => by rw [e]; rfl)
        rw [e, Bool.false_or]
        exact kitAny_cons (kit_ty h2) (fun e2 => by rw [e2]; exact kitAny_nil) (fun e2 => e2)
      · exact PoE.here I2 (.bl (b1 || b2)) (PoE.from (Xt.other hq) po1)
    · exact po1.elim
  · exact po1.elim
/-! ### list(e) -/
def eListOf (md : Bool) (ma : ME) : ME := fun env cs => (ma env cs).bind fun d cs1 => match seqOf cs1 d with
  | some ds => mkL md cs1 ds
  | none => .stuck
theorem xp_listOf (md : Bool) (hg : Gl X "list") (hm : X.mg "list" = none) (ha : Xp X W a ma) (hs : starEach [a] X.env = (false, eval a X.env) :: starEach [] X.env := by rfl) (hp : (backTo pos (starEach ([] : List Expr) X.env)).any (·.1) = false := by rfl) :
    Xp X W (.Call (.Name "list" p) [a] [] pos) (eListOf md ma) := by
  obtain ⟨ta, pa, sa⟩ := ha
  refine ⟨_, pe_callTy call_list_of hg hm PyProof.Rows.Boot.«list» (pa_cons pa pa_nil hs) (by decide) (by decide) hs hp, fun σ env H F c cs Q re I po => ?_⟩
  refine sa σ env H F c cs _ re I (PoE.cut po _ fun d cs1 _ H1 F1 c1 v x1 I1 rv po1 => ?_)
  split at po1
  · rename_i ds hds
    obtain ⟨q, vs, rfl, h1, h2⟩ := seqOf_at I1 rv hds
    exact ⟨q, vs, rfl, h1, fun l hl => mkL_ok I1 h2 po1 hl⟩
  · exact po1.elim
end
end L3

namespace PySem
section
variable {prog : Program} {w : World} {A : Around} {E : Value → Shared → Prop}
theorem drawL {it t : Addr} {items : Array Value} (hne : t ≠ it) : ∀ (n i : Nat) (s : Shared) (Q : List Value → Shared → Prop), s.heap.IsListIter it t i → s.heap.IsList t items → i + n ≤ items.size →
    (∀ h' : Heap, h'.IsListIter it t (i + n) → Heap.SameBut it s.heap h' → Q ((items.toList.drop i).take n) { s with heap := h' }) → wpAny (model prog w) A (draw (.ref it) n) Q E s
  | 0, i, s, Q, hit, _, _, hQ => wpAny_pure (by simpa using hQ s.heap hit (Heap.SameBut.refl ..))
  | n + 1, i, s, Q, hit, ht, hle, hQ => by
    have hlt : i < items.size := by omega
    show wpAny _ _ (pyNext (.ref it) >>= _) Q E s
    refine wpAny_bind (wpAny_pyNext_list_item hit ht (x := items[i]) (by simp [hlt]) fun h₁ hit₁ hs₁ => ?_)
    refine wpAny_bind (wpAny_holding (drawL hne n (i + 1) _ _ hit₁ (ht.extBut hs₁.extBut hne) (by omega) fun h₂ hit₂ hs₂ => wpAny_pure ?_))
    have hd : items.toList.drop i = items[i] :: items.toList.drop (i + 1) := by simp [List.drop_eq_getElem_cons, hlt]
    have q := hQ h₂ (by rw [show i + (n + 1) = i + 1 + n by omega]; exact hit₂) (hs₁.trans hs₂)
    rw [hd, List.take_succ_cons] at q
    exact q
variable {s : Shared}
theorem unpackL {t : Addr} {items : Array Value} {targets : List (Bool × (Value → Sem Unit))} {Q : Unit → Shared → Prop} (hh : A.handled = none) (ht : s.heap.IsList t items)
    (hn : targets.length = items.size) (hstar : targets.findIdx? (·.1) = none)
    (h : ∀ h' : Heap, Heap.ExtBut s.heap.objs.size s.heap h' → wpAny (model prog w) A (assignInOrder (targets.map (·.2)) items.toList) Q E { s with heap := h' }) :
    wpAny (model prog w) A (unpack (.ref t) targets) Q E s := by
  have hlt : t ≠ s.heap.objs.size := by obtain ⟨o, ho, _⟩ := ht; exact Nat.ne_of_lt (Heap.lt_size ho)
  unfold unpack
  rw [hn, hstar]
  refine wpAny_bind (wpAny_holding ?_)
  unfold unpackItems
  refine wpAny_bind ?_
  unfold notIterableAtAll
  refine wpAny_bind (wpAny_specialOf ht.typeIs slot_list_iter.lookup (wpAny_pure ?_))
  simp only [Bool.false_eq_true, if_false]
  refine wpAny_bind (wpAny_holding (wpAny_pyIter_list ht ?_))
  refine wpAny_bind (wpAny_holding (drawL hlt items.size 0 _ _ ⟨_, Heap.get?_push_size _ rfl, rfl, rfl⟩ (ht.push _) (by omega) fun h₁ hit₁ hs₁ => ?_))
  rw [List.drop_zero, List.take_of_length_le (by simp), if_neg (by simp)]
  have ht₁ : h₁.IsList t items := (ht.push _).extBut hs₁.extBut hlt
  refine wpAny_bind (wpAny_holding (wpAny_pyNext_list_end hh hit₁ ht₁ (by simp) fun h₂ he₂ => ?_))
  simp only [Option.isSome_none, Bool.false_eq_true, if_false]
  exact wpAny_pure (h h₂ fun b o hb e => he₂ b o hb (hs₁.extBut b o hb (Heap.get?_push_of_some _ e)))
end
end PySem
namespace L3
open PySem L2
section
variable {X : Cx} {W : WX} {x y f m : Str} {pos pos' apos tpos p p2 p3 p4 : Pos} {a b o e : Expr} {es : List Expr} {mo mv me ma mb : ME} {ms : MA} {k : Nat}
/-! ### (a, b, ..) = a list of that length -/
def gLst (K : PySem.W.Frag) (n : Nat) (t : TGs) : TG := fun v σ H Q => ∃ a xs, v = .ref a ∧ SqL K H a xs ∧ xs.length = n ∧ t xs σ H Q
theorem pg_lstT {es : List Expr} {k : Nat} {t : TGs} {n : Nat} (hc : X.calm = true) (h : PGs X es t)
    (hn : (assignEach es X.env).length = n := by rfl) (hst : (assignEach es X.env).findIdx? (·.1) = none := by rfl) : PG X (.Tuple es k pos) (gLst X.K n t) := by
  refine ⟨fun pins s σ H v u Q I r hw => ?_⟩
  obtain ⟨a, xs, e1, hq, hl, hw⟩ := hw
  subst e1
  cases r
  obtain ⟨its, rv, pl, hz⟩ := I.list hq
  rw [PyProof.Rows.assign_Tuple]
  refine wpAny_bind (wpAny_standAt (unpackL (I.ok.hd hc) pl.isList (by simp [hn, ← hl, rv.length]) hst fun h' hx => ?_))
  have I1 : Inv X pins σ H { s with heap := h' } := I.kept (t' := s.toks) fun b o e => hx b o (Nat.ne_of_lt (Heap.lt_size e)) e
  exact h.run pins _ σ H xs _ Q I1 (by simpa using rv) hw
theorem pg_or {tg : Expr} {g g2 : TG} (h : PG X tg g) (h2 : PG X tg g2) : PG X tg (fun v σ H Q => g v σ H Q ∨ g2 v σ H Q) := ⟨fun pins s σ H v u Q I r hw => hw.elim (h.run pins s σ H v u Q I r) (h2.run pins s σ H v u Q I r)⟩
def tgSeq (is : List Nat) (d : D) (env : L3.Env) : Option L3.Env := match d with
  | .tup ds => tgTs is ds env
  | .lst ds => tgTs is ds env
  | _ => none
theorem tgt_seq {is own : List Nat} (hc : X.calm = true) (h : Tgts X es is own) (hn : (assignEach es X.env).length = is.length := by rfl) (hst : (assignEach es X.env).findIdx? (·.1) = none := by rfl) : Tgt X (.Tuple es k pos) (tgSeq is) own := by
  obtain ⟨t, p, q⟩ := h
  refine ⟨_, pg_or (pg_tup hc p hn hst) (pg_lstT hc p hn hst), fun σ env H F c cs v d env1 Q re I rv h k => ?_⟩
  unfold tgSeq at h
  split at h
  · rename_i ds
    cases rv with
    | @tup a vs _ h1 h2 => exact .inl ⟨a, vs, rfl, .inl (.inl (I.sub _ _ h1)), by rw [h2.length, tgts_len h], q σ env H F c cs vs ds env1 Q re I h2 h k⟩
  · rename_i ds
    cases rv with
    | @lst a vs _ h1 h2 => exact .inr ⟨a, vs, rfl, .inl (.inl (I.sub _ _ h1)), by rw [h2.length, tgts_len h], q σ env H F c cs vs ds env1 Q re I h2 h k⟩
  · cases h
/-! ### enumerate -/
def enumD (ds : List D) : List D := (List.range ds.length).map fun i => .tup [.int (i : Nat), (ds[i]?).getD .non]
theorem itk_enum {g : Gd} {a : Addr} {d : D} {ds : List D} (hd : ∀ l, d ≠ .tup l) : Itk g (Ite g.K a) (enumD ds) fun H F c cs => RV g F c (.ref a) d ∧ seqOf cs d = some ds := by
  have K := itk_list (g := g) (a := a) (items := ds) hd
  have len : (enumD ds).length = ds.length := by simp [enumD]
  refine ⟨fun i H F c cs I ok hi => K.go i H F c cs I ok (by rw [← len]; exact hi), fun i H F c cs d' I ok hd' v H' y => ?_, fun i H F c cs I ok hi => K.stop i H F c cs I ok (by rw [← len]; exact hi)⟩
  obtain ⟨T, z, rfl, hT, rfl, hz⟩ := y
  have hi : i < ds.length := by rw [← len]; exact (List.getElem?_eq_some_iff.mp hd').1
  obtain ⟨xs, x1, h1, h2⟩ := K.go i H F c cs I ok hi
  have hx := hz xs h1
  obtain ⟨F', xt, I', rv⟩ := K.yld i H F c cs ds[i] I ok (List.getElem?_eq_getElem hi) z H ⟨rfl, hz⟩
  have e : d' = .tup [.int (i : Nat), ds[i]] := by
    unfold enumD at hd'
    rw [List.getElem?_map, List.getElem?_range hi] at hd'
    simp only [Option.map_some, Option.some.injEq] at hd'
    rw [← hd', List.getElem?_eq_getElem hi]; rfl
  subst e
  have x2 := Xt.still I' (o := .tup [.int (i : Nat), z]) hT
  refine ⟨_, xt.trans x2, I'.still hT, .tup upd_same (.cons (.int _) (.cons (rv.mono x2.le) .nil))⟩
def wEnum (m : ME) : MW := fun env cs => (m env cs).toW fun d cs1 => match d with
  | .tup _ => .stuck
  | d => match seqOf cs1 d with
    | some ds => .ok (enumD ds) (fun cs2 => seqOf cs2 d = some ds) cs1
    | none => .stuck
theorem wk_enum {kk : Nat} (hg : Gl X "enumerate") (hm : X.mg "enumerate" = none) (he : Xp X W e me) (hs : starEach [e] X.env = [(false, eval e X.env)] := by rfl) : Wk X W (.Tuple es kk tpos) (.Call (.Name "enumerate" p) [e] [] pos) (wEnum me) := by
  obtain ⟨te, pe, se⟩ := he
  refine ⟨_, pi_enum hg hm (pa_cons pe pa_nil hs) hs, fun σ env H F c cs R re I po => ?_⟩
  refine se σ env H F c cs _ re I (PoW.cut po _ fun d cs2 h2 H1 F1 c1 v x1 I1 rv po1 => ?_)
  split at po1
  · exact po1.elim
  · rename_i nt
    split at po1
    · rename_i ds hs'
      obtain ⟨p, rfl⟩ := seqOf_ref I1 rv hs'
      have K := itk_enum (g := gd X) (a := p) (ds := ds) (d := d) nt
      have KL := itk_list (g := gd X) (a := p) (items := ds) (d := d) nt
      have hq : ∃ xs, SqL X.K H1 p xs := by
        by_cases hz : 0 < ds.length
        · obtain ⟨xs, _, h1, _⟩ := KL.go 0 H1 F1 c1 cs2 I1 ⟨rv, hs'⟩ hz
          exact ⟨xs, h1⟩
        · obtain ⟨xs, h1, _⟩ := KL.stop 0 H1 F1 c1 cs2 I1 ⟨rv, hs'⟩ (by omega)
          exact ⟨xs, h1⟩
      obtain ⟨xs, hq⟩ := hq
      exact ⟨p, xs, rfl, hq, po1 _ _ _ (Xt.refl _ _ _) I1 _ (fun F c => RV (gd X) F c (.ref p) d) K (fun _ _ _ _ e k => k.mono e) rv⟩
    · exact po1.elim
/-! ### x += n -/
def sAugI (i : Nat) (m : ME) : MS := fun env cs => match env[i]? with
  | some (some (.int a)) => (m env cs).toS env fun d cs1 => match d with
    | .int b => .nx (env.set i (some (.int (a + b)))) cs1
    | _ => .stuck
  | _ => .stuck
theorem sm_augI {i : Nat} (hN : X.N.Nodup) (hi : X.N[i]? = some x) (hx : Loc X.env.scope x) (he : Xp X W e me) (hf : X.fn x = true ∨ X.env.scope.names.lookup x = some .local := by first | exact .inl rfl | exact .inr rfl | assumption) : Sm X W (.AugAssign (.Name x pos') .Add e pos) (sAugI i me) := by
  obtain ⟨te, pe, se⟩ := he
  refine ⟨_, ps_aug hN hi hx pe ip_add hf, fun σ env H F c cs Dn re I po => ?_⟩
  unfold sAugI at po
  split at po
  · rename_i a ha
    obtain ⟨v, hv, rv⟩ := re.2 i _ ha
    cases rv
    refine ⟨_, hv, se σ env H F c cs _ re I (PoS.cut re po _ fun d cs1 _ H1 F1 c1 v x1 I1 rv po1 => ?_)⟩
    split at po1
    · cases rv
      exact ⟨_, _, rfl, rfl, po1 _ _ _ (Xt.refl _ _ _) I1 _ ((re.mono x1.le).set i (.int _))⟩
    · exact po1.elim
  · exact po.elim
/-! ### what is never reached -/
def sStuck : MS := fun _ _ => .stuck
def eStuck : ME := fun _ _ => .stuck
theorem sm_stuck {st : Stmt} : Sm X W st sStuck := ⟨fun _ _ _ => False, ⟨fun _ _ _ _ _ _ h => h.elim⟩, fun _ _ _ _ _ _ _ _ _ po => po.elim⟩
theorem xp_stuck : Xp X W e eStuck := ⟨fun _ _ _ => False, ⟨fun _ _ _ _ _ _ h => h.elim⟩, fun _ _ _ _ _ _ _ _ _ po => po.elim⟩
/-! ### xs.remove(e), texts -/
def eqs (k : Str) (v : Value) : Bool := match v with
  | .str z _ => z.cps.toList == k.cps.toList
  | _ => false
theorem eqs_gives {k : Str} {t : Tok} : ∀ {us : List Value} {ns : List Str}, Vals (ns.map V.str) us → ∀ y ∈ us, MeetsSeq.EqGives y (.str k t) (eqs k y)
  | _, [], .nil => fun y hy => by cases hy
  | _, n :: ns, .cons r h => fun y hy => by
    rcases List.mem_cons.mp hy with e | e
    · subst e
      obtain ⟨t', rfl⟩ := r
      exact SeqRoads2.EqGives.str n k t' t
    · exact eqs_gives h y e
theorem erase_mapS : ∀ (l : List Str) (j : Nat), (l.map V.str).eraseIdx j = (l.eraseIdx j).map V.str
  | [], j => by simp
  | a :: r, 0 => by simp
  | a :: r, j + 1 => by
    have ih := erase_mapS r j
    simp [ih]
def rRemS : V → List V → Hp → VK → Prop := fun x xs H Q => ∃ (l : Addr) (ns : List Str) (k : Str) (j : Nat), x = .ref l ∧ xs = [.str k] ∧ H l = some (.lst (ns.map V.str)) ∧ ns[j]? = some k ∧ (∀ m : Nat, m < j → ns[m]? ≠ some k) ∧ Q .non (L2.upd H l (.lst ((ns.eraseIdx j).map V.str)))
theorem mt_removeS : MtM X "list.remove" rRemS := by
  intro pins s σ H x xs v us Q I rx rxs h
  obtain ⟨l, ns, k, j, rfl, rfl, hH, hj, hno, q⟩ := h
  cases rx
  obtain ⟨u, rfl, ru⟩ := rxs.one
  obtain ⟨t, rfl⟩ := ru
  obtain ⟨z, its, n, r, hl, e⟩ := I.lstM hH
  rw [List.length_map] at hl z
  have hjn : j < ns.length := (List.getElem?_eq_some_iff.mp hj).1
  have hjl : j < its.toArray.size := by rw [List.size_toArray]; omega
  have at_ : ∀ (i : Nat) (hi : i < its.toArray.size) (n : Str), ns[i]? = some n → ∃ t', its.toArray[i] = .str n t' := by
    intro i hi n hn
    obtain ⟨u, h1, h2⟩ := r.get (i := i) (x := V.str n) (by rw [List.getElem?_map, hn]; rfl)
    obtain ⟨t', rfl⟩ := h2
    obtain ⟨h3, h4⟩ := List.getElem?_eq_some_iff.mp h1
    exact ⟨t', by simpa using h4⟩
  refine call_meets PySem.F.slot_list_remove ⟨_, e, rfl⟩ PySem.F.entry_list_remove (PySem.F.args_list_remove_2 _ _)
    (MeetsSeq.list_remove l its.toArray n (.str k t) (eqs k) (fun y hy => eqs_gives r y (by simpa using hy)) j hjl ?_ ?_ (by rw [List.size_toArray]; omega)) ⟨e, ?_⟩
  · obtain ⟨tj, e1⟩ := at_ j hjl k hj
    rw [e1]
    exact beq_self_eq_true k.cps.toList
  · intro m hm hmj
    have hmn : m < ns.length := by omega
    obtain ⟨tm, e1⟩ := at_ m hm ns[m] (List.getElem?_eq_getElem hmn)
    rw [e1]
    refine beq_eq_false_iff_ne.mpr fun e2 => hno m hmj ?_
    rw [List.getElem?_eq_getElem hmn]
    congr 1
    have e3 : (ns[m]).cps.toList = k.cps.toList := e2
    generalize ns[m] = z1 at e3
    cases z1; cases k
    simpa [Array.toList_inj] using e3
  · have rr := r.eraseIdx j
    rw [erase_mapS] at rr
    refine ⟨.non, _, I.lset (its' := its.eraseIdx j) (t' := s.toks) hH e ?_ rr ?_, rfl, q⟩
    · show its.toArray.eraseIdxIfInBounds j = (its.eraseIdx j).toArray
      rw [List.eraseIdxIfInBounds_toArray]
    · rw [List.length_map]
      have := List.length_eraseIdx_le ns j
      omega
def remL (cs : Cells) (o v : D) : Option Cells := match o, v with
  | .loc n, .str k => match cs[n]? with
    | some (.lst l) => match strsL l with
      | some ls => if k ∈ ls then some (cs.set n (.lst (l.eraseIdx (ls.idxOf k)))) else none
      | none => none
    | _ => none
  | _, _ => none
def eRem (mo me : ME) : ME := fun env cs => (mo env cs).bind fun o cs1 => if isLc cs1 o = true then (me env cs1).bind fun v cs2 => match remL cs2 o v with
    | some cs3 => .ok .non cs3
    | none => .stuck
  else .stuck
theorem RVs.erase {g : Gd} {F : Hp} {c : List Addr} : ∀ {vs : List V} {ds : List D}, RVs g F c vs ds → ∀ j : Nat, RVs g F c (vs.eraseIdx j) (ds.eraseIdx j)
  | _, _, .nil, j => by simp; exact .nil
  | _, _, .cons a b, 0 => by simpa using b
  | _, _, .cons a b, j + 1 => by simp only [List.eraseIdx_cons_succ]; exact .cons a (RVs.erase b j)
theorem mk_inj {a b : List Nat} (h : mk a = mk b) : a = b := by
  have := congrArg (fun z : Str => z.cps.toList) h
  simpa using this
theorem xp_rem (ho : Xp X W o mo) (he : Xp X W e me)
    (hbase : attributeBase o "remove" X.env (eval o X.env) = eval o X.env := by rfl)
    (hfew : ((backTo pos (starEach [e] X.env)).all (fun x => !x.1) && (backToKw pos (keywordEach [] X.env)).all (fun x => x.1.isSome)
      && decide ([e].length + ([] : List Keyword).length + (if ([] : List Keyword).isEmpty then 0 else 1) < 30)) = true := by rfl)
    (hline : (apos.endLine == pos.line) = true := by rfl) (hs : starEach [e] X.env = (false, eval e X.env) :: starEach [] X.env := by rfl) (hplain : (backTo pos (starEach [] X.env)).any (·.1) = false := by rfl) :
    Xp X W (.Call (.Attribute o "remove" apos) [e] [] pos) (eRem mo me) := by
  obtain ⟨to, po', so⟩ := ho
  obtain ⟨te, pe', se⟩ := he
  refine ⟨_, pe_bm F.plainAttrs_list F.slot_list_remove F.type_list_remove mt_removeS po' (pa_cons pe' pa_nil hs) hbase hfew hline hs hplain, fun σ env H F c cs Q re I po => ?_⟩
  refine so σ env H F c cs _ re I (PoE.cut po _ fun d cs1 _ H1 F1 c1 v x1 I1 rv po1 => ?_)
  split at po1
  · rename_i hc
    obtain ⟨n, a, l, vs, rfl, rfl, ha, hl, h1, h2⟩ := isLc_at I1 rv hc
    refine ⟨.inl ⟨rfl, vs, .inl (.inl h1)⟩, se σ env H1 F1 c1 cs1 _ (re.mono x1.le) I1 (PoE.cut po1 _ fun d2 cs2 _ H2 F2 c2 v2 x2 I2 rv2 po2 => ?_)⟩
    split at po2
    · rename_i cs3 h3
      cases d2 with
      | str k =>
        simp only [remL] at h3
        split at h3
        · rename_i l2 hl2
          split at h3
          · rename_i ls hls
            split at h3
            · rename_i hk
              simp only [Option.some.injEq] at h3
              subst h3
              cases rv2
              have ha2 := x2.le.loc _ _ ha
              obtain ⟨f, vs2, hH, r⟩ := I2.cell _ _ _ ha2 hl2
              have ev := strsL_rv r hls
              subst ev
              have hix : ls.idxOf k < ls.length := List.idxOf_lt_length_of_mem hk
              refine ⟨a, ls.map mk, mk k, ls.idxOf k, rfl, rfl, hH, ?_, fun m hm => ?_, ?_⟩
              · rw [List.getElem?_map, List.getElem?_eq_getElem hix, Option.map_some, List.getElem_idxOf hix]
              · have hml : m < ls.length := Nat.lt_trans hm hix
                rw [List.getElem?_map, List.getElem?_eq_getElem hml, Option.map_some]
                intro e
                have e2 := mk_inj (Option.some.inj e)
                have e3 := List.not_of_lt_findIdx (p := (· == k)) (xs := ls) (i := m) hm
                simp [e2] at e3
              · have r2 : RVs (gd X) F2 c2 (((ls.map mk).eraseIdx (ls.idxOf k)).map V.str) (l2.eraseIdx (ls.idxOf k)) := by
                  rw [← erase_mapS]
                  exact RVs.erase r _
                have x4 := Xt.write I2 (o := .lst (((ls.map mk).eraseIdx (ls.idxOf k)).map V.str)) ha2
                exact po2 _ _ _ x4 (I2.write ha2 hl2 rfl ⟨f, _, upd_same, r2⟩) .non .non
            · cases h3
          · cases h3
        · cases h3
      | _ => simp [remL] at h3
    · exact po2.elim
  · exact po1.elim
end
end L3

/-! e.replace("..", "..") inside a written list, behind an item `e + ".."` (a token is out there) -/
namespace L3
open PySem L2 PySem.Spec PyProof.Rows
def XpT (X : Cx) (W : WX) (e : Expr) (m : ME) : Prop := ∃ t, PET X e t ∧ ∀ σ env H F c cs Q, RE (gd X) F c σ env → Ih (gd X) H F c cs → PoE (gd X) (fun a b => W a b σ) H F c (m env cs) Q → t σ H Q
def XaT (X : Cx) (W : WX) (es : List Expr) (m : MA) : Prop := ∃ t, PAT X es t ∧ ∀ σ env H F c cs Q, RE (gd X) F c σ env → Ih (gd X) H F c cs → PoA (gd X) (fun a b => W a b σ) H F c (m env cs) Q → t σ H Q
section
variable {X : Cx} {W : WX} {e o : Expr} {es : List Expr} {m mo : ME} {ms : MA} {pos apos p q c0 c1 : Pos} {y z : Str} {j k : Nat}
theorem sim_cons {ta : TE} {tb : TA} (sa : ∀ σ env H F c cs Q, RE (gd X) F c σ env → Ih (gd X) H F c cs → PoE (gd X) (fun a b => W a b σ) H F c (m env cs) Q → ta σ H Q)
    (sb : ∀ σ env H F c cs Q, RE (gd X) F c σ env → Ih (gd X) H F c cs → PoA (gd X) (fun a b => W a b σ) H F c (ms env cs) Q → tb σ H Q) :
    ∀ σ env H F c cs Q, RE (gd X) F c σ env → Ih (gd X) H F c cs → PoA (gd X) (fun a b => W a b σ) H F c (aCons m ms env cs) Q → tCons ta tb σ H Q := by
  intro σ env H F c cs Q re I po
  refine sa σ env H F c cs _ re I ?_
  unfold aCons at po
  cases h1 : m env cs with
  | ok d cs1 =>
    rw [h1] at po
    simp only at po
    intro H1 F1 c1 x1 I1 v rv
    refine sb σ env H1 F1 c1 cs1 _ (re.mono x1.le) I1 ?_
    cases h2 : ms env cs1 with
    | ok ds cs2 =>
      rw [h2] at po
      exact fun H2 F2 c2 x2 I2 vs rvs => po H2 F2 c2 (x1.trans x2) I2 (v :: vs) (.cons (rv.mono x2.le) rvs)
    | exc n fs cs2 =>
      rw [h2] at po
      have po : ExK (gd X) (fun a b => W a b σ) H F c n fs cs2 := po
      exact ExK.from x1 po
    | stuck => rw [h2] at po; exact po.elim
  | exc n fs cs1 => rw [h1] at po; exact po
  | stuck => rw [h1] at po; exact po.elim
theorem xpT_of (h : Xp X W e m) : XpT X W e m := by
  obtain ⟨t, p, s⟩ := h
  exact ⟨t, fun pins sh σ H Q _ I h => p.run pins sh σ H Q I h, s⟩
theorem xaT_nil : XaT X W [] aNil := ⟨_, pat_nil, fun _ _ _ _ _ _ _ _ I po => po _ _ _ (Xt.refl _ _ _) I [] .nil⟩
theorem xaT_cons (ha : XpT X W e m) (hr : XaT X W es ms) (hs : starEach (e :: es) X.env = (false, eval e X.env) :: starEach es X.env := by rfl) : XaT X W (e :: es) (aCons m ms) := by
  obtain ⟨ta, pa, sa⟩ := ha
  obtain ⟨tb, pb, sb⟩ := hr
  exact ⟨_, pat_cons pa pb hs, sim_cons sa sb⟩
/-- an item `a + ".."`, then items that want a token -/
theorem xa_consP {a : Expr} {ma : ME} {c : Str} {l : List Nat} (hc : c = ⟨l.toArray⟩) (md : Bool) (ha : Xp X W a ma) (hr : XaT X W es ms)
    (hs : starEach (.BinOp a .Add (.Constant (.str c) j p) q :: es) X.env = (false, eval (.BinOp a .Add (.Constant (.str c) j p) q) X.env) :: starEach es X.env := by rfl) :
    Xa X W (.BinOp a .Add (.Constant (.str c) j p) q :: es) (aCons (op2 (addD md) ma (eC (.str l))) ms) := by
  obtain ⟨tb, pb, sb⟩ := hr
  obtain ⟨ta, pa, sa⟩ := ha
  subst hc
  refine ⟨tCons (tOp (rAddAll X.K) ta (tC (.str ⟨l.toArray⟩))) tb, ?_, sim_cons (fun σ env H F c cs Q re I po => sim2 (mb := eC (.str l)) sa (fun σ env H F c cs Q re I po => PoE.here I (.str l) po) (o2_add md) re I po) sb⟩
  constructor
  intro pos pins s σ H Q I h
  rw [hs]
  show wpAny _ _ (spliced ((false, eval (.BinOp a .Add (.Constant (.str ⟨l.toArray⟩) j p) q) X.env) :: backTo pos (starEach es X.env))) _ _ s
  refine Calls.spliced_cons (wpAny_BinOp (thn (pa.run pins s σ H _ I h) fun v s1 ⟨x, H1, I1, r1, q1⟩ => Calls.Constant_str ?_))
  have hb := op_addAll (X := X) pins { s1 with toks := s1.toks + 1 } σ H1 x (.str ⟨l.toArray⟩) v (.str ⟨l.toArray⟩ s1.toks) _ (I1.tok _) r1 ⟨_, rfl⟩ q1
  refine wpAny_mono (PySem.wpAny_toks hb) (fun v2 s2 hq => ?_) fun _ _ z => z.2
  obtain ⟨hk, x2, H2, I2, r2, q2⟩ := hq
  have h1 : 1 ≤ s2.toks := Nat.le_trans (Nat.succ_le_succ (Nat.zero_le _)) hk
  exact thn (pb pos pins s2 σ H2 _ h1 I2 q2) fun us s3 ⟨xs, H3, I3, r3, q3⟩ => ⟨x2 :: xs, H3, I3, .cons r2 r3, q3⟩
/-- x.replace(y, z) of written texts -/
def repD (y z : List Nat) (cs : Cells) (d : D) : R := match d with
  | .str x => if x.length + (x.length + 1) * z.length ≤ 16777216 then .ok (.str (codes (Txt.replace ⟨x.toArray⟩ ⟨y.toArray⟩ ⟨z.toArray⟩))) cs else .stuck
  | _ => .stuck
theorem xpT_repl {ly lz : List Nat} (hy : y = ⟨ly.toArray⟩) (hz : z = ⟨lz.toArray⟩) (ho : Xp X W o mo) (hyz : (y == z) = false)
    (hst : starEach [.Constant (.str y) j c0, .Constant (.str z) k c1] X.env = [(false, eval (.Constant (.str y) j c0) X.env), (false, eval (.Constant (.str z) k c1) X.env)] := by rfl)
    (hbase : attributeBase o "replace" X.env (eval o X.env) = eval o X.env := by rfl) (hline : (apos.endLine == pos.line) = true := by rfl) :
    XpT X W (.Call (.Attribute o "replace" apos) [.Constant (.str y) j c0, .Constant (.str z) k c1] [] pos) (op1 (repD ly lz) mo) := by
  obtain ⟨to, po, so⟩ := ho
  refine ⟨_, CwR.pet_replC po hyz hst hbase hline, fun σ env H F c cs Q re I p => ?_⟩
  refine so σ env H F c cs _ re I (PoE.cut p _ fun d cs1 _ H1 F1 c1 v x1 I1 rv po1 => ?_)
  unfold repD at po1
  split at po1
  · rename_i x
    split at po1
    · rename_i hl
      cases rv
      subst hy hz
      refine ⟨_, rfl, ?_, ?_⟩
      · simpa [PySem.Str.length] using hl
      · exact PoE.here I1 (.str _) po1
    · exact po1.elim
  · exact po1.elim
end
end L3

/-! repr of a list that has cells among its items -/
namespace L3
open PySem L2 PySem.Spec PyProof.Rows
def pyNs (cs : Cells) : List D → Option (List PyData)
  | [] => some []
  | d :: r => match pyOf cs d, pyNs cs r with
    | some p, some q => some (p :: q)
    | _, _ => none
def pyN (cs : Cells) (d : D) : Option PyData := match d with
  | .lst l => (pyNs cs l).map .list
  | d => pyOf cs d
theorem pyNs_reads {P : Program} {w : World} {H F : Hp} {h : Heap} {g : Gd} {c : List Addr} {cs : Cells} (ok : HOk P w H h) (I : Ih g H F c cs) (ns : H sysModules = none) :
    ∀ {v : List V} {d : List D} {p : List PyData} {u : List Value}, RVs g F c v d → pyNs cs d = some p → Vals v u → ∃ as, ReadsAll h u p as ∧ sysModules ∉ as
  | _, _, _, _, .nil, e, r => by
    simp only [pyNs, Option.some.injEq] at e; subst e; cases r
    exact ⟨_, .nil, by simp⟩
  | _, _, _, _, .cons a b, e, r => by
    simp only [pyNs] at e
    split at e
    · rename_i p q e1 e2
      simp only [Option.some.injEq] at e
      subst e
      cases r with
      | cons r1 r2 =>
        obtain ⟨as, h1, n1⟩ := pyOf_reads ok I ns a e1 r1
        obtain ⟨bs, h2, n2⟩ := pyNs_reads ok I ns b e2 r2
        exact ⟨_, .cons h1 h2, by simp [n1, n2]⟩
    · cases e
theorem pyN_reads {P : Program} {w : World} {H F : Hp} {h : Heap} {g : Gd} {c : List Addr} {cs : Cells} (ok : HOk P w H h) (I : Ih g H F c cs) (ns : H sysModules = none) {v : V} {d : D} {p : PyData} {u : Value} (r : RV g F c v d) (e : pyN cs d = some p) (rv : RelV v u) : ∃ as, Reads h u p as ∧ sysModules ∉ as := by
  unfold pyN at e
  split at e
  · simp only [Option.map_eq_some_iff] at e
    obtain ⟨y, e, rfl⟩ := e
    cases r with
    | lst h1 h2 =>
      cases rv
      have h1' := I.sub _ _ h1
      obtain ⟨z, its, n, rv, ho⟩ := (show ObjOk P w H h _ (.lst _) from ok _ _ h1')
      obtain ⟨as, ra, na⟩ := pyNs_reads ok I ns h2 e rv
      exact ⟨_, .list ho rfl rfl ra, ns_mem ns h1' na⟩
  · exact pyOf_reads ok I ns r e rv
def reprND (cs : Cells) : List D → R
  | [.lst l] => match pyN cs (.lst l) with
      | some p => if p.showable = true ∧ p.depth ≤ 60 ∧ p.shown.length ≤ sizeLine then .ok (.str (codes p.shown)) cs else .stuck
      | none => .stuck
  | ds => reprBD cs ds
theorem lst_ref {g : Gd} {F : Hp} {c : List Addr} {v : V} {l : List D} (r : RV g F c v (.lst l)) : ∃ a, v = .ref a := by cases r; exact ⟨_, rfl⟩
theorem cb_reprN {g : Gd} : Cb g (rRepX g.P g.w) reprND := by
  intro W H F c cs vs ds Q I rv po
  unfold reprND at po
  split at po
  · intro hns
    split at po
    · rename_i l p hp
      split at po
      · rename_i hc
        obtain ⟨h1, h2, h3⟩ := hc
        cases rv with
        | cons r1 r2 =>
          cases r2
          obtain ⟨a, rfl⟩ := lst_ref r1
          refine .inr ⟨a, p, rfl, fun h ok => pyN_reads ok I hns r1 hp rfl, h1, h2, h3, ?_⟩
          have := PoE.here I (.str (codes p.shown)) po
          rwa [str_codes] at this
      · exact po.elim
    · exact po.elim
  · exact cb_reprX W H F c cs vs _ Q I rv po
section
variable {X : Cx} {W : WX} {pos p : Pos} {e : Expr} {ms : MA}
theorem xp_reprN {k : Nat} (hG : X.A.guards = some []) (hr : Room k X.A) (hN : NoS X) (hg : Gl X "repr") (hm : X.mg "repr" = none) (ha : Xa X W [e] ms)
    (he : starEach [e] X.env = (false, eval e X.env) :: starEach [] X.env := by rfl) : Xp X W (.Call (.Name "repr" p) [e] [] pos) (eBi reprND ms) :=
  xp_bi (call_repX hG hr.units hN) cb_reprN hg hm bo_repr' ha (he := he)
end
end L3

/-! sorted (of at most one item), list(range(n)), x.index(text) of a list, defs with defaults -/
namespace L3
open PySem L2 PySem.Spec PyProof.Rows
section
variable {X : Cx} {W : WX} {p p2 pos apos : Pos} {a o e : Expr} {ma mo me : ME}
/-! sorted -/
def eSort1 (ma : ME) : ME := fun env cs => (ma env cs).bind fun d cs1 => match listOf cs1 d with
  | some [] => mkL false cs1 []
  | some [.int i] => mkL false cs1 [.int i]
  | _ => .stuck
theorem xp_sort1 (hg : Gl X "sorted") (hm : X.mg "sorted" = none) (bo : bootBuiltins "sorted" = some (.builtin "sorted")) (ha : Xp X W a ma) (hs : starEach [a] X.env = (false, eval a X.env) :: starEach [] X.env := by rfl) (hp : (backTo pos (starEach ([] : List Expr) X.env)).any (·.1) = false := by rfl) :
    Xp X W (.Call (.Name "sorted" p) [a] [] pos) (eSort1 ma) := by
  obtain ⟨ta, pa, sa⟩ := ha
  refine ⟨_, pe_callB cr_sorted hg hm bo (pa_cons pa pa_nil hs) (by decide) (by decide) hs hp, fun σ env H F c cs Q re I po => ?_⟩
  refine sa σ env H F c cs _ re I (PoE.cut po _ fun d cs1 _ H1 F1 c1 v x1 I1 rv po1 => ?_)
  split at po1
  · rename_i hds
    obtain ⟨q, vs, rfl, h1, h2⟩ := listOf_at I1 rv hds
    cases h2
    refine ⟨q, [], rfl, .inl (.inl h1), by decide, fun ns' p' hpm _ hp' => ?_⟩
    have : ns' = [] := List.Perm.eq_nil hpm
    subst this
    exact mkL_ok I1 .nil po1 hp'
  · rename_i i hds
    obtain ⟨q, vs, rfl, h1, h2⟩ := listOf_at I1 rv hds
    cases h2 with
    | cons r1 r2 =>
      cases r1
      cases r2
      refine ⟨q, [i], rfl, .inl (.inl h1), by simp, fun ns' p' hpm _ hp' => ?_⟩
      have : ns' = [i] := List.perm_singleton.mp hpm
      subst this
      exact mkL_ok I1 (.cons (.int i) .nil) po1 hp'
  · exact po1.elim
/-! list(range(n)) -/
def eListRg (me : ME) : ME := fun env cs => (me env cs).bind fun d cs1 => match d with
  | .int n => if 0 ≤ n ∧ n ≤ 1000000 then mkL false cs1 ((List.range n.toNat).map fun i => .int (i : Nat)) else .stuck
  | _ => .stuck
theorem rvs_rg {g : Gd} {F : Hp} {c : List Addr} : ∀ l : List Nat, RVs g F c (l.map fun i => V.int (0 + (i : Nat))) (l.map fun i => D.int (i : Nat))
  | [] => .nil
  | i :: r => by
    rw [List.map_cons, List.map_cons, Int.zero_add]
    exact .cons (.int _) (rvs_rg r)
theorem xp_listRg (hc : X.calm = true) (hg : Gl X "list") (hm : X.mg "list" = none) (hgr : Gl X "range") (hmr : X.mg "range" = none) (he : Xp X W e me)
    (na : starEach [e] X.env = (false, eval e X.env) :: starEach [] X.env := by rfl) (na2 : starEach [.Call (.Name "range" p2) [e] [] pos'] X.env = (false, eval (.Call (.Name "range" p2) [e] [] pos') X.env) :: starEach [] X.env := by rfl) :
    Xp X W (.Call (.Name "list" p) [.Call (.Name "range" p2) [e] [] pos'] [] pos) (eListRg me) := by
  obtain ⟨te, pe', se⟩ := he
  refine ⟨_, pe_listRg hc hg hm (prg_1 hgr hmr pe' na) na2, fun σ env H F c cs Q re I po => ?_⟩
  refine se σ env H F c cs _ re I (PoE.cut po _ fun d cs1 _ H1 F1 c1 v x1 I1 rv po1 => ?_)
  split at po1
  · rename_i n _
    split at po1
    · rename_i hn
      cases rv
      refine ⟨n, rfl, RgOk.of_le (by decide) (by omega) (by decide) hn.1, fun q hq => ?_⟩
      have hr : RVs (gd X) F1 c1 (rgV 0 n) ((List.range n.toNat).map fun i => D.int (i : Nat)) := by
        unfold rgV
        rw [Int.sub_zero]
        exact rvs_rg _
      exact mkL_ok I1 hr po1 hq
    · exact po1.elim
  · exact po1.elim
end
/-! x.index(text) -/
section
variable {X : Cx} {W : WX} {pos apos : Pos} {o e : Expr} {mo me : ME}
def eLidx (mo me : ME) : ME := fun env cs => (mo env cs).bind fun o cs1 => if isLc cs1 o = true then (me env cs1).bind fun v cs2 => match listOf cs2 o, v with
    | some ds, .str k => match strsL ds with
      | some ls => if k ∈ ls then .ok (.int (ls.idxOf k : Nat)) cs2 else .stuck
      | none => .stuck
    | _, _ => .stuck
  else .stuck
theorem flat_mk (ls : List (List Nat)) : ((ls.map mk).map V.str).all flatV = true := by
  induction ls with
  | nil => rfl
  | cons a r ih => rw [List.map_cons, List.map_cons, List.all_cons, ih]; rfl
theorem xp_lidx (ho : Xp X W o mo) (he : Xp X W e me)
    (hbase : attributeBase o "index" X.env (eval o X.env) = eval o X.env := by rfl)
    (hfew : ((backTo pos (starEach [e] X.env)).all (fun x => !x.1) && (backToKw pos (keywordEach [] X.env)).all (fun x => x.1.isSome)
      && decide ([e].length + ([] : List Keyword).length + (if ([] : List Keyword).isEmpty then 0 else 1) < 30)) = true := by rfl)
    (hline : (apos.endLine == pos.line) = true := by rfl) (hs : starEach [e] X.env = (false, eval e X.env) :: starEach [] X.env := by rfl) (hplain : (backTo pos (starEach [] X.env)).any (·.1) = false := by rfl) :
    Xp X W (.Call (.Attribute o "index" apos) [e] [] pos) (eLidx mo me) := by
  obtain ⟨to, po', so⟩ := ho
  obtain ⟨te, pe', se⟩ := he
  refine ⟨_, pe_bm F.plainAttrs_list F.slot_list_index F.type_list_index mt_index po' (pa_cons pe' pa_nil hs) hbase hfew hline hs hplain, fun σ env H F c cs Q re I po => ?_⟩
  refine so σ env H F c cs _ re I (PoE.cut po _ fun d cs1 _ H1 F1 c1 v x1 I1 rv po1 => ?_)
  split at po1
  · rename_i hc
    obtain ⟨n, a, l, vs, rfl, rfl, ha, hl, h1, h2⟩ := isLc_at I1 rv hc
    refine ⟨.inl ⟨rfl, vs, .inl (.inl h1)⟩, se σ env H1 F1 c1 cs1 _ (re.mono x1.le) I1 (PoE.cut po1 _ fun d2 cs2 _ H2 F2 c2 v2 x2 I2 rv2 po2 => ?_)⟩
    split at po2
    · rename_i ds k hds _
      split at po2
      · rename_i ls hls
        split at po2
        · rename_i hk
          obtain ⟨q, us, e1, hH, r⟩ := listOf_at I2 (rv.mono x2.le) hds
          cases e1
          cases rv2
          have ev := strsL_rv r hls
          subst ev
          have hix : ls.idxOf k < ls.length := List.idxOf_lt_length_of_mem hk
          refine ⟨_, (ls.map mk).map V.str, .str (mk k), ls.idxOf k, .str (mk k), rfl, rfl, .inl (.inl hH), rfl, flat_mk ls, ?_, ?_, fun m z hm hz => ?_, PoE.here I2 (.int _) po2⟩
          · rw [List.getElem?_map, List.getElem?_map, List.getElem?_eq_getElem hix, List.getElem_idxOf hix]; rfl
          · show ((mk k : Str) == mk k) = true
            exact beq_self_eq_true _
          · have hml : m < ls.length := Nat.lt_trans hm hix
            rw [List.getElem?_map, List.getElem?_map, List.getElem?_eq_getElem hml] at hz
            simp only [Option.map_some, Option.some.injEq] at hz
            subst hz
            show ((mk ls[m] : Str) == mk k) = false
            rw [beq_eq_false_iff_ne]
            intro e
            have e2 := mk_inj e
            have e3 := List.not_of_lt_findIdx (p := (· == k)) (xs := ls) (i := m) hm
            simp [e2] at e3
        · exact po2.elim
      · exact po2.elim
    · exact po2.elim
  · exact po1.elim
end
/-! ### defs with defaults, all arguments given -/
structure FunX (K : PySem.W.Frag) (x qual : Str) (st : Stmt) (f : Addr) (fd : FuncData) : Prop where
  ex : ∃ (oc : Value) (od : Option Addr) (dV kV doc pm : Value) (an : Option Addr) (cdv ct : Value) (osl : Array (Option Value)),
    fd = PySem.W.fnOf x qual (defArgs st) (defBody st) (defScope st) dV kV doc pm an cdv ct ∧ K.lookup f = some ⟨oc, od, .func fd, osl⟩ ∧ PySem.W.codeIn K cdv qual = true
  kp : PySem.W.keepIn K (.ref f) = true
section
variable {P : Program} {w : World} {K : PySem.W.Frag} {mg : Str → Option Value} {base : Heap} {k : Nat} {f : Addr} {fd : FuncData} {ps : List Str} {sp : Sp}
theorem fnG_ofX {x qual : Str} {st : Stmt} {N : List Str} (Fn : FunX K x qual st f fd) (S : FnScope N ps (defScope st)) (len : ∀ vs H Q E, sp vs H Q E → vs.length = ps.length)
    (hbody : ∀ (cdv : Value) (A : Around) (outer : List PySem.Env) (s : Shared) (H : Hp) (vs : List V) (Q : VK) (E : XK), A.guards = some [] → Room k (A.deeper (envOfC qual (defScope st) s.heap.objs.size f cdv)) → sp vs H Q E →
      ∃ t, PSs (cxOf (L2.CX P w) P w K mg base N qual (defScope st) f cdv A outer s H E) (defBody st) t ∧ t { nx := fun _ H' => Q .non H', rt := Q } (start N vs) H) : FnG P w K mg base (k + 1) f fd ps sp := by
  obtain ⟨oc, od, dV, kV, doc, pm, an, cdv, ct, osl, rfl, lk, hcd⟩ := Fn.ex
  constructor
  · exact len
  intro A outer s H args us vs Q E hG hr e0 hb rv hsp
  have hl := len _ _ _ _ hsp
  have KX : K.In s.heap := e0.mod.kin.keeps fun b o e => (e0.bs b o e).1
  have lim : s.heap.NoLimit := e0.mod.nolimit.keeps fun b o e => (e0.bs b o e).1
  have kinds : ∀ y ∈ ps.zip us, (defScope st).names.lookup y.1 = some .local ∨ ((defScope st).names.lookup y.1 = some .cell ∧ ((cellsFrom (s.heap.objs.size + 1) (defScope st).names []).lookup y.1).isSome = true) := by
    rintro ⟨n, v⟩ hy
    rcases S.par n (List.of_mem_zip hy).1 with q | q
    · exact .inl q
    · exact .inr ⟨q, PySem.W.cellsFrom_some _ _ _ (.inl q)⟩
  refine codeAny_call_function hr.depth (KX _ _ lk) rfl S.co S.gen rfl (PySem.W.codeRec_of KX hcd) (hb _ _ _ _ (wpAny_newFunctionEnv_cells S.kind kinds fun env he s1 x => ?_))
  subst he
  refine ⟨lim.keeps x.toInCall.keep, codeAny_func ?_⟩
  obtain ⟨t, ht, hq⟩ := hbody cdv A outer s H vs Q E hG (hr.deeper _) hsp
  have I : Inv (cxOf (L2.CX P w) P w K mg base N qual (defScope st) f cdv A outer s H E) [] (start N vs) H s1 := inv_start S hr.hd e0 hl rv x
  refine wpAny_mono (ht.run [] s1 (start N vs) H _ I hq) (fun fl s' r => ?_) fun e s' r => r
  cases fl with
  | ret u => obtain ⟨v, z, G, J, r', q⟩ := r; exact ⟨v, G, J.os, J.bare, J.base, J.hok, r', q⟩
  | next => obtain ⟨z, G, J, q⟩ := r; exact ⟨.non, G, J.os, J.bare, J.base, J.hok, rfl, q⟩
  | brk => obtain ⟨_, _, _, q⟩ := r; exact q.elim
  | cont => obtain ⟨_, _, _, q⟩ := r; exact q.elim
theorem fnMGX {x qual : Str} {st : Stmt} {N : List Str} (F : FunX K x qual st f fd) (S : FnScope N ps (defScope st)) (body : MS)
    (h : ∀ (cdv : Value) (A : Around) (outer : List PySem.Env) (s : Shared) (H : Hp) (E : XK), A.guards = some [] → Room k (A.deeper (PyProof.Rows.envOfC qual (defScope st) s.heap.objs.size f cdv)) →
      Sms (cxOf (L2.CX P w) P w K mg base N qual (defScope st) f cdv A outer s H E) (fun cls d _ H => E cls d H) (defBody st) body) :
    FnG P w K mg base (k + 1) f fd ps (spM ⟨P, w, K, mg⟩ (mDef N.length body) ps.length) := by
  refine fnG_ofX F S (fun vs H Q E h => h.1) fun cdv A outer s H vs Q E hG hr ⟨hl, F0, c, cs, ds, I, rv, po⟩ => ?_
  obtain ⟨t, pt, st⟩ := h cdv A outer s H E hG hr
  refine ⟨t, pt, st _ _ H F0 c cs _ (re_start rv N) I ?_⟩
  unfold mDef at po
  cases hb : body (ds.map some ++ List.replicate (N.length - ds.length) none) cs with
  | nx e c1 => rw [hb] at po; exact fun H' F' c' x I' σ re => po H' F' c' x I' .non .non
  | rt d c1 => rw [hb] at po; exact po
  | exc n fs e c1 => rw [hb] at po; exact fun H' F' c' x I' σ C dx vs _ a b d => po H' F' c' x I' C dx vs a b d
  | bk e c1 => rw [hb] at po; exact po.elim
  | ct e c1 => rw [hb] at po; exact po.elim
  | stuck => rw [hb] at po; exact po.elim
theorem funx_mk {x qual : Str} {st : Stmt} {oc : Value} {od an : Option Addr} {osl : Array (Option Value)} {dV kV doc pm cdv ct : Value} (l : K.lookup f = some ⟨oc, od, .func (PySem.W.fnOf x qual (defArgs st) (defBody st) (defScope st) dV kV doc pm an cdv ct), osl⟩)
    (c : PySem.W.codeIn K cdv qual = true) (k : PySem.W.keepIn K (.ref f) = true) : FunX K x qual st f (PySem.W.fnOf x qual (defArgs st) (defBody st) (defScope st) dV kV doc pm an cdv ct) := ⟨⟨oc, od, dV, kV, doc, pm, an, cdv, ct, osl, rfl, l, c⟩, k⟩
/-- every parameter is given; the defaults stand in a tuple at T -/
theorem bindsX {x qual : Str} {st : Stmt} {T : Addr} {an : Option Addr} {kV doc pm cdv ct : Value} {o : Obj} {its : List Value} {n m : Nat} (lT : K.lookup T = some o) (oT : o.data = .seq its.toArray n) (hm : its.length = m)
    (h : ∀ us its : List Value, us.length = ps.length → its.length = m → ∃ k, bindArgs (PySem.W.fnOf x qual (defArgs st) (defBody st) (defScope st) (.ref T) kV doc pm an cdv ct) ⟨us, []⟩ = seqItems? (.ref T) >>= k ∧ k (some its.toArray) = pure (ps.zip us)) :
    Binds K (PySem.W.fnOf x qual (defArgs st) (defBody st) (defScope st) (.ref T) kV doc pm an cdv ct) ps [] := by
  intro s us X hl
  rw [List.append_nil] at hl ⊢
  obtain ⟨k, e1, e2⟩ := h us its hl hm
  refine BindsTo.of_looks fun M => ?_
  rw [e1]
  exact looks_items X lT oT (.of_pure e2)
theorem ownG_mkX {n : Nat} {x qual : Str} {m : MF} {st : Stmt} (Fn : FunX K x qual st f fd) (F : FnG P w K mg base k f fd ps (spM ⟨P, w, K, mg⟩ m ps.length)) (hm : mg x = some (.ref f)) (hb : Binds K fd ps []) (hn : ps.length = n) : OwnG P w K mg base k x n m := by
  subst hn
  exact ⟨f, fd, ps, F, hm, Fn.kp, hb⟩
end
end L3

namespace L3
open PySem L2
theorem nr {α : Sort _} {a b : α} (h : a = b) : a = b := h

/-! ### what comes out: by conditions -/
abbrev KX := Str → List (Str × D) → Cells → Prop
def RP (r : R) (P : D → Cells → Prop) (X : KX) : Prop := match r with
  | .ok d cs => P d cs
  | .exc n fs cs => X n fs cs
  | .stuck => False
def RAP (r : RA) (P : List D → Cells → Prop) (X : KX) : Prop := match r with
  | .ok d cs => P d cs
  | .exc n fs cs => X n fs cs
  | .stuck => False
structure Cn where
  nx : Env → Cells → Prop
  rt : D → Cells → Prop
  bk : Env → Cells → Prop
  ct : Env → Cells → Prop
  xc : Str → List (Str × D) → Env → Cells → Prop
def SP (s : S) (K : Cn) : Prop := match s with
  | .nx e c => K.nx e c
  | .rt d c => K.rt d c
  | .bk e c => K.bk e c
  | .ct e c => K.ct e c
  | .exc n fs e c => K.xc n fs e c
  | .stuck => False
def noX : KX := fun _ _ _ => False
section
variable {P P' : D → Cells → Prop} {X : KX} {K : Cn} {env : Env} {cs : Cells} {a b c t : ME} {ms : MA} {d e : D}
theorem RP_ok : RP (.ok d cs) P X = P d cs := nr rfl
theorem RP_bind (r : R) (f : D → Cells → R) : RP (r.bind f) P X = RP r (fun d c => RP (f d c) P X) X := by cases r <;> rfl
theorem RAP_bind (r : RA) (f : List D → Cells → R) : RP (r.bind f) P X = RAP r (fun d c => RP (f d c) P X) X := by cases r <;> rfl
theorem RP.mono {r : R} (h : RP r P X) (k : ∀ d cs, P d cs → P' d cs) : RP r P' X := by
  cases r with
  | ok d cs => exact k d cs h
  | exc n fs cs => exact h
  | stuck => exact h
theorem RP.get {r : R} (h : RP r P noX) : ∃ d cs, r = .ok d cs ∧ P d cs := by
  cases r with
  | ok d cs => exact ⟨d, cs, rfl, h⟩
  | exc n fs cs => exact h.elim
  | stuck => exact h.elim
theorem SP_bind (s : S) (k : Env → Cells → S) : SP (s.bind k) K = SP s { K with nx := fun e c => SP (k e c) K } := by cases s <;> rfl
theorem SP_toS (r : R) (k : D → Cells → S) : SP (r.toS env k) K = RP r (fun d c => SP (k d c) K) (fun n fs c => K.xc n fs env c) := by cases r <;> rfl
/-! statements -/
theorem sp_nx : SP (sNx env cs) K = K.nx env cs := nr rfl
theorem sp_seq {a b : MS} : SP (sSeq a b env cs) K = SP (a env cs) { K with nx := fun e c => SP (b e c) K } := SP_bind _ _
theorem sp_asg {i : Nat} : SP (sAsg i a env cs) K = RP (a env cs) (fun d c => K.nx (env.set i (some d)) c) (fun n fs c => K.xc n fs env c) := SP_toS _ _
theorem sp_ret : SP (sRet a env cs) K = RP (a env cs) K.rt (fun n fs c => K.xc n fs env c) := SP_toS _ _
theorem sp_drop : SP (sDrop a env cs) K = RP (a env cs) (fun _ c => K.nx env c) (fun n fs c => K.xc n fs env c) := SP_toS _ _
theorem sp_if {x y : MS} : SP (sIf t x y env cs) K = RP (t env cs) (fun d c => SP (brS d (x env c) (y env c)) K) (fun n fs c => K.xc n fs env c) := SP_toS _ _
theorem SP_brS {k : Bool} {x y : S} : SP (brS (.bl k) x y) K = if k = true then SP x K else SP y K := by cases k <;> rfl
theorem sp_put : SP (sPut a b c env cs) K = RP (c env cs) (fun v c1 => RP (a env c1) (fun o c2 => RP (b env c2) (fun i c3 => ∃ c4, putL c3 o i v = some c4 ∧ K.nx env c4) (fun n fs c => K.xc n fs env c)) (fun n fs c => K.xc n fs env c)) (fun n fs c => K.xc n fs env c) := by
  unfold sPut
  simp only [SP_toS]
  congr; funext v c1; congr; funext o c2; congr; funext i c3
  cases h : putL c3 o i v with
  | none => simp [SP]
  | some c4 => simp [SP]
/-! expressions -/
theorem rp_var {i : Nat} (h : env[i]? = some (some d)) : RP (eVar i env cs) P X = P d cs := by
  unfold eVar; rw [h]; rfl
theorem rp_c : RP (eC d env cs) P X = P d cs := nr rfl
theorem rp_op2 {f : Cells → D → D → R} : RP (op2 f a b env cs) P X = RP (a env cs) (fun x c1 => RP (b env c1) (fun y c2 => RP (f c2 x y) P X) X) X := by
  unfold op2; simp only [RP_bind]
theorem rp_op1 {f : Cells → D → R} : RP (op1 f a env cs) P X = RP (a env cs) (fun x c1 => RP (f c1 x) P X) X := RP_bind _ _
theorem RP_brD {k : Bool} {x y : Cells → R} : RP (brD (.bl k) cs x y) P X = if k = true then RP (x cs) P X else RP (y cs) P X := by cases k <;> rfl
theorem rp_and : RP (eAnd a b env cs) P X = RP (a env cs) (fun x c1 => RP (brD x c1 (b env) fun c2 => .ok (.bl false) c2) P X) X := RP_bind _ _
theorem rp_or : RP (eOr a b env cs) P X = RP (a env cs) (fun x c1 => RP (brD x c1 (fun c2 => .ok (.bl true) c2) (b env)) P X) X := RP_bind _ _
theorem rp_not : RP (eNot a env cs) P X = RP (a env cs) (fun x c1 => RP (notD c1 x) P X) X := RP_bind _ _
theorem rp_notD {k : Bool} : RP (notD cs (.bl k)) P X = P (.bl !k) cs := nr rfl
theorem rp_if : RP (eIf t a b env cs) P X = RP (t env cs) (fun x c1 => RP (brD x c1 (a env) (b env)) P X) X := RP_bind _ _
theorem rap_nil {Q : List D → Cells → Prop} : RAP (aNil env cs) Q X = Q [] cs := nr rfl
theorem rap_cons {Q : List D → Cells → Prop} : RAP (aCons a ms env cs) Q X = RP (a env cs) (fun d c1 => RAP (ms env c1) (fun ds c2 => Q (d :: ds) c2) X) X := by
  unfold aCons
  cases a env cs with
  | ok d c1 =>
    simp only [RP]
    cases ms env c1 <;> rfl
  | exc => rfl
  | stuck => rfl
theorem rp_call {m : MF} : RP (eCall m ms env cs) P X = RAP (ms env cs) (fun ds c => RP (m ds c) P X) X := RAP_bind _ _
theorem rp_bi {f : Cells → List D → R} : RP (eBi f ms env cs) P X = RAP (ms env cs) (fun ds c => RP (f c ds) P X) X := RAP_bind _ _
theorem rp_list {md : Bool} : RP (eList md ms env cs) P X = RAP (ms env cs) (fun ds c => RP (mkL md c ds) P X) X := RAP_bind _ _
theorem rp_tup : RP (eTup ms env cs) P X = RAP (ms env cs) (fun ds c => RP (mkT c ds) P X) X := RAP_bind _ _
theorem rp_mkLf {ds : List D} (h : ds.length ≤ sizeLine) : RP (mkL false cs ds) P X = P (.lst ds) cs := by
  unfold mkL; rw [if_pos h]; rfl
theorem rp_mkLt {ds : List D} (h : ds.length ≤ sizeLine) : RP (mkL true cs ds) P X = P (.loc cs.length) (cs ++ [.lst ds]) := by
  unfold mkL; rw [if_pos h]; rfl
theorem rp_mkT {ds : List D} (h : ds.length ≤ sizeLine) : RP (mkT cs ds) P X = P (.tup ds) cs := by
  unfold mkT; rw [if_pos h]; rfl
theorem rp_chain {f f' : Cells → D → D → R} : RP (eChain f f' a b c env cs) P X = RP (a env cs) (fun x c1 => RP (b env c1) (fun y c2 => RP (f c2 x y) (fun z c3 => RP (brD z c3 (fun c4 => (c env c4).bind fun w c5 => f' c5 y w) fun c4 => .ok (.bl false) c4) P X) X) X) X := by
  unfold eChain; simp only [RP_bind]
theorem rp_m0 {f : Cells → List Nat → R} : RP (eM0 f a env cs) P X = RP (a env cs) (fun x c1 => match x with | .str l => RP (f c1 l) P X | _ => False) X := by
  unfold eM0; rw [RP_bind]; congr; funext x c1; cases x <;> rfl
theorem rp_m1 {f : Cells → List Nat → D → R} : RP (eM1 f a b env cs) P X = RP (a env cs) (fun x c1 => match x with | .str l => RP (b env c1) (fun y c2 => RP (f c2 l y) P X) X | _ => False) X := by
  unfold eM1; rw [RP_bind]; congr; funext x c1; cases x <;> first | rfl | exact RP_bind _ _
/-! primitives -/
variable {i j : Int} {k l : List Nat} {md : Bool}
theorem rp_addI : RP (addD md cs (.int i) (.int j)) P X = P (.int (i + j)) cs := nr rfl
theorem rp_addS (h : k.length + l.length ≤ sizeLine) : RP (addD md cs (.str k) (.str l)) P X = P (.str (k ++ l)) cs := by
  show RP (if _ then _ else _) P X = _
  rw [if_pos h]; rfl
theorem rp_addL {x y : List D} : RP (addD md cs (.lst x) (.lst y)) P X = RP (mkL md cs (x ++ y)) P X := nr rfl
theorem rp_sub : RP (subD cs (.int i) (.int j)) P X = P (.int (i - j)) cs := nr rfl
theorem rp_mulI (h : (-big < i ∧ i < big) ∨ (-big < j ∧ j < big)) : RP (mulD md cs (.int i) (.int j)) P X = P (.int (i * j)) cs := by
  show RP (if _ then _ else _) P X = _
  rw [if_pos h]; rfl
theorem rp_mulS (h : -1000 ≤ j ∧ j ≤ 1000 ∧ k.length ≤ 1000) : RP (mulD md cs (.str k) (.int j)) P X = P (.str (List.replicate j.toNat k).flatten) cs := by
  show RP (if _ then _ else _) P X = _
  rw [if_pos h]; rfl
theorem rp_fdiv (h : 0 < j ∧ j < big) : RP (fdivD cs (.int i) (.int j)) P X = P (.int (i / j)) cs := by
  show RP (if _ then _ else _) P X = _
  rw [if_pos h]; rfl
theorem rp_mod (h : 0 < j) : RP (modD cs (.int i) (.int j)) P X = P (.int (i % j)) cs := by
  show RP (if _ then _ else _) P X = _
  rw [if_pos h]; rfl
theorem rp_pow (h : 0 ≤ j ∧ j ≤ 1000000 ∧ -big < i ∧ i < big) : RP (powD cs (.int i) (.int j)) P X = P (.int (i ^ j.toNat)) cs := by
  show RP (if _ then _ else _) P X = _
  rw [if_pos h]; rfl
theorem rp_neg : RP (negD cs (.int i)) P X = P (.int (-i)) cs := nr rfl
theorem rp_lt : RP (ltD cs (.int i) (.int j)) P X = P (.bl (decide (i < j))) cs := nr rfl
theorem rp_le : RP (leD cs (.int i) (.int j)) P X = P (.bl (decide (i ≤ j))) cs := nr rfl
theorem rp_gt : RP (gtD cs (.int i) (.int j)) P X = P (.bl (decide (j < i))) cs := nr rfl
theorem rp_ge : RP (geD cs (.int i) (.int j)) P X = P (.bl (decide (j ≤ i))) cs := nr rfl
theorem rp_eqS : RP (eqD cs (.str k) (.str l)) P X = P (.bl (decide (k = l))) cs := nr rfl
theorem rp_neS : RP (neD cs (.str k) (.str l)) P X = P (.bl (!decide (k = l))) cs := nr rfl
theorem rp_eqI : RP (eqD cs (.int i) (.int j)) P X = P (.bl (decide (i = j))) cs := nr rfl
theorem rp_neI : RP (neD cs (.int i) (.int j)) P X = P (.bl (!decide (i = j))) cs := nr rfl
theorem rp_max : RP (maxB cs [.int i, .int j]) P X = P (.int (if j > i then j else i)) cs := nr rfl
theorem rp_min : RP (minB cs [.int i, .int j]) P X = P (.int (if j < i then j else i)) cs := nr rfl
theorem rp_lenScr {ns : List Int} : RP (lenB cs [.scr ns]) P X = P (.int ns.length) cs := by
  show P (.int ((ns.map D.int).length : Nat)) cs = _
  rw [List.length_map]
theorem rp_lenLst {ds : List D} : RP (lenB cs [.lst ds]) P X = P (.int ds.length) cs := nr rfl
theorem rp_lenTup {ds : List D} : RP (lenB cs [.tup ds]) P X = P (.int ds.length) cs := nr rfl
theorem rp_lenS (h : l.length ≤ sizeLine) : RP (lenB cs [.str l]) P X = P (.int l.length) cs := by
  show RP (if _ then _ else _) P X = _
  rw [if_pos h]; rfl
theorem rp_strI (h : i.natAbs.log2 < 1920) : RP (strB cs [.int i]) P X = P (.str (codes (toString i))) cs := by
  show RP (if _ then _ else _) P X = _
  rw [if_pos h]; rfl
theorem rp_repr {z : List Nat} (h : reprC d = some z) : RP (reprB cs [d]) P X = P (.str z) cs := by
  show RP (match reprC d with | some l => _ | none => _) P X = _
  rw [h]; rfl
theorem rp_isi {t u : String} {v : Bool} (h : tyC cs d = some u) (q : kitB u t = some v) : RP (isiD t cs d) P X = P (.bl v) cs := by
  unfold isiD; rw [h]; simp only; rw [q]; rfl
theorem rp_ixS {ch : Nat} (h : l.length ≤ sizeLine) (q : atI l i = some ch) : RP (ixD cs (.str l) (.int i)) P X = P (.str [ch]) cs := by
  show RP (if _ then _ else _) P X = _
  rw [if_pos h, q]; rfl
theorem rp_ixL {ds : List D} (q : atI ds i = some d) : RP (ixD cs (.lst ds) (.int i)) P X = P d cs := by
  show RP (match atI ds i with | some d => _ | none => _) P X = _
  rw [q]; rfl
theorem rp_ixScr {ns : List Int} {z : Int} (q : atI ns i = some z) : RP (ixD cs (.scr ns) (.int i)) P X = P (.int z) cs := by
  show RP (match atI (ns.map D.int) i with | some d => _ | none => _) P X = _
  have : atI (ns.map D.int) i = some (.int z) := by
    unfold atI at q ⊢
    rw [List.length_map]
    cases h : ixN ns.length i with
    | none => rw [h] at q; cases q
    | some m =>
      rw [h] at q
      show (ns.map D.int)[m]? = _
      rw [List.getElem?_map, show ns[m]? = some z from q]; rfl
  rw [this]; rfl
theorem rp_ixLoc {ds : List D} {n : Nat} (h : cs[n]? = some (.lst ds)) (q : atI ds i = some d) : RP (ixD cs (.loc n) (.int i)) P X = P d cs := by
  unfold ixD
  simp only [seqOf, listOf, h, q]
  rfl
theorem at_mid {α : Type} {ds : List α} {i : Int} (h0 : 0 ≤ i) (h1 : i < ds.length) : ∃ d, atI ds i = some d ∧ d ∈ ds ∧ ds[i.toNat]? = some d := by
  have hn : i.toNat < ds.length := by omega
  refine ⟨ds[i.toNat], ?_, List.getElem_mem hn, List.getElem?_eq_getElem hn⟩
  unfold atI ixN
  rw [if_pos (by omega)]
  first | rw [if_pos h1] | rw [if_pos (by omega)]
  simp [List.getElem?_eq_getElem hn]
/-! slices of a text -/
theorem rp_sl {lo hi : MO} : RP (eSl md a lo hi env cs) P X = RP (a env cs) (fun x c1 => match lo env c1 with
  | some (l, c2) => (match hi env c2 with
    | some (h, c3) => RP (slD md c3 x l h) P X
    | none => False)
  | none => False) X := by
  unfold eSl
  rw [RP_bind]
  congr; funext x c1
  cases lo env c1 with
  | none => rfl
  | some q =>
    obtain ⟨q1, q2⟩ := q
    simp only
    cases hi env q2 with
    | none => rfl
    | some r => rfl
theorem rp_slS {lo hi : Option Int} (h : l.length ≤ sizeLine) : RP (slD md cs (.str l) lo hi) P X = P (.str (cutL l lo hi)) cs := by
  show RP (if _ then _ else _) P X = _
  rw [if_pos h]; rfl
theorem rp_slL {ds : List D} {lo hi : Option Int} : RP (slD md cs (.lst ds) lo hi) P X = RP (mkL md cs (cutL ds lo hi)) P X := nr rfl
theorem ro_some {env : Env} {cs c1 : Cells} {m : ME} {i : Int} (h : m env cs = .ok (.int i) c1) : oSome m env cs = some (some i, c1) := by
  unfold oSome; rw [h]
theorem ro_var {i : Nat} {j : Int} (h : env[i]? = some (some (.int j))) : oSome (eVar i) env cs = some (some j, cs) := ro_some (by unfold eVar; rw [h])
theorem ro_var1 {i : Nat} {j n : Int} (h : env[i]? = some (some (.int j))) : oSome (op2 (addD md) (eVar i) (eC (.int n))) env cs = some (some (j + n), cs) := ro_some (by unfold op2 eVar; rw [h]; rfl)
theorem cutL_len {α : Type} (xs : List α) (lo hi : Option Int) : (cutL xs lo hi).length ≤ xs.length := by
  unfold cutL
  rw [List.length_take, List.length_drop]
  omega
/-! joins, signs -/
theorem rp_join {ds : List D} {y : D} {ls : List (List Nat)} (h : seqOf cs y = some ds) (q : strsOf ds = some ls) (z : (ls.map (·.length)).sum + ls.length * l.length ≤ 16777216) : RP (joinD cs l y) P X = P (.str (TL.joinL l ls)) cs := by
  unfold joinD; rw [h]; simp only; rw [q]; simp only; rw [if_pos z]; rfl
theorem rp_six {ch : Nat} (h : ch ∈ l) : RP (sixD cs l (.str [ch])) P X = P (.int ((l.idxOf ch : Nat) : Int)) cs := by
  unfold sixD; simp only; rw [if_pos h]; rfl
theorem rp_inS {ch : Nat} : RP (inD cs (.str [ch]) (.str l)) P X = P (.bl (decide (ch ∈ l))) cs := nr rfl
theorem rp_ninS {ch : Nat} : RP (ninD cs (.str [ch]) (.str l)) P X = P (.bl (!decide (ch ∈ l))) cs := nr rfl
theorem rp_all {ds : List D} {bs : List Bool} {y : D} (h : listOf cs y = some ds) (q : blsOf ds = some bs) : RP (allB cs [y]) P X = P (.bl (bs.all id)) cs := by
  unfold allB; simp only; rw [h]; simp only; rw [q]; rfl
theorem rp_int {n : Int} (h : PySem.intText? ⟨l.toArray⟩ = some n) (q : l.length ≤ 640) : RP (intB cs [.str l]) P X = P (.int n) cs := by
  unfold intB; simp only; rw [h]; simp only; rw [if_pos q]; rfl
/-! defs -/
theorem rp_def {n : Nat} {body : MS} {ds : List D} : RP (mDef n body ds cs) P X = SP (body (ds.map some ++ List.replicate (n - ds.length) none) cs) ⟨fun _ c => P .non c, P, fun _ _ => False, fun _ _ => False, fun x fs _ c => X x fs c⟩ := by
  unfold mDef
  cases body (ds.map some ++ List.replicate (n - ds.length) none) cs <;> rfl
/-! loops -/
def WP (r : RW) (P : List D → (Cells → Prop) → Cells → Prop) (X : KX) : Prop := match r with
  | .ok ds k c => P ds k c
  | .exc n fs c => X n fs c
  | .stuck => False
theorem sp_for {tg : D → Env → Option Env} {m : MW} {body : MS} : SP (sFor tg m body env cs) K = WP (m env cs) (fun ds k c => SP (forL k tg body ds env c) K) (fun n fs c => K.xc n fs env c) := by
  unfold sFor
  cases m env cs <;> rfl
theorem wp_toW (r : R) (k : D → Cells → RW) (Q : List D → (Cells → Prop) → Cells → Prop) : WP (r.toW k) Q X = RP r (fun d c => WP (k d c) Q X) X := by cases r <;> rfl
theorem wp_r1 {Q : List D → (Cells → Prop) → Cells → Prop} : WP (wR1 a env cs) Q X = RP (a env cs) (fun d c => match d with
  | .int j => (-lim ≤ j ∧ j < lim) ∧ Q (rangeD 0 j.toNat) (fun _ => True) c
  | _ => False) X := by
  unfold wR1
  rw [wp_toW]
  congr; funext d c
  cases d with
  | int j =>
    simp only
    by_cases h : -lim ≤ j ∧ j < lim
    · rw [if_pos h]; simp [WP, h]
    · rw [if_neg h]; simp [WP, h]
  | _ => rfl
theorem wp_r2 {Q : List D → (Cells → Prop) → Cells → Prop} : WP (wR2 a b env cs) Q X = RP (a env cs) (fun d c => RP (b env c) (fun e c2 => match d, e with
  | .int i, .int j => (-lim ≤ i ∧ i < lim ∧ -lim ≤ j ∧ j < lim) ∧ Q (rangeD i (j - i).toNat) (fun _ => True) c2
  | _, _ => False) X) X := by
  unfold wR2
  rw [wp_toW]
  congr; funext d c
  rw [wp_toW]
  congr; funext e c2
  cases d <;> cases e <;> try rfl
  simp only
  rename_i i j
  by_cases h : -lim ≤ i ∧ i < lim ∧ -lim ≤ j ∧ j < lim
  · rw [if_pos h]; simp [WP, h]
  · rw [if_neg h]; simp only [WP]; simp [h]
theorem wp_seq {Q : List D → (Cells → Prop) → Cells → Prop} : WP (wSeq a env cs) Q X = RP (a env cs) (fun d c => match d with
  | .str l => Q (l.map fun ch => .str [ch]) (fun _ => True) c
  | d => match seqOf c d with
    | some ds => Q ds (fun c2 => seqOf c2 d = some ds) c
    | none => False) X := by
  unfold wSeq
  rw [wp_toW]
  congr; funext d c
  cases d <;> first | rfl | (simp only; split <;> (rename_i h; first | rfl | (rw [h]; rfl)))
theorem for_inv {chk : Cells → Prop} {tg : D → Env → Option Env} {body : MS} : ∀ {items : List D} {env : Env} {cs : Cells} (J : Nat → Env → Cells → Prop), J 0 env cs → (∀ env cs, J items.length env cs → chk cs ∧ K.nx env cs) →
    (∀ i d env cs, items[i]? = some d → J i env cs → chk cs ∧ ∃ env1, tg d env = some env1 ∧ SP (body env1 cs) { K with nx := J (i + 1), ct := J (i + 1), bk := K.nx }) → SP (forL chk tg body items env cs) K
  | [], env, cs, J, h0, hn, hs => by
    obtain ⟨h1, h2⟩ := hn env cs h0
    simp only [forL, h1, if_true]
    exact h2
  | d :: ds, env, cs, J, h0, hn, hs => by
    obtain ⟨h1, env1, h2, h3⟩ := hs 0 d env cs rfl h0
    simp only [forL, h1, if_true, h2]
    have ih : ∀ e c, J 1 e c → SP (forL chk tg body ds e c) K := fun e c hj => for_inv (items := ds) (fun i => J (i + 1)) hj (fun e c h => hn e c (by simpa using h)) fun i d e c hi h => hs (i + 1) d e c (by simpa using hi) h
    cases hb : body env1 cs with
    | nx e c => rw [hb] at h3; exact ih e c h3
    | ct e c => rw [hb] at h3; exact ih e c h3
    | bk e c => rw [hb] at h3; exact h3
    | rt d c => rw [hb] at h3; exact h3
    | exc n fs e c => rw [hb] at h3; exact h3
    | stuck => rw [hb] at h3; exact h3.elim
theorem lc_inv {chk : Cells → Prop} {tg : D → Env → Option Env} {t e : ME} : ∀ {items : List D} {env : Env} {cs : Cells} (J : Nat → List D → Cells → Prop) (acc : List D), J 0 acc cs → (∀ ds cs, J items.length ds cs → chk cs) →
    (∀ i d ds cs, items[i]? = some d → J i ds cs → chk cs ∧ ∃ env1, tg d env = some env1 ∧ RP (t env1 cs) (fun b c1 => ∃ k, b = .bl k ∧ if k = true then RP (e env1 c1) (fun y c2 => J (i + 1) (ds ++ [y]) c2) noX else J (i + 1) ds c1) noX) →
    RAP (lcL chk tg t e items env cs) (fun ds cs => J items.length (acc ++ ds) cs) X
  | [], env, cs, J, acc, h0, hn, hs => by
    have h1 := hn acc cs h0
    simp only [lcL, h1, if_true]
    simpa [RAP] using h0
  | d :: ds, env, cs, J, acc, h0, hn, hs => by
    obtain ⟨h1, env1, h2, h3⟩ := hs 0 d acc cs rfl h0
    simp only [lcL, h1, if_true, h2]
    have ih : ∀ ac c, J 1 ac c → RAP (lcL chk tg t e ds env c) (fun ds' cs => J (ds.length + 1) (ac ++ ds') cs) X := fun ac c hj => lc_inv (items := ds) (fun i => J (i + 1)) ac hj (fun e c h => hn e c (by simpa using h)) fun i d e c hi h => hs (i + 1) d e c (by simpa using hi) h
    obtain ⟨b, c1, e1, k, rfl, h4⟩ := h3.get
    rw [e1]
    cases k with
    | true =>
      rw [if_pos rfl] at h4
      obtain ⟨y, c2, e2, h5⟩ := h4.get
      simp only [e2]
      have r := ih _ _ h5
      cases hl : lcL chk tg t e ds env c2 with
      | ok ys c3 =>
        rw [hl] at r
        simp only [RAP] at r ⊢
        rw [List.length_cons]
        simpa using r
      | exc n fs c3 =>
        exfalso
        have : ∀ (ds : List D) (env : Env) (cs : Cells), lcL chk tg t e ds env cs ≠ .exc n fs c3 := by
          intro ds
          induction ds with
          | nil => intro env cs h; simp only [lcL] at h; split at h <;> cases h
          | cons d ds ih =>
            intro env cs h
            simp only [lcL] at h
            split at h
            · split at h
              · cases h
              · split at h
                · split at h
                  · split at h <;> cases h
                  · cases h
                · exact ih _ _ h
                · cases h
            · cases h
        exact this _ _ _ hl
      | stuck => rw [hl] at r; exact r.elim
    | false =>
      rw [if_neg Bool.false_ne_true] at h4
      exact ih _ _ h4
/-- one value an item, nothing touched -/
theorem lc_map {chk : Cells → Prop} {tg : D → Env → Option Env} {t e : ME} {g : D → D} : ∀ {items : List D} {env : Env} {cs : Cells}, chk cs → (∀ d ∈ items, ∃ env1, tg d env = some env1 ∧ t env1 cs = .ok (.bl true) cs ∧ e env1 cs = .ok (g d) cs) →
    lcL chk tg t e items env cs = .ok (items.map g) cs
  | [], env, cs, hc, _ => by simp [lcL, hc]
  | d :: ds, env, cs, hc, h => by
    obtain ⟨env1, h1, h2, h3⟩ := h d (by simp)
    simp only [lcL, hc, if_true, h1, h2, h3]
    rw [lc_map hc fun d hd => h d (by simp [hd])]
    rfl
theorem rp_lc {own : List Nat} {tg : D → Env → Option Env} {m : MW} {t e : ME} : RP (eLc md own tg m t e env cs) P X = WP (m env cs) (fun ds k c => RAP (lcL k tg t e ds (wipeE env own) c) (fun ys c2 => RP (mkL md c2 ys) P X) X) X := by
  unfold eLc
  cases m env cs with
  | ok ds k c => exact RAP_bind _ _
  | exc n fs c => rfl
  | stuck => rfl
theorem RAP.mono {r : RA} {Q Q' : List D → Cells → Prop} (h : RAP r Q X) (k : ∀ d cs, Q d cs → Q' d cs) : RAP r Q' X := by
  cases r with
  | ok d cs => exact k d cs h
  | exc n fs cs => exact h
  | stuck => exact h
theorem range_get {lo : Int} {n i : Nat} {d : D} (h : (rangeD lo n)[i]? = some d) : i < n ∧ d = .int (lo + (i : Int)) := by
  have hl : i < n := by simpa using (List.getElem?_eq_some_iff.mp h).1
  simp [rangeD, hl] at h
  exact ⟨hl, h.symm⟩
theorem tgN_some {i : Nat} {d : D} : tgN i d env = some (env.set i (some d)) := nr rfl
end
end L3
namespace L3
theorem rp_varM {i : Nat} {env : Env} {cs : Cells} {P : D → Cells → Prop} {X : KX} : RP (eVar i env cs) P X = match env[i]? with
  | some (some d) => P d cs
  | _ => False := by
  unfold eVar
  cases env[i]? with
  | none => rfl
  | some o => cases o <;> rfl
end L3
namespace L3
open PySem L2
theorem at3_0 {x y z : D} : atI [x, y, z] 0 = some x := nr rfl
theorem at3_1 {x y z : D} : atI [x, y, z] 1 = some y := nr rfl
theorem at3_2 {x y z : D} : atI [x, y, z] 2 = some z := nr rfl
theorem rp_ixLocM {cs : Cells} {n : Nat} {i : Int} {P : D → Cells → Prop} {X : KX} : RP (ixD cs (.loc n) (.int i)) P X = match listOf cs (.loc n) with
  | some ds => (match atI ds i with
    | some d => P d cs
    | none => False)
  | none => False := by
  unfold ixD
  simp only [seqOf]
  cases listOf cs (.loc n) with
  | none => rfl
  | some ds =>
    simp only
    cases atI ds i <;> rfl
theorem loc_list {cs : Cells} {n : Nat} {ds : List D} (h : cs[n]? = some (.lst ds)) : listOf cs (.loc n) = some ds := by
  simp only [listOf, h]
/-- the box of the draws -/
def Bx (cs : Cells) (n B : Nat) : Prop := ∃ a b c : Int, cs[n]? = some (.lst [.int a, .int b, .int c]) ∧ 0 ≤ b ∧ b < 2147483648 ∧ 0 ≤ c ∧ c ≤ B
theorem Bx.le {cs : Cells} {n B B' : Nat} (h : Bx cs n B) (l : B ≤ B') : Bx cs n B' := by
  obtain ⟨a, b, c, h1, h2, h3, h4, h5⟩ := h
  exact ⟨a, b, c, h1, h2, h3, h4, by omega⟩
theorem put_at {cs : Cells} {n j : Nat} {k : Int} {ds : List D} {v : D} (h : cs[n]? = some (.lst ds)) (hj : ixN ds.length k = some j) : ∃ c4, putL cs (.loc n) (.int k) v = some c4 ∧ c4[n]? = some (.lst (ds.set j v)) ∧ (∀ m, m ≠ n → c4[m]? = cs[m]?) ∧ c4.length = cs.length := by
  have hl : n < cs.length := (List.getElem?_eq_some_iff.mp h).1
  refine ⟨cs.set n (.lst (ds.set j v)), ?_, List.getElem?_set_self hl, fun m hm => List.getElem?_set_ne (Ne.symm hm), by simp⟩
  unfold putL
  simp only [h, hj]
end L3
namespace L3
open PySem L2
theorem rp_dict {md : Bool} {m : MA} {env : Env} {cs : Cells} {P : D → Cells → Prop} {X : KX} : RP (eDict md m env cs) P X = RAP (m env cs) (fun ds c => match kvD ds with
  | some kds => if kds.length ≤ 15 then RP (mkD md c (mergeD [] kds)) P X else False
  | none => False) X := by
  unfold eDict
  rw [RAP_bind]
  congr; funext ds c
  cases kvD ds with
  | none => rfl
  | some k => simp only; split <;> rfl
theorem rp_mkDf {cs : Cells} {ds : List (Kd × D)} {P : D → Cells → Prop} {X : KX} : RP (mkD false cs ds) P X = P (.dct ds) cs := nr rfl
theorem len_ite {a b : Nat} {p : Prop} (h : a ≤ b) : (if a ≤ b then p else False) = p := if_pos h
end L3
namespace L3
open PySem L2
theorem rp_ixAll {cs : Cells} {ds : List D} {i : Int} {P : D → Cells → Prop} {X : KX} (h0 : 0 ≤ i) (h1 : i < (ds.length : Int)) (h : ∀ d ∈ ds, P d cs) : RP (ixD cs (.lst ds) (.int i)) P X := by
  obtain ⟨d, e, m, _⟩ := at_mid h0 h1
  rw [rp_ixL e]
  exact h d m
end L3
namespace L3
open PySem L2
theorem kit_ss : kitB "str" "str" = some true := by decide +kernel
theorem kit_ns : ∀ u ∈ ["NoneType", "bool", "int", "list", "tuple", "dict"], kitB u "str" = some false := by decide +kernel
theorem isi_str {cs : Cells} {l : List Nat} {P : D → Cells → Prop} {X : KX} : RP (isiD "str" cs (.str l)) P X = P (.bl true) cs := rp_isi rfl kit_ss
theorem isi_nstr {cs : Cells} {d : D} {P : D → Cells → Prop} {X : KX} {u : String} (h : tyC cs d = some u) (q : u ∈ ["NoneType", "bool", "int", "list", "tuple", "dict"]) : RP (isiD "str" cs d) P X = P (.bl false) cs := rp_isi h (kit_ns u q)
theorem RP_br {k : Bool} {cs : Cells} {x y : Cells → R} {P : D → Cells → Prop} {X : KX} : RP (brD (.bl k) cs x y) P X = bif k then RP (x cs) P X else RP (y cs) P X := by cases k <;> rfl
end L3
namespace L3
open PySem L2
theorem blsOf_map : ∀ bs : List Bool, blsOf (bs.map D.bl) = some bs
  | [] => rfl
  | b :: r => by simp only [List.map_cons, blsOf, blsOf_map r]
theorem rp_allL {cs : Cells} {bs : List Bool} {P : D → Cells → Prop} {X : KX} : RP (allB cs [.lst (bs.map D.bl)]) P X = P (.bl (bs.all id)) cs := rp_all rfl (blsOf_map bs)
theorem atI_0 {α : Type} {x : α} {l : List α} : atI (x :: l) 0 = some x := by
  unfold atI ixN
  rw [if_pos (by decide), if_pos (by simp)]
  rfl
end L3
namespace L3
open PySem L2
theorem seq_lst {cs : Cells} {l : List D} : seqOf cs (.lst l) = some l := nr rfl
theorem seq_scr {cs : Cells} {l : List Int} : seqOf cs (.scr l) = some (l.map .int) := nr rfl
theorem seq_tup {cs : Cells} {l : List D} : seqOf cs (.tup l) = some l := nr rfl
theorem joinL_nil : ∀ ls : List (List Nat), TL.joinL [] ls = ls.flatten
  | [] => rfl
  | [p] => by simp [TL.joinL]
  | p :: q :: r => by
    show p ++ ([] ++ TL.joinL [] (q :: r)) = _
    rw [joinL_nil (q :: r)]; simp
theorem strsOf_app : ∀ {ds es : List D} {ls ms : List (List Nat)}, strsOf ds = some ls → strsOf es = some ms → strsOf (ds ++ es) = some (ls ++ ms)
  | [], es, ls, ms, h, q => by simp only [strsOf, Option.some.injEq] at h; subst h; exact q
  | d :: ds, es, ls, ms, h, q => by
    cases d with
    | str l =>
      simp only [strsOf] at h
      split at h
      · rename_i k hk
        simp only [Option.some.injEq] at h
        subst h
        simp only [List.cons_append, strsOf, strsOf_app hk q]
      · cases h
    | _ => cases h
/-- texts of one sign each -/
theorem ones_len {ls : List (List Nat)} (h : ∀ z ∈ ls, z.length = 1) : ls.flatten.length = ls.length := by
  induction ls with
  | nil => rfl
  | cons a r ih =>
    rw [List.flatten_cons, List.length_append, h a (by simp), ih fun z hz => h z (by simp [hz]), List.length_cons]
    omega
theorem ones_sum {ls : List (List Nat)} (h : ∀ z ∈ ls, z.length = 1) : (ls.map (·.length)).sum = ls.length := by
  induction ls with
  | nil => rfl
  | cons a r ih =>
    rw [List.map_cons, List.sum_cons, h a (by simp), ih fun z hz => h z (by simp [hz]), List.length_cons]
    omega
theorem atS {l : List Nat} {i : Int} (h0 : 0 ≤ i) (h1 : i < l.length) : ∃ ch, atI l i = some ch ∧ ch ∈ l := by
  obtain ⟨d, e, m, _⟩ := at_mid h0 h1
  exact ⟨d, e, m⟩
theorem Bx.new {cs : Cells} {a b : Int} (h : 0 ≤ b) (q : b < 2147483648) : Bx (cs ++ [.lst [.int a, .int b, .int 0]]) cs.length 0 :=
  ⟨a, b, 0, by simp, h, q, by decide, by decide⟩
theorem log2_lt {i : Int} (h : i.natAbs < 2 ^ 1000) : i.natAbs.log2 < 1920 := by
  by_cases h0 : i.natAbs = 0
  · rw [h0]; decide
  · have := (Nat.log2_lt h0).mpr h
    omega
theorem RAP.get {r : RA} {Q : List D → Cells → Prop} (h : RAP r Q noX) : ∃ d cs, r = .ok d cs ∧ Q d cs := by
  cases r with
  | ok d cs => exact ⟨d, cs, rfl, h⟩
  | exc n fs cs => exact h.elim
  | stuck => exact h.elim
end L3
namespace L3
open PySem L2
theorem ro_none {env : Env} {cs : Cells} : oNone env cs = some (none, cs) := nr rfl
theorem ro_varM {i : Nat} {env : Env} {cs : Cells} : oSome (eVar i) env cs = match env[i]? with
  | some (some (.int j)) => some (some j, cs)
  | _ => none := by
  unfold oSome eVar
  cases env[i]? with
  | none => rfl
  | some o => cases o with
    | none => rfl
    | some d => cases d <;> rfl
theorem ro_varA {i : Nat} {n : Int} {md : Bool} {env : Env} {cs : Cells} : oSome (op2 (addD md) (eVar i) (eC (.int n))) env cs = match env[i]? with
  | some (some (.int j)) => some (some (j + n), cs)
  | some (some _) => oSome (op2 (addD md) (eVar i) (eC (.int n))) env cs
  | _ => none := by
  cases h : env[i]? with
  | none => simp [oSome, op2, eVar, h]
  | some o => cases o with
    | none => simp [oSome, op2, eVar, h]
    | some d => cases d <;> first | rfl | (simp [oSome, op2, eVar, h, eC, addD])
theorem strsOf_len : ∀ {ds : List D} {ls : List (List Nat)}, strsOf ds = some ls → ds.length = ls.length
  | [], ls, h => by simp only [strsOf, Option.some.injEq] at h; subst h; rfl
  | d :: ds, ls, h => by
    cases d with
    | str l =>
      simp only [strsOf] at h
      split at h
      · rename_i k hk
        simp only [Option.some.injEq] at h
        subst h
        simp [strsOf_len hk]
      · cases h
    | _ => cases h
end L3
namespace L3
open PySem L2
theorem lc_filter {chk : Cells → Prop} {tg : D → Env → Option Env} {t e : ME} {g : D → D} {p : D → Bool} : ∀ {items : List D} {env : Env} {cs : Cells}, chk cs → (∀ d ∈ items, ∃ env1, tg d env = some env1 ∧ t env1 cs = .ok (.bl (p d)) cs ∧ e env1 cs = .ok (g d) cs) →
    lcL chk tg t e items env cs = .ok ((items.filter p).map g) cs
  | [], env, cs, hc, _ => by simp [lcL, hc]
  | d :: ds, env, cs, hc, h => by
    obtain ⟨env1, h1, h2, h3⟩ := h d (by simp)
    have ih := lc_filter (g := g) (p := p) hc fun d hd => h d (List.mem_cons_of_mem _ hd)
    simp only [lcL, hc, if_true, h1, h2]
    cases hp : p d with
    | true => simp only [h3, ih, List.filter_cons, hp, if_true, List.map_cons]
    | false => simp only [ih, List.filter_cons, hp, Bool.false_eq_true, if_false]
theorem py0s_ones : ∀ l : List Nat, py0s (l.map fun c => D.str [c]) = some (l.map fun c => PyData.str ⟨#[c]⟩)
  | [] => rfl
  | c :: r => by simp only [List.map_cons, py0s, py0, py0s_ones r]
theorem lay_ones : ∀ {l : List Nat}, (∀ c ∈ l, c < 0x110000) → PyData.canLayAll0 (l.map fun c => PyData.str ⟨#[c]⟩) = true
  | [], _ => rfl
  | c :: r, h => by
    simp only [List.map_cons, PyData.canLayAll0, PyData.canLay0, lay_ones fun c hc => h c (List.mem_cons_of_mem _ hc), Bool.and_true]
    have := h c (by simp)
    simpa [PyData.strOk] using this
theorem dep_ones : ∀ l : List Nat, PyData.depthAll (l.map fun c => PyData.str ⟨#[c]⟩) = 0
  | [] => rfl
  | c :: r => by simp only [List.map_cons, PyData.depthAll, PyData.depth, dep_ones r, Nat.max_self]
theorem eq_ones_nil {l : List Nat} {cs : Cells} {P : D → Cells → Prop} {X : KX} (h : ∀ c ∈ l, c < 0x110000) : RP (eqD cs (.lst (l.map fun c => D.str [c])) (.lst [])) P X = P (.bl l.isEmpty) cs := by
  have e1 : eqB cs (.lst (l.map fun c => D.str [c])) (.lst []) = some l.isEmpty := by
    unfold eqB
    simp only [pyOf, py0, py0s_ones, py0s, Option.map_some]
    have s1 : SeqAt.shaped (PyData.list (l.map fun c => PyData.str ⟨#[c]⟩)) = true := by
      unfold SeqAt.shaped
      simp only [PyData.canLay0, lay_ones h, PyData.depth, dep_ones, Bool.true_and]
      decide
    have s2 : SeqAt.shaped (PyData.list []) = true := by decide
    rw [s1, s2]
    cases l <;> simp [PyData.eqv, PyData.eqvAll]
  unfold eqD
  rw [e1]; rfl
end L3
namespace L3
open PySem L2
theorem kit_int : ∀ u ∈ ["NoneType", "bool", "int", "str", "list", "tuple", "dict"], kitB u "int" = some (decide (u = "int" ∨ u = "bool")) := by decide +kernel
theorem kit_bool : ∀ u ∈ ["NoneType", "bool", "int", "str", "list", "tuple", "dict"], kitB u "bool" = some (decide (u = "bool")) := by decide +kernel
theorem isi_int {cs : Cells} {d : D} {P : D → Cells → Prop} {X : KX} {u : String} (h : tyC cs d = some u) (q : u ∈ ["NoneType", "bool", "int", "str", "list", "tuple", "dict"]) : RP (isiD "int" cs d) P X = P (.bl (decide (u = "int" ∨ u = "bool"))) cs := rp_isi h (kit_int u q)
theorem isi_bool {cs : Cells} {d : D} {P : D → Cells → Prop} {X : KX} {u : String} (h : tyC cs d = some u) (q : u ∈ ["NoneType", "bool", "int", "str", "list", "tuple", "dict"]) : RP (isiD "bool" cs d) P X = P (.bl (decide (u = "bool"))) cs := rp_isi h (kit_bool u q)
theorem rp_isB {k : Option Bool} {cs : Cells} {d : D} {P : D → Cells → Prop} {X : KX} : RP (isB k cs d) P X = P (.bl (match k, d with
  | none, .non => true
  | some b, .bl b' => decide (b' = b)
  | _, _ => false)) cs := nr rfl
theorem rp_isNB {k : Option Bool} {cs : Cells} {d : D} {P : D → Cells → Prop} {X : KX} : RP (isNB k cs d) P X = P (.bl !(match k, d with
  | none, .non => true
  | some b, .bl b' => decide (b' = b)
  | _, _ => false)) cs := nr rfl
theorem rp_ixSA {l : List Nat} {cs : Cells} {i : Int} {P : D → Cells → Prop} {X : KX} (h : l.length ≤ sizeLine) (h0 : 0 ≤ i) (h1 : i < (l.length : Int)) (k : ∀ ch ∈ l, P (.str [ch]) cs) : RP (ixD cs (.str l) (.int i)) P X := by
  obtain ⟨ch, e, m⟩ := atS h0 h1
  rw [rp_ixS h e]
  exact k ch m
theorem cutL_mem {α : Type} {xs : List α} {lo hi : Option Int} {x : α} (h : x ∈ cutL xs lo hi) : x ∈ xs := by
  unfold cutL at h
  exact List.mem_of_mem_drop (List.mem_of_mem_take h)
end L3
namespace L3
open PySem L2
theorem rp_anyL {cs : Cells} {bs : List Bool} {P : D → Cells → Prop} {X : KX} : RP (anyB cs [.lst (bs.map D.bl)]) P X = P (.bl (bs.any id)) cs := by
  unfold anyB
  simp only [listOf, blsOf_map]
  rfl
theorem rp_words {md : Bool} {cs : Cells} {l : List Nat} {P : D → Cells → Prop} {X : KX} (h : l.length + 2 ≤ sizeLine) : RP (wordsD md cs l) P X = RP (mkL md cs ((wordsL l).map D.str)) P X := by
  unfold wordsD
  rw [if_pos h]
theorem rp_lower {cs : Cells} {l k : List Nat} {P : D → Cells → Prop} {X : KX} (h : l.length ≤ 5592405) (e : codes (Txt.lower ⟨l.toArray⟩) = k) : RP (lowerD cs l) P X = P (.str k) cs := by
  unfold lowerD
  rw [if_pos h, e]; rfl
theorem low1 : ∀ c, c < 128 → codes (Txt.lower ⟨[c].toArray⟩) = [if 65 ≤ c ∧ c ≤ 90 then c + 32 else c] := by decide +kernel
theorem cut_to {α : Type} {xs : List α} {i : Int} (h0 : 0 ≤ i) : cutL xs none (some i) = xs.take i.toNat := by
  have e : HT.sIx xs.length xs.length (some i) = min i.toNat xs.length := by unfold HT.sIx; simp only; rw [if_neg (by omega)]
  have e0 : HT.sIx xs.length 0 none = 0 := rfl
  unfold cutL
  rw [e, e0, List.drop_zero, Nat.sub_zero]
  by_cases h : i.toNat ≤ xs.length
  · rw [Nat.min_eq_left h]
  · rw [Nat.min_eq_right (by omega), List.take_length, List.take_of_length_le (by omega)]
theorem cut_from {α : Type} {xs : List α} {i : Int} (h0 : 0 ≤ i) : cutL xs (some i) none = xs.drop i.toNat := by
  have e : HT.sIx xs.length 0 (some i) = min i.toNat xs.length := by unfold HT.sIx; simp only; rw [if_neg (by omega)]
  have e0 : HT.sIx xs.length xs.length none = xs.length := rfl
  unfold cutL
  rw [e, e0]
  by_cases h : i.toNat ≤ xs.length
  · rw [Nat.min_eq_left h, List.take_of_length_le (by simp)]
  · rw [Nat.min_eq_right (by omega), List.drop_length, List.drop_eq_nil_of_le (by omega), List.take_nil]
theorem cut_back {α : Type} {xs : List α} {i : Int} (h0 : i < 0) : cutL xs (some i) none = xs.drop (i + xs.length).toNat := by
  have e : HT.sIx xs.length 0 (some i) = (i + xs.length).toNat := by unfold HT.sIx; simp only; rw [if_pos h0]
  have e0 : HT.sIx xs.length xs.length none = xs.length := rfl
  unfold cutL
  rw [e, e0, List.take_of_length_le (by simp)]
end L3
namespace L3
open PySem L2
theorem rp_lower1 {cs : Cells} {c : Nat} {P : D → Cells → Prop} {X : KX} (h : c < 128) : RP (lowerD cs [c]) P X = P (.str [if 65 ≤ c ∧ c ≤ 90 then c + 32 else c]) cs := rp_lower (by simp) (low1 c h)
theorem strsOf_map (ls : List (List Nat)) : strsOf (ls.map D.str) = some ls := by
  induction ls with
  | nil => rfl
  | cons a r ih => simp only [List.map_cons, strsOf, ih]
theorem rep_str {l : List Nat} (h : l.length ≤ 100000) (q : ∀ c ∈ l, c < 128) : ∃ z, reprC (.str l) = some z := by
  refine ⟨codes (reprText ⟨l.toArray⟩), ?_⟩
  show (if _ then _ else _) = _
  rw [if_pos]
  have := StrLaws.reprText_len ⟨l.toArray⟩ (fun c hc => Nat.lt_of_lt_of_le (q c (by simpa using hc)) (by decide))
  have e2 : (⟨l.toArray⟩ : Str).length = l.length := str_len l
  rw [sizeLine_eq]; omega
end L3
namespace L3
open PySem L2
theorem ro_c {i : Int} {env : Env} {cs : Cells} : oSome (eC (.int i)) env cs = some (some i, cs) := nr rfl
theorem ro_nc {i : Int} {env : Env} {cs : Cells} : oSome (op1 negD (eC (.int i))) env cs = some (some (-i), cs) := nr rfl
end L3

/-! the calculus, for errors, cells that grow, texts' methods -/
namespace L3
open PySem L2
section
variable {P : D → Cells → Prop} {X : KX} {K : Cn} {env : Env} {cs : Cells} {a b c : ME} {ms : MA}
theorem sp_try {isa : Str → Str → Option Bool} {m : MS} {hs : List HC} : SP (sTry isa m hs env cs) K = SP (m env cs) { K with xc := fun n fs e c => SP (catchH isa n fs e c hs) K } := by
  unfold sTry; cases m env cs <;> rfl
theorem sp_raise {x : Str} {fns : List Str} : SP (sRaise x fns ms env cs) K = RAP (ms env cs) (fun ds c => if ds.length = fns.length then K.xc x (exFs fns ds) env c else False) (fun n fs c => K.xc n fs env c) := by
  unfold sRaise
  cases ms env cs with
  | ok ds c => simp only [RAP]; split <;> rfl
  | exc => rfl
  | stuck => rfl
theorem sp_asgT {f : D → Env → Option Env} : SP (sAsgT f a env cs) K = RP (a env cs) (fun d c => match f d env with
  | some e1 => K.nx e1 c
  | none => False) (fun n fs c => K.xc n fs env c) := by
  unfold sAsgT
  rw [SP_toS]
  congr; funext d c
  cases f d env <;> rfl
theorem sp_par {is : List Nat} : SP (sPar is ms env cs) K = RAP (ms env cs) (fun ds c => match tgTs is ds env with
  | some e1 => K.nx e1 c
  | none => False) (fun n fs c => K.xc n fs env c) := by
  unfold sPar
  cases ms env cs with
  | ok ds c => simp only [RAP]; cases tgTs is ds env <;> rfl
  | exc => rfl
  | stuck => rfl
theorem rp_push : RP (ePush a b env cs) P X = RP (a env cs) (fun o c1 => if isLc c1 o = true then RP (b env c1) (fun v c2 => match pushL c2 o v with
  | some c3 => P .non c3
  | none => False) X else False) X := by
  unfold ePush
  rw [RP_bind]
  congr; funext o c1
  by_cases h : isLc c1 o = true
  · rw [if_pos h, if_pos h, RP_bind]
    congr; funext v c2
    cases pushL c2 o v <;> rfl
  · rw [if_neg h, if_neg h]; rfl
theorem sp_putK : SP (sPutK a b c env cs) K = RP (c env cs) (fun v c1 => RP (a env c1) (fun o c2 => RP (b env c2) (fun i c3 => match putC c3 o i v with
  | some c4 => K.nx env c4
  | none => False) (fun n fs c => K.xc n fs env c)) (fun n fs c => K.xc n fs env c)) (fun n fs c => K.xc n fs env c) := by
  unfold sPutK
  simp only [SP_toS]
  congr; funext v c1; congr; funext o c2; congr; funext i c3
  cases putC c3 o i v <;> rfl
variable {d x y : D} {l k : List Nat}
theorem rp_rev (h : l.length ≤ sizeLine) : RP (revD cs (.str l)) P X = P (.str l.reverse) cs := by
  show RP (if _ then _ else _) P X = _
  rw [if_pos h]; rfl
theorem rp_inX {v : Bool} (h : inBX cs x y = some v) : RP (inX cs x y) P X = P (.bl v) cs := by
  unfold inX; rw [h]; rfl
theorem rp_ninX {v : Bool} (h : inBX cs x y = some v) : RP (ninX cs x y) P X = P (.bl !v) cs := by
  unfold ninX; rw [h]; rfl
theorem rp_reprX {z : List Nat} (h : reprBD cs [d] = .ok (.str z) cs) : RP (reprBD cs [d]) P X = P (.str z) cs := by
  rw [h]; rfl
theorem cnt_count (c : Nat) (l : List Nat) : PyProof.Rows.cnt c l = (l.count c : Nat) := by
  induction l with
  | nil => rfl
  | cons a r ih =>
    rw [PyProof.Rows.cnt_cons, ih, List.count_cons]
    by_cases h : a = c <;> simp [h] <;> omega
theorem rp_cnt {c : Nat} : RP (cntD cs l (.str [c])) P X = P (.int (l.count c : Nat)) cs := by
  show P (.int (Txt.count (mk l) (mk [c]))) cs = _
  rw [show Txt.count (mk l) (mk [c]) = (l.count c : Nat) from (PyProof.Rows.count_cnt (mk l) c).trans (cnt_count c l)]
theorem rp_starts : RP (startsD cs l (.str k)) P X = P (.bl (Txt.startswith (mk l) (mk k))) cs := nr rfl
theorem rp_ends : RP (endsD cs l (.str k)) P X = P (.bl (Txt.endswith (mk l) (mk k))) cs := nr rfl
theorem codes_len (x : Str) : (codes x).length = x.length := by
  unfold codes; first | rfl | simp [PySem.Str.length]
theorem rp_rsc (h : l.length ≤ sizeLine) (q : ∀ z : List Nat, z.length ≤ l.length → P (.str z) cs) : RP (rscD cs l (.str k)) P X := by
  show RP (if _ then _ else _) P X
  rw [if_pos h]
  refine q _ ?_
  rw [codes_len]
  have := PyProof.Rows.len_stripBy (mk k).cps.contains false true (mk l)
  rw [show (mk l).length = l.length from str_len l] at this
  exact this
theorem rp_lsc (h : l.length ≤ sizeLine) (q : ∀ z : List Nat, z.length ≤ l.length → P (.str z) cs) : RP (lscD cs l (.str k)) P X := by
  show RP (if _ then _ else _) P X
  rw [if_pos h]
  refine q _ ?_
  rw [codes_len]
  have := PyProof.Rows.len_stripBy (mk k).cps.contains true false (mk l)
  rw [show (mk l).length = l.length from str_len l] at this
  exact this
/-- .. and its errors -/
theorem RP.monoX {P' : D → Cells → Prop} {X' : KX} {r : R} (h : RP r P X) (k : ∀ d cs, P d cs → P' d cs) (kx : ∀ n fs cs, X n fs cs → X' n fs cs) : RP r P' X' := by
  cases r with
  | ok d cs => exact k d cs h
  | exc n fs cs => exact kx _ _ _ h
  | stuck => exact h
end
theorem RP.eq {r : R} {x : D} {c0 : Cells} (h : RP r (fun d c => d = x ∧ c = c0) noX) : r = .ok x c0 := by
  obtain ⟨d, c, e, rfl, rfl⟩ := h.get
  exact e
theorem wipeE_len {env : Env} : ∀ {vs : List Nat}, (wipeE env vs).length = env.length
  | [] => rfl
  | v :: vs => by simp only [wipeE, List.length_set, wipeE_len (vs := vs)]
theorem cut_mid {α : Type} {xs : List α} {i j : Int} (h0 : 0 ≤ i) (h1 : 0 ≤ j) : cutL xs (some i) (some j) = (xs.drop i.toNat).take (j.toNat - i.toNat) := by
  have e : HT.sIx xs.length 0 (some i) = min i.toNat xs.length := by unfold HT.sIx; simp only; rw [if_neg (by omega)]
  have e2 : HT.sIx xs.length xs.length (some j) = min j.toNat xs.length := by unfold HT.sIx; simp only; rw [if_neg (by omega)]
  unfold cutL
  rw [e, e2]
  by_cases h : i.toNat ≤ xs.length
  · rw [Nat.min_eq_left h]
    by_cases q : j.toNat ≤ xs.length
    · rw [Nat.min_eq_left q]
    · rw [Nat.min_eq_right (a := j.toNat) (by omega), List.take_of_length_le (by simp), List.take_of_length_le (by simp; omega)]
  · rw [Nat.min_eq_right (a := i.toNat) (by omega), List.drop_length, List.drop_eq_nil_of_le (as := xs) (i := i.toNat) (by omega), List.take_nil, List.take_nil]
theorem rp_ixT {ds : List D} {x : D} {i : Int} {cs : Cells} {P : D → Cells → Prop} {X : KX} (q : atI ds i = some x) : RP (ixD cs (.tup ds) (.int i)) P X = P x cs := by
  show RP (match atI ds i with | some d => _ | none => _) P X = _
  rw [q]; rfl
/-! the clauses -/
theorem sp_hit {isa : Str → Str → Option Bool} {n : Str} {i : Nat} {m : HM} {r : List HC} {fs : List (Str × D)} {env : Env} {cs : Cells} {K : Cn} (h : isa n n = some true) (hi : i < env.length) : SP (catchH isa n fs env cs ((n, some i, m) :: r)) K = SP (clrS (some i) (m fs (env.set i none) cs)) K := by
  rw [catchH, if_pos ⟨rfl, h, hi⟩]
theorem sp_miss {isa : Str → Str → Option Bool} {n x : Str} {oi : Option Nat} {m : HM} {r : List HC} {fs : List (Str × D)} {env : Env} {cs : Cells} {K : Cn} (h : isa n x = some false) : SP (catchH isa n fs env cs ((x, oi, m) :: r)) K = SP (catchH isa n fs env cs r) K := by
  cases oi with
  | none => rw [catchH, h]
  | some i => rw [catchH, if_neg (fun q => by rw [h] at q; exact absurd q.2.1 (by decide)), if_pos h]
theorem sp_clr {oi : Option Nat} {r : R} {env : Env} {K : Cn} : SP (clrS oi (r.toS env fun d c => .rt d c)) K = RP r (fun d c => K.rt d c) (fun _ _ _ => False) := by
  cases r <;> rfl
theorem rp_he2 {m m2 : List (Str × D) → Cells → R} {fs : List (Str × D)} {cs : Cells} {P : D → Cells → Prop} {X : KX} : RP (he2 m m2 fs cs) P X = RP (m fs cs) (fun x c1 => RP (m2 fs c1) (fun y c2 => P (.lst [x, y]) c2) X) X := by
  unfold he2
  simp only [RP_bind]
  have e : ∀ (x y : D) (c : Cells), RP (mkL false c [x, y]) P X = P (.lst [x, y]) c := fun x y c => rp_mkLf (by rw [sizeLine_eq]; simp)
  simp only [e]
theorem rp_fld {f : Str} {d : D} {r : List (Str × D)} {cs : Cells} {P : D → Cells → Prop} {X : KX} : RP (fldD f ((f, d) :: r) cs) P X = P d cs := by
  simp [fldD, List.lookup, RP]
theorem rp_fldN {f g : Str} {d : D} {r : List (Str × D)} {cs : Cells} {P : D → Cells → Prop} {X : KX} (h : (f == g) = false) : RP (fldD f ((g, d) :: r) cs) P X = RP (fldD f r cs) P X := by
  unfold fldD; rw [List.lookup, h]
theorem kit_list : ∀ u ∈ ["NoneType", "bool", "int", "str", "list", "tuple", "dict"], kitB u "list" = some (decide (u = "list")) := by decide +kernel
theorem kit_dict : ∀ u ∈ ["NoneType", "bool", "int", "str", "list", "tuple", "dict"], kitB u "dict" = some (decide (u = "dict")) := by decide +kernel
theorem isi_list {cs : Cells} {d : D} {P : D → Cells → Prop} {X : KX} {u : String} (h : tyC cs d = some u) (q : u ∈ ["NoneType", "bool", "int", "str", "list", "tuple", "dict"]) : RP (isiD "list" cs d) P X = P (.bl (decide (u = "list"))) cs := rp_isi h (kit_list u q)
theorem isi_dict {cs : Cells} {d : D} {P : D → Cells → Prop} {X : KX} {u : String} (h : tyC cs d = some u) (q : u ∈ ["NoneType", "bool", "int", "str", "list", "tuple", "dict"]) : RP (isiD "dict" cs d) P X = P (.bl (decide (u = "dict"))) cs := rp_isi h (kit_dict u q)
theorem rp_mkDt {cs : Cells} {ds : List (Kd × D)} {P : D → Cells → Prop} {X : KX} : RP (mkD true cs ds) P X = P (.loc cs.length) (cs ++ [.dct ds]) := nr rfl
/-! a cell's data -/
def pyC : Cell → Option PyData
  | .lst l => (py0s l).map .list
  | .dct l => (py0k l).map .dict
  | _ => none
theorem py_loc {cs : Cells} {n : Nat} {c : Cell} {p : PyData} (h : cs[n]? = some c) (q : pyC c = some p) : pyOf cs (.loc n) = some p := by
  simp only [pyOf, h]
  cases c <;> first | exact q | cases q
def repOk (c : Cell) : Bool := match pyC c with
  | some p => decide (p.showable = true ∧ p.depth ≤ 60 ∧ p.shown.length ≤ sizeLine)
  | none => false
def repOkD (d : D) : Bool := match py0 d with
  | some p => decide (p.showable = true ∧ p.depth ≤ 60 ∧ p.shown.length ≤ sizeLine)
  | none => false
theorem rep_tup {cs : Cells} {t : List D} (q : repOkD (.tup t) = true) : ∃ z, reprBD cs [.tup t] = .ok (.str z) cs := by
  unfold repOkD at q
  split at q
  · rename_i p hp
    have q := of_decide_eq_true q
    refine ⟨codes p.shown, ?_⟩
    have hp' : pyOf cs (.tup t) = some p := hp
    unfold reprBD
    simp only [reprC, hp', if_pos q]
  · cases q
theorem rep_loc {cs : Cells} {n : Nat} {c : Cell} (h : cs[n]? = some c) (q : repOk c = true) : ∃ z, reprBD cs [.loc n] = .ok (.str z) cs := by
  unfold repOk at q
  split at q
  · rename_i p hp
    have q := of_decide_eq_true q
    refine ⟨codes p.shown, ?_⟩
    unfold reprBD
    simp only [reprC, py_loc h hp, if_pos q]
  · cases q
/-- a loop without break -/
theorem for_invN {K : Cn} {chk : Cells → Prop} {tg : D → Env → Option Env} {body : MS} {items : List D} {env : Env} {cs : Cells} (J : Nat → Env → Cells → Prop) (h0 : J 0 env cs) (hn : ∀ env cs, J items.length env cs → chk cs ∧ K.nx env cs)
    (hs : ∀ i d env cs, items[i]? = some d → J i env cs → chk cs ∧ ∃ env1, tg d env = some env1 ∧ SP (body env1 cs) ⟨J (i + 1), K.rt, fun _ _ => False, J (i + 1), K.xc⟩) : SP (forL chk tg body items env cs) K := by
  refine for_inv J h0 hn fun i d env cs hi hj => ?_
  obtain ⟨c, env1, e, h⟩ := hs i d env cs hi hj
  refine ⟨c, env1, e, ?_⟩
  revert h
  cases body env1 cs <;> first | exact id | exact False.elim
end L3

/-! the calculus, for instances -/
namespace L3
open PySem L2
section
variable {P : D → Cells → Prop} {X : KX} {K : Cn} {env : Env} {cs : Cells} {a b c : ME} {ms : MA} {x f m : Str} {mf : MF}
theorem rp_eFld : RP (eFld x f a env cs) P X = RP (a env cs) (fun o c1 => match insAt c1 o with
  | some (_, y, fs) => if y = x then (match fs.lookup f with
    | some d => P d c1
    | none => False) else False
  | none => False) X := by
  unfold eFld
  rw [RP_bind]
  congr; funext o c1
  cases insAt c1 o with
  | none => rfl
  | some q =>
    obtain ⟨_, y, fs⟩ := q
    simp only
    split
    · cases fs.lookup f <;> rfl
    · rfl
theorem sp_fst : SP (sFst x f a b env cs) K = RP (b env cs) (fun v c1 => RP (a env c1) (fun o c2 => match insAt c2 o with
  | some (n, y, fs) => if y = x ∧ fs.length < 1000 then K.nx env (c2.set n (.ins y (putFD f v fs))) else False
  | none => False) (fun n fs c => K.xc n fs env c)) (fun n fs c => K.xc n fs env c) := by
  unfold sFst
  simp only [SP_toS]
  congr; funext v c1; congr; funext o c2
  cases insAt c2 o with
  | none => rfl
  | some q =>
    obtain ⟨n, y, fs⟩ := q
    simp only
    split <;> rfl
theorem rp_eMeth : RP (eMeth x m mf a ms env cs) P X = RP (a env cs) (fun o c1 => match insAt c1 o with
  | some (n, y, fs) => if y = x ∧ fs.lookup m = none then RAP (ms env c1) (fun ds c2 => RP (mf (.loc n :: ds) c2) P X) X else False
  | none => False) X := by
  unfold eMeth
  rw [RP_bind]
  congr; funext o c1
  cases insAt c1 o with
  | none => rfl
  | some q =>
    obtain ⟨n, y, fs⟩ := q
    simp only
    split
    · exact RAP_bind _ _
    · rfl
theorem rp_eMake : RP (eMake x mf ms env cs) P X = RAP (ms env cs) (fun ds c1 => RP (mf (.loc c1.length :: ds) (c1 ++ [.ins x []])) (fun r c2 => match r with
  | .non => P (.loc c1.length) c2
  | _ => False) X) X := by
  unfold eMake
  rw [RAP_bind]
  congr; funext ds c1
  rw [RP_bind]
  congr; funext r c2
  cases r <;> rfl
theorem ins_at {n : Nat} {y : Str} {fs : List (Str × D)} (h : cs[n]? = some (.ins y fs)) : insAt cs (.loc n) = some (n, y, fs) := by
  simp only [insAt, h]
theorem rp_isoT {n : Nat} {fs : List (Str × D)} (h : cs[n]? = some (.ins x fs)) : RP (isoD x cs (.loc n)) P X = P (.bl true) cs := by
  unfold isoD
  rw [ins_at h]
  simp only [if_true]
  rfl
theorem rp_isoF {d : D} {u : String} (h : insAt cs d = none) (q : tyC cs d = some u) (hu : u ∈ ["NoneType", "bool", "int", "str", "list", "tuple", "dict"]) : RP (isoD x cs d) P X = P (.bl false) cs := by
  unfold isoD
  rw [h]
  simp only [q]
  rw [if_pos hu]; rfl
end
end L3

/-! the calculus, for sets, list(), enumerate, remove -/
namespace L3
open PySem L2
section
variable {P : D → Cells → Prop} {X : KX} {K : Cn} {env : Env} {cs : Cells} {a b c : ME} {ms : MA} {d : D} {i : Nat}
theorem kit_tuple : ∀ u ∈ ["NoneType", "bool", "int", "str", "list", "tuple", "dict"], kitB u "tuple" = some (decide (u = "tuple")) := by decide +kernel
theorem isi_tuple {u : String} (h : tyC cs d = some u) (q : u ∈ ["NoneType", "bool", "int", "str", "list", "tuple", "dict"]) : RP (isiD "tuple" cs d) P X = P (.bl (decide (u = "tuple"))) cs := rp_isi h (kit_tuple u q)
theorem rp_isi2 {u : String} (h : tyC cs d = some u) (q : u ∈ ["NoneType", "bool", "int", "str", "list", "tuple", "dict"]) : RP (isiD2 "list" "tuple" cs d) P X = P (.bl (decide (u = "list") || decide (u = "tuple"))) cs := by
  unfold isiD2
  simp only [h, kit_list u q, kit_tuple u q]
  rfl
theorem rp_set0 : RP (eSet0 env cs) P X = P (.loc cs.length) (cs ++ [.set []]) := nr rfl
theorem rp_sadd : RP (eSAdd a b env cs) P X = RP (a env cs) (fun o c1 => match setAt c1 o with
  | some _ => RP (b env c1) (fun v c2 => match setAt c2 o, kdOf v with
    | some (n, l), some k => if l.length + 1 < scanBound then P .non (c2.set n (.set (addK l k))) else False
    | _, _ => False) X
  | none => False) X := by
  unfold eSAdd
  rw [RP_bind]
  congr; funext o c1
  cases setAt c1 o with
  | none => rfl
  | some q =>
    simp only
    rw [RP_bind]
    congr; funext v c2
    cases setAt c2 o with
    | none => rfl
    | some q2 =>
      obtain ⟨n, l⟩ := q2
      cases kdOf v with
      | none => rfl
      | some k => simp only; split <;> rfl
theorem rp_inS2 {neg : Bool} {s : D} {n : Nat} {l : List Kd} {k : Kd} (h1 : setAt cs s = some (n, l)) (h2 : kdOf d = some k) : RP (inSX neg cs d s) P X = P (.bl (if neg then !hasK l k else hasK l k)) cs := by
  unfold inSX; simp only [h1, h2]; rfl
theorem set_at {n : Nat} {l : List Kd} (h : cs[n]? = some (.set l)) : setAt cs (.loc n) = some (n, l) := by
  simp only [setAt, h]
theorem rp_listOf {md : Bool} : RP (eListOf md a env cs) P X = RP (a env cs) (fun d c1 => match seqOf c1 d with
  | some ds => RP (mkL md c1 ds) P X
  | none => False) X := by
  unfold eListOf
  rw [RP_bind]
  congr; funext d c1
  cases seqOf c1 d <;> rfl
theorem rp_rem : RP (eRem a b env cs) P X = RP (a env cs) (fun o c1 => if isLc c1 o = true then RP (b env c1) (fun v c2 => match remL c2 o v with
  | some c3 => P .non c3
  | none => False) X else False) X := by
  unfold eRem
  rw [RP_bind]
  congr; funext o c1
  by_cases h : isLc c1 o = true
  · rw [if_pos h, if_pos h, RP_bind]
    congr; funext v c2
    cases remL c2 o v <;> rfl
  · rw [if_neg h, if_neg h]; rfl
theorem sp_augI : SP (sAugI i a env cs) K = match env[i]? with
  | some (some (.int j)) => RP (a env cs) (fun d c => match d with
    | .int b => K.nx (env.set i (some (.int (j + b)))) c
    | _ => False) (fun n fs c => K.xc n fs env c)
  | _ => False := by
  unfold sAugI
  cases env[i]? with
  | none => rfl
  | some o => cases o with
    | none => rfl
    | some d => cases d <;> first | rfl | (simp only; rw [SP_toS]; congr; funext d c; cases d <;> rfl)
theorem wp_enum {Q : List D → (Cells → Prop) → Cells → Prop} : WP (wEnum a env cs) Q X = RP (a env cs) (fun d c => match d with
  | .tup _ => False
  | d => match seqOf c d with
    | some ds => Q (enumD ds) (fun c2 => seqOf c2 d = some ds) c
    | none => False) X := by
  unfold wEnum
  rw [wp_toW]
  congr; funext d c
  cases d <;> first | rfl | (simp only; split <;> (rename_i h; first | rfl | (rw [h]; rfl)))
theorem rep_lst {t : List D} (q : repOkD (.lst t) = true) : ∃ z, reprBD cs [.lst t] = .ok (.str z) cs := by
  unfold repOkD at q
  split at q
  · rename_i p hp
    have q := of_decide_eq_true q
    refine ⟨codes p.shown, ?_⟩
    have hp' : pyOf cs (.lst t) = some p := hp
    unfold reprBD
    simp only [reprC, hp', if_pos q]
  · cases q
theorem rp_lenT {ds : List D} : RP (lenB cs [.tup ds]) P X = P (.int ds.length) cs := nr rfl
theorem rp_mulL {md : Bool} {a : List D} {k : Int} (h : 0 ≤ k ∧ k ≤ 1000 ∧ a.length ≤ 1000) : RP (mulD md cs (.lst a) (.int k)) P X = RP (mkL md cs (List.replicate k.toNat a).flatten) P X := by
  show RP (match listOf cs (.lst a) with
    | some a => if 0 ≤ k ∧ k ≤ 1000 ∧ a.length ≤ 1000 then mkL md cs (List.replicate k.toNat a).flatten else .stuck
    | none => .stuck) P X = _
  simp only [listOf, if_pos h]
theorem fin_rp {w : List Nat} {v : D} (ok : repOkD (.lst [.str w, v]) = true) (k : P (.bl false) cs) :
    RP (reprBD cs [.lst [.str w, v]]) (fun x c1 => RP (mkL false c1 [.str w, v]) (fun y c2 => RP (reprBD c2 [y]) (fun y2 c3 => RP (neD c3 x y2) P X) X) X) X := by
  obtain ⟨z, e⟩ := rep_lst (cs := cs) ok
  rw [rp_reprX e, rp_mkLf (by rw [sizeLine_eq]; simp), rp_reprX e, rp_neS]
  simp only [decide_true, Bool.not_true]
  exact k
/-- cheaper to ask: no dict, short ints -/
def repQ (d : D) : Bool := match py0 d with
  | some p => PyData.layable0 p && p.intsShort 13 && p.showable && decide (p.depth ≤ 60)
  | none => false
theorem repQ_ok (h : repQ d = true) : repOkD d = true := by
  unfold repQ at h
  unfold repOkD
  split at h
  · rename_i p hp
    rw [Bool.and_eq_true, Bool.and_eq_true, Bool.and_eq_true] at h
    have z := PyProof.Rows.shown_le13 h.1.1.1 h.1.1.2
    try rw [hp]
    refine decide_eq_true ⟨h.1.2, of_decide_eq_true h.2, ?_⟩
    rw [sizeLine_eq]; omega
  · cases h
end
end L3

/-! the calculus, for while loops and lists of texts in cells -/
namespace L3
open PySem L2
section
variable {P : D → Cells → Prop} {X : KX} {K : Cn} {env : Env} {cs : Cells}
theorem sp_whS {t : ME} {b : MS} {n : Nat} : SP (whN t b (n + 1) env cs) K = RP (t env cs) (fun d c1 => SP (brS d (match b env c1 with
      | .nx e c => whN t b n e c
      | .ct e c => whN t b n e c
      | .bk e c => .nx e c
      | r => r) (.nx env c1)) K) (fun x fs c => K.xc x fs env c) := SP_toS _ _
theorem sp_while {t : ME} {b : MS} (n : Nat) (h : SP (whN t b n env cs) K) : SP (sWhile t b env cs) K := by
  rw [sWhile_eq t b (n := n) (fun e => by rw [e] at h; exact h)]
  exact h
/-- so many turns as the invariant says -/
theorem wh_inv {t : ME} {b : MS} (n : Nat) (J : Nat → Env → Cells → Prop) (h0 : J 0 env cs)
    (hs : ∀ i env cs, i < n → J i env cs → RP (t env cs) (fun d c1 => d = .bl true ∧ SP (b env c1) { K with nx := J (i + 1), ct := J (i + 1), bk := K.nx }) (fun x fs c => K.xc x fs env c))
    (hn : ∀ env cs, J n env cs → RP (t env cs) (fun d c1 => d = .bl false ∧ K.nx env c1) (fun x fs c => K.xc x fs env c)) : SP (sWhile t b env cs) K := by
  refine sp_while (n + 1) ?_
  induction n generalizing J env cs with
  | zero =>
    rw [sp_whS]
    refine RP.mono (hn _ _ h0) fun d c1 ⟨e, k⟩ => ?_
    subst e
    exact k
  | succ n ih =>
    rw [sp_whS]
    refine RP.mono (hs 0 _ _ (Nat.succ_pos n) h0) fun d c1 ⟨e, k⟩ => ?_
    subst e
    have ih : ∀ e c, J 1 e c → SP (whN t b (n + 1) e c) K := fun e c hj => ih (fun i => J (i + 1)) hj (fun i e c hi h => hs (i + 1) e c (by omega) h) hn
    rw [brS_true]
    cases hb : b env c1 with
    | nx e c => rw [hb] at k; exact ih e c k
    | ct e c => rw [hb] at k; exact ih e c k
    | bk e c => rw [hb] at k; exact k
    | rt d c => rw [hb] at k; exact k
    | exc n fs e c => rw [hb] at k; exact k
    | stuck => rw [hb] at k; exact k
theorem flat_strs (H : List (List Nat)) : (H.map D.str).all flatD = true := by
  induction H with
  | nil => rfl
  | cons a r ih => rw [List.map_cons, List.all_cons, ih]; rfl
theorem inF_strs {z : List Nat} (H : List (List Nat)) : inF (.str z) (H.map D.str) = decide (z ∈ H) := by
  unfold inF
  rw [List.any_map, Bool.eq_iff_iff, List.any_eq_true, decide_eq_true_eq]
  constructor
  · rintro ⟨x, hx, e⟩
    have : x = z := of_decide_eq_true e
    subst this; exact hx
  · intro h; exact ⟨z, h, decide_eq_true rfl⟩
theorem inB_loc {z : List Nat} {H : List (List Nat)} {n : Nat} (h : cs[n]? = some (.lst (H.map D.str))) : inB cs (.str z) (.loc n) = some (decide (z ∈ H)) := by
  unfold inB
  split
  · rename_i e; cases e
  · simp only [seqOf, loc_list h, flat_strs, show flatD (.str z) = true from rfl, Bool.and_self, if_true, inF_strs]
theorem rp_inLoc {z : List Nat} {H : List (List Nat)} {n : Nat} (h : cs[n]? = some (.lst (H.map D.str))) : RP (inD cs (.str z) (.loc n)) P X = P (.bl (decide (z ∈ H))) cs := by
  unfold inD; rw [inB_loc h]; rfl
theorem rp_ninLoc {z : List Nat} {H : List (List Nat)} {n : Nat} (h : cs[n]? = some (.lst (H.map D.str))) : RP (ninD cs (.str z) (.loc n)) P X = P (.bl !decide (z ∈ H)) cs := by
  unfold ninD; rw [inB_loc h]; rfl
theorem push_at {l : List D} {n : Nat} {v : D} (h : cs[n]? = some (.lst l)) (q : l.length < sizeLine) : pushL cs (.loc n) v = some (cs.set n (.lst (l ++ [v]))) := by
  unfold pushL; simp only [h, if_pos q]
theorem cell_end {c : Cells} {x : Cell} : (c ++ [x])[c.length]? = some x := by
  rw [List.getElem?_append_right (Nat.le_refl _), Nat.sub_self]; rfl
theorem cell_set {c : Cells} {x y : Cell} : (c ++ [x]).set c.length y = c ++ [y] := by
  rw [List.set_append_right _ _ (Nat.le_refl _), Nat.sub_self]; rfl
theorem rp_slLoc {md : Bool} {l : List D} {n : Nat} {lo hi : Option Int} (h : cs[n]? = some (.lst l)) : RP (slD md cs (.loc n) lo hi) P X = RP (mkL md cs (cutL l lo hi)) P X := by
  unfold slD
  simp only [seqOf, loc_list h]
theorem isLc_end {c : Cells} {l : List D} : isLc (c ++ [.lst l]) (.loc c.length) = true := by simp only [isLc, cell_end]
end
end L3

/-! the calculus, for sorted, list(range()), list.index -/
namespace L3
open PySem L2
section
variable {P : D → Cells → Prop} {X : KX} {K : Cn} {env : Env} {cs : Cells} {a b c : ME} {d : D}
theorem rp_sort1 : RP (eSort1 a env cs) P X = RP (a env cs) (fun d c1 => match listOf c1 d with
  | some [] => RP (mkL false c1 []) P X
  | some [.int i] => RP (mkL false c1 [.int i]) P X
  | _ => False) X := by
  unfold eSort1
  rw [RP_bind]
  congr; funext d c1
  cases listOf c1 d with
  | none => rfl
  | some l =>
    rcases l with _ | ⟨x, _ | ⟨y, r⟩⟩
    · rfl
    · cases x <;> rfl
    · cases x <;> rfl
theorem rp_listRg : RP (eListRg a env cs) P X = RP (a env cs) (fun d c1 => match d with
  | .int n => if 0 ≤ n ∧ n ≤ 1000000 then RP (mkL false c1 ((List.range n.toNat).map fun i => .int (i : Nat))) P X else False
  | _ => False) X := by
  unfold eListRg
  rw [RP_bind]
  congr; funext d c1
  cases d <;> first | rfl | (simp only; split <;> rfl)
/-- the index of a text in a list of texts -/
theorem rp_lidx {n : Nat} {k : List Nat} {H : List (List Nat)} {i j : Nat} (hi : env[i]? = some (some (.loc n))) (hj : env[j]? = some (some (.str k))) (h : cs[n]? = some (.lst (H.map D.str))) (hk : k ∈ H) : RP (eLidx (eVar i) (eVar j) env cs) P X = P (.int (H.idxOf k : Nat)) cs := by
  have e1 : listOf cs (.loc n) = some (H.map D.str) := by simp only [listOf, h]
  have e2 : strsL (H.map D.str) = some H := by
    clear h e1 hk
    induction H with
    | nil => rfl
    | cons a r ih => simp only [List.map_cons, strsL, ih, Option.map_some]
  have e3 : isLc cs (.loc n) = true := by simp only [isLc, h]
  unfold eLidx
  rw [RP_bind]
  simp only [rp_varM, hi, e3, if_true, RP_bind, hj, e1, e2, hk]
  rfl
end
end L3

/-! the program by its places -/
namespace T_k15
open PySem L2 L3
def top (i : Nat) : Stmt := PySem.Challenge.pw_tailnames_k15_ways_refused.main.body.getD i (.Pass ⟨0, 0, 0, 0⟩)
/-- what the top has given names -/
structure Tx (K : PySem.W.Frag) (mg : Str → Option Value) : Prop where
  b_all : mg "all" = none
  b_bool : mg "bool" = none
  b_dict : mg "dict" = none
  b_int : mg "int" = none
  b_isinstance : mg "isinstance" = none
  b_len : mg "len" = none
  b_list : mg "list" = none
  b_max : mg "max" = none
  b_min : mg "min" = none
  b_range : mg "range" = none
  b_repr : mg "repr" = none
  b_set : mg "set" = none
  b_str : mg "str" = none
  b_tuple : mg "tuple" = none
  c_CLIMB : ∃ t, mg "CLIMB" = some (.str "climb" t)
  c_FIGURES : ∃ t, mg "FIGURES" = some (.str "0123456789" t)
  c_GREATEST : ∃ t, mg "GREATEST" = some (.int 999999999999999 t)
  c_GREATEST_WISH : ∃ t, mg "GREATEST_WISH" = some (.int 99999999999999 t)
  c_HASH : ∃ t, mg "HASH" = some (.str "#" t)
  c_LONGEST_MARK : ∃ t, mg "LONGEST_MARK" = some (.int 12 t)
  c_LONGEST_NAME : ∃ t, mg "LONGEST_NAME" = some (.int 200 t)
  c_LONGEST_WISH : ∃ t, mg "LONGEST_WISH" = some (.int 150 t)
  c_MOST_FIGURES : ∃ t, mg "MOST_FIGURES" = some (.int 15 t)
  c_MOST_NAMES : ∃ t, mg "MOST_NAMES" = some (.int 200 t)
  c_MOST_TAKEN : ∃ t, mg "MOST_TAKEN" = some (.int 100 t)
  c_NEST : ∃ t, mg "NEST" = some (.str "nest" t)
  c_SIGNS : ∃ t, mg "SIGNS" = some (.str "abcdefghijklmnopqrstuvwxyz0123456789-_.()" t)
  c_STAR : ∃ t, mg "STAR" = some (.str "*" t)
section
variable {P : Program} {w : World} {K : PySem.W.Frag} {mg : Str → Option Value} {base : Heap}
abbrev si_BadMark : Stmt := meth (top 5) 0
theorem ssi_BadMark : FnScope ["self", "found"] ["self", "found"] (defScope si_BadMark) := ⟨rfl, rfl, rfl, by decide +kernel, rfl, by decide +kernel, by decide +kernel⟩
theorem init_BadMark {f C B : Addr} {fd : FuncData} (F : Fun K "__init__" "BadMark.__init__" si_BadMark f fd) (hC : OexC K C) (hB : BaseC K B) (hm : mg "TailError" = some (.ref B)) (hf0 : PySem.W.findIn K (.ref C) "found" = some none) : FnOk P w K mg base CX0 1 f fd ["self", "found"] (spExI K C ["found"]) := by
  refine F.ok ssi_BadMark (fun vs H Q E h => spExI_len rfl h) fun cdv A outer s H vs Q E hr h => ?_
  obtain ⟨a, ys, rfl, hl, ha, q⟩ := h
  match ys, hl with
  | [y0], _ =>
    exact ⟨_, pss_cons (ps_expr (pe_cinit rfl hm hB (pa_cons (pv 0) (pa_cons pe_str pa_nil)))) (pss_one (ps_ost (pv 0) (pv 1))),
      ⟨_, rfl, a, C, _, rfl, by simp, hC, ha, ⟨_, rfl, _, rfl, a, C, rfl, hC, hf0, .inl ⟨ha, exI_one rfl ha q⟩⟩⟩⟩
abbrev si_BadName : Stmt := meth (top 3) 0
theorem ssi_BadName : FnScope ["self", "found"] ["self", "found"] (defScope si_BadName) := ⟨rfl, rfl, rfl, by decide +kernel, rfl, by decide +kernel, by decide +kernel⟩
theorem init_BadName {f C B : Addr} {fd : FuncData} (F : Fun K "__init__" "BadName.__init__" si_BadName f fd) (hC : OexC K C) (hB : BaseC K B) (hm : mg "TailError" = some (.ref B)) (hf0 : PySem.W.findIn K (.ref C) "found" = some none) : FnOk P w K mg base CX0 1 f fd ["self", "found"] (spExI K C ["found"]) := by
  refine F.ok ssi_BadName (fun vs H Q E h => spExI_len rfl h) fun cdv A outer s H vs Q E hr h => ?_
  obtain ⟨a, ys, rfl, hl, ha, q⟩ := h
  match ys, hl with
  | [y0], _ =>
    exact ⟨_, pss_cons (ps_expr (pe_cinit rfl hm hB (pa_cons (pv 0) (pa_cons pe_str pa_nil)))) (pss_one (ps_ost (pv 0) (pv 1))),
      ⟨_, rfl, a, C, _, rfl, by simp, hC, ha, ⟨_, rfl, _, rfl, a, C, rfl, hC, hf0, .inl ⟨ha, exI_one rfl ha q⟩⟩⟩⟩
abbrev si_BadNames : Stmt := meth (top 10) 0
theorem ssi_BadNames : FnScope ["self", "found"] ["self", "found"] (defScope si_BadNames) := ⟨rfl, rfl, rfl, by decide +kernel, rfl, by decide +kernel, by decide +kernel⟩
theorem init_BadNames {f C B : Addr} {fd : FuncData} (F : Fun K "__init__" "BadNames.__init__" si_BadNames f fd) (hC : OexC K C) (hB : BaseC K B) (hm : mg "TailError" = some (.ref B)) (hf0 : PySem.W.findIn K (.ref C) "found" = some none) : FnOk P w K mg base CX0 1 f fd ["self", "found"] (spExI K C ["found"]) := by
  refine F.ok ssi_BadNames (fun vs H Q E h => spExI_len rfl h) fun cdv A outer s H vs Q E hr h => ?_
  obtain ⟨a, ys, rfl, hl, ha, q⟩ := h
  match ys, hl with
  | [y0], _ =>
    exact ⟨_, pss_cons (ps_expr (pe_cinit rfl hm hB (pa_cons (pv 0) (pa_cons pe_str pa_nil)))) (pss_one (ps_ost (pv 0) (pv 1))),
      ⟨_, rfl, a, C, _, rfl, by simp, hC, ha, ⟨_, rfl, _, rfl, a, C, rfl, hC, hf0, .inl ⟨ha, exI_one rfl ha q⟩⟩⟩⟩
abbrev si_BadNumber : Stmt := meth (top 4) 0
theorem ssi_BadNumber : FnScope ["self", "found"] ["self", "found"] (defScope si_BadNumber) := ⟨rfl, rfl, rfl, by decide +kernel, rfl, by decide +kernel, by decide +kernel⟩
theorem init_BadNumber {f C B : Addr} {fd : FuncData} (F : Fun K "__init__" "BadNumber.__init__" si_BadNumber f fd) (hC : OexC K C) (hB : BaseC K B) (hm : mg "TailError" = some (.ref B)) (hf0 : PySem.W.findIn K (.ref C) "found" = some none) : FnOk P w K mg base CX0 1 f fd ["self", "found"] (spExI K C ["found"]) := by
  refine F.ok ssi_BadNumber (fun vs H Q E h => spExI_len rfl h) fun cdv A outer s H vs Q E hr h => ?_
  obtain ⟨a, ys, rfl, hl, ha, q⟩ := h
  match ys, hl with
  | [y0], _ =>
    exact ⟨_, pss_cons (ps_expr (pe_cinit rfl hm hB (pa_cons (pv 0) (pa_cons pe_str pa_nil)))) (pss_one (ps_ost (pv 0) (pv 1))),
      ⟨_, rfl, a, C, _, rfl, by simp, hC, ha, ⟨_, rfl, _, rfl, a, C, rfl, hC, hf0, .inl ⟨ha, exI_one rfl ha q⟩⟩⟩⟩
abbrev si_BadRule : Stmt := meth (top 8) 0
theorem ssi_BadRule : FnScope ["self", "found"] ["self", "found"] (defScope si_BadRule) := ⟨rfl, rfl, rfl, by decide +kernel, rfl, by decide +kernel, by decide +kernel⟩
theorem init_BadRule {f C B : Addr} {fd : FuncData} (F : Fun K "__init__" "BadRule.__init__" si_BadRule f fd) (hC : OexC K C) (hB : BaseC K B) (hm : mg "TailError" = some (.ref B)) (hf0 : PySem.W.findIn K (.ref C) "found" = some none) : FnOk P w K mg base CX0 1 f fd ["self", "found"] (spExI K C ["found"]) := by
  refine F.ok ssi_BadRule (fun vs H Q E h => spExI_len rfl h) fun cdv A outer s H vs Q E hr h => ?_
  obtain ⟨a, ys, rfl, hl, ha, q⟩ := h
  match ys, hl with
  | [y0], _ =>
    exact ⟨_, pss_cons (ps_expr (pe_cinit rfl hm hB (pa_cons (pv 0) (pa_cons pe_str pa_nil)))) (pss_one (ps_ost (pv 0) (pv 1))),
      ⟨_, rfl, a, C, _, rfl, by simp, hC, ha, ⟨_, rfl, _, rfl, a, C, rfl, hC, hf0, .inl ⟨ha, exI_one rfl ha q⟩⟩⟩⟩
abbrev si_BadWay : Stmt := meth (top 7) 0
theorem ssi_BadWay : FnScope ["self", "found"] ["self", "found"] (defScope si_BadWay) := ⟨rfl, rfl, rfl, by decide +kernel, rfl, by decide +kernel, by decide +kernel⟩
theorem init_BadWay {f C B : Addr} {fd : FuncData} (F : Fun K "__init__" "BadWay.__init__" si_BadWay f fd) (hC : OexC K C) (hB : BaseC K B) (hm : mg "TailError" = some (.ref B)) (hf0 : PySem.W.findIn K (.ref C) "found" = some none) : FnOk P w K mg base CX0 1 f fd ["self", "found"] (spExI K C ["found"]) := by
  refine F.ok ssi_BadWay (fun vs H Q E h => spExI_len rfl h) fun cdv A outer s H vs Q E hr h => ?_
  obtain ⟨a, ys, rfl, hl, ha, q⟩ := h
  match ys, hl with
  | [y0], _ =>
    exact ⟨_, pss_cons (ps_expr (pe_cinit rfl hm hB (pa_cons (pv 0) (pa_cons pe_str pa_nil)))) (pss_one (ps_ost (pv 0) (pv 1))),
      ⟨_, rfl, a, C, _, rfl, by simp, hC, ha, ⟨_, rfl, _, rfl, a, C, rfl, hC, hf0, .inl ⟨ha, exI_one rfl ha q⟩⟩⟩⟩
abbrev si_BadWish : Stmt := meth (top 9) 0
theorem ssi_BadWish : FnScope ["self", "found"] ["self", "found"] (defScope si_BadWish) := ⟨rfl, rfl, rfl, by decide +kernel, rfl, by decide +kernel, by decide +kernel⟩
theorem init_BadWish {f C B : Addr} {fd : FuncData} (F : Fun K "__init__" "BadWish.__init__" si_BadWish f fd) (hC : OexC K C) (hB : BaseC K B) (hm : mg "TailError" = some (.ref B)) (hf0 : PySem.W.findIn K (.ref C) "found" = some none) : FnOk P w K mg base CX0 1 f fd ["self", "found"] (spExI K C ["found"]) := by
  refine F.ok ssi_BadWish (fun vs H Q E h => spExI_len rfl h) fun cdv A outer s H vs Q E hr h => ?_
  obtain ⟨a, ys, rfl, hl, ha, q⟩ := h
  match ys, hl with
  | [y0], _ =>
    exact ⟨_, pss_cons (ps_expr (pe_cinit rfl hm hB (pa_cons (pv 0) (pa_cons pe_str pa_nil)))) (pss_one (ps_ost (pv 0) (pv 1))),
      ⟨_, rfl, a, C, _, rfl, by simp, hC, ha, ⟨_, rfl, _, rfl, a, C, rfl, hC, hf0, .inl ⟨ha, exI_one rfl ha q⟩⟩⟩⟩
abbrev si_Blurred : Stmt := meth (top 6) 0
theorem ssi_Blurred : FnScope ["self", "one", "other"] ["self", "one", "other"] (defScope si_Blurred) := ⟨rfl, rfl, rfl, by decide +kernel, rfl, by decide +kernel, by decide +kernel⟩
theorem init_Blurred {f C B : Addr} {fd : FuncData} (F : Fun K "__init__" "Blurred.__init__" si_Blurred f fd) (hC : OexC K C) (hB : BaseC K B) (hm : mg "TailError" = some (.ref B)) (hf0 : PySem.W.findIn K (.ref C) "one" = some none) (hf1 : PySem.W.findIn K (.ref C) "other" = some none) : FnOk P w K mg base CX0 1 f fd ["self", "one", "other"] (spExI K C ["one", "other"]) := by
  refine F.ok ssi_Blurred (fun vs H Q E h => spExI_len rfl h) fun cdv A outer s H vs Q E hr h => ?_
  obtain ⟨a, ys, rfl, hl, ha, q⟩ := h
  match ys, hl with
  | [y0, y1], _ =>
    exact ⟨_, pss_cons (ps_expr (pe_cinit rfl hm hB (pa_cons (pv 0) (pa_cons pe_str pa_nil)))) (pss_cons (ps_ost (pv 0) (pv 1)) (pss_one (ps_ost (pv 0) (pv 2)))),
      ⟨_, rfl, a, C, _, rfl, by simp, hC, ha, ⟨_, rfl, _, rfl, a, C, rfl, hC, hf0, .inl ⟨ha, fun dx hn ne => ⟨_, rfl, _, rfl, a, C, rfl, hC, hf1, .inr (exI_two rfl q dx hn ne)⟩⟩⟩⟩⟩
abbrev si_Doubled : Stmt := meth (top 11) 0
theorem ssi_Doubled : FnScope ["self", "found"] ["self", "found"] (defScope si_Doubled) := ⟨rfl, rfl, rfl, by decide +kernel, rfl, by decide +kernel, by decide +kernel⟩
theorem init_Doubled {f C B : Addr} {fd : FuncData} (F : Fun K "__init__" "Doubled.__init__" si_Doubled f fd) (hC : OexC K C) (hB : BaseC K B) (hm : mg "TailError" = some (.ref B)) (hf0 : PySem.W.findIn K (.ref C) "found" = some none) : FnOk P w K mg base CX0 1 f fd ["self", "found"] (spExI K C ["found"]) := by
  refine F.ok ssi_Doubled (fun vs H Q E h => spExI_len rfl h) fun cdv A outer s H vs Q E hr h => ?_
  obtain ⟨a, ys, rfl, hl, ha, q⟩ := h
  match ys, hl with
  | [y0], _ =>
    exact ⟨_, pss_cons (ps_expr (pe_cinit rfl hm hB (pa_cons (pv 0) (pa_cons pe_str pa_nil)))) (pss_one (ps_ost (pv 0) (pv 1))),
      ⟨_, rfl, a, C, _, rfl, by simp, hC, ha, ⟨_, rfl, _, rfl, a, C, rfl, hC, hf0, .inl ⟨ha, exI_one rfl ha q⟩⟩⟩⟩
/-- which error is under which -/
def isa : List ((Str × Str) × Bool) := [((("BadMark" : Str), ("BadName" : Str)), false), ((("BadMark" : Str), ("BadNames" : Str)), false), ((("BadMark" : Str), ("BadNumber" : Str)), false), ((("BadMark" : Str), ("BadRule" : Str)), false), ((("BadMark" : Str), ("BadWish" : Str)), false), ((("BadMark" : Str), ("Doubled" : Str)), false), ((("BadMark" : Str), ("TailError" : Str)), true), ((("BadName" : Str), ("BadName" : Str)), true), ((("BadName" : Str), ("BadNames" : Str)), false), ((("BadName" : Str), ("BadNumber" : Str)), false), ((("BadName" : Str), ("BadRule" : Str)), false), ((("BadName" : Str), ("BadWish" : Str)), false), ((("BadName" : Str), ("Doubled" : Str)), false), ((("BadName" : Str), ("TailError" : Str)), true), ((("BadNames" : Str), ("BadName" : Str)), false), ((("BadNames" : Str), ("BadNames" : Str)), true), ((("BadNames" : Str), ("BadNumber" : Str)), false), ((("BadNames" : Str), ("BadRule" : Str)), false), ((("BadNames" : Str), ("BadWish" : Str)), false), ((("BadNames" : Str), ("Doubled" : Str)), false), ((("BadNames" : Str), ("TailError" : Str)), true), ((("BadNumber" : Str), ("BadName" : Str)), false), ((("BadNumber" : Str), ("BadNames" : Str)), false), ((("BadNumber" : Str), ("BadNumber" : Str)), true), ((("BadNumber" : Str), ("BadRule" : Str)), false), ((("BadNumber" : Str), ("BadWish" : Str)), false), ((("BadNumber" : Str), ("Doubled" : Str)), false), ((("BadNumber" : Str), ("TailError" : Str)), true), ((("BadRule" : Str), ("BadName" : Str)), false), ((("BadRule" : Str), ("BadNames" : Str)), false), ((("BadRule" : Str), ("BadNumber" : Str)), false), ((("BadRule" : Str), ("BadRule" : Str)), true), ((("BadRule" : Str), ("BadWish" : Str)), false), ((("BadRule" : Str), ("Doubled" : Str)), false), ((("BadRule" : Str), ("TailError" : Str)), true), ((("BadWay" : Str), ("BadName" : Str)), false), ((("BadWay" : Str), ("BadNames" : Str)), false), ((("BadWay" : Str), ("BadNumber" : Str)), false), ((("BadWay" : Str), ("BadRule" : Str)), false), ((("BadWay" : Str), ("BadWish" : Str)), false), ((("BadWay" : Str), ("Doubled" : Str)), false), ((("BadWay" : Str), ("TailError" : Str)), true), ((("BadWish" : Str), ("BadName" : Str)), false), ((("BadWish" : Str), ("BadNames" : Str)), false), ((("BadWish" : Str), ("BadNumber" : Str)), false), ((("BadWish" : Str), ("BadRule" : Str)), false), ((("BadWish" : Str), ("BadWish" : Str)), true), ((("BadWish" : Str), ("Doubled" : Str)), false), ((("BadWish" : Str), ("TailError" : Str)), true), ((("Blurred" : Str), ("BadName" : Str)), false), ((("Blurred" : Str), ("BadNames" : Str)), false), ((("Blurred" : Str), ("BadNumber" : Str)), false), ((("Blurred" : Str), ("BadRule" : Str)), false), ((("Blurred" : Str), ("BadWish" : Str)), false), ((("Blurred" : Str), ("Doubled" : Str)), false), ((("Blurred" : Str), ("TailError" : Str)), true), ((("Doubled" : Str), ("BadName" : Str)), false), ((("Doubled" : Str), ("BadNames" : Str)), false), ((("Doubled" : Str), ("BadNumber" : Str)), false), ((("Doubled" : Str), ("BadRule" : Str)), false), ((("Doubled" : Str), ("BadWish" : Str)), false), ((("Doubled" : Str), ("Doubled" : Str)), true), ((("Doubled" : Str), ("TailError" : Str)), true)]
abbrev st__law_box : Stmt := top 63
theorem sc__law_box : FnScope ["cell"] ["cell"] (defScope st__law_box) := ⟨rfl, rfl, rfl, by decide +kernel, rfl, by decide +kernel, by decide +kernel⟩
noncomputable def mb__law_box : MS := (sRet (eList true (aCons (eBi maxB (aCons (eC (.int 0)) (aCons (op2 subD (eVar 0) (op2 powD (eC (.int 10)) (eC (.int 18)))) aNil))) (aCons (op2 modD (eVar 0) (eC (.int 2147483629))) (aCons (eC (.int 0)) aNil)))))
noncomputable def m__law_box : MF := mDef 1 mb__law_box
theorem ok__law_box {f : Addr} {fd : FuncData} (F : Fun K "_law_box" "_law_box" st__law_box f fd) (T : Tx K mg) (hN : ∃ mm, base.Ns sysModules mm) : FnG P w K mg base 1 f fd ["cell"] (spM ⟨P, w, K, mg⟩ m__law_box 1) := by
  refine fnMG F sc__law_box mb__law_box fun cdv A outer s H E hG hr => ?_
  exact (sms_one (sm_ret (xp_list true (xa_cons (xp_bi (call_max2 rfl) cb_max rfl T.b_max bo_max (xa_cons xp_int (xa_cons (xp_sub (xp_var (i := 0) rfl (.inl rfl)) (xp_pow xp_int xp_int)) xa_nil))) (xa_cons (xp_mod (xp_var (i := 0) rfl (.inl rfl)) xp_int) (xa_cons xp_int xa_nil))))))
abbrev st_is_mark : Stmt := top 27
theorem sc_is_mark : FnScope ["value", "sign"] ["value"] (defScope st_is_mark) := ⟨rfl, rfl, rfl, by decide +kernel, rfl, by decide +kernel, by decide +kernel⟩
noncomputable def mb_is_mark : MS := (sSeq (sIf (eOr (eNot (op1 (isiD "str") (eVar 0))) (op2 gtD (eBi lenB (aCons (eVar 0) aNil)) (eC (.int 12)))) (sRet (eC (.bl false))) sNx) (sSeq (sIf (eOr (op2 neD (eM1 cntD (eVar 0) (eC (.str [42]))) (eC (.int 1))) (op2 neD (eM1 cntD (eVar 0) (eC (.str [35]))) (eC (.int 1)))) (sRet (eC (.bl false))) sNx) (sRet (eBi allB (aCons (eLc false [1] (tgN 1) (wSeq (eVar 0)) (eC (.bl true)) (eOr (op2 inD (eVar 1) (eC (.str [97, 98, 99, 100, 101, 102, 103, 104, 105, 106, 107, 108, 109, 110, 111, 112, 113, 114, 115, 116, 117, 118, 119, 120, 121, 122, 48, 49, 50, 51, 52, 53, 54, 55, 56, 57, 45, 95, 46, 40, 41]))) (op2 inD (eVar 1) (eTup (aCons (eC (.str [42])) (aCons (eC (.str [35])) aNil)))))) aNil)))))
noncomputable def m_is_mark : MF := mDef 2 mb_is_mark
theorem ok_is_mark {f : Addr} {fd : FuncData} (F : Fun K "is_mark" "is_mark" st_is_mark f fd) (T : Tx K mg) (hN : ∃ mm, base.Ns sysModules mm) : FnG P w K mg base 1 f fd ["value"] (spM ⟨P, w, K, mg⟩ m_is_mark 1) := by
  refine fnMG F sc_is_mark mb_is_mark fun cdv A outer s H E hG hr => ?_
  obtain ⟨tk_HASH, g_HASH⟩ := T.c_HASH
  obtain ⟨tk_LONGEST_MARK, g_LONGEST_MARK⟩ := T.c_LONGEST_MARK
  obtain ⟨tk_SIGNS, g_SIGNS⟩ := T.c_SIGNS
  obtain ⟨tk_STAR, g_STAR⟩ := T.c_STAR
  exact (sms_cons (sm_if (Xw.t (xw_or (xt_not (xt_val (xp_isi rfl T.b_isinstance rfl T.b_str bo_str (xp_var (i := 0) rfl (.inl rfl))))) (xw_or1 (xt_gt (xp_bi call_len cb_len rfl T.b_len bo_len (xa_cons (xp_var (i := 0) rfl (.inl rfl)) xa_nil)) (xp_globI rfl g_LONGEST_MARK))))) (sms_one (sm_ret xp_bl)) sms_nil)
    (sms_cons (sm_if (Xw.t (xw_or (xt_ne hr.units (xp_cnt (xp_var (i := 0) rfl (.inl rfl)) (xp_globS (l := [42]) rfl g_STAR (by decide +kernel))) xp_int) (xw_or1 (xt_ne hr.units (xp_cnt (xp_var (i := 0) rfl (.inl rfl)) (xp_globS (l := [35]) rfl g_HASH (by decide +kernel))) xp_int)))) (sms_one (sm_ret xp_bl)) sms_nil)
    (sms_one (sm_ret (xp_bi (cr_all rfl) cb_all rfl T.b_all bo_all (xa_cons (xp_lc false rfl sc_is_mark.nd (wk_seq (xp_var (i := 0) rfl (.inl rfl))) (own := [("sign", 1)]) (blk_ok (N := ["value", "sign"]) (sc := defScope st_is_mark) (by decide +kernel)) ⟨fun s H C cl fp => (tgt_name (i := 1) (own := [1]) sc_is_mark.nd rfl (.inl rfl)), fun s H C cl fp => xts_nil, fun s H C cl fp => (xp_or (p2 := ⟨0, 0, 0, 0⟩) (xp_in (xp_var (i := 1) rfl (.inl rfl)) (xp_globS (l := [97, 98, 99, 100, 101, 102, 103, 104, 105, 106, 107, 108, 109, 110, 111, 112, 113, 114, 115, 116, 117, 118, 119, 120, 121, 122, 48, 49, 50, 51, 52, 53, 54, 55, 56, 57, 45, 95, 46, 40, 41]) rfl g_SIGNS (by decide +kernel)) rfl) (xp_one (xp_in (xp_var (i := 1) rfl (.inl rfl)) (xp_tup (xa_cons (xp_globS (l := [42]) rfl g_STAR (by decide +kernel)) (xa_cons (xp_globS (l := [35]) rfl g_HASH (by decide +kernel)) xa_nil))) rfl)))⟩) xa_nil))))))
abbrev st_need_mark : Stmt := top 28
theorem sc_need_mark : FnScope ["mark"] ["mark"] (defScope st_need_mark) := ⟨rfl, rfl, rfl, by decide +kernel, rfl, by decide +kernel, by decide +kernel⟩
noncomputable def mb_need_mark : MS := (sIf (eNot (eCall m_is_mark (aCons (eVar 0) aNil))) (sRaise "BadMark" ["found"] (aCons (eVar 0) aNil)) sNx)
noncomputable def m_need_mark : MF := mDef 1 mb_need_mark
theorem ok_need_mark {f : Addr} {fd : FuncData} (F : Fun K "need_mark" "need_mark" st_need_mark f fd) (T : Tx K mg) (hN : ∃ mm, base.Ns sysModules mm) (o_is_mark : OwnG P w K mg base 1 "is_mark" 1 m_is_mark) (x_BadMark : ExF P w K mg base "BadMark" ["found"]) : FnG P w K mg base 3 f fd ["mark"] (spM ⟨P, w, K, mg⟩ m_need_mark 1) := by
  refine fnMG F sc_need_mark mb_need_mark fun cdv A outer s H E hG hr => ?_
  exact (sms_one (sm_if (xt_not (xt_val (xp_ownG o_is_mark hG (hr.mono (by decide)) (takes_of rfl rfl rfl rfl) (xa_cons (xp_var (i := 0) rfl (.inl rfl)) xa_nil) rfl (len_cons len_nil)))) (sms_one (sm_raise rfl x_BadMark (hr.mono (by decide)) (takes_of rfl rfl rfl rfl) (xa_cons (xp_var (i := 0) rfl (.inl rfl)) xa_nil) rfl (by decide))) sms_nil))
abbrev st_parts : Stmt := top 32
theorem sc_parts : FnScope ["mark", "one", "other"] ["mark"] (defScope st_parts) := ⟨rfl, rfl, rfl, by decide +kernel, rfl, by decide +kernel, by decide +kernel⟩
noncomputable def mb_parts : MS := (sSeq (sAsg 1 (eBi minB (aCons (eM1 sixD (eVar 0) (eC (.str [42]))) (aCons (eM1 sixD (eVar 0) (eC (.str [35]))) aNil)))) (sSeq (sAsg 2 (eBi maxB (aCons (eM1 sixD (eVar 0) (eC (.str [42]))) (aCons (eM1 sixD (eVar 0) (eC (.str [35]))) aNil)))) (sRet (eTup (aCons (eSl false (eVar 0) oNone (oSome (eVar 1))) (aCons (eSl false (eVar 0) (oSome (op2 (addD false) (eVar 1) (eC (.int 1)))) (oSome (eVar 2))) (aCons (eSl false (eVar 0) (oSome (op2 (addD false) (eVar 2) (eC (.int 1)))) oNone) aNil)))))))
noncomputable def m_parts : MF := mDef 3 mb_parts
theorem ok_parts {f : Addr} {fd : FuncData} (F : Fun K "parts" "parts" st_parts f fd) (T : Tx K mg) (hN : ∃ mm, base.Ns sysModules mm) : FnG P w K mg base 1 f fd ["mark"] (spM ⟨P, w, K, mg⟩ m_parts 1) := by
  refine fnMG F sc_parts mb_parts fun cdv A outer s H E hG hr => ?_
  obtain ⟨tk_HASH, g_HASH⟩ := T.c_HASH
  obtain ⟨tk_STAR, g_STAR⟩ := T.c_STAR
  exact (sms_cons (sm_set (i := 1) sc_parts.nd rfl (.inl rfl) (xp_bi (call_min2 rfl) cb_min rfl T.b_min bo_min (xa_cons (xp_six (xp_var (i := 0) rfl (.inl rfl)) (xp_globS (l := [42]) rfl g_STAR (by decide +kernel))) (xa_cons (xp_six (xp_var (i := 0) rfl (.inl rfl)) (xp_globS (l := [35]) rfl g_HASH (by decide +kernel))) xa_nil))))
    (sms_cons (sm_set (i := 2) sc_parts.nd rfl (.inl rfl) (xp_bi (call_max2 rfl) cb_max rfl T.b_max bo_max (xa_cons (xp_six (xp_var (i := 0) rfl (.inl rfl)) (xp_globS (l := [42]) rfl g_STAR (by decide +kernel))) (xa_cons (xp_six (xp_var (i := 0) rfl (.inl rfl)) (xp_globS (l := [35]) rfl g_HASH (by decide +kernel))) xa_nil))))
    (sms_one (sm_ret (xp_tup (xa_cons (xp_sl false (xp_var (i := 0) rfl (.inl rfl)) xo_none (xo_some (xp_var (i := 1) rfl (.inl rfl)))) (xa_cons (xp_sl false (xp_var (i := 0) rfl (.inl rfl)) (xo_some (xp_add false (xp_var (i := 1) rfl (.inl rfl)) xp_int)) (xo_some (xp_var (i := 2) rfl (.inl rfl)))) (xa_cons (xp_sl false (xp_var (i := 0) rfl (.inl rfl)) (xo_some (xp_add false (xp_var (i := 2) rfl (.inl rfl)) xp_int)) xo_none) xa_nil))))))))
abbrev st_is_clear : Stmt := top 34
theorem sc_is_clear : FnScope ["mark", "sign"] ["mark"] (defScope st_is_clear) := ⟨rfl, rfl, rfl, by decide +kernel, rfl, by decide +kernel, by decide +kernel⟩
noncomputable def mb_is_clear : MS := (sSeq (sDrop (eCall m_need_mark (aCons (eVar 0) aNil))) (sRet (eNot (eBi allB (aCons (eLc false [1] (tgN 1) (wSeq (op2 ixD (eCall m_parts (aCons (eVar 0) aNil)) (eC (.int 1)))) (eC (.bl true)) (op2 inD (eVar 1) (eC (.str [48, 49, 50, 51, 52, 53, 54, 55, 56, 57])))) aNil)))))
noncomputable def m_is_clear : MF := mDef 2 mb_is_clear
theorem ok_is_clear {f : Addr} {fd : FuncData} (F : Fun K "is_clear" "is_clear" st_is_clear f fd) (T : Tx K mg) (hN : ∃ mm, base.Ns sysModules mm) (o_need_mark : OwnG P w K mg base 3 "need_mark" 1 m_need_mark) (o_parts : OwnG P w K mg base 1 "parts" 1 m_parts) : FnG P w K mg base 4 f fd ["mark"] (spM ⟨P, w, K, mg⟩ m_is_clear 1) := by
  refine fnMG F sc_is_clear mb_is_clear fun cdv A outer s H E hG hr => ?_
  obtain ⟨tk_FIGURES, g_FIGURES⟩ := T.c_FIGURES
  exact (sms_cons (sm_expr (xp_ownG o_need_mark hG (hr.mono (by decide)) (takes_of rfl rfl rfl rfl) (xa_cons (xp_var (i := 0) rfl (.inl rfl)) xa_nil) rfl (len_cons len_nil)))
    (sms_one (sm_ret (xp_not (xp_bi (cr_all rfl) cb_all rfl T.b_all bo_all (xa_cons (xp_lc false rfl sc_is_clear.nd (wk_seq (xp_ix (xp_ownG o_parts hG (hr.mono (by decide)) (takes_of rfl rfl rfl rfl) (xa_cons (xp_var (i := 0) rfl (.inl rfl)) xa_nil) rfl (len_cons len_nil)) xp_int (fun _ _ => rfl))) (own := [("sign", 1)]) (blk_ok (N := ["mark", "sign"]) (sc := defScope st_is_clear) (by decide +kernel)) ⟨fun s H C cl fp => (tgt_name (i := 1) (own := [1]) sc_is_clear.nd rfl (.inl rfl)), fun s H C cl fp => xts_nil, fun s H C cl fp => (xp_in (xp_var (i := 1) rfl (.inl rfl)) (xp_globS (l := [48, 49, 50, 51, 52, 53, 54, 55, 56, 57]) rfl g_FIGURES (by decide +kernel)) rfl)⟩) xa_nil))))))
abbrev st_name_first : Stmt := top 31
theorem sc_name_first : FnScope ["mark"] ["mark"] (defScope st_name_first) := ⟨rfl, rfl, rfl, by decide +kernel, rfl, by decide +kernel, by decide +kernel⟩
noncomputable def mb_name_first : MS := (sRet (op2 ltD (eM1 sixD (eVar 0) (eC (.str [42]))) (eM1 sixD (eVar 0) (eC (.str [35])))))
noncomputable def m_name_first : MF := mDef 1 mb_name_first
theorem ok_name_first {f : Addr} {fd : FuncData} (F : Fun K "name_first" "name_first" st_name_first f fd) (T : Tx K mg) (hN : ∃ mm, base.Ns sysModules mm) : FnG P w K mg base 1 f fd ["mark"] (spM ⟨P, w, K, mg⟩ m_name_first 1) := by
  refine fnMG F sc_name_first mb_name_first fun cdv A outer s H E hG hr => ?_
  obtain ⟨tk_HASH, g_HASH⟩ := T.c_HASH
  obtain ⟨tk_STAR, g_STAR⟩ := T.c_STAR
  exact (sms_one (sm_ret (xp_lt (xp_six (xp_var (i := 0) rfl (.inl rfl)) (xp_globS (l := [42]) rfl g_STAR (by decide +kernel))) (xp_six (xp_var (i := 0) rfl (.inl rfl)) (xp_globS (l := [35]) rfl g_HASH (by decide +kernel))))))
abbrev st_two_readings : Stmt := top 35
theorem sc_two_readings : FnScope ["mark", "between", "other"] ["mark"] (defScope st_two_readings) := ⟨rfl, rfl, rfl, by decide +kernel, rfl, by decide +kernel, by decide +kernel⟩
noncomputable def mb_two_readings : MS := (sSeq (sIf (eCall m_is_clear (aCons (eVar 0) aNil)) (sRet (eC .non)) sNx) (sSeq (sAsg 1 (op2 ixD (eCall m_parts (aCons (eVar 0) aNil)) (eC (.int 1)))) (sSeq (sAsg 2 (eIf (eCall m_name_first (aCons (eVar 0) aNil)) (op2 (addD false) (op2 (addD false) (eC (.str [97])) (eVar 1)) (eC (.str [50]))) (op2 (addD false) (op2 (addD false) (eC (.str [50])) (eVar 1)) (eC (.str [97]))))) (sRet (eTup (aCons (eTup (aCons (eC (.str [97])) (aCons (eBi intB (aCons (op2 (addD false) (op2 (addD false) (eC (.str [50])) (eVar 1)) (eC (.str [50]))) aNil)) aNil))) (aCons (eTup (aCons (eVar 2) (aCons (eC (.int 2)) aNil))) aNil)))))))
noncomputable def m_two_readings : MF := mDef 3 mb_two_readings
theorem ok_two_readings {f : Addr} {fd : FuncData} (F : Fun K "two_readings" "two_readings" st_two_readings f fd) (T : Tx K mg) (hN : ∃ mm, base.Ns sysModules mm) (o_is_clear : OwnG P w K mg base 4 "is_clear" 1 m_is_clear) (o_parts : OwnG P w K mg base 1 "parts" 1 m_parts) (o_name_first : OwnG P w K mg base 1 "name_first" 1 m_name_first) : FnG P w K mg base 5 f fd ["mark"] (spM ⟨P, w, K, mg⟩ m_two_readings 1) := by
  refine fnMG F sc_two_readings mb_two_readings fun cdv A outer s H E hG hr => ?_
  exact (sms_cons (sm_if (xt_val (xp_ownG o_is_clear hG (hr.mono (by decide)) (takes_of rfl rfl rfl rfl) (xa_cons (xp_var (i := 0) rfl (.inl rfl)) xa_nil) rfl (len_cons len_nil))) (sms_one (sm_ret xp_non)) sms_nil)
    (sms_cons (sm_set (i := 1) sc_two_readings.nd rfl (.inl rfl) (xp_ix (xp_ownG o_parts hG (hr.mono (by decide)) (takes_of rfl rfl rfl rfl) (xa_cons (xp_var (i := 0) rfl (.inl rfl)) xa_nil) rfl (len_cons len_nil)) xp_int (fun _ _ => rfl)))
    (sms_cons (sm_set (i := 2) sc_two_readings.nd rfl (.inl rfl) (xp_if (xt_val (xp_ownG o_name_first hG (hr.mono (by decide)) (takes_of rfl rfl rfl rfl) (xa_cons (xp_var (i := 0) rfl (.inl rfl)) xa_nil) rfl (len_cons len_nil))) (xp_add false (xp_add false (xp_str (l := [97]) (by decide +kernel)) (xp_var (i := 1) rfl (.inl rfl))) (xp_str (l := [50]) (by decide +kernel))) (xp_add false (xp_add false (xp_str (l := [50]) (by decide +kernel)) (xp_var (i := 1) rfl (.inl rfl))) (xp_str (l := [97]) (by decide +kernel)))))
    (sms_one (sm_ret (xp_tup (xa_cons (xp_tup (xa_cons (xp_str (l := [97]) (by decide +kernel)) (xa_cons (xp_ty call_int_str cb_int rfl T.b_int bo_int (xa_cons (xp_add false (xp_add false (xp_str (l := [50]) (by decide +kernel)) (xp_var (i := 1) rfl (.inl rfl))) (xp_str (l := [50]) (by decide +kernel))) xa_nil)) xa_nil))) (xa_cons (xp_tup (xa_cons (xp_var (i := 2) rfl (.inl rfl)) (xa_cons xp_int xa_nil))) xa_nil))))))))
abbrev st_need_clear : Stmt := top 36
theorem sc_need_clear : FnScope ["mark", "found"] ["mark"] (defScope st_need_clear) := ⟨rfl, rfl, rfl, by decide +kernel, rfl, by decide +kernel, by decide +kernel⟩
noncomputable def mb_need_clear : MS := (sSeq (sAsg 1 (eCall m_two_readings (aCons (eVar 0) aNil))) (sIf (op1 (isNB none) (eVar 1)) (sRaise "Blurred" ["one", "other"] (aCons (op2 ixD (eVar 1) (eC (.int 0))) (aCons (op2 ixD (eVar 1) (eC (.int 1))) aNil))) sNx))
noncomputable def m_need_clear : MF := mDef 2 mb_need_clear
theorem ok_need_clear {f : Addr} {fd : FuncData} (F : Fun K "need_clear" "need_clear" st_need_clear f fd) (T : Tx K mg) (hN : ∃ mm, base.Ns sysModules mm) (o_two_readings : OwnG P w K mg base 5 "two_readings" 1 m_two_readings) (x_Blurred : ExF P w K mg base "Blurred" ["one", "other"]) : FnG P w K mg base 6 f fd ["mark"] (spM ⟨P, w, K, mg⟩ m_need_clear 1) := by
  refine fnMG F sc_need_clear mb_need_clear fun cdv A outer s H E hG hr => ?_
  exact (sms_cons (sm_set (i := 1) sc_need_clear.nd rfl (.inl rfl) (xp_ownG o_two_readings hG (hr.mono (by decide)) (takes_of rfl rfl rfl rfl) (xa_cons (xp_var (i := 0) rfl (.inl rfl)) xa_nil) rfl (len_cons len_nil)))
    (sms_one (sm_if (xt_notN (xp_var (i := 1) rfl (.inl rfl))) (sms_one (sm_raise rfl x_Blurred (hr.mono (by decide)) (takes_of rfl rfl rfl rfl) (xa_cons (xp_ix (xp_var (i := 1) rfl (.inl rfl)) xp_int (fun _ _ => rfl)) (xa_cons (xp_ix (xp_var (i := 1) rfl (.inl rfl)) xp_int (fun _ _ => rfl)) xa_nil)) rfl (by decide))) sms_nil)))
abbrev st_Rule___init__ : Stmt := meth (top 46) 0
theorem sc_Rule___init__ : FnScope ["self", "mark", "way"] ["self", "mark", "way"] (defScope st_Rule___init__) := ⟨rfl, rfl, rfl, by decide +kernel, rfl, by decide +kernel, by decide +kernel⟩
noncomputable def mb_Rule___init__ : MS := (sSeq (sDrop (eCall m_need_clear (aCons (eVar 1) aNil))) (sSeq (sIf (eOr (eNot (op1 (isiD "str") (eVar 2))) (op2 ninD (eVar 2) (eTup (aCons (eC (.str [110, 101, 115, 116])) (aCons (eC (.str [99, 108, 105, 109, 98])) aNil))))) (sRaise "BadWay" ["found"] (aCons (eVar 2) aNil)) sNx) (sSeq (sFst "Rule" "rule_mark" (eVar 0) (eVar 1)) (sFst "Rule" "rule_way" (eVar 0) (eVar 2)))))
noncomputable def m_Rule___init__ : MF := mDef 3 mb_Rule___init__
theorem ok_Rule___init__ {f : Addr} {fd : FuncData} (F : Fun K "__init__" "Rule.__init__" st_Rule___init__ f fd) (T : Tx K mg) (hN : ∃ mm, base.Ns sysModules mm) (o_need_clear : OwnG P w K mg base 6 "need_clear" 1 m_need_clear) (f_Rule_rule_mark : FldOk K mg "Rule" "rule_mark") (f_Rule_rule_way : FldOk K mg "Rule" "rule_way") (x_BadWay : ExF P w K mg base "BadWay" ["found"]) : FnG P w K mg base 7 f fd ["self", "mark", "way"] (spM ⟨P, w, K, mg⟩ m_Rule___init__ 3) := by
  refine fnMG F sc_Rule___init__ mb_Rule___init__ fun cdv A outer s H E hG hr => ?_
  obtain ⟨tk_CLIMB, g_CLIMB⟩ := T.c_CLIMB
  obtain ⟨tk_NEST, g_NEST⟩ := T.c_NEST
  exact (sms_cons (sm_expr (xp_ownG o_need_clear hG (hr.mono (by decide)) (takes_of rfl rfl rfl rfl) (xa_cons (xp_var (i := 1) rfl (.inl rfl)) xa_nil) rfl (len_cons len_nil)))
    (sms_cons (sm_if (Xw.t (xw_or (xt_not (xt_val (xp_isi rfl T.b_isinstance rfl T.b_str bo_str (xp_var (i := 2) rfl (.inl rfl))))) (xw_or1 (xt_nin (xp_var (i := 2) rfl (.inl rfl)) (xp_tup (xa_cons (xp_globS (l := [110, 101, 115, 116]) rfl g_NEST (by decide +kernel)) (xa_cons (xp_globS (l := [99, 108, 105, 109, 98]) rfl g_CLIMB (by decide +kernel)) xa_nil))) rfl)))) (sms_one (sm_raise rfl x_BadWay (hr.mono (by decide)) (takes_of rfl rfl rfl rfl) (xa_cons (xp_var (i := 2) rfl (.inl rfl)) xa_nil) rfl (by decide))) sms_nil)
    (sms_cons (sm_fst f_Rule_rule_mark (xp_var (i := 0) rfl (.inl rfl)) (xp_var (i := 1) rfl (.inl rfl)))
    (sms_one (sm_fst f_Rule_rule_way (xp_var (i := 0) rfl (.inl rfl)) (xp_var (i := 2) rfl (.inl rfl)))))))
abbrev st__law_take : Stmt := top 64
theorem sc__law_take : FnScope ["box", "many", "digit", "one", "two"] ["box", "many"] (defScope st__law_take) := ⟨rfl, rfl, rfl, by decide +kernel, rfl, by decide +kernel, by decide +kernel⟩
noncomputable def mb__law_take : MS := (sSeq (sIf (op2 gtD (op2 ixD (eVar 0) (eC (.int 0))) (eC (.int 0))) (sSeq (sAsg 2 (op2 modD (op2 ixD (eVar 0) (eC (.int 0))) (eVar 1))) (sSeq (sPut (eVar 0) (eC (.int 0)) (op2 fdivD (op2 ixD (eVar 0) (eC (.int 0))) (eVar 1))) (sRet (eVar 2)))) sNx) (sSeq (sPut (eVar 0) (eC (.int 2)) (op2 (addD false) (op2 ixD (eVar 0) (eC (.int 2))) (eC (.int 1)))) (sSeq (sAsg 3 (op2 modD (op2 powD (op2 (addD false) (op2 (addD false) (op2 ixD (eVar 0) (eC (.int 1))) (op2 (mulD false) (eC (.int 7919)) (op2 ixD (eVar 0) (eC (.int 2))))) (eC (.int 37))) (eC (.int 5))) (eC (.int 2147483647)))) (sSeq (sAsg 4 (op2 modD (op2 powD (op2 (addD false) (op2 (addD false) (op2 fdivD (eVar 3) (eC (.int 8))) (op2 (mulD false) (op2 (mulD false) (eC (.int 104729)) (op2 ixD (eVar 0) (eC (.int 2)))) (op2 ixD (eVar 0) (eC (.int 2))))) (eC (.int 11))) (eC (.int 3))) (eC (.int 2147483587)))) (sRet (op2 modD (op2 (addD false) (op2 fdivD (eVar 3) (eC (.int 4))) (op2 (mulD false) (eC (.int 536870909)) (op2 fdivD (eVar 4) (eC (.int 4))))) (eVar 1)))))))
noncomputable def m__law_take : MF := mDef 5 mb__law_take
theorem ok__law_take {f : Addr} {fd : FuncData} (F : Fun K "_law_take" "_law_take" st__law_take f fd) (T : Tx K mg) (hN : ∃ mm, base.Ns sysModules mm) : FnG P w K mg base 1 f fd ["box", "many"] (spM ⟨P, w, K, mg⟩ m__law_take 2) := by
  refine fnMG F sc__law_take mb__law_take fun cdv A outer s H E hG hr => ?_
  exact (sms_cons (sm_if (xt_gt (xp_ix (xp_var (i := 0) rfl (.inl rfl)) xp_int (fun _ _ => rfl)) xp_int) (sms_cons (sm_set (i := 2) sc__law_take.nd rfl (.inl rfl) (xp_mod (xp_ix (xp_var (i := 0) rfl (.inl rfl)) xp_int (fun _ _ => rfl)) (xp_var (i := 1) rfl (.inl rfl))))
    (sms_cons (sm_put (xp_var (i := 0) rfl (.inl rfl)) xp_int (xp_fdiv (xp_ix (xp_var (i := 0) rfl (.inl rfl)) xp_int (fun _ _ => rfl)) (xp_var (i := 1) rfl (.inl rfl))))
    (sms_one (sm_ret (xp_var (i := 2) rfl (.inl rfl)))))) sms_nil)
    (sms_cons (sm_put (xp_var (i := 0) rfl (.inl rfl)) xp_int (xp_add false (xp_ix (xp_var (i := 0) rfl (.inl rfl)) xp_int (fun _ _ => rfl)) xp_int))
    (sms_cons (sm_set (i := 3) sc__law_take.nd rfl (.inl rfl) (xp_mod (xp_pow (xp_add false (xp_add false (xp_ix (xp_var (i := 0) rfl (.inl rfl)) xp_int (fun _ _ => rfl)) (xp_mul false xp_int (xp_ix (xp_var (i := 0) rfl (.inl rfl)) xp_int (fun _ _ => rfl)))) xp_int) xp_int) xp_int))
    (sms_cons (sm_set (i := 4) sc__law_take.nd rfl (.inl rfl) (xp_mod (xp_pow (xp_add false (xp_add false (xp_fdiv (xp_var (i := 3) rfl (.inl rfl)) xp_int) (xp_mul false (xp_mul false xp_int (xp_ix (xp_var (i := 0) rfl (.inl rfl)) xp_int (fun _ _ => rfl))) (xp_ix (xp_var (i := 0) rfl (.inl rfl)) xp_int (fun _ _ => rfl)))) xp_int) xp_int) xp_int))
    (sms_one (sm_ret (xp_mod (xp_add false (xp_fdiv (xp_var (i := 3) rfl (.inl rfl)) xp_int) (xp_mul false xp_int (xp_fdiv (xp_var (i := 4) rfl (.inl rfl)) xp_int))) (xp_var (i := 1) rfl (.inl rfl)))))))))
abbrev st__law_signs : Stmt := top 65
theorem sc__law_signs : FnScope ["box", "many", "k"] ["box", "many"] (defScope st__law_signs) := ⟨rfl, rfl, rfl, by decide +kernel, rfl, by decide +kernel, by decide +kernel⟩
noncomputable def mb__law_signs : MS := (sRet (eM1 joinD (eC (.str [])) (eLc false [2] (tgN 2) (wR1 (eVar 1)) (eC (.bl true)) (op2 ixD (eC (.str [97, 98, 99, 100, 101, 102, 103, 104, 105, 106, 107, 108, 109, 110, 111, 112, 113, 114, 115, 116, 117, 118, 119, 120, 121, 122, 48, 49, 50, 51, 52, 53, 54, 55, 56, 57, 45, 95, 46, 40, 41])) (eCall m__law_take (aCons (eVar 0) (aCons (eC (.int 41)) aNil)))))))
noncomputable def m__law_signs : MF := mDef 3 mb__law_signs
theorem ok__law_signs {f : Addr} {fd : FuncData} (F : Fun K "_law_signs" "_law_signs" st__law_signs f fd) (T : Tx K mg) (hN : ∃ mm, base.Ns sysModules mm) (o__law_take : OwnG P w K mg base 1 "_law_take" 2 m__law_take) : FnG P w K mg base 2 f fd ["box", "many"] (spM ⟨P, w, K, mg⟩ m__law_signs 2) := by
  refine fnMG F sc__law_signs mb__law_signs fun cdv A outer s H E hG hr => ?_
  exact (sms_one (sm_ret (xp_join (xp_str (l := []) (by decide +kernel)) (xp_lc false rfl sc__law_signs.nd (wk_range1 rfl T.b_range (xp_var (i := 1) rfl (.inl rfl))) (own := [("k", 2)]) (blk_ok (N := ["box", "many", "k"]) (sc := defScope st__law_signs) (by decide +kernel)) ⟨fun s H C cl fp => (tgt_name (i := 2) (own := [2]) sc__law_signs.nd rfl (.inl rfl)), fun s H C cl fp => xts_nil, fun s H C cl fp => (xp_ix (xp_str (l := [97, 98, 99, 100, 101, 102, 103, 104, 105, 106, 107, 108, 109, 110, 111, 112, 113, 114, 115, 116, 117, 118, 119, 120, 121, 122, 48, 49, 50, 51, 52, 53, 54, 55, 56, 57, 45, 95, 46, 40, 41]) (by decide +kernel)) (xp_ownG o__law_take hG (hr.mono (by decide)) takes_no (xa_cons (xp_var (i := 0) rfl (.inr (.inl rfl))) (xa_cons xp_int xa_nil)) rfl (len_cons (len_cons len_nil))) (fun _ _ => rfl))⟩))))
abbrev st__law_is_name : Stmt := top 71
theorem sc__law_is_name : FnScope ["value", "most", "sign"] ["value", "most"] (defScope st__law_is_name) := ⟨rfl, rfl, rfl, by decide +kernel, rfl, by decide +kernel, by decide +kernel⟩
noncomputable def mb__law_is_name : MS := (sSeq (sIf (eOr (eNot (op1 (isiD "str") (eVar 0))) (eNot (eChain leD leD (eC (.int 1)) (eBi lenB (aCons (eVar 0) aNil)) (eVar 1)))) (sRet (eC (.bl false))) sNx) (sRet (op2 eqD (eLc false [2] (tgN 2) (wSeq (eVar 0)) (op2 ninD (eVar 2) (eC (.str [97, 98, 99, 100, 101, 102, 103, 104, 105, 106, 107, 108, 109, 110, 111, 112, 113, 114, 115, 116, 117, 118, 119, 120, 121, 122, 48, 49, 50, 51, 52, 53, 54, 55, 56, 57, 45, 95, 46, 40, 41]))) (eVar 2)) (eList false aNil))))
noncomputable def m__law_is_name : MF := mDef 3 mb__law_is_name
theorem ok__law_is_name {f : Addr} {fd : FuncData} (F : Fun K "_law_is_name" "_law_is_name" st__law_is_name f fd) (T : Tx K mg) (hN : ∃ mm, base.Ns sysModules mm) : FnG P w K mg base 1 f fd ["value", "most"] (spM ⟨P, w, K, mg⟩ m__law_is_name 2) := by
  refine fnMG F sc__law_is_name mb__law_is_name fun cdv A outer s H E hG hr => ?_
  exact (sms_cons (sm_if (Xw.t (xw_or (xt_not (xt_val (xp_isi rfl T.b_isinstance rfl T.b_str bo_str (xp_var (i := 0) rfl (.inl rfl))))) (xw_or1 (xt_not (xt_chain op_le o2_le op_le o2_le xp_int (xp_bi call_len cb_len rfl T.b_len bo_len (xa_cons (xp_var (i := 0) rfl (.inl rfl)) xa_nil)) (xp_var (i := 1) rfl (.inl rfl))))))) (sms_one (sm_ret xp_bl)) sms_nil)
    (sms_one (sm_ret (xp_eq hr.units (xp_lc false rfl sc__law_is_name.nd (wk_seq (xp_var (i := 0) rfl (.inl rfl))) (own := [("sign", 2)]) (blk_ok (N := ["value", "most", "sign"]) (sc := defScope st__law_is_name) (by decide +kernel)) ⟨fun s H C cl fp => (tgt_name (i := 2) (own := [2]) sc__law_is_name.nd rfl (.inl rfl)), fun s H C cl fp => (xts_one (xt_nin (xp_var (i := 2) rfl (.inl rfl)) (xp_str (l := [97, 98, 99, 100, 101, 102, 103, 104, 105, 106, 107, 108, 109, 110, 111, 112, 113, 114, 115, 116, 117, 118, 119, 120, 121, 122, 48, 49, 50, 51, 52, 53, 54, 55, 56, 57, 45, 95, 46, 40, 41]) (by decide +kernel)) rfl)), fun s H C cl fp => (xp_var (i := 2) rfl (.inl rfl))⟩) (xp_list false xa_nil)))))
abbrev st__law_spoilt : Stmt := top 74
theorem sc__law_spoilt : FnScope ["box", "odd", "names", "at", "first"] ["box", "odd"] (defScope st__law_spoilt) := ⟨rfl, rfl, rfl, by decide +kernel, rfl, by decide +kernel, by decide +kernel⟩
noncomputable def mb__law_spoilt : MS := (sSeq (sAsg 2 (eLc false [3] (tgN 3) (wR1 (op2 (addD false) (eC (.int 2)) (eCall m__law_take (aCons (eVar 0) (aCons (eC (.int 20)) aNil))))) (eC (.bl true)) (op2 (addD false) (eCall m__law_signs (aCons (eVar 0) (aCons (eC (.int 2)) aNil))) (op2 (mulD false) (eC (.str [107])) (eVar 3))))) (sSeq (sPar [4, 3] (aCons (eCall m__law_take (aCons (eVar 0) (aCons (eBi lenB (aCons (eVar 2) aNil)) aNil))) (aCons (eCall m__law_take (aCons (eVar 0) (aCons (eBi lenB (aCons (eVar 2) aNil)) aNil))) aNil))) (sSeq (sIf (eAnd (eNot (eCall m__law_is_name (aCons (eVar 1) (aCons (eC (.int 200)) aNil)))) (op2 eqD (eCall m__law_take (aCons (eVar 0) (aCons (eC (.int 2)) aNil))) (eC (.int 0)))) (sSeq (sAsg 2 (op2 (addD false) (op2 (addD false) (eSl false (eVar 2) oNone (oSome (eVar 3))) (eList false (aCons (eVar 1) aNil))) (eSl false (eVar 2) (oSome (eVar 3)) oNone))) (sRet (eList false (aCons (op2 (addD false) (eVar 2) (eList false (aCons (op2 ixD (eVar 2) (eC (.int 0))) aNil))) (aCons (eC (.str [110, 97, 109, 101])) (aCons (eVar 1) aNil)))))) sNx) (sSeq (sAsg 2 (op2 (addD false) (op2 (addD false) (eSl false (eVar 2) oNone (oSome (eBi maxB (aCons (eVar 4) (aCons (eVar 3) aNil))))) (eList false (aCons (op2 ixD (eVar 2) (eBi minB (aCons (eVar 4) (aCons (eVar 3) aNil)))) aNil))) (eSl false (eVar 2) (oSome (eBi maxB (aCons (eVar 4) (aCons (eVar 3) aNil)))) oNone))) (sRet (eList false (aCons (op2 (addD false) (eVar 2) (eList false (aCons (eC (.str [])) aNil))) (aCons (eC (.str [100, 111, 117, 98, 108, 101, 100])) (aCons (op2 ixD (eVar 2) (eBi minB (aCons (eVar 4) (aCons (eVar 3) aNil)))) aNil)))))))))
noncomputable def m__law_spoilt : MF := mDef 5 mb__law_spoilt
theorem ok__law_spoilt {f : Addr} {fd : FuncData} (F : Fun K "_law_spoilt" "_law_spoilt" st__law_spoilt f fd) (T : Tx K mg) (hN : ∃ mm, base.Ns sysModules mm) (o__law_take : OwnG P w K mg base 1 "_law_take" 2 m__law_take) (o__law_signs : OwnG P w K mg base 2 "_law_signs" 2 m__law_signs) (o__law_is_name : OwnG P w K mg base 1 "_law_is_name" 2 m__law_is_name) : FnG P w K mg base 3 f fd ["box", "odd"] (spM ⟨P, w, K, mg⟩ m__law_spoilt 2) := by
  refine fnMG F sc__law_spoilt mb__law_spoilt fun cdv A outer s H E hG hr => ?_
  exact (sms_cons (sm_setLc (i := 2) false rfl sc__law_spoilt.nd rfl rfl rfl (wk_range1 rfl T.b_range (xp_add false xp_int (xp_ownG o__law_take hG (hr.mono (by decide)) (takes_of rfl rfl rfl rfl) (xa_cons (xp_var (i := 0) rfl (.inr (.inl rfl))) (xa_cons xp_int xa_nil)) rfl (len_cons (len_cons len_nil))))) (own := [("at", 3)]) (blk_ok (N := ["box", "odd", "names", "at", "first"]) (sc := defScope st__law_spoilt) (by decide +kernel)) ⟨fun s H C cl fp => (tgt_name (i := 3) (own := [3]) sc__law_spoilt.nd rfl (.inl rfl)), fun s H C cl fp => xts_nil, fun s H C cl fp => (xp_add false (xp_ownG o__law_signs hG (hr.mono (by decide)) takes_no (xa_cons (xp_var (i := 0) rfl (.inr (.inl rfl))) (xa_cons xp_int xa_nil)) rfl (len_cons (len_cons len_nil))) (xp_mul false (xp_str (l := [107]) (by decide +kernel)) (xp_var (i := 3) rfl (.inl rfl))))⟩)
    (sms_cons (sm_par2 rfl sc__law_spoilt.nd rfl rfl rfl rfl (xa_cons (xp_ownG o__law_take hG (hr.mono (by decide)) (takes_of rfl rfl rfl rfl) (xa_cons (xp_var (i := 0) rfl (.inr (.inl rfl))) (xa_cons (xp_bi call_len cb_len rfl T.b_len bo_len (xa_cons (xp_var (i := 2) rfl (.inl rfl)) xa_nil)) xa_nil)) rfl (len_cons (len_cons len_nil))) (xa_cons (xp_ownG o__law_take hG (hr.mono (by decide)) (takes_of rfl rfl rfl rfl) (xa_cons (xp_var (i := 0) rfl (.inr (.inl rfl))) (xa_cons (xp_bi call_len cb_len rfl T.b_len bo_len (xa_cons (xp_var (i := 2) rfl (.inl rfl)) xa_nil)) xa_nil)) rfl (len_cons (len_cons len_nil))) xa_nil)))
    (sms_cons (sm_if (Xw.t (xw_and (xt_not (xt_val (xp_ownG o__law_is_name hG (hr.mono (by decide)) (takes_of rfl rfl rfl rfl) (xa_cons (xp_var (i := 1) rfl (.inl rfl)) (xa_cons xp_int xa_nil)) rfl (len_cons (len_cons len_nil))))) (xw_and1 (xt_eq hr.units (xp_ownG o__law_take hG (hr.mono (by decide)) (takes_of rfl rfl rfl rfl) (xa_cons (xp_var (i := 0) rfl (.inr (.inl rfl))) (xa_cons xp_int xa_nil)) rfl (len_cons (len_cons len_nil))) xp_int)))) (sms_cons (sm_set (i := 2) sc__law_spoilt.nd rfl (.inl rfl) (xp_add false (xp_add false (xp_sl false (xp_var (i := 2) rfl (.inl rfl)) xo_none (xo_some (xp_var (i := 3) rfl (.inl rfl)))) (xp_list false (xa_cons (xp_var (i := 1) rfl (.inl rfl)) xa_nil))) (xp_sl false (xp_var (i := 2) rfl (.inl rfl)) (xo_some (xp_var (i := 3) rfl (.inl rfl))) xo_none)))
    (sms_one (sm_ret (xp_list false (xa_cons (xp_add false (xp_var (i := 2) rfl (.inl rfl)) (xp_list false (xa_cons (xp_ix (xp_var (i := 2) rfl (.inl rfl)) xp_int (fun _ _ => rfl)) xa_nil))) (xa_cons (xp_str (l := [110, 97, 109, 101]) (by decide +kernel)) (xa_cons (xp_var (i := 1) rfl (.inl rfl)) xa_nil))))))) sms_nil)
    (sms_cons (sm_set (i := 2) sc__law_spoilt.nd rfl (.inl rfl) (xp_add false (xp_add false (xp_sl false (xp_var (i := 2) rfl (.inl rfl)) xo_none (xo_some (xp_bi (call_max2 rfl) cb_max rfl T.b_max bo_max (xa_cons (xp_var (i := 4) rfl (.inl rfl)) (xa_cons (xp_var (i := 3) rfl (.inl rfl)) xa_nil))))) (xp_list false (xa_cons (xp_ix (xp_var (i := 2) rfl (.inl rfl)) (xp_bi (call_min2 rfl) cb_min rfl T.b_min bo_min (xa_cons (xp_var (i := 4) rfl (.inl rfl)) (xa_cons (xp_var (i := 3) rfl (.inl rfl)) xa_nil))) (fun _ _ => rfl)) xa_nil))) (xp_sl false (xp_var (i := 2) rfl (.inl rfl)) (xo_some (xp_bi (call_max2 rfl) cb_max rfl T.b_max bo_max (xa_cons (xp_var (i := 4) rfl (.inl rfl)) (xa_cons (xp_var (i := 3) rfl (.inl rfl)) xa_nil)))) xo_none)))
    (sms_one (sm_ret (xp_list false (xa_cons (xp_add false (xp_var (i := 2) rfl (.inl rfl)) (xp_list false (xa_cons (xp_str (l := []) (by decide +kernel)) xa_nil))) (xa_cons (xp_str (l := [100, 111, 117, 98, 108, 101, 100]) (by decide +kernel)) (xa_cons (xp_ix (xp_var (i := 2) rfl (.inl rfl)) (xp_bi (call_min2 rfl) cb_min rfl T.b_min bo_min (xa_cons (xp_var (i := 4) rfl (.inl rfl)) (xa_cons (xp_var (i := 3) rfl (.inl rfl)) xa_nil))) (fun _ _ => rfl)) xa_nil))))))))))
abbrev st__law_cell : Stmt := top 62
theorem sc__law_cell : FnScope ["script", "k"] ["script", "k"] (defScope st__law_cell) := ⟨rfl, rfl, rfl, by decide +kernel, rfl, by decide +kernel, by decide +kernel⟩
noncomputable def mb__law_cell : MS := (sSeq (sIf (op2 ltD (eVar 1) (eBi lenB (aCons (eVar 0) aNil))) (sRet (op2 ixD (eVar 0) (eVar 1))) sNx) (sRet (op2 (addD false) (op2 (mulD false) (eC (.int 295075147)) (eVar 1)) (eC (.int 37)))))
noncomputable def m__law_cell : MF := mDef 2 mb__law_cell
theorem ok__law_cell {f : Addr} {fd : FuncData} (F : Fun K "_law_cell" "_law_cell" st__law_cell f fd) (T : Tx K mg) (hN : ∃ mm, base.Ns sysModules mm) : FnG P w K mg base 1 f fd ["script", "k"] (spM ⟨P, w, K, mg⟩ m__law_cell 2) := by
  refine fnMG F sc__law_cell mb__law_cell fun cdv A outer s H E hG hr => ?_
  exact (sms_cons (sm_if (xt_lt (xp_var (i := 1) rfl (.inl rfl)) (xp_bi call_len cb_len rfl T.b_len bo_len (xa_cons (xp_var (i := 0) rfl (.inl rfl)) xa_nil))) (sms_one (sm_ret (xp_ix (xp_var (i := 0) rfl (.inl rfl)) (xp_var (i := 1) rfl (.inl rfl)) (fun _ _ => rfl)))) sms_nil)
    (sms_one (sm_ret (xp_add false (xp_mul false xp_int (xp_var (i := 1) rfl (.inl rfl))) xp_int))))
abbrev st__law_odd : Stmt := top 70
theorem sc__law_odd : FnScope ["box", "some"] ["box"] (defScope st__law_odd) := ⟨rfl, rfl, rfl, by decide +kernel, rfl, by decide +kernel, by decide +kernel⟩
noncomputable def mb__law_odd : MS := (sSeq (sAsg 1 (eList false (aCons (eC .non) (aCons (eC (.bl true)) (aCons (eC (.bl false)) (aCons (eC (.int 0)) (aCons (eC (.int 2)) (aCons (op1 negD (eC (.int 1))) (aCons (eC (.int 201)) (aCons (op2 powD (eC (.int 10)) (eC (.int 29))) (aCons (op2 subD (eC (.int 0)) (op2 powD (eC (.int 10)) (eC (.int 29)))) (aCons (eC (.str [])) (aCons (eC (.str [97])) (aCons (eC (.str [65])) (aCons (eC (.str [97, 32, 98])) (aCons (eC (.str [97, 45, 50])) (aCons (eC (.str [42, 45, 35])) (aCons (eC (.str [42, 35])) (aCons (eC (.str [110, 101, 115, 116])) aNil))))))))))))))))))) (sSeq (sAsg 1 (op2 (addD false) (eVar 1) (eList false (aCons (eList true aNil) (aCons (eList true (aCons (eC (.str [97])) aNil)) (aCons (eList true (aCons (eC (.str [97])) (aCons (eC (.str [97])) aNil))) (aCons (eList true (aCons (eC (.str [65])) aNil)) (aCons (eTup aNil) (aCons (eTup (aCons (eC (.str [97])) aNil)) (aCons (eTup (aCons (eC (.str [97])) (aCons (eC (.str [97])) aNil))) (aCons (eTup (aCons (eC (.str [97])) (aCons (eC (.int 2)) aNil))) (aCons (eTup (aCons (eC (.int 2)) (aCons (eC (.str [97])) aNil))) (aCons (fun _ cs => mkD true cs []) (aCons (eDict true (aCons (eC (.str [97])) (aCons (eC (.int 2)) aNil))) (aCons (eDict true (aCons (eC (.int 7)) (aCons (eList false (aCons (eC (.str [97])) aNil)) aNil))) aNil))))))))))))))) (sSeq (sAsg 1 (op2 (addD false) (eVar 1) (eList false (aCons (eList true (aCons (eList false (aCons (eC (.str [97])) aNil)) aNil)) (aCons (eList true (aCons (eTup (aCons (eC (.str [97])) (aCons (eC (.str [97])) aNil))) aNil)) (aCons (op2 (mulD false) (eC (.str [97])) (eC (.int 151))) (aCons (op2 (mulD false) (eC (.str [97])) (eC (.int 201))) (aCons (eC (.str [97, 42])) (aCons (eC (.str [97, 98, 35])) (aCons (eC (.int 15)) (aCons (eC (.str [48, 50])) aNil))))))))))) (sRet (op2 ixD (eVar 1) (eCall m__law_take (aCons (eVar 0) (aCons (eBi lenB (aCons (eVar 1) aNil)) aNil))))))))
noncomputable def m__law_odd : MF := mDef 2 mb__law_odd
theorem ok__law_odd {f : Addr} {fd : FuncData} (F : Fun K "_law_odd" "_law_odd" st__law_odd f fd) (T : Tx K mg) (hN : ∃ mm, base.Ns sysModules mm) (o__law_take : OwnG P w K mg base 1 "_law_take" 2 m__law_take) : FnG P w K mg base 2 f fd ["box"] (spM ⟨P, w, K, mg⟩ m__law_odd 1) := by
  refine fnMG F sc__law_odd mb__law_odd fun cdv A outer s H E hG hr => ?_
  exact (sms_cons (sm_set (i := 1) sc__law_odd.nd rfl (.inl rfl) (xp_list false (xa_cons xp_non (xa_cons xp_bl (xa_cons xp_bl (xa_cons xp_int (xa_cons xp_int (xa_cons (xp_neg xp_int) (xa_cons xp_int (xa_cons (xp_pow xp_int xp_int) (xa_cons (xp_sub xp_int (xp_pow xp_int xp_int)) (xa_cons (xp_str (l := []) (by decide +kernel)) (xa_cons (xp_str (l := [97]) (by decide +kernel)) (xa_cons (xp_str (l := [65]) (by decide +kernel)) (xa_cons (xp_str (l := [97, 32, 98]) (by decide +kernel)) (xa_cons (xp_str (l := [97, 45, 50]) (by decide +kernel)) (xa_cons (xp_str (l := [42, 45, 35]) (by decide +kernel)) (xa_cons (xp_str (l := [42, 35]) (by decide +kernel)) (xa_cons (xp_str (l := [110, 101, 115, 116]) (by decide +kernel)) xa_nil)))))))))))))))))))
    (sms_cons (sm_set (i := 1) sc__law_odd.nd rfl (.inl rfl) (xp_add false (xp_var (i := 1) rfl (.inl rfl)) (xp_list false (xa_cons (xp_list true xa_nil) (xa_cons (xp_list true (xa_cons (xp_str (l := [97]) (by decide +kernel)) xa_nil)) (xa_cons (xp_list true (xa_cons (xp_str (l := [97]) (by decide +kernel)) (xa_cons (xp_str (l := [97]) (by decide +kernel)) xa_nil))) (xa_cons (xp_list true (xa_cons (xp_str (l := [65]) (by decide +kernel)) xa_nil)) (xa_cons (xp_tup xa_nil) (xa_cons (xp_tup (xa_cons (xp_str (l := [97]) (by decide +kernel)) xa_nil)) (xa_cons (xp_tup (xa_cons (xp_str (l := [97]) (by decide +kernel)) (xa_cons (xp_str (l := [97]) (by decide +kernel)) xa_nil))) (xa_cons (xp_tup (xa_cons (xp_str (l := [97]) (by decide +kernel)) (xa_cons xp_int xa_nil))) (xa_cons (xp_tup (xa_cons xp_int (xa_cons (xp_str (l := [97]) (by decide +kernel)) xa_nil))) (xa_cons (xp_dict0 true) (xa_cons (xp_dict true (xps_cons (xp_str (l := [97]) (by decide +kernel)) xp_int xps_nil)) (xa_cons (xp_dict true (xps_cons xp_int (xp_list false (xa_cons (xp_str (l := [97]) (by decide +kernel)) xa_nil)) xps_nil)) xa_nil)))))))))))))))
    (sms_cons (sm_set (i := 1) sc__law_odd.nd rfl (.inl rfl) (xp_add false (xp_var (i := 1) rfl (.inl rfl)) (xp_list false (xa_cons (xp_list true (xa_cons (xp_list false (xa_cons (xp_str (l := [97]) (by decide +kernel)) xa_nil)) xa_nil)) (xa_cons (xp_list true (xa_cons (xp_tup (xa_cons (xp_str (l := [97]) (by decide +kernel)) (xa_cons (xp_str (l := [97]) (by decide +kernel)) xa_nil))) xa_nil)) (xa_cons (xp_mul false (xp_str (l := [97]) (by decide +kernel)) xp_int) (xa_cons (xp_mul false (xp_str (l := [97]) (by decide +kernel)) xp_int) (xa_cons (xp_str (l := [97, 42]) (by decide +kernel)) (xa_cons (xp_str (l := [97, 98, 35]) (by decide +kernel)) (xa_cons xp_int (xa_cons (xp_str (l := [48, 50]) (by decide +kernel)) xa_nil)))))))))))
    (sms_one (sm_ret (xp_ix (xp_var (i := 1) rfl (.inl rfl)) (xp_ownG o__law_take hG (hr.mono (by decide)) (takes_of rfl rfl rfl rfl) (xa_cons (xp_var (i := 0) rfl (.inl rfl)) (xa_cons (xp_bi call_len cb_len rfl T.b_len bo_len (xa_cons (xp_var (i := 1) rfl (.inl rfl)) xa_nil)) xa_nil)) rfl (len_cons (len_cons len_nil))) (fun _ _ => rfl)))))))
abbrev st__law_mark : Stmt := top 67
theorem sc__law_mark : FnScope ["box", "near", "places"] ["box"] (defScope st__law_mark) := ⟨rfl, rfl, rfl, by decide +kernel, rfl, by decide +kernel, by decide +kernel⟩
noncomputable def mb__law_mark : MS := (sSeq (sIf (op2 eqD (eCall m__law_take (aCons (eVar 0) (aCons (eC (.int 3)) aNil))) (eC (.int 0))) (sRet (op2 ixD (eList false (aCons (eC (.str [42, 45, 35])) (aCons (eC (.str [42, 40, 35, 41])) (aCons (eC (.str [35, 46, 42])) aNil)))) (eCall m__law_take (aCons (eVar 0) (aCons (eC (.int 3)) aNil))))) sNx) (sSeq (sAsg 1 (op2 (addD false) (op2 (addD false) (eCall m__law_signs (aCons (eVar 0) (aCons (eCall m__law_take (aCons (eVar 0) (aCons (eC (.int 3)) aNil))) aNil))) (op2 ixD (eC (.str [97, 98, 122, 45, 95, 46, 40, 41])) (eCall m__law_take (aCons (eVar 0) (aCons (eC (.int 8)) aNil))))) (op2 ixD (eList false (aCons (eC (.str [])) (aCons (eC (.str [48])) (aCons (eC (.str [49, 50])) (aCons (eC (.str [53])) aNil))))) (eCall m__law_take (aCons (eVar 0) (aCons (eC (.int 4)) aNil)))))) (sSeq (sAsg 1 (eIf (op2 eqD (eCall m__law_take (aCons (eVar 0) (aCons (eC (.int 2)) aNil))) (eC (.int 0))) (eVar 1) (op1 revD (eVar 1)))) (sSeq (sAsg 2 (eIf (op2 gtD (eCall m__law_take (aCons (eVar 0) (aCons (eC (.int 3)) aNil))) (eC (.int 0))) (op2 (addD false) (op2 (addD false) (eC (.str [42])) (eVar 1)) (eC (.str [35]))) (op2 (addD false) (op2 (addD false) (eC (.str [35])) (eVar 1)) (eC (.str [42]))))) (sRet (op2 (addD false) (op2 (addD false) (eCall m__law_signs (aCons (eVar 0) (aCons (eCall m__law_take (aCons (eVar 0) (aCons (eC (.int 3)) aNil))) aNil))) (eVar 2)) (eCall m__law_signs (aCons (eVar 0) (aCons (eCall m__law_take (aCons (eVar 0) (aCons (eC (.int 3)) aNil))) aNil)))))))))
noncomputable def m__law_mark : MF := mDef 3 mb__law_mark
theorem ok__law_mark {f : Addr} {fd : FuncData} (F : Fun K "_law_mark" "_law_mark" st__law_mark f fd) (T : Tx K mg) (hN : ∃ mm, base.Ns sysModules mm) (o__law_take : OwnG P w K mg base 1 "_law_take" 2 m__law_take) (o__law_signs : OwnG P w K mg base 2 "_law_signs" 2 m__law_signs) : FnG P w K mg base 3 f fd ["box"] (spM ⟨P, w, K, mg⟩ m__law_mark 1) := by
  refine fnMG F sc__law_mark mb__law_mark fun cdv A outer s H E hG hr => ?_
  exact (sms_cons (sm_if (xt_eq hr.units (xp_ownG o__law_take hG (hr.mono (by decide)) (takes_of rfl rfl rfl rfl) (xa_cons (xp_var (i := 0) rfl (.inl rfl)) (xa_cons xp_int xa_nil)) rfl (len_cons (len_cons len_nil))) xp_int) (sms_one (sm_ret (xp_ix (xp_list false (xa_cons (xp_str (l := [42, 45, 35]) (by decide +kernel)) (xa_cons (xp_str (l := [42, 40, 35, 41]) (by decide +kernel)) (xa_cons (xp_str (l := [35, 46, 42]) (by decide +kernel)) xa_nil)))) (xp_ownG o__law_take hG (hr.mono (by decide)) (takes_of rfl rfl rfl rfl) (xa_cons (xp_var (i := 0) rfl (.inl rfl)) (xa_cons xp_int xa_nil)) rfl (len_cons (len_cons len_nil))) (fun _ _ => rfl)))) sms_nil)
    (sms_cons (sm_set (i := 1) sc__law_mark.nd rfl (.inl rfl) (xp_add false (xp_add false (xp_ownG o__law_signs hG (hr.mono (by decide)) (takes_of rfl rfl rfl rfl) (xa_cons (xp_var (i := 0) rfl (.inl rfl)) (xa_cons (xp_ownG o__law_take hG (hr.mono (by decide)) (takes_of rfl rfl rfl rfl) (xa_cons (xp_var (i := 0) rfl (.inl rfl)) (xa_cons xp_int xa_nil)) rfl (len_cons (len_cons len_nil))) xa_nil)) rfl (len_cons (len_cons len_nil))) (xp_ix (xp_str (l := [97, 98, 122, 45, 95, 46, 40, 41]) (by decide +kernel)) (xp_ownG o__law_take hG (hr.mono (by decide)) (takes_of rfl rfl rfl rfl) (xa_cons (xp_var (i := 0) rfl (.inl rfl)) (xa_cons xp_int xa_nil)) rfl (len_cons (len_cons len_nil))) (fun _ _ => rfl))) (xp_ix (xp_list false (xa_cons (xp_str (l := []) (by decide +kernel)) (xa_cons (xp_str (l := [48]) (by decide +kernel)) (xa_cons (xp_str (l := [49, 50]) (by decide +kernel)) (xa_cons (xp_str (l := [53]) (by decide +kernel)) xa_nil))))) (xp_ownG o__law_take hG (hr.mono (by decide)) (takes_of rfl rfl rfl rfl) (xa_cons (xp_var (i := 0) rfl (.inl rfl)) (xa_cons xp_int xa_nil)) rfl (len_cons (len_cons len_nil))) (fun _ _ => rfl))))
    (sms_cons (sm_set (i := 1) sc__law_mark.nd rfl (.inl rfl) (xp_if (xt_eq hr.units (xp_ownG o__law_take hG (hr.mono (by decide)) (takes_of rfl rfl rfl rfl) (xa_cons (xp_var (i := 0) rfl (.inl rfl)) (xa_cons xp_int xa_nil)) rfl (len_cons (len_cons len_nil))) xp_int) (xp_var (i := 1) rfl (.inl rfl)) (xp_rev (xp_var (i := 1) rfl (.inl rfl)))))
    (sms_cons (sm_set (i := 2) sc__law_mark.nd rfl (.inl rfl) (xp_if (xt_gt (xp_ownG o__law_take hG (hr.mono (by decide)) (takes_of rfl rfl rfl rfl) (xa_cons (xp_var (i := 0) rfl (.inl rfl)) (xa_cons xp_int xa_nil)) rfl (len_cons (len_cons len_nil))) xp_int) (xp_add false (xp_add false (xp_str (l := [42]) (by decide +kernel)) (xp_var (i := 1) rfl (.inl rfl))) (xp_str (l := [35]) (by decide +kernel))) (xp_add false (xp_add false (xp_str (l := [35]) (by decide +kernel)) (xp_var (i := 1) rfl (.inl rfl))) (xp_str (l := [42]) (by decide +kernel)))))
    (sms_one (sm_ret (xp_add false (xp_add false (xp_ownG o__law_signs hG (hr.mono (by decide)) (takes_of rfl rfl rfl rfl) (xa_cons (xp_var (i := 0) rfl (.inl rfl)) (xa_cons (xp_ownG o__law_take hG (hr.mono (by decide)) (takes_of rfl rfl rfl rfl) (xa_cons (xp_var (i := 0) rfl (.inl rfl)) (xa_cons xp_int xa_nil)) rfl (len_cons (len_cons len_nil))) xa_nil)) rfl (len_cons (len_cons len_nil))) (xp_var (i := 2) rfl (.inl rfl))) (xp_ownG o__law_signs hG (hr.mono (by decide)) (takes_of rfl rfl rfl rfl) (xa_cons (xp_var (i := 0) rfl (.inl rfl)) (xa_cons (xp_ownG o__law_take hG (hr.mono (by decide)) (takes_of rfl rfl rfl rfl) (xa_cons (xp_var (i := 0) rfl (.inl rfl)) (xa_cons xp_int xa_nil)) rfl (len_cons (len_cons len_nil))) xa_nil)) rfl (len_cons (len_cons len_nil))))))))))
abbrev st_need_rule : Stmt := top 47
theorem sc_need_rule : FnScope ["rule"] ["rule"] (defScope st_need_rule) := ⟨rfl, rfl, rfl, by decide +kernel, rfl, by decide +kernel, by decide +kernel⟩
noncomputable def mb_need_rule : MS := (sIf (eNot (op1 (isoD "Rule") (eVar 0))) (sRaise "BadRule" ["found"] (aCons (eVar 0) aNil)) sNx)
noncomputable def m_need_rule : MF := mDef 1 mb_need_rule
theorem ok_need_rule {f : Addr} {fd : FuncData} (F : Fun K "need_rule" "need_rule" st_need_rule f fd) (T : Tx K mg) (hN : ∃ mm, base.Ns sysModules mm) (n_Rule : InsF K mg "Rule") (x_BadRule : ExF P w K mg base "BadRule" ["found"]) : FnG P w K mg base 3 f fd ["rule"] (spM ⟨P, w, K, mg⟩ m_need_rule 1) := by
  refine fnMG F sc_need_rule mb_need_rule fun cdv A outer s H E hG hr => ?_
  exact (sms_one (sm_if (xt_not (xt_val (xp_iso n_Rule rfl T.b_isinstance rfl (xp_var (i := 0) rfl (.inl rfl))))) (sms_one (sm_raise rfl x_BadRule (hr.mono (by decide)) (takes_of rfl rfl rfl rfl) (xa_cons (xp_var (i := 0) rfl (.inl rfl)) xa_nil) rfl (by decide))) sms_nil))
abbrev st_is_name : Stmt := top 20
theorem sc_is_name : FnScope ["value", "sign"] ["value"] (defScope st_is_name) := ⟨rfl, rfl, rfl, by decide +kernel, rfl, by decide +kernel, by decide +kernel⟩
noncomputable def mb_is_name : MS := (sSeq (sIf (eOr (eNot (op1 (isiD "str") (eVar 0))) (eNot (eChain leD leD (eC (.int 1)) (eBi lenB (aCons (eVar 0) aNil)) (eC (.int 200))))) (sRet (eC (.bl false))) sNx) (sRet (eBi allB (aCons (eLc false [1] (tgN 1) (wSeq (eVar 0)) (eC (.bl true)) (op2 inD (eVar 1) (eC (.str [97, 98, 99, 100, 101, 102, 103, 104, 105, 106, 107, 108, 109, 110, 111, 112, 113, 114, 115, 116, 117, 118, 119, 120, 121, 122, 48, 49, 50, 51, 52, 53, 54, 55, 56, 57, 45, 95, 46, 40, 41])))) aNil))))
noncomputable def m_is_name : MF := mDef 2 mb_is_name
theorem ok_is_name {f : Addr} {fd : FuncData} (F : Fun K "is_name" "is_name" st_is_name f fd) (T : Tx K mg) (hN : ∃ mm, base.Ns sysModules mm) : FnG P w K mg base 1 f fd ["value"] (spM ⟨P, w, K, mg⟩ m_is_name 1) := by
  refine fnMG F sc_is_name mb_is_name fun cdv A outer s H E hG hr => ?_
  obtain ⟨tk_LONGEST_NAME, g_LONGEST_NAME⟩ := T.c_LONGEST_NAME
  obtain ⟨tk_SIGNS, g_SIGNS⟩ := T.c_SIGNS
  exact (sms_cons (sm_if (Xw.t (xw_or (xt_not (xt_val (xp_isi rfl T.b_isinstance rfl T.b_str bo_str (xp_var (i := 0) rfl (.inl rfl))))) (xw_or1 (xt_not (xt_chain op_le o2_le op_le o2_le xp_int (xp_bi call_len cb_len rfl T.b_len bo_len (xa_cons (xp_var (i := 0) rfl (.inl rfl)) xa_nil)) (xp_globI rfl g_LONGEST_NAME)))))) (sms_one (sm_ret xp_bl)) sms_nil)
    (sms_one (sm_ret (xp_bi (cr_all rfl) cb_all rfl T.b_all bo_all (xa_cons (xp_lc false rfl sc_is_name.nd (wk_seq (xp_var (i := 0) rfl (.inl rfl))) (own := [("sign", 1)]) (blk_ok (N := ["value", "sign"]) (sc := defScope st_is_name) (by decide +kernel)) ⟨fun s H C cl fp => (tgt_name (i := 1) (own := [1]) sc_is_name.nd rfl (.inl rfl)), fun s H C cl fp => xts_nil, fun s H C cl fp => (xp_in (xp_var (i := 1) rfl (.inl rfl)) (xp_globS (l := [97, 98, 99, 100, 101, 102, 103, 104, 105, 106, 107, 108, 109, 110, 111, 112, 113, 114, 115, 116, 117, 118, 119, 120, 121, 122, 48, 49, 50, 51, 52, 53, 54, 55, 56, 57, 45, 95, 46, 40, 41]) rfl g_SIGNS (by decide +kernel)) rfl)⟩) xa_nil)))))
abbrev st_need_name : Stmt := top 29
theorem sc_need_name : FnScope ["name"] ["name"] (defScope st_need_name) := ⟨rfl, rfl, rfl, by decide +kernel, rfl, by decide +kernel, by decide +kernel⟩
noncomputable def mb_need_name : MS := (sIf (eNot (eCall m_is_name (aCons (eVar 0) aNil))) (sRaise "BadName" ["found"] (aCons (eVar 0) aNil)) sNx)
noncomputable def m_need_name : MF := mDef 1 mb_need_name
theorem ok_need_name {f : Addr} {fd : FuncData} (F : Fun K "need_name" "need_name" st_need_name f fd) (T : Tx K mg) (hN : ∃ mm, base.Ns sysModules mm) (o_is_name : OwnG P w K mg base 1 "is_name" 1 m_is_name) (x_BadName : ExF P w K mg base "BadName" ["found"]) : FnG P w K mg base 3 f fd ["name"] (spM ⟨P, w, K, mg⟩ m_need_name 1) := by
  refine fnMG F sc_need_name mb_need_name fun cdv A outer s H E hG hr => ?_
  exact (sms_one (sm_if (xt_not (xt_val (xp_ownG o_is_name hG (hr.mono (by decide)) (takes_of rfl rfl rfl rfl) (xa_cons (xp_var (i := 0) rfl (.inl rfl)) xa_nil) rfl (len_cons len_nil)))) (sms_one (sm_raise rfl x_BadName (hr.mono (by decide)) (takes_of rfl rfl rfl rfl) (xa_cons (xp_var (i := 0) rfl (.inl rfl)) xa_nil) rfl (by decide))) sms_nil))
abbrev st_number_in : Stmt := top 22
theorem sc_number_in : FnScope ["value", "sign", "found"] ["value"] (defScope st_number_in) := ⟨rfl, rfl, rfl, by decide +kernel, rfl, by decide +kernel, by decide +kernel⟩
noncomputable def mb_number_in : MS := (sSeq (sIf (eOr (eNot (op1 (isiD "str") (eVar 0))) (eNot (eChain leD leD (eC (.int 1)) (eBi lenB (aCons (eVar 0) aNil)) (eC (.int 15))))) (sRet (eC .non)) sNx) (sSeq (sIf (eOr (eNot (eBi allB (aCons (eLc false [1] (tgN 1) (wSeq (eVar 0)) (eC (.bl true)) (op2 inD (eVar 1) (eC (.str [48, 49, 50, 51, 52, 53, 54, 55, 56, 57])))) aNil))) (op2 eqD (op2 ixD (eVar 0) (eC (.int 0))) (eC (.str [48])))) (sRet (eC .non)) sNx) (sSeq (sAsg 2 (eBi intB (aCons (eVar 0) aNil))) (sRet (eIf (op2 gtD (eVar 2) (eC (.int 1))) (eVar 2) (eC .non))))))
noncomputable def m_number_in : MF := mDef 3 mb_number_in
theorem ok_number_in {f : Addr} {fd : FuncData} (F : Fun K "number_in" "number_in" st_number_in f fd) (T : Tx K mg) (hN : ∃ mm, base.Ns sysModules mm) : FnG P w K mg base 1 f fd ["value"] (spM ⟨P, w, K, mg⟩ m_number_in 1) := by
  refine fnMG F sc_number_in mb_number_in fun cdv A outer s H E hG hr => ?_
  obtain ⟨tk_FIGURES, g_FIGURES⟩ := T.c_FIGURES
  obtain ⟨tk_MOST_FIGURES, g_MOST_FIGURES⟩ := T.c_MOST_FIGURES
  exact (sms_cons (sm_if (Xw.t (xw_or (xt_not (xt_val (xp_isi rfl T.b_isinstance rfl T.b_str bo_str (xp_var (i := 0) rfl (.inl rfl))))) (xw_or1 (xt_not (xt_chain op_le o2_le op_le o2_le xp_int (xp_bi call_len cb_len rfl T.b_len bo_len (xa_cons (xp_var (i := 0) rfl (.inl rfl)) xa_nil)) (xp_globI rfl g_MOST_FIGURES)))))) (sms_one (sm_ret xp_non)) sms_nil)
    (sms_cons (sm_if (Xw.t (xw_or (xt_not (xt_val (xp_bi (cr_all rfl) cb_all rfl T.b_all bo_all (xa_cons (xp_lc false rfl sc_number_in.nd (wk_seq (xp_var (i := 0) rfl (.inl rfl))) (own := [("sign", 1)]) (blk_ok (N := ["value", "sign", "found"]) (sc := defScope st_number_in) (by decide +kernel)) ⟨fun s H C cl fp => (tgt_name (i := 1) (own := [1]) sc_number_in.nd rfl (.inl rfl)), fun s H C cl fp => xts_nil, fun s H C cl fp => (xp_in (xp_var (i := 1) rfl (.inl rfl)) (xp_globS (l := [48, 49, 50, 51, 52, 53, 54, 55, 56, 57]) rfl g_FIGURES (by decide +kernel)) rfl)⟩) xa_nil)))) (xw_or1 (xt_eq hr.units (xp_ix (xp_var (i := 0) rfl (.inl rfl)) xp_int (fun _ _ => rfl)) (xp_str (l := [48]) (by decide +kernel)))))) (sms_one (sm_ret xp_non)) sms_nil)
    (sms_cons (sm_set (i := 2) sc_number_in.nd rfl (.inl rfl) (xp_ty call_int_str cb_int rfl T.b_int bo_int (xa_cons (xp_var (i := 0) rfl (.inl rfl)) xa_nil)))
    (sms_one (sm_ret (xp_if (xt_gt (xp_var (i := 2) rfl (.inl rfl)) xp_int) (xp_var (i := 2) rfl (.inl rfl)) xp_non))))))
abbrev st_both_in : Stmt := top 40
theorem sc_both_in : FnScope ["name", "figures", "number"] ["name", "figures"] (defScope st_both_in) := ⟨rfl, rfl, rfl, by decide +kernel, rfl, by decide +kernel, by decide +kernel⟩
noncomputable def mb_both_in : MS := (sSeq (sAsg 2 (eCall m_number_in (aCons (eVar 1) aNil))) (sSeq (sIf (eOr (op1 (isB none) (eVar 2)) (eNot (eCall m_is_name (aCons (eVar 0) aNil)))) (sRet (eC .non)) sNx) (sRet (eTup (aCons (eVar 0) (aCons (eVar 2) aNil))))))
noncomputable def m_both_in : MF := mDef 3 mb_both_in
theorem ok_both_in {f : Addr} {fd : FuncData} (F : Fun K "both_in" "both_in" st_both_in f fd) (T : Tx K mg) (hN : ∃ mm, base.Ns sysModules mm) (o_number_in : OwnG P w K mg base 1 "number_in" 1 m_number_in) (o_is_name : OwnG P w K mg base 1 "is_name" 1 m_is_name) : FnG P w K mg base 2 f fd ["name", "figures"] (spM ⟨P, w, K, mg⟩ m_both_in 2) := by
  refine fnMG F sc_both_in mb_both_in fun cdv A outer s H E hG hr => ?_
  exact (sms_cons (sm_set (i := 2) sc_both_in.nd rfl (.inl rfl) (xp_ownG o_number_in hG (hr.mono (by decide)) (takes_of rfl rfl rfl rfl) (xa_cons (xp_var (i := 1) rfl (.inl rfl)) xa_nil) rfl (len_cons len_nil)))
    (sms_cons (sm_if (Xw.t (xw_or (xt_isN (xp_var (i := 2) rfl (.inl rfl))) (xw_or1 (xt_not (xt_val (xp_ownG o_is_name hG (hr.mono (by decide)) (takes_of rfl rfl rfl rfl) (xa_cons (xp_var (i := 0) rfl (.inl rfl)) xa_nil) rfl (len_cons len_nil))))))) (sms_one (sm_ret xp_non)) sms_nil)
    (sms_one (sm_ret (xp_tup (xa_cons (xp_var (i := 0) rfl (.inl rfl)) (xa_cons (xp_var (i := 2) rfl (.inl rfl)) xa_nil)))))))
abbrev st_number_ahead : Stmt := top 39
theorem sc_number_ahead : FnScope ["text", "between", "inner", "cut"] ["text", "between"] (defScope st_number_ahead) := ⟨rfl, rfl, rfl, by decide +kernel, rfl, by decide +kernel, by decide +kernel⟩
noncomputable def mb_number_ahead : MS := (sSeq (sAsg 2 (op2 subD (eBi lenB (aCons (eVar 1) aNil)) (eBi lenB (aCons (eM1 lscD (eVar 1) (eC (.str [48, 49, 50, 51, 52, 53, 54, 55, 56, 57]))) aNil)))) (sSeq (sAsg 3 (op2 subD (op2 subD (eBi lenB (aCons (eVar 0) aNil)) (eBi lenB (aCons (eM1 lscD (eVar 0) (eC (.str [48, 49, 50, 51, 52, 53, 54, 55, 56, 57]))) aNil))) (eVar 2))) (sSeq (sIf (eOr (op2 ltD (eVar 3) (eC (.int 1))) (eNot (eM1 startsD (eSl false (eVar 0) (oSome (eVar 3)) oNone) (eVar 1)))) (sRet (eC .non)) sNx) (sRet (eCall m_both_in (aCons (eSl false (eVar 0) (oSome (op2 (addD false) (eVar 3) (eBi lenB (aCons (eVar 1) aNil)))) oNone) (aCons (eSl false (eVar 0) oNone (oSome (eVar 3))) aNil)))))))
noncomputable def m_number_ahead : MF := mDef 4 mb_number_ahead
theorem ok_number_ahead {f : Addr} {fd : FuncData} (F : Fun K "number_ahead" "number_ahead" st_number_ahead f fd) (T : Tx K mg) (hN : ∃ mm, base.Ns sysModules mm) (o_both_in : OwnG P w K mg base 2 "both_in" 2 m_both_in) : FnG P w K mg base 3 f fd ["text", "between"] (spM ⟨P, w, K, mg⟩ m_number_ahead 2) := by
  refine fnMG F sc_number_ahead mb_number_ahead fun cdv A outer s H E hG hr => ?_
  obtain ⟨tk_FIGURES, g_FIGURES⟩ := T.c_FIGURES
  exact (sms_cons (sm_set (i := 2) sc_number_ahead.nd rfl (.inl rfl) (xp_sub (xp_bi call_len cb_len rfl T.b_len bo_len (xa_cons (xp_var (i := 1) rfl (.inl rfl)) xa_nil)) (xp_bi call_len cb_len rfl T.b_len bo_len (xa_cons (xp_lsc (xp_var (i := 1) rfl (.inl rfl)) (xp_globS (l := [48, 49, 50, 51, 52, 53, 54, 55, 56, 57]) rfl g_FIGURES (by decide +kernel))) xa_nil))))
    (sms_cons (sm_set (i := 3) sc_number_ahead.nd rfl (.inl rfl) (xp_sub (xp_sub (xp_bi call_len cb_len rfl T.b_len bo_len (xa_cons (xp_var (i := 0) rfl (.inl rfl)) xa_nil)) (xp_bi call_len cb_len rfl T.b_len bo_len (xa_cons (xp_lsc (xp_var (i := 0) rfl (.inl rfl)) (xp_globS (l := [48, 49, 50, 51, 52, 53, 54, 55, 56, 57]) rfl g_FIGURES (by decide +kernel))) xa_nil))) (xp_var (i := 2) rfl (.inl rfl))))
    (sms_cons (sm_if (Xw.t (xw_or (xt_lt (xp_var (i := 3) rfl (.inl rfl)) xp_int) (xw_or1 (xt_not (xt_val (xp_starts (xp_sl false (xp_var (i := 0) rfl (.inl rfl)) (xo_some (xp_var (i := 3) rfl (.inl rfl))) xo_none) (xp_var (i := 1) rfl (.inl rfl)))))))) (sms_one (sm_ret xp_non)) sms_nil)
    (sms_one (sm_ret (xp_ownG o_both_in hG (hr.mono (by decide)) (takes_of rfl rfl rfl rfl) (xa_cons (xp_sl false (xp_var (i := 0) rfl (.inl rfl)) (xo_some (xp_add false (xp_var (i := 3) rfl (.inl rfl)) (xp_bi call_len cb_len rfl T.b_len bo_len (xa_cons (xp_var (i := 1) rfl (.inl rfl)) xa_nil)))) xo_none) (xa_cons (xp_sl false (xp_var (i := 0) rfl (.inl rfl)) xo_none (xo_some (xp_var (i := 3) rfl (.inl rfl)))) xa_nil)) rfl (len_cons (len_cons len_nil))))))))
abbrev st_number_behind : Stmt := top 38
theorem sc_number_behind : FnScope ["text", "between", "inner", "cut", "front"] ["text", "between"] (defScope st_number_behind) := ⟨rfl, rfl, rfl, by decide +kernel, rfl, by decide +kernel, by decide +kernel⟩
noncomputable def mb_number_behind : MS := (sSeq (sAsg 2 (op2 subD (eBi lenB (aCons (eVar 1) aNil)) (eBi lenB (aCons (eM1 rscD (eVar 1) (eC (.str [48, 49, 50, 51, 52, 53, 54, 55, 56, 57]))) aNil)))) (sSeq (sAsg 3 (op2 (addD false) (eBi lenB (aCons (eM1 rscD (eVar 0) (eC (.str [48, 49, 50, 51, 52, 53, 54, 55, 56, 57]))) aNil)) (eVar 2))) (sSeq (sAsg 4 (eSl false (eVar 0) oNone (oSome (eVar 3)))) (sSeq (sIf (eNot (eM1 endsD (eVar 4) (eVar 1))) (sRet (eC .non)) sNx) (sRet (eCall m_both_in (aCons (eSl false (eVar 4) oNone (oSome (op2 subD (eBi lenB (aCons (eVar 4) aNil)) (eBi lenB (aCons (eVar 1) aNil))))) (aCons (eSl false (eVar 0) (oSome (eVar 3)) oNone) aNil))))))))
noncomputable def m_number_behind : MF := mDef 5 mb_number_behind
theorem ok_number_behind {f : Addr} {fd : FuncData} (F : Fun K "number_behind" "number_behind" st_number_behind f fd) (T : Tx K mg) (hN : ∃ mm, base.Ns sysModules mm) (o_both_in : OwnG P w K mg base 2 "both_in" 2 m_both_in) : FnG P w K mg base 3 f fd ["text", "between"] (spM ⟨P, w, K, mg⟩ m_number_behind 2) := by
  refine fnMG F sc_number_behind mb_number_behind fun cdv A outer s H E hG hr => ?_
  obtain ⟨tk_FIGURES, g_FIGURES⟩ := T.c_FIGURES
  exact (sms_cons (sm_set (i := 2) sc_number_behind.nd rfl (.inl rfl) (xp_sub (xp_bi call_len cb_len rfl T.b_len bo_len (xa_cons (xp_var (i := 1) rfl (.inl rfl)) xa_nil)) (xp_bi call_len cb_len rfl T.b_len bo_len (xa_cons (xp_rsc (xp_var (i := 1) rfl (.inl rfl)) (xp_globS (l := [48, 49, 50, 51, 52, 53, 54, 55, 56, 57]) rfl g_FIGURES (by decide +kernel))) xa_nil))))
    (sms_cons (sm_set (i := 3) sc_number_behind.nd rfl (.inl rfl) (xp_add false (xp_bi call_len cb_len rfl T.b_len bo_len (xa_cons (xp_rsc (xp_var (i := 0) rfl (.inl rfl)) (xp_globS (l := [48, 49, 50, 51, 52, 53, 54, 55, 56, 57]) rfl g_FIGURES (by decide +kernel))) xa_nil)) (xp_var (i := 2) rfl (.inl rfl))))
    (sms_cons (sm_set (i := 4) sc_number_behind.nd rfl (.inl rfl) (xp_sl false (xp_var (i := 0) rfl (.inl rfl)) xo_none (xo_some (xp_var (i := 3) rfl (.inl rfl)))))
    (sms_cons (sm_if (xt_not (xt_val (xp_ends (xp_var (i := 4) rfl (.inl rfl)) (xp_var (i := 1) rfl (.inl rfl))))) (sms_one (sm_ret xp_non)) sms_nil)
    (sms_one (sm_ret (xp_ownG o_both_in hG (hr.mono (by decide)) (takes_of rfl rfl rfl rfl) (xa_cons (xp_sl false (xp_var (i := 4) rfl (.inl rfl)) xo_none (xo_some (xp_sub (xp_bi call_len cb_len rfl T.b_len bo_len (xa_cons (xp_var (i := 4) rfl (.inl rfl)) xa_nil)) (xp_bi call_len cb_len rfl T.b_len bo_len (xa_cons (xp_var (i := 1) rfl (.inl rfl)) xa_nil))))) (xa_cons (xp_sl false (xp_var (i := 0) rfl (.inl rfl)) (xo_some (xp_var (i := 3) rfl (.inl rfl))) xo_none) xa_nil)) rfl (len_cons (len_cons len_nil)))))))))
abbrev st_reading : Stmt := top 37
theorem sc_reading : FnScope ["mark", "name", "ahead", "between", "behind", "middle"] ["mark", "name"] (defScope st_reading) := ⟨rfl, rfl, rfl, by decide +kernel, rfl, by decide +kernel, by decide +kernel⟩
noncomputable def mb_reading : MS := (sSeq (sDrop (eCall m_need_clear (aCons (eVar 0) aNil))) (sSeq (sDrop (eCall m_need_name (aCons (eVar 1) aNil))) (sSeq (sAsgT (tgTup [2, 3, 4]) (eCall m_parts (aCons (eVar 0) aNil))) (sSeq (sIf (eOr (op2 ltD (eBi lenB (aCons (eVar 1) aNil)) (op2 (addD false) (eBi lenB (aCons (eVar 2) aNil)) (eBi lenB (aCons (eVar 4) aNil)))) (eOr (eNot (eM1 startsD (eVar 1) (eVar 2))) (eNot (eM1 endsD (eVar 1) (eVar 4))))) (sRet (eC .non)) sNx) (sSeq (sAsg 5 (eSl false (eVar 1) (oSome (eBi lenB (aCons (eVar 2) aNil))) (oSome (op2 subD (eBi lenB (aCons (eVar 1) aNil)) (eBi lenB (aCons (eVar 4) aNil)))))) (sSeq (sIf (eCall m_name_first (aCons (eVar 0) aNil)) (sRet (eCall m_number_behind (aCons (eVar 5) (aCons (eVar 3) aNil)))) sNx) (sRet (eCall m_number_ahead (aCons (eVar 5) (aCons (eVar 3) aNil))))))))))
noncomputable def m_reading : MF := mDef 6 mb_reading
theorem ok_reading {f : Addr} {fd : FuncData} (F : Fun K "reading" "reading" st_reading f fd) (T : Tx K mg) (hN : ∃ mm, base.Ns sysModules mm) (o_need_clear : OwnG P w K mg base 6 "need_clear" 1 m_need_clear) (o_need_name : OwnG P w K mg base 3 "need_name" 1 m_need_name) (o_parts : OwnG P w K mg base 1 "parts" 1 m_parts) (o_name_first : OwnG P w K mg base 1 "name_first" 1 m_name_first) (o_number_behind : OwnG P w K mg base 3 "number_behind" 2 m_number_behind) (o_number_ahead : OwnG P w K mg base 3 "number_ahead" 2 m_number_ahead) : FnG P w K mg base 7 f fd ["mark", "name"] (spM ⟨P, w, K, mg⟩ m_reading 2) := by
  refine fnMG F sc_reading mb_reading fun cdv A outer s H E hG hr => ?_
  exact (sms_cons (sm_expr (xp_ownG o_need_clear hG (hr.mono (by decide)) (takes_of rfl rfl rfl rfl) (xa_cons (xp_var (i := 0) rfl (.inl rfl)) xa_nil) rfl (len_cons len_nil)))
    (sms_cons (sm_expr (xp_ownG o_need_name hG (hr.mono (by decide)) (takes_of rfl rfl rfl rfl) (xa_cons (xp_var (i := 1) rfl (.inl rfl)) xa_nil) rfl (len_cons len_nil)))
    (sms_cons (sm_asgT (tgt_tup rfl (tgts_cons (tgt_name (i := 2) (own := [2, 3, 4]) sc_reading.nd rfl (.inl rfl)) (tgts_cons (tgt_name (i := 3) (own := [2, 3, 4]) sc_reading.nd rfl (.inl rfl)) (tgts_cons (tgt_name (i := 4) (own := [2, 3, 4]) sc_reading.nd rfl (.inl rfl)) (tgts_nil (own := [2, 3, 4])))))) (xp_ownG o_parts hG (hr.mono (by decide)) (takes_of rfl rfl rfl rfl) (xa_cons (xp_var (i := 0) rfl (.inl rfl)) xa_nil) rfl (len_cons len_nil)))
    (sms_cons (sm_if (Xw.t (xw_or (xt_lt (xp_bi call_len cb_len rfl T.b_len bo_len (xa_cons (xp_var (i := 1) rfl (.inl rfl)) xa_nil)) (xp_add false (xp_bi call_len cb_len rfl T.b_len bo_len (xa_cons (xp_var (i := 2) rfl (.inl rfl)) xa_nil)) (xp_bi call_len cb_len rfl T.b_len bo_len (xa_cons (xp_var (i := 4) rfl (.inl rfl)) xa_nil)))) (xw_or (xt_not (xt_val (xp_starts (xp_var (i := 1) rfl (.inl rfl)) (xp_var (i := 2) rfl (.inl rfl))))) (xw_or1 (xt_not (xt_val (xp_ends (xp_var (i := 1) rfl (.inl rfl)) (xp_var (i := 4) rfl (.inl rfl))))))))) (sms_one (sm_ret xp_non)) sms_nil)
    (sms_cons (sm_set (i := 5) sc_reading.nd rfl (.inl rfl) (xp_sl false (xp_var (i := 1) rfl (.inl rfl)) (xo_some (xp_bi call_len cb_len rfl T.b_len bo_len (xa_cons (xp_var (i := 2) rfl (.inl rfl)) xa_nil))) (xo_some (xp_sub (xp_bi call_len cb_len rfl T.b_len bo_len (xa_cons (xp_var (i := 1) rfl (.inl rfl)) xa_nil)) (xp_bi call_len cb_len rfl T.b_len bo_len (xa_cons (xp_var (i := 4) rfl (.inl rfl)) xa_nil))))))
    (sms_cons (sm_if (xt_val (xp_ownG o_name_first hG (hr.mono (by decide)) (takes_of rfl rfl rfl rfl) (xa_cons (xp_var (i := 0) rfl (.inl rfl)) xa_nil) rfl (len_cons len_nil))) (sms_one (sm_ret (xp_ownG o_number_behind hG (hr.mono (by decide)) (takes_of rfl rfl rfl rfl) (xa_cons (xp_var (i := 5) rfl (.inl rfl)) (xa_cons (xp_var (i := 3) rfl (.inl rfl)) xa_nil)) rfl (len_cons (len_cons len_nil))))) sms_nil)
    (sms_one (sm_ret (xp_ownG o_number_ahead hG (hr.mono (by decide)) (takes_of rfl rfl rfl rfl) (xa_cons (xp_var (i := 5) rfl (.inl rfl)) (xa_cons (xp_var (i := 3) rfl (.inl rfl)) xa_nil)) rfl (len_cons (len_cons len_nil)))))))))))
abbrev st_Rule_read : Stmt := meth (top 46) 5
theorem sc_Rule_read : FnScope ["self", "name"] ["self", "name"] (defScope st_Rule_read) := ⟨rfl, rfl, rfl, by decide +kernel, rfl, by decide +kernel, by decide +kernel⟩
noncomputable def mb_Rule_read : MS := (sRet (eCall m_reading (aCons (eFld "Rule" "rule_mark" (eVar 0)) (aCons (eVar 1) aNil))))
noncomputable def m_Rule_read : MF := mDef 2 mb_Rule_read
theorem ok_Rule_read {f : Addr} {fd : FuncData} (F : Fun K "read" "Rule.read" st_Rule_read f fd) (T : Tx K mg) (hN : ∃ mm, base.Ns sysModules mm) (o_reading : OwnG P w K mg base 7 "reading" 2 m_reading) (f_Rule_rule_mark : FldOk K mg "Rule" "rule_mark") : FnG P w K mg base 8 f fd ["self", "name"] (spM ⟨P, w, K, mg⟩ m_Rule_read 2) := by
  refine fnMG F sc_Rule_read mb_Rule_read fun cdv A outer s H E hG hr => ?_
  exact (sms_one (sm_ret (xp_ownG o_reading hG (hr.mono (by decide)) (takes_of rfl rfl rfl rfl) (xa_cons (xp_fld f_Rule_rule_mark (xp_var (i := 0) rfl (.inl rfl))) (xa_cons (xp_var (i := 1) rfl (.inl rfl)) xa_nil)) rfl (len_cons (len_cons len_nil)))))
abbrev st_Rule_way : Stmt := meth (top 46) 3
theorem sc_Rule_way : FnScope ["self"] ["self"] (defScope st_Rule_way) := ⟨rfl, rfl, rfl, by decide +kernel, rfl, by decide +kernel, by decide +kernel⟩
noncomputable def mb_Rule_way : MS := (sRet (eFld "Rule" "rule_way" (eVar 0)))
noncomputable def m_Rule_way : MF := mDef 1 mb_Rule_way
theorem ok_Rule_way {f : Addr} {fd : FuncData} (F : Fun K "way" "Rule.way" st_Rule_way f fd) (T : Tx K mg) (hN : ∃ mm, base.Ns sysModules mm) (f_Rule_rule_way : FldOk K mg "Rule" "rule_way") : FnG P w K mg base 1 f fd ["self"] (spM ⟨P, w, K, mg⟩ m_Rule_way 1) := by
  refine fnMG F sc_Rule_way mb_Rule_way fun cdv A outer s H E hG hr => ?_
  exact (sms_one (sm_ret (xp_fld f_Rule_rule_way (xp_var (i := 0) rfl (.inl rfl)))))
abbrev st_is_wish : Stmt := top 48
theorem sc_is_wish : FnScope ["rule", "value", "found"] ["rule", "value"] (defScope st_is_wish) := ⟨rfl, rfl, rfl, by decide +kernel, rfl, by decide +kernel, by decide +kernel⟩
noncomputable def mb_is_wish : MS := (sSeq (sDrop (eCall m_need_rule (aCons (eVar 0) aNil))) (sSeq (sIf (eOr (eNot (eCall m_is_name (aCons (eVar 1) aNil))) (op2 gtD (eBi lenB (aCons (eVar 1) aNil)) (eC (.int 150)))) (sRet (eC (.bl false))) sNx) (sSeq (sAsg 2 (eMeth "Rule" "read" m_Rule_read (eVar 0) (aCons (eVar 1) aNil))) (sRet (eOr (op2 eqD (eMeth "Rule" "way" m_Rule_way (eVar 0) aNil) (eC (.str [110, 101, 115, 116]))) (eOr (op1 (isB none) (eVar 2)) (op2 leD (op2 ixD (eVar 2) (eC (.int 1))) (eC (.int 99999999999999)))))))))
noncomputable def m_is_wish : MF := mDef 3 mb_is_wish
theorem ok_is_wish {f : Addr} {fd : FuncData} (F : Fun K "is_wish" "is_wish" st_is_wish f fd) (T : Tx K mg) (hN : ∃ mm, base.Ns sysModules mm) (o_need_rule : OwnG P w K mg base 3 "need_rule" 1 m_need_rule) (o_is_name : OwnG P w K mg base 1 "is_name" 1 m_is_name) (o_Rule_read : OwnM P w K mg base 8 "Rule" "read" 1 m_Rule_read) (o_Rule_way : OwnM P w K mg base 1 "Rule" "way" 0 m_Rule_way) : FnG P w K mg base 9 f fd ["rule", "value"] (spM ⟨P, w, K, mg⟩ m_is_wish 2) := by
  refine fnMG F sc_is_wish mb_is_wish fun cdv A outer s H E hG hr => ?_
  obtain ⟨tk_GREATEST_WISH, g_GREATEST_WISH⟩ := T.c_GREATEST_WISH
  obtain ⟨tk_LONGEST_WISH, g_LONGEST_WISH⟩ := T.c_LONGEST_WISH
  obtain ⟨tk_NEST, g_NEST⟩ := T.c_NEST
  exact (sms_cons (sm_expr (xp_ownG o_need_rule hG (hr.mono (by decide)) (takes_of rfl rfl rfl rfl) (xa_cons (xp_var (i := 0) rfl (.inl rfl)) xa_nil) rfl (len_cons len_nil)))
    (sms_cons (sm_if (Xw.t (xw_or (xt_not (xt_val (xp_ownG o_is_name hG (hr.mono (by decide)) (takes_of rfl rfl rfl rfl) (xa_cons (xp_var (i := 1) rfl (.inl rfl)) xa_nil) rfl (len_cons len_nil)))) (xw_or1 (xt_gt (xp_bi call_len cb_len rfl T.b_len bo_len (xa_cons (xp_var (i := 1) rfl (.inl rfl)) xa_nil)) (xp_globI rfl g_LONGEST_WISH))))) (sms_one (sm_ret xp_bl)) sms_nil)
    (sms_cons (sm_set (i := 2) sc_is_wish.nd rfl (.inl rfl) (xp_meth o_Rule_read hG (hr.mono (by decide)) (takes_of rfl rfl rfl rfl) (xp_var (i := 0) rfl (.inl rfl)) (xa_cons (xp_var (i := 1) rfl (.inl rfl)) xa_nil) (len_cons len_nil)))
    (sms_one (sm_ret (xp_or (p2 := ⟨0, 0, 0, 0⟩) (xp_eq hr.units (xp_meth0 o_Rule_way hG (hr.mono (by decide)) (takes_of rfl rfl rfl rfl) (xp_var (i := 0) rfl (.inl rfl))) (xp_globS (l := [110, 101, 115, 116]) rfl g_NEST (by decide +kernel))) (xp_or (p2 := ⟨0, 0, 0, 0⟩) (xp_isN (xp_var (i := 2) rfl (.inl rfl))) (xp_one (xp_le (xp_ix (xp_var (i := 2) rfl (.inl rfl)) xp_int (fun _ _ => rfl)) (xp_globI rfl g_GREATEST_WISH))))))))))
abbrev st_need_wish : Stmt := top 49
theorem sc_need_wish : FnScope ["rule", "wish"] ["rule", "wish"] (defScope st_need_wish) := ⟨rfl, rfl, rfl, by decide +kernel, rfl, by decide +kernel, by decide +kernel⟩
noncomputable def mb_need_wish : MS := (sIf (eNot (eCall m_is_wish (aCons (eVar 0) (aCons (eVar 1) aNil)))) (sRaise "BadWish" ["found"] (aCons (eVar 1) aNil)) sNx)
noncomputable def m_need_wish : MF := mDef 2 mb_need_wish
theorem ok_need_wish {f : Addr} {fd : FuncData} (F : Fun K "need_wish" "need_wish" st_need_wish f fd) (T : Tx K mg) (hN : ∃ mm, base.Ns sysModules mm) (o_is_wish : OwnG P w K mg base 9 "is_wish" 2 m_is_wish) (x_BadWish : ExF P w K mg base "BadWish" ["found"]) : FnG P w K mg base 10 f fd ["rule", "wish"] (spM ⟨P, w, K, mg⟩ m_need_wish 2) := by
  refine fnMG F sc_need_wish mb_need_wish fun cdv A outer s H E hG hr => ?_
  exact (sms_one (sm_if (xt_not (xt_val (xp_ownG o_is_wish hG (hr.mono (by decide)) (takes_of rfl rfl rfl rfl) (xa_cons (xp_var (i := 0) rfl (.inl rfl)) (xa_cons (xp_var (i := 1) rfl (.inl rfl)) xa_nil)) rfl (len_cons (len_cons len_nil))))) (sms_one (sm_raise rfl x_BadWish (hr.mono (by decide)) (takes_of rfl rfl rfl rfl) (xa_cons (xp_var (i := 1) rfl (.inl rfl)) xa_nil) rfl (by decide))) sms_nil))
abbrev st_is_integer : Stmt := top 18
theorem sc_is_integer : FnScope ["value", "low", "high"] ["value", "low", "high"] (defScope st_is_integer) := ⟨rfl, rfl, rfl, by decide +kernel, rfl, by decide +kernel, by decide +kernel⟩
noncomputable def mb_is_integer : MS := (sRet (eAnd (op1 (isiD "int") (eVar 0)) (eAnd (eNot (op1 (isiD "bool") (eVar 0))) (eChain leD leD (eVar 1) (eVar 0) (eVar 2)))))
noncomputable def m_is_integer : MF := mDef 3 mb_is_integer
theorem ok_is_integer {f : Addr} {fd : FuncData} (F : Fun K "is_integer" "is_integer" st_is_integer f fd) (T : Tx K mg) (hN : ∃ mm, base.Ns sysModules mm) : FnG P w K mg base 1 f fd ["value", "low", "high"] (spM ⟨P, w, K, mg⟩ m_is_integer 3) := by
  refine fnMG F sc_is_integer mb_is_integer fun cdv A outer s H E hG hr => ?_
  exact (sms_one (sm_ret (xp_and (p2 := ⟨0, 0, 0, 0⟩) (xp_isi rfl T.b_isinstance rfl T.b_int bo_int (xp_var (i := 0) rfl (.inl rfl))) (xp_and (p2 := ⟨0, 0, 0, 0⟩) (xp_not (xp_isi rfl T.b_isinstance rfl T.b_bool bo_bool (xp_var (i := 0) rfl (.inl rfl)))) (xp_one (xp_chain op_le o2_le op_le o2_le (xp_var (i := 1) rfl (.inl rfl)) (xp_var (i := 0) rfl (.inl rfl)) (xp_var (i := 2) rfl (.inl rfl))))))))
abbrev st_is_number : Stmt := top 21
theorem sc_is_number : FnScope ["value"] ["value"] (defScope st_is_number) := ⟨rfl, rfl, rfl, by decide +kernel, rfl, by decide +kernel, by decide +kernel⟩
noncomputable def mb_is_number : MS := (sRet (eCall m_is_integer (aCons (eVar 0) (aCons (eC (.int 2)) (aCons (eC (.int 999999999999999)) aNil)))))
noncomputable def m_is_number : MF := mDef 1 mb_is_number
theorem ok_is_number {f : Addr} {fd : FuncData} (F : Fun K "is_number" "is_number" st_is_number f fd) (T : Tx K mg) (hN : ∃ mm, base.Ns sysModules mm) (o_is_integer : OwnG P w K mg base 1 "is_integer" 3 m_is_integer) : FnG P w K mg base 2 f fd ["value"] (spM ⟨P, w, K, mg⟩ m_is_number 1) := by
  refine fnMG F sc_is_number mb_is_number fun cdv A outer s H E hG hr => ?_
  obtain ⟨tk_GREATEST, g_GREATEST⟩ := T.c_GREATEST
  exact (sms_one (sm_ret (xp_ownG o_is_integer hG (hr.mono (by decide)) (takes_of rfl rfl rfl rfl) (xa_cons (xp_var (i := 0) rfl (.inl rfl)) (xa_cons xp_int (xa_cons (xp_globI rfl g_GREATEST) xa_nil))) rfl (len_cons (len_cons (len_cons len_nil))))))
abbrev st_need_number : Stmt := top 30
theorem sc_need_number : FnScope ["number"] ["number"] (defScope st_need_number) := ⟨rfl, rfl, rfl, by decide +kernel, rfl, by decide +kernel, by decide +kernel⟩
noncomputable def mb_need_number : MS := (sIf (eNot (eCall m_is_number (aCons (eVar 0) aNil))) (sRaise "BadNumber" ["found"] (aCons (eVar 0) aNil)) sNx)
noncomputable def m_need_number : MF := mDef 1 mb_need_number
theorem ok_need_number {f : Addr} {fd : FuncData} (F : Fun K "need_number" "need_number" st_need_number f fd) (T : Tx K mg) (hN : ∃ mm, base.Ns sysModules mm) (o_is_number : OwnG P w K mg base 2 "is_number" 1 m_is_number) (x_BadNumber : ExF P w K mg base "BadNumber" ["found"]) : FnG P w K mg base 3 f fd ["number"] (spM ⟨P, w, K, mg⟩ m_need_number 1) := by
  refine fnMG F sc_need_number mb_need_number fun cdv A outer s H E hG hr => ?_
  exact (sms_one (sm_if (xt_not (xt_val (xp_ownG o_is_number hG (hr.mono (by decide)) (takes_of rfl rfl rfl rfl) (xa_cons (xp_var (i := 0) rfl (.inl rfl)) xa_nil) rfl (len_cons len_nil)))) (sms_one (sm_raise rfl x_BadNumber (hr.mono (by decide)) (takes_of rfl rfl rfl rfl) (xa_cons (xp_var (i := 0) rfl (.inl rfl)) xa_nil) rfl (by decide))) sms_nil))
abbrev st_written : Stmt := top 33
theorem sc_written : FnScope ["mark", "name", "number", "ahead", "between", "behind"] ["mark", "name", "number"] (defScope st_written) := ⟨rfl, rfl, rfl, by decide +kernel, rfl, by decide +kernel, by decide +kernel⟩
noncomputable def mb_written : MS := (sSeq (sDrop (eCall m_need_mark (aCons (eVar 0) aNil))) (sSeq (sDrop (eCall m_need_name (aCons (eVar 1) aNil))) (sSeq (sDrop (eCall m_need_number (aCons (eVar 2) aNil))) (sSeq (sAsgT (tgTup [3, 4, 5]) (eCall m_parts (aCons (eVar 0) aNil))) (sSeq (sIf (eCall m_name_first (aCons (eVar 0) aNil)) (sRet (op2 (addD false) (op2 (addD false) (op2 (addD false) (op2 (addD false) (eVar 3) (eVar 1)) (eVar 4)) (eBi strB (aCons (eVar 2) aNil))) (eVar 5))) sNx) (sRet (op2 (addD false) (op2 (addD false) (op2 (addD false) (op2 (addD false) (eVar 3) (eBi strB (aCons (eVar 2) aNil))) (eVar 4)) (eVar 1)) (eVar 5))))))))
noncomputable def m_written : MF := mDef 6 mb_written
theorem ok_written {f : Addr} {fd : FuncData} (F : Fun K "written" "written" st_written f fd) (T : Tx K mg) (hN : ∃ mm, base.Ns sysModules mm) (o_need_mark : OwnG P w K mg base 3 "need_mark" 1 m_need_mark) (o_need_name : OwnG P w K mg base 3 "need_name" 1 m_need_name) (o_need_number : OwnG P w K mg base 3 "need_number" 1 m_need_number) (o_parts : OwnG P w K mg base 1 "parts" 1 m_parts) (o_name_first : OwnG P w K mg base 1 "name_first" 1 m_name_first) : FnG P w K mg base 4 f fd ["mark", "name", "number"] (spM ⟨P, w, K, mg⟩ m_written 3) := by
  refine fnMG F sc_written mb_written fun cdv A outer s H E hG hr => ?_
  exact (sms_cons (sm_expr (xp_ownG o_need_mark hG (hr.mono (by decide)) (takes_of rfl rfl rfl rfl) (xa_cons (xp_var (i := 0) rfl (.inl rfl)) xa_nil) rfl (len_cons len_nil)))
    (sms_cons (sm_expr (xp_ownG o_need_name hG (hr.mono (by decide)) (takes_of rfl rfl rfl rfl) (xa_cons (xp_var (i := 1) rfl (.inl rfl)) xa_nil) rfl (len_cons len_nil)))
    (sms_cons (sm_expr (xp_ownG o_need_number hG (hr.mono (by decide)) (takes_of rfl rfl rfl rfl) (xa_cons (xp_var (i := 2) rfl (.inl rfl)) xa_nil) rfl (len_cons len_nil)))
    (sms_cons (sm_asgT (tgt_tup rfl (tgts_cons (tgt_name (i := 3) (own := [3, 4, 5]) sc_written.nd rfl (.inl rfl)) (tgts_cons (tgt_name (i := 4) (own := [3, 4, 5]) sc_written.nd rfl (.inl rfl)) (tgts_cons (tgt_name (i := 5) (own := [3, 4, 5]) sc_written.nd rfl (.inl rfl)) (tgts_nil (own := [3, 4, 5])))))) (xp_ownG o_parts hG (hr.mono (by decide)) (takes_of rfl rfl rfl rfl) (xa_cons (xp_var (i := 0) rfl (.inl rfl)) xa_nil) rfl (len_cons len_nil)))
    (sms_cons (sm_if (xt_val (xp_ownG o_name_first hG (hr.mono (by decide)) (takes_of rfl rfl rfl rfl) (xa_cons (xp_var (i := 0) rfl (.inl rfl)) xa_nil) rfl (len_cons len_nil))) (sms_one (sm_ret (xp_add false (xp_add false (xp_add false (xp_add false (xp_var (i := 3) rfl (.inl rfl)) (xp_var (i := 1) rfl (.inl rfl))) (xp_var (i := 4) rfl (.inl rfl))) (xp_ty call_strA cb_str rfl T.b_str bo_str (xa_cons (xp_var (i := 2) rfl (.inl rfl)) xa_nil))) (xp_var (i := 5) rfl (.inl rfl))))) sms_nil)
    (sms_one (sm_ret (xp_add false (xp_add false (xp_add false (xp_add false (xp_var (i := 3) rfl (.inl rfl)) (xp_ty call_strA cb_str rfl T.b_str bo_str (xa_cons (xp_var (i := 2) rfl (.inl rfl)) xa_nil))) (xp_var (i := 4) rfl (.inl rfl))) (xp_var (i := 1) rfl (.inl rfl))) (xp_var (i := 5) rfl (.inl rfl))))))))))
abbrev st_Rule_put : Stmt := meth (top 46) 4
theorem sc_Rule_put : FnScope ["self", "name", "number"] ["self", "name", "number"] (defScope st_Rule_put) := ⟨rfl, rfl, rfl, by decide +kernel, rfl, by decide +kernel, by decide +kernel⟩
noncomputable def mb_Rule_put : MS := (sRet (eCall m_written (aCons (eFld "Rule" "rule_mark" (eVar 0)) (aCons (eVar 1) (aCons (eVar 2) aNil)))))
noncomputable def m_Rule_put : MF := mDef 3 mb_Rule_put
theorem ok_Rule_put {f : Addr} {fd : FuncData} (F : Fun K "put" "Rule.put" st_Rule_put f fd) (T : Tx K mg) (hN : ∃ mm, base.Ns sysModules mm) (o_written : OwnG P w K mg base 4 "written" 3 m_written) (f_Rule_rule_mark : FldOk K mg "Rule" "rule_mark") : FnG P w K mg base 5 f fd ["self", "name", "number"] (spM ⟨P, w, K, mg⟩ m_Rule_put 3) := by
  refine fnMG F sc_Rule_put mb_Rule_put fun cdv A outer s H E hG hr => ?_
  exact (sms_one (sm_ret (xp_ownG o_written hG (hr.mono (by decide)) (takes_of rfl rfl rfl rfl) (xa_cons (xp_fld f_Rule_rule_mark (xp_var (i := 0) rfl (.inl rfl))) (xa_cons (xp_var (i := 1) rfl (.inl rfl)) (xa_cons (xp_var (i := 2) rfl (.inl rfl)) xa_nil))) rfl (len_cons (len_cons (len_cons len_nil))))))
abbrev st_name_at : Stmt := top 53
theorem sc_name_at : FnScope ["rule", "wish", "at", "found"] ["rule", "wish", "at"] (defScope st_name_at) := ⟨rfl, rfl, rfl, by decide +kernel, rfl, by decide +kernel, by decide +kernel⟩
noncomputable def mb_name_at : MS := (sSeq (sIf (op2 eqD (eVar 2) (eC (.int 0))) (sRet (eVar 1)) sNx) (sSeq (sAsg 3 (eIf (op2 eqD (eMeth "Rule" "way" m_Rule_way (eVar 0) aNil) (eC (.str [99, 108, 105, 109, 98]))) (eMeth "Rule" "read" m_Rule_read (eVar 0) (aCons (eVar 1) aNil)) (eC .non))) (sSeq (sIf (op1 (isB none) (eVar 3)) (sRet (eMeth "Rule" "put" m_Rule_put (eVar 0) (aCons (eVar 1) (aCons (op2 (addD false) (eVar 2) (eC (.int 1))) aNil)))) sNx) (sRet (eMeth "Rule" "put" m_Rule_put (eVar 0) (aCons (op2 ixD (eVar 3) (eC (.int 0))) (aCons (op2 (addD false) (op2 ixD (eVar 3) (eC (.int 1))) (eVar 2)) aNil)))))))
noncomputable def m_name_at : MF := mDef 4 mb_name_at
theorem ok_name_at {f : Addr} {fd : FuncData} (F : Fun K "name_at" "name_at" st_name_at f fd) (T : Tx K mg) (hN : ∃ mm, base.Ns sysModules mm) (o_Rule_way : OwnM P w K mg base 1 "Rule" "way" 0 m_Rule_way) (o_Rule_read : OwnM P w K mg base 8 "Rule" "read" 1 m_Rule_read) (o_Rule_put : OwnM P w K mg base 5 "Rule" "put" 2 m_Rule_put) : FnG P w K mg base 9 f fd ["rule", "wish", "at"] (spM ⟨P, w, K, mg⟩ m_name_at 3) := by
  refine fnMG F sc_name_at mb_name_at fun cdv A outer s H E hG hr => ?_
  obtain ⟨tk_CLIMB, g_CLIMB⟩ := T.c_CLIMB
  exact (sms_cons (sm_if (xt_eq hr.units (xp_var (i := 2) rfl (.inl rfl)) xp_int) (sms_one (sm_ret (xp_var (i := 1) rfl (.inl rfl)))) sms_nil)
    (sms_cons (sm_set (i := 3) sc_name_at.nd rfl (.inl rfl) (xp_if (xt_eq hr.units (xp_meth0 o_Rule_way hG (hr.mono (by decide)) (takes_of rfl rfl rfl rfl) (xp_var (i := 0) rfl (.inl rfl))) (xp_globS (l := [99, 108, 105, 109, 98]) rfl g_CLIMB (by decide +kernel))) (xp_meth o_Rule_read hG (hr.mono (by decide)) (takes_of rfl rfl rfl rfl) (xp_var (i := 0) rfl (.inl rfl)) (xa_cons (xp_var (i := 1) rfl (.inl rfl)) xa_nil) (len_cons len_nil)) xp_non))
    (sms_cons (sm_if (xt_isN (xp_var (i := 3) rfl (.inl rfl))) (sms_one (sm_ret (xp_meth o_Rule_put hG (hr.mono (by decide)) (takes_of rfl rfl rfl rfl) (xp_var (i := 0) rfl (.inl rfl)) (xa_cons (xp_var (i := 1) rfl (.inl rfl)) (xa_cons (xp_add false (xp_var (i := 2) rfl (.inl rfl)) xp_int) xa_nil)) (len_cons (len_cons len_nil))))) sms_nil)
    (sms_one (sm_ret (xp_meth o_Rule_put hG (hr.mono (by decide)) (takes_of rfl rfl rfl rfl) (xp_var (i := 0) rfl (.inl rfl)) (xa_cons (xp_ix (xp_var (i := 3) rfl (.inl rfl)) xp_int (fun _ _ => rfl)) (xa_cons (xp_add false (xp_ix (xp_var (i := 3) rfl (.inl rfl)) xp_int (fun _ _ => rfl)) (xp_var (i := 2) rfl (.inl rfl))) xa_nil)) (len_cons (len_cons len_nil))))))))
abbrev st_first_names : Stmt := top 55
theorem sc_first_names : FnScope ["rule", "wish", "many", "at"] ["rule", "wish", "many"] (defScope st_first_names) := ⟨rfl, rfl, rfl, by decide +kernel, rfl, by decide +kernel, by decide +kernel⟩
noncomputable def mb_first_names : MS := (sSeq (sDrop (eCall m_need_rule (aCons (eVar 0) aNil))) (sSeq (sDrop (eCall m_need_wish (aCons (eVar 0) (aCons (eVar 1) aNil)))) (sSeq (sIf (eNot (eCall m_is_integer (aCons (eVar 2) (aCons (eC (.int 0)) (aCons (eC (.int 200)) aNil))))) (sRaise "BadNumber" ["found"] (aCons (eVar 2) aNil)) sNx) (sRet (eLc false [3] (tgN 3) (wR1 (eVar 2)) (eC (.bl true)) (eCall m_name_at (aCons (eVar 0) (aCons (eVar 1) (aCons (eVar 3) aNil)))))))))
noncomputable def m_first_names : MF := mDef 4 mb_first_names
theorem ok_first_names {f : Addr} {fd : FuncData} (F : Fun K "first_names" "first_names" st_first_names f fd) (T : Tx K mg) (hN : ∃ mm, base.Ns sysModules mm) (o_need_rule : OwnG P w K mg base 3 "need_rule" 1 m_need_rule) (o_need_wish : OwnG P w K mg base 10 "need_wish" 2 m_need_wish) (o_is_integer : OwnG P w K mg base 1 "is_integer" 3 m_is_integer) (o_name_at : OwnG P w K mg base 9 "name_at" 3 m_name_at) (x_BadNumber : ExF P w K mg base "BadNumber" ["found"]) : FnG P w K mg base 11 f fd ["rule", "wish", "many"] (spM ⟨P, w, K, mg⟩ m_first_names 3) := by
  refine fnMG F sc_first_names mb_first_names fun cdv A outer s H E hG hr => ?_
  obtain ⟨tk_MOST_NAMES, g_MOST_NAMES⟩ := T.c_MOST_NAMES
  exact (sms_cons (sm_expr (xp_ownG o_need_rule hG (hr.mono (by decide)) (takes_of rfl rfl rfl rfl) (xa_cons (xp_var (i := 0) rfl (.inr (.inl rfl))) xa_nil) rfl (len_cons len_nil)))
    (sms_cons (sm_expr (xp_ownG o_need_wish hG (hr.mono (by decide)) (takes_of rfl rfl rfl rfl) (xa_cons (xp_var (i := 0) rfl (.inr (.inl rfl))) (xa_cons (xp_var (i := 1) rfl (.inr (.inl rfl))) xa_nil)) rfl (len_cons (len_cons len_nil))))
    (sms_cons (sm_if (xt_not (xt_val (xp_ownG o_is_integer hG (hr.mono (by decide)) (takes_of rfl rfl rfl rfl) (xa_cons (xp_var (i := 2) rfl (.inl rfl)) (xa_cons xp_int (xa_cons (xp_globI rfl g_MOST_NAMES) xa_nil))) rfl (len_cons (len_cons (len_cons len_nil)))))) (sms_one (sm_raise rfl x_BadNumber (hr.mono (by decide)) (takes_of rfl rfl rfl rfl) (xa_cons (xp_var (i := 2) rfl (.inl rfl)) xa_nil) rfl (by decide))) sms_nil)
    (sms_one (sm_ret (xp_lc false rfl sc_first_names.nd (wk_range1 rfl T.b_range (xp_var (i := 2) rfl (.inl rfl))) (own := [("at", 3)]) (blk_ok (N := ["rule", "wish", "many", "at"]) (sc := defScope st_first_names) (by decide +kernel)) ⟨fun s H C cl fp => (tgt_name (i := 3) (own := [3]) sc_first_names.nd rfl (.inl rfl)), fun s H C cl fp => xts_nil, fun s H C cl fp => (xp_ownG o_name_at hG (hr.mono (by decide)) takes_no (xa_cons (xp_var (i := 0) rfl (.inr (.inl rfl))) (xa_cons (xp_var (i := 1) rfl (.inr (.inl rfl))) (xa_cons (xp_var (i := 3) rfl (.inl rfl)) xa_nil))) rfl (len_cons (len_cons (len_cons len_nil))))⟩))))))
abbrev st_place : Stmt := top 56
theorem sc_place : FnScope ["rule", "wish", "name"] ["rule", "wish", "name"] (defScope st_place) := ⟨rfl, rfl, rfl, by decide +kernel, rfl, by decide +kernel, by decide +kernel⟩
noncomputable def mb_place : MS := (sSeq (sDrop (eCall m_need_rule (aCons (eVar 0) aNil))) (sSeq (sDrop (eCall m_need_wish (aCons (eVar 0) (aCons (eVar 1) aNil)))) (sSeq (sDrop (eCall m_need_name (aCons (eVar 2) aNil))) sStuck)))
noncomputable def m_place : MF := mDef 3 mb_place
theorem ok_place {f : Addr} {fd : FuncData} (F : Fun K "place" "place" st_place f fd) (T : Tx K mg) (hN : ∃ mm, base.Ns sysModules mm) (o_need_rule : OwnG P w K mg base 3 "need_rule" 1 m_need_rule) (o_need_wish : OwnG P w K mg base 10 "need_wish" 2 m_need_wish) (o_need_name : OwnG P w K mg base 3 "need_name" 1 m_need_name) : FnG P w K mg base 11 f fd ["rule", "wish", "name"] (spM ⟨P, w, K, mg⟩ m_place 3) := by
  refine fnMG F sc_place mb_place fun cdv A outer s H E hG hr => ?_
  exact (sms_cons (sm_expr (xp_ownG o_need_rule hG (hr.mono (by decide)) (takes_of rfl rfl rfl rfl) (xa_cons (xp_var (i := 0) rfl (.inl rfl)) xa_nil) rfl (len_cons len_nil)))
    (sms_cons (sm_expr (xp_ownG o_need_wish hG (hr.mono (by decide)) (takes_of rfl rfl rfl rfl) (xa_cons (xp_var (i := 0) rfl (.inl rfl)) (xa_cons (xp_var (i := 1) rfl (.inl rfl)) xa_nil)) rfl (len_cons (len_cons len_nil))))
    (sms_cons (sm_expr (xp_ownG o_need_name hG (hr.mono (by decide)) (takes_of rfl rfl rfl rfl) (xa_cons (xp_var (i := 2) rfl (.inl rfl)) xa_nil) rfl (len_cons len_nil)))
    (sms_one sm_stuck))))
abbrev st_is_list : Stmt := top 19
theorem sc_is_list : FnScope ["value", "most"] ["value", "most"] (defScope st_is_list) := ⟨rfl, rfl, rfl, by decide +kernel, rfl, by decide +kernel, by decide +kernel⟩
noncomputable def mb_is_list : MS := (sRet (eAnd (op1 (isiD2 "list" "tuple") (eVar 0)) (op2 leD (eBi lenB (aCons (eVar 0) aNil)) (eVar 1))))
noncomputable def m_is_list : MF := mDef 2 mb_is_list
theorem ok_is_list {f : Addr} {fd : FuncData} (F : Fun K "is_list" "is_list" st_is_list f fd) (T : Tx K mg) (hN : ∃ mm, base.Ns sysModules mm) : FnG P w K mg base 1 f fd ["value", "most"] (spM ⟨P, w, K, mg⟩ m_is_list 2) := by
  refine fnMG F sc_is_list mb_is_list fun cdv A outer s H E hG hr => ?_
  exact (sms_one (sm_ret (xp_and (p2 := ⟨0, 0, 0, 0⟩) (xp_isi2 rfl T.b_isinstance rfl T.b_list bo_list rfl T.b_tuple bo_tuple (xp_var (i := 0) rfl (.inl rfl))) (xp_one (xp_le (xp_bi call_len cb_len rfl T.b_len bo_len (xa_cons (xp_var (i := 0) rfl (.inl rfl)) xa_nil)) (xp_var (i := 1) rfl (.inl rfl)))))))
abbrev st_need_unlike : Stmt := top 57
theorem sc_need_unlike : FnScope ["names", "most", "seen", "name"] ["names", "most"] (defScope st_need_unlike) := ⟨rfl, rfl, rfl, by decide +kernel, rfl, by decide +kernel, by decide +kernel⟩
noncomputable def mb_need_unlike : MS := (sSeq (sIf (eNot (eCall m_is_list (aCons (eVar 0) (aCons (eVar 1) aNil)))) (sRaise "BadNames" ["found"] (aCons (eVar 0) aNil)) sNx) (sSeq (sAsg 2 eSet0) (sFor (tgN 3) (wSeq (eVar 0)) (sSeq (sIf (eNot (eCall m_is_name (aCons (eVar 3) aNil))) (sRaise "BadName" ["found"] (aCons (eVar 3) aNil)) sNx) (sSeq (sIf (op2 (inSX false) (eVar 3) (eVar 2)) (sRaise "Doubled" ["found"] (aCons (eVar 3) aNil)) sNx) (sDrop (eSAdd (eVar 2) (eVar 3))))))))
noncomputable def m_need_unlike : MF := mDef 4 mb_need_unlike
theorem ok_need_unlike {f : Addr} {fd : FuncData} (F : Fun K "need_unlike" "need_unlike" st_need_unlike f fd) (T : Tx K mg) (hN : ∃ mm, base.Ns sysModules mm) (o_is_list : OwnG P w K mg base 1 "is_list" 2 m_is_list) (o_is_name : OwnG P w K mg base 1 "is_name" 1 m_is_name) (x_BadName : ExF P w K mg base "BadName" ["found"]) (x_BadNames : ExF P w K mg base "BadNames" ["found"]) (x_Doubled : ExF P w K mg base "Doubled" ["found"]) : FnG P w K mg base 3 f fd ["names", "most"] (spM ⟨P, w, K, mg⟩ m_need_unlike 2) := by
  refine fnMG F sc_need_unlike mb_need_unlike fun cdv A outer s H E hG hr => ?_
  exact (sms_cons (sm_if (xt_not (xt_val (xp_ownG o_is_list hG (hr.mono (by decide)) (takes_of rfl rfl rfl rfl) (xa_cons (xp_var (i := 0) rfl (.inl rfl)) (xa_cons (xp_var (i := 1) rfl (.inl rfl)) xa_nil)) rfl (len_cons (len_cons len_nil))))) (sms_one (sm_raise rfl x_BadNames (hr.mono (by decide)) (takes_of rfl rfl rfl rfl) (xa_cons (xp_var (i := 0) rfl (.inl rfl)) xa_nil) rfl (by decide))) sms_nil)
    (sms_cons (sm_set (i := 2) sc_need_unlike.nd rfl (.inl rfl) (xp_set0 rfl T.b_set))
    (sms_one (sm_for rfl (passes_of rfl) (wk_seq (xp_var (i := 0) rfl (.inl rfl))) (tgt_name (i := 3) (own := [3]) sc_need_unlike.nd rfl (.inl rfl)) (sms_cons (sm_if (xt_not (xt_val (xp_ownG o_is_name hG (hr.mono (by decide)) (takes_of rfl rfl rfl rfl) (xa_cons (xp_var (i := 3) rfl (.inl rfl)) xa_nil) rfl (len_cons len_nil)))) (sms_one (sm_raise rfl x_BadName (hr.mono (by decide)) (takes_of rfl rfl rfl rfl) (xa_cons (xp_var (i := 3) rfl (.inl rfl)) xa_nil) rfl (by decide))) sms_nil)
    (sms_cons (sm_if (xt_inS (xp_var (i := 3) rfl (.inl rfl)) (xp_var (i := 2) rfl (.inl rfl)) rfl) (sms_one (sm_raise rfl x_Doubled (hr.mono (by decide)) (takes_of rfl rfl rfl rfl) (xa_cons (xp_var (i := 3) rfl (.inl rfl)) xa_nil) rfl (by decide))) sms_nil)
    (sms_one (sm_expr (xp_sadd (xp_var (i := 2) rfl (.inl rfl)) (xp_var (i := 3) rfl (.inl rfl)))))))))))
abbrev st_need_taken : Stmt := top 58
theorem sc_need_taken : FnScope ["taken"] ["taken"] (defScope st_need_taken) := ⟨rfl, rfl, rfl, by decide +kernel, rfl, by decide +kernel, by decide +kernel⟩
noncomputable def mb_need_taken : MS := (sDrop (eCall m_need_unlike (aCons (eVar 0) (aCons (eC (.int 100)) aNil))))
noncomputable def m_need_taken : MF := mDef 1 mb_need_taken
theorem ok_need_taken {f : Addr} {fd : FuncData} (F : Fun K "need_taken" "need_taken" st_need_taken f fd) (T : Tx K mg) (hN : ∃ mm, base.Ns sysModules mm) (o_need_unlike : OwnG P w K mg base 3 "need_unlike" 2 m_need_unlike) : FnG P w K mg base 4 f fd ["taken"] (spM ⟨P, w, K, mg⟩ m_need_taken 1) := by
  refine fnMG F sc_need_taken mb_need_taken fun cdv A outer s H E hG hr => ?_
  obtain ⟨tk_MOST_TAKEN, g_MOST_TAKEN⟩ := T.c_MOST_TAKEN
  exact (sms_one (sm_expr (xp_ownG o_need_unlike hG (hr.mono (by decide)) (takes_of rfl rfl rfl rfl) (xa_cons (xp_var (i := 0) rfl (.inl rfl)) (xa_cons (xp_globI rfl g_MOST_TAKEN) xa_nil)) rfl (len_cons (len_cons len_nil)))))
abbrev st_free_on : Stmt := top 59
theorem sc_free_on : FnScope ["rule", "held", "wish", "at"] ["rule", "held", "wish"] (defScope st_free_on) := ⟨rfl, rfl, rfl, by decide +kernel, rfl, by decide +kernel, by decide +kernel⟩
noncomputable def mb_free_on : MS := (sSeq (sAsg 3 (eC (.int 0))) (sSeq (sWhile (op2 inD (eCall m_name_at (aCons (eVar 0) (aCons (eVar 2) (aCons (eVar 3) aNil)))) (eVar 1)) (sAugI 3 (eC (.int 1)))) (sRet (eCall m_name_at (aCons (eVar 0) (aCons (eVar 2) (aCons (eVar 3) aNil)))))))
noncomputable def m_free_on : MF := mDef 4 mb_free_on
theorem ok_free_on {f : Addr} {fd : FuncData} (F : Fun K "free_on" "free_on" st_free_on f fd) (T : Tx K mg) (hN : ∃ mm, base.Ns sysModules mm) (o_name_at : OwnG P w K mg base 9 "name_at" 3 m_name_at) : FnG P w K mg base 10 f fd ["rule", "held", "wish"] (spM ⟨P, w, K, mg⟩ m_free_on 3) := by
  refine fnMG F sc_free_on mb_free_on fun cdv A outer s H E hG hr => ?_
  exact (sms_cons (sm_set (i := 3) sc_free_on.nd rfl (.inl rfl) xp_int)
    (sms_cons (sm_while (passes_of rfl) (xt_in (xp_ownG o_name_at hG (hr.mono (by decide)) (takes_of rfl rfl rfl rfl) (xa_cons (xp_var (i := 0) rfl (.inl rfl)) (xa_cons (xp_var (i := 2) rfl (.inl rfl)) (xa_cons (xp_var (i := 3) rfl (.inl rfl)) xa_nil))) rfl (len_cons (len_cons (len_cons len_nil)))) (xp_var (i := 1) rfl (.inl rfl)) rfl) (sms_one (sm_augI (i := 3) sc_free_on.nd rfl (.inl rfl) xp_int)))
    (sms_one (sm_ret (xp_ownG o_name_at hG (hr.mono (by decide)) (takes_of rfl rfl rfl rfl) (xa_cons (xp_var (i := 0) rfl (.inl rfl)) (xa_cons (xp_var (i := 2) rfl (.inl rfl)) (xa_cons (xp_var (i := 3) rfl (.inl rfl)) xa_nil))) rfl (len_cons (len_cons (len_cons len_nil))))))))
abbrev st_first_free : Stmt := top 60
theorem sc_first_free : FnScope ["rule", "taken", "wish"] ["rule", "taken", "wish"] (defScope st_first_free) := ⟨rfl, rfl, rfl, by decide +kernel, rfl, by decide +kernel, by decide +kernel⟩
noncomputable def mb_first_free : MS := (sSeq (sDrop (eCall m_need_rule (aCons (eVar 0) aNil))) (sSeq (sDrop (eCall m_need_taken (aCons (eVar 1) aNil))) (sSeq (sDrop (eCall m_need_wish (aCons (eVar 0) (aCons (eVar 2) aNil)))) (sRet (eCall m_free_on (aCons (eVar 0) (aCons (eVar 1) (aCons (eVar 2) aNil))))))))
noncomputable def m_first_free : MF := mDef 3 mb_first_free
theorem ok_first_free {f : Addr} {fd : FuncData} (F : Fun K "first_free" "first_free" st_first_free f fd) (T : Tx K mg) (hN : ∃ mm, base.Ns sysModules mm) (o_need_rule : OwnG P w K mg base 3 "need_rule" 1 m_need_rule) (o_need_taken : OwnG P w K mg base 4 "need_taken" 1 m_need_taken) (o_need_wish : OwnG P w K mg base 10 "need_wish" 2 m_need_wish) (o_free_on : OwnG P w K mg base 10 "free_on" 3 m_free_on) : FnG P w K mg base 11 f fd ["rule", "taken", "wish"] (spM ⟨P, w, K, mg⟩ m_first_free 3) := by
  refine fnMG F sc_first_free mb_first_free fun cdv A outer s H E hG hr => ?_
  exact (sms_cons (sm_expr (xp_ownG o_need_rule hG (hr.mono (by decide)) (takes_of rfl rfl rfl rfl) (xa_cons (xp_var (i := 0) rfl (.inl rfl)) xa_nil) rfl (len_cons len_nil)))
    (sms_cons (sm_expr (xp_ownG o_need_taken hG (hr.mono (by decide)) (takes_of rfl rfl rfl rfl) (xa_cons (xp_var (i := 1) rfl (.inl rfl)) xa_nil) rfl (len_cons len_nil)))
    (sms_cons (sm_expr (xp_ownG o_need_wish hG (hr.mono (by decide)) (takes_of rfl rfl rfl rfl) (xa_cons (xp_var (i := 0) rfl (.inl rfl)) (xa_cons (xp_var (i := 2) rfl (.inl rfl)) xa_nil)) rfl (len_cons (len_cons len_nil))))
    (sms_one (sm_ret (xp_ownG o_free_on hG (hr.mono (by decide)) (takes_of rfl rfl rfl rfl) (xa_cons (xp_var (i := 0) rfl (.inl rfl)) (xa_cons (xp_var (i := 1) rfl (.inl rfl)) (xa_cons (xp_var (i := 2) rfl (.inl rfl)) xa_nil))) rfl (len_cons (len_cons (len_cons len_nil)))))))))
abbrev st__law_asked : Stmt := top 72
theorem sc__law_asked : FnScope ["way", "one", "other", "third", "e"] ["way", "one", "other", "third"] (defScope st__law_asked) := ⟨rfl, rfl, rfl, by decide +kernel, rfl, by decide +kernel, by decide +kernel⟩
noncomputable def mb__law_asked : MS := (sSeq (sTry (isaT isa) (sIf (op2 eqD (eVar 0) (eC (.int 0))) (sDrop (eCall m_first_names (aCons (eVar 1) (aCons (eVar 2) (aCons (eVar 3) aNil))))) (sIf (op2 eqD (eVar 0) (eC (.int 1))) (sDrop (eCall m_place (aCons (eVar 1) (aCons (eVar 2) (aCons (eVar 3) aNil))))) (sDrop (eCall m_first_free (aCons (eVar 1) (aCons (eVar 2) (aCons (eVar 3) aNil))))))) (("BadRule", some 4, fun fs env cs => ((he2 (fun _ cs => .ok (.str [114, 117, 108, 101]) cs) (fldD "found")) fs cs).toS env fun d c => .rt d c) :: (("BadWish", some 4, fun fs env cs => ((he2 (fun _ cs => .ok (.str [119, 105, 115, 104]) cs) (fldD "found")) fs cs).toS env fun d c => .rt d c) :: (("BadNumber", some 4, fun fs env cs => ((he2 (fun _ cs => .ok (.str [110, 117, 109, 98, 101, 114]) cs) (fldD "found")) fs cs).toS env fun d c => .rt d c) :: (("BadName", some 4, fun fs env cs => ((he2 (fun _ cs => .ok (.str [110, 97, 109, 101]) cs) (fldD "found")) fs cs).toS env fun d c => .rt d c) :: (("BadNames", some 4, fun fs env cs => ((he2 (fun _ cs => .ok (.str [110, 97, 109, 101, 115]) cs) (fldD "found")) fs cs).toS env fun d c => .rt d c) :: (("Doubled", some 4, fun fs env cs => ((he2 (fun _ cs => .ok (.str [100, 111, 117, 98, 108, 101, 100]) cs) (fldD "found")) fs cs).toS env fun d c => .rt d c) :: (("TailError", none, fun _ => (sRet (eList false (aCons (eC (.str [111, 116, 104, 101, 114])) (aCons (eC .non) aNil))))) :: [])))))))) (sRet (eList false (aCons (eC (.str [110, 111, 110, 101])) (aCons (eC .non) aNil)))))
noncomputable def m__law_asked : MF := mDef 5 mb__law_asked
theorem ok__law_asked {f : Addr} {fd : FuncData} (F : Fun K "_law_asked" "_law_asked" st__law_asked f fd) (T : Tx K mg) (hN : ∃ mm, base.Ns sysModules mm) (o_first_names : OwnG P w K mg base 11 "first_names" 3 m_first_names) (o_place : OwnG P w K mg base 11 "place" 3 m_place) (o_first_free : OwnG P w K mg base 11 "first_free" 3 m_first_free) (x_BadName : ExF P w K mg base "BadName" ["found"]) (x_BadNames : ExF P w K mg base "BadNames" ["found"]) (x_BadNumber : ExF P w K mg base "BadNumber" ["found"]) (x_BadRule : ExF P w K mg base "BadRule" ["found"]) (x_BadWish : ExF P w K mg base "BadWish" ["found"]) (x_Doubled : ExF P w K mg base "Doubled" ["found"]) (p_TailError : ∃ C, mg "TailError" = some (.ref C)) (ia : IsaOk K mg (isaT isa)) : FnG P w K mg base 12 f fd ["way", "one", "other", "third"] (spM ⟨P, w, K, mg⟩ m__law_asked 4) := by
  refine fnMG F sc__law_asked mb__law_asked fun cdv A outer s H E hG hr => ?_
  obtain ⟨C_BadName, _, _, _, _, _, _, _, _, hm_BadName, xf_BadName, hn_BadName⟩ := id x_BadName
  obtain ⟨C_BadNames, _, _, _, _, _, _, _, _, hm_BadNames, xf_BadNames, hn_BadNames⟩ := id x_BadNames
  obtain ⟨C_BadNumber, _, _, _, _, _, _, _, _, hm_BadNumber, xf_BadNumber, hn_BadNumber⟩ := id x_BadNumber
  obtain ⟨C_BadRule, _, _, _, _, _, _, _, _, hm_BadRule, xf_BadRule, hn_BadRule⟩ := id x_BadRule
  obtain ⟨C_BadWish, _, _, _, _, _, _, _, _, hm_BadWish, xf_BadWish, hn_BadWish⟩ := id x_BadWish
  obtain ⟨C_Doubled, _, _, _, _, _, _, _, _, hm_Doubled, xf_Doubled, hn_Doubled⟩ := id x_Doubled
  obtain ⟨_, hm_TailError⟩ := p_TailError
  exact (sms_cons (sm_try ia rfl rfl sc__law_asked.nd (takes_of rfl rfl rfl rfl) (fun W pn xe tk po => (sms_one (sm_if (xt_eq hr.units (xp_var (i := 0) rfl (.inl rfl)) xp_int) (sms_one (sm_expr (xp_ownG o_first_names hG (hr.mono (by decide)) tk (xa_cons (xp_var (i := 1) rfl (.inl rfl)) (xa_cons (xp_var (i := 2) rfl (.inl rfl)) (xa_cons (xp_var (i := 3) rfl (.inl rfl)) xa_nil))) rfl (len_cons (len_cons (len_cons len_nil)))))) (sms_one (sm_if (xt_eq hr.units (xp_var (i := 0) rfl (.inl rfl)) xp_int) (sms_one (sm_expr (xp_ownG o_place hG (hr.mono (by decide)) tk (xa_cons (xp_var (i := 1) rfl (.inl rfl)) (xa_cons (xp_var (i := 2) rfl (.inl rfl)) (xa_cons (xp_var (i := 3) rfl (.inl rfl)) xa_nil))) rfl (len_cons (len_cons (len_cons len_nil)))))) (sms_one (sm_expr (xp_ownG o_first_free hG (hr.mono (by decide)) tk (xa_cons (xp_var (i := 1) rfl (.inl rfl)) (xa_cons (xp_var (i := 2) rfl (.inl rfl)) (xa_cons (xp_var (i := 3) rfl (.inl rfl)) xa_nil))) rfl (len_cons (len_cons (len_cons len_nil))))))))))) (.named rfl (by decide) hm_BadRule rfl rfl (he_list2 (he_str (l := [114, 117, 108, 101]) (by decide +kernel)) (he_fld xf_BadRule (hn_BadRule _ (by decide)) rfl (.inl rfl))) (.named rfl (by decide) hm_BadWish rfl rfl (he_list2 (he_str (l := [119, 105, 115, 104]) (by decide +kernel)) (he_fld xf_BadWish (hn_BadWish _ (by decide)) rfl (.inl rfl))) (.named rfl (by decide) hm_BadNumber rfl rfl (he_list2 (he_str (l := [110, 117, 109, 98, 101, 114]) (by decide +kernel)) (he_fld xf_BadNumber (hn_BadNumber _ (by decide)) rfl (.inl rfl))) (.named rfl (by decide) hm_BadName rfl rfl (he_list2 (he_str (l := [110, 97, 109, 101]) (by decide +kernel)) (he_fld xf_BadName (hn_BadName _ (by decide)) rfl (.inl rfl))) (.named rfl (by decide) hm_BadNames rfl rfl (he_list2 (he_str (l := [110, 97, 109, 101, 115]) (by decide +kernel)) (he_fld xf_BadNames (hn_BadNames _ (by decide)) rfl (.inl rfl))) (.named rfl (by decide) hm_Doubled rfl rfl (he_list2 (he_str (l := [100, 111, 117, 98, 108, 101, 100]) (by decide +kernel)) (he_fld xf_Doubled (hn_Doubled _ (by decide)) rfl (.inl rfl))) (.plain rfl (by decide) hm_TailError (fun a oe pn => (sms_one (sm_ret (xp_list false (xa_cons (xp_str (l := [111, 116, 104, 101, 114]) (by decide +kernel)) (xa_cons xp_non xa_nil)))))) .nil))))))))
    (sms_one (sm_ret (xp_list false (xa_cons (xp_str (l := [110, 111, 110, 101]) (by decide +kernel)) (xa_cons xp_non xa_nil))))))
abbrev st__law_very : Stmt := top 69
theorem sc__law_very : FnScope ["found", "thing"] ["found", "thing"] (defScope st__law_very) := ⟨rfl, rfl, rfl, by decide +kernel, rfl, by decide +kernel, by decide +kernel⟩
noncomputable def mb__law_very : MS := (sSeq (sIf (op1 (isiD "list") (eVar 1)) (sDrop (ePush (eVar 1) (eC (.str [109, 111, 114, 101])))) sNx) (sSeq (sIf (op1 (isiD "dict") (eVar 1)) (sPutK (eVar 1) (eC (.str [109, 111, 114, 101])) (eC (.int 1))) sNx) (sRet (op2 eqD (eBi reprBD (aCons (eVar 0) aNil)) (eBi reprBD (aCons (eVar 1) aNil))))))
noncomputable def m__law_very : MF := mDef 2 mb__law_very
theorem ok__law_very {f : Addr} {fd : FuncData} (F : Fun K "_law_very" "_law_very" st__law_very f fd) (T : Tx K mg) (hN : ∃ mm, base.Ns sysModules mm) : FnG P w K mg base 1 f fd ["found", "thing"] (spM ⟨P, w, K, mg⟩ m__law_very 2) := by
  refine fnMG F sc__law_very mb__law_very fun cdv A outer s H E hG hr => ?_
  exact (sms_cons (sm_if (xt_val (xp_isi rfl T.b_isinstance rfl T.b_list bo_list (xp_var (i := 1) rfl (.inl rfl)))) (sms_one (sm_expr (xp_push (xp_var (i := 1) rfl (.inl rfl)) (xp_str (l := [109, 111, 114, 101]) (by decide +kernel))))) sms_nil)
    (sms_cons (sm_if (xt_val (xp_isi rfl T.b_isinstance rfl T.b_dict bo_dict (xp_var (i := 1) rfl (.inl rfl)))) (sms_one (sm_putK hr (xp_var (i := 1) rfl (.inl rfl)) (xp_str (l := [109, 111, 114, 101]) (by decide +kernel)) xp_int)) sms_nil)
    (sms_one (sm_ret (xp_eq hr.units (xp_reprX hG hr hN rfl T.b_repr (xa_cons (xp_var (i := 0) rfl (.inl rfl)) xa_nil)) (xp_reprX hG hr hN rfl T.b_repr (xa_cons (xp_var (i := 1) rfl (.inl rfl)) xa_nil)))))))
abbrev st__law_refused : Stmt := top 73
theorem sc__law_refused : FnScope ["way", "things", "word", "value", "found"] ["way", "things", "word", "value"] (defScope st__law_refused) := ⟨rfl, rfl, rfl, by decide +kernel, rfl, by decide +kernel, by decide +kernel⟩
noncomputable def mb__law_refused : MS := (sSeq (sAsg 4 (eCall m__law_asked (aCons (eVar 0) (aCons (op2 ixD (eVar 1) (eC (.int 0))) (aCons (op2 ixD (eVar 1) (eC (.int 1))) (aCons (op2 ixD (eVar 1) (eC (.int 2))) aNil)))))) (sRet (eAnd (op2 eqD (op2 ixD (eVar 4) (eC (.int 0))) (eVar 2)) (eCall m__law_very (aCons (op2 ixD (eVar 4) (eC (.int 1))) (aCons (eVar 3) aNil))))))
noncomputable def m__law_refused : MF := mDef 5 mb__law_refused
theorem ok__law_refused {f : Addr} {fd : FuncData} (F : Fun K "_law_refused" "_law_refused" st__law_refused f fd) (T : Tx K mg) (hN : ∃ mm, base.Ns sysModules mm) (o__law_asked : OwnG P w K mg base 12 "_law_asked" 4 m__law_asked) (o__law_very : OwnG P w K mg base 1 "_law_very" 2 m__law_very) : FnG P w K mg base 13 f fd ["way", "things", "word", "value"] (spM ⟨P, w, K, mg⟩ m__law_refused 4) := by
  refine fnMG F sc__law_refused mb__law_refused fun cdv A outer s H E hG hr => ?_
  exact (sms_cons (sm_set (i := 4) sc__law_refused.nd rfl (.inl rfl) (xp_ownG o__law_asked hG (hr.mono (by decide)) (takes_of rfl rfl rfl rfl) (xa_cons (xp_var (i := 0) rfl (.inl rfl)) (xa_cons (xp_ix (xp_var (i := 1) rfl (.inl rfl)) xp_int (fun _ _ => rfl)) (xa_cons (xp_ix (xp_var (i := 1) rfl (.inl rfl)) xp_int (fun _ _ => rfl)) (xa_cons (xp_ix (xp_var (i := 1) rfl (.inl rfl)) xp_int (fun _ _ => rfl)) xa_nil)))) rfl (len_cons (len_cons (len_cons (len_cons len_nil))))))
    (sms_one (sm_ret (xp_and (p2 := ⟨0, 0, 0, 0⟩) (xp_eq hr.units (xp_ix (xp_var (i := 4) rfl (.inl rfl)) xp_int (fun _ _ => rfl)) (xp_var (i := 2) rfl (.inl rfl))) (xp_one (xp_ownG o__law_very hG (hr.mono (by decide)) (takes_of rfl rfl rfl rfl) (xa_cons (xp_ix (xp_var (i := 4) rfl (.inl rfl)) xp_int (fun _ _ => rfl)) (xa_cons (xp_var (i := 3) rfl (.inl rfl)) xa_nil)) rfl (len_cons (len_cons len_nil))))))))
abbrev st_law : Stmt := top 75
theorem sc_law : FnScope ["script", "k", "box", "odd", "other", "rule", "way", "bad", "names", "at", "whole", "spoilt"] ["script"] (defScope st_law) := ⟨rfl, rfl, rfl, by decide +kernel, rfl, by decide +kernel, by decide +kernel⟩
noncomputable def mb_law : MS := (sSeq (sFor (tgN 1) (wR1 (eBi maxB (aCons (eC (.int 2)) (aCons (eBi minB (aCons (eC (.int 10)) (aCons (eBi lenB (aCons (eVar 0) aNil)) aNil))) aNil)))) (sSeq (sAsg 2 (eCall m__law_box (aCons (eCall m__law_cell (aCons (eVar 0) (aCons (eVar 1) aNil))) aNil))) (sSeq (sPar [3, 4] (aCons (eCall m__law_odd (aCons (eVar 2) aNil)) (aCons (eCall m__law_odd (aCons (eVar 2) aNil)) aNil))) (sSeq (sAsg 5 (eMake "Rule" m_Rule___init__ (aCons (eCall m__law_mark (aCons (eVar 2) aNil)) (aCons (op2 ixD (eList false (aCons (eC (.str [110, 101, 115, 116])) (aCons (eC (.str [99, 108, 105, 109, 98])) aNil))) (eCall m__law_take (aCons (eVar 2) (aCons (eC (.int 2)) aNil)))) aNil)))) (sSeq (sFor (tgN 6) (wR1 (eC (.int 3))) (sIf (eNot (eCall m__law_refused (aCons (eVar 6) (aCons (eList false (aCons (eVar 3) (aCons (eVar 4) (aCons (eVar 4) aNil)))) (aCons (eC (.str [114, 117, 108, 101])) (aCons (eVar 3) aNil)))))) (sRet (eC (.bl false))) sNx)) (sSeq (sIf (eNot (eCall m__law_is_name (aCons (eVar 3) (aCons (eC (.int 150)) aNil)))) (sSeq (sFor (tgN 6) (wR1 (eC (.int 2))) (sIf (eNot (eCall m__law_refused (aCons (eVar 6) (aCons (eList false (aCons (eVar 5) (aCons (eVar 3) (aCons (op1 negD (eC (.int 1))) aNil)))) (aCons (eC (.str [119, 105, 115, 104])) (aCons (eVar 3) aNil)))))) (sRet (eC (.bl false))) sNx)) (sIf (eNot (eCall m__law_refused (aCons (eC (.int 2)) (aCons (eList false (aCons (eVar 5) (aCons (eList false (aCons (eC (.str [97])) aNil)) (aCons (eVar 3) aNil)))) (aCons (eC (.str [119, 105, 115, 104])) (aCons (eVar 3) aNil)))))) (sRet (eC (.bl false))) sNx)) sNx) (sSeq (sAsg 7 (op2 ixD (eList false (aCons (op1 negD (eC (.int 1))) (aCons (eC (.int 201)) (aCons (eC (.bl true)) (aCons (eC .non) (aCons (eC (.str [51])) (aCons (eList true (aCons (eC (.int 3)) aNil)) (aCons (op2 powD (eC (.int 10)) (eC (.int 29))) aNil)))))))) (eCall m__law_take (aCons (eVar 2) (aCons (eC (.int 7)) aNil))))) (sSeq (sIf (eNot (eCall m__law_refused (aCons (eC (.int 0)) (aCons (eList false (aCons (eVar 5) (aCons (eC (.str [97])) (aCons (eVar 7) aNil)))) (aCons (eC (.str [110, 117, 109, 98, 101, 114])) (aCons (eVar 7) aNil)))))) (sRet (eC (.bl false))) sNx) (sSeq (sIf (eAnd (eNot (eCall m__law_is_name (aCons (eVar 4) (aCons (eC (.int 200)) aNil)))) (eNot (eCall m__law_refused (aCons (eC (.int 1)) (aCons (eList false (aCons (eVar 5) (aCons (eC (.str [97])) (aCons (eVar 4) aNil)))) (aCons (eC (.str [110, 97, 109, 101])) (aCons (eVar 4) aNil))))))) (sRet (eC (.bl false))) sNx) (sSeq (sAsg 8 (eLc true [9] (tgN 9) (wR1 (eC (.int 101))) (eC (.bl true)) (op2 (addD false) (eC (.str [97])) (op2 (mulD false) (eC (.str [98])) (eVar 9))))) (sSeq (sAsg 10 (op2 ixD (eList false (aCons (eVar 8) (aCons (eDict true (aCons (eC (.str [97])) (aCons (eC (.int 1)) aNil))) (aCons (eC (.str [97, 98])) (aCons (eC .non) (aCons (eC (.int 7)) (aCons (eC (.bl true)) aNil))))))) (eCall m__law_take (aCons (eVar 2) (aCons (eC (.int 6)) aNil))))) (sSeq (sIf (eNot (eCall m__law_refused (aCons (eC (.int 2)) (aCons (eList false (aCons (eVar 5) (aCons (eVar 10) (aCons (eVar 3) aNil)))) (aCons (eC (.str [110, 97, 109, 101, 115])) (aCons (eVar 10) aNil)))))) (sRet (eC (.bl false))) sNx) (sSeq (sAsg 11 (eCall m__law_spoilt (aCons (eVar 2) (aCons (eVar 3) aNil)))) (sSeq (sIf (eNot (eCall m__law_refused (aCons (eC (.int 2)) (aCons (eList false (aCons (eVar 5) (aCons (op2 ixD (eVar 11) (eC (.int 0))) (aCons (eVar 3) aNil)))) (aCons (op2 ixD (eVar 11) (eC (.int 1))) (aCons (op2 ixD (eVar 11) (eC (.int 2))) aNil)))))) (sRet (eC (.bl false))) sNx) (sIf (eOr (op2 neD (op2 ixD (eCall m__law_asked (aCons (eC (.int 2)) (aCons (eVar 5) (aCons (eLc false [9] (tgN 9) (wR1 (eC (.int 100))) (eC (.bl true)) (op2 (addD false) (eC (.str [97])) (op2 (mulD false) (eC (.str [98])) (eVar 9)))) (aCons (eC (.str [97])) aNil))))) (eC (.int 0))) (eC (.str [110, 111, 110, 101]))) (op2 neD (op2 ixD (eCall m__law_asked (aCons (eC (.int 0)) (aCons (eVar 5) (aCons (eC (.str [97])) (aCons (eC (.int 200)) aNil))))) (eC (.int 0))) (eC (.str [110, 111, 110, 101])))) (sRet (eC (.bl false))) sNx))))))))))))))) (sRet (eC (.bl true))))
noncomputable def m_law : MF := mDef 12 mb_law
theorem ok_law {f : Addr} {fd : FuncData} (F : Fun K "law" "law" st_law f fd) (T : Tx K mg) (hN : ∃ mm, base.Ns sysModules mm) (o__law_box : OwnG P w K mg base 1 "_law_box" 1 m__law_box) (o__law_cell : OwnG P w K mg base 1 "_law_cell" 2 m__law_cell) (o__law_odd : OwnG P w K mg base 2 "_law_odd" 1 m__law_odd) (o__law_mark : OwnG P w K mg base 3 "_law_mark" 1 m__law_mark) (o__law_take : OwnG P w K mg base 1 "_law_take" 2 m__law_take) (o__law_refused : OwnG P w K mg base 13 "_law_refused" 4 m__law_refused) (o__law_is_name : OwnG P w K mg base 1 "_law_is_name" 2 m__law_is_name) (o__law_spoilt : OwnG P w K mg base 3 "_law_spoilt" 2 m__law_spoilt) (o__law_asked : OwnG P w K mg base 12 "_law_asked" 4 m__law_asked) (i_Rule : OwnI P w K mg base 7 "Rule" 2 m_Rule___init__) : FnG P w K mg base 14 f fd ["script"] (spM ⟨P, w, K, mg⟩ m_law 1) := by
  refine fnMG F sc_law mb_law fun cdv A outer s H E hG hr => ?_
  exact (sms_cons (sm_for rfl (passes_of rfl) (wk_range1 rfl T.b_range (xp_bi (call_max2 rfl) cb_max rfl T.b_max bo_max (xa_cons xp_int (xa_cons (xp_bi (call_min2 rfl) cb_min rfl T.b_min bo_min (xa_cons xp_int (xa_cons (xp_bi call_len cb_len rfl T.b_len bo_len (xa_cons (xp_var (i := 0) rfl (.inl rfl)) xa_nil)) xa_nil))) xa_nil)))) (tgt_name (i := 1) (own := [1]) sc_law.nd rfl (.inl rfl)) (sms_cons (sm_set (i := 2) sc_law.nd rfl (.inl rfl) (xp_ownG o__law_box hG (hr.mono (by decide)) (takes_of rfl rfl rfl rfl) (xa_cons (xp_ownG o__law_cell hG (hr.mono (by decide)) (takes_of rfl rfl rfl rfl) (xa_cons (xp_var (i := 0) rfl (.inl rfl)) (xa_cons (xp_var (i := 1) rfl (.inl rfl)) xa_nil)) rfl (len_cons (len_cons len_nil))) xa_nil) rfl (len_cons len_nil)))
    (sms_cons (sm_par2 rfl sc_law.nd rfl rfl rfl rfl (xa_cons (xp_ownG o__law_odd hG (hr.mono (by decide)) (takes_of rfl rfl rfl rfl) (xa_cons (xp_var (i := 2) rfl (.inl rfl)) xa_nil) rfl (len_cons len_nil)) (xa_cons (xp_ownG o__law_odd hG (hr.mono (by decide)) (takes_of rfl rfl rfl rfl) (xa_cons (xp_var (i := 2) rfl (.inl rfl)) xa_nil) rfl (len_cons len_nil)) xa_nil)))
    (sms_cons (sm_set (i := 5) sc_law.nd rfl (.inl rfl) (xp_make i_Rule hG (hr.mono (by decide)) (takes_of rfl rfl rfl rfl) (xa_cons (xp_ownG o__law_mark hG (hr.mono (by decide)) (takes_of rfl rfl rfl rfl) (xa_cons (xp_var (i := 2) rfl (.inl rfl)) xa_nil) rfl (len_cons len_nil)) (xa_cons (xp_ix (xp_list false (xa_cons (xp_str (l := [110, 101, 115, 116]) (by decide +kernel)) (xa_cons (xp_str (l := [99, 108, 105, 109, 98]) (by decide +kernel)) xa_nil))) (xp_ownG o__law_take hG (hr.mono (by decide)) (takes_of rfl rfl rfl rfl) (xa_cons (xp_var (i := 2) rfl (.inl rfl)) (xa_cons xp_int xa_nil)) rfl (len_cons (len_cons len_nil))) (fun _ _ => rfl)) xa_nil)) rfl (len_cons (len_cons len_nil))))
    (sms_cons (sm_for rfl (passes_of rfl) (wk_range1 rfl T.b_range xp_int) (tgt_name (i := 6) (own := [6]) sc_law.nd rfl (.inl rfl)) (sms_one (sm_if (xt_not (xt_val (xp_ownG o__law_refused hG (hr.mono (by decide)) (takes_of rfl rfl rfl rfl) (xa_cons (xp_var (i := 6) rfl (.inl rfl)) (xa_cons (xp_list false (xa_cons (xp_var (i := 3) rfl (.inl rfl)) (xa_cons (xp_var (i := 4) rfl (.inl rfl)) (xa_cons (xp_var (i := 4) rfl (.inl rfl)) xa_nil)))) (xa_cons (xp_str (l := [114, 117, 108, 101]) (by decide +kernel)) (xa_cons (xp_var (i := 3) rfl (.inl rfl)) xa_nil)))) rfl (len_cons (len_cons (len_cons (len_cons len_nil))))))) (sms_one (sm_ret xp_bl)) sms_nil)))
    (sms_cons (sm_if (xt_not (xt_val (xp_ownG o__law_is_name hG (hr.mono (by decide)) (takes_of rfl rfl rfl rfl) (xa_cons (xp_var (i := 3) rfl (.inl rfl)) (xa_cons xp_int xa_nil)) rfl (len_cons (len_cons len_nil))))) (sms_cons (sm_for rfl (passes_of rfl) (wk_range1 rfl T.b_range xp_int) (tgt_name (i := 6) (own := [6]) sc_law.nd rfl (.inl rfl)) (sms_one (sm_if (xt_not (xt_val (xp_ownG o__law_refused hG (hr.mono (by decide)) (takes_of rfl rfl rfl rfl) (xa_cons (xp_var (i := 6) rfl (.inl rfl)) (xa_cons (xp_list false (xa_cons (xp_var (i := 5) rfl (.inl rfl)) (xa_cons (xp_var (i := 3) rfl (.inl rfl)) (xa_cons (xp_neg xp_int) xa_nil)))) (xa_cons (xp_str (l := [119, 105, 115, 104]) (by decide +kernel)) (xa_cons (xp_var (i := 3) rfl (.inl rfl)) xa_nil)))) rfl (len_cons (len_cons (len_cons (len_cons len_nil))))))) (sms_one (sm_ret xp_bl)) sms_nil)))
    (sms_one (sm_if (xt_not (xt_val (xp_ownG o__law_refused hG (hr.mono (by decide)) (takes_of rfl rfl rfl rfl) (xa_cons xp_int (xa_cons (xp_list false (xa_cons (xp_var (i := 5) rfl (.inl rfl)) (xa_cons (xp_list false (xa_cons (xp_str (l := [97]) (by decide +kernel)) xa_nil)) (xa_cons (xp_var (i := 3) rfl (.inl rfl)) xa_nil)))) (xa_cons (xp_str (l := [119, 105, 115, 104]) (by decide +kernel)) (xa_cons (xp_var (i := 3) rfl (.inl rfl)) xa_nil)))) rfl (len_cons (len_cons (len_cons (len_cons len_nil))))))) (sms_one (sm_ret xp_bl)) sms_nil))) sms_nil)
    (sms_cons (sm_set (i := 7) sc_law.nd rfl (.inl rfl) (xp_ix (xp_list false (xa_cons (xp_neg xp_int) (xa_cons xp_int (xa_cons xp_bl (xa_cons xp_non (xa_cons (xp_str (l := [51]) (by decide +kernel)) (xa_cons (xp_list true (xa_cons xp_int xa_nil)) (xa_cons (xp_pow xp_int xp_int) xa_nil)))))))) (xp_ownG o__law_take hG (hr.mono (by decide)) (takes_of rfl rfl rfl rfl) (xa_cons (xp_var (i := 2) rfl (.inl rfl)) (xa_cons xp_int xa_nil)) rfl (len_cons (len_cons len_nil))) (fun _ _ => rfl)))
    (sms_cons (sm_if (xt_not (xt_val (xp_ownG o__law_refused hG (hr.mono (by decide)) (takes_of rfl rfl rfl rfl) (xa_cons xp_int (xa_cons (xp_list false (xa_cons (xp_var (i := 5) rfl (.inl rfl)) (xa_cons (xp_str (l := [97]) (by decide +kernel)) (xa_cons (xp_var (i := 7) rfl (.inl rfl)) xa_nil)))) (xa_cons (xp_str (l := [110, 117, 109, 98, 101, 114]) (by decide +kernel)) (xa_cons (xp_var (i := 7) rfl (.inl rfl)) xa_nil)))) rfl (len_cons (len_cons (len_cons (len_cons len_nil))))))) (sms_one (sm_ret xp_bl)) sms_nil)
    (sms_cons (sm_if (Xw.t (xw_and (xt_not (xt_val (xp_ownG o__law_is_name hG (hr.mono (by decide)) (takes_of rfl rfl rfl rfl) (xa_cons (xp_var (i := 4) rfl (.inl rfl)) (xa_cons xp_int xa_nil)) rfl (len_cons (len_cons len_nil))))) (xw_and1 (xt_not (xt_val (xp_ownG o__law_refused hG (hr.mono (by decide)) (takes_of rfl rfl rfl rfl) (xa_cons xp_int (xa_cons (xp_list false (xa_cons (xp_var (i := 5) rfl (.inl rfl)) (xa_cons (xp_str (l := [97]) (by decide +kernel)) (xa_cons (xp_var (i := 4) rfl (.inl rfl)) xa_nil)))) (xa_cons (xp_str (l := [110, 97, 109, 101]) (by decide +kernel)) (xa_cons (xp_var (i := 4) rfl (.inl rfl)) xa_nil)))) rfl (len_cons (len_cons (len_cons (len_cons len_nil)))))))))) (sms_one (sm_ret xp_bl)) sms_nil)
    (sms_cons (sm_setLc (i := 8) true rfl sc_law.nd rfl rfl rfl (wk_range1 rfl T.b_range xp_int) (own := [("at", 9)]) (blk_ok (N := ["script", "k", "box", "odd", "other", "rule", "way", "bad", "names", "at", "whole", "spoilt"]) (sc := defScope st_law) (by decide +kernel)) ⟨fun s H C cl fp => (tgt_name (i := 9) (own := [9]) sc_law.nd rfl (.inl rfl)), fun s H C cl fp => xts_nil, fun s H C cl fp => (xp_add false (xp_str (l := [97]) (by decide +kernel)) (xp_mul false (xp_str (l := [98]) (by decide +kernel)) (xp_var (i := 9) rfl (.inl rfl))))⟩)
    (sms_cons (sm_set (i := 10) sc_law.nd rfl (.inl rfl) (xp_ix (xp_list false (xa_cons (xp_var (i := 8) rfl (.inl rfl)) (xa_cons (xp_dict true (xps_cons (xp_str (l := [97]) (by decide +kernel)) xp_int xps_nil)) (xa_cons (xp_str (l := [97, 98]) (by decide +kernel)) (xa_cons xp_non (xa_cons xp_int (xa_cons xp_bl xa_nil))))))) (xp_ownG o__law_take hG (hr.mono (by decide)) (takes_of rfl rfl rfl rfl) (xa_cons (xp_var (i := 2) rfl (.inl rfl)) (xa_cons xp_int xa_nil)) rfl (len_cons (len_cons len_nil))) (fun _ _ => rfl)))
    (sms_cons (sm_if (xt_not (xt_val (xp_ownG o__law_refused hG (hr.mono (by decide)) (takes_of rfl rfl rfl rfl) (xa_cons xp_int (xa_cons (xp_list false (xa_cons (xp_var (i := 5) rfl (.inl rfl)) (xa_cons (xp_var (i := 10) rfl (.inl rfl)) (xa_cons (xp_var (i := 3) rfl (.inl rfl)) xa_nil)))) (xa_cons (xp_str (l := [110, 97, 109, 101, 115]) (by decide +kernel)) (xa_cons (xp_var (i := 10) rfl (.inl rfl)) xa_nil)))) rfl (len_cons (len_cons (len_cons (len_cons len_nil))))))) (sms_one (sm_ret xp_bl)) sms_nil)
    (sms_cons (sm_set (i := 11) sc_law.nd rfl (.inl rfl) (xp_ownG o__law_spoilt hG (hr.mono (by decide)) (takes_of rfl rfl rfl rfl) (xa_cons (xp_var (i := 2) rfl (.inl rfl)) (xa_cons (xp_var (i := 3) rfl (.inl rfl)) xa_nil)) rfl (len_cons (len_cons len_nil))))
    (sms_cons (sm_if (xt_not (xt_val (xp_ownG o__law_refused hG (hr.mono (by decide)) (takes_of rfl rfl rfl rfl) (xa_cons xp_int (xa_cons (xp_list false (xa_cons (xp_var (i := 5) rfl (.inl rfl)) (xa_cons (xp_ix (xp_var (i := 11) rfl (.inl rfl)) xp_int (fun _ _ => rfl)) (xa_cons (xp_var (i := 3) rfl (.inl rfl)) xa_nil)))) (xa_cons (xp_ix (xp_var (i := 11) rfl (.inl rfl)) xp_int (fun _ _ => rfl)) (xa_cons (xp_ix (xp_var (i := 11) rfl (.inl rfl)) xp_int (fun _ _ => rfl)) xa_nil)))) rfl (len_cons (len_cons (len_cons (len_cons len_nil))))))) (sms_one (sm_ret xp_bl)) sms_nil)
    (sms_one (sm_if (Xw.t (xw_or (xt_ne hr.units (xp_ix (xp_ownG o__law_asked hG (hr.mono (by decide)) (takes_of rfl rfl rfl rfl) (xa_cons xp_int (xa_cons (xp_var (i := 5) rfl (.inl rfl)) (xa_cons (xp_lc false rfl sc_law.nd (wk_range1 rfl T.b_range xp_int) (own := [("at", 9)]) (blk_ok (N := ["script", "k", "box", "odd", "other", "rule", "way", "bad", "names", "at", "whole", "spoilt"]) (sc := defScope st_law) (by decide +kernel)) ⟨fun s H C cl fp => (tgt_name (i := 9) (own := [9]) sc_law.nd rfl (.inl rfl)), fun s H C cl fp => xts_nil, fun s H C cl fp => (xp_add false (xp_str (l := [97]) (by decide +kernel)) (xp_mul false (xp_str (l := [98]) (by decide +kernel)) (xp_var (i := 9) rfl (.inl rfl))))⟩) (xa_cons (xp_str (l := [97]) (by decide +kernel)) xa_nil)))) rfl (len_cons (len_cons (len_cons (len_cons len_nil))))) xp_int (fun _ _ => rfl)) (xp_str (l := [110, 111, 110, 101]) (by decide +kernel))) (xw_or1 (xt_ne hr.units (xp_ix (xp_ownG o__law_asked hG (hr.mono (by decide)) (takes_of rfl rfl rfl rfl) (xa_cons xp_int (xa_cons (xp_var (i := 5) rfl (.inl rfl)) (xa_cons (xp_str (l := [97]) (by decide +kernel)) (xa_cons xp_int xa_nil)))) rfl (len_cons (len_cons (len_cons (len_cons len_nil))))) xp_int (fun _ _ => rfl)) (xp_str (l := [110, 111, 110, 101]) (by decide +kernel)))))) (sms_one (sm_ret xp_bl)) sms_nil))))))))))))))))
    (sms_one (sm_ret xp_bl)))
set_option maxHeartbeats 0 in
theorem all_mk {l : PySem.W.OpenLaw} {w : World} {K : PySem.W.Frag} {h : Heap} {mg : Str → Option Value} {fa f1 f2 f3 f4 f5 f6 f7 f8 f9 f10 f11 f12 f13 f14 f15 f16 f17 f18 f19 f20 f21 f22 f23 f24 f25 f26 f27 f28 f29 f30 f31 f32 f33 f34 f35 f36 f37 f38 f39 f40 f41 f42 f43 f44 f45 : Addr} (X : K.In h) (G : h.Ns mainGlobals mg) (hfa : mg "law" = some (.ref fa))
    {od1 an1 od2 an2 od3 an3 od4 an4 od5 an5 od6 an6 od7 an7 od8 an8 od9 an9 od10 an10 od11 an11 od12 an12 od13 an13 od14 an14 od15 an15 od16 an16 od17 an17 od18 an18 od19 an19 od20 an20 od21 an21 od22 an22 od23 an23 od24 an24 od25 an25 od26 an26 od27 an27 od28 an28 od29 an29 od30 an30 od31 an31 od32 an32 od33 an33 od34 an34 od35 an35 od36 an36 od37 an37 od38 an38 od39 an39 od40 an40 od41 an41 od42 an42 od43 an43 od44 an44 od45 an45 : Option Addr} {sl1 sl2 sl3 sl4 sl5 sl6 sl7 sl8 sl9 sl10 sl11 sl12 sl13 sl14 sl15 sl16 sl17 sl18 sl19 sl20 sl21 sl22 sl23 sl24 sl25 sl26 sl27 sl28 sl29 sl30 sl31 sl32 sl33 sl34 sl35 sl36 sl37 sl38 sl39 sl40 sl41 sl42 sl43 sl44 sl45 : Array (Option Value)} {oc1 kV1 dc1 pm1 cd1 ct1 oc2 kV2 dc2 pm2 cd2 ct2 oc3 kV3 dc3 pm3 cd3 ct3 oc4 kV4 dc4 pm4 cd4 ct4 oc5 kV5 dc5 pm5 cd5 ct5 oc6 kV6 dc6 pm6 cd6 ct6 oc7 kV7 dc7 pm7 cd7 ct7 oc8 kV8 dc8 pm8 cd8 ct8 oc9 kV9 dc9 pm9 cd9 ct9 oc10 kV10 dc10 pm10 cd10 ct10 oc11 kV11 dc11 pm11 cd11 ct11 oc12 kV12 dc12 pm12 cd12 ct12 oc13 kV13 dc13 pm13 cd13 ct13 oc14 kV14 dc14 pm14 cd14 ct14 oc15 kV15 dc15 pm15 cd15 ct15 oc16 kV16 dc16 pm16 cd16 ct16 oc17 kV17 dc17 pm17 cd17 ct17 oc18 kV18 dc18 pm18 cd18 ct18 oc19 kV19 dc19 pm19 cd19 ct19 oc20 kV20 dc20 pm20 cd20 ct20 oc21 kV21 dc21 pm21 cd21 ct21 oc22 kV22 dc22 pm22 cd22 ct22 oc23 kV23 dc23 pm23 cd23 ct23 oc24 kV24 dc24 pm24 cd24 ct24 oc25 kV25 dc25 pm25 cd25 ct25 oc26 kV26 dc26 pm26 cd26 ct26 oc27 kV27 dc27 pm27 cd27 ct27 oc28 kV28 dc28 pm28 cd28 ct28 oc29 kV29 dc29 pm29 cd29 ct29 oc30 kV30 dc30 pm30 cd30 ct30 oc31 kV31 dc31 pm31 cd31 ct31 oc32 kV32 dc32 pm32 cd32 ct32 oc33 kV33 dc33 pm33 cd33 ct33 oc34 kV34 dc34 pm34 cd34 ct34 oc35 kV35 dc35 pm35 cd35 ct35 oc36 kV36 dc36 pm36 cd36 ct36 oc37 kV37 dc37 pm37 cd37 ct37 oc38 kV38 dc38 pm38 cd38 ct38 oc39 kV39 dc39 pm39 cd39 ct39 oc40 kV40 dc40 pm40 cd40 ct40 oc41 kV41 dc41 pm41 cd41 ct41 oc42 kV42 dc42 pm42 cd42 ct42 oc43 kV43 dc43 pm43 cd43 ct43 oc44 kV44 dc44 pm44 cd44 ct44 oc45 kV45 dc45 pm45 cd45 ct45 : Value} {t_CLIMB t_FIGURES t_GREATEST t_GREATEST_WISH t_HASH t_LONGEST_MARK t_LONGEST_NAME t_LONGEST_WISH t_MOST_FIGURES t_MOST_NAMES t_MOST_TAKEN t_NEST t_SIGNS t_STAR : Tok} {C_BadMark : Addr} {cd_BadMark : ClassData} {C_BadName : Addr} {cd_BadName : ClassData} {C_BadNames : Addr} {cd_BadNames : ClassData} {C_BadNumber : Addr} {cd_BadNumber : ClassData} {C_BadRule : Addr} {cd_BadRule : ClassData} {C_BadWay : Addr} {cd_BadWay : ClassData} {C_BadWish : Addr} {cd_BadWish : ClassData} {C_Blurred : Addr} {cd_Blurred : ClassData} {C_Doubled : Addr} {cd_Doubled : ClassData} {C_TailError : Addr} {cd_TailError : ClassData} {C_Rule : Addr} {cd_Rule : ClassData} {nm_BadMark q_BadMark : Str} {N_BadMark fI_BadMark : Addr} {bs_BadMark bm_BadMark sub_BadMark : List Value} {sn_BadMark : List Str} {ab_BadMark : Bool} {col_BadMark : Option Bool} {dd_BadMark od_BadMark an_BadMark : Option Addr} {k0_BadMark k1_BadMark k2_BadMark k3_BadMark k5_BadMark : Option Value} {sl_BadMark : Array (Option Value)} {oc_BadMark kV_BadMark dc_BadMark pm_BadMark cdv_BadMark ct_BadMark : Value} {nm_BadName q_BadName : Str} {N_BadName fI_BadName : Addr} {bs_BadName bm_BadName sub_BadName : List Value} {sn_BadName : List Str} {ab_BadName : Bool} {col_BadName : Option Bool} {dd_BadName od_BadName an_BadName : Option Addr} {k0_BadName k1_BadName k2_BadName k3_BadName k5_BadName : Option Value} {sl_BadName : Array (Option Value)} {oc_BadName kV_BadName dc_BadName pm_BadName cdv_BadName ct_BadName : Value} {nm_BadNames q_BadNames : Str} {N_BadNames fI_BadNames : Addr} {bs_BadNames bm_BadNames sub_BadNames : List Value} {sn_BadNames : List Str} {ab_BadNames : Bool} {col_BadNames : Option Bool} {dd_BadNames od_BadNames an_BadNames : Option Addr} {k0_BadNames k1_BadNames k2_BadNames k3_BadNames k5_BadNames : Option Value} {sl_BadNames : Array (Option Value)} {oc_BadNames kV_BadNames dc_BadNames pm_BadNames cdv_BadNames ct_BadNames : Value} {nm_BadNumber q_BadNumber : Str} {N_BadNumber fI_BadNumber : Addr} {bs_BadNumber bm_BadNumber sub_BadNumber : List Value} {sn_BadNumber : List Str} {ab_BadNumber : Bool} {col_BadNumber : Option Bool} {dd_BadNumber od_BadNumber an_BadNumber : Option Addr} {k0_BadNumber k1_BadNumber k2_BadNumber k3_BadNumber k5_BadNumber : Option Value} {sl_BadNumber : Array (Option Value)} {oc_BadNumber kV_BadNumber dc_BadNumber pm_BadNumber cdv_BadNumber ct_BadNumber : Value} {nm_BadRule q_BadRule : Str} {N_BadRule fI_BadRule : Addr} {bs_BadRule bm_BadRule sub_BadRule : List Value} {sn_BadRule : List Str} {ab_BadRule : Bool} {col_BadRule : Option Bool} {dd_BadRule od_BadRule an_BadRule : Option Addr} {k0_BadRule k1_BadRule k2_BadRule k3_BadRule k5_BadRule : Option Value} {sl_BadRule : Array (Option Value)} {oc_BadRule kV_BadRule dc_BadRule pm_BadRule cdv_BadRule ct_BadRule : Value} {nm_BadWay q_BadWay : Str} {N_BadWay fI_BadWay : Addr} {bs_BadWay bm_BadWay sub_BadWay : List Value} {sn_BadWay : List Str} {ab_BadWay : Bool} {col_BadWay : Option Bool} {dd_BadWay od_BadWay an_BadWay : Option Addr} {k0_BadWay k1_BadWay k2_BadWay k3_BadWay k5_BadWay : Option Value} {sl_BadWay : Array (Option Value)} {oc_BadWay kV_BadWay dc_BadWay pm_BadWay cdv_BadWay ct_BadWay : Value} {nm_BadWish q_BadWish : Str} {N_BadWish fI_BadWish : Addr} {bs_BadWish bm_BadWish sub_BadWish : List Value} {sn_BadWish : List Str} {ab_BadWish : Bool} {col_BadWish : Option Bool} {dd_BadWish od_BadWish an_BadWish : Option Addr} {k0_BadWish k1_BadWish k2_BadWish k3_BadWish k5_BadWish : Option Value} {sl_BadWish : Array (Option Value)} {oc_BadWish kV_BadWish dc_BadWish pm_BadWish cdv_BadWish ct_BadWish : Value} {nm_Blurred q_Blurred : Str} {N_Blurred fI_Blurred : Addr} {bs_Blurred bm_Blurred sub_Blurred : List Value} {sn_Blurred : List Str} {ab_Blurred : Bool} {col_Blurred : Option Bool} {dd_Blurred od_Blurred an_Blurred : Option Addr} {k0_Blurred k1_Blurred k2_Blurred k3_Blurred k5_Blurred : Option Value} {sl_Blurred : Array (Option Value)} {oc_Blurred kV_Blurred dc_Blurred pm_Blurred cdv_Blurred ct_Blurred : Value} {nm_Doubled q_Doubled : Str} {N_Doubled fI_Doubled : Addr} {bs_Doubled bm_Doubled sub_Doubled : List Value} {sn_Doubled : List Str} {ab_Doubled : Bool} {col_Doubled : Option Bool} {dd_Doubled od_Doubled an_Doubled : Option Addr} {k0_Doubled k1_Doubled k2_Doubled k3_Doubled k5_Doubled : Option Value} {sl_Doubled : Array (Option Value)} {oc_Doubled kV_Doubled dc_Doubled pm_Doubled cdv_Doubled ct_Doubled : Value}
    (a1 : PySem.W.nsIn K mainGlobals "_law_box" = some (some (.ref f1))) (l1 : K.lookup f1 = some ⟨oc1, od1, .func (PySem.W.fnOf "_law_box" "_law_box" (defArgs st__law_box) (defBody st__law_box) (defScope st__law_box) .none kV1 dc1 pm1 an1 cd1 ct1), sl1⟩) (c1 : PySem.W.codeIn K cd1 "_law_box" = true) (k1 : PySem.W.keepIn K (.ref f1) = true)
    (a2 : PySem.W.nsIn K mainGlobals "is_mark" = some (some (.ref f2))) (l2 : K.lookup f2 = some ⟨oc2, od2, .func (PySem.W.fnOf "is_mark" "is_mark" (defArgs st_is_mark) (defBody st_is_mark) (defScope st_is_mark) .none kV2 dc2 pm2 an2 cd2 ct2), sl2⟩) (c2 : PySem.W.codeIn K cd2 "is_mark" = true) (k2 : PySem.W.keepIn K (.ref f2) = true)
    (a3 : PySem.W.nsIn K mainGlobals "need_mark" = some (some (.ref f3))) (l3 : K.lookup f3 = some ⟨oc3, od3, .func (PySem.W.fnOf "need_mark" "need_mark" (defArgs st_need_mark) (defBody st_need_mark) (defScope st_need_mark) .none kV3 dc3 pm3 an3 cd3 ct3), sl3⟩) (c3 : PySem.W.codeIn K cd3 "need_mark" = true) (k3 : PySem.W.keepIn K (.ref f3) = true)
    (a4 : PySem.W.nsIn K mainGlobals "parts" = some (some (.ref f4))) (l4 : K.lookup f4 = some ⟨oc4, od4, .func (PySem.W.fnOf "parts" "parts" (defArgs st_parts) (defBody st_parts) (defScope st_parts) .none kV4 dc4 pm4 an4 cd4 ct4), sl4⟩) (c4 : PySem.W.codeIn K cd4 "parts" = true) (k4 : PySem.W.keepIn K (.ref f4) = true)
    (a5 : PySem.W.nsIn K mainGlobals "is_clear" = some (some (.ref f5))) (l5 : K.lookup f5 = some ⟨oc5, od5, .func (PySem.W.fnOf "is_clear" "is_clear" (defArgs st_is_clear) (defBody st_is_clear) (defScope st_is_clear) .none kV5 dc5 pm5 an5 cd5 ct5), sl5⟩) (c5 : PySem.W.codeIn K cd5 "is_clear" = true) (k5 : PySem.W.keepIn K (.ref f5) = true)
    (a6 : PySem.W.nsIn K mainGlobals "name_first" = some (some (.ref f6))) (l6 : K.lookup f6 = some ⟨oc6, od6, .func (PySem.W.fnOf "name_first" "name_first" (defArgs st_name_first) (defBody st_name_first) (defScope st_name_first) .none kV6 dc6 pm6 an6 cd6 ct6), sl6⟩) (c6 : PySem.W.codeIn K cd6 "name_first" = true) (k6 : PySem.W.keepIn K (.ref f6) = true)
    (a7 : PySem.W.nsIn K mainGlobals "two_readings" = some (some (.ref f7))) (l7 : K.lookup f7 = some ⟨oc7, od7, .func (PySem.W.fnOf "two_readings" "two_readings" (defArgs st_two_readings) (defBody st_two_readings) (defScope st_two_readings) .none kV7 dc7 pm7 an7 cd7 ct7), sl7⟩) (c7 : PySem.W.codeIn K cd7 "two_readings" = true) (k7 : PySem.W.keepIn K (.ref f7) = true)
    (a8 : PySem.W.nsIn K mainGlobals "need_clear" = some (some (.ref f8))) (l8 : K.lookup f8 = some ⟨oc8, od8, .func (PySem.W.fnOf "need_clear" "need_clear" (defArgs st_need_clear) (defBody st_need_clear) (defScope st_need_clear) .none kV8 dc8 pm8 an8 cd8 ct8), sl8⟩) (c8 : PySem.W.codeIn K cd8 "need_clear" = true) (k8 : PySem.W.keepIn K (.ref f8) = true)
    (y9 : PySem.W.isFn K (.ref f9) = true) (a9 : PySem.W.findIn K (.ref C_Rule) "__init__" = some (some (.ref f9))) (l9 : K.lookup f9 = some ⟨oc9, od9, .func (PySem.W.fnOf "__init__" "Rule.__init__" (defArgs st_Rule___init__) (defBody st_Rule___init__) (defScope st_Rule___init__) .none kV9 dc9 pm9 an9 cd9 ct9), sl9⟩) (c9 : PySem.W.codeIn K cd9 "Rule.__init__" = true) (k9 : PySem.W.keepIn K (.ref f9) = true)
    (a10 : PySem.W.nsIn K mainGlobals "_law_take" = some (some (.ref f10))) (l10 : K.lookup f10 = some ⟨oc10, od10, .func (PySem.W.fnOf "_law_take" "_law_take" (defArgs st__law_take) (defBody st__law_take) (defScope st__law_take) .none kV10 dc10 pm10 an10 cd10 ct10), sl10⟩) (c10 : PySem.W.codeIn K cd10 "_law_take" = true) (k10 : PySem.W.keepIn K (.ref f10) = true)
    (a11 : PySem.W.nsIn K mainGlobals "_law_signs" = some (some (.ref f11))) (l11 : K.lookup f11 = some ⟨oc11, od11, .func (PySem.W.fnOf "_law_signs" "_law_signs" (defArgs st__law_signs) (defBody st__law_signs) (defScope st__law_signs) .none kV11 dc11 pm11 an11 cd11 ct11), sl11⟩) (c11 : PySem.W.codeIn K cd11 "_law_signs" = true) (k11 : PySem.W.keepIn K (.ref f11) = true)
    (a12 : PySem.W.nsIn K mainGlobals "_law_is_name" = some (some (.ref f12))) (l12 : K.lookup f12 = some ⟨oc12, od12, .func (PySem.W.fnOf "_law_is_name" "_law_is_name" (defArgs st__law_is_name) (defBody st__law_is_name) (defScope st__law_is_name) .none kV12 dc12 pm12 an12 cd12 ct12), sl12⟩) (c12 : PySem.W.codeIn K cd12 "_law_is_name" = true) (k12 : PySem.W.keepIn K (.ref f12) = true)
    (a13 : PySem.W.nsIn K mainGlobals "_law_spoilt" = some (some (.ref f13))) (l13 : K.lookup f13 = some ⟨oc13, od13, .func (PySem.W.fnOf "_law_spoilt" "_law_spoilt" (defArgs st__law_spoilt) (defBody st__law_spoilt) (defScope st__law_spoilt) .none kV13 dc13 pm13 an13 cd13 ct13), sl13⟩) (c13 : PySem.W.codeIn K cd13 "_law_spoilt" = true) (k13 : PySem.W.keepIn K (.ref f13) = true)
    (a14 : PySem.W.nsIn K mainGlobals "_law_cell" = some (some (.ref f14))) (l14 : K.lookup f14 = some ⟨oc14, od14, .func (PySem.W.fnOf "_law_cell" "_law_cell" (defArgs st__law_cell) (defBody st__law_cell) (defScope st__law_cell) .none kV14 dc14 pm14 an14 cd14 ct14), sl14⟩) (c14 : PySem.W.codeIn K cd14 "_law_cell" = true) (k14 : PySem.W.keepIn K (.ref f14) = true)
    (a15 : PySem.W.nsIn K mainGlobals "_law_odd" = some (some (.ref f15))) (l15 : K.lookup f15 = some ⟨oc15, od15, .func (PySem.W.fnOf "_law_odd" "_law_odd" (defArgs st__law_odd) (defBody st__law_odd) (defScope st__law_odd) .none kV15 dc15 pm15 an15 cd15 ct15), sl15⟩) (c15 : PySem.W.codeIn K cd15 "_law_odd" = true) (k15 : PySem.W.keepIn K (.ref f15) = true)
    (a16 : PySem.W.nsIn K mainGlobals "_law_mark" = some (some (.ref f16))) (l16 : K.lookup f16 = some ⟨oc16, od16, .func (PySem.W.fnOf "_law_mark" "_law_mark" (defArgs st__law_mark) (defBody st__law_mark) (defScope st__law_mark) .none kV16 dc16 pm16 an16 cd16 ct16), sl16⟩) (c16 : PySem.W.codeIn K cd16 "_law_mark" = true) (k16 : PySem.W.keepIn K (.ref f16) = true)
    (a17 : PySem.W.nsIn K mainGlobals "need_rule" = some (some (.ref f17))) (l17 : K.lookup f17 = some ⟨oc17, od17, .func (PySem.W.fnOf "need_rule" "need_rule" (defArgs st_need_rule) (defBody st_need_rule) (defScope st_need_rule) .none kV17 dc17 pm17 an17 cd17 ct17), sl17⟩) (c17 : PySem.W.codeIn K cd17 "need_rule" = true) (k17 : PySem.W.keepIn K (.ref f17) = true)
    (a18 : PySem.W.nsIn K mainGlobals "is_name" = some (some (.ref f18))) (l18 : K.lookup f18 = some ⟨oc18, od18, .func (PySem.W.fnOf "is_name" "is_name" (defArgs st_is_name) (defBody st_is_name) (defScope st_is_name) .none kV18 dc18 pm18 an18 cd18 ct18), sl18⟩) (c18 : PySem.W.codeIn K cd18 "is_name" = true) (k18 : PySem.W.keepIn K (.ref f18) = true)
    (a19 : PySem.W.nsIn K mainGlobals "need_name" = some (some (.ref f19))) (l19 : K.lookup f19 = some ⟨oc19, od19, .func (PySem.W.fnOf "need_name" "need_name" (defArgs st_need_name) (defBody st_need_name) (defScope st_need_name) .none kV19 dc19 pm19 an19 cd19 ct19), sl19⟩) (c19 : PySem.W.codeIn K cd19 "need_name" = true) (k19 : PySem.W.keepIn K (.ref f19) = true)
    (a20 : PySem.W.nsIn K mainGlobals "number_in" = some (some (.ref f20))) (l20 : K.lookup f20 = some ⟨oc20, od20, .func (PySem.W.fnOf "number_in" "number_in" (defArgs st_number_in) (defBody st_number_in) (defScope st_number_in) .none kV20 dc20 pm20 an20 cd20 ct20), sl20⟩) (c20 : PySem.W.codeIn K cd20 "number_in" = true) (k20 : PySem.W.keepIn K (.ref f20) = true)
    (a21 : PySem.W.nsIn K mainGlobals "both_in" = some (some (.ref f21))) (l21 : K.lookup f21 = some ⟨oc21, od21, .func (PySem.W.fnOf "both_in" "both_in" (defArgs st_both_in) (defBody st_both_in) (defScope st_both_in) .none kV21 dc21 pm21 an21 cd21 ct21), sl21⟩) (c21 : PySem.W.codeIn K cd21 "both_in" = true) (k21 : PySem.W.keepIn K (.ref f21) = true)
    (a22 : PySem.W.nsIn K mainGlobals "number_ahead" = some (some (.ref f22))) (l22 : K.lookup f22 = some ⟨oc22, od22, .func (PySem.W.fnOf "number_ahead" "number_ahead" (defArgs st_number_ahead) (defBody st_number_ahead) (defScope st_number_ahead) .none kV22 dc22 pm22 an22 cd22 ct22), sl22⟩) (c22 : PySem.W.codeIn K cd22 "number_ahead" = true) (k22 : PySem.W.keepIn K (.ref f22) = true)
    (a23 : PySem.W.nsIn K mainGlobals "number_behind" = some (some (.ref f23))) (l23 : K.lookup f23 = some ⟨oc23, od23, .func (PySem.W.fnOf "number_behind" "number_behind" (defArgs st_number_behind) (defBody st_number_behind) (defScope st_number_behind) .none kV23 dc23 pm23 an23 cd23 ct23), sl23⟩) (c23 : PySem.W.codeIn K cd23 "number_behind" = true) (k23 : PySem.W.keepIn K (.ref f23) = true)
    (a24 : PySem.W.nsIn K mainGlobals "reading" = some (some (.ref f24))) (l24 : K.lookup f24 = some ⟨oc24, od24, .func (PySem.W.fnOf "reading" "reading" (defArgs st_reading) (defBody st_reading) (defScope st_reading) .none kV24 dc24 pm24 an24 cd24 ct24), sl24⟩) (c24 : PySem.W.codeIn K cd24 "reading" = true) (k24 : PySem.W.keepIn K (.ref f24) = true)
    (y25 : PySem.W.isFn K (.ref f25) = true) (a25 : PySem.W.findIn K (.ref C_Rule) "read" = some (some (.ref f25))) (l25 : K.lookup f25 = some ⟨oc25, od25, .func (PySem.W.fnOf "read" "Rule.read" (defArgs st_Rule_read) (defBody st_Rule_read) (defScope st_Rule_read) .none kV25 dc25 pm25 an25 cd25 ct25), sl25⟩) (c25 : PySem.W.codeIn K cd25 "Rule.read" = true) (k25 : PySem.W.keepIn K (.ref f25) = true)
    (y26 : PySem.W.isFn K (.ref f26) = true) (a26 : PySem.W.findIn K (.ref C_Rule) "way" = some (some (.ref f26))) (l26 : K.lookup f26 = some ⟨oc26, od26, .func (PySem.W.fnOf "way" "Rule.way" (defArgs st_Rule_way) (defBody st_Rule_way) (defScope st_Rule_way) .none kV26 dc26 pm26 an26 cd26 ct26), sl26⟩) (c26 : PySem.W.codeIn K cd26 "Rule.way" = true) (k26 : PySem.W.keepIn K (.ref f26) = true)
    (a27 : PySem.W.nsIn K mainGlobals "is_wish" = some (some (.ref f27))) (l27 : K.lookup f27 = some ⟨oc27, od27, .func (PySem.W.fnOf "is_wish" "is_wish" (defArgs st_is_wish) (defBody st_is_wish) (defScope st_is_wish) .none kV27 dc27 pm27 an27 cd27 ct27), sl27⟩) (c27 : PySem.W.codeIn K cd27 "is_wish" = true) (k27 : PySem.W.keepIn K (.ref f27) = true)
    (a28 : PySem.W.nsIn K mainGlobals "need_wish" = some (some (.ref f28))) (l28 : K.lookup f28 = some ⟨oc28, od28, .func (PySem.W.fnOf "need_wish" "need_wish" (defArgs st_need_wish) (defBody st_need_wish) (defScope st_need_wish) .none kV28 dc28 pm28 an28 cd28 ct28), sl28⟩) (c28 : PySem.W.codeIn K cd28 "need_wish" = true) (k28 : PySem.W.keepIn K (.ref f28) = true)
    (a29 : PySem.W.nsIn K mainGlobals "is_integer" = some (some (.ref f29))) (l29 : K.lookup f29 = some ⟨oc29, od29, .func (PySem.W.fnOf "is_integer" "is_integer" (defArgs st_is_integer) (defBody st_is_integer) (defScope st_is_integer) .none kV29 dc29 pm29 an29 cd29 ct29), sl29⟩) (c29 : PySem.W.codeIn K cd29 "is_integer" = true) (k29 : PySem.W.keepIn K (.ref f29) = true)
    (a30 : PySem.W.nsIn K mainGlobals "is_number" = some (some (.ref f30))) (l30 : K.lookup f30 = some ⟨oc30, od30, .func (PySem.W.fnOf "is_number" "is_number" (defArgs st_is_number) (defBody st_is_number) (defScope st_is_number) .none kV30 dc30 pm30 an30 cd30 ct30), sl30⟩) (c30 : PySem.W.codeIn K cd30 "is_number" = true) (k30 : PySem.W.keepIn K (.ref f30) = true)
    (a31 : PySem.W.nsIn K mainGlobals "need_number" = some (some (.ref f31))) (l31 : K.lookup f31 = some ⟨oc31, od31, .func (PySem.W.fnOf "need_number" "need_number" (defArgs st_need_number) (defBody st_need_number) (defScope st_need_number) .none kV31 dc31 pm31 an31 cd31 ct31), sl31⟩) (c31 : PySem.W.codeIn K cd31 "need_number" = true) (k31 : PySem.W.keepIn K (.ref f31) = true)
    (a32 : PySem.W.nsIn K mainGlobals "written" = some (some (.ref f32))) (l32 : K.lookup f32 = some ⟨oc32, od32, .func (PySem.W.fnOf "written" "written" (defArgs st_written) (defBody st_written) (defScope st_written) .none kV32 dc32 pm32 an32 cd32 ct32), sl32⟩) (c32 : PySem.W.codeIn K cd32 "written" = true) (k32 : PySem.W.keepIn K (.ref f32) = true)
    (y33 : PySem.W.isFn K (.ref f33) = true) (a33 : PySem.W.findIn K (.ref C_Rule) "put" = some (some (.ref f33))) (l33 : K.lookup f33 = some ⟨oc33, od33, .func (PySem.W.fnOf "put" "Rule.put" (defArgs st_Rule_put) (defBody st_Rule_put) (defScope st_Rule_put) .none kV33 dc33 pm33 an33 cd33 ct33), sl33⟩) (c33 : PySem.W.codeIn K cd33 "Rule.put" = true) (k33 : PySem.W.keepIn K (.ref f33) = true)
    (a34 : PySem.W.nsIn K mainGlobals "name_at" = some (some (.ref f34))) (l34 : K.lookup f34 = some ⟨oc34, od34, .func (PySem.W.fnOf "name_at" "name_at" (defArgs st_name_at) (defBody st_name_at) (defScope st_name_at) .none kV34 dc34 pm34 an34 cd34 ct34), sl34⟩) (c34 : PySem.W.codeIn K cd34 "name_at" = true) (k34 : PySem.W.keepIn K (.ref f34) = true)
    (a35 : PySem.W.nsIn K mainGlobals "first_names" = some (some (.ref f35))) (l35 : K.lookup f35 = some ⟨oc35, od35, .func (PySem.W.fnOf "first_names" "first_names" (defArgs st_first_names) (defBody st_first_names) (defScope st_first_names) .none kV35 dc35 pm35 an35 cd35 ct35), sl35⟩) (c35 : PySem.W.codeIn K cd35 "first_names" = true) (k35 : PySem.W.keepIn K (.ref f35) = true)
    (a36 : PySem.W.nsIn K mainGlobals "place" = some (some (.ref f36))) (l36 : K.lookup f36 = some ⟨oc36, od36, .func (PySem.W.fnOf "place" "place" (defArgs st_place) (defBody st_place) (defScope st_place) .none kV36 dc36 pm36 an36 cd36 ct36), sl36⟩) (c36 : PySem.W.codeIn K cd36 "place" = true) (k36 : PySem.W.keepIn K (.ref f36) = true)
    (a37 : PySem.W.nsIn K mainGlobals "is_list" = some (some (.ref f37))) (l37 : K.lookup f37 = some ⟨oc37, od37, .func (PySem.W.fnOf "is_list" "is_list" (defArgs st_is_list) (defBody st_is_list) (defScope st_is_list) .none kV37 dc37 pm37 an37 cd37 ct37), sl37⟩) (c37 : PySem.W.codeIn K cd37 "is_list" = true) (k37 : PySem.W.keepIn K (.ref f37) = true)
    (a38 : PySem.W.nsIn K mainGlobals "need_unlike" = some (some (.ref f38))) (l38 : K.lookup f38 = some ⟨oc38, od38, .func (PySem.W.fnOf "need_unlike" "need_unlike" (defArgs st_need_unlike) (defBody st_need_unlike) (defScope st_need_unlike) .none kV38 dc38 pm38 an38 cd38 ct38), sl38⟩) (c38 : PySem.W.codeIn K cd38 "need_unlike" = true) (k38 : PySem.W.keepIn K (.ref f38) = true)
    (a39 : PySem.W.nsIn K mainGlobals "need_taken" = some (some (.ref f39))) (l39 : K.lookup f39 = some ⟨oc39, od39, .func (PySem.W.fnOf "need_taken" "need_taken" (defArgs st_need_taken) (defBody st_need_taken) (defScope st_need_taken) .none kV39 dc39 pm39 an39 cd39 ct39), sl39⟩) (c39 : PySem.W.codeIn K cd39 "need_taken" = true) (k39 : PySem.W.keepIn K (.ref f39) = true)
    (a40 : PySem.W.nsIn K mainGlobals "free_on" = some (some (.ref f40))) (l40 : K.lookup f40 = some ⟨oc40, od40, .func (PySem.W.fnOf "free_on" "free_on" (defArgs st_free_on) (defBody st_free_on) (defScope st_free_on) .none kV40 dc40 pm40 an40 cd40 ct40), sl40⟩) (c40 : PySem.W.codeIn K cd40 "free_on" = true) (k40 : PySem.W.keepIn K (.ref f40) = true)
    (a41 : PySem.W.nsIn K mainGlobals "first_free" = some (some (.ref f41))) (l41 : K.lookup f41 = some ⟨oc41, od41, .func (PySem.W.fnOf "first_free" "first_free" (defArgs st_first_free) (defBody st_first_free) (defScope st_first_free) .none kV41 dc41 pm41 an41 cd41 ct41), sl41⟩) (c41 : PySem.W.codeIn K cd41 "first_free" = true) (k41 : PySem.W.keepIn K (.ref f41) = true)
    (a42 : PySem.W.nsIn K mainGlobals "_law_asked" = some (some (.ref f42))) (l42 : K.lookup f42 = some ⟨oc42, od42, .func (PySem.W.fnOf "_law_asked" "_law_asked" (defArgs st__law_asked) (defBody st__law_asked) (defScope st__law_asked) .none kV42 dc42 pm42 an42 cd42 ct42), sl42⟩) (c42 : PySem.W.codeIn K cd42 "_law_asked" = true) (k42 : PySem.W.keepIn K (.ref f42) = true)
    (a43 : PySem.W.nsIn K mainGlobals "_law_very" = some (some (.ref f43))) (l43 : K.lookup f43 = some ⟨oc43, od43, .func (PySem.W.fnOf "_law_very" "_law_very" (defArgs st__law_very) (defBody st__law_very) (defScope st__law_very) .none kV43 dc43 pm43 an43 cd43 ct43), sl43⟩) (c43 : PySem.W.codeIn K cd43 "_law_very" = true) (k43 : PySem.W.keepIn K (.ref f43) = true)
    (a44 : PySem.W.nsIn K mainGlobals "_law_refused" = some (some (.ref f44))) (l44 : K.lookup f44 = some ⟨oc44, od44, .func (PySem.W.fnOf "_law_refused" "_law_refused" (defArgs st__law_refused) (defBody st__law_refused) (defScope st__law_refused) .none kV44 dc44 pm44 an44 cd44 ct44), sl44⟩) (c44 : PySem.W.codeIn K cd44 "_law_refused" = true) (k44 : PySem.W.keepIn K (.ref f44) = true)
    (a45 : PySem.W.nsIn K mainGlobals "law" = some (some (.ref f45))) (l45 : K.lookup f45 = some ⟨oc45, od45, .func (PySem.W.fnOf "law" "law" (defArgs st_law) (defBody st_law) (defScope st_law) .none kV45 dc45 pm45 an45 cd45 ct45), sl45⟩) (c45 : PySem.W.codeIn K cd45 "law" = true) (k45 : PySem.W.keepIn K (.ref f45) = true)
    (n_BadMark : PySem.W.nsIn K mainGlobals "BadMark" = some (some (.ref C_BadMark))) (e_BadMark : PySem.W.subIn K (.ref C_BadMark) (.type "BaseException") = some true) (t_BadMark : PySem.W.typeIn K (.ref C_BadMark) = some (.type "type")) (d_BadMark : PySem.W.clsIn K C_BadMark = some cd_BadMark)
    (n_BadName : PySem.W.nsIn K mainGlobals "BadName" = some (some (.ref C_BadName))) (e_BadName : PySem.W.subIn K (.ref C_BadName) (.type "BaseException") = some true) (t_BadName : PySem.W.typeIn K (.ref C_BadName) = some (.type "type")) (d_BadName : PySem.W.clsIn K C_BadName = some cd_BadName)
    (n_BadNames : PySem.W.nsIn K mainGlobals "BadNames" = some (some (.ref C_BadNames))) (e_BadNames : PySem.W.subIn K (.ref C_BadNames) (.type "BaseException") = some true) (t_BadNames : PySem.W.typeIn K (.ref C_BadNames) = some (.type "type")) (d_BadNames : PySem.W.clsIn K C_BadNames = some cd_BadNames)
    (n_BadNumber : PySem.W.nsIn K mainGlobals "BadNumber" = some (some (.ref C_BadNumber))) (e_BadNumber : PySem.W.subIn K (.ref C_BadNumber) (.type "BaseException") = some true) (t_BadNumber : PySem.W.typeIn K (.ref C_BadNumber) = some (.type "type")) (d_BadNumber : PySem.W.clsIn K C_BadNumber = some cd_BadNumber)
    (n_BadRule : PySem.W.nsIn K mainGlobals "BadRule" = some (some (.ref C_BadRule))) (e_BadRule : PySem.W.subIn K (.ref C_BadRule) (.type "BaseException") = some true) (t_BadRule : PySem.W.typeIn K (.ref C_BadRule) = some (.type "type")) (d_BadRule : PySem.W.clsIn K C_BadRule = some cd_BadRule)
    (n_BadWay : PySem.W.nsIn K mainGlobals "BadWay" = some (some (.ref C_BadWay))) (e_BadWay : PySem.W.subIn K (.ref C_BadWay) (.type "BaseException") = some true) (t_BadWay : PySem.W.typeIn K (.ref C_BadWay) = some (.type "type")) (d_BadWay : PySem.W.clsIn K C_BadWay = some cd_BadWay)
    (n_BadWish : PySem.W.nsIn K mainGlobals "BadWish" = some (some (.ref C_BadWish))) (e_BadWish : PySem.W.subIn K (.ref C_BadWish) (.type "BaseException") = some true) (t_BadWish : PySem.W.typeIn K (.ref C_BadWish) = some (.type "type")) (d_BadWish : PySem.W.clsIn K C_BadWish = some cd_BadWish)
    (n_Blurred : PySem.W.nsIn K mainGlobals "Blurred" = some (some (.ref C_Blurred))) (e_Blurred : PySem.W.subIn K (.ref C_Blurred) (.type "BaseException") = some true) (t_Blurred : PySem.W.typeIn K (.ref C_Blurred) = some (.type "type")) (d_Blurred : PySem.W.clsIn K C_Blurred = some cd_Blurred)
    (n_Doubled : PySem.W.nsIn K mainGlobals "Doubled" = some (some (.ref C_Doubled))) (e_Doubled : PySem.W.subIn K (.ref C_Doubled) (.type "BaseException") = some true) (t_Doubled : PySem.W.typeIn K (.ref C_Doubled) = some (.type "type")) (d_Doubled : PySem.W.clsIn K C_Doubled = some cd_Doubled)
    (n_TailError : PySem.W.nsIn K mainGlobals "TailError" = some (some (.ref C_TailError))) (e_TailError : PySem.W.subIn K (.ref C_TailError) (.type "BaseException") = some true) (t_TailError : PySem.W.typeIn K (.ref C_TailError) = some (.type "type")) (d_TailError : PySem.W.clsIn K C_TailError = some cd_TailError)
    (n_Rule : PySem.W.nsIn K mainGlobals "Rule" = some (some (.ref C_Rule))) (t_Rule : PySem.W.typeIn K (.ref C_Rule) = some (.type "type")) (d_Rule : PySem.W.clsIn K C_Rule = some cd_Rule)
    (pg_Rule : PySem.W.plainGet K C_Rule Str.empty = true) (hd_Rule : PySem.W.hasDictIn K C_Rule = true) (po_Rule : PySem.W.plainOver K C_Rule = true) (sa_Rule : PySem.W.findIn K (.ref C_Rule) "__setattr__" = some (some (.builtin "object.__setattr__")))
    (mk_Rule : PySem.W.makesIn K C_Rule = true) (kp_Rule : PySem.W.keepIn K (.ref C_Rule) = true)
    (fl_Rule_rule_mark : PySem.W.findIn K (.ref C_Rule) "rule_mark" = some none)
    (fl_Rule_rule_way : PySem.W.findIn K (.ref C_Rule) "rule_way" = some none)
    (ha_Rule : PySem.W.findIn K (.ref C_Rule) "__class__" = some (some (.builtin "object.__class__"))) (hn_Rule : PySem.W.specialIn K (.builtin "object.__class__") "__get__" = some (some (.builtin "getset_descriptor.__get__"))) (ht_Rule : PySem.W.takesIn K (.builtin "object.__class__") = some true) (hm_Rule : PySem.W.mroIn K C_Rule (.type "object") = some true)
    (s_Rule_NoneType : PySem.W.subIn K (.type "NoneType") (.ref C_Rule) = some false) (s_Rule_bool : PySem.W.subIn K (.type "bool") (.ref C_Rule) = some false) (s_Rule_int : PySem.W.subIn K (.type "int") (.ref C_Rule) = some false) (s_Rule_str : PySem.W.subIn K (.type "str") (.ref C_Rule) = some false) (s_Rule_list : PySem.W.subIn K (.type "list") (.ref C_Rule) = some false) (s_Rule_tuple : PySem.W.subIn K (.type "tuple") (.ref C_Rule) = some false) (s_Rule_dict : PySem.W.subIn K (.type "dict") (.ref C_Rule) = some false)
    (bg_TailError : PySem.W.specialIn K (.ref C_TailError) "__getattribute__" = some (some (.builtin "type.__getattribute__"))) (br_TailError : PySem.W.readsIn K C_TailError (.type "type") = true) (bi_TailError : PySem.W.findCls K (.ref C_TailError) (.type "type") "__init__" = some (.val (.builtin "ValueError.__init__")))
    (l_BadMark : K.lookup C_BadMark = some (excClassObj nm_BadMark q_BadMark C_BadMark N_BadMark bs_BadMark bm_BadMark true sn_BadMark sub_BadMark ab_BadMark col_BadMark dd_BadMark k0_BadMark k1_BadMark k2_BadMark k3_BadMark k5_BadMark "ValueError.__new__")) (v_BadMark : PySem.HandSPX.refsVE bm_BadMark = true) (s_BadMark : PySem.W.findIn K (.ref C_BadMark) "__setattr__" = some (some (.builtin "object.__setattr__"))) (k_BadMark : PySem.W.keepIn K (.ref C_BadMark) = true)
    (i_BadMark : PySem.W.findIn K (.ref C_BadMark) "__init__" = some (some (.ref fI_BadMark))) (j_BadMark : PySem.W.typeIn K (.ref fI_BadMark) = some (.type "function")) (il_BadMark : K.lookup fI_BadMark = some ⟨oc_BadMark, od_BadMark, .func (PySem.W.fnOf "__init__" "BadMark.__init__" (defArgs si_BadMark) (defBody si_BadMark) (defScope si_BadMark) .none kV_BadMark dc_BadMark pm_BadMark an_BadMark cdv_BadMark ct_BadMark), sl_BadMark⟩) (ic_BadMark : PySem.W.codeIn K cdv_BadMark "BadMark.__init__" = true) (ik_BadMark : PySem.W.keepIn K (.ref fI_BadMark) = true)
    (xg_BadMark : PySem.W.findIn K (.ref C_BadMark) "__getattribute__" = some (some (.builtin "BaseException.__getattribute__"))) (xn_BadMark : PySem.W.findIn K (.ref C_BadMark) "__getattr__" = some none) (xh_BadMark : PySem.W.hasDictIn K C_BadMark = true) (f0_BadMark : PySem.W.findIn K (.ref C_BadMark) "found" = some none)
    (l_BadName : K.lookup C_BadName = some (excClassObj nm_BadName q_BadName C_BadName N_BadName bs_BadName bm_BadName true sn_BadName sub_BadName ab_BadName col_BadName dd_BadName k0_BadName k1_BadName k2_BadName k3_BadName k5_BadName "ValueError.__new__")) (v_BadName : PySem.HandSPX.refsVE bm_BadName = true) (s_BadName : PySem.W.findIn K (.ref C_BadName) "__setattr__" = some (some (.builtin "object.__setattr__"))) (k_BadName : PySem.W.keepIn K (.ref C_BadName) = true)
    (i_BadName : PySem.W.findIn K (.ref C_BadName) "__init__" = some (some (.ref fI_BadName))) (j_BadName : PySem.W.typeIn K (.ref fI_BadName) = some (.type "function")) (il_BadName : K.lookup fI_BadName = some ⟨oc_BadName, od_BadName, .func (PySem.W.fnOf "__init__" "BadName.__init__" (defArgs si_BadName) (defBody si_BadName) (defScope si_BadName) .none kV_BadName dc_BadName pm_BadName an_BadName cdv_BadName ct_BadName), sl_BadName⟩) (ic_BadName : PySem.W.codeIn K cdv_BadName "BadName.__init__" = true) (ik_BadName : PySem.W.keepIn K (.ref fI_BadName) = true)
    (xg_BadName : PySem.W.findIn K (.ref C_BadName) "__getattribute__" = some (some (.builtin "BaseException.__getattribute__"))) (xn_BadName : PySem.W.findIn K (.ref C_BadName) "__getattr__" = some none) (xh_BadName : PySem.W.hasDictIn K C_BadName = true) (f0_BadName : PySem.W.findIn K (.ref C_BadName) "found" = some none)
    (l_BadNames : K.lookup C_BadNames = some (excClassObj nm_BadNames q_BadNames C_BadNames N_BadNames bs_BadNames bm_BadNames true sn_BadNames sub_BadNames ab_BadNames col_BadNames dd_BadNames k0_BadNames k1_BadNames k2_BadNames k3_BadNames k5_BadNames "ValueError.__new__")) (v_BadNames : PySem.HandSPX.refsVE bm_BadNames = true) (s_BadNames : PySem.W.findIn K (.ref C_BadNames) "__setattr__" = some (some (.builtin "object.__setattr__"))) (k_BadNames : PySem.W.keepIn K (.ref C_BadNames) = true)
    (i_BadNames : PySem.W.findIn K (.ref C_BadNames) "__init__" = some (some (.ref fI_BadNames))) (j_BadNames : PySem.W.typeIn K (.ref fI_BadNames) = some (.type "function")) (il_BadNames : K.lookup fI_BadNames = some ⟨oc_BadNames, od_BadNames, .func (PySem.W.fnOf "__init__" "BadNames.__init__" (defArgs si_BadNames) (defBody si_BadNames) (defScope si_BadNames) .none kV_BadNames dc_BadNames pm_BadNames an_BadNames cdv_BadNames ct_BadNames), sl_BadNames⟩) (ic_BadNames : PySem.W.codeIn K cdv_BadNames "BadNames.__init__" = true) (ik_BadNames : PySem.W.keepIn K (.ref fI_BadNames) = true)
    (xg_BadNames : PySem.W.findIn K (.ref C_BadNames) "__getattribute__" = some (some (.builtin "BaseException.__getattribute__"))) (xn_BadNames : PySem.W.findIn K (.ref C_BadNames) "__getattr__" = some none) (xh_BadNames : PySem.W.hasDictIn K C_BadNames = true) (f0_BadNames : PySem.W.findIn K (.ref C_BadNames) "found" = some none)
    (l_BadNumber : K.lookup C_BadNumber = some (excClassObj nm_BadNumber q_BadNumber C_BadNumber N_BadNumber bs_BadNumber bm_BadNumber true sn_BadNumber sub_BadNumber ab_BadNumber col_BadNumber dd_BadNumber k0_BadNumber k1_BadNumber k2_BadNumber k3_BadNumber k5_BadNumber "ValueError.__new__")) (v_BadNumber : PySem.HandSPX.refsVE bm_BadNumber = true) (s_BadNumber : PySem.W.findIn K (.ref C_BadNumber) "__setattr__" = some (some (.builtin "object.__setattr__"))) (k_BadNumber : PySem.W.keepIn K (.ref C_BadNumber) = true)
    (i_BadNumber : PySem.W.findIn K (.ref C_BadNumber) "__init__" = some (some (.ref fI_BadNumber))) (j_BadNumber : PySem.W.typeIn K (.ref fI_BadNumber) = some (.type "function")) (il_BadNumber : K.lookup fI_BadNumber = some ⟨oc_BadNumber, od_BadNumber, .func (PySem.W.fnOf "__init__" "BadNumber.__init__" (defArgs si_BadNumber) (defBody si_BadNumber) (defScope si_BadNumber) .none kV_BadNumber dc_BadNumber pm_BadNumber an_BadNumber cdv_BadNumber ct_BadNumber), sl_BadNumber⟩) (ic_BadNumber : PySem.W.codeIn K cdv_BadNumber "BadNumber.__init__" = true) (ik_BadNumber : PySem.W.keepIn K (.ref fI_BadNumber) = true)
    (xg_BadNumber : PySem.W.findIn K (.ref C_BadNumber) "__getattribute__" = some (some (.builtin "BaseException.__getattribute__"))) (xn_BadNumber : PySem.W.findIn K (.ref C_BadNumber) "__getattr__" = some none) (xh_BadNumber : PySem.W.hasDictIn K C_BadNumber = true) (f0_BadNumber : PySem.W.findIn K (.ref C_BadNumber) "found" = some none)
    (l_BadRule : K.lookup C_BadRule = some (excClassObj nm_BadRule q_BadRule C_BadRule N_BadRule bs_BadRule bm_BadRule true sn_BadRule sub_BadRule ab_BadRule col_BadRule dd_BadRule k0_BadRule k1_BadRule k2_BadRule k3_BadRule k5_BadRule "ValueError.__new__")) (v_BadRule : PySem.HandSPX.refsVE bm_BadRule = true) (s_BadRule : PySem.W.findIn K (.ref C_BadRule) "__setattr__" = some (some (.builtin "object.__setattr__"))) (k_BadRule : PySem.W.keepIn K (.ref C_BadRule) = true)
    (i_BadRule : PySem.W.findIn K (.ref C_BadRule) "__init__" = some (some (.ref fI_BadRule))) (j_BadRule : PySem.W.typeIn K (.ref fI_BadRule) = some (.type "function")) (il_BadRule : K.lookup fI_BadRule = some ⟨oc_BadRule, od_BadRule, .func (PySem.W.fnOf "__init__" "BadRule.__init__" (defArgs si_BadRule) (defBody si_BadRule) (defScope si_BadRule) .none kV_BadRule dc_BadRule pm_BadRule an_BadRule cdv_BadRule ct_BadRule), sl_BadRule⟩) (ic_BadRule : PySem.W.codeIn K cdv_BadRule "BadRule.__init__" = true) (ik_BadRule : PySem.W.keepIn K (.ref fI_BadRule) = true)
    (xg_BadRule : PySem.W.findIn K (.ref C_BadRule) "__getattribute__" = some (some (.builtin "BaseException.__getattribute__"))) (xn_BadRule : PySem.W.findIn K (.ref C_BadRule) "__getattr__" = some none) (xh_BadRule : PySem.W.hasDictIn K C_BadRule = true) (f0_BadRule : PySem.W.findIn K (.ref C_BadRule) "found" = some none)
    (l_BadWay : K.lookup C_BadWay = some (excClassObj nm_BadWay q_BadWay C_BadWay N_BadWay bs_BadWay bm_BadWay true sn_BadWay sub_BadWay ab_BadWay col_BadWay dd_BadWay k0_BadWay k1_BadWay k2_BadWay k3_BadWay k5_BadWay "ValueError.__new__")) (v_BadWay : PySem.HandSPX.refsVE bm_BadWay = true) (s_BadWay : PySem.W.findIn K (.ref C_BadWay) "__setattr__" = some (some (.builtin "object.__setattr__"))) (k_BadWay : PySem.W.keepIn K (.ref C_BadWay) = true)
    (i_BadWay : PySem.W.findIn K (.ref C_BadWay) "__init__" = some (some (.ref fI_BadWay))) (j_BadWay : PySem.W.typeIn K (.ref fI_BadWay) = some (.type "function")) (il_BadWay : K.lookup fI_BadWay = some ⟨oc_BadWay, od_BadWay, .func (PySem.W.fnOf "__init__" "BadWay.__init__" (defArgs si_BadWay) (defBody si_BadWay) (defScope si_BadWay) .none kV_BadWay dc_BadWay pm_BadWay an_BadWay cdv_BadWay ct_BadWay), sl_BadWay⟩) (ic_BadWay : PySem.W.codeIn K cdv_BadWay "BadWay.__init__" = true) (ik_BadWay : PySem.W.keepIn K (.ref fI_BadWay) = true)
    (xg_BadWay : PySem.W.findIn K (.ref C_BadWay) "__getattribute__" = some (some (.builtin "BaseException.__getattribute__"))) (xn_BadWay : PySem.W.findIn K (.ref C_BadWay) "__getattr__" = some none) (xh_BadWay : PySem.W.hasDictIn K C_BadWay = true) (f0_BadWay : PySem.W.findIn K (.ref C_BadWay) "found" = some none)
    (l_BadWish : K.lookup C_BadWish = some (excClassObj nm_BadWish q_BadWish C_BadWish N_BadWish bs_BadWish bm_BadWish true sn_BadWish sub_BadWish ab_BadWish col_BadWish dd_BadWish k0_BadWish k1_BadWish k2_BadWish k3_BadWish k5_BadWish "ValueError.__new__")) (v_BadWish : PySem.HandSPX.refsVE bm_BadWish = true) (s_BadWish : PySem.W.findIn K (.ref C_BadWish) "__setattr__" = some (some (.builtin "object.__setattr__"))) (k_BadWish : PySem.W.keepIn K (.ref C_BadWish) = true)
    (i_BadWish : PySem.W.findIn K (.ref C_BadWish) "__init__" = some (some (.ref fI_BadWish))) (j_BadWish : PySem.W.typeIn K (.ref fI_BadWish) = some (.type "function")) (il_BadWish : K.lookup fI_BadWish = some ⟨oc_BadWish, od_BadWish, .func (PySem.W.fnOf "__init__" "BadWish.__init__" (defArgs si_BadWish) (defBody si_BadWish) (defScope si_BadWish) .none kV_BadWish dc_BadWish pm_BadWish an_BadWish cdv_BadWish ct_BadWish), sl_BadWish⟩) (ic_BadWish : PySem.W.codeIn K cdv_BadWish "BadWish.__init__" = true) (ik_BadWish : PySem.W.keepIn K (.ref fI_BadWish) = true)
    (xg_BadWish : PySem.W.findIn K (.ref C_BadWish) "__getattribute__" = some (some (.builtin "BaseException.__getattribute__"))) (xn_BadWish : PySem.W.findIn K (.ref C_BadWish) "__getattr__" = some none) (xh_BadWish : PySem.W.hasDictIn K C_BadWish = true) (f0_BadWish : PySem.W.findIn K (.ref C_BadWish) "found" = some none)
    (l_Blurred : K.lookup C_Blurred = some (excClassObj nm_Blurred q_Blurred C_Blurred N_Blurred bs_Blurred bm_Blurred true sn_Blurred sub_Blurred ab_Blurred col_Blurred dd_Blurred k0_Blurred k1_Blurred k2_Blurred k3_Blurred k5_Blurred "ValueError.__new__")) (v_Blurred : PySem.HandSPX.refsVE bm_Blurred = true) (s_Blurred : PySem.W.findIn K (.ref C_Blurred) "__setattr__" = some (some (.builtin "object.__setattr__"))) (k_Blurred : PySem.W.keepIn K (.ref C_Blurred) = true)
    (i_Blurred : PySem.W.findIn K (.ref C_Blurred) "__init__" = some (some (.ref fI_Blurred))) (j_Blurred : PySem.W.typeIn K (.ref fI_Blurred) = some (.type "function")) (il_Blurred : K.lookup fI_Blurred = some ⟨oc_Blurred, od_Blurred, .func (PySem.W.fnOf "__init__" "Blurred.__init__" (defArgs si_Blurred) (defBody si_Blurred) (defScope si_Blurred) .none kV_Blurred dc_Blurred pm_Blurred an_Blurred cdv_Blurred ct_Blurred), sl_Blurred⟩) (ic_Blurred : PySem.W.codeIn K cdv_Blurred "Blurred.__init__" = true) (ik_Blurred : PySem.W.keepIn K (.ref fI_Blurred) = true)
    (xg_Blurred : PySem.W.findIn K (.ref C_Blurred) "__getattribute__" = some (some (.builtin "BaseException.__getattribute__"))) (xn_Blurred : PySem.W.findIn K (.ref C_Blurred) "__getattr__" = some none) (xh_Blurred : PySem.W.hasDictIn K C_Blurred = true) (f0_Blurred : PySem.W.findIn K (.ref C_Blurred) "one" = some none) (f1_Blurred : PySem.W.findIn K (.ref C_Blurred) "other" = some none)
    (l_Doubled : K.lookup C_Doubled = some (excClassObj nm_Doubled q_Doubled C_Doubled N_Doubled bs_Doubled bm_Doubled true sn_Doubled sub_Doubled ab_Doubled col_Doubled dd_Doubled k0_Doubled k1_Doubled k2_Doubled k3_Doubled k5_Doubled "ValueError.__new__")) (v_Doubled : PySem.HandSPX.refsVE bm_Doubled = true) (s_Doubled : PySem.W.findIn K (.ref C_Doubled) "__setattr__" = some (some (.builtin "object.__setattr__"))) (k_Doubled : PySem.W.keepIn K (.ref C_Doubled) = true)
    (i_Doubled : PySem.W.findIn K (.ref C_Doubled) "__init__" = some (some (.ref fI_Doubled))) (j_Doubled : PySem.W.typeIn K (.ref fI_Doubled) = some (.type "function")) (il_Doubled : K.lookup fI_Doubled = some ⟨oc_Doubled, od_Doubled, .func (PySem.W.fnOf "__init__" "Doubled.__init__" (defArgs si_Doubled) (defBody si_Doubled) (defScope si_Doubled) .none kV_Doubled dc_Doubled pm_Doubled an_Doubled cdv_Doubled ct_Doubled), sl_Doubled⟩) (ic_Doubled : PySem.W.codeIn K cdv_Doubled "Doubled.__init__" = true) (ik_Doubled : PySem.W.keepIn K (.ref fI_Doubled) = true)
    (xg_Doubled : PySem.W.findIn K (.ref C_Doubled) "__getattribute__" = some (some (.builtin "BaseException.__getattribute__"))) (xn_Doubled : PySem.W.findIn K (.ref C_Doubled) "__getattr__" = some none) (xh_Doubled : PySem.W.hasDictIn K C_Doubled = true) (f0_Doubled : PySem.W.findIn K (.ref C_Doubled) "found" = some none)
    (p_Doubled_TailError : PySem.W.subIn K (.ref C_Doubled) (.ref C_TailError) = some true)
    (p_Doubled_Doubled : PySem.W.subIn K (.ref C_Doubled) (.ref C_Doubled) = some true)
    (p_Doubled_BadWish : PySem.W.subIn K (.ref C_Doubled) (.ref C_BadWish) = some false)
    (p_Doubled_BadRule : PySem.W.subIn K (.ref C_Doubled) (.ref C_BadRule) = some false)
    (p_Doubled_BadNumber : PySem.W.subIn K (.ref C_Doubled) (.ref C_BadNumber) = some false)
    (p_Doubled_BadNames : PySem.W.subIn K (.ref C_Doubled) (.ref C_BadNames) = some false)
    (p_Doubled_BadName : PySem.W.subIn K (.ref C_Doubled) (.ref C_BadName) = some false)
    (p_Blurred_TailError : PySem.W.subIn K (.ref C_Blurred) (.ref C_TailError) = some true)
    (p_Blurred_Doubled : PySem.W.subIn K (.ref C_Blurred) (.ref C_Doubled) = some false)
    (p_Blurred_BadWish : PySem.W.subIn K (.ref C_Blurred) (.ref C_BadWish) = some false)
    (p_Blurred_BadRule : PySem.W.subIn K (.ref C_Blurred) (.ref C_BadRule) = some false)
    (p_Blurred_BadNumber : PySem.W.subIn K (.ref C_Blurred) (.ref C_BadNumber) = some false)
    (p_Blurred_BadNames : PySem.W.subIn K (.ref C_Blurred) (.ref C_BadNames) = some false)
    (p_Blurred_BadName : PySem.W.subIn K (.ref C_Blurred) (.ref C_BadName) = some false)
    (p_BadWish_TailError : PySem.W.subIn K (.ref C_BadWish) (.ref C_TailError) = some true)
    (p_BadWish_Doubled : PySem.W.subIn K (.ref C_BadWish) (.ref C_Doubled) = some false)
    (p_BadWish_BadWish : PySem.W.subIn K (.ref C_BadWish) (.ref C_BadWish) = some true)
    (p_BadWish_BadRule : PySem.W.subIn K (.ref C_BadWish) (.ref C_BadRule) = some false)
    (p_BadWish_BadNumber : PySem.W.subIn K (.ref C_BadWish) (.ref C_BadNumber) = some false)
    (p_BadWish_BadNames : PySem.W.subIn K (.ref C_BadWish) (.ref C_BadNames) = some false)
    (p_BadWish_BadName : PySem.W.subIn K (.ref C_BadWish) (.ref C_BadName) = some false)
    (p_BadWay_TailError : PySem.W.subIn K (.ref C_BadWay) (.ref C_TailError) = some true)
    (p_BadWay_Doubled : PySem.W.subIn K (.ref C_BadWay) (.ref C_Doubled) = some false)
    (p_BadWay_BadWish : PySem.W.subIn K (.ref C_BadWay) (.ref C_BadWish) = some false)
    (p_BadWay_BadRule : PySem.W.subIn K (.ref C_BadWay) (.ref C_BadRule) = some false)
    (p_BadWay_BadNumber : PySem.W.subIn K (.ref C_BadWay) (.ref C_BadNumber) = some false)
    (p_BadWay_BadNames : PySem.W.subIn K (.ref C_BadWay) (.ref C_BadNames) = some false)
    (p_BadWay_BadName : PySem.W.subIn K (.ref C_BadWay) (.ref C_BadName) = some false)
    (p_BadRule_TailError : PySem.W.subIn K (.ref C_BadRule) (.ref C_TailError) = some true)
    (p_BadRule_Doubled : PySem.W.subIn K (.ref C_BadRule) (.ref C_Doubled) = some false)
    (p_BadRule_BadWish : PySem.W.subIn K (.ref C_BadRule) (.ref C_BadWish) = some false)
    (p_BadRule_BadRule : PySem.W.subIn K (.ref C_BadRule) (.ref C_BadRule) = some true)
    (p_BadRule_BadNumber : PySem.W.subIn K (.ref C_BadRule) (.ref C_BadNumber) = some false)
    (p_BadRule_BadNames : PySem.W.subIn K (.ref C_BadRule) (.ref C_BadNames) = some false)
    (p_BadRule_BadName : PySem.W.subIn K (.ref C_BadRule) (.ref C_BadName) = some false)
    (p_BadNumber_TailError : PySem.W.subIn K (.ref C_BadNumber) (.ref C_TailError) = some true)
    (p_BadNumber_Doubled : PySem.W.subIn K (.ref C_BadNumber) (.ref C_Doubled) = some false)
    (p_BadNumber_BadWish : PySem.W.subIn K (.ref C_BadNumber) (.ref C_BadWish) = some false)
    (p_BadNumber_BadRule : PySem.W.subIn K (.ref C_BadNumber) (.ref C_BadRule) = some false)
    (p_BadNumber_BadNumber : PySem.W.subIn K (.ref C_BadNumber) (.ref C_BadNumber) = some true)
    (p_BadNumber_BadNames : PySem.W.subIn K (.ref C_BadNumber) (.ref C_BadNames) = some false)
    (p_BadNumber_BadName : PySem.W.subIn K (.ref C_BadNumber) (.ref C_BadName) = some false)
    (p_BadNames_TailError : PySem.W.subIn K (.ref C_BadNames) (.ref C_TailError) = some true)
    (p_BadNames_Doubled : PySem.W.subIn K (.ref C_BadNames) (.ref C_Doubled) = some false)
    (p_BadNames_BadWish : PySem.W.subIn K (.ref C_BadNames) (.ref C_BadWish) = some false)
    (p_BadNames_BadRule : PySem.W.subIn K (.ref C_BadNames) (.ref C_BadRule) = some false)
    (p_BadNames_BadNumber : PySem.W.subIn K (.ref C_BadNames) (.ref C_BadNumber) = some false)
    (p_BadNames_BadNames : PySem.W.subIn K (.ref C_BadNames) (.ref C_BadNames) = some true)
    (p_BadNames_BadName : PySem.W.subIn K (.ref C_BadNames) (.ref C_BadName) = some false)
    (p_BadName_TailError : PySem.W.subIn K (.ref C_BadName) (.ref C_TailError) = some true)
    (p_BadName_Doubled : PySem.W.subIn K (.ref C_BadName) (.ref C_Doubled) = some false)
    (p_BadName_BadWish : PySem.W.subIn K (.ref C_BadName) (.ref C_BadWish) = some false)
    (p_BadName_BadRule : PySem.W.subIn K (.ref C_BadName) (.ref C_BadRule) = some false)
    (p_BadName_BadNumber : PySem.W.subIn K (.ref C_BadName) (.ref C_BadNumber) = some false)
    (p_BadName_BadNames : PySem.W.subIn K (.ref C_BadName) (.ref C_BadNames) = some false)
    (p_BadName_BadName : PySem.W.subIn K (.ref C_BadName) (.ref C_BadName) = some true)
    (p_BadMark_TailError : PySem.W.subIn K (.ref C_BadMark) (.ref C_TailError) = some true)
    (p_BadMark_Doubled : PySem.W.subIn K (.ref C_BadMark) (.ref C_Doubled) = some false)
    (p_BadMark_BadWish : PySem.W.subIn K (.ref C_BadMark) (.ref C_BadWish) = some false)
    (p_BadMark_BadRule : PySem.W.subIn K (.ref C_BadMark) (.ref C_BadRule) = some false)
    (p_BadMark_BadNumber : PySem.W.subIn K (.ref C_BadMark) (.ref C_BadNumber) = some false)
    (p_BadMark_BadNames : PySem.W.subIn K (.ref C_BadMark) (.ref C_BadNames) = some false)
    (p_BadMark_BadName : PySem.W.subIn K (.ref C_BadMark) (.ref C_BadName) = some false)
    (z_all : PySem.W.nsIn K mainGlobals "all" = some none) (z_bool : PySem.W.nsIn K mainGlobals "bool" = some none) (z_dict : PySem.W.nsIn K mainGlobals "dict" = some none) (z_int : PySem.W.nsIn K mainGlobals "int" = some none) (z_isinstance : PySem.W.nsIn K mainGlobals "isinstance" = some none) (z_len : PySem.W.nsIn K mainGlobals "len" = some none) (z_list : PySem.W.nsIn K mainGlobals "list" = some none) (z_max : PySem.W.nsIn K mainGlobals "max" = some none) (z_min : PySem.W.nsIn K mainGlobals "min" = some none) (z_range : PySem.W.nsIn K mainGlobals "range" = some none) (z_repr : PySem.W.nsIn K mainGlobals "repr" = some none) (z_set : PySem.W.nsIn K mainGlobals "set" = some none) (z_str : PySem.W.nsIn K mainGlobals "str" = some none) (z_tuple : PySem.W.nsIn K mainGlobals "tuple" = some none) (z_CLIMB : PySem.W.nsIn K mainGlobals "CLIMB" = some (some (.str "climb" t_CLIMB))) (z_FIGURES : PySem.W.nsIn K mainGlobals "FIGURES" = some (some (.str "0123456789" t_FIGURES))) (z_GREATEST : PySem.W.nsIn K mainGlobals "GREATEST" = some (some (.int 999999999999999 t_GREATEST))) (z_GREATEST_WISH : PySem.W.nsIn K mainGlobals "GREATEST_WISH" = some (some (.int 99999999999999 t_GREATEST_WISH))) (z_HASH : PySem.W.nsIn K mainGlobals "HASH" = some (some (.str "#" t_HASH))) (z_LONGEST_MARK : PySem.W.nsIn K mainGlobals "LONGEST_MARK" = some (some (.int 12 t_LONGEST_MARK))) (z_LONGEST_NAME : PySem.W.nsIn K mainGlobals "LONGEST_NAME" = some (some (.int 200 t_LONGEST_NAME))) (z_LONGEST_WISH : PySem.W.nsIn K mainGlobals "LONGEST_WISH" = some (some (.int 150 t_LONGEST_WISH))) (z_MOST_FIGURES : PySem.W.nsIn K mainGlobals "MOST_FIGURES" = some (some (.int 15 t_MOST_FIGURES))) (z_MOST_NAMES : PySem.W.nsIn K mainGlobals "MOST_NAMES" = some (some (.int 200 t_MOST_NAMES))) (z_MOST_TAKEN : PySem.W.nsIn K mainGlobals "MOST_TAKEN" = some (some (.int 100 t_MOST_TAKEN))) (z_NEST : PySem.W.nsIn K mainGlobals "NEST" = some (some (.str "nest" t_NEST))) (z_SIGNS : PySem.W.nsIn K mainGlobals "SIGNS" = some (some (.str "abcdefghijklmnopqrstuvwxyz0123456789-_.()" t_SIGNS))) (z_STAR : PySem.W.nsIn K mainGlobals "STAR" = some (some (.str "*" t_STAR)))
    (pure : ∀ ns : List Int, ns.length ≤ 63 → (∀ z ∈ ns, Builtin.Int.intBits z ≤ 1048576) → ∃ cs, m_law [.scr ns] [] = .ok (.bl true) cs) :
    ∃ fd : FuncData, (∀ (s : Shared) (v : Value), BindsTo s fd ⟨[v], []⟩ [("script", v)]) ∧ ∀ base : Heap, K.In base → base.Ns mainGlobals mg → (∃ mm, base.Ns sysModules mm) → FnG l.prog w K mg base 14 fa fd ["script"] (spLaw K) := by
  have e := hfa.symm.trans (PySem.W.mg_of X G a45)
  cases e
  have T : Tx K mg := ⟨PySem.W.mg_none_of X G z_all, PySem.W.mg_none_of X G z_bool, PySem.W.mg_none_of X G z_dict, PySem.W.mg_none_of X G z_int, PySem.W.mg_none_of X G z_isinstance, PySem.W.mg_none_of X G z_len, PySem.W.mg_none_of X G z_list, PySem.W.mg_none_of X G z_max, PySem.W.mg_none_of X G z_min, PySem.W.mg_none_of X G z_range, PySem.W.mg_none_of X G z_repr, PySem.W.mg_none_of X G z_set, PySem.W.mg_none_of X G z_str, PySem.W.mg_none_of X G z_tuple, ⟨_, PySem.W.mg_of X G z_CLIMB⟩, ⟨_, PySem.W.mg_of X G z_FIGURES⟩, ⟨_, PySem.W.mg_of X G z_GREATEST⟩, ⟨_, PySem.W.mg_of X G z_GREATEST_WISH⟩, ⟨_, PySem.W.mg_of X G z_HASH⟩, ⟨_, PySem.W.mg_of X G z_LONGEST_MARK⟩, ⟨_, PySem.W.mg_of X G z_LONGEST_NAME⟩, ⟨_, PySem.W.mg_of X G z_LONGEST_WISH⟩, ⟨_, PySem.W.mg_of X G z_MOST_FIGURES⟩, ⟨_, PySem.W.mg_of X G z_MOST_NAMES⟩, ⟨_, PySem.W.mg_of X G z_MOST_TAKEN⟩, ⟨_, PySem.W.mg_of X G z_NEST⟩, ⟨_, PySem.W.mg_of X G z_SIGNS⟩, ⟨_, PySem.W.mg_of X G z_STAR⟩⟩
  have m_BadMark := PySem.W.mg_of X G n_BadMark
  have m_BadName := PySem.W.mg_of X G n_BadName
  have m_BadNames := PySem.W.mg_of X G n_BadNames
  have m_BadNumber := PySem.W.mg_of X G n_BadNumber
  have m_BadRule := PySem.W.mg_of X G n_BadRule
  have m_BadWay := PySem.W.mg_of X G n_BadWay
  have m_BadWish := PySem.W.mg_of X G n_BadWish
  have m_Blurred := PySem.W.mg_of X G n_Blurred
  have m_Doubled := PySem.W.mg_of X G n_Doubled
  have m_TailError := PySem.W.mg_of X G n_TailError
  have m_Rule := PySem.W.mg_of X G n_Rule
  have CL_Rule : Cls K C_Rule := ⟨pg_Rule, hd_Rule, po_Rule, sa_Rule⟩
  have FL_Rule_rule_mark : FldOk K mg "Rule" "rule_mark" := ⟨_, m_Rule, CL_Rule, fl_Rule_rule_mark⟩
  have FL_Rule_rule_way : FldOk K mg "Rule" "rule_way" := ⟨_, m_Rule, CL_Rule, fl_Rule_rule_way⟩
  have NI_Rule : InsF K mg "Rule" := insF_mk m_Rule CL_Rule ha_Rule hn_Rule ht_Rule hm_Rule d_Rule t_Rule s_Rule_NoneType s_Rule_bool s_Rule_int s_Rule_str s_Rule_list s_Rule_tuple s_Rule_dict
  have B_TailError : BaseC K C_TailError := ⟨bg_TailError, br_TailError, bi_TailError⟩
  have O_BadMark : OexC K C_BadMark := ⟨⟨_, _, _, _, _, _, _, _, _, _, _, _, _, _, _, l_BadMark, v_BadMark⟩, s_BadMark, e_BadMark, t_BadMark, k_BadMark⟩
  have I_BadMark := fun_mk (st := si_BadMark) il_BadMark ic_BadMark ik_BadMark
  have ib_BadMark := I_BadMark.binds (ps := ["self", "found"]) fun _ _ _ _ _ _ us hl => match us, hl with | [_, _], _ => rfl
  have X_BadMark : ∀ base : Heap, ExF l.prog w K mg base "BadMark" ["found"] := fun base => ⟨C_BadMark, fI_BadMark, _, _, O_BadMark, i_BadMark, j_BadMark, init_BadMark I_BadMark O_BadMark B_TailError m_TailError f0_BadMark, ib_BadMark, m_BadMark, xfC_of xg_BadMark xn_BadMark e_BadMark xh_BadMark, fun f hf => by simp only [List.mem_cons, List.not_mem_nil, or_false] at hf; subst hf; exact f0_BadMark⟩
  have O_BadName : OexC K C_BadName := ⟨⟨_, _, _, _, _, _, _, _, _, _, _, _, _, _, _, l_BadName, v_BadName⟩, s_BadName, e_BadName, t_BadName, k_BadName⟩
  have I_BadName := fun_mk (st := si_BadName) il_BadName ic_BadName ik_BadName
  have ib_BadName := I_BadName.binds (ps := ["self", "found"]) fun _ _ _ _ _ _ us hl => match us, hl with | [_, _], _ => rfl
  have X_BadName : ∀ base : Heap, ExF l.prog w K mg base "BadName" ["found"] := fun base => ⟨C_BadName, fI_BadName, _, _, O_BadName, i_BadName, j_BadName, init_BadName I_BadName O_BadName B_TailError m_TailError f0_BadName, ib_BadName, m_BadName, xfC_of xg_BadName xn_BadName e_BadName xh_BadName, fun f hf => by simp only [List.mem_cons, List.not_mem_nil, or_false] at hf; subst hf; exact f0_BadName⟩
  have O_BadNames : OexC K C_BadNames := ⟨⟨_, _, _, _, _, _, _, _, _, _, _, _, _, _, _, l_BadNames, v_BadNames⟩, s_BadNames, e_BadNames, t_BadNames, k_BadNames⟩
  have I_BadNames := fun_mk (st := si_BadNames) il_BadNames ic_BadNames ik_BadNames
  have ib_BadNames := I_BadNames.binds (ps := ["self", "found"]) fun _ _ _ _ _ _ us hl => match us, hl with | [_, _], _ => rfl
  have X_BadNames : ∀ base : Heap, ExF l.prog w K mg base "BadNames" ["found"] := fun base => ⟨C_BadNames, fI_BadNames, _, _, O_BadNames, i_BadNames, j_BadNames, init_BadNames I_BadNames O_BadNames B_TailError m_TailError f0_BadNames, ib_BadNames, m_BadNames, xfC_of xg_BadNames xn_BadNames e_BadNames xh_BadNames, fun f hf => by simp only [List.mem_cons, List.not_mem_nil, or_false] at hf; subst hf; exact f0_BadNames⟩
  have O_BadNumber : OexC K C_BadNumber := ⟨⟨_, _, _, _, _, _, _, _, _, _, _, _, _, _, _, l_BadNumber, v_BadNumber⟩, s_BadNumber, e_BadNumber, t_BadNumber, k_BadNumber⟩
  have I_BadNumber := fun_mk (st := si_BadNumber) il_BadNumber ic_BadNumber ik_BadNumber
  have ib_BadNumber := I_BadNumber.binds (ps := ["self", "found"]) fun _ _ _ _ _ _ us hl => match us, hl with | [_, _], _ => rfl
  have X_BadNumber : ∀ base : Heap, ExF l.prog w K mg base "BadNumber" ["found"] := fun base => ⟨C_BadNumber, fI_BadNumber, _, _, O_BadNumber, i_BadNumber, j_BadNumber, init_BadNumber I_BadNumber O_BadNumber B_TailError m_TailError f0_BadNumber, ib_BadNumber, m_BadNumber, xfC_of xg_BadNumber xn_BadNumber e_BadNumber xh_BadNumber, fun f hf => by simp only [List.mem_cons, List.not_mem_nil, or_false] at hf; subst hf; exact f0_BadNumber⟩
  have O_BadRule : OexC K C_BadRule := ⟨⟨_, _, _, _, _, _, _, _, _, _, _, _, _, _, _, l_BadRule, v_BadRule⟩, s_BadRule, e_BadRule, t_BadRule, k_BadRule⟩
  have I_BadRule := fun_mk (st := si_BadRule) il_BadRule ic_BadRule ik_BadRule
  have ib_BadRule := I_BadRule.binds (ps := ["self", "found"]) fun _ _ _ _ _ _ us hl => match us, hl with | [_, _], _ => rfl
  have X_BadRule : ∀ base : Heap, ExF l.prog w K mg base "BadRule" ["found"] := fun base => ⟨C_BadRule, fI_BadRule, _, _, O_BadRule, i_BadRule, j_BadRule, init_BadRule I_BadRule O_BadRule B_TailError m_TailError f0_BadRule, ib_BadRule, m_BadRule, xfC_of xg_BadRule xn_BadRule e_BadRule xh_BadRule, fun f hf => by simp only [List.mem_cons, List.not_mem_nil, or_false] at hf; subst hf; exact f0_BadRule⟩
  have O_BadWay : OexC K C_BadWay := ⟨⟨_, _, _, _, _, _, _, _, _, _, _, _, _, _, _, l_BadWay, v_BadWay⟩, s_BadWay, e_BadWay, t_BadWay, k_BadWay⟩
  have I_BadWay := fun_mk (st := si_BadWay) il_BadWay ic_BadWay ik_BadWay
  have ib_BadWay := I_BadWay.binds (ps := ["self", "found"]) fun _ _ _ _ _ _ us hl => match us, hl with | [_, _], _ => rfl
  have X_BadWay : ∀ base : Heap, ExF l.prog w K mg base "BadWay" ["found"] := fun base => ⟨C_BadWay, fI_BadWay, _, _, O_BadWay, i_BadWay, j_BadWay, init_BadWay I_BadWay O_BadWay B_TailError m_TailError f0_BadWay, ib_BadWay, m_BadWay, xfC_of xg_BadWay xn_BadWay e_BadWay xh_BadWay, fun f hf => by simp only [List.mem_cons, List.not_mem_nil, or_false] at hf; subst hf; exact f0_BadWay⟩
  have O_BadWish : OexC K C_BadWish := ⟨⟨_, _, _, _, _, _, _, _, _, _, _, _, _, _, _, l_BadWish, v_BadWish⟩, s_BadWish, e_BadWish, t_BadWish, k_BadWish⟩
  have I_BadWish := fun_mk (st := si_BadWish) il_BadWish ic_BadWish ik_BadWish
  have ib_BadWish := I_BadWish.binds (ps := ["self", "found"]) fun _ _ _ _ _ _ us hl => match us, hl with | [_, _], _ => rfl
  have X_BadWish : ∀ base : Heap, ExF l.prog w K mg base "BadWish" ["found"] := fun base => ⟨C_BadWish, fI_BadWish, _, _, O_BadWish, i_BadWish, j_BadWish, init_BadWish I_BadWish O_BadWish B_TailError m_TailError f0_BadWish, ib_BadWish, m_BadWish, xfC_of xg_BadWish xn_BadWish e_BadWish xh_BadWish, fun f hf => by simp only [List.mem_cons, List.not_mem_nil, or_false] at hf; subst hf; exact f0_BadWish⟩
  have O_Blurred : OexC K C_Blurred := ⟨⟨_, _, _, _, _, _, _, _, _, _, _, _, _, _, _, l_Blurred, v_Blurred⟩, s_Blurred, e_Blurred, t_Blurred, k_Blurred⟩
  have I_Blurred := fun_mk (st := si_Blurred) il_Blurred ic_Blurred ik_Blurred
  have ib_Blurred := I_Blurred.binds (ps := ["self", "one", "other"]) fun _ _ _ _ _ _ us hl => match us, hl with | [_, _, _], _ => rfl
  have X_Blurred : ∀ base : Heap, ExF l.prog w K mg base "Blurred" ["one", "other"] := fun base => ⟨C_Blurred, fI_Blurred, _, _, O_Blurred, i_Blurred, j_Blurred, init_Blurred I_Blurred O_Blurred B_TailError m_TailError f0_Blurred f1_Blurred, ib_Blurred, m_Blurred, xfC_of xg_Blurred xn_Blurred e_Blurred xh_Blurred, fun f hf => by simp only [List.mem_cons, List.not_mem_nil, or_false] at hf; rcases hf with rfl | rfl; exact f0_Blurred; exact f1_Blurred⟩
  have O_Doubled : OexC K C_Doubled := ⟨⟨_, _, _, _, _, _, _, _, _, _, _, _, _, _, _, l_Doubled, v_Doubled⟩, s_Doubled, e_Doubled, t_Doubled, k_Doubled⟩
  have I_Doubled := fun_mk (st := si_Doubled) il_Doubled ic_Doubled ik_Doubled
  have ib_Doubled := I_Doubled.binds (ps := ["self", "found"]) fun _ _ _ _ _ _ us hl => match us, hl with | [_, _], _ => rfl
  have X_Doubled : ∀ base : Heap, ExF l.prog w K mg base "Doubled" ["found"] := fun base => ⟨C_Doubled, fI_Doubled, _, _, O_Doubled, i_Doubled, j_Doubled, init_Doubled I_Doubled O_Doubled B_TailError m_TailError f0_Doubled, ib_Doubled, m_Doubled, xfC_of xg_Doubled xn_Doubled e_Doubled xh_Doubled, fun f hf => by simp only [List.mem_cons, List.not_mem_nil, or_false] at hf; subst hf; exact f0_Doubled⟩
  have ia : IsaOk K mg (isaT isa) := isaL_ok (.cons (isaE_mk m_BadMark m_BadName (exm_of e_BadName d_BadName t_BadName p_BadMark_BadName)) (.cons (isaE_mk m_BadMark m_BadNames (exm_of e_BadNames d_BadNames t_BadNames p_BadMark_BadNames)) (.cons (isaE_mk m_BadMark m_BadNumber (exm_of e_BadNumber d_BadNumber t_BadNumber p_BadMark_BadNumber)) (.cons (isaE_mk m_BadMark m_BadRule (exm_of e_BadRule d_BadRule t_BadRule p_BadMark_BadRule)) (.cons (isaE_mk m_BadMark m_BadWish (exm_of e_BadWish d_BadWish t_BadWish p_BadMark_BadWish)) (.cons (isaE_mk m_BadMark m_Doubled (exm_of e_Doubled d_Doubled t_Doubled p_BadMark_Doubled)) (.cons (isaE_mk m_BadMark m_TailError (exm_of e_TailError d_TailError t_TailError p_BadMark_TailError)) (.cons (isaE_mk m_BadName m_BadName (exm_of e_BadName d_BadName t_BadName p_BadName_BadName)) (.cons (isaE_mk m_BadName m_BadNames (exm_of e_BadNames d_BadNames t_BadNames p_BadName_BadNames)) (.cons (isaE_mk m_BadName m_BadNumber (exm_of e_BadNumber d_BadNumber t_BadNumber p_BadName_BadNumber)) (.cons (isaE_mk m_BadName m_BadRule (exm_of e_BadRule d_BadRule t_BadRule p_BadName_BadRule)) (.cons (isaE_mk m_BadName m_BadWish (exm_of e_BadWish d_BadWish t_BadWish p_BadName_BadWish)) (.cons (isaE_mk m_BadName m_Doubled (exm_of e_Doubled d_Doubled t_Doubled p_BadName_Doubled)) (.cons (isaE_mk m_BadName m_TailError (exm_of e_TailError d_TailError t_TailError p_BadName_TailError)) (.cons (isaE_mk m_BadNames m_BadName (exm_of e_BadName d_BadName t_BadName p_BadNames_BadName)) (.cons (isaE_mk m_BadNames m_BadNames (exm_of e_BadNames d_BadNames t_BadNames p_BadNames_BadNames)) (.cons (isaE_mk m_BadNames m_BadNumber (exm_of e_BadNumber d_BadNumber t_BadNumber p_BadNames_BadNumber)) (.cons (isaE_mk m_BadNames m_BadRule (exm_of e_BadRule d_BadRule t_BadRule p_BadNames_BadRule)) (.cons (isaE_mk m_BadNames m_BadWish (exm_of e_BadWish d_BadWish t_BadWish p_BadNames_BadWish)) (.cons (isaE_mk m_BadNames m_Doubled (exm_of e_Doubled d_Doubled t_Doubled p_BadNames_Doubled)) (.cons (isaE_mk m_BadNames m_TailError (exm_of e_TailError d_TailError t_TailError p_BadNames_TailError)) (.cons (isaE_mk m_BadNumber m_BadName (exm_of e_BadName d_BadName t_BadName p_BadNumber_BadName)) (.cons (isaE_mk m_BadNumber m_BadNames (exm_of e_BadNames d_BadNames t_BadNames p_BadNumber_BadNames)) (.cons (isaE_mk m_BadNumber m_BadNumber (exm_of e_BadNumber d_BadNumber t_BadNumber p_BadNumber_BadNumber)) (.cons (isaE_mk m_BadNumber m_BadRule (exm_of e_BadRule d_BadRule t_BadRule p_BadNumber_BadRule)) (.cons (isaE_mk m_BadNumber m_BadWish (exm_of e_BadWish d_BadWish t_BadWish p_BadNumber_BadWish)) (.cons (isaE_mk m_BadNumber m_Doubled (exm_of e_Doubled d_Doubled t_Doubled p_BadNumber_Doubled)) (.cons (isaE_mk m_BadNumber m_TailError (exm_of e_TailError d_TailError t_TailError p_BadNumber_TailError)) (.cons (isaE_mk m_BadRule m_BadName (exm_of e_BadName d_BadName t_BadName p_BadRule_BadName)) (.cons (isaE_mk m_BadRule m_BadNames (exm_of e_BadNames d_BadNames t_BadNames p_BadRule_BadNames)) (.cons (isaE_mk m_BadRule m_BadNumber (exm_of e_BadNumber d_BadNumber t_BadNumber p_BadRule_BadNumber)) (.cons (isaE_mk m_BadRule m_BadRule (exm_of e_BadRule d_BadRule t_BadRule p_BadRule_BadRule)) (.cons (isaE_mk m_BadRule m_BadWish (exm_of e_BadWish d_BadWish t_BadWish p_BadRule_BadWish)) (.cons (isaE_mk m_BadRule m_Doubled (exm_of e_Doubled d_Doubled t_Doubled p_BadRule_Doubled)) (.cons (isaE_mk m_BadRule m_TailError (exm_of e_TailError d_TailError t_TailError p_BadRule_TailError)) (.cons (isaE_mk m_BadWay m_BadName (exm_of e_BadName d_BadName t_BadName p_BadWay_BadName)) (.cons (isaE_mk m_BadWay m_BadNames (exm_of e_BadNames d_BadNames t_BadNames p_BadWay_BadNames)) (.cons (isaE_mk m_BadWay m_BadNumber (exm_of e_BadNumber d_BadNumber t_BadNumber p_BadWay_BadNumber)) (.cons (isaE_mk m_BadWay m_BadRule (exm_of e_BadRule d_BadRule t_BadRule p_BadWay_BadRule)) (.cons (isaE_mk m_BadWay m_BadWish (exm_of e_BadWish d_BadWish t_BadWish p_BadWay_BadWish)) (.cons (isaE_mk m_BadWay m_Doubled (exm_of e_Doubled d_Doubled t_Doubled p_BadWay_Doubled)) (.cons (isaE_mk m_BadWay m_TailError (exm_of e_TailError d_TailError t_TailError p_BadWay_TailError)) (.cons (isaE_mk m_BadWish m_BadName (exm_of e_BadName d_BadName t_BadName p_BadWish_BadName)) (.cons (isaE_mk m_BadWish m_BadNames (exm_of e_BadNames d_BadNames t_BadNames p_BadWish_BadNames)) (.cons (isaE_mk m_BadWish m_BadNumber (exm_of e_BadNumber d_BadNumber t_BadNumber p_BadWish_BadNumber)) (.cons (isaE_mk m_BadWish m_BadRule (exm_of e_BadRule d_BadRule t_BadRule p_BadWish_BadRule)) (.cons (isaE_mk m_BadWish m_BadWish (exm_of e_BadWish d_BadWish t_BadWish p_BadWish_BadWish)) (.cons (isaE_mk m_BadWish m_Doubled (exm_of e_Doubled d_Doubled t_Doubled p_BadWish_Doubled)) (.cons (isaE_mk m_BadWish m_TailError (exm_of e_TailError d_TailError t_TailError p_BadWish_TailError)) (.cons (isaE_mk m_Blurred m_BadName (exm_of e_BadName d_BadName t_BadName p_Blurred_BadName)) (.cons (isaE_mk m_Blurred m_BadNames (exm_of e_BadNames d_BadNames t_BadNames p_Blurred_BadNames)) (.cons (isaE_mk m_Blurred m_BadNumber (exm_of e_BadNumber d_BadNumber t_BadNumber p_Blurred_BadNumber)) (.cons (isaE_mk m_Blurred m_BadRule (exm_of e_BadRule d_BadRule t_BadRule p_Blurred_BadRule)) (.cons (isaE_mk m_Blurred m_BadWish (exm_of e_BadWish d_BadWish t_BadWish p_Blurred_BadWish)) (.cons (isaE_mk m_Blurred m_Doubled (exm_of e_Doubled d_Doubled t_Doubled p_Blurred_Doubled)) (.cons (isaE_mk m_Blurred m_TailError (exm_of e_TailError d_TailError t_TailError p_Blurred_TailError)) (.cons (isaE_mk m_Doubled m_BadName (exm_of e_BadName d_BadName t_BadName p_Doubled_BadName)) (.cons (isaE_mk m_Doubled m_BadNames (exm_of e_BadNames d_BadNames t_BadNames p_Doubled_BadNames)) (.cons (isaE_mk m_Doubled m_BadNumber (exm_of e_BadNumber d_BadNumber t_BadNumber p_Doubled_BadNumber)) (.cons (isaE_mk m_Doubled m_BadRule (exm_of e_BadRule d_BadRule t_BadRule p_Doubled_BadRule)) (.cons (isaE_mk m_Doubled m_BadWish (exm_of e_BadWish d_BadWish t_BadWish p_Doubled_BadWish)) (.cons (isaE_mk m_Doubled m_Doubled (exm_of e_Doubled d_Doubled t_Doubled p_Doubled_Doubled)) (.cons (isaE_mk m_Doubled m_TailError (exm_of e_TailError d_TailError t_TailError p_Doubled_TailError)) .nil)))))))))))))))))))))))))))))))))))))))))))))))))))))))))))))))
  have F1 := fun_mk (st := st__law_box) l1 c1 k1
  have b1 := F1.binds (ps := ["cell"]) fun _ _ _ _ _ _ us hl => match us, hl with | [_], _ => rfl
  have F2 := fun_mk (st := st_is_mark) l2 c2 k2
  have b2 := F2.binds (ps := ["value"]) fun _ _ _ _ _ _ us hl => match us, hl with | [_], _ => rfl
  have F3 := fun_mk (st := st_need_mark) l3 c3 k3
  have b3 := F3.binds (ps := ["mark"]) fun _ _ _ _ _ _ us hl => match us, hl with | [_], _ => rfl
  have F4 := fun_mk (st := st_parts) l4 c4 k4
  have b4 := F4.binds (ps := ["mark"]) fun _ _ _ _ _ _ us hl => match us, hl with | [_], _ => rfl
  have F5 := fun_mk (st := st_is_clear) l5 c5 k5
  have b5 := F5.binds (ps := ["mark"]) fun _ _ _ _ _ _ us hl => match us, hl with | [_], _ => rfl
  have F6 := fun_mk (st := st_name_first) l6 c6 k6
  have b6 := F6.binds (ps := ["mark"]) fun _ _ _ _ _ _ us hl => match us, hl with | [_], _ => rfl
  have F7 := fun_mk (st := st_two_readings) l7 c7 k7
  have b7 := F7.binds (ps := ["mark"]) fun _ _ _ _ _ _ us hl => match us, hl with | [_], _ => rfl
  have F8 := fun_mk (st := st_need_clear) l8 c8 k8
  have b8 := F8.binds (ps := ["mark"]) fun _ _ _ _ _ _ us hl => match us, hl with | [_], _ => rfl
  have F9 := fun_mk (st := st_Rule___init__) l9 c9 k9
  have b9 := F9.binds (ps := ["self", "mark", "way"]) fun _ _ _ _ _ _ us hl => match us, hl with | [_, _, _], _ => rfl
  have F10 := fun_mk (st := st__law_take) l10 c10 k10
  have b10 := F10.binds (ps := ["box", "many"]) fun _ _ _ _ _ _ us hl => match us, hl with | [_, _], _ => rfl
  have F11 := fun_mk (st := st__law_signs) l11 c11 k11
  have b11 := F11.binds (ps := ["box", "many"]) fun _ _ _ _ _ _ us hl => match us, hl with | [_, _], _ => rfl
  have F12 := fun_mk (st := st__law_is_name) l12 c12 k12
  have b12 := F12.binds (ps := ["value", "most"]) fun _ _ _ _ _ _ us hl => match us, hl with | [_, _], _ => rfl
  have F13 := fun_mk (st := st__law_spoilt) l13 c13 k13
  have b13 := F13.binds (ps := ["box", "odd"]) fun _ _ _ _ _ _ us hl => match us, hl with | [_, _], _ => rfl
  have F14 := fun_mk (st := st__law_cell) l14 c14 k14
  have b14 := F14.binds (ps := ["script", "k"]) fun _ _ _ _ _ _ us hl => match us, hl with | [_, _], _ => rfl
  have F15 := fun_mk (st := st__law_odd) l15 c15 k15
  have b15 := F15.binds (ps := ["box"]) fun _ _ _ _ _ _ us hl => match us, hl with | [_], _ => rfl
  have F16 := fun_mk (st := st__law_mark) l16 c16 k16
  have b16 := F16.binds (ps := ["box"]) fun _ _ _ _ _ _ us hl => match us, hl with | [_], _ => rfl
  have F17 := fun_mk (st := st_need_rule) l17 c17 k17
  have b17 := F17.binds (ps := ["rule"]) fun _ _ _ _ _ _ us hl => match us, hl with | [_], _ => rfl
  have F18 := fun_mk (st := st_is_name) l18 c18 k18
  have b18 := F18.binds (ps := ["value"]) fun _ _ _ _ _ _ us hl => match us, hl with | [_], _ => rfl
  have F19 := fun_mk (st := st_need_name) l19 c19 k19
  have b19 := F19.binds (ps := ["name"]) fun _ _ _ _ _ _ us hl => match us, hl with | [_], _ => rfl
  have F20 := fun_mk (st := st_number_in) l20 c20 k20
  have b20 := F20.binds (ps := ["value"]) fun _ _ _ _ _ _ us hl => match us, hl with | [_], _ => rfl
  have F21 := fun_mk (st := st_both_in) l21 c21 k21
  have b21 := F21.binds (ps := ["name", "figures"]) fun _ _ _ _ _ _ us hl => match us, hl with | [_, _], _ => rfl
  have F22 := fun_mk (st := st_number_ahead) l22 c22 k22
  have b22 := F22.binds (ps := ["text", "between"]) fun _ _ _ _ _ _ us hl => match us, hl with | [_, _], _ => rfl
  have F23 := fun_mk (st := st_number_behind) l23 c23 k23
  have b23 := F23.binds (ps := ["text", "between"]) fun _ _ _ _ _ _ us hl => match us, hl with | [_, _], _ => rfl
  have F24 := fun_mk (st := st_reading) l24 c24 k24
  have b24 := F24.binds (ps := ["mark", "name"]) fun _ _ _ _ _ _ us hl => match us, hl with | [_, _], _ => rfl
  have F25 := fun_mk (st := st_Rule_read) l25 c25 k25
  have b25 := F25.binds (ps := ["self", "name"]) fun _ _ _ _ _ _ us hl => match us, hl with | [_, _], _ => rfl
  have F26 := fun_mk (st := st_Rule_way) l26 c26 k26
  have b26 := F26.binds (ps := ["self"]) fun _ _ _ _ _ _ us hl => match us, hl with | [_], _ => rfl
  have F27 := fun_mk (st := st_is_wish) l27 c27 k27
  have b27 := F27.binds (ps := ["rule", "value"]) fun _ _ _ _ _ _ us hl => match us, hl with | [_, _], _ => rfl
  have F28 := fun_mk (st := st_need_wish) l28 c28 k28
  have b28 := F28.binds (ps := ["rule", "wish"]) fun _ _ _ _ _ _ us hl => match us, hl with | [_, _], _ => rfl
  have F29 := fun_mk (st := st_is_integer) l29 c29 k29
  have b29 := F29.binds (ps := ["value", "low", "high"]) fun _ _ _ _ _ _ us hl => match us, hl with | [_, _, _], _ => rfl
  have F30 := fun_mk (st := st_is_number) l30 c30 k30
  have b30 := F30.binds (ps := ["value"]) fun _ _ _ _ _ _ us hl => match us, hl with | [_], _ => rfl
  have F31 := fun_mk (st := st_need_number) l31 c31 k31
  have b31 := F31.binds (ps := ["number"]) fun _ _ _ _ _ _ us hl => match us, hl with | [_], _ => rfl
  have F32 := fun_mk (st := st_written) l32 c32 k32
  have b32 := F32.binds (ps := ["mark", "name", "number"]) fun _ _ _ _ _ _ us hl => match us, hl with | [_, _, _], _ => rfl
  have F33 := fun_mk (st := st_Rule_put) l33 c33 k33
  have b33 := F33.binds (ps := ["self", "name", "number"]) fun _ _ _ _ _ _ us hl => match us, hl with | [_, _, _], _ => rfl
  have F34 := fun_mk (st := st_name_at) l34 c34 k34
  have b34 := F34.binds (ps := ["rule", "wish", "at"]) fun _ _ _ _ _ _ us hl => match us, hl with | [_, _, _], _ => rfl
  have F35 := fun_mk (st := st_first_names) l35 c35 k35
  have b35 := F35.binds (ps := ["rule", "wish", "many"]) fun _ _ _ _ _ _ us hl => match us, hl with | [_, _, _], _ => rfl
  have F36 := fun_mk (st := st_place) l36 c36 k36
  have b36 := F36.binds (ps := ["rule", "wish", "name"]) fun _ _ _ _ _ _ us hl => match us, hl with | [_, _, _], _ => rfl
  have F37 := fun_mk (st := st_is_list) l37 c37 k37
  have b37 := F37.binds (ps := ["value", "most"]) fun _ _ _ _ _ _ us hl => match us, hl with | [_, _], _ => rfl
  have F38 := fun_mk (st := st_need_unlike) l38 c38 k38
  have b38 := F38.binds (ps := ["names", "most"]) fun _ _ _ _ _ _ us hl => match us, hl with | [_, _], _ => rfl
  have F39 := fun_mk (st := st_need_taken) l39 c39 k39
  have b39 := F39.binds (ps := ["taken"]) fun _ _ _ _ _ _ us hl => match us, hl with | [_], _ => rfl
  have F40 := fun_mk (st := st_free_on) l40 c40 k40
  have b40 := F40.binds (ps := ["rule", "held", "wish"]) fun _ _ _ _ _ _ us hl => match us, hl with | [_, _, _], _ => rfl
  have F41 := fun_mk (st := st_first_free) l41 c41 k41
  have b41 := F41.binds (ps := ["rule", "taken", "wish"]) fun _ _ _ _ _ _ us hl => match us, hl with | [_, _, _], _ => rfl
  have F42 := fun_mk (st := st__law_asked) l42 c42 k42
  have b42 := F42.binds (ps := ["way", "one", "other", "third"]) fun _ _ _ _ _ _ us hl => match us, hl with | [_, _, _, _], _ => rfl
  have F43 := fun_mk (st := st__law_very) l43 c43 k43
  have b43 := F43.binds (ps := ["found", "thing"]) fun _ _ _ _ _ _ us hl => match us, hl with | [_, _], _ => rfl
  have F44 := fun_mk (st := st__law_refused) l44 c44 k44
  have b44 := F44.binds (ps := ["way", "things", "word", "value"]) fun _ _ _ _ _ _ us hl => match us, hl with | [_, _, _, _], _ => rfl
  have F45 := fun_mk (st := st_law) l45 c45 k45
  refine ⟨PySem.W.fnOf "law" "law" (defArgs st_law) (defBody st_law) (defScope st_law) .none kV45 dc45 pm45 an45 cd45 ct45, fun s v => .of_eq rfl, fun base _ _ hN => ?_⟩
  have o__law_box := ownG_mk F1 (ok__law_box (P := l.prog) (w := w) (base := base) F1 T hN ) (PySem.W.mg_of X G a1) b1 rfl
  have o_is_mark := ownG_mk F2 (ok_is_mark (P := l.prog) (w := w) (base := base) F2 T hN ) (PySem.W.mg_of X G a2) b2 rfl
  have o_need_mark := ownG_mk F3 (ok_need_mark (P := l.prog) (w := w) (base := base) F3 T hN o_is_mark (X_BadMark base)) (PySem.W.mg_of X G a3) b3 rfl
  have o_parts := ownG_mk F4 (ok_parts (P := l.prog) (w := w) (base := base) F4 T hN ) (PySem.W.mg_of X G a4) b4 rfl
  have o_is_clear := ownG_mk F5 (ok_is_clear (P := l.prog) (w := w) (base := base) F5 T hN o_need_mark o_parts) (PySem.W.mg_of X G a5) b5 rfl
  have o_name_first := ownG_mk F6 (ok_name_first (P := l.prog) (w := w) (base := base) F6 T hN ) (PySem.W.mg_of X G a6) b6 rfl
  have o_two_readings := ownG_mk F7 (ok_two_readings (P := l.prog) (w := w) (base := base) F7 T hN o_is_clear o_parts o_name_first) (PySem.W.mg_of X G a7) b7 rfl
  have o_need_clear := ownG_mk F8 (ok_need_clear (P := l.prog) (w := w) (base := base) F8 T hN o_two_readings (X_Blurred base)) (PySem.W.mg_of X G a8) b8 rfl
  have I_Rule := ownI_mk (x := "Rule") m_Rule ⟨mk_Rule, a9, y9, kp_Rule⟩ (ok_Rule___init__ (P := l.prog) (w := w) (base := base) F9 T hN o_need_clear FL_Rule_rule_mark FL_Rule_rule_way (X_BadWay base)) b9 rfl
  have o__law_take := ownG_mk F10 (ok__law_take (P := l.prog) (w := w) (base := base) F10 T hN ) (PySem.W.mg_of X G a10) b10 rfl
  have o__law_signs := ownG_mk F11 (ok__law_signs (P := l.prog) (w := w) (base := base) F11 T hN o__law_take) (PySem.W.mg_of X G a11) b11 rfl
  have o__law_is_name := ownG_mk F12 (ok__law_is_name (P := l.prog) (w := w) (base := base) F12 T hN ) (PySem.W.mg_of X G a12) b12 rfl
  have o__law_spoilt := ownG_mk F13 (ok__law_spoilt (P := l.prog) (w := w) (base := base) F13 T hN o__law_take o__law_signs o__law_is_name) (PySem.W.mg_of X G a13) b13 rfl
  have o__law_cell := ownG_mk F14 (ok__law_cell (P := l.prog) (w := w) (base := base) F14 T hN ) (PySem.W.mg_of X G a14) b14 rfl
  have o__law_odd := ownG_mk F15 (ok__law_odd (P := l.prog) (w := w) (base := base) F15 T hN o__law_take) (PySem.W.mg_of X G a15) b15 rfl
  have o__law_mark := ownG_mk F16 (ok__law_mark (P := l.prog) (w := w) (base := base) F16 T hN o__law_take o__law_signs) (PySem.W.mg_of X G a16) b16 rfl
  have o_need_rule := ownG_mk F17 (ok_need_rule (P := l.prog) (w := w) (base := base) F17 T hN NI_Rule (X_BadRule base)) (PySem.W.mg_of X G a17) b17 rfl
  have o_is_name := ownG_mk F18 (ok_is_name (P := l.prog) (w := w) (base := base) F18 T hN ) (PySem.W.mg_of X G a18) b18 rfl
  have o_need_name := ownG_mk F19 (ok_need_name (P := l.prog) (w := w) (base := base) F19 T hN o_is_name (X_BadName base)) (PySem.W.mg_of X G a19) b19 rfl
  have o_number_in := ownG_mk F20 (ok_number_in (P := l.prog) (w := w) (base := base) F20 T hN ) (PySem.W.mg_of X G a20) b20 rfl
  have o_both_in := ownG_mk F21 (ok_both_in (P := l.prog) (w := w) (base := base) F21 T hN o_number_in o_is_name) (PySem.W.mg_of X G a21) b21 rfl
  have o_number_ahead := ownG_mk F22 (ok_number_ahead (P := l.prog) (w := w) (base := base) F22 T hN o_both_in) (PySem.W.mg_of X G a22) b22 rfl
  have o_number_behind := ownG_mk F23 (ok_number_behind (P := l.prog) (w := w) (base := base) F23 T hN o_both_in) (PySem.W.mg_of X G a23) b23 rfl
  have o_reading := ownG_mk F24 (ok_reading (P := l.prog) (w := w) (base := base) F24 T hN o_need_clear o_need_name o_parts o_name_first o_number_behind o_number_ahead) (PySem.W.mg_of X G a24) b24 rfl
  have o_Rule_read := ownM_mk (x := "Rule") m_Rule CL_Rule ⟨a25, y25, k25⟩ (ok_Rule_read (P := l.prog) (w := w) (base := base) F25 T hN o_reading FL_Rule_rule_mark) b25 rfl
  have o_Rule_way := ownM_mk (x := "Rule") m_Rule CL_Rule ⟨a26, y26, k26⟩ (ok_Rule_way (P := l.prog) (w := w) (base := base) F26 T hN FL_Rule_rule_way) b26 rfl
  have o_is_wish := ownG_mk F27 (ok_is_wish (P := l.prog) (w := w) (base := base) F27 T hN o_need_rule o_is_name o_Rule_read o_Rule_way) (PySem.W.mg_of X G a27) b27 rfl
  have o_need_wish := ownG_mk F28 (ok_need_wish (P := l.prog) (w := w) (base := base) F28 T hN o_is_wish (X_BadWish base)) (PySem.W.mg_of X G a28) b28 rfl
  have o_is_integer := ownG_mk F29 (ok_is_integer (P := l.prog) (w := w) (base := base) F29 T hN ) (PySem.W.mg_of X G a29) b29 rfl
  have o_is_number := ownG_mk F30 (ok_is_number (P := l.prog) (w := w) (base := base) F30 T hN o_is_integer) (PySem.W.mg_of X G a30) b30 rfl
  have o_need_number := ownG_mk F31 (ok_need_number (P := l.prog) (w := w) (base := base) F31 T hN o_is_number (X_BadNumber base)) (PySem.W.mg_of X G a31) b31 rfl
  have o_written := ownG_mk F32 (ok_written (P := l.prog) (w := w) (base := base) F32 T hN o_need_mark o_need_name o_need_number o_parts o_name_first) (PySem.W.mg_of X G a32) b32 rfl
  have o_Rule_put := ownM_mk (x := "Rule") m_Rule CL_Rule ⟨a33, y33, k33⟩ (ok_Rule_put (P := l.prog) (w := w) (base := base) F33 T hN o_written FL_Rule_rule_mark) b33 rfl
  have o_name_at := ownG_mk F34 (ok_name_at (P := l.prog) (w := w) (base := base) F34 T hN o_Rule_way o_Rule_read o_Rule_put) (PySem.W.mg_of X G a34) b34 rfl
  have o_first_names := ownG_mk F35 (ok_first_names (P := l.prog) (w := w) (base := base) F35 T hN o_need_rule o_need_wish o_is_integer o_name_at (X_BadNumber base)) (PySem.W.mg_of X G a35) b35 rfl
  have o_place := ownG_mk F36 (ok_place (P := l.prog) (w := w) (base := base) F36 T hN o_need_rule o_need_wish o_need_name) (PySem.W.mg_of X G a36) b36 rfl
  have o_is_list := ownG_mk F37 (ok_is_list (P := l.prog) (w := w) (base := base) F37 T hN ) (PySem.W.mg_of X G a37) b37 rfl
  have o_need_unlike := ownG_mk F38 (ok_need_unlike (P := l.prog) (w := w) (base := base) F38 T hN o_is_list o_is_name (X_BadName base) (X_BadNames base) (X_Doubled base)) (PySem.W.mg_of X G a38) b38 rfl
  have o_need_taken := ownG_mk F39 (ok_need_taken (P := l.prog) (w := w) (base := base) F39 T hN o_need_unlike) (PySem.W.mg_of X G a39) b39 rfl
  have o_free_on := ownG_mk F40 (ok_free_on (P := l.prog) (w := w) (base := base) F40 T hN o_name_at) (PySem.W.mg_of X G a40) b40 rfl
  have o_first_free := ownG_mk F41 (ok_first_free (P := l.prog) (w := w) (base := base) F41 T hN o_need_rule o_need_taken o_need_wish o_free_on) (PySem.W.mg_of X G a41) b41 rfl
  have o__law_asked := ownG_mk F42 (ok__law_asked (P := l.prog) (w := w) (base := base) F42 T hN o_first_names o_place o_first_free (X_BadName base) (X_BadNames base) (X_BadNumber base) (X_BadRule base) (X_BadWish base) (X_Doubled base) ⟨_, m_TailError⟩ ia) (PySem.W.mg_of X G a42) b42 rfl
  have o__law_very := ownG_mk F43 (ok__law_very (P := l.prog) (w := w) (base := base) F43 T hN ) (PySem.W.mg_of X G a43) b43 rfl
  have o__law_refused := ownG_mk F44 (ok__law_refused (P := l.prog) (w := w) (base := base) F44 T hN o__law_asked o__law_very) (PySem.W.mg_of X G a44) b44 rfl
  exact lawG_of (ok_law (P := l.prog) (w := w) (base := base) F45 T hN o__law_box o__law_cell o__law_odd o__law_mark o__law_take o__law_refused o__law_is_name o__law_spoilt o__law_asked I_Rule) pure
end
end T_k15

namespace T_k15
open PySem L2 L3
theorem box_rp {z : Int} {cs : Cells} {P : D → Cells → Prop} {X : KX} (h : P (.loc cs.length) (cs ++ [.lst [.int (if z - 10 ^ 18 > 0 then z - 10 ^ 18 else 0), .int (z % 2147483629), .int 0]])) : RP (m__law_box [.int z] cs) P X := by
  unfold m__law_box mb__law_box
  simp only [rp_def, List.map_cons, List.map_nil, List.length_cons, List.length_nil, Nat.reduceAdd, Nat.reduceSub, List.replicate_zero, List.replicate_succ, List.append_nil, List.cons_append, List.nil_append,
    sp_ret, rp_list, rap_cons, rap_nil, rp_bi, rp_c, rp_op2, rp_op1, rp_max, rp_varM, List.getElem?_cons_zero, List.getElem?_cons_succ, rp_sub, rp_pow, rp_mod, Int.reduceLT, Int.reduceLE, Int.reduceNeg, true_and, and_true, and_self, Int.reduceToNat, rp_mkLt, sizeLine_eq, Nat.reduceLeDiff]
  exact h
theorem take_rp {n B : Nat} {many : Int} {cs : Cells} {P : D → Cells → Prop} {X : KX} (hb : Bx cs n B) (hB : B < 1000000) (h1 : 0 < many) (h2 : many < big)
    (hP : ∀ (r : Int) (c' : Cells), 0 ≤ r → r < many → Bx c' n (B + 1) → (∀ m, m ≠ n → c'[m]? = cs[m]?) → c'.length = cs.length → P (.int r) c') : RP (m__law_take [.loc n, .int many] cs) P X := by
  obtain ⟨a, b, c, hc, hb0, hb1, hc0, hc1⟩ := hb
  have hl := loc_list hc
  have hd : 0 < many ∧ many < big := ⟨h1, h2⟩
  unfold m__law_take mb__law_take
  simp only [rp_def, List.map_cons, List.map_nil, List.length_cons, List.length_nil, Nat.reduceAdd, Nat.reduceSub, List.replicate_zero, List.replicate_succ, List.append_nil, List.cons_append, List.nil_append, List.set_cons_zero, List.set_cons_succ,
    sp_ret, sp_seq, sp_asg, sp_if, sp_put, sp_nx, SP_brS, rp_c, rp_op2, rp_op1, rp_varM, List.getElem?_cons_zero, List.getElem?_cons_succ, rp_ixLocM, hl, at3_0, at3_1, at3_2, rp_gt, decide_eq_true_eq, rp_mod, h1, rp_fdiv, hd, and_self]
  split
  · obtain ⟨c4, e4, q4, k4, l4⟩ := put_at (v := .int (a / many)) hc (k := 0) (j := 0) rfl
    exact ⟨c4, e4, hP _ c4 (Int.emod_nonneg _ (by omega)) (Int.emod_lt_of_pos _ h1) ⟨_, b, c, q4, hb0, hb1, hc0, by omega⟩ k4 l4⟩
  · rename_i ha
    simp only [rp_addI]
    obtain ⟨c4, e4, q4, k4, l4⟩ := put_at (v := .int (c + 1)) hc (k := 2) (j := 2) rfl
    refine ⟨c4, e4, ?_⟩
    have hl4 := loc_list q4
    simp only [List.set_cons_zero, List.set_cons_succ] at hl4 q4
    simp only [hl4, at3_0, at3_1, at3_2, rp_c, rp_op2, rp_varM, List.getElem?_cons_zero, List.getElem?_cons_succ, rp_ixLocM, List.set_cons_zero, List.set_cons_succ]
    have m1 : ∀ y : Int, (-big < 7919 ∧ 7919 < big) ∨ (-big < y ∧ y < big) := fun _ => .inl (by decide)
    have p1 : 0 ≤ (5 : Int) ∧ (5 : Int) ≤ 1000000 ∧ -big < b + 7919 * (c + 1) + 37 ∧ b + 7919 * (c + 1) + 37 < big := by unfold big; omega
    have m2 : ∀ y : Int, (-big < 104729 ∧ 104729 < big) ∨ (-big < y ∧ y < big) := fun _ => .inl (by decide)
    have m3 : ∀ x : Int, (-big < x ∧ x < big) ∨ (-big < c + 1 ∧ c + 1 < big) := fun _ => .inr (by unfold big; omega)
    have m4 : ∀ y : Int, (-big < 536870909 ∧ 536870909 < big) ∨ (-big < y ∧ y < big) := fun _ => .inl (by decide)
    have d8 : 0 < (8 : Int) ∧ (8 : Int) < big := by decide
    have d4 : 0 < (4 : Int) ∧ (4 : Int) < big := by decide
    rw [rp_mulI (m1 _), rp_addI, rp_addI, rp_pow p1, rp_mod (by decide)]
    generalize hone : (b + 7919 * (c + 1) + 37) ^ Int.toNat 5 % 2147483647 = one
    have o0 : 0 ≤ one := by rw [← hone]; exact Int.emod_nonneg _ (by decide)
    have o1 : one < 2147483647 := by rw [← hone]; exact Int.emod_lt_of_pos _ (by decide)
    have hcc : 0 ≤ (c + 1) * (c + 1) ∧ (c + 1) * (c + 1) ≤ 1000001 * 1000001 := ⟨Int.mul_nonneg (by omega) (by omega), Int.mul_le_mul (by omega) (by omega) (by omega) (by decide)⟩
    have hass : 104729 * (c + 1) * (c + 1) = 104729 * ((c + 1) * (c + 1)) := Int.mul_assoc _ _ _
    have p2 : 0 ≤ (3 : Int) ∧ (3 : Int) ≤ 1000000 ∧ -big < one / 8 + 104729 * (c + 1) * (c + 1) + 11 ∧ one / 8 + 104729 * (c + 1) * (c + 1) + 11 < big := by
      rw [hass]; unfold big; omega
    rw [rp_fdiv d8]
    simp only [hl4, at3_2]
    rw [rp_mulI (m2 _)]
    simp only [hl4, at3_2]
    rw [rp_mulI (m3 _), rp_addI, rp_addI, rp_pow p2, rp_mod (by decide), rp_fdiv d4, rp_fdiv d4, rp_mulI (m4 _), rp_addI, rp_mod h1]
    exact hP _ c4 (Int.emod_nonneg _ (by omega)) (Int.emod_lt_of_pos _ h1) ⟨a, b, c + 1, q4, hb0, hb1, by omega, by omega⟩ k4 l4
theorem cell_rp {ns : List Int} {k : Int} {cs : Cells} {P : D → Cells → Prop} {X : KX} (h0 : 0 ≤ k) (h : ∀ z, P (.int z) cs) : RP (m__law_cell [.scr ns, .int k] cs) P X := by
  unfold m__law_cell mb__law_cell
  simp only [rp_def, List.map_cons, List.map_nil, List.length_cons, List.length_nil, Nat.reduceAdd, Nat.reduceSub, List.replicate_zero, List.replicate_succ, List.append_nil, List.cons_append, List.nil_append,
    sp_ret, sp_seq, sp_if, sp_nx, SP_brS, rap_cons, rap_nil, rp_bi, rp_c, rp_op2, rp_varM, List.getElem?_cons_zero, List.getElem?_cons_succ, rp_lenScr, rp_lt, decide_eq_true_eq]
  split
  · rename_i hk
    obtain ⟨z, e, _⟩ := at_mid (ds := ns) h0 hk
    rw [rp_ixScr e]
    exact h z
  · rw [rp_mulI (.inl (by decide)), rp_addI]
    exact h _

abbrev SG : List Nat := [97, 98, 99, 100, 101, 102, 103, 104, 105, 106, 107, 108, 109, 110, 111, 112, 113, 114, 115, 116, 117, 118, 119, 120, 121, 122, 48, 49, 50, 51, 52, 53, 54, 55, 56, 57, 45, 95, 46, 40, 41]
theorem all_filter (S l : List Nat) : (l.all fun c => decide (c ∈ S)) = (l.filter fun c => !decide (c ∈ S)).isEmpty := by
  rw [Bool.eq_iff_iff, List.isEmpty_iff, List.filter_eq_nil_iff, List.all_eq_true]
  simp
def nm (l : List Nat) : Bool := decide (1 ≤ l.length ∧ l.length ≤ 200) && l.all fun c => decide (c ∈ SG)
abbrev TY : List String := ["NoneType", "bool", "int", "list", "tuple", "dict"]
theorem isn_non {d : D} {cs : Cells} {u : String} {P : D → Cells → Prop} {X : KX} (h : tyC cs d = some u) (q : u ∈ TY) (k : P (.bl false) cs) : RP (m_is_name [d] cs) P X := by
  unfold m_is_name mb_is_name
  simp only [rp_def, List.map_cons, List.map_nil, List.length_cons, List.length_nil, Nat.reduceAdd, Nat.reduceSub, List.replicate_zero, List.replicate_succ, List.append_nil, List.cons_append, List.nil_append,
    sp_ret, sp_seq, sp_if, sp_nx, SP_brS, rp_c, rp_op1, rp_not, rp_or, rp_varM, List.getElem?_cons_zero, isi_nstr h q, rp_notD, RP_br, RP_ok, Bool.not_false, cond_true, if_true]
  exact k
theorem isn_str {l : List Nat} {cs : Cells} {P : D → Cells → Prop} {X : KX} (hl : l.length ≤ sizeLine) (k : P (.bl (nm l)) cs) : RP (m_is_name [.str l] cs) P X := by
  unfold m_is_name mb_is_name
  simp only [rp_def, List.map_cons, List.map_nil, List.length_cons, List.length_nil, Nat.reduceAdd, Nat.reduceSub, List.replicate_zero, List.replicate_succ, List.append_nil, List.cons_append, List.nil_append,
    sp_ret, sp_seq, sp_if, sp_nx, SP_brS, rap_cons, rap_nil, rp_bi, rp_c, rp_op2, rp_op1, rp_not, rp_or, rp_varM, List.getElem?_cons_zero, List.getElem?_cons_succ, isi_str, rp_notD, RP_br, RP_ok, Bool.not_true, cond_false, rp_chain, rp_lenS hl, rp_le, RP_bind, rp_lc, wp_seq]
  by_cases hlen : 1 ≤ l.length ∧ l.length ≤ 200
  · have a1 : decide ((1 : Int) ≤ (l.length : Int)) = true := by simp; omega
    have a2 : decide ((l.length : Int) ≤ 200) = true := by simp; omega
    simp only [a1, a2, cond_true, Bool.not_true, Bool.false_eq_true, if_false]
    rw [lc_map (g := fun d => match d with | .str [c] => .bl (decide (c ∈ SG)) | _ => .non) trivial ?_]
    · have e1 : (List.map (fun d => match d with | D.str [c] => D.bl (decide (c ∈ SG)) | x => D.non) (List.map (fun ch => D.str [ch]) l)) = (l.map fun c => decide (c ∈ SG)).map D.bl := by
        rw [List.map_map, List.map_map]; rfl
      rw [e1]
      show RP (mkL false cs _) _ _
      rw [rp_mkLf (by rw [List.length_map, List.length_map]; exact hl), rp_allL]
      have : nm l = ((l.map fun c => decide (c ∈ SG)).all _root_.id) := by
        unfold nm
        rw [decide_eq_true hlen, Bool.true_and, List.all_map]
        rfl
      rw [← this]
      exact k
    · intro d hd
      obtain ⟨c, hc, rfl⟩ := List.mem_map.mp hd
      exact ⟨_, rfl, rfl, rfl⟩
  · have en : nm l = false := by unfold nm; rw [decide_eq_false hlen]; rfl
    rw [en] at k
    by_cases h1 : (1 : Int) ≤ (l.length : Int)
    · have h2 : ¬ (l.length : Int) ≤ 200 := by omega
      simp only [h1, h2, decide_true, decide_false, cond_true, Bool.not_false, if_true]
      exact k
    · simp only [h1, decide_false, cond_false, Bool.not_false, cond_true, if_true]
      exact k

abbrev TZ : List String := ["NoneType", "bool", "int", "str", "list", "tuple", "dict"]
def ig (d : D) (lo hi : Int) : Bool := match d with
  | .int i => decide (lo ≤ i) && decide (i ≤ hi)
  | _ => false
theorem chain_ii {lo i hi : Int} {env : L3.Env} {cs : Cells} {a b c : Nat} {P : D → Cells → Prop} {X : KX} (h1 : env[a]? = some (some (.int lo))) (h2 : env[b]? = some (some (.int i))) (h3 : env[c]? = some (some (.int hi))) (k : P (.bl (decide (lo ≤ i) && decide (i ≤ hi))) cs) : RP (eChain leD leD (eVar a) (eVar b) (eVar c) env cs) P X := by
  simp only [rp_chain, rp_varM, h1, h2, h3, rp_le, RP_br, RP_bind, RP_ok]
  by_cases q : lo ≤ i
  · simp only [q, decide_true, cond_true, Bool.true_and] at k ⊢; exact k
  · simp only [q, decide_false, cond_false, Bool.false_and] at k ⊢; exact k
theorem int_rp {d : D} {lo hi : Int} {cs : Cells} {u : String} {P : D → Cells → Prop} {X : KX} (h : tyC cs d = some u) (q : u ∈ TZ) (hi' : u = "int" → ∃ i, d = .int i) (hn : u ≠ "int" → ∀ i, d ≠ .int i) (k : P (.bl (ig d lo hi)) cs) : RP (m_is_integer [d, .int lo, .int hi] cs) P X := by
  unfold m_is_integer mb_is_integer
  simp only [rp_def, List.map_cons, List.map_nil, List.length_cons, List.length_nil, Nat.reduceAdd, Nat.reduceSub, List.replicate_zero, List.replicate_succ, List.append_nil, List.cons_append, List.nil_append,
    sp_ret, rp_and, rp_op1, rp_not, rp_varM, List.getElem?_cons_zero, isi_int h q, isi_bool h q, rp_notD, RP_br, RP_ok]
  by_cases e : u = "int"
  · subst e
    obtain ⟨i, rfl⟩ := hi' rfl
    have e1 : decide (("int" : String) = "int" ∨ ("int" : String) = "bool") = true := by decide
    have e2 : decide (("int" : String) = "bool") = false := by decide
    simp only [e1, e2, cond_true, Bool.not_false]
    exact chain_ii rfl rfl rfl k
  · have kf : ig d lo hi = false := by
      unfold ig
      cases d <;> first | rfl | exact absurd rfl (hn e _)
    rw [kf] at k
    by_cases e2 : u = "bool"
    · subst e2
      have e1 : decide (("bool" : String) = "int" ∨ ("bool" : String) = "bool") = true := by decide
      simp only [e1, decide_true, cond_true, Bool.not_true, cond_false]
      exact k
    · have e1 : decide (u = "int" ∨ u = "bool") = false := by simp [e, e2]
      simp only [e1, cond_false]
      exact k

theorem signs_rp {n B : Nat} {m : Int} {cs : Cells} {P : D → Cells → Prop} {X : KX} (hb : Bx cs n B) (h0 : 0 ≤ m) (h1 : m ≤ 1000) (hB : B < 900000)
    (k : ∀ (l : List Nat) (c' : Cells), l.length = m.toNat → (∀ c ∈ l, c ∈ SG) → Bx c' n (B + m.toNat) → P (.str l) c') : RP (m__law_signs [.loc n, .int m] cs) P X := by
  unfold m__law_signs mb__law_signs
  simp only [rp_def, List.map_cons, List.map_nil, List.length_cons, List.length_nil, Nat.reduceAdd, Nat.reduceSub, List.replicate_zero, List.replicate_succ, List.append_nil, List.cons_append, List.nil_append,
    sp_ret, rp_m1, rp_c, rp_lc, wp_r1, rp_varM, List.getElem?_cons_zero, List.getElem?_cons_succ]
  refine ⟨by unfold lim; omega, ?_⟩
  have hlc := lc_inv (X := X) (chk := fun _ => True) (tg := tgN 2) (t := eC (.bl true)) (e := op2 ixD (eC (D.str SG)) (eCall m__law_take (aCons (eVar 0) (aCons (eC (D.int 41)) aNil))))
    (items := rangeD 0 m.toNat) (env := wipeE [some (D.loc n), some (D.int m), none] [2]) (cs := cs)
    (fun i ds c => Bx c n (B + i) ∧ ∃ ls, strsOf ds = some ls ∧ ls.length = i ∧ ∀ z ∈ ls, z.length = 1 ∧ ∀ c ∈ z, c ∈ SG) [] ⟨hb, [], rfl, rfl, fun _ h => by cases h⟩ (fun _ _ _ => trivial) (fun j d ds c hj ⟨hb, ls, h1, h2, h3⟩ => by
    obtain ⟨hj, rfl⟩ := range_get hj
    refine ⟨trivial, _, rfl, ?_⟩
    rw [rp_c]
    refine ⟨true, rfl, ?_⟩
    rw [if_pos rfl]
    simp only [rp_op2, rp_c, rp_call, rap_cons, rap_nil, rp_varM, wipeE, List.set_cons_zero, List.set_cons_succ, List.getElem?_cons_zero, List.getElem?_cons_succ]
    refine take_rp hb (by omega) (by decide) (by decide) fun r c' r0 r1 hb' _ _ => ?_
    refine rp_ixSA (by rw [sizeLine_eq]; decide) r0 (Int.lt_of_lt_of_le r1 (by decide)) fun ch hch => ?_
    refine ⟨hb', ls ++ [[ch]], strsOf_app h1 rfl, by simp [h2], fun z hz => ?_⟩
    rcases List.mem_append.mp hz with hz | hz
    · exact h3 z hz
    · rw [List.mem_singleton.mp hz]; exact ⟨rfl, fun c hc => by rw [List.mem_singleton.mp hc]; exact hch⟩)
  refine RAP.mono hlc fun ds c6 ⟨hb, ls, h1, h2, h3⟩ => ?_
  rw [List.nil_append] at h1
  rw [rangeD_length] at hb h2
  have hjn : (ls.map (·.length)).sum + ls.length * ([] : List Nat).length ≤ 16777216 := by rw [ones_sum fun z hz => (h3 z hz).1]; simp; omega
  rw [rp_mkLf (by rw [sizeLine_eq, strsOf_len h1]; omega), rp_join seq_lst h1 hjn, joinL_nil]
  refine k _ _ (by rw [ones_len fun z hz => (h3 z hz).1, h2]) (fun c hc => ?_) hb
  obtain ⟨z, hz, hcz⟩ := List.mem_flatten.mp hc
  exact (h3 z hz).2 c hcz

abbrev figs : List Nat := [48, 49, 50, 51, 52, 53, 54, 55, 56, 57]
theorem figs_mem {c : Nat} : c ∈ figs ↔ 48 ≤ c ∧ c ≤ 57 := by
  simp only [figs, List.mem_cons, List.not_mem_nil, or_false]; omega
instance decDig (l : List Nat) : Decidable (NumText.AllDigits l) := inferInstanceAs (Decidable (∀ c ∈ l, 48 ≤ c ∧ c ≤ 57))
open NumText in
def nuL (l : List Nat) : D := if 1 ≤ l.length ∧ l.length ≤ 15 ∧ AllDigits l ∧ l.head? ≠ some 48 ∧ 1 < digitsVal l then .int (digitsVal l) else .non
theorem num_non {d : D} {cs : Cells} {u : String} {P : D → Cells → Prop} {X : KX} (h : tyC cs d = some u) (q : u ∈ ["NoneType", "bool", "int", "list", "tuple", "dict"]) (k : P .non cs) : RP (m_number_in [d] cs) P X := by
  unfold m_number_in mb_number_in
  simp only [rp_def, List.map_cons, List.map_nil, List.length_cons, List.length_nil, Nat.reduceAdd, Nat.reduceSub, List.replicate_zero, List.replicate_succ, List.append_nil, List.cons_append, List.nil_append, List.set_cons_zero, List.set_cons_succ,
    sp_ret, sp_seq, sp_asg, sp_if, sp_nx, SP_brS, rap_cons, rap_nil, rp_bi, rp_c, rp_op2, rp_op1, rp_not, rp_or, rp_varM, List.getElem?_cons_zero, List.getElem?_cons_succ, isi_nstr h q, rp_notD, RP_br, RP_ok, Bool.not_false, cond_true, if_true]
  exact k
section
open NumText
theorem num_str {l : List Nat} {cs : Cells} {P : D → Cells → Prop} {X : KX} (hl : l.length ≤ sizeLine) (k : P (nuL l) cs) : RP (m_number_in [.str l] cs) P X := by
  unfold m_number_in mb_number_in
  have h0 : (0 : Int) ≤ 0 := by decide
  simp only [rp_def, List.map_cons, List.map_nil, List.length_cons, List.length_nil, Nat.reduceAdd, Nat.reduceSub, List.replicate_zero, List.replicate_succ, List.append_nil, List.cons_append, List.nil_append, List.set_cons_zero, List.set_cons_succ,
    sp_ret, sp_seq, sp_asg, sp_if, sp_nx, SP_brS, rap_cons, rap_nil, rp_bi, rp_c, rp_op2, rp_op1, rp_not, rp_or, rp_varM, List.getElem?_cons_zero, List.getElem?_cons_succ, isi_str, rp_notD, RP_br, RP_ok, Bool.not_true, cond_false, rp_chain, rp_lenS hl, rp_le, RP_bind, rp_lc, wp_seq, rp_if, rp_gt]
  by_cases hlen : 1 ≤ l.length ∧ l.length ≤ 15
  · have a1 : decide ((1 : Int) ≤ (l.length : Int)) = true := by simp; omega
    have a2 : decide ((l.length : Int) ≤ 15) = true := by simp; omega
    simp only [a1, a2, cond_true, Bool.not_true, Bool.false_eq_true, if_false]
    rw [lc_map (g := fun d => match d with | .str [c] => .bl (decide (c ∈ figs)) | _ => .non) trivial ?_]
    · have e1 : (List.map (fun d => match d with | D.str [c] => D.bl (decide (c ∈ figs)) | x => D.non) (List.map (fun ch => D.str [ch]) l)) = (l.map fun c => decide (c ∈ figs)).map D.bl := by
        rw [List.map_map, List.map_map]; rfl
      rw [e1]
      show RP (mkL false cs _) _ _
      rw [rp_mkLf (by rw [List.length_map, List.length_map]; exact hl), rp_allL, rp_notD]
      have e2 : ((l.map fun c => decide (c ∈ figs)).all _root_.id) = decide (AllDigits l) := by
        rw [Bool.eq_iff_iff, List.all_map, List.all_eq_true, decide_eq_true_eq]
        exact ⟨fun h c hc => figs_mem.mp (by simpa using h c hc), fun h c hc => by simpa using figs_mem.mpr (h c hc)⟩
      rw [e2]
      cases l with
      | nil => simp at hlen
      | cons ch r =>
        by_cases hd : AllDigits (ch :: r)
        · simp only [hd, decide_true, Bool.not_true, RP_br, cond_false, rp_op2, rp_c, rp_varM, List.getElem?_cons_zero, rp_ixS hl atI_0, rp_eqS]
          by_cases hz : ch = 48
          · subst hz
            simp only [decide_true, SP_brS, if_true, sp_ret, rp_c]
            have : nuL (48 :: r) = .non := by unfold nuL; rw [if_neg]; simp
            rw [← this]; exact k
          · have hz2 : ¬ [ch] = [48] := by simpa using hz
            have ht := intText_digits (x := ⟨(ch :: r).toArray⟩) (by simpa using hd) (by simp) (by rw [str_len]; omega)
            simp only [hz2, decide_false, SP_brS, Bool.false_eq_true, if_false, sp_nx, List.getElem?_cons_zero, rp_int ht (by omega), List.set_cons_zero, List.set_cons_succ, List.getElem?_cons_succ, rp_gt, RP_br, rp_varM, rp_c]
            have en : nuL (ch :: r) = if (1 : Int) < (digitsVal (ch :: r) : Nat) then .int (digitsVal (ch :: r)) else .non := by
              unfold nuL
              by_cases h1 : 1 < digitsVal (ch :: r)
              · rw [if_pos ⟨hlen.1, hlen.2, hd, by simpa using hz, h1⟩, if_pos (by omega)]
              · rw [if_neg (fun h => h1 h.2.2.2.2), if_neg (by omega)]
            rw [en] at k
            by_cases h1 : (1 : Int) < (digitsVal (ch :: r) : Nat)
            · simp only [h1, if_true, decide_true, cond_true] at k ⊢; exact k
            · simp only [h1, if_false, decide_false, cond_false] at k ⊢; exact k
        · simp only [hd, decide_false, Bool.not_false, RP_br, cond_true, RP_ok, SP_brS, if_true, sp_ret, rp_c]
          have : nuL (ch :: r) = .non := by unfold nuL; rw [if_neg]; exact fun h => hd h.2.2.1
          rw [← this]; exact k
    · intro d hd
      obtain ⟨c, hc, rfl⟩ := List.mem_map.mp hd
      exact ⟨_, rfl, rfl, rfl⟩
  · have en : nuL l = .non := by unfold nuL; rw [if_neg]; exact fun h => hlen ⟨h.1, h.2.1⟩
    rw [en] at k
    by_cases h1 : (1 : Int) ≤ (l.length : Int)
    · have h2 : ¬ (l.length : Int) ≤ 15 := by omega
      simp only [h1, h2, decide_true, decide_false, cond_true, Bool.not_false, if_true]
      exact k
    · simp only [h1, decide_false, cond_false, Bool.not_false, cond_true, if_true]
      exact k
end

abbrev FG : List Nat := [48, 49, 50, 51, 52, 53, 54, 55, 56, 57]
/-- a mark, by its parts -/
structure Mk (l pre near post : List Nat) (s1 s2 : Nat) : Prop where
  eq : l = pre ++ s1 :: (near ++ s2 :: post)
  pl : (s1 = 42 ∧ s2 = 35) ∨ (s1 = 35 ∧ s2 = 42)
  a : ∀ c ∈ pre, c ∈ SG
  b : ∀ c ∈ near, c ∈ SG
  c : ∀ c ∈ post, c ∈ SG
  len : l.length ≤ 12
def mkB (l : List Nat) : Bool := decide (l.length ≤ 12) && (decide (l.count 42 = 1) && (decide (l.count 35 = 1) && l.all fun c => decide (c ∈ SG) || (decide ([42] = [c]) || (decide ([35] = [c]) || false))))
theorem no_star {l : List Nat} (h : ∀ c ∈ l, c ∈ SG) : 42 ∉ l := fun m => absurd (h _ m) (by decide)
theorem no_hash {l : List Nat} (h : ∀ c ∈ l, c ∈ SG) : 35 ∉ l := fun m => absurd (h _ m) (by decide)
theorem Mk.ok {l pre near post : List Nat} {s1 s2 : Nat} (m : Mk l pre near post s1 s2) : mkB l = true := by
  have p1 := List.count_eq_zero.mpr (no_star m.a)
  have p2 := List.count_eq_zero.mpr (no_star m.b)
  have p3 := List.count_eq_zero.mpr (no_star m.c)
  have q1 := List.count_eq_zero.mpr (no_hash m.a)
  have q2 := List.count_eq_zero.mpr (no_hash m.b)
  have q3 := List.count_eq_zero.mpr (no_hash m.c)
  have hl := m.len
  have c1 : l.count 42 = 1 := by
    rw [m.eq]
    rcases m.pl with ⟨rfl, rfl⟩ | ⟨rfl, rfl⟩ <;> simp [List.count_append, List.count_cons, p1, p2, p3]
  have c2 : l.count 35 = 1 := by
    rw [m.eq]
    rcases m.pl with ⟨rfl, rfl⟩ | ⟨rfl, rfl⟩ <;> simp [List.count_append, List.count_cons, q1, q2, q3]
  have c3 : l.all (fun c => decide (c ∈ SG) || (decide ([42] = [c]) || (decide ([35] = [c]) || false))) = true := by
    rw [List.all_eq_true]
    intro x hx
    rw [m.eq] at hx
    have sg : ∀ z, z ∈ SG → (decide (z ∈ SG) || (decide ([42] = [z]) || (decide ([35] = [z]) || false))) = true := fun z hz => by rw [decide_eq_true hz]; rfl
    have pl : ∀ z, z = s1 ∨ z = s2 → (decide (z ∈ SG) || (decide ([42] = [z]) || (decide ([35] = [z]) || false))) = true := by
      intro z hz
      rcases m.pl with ⟨e1, e2⟩ | ⟨e1, e2⟩ <;> rw [e1, e2] at hz <;> rcases hz with rfl | rfl <;> decide
    rcases List.mem_append.mp hx with h | h
    · exact sg _ (m.a _ h)
    · rcases List.mem_cons.mp h with h | h
      · exact pl _ (.inl h)
      · rcases List.mem_append.mp h with h | h
        · exact sg _ (m.b _ h)
        · rcases List.mem_cons.mp h with h | h
          · exact pl _ (.inr h)
          · exact sg _ (m.c _ h)
  unfold mkB
  rw [decide_eq_true hl, decide_eq_true c1, decide_eq_true c2, c3]; rfl
theorem ism_non {d : D} {cs : Cells} {u : String} {P : D → Cells → Prop} {X : KX} (h : tyC cs d = some u) (q : u ∈ TY) (k : P (.bl false) cs) : RP (m_is_mark [d] cs) P X := by
  unfold m_is_mark mb_is_mark
  simp only [rp_def, List.map_cons, List.map_nil, List.length_cons, List.length_nil, Nat.reduceAdd, Nat.reduceSub, List.replicate_zero, List.replicate_succ, List.append_nil, List.cons_append, List.nil_append, List.set_cons_zero, List.set_cons_succ, sp_ret, sp_seq, sp_asg, sp_if, sp_nx, sp_drop, SP_brS, rap_cons, rap_nil, rp_bi, rp_c, rp_op2, rp_op1, rp_not, rp_or, rp_and, rp_if, rp_call, rp_varM, List.getElem?_cons_zero, List.getElem?_cons_succ, rp_notD, RP_br, RP_ok, isi_nstr h q, Bool.not_false, cond_true, if_true]
  exact k
theorem sg_elem {c : Nat} {i : Nat} {env : L3.Env} {cs : Cells} (h : env[i]? = some (some (.str [c]))) : (eOr (op2 inD (eVar i) (eC (.str SG))) (op2 inD (eVar i) (eTup (aCons (eC (.str [42])) (aCons (eC (.str [35])) aNil))))) env cs = .ok (.bl (decide (c ∈ SG) || (decide ([42] = [c]) || (decide ([35] = [c]) || false)))) cs := by
  refine RP.eq ?_
  simp only [rp_or, rp_op2, rp_varM, rp_c, h, rp_inS, RP_br, RP_ok, rp_tup, rap_cons, rap_nil, rp_mkT (cs := cs) (ds := [D.str [42], .str [35]]) (by rw [sizeLine_eq]; simp)]
  cases decide (c ∈ SG) with
  | true => first | exact ⟨rfl, rfl⟩ | exact ⟨rfl, trivial⟩ | exact ⟨trivial, rfl⟩ | exact trivial | exact ⟨trivial, trivial⟩
  | false => first | exact ⟨rfl, rfl⟩ | exact ⟨rfl, trivial⟩ | exact ⟨trivial, rfl⟩ | exact trivial | exact ⟨trivial, trivial⟩
theorem ism_str {l : List Nat} {cs : Cells} {P : D → Cells → Prop} {X : KX} (hl : l.length ≤ sizeLine) (k : P (.bl (mkB l)) cs) : RP (m_is_mark [.str l] cs) P X := by
  unfold m_is_mark mb_is_mark
  simp only [rp_def, List.map_cons, List.map_nil, List.length_cons, List.length_nil, Nat.reduceAdd, Nat.reduceSub, List.replicate_zero, List.replicate_succ, List.append_nil, List.cons_append, List.nil_append, List.set_cons_zero, List.set_cons_succ, sp_ret, sp_seq, sp_asg, sp_if, sp_nx, sp_drop, SP_brS, rap_cons, rap_nil, rp_bi, rp_c, rp_op2, rp_op1, rp_not, rp_or, rp_and, rp_if, rp_call, rp_varM, List.getElem?_cons_zero, List.getElem?_cons_succ, rp_notD, RP_br, RP_ok, isi_str, rp_lenS hl, rp_gt, Bool.not_true, cond_false]
  by_cases h1 : l.length ≤ 12
  · have a1 : decide ((12 : Int) < (l.length : Int)) = false := by simp; omega
    simp only [a1, Bool.false_eq_true, if_false, rp_m1, rp_cnt, rp_neI, rp_def, List.map_cons, List.map_nil, List.length_cons, List.length_nil, Nat.reduceAdd, Nat.reduceSub, List.replicate_zero, List.replicate_succ, List.append_nil, List.cons_append, List.nil_append, List.set_cons_zero, List.set_cons_succ, sp_ret, sp_seq, sp_asg, sp_if, sp_nx, sp_drop, SP_brS, rap_cons, rap_nil, rp_bi, rp_c, rp_op2, rp_op1, rp_not, rp_or, rp_and, rp_if, rp_call, rp_varM, List.getElem?_cons_zero, List.getElem?_cons_succ, rp_notD, RP_br, RP_ok]
    by_cases h2 : l.count 42 = 1
    · have a2 : decide (((l.count 42 : Nat) : Int) = 1) = true := by simp [h2]
      simp only [a2, Bool.not_true, cond_false]
      by_cases h3 : l.count 35 = 1
      · have a3 : decide (((l.count 35 : Nat) : Int) = 1) = true := by simp [h3]
        simp only [a3, Bool.not_true, Bool.false_eq_true, if_false, RP_bind, rp_lc, wp_seq, rp_def, List.map_cons, List.map_nil, List.length_cons, List.length_nil, Nat.reduceAdd, Nat.reduceSub, List.replicate_zero, List.replicate_succ, List.append_nil, List.cons_append, List.nil_append, List.set_cons_zero, List.set_cons_succ, sp_ret, sp_seq, sp_asg, sp_if, sp_nx, sp_drop, SP_brS, rap_cons, rap_nil, rp_bi, rp_c, rp_op2, rp_op1, rp_not, rp_or, rp_and, rp_if, rp_call, rp_varM, List.getElem?_cons_zero, List.getElem?_cons_succ, rp_notD, RP_br, RP_ok]
        rw [lc_map (g := fun d => match d with | .str [c] => .bl (decide (c ∈ SG) || (decide ([42] = [c]) || (decide ([35] = [c]) || false))) | _ => .non) trivial ?_]
        · have e1 : (List.map (fun d => match d with | D.str [c] => D.bl (decide (c ∈ SG) || (decide ([42] = [c]) || (decide ([35] = [c]) || false))) | x => D.non) (List.map (fun ch => D.str [ch]) l)) = (l.map fun c => decide (c ∈ SG) || (decide ([42] = [c]) || (decide ([35] = [c]) || false))).map D.bl := by
            rw [List.map_map, List.map_map]; rfl
          rw [e1]
          show RP (mkL false cs _) _ _
          rw [rp_mkLf (by rw [List.length_map, List.length_map]; exact hl), rp_allL]
          have : mkB l = ((l.map fun c => decide (c ∈ SG) || (decide ([42] = [c]) || (decide ([35] = [c]) || false))).all _root_.id) := by
            unfold mkB
            rw [decide_eq_true h1, decide_eq_true h2, decide_eq_true h3, Bool.true_and, Bool.true_and, Bool.true_and, List.all_map]
            rfl
          rw [← this]
          exact k
        · intro d hd
          obtain ⟨c, hc, rfl⟩ := List.mem_map.mp hd
          exact ⟨_, rfl, rfl, sg_elem rfl⟩
      · have a3 : decide (((l.count 35 : Nat) : Int) = 1) = false := by simp; omega
        have : mkB l = false := by unfold mkB; rw [decide_eq_false h3]; simp
        rw [this] at k
        simp only [a3, Bool.not_false, if_true, rp_def, List.map_cons, List.map_nil, List.length_cons, List.length_nil, Nat.reduceAdd, Nat.reduceSub, List.replicate_zero, List.replicate_succ, List.append_nil, List.cons_append, List.nil_append, List.set_cons_zero, List.set_cons_succ, sp_ret, sp_seq, sp_asg, sp_if, sp_nx, sp_drop, SP_brS, rap_cons, rap_nil, rp_bi, rp_c, rp_op2, rp_op1, rp_not, rp_or, rp_and, rp_if, rp_call, rp_varM, List.getElem?_cons_zero, List.getElem?_cons_succ, rp_notD, RP_br, RP_ok]
        exact k
    · have a2 : decide (((l.count 42 : Nat) : Int) = 1) = false := by simp; omega
      have : mkB l = false := by unfold mkB; rw [decide_eq_false h2]; simp
      rw [this] at k
      simp only [a2, Bool.not_false, cond_true, if_true, rp_def, List.map_cons, List.map_nil, List.length_cons, List.length_nil, Nat.reduceAdd, Nat.reduceSub, List.replicate_zero, List.replicate_succ, List.append_nil, List.cons_append, List.nil_append, List.set_cons_zero, List.set_cons_succ, sp_ret, sp_seq, sp_asg, sp_if, sp_nx, sp_drop, SP_brS, rap_cons, rap_nil, rp_bi, rp_c, rp_op2, rp_op1, rp_not, rp_or, rp_and, rp_if, rp_call, rp_varM, List.getElem?_cons_zero, List.getElem?_cons_succ, rp_notD, RP_br, RP_ok]
      exact k
  · have a1 : decide ((12 : Int) < (l.length : Int)) = true := by simp; omega
    have : mkB l = false := by unfold mkB; rw [decide_eq_false h1]; rfl
    rw [this] at k
    simp only [a1, if_true, rp_def, List.map_cons, List.map_nil, List.length_cons, List.length_nil, Nat.reduceAdd, Nat.reduceSub, List.replicate_zero, List.replicate_succ, List.append_nil, List.cons_append, List.nil_append, List.set_cons_zero, List.set_cons_succ, sp_ret, sp_seq, sp_asg, sp_if, sp_nx, sp_drop, SP_brS, rap_cons, rap_nil, rp_bi, rp_c, rp_op2, rp_op1, rp_not, rp_or, rp_and, rp_if, rp_call, rp_varM, List.getElem?_cons_zero, List.getElem?_cons_succ, rp_notD, RP_br, RP_ok]
    exact k
/-- what is_mark, is_name, is_number say of d -/
def IsM (cs : Cells) (d : D) (b : Bool) : Prop := ∀ (P : D → Cells → Prop) (X : KX), P (.bl b) cs → RP (m_is_mark [d] cs) P X
def IsN (cs : Cells) (d : D) (b : Bool) : Prop := ∀ (P : D → Cells → Prop) (X : KX), P (.bl b) cs → RP (m_is_name [d] cs) P X
def IsNu (cs : Cells) (d : D) (b : Bool) : Prop := ∀ (P : D → Cells → Prop) (X : KX), P (.bl b) cs → RP (m_is_number [d] cs) P X
theorem Mk.ism {l pre near post : List Nat} {s1 s2 : Nat} (m : Mk l pre near post s1 s2) {cs : Cells} : IsM cs (.str l) true := fun P X k => ism_str (by rw [sizeLine_eq]; have := m.len; omega) (by rw [m.ok]; exact k)
theorem nm_rp {d : D} {cs : Cells} {P : D → Cells → Prop} {X : KX} (h : IsM cs d true) (k : P .non cs) : RP (m_need_mark [d] cs) P X := by
  unfold m_need_mark mb_need_mark
  try simp only [rp_def, List.map_cons, List.map_nil, List.length_cons, List.length_nil, Nat.reduceAdd, Nat.reduceSub, List.replicate_zero, List.replicate_succ, List.append_nil, List.cons_append, List.nil_append, List.set_cons_zero, List.set_cons_succ, sp_ret, sp_seq, sp_asg, sp_if, sp_nx, sp_drop, SP_brS, rap_cons, rap_nil, rp_bi, rp_c, rp_op2, rp_op1, rp_not, rp_or, rp_and, rp_if, rp_call, rp_varM, List.getElem?_cons_zero, List.getElem?_cons_succ, rp_notD, RP_br, RP_ok]
  refine h _ _ ?_
  simp only [rp_def, List.map_cons, List.map_nil, List.length_cons, List.length_nil, Nat.reduceAdd, Nat.reduceSub, List.replicate_zero, List.replicate_succ, List.append_nil, List.cons_append, List.nil_append, List.set_cons_zero, List.set_cons_succ, sp_ret, sp_seq, sp_asg, sp_if, sp_nx, sp_drop, SP_brS, rap_cons, rap_nil, rp_bi, rp_c, rp_op2, rp_op1, rp_not, rp_or, rp_and, rp_if, rp_call, rp_varM, List.getElem?_cons_zero, List.getElem?_cons_succ, rp_notD, RP_br, RP_ok, Bool.not_true, Bool.false_eq_true, if_false]
  exact k
theorem nm_x {d : D} {cs : Cells} {P : D → Cells → Prop} {X : KX} (h : IsM cs d false) (k : X "BadMark" [("found", d)] cs) : RP (m_need_mark [d] cs) P X := by
  unfold m_need_mark mb_need_mark
  try simp only [rp_def, List.map_cons, List.map_nil, List.length_cons, List.length_nil, Nat.reduceAdd, Nat.reduceSub, List.replicate_zero, List.replicate_succ, List.append_nil, List.cons_append, List.nil_append, List.set_cons_zero, List.set_cons_succ, sp_ret, sp_seq, sp_asg, sp_if, sp_nx, sp_drop, SP_brS, rap_cons, rap_nil, rp_bi, rp_c, rp_op2, rp_op1, rp_not, rp_or, rp_and, rp_if, rp_call, rp_varM, List.getElem?_cons_zero, List.getElem?_cons_succ, rp_notD, RP_br, RP_ok]
  refine h _ _ ?_
  simp only [rp_def, List.map_cons, List.map_nil, List.length_cons, List.length_nil, Nat.reduceAdd, Nat.reduceSub, List.replicate_zero, List.replicate_succ, List.append_nil, List.cons_append, List.nil_append, List.set_cons_zero, List.set_cons_succ, sp_ret, sp_seq, sp_asg, sp_if, sp_nx, sp_drop, SP_brS, rap_cons, rap_nil, rp_bi, rp_c, rp_op2, rp_op1, rp_not, rp_or, rp_and, rp_if, rp_call, rp_varM, List.getElem?_cons_zero, List.getElem?_cons_succ, rp_notD, RP_br, RP_ok, Bool.not_false, if_true, sp_raise]
  exact k
theorem nn_rp {d : D} {cs : Cells} {P : D → Cells → Prop} {X : KX} (h : IsN cs d true) (k : P .non cs) : RP (m_need_name [d] cs) P X := by
  unfold m_need_name mb_need_name
  try simp only [rp_def, List.map_cons, List.map_nil, List.length_cons, List.length_nil, Nat.reduceAdd, Nat.reduceSub, List.replicate_zero, List.replicate_succ, List.append_nil, List.cons_append, List.nil_append, List.set_cons_zero, List.set_cons_succ, sp_ret, sp_seq, sp_asg, sp_if, sp_nx, sp_drop, SP_brS, rap_cons, rap_nil, rp_bi, rp_c, rp_op2, rp_op1, rp_not, rp_or, rp_and, rp_if, rp_call, rp_varM, List.getElem?_cons_zero, List.getElem?_cons_succ, rp_notD, RP_br, RP_ok]
  refine h _ _ ?_
  simp only [rp_def, List.map_cons, List.map_nil, List.length_cons, List.length_nil, Nat.reduceAdd, Nat.reduceSub, List.replicate_zero, List.replicate_succ, List.append_nil, List.cons_append, List.nil_append, List.set_cons_zero, List.set_cons_succ, sp_ret, sp_seq, sp_asg, sp_if, sp_nx, sp_drop, SP_brS, rap_cons, rap_nil, rp_bi, rp_c, rp_op2, rp_op1, rp_not, rp_or, rp_and, rp_if, rp_call, rp_varM, List.getElem?_cons_zero, List.getElem?_cons_succ, rp_notD, RP_br, RP_ok, Bool.not_true, Bool.false_eq_true, if_false]
  exact k
theorem nn_x {d : D} {cs : Cells} {P : D → Cells → Prop} {X : KX} (h : IsN cs d false) (k : X "BadName" [("found", d)] cs) : RP (m_need_name [d] cs) P X := by
  unfold m_need_name mb_need_name
  try simp only [rp_def, List.map_cons, List.map_nil, List.length_cons, List.length_nil, Nat.reduceAdd, Nat.reduceSub, List.replicate_zero, List.replicate_succ, List.append_nil, List.cons_append, List.nil_append, List.set_cons_zero, List.set_cons_succ, sp_ret, sp_seq, sp_asg, sp_if, sp_nx, sp_drop, SP_brS, rap_cons, rap_nil, rp_bi, rp_c, rp_op2, rp_op1, rp_not, rp_or, rp_and, rp_if, rp_call, rp_varM, List.getElem?_cons_zero, List.getElem?_cons_succ, rp_notD, RP_br, RP_ok]
  refine h _ _ ?_
  simp only [rp_def, List.map_cons, List.map_nil, List.length_cons, List.length_nil, Nat.reduceAdd, Nat.reduceSub, List.replicate_zero, List.replicate_succ, List.append_nil, List.cons_append, List.nil_append, List.set_cons_zero, List.set_cons_succ, sp_ret, sp_seq, sp_asg, sp_if, sp_nx, sp_drop, SP_brS, rap_cons, rap_nil, rp_bi, rp_c, rp_op2, rp_op1, rp_not, rp_or, rp_and, rp_if, rp_call, rp_varM, List.getElem?_cons_zero, List.getElem?_cons_succ, rp_notD, RP_br, RP_ok, Bool.not_false, if_true, sp_raise]
  exact k
theorem nu_rp {d : D} {cs : Cells} {P : D → Cells → Prop} {X : KX} (h : IsNu cs d true) (k : P .non cs) : RP (m_need_number [d] cs) P X := by
  unfold m_need_number mb_need_number
  try simp only [rp_def, List.map_cons, List.map_nil, List.length_cons, List.length_nil, Nat.reduceAdd, Nat.reduceSub, List.replicate_zero, List.replicate_succ, List.append_nil, List.cons_append, List.nil_append, List.set_cons_zero, List.set_cons_succ, sp_ret, sp_seq, sp_asg, sp_if, sp_nx, sp_drop, SP_brS, rap_cons, rap_nil, rp_bi, rp_c, rp_op2, rp_op1, rp_not, rp_or, rp_and, rp_if, rp_call, rp_varM, List.getElem?_cons_zero, List.getElem?_cons_succ, rp_notD, RP_br, RP_ok]
  refine h _ _ ?_
  simp only [rp_def, List.map_cons, List.map_nil, List.length_cons, List.length_nil, Nat.reduceAdd, Nat.reduceSub, List.replicate_zero, List.replicate_succ, List.append_nil, List.cons_append, List.nil_append, List.set_cons_zero, List.set_cons_succ, sp_ret, sp_seq, sp_asg, sp_if, sp_nx, sp_drop, SP_brS, rap_cons, rap_nil, rp_bi, rp_c, rp_op2, rp_op1, rp_not, rp_or, rp_and, rp_if, rp_call, rp_varM, List.getElem?_cons_zero, List.getElem?_cons_succ, rp_notD, RP_br, RP_ok, Bool.not_true, Bool.false_eq_true, if_false]
  exact k
theorem nu_x {d : D} {cs : Cells} {P : D → Cells → Prop} {X : KX} (h : IsNu cs d false) (k : X "BadNumber" [("found", d)] cs) : RP (m_need_number [d] cs) P X := by
  unfold m_need_number mb_need_number
  try simp only [rp_def, List.map_cons, List.map_nil, List.length_cons, List.length_nil, Nat.reduceAdd, Nat.reduceSub, List.replicate_zero, List.replicate_succ, List.append_nil, List.cons_append, List.nil_append, List.set_cons_zero, List.set_cons_succ, sp_ret, sp_seq, sp_asg, sp_if, sp_nx, sp_drop, SP_brS, rap_cons, rap_nil, rp_bi, rp_c, rp_op2, rp_op1, rp_not, rp_or, rp_and, rp_if, rp_call, rp_varM, List.getElem?_cons_zero, List.getElem?_cons_succ, rp_notD, RP_br, RP_ok]
  refine h _ _ ?_
  simp only [rp_def, List.map_cons, List.map_nil, List.length_cons, List.length_nil, Nat.reduceAdd, Nat.reduceSub, List.replicate_zero, List.replicate_succ, List.append_nil, List.cons_append, List.nil_append, List.set_cons_zero, List.set_cons_succ, sp_ret, sp_seq, sp_asg, sp_if, sp_nx, sp_drop, SP_brS, rap_cons, rap_nil, rp_bi, rp_c, rp_op2, rp_op1, rp_not, rp_or, rp_and, rp_if, rp_call, rp_varM, List.getElem?_cons_zero, List.getElem?_cons_succ, rp_notD, RP_br, RP_ok, Bool.not_false, if_true, sp_raise]
  exact k
/-! ### the parts of a mark -/
section
variable {l pre near post : List Nat} {s1 s2 : Nat} {cs : Cells} {P : D → Cells → Prop} {X : KX}
theorem Mk.i1 (m : Mk l pre near post s1 s2) : l.idxOf s1 = pre.length := by
  have h : s1 ∉ pre := by rcases m.pl with ⟨e, _⟩ | ⟨e, _⟩ <;> rw [e] <;> first | exact no_star m.a | exact no_hash m.a
  rw [m.eq, List.idxOf_append, if_neg h, List.idxOf_cons_self, Nat.zero_add]
theorem Mk.i2 (m : Mk l pre near post s1 s2) : l.idxOf s2 = pre.length + 1 + near.length := by
  have h : s2 ∉ pre := by rcases m.pl with ⟨_, e⟩ | ⟨_, e⟩ <;> rw [e] <;> first | exact no_star m.a | exact no_hash m.a
  have h2 : s2 ∉ near := by rcases m.pl with ⟨_, e⟩ | ⟨_, e⟩ <;> rw [e] <;> first | exact no_star m.b | exact no_hash m.b
  have h3 : s1 ≠ s2 := by rcases m.pl with ⟨rfl, rfl⟩ | ⟨rfl, rfl⟩ <;> decide
  rw [m.eq, List.idxOf_append, if_neg h, List.idxOf_cons, beq_false_of_ne h3, cond_false, List.idxOf_append, if_neg h2, List.idxOf_cons_self]
  omega
theorem Mk.m1 (m : Mk l pre near post s1 s2) : s1 ∈ l := by rw [m.eq]; simp
theorem Mk.m2 (m : Mk l pre near post s1 s2) : s2 ∈ l := by rw [m.eq]; simp
theorem Mk.cut1 (m : Mk l pre near post s1 s2) : cutL l none (some (pre.length : Int)) = pre := by
  rw [cut_to (by omega), m.eq]; simp
theorem Mk.cut2 (m : Mk l pre near post s1 s2) : cutL l (some ((pre.length : Int) + 1)) (some ((pre.length + 1 + near.length : Nat) : Int)) = near := by
  rw [cut_mid (by omega) (by omega), m.eq]
  have e1 : ((pre.length + 1 + near.length : Nat) : Int).toNat = (pre ++ [s1]).length + near.length := by simp; omega
  have e2 : ((pre.length : Int) + 1).toNat = (pre ++ [s1]).length := by simp
  have e3 : pre ++ s1 :: (near ++ s2 :: post) = (pre ++ [s1]) ++ (near ++ s2 :: post) := by simp
  rw [e1, e2, e3, Nat.add_sub_cancel_left, List.drop_left, List.take_left]
theorem Mk.cut3 (m : Mk l pre near post s1 s2) : cutL l (some (((pre.length + 1 + near.length : Nat) : Int) + 1)) none = post := by
  rw [cut_from (by omega), m.eq]
  have e1 : (((pre.length + 1 + near.length : Nat) : Int) + 1).toNat = (pre ++ s1 :: (near ++ [s2])).length := by simp; omega
  have e3 : pre ++ s1 :: (near ++ s2 :: post) = (pre ++ s1 :: (near ++ [s2])) ++ post := by simp
  rw [e1, e3, List.drop_left]
theorem Mk.size (m : Mk l pre near post s1 s2) : l.length ≤ sizeLine := by have := m.len; rw [sizeLine_eq]; omega
theorem Mk.lens (m : Mk l pre near post s1 s2) : pre.length + near.length + post.length ≤ 10 := by
  have := m.len; rw [m.eq] at this; simp at this; omega
theorem parts_rp (m : Mk l pre near post s1 s2) (k : P (.tup [.str pre, .str near, .str post]) cs) : RP (m_parts [.str l] cs) P X := by
  unfold m_parts mb_parts
  have hs := m.size
  have ln := m.lens
  have w : RP (mkT cs [.str pre, .str near, .str post]) P X := by rw [rp_mkT (by rw [sizeLine_eq]; simp)]; exact k
  have c1 := m.cut1
  have c2 := m.cut2
  have c3 := m.cut3
  rcases m.pl with ⟨e1, e2⟩ | ⟨e1, e2⟩
  · have i1 := m.i1; have i2 := m.i2; have m1 := m.m1; have m2 := m.m2
    rw [e1] at i1 m1; rw [e2] at i2 m2
    have x1 : ¬ ((pre.length + 1 + near.length : Nat) : Int) < (pre.length : Int) := by omega
    have x2 : ((pre.length + 1 + near.length : Nat) : Int) > (pre.length : Int) := by omega
    simp only [rp_def, List.map_cons, List.map_nil, List.length_cons, List.length_nil, Nat.reduceAdd, Nat.reduceSub, List.replicate_zero, List.replicate_succ, List.append_nil, List.cons_append, List.nil_append, List.set_cons_zero, List.set_cons_succ, sp_ret, sp_seq, sp_asg, sp_if, sp_nx, sp_drop, SP_brS, rap_cons, rap_nil, rp_bi, rp_c, rp_op2, rp_op1, rp_not, rp_or, rp_and, rp_if, rp_call, rp_varM, List.getElem?_cons_zero, List.getElem?_cons_succ, rp_notD, RP_br, RP_ok, rp_m1, rp_six m1, rp_six m2, i1, i2, rp_min, rp_max]
    rw [if_neg x1, if_pos x2]
    simp only [rp_tup, rap_cons, rap_nil, rp_sl, rp_varM, List.getElem?_cons_zero, List.getElem?_cons_succ, ro_none, ro_varM, ro_varA, rp_slS hs]
    rw [c1, c2, c3]
    exact w
  · have i1 := m.i1; have i2 := m.i2; have m1 := m.m1; have m2 := m.m2
    rw [e1] at i1 m1; rw [e2] at i2 m2
    have x1 : (pre.length : Int) < ((pre.length + 1 + near.length : Nat) : Int) := by omega
    have x2 : ¬ (pre.length : Int) > ((pre.length + 1 + near.length : Nat) : Int) := by omega
    simp only [rp_def, List.map_cons, List.map_nil, List.length_cons, List.length_nil, Nat.reduceAdd, Nat.reduceSub, List.replicate_zero, List.replicate_succ, List.append_nil, List.cons_append, List.nil_append, List.set_cons_zero, List.set_cons_succ, sp_ret, sp_seq, sp_asg, sp_if, sp_nx, sp_drop, SP_brS, rap_cons, rap_nil, rp_bi, rp_c, rp_op2, rp_op1, rp_not, rp_or, rp_and, rp_if, rp_call, rp_varM, List.getElem?_cons_zero, List.getElem?_cons_succ, rp_notD, RP_br, RP_ok, rp_m1, rp_six m1, rp_six m2, i1, i2, rp_min, rp_max]
    rw [if_pos x1, if_neg x2]
    simp only [rp_tup, rap_cons, rap_nil, rp_sl, rp_varM, List.getElem?_cons_zero, List.getElem?_cons_succ, ro_none, ro_varM, ro_varA, rp_slS hs]
    rw [c1, c2, c3]
    exact w
theorem nf_rp (m : Mk l pre near post s1 s2) (k : P (.bl (decide (s1 = 42))) cs) : RP (m_name_first [.str l] cs) P X := by
  unfold m_name_first mb_name_first
  rcases m.pl with ⟨e1, e2⟩ | ⟨e1, e2⟩
  · have i1 := m.i1; have i2 := m.i2; have m1 := m.m1; have m2 := m.m2
    rw [e1] at i1 m1; rw [e2] at i2 m2
    have x : decide ((pre.length : Int) < ((pre.length + 1 + near.length : Nat) : Int)) = true := by simp; omega
    simp only [rp_def, List.map_cons, List.map_nil, List.length_cons, List.length_nil, Nat.reduceAdd, Nat.reduceSub, List.replicate_zero, List.replicate_succ, List.append_nil, List.cons_append, List.nil_append, List.set_cons_zero, List.set_cons_succ, sp_ret, sp_seq, sp_asg, sp_if, sp_nx, sp_drop, SP_brS, rap_cons, rap_nil, rp_bi, rp_c, rp_op2, rp_op1, rp_not, rp_or, rp_and, rp_if, rp_call, rp_varM, List.getElem?_cons_zero, List.getElem?_cons_succ, rp_notD, RP_br, RP_ok, rp_m1, rp_six m1, rp_six m2, i1, i2, rp_lt, x]
    rw [e1] at k; exact k
  · have i1 := m.i1; have i2 := m.i2; have m1 := m.m1; have m2 := m.m2
    rw [e1] at i1 m1; rw [e2] at i2 m2
    have x : decide (((pre.length + 1 + near.length : Nat) : Int) < (pre.length : Int)) = false := by simp; omega
    simp only [rp_def, List.map_cons, List.map_nil, List.length_cons, List.length_nil, Nat.reduceAdd, Nat.reduceSub, List.replicate_zero, List.replicate_succ, List.append_nil, List.cons_append, List.nil_append, List.set_cons_zero, List.set_cons_succ, sp_ret, sp_seq, sp_asg, sp_if, sp_nx, sp_drop, SP_brS, rap_cons, rap_nil, rp_bi, rp_c, rp_op2, rp_op1, rp_not, rp_or, rp_and, rp_if, rp_call, rp_varM, List.getElem?_cons_zero, List.getElem?_cons_succ, rp_notD, RP_br, RP_ok, rp_m1, rp_six m1, rp_six m2, i1, i2, rp_lt, x]
    rw [e1] at k; exact k
/-! ### written -/
def wrL (pre near post : List Nat) (s1 : Nat) (n : List Nat) (i : Int) : List Nat := if s1 = 42 then pre ++ n ++ near ++ codes (toString i) ++ post else pre ++ codes (toString i) ++ near ++ n ++ post
theorem wr_mark {d e f : D} (h : IsM cs d false) (k : X "BadMark" [("found", d)] cs) : RP (m_written [d, e, f] cs) P X := by
  unfold m_written mb_written
  try simp only [rp_def, List.map_cons, List.map_nil, List.length_cons, List.length_nil, Nat.reduceAdd, Nat.reduceSub, List.replicate_zero, List.replicate_succ, List.append_nil, List.cons_append, List.nil_append, List.set_cons_zero, List.set_cons_succ, sp_ret, sp_seq, sp_asg, sp_if, sp_nx, sp_drop, SP_brS, rap_cons, rap_nil, rp_bi, rp_c, rp_op2, rp_op1, rp_not, rp_or, rp_and, rp_if, rp_call, rp_varM, List.getElem?_cons_zero, List.getElem?_cons_succ, rp_notD, RP_br, RP_ok]
  exact nm_x h k
theorem wr_name (m : Mk l pre near post s1 s2) {e f : D} (h : IsN cs e false) (k : X "BadName" [("found", e)] cs) : RP (m_written [.str l, e, f] cs) P X := by
  unfold m_written mb_written
  try simp only [rp_def, List.map_cons, List.map_nil, List.length_cons, List.length_nil, Nat.reduceAdd, Nat.reduceSub, List.replicate_zero, List.replicate_succ, List.append_nil, List.cons_append, List.nil_append, List.set_cons_zero, List.set_cons_succ, sp_ret, sp_seq, sp_asg, sp_if, sp_nx, sp_drop, SP_brS, rap_cons, rap_nil, rp_bi, rp_c, rp_op2, rp_op1, rp_not, rp_or, rp_and, rp_if, rp_call, rp_varM, List.getElem?_cons_zero, List.getElem?_cons_succ, rp_notD, RP_br, RP_ok]
  refine nm_rp m.ism ?_
  try simp only [rp_def, List.map_cons, List.map_nil, List.length_cons, List.length_nil, Nat.reduceAdd, Nat.reduceSub, List.replicate_zero, List.replicate_succ, List.append_nil, List.cons_append, List.nil_append, List.set_cons_zero, List.set_cons_succ, sp_ret, sp_seq, sp_asg, sp_if, sp_nx, sp_drop, SP_brS, rap_cons, rap_nil, rp_bi, rp_c, rp_op2, rp_op1, rp_not, rp_or, rp_and, rp_if, rp_call, rp_varM, List.getElem?_cons_zero, List.getElem?_cons_succ, rp_notD, RP_br, RP_ok]
  exact nn_x h k
theorem wr_num (m : Mk l pre near post s1 s2) {e f : D} (h : IsN cs e true) (q : IsNu cs f false) (k : X "BadNumber" [("found", f)] cs) : RP (m_written [.str l, e, f] cs) P X := by
  unfold m_written mb_written
  try simp only [rp_def, List.map_cons, List.map_nil, List.length_cons, List.length_nil, Nat.reduceAdd, Nat.reduceSub, List.replicate_zero, List.replicate_succ, List.append_nil, List.cons_append, List.nil_append, List.set_cons_zero, List.set_cons_succ, sp_ret, sp_seq, sp_asg, sp_if, sp_nx, sp_drop, SP_brS, rap_cons, rap_nil, rp_bi, rp_c, rp_op2, rp_op1, rp_not, rp_or, rp_and, rp_if, rp_call, rp_varM, List.getElem?_cons_zero, List.getElem?_cons_succ, rp_notD, RP_br, RP_ok]
  refine nm_rp m.ism ?_
  try simp only [rp_def, List.map_cons, List.map_nil, List.length_cons, List.length_nil, Nat.reduceAdd, Nat.reduceSub, List.replicate_zero, List.replicate_succ, List.append_nil, List.cons_append, List.nil_append, List.set_cons_zero, List.set_cons_succ, sp_ret, sp_seq, sp_asg, sp_if, sp_nx, sp_drop, SP_brS, rap_cons, rap_nil, rp_bi, rp_c, rp_op2, rp_op1, rp_not, rp_or, rp_and, rp_if, rp_call, rp_varM, List.getElem?_cons_zero, List.getElem?_cons_succ, rp_notD, RP_br, RP_ok]
  refine nn_rp h ?_
  try simp only [rp_def, List.map_cons, List.map_nil, List.length_cons, List.length_nil, Nat.reduceAdd, Nat.reduceSub, List.replicate_zero, List.replicate_succ, List.append_nil, List.cons_append, List.nil_append, List.set_cons_zero, List.set_cons_succ, sp_ret, sp_seq, sp_asg, sp_if, sp_nx, sp_drop, SP_brS, rap_cons, rap_nil, rp_bi, rp_c, rp_op2, rp_op1, rp_not, rp_or, rp_and, rp_if, rp_call, rp_varM, List.getElem?_cons_zero, List.getElem?_cons_succ, rp_notD, RP_br, RP_ok]
  exact nu_x q k
theorem wr_ok (m : Mk l pre near post s1 s2) {n : List Nat} {i : Int} (h : IsN cs (.str n) true) (hn : n.length ≤ 1000) (q : IsNu cs (.int i) true) (hi : i.natAbs < 2 ^ 1000) (hc : (codes (toString i)).length ≤ 1000) (k : P (.str (wrL pre near post s1 n i)) cs) : RP (m_written [.str l, .str n, .int i] cs) P X := by
  have ln := m.lens
  unfold m_written mb_written
  try simp only [rp_def, List.map_cons, List.map_nil, List.length_cons, List.length_nil, Nat.reduceAdd, Nat.reduceSub, List.replicate_zero, List.replicate_succ, List.append_nil, List.cons_append, List.nil_append, List.set_cons_zero, List.set_cons_succ, sp_ret, sp_seq, sp_asg, sp_if, sp_nx, sp_drop, SP_brS, rap_cons, rap_nil, rp_bi, rp_c, rp_op2, rp_op1, rp_not, rp_or, rp_and, rp_if, rp_call, rp_varM, List.getElem?_cons_zero, List.getElem?_cons_succ, rp_notD, RP_br, RP_ok]
  refine nm_rp m.ism ?_
  try simp only [rp_def, List.map_cons, List.map_nil, List.length_cons, List.length_nil, Nat.reduceAdd, Nat.reduceSub, List.replicate_zero, List.replicate_succ, List.append_nil, List.cons_append, List.nil_append, List.set_cons_zero, List.set_cons_succ, sp_ret, sp_seq, sp_asg, sp_if, sp_nx, sp_drop, SP_brS, rap_cons, rap_nil, rp_bi, rp_c, rp_op2, rp_op1, rp_not, rp_or, rp_and, rp_if, rp_call, rp_varM, List.getElem?_cons_zero, List.getElem?_cons_succ, rp_notD, RP_br, RP_ok]
  refine nn_rp h ?_
  try simp only [rp_def, List.map_cons, List.map_nil, List.length_cons, List.length_nil, Nat.reduceAdd, Nat.reduceSub, List.replicate_zero, List.replicate_succ, List.append_nil, List.cons_append, List.nil_append, List.set_cons_zero, List.set_cons_succ, sp_ret, sp_seq, sp_asg, sp_if, sp_nx, sp_drop, SP_brS, rap_cons, rap_nil, rp_bi, rp_c, rp_op2, rp_op1, rp_not, rp_or, rp_and, rp_if, rp_call, rp_varM, List.getElem?_cons_zero, List.getElem?_cons_succ, rp_notD, RP_br, RP_ok]
  refine nu_rp q ?_
  simp only [rp_def, List.map_cons, List.map_nil, List.length_cons, List.length_nil, Nat.reduceAdd, Nat.reduceSub, List.replicate_zero, List.replicate_succ, List.append_nil, List.cons_append, List.nil_append, List.set_cons_zero, List.set_cons_succ, sp_ret, sp_seq, sp_asg, sp_if, sp_nx, sp_drop, SP_brS, rap_cons, rap_nil, rp_bi, rp_c, rp_op2, rp_op1, rp_not, rp_or, rp_and, rp_if, rp_call, rp_varM, List.getElem?_cons_zero, List.getElem?_cons_succ, rp_notD, RP_br, RP_ok, sp_asgT]
  refine parts_rp m ?_
  simp only [rp_def, List.map_cons, List.map_nil, List.length_cons, List.length_nil, Nat.reduceAdd, Nat.reduceSub, List.replicate_zero, List.replicate_succ, List.append_nil, List.cons_append, List.nil_append, List.set_cons_zero, List.set_cons_succ, sp_ret, sp_seq, sp_asg, sp_if, sp_nx, sp_drop, SP_brS, rap_cons, rap_nil, rp_bi, rp_c, rp_op2, rp_op1, rp_not, rp_or, rp_and, rp_if, rp_call, rp_varM, List.getElem?_cons_zero, List.getElem?_cons_succ, rp_notD, RP_br, RP_ok, tgTup, tgTs]
  refine nf_rp m ?_
  by_cases e : s1 = 42
  · simp only [e, decide_true, if_true, rp_def, List.map_cons, List.map_nil, List.length_cons, List.length_nil, Nat.reduceAdd, Nat.reduceSub, List.replicate_zero, List.replicate_succ, List.append_nil, List.cons_append, List.nil_append, List.set_cons_zero, List.set_cons_succ, sp_ret, sp_seq, sp_asg, sp_if, sp_nx, sp_drop, SP_brS, rap_cons, rap_nil, rp_bi, rp_c, rp_op2, rp_op1, rp_not, rp_or, rp_and, rp_if, rp_call, rp_varM, List.getElem?_cons_zero, List.getElem?_cons_succ, rp_notD, RP_br, RP_ok, rp_strI (log2_lt hi)]
    rw [rp_addS (by rw [sizeLine_eq]; omega), rp_addS (by rw [sizeLine_eq, List.length_append]; omega), rp_addS (by rw [sizeLine_eq, List.length_append, List.length_append]; omega), rp_addS (by rw [sizeLine_eq, List.length_append, List.length_append, List.length_append]; omega)]
    unfold wrL at k; rw [if_pos e] at k; exact k
  · simp only [e, decide_false, Bool.false_eq_true, if_false, rp_def, List.map_cons, List.map_nil, List.length_cons, List.length_nil, Nat.reduceAdd, Nat.reduceSub, List.replicate_zero, List.replicate_succ, List.append_nil, List.cons_append, List.nil_append, List.set_cons_zero, List.set_cons_succ, sp_ret, sp_seq, sp_asg, sp_if, sp_nx, sp_drop, SP_brS, rap_cons, rap_nil, rp_bi, rp_c, rp_op2, rp_op1, rp_not, rp_or, rp_and, rp_if, rp_call, rp_varM, List.getElem?_cons_zero, List.getElem?_cons_succ, rp_notD, RP_br, RP_ok, rp_strI (log2_lt hi)]
    rw [rp_addS (by rw [sizeLine_eq]; omega), rp_addS (by rw [sizeLine_eq, List.length_append]; omega), rp_addS (by rw [sizeLine_eq, List.length_append, List.length_append]; omega), rp_addS (by rw [sizeLine_eq, List.length_append, List.length_append, List.length_append]; omega)]
    unfold wrL at k; rw [if_neg e] at k; exact k
/-! ### is_clear, two_readings -/
def allF (l : List Nat) : Bool := l.all fun c => decide (c ∈ FG)
theorem figs_rp {y : List Nat} {i : Nat} {env : L3.Env} {a : ME} (ha : ∀ P' : D → Cells → Prop, P' (.str y) cs → RP (a env cs) P' X) (hy : y.length ≤ sizeLine) (hi : i < env.length) (k : P (.bl (allF y)) cs) : RP (eBi allB (aCons (eLc false [i] (tgN i) (wSeq a) (eC (.bl true)) (op2 inD (eVar i) (eC (.str FG)))) aNil) env cs) P X := by
  simp only [rp_def, List.map_cons, List.map_nil, List.length_cons, List.length_nil, Nat.reduceAdd, Nat.reduceSub, List.replicate_zero, List.replicate_succ, List.append_nil, List.cons_append, List.nil_append, List.set_cons_zero, List.set_cons_succ, sp_ret, sp_seq, sp_asg, sp_if, sp_nx, sp_drop, SP_brS, rap_cons, rap_nil, rp_bi, rp_c, rp_op2, rp_op1, rp_not, rp_or, rp_and, rp_if, rp_call, rp_varM, List.getElem?_cons_zero, List.getElem?_cons_succ, rp_notD, RP_br, RP_ok, RP_bind, rp_lc, wp_seq]
  refine ha _ ?_
  simp only
  rw [lc_map (g := fun d => match d with | .str [c] => .bl (decide (c ∈ FG)) | _ => .non) trivial ?_]
  · have e1 : (List.map (fun d => match d with | D.str [c] => D.bl (decide (c ∈ FG)) | x => D.non) (List.map (fun ch => D.str [ch]) y)) = (y.map fun c => decide (c ∈ FG)).map D.bl := by
      rw [List.map_map, List.map_map]; rfl
    rw [e1]
    show RP (mkL false cs _) _ _
    rw [rp_mkLf (by rw [List.length_map, List.length_map]; exact hy), rp_allL]
    have : allF y = ((y.map fun c => decide (c ∈ FG)).all _root_.id) := by
      unfold allF; rw [List.all_map]; rfl
    rw [← this]
    exact k
  · intro d hd
    obtain ⟨c, hc, rfl⟩ := List.mem_map.mp hd
    refine ⟨_, rfl, rfl, RP.eq ?_⟩
    have : (List.set (wipeE env [i]) i (some (D.str [c])))[i]? = some (some (.str [c])) := List.getElem?_set_self (by rw [wipeE_len]; exact hi)
    simp only [rp_op2, rp_varM, this, rp_c, rp_inS]
    first | exact ⟨rfl, rfl⟩ | exact ⟨rfl, trivial⟩ | exact ⟨trivial, rfl⟩ | exact trivial | exact ⟨trivial, trivial⟩
theorem cl_mark {d : D} (h : IsM cs d false) (k : X "BadMark" [("found", d)] cs) : RP (m_is_clear [d] cs) P X := by
  unfold m_is_clear mb_is_clear
  try simp only [rp_def, List.map_cons, List.map_nil, List.length_cons, List.length_nil, Nat.reduceAdd, Nat.reduceSub, List.replicate_zero, List.replicate_succ, List.append_nil, List.cons_append, List.nil_append, List.set_cons_zero, List.set_cons_succ, sp_ret, sp_seq, sp_asg, sp_if, sp_nx, sp_drop, SP_brS, rap_cons, rap_nil, rp_bi, rp_c, rp_op2, rp_op1, rp_not, rp_or, rp_and, rp_if, rp_call, rp_varM, List.getElem?_cons_zero, List.getElem?_cons_succ, rp_notD, RP_br, RP_ok]
  exact nm_x h k
theorem cl_rp (m : Mk l pre near post s1 s2) (k : P (.bl (!allF near)) cs) : RP (m_is_clear [.str l] cs) P X := by
  have ln := m.lens
  unfold m_is_clear mb_is_clear
  simp only [rp_def, List.map_cons, List.map_nil, List.length_cons, List.length_nil, Nat.reduceAdd, Nat.reduceSub, List.replicate_zero, List.replicate_succ, List.append_nil, List.cons_append, List.nil_append, sp_seq, sp_drop, sp_ret, rp_call, rap_cons, rap_nil, rp_varM, List.getElem?_cons_zero]
  refine nm_rp m.ism ?_
  rw [rp_not]
  refine figs_rp (y := near) (fun P' k' => ?_) (by rw [sizeLine_eq]; omega) (by simp) ?_
  · simp only [rp_def, List.map_cons, List.map_nil, List.length_cons, List.length_nil, Nat.reduceAdd, Nat.reduceSub, List.replicate_zero, List.replicate_succ, List.append_nil, List.cons_append, List.nil_append, List.set_cons_zero, List.set_cons_succ, sp_ret, sp_seq, sp_asg, sp_if, sp_nx, sp_drop, SP_brS, rap_cons, rap_nil, rp_bi, rp_c, rp_op2, rp_op1, rp_not, rp_or, rp_and, rp_if, rp_call, rp_varM, List.getElem?_cons_zero, List.getElem?_cons_succ, rp_notD, RP_br, RP_ok]
    refine parts_rp m ?_
    rw [rp_ixT (x := D.str near) rfl]
    exact k'
  · rw [rp_notD]; exact k
theorem tr_mark {d : D} (h : IsM cs d false) (k : X "BadMark" [("found", d)] cs) : RP (m_two_readings [d] cs) P X := by
  unfold m_two_readings mb_two_readings
  try simp only [rp_def, List.map_cons, List.map_nil, List.length_cons, List.length_nil, Nat.reduceAdd, Nat.reduceSub, List.replicate_zero, List.replicate_succ, List.append_nil, List.cons_append, List.nil_append, List.set_cons_zero, List.set_cons_succ, sp_ret, sp_seq, sp_asg, sp_if, sp_nx, sp_drop, SP_brS, rap_cons, rap_nil, rp_bi, rp_c, rp_op2, rp_op1, rp_not, rp_or, rp_and, rp_if, rp_call, rp_varM, List.getElem?_cons_zero, List.getElem?_cons_succ, rp_notD, RP_br, RP_ok]
  exact cl_mark h k
theorem tr_clear (m : Mk l pre near post s1 s2) (h : allF near = false) (k : P .non cs) : RP (m_two_readings [.str l] cs) P X := by
  unfold m_two_readings mb_two_readings
  try simp only [rp_def, List.map_cons, List.map_nil, List.length_cons, List.length_nil, Nat.reduceAdd, Nat.reduceSub, List.replicate_zero, List.replicate_succ, List.append_nil, List.cons_append, List.nil_append, List.set_cons_zero, List.set_cons_succ, sp_ret, sp_seq, sp_asg, sp_if, sp_nx, sp_drop, SP_brS, rap_cons, rap_nil, rp_bi, rp_c, rp_op2, rp_op1, rp_not, rp_or, rp_and, rp_if, rp_call, rp_varM, List.getElem?_cons_zero, List.getElem?_cons_succ, rp_notD, RP_br, RP_ok]
  refine cl_rp m ?_
  rw [h]
  simp only [rp_def, List.map_cons, List.map_nil, List.length_cons, List.length_nil, Nat.reduceAdd, Nat.reduceSub, List.replicate_zero, List.replicate_succ, List.append_nil, List.cons_append, List.nil_append, List.set_cons_zero, List.set_cons_succ, sp_ret, sp_seq, sp_asg, sp_if, sp_nx, sp_drop, SP_brS, rap_cons, rap_nil, rp_bi, rp_c, rp_op2, rp_op1, rp_not, rp_or, rp_and, rp_if, rp_call, rp_varM, List.getElem?_cons_zero, List.getElem?_cons_succ, rp_notD, RP_br, RP_ok, Bool.not_false, if_true]
  exact k
theorem tr_dim (m : Mk l pre near post s1 s2) (h : allF near = true) (k : ∀ (i : Int) (z : List Nat), z.length ≤ 100 → P (.tup [.tup [.str [97], .int i], .tup [.str z, .int 2]]) cs) : RP (m_two_readings [.str l] cs) P X := by
  have ln := m.lens
  have hd : NumText.AllDigits (50 :: (near ++ [50])) := by
    intro c hc
    rcases List.mem_cons.mp hc with rfl | hc
    · decide
    · rcases List.mem_append.mp hc with hc | hc
      · have := of_decide_eq_true (List.all_eq_true.mp h c hc)
        simp only [FG, List.mem_cons, List.not_mem_nil, or_false] at this
        omega
      · rw [List.mem_singleton.mp hc]; decide
  have ht := intText_digits (x := ⟨(50 :: (near ++ [50])).toArray⟩) (by simpa using hd) (by simp) (by rw [str_len]; simp; omega)
  unfold m_two_readings mb_two_readings
  try simp only [rp_def, List.map_cons, List.map_nil, List.length_cons, List.length_nil, Nat.reduceAdd, Nat.reduceSub, List.replicate_zero, List.replicate_succ, List.append_nil, List.cons_append, List.nil_append, List.set_cons_zero, List.set_cons_succ, sp_ret, sp_seq, sp_asg, sp_if, sp_nx, sp_drop, SP_brS, rap_cons, rap_nil, rp_bi, rp_c, rp_op2, rp_op1, rp_not, rp_or, rp_and, rp_if, rp_call, rp_varM, List.getElem?_cons_zero, List.getElem?_cons_succ, rp_notD, RP_br, RP_ok]
  refine cl_rp m ?_
  rw [h]
  simp only [rp_def, List.map_cons, List.map_nil, List.length_cons, List.length_nil, Nat.reduceAdd, Nat.reduceSub, List.replicate_zero, List.replicate_succ, List.append_nil, List.cons_append, List.nil_append, List.set_cons_zero, List.set_cons_succ, sp_ret, sp_seq, sp_asg, sp_if, sp_nx, sp_drop, SP_brS, rap_cons, rap_nil, rp_bi, rp_c, rp_op2, rp_op1, rp_not, rp_or, rp_and, rp_if, rp_call, rp_varM, List.getElem?_cons_zero, List.getElem?_cons_succ, rp_notD, RP_br, RP_ok, Bool.not_true, Bool.false_eq_true, if_false]
  refine parts_rp m ?_
  rw [rp_ixT (x := D.str near) rfl]
  try simp only [rp_def, List.map_cons, List.map_nil, List.length_cons, List.length_nil, Nat.reduceAdd, Nat.reduceSub, List.replicate_zero, List.replicate_succ, List.append_nil, List.cons_append, List.nil_append, List.set_cons_zero, List.set_cons_succ, sp_ret, sp_seq, sp_asg, sp_if, sp_nx, sp_drop, SP_brS, rap_cons, rap_nil, rp_bi, rp_c, rp_op2, rp_op1, rp_not, rp_or, rp_and, rp_if, rp_call, rp_varM, List.getElem?_cons_zero, List.getElem?_cons_succ, rp_notD, RP_br, RP_ok]
  refine nf_rp m ?_
  have w : ∀ z : List Nat, z.length ≤ 100 → SP (sRet (eTup (aCons (eTup (aCons (eC (.str [97])) (aCons (eBi intB (aCons (op2 (addD false) (op2 (addD false) (eC (.str [50])) (eVar 1)) (eC (.str [50]))) aNil)) aNil))) (aCons (eTup (aCons (eVar 2) (aCons (eC (.int 2)) aNil))) aNil))) [some (.str l), some (.str near), some (.str z)] cs) ⟨fun _ c => P .non c, P, fun _ _ => False, fun _ _ => False, fun x fs _ c => X x fs c⟩ := by
    intro z hz
    simp only [rp_def, List.map_cons, List.map_nil, List.length_cons, List.length_nil, Nat.reduceAdd, Nat.reduceSub, List.replicate_zero, List.replicate_succ, List.append_nil, List.cons_append, List.nil_append, List.set_cons_zero, List.set_cons_succ, sp_ret, sp_seq, sp_asg, sp_if, sp_nx, sp_drop, SP_brS, rap_cons, rap_nil, rp_bi, rp_c, rp_op2, rp_op1, rp_not, rp_or, rp_and, rp_if, rp_call, rp_varM, List.getElem?_cons_zero, List.getElem?_cons_succ, rp_notD, RP_br, RP_ok, rp_tup]
    rw [rp_addS (by rw [sizeLine_eq]; simp; omega), rp_addS (by rw [sizeLine_eq]; simp; omega)]
    simp only [List.cons_append, List.nil_append]
    rw [rp_int ht (by simp; omega), rp_mkT (by rw [sizeLine_eq]; simp)]
    simp only [rp_def, List.map_cons, List.map_nil, List.length_cons, List.length_nil, Nat.reduceAdd, Nat.reduceSub, List.replicate_zero, List.replicate_succ, List.append_nil, List.cons_append, List.nil_append, List.set_cons_zero, List.set_cons_succ, sp_ret, sp_seq, sp_asg, sp_if, sp_nx, sp_drop, SP_brS, rap_cons, rap_nil, rp_bi, rp_c, rp_op2, rp_op1, rp_not, rp_or, rp_and, rp_if, rp_call, rp_varM, List.getElem?_cons_zero, List.getElem?_cons_succ, rp_notD, RP_br, RP_ok, rp_tup]
    rw [rp_mkT (by rw [sizeLine_eq]; simp), rp_mkT (by rw [sizeLine_eq]; simp)]
    exact k _ z hz
  by_cases e : s1 = 42
  · simp only [e, decide_true, cond_true, rp_def, List.map_cons, List.map_nil, List.length_cons, List.length_nil, Nat.reduceAdd, Nat.reduceSub, List.replicate_zero, List.replicate_succ, List.append_nil, List.cons_append, List.nil_append, List.set_cons_zero, List.set_cons_succ, sp_ret, sp_seq, sp_asg, sp_if, sp_nx, sp_drop, SP_brS, rap_cons, rap_nil, rp_bi, rp_c, rp_op2, rp_op1, rp_not, rp_or, rp_and, rp_if, rp_call, rp_varM, List.getElem?_cons_zero, List.getElem?_cons_succ, rp_notD, RP_br, RP_ok]
    rw [rp_addS (by rw [sizeLine_eq]; simp; omega), rp_addS (by rw [sizeLine_eq]; simp; omega)]
    have := w ([97] ++ near ++ [50]) (by simp; omega)
    simp only [rp_def, List.map_cons, List.map_nil, List.length_cons, List.length_nil, Nat.reduceAdd, Nat.reduceSub, List.replicate_zero, List.replicate_succ, List.append_nil, List.cons_append, List.nil_append, List.set_cons_zero, List.set_cons_succ, sp_ret, sp_seq, sp_asg, sp_if, sp_nx, sp_drop, SP_brS, rap_cons, rap_nil, rp_bi, rp_c, rp_op2, rp_op1, rp_not, rp_or, rp_and, rp_if, rp_call, rp_varM, List.getElem?_cons_zero, List.getElem?_cons_succ, rp_notD, RP_br, RP_ok] at this ⊢
    exact this
  · simp only [e, decide_false, cond_false, rp_def, List.map_cons, List.map_nil, List.length_cons, List.length_nil, Nat.reduceAdd, Nat.reduceSub, List.replicate_zero, List.replicate_succ, List.append_nil, List.cons_append, List.nil_append, List.set_cons_zero, List.set_cons_succ, sp_ret, sp_seq, sp_asg, sp_if, sp_nx, sp_drop, SP_brS, rap_cons, rap_nil, rp_bi, rp_c, rp_op2, rp_op1, rp_not, rp_or, rp_and, rp_if, rp_call, rp_varM, List.getElem?_cons_zero, List.getElem?_cons_succ, rp_notD, RP_br, RP_ok]
    rw [rp_addS (by rw [sizeLine_eq]; simp; omega), rp_addS (by rw [sizeLine_eq]; simp; omega)]
    have := w ([50] ++ near ++ [97]) (by simp; omega)
    simp only [rp_def, List.map_cons, List.map_nil, List.length_cons, List.length_nil, Nat.reduceAdd, Nat.reduceSub, List.replicate_zero, List.replicate_succ, List.append_nil, List.cons_append, List.nil_append, List.set_cons_zero, List.set_cons_succ, sp_ret, sp_seq, sp_asg, sp_if, sp_nx, sp_drop, SP_brS, rap_cons, rap_nil, rp_bi, rp_c, rp_op2, rp_op1, rp_not, rp_or, rp_and, rp_if, rp_call, rp_varM, List.getElem?_cons_zero, List.getElem?_cons_succ, rp_notD, RP_br, RP_ok] at this ⊢
    exact this
theorem nc_mark {d : D} (h : IsM cs d false) (k : X "BadMark" [("found", d)] cs) : RP (m_need_clear [d] cs) P X := by
  unfold m_need_clear mb_need_clear
  try simp only [rp_def, List.map_cons, List.map_nil, List.length_cons, List.length_nil, Nat.reduceAdd, Nat.reduceSub, List.replicate_zero, List.replicate_succ, List.append_nil, List.cons_append, List.nil_append, List.set_cons_zero, List.set_cons_succ, sp_ret, sp_seq, sp_asg, sp_if, sp_nx, sp_drop, SP_brS, rap_cons, rap_nil, rp_bi, rp_c, rp_op2, rp_op1, rp_not, rp_or, rp_and, rp_if, rp_call, rp_varM, List.getElem?_cons_zero, List.getElem?_cons_succ, rp_notD, RP_br, RP_ok]
  exact tr_mark h k
theorem nc_rp (m : Mk l pre near post s1 s2) (h : allF near = false) (k : P .non cs) : RP (m_need_clear [.str l] cs) P X := by
  unfold m_need_clear mb_need_clear
  try simp only [rp_def, List.map_cons, List.map_nil, List.length_cons, List.length_nil, Nat.reduceAdd, Nat.reduceSub, List.replicate_zero, List.replicate_succ, List.append_nil, List.cons_append, List.nil_append, List.set_cons_zero, List.set_cons_succ, sp_ret, sp_seq, sp_asg, sp_if, sp_nx, sp_drop, SP_brS, rap_cons, rap_nil, rp_bi, rp_c, rp_op2, rp_op1, rp_not, rp_or, rp_and, rp_if, rp_call, rp_varM, List.getElem?_cons_zero, List.getElem?_cons_succ, rp_notD, RP_br, RP_ok]
  refine tr_clear m h ?_
  simp only [rp_def, List.map_cons, List.map_nil, List.length_cons, List.length_nil, Nat.reduceAdd, Nat.reduceSub, List.replicate_zero, List.replicate_succ, List.append_nil, List.cons_append, List.nil_append, List.set_cons_zero, List.set_cons_succ, sp_ret, sp_seq, sp_asg, sp_if, sp_nx, sp_drop, SP_brS, rap_cons, rap_nil, rp_bi, rp_c, rp_op2, rp_op1, rp_not, rp_or, rp_and, rp_if, rp_call, rp_varM, List.getElem?_cons_zero, List.getElem?_cons_succ, rp_notD, RP_br, RP_ok, rp_isNB, Bool.not_true, Bool.false_eq_true, if_false]
  exact k
theorem nc_dim (m : Mk l pre near post s1 s2) (h : allF near = true) (k : ∀ a b, X "Blurred" [("other", b), ("one", a)] cs) : RP (m_need_clear [.str l] cs) P X := by
  unfold m_need_clear mb_need_clear
  try simp only [rp_def, List.map_cons, List.map_nil, List.length_cons, List.length_nil, Nat.reduceAdd, Nat.reduceSub, List.replicate_zero, List.replicate_succ, List.append_nil, List.cons_append, List.nil_append, List.set_cons_zero, List.set_cons_succ, sp_ret, sp_seq, sp_asg, sp_if, sp_nx, sp_drop, SP_brS, rap_cons, rap_nil, rp_bi, rp_c, rp_op2, rp_op1, rp_not, rp_or, rp_and, rp_if, rp_call, rp_varM, List.getElem?_cons_zero, List.getElem?_cons_succ, rp_notD, RP_br, RP_ok]
  refine tr_dim m h fun i z hz => ?_
  simp only [rp_def, List.map_cons, List.map_nil, List.length_cons, List.length_nil, Nat.reduceAdd, Nat.reduceSub, List.replicate_zero, List.replicate_succ, List.append_nil, List.cons_append, List.nil_append, List.set_cons_zero, List.set_cons_succ, sp_ret, sp_seq, sp_asg, sp_if, sp_nx, sp_drop, SP_brS, rap_cons, rap_nil, rp_bi, rp_c, rp_op2, rp_op1, rp_not, rp_or, rp_and, rp_if, rp_call, rp_varM, List.getElem?_cons_zero, List.getElem?_cons_succ, rp_notD, RP_br, RP_ok, rp_isNB, Bool.not_false, if_true, sp_raise]
  rw [rp_ixT (x := D.tup [.str [97], .int i]) rfl, rp_ixT (x := D.tup [.str z, .int 2]) rfl]
  exact k _ _
/-! ### reading -/
theorem bi_rp {x y : List Nat} (hx : x.length ≤ 1000) (hy : y.length ≤ 1000) (k : ∀ d, (d = .non ∨ ∃ n i, d = .tup [.str n, .int i]) → P d cs) : RP (m_both_in [.str x, .str y] cs) P X := by
  unfold m_both_in mb_both_in
  try simp only [rp_def, List.map_cons, List.map_nil, List.length_cons, List.length_nil, Nat.reduceAdd, Nat.reduceSub, List.replicate_zero, List.replicate_succ, List.append_nil, List.cons_append, List.nil_append, List.set_cons_zero, List.set_cons_succ, sp_ret, sp_seq, sp_asg, sp_if, sp_nx, sp_drop, SP_brS, rap_cons, rap_nil, rp_bi, rp_c, rp_op2, rp_op1, rp_not, rp_or, rp_and, rp_if, rp_call, rp_varM, List.getElem?_cons_zero, List.getElem?_cons_succ, rp_notD, RP_br, RP_ok]
  refine num_str (by rw [sizeLine_eq]; omega) ?_
  unfold nuL
  split
  · simp only [rp_def, List.map_cons, List.map_nil, List.length_cons, List.length_nil, Nat.reduceAdd, Nat.reduceSub, List.replicate_zero, List.replicate_succ, List.append_nil, List.cons_append, List.nil_append, List.set_cons_zero, List.set_cons_succ, sp_ret, sp_seq, sp_asg, sp_if, sp_nx, sp_drop, SP_brS, rap_cons, rap_nil, rp_bi, rp_c, rp_op2, rp_op1, rp_not, rp_or, rp_and, rp_if, rp_call, rp_varM, List.getElem?_cons_zero, List.getElem?_cons_succ, rp_notD, RP_br, RP_ok, rp_isB, cond_false]
    refine isn_str (by rw [sizeLine_eq]; omega) ?_
    cases nm x with
    | true =>
      simp only [rp_def, List.map_cons, List.map_nil, List.length_cons, List.length_nil, Nat.reduceAdd, Nat.reduceSub, List.replicate_zero, List.replicate_succ, List.append_nil, List.cons_append, List.nil_append, List.set_cons_zero, List.set_cons_succ, sp_ret, sp_seq, sp_asg, sp_if, sp_nx, sp_drop, SP_brS, rap_cons, rap_nil, rp_bi, rp_c, rp_op2, rp_op1, rp_not, rp_or, rp_and, rp_if, rp_call, rp_varM, List.getElem?_cons_zero, List.getElem?_cons_succ, rp_notD, RP_br, RP_ok, Bool.not_true, Bool.false_eq_true, if_false, rp_tup]
      rw [rp_mkT (by rw [sizeLine_eq]; simp)]
      exact k _ (.inr ⟨_, _, rfl⟩)
    | false =>
      simp only [rp_def, List.map_cons, List.map_nil, List.length_cons, List.length_nil, Nat.reduceAdd, Nat.reduceSub, List.replicate_zero, List.replicate_succ, List.append_nil, List.cons_append, List.nil_append, List.set_cons_zero, List.set_cons_succ, sp_ret, sp_seq, sp_asg, sp_if, sp_nx, sp_drop, SP_brS, rap_cons, rap_nil, rp_bi, rp_c, rp_op2, rp_op1, rp_not, rp_or, rp_and, rp_if, rp_call, rp_varM, List.getElem?_cons_zero, List.getElem?_cons_succ, rp_notD, RP_br, RP_ok, Bool.not_false, if_true]
      exact k _ (.inl rfl)
  · simp only [rp_def, List.map_cons, List.map_nil, List.length_cons, List.length_nil, Nat.reduceAdd, Nat.reduceSub, List.replicate_zero, List.replicate_succ, List.append_nil, List.cons_append, List.nil_append, List.set_cons_zero, List.set_cons_succ, sp_ret, sp_seq, sp_asg, sp_if, sp_nx, sp_drop, SP_brS, rap_cons, rap_nil, rp_bi, rp_c, rp_op2, rp_op1, rp_not, rp_or, rp_and, rp_if, rp_call, rp_varM, List.getElem?_cons_zero, List.getElem?_cons_succ, rp_notD, RP_br, RP_ok, rp_isB, cond_true, if_true]
    exact k _ (.inl rfl)
theorem nb_rp {x y : List Nat} (hx : x.length ≤ 500) (hy : y.length ≤ 500) (k : ∀ d, (d = .non ∨ ∃ n i, d = .tup [.str n, .int i]) → P d cs) : RP (m_number_behind [.str x, .str y] cs) P X := by
  have sx : x.length ≤ sizeLine := by rw [sizeLine_eq]; omega
  have sy : y.length ≤ sizeLine := by rw [sizeLine_eq]; omega
  unfold m_number_behind mb_number_behind
  try simp only [rp_def, List.map_cons, List.map_nil, List.length_cons, List.length_nil, Nat.reduceAdd, Nat.reduceSub, List.replicate_zero, List.replicate_succ, List.append_nil, List.cons_append, List.nil_append, List.set_cons_zero, List.set_cons_succ, sp_ret, sp_seq, sp_asg, sp_if, sp_nx, sp_drop, SP_brS, rap_cons, rap_nil, rp_bi, rp_c, rp_op2, rp_op1, rp_not, rp_or, rp_and, rp_if, rp_call, rp_varM, List.getElem?_cons_zero, List.getElem?_cons_succ, rp_notD, RP_br, RP_ok, rp_lenS sx, rp_lenS sy, rp_m1]
  refine rp_rsc sy fun z hz => ?_
  rw [rp_lenS (by omega), rp_sub]
  try simp only [rp_def, List.map_cons, List.map_nil, List.length_cons, List.length_nil, Nat.reduceAdd, Nat.reduceSub, List.replicate_zero, List.replicate_succ, List.append_nil, List.cons_append, List.nil_append, List.set_cons_zero, List.set_cons_succ, sp_ret, sp_seq, sp_asg, sp_if, sp_nx, sp_drop, SP_brS, rap_cons, rap_nil, rp_bi, rp_c, rp_op2, rp_op1, rp_not, rp_or, rp_and, rp_if, rp_call, rp_varM, List.getElem?_cons_zero, List.getElem?_cons_succ, rp_notD, RP_br, RP_ok, rp_lenS sx, rp_lenS sy, rp_m1]
  refine rp_rsc sx fun z2 hz2 => ?_
  rw [rp_lenS (by omega), rp_addI]
  simp only [rp_def, List.map_cons, List.map_nil, List.length_cons, List.length_nil, Nat.reduceAdd, Nat.reduceSub, List.replicate_zero, List.replicate_succ, List.append_nil, List.cons_append, List.nil_append, List.set_cons_zero, List.set_cons_succ, sp_ret, sp_seq, sp_asg, sp_if, sp_nx, sp_drop, SP_brS, rap_cons, rap_nil, rp_bi, rp_c, rp_op2, rp_op1, rp_not, rp_or, rp_and, rp_if, rp_call, rp_varM, List.getElem?_cons_zero, List.getElem?_cons_succ, rp_notD, RP_br, RP_ok, rp_sl, ro_none, ro_varM, rp_slS sx, rp_m1, rp_ends]
  have hc := cutL_len x none (some ((z2.length : Int) + ((y.length : Int) - (z.length : Int))))
  cases Txt.endswith (mk (cutL x none (some ((z2.length : Int) + ((y.length : Int) - (z.length : Int)))))) (mk y) with
  | false =>
    simp only [rp_def, List.map_cons, List.map_nil, List.length_cons, List.length_nil, Nat.reduceAdd, Nat.reduceSub, List.replicate_zero, List.replicate_succ, List.append_nil, List.cons_append, List.nil_append, List.set_cons_zero, List.set_cons_succ, sp_ret, sp_seq, sp_asg, sp_if, sp_nx, sp_drop, SP_brS, rap_cons, rap_nil, rp_bi, rp_c, rp_op2, rp_op1, rp_not, rp_or, rp_and, rp_if, rp_call, rp_varM, List.getElem?_cons_zero, List.getElem?_cons_succ, rp_notD, RP_br, RP_ok, Bool.not_false, if_true]
    exact k _ (.inl rfl)
  | true =>
    have hs : (cutL x none (some ((z2.length : Int) + ((y.length : Int) - (z.length : Int))))).length ≤ sizeLine := by omega
    have ro : oSome (op2 subD (eBi lenB (aCons (eVar 4) aNil)) (eBi lenB (aCons (eVar 1) aNil))) [some (D.str x), some (D.str y), some (D.int ((y.length : Int) - (z.length : Int))), some (D.int ((z2.length : Int) + ((y.length : Int) - (z.length : Int)))), some (D.str (cutL x none (some ((z2.length : Int) + ((y.length : Int) - (z.length : Int))))))] cs = some (some (((cutL x none (some ((z2.length : Int) + ((y.length : Int) - (z.length : Int))))).length : Int) - (y.length : Int)), cs) := by
      refine ro_some (RP.eq ?_)
      simp only [rp_def, List.map_cons, List.map_nil, List.length_cons, List.length_nil, Nat.reduceAdd, Nat.reduceSub, List.replicate_zero, List.replicate_succ, List.append_nil, List.cons_append, List.nil_append, List.set_cons_zero, List.set_cons_succ, sp_ret, sp_seq, sp_asg, sp_if, sp_nx, sp_drop, SP_brS, rap_cons, rap_nil, rp_bi, rp_c, rp_op2, rp_op1, rp_not, rp_or, rp_and, rp_if, rp_call, rp_varM, List.getElem?_cons_zero, List.getElem?_cons_succ, rp_notD, RP_br, RP_ok, rp_lenS hs, rp_lenS sy, rp_sub]
      first | exact ⟨rfl, rfl⟩ | exact ⟨rfl, trivial⟩ | exact ⟨trivial, rfl⟩ | exact trivial | exact ⟨trivial, trivial⟩
    simp only [rp_def, List.map_cons, List.map_nil, List.length_cons, List.length_nil, Nat.reduceAdd, Nat.reduceSub, List.replicate_zero, List.replicate_succ, List.append_nil, List.cons_append, List.nil_append, List.set_cons_zero, List.set_cons_succ, sp_ret, sp_seq, sp_asg, sp_if, sp_nx, sp_drop, SP_brS, rap_cons, rap_nil, rp_bi, rp_c, rp_op2, rp_op1, rp_not, rp_or, rp_and, rp_if, rp_call, rp_varM, List.getElem?_cons_zero, List.getElem?_cons_succ, rp_notD, RP_br, RP_ok, Bool.not_true, Bool.false_eq_true, if_false, rp_sl, ro_none, ro_varM, ro, rp_slS sx, rp_slS hs]
    exact bi_rp (Nat.le_trans (cutL_len _ _ _) (by omega)) (Nat.le_trans (cutL_len _ _ _) (by omega)) k
theorem na_rp {x y : List Nat} (hx : x.length ≤ 500) (hy : y.length ≤ 500) (k : ∀ d, (d = .non ∨ ∃ n i, d = .tup [.str n, .int i]) → P d cs) : RP (m_number_ahead [.str x, .str y] cs) P X := by
  have sx : x.length ≤ sizeLine := by rw [sizeLine_eq]; omega
  have sy : y.length ≤ sizeLine := by rw [sizeLine_eq]; omega
  unfold m_number_ahead mb_number_ahead
  try simp only [rp_def, List.map_cons, List.map_nil, List.length_cons, List.length_nil, Nat.reduceAdd, Nat.reduceSub, List.replicate_zero, List.replicate_succ, List.append_nil, List.cons_append, List.nil_append, List.set_cons_zero, List.set_cons_succ, sp_ret, sp_seq, sp_asg, sp_if, sp_nx, sp_drop, SP_brS, rap_cons, rap_nil, rp_bi, rp_c, rp_op2, rp_op1, rp_not, rp_or, rp_and, rp_if, rp_call, rp_varM, List.getElem?_cons_zero, List.getElem?_cons_succ, rp_notD, RP_br, RP_ok, rp_lenS sx, rp_lenS sy, rp_m1]
  refine rp_lsc sy fun z hz => ?_
  rw [rp_lenS (by omega), rp_sub]
  try simp only [rp_def, List.map_cons, List.map_nil, List.length_cons, List.length_nil, Nat.reduceAdd, Nat.reduceSub, List.replicate_zero, List.replicate_succ, List.append_nil, List.cons_append, List.nil_append, List.set_cons_zero, List.set_cons_succ, sp_ret, sp_seq, sp_asg, sp_if, sp_nx, sp_drop, SP_brS, rap_cons, rap_nil, rp_bi, rp_c, rp_op2, rp_op1, rp_not, rp_or, rp_and, rp_if, rp_call, rp_varM, List.getElem?_cons_zero, List.getElem?_cons_succ, rp_notD, RP_br, RP_ok, rp_lenS sx, rp_lenS sy, rp_m1]
  refine rp_lsc sx fun z2 hz2 => ?_
  rw [rp_lenS (by omega), rp_sub]
  simp only [rp_def, List.map_cons, List.map_nil, List.length_cons, List.length_nil, Nat.reduceAdd, Nat.reduceSub, List.replicate_zero, List.replicate_succ, List.append_nil, List.cons_append, List.nil_append, List.set_cons_zero, List.set_cons_succ, sp_ret, sp_seq, sp_asg, sp_if, sp_nx, sp_drop, SP_brS, rap_cons, rap_nil, rp_bi, rp_c, rp_op2, rp_op1, rp_not, rp_or, rp_and, rp_if, rp_call, rp_varM, List.getElem?_cons_zero, List.getElem?_cons_succ, rp_notD, RP_br, RP_ok, rp_sub, rp_lt]
  generalize (x.length : Int) - (z2.length : Int) - ((y.length : Int) - (z.length : Int)) = j
  by_cases hj : j < 1
  · simp only [hj, decide_true, cond_true, rp_def, List.map_cons, List.map_nil, List.length_cons, List.length_nil, Nat.reduceAdd, Nat.reduceSub, List.replicate_zero, List.replicate_succ, List.append_nil, List.cons_append, List.nil_append, List.set_cons_zero, List.set_cons_succ, sp_ret, sp_seq, sp_asg, sp_if, sp_nx, sp_drop, SP_brS, rap_cons, rap_nil, rp_bi, rp_c, rp_op2, rp_op1, rp_not, rp_or, rp_and, rp_if, rp_call, rp_varM, List.getElem?_cons_zero, List.getElem?_cons_succ, rp_notD, RP_br, RP_ok, if_true]
    exact k _ (.inl rfl)
  · simp only [hj, decide_false, cond_false, rp_def, List.map_cons, List.map_nil, List.length_cons, List.length_nil, Nat.reduceAdd, Nat.reduceSub, List.replicate_zero, List.replicate_succ, List.append_nil, List.cons_append, List.nil_append, List.set_cons_zero, List.set_cons_succ, sp_ret, sp_seq, sp_asg, sp_if, sp_nx, sp_drop, SP_brS, rap_cons, rap_nil, rp_bi, rp_c, rp_op2, rp_op1, rp_not, rp_or, rp_and, rp_if, rp_call, rp_varM, List.getElem?_cons_zero, List.getElem?_cons_succ, rp_notD, RP_br, RP_ok, rp_sl, ro_none, ro_varM, rp_slS sx, rp_m1, rp_starts]
    cases Txt.startswith (mk (cutL x (some j) none)) (mk y) with
    | false =>
      simp only [rp_def, List.map_cons, List.map_nil, List.length_cons, List.length_nil, Nat.reduceAdd, Nat.reduceSub, List.replicate_zero, List.replicate_succ, List.append_nil, List.cons_append, List.nil_append, List.set_cons_zero, List.set_cons_succ, sp_ret, sp_seq, sp_asg, sp_if, sp_nx, sp_drop, SP_brS, rap_cons, rap_nil, rp_bi, rp_c, rp_op2, rp_op1, rp_not, rp_or, rp_and, rp_if, rp_call, rp_varM, List.getElem?_cons_zero, List.getElem?_cons_succ, rp_notD, RP_br, RP_ok, Bool.not_false, if_true]
      exact k _ (.inl rfl)
    | true =>
      have ro : oSome (op2 (addD false) (eVar 3) (eBi lenB (aCons (eVar 1) aNil))) [some (D.str x), some (D.str y), some (D.int ((y.length : Int) - (z.length : Int))), some (D.int j)] cs = some (some (j + (y.length : Int)), cs) := by
        refine ro_some (RP.eq ?_)
        simp only [rp_def, List.map_cons, List.map_nil, List.length_cons, List.length_nil, Nat.reduceAdd, Nat.reduceSub, List.replicate_zero, List.replicate_succ, List.append_nil, List.cons_append, List.nil_append, List.set_cons_zero, List.set_cons_succ, sp_ret, sp_seq, sp_asg, sp_if, sp_nx, sp_drop, SP_brS, rap_cons, rap_nil, rp_bi, rp_c, rp_op2, rp_op1, rp_not, rp_or, rp_and, rp_if, rp_call, rp_varM, List.getElem?_cons_zero, List.getElem?_cons_succ, rp_notD, RP_br, RP_ok, rp_lenS sy, rp_addI]
        first | exact ⟨rfl, rfl⟩ | exact ⟨rfl, trivial⟩ | exact ⟨trivial, rfl⟩ | exact trivial | exact ⟨trivial, trivial⟩
      simp only [rp_def, List.map_cons, List.map_nil, List.length_cons, List.length_nil, Nat.reduceAdd, Nat.reduceSub, List.replicate_zero, List.replicate_succ, List.append_nil, List.cons_append, List.nil_append, List.set_cons_zero, List.set_cons_succ, sp_ret, sp_seq, sp_asg, sp_if, sp_nx, sp_drop, SP_brS, rap_cons, rap_nil, rp_bi, rp_c, rp_op2, rp_op1, rp_not, rp_or, rp_and, rp_if, rp_call, rp_varM, List.getElem?_cons_zero, List.getElem?_cons_succ, rp_notD, RP_br, RP_ok, Bool.not_true, Bool.false_eq_true, if_false, rp_sl, ro_none, ro_varM, ro, rp_slS sx]
      exact bi_rp (Nat.le_trans (cutL_len _ _ _) (by omega)) (Nat.le_trans (cutL_len _ _ _) (by omega)) k
theorem rd_mark {d e : D} (h : IsM cs d false) (k : X "BadMark" [("found", d)] cs) : RP (m_reading [d, e] cs) P X := by
  unfold m_reading mb_reading
  try simp only [rp_def, List.map_cons, List.map_nil, List.length_cons, List.length_nil, Nat.reduceAdd, Nat.reduceSub, List.replicate_zero, List.replicate_succ, List.append_nil, List.cons_append, List.nil_append, List.set_cons_zero, List.set_cons_succ, sp_ret, sp_seq, sp_asg, sp_if, sp_nx, sp_drop, SP_brS, rap_cons, rap_nil, rp_bi, rp_c, rp_op2, rp_op1, rp_not, rp_or, rp_and, rp_if, rp_call, rp_varM, List.getElem?_cons_zero, List.getElem?_cons_succ, rp_notD, RP_br, RP_ok]
  exact nc_mark h k
theorem rd_dim (m : Mk l pre near post s1 s2) (h : allF near = true) {e : D} (k : ∀ a b, X "Blurred" [("other", b), ("one", a)] cs) : RP (m_reading [.str l, e] cs) P X := by
  unfold m_reading mb_reading
  try simp only [rp_def, List.map_cons, List.map_nil, List.length_cons, List.length_nil, Nat.reduceAdd, Nat.reduceSub, List.replicate_zero, List.replicate_succ, List.append_nil, List.cons_append, List.nil_append, List.set_cons_zero, List.set_cons_succ, sp_ret, sp_seq, sp_asg, sp_if, sp_nx, sp_drop, SP_brS, rap_cons, rap_nil, rp_bi, rp_c, rp_op2, rp_op1, rp_not, rp_or, rp_and, rp_if, rp_call, rp_varM, List.getElem?_cons_zero, List.getElem?_cons_succ, rp_notD, RP_br, RP_ok]
  exact nc_dim m h k
theorem rd_name (m : Mk l pre near post s1 s2) (h : allF near = false) {e : D} (q : IsN cs e false) (k : X "BadName" [("found", e)] cs) : RP (m_reading [.str l, e] cs) P X := by
  unfold m_reading mb_reading
  try simp only [rp_def, List.map_cons, List.map_nil, List.length_cons, List.length_nil, Nat.reduceAdd, Nat.reduceSub, List.replicate_zero, List.replicate_succ, List.append_nil, List.cons_append, List.nil_append, List.set_cons_zero, List.set_cons_succ, sp_ret, sp_seq, sp_asg, sp_if, sp_nx, sp_drop, SP_brS, rap_cons, rap_nil, rp_bi, rp_c, rp_op2, rp_op1, rp_not, rp_or, rp_and, rp_if, rp_call, rp_varM, List.getElem?_cons_zero, List.getElem?_cons_succ, rp_notD, RP_br, RP_ok]
  refine nc_rp m h ?_
  try simp only [rp_def, List.map_cons, List.map_nil, List.length_cons, List.length_nil, Nat.reduceAdd, Nat.reduceSub, List.replicate_zero, List.replicate_succ, List.append_nil, List.cons_append, List.nil_append, List.set_cons_zero, List.set_cons_succ, sp_ret, sp_seq, sp_asg, sp_if, sp_nx, sp_drop, SP_brS, rap_cons, rap_nil, rp_bi, rp_c, rp_op2, rp_op1, rp_not, rp_or, rp_and, rp_if, rp_call, rp_varM, List.getElem?_cons_zero, List.getElem?_cons_succ, rp_notD, RP_br, RP_ok]
  exact nn_x q k
theorem rd_ok (m : Mk l pre near post s1 s2) (h : allF near = false) {n : List Nat} (q : IsN cs (.str n) true) (hn : n.length ≤ 500) (k : ∀ d, (d = .non ∨ ∃ n i, d = .tup [.str n, .int i]) → P d cs) : RP (m_reading [.str l, .str n] cs) P X := by
  have ln := m.lens
  have sn : n.length ≤ sizeLine := by rw [sizeLine_eq]; omega
  have sp : pre.length ≤ sizeLine := by rw [sizeLine_eq]; omega
  have sq : post.length ≤ sizeLine := by rw [sizeLine_eq]; omega
  unfold m_reading mb_reading
  try simp only [rp_def, List.map_cons, List.map_nil, List.length_cons, List.length_nil, Nat.reduceAdd, Nat.reduceSub, List.replicate_zero, List.replicate_succ, List.append_nil, List.cons_append, List.nil_append, List.set_cons_zero, List.set_cons_succ, sp_ret, sp_seq, sp_asg, sp_if, sp_nx, sp_drop, SP_brS, rap_cons, rap_nil, rp_bi, rp_c, rp_op2, rp_op1, rp_not, rp_or, rp_and, rp_if, rp_call, rp_varM, List.getElem?_cons_zero, List.getElem?_cons_succ, rp_notD, RP_br, RP_ok]
  refine nc_rp m h ?_
  try simp only [rp_def, List.map_cons, List.map_nil, List.length_cons, List.length_nil, Nat.reduceAdd, Nat.reduceSub, List.replicate_zero, List.replicate_succ, List.append_nil, List.cons_append, List.nil_append, List.set_cons_zero, List.set_cons_succ, sp_ret, sp_seq, sp_asg, sp_if, sp_nx, sp_drop, SP_brS, rap_cons, rap_nil, rp_bi, rp_c, rp_op2, rp_op1, rp_not, rp_or, rp_and, rp_if, rp_call, rp_varM, List.getElem?_cons_zero, List.getElem?_cons_succ, rp_notD, RP_br, RP_ok]
  refine nn_rp q ?_
  simp only [rp_def, List.map_cons, List.map_nil, List.length_cons, List.length_nil, Nat.reduceAdd, Nat.reduceSub, List.replicate_zero, List.replicate_succ, List.append_nil, List.cons_append, List.nil_append, List.set_cons_zero, List.set_cons_succ, sp_ret, sp_seq, sp_asg, sp_if, sp_nx, sp_drop, SP_brS, rap_cons, rap_nil, rp_bi, rp_c, rp_op2, rp_op1, rp_not, rp_or, rp_and, rp_if, rp_call, rp_varM, List.getElem?_cons_zero, List.getElem?_cons_succ, rp_notD, RP_br, RP_ok, sp_asgT]
  refine parts_rp m ?_
  simp only [rp_def, List.map_cons, List.map_nil, List.length_cons, List.length_nil, Nat.reduceAdd, Nat.reduceSub, List.replicate_zero, List.replicate_succ, List.append_nil, List.cons_append, List.nil_append, List.set_cons_zero, List.set_cons_succ, sp_ret, sp_seq, sp_asg, sp_if, sp_nx, sp_drop, SP_brS, rap_cons, rap_nil, rp_bi, rp_c, rp_op2, rp_op1, rp_not, rp_or, rp_and, rp_if, rp_call, rp_varM, List.getElem?_cons_zero, List.getElem?_cons_succ, rp_notD, RP_br, RP_ok, tgTup, tgTs, rp_lenS sn, rp_lenS sp, rp_lenS sq, rp_addI, rp_lt, rp_m1, rp_starts, rp_ends]
  cases decide ((n.length : Int) < (pre.length : Int) + (post.length : Int)) with
  | true => simp only [cond_true, if_true, rp_def, List.map_cons, List.map_nil, List.length_cons, List.length_nil, Nat.reduceAdd, Nat.reduceSub, List.replicate_zero, List.replicate_succ, List.append_nil, List.cons_append, List.nil_append, List.set_cons_zero, List.set_cons_succ, sp_ret, sp_seq, sp_asg, sp_if, sp_nx, sp_drop, SP_brS, rap_cons, rap_nil, rp_bi, rp_c, rp_op2, rp_op1, rp_not, rp_or, rp_and, rp_if, rp_call, rp_varM, List.getElem?_cons_zero, List.getElem?_cons_succ, rp_notD, RP_br, RP_ok]; exact k _ (.inl rfl)
  | false =>
    cases Txt.startswith (mk n) (mk pre) with
    | false => simp only [cond_true, cond_false, Bool.not_false, if_true, rp_def, List.map_cons, List.map_nil, List.length_cons, List.length_nil, Nat.reduceAdd, Nat.reduceSub, List.replicate_zero, List.replicate_succ, List.append_nil, List.cons_append, List.nil_append, List.set_cons_zero, List.set_cons_succ, sp_ret, sp_seq, sp_asg, sp_if, sp_nx, sp_drop, SP_brS, rap_cons, rap_nil, rp_bi, rp_c, rp_op2, rp_op1, rp_not, rp_or, rp_and, rp_if, rp_call, rp_varM, List.getElem?_cons_zero, List.getElem?_cons_succ, rp_notD, RP_br, RP_ok]; exact k _ (.inl rfl)
    | true =>
      cases Txt.endswith (mk n) (mk post) with
      | false => simp only [cond_true, cond_false, Bool.not_false, Bool.not_true, if_true, rp_def, List.map_cons, List.map_nil, List.length_cons, List.length_nil, Nat.reduceAdd, Nat.reduceSub, List.replicate_zero, List.replicate_succ, List.append_nil, List.cons_append, List.nil_append, List.set_cons_zero, List.set_cons_succ, sp_ret, sp_seq, sp_asg, sp_if, sp_nx, sp_drop, SP_brS, rap_cons, rap_nil, rp_bi, rp_c, rp_op2, rp_op1, rp_not, rp_or, rp_and, rp_if, rp_call, rp_varM, List.getElem?_cons_zero, List.getElem?_cons_succ, rp_notD, RP_br, RP_ok]; exact k _ (.inl rfl)
      | true =>
        have r1 : oSome (eBi lenB (aCons (eVar 2) aNil)) [some (.str l), some (.str n), some (.str pre), some (.str near), some (.str post), none] cs = some (some (pre.length : Int), cs) := by
          refine ro_some (RP.eq ?_)
          simp only [rp_def, List.map_cons, List.map_nil, List.length_cons, List.length_nil, Nat.reduceAdd, Nat.reduceSub, List.replicate_zero, List.replicate_succ, List.append_nil, List.cons_append, List.nil_append, List.set_cons_zero, List.set_cons_succ, sp_ret, sp_seq, sp_asg, sp_if, sp_nx, sp_drop, SP_brS, rap_cons, rap_nil, rp_bi, rp_c, rp_op2, rp_op1, rp_not, rp_or, rp_and, rp_if, rp_call, rp_varM, List.getElem?_cons_zero, List.getElem?_cons_succ, rp_notD, RP_br, RP_ok, rp_lenS sp]
          first | exact ⟨rfl, rfl⟩ | exact ⟨rfl, trivial⟩ | exact ⟨trivial, rfl⟩ | exact trivial | exact ⟨trivial, trivial⟩
        have r2 : oSome (op2 subD (eBi lenB (aCons (eVar 1) aNil)) (eBi lenB (aCons (eVar 4) aNil))) [some (.str l), some (.str n), some (.str pre), some (.str near), some (.str post), none] cs = some (some ((n.length : Int) - (post.length : Int)), cs) := by
          refine ro_some (RP.eq ?_)
          simp only [rp_def, List.map_cons, List.map_nil, List.length_cons, List.length_nil, Nat.reduceAdd, Nat.reduceSub, List.replicate_zero, List.replicate_succ, List.append_nil, List.cons_append, List.nil_append, List.set_cons_zero, List.set_cons_succ, sp_ret, sp_seq, sp_asg, sp_if, sp_nx, sp_drop, SP_brS, rap_cons, rap_nil, rp_bi, rp_c, rp_op2, rp_op1, rp_not, rp_or, rp_and, rp_if, rp_call, rp_varM, List.getElem?_cons_zero, List.getElem?_cons_succ, rp_notD, RP_br, RP_ok, rp_lenS sn, rp_lenS sq, rp_sub]
          first | exact ⟨rfl, rfl⟩ | exact ⟨rfl, trivial⟩ | exact ⟨trivial, rfl⟩ | exact trivial | exact ⟨trivial, trivial⟩
        simp only [cond_true, cond_false, Bool.not_true, Bool.false_eq_true, if_false, rp_def, List.map_cons, List.map_nil, List.length_cons, List.length_nil, Nat.reduceAdd, Nat.reduceSub, List.replicate_zero, List.replicate_succ, List.append_nil, List.cons_append, List.nil_append, List.set_cons_zero, List.set_cons_succ, sp_ret, sp_seq, sp_asg, sp_if, sp_nx, sp_drop, SP_brS, rap_cons, rap_nil, rp_bi, rp_c, rp_op2, rp_op1, rp_not, rp_or, rp_and, rp_if, rp_call, rp_varM, List.getElem?_cons_zero, List.getElem?_cons_succ, rp_notD, RP_br, RP_ok, rp_sl, r1, r2, rp_slS sn]
        have hc := cutL_len n (some (pre.length : Int)) (some ((n.length : Int) - (post.length : Int)))
        refine nf_rp m ?_
        by_cases e : s1 = 42
        · simp only [e, decide_true, if_true, rp_def, List.map_cons, List.map_nil, List.length_cons, List.length_nil, Nat.reduceAdd, Nat.reduceSub, List.replicate_zero, List.replicate_succ, List.append_nil, List.cons_append, List.nil_append, List.set_cons_zero, List.set_cons_succ, sp_ret, sp_seq, sp_asg, sp_if, sp_nx, sp_drop, SP_brS, rap_cons, rap_nil, rp_bi, rp_c, rp_op2, rp_op1, rp_not, rp_or, rp_and, rp_if, rp_call, rp_varM, List.getElem?_cons_zero, List.getElem?_cons_succ, rp_notD, RP_br, RP_ok]
          exact nb_rp (by omega) (by omega) k
        · simp only [e, decide_false, Bool.false_eq_true, if_false, rp_def, List.map_cons, List.map_nil, List.length_cons, List.length_nil, Nat.reduceAdd, Nat.reduceSub, List.replicate_zero, List.replicate_succ, List.append_nil, List.cons_append, List.nil_append, List.set_cons_zero, List.set_cons_succ, sp_ret, sp_seq, sp_asg, sp_if, sp_nx, sp_drop, SP_brS, rap_cons, rap_nil, rp_bi, rp_c, rp_op2, rp_op1, rp_not, rp_or, rp_and, rp_if, rp_call, rp_varM, List.getElem?_cons_zero, List.getElem?_cons_succ, rp_notD, RP_br, RP_ok]
          exact na_rp (by omega) (by omega) k
end

theorem isnu_rp {d : D} {cs : Cells} {u : String} (h : tyC cs d = some u) (q : u ∈ TZ) (hi' : u = "int" → ∃ i, d = .int i) (hn : u ≠ "int" → ∀ i, d ≠ .int i) : IsNu cs d (ig d 2 999999999999999) := by
  intro P X k
  unfold m_is_number mb_is_number
  simp only [rp_def, List.map_cons, List.map_nil, List.length_cons, List.length_nil, Nat.reduceAdd, Nat.reduceSub, List.replicate_zero, List.replicate_succ, List.append_nil, List.cons_append, List.nil_append, List.set_cons_zero, List.set_cons_succ, sp_ret, sp_seq, sp_asg, sp_if, sp_nx, sp_drop, SP_brS, rap_cons, rap_nil, rp_bi, rp_c, rp_op2, rp_op1, rp_not, rp_or, rp_and, rp_if, rp_call, rp_varM, List.getElem?_cons_zero, List.getElem?_cons_succ, rp_notD, RP_br, RP_ok]
  exact int_rp h q hi' hn k
theorem isnu_int {cs : Cells} (i : Int) : IsNu cs (.int i) (ig (.int i) 2 999999999999999) := isnu_rp (u := "int") rfl (by simp) (fun _ => ⟨i, rfl⟩) (fun e => absurd rfl e)

end T_k15

namespace T_k15
open PySem L2 L3
/-! ### rules -/
abbrev wNest : List Nat := [110, 101, 115, 116]
abbrev wClimb : List Nat := [99, 108, 105, 109, 98]
def RuF (l w : List Nat) : List (Str × D) := [("rule_mark", .str l), ("rule_way", .str w)]
def RuleAt (cs : Cells) (n : Nat) (l w : List Nat) : Prop := cs[n]? = some (.ins "Rule" (RuF l w))
section
variable {l w : List Nat} {cs : Cells} {n : Nat} {P : D → Cells → Prop} {X : KX}
theorem ru_mark : (RuF l w).lookup ("rule_mark" : Str) = some (.str l) := by
  unfold RuF; rw [List.lookup, beq_self_eq_true]
theorem ru_way : (RuF l w).lookup ("rule_way" : Str) = some (.str w) := by
  unfold RuF; rw [List.lookup, show (("rule_way" : Str) == "rule_mark") = false by decide +kernel, List.lookup, beq_self_eq_true]
theorem ru_no {m : Str} (h : (m == "rule_mark") = false) (h2 : (m == "rule_way") = false) : (RuF l w).lookup m = none := by
  unfold RuF; rw [List.lookup, h, List.lookup, h2]; rfl
theorem ru_read : (RuF l w).lookup ("read" : Str) = none := ru_no (by decide +kernel) (by decide +kernel)
theorem ru_wayM : (RuF l w).lookup ("way" : Str) = none := ru_no (by decide +kernel) (by decide +kernel)
theorem ru_put : (RuF l w).lookup ("put" : Str) = none := ru_no (by decide +kernel) (by decide +kernel)
theorem RuleAt.ins (h : RuleAt cs n l w) : insAt cs (.loc n) = some (n, ("Rule" : Str), RuF l w) := ins_at h
theorem rread_rp (h : RuleAt cs n l w) {e : D} (k : RP (m_reading [.str l, e] cs) P X) : RP (m_Rule_read [.loc n, e] cs) P X := by
  unfold m_Rule_read mb_Rule_read
  simp only [rp_def, List.map_cons, List.map_nil, List.length_cons, List.length_nil, Nat.reduceAdd, Nat.reduceSub, List.replicate_zero, List.replicate_succ, List.append_nil, List.cons_append, List.nil_append, List.set_cons_zero, List.set_cons_succ, sp_ret, sp_seq, sp_asg, sp_if, sp_nx, sp_drop, SP_brS, rap_cons, rap_nil, rp_bi, rp_c, rp_op2, rp_op1, rp_not, rp_or, rp_and, rp_if, rp_call, rp_varM, List.getElem?_cons_zero, List.getElem?_cons_succ, rp_notD, RP_br, RP_ok, rp_eFld, h.ins, eq_self, if_true, ru_mark]
  exact k
theorem rway_rp (h : RuleAt cs n l w) (k : P (.str w) cs) : RP (m_Rule_way [.loc n] cs) P X := by
  unfold m_Rule_way mb_Rule_way
  simp only [rp_def, List.map_cons, List.map_nil, List.length_cons, List.length_nil, Nat.reduceAdd, Nat.reduceSub, List.replicate_zero, List.replicate_succ, List.append_nil, List.cons_append, List.nil_append, List.set_cons_zero, List.set_cons_succ, sp_ret, sp_seq, sp_asg, sp_if, sp_nx, sp_drop, SP_brS, rap_cons, rap_nil, rp_bi, rp_c, rp_op2, rp_op1, rp_not, rp_or, rp_and, rp_if, rp_call, rp_varM, List.getElem?_cons_zero, List.getElem?_cons_succ, rp_notD, RP_br, RP_ok, rp_eFld, h.ins, eq_self, if_true, ru_way]
  exact k
/-! making one -/
def WayBad (cs : Cells) (d : D) : Prop := (∃ u, tyC cs d = some u ∧ u ∈ TY) ∨ ∃ l, d = .str l ∧ wNest ≠ l ∧ wClimb ≠ l
theorem in_ways {l : List Nat} : inB cs (.str l) (.tup [.str wNest, .str wClimb]) = some (decide (wNest = l) || (decide (wClimb = l) || false)) := by
  unfold inB
  split
  · rename_i e; cases e
  · rfl
theorem rp_ways {l : List Nat} : RP (ninD cs (.str l) (.tup [.str wNest, .str wClimb])) P X = P (.bl !(decide (wNest = l) || (decide (wClimb = l) || false))) cs := by
  unfold ninD; rw [in_ways]; rfl
theorem ri_mark {d e : D} (h : IsM cs d false) (k : X "BadMark" [("found", d)] cs) : RP (m_Rule___init__ [.loc n, d, e] cs) P X := by
  unfold m_Rule___init__ mb_Rule___init__
  simp only [rp_def, List.map_cons, List.map_nil, List.length_cons, List.length_nil, Nat.reduceAdd, Nat.reduceSub, List.replicate_zero, List.replicate_succ, List.append_nil, List.cons_append, List.nil_append, List.set_cons_zero, List.set_cons_succ, sp_ret, sp_seq, sp_asg, sp_if, sp_nx, sp_drop, SP_brS, rap_cons, rap_nil, rp_bi, rp_c, rp_op2, rp_op1, rp_not, rp_or, rp_and, rp_if, rp_call, rp_varM, List.getElem?_cons_zero, List.getElem?_cons_succ, rp_notD, RP_br, RP_ok]
  exact nc_mark h k
variable {pre near post : List Nat} {s1 s2 : Nat}
theorem ri_dim (m : Mk l pre near post s1 s2) (h : allF near = true) {e : D} (k : ∀ a b, X "Blurred" [("other", b), ("one", a)] cs) : RP (m_Rule___init__ [.loc n, .str l, e] cs) P X := by
  unfold m_Rule___init__ mb_Rule___init__
  simp only [rp_def, List.map_cons, List.map_nil, List.length_cons, List.length_nil, Nat.reduceAdd, Nat.reduceSub, List.replicate_zero, List.replicate_succ, List.append_nil, List.cons_append, List.nil_append, List.set_cons_zero, List.set_cons_succ, sp_ret, sp_seq, sp_asg, sp_if, sp_nx, sp_drop, SP_brS, rap_cons, rap_nil, rp_bi, rp_c, rp_op2, rp_op1, rp_not, rp_or, rp_and, rp_if, rp_call, rp_varM, List.getElem?_cons_zero, List.getElem?_cons_succ, rp_notD, RP_br, RP_ok]
  exact nc_dim m h k
theorem ri_way (m : Mk l pre near post s1 s2) (h : allF near = false) {e : D} (q : WayBad cs e) (k : X "BadWay" [("found", e)] cs) : RP (m_Rule___init__ [.loc n, .str l, e] cs) P X := by
  unfold m_Rule___init__ mb_Rule___init__
  simp only [rp_def, List.map_cons, List.map_nil, List.length_cons, List.length_nil, Nat.reduceAdd, Nat.reduceSub, List.replicate_zero, List.replicate_succ, List.append_nil, List.cons_append, List.nil_append, List.set_cons_zero, List.set_cons_succ, sp_ret, sp_seq, sp_asg, sp_if, sp_nx, sp_drop, SP_brS, rap_cons, rap_nil, rp_bi, rp_c, rp_op2, rp_op1, rp_not, rp_or, rp_and, rp_if, rp_call, rp_varM, List.getElem?_cons_zero, List.getElem?_cons_succ, rp_notD, RP_br, RP_ok]
  refine nc_rp m h ?_
  rcases q with ⟨u, hu, hm⟩ | ⟨z, rfl, n1, n2⟩
  · simp only [rp_def, List.map_cons, List.map_nil, List.length_cons, List.length_nil, Nat.reduceAdd, Nat.reduceSub, List.replicate_zero, List.replicate_succ, List.append_nil, List.cons_append, List.nil_append, List.set_cons_zero, List.set_cons_succ, sp_ret, sp_seq, sp_asg, sp_if, sp_nx, sp_drop, SP_brS, rap_cons, rap_nil, rp_bi, rp_c, rp_op2, rp_op1, rp_not, rp_or, rp_and, rp_if, rp_call, rp_varM, List.getElem?_cons_zero, List.getElem?_cons_succ, rp_notD, RP_br, RP_ok, isi_nstr hu hm, Bool.not_false, cond_true, if_true, sp_raise]
    exact k
  · have e1 : RP (mkT cs [.str wNest, .str wClimb]) = fun P X => P (.tup [.str wNest, .str wClimb]) cs := by
      funext P X; exact rp_mkT (by rw [sizeLine_eq]; simp)
    simp only [rp_def, List.map_cons, List.map_nil, List.length_cons, List.length_nil, Nat.reduceAdd, Nat.reduceSub, List.replicate_zero, List.replicate_succ, List.append_nil, List.cons_append, List.nil_append, List.set_cons_zero, List.set_cons_succ, sp_ret, sp_seq, sp_asg, sp_if, sp_nx, sp_drop, SP_brS, rap_cons, rap_nil, rp_bi, rp_c, rp_op2, rp_op1, rp_not, rp_or, rp_and, rp_if, rp_call, rp_varM, List.getElem?_cons_zero, List.getElem?_cons_succ, rp_notD, RP_br, RP_ok, isi_str, Bool.not_true, cond_false, rp_tup, e1, rp_ways, n1, n2, decide_false, Bool.or_false, Bool.not_false, if_true, sp_raise]
    exact k
theorem ri_ok (m : Mk l pre near post s1 s2) (h : allF near = false) {z : List Nat} (q : z = wNest ∨ z = wClimb) (hn : cs[n]? = some (.ins "Rule" [])) (k : P .non (cs.set n (.ins "Rule" (RuF l z)))) : RP (m_Rule___init__ [.loc n, .str l, .str z] cs) P X := by
  have e1 : RP (mkT cs [.str wNest, .str wClimb]) = fun P X => P (.tup [.str wNest, .str wClimb]) cs := by
    funext P X; exact rp_mkT (by rw [sizeLine_eq]; simp)
  have hl : n < cs.length := (List.getElem?_eq_some_iff.mp hn).1
  have hb : (!(decide (wNest = z) || (decide (wClimb = z) || false))) = false := by rcases q with rfl | rfl <;> decide
  have h2 : (cs.set n (.ins "Rule" (putFD "rule_mark" (.str l) [])))[n]? = some (.ins "Rule" (putFD "rule_mark" (.str l) [])) := List.getElem?_set_self hl
  have e3 : putFD "rule_way" (.str z) (putFD "rule_mark" (.str l) []) = RuF l z := by
    unfold RuF
    rw [show putFD ("rule_mark" : Str) (.str l) [] = [(("rule_mark" : Str), D.str l)] from rfl, putFD, if_neg (by decide +kernel)]
    rfl
  have l0 : ([] : List (Str × D)).length < 1000 := by decide
  have l1 : (putFD "rule_mark" (.str l) []).length < 1000 := (by decide : 1 < 1000)
  unfold m_Rule___init__ mb_Rule___init__
  simp only [rp_def, List.map_cons, List.map_nil, List.length_cons, List.length_nil, Nat.reduceAdd, Nat.reduceSub, List.replicate_zero, List.replicate_succ, List.append_nil, List.cons_append, List.nil_append, List.set_cons_zero, List.set_cons_succ, sp_ret, sp_seq, sp_asg, sp_if, sp_nx, sp_drop, SP_brS, rap_cons, rap_nil, rp_bi, rp_c, rp_op2, rp_op1, rp_not, rp_or, rp_and, rp_if, rp_call, rp_varM, List.getElem?_cons_zero, List.getElem?_cons_succ, rp_notD, RP_br, RP_ok]
  refine nc_rp m h ?_
  simp only [rp_def, List.map_cons, List.map_nil, List.length_cons, List.length_nil, Nat.reduceAdd, Nat.reduceSub, List.replicate_zero, List.replicate_succ, List.append_nil, List.cons_append, List.nil_append, List.set_cons_zero, List.set_cons_succ, sp_ret, sp_seq, sp_asg, sp_if, sp_nx, sp_drop, SP_brS, rap_cons, rap_nil, rp_bi, rp_c, rp_op2, rp_op1, rp_not, rp_or, rp_and, rp_if, rp_call, rp_varM, List.getElem?_cons_zero, List.getElem?_cons_succ, rp_notD, RP_br, RP_ok, isi_str, Bool.not_true, cond_false, rp_tup, e1, rp_ways, hb, Bool.false_eq_true, if_false, sp_fst, ins_at hn, eq_self, true_and, l0, if_true]
  simp only [ins_at h2, eq_self, true_and, l1, if_true, e3, List.set_set]
  exact k
theorem set_last {a b : Cell} : (cs ++ [a]).set cs.length b = cs ++ [b] := by
  rw [List.set_append_right _ _ (Nat.le_refl _), Nat.sub_self]; rfl
/-! need_rule -/
theorem nr_rp (h : RuleAt cs n l w) (k : P .non cs) : RP (m_need_rule [.loc n] cs) P X := by
  unfold m_need_rule mb_need_rule
  simp only [rp_def, List.map_cons, List.map_nil, List.length_cons, List.length_nil, Nat.reduceAdd, Nat.reduceSub, List.replicate_zero, List.replicate_succ, List.append_nil, List.cons_append, List.nil_append, List.set_cons_zero, List.set_cons_succ, sp_ret, sp_seq, sp_asg, sp_if, sp_nx, sp_drop, SP_brS, rap_cons, rap_nil, rp_bi, rp_c, rp_op2, rp_op1, rp_not, rp_or, rp_and, rp_if, rp_call, rp_varM, List.getElem?_cons_zero, List.getElem?_cons_succ, rp_notD, RP_br, RP_ok, rp_isoT h, Bool.not_true, Bool.false_eq_true, if_false]
  exact k
theorem nr_x {d : D} {u : String} (h : insAt cs d = none) (q : tyC cs d = some u) (hu : u ∈ TZ) (k : X "BadRule" [("found", d)] cs) : RP (m_need_rule [d] cs) P X := by
  unfold m_need_rule mb_need_rule
  simp only [rp_def, List.map_cons, List.map_nil, List.length_cons, List.length_nil, Nat.reduceAdd, Nat.reduceSub, List.replicate_zero, List.replicate_succ, List.append_nil, List.cons_append, List.nil_append, List.set_cons_zero, List.set_cons_succ, sp_ret, sp_seq, sp_asg, sp_if, sp_nx, sp_drop, SP_brS, rap_cons, rap_nil, rp_bi, rp_c, rp_op2, rp_op1, rp_not, rp_or, rp_and, rp_if, rp_call, rp_varM, List.getElem?_cons_zero, List.getElem?_cons_succ, rp_notD, RP_br, RP_ok, rp_isoF h q hu, Bool.not_false, if_true, sp_raise]
  exact k
theorem RuleAt.app (h : RuleAt cs n l w) {news : Cells} : RuleAt (cs ++ news) n l w := by
  unfold RuleAt at *
  rw [List.getElem?_append_left (List.getElem?_eq_some_iff.mp h).1]; exact h
theorem RuleAt.tk {c' : Cells} {m B : Nat} (h : RuleAt cs m l w) (hb : Bx cs n B) (k : ∀ m, m ≠ n → c'[m]? = cs[m]?) : RuleAt c' m l w := by
  refine (k m fun e => ?_).trans h
  subst e
  obtain ⟨a, b, c, h2, _⟩ := hb
  rw [show cs[m]? = some (.ins "Rule" (RuF l w)) from h] at h2
  cases h2
end

end T_k15

namespace T_k15
open PySem L2 L3
/-! ### the box, with the other cells kept -/
def Bk (c0 c : Cells) (n B : Nat) : Prop := Bx c n B ∧ ∀ m : Nat, m ≠ n → c[m]? = c0[m]?
theorem Bk.refl {c : Cells} {n B : Nat} (h : Bx c n B) : Bk c c n B := ⟨h, fun _ _ => rfl⟩
theorem Bk.le {c0 c : Cells} {n B B' : Nat} (h : Bk c0 c n B) (l : B ≤ B') : Bk c0 c n B' := ⟨h.1.le l, h.2⟩
theorem take_bk {n B : Nat} {many : Int} {c0 cs : Cells} {P : D → Cells → Prop} {X : KX} (hb : Bk c0 cs n B) (hB : B < 1000000) (h1 : 0 < many) (h2 : many < big)
    (hP : ∀ (r : Int) (c' : Cells), 0 ≤ r → r < many → Bk c0 c' n (B + 1) → True → True → P (.int r) c') : RP (m__law_take [.loc n, .int many] cs) P X :=
  take_rp hb.1 hB h1 h2 fun r c' a b h k _ => hP r c' a b ⟨h, fun m hm => (k m hm).trans (hb.2 m hm)⟩ trivial trivial

theorem signs_bk {n B : Nat} {m : Int} {c0 cs : Cells} {P : D → Cells → Prop} {X : KX} (hb : Bk c0 cs n B) (h0 : 0 ≤ m) (h1 : m ≤ 1000) (hB : B < 900000)
    (k : ∀ (l : List Nat) (c' : Cells), l.length = m.toNat → (∀ c ∈ l, c ∈ SG) → Bk c0 c' n (B + m.toNat) → P (.str l) c') : RP (m__law_signs [.loc n, .int m] cs) P X := by
  unfold m__law_signs mb__law_signs
  simp only [rp_def, List.map_cons, List.map_nil, List.length_cons, List.length_nil, Nat.reduceAdd, Nat.reduceSub, List.replicate_zero, List.replicate_succ, List.append_nil, List.cons_append, List.nil_append,
    sp_ret, rp_m1, rp_c, rp_lc, wp_r1, rp_varM, List.getElem?_cons_zero, List.getElem?_cons_succ]
  refine ⟨by unfold lim; omega, ?_⟩
  have hlc := lc_inv (X := X) (chk := fun _ => True) (tg := tgN 2) (t := eC (.bl true)) (e := op2 ixD (eC (D.str SG)) (eCall m__law_take (aCons (eVar 0) (aCons (eC (D.int 41)) aNil))))
    (items := rangeD 0 m.toNat) (env := wipeE [some (D.loc n), some (D.int m), none] [2]) (cs := cs)
    (fun i ds c => Bk c0 c n (B + i) ∧ ∃ ls, strsOf ds = some ls ∧ ls.length = i ∧ ∀ z ∈ ls, z.length = 1 ∧ ∀ c ∈ z, c ∈ SG) [] ⟨hb, [], rfl, rfl, fun _ h => by cases h⟩ (fun _ _ _ => trivial) (fun j d ds c hj ⟨hb, ls, h1, h2, h3⟩ => by
    obtain ⟨hj, rfl⟩ := range_get hj
    refine ⟨trivial, _, rfl, ?_⟩
    rw [rp_c]
    refine ⟨true, rfl, ?_⟩
    rw [if_pos rfl]
    simp only [rp_op2, rp_c, rp_call, rap_cons, rap_nil, rp_varM, wipeE, List.set_cons_zero, List.set_cons_succ, List.getElem?_cons_zero, List.getElem?_cons_succ]
    refine take_bk hb (by omega) (by decide) (by decide) fun r c' r0 r1 hb' _ _ => ?_
    refine rp_ixSA (by rw [sizeLine_eq]; decide) r0 (Int.lt_of_lt_of_le r1 (by decide)) fun ch hch => ?_
    refine ⟨hb', ls ++ [[ch]], strsOf_app h1 rfl, by simp [h2], fun z hz => ?_⟩
    rcases List.mem_append.mp hz with hz | hz
    · exact h3 z hz
    · rw [List.mem_singleton.mp hz]; exact ⟨rfl, fun c hc => by rw [List.mem_singleton.mp hc]; exact hch⟩)
  refine RAP.mono hlc fun ds c6 ⟨hb, ls, h1, h2, h3⟩ => ?_
  rw [List.nil_append] at h1
  rw [rangeD_length] at hb h2
  have hjn : (ls.map (·.length)).sum + ls.length * ([] : List Nat).length ≤ 16777216 := by rw [ones_sum fun z hz => (h3 z hz).1]; simp; omega
  rw [rp_mkLf (by rw [sizeLine_eq, strsOf_len h1]; omega), rp_join seq_lst h1 hjn, joinL_nil]
  refine k _ _ (by rw [ones_len fun z hz => (h3 z hz).1, h2]) (fun c hc => ?_) hb
  obtain ⟨z, hz, hcz⟩ := List.mem_flatten.mp hc
  exact (h3 z hz).2 c hcz

/-! ### the marks that are drawn -/
theorem mark_bk {n B : Nat} {c0 cs : Cells} {P : D → Cells → Prop} {X : KX} (hb : Bk c0 cs n B) (hB : B < 800000)
    (k : ∀ (l pre near post : List Nat) (s1 s2 : Nat) (c' : Cells), Mk l pre near post s1 s2 → allF near = false → Bk c0 c' n (B + 20) → P (.str l) c') : RP (m__law_mark [.loc n] cs) P X := by
  unfold m__law_mark mb__law_mark
  try simp only [rp_def, List.map_cons, List.map_nil, List.length_cons, List.length_nil, Nat.reduceAdd, Nat.reduceSub, List.replicate_zero, List.replicate_succ, List.append_nil, List.cons_append, List.nil_append, List.set_cons_zero, List.set_cons_succ, sp_ret, sp_seq, sp_asg, sp_if, sp_nx, sp_drop, SP_brS, rap_cons, rap_nil, rp_bi, rp_c, rp_op2, rp_op1, rp_not, rp_or, rp_and, rp_if, rp_call, rp_varM, List.getElem?_cons_zero, List.getElem?_cons_succ, rp_notD, RP_br, RP_ok]
  refine take_bk hb (by omega) (by decide) (by decide) fun r1 c1 q1 q1' hb _ _ => ?_
  rw [rp_eqI]
  by_cases h0 : r1 = 0
  · simp only [h0, decide_true, if_true, rp_def, List.map_cons, List.map_nil, List.length_cons, List.length_nil, Nat.reduceAdd, Nat.reduceSub, List.replicate_zero, List.replicate_succ, List.append_nil, List.cons_append, List.nil_append, List.set_cons_zero, List.set_cons_succ, sp_ret, sp_seq, sp_asg, sp_if, sp_nx, sp_drop, SP_brS, rap_cons, rap_nil, rp_bi, rp_c, rp_op2, rp_op1, rp_not, rp_or, rp_and, rp_if, rp_call, rp_varM, List.getElem?_cons_zero, List.getElem?_cons_succ, rp_notD, RP_br, RP_ok, rp_list]
    rw [rp_mkLf (by rw [sizeLine_eq]; simp)]
    refine take_bk hb (by omega) (by decide) (by decide) fun r2 c2 q2 q2' hb _ _ => ?_
    refine rp_ixAll q2 (by simpa using q2') fun d hd => ?_
    simp only [List.mem_cons, List.not_mem_nil, or_false] at hd
    rcases hd with rfl | rfl | rfl
    · exact k _ [] [45] [] 42 35 c2 ⟨rfl, .inl ⟨rfl, rfl⟩, by decide, by decide, by decide, by decide⟩ (by decide) (hb.le (by omega))
    · exact k _ [] [40] [41] 42 35 c2 ⟨rfl, .inl ⟨rfl, rfl⟩, by decide, by decide, by decide, by decide⟩ (by decide) (hb.le (by omega))
    · exact k _ [] [46] [] 35 42 c2 ⟨rfl, .inr ⟨rfl, rfl⟩, by decide, by decide, by decide, by decide⟩ (by decide) (hb.le (by omega))
  · simp only [h0, decide_false, Bool.false_eq_true, if_false, rp_def, List.map_cons, List.map_nil, List.length_cons, List.length_nil, Nat.reduceAdd, Nat.reduceSub, List.replicate_zero, List.replicate_succ, List.append_nil, List.cons_append, List.nil_append, List.set_cons_zero, List.set_cons_succ, sp_ret, sp_seq, sp_asg, sp_if, sp_nx, sp_drop, SP_brS, rap_cons, rap_nil, rp_bi, rp_c, rp_op2, rp_op1, rp_not, rp_or, rp_and, rp_if, rp_call, rp_varM, List.getElem?_cons_zero, List.getElem?_cons_succ, rp_notD, RP_br, RP_ok]
    refine take_bk hb (by omega) (by decide) (by decide) fun r2 c2 q2 q2' hb _ _ => ?_
    refine signs_bk hb (by omega) (by omega) (by omega) fun l1 c3 e1 g1 hb => ?_
    have hb := hb.le (B' := B + 4) (by omega)
    refine take_bk hb (by omega) (by decide) (by decide) fun r3 c4 q3 q3' hb _ _ => ?_
    refine rp_ixSA (by rw [sizeLine_eq]; decide) q3 (by simpa using q3') fun ch hch => ?_
    rw [rp_addS (by rw [sizeLine_eq]; first | omega | (simp; omega) | simp)]
    simp only [rp_def, List.map_cons, List.map_nil, List.length_cons, List.length_nil, Nat.reduceAdd, Nat.reduceSub, List.replicate_zero, List.replicate_succ, List.append_nil, List.cons_append, List.nil_append, List.set_cons_zero, List.set_cons_succ, sp_ret, sp_seq, sp_asg, sp_if, sp_nx, sp_drop, SP_brS, rap_cons, rap_nil, rp_bi, rp_c, rp_op2, rp_op1, rp_not, rp_or, rp_and, rp_if, rp_call, rp_varM, List.getElem?_cons_zero, List.getElem?_cons_succ, rp_notD, RP_br, RP_ok, rp_list]
    rw [rp_mkLf (by rw [sizeLine_eq]; simp)]
    refine take_bk hb (by omega) (by decide) (by decide) fun r4 c5 q4 q4' hb _ _ => ?_
    have hz : ∀ d ∈ [D.str [], .str [48], .str [49, 50], .str [53]], ∃ z : List Nat, d = .str z ∧ z.length ≤ 2 ∧ ∀ c ∈ z, c ∈ SG := by
      simp only [List.forall_mem_cons]
      exact ⟨⟨_, rfl, by decide, by decide⟩, ⟨_, rfl, by decide, by decide⟩, ⟨_, rfl, by decide, by decide⟩, ⟨_, rfl, by decide, by decide⟩, fun d h => by cases h⟩
    refine rp_ixAll q4 (by simpa using q4') fun d hd => ?_
    obtain ⟨z, rfl, z1, z2⟩ := hz d hd
    rw [rp_addS (by rw [sizeLine_eq]; first | omega | (simp; omega) | simp)]
    have n1 : (l1 ++ [ch] ++ z).length ≤ 5 := by simp; omega
    have n2 : ∀ c ∈ l1 ++ [ch] ++ z, c ∈ SG := by
      intro c hc
      rcases List.mem_append.mp hc with hc | hc
      · rcases List.mem_append.mp hc with hc | hc
        · exact g1 c hc
        · rw [List.mem_singleton.mp hc]
          revert hch
          generalize ch = x
          revert x
          decide
      · exact z2 c hc
    have n3 : allF (l1 ++ [ch] ++ z) = false := by
      cases h : allF (l1 ++ [ch] ++ z) with
      | false => rfl
      | true =>
        have := of_decide_eq_true (List.all_eq_true.mp h ch (by simp))
        exfalso
        revert this hch
        generalize ch = x
        revert x
        decide
    revert n1 n2 n3
    generalize l1 ++ [ch] ++ z = near
    intro n1 n2 n3
    try simp only [rp_def, List.map_cons, List.map_nil, List.length_cons, List.length_nil, Nat.reduceAdd, Nat.reduceSub, List.replicate_zero, List.replicate_succ, List.append_nil, List.cons_append, List.nil_append, List.set_cons_zero, List.set_cons_succ, sp_ret, sp_seq, sp_asg, sp_if, sp_nx, sp_drop, SP_brS, rap_cons, rap_nil, rp_bi, rp_c, rp_op2, rp_op1, rp_not, rp_or, rp_and, rp_if, rp_call, rp_varM, List.getElem?_cons_zero, List.getElem?_cons_succ, rp_notD, RP_br, RP_ok]
    refine take_bk hb (by omega) (by decide) (by decide) fun r5 c6 q5 q5' hb _ _ => ?_
    rw [rp_eqI]
    have go : ∀ y : List Nat, y.length ≤ 5 → (∀ c ∈ y, c ∈ SG) → allF y = false → SP (sSeq (sAsg 2 (eIf (op2 gtD (eCall m__law_take (aCons (eVar 0) (aCons (eC (.int 3)) aNil))) (eC (.int 0))) (op2 (addD false) (op2 (addD false) (eC (.str [42])) (eVar 1)) (eC (.str [35]))) (op2 (addD false) (op2 (addD false) (eC (.str [35])) (eVar 1)) (eC (.str [42]))))) (sRet (op2 (addD false) (op2 (addD false) (eCall m__law_signs (aCons (eVar 0) (aCons (eCall m__law_take (aCons (eVar 0) (aCons (eC (.int 3)) aNil))) aNil))) (eVar 2)) (eCall m__law_signs (aCons (eVar 0) (aCons (eCall m__law_take (aCons (eVar 0) (aCons (eC (.int 3)) aNil))) aNil))))) [some (.loc n), some (.str y), none] c6) ⟨fun _ c => P .non c, P, fun _ _ => False, fun _ _ => False, fun x fs _ c => X x fs c⟩ := by
      intro y y1 y2 y3
      simp only [rp_def, List.map_cons, List.map_nil, List.length_cons, List.length_nil, Nat.reduceAdd, Nat.reduceSub, List.replicate_zero, List.replicate_succ, List.append_nil, List.cons_append, List.nil_append, List.set_cons_zero, List.set_cons_succ, sp_ret, sp_seq, sp_asg, sp_if, sp_nx, sp_drop, SP_brS, rap_cons, rap_nil, rp_bi, rp_c, rp_op2, rp_op1, rp_not, rp_or, rp_and, rp_if, rp_call, rp_varM, List.getElem?_cons_zero, List.getElem?_cons_succ, rp_notD, RP_br, RP_ok]
      refine take_bk hb (by omega) (by decide) (by decide) fun r6 c7 q6 q6' hb _ _ => ?_
      rw [rp_gt]
      have fin : ∀ s1 s2 : Nat, ((s1 = 42 ∧ s2 = 35) ∨ (s1 = 35 ∧ s2 = 42)) → SP (sRet (op2 (addD false) (op2 (addD false) (eCall m__law_signs (aCons (eVar 0) (aCons (eCall m__law_take (aCons (eVar 0) (aCons (eC (.int 3)) aNil))) aNil))) (eVar 2)) (eCall m__law_signs (aCons (eVar 0) (aCons (eCall m__law_take (aCons (eVar 0) (aCons (eC (.int 3)) aNil))) aNil)))) [some (.loc n), some (.str y), some (.str ([s1] ++ y ++ [s2]))] c7) ⟨fun _ c => P .non c, P, fun _ _ => False, fun _ _ => False, fun x fs _ c => X x fs c⟩ := by
        intro s1 s2 hp
        try simp only [rp_def, List.map_cons, List.map_nil, List.length_cons, List.length_nil, Nat.reduceAdd, Nat.reduceSub, List.replicate_zero, List.replicate_succ, List.append_nil, List.cons_append, List.nil_append, List.set_cons_zero, List.set_cons_succ, sp_ret, sp_seq, sp_asg, sp_if, sp_nx, sp_drop, SP_brS, rap_cons, rap_nil, rp_bi, rp_c, rp_op2, rp_op1, rp_not, rp_or, rp_and, rp_if, rp_call, rp_varM, List.getElem?_cons_zero, List.getElem?_cons_succ, rp_notD, RP_br, RP_ok]
        refine take_bk hb (by omega) (by decide) (by decide) fun r7 c8 q7 q7' hb _ _ => ?_
        refine signs_bk hb (by omega) (by omega) (by omega) fun l7 c9 e7 g7 hb => ?_
        have hb := hb.le (B' := B + 12) (by omega)
        rw [rp_addS (by rw [sizeLine_eq]; first | omega | (simp; omega) | simp)]
        try simp only [rp_def, List.map_cons, List.map_nil, List.length_cons, List.length_nil, Nat.reduceAdd, Nat.reduceSub, List.replicate_zero, List.replicate_succ, List.append_nil, List.cons_append, List.nil_append, List.set_cons_zero, List.set_cons_succ, sp_ret, sp_seq, sp_asg, sp_if, sp_nx, sp_drop, SP_brS, rap_cons, rap_nil, rp_bi, rp_c, rp_op2, rp_op1, rp_not, rp_or, rp_and, rp_if, rp_call, rp_varM, List.getElem?_cons_zero, List.getElem?_cons_succ, rp_notD, RP_br, RP_ok]
        refine take_bk hb (by omega) (by decide) (by decide) fun r8 c10 q8 q8' hb _ _ => ?_
        refine signs_bk hb (by omega) (by omega) (by omega) fun l8 c11 e8 g8 hb => ?_
        rw [rp_addS (by rw [sizeLine_eq]; first | omega | (simp; omega) | simp)]
        exact k _ l7 y l8 s1 s2 c11 ⟨by simp, hp, g7, y2, g8, by simp; omega⟩ y3 (hb.le (by omega))
      by_cases h6 : 0 < r6
      · simp only [h6, decide_true, cond_true, rp_def, List.map_cons, List.map_nil, List.length_cons, List.length_nil, Nat.reduceAdd, Nat.reduceSub, List.replicate_zero, List.replicate_succ, List.append_nil, List.cons_append, List.nil_append, List.set_cons_zero, List.set_cons_succ, sp_ret, sp_seq, sp_asg, sp_if, sp_nx, sp_drop, SP_brS, rap_cons, rap_nil, rp_bi, rp_c, rp_op2, rp_op1, rp_not, rp_or, rp_and, rp_if, rp_call, rp_varM, List.getElem?_cons_zero, List.getElem?_cons_succ, rp_notD, RP_br, RP_ok]
        rw [rp_addS (by rw [sizeLine_eq]; first | omega | (simp; omega) | simp), rp_addS (by rw [sizeLine_eq]; first | omega | (simp; omega) | simp)]
        have := fin 42 35 (.inl ⟨rfl, rfl⟩)
        simp only [rp_def, List.map_cons, List.map_nil, List.length_cons, List.length_nil, Nat.reduceAdd, Nat.reduceSub, List.replicate_zero, List.replicate_succ, List.append_nil, List.cons_append, List.nil_append, List.set_cons_zero, List.set_cons_succ, sp_ret, sp_seq, sp_asg, sp_if, sp_nx, sp_drop, SP_brS, rap_cons, rap_nil, rp_bi, rp_c, rp_op2, rp_op1, rp_not, rp_or, rp_and, rp_if, rp_call, rp_varM, List.getElem?_cons_zero, List.getElem?_cons_succ, rp_notD, RP_br, RP_ok] at this ⊢
        exact this
      · simp only [h6, decide_false, cond_false, rp_def, List.map_cons, List.map_nil, List.length_cons, List.length_nil, Nat.reduceAdd, Nat.reduceSub, List.replicate_zero, List.replicate_succ, List.append_nil, List.cons_append, List.nil_append, List.set_cons_zero, List.set_cons_succ, sp_ret, sp_seq, sp_asg, sp_if, sp_nx, sp_drop, SP_brS, rap_cons, rap_nil, rp_bi, rp_c, rp_op2, rp_op1, rp_not, rp_or, rp_and, rp_if, rp_call, rp_varM, List.getElem?_cons_zero, List.getElem?_cons_succ, rp_notD, RP_br, RP_ok]
        rw [rp_addS (by rw [sizeLine_eq]; first | omega | (simp; omega) | simp), rp_addS (by rw [sizeLine_eq]; first | omega | (simp; omega) | simp)]
        have := fin 35 42 (.inr ⟨rfl, rfl⟩)
        simp only [rp_def, List.map_cons, List.map_nil, List.length_cons, List.length_nil, Nat.reduceAdd, Nat.reduceSub, List.replicate_zero, List.replicate_succ, List.append_nil, List.cons_append, List.nil_append, List.set_cons_zero, List.set_cons_succ, sp_ret, sp_seq, sp_asg, sp_if, sp_nx, sp_drop, SP_brS, rap_cons, rap_nil, rp_bi, rp_c, rp_op2, rp_op1, rp_not, rp_or, rp_and, rp_if, rp_call, rp_varM, List.getElem?_cons_zero, List.getElem?_cons_succ, rp_notD, RP_br, RP_ok] at this ⊢
        exact this
    by_cases h5 : r5 = 0
    · simp only [h5, decide_true, RP_br, cond_true, rp_varM, List.getElem?_cons_zero, List.getElem?_cons_succ, List.set_cons_zero, List.set_cons_succ]
      have := go near n1 n2 n3
      simp only [rp_def, List.map_cons, List.map_nil, List.length_cons, List.length_nil, Nat.reduceAdd, Nat.reduceSub, List.replicate_zero, List.replicate_succ, List.append_nil, List.cons_append, List.nil_append, List.set_cons_zero, List.set_cons_succ, sp_ret, sp_seq, sp_asg, sp_if, sp_nx, sp_drop, SP_brS, rap_cons, rap_nil, rp_bi, rp_c, rp_op2, rp_op1, rp_not, rp_or, rp_and, rp_if, rp_call, rp_varM, List.getElem?_cons_zero, List.getElem?_cons_succ, rp_notD, RP_br, RP_ok] at this
      exact this
    · simp only [h5, decide_false, RP_br, cond_false, rp_op1, rp_varM, List.getElem?_cons_zero, List.getElem?_cons_succ, rp_rev (l := near) (by rw [sizeLine_eq]; omega), List.set_cons_zero, List.set_cons_succ]
      have := go near.reverse (by simpa using n1) (fun c hc => n2 c (List.mem_reverse.mp hc)) (by unfold allF at *; rw [List.all_reverse]; exact n3)
      simp only [rp_def, List.map_cons, List.map_nil, List.length_cons, List.length_nil, Nat.reduceAdd, Nat.reduceSub, List.replicate_zero, List.replicate_succ, List.append_nil, List.cons_append, List.nil_append, List.set_cons_zero, List.set_cons_succ, sp_ret, sp_seq, sp_asg, sp_if, sp_nx, sp_drop, SP_brS, rap_cons, rap_nil, rp_bi, rp_c, rp_op2, rp_op1, rp_not, rp_or, rp_and, rp_if, rp_call, rp_varM, List.getElem?_cons_zero, List.getElem?_cons_succ, rp_notD, RP_br, RP_ok] at this
      exact this

/-! ### odd values, some of them in cells that grow -/
def moreD : D := .str [109, 111, 114, 101]
def lsB : List (List D) := [[], [.str [97]], [.str [97], .str [97]], [.str [65]], [.lst [.str [97]]], [.tup [.str [97], .str [97]]], [.int 2], [.str [98]], [.bl true], [.str [110, 101, 115, 116]], [.int 3]]
def dsB : List (List (Kd × D)) := [[], [(.inr [97], .int 2)], [(.inl 7, .lst [.str [97]])], [(.inr [97], .int 1)]]
def dsC : List (List (Kd × D)) := dsB ++ dsB.map fun b => putD b (.inr [109, 111, 114, 101]) (.int 1)
def OkC (j : Nat) (c : Cell) : Prop := (∃ b ∈ lsB, ∃ i, i ≤ j ∧ c = .lst (b ++ List.replicate i moreD)) ∨ ∃ b ∈ dsC, c = .dct b
def allC (f : Cell → Bool) : Bool := (lsB.all fun b => (List.range 13).all fun i => f (.lst (b ++ List.replicate i moreD))) && dsC.all fun b => f (.dct b)
theorem OkC.all {f : Cell → Bool} (h : allC f = true) {j : Nat} (hj : j ≤ 12) {c : Cell} (q : OkC j c) : f c = true := by
  unfold allC at h
  rw [Bool.and_eq_true] at h
  rcases q with ⟨b, hb, i, hi, rfl⟩ | ⟨b, hb, rfl⟩
  · exact List.all_eq_true.mp (List.all_eq_true.mp h.1 b hb) i (List.mem_range.mpr (by omega))
  · exact List.all_eq_true.mp h.2 b hb
def stB : List (List Nat) := [[], [97], [65], [97, 32, 98], [97, 45, 50], [42, 45, 35], [42, 35], [110, 101, 115, 116], (List.replicate (Int.toNat 151) [97]).flatten, (List.replicate (Int.toNat 201) [97]).flatten, [97, 42], [97, 98, 35], [48, 50], [50]]
def tpB : List (List D) := [[], [.str [97]], [.str [97], .str [97]], [.str [97], .int 2], [.int 2, .str [97]]]
inductive Od (cs : Cells) (j : Nat) : D → Prop
  | non : Od cs j .non
  | bl (b : Bool) : Od cs j (.bl b)
  | int (i : Int) (h : -10 ^ 30 < i ∧ i < 10 ^ 30) : Od cs j (.int i)
  | str (l : List Nat) (h : l.length ≤ 250 ∧ ∀ c ∈ l, c < 128) : Od cs j (.str l)
  | tup (t : List D) (h : t ∈ tpB) : Od cs j (.tup t)
  | loc (n : Nat) (c : Cell) (h : cs[n]? = some c) (q : OkC j c) : Od cs j (.loc n)
theorem st_len : ∀ l ∈ stB, l.length ≤ 201 := by decide +kernel
theorem st_ok : ∀ l ∈ stB, ∀ c ∈ l, c < 128 := by decide +kernel
/-- if it is a text, then one of these -/
def OdS (d : D) : Prop := ∀ l, d = .str l → l ∈ stB
theorem Od.stB {cs : Cells} {j : Nat} {l : List Nat} (h : l ∈ stB) : Od cs j (.str l) := .str l ⟨Nat.le_trans (st_len l h) (by decide), st_ok l h⟩
theorem OkC.up {j i : Nat} {c : Cell} (q : OkC j c) (h : j ≤ i) : OkC i c := by
  rcases q with ⟨b, hb, k, hk, rfl⟩ | q
  · exact .inl ⟨b, hb, k, by omega, rfl⟩
  · exact .inr q
theorem OkC.nbox {j : Nat} {a b c : Int} (q : OkC j (.lst [.int a, .int b, .int c])) : False := by
  rcases q with ⟨z, hz, i, _, e⟩ | ⟨z, _, e⟩
  · simp only [lsB, List.mem_cons, List.not_mem_nil, or_false] at hz
    rcases hz with rfl | rfl | rfl | rfl | rfl | rfl | rfl | rfl | rfl | rfl | rfl <;> cases i <;> simp [moreD, List.replicate_succ] at e
  · cases e
def Upd (cs c' : Cells) (j : Nat) : Prop := c'.length = cs.length ∧ ∀ m : Nat, c'[m]? = cs[m]? ∨ ∃ c c2, cs[m]? = some c ∧ OkC j c ∧ c'[m]? = some c2 ∧ OkC (j + 1) c2
theorem Upd.refl {cs : Cells} {j : Nat} : Upd cs cs j := ⟨rfl, fun _ => .inl rfl⟩
theorem Od.mono {cs : Cells} {i j : Nat} {d : D} (o : Od cs j d) (h : j ≤ i) : Od cs i d := by
  cases o with
  | non => exact .non
  | bl b => exact .bl b
  | int i h => exact .int i h
  | str l h => exact .str l h
  | tup t h => exact .tup t h
  | loc n c h1 q => exact .loc n c h1 (q.up h)
theorem Od.up {cs c' : Cells} {j : Nat} {d : D} (o : Od cs j d) (u : Upd cs c' j) : Od c' (j + 1) d := by
  cases o with
  | non => exact .non
  | bl b => exact .bl b
  | int i h => exact .int i h
  | str l h => exact .str l h
  | tup t h => exact .tup t h
  | loc n c h1 q =>
    rcases u.2 n with e | ⟨_, c2, _, _, h2, q2⟩
    · exact .loc n c (e.trans h1) (q.up (by omega))
    · exact .loc n c2 h2 q2
theorem _root_.L3.Bx.up {cs c' : Cells} {n B j : Nat} (hb : Bx cs n B) (u : Upd cs c' j) : Bx c' n B := by
  obtain ⟨a, b, c, h1, h2⟩ := hb
  rcases u.2 n with e | ⟨c0, _, h3, q, _⟩
  · exact ⟨a, b, c, e.trans h1, h2⟩
  · rw [h1] at h3
    cases h3
    exact q.nbox.elim
theorem Od.tk {cs c' : Cells} {n B j : Nat} {d : D} (o : Od cs j d) (hb : Bx cs n B) (k : ∀ m, m ≠ n → c'[m]? = cs[m]?) : Od c' j d := by
  cases o with
  | non => exact .non
  | bl b => exact .bl b
  | int i h => exact .int i h
  | str l h => exact .str l h
  | tup t h => exact .tup t h
  | loc m c h1 q =>
    refine .loc m c ((k m fun e => ?_).trans h1) q
    subst e
    obtain ⟨a, b, c, h2, _⟩ := hb
    rw [h2] at h1
    cases h1
    exact q.nbox
/-! what the values are -/
def isMd : D → Bool
  | .str l => mkB l
  | _ => false
def isNd : D → Bool
  | .str l => nm l
  | _ => false
theorem tyTup {cs : Cells} {t : List D} : tyC cs (.tup t) = some "tuple" := rfl
theorem OkC.ty {cs : Cells} {j n : Nat} {c : Cell} (h : cs[n]? = some c) (q : OkC j c) : tyC cs (.loc n) = some "list" ∨ tyC cs (.loc n) = some "dict" := by
  rcases q with ⟨b, hb, i, hi, rfl⟩ | ⟨b, hb, rfl⟩
  · exact .inl (by simp only [tyC, h])
  · exact .inr (by simp only [tyC, h])
theorem Od.ns {cs : Cells} {j : Nat} {d : D} (o : Od cs j d) : (∃ l, (l.length ≤ 250 ∧ ∀ c ∈ l, c < 128) ∧ d = .str l) ∨ ((∃ u, tyC cs d = some u ∧ u ∈ TY) ∧ isMd d = false ∧ isNd d = false) := by
  cases o with
  | non => exact .inr ⟨⟨"NoneType", rfl, by simp⟩, rfl, rfl⟩
  | bl b => exact .inr ⟨⟨"bool", rfl, by simp⟩, rfl, rfl⟩
  | int i h => exact .inr ⟨⟨"int", rfl, by simp⟩, rfl, rfl⟩
  | str l h => exact .inl ⟨l, h, rfl⟩
  | tup t h => exact .inr ⟨⟨"tuple", rfl, by simp⟩, rfl, rfl⟩
  | loc n c h1 q => rcases OkC.ty h1 q with e | e <;> exact .inr ⟨⟨_, e, by simp⟩, rfl, rfl⟩
theorem Od.ism {cs : Cells} {j : Nat} {d : D} (o : Od cs j d) : IsM cs d (isMd d) := by
  intro P X k
  rcases o.ns with ⟨l, h, rfl⟩ | ⟨⟨u, h, q⟩, e, _⟩
  · exact ism_str (by have := h.1; rw [sizeLine_eq]; omega) k
  · rw [e] at k; exact ism_non h q k
theorem Od.isn {cs : Cells} {j : Nat} {d : D} (o : Od cs j d) : IsN cs d (isNd d) := by
  intro P X k
  rcases o.ns with ⟨l, h, rfl⟩ | ⟨⟨u, h, q⟩, _, e⟩
  · exact isn_str (by have := h.1; rw [sizeLine_eq]; omega) k
  · rw [e] at k; exact isn_non h q k
/-! repr -/
theorem rep_all : allC repOk = true := by decide +kernel
theorem rep_tups : (tpB.all fun t => repOkD (.tup t)) = true := by decide +kernel
theorem Od.rep {cs : Cells} {j : Nat} {d : D} (o : Od cs j d) (hj : j ≤ 12) : ∃ z, reprBD cs [d] = .ok (.str z) cs := by
  cases o with
  | non => exact ⟨_, rfl⟩
  | bl b => exact ⟨_, rfl⟩
  | int i h => exact ⟨_, by unfold reprBD; simp only [reprC]; rw [if_pos (log2_lt (by omega))]⟩
  | str l h => obtain ⟨z, e⟩ := rep_str (l := l) (by have := h.1; omega) h.2; exact ⟨z, by unfold reprBD; simp only [e]⟩
  | tup t h => exact rep_tup (List.all_eq_true.mp rep_tups t h)
  | loc n c h1 q => exact rep_loc h1 (OkC.all rep_all hj q)
theorem very_rp {cs : Cells} {j : Nat} {d : D} {P : D → Cells → Prop} {X : KX} (o : Od cs j d) (hj : j ≤ 11) (k : ∀ c', Upd cs c' j → P (.bl true) c') : RP (m__law_very [d, d] cs) P X := by
  have fin : ∀ c', Od c' (j + 1) d → Upd cs c' j → SP (sRet (op2 eqD (eBi reprBD (aCons (eVar 0) aNil)) (eBi reprBD (aCons (eVar 1) aNil))) [some d, some d] c') ⟨fun _ c => P .non c, P, fun _ _ => False, fun _ _ => False, fun x fs _ c => X x fs c⟩ := by
    intro c' o' u
    obtain ⟨z, e⟩ := o'.rep (by omega)
    simp only [sp_ret, rp_op2, rp_bi, rap_cons, rap_nil, rp_varM, List.getElem?_cons_zero, List.getElem?_cons_succ, rp_reprX e, rp_eqS, decide_true]
    exact k c' u
  unfold m__law_very mb__law_very
  simp only [rp_def, List.map_cons, List.map_nil, List.length_cons, List.length_nil, Nat.reduceAdd, Nat.reduceSub, List.replicate_zero, List.append_nil, sp_seq, sp_if, rp_op1, rp_varM, List.getElem?_cons_zero, List.getElem?_cons_succ]
  have plain : ∀ u, tyC cs d = some u → u ∈ TZ → u ≠ "list" → u ≠ "dict" → RP (isiD "list" cs d) (fun x c => SP (brS x (sDrop (ePush (eVar 1) (eC (.str [109, 111, 114, 101]))) [some d, some d] c) (sNx [some d, some d] c)) ⟨fun e c => SP (sIf (op1 (isiD "dict") (eVar 1)) (sPutK (eVar 1) (eC (.str [109, 111, 114, 101])) (eC (.int 1))) sNx e c) ⟨fun e c => SP (sRet (op2 eqD (eBi reprBD (aCons (eVar 0) aNil)) (eBi reprBD (aCons (eVar 1) aNil))) e c) ⟨fun _ c => P .non c, P, fun _ _ => False, fun _ _ => False, fun x fs _ c => X x fs c⟩, P, fun _ _ => False, fun _ _ => False, fun x fs _ c => X x fs c⟩, P, fun _ _ => False, fun _ _ => False, fun x fs _ c => X x fs c⟩) (fun n fs c => X n fs c) := by
    intro u h q n1 n2
    simp only [isi_list h q, n1, decide_false, SP_brS, Bool.false_eq_true, if_false, sp_nx, sp_if, rp_op1, rp_varM, List.getElem?_cons_zero, List.getElem?_cons_succ, isi_dict h q, n2]
    exact fin cs (o.mono (by omega)) .refl
  cases o with
  | non => exact plain "NoneType" rfl (by simp) (by decide) (by decide)
  | bl b => exact plain "bool" rfl (by simp) (by decide) (by decide)
  | int i h => exact plain "int" rfl (by simp) (by decide) (by decide)
  | str l h => exact plain "str" rfl (by simp) (by decide) (by decide)
  | tup t h => exact plain "tuple" rfl (by simp) (by decide) (by decide)
  | loc n c h1 q =>
    have hn : n < cs.length := (List.getElem?_eq_some_iff.mp h1).1
    rcases id q with ⟨b, hb, i, hi, rfl⟩ | ⟨b, hb, rfl⟩
    · have ht : tyC cs (.loc n) = some "list" := by simp only [tyC, h1]
      have hl : isLc cs (.loc n) = true := by simp only [isLc, h1]
      have hlen : (b ++ List.replicate i moreD).length < sizeLine := by
        have : ∀ b ∈ lsB, b.length ≤ 2 := by
          simp only [lsB, List.forall_mem_cons]; refine ⟨?_, ?_, ?_, ?_, ?_, ?_, ?_, ?_, ?_, ?_, ?_, fun d h => by cases h⟩ <;> simp
        have := this b hb
        rw [sizeLine_eq]; simp; omega
      have hp : pushL cs (.loc n) (.str [109, 111, 114, 101]) = some (cs.set n (.lst (b ++ List.replicate i moreD ++ [moreD]))) := by
        unfold pushL; simp only [h1, if_pos hlen]; rfl
      have e2 : (cs.set n (.lst (b ++ List.replicate i moreD ++ [moreD])))[n]? = some (.lst (b ++ List.replicate (i + 1) moreD)) := by
        rw [List.getElem?_set_self hn, List.append_assoc, List.replicate_succ']
      have u : Upd cs (cs.set n (.lst (b ++ List.replicate i moreD ++ [moreD]))) j := by
        refine ⟨by simp, fun m => ?_⟩
        by_cases e : m = n
        · subst e
          exact .inr ⟨_, _, h1, q, e2, .inl ⟨b, hb, i + 1, by omega, rfl⟩⟩
        · exact .inl (List.getElem?_set_ne (Ne.symm e))
      have ht2 : tyC (cs.set n (.lst (b ++ List.replicate i moreD ++ [moreD]))) (.loc n) = some "list" := by simp only [tyC, e2]
      have d1 : decide (("list" : String) = "list") = true := by decide
      have d2 : decide (("list" : String) = "dict") = false := by decide
      simp only [isi_list ht (by simp), d1, SP_brS, if_true, sp_drop, rp_push, rp_varM, List.getElem?_cons_zero, List.getElem?_cons_succ, hl, rp_c, hp, sp_if, rp_op1, isi_dict ht2 (by simp), d2, Bool.false_eq_true, if_false, sp_nx]
      exact fin _ ((Od.loc n _ h1 q).up u) u
    · have ht : tyC cs (.loc n) = some "dict" := by simp only [tyC, h1]
      have hd : ∀ b ∈ dsC, b.length ≤ 3 ∧ putD b (.inr [109, 111, 114, 101]) (.int 1) ∈ dsC := by
        simp only [dsC, dsB, List.map_cons, List.map_nil, List.cons_append, List.nil_append, List.forall_mem_cons]
        refine ⟨⟨by decide, ?_⟩, ⟨by decide, ?_⟩, ⟨by decide, ?_⟩, ⟨by decide, ?_⟩, ⟨by decide, ?_⟩, ⟨by decide, ?_⟩, ⟨by decide, ?_⟩, ⟨by decide, ?_⟩, fun d h => by cases h⟩ <;> simp [putD]
      obtain ⟨hl, hm⟩ := hd b hb
      have hp : putC cs (.loc n) (.str [109, 111, 114, 101]) (.int 1) = some (cs.set n (.dct (putD b (.inr [109, 111, 114, 101]) (.int 1)))) := by
        unfold putC; simp only [h1, kdOf]; rw [if_pos (by rw [sizeLine_eq]; omega)]
      have e2 : (cs.set n (.dct (putD b (.inr [109, 111, 114, 101]) (.int 1))))[n]? = some (.dct (putD b (.inr [109, 111, 114, 101]) (.int 1))) := List.getElem?_set_self hn
      have u : Upd cs (cs.set n (.dct (putD b (.inr [109, 111, 114, 101]) (.int 1)))) j := by
        refine ⟨by simp, fun m => ?_⟩
        by_cases e : m = n
        · subst e
          exact .inr ⟨_, _, h1, q, e2, .inr ⟨_, hm, rfl⟩⟩
        · exact .inl (List.getElem?_set_ne (Ne.symm e))
      have d1 : decide (("dict" : String) = "dict") = true := by decide
      have d2 : decide (("dict" : String) = "list") = false := by decide
      simp only [isi_list ht (by simp), d2, SP_brS, Bool.false_eq_true, if_false, sp_nx, sp_if, rp_op1, rp_varM, List.getElem?_cons_zero, List.getElem?_cons_succ, isi_dict ht (by simp), d1, if_true, sp_putK, rp_c, hp]
      exact fin _ ((Od.loc n _ h1 q).up u) u

/-! ### an odd value, drawn -/
theorem app_at {cs news : Cells} {i : Nat} {c : Cell} (h : news[i]? = some c) : (cs ++ news)[cs.length + i]? = some c := by
  rw [List.getElem?_append_right (by omega), Nat.add_sub_cancel_left]; exact h
theorem _root_.L3.Bx.app {cs news : Cells} {n B : Nat} (hb : Bx cs n B) : Bx (cs ++ news) n B := by
  obtain ⟨a, b, c, h1, h2⟩ := hb
  exact ⟨a, b, c, by rw [List.getElem?_append_left (List.getElem?_eq_some_iff.mp h1).1]; exact h1, h2⟩
theorem Od.app {cs news : Cells} {j : Nat} {d : D} (o : Od cs j d) : Od (cs ++ news) j d := by
  cases o with
  | non => exact .non
  | bl b => exact .bl b
  | int i h => exact .int i h
  | str l h => exact .str l h
  | tup t h => exact .tup t h
  | loc m c h1 q => exact .loc m c (by rw [List.getElem?_append_left (List.getElem?_eq_some_iff.mp h1).1]; exact h1) q
theorem Od.lsN {cs news : Cells} {i : Nat} {b : List D} (h : news[i]? = some (.lst b)) (q : b ∈ lsB) : Od (cs ++ news) 0 (.loc (cs.length + i)) := .loc _ _ (app_at h) (.inl ⟨b, q, 0, Nat.le_refl _, by rw [List.replicate_zero, List.append_nil]⟩)
theorem Od.dsN {cs news : Cells} {i : Nat} {b : List (Kd × D)} (h : news[i]? = some (.dct b)) (q : b ∈ dsC) : Od (cs ++ news) 0 (.loc (cs.length + i)) := .loc _ _ (app_at h) (.inr ⟨b, q, rfl⟩)
theorem oddc_rp {n B : Nat} {cs : Cells} {P : D → Cells → Prop} {X : KX} (hb : Bx cs n B) (hB : B < 1000000) (k : ∀ d c', Od c' 0 d → OdS d → Bx c' n (B + 1) → (∀ j e, Od cs j e → Od c' j e) → P d c') : RP (m__law_odd [.loc n] cs) P X := by
  unfold m__law_odd mb__law_odd
  simp only [rp_def, List.map_cons, List.map_nil, List.length_cons, List.length_nil, Nat.reduceAdd, Nat.reduceSub, List.replicate_zero, List.replicate_succ, List.append_nil, List.cons_append, List.nil_append, List.set_cons_zero, List.set_cons_succ,
    sp_ret, sp_seq, sp_asg, sp_nx, rap_cons, rap_nil, rp_bi, rp_c, rp_op2, rp_op1, rp_neg, rp_call, rp_varM, List.getElem?_cons_zero, List.getElem?_cons_succ, rp_sub, rp_pow, rp_list, rp_tup, rp_dict, kvD, len_ite, rp_mkDf, rp_mkDt, rp_mkLf, rp_mkLt, rp_mkT, rp_mulS, rp_addL, rp_lenLst, sizeLine_eq, Nat.reduceLeDiff, Int.reduceLE, Int.reduceLT, Int.reduceNeg, big, and_self, List.append_assoc, List.length_append, Nat.add_assoc]
  refine take_rp hb.app hB (by decide) (by decide) fun r c' r0 r1 b1 hk l => ?_
  refine rp_ixAll r0 (by simpa using r1) fun d hd => ?_
  suffices h : Od (cs ++ _) 0 d ∧ OdS d from k d c' (Od.tk (cs := cs ++ _) h.1 hb.app hk) h.2 b1 fun j e o => o.app.tk hb.app hk
  refine ⟨?_, ?_⟩
  · revert d
    simp only [List.forall_mem_cons]
    and_intros <;> first | exact .non | exact .bl _ | exact .int _ ⟨by decide, by decide⟩ | exact Od.stB (by decide +kernel) | exact .tup _ (by simp [tpB]) | exact Od.lsN rfl (by simp [lsB]) | exact Od.dsN rfl (by simp [dsC, dsB, mergeD, putD]) | exact Od.lsN (i := 0) rfl (by simp [lsB]) | (intro d hd; cases hd)
  · revert d
    simp only [List.forall_mem_cons]
    and_intros <;> first | (intro l e; cases e; decide +kernel) | (intro d hd; cases hd)

def itB : List Int := [0, 2, -1, 201, 10 ^ Int.toNat 29, 0 - 10 ^ Int.toNat 29, 15]
/-- if it is an integer, then one of these -/
def OdI (d : D) : Prop := ∀ i, d = .int i → i ∈ itB
theorem oddi_rp {n B : Nat} {cs : Cells} {P : D → Cells → Prop} {X : KX} (hb : Bx cs n B) (hB : B < 1000000) (k : ∀ d c', Od c' 0 d → OdS d → OdI d → Bx c' n (B + 1) → (∀ j e, Od cs j e → Od c' j e) → P d c') : RP (m__law_odd [.loc n] cs) P X := by
  unfold m__law_odd mb__law_odd
  simp only [rp_def, List.map_cons, List.map_nil, List.length_cons, List.length_nil, Nat.reduceAdd, Nat.reduceSub, List.replicate_zero, List.replicate_succ, List.append_nil, List.cons_append, List.nil_append, List.set_cons_zero, List.set_cons_succ,
    sp_ret, sp_seq, sp_asg, sp_nx, rap_cons, rap_nil, rp_bi, rp_c, rp_op2, rp_op1, rp_neg, rp_call, rp_varM, List.getElem?_cons_zero, List.getElem?_cons_succ, rp_sub, rp_pow, rp_list, rp_tup, rp_dict, kvD, len_ite, rp_mkDf, rp_mkDt, rp_mkLf, rp_mkLt, rp_mkT, rp_mulS, rp_addL, rp_lenLst, sizeLine_eq, Nat.reduceLeDiff, Int.reduceLE, Int.reduceLT, Int.reduceNeg, big, and_self, List.append_assoc, List.length_append, Nat.add_assoc]
  refine take_rp hb.app hB (by decide) (by decide) fun r c' r0 r1 b1 hk l => ?_
  refine rp_ixAll r0 (by simpa using r1) fun d hd => ?_
  suffices h : Od (cs ++ _) 0 d ∧ OdS d ∧ OdI d from k d c' (Od.tk (cs := cs ++ _) h.1 hb.app hk) h.2.1 h.2.2 b1 fun j e o => o.app.tk hb.app hk
  refine ⟨?_, ?_, ?_⟩
  · revert d
    simp only [List.forall_mem_cons]
    and_intros <;> first | exact .non | exact .bl _ | exact .int _ ⟨by decide, by decide⟩ | exact Od.stB (by decide +kernel) | exact .tup _ (by simp [tpB]) | exact Od.lsN rfl (by simp [lsB]) | exact Od.dsN rfl (by simp [dsC, dsB, mergeD, putD]) | exact Od.lsN (i := 0) rfl (by simp [lsB]) | (intro d hd; cases hd)
  · revert d
    simp only [List.forall_mem_cons]
    and_intros <;> first | (intro l e; cases e; decide +kernel) | (intro d hd; cases hd)
  · revert d
    simp only [List.forall_mem_cons]
    and_intros <;> first | (intro l e; cases e; decide +kernel) | (intro d hd; cases hd)

end T_k15

namespace T_k15
open PySem L2 L3
/-! ### is_list, need_unlike -/
def okE (e : D) : Bool := match e with
  | .non => true
  | .bl _ => true
  | .int _ => true
  | .lst _ => true
  | .tup _ => true
  | .dct _ => true
  | .str l => decide (l.length ≤ 1000)
  | _ => false
def isNe (e : D) : Bool := match e with
  | .str l => nm l
  | _ => false
theorem okE_ty {cs : Cells} {e : D} (h : okE e = true) : ∃ u, tyC cs e = some u ∧ u ∈ TZ := by
  cases e <;> first | exact ⟨_, rfl, by simp⟩ | cases h
theorem okE_isn {cs : Cells} {e : D} (h : okE e = true) : IsN cs e (isNe e) := by
  intro P X k
  cases e with
  | str l => exact isn_str (by have := of_decide_eq_true h; rw [sizeLine_eq]; omega) k
  | non => exact isn_non (u := "NoneType") rfl (by simp) k
  | bl b => exact isn_non (u := "bool") rfl (by simp) k
  | int i => exact isn_non (u := "int") rfl (by simp) k
  | lst l => exact isn_non (u := "list") rfl (by simp) k
  | tup l => exact isn_non (u := "tuple") rfl (by simp) k
  | dct l => exact isn_non (u := "dict") rfl (by simp) k
  | scr l => cases h
  | obj n l => cases h
  | loc n => cases h
section
variable {cs : Cells} {P : D → Cells → Prop} {X : KX} {d e : D} {most : Int} {ds rest : List D} {N : List (List Nat)}
theorem isl_rp (k : P (.bl (decide ((ds.length : Int) ≤ most))) cs) : RP (m_is_list [.lst ds, .int most] cs) P X := by
  unfold m_is_list mb_is_list
  have e1 : (decide (("list" : String) = "list") || decide (("list" : String) = "tuple")) = true := by decide
  simp only [rp_def, List.map_cons, List.map_nil, List.length_cons, List.length_nil, Nat.reduceAdd, Nat.reduceSub, List.replicate_zero, List.replicate_succ, List.append_nil, List.cons_append, List.nil_append, List.set_cons_zero, List.set_cons_succ, sp_ret, sp_seq, sp_asg, sp_if, sp_nx, sp_drop, SP_brS, rap_cons, rap_nil, rp_bi, rp_c, rp_op2, rp_op1, rp_not, rp_or, rp_and, rp_if, rp_call, rp_varM, List.getElem?_cons_zero, List.getElem?_cons_succ, rp_notD, RP_br, RP_ok, rp_isi2 (u := "list") (d := D.lst ds) rfl (by simp), e1, cond_true, rp_lenLst, rp_le]
  exact k
theorem isl_no {u : String} (h : tyC cs d = some u) (q : u ∈ ["NoneType", "bool", "int", "str", "dict"]) (k : P (.bl false) cs) : RP (m_is_list [d, .int most] cs) P X := by
  unfold m_is_list mb_is_list
  have q2 : u ∈ TZ := by
    simp only [List.mem_cons, List.not_mem_nil, or_false] at q ⊢
    rcases q with rfl | rfl | rfl | rfl | rfl <;> simp
  have e1 : (decide (u = "list") || decide (u = "tuple")) = false := by
    simp only [List.mem_cons, List.not_mem_nil, or_false] at q
    rcases q with rfl | rfl | rfl | rfl | rfl <;> decide
  simp only [rp_def, List.map_cons, List.map_nil, List.length_cons, List.length_nil, Nat.reduceAdd, Nat.reduceSub, List.replicate_zero, List.replicate_succ, List.append_nil, List.cons_append, List.nil_append, List.set_cons_zero, List.set_cons_succ, sp_ret, sp_seq, sp_asg, sp_if, sp_nx, sp_drop, SP_brS, rap_cons, rap_nil, rp_bi, rp_c, rp_op2, rp_op1, rp_not, rp_or, rp_and, rp_if, rp_call, rp_varM, List.getElem?_cons_zero, List.getElem?_cons_succ, rp_notD, RP_br, RP_ok, rp_isi2 h q2, e1, cond_false]
  exact k
theorem un_no (h : ∀ (P : D → Cells → Prop) (X : KX), P (.bl false) cs → RP (m_is_list [d, .int most] cs) P X) (k : X "BadNames" [("found", d)] cs) : RP (m_need_unlike [d, .int most] cs) P X := by
  unfold m_need_unlike mb_need_unlike
  simp only [rp_def, List.map_cons, List.map_nil, List.length_cons, List.length_nil, Nat.reduceAdd, Nat.reduceSub, List.replicate_zero, List.replicate_succ, List.append_nil, List.cons_append, List.nil_append, List.set_cons_zero, List.set_cons_succ, sp_ret, sp_seq, sp_asg, sp_if, sp_nx, sp_drop, SP_brS, rap_cons, rap_nil, rp_bi, rp_c, rp_op2, rp_op1, rp_not, rp_or, rp_and, rp_if, rp_call, rp_varM, List.getElem?_cons_zero, List.getElem?_cons_succ, rp_notD, RP_br, RP_ok]
  refine h _ _ ?_
  simp only [rp_def, List.map_cons, List.map_nil, List.length_cons, List.length_nil, Nat.reduceAdd, Nat.reduceSub, List.replicate_zero, List.replicate_succ, List.append_nil, List.cons_append, List.nil_append, List.set_cons_zero, List.set_cons_succ, sp_ret, sp_seq, sp_asg, sp_if, sp_nx, sp_drop, SP_brS, rap_cons, rap_nil, rp_bi, rp_c, rp_op2, rp_op1, rp_not, rp_or, rp_and, rp_if, rp_call, rp_varM, List.getElem?_cons_zero, List.getElem?_cons_succ, rp_notD, RP_br, RP_ok, Bool.not_false, if_true, sp_raise]
  exact k
/-- the keys of some texts -/
def keysN (N : List (List Nat)) : List Kd := N.map Sum.inr
theorem hasK_N {z : List Nat} : hasK (keysN N) (.inr z) = decide (z ∈ N) := by
  unfold hasK keysN
  rw [List.any_map, Bool.eq_iff_iff, List.any_eq_true, decide_eq_true_eq]
  constructor
  · rintro ⟨x, hx, e⟩
    have e2 : (Sum.inr x : Kd) = .inr z := of_decide_eq_true e
    cases e2; exact hx
  · intro h; exact ⟨z, h, decide_eq_true rfl⟩
/-- what behind the first names comes to: an end, a name that is none, a name twice -/
def UnEnd (N : List (List Nat)) (rest : List D) (cs : Cells) (Pn : Cells → Prop) (X : KX) : Prop := match rest with
  | [] => Pn (cs ++ [.set (keysN N)])
  | e :: _ => (okE e = true ∧ isNe e = false ∧ X "BadName" [("found", e)] (cs ++ [.set (keysN N)])) ∨ ∃ z, e = .str z ∧ nm z = true ∧ z.length ≤ 1000 ∧ z ∈ N ∧ X "Doubled" [("found", e)] (cs ++ [.set (keysN N)])
theorem un_rp (hN : ∀ z ∈ N, nm z = true ∧ z.length ≤ 1000) (hd : N.Nodup) (hl : ((N.map D.str ++ rest).length : Int) ≤ most) (hz : N.length ≤ 1000) (k : UnEnd N rest cs (fun c => P .non c) X) : RP (m_need_unlike [.lst (N.map D.str ++ rest), .int most] cs) P X := by
  unfold m_need_unlike mb_need_unlike
  simp only [rp_def, List.map_cons, List.map_nil, List.length_cons, List.length_nil, Nat.reduceAdd, Nat.reduceSub, List.replicate_zero, List.replicate_succ, List.append_nil, List.cons_append, List.nil_append, List.set_cons_zero, List.set_cons_succ, sp_ret, sp_seq, sp_asg, sp_if, sp_nx, sp_drop, SP_brS, rap_cons, rap_nil, rp_bi, rp_c, rp_op2, rp_op1, rp_not, rp_or, rp_and, rp_if, rp_call, rp_varM, List.getElem?_cons_zero, List.getElem?_cons_succ, rp_notD, RP_br, RP_ok]
  refine isl_rp ?_
  simp only [hl, decide_true, rp_def, List.map_cons, List.map_nil, List.length_cons, List.length_nil, Nat.reduceAdd, Nat.reduceSub, List.replicate_zero, List.replicate_succ, List.append_nil, List.cons_append, List.nil_append, List.set_cons_zero, List.set_cons_succ, sp_ret, sp_seq, sp_asg, sp_if, sp_nx, sp_drop, SP_brS, rap_cons, rap_nil, rp_bi, rp_c, rp_op2, rp_op1, rp_not, rp_or, rp_and, rp_if, rp_call, rp_varM, List.getElem?_cons_zero, List.getElem?_cons_succ, rp_notD, RP_br, RP_ok, Bool.not_true, Bool.false_eq_true, if_false, rp_set0, sp_for, wp_seq, seq_lst]
  refine for_invN (fun i env c => i ≤ N.length ∧ ∃ e3, env = [some (.lst (N.map D.str ++ rest)), some (.int most), some (.loc cs.length), e3] ∧ c = cs ++ [.set (keysN (N.take i))]) ⟨Nat.zero_le _, _, rfl, rfl⟩ ?_ ?_
  · rintro env c ⟨hi, e3, rfl, rfl⟩
    refine ⟨by trivial, ?_⟩
    have hr : rest = [] := by
      cases rest with
      | nil => rfl
      | cons a r => simp at hi; omega
    subst hr
    rw [List.take_of_length_le (by simp)]
    exact k
  · rintro i d env c hd' ⟨hi, e3, rfl, rfl⟩
    refine ⟨by trivial, _, rfl, ?_⟩
    have hs : (cs ++ [Cell.set (keysN (N.take i))])[cs.length]? = some (.set (keysN (N.take i))) := by
      rw [List.getElem?_append_right (Nat.le_refl _), Nat.sub_self]; rfl
    by_cases hlt : i < N.length
    · have e1 : d = .str N[i] := by
        rw [List.getElem?_append_left (by simpa using hlt), List.getElem?_map, List.getElem?_eq_getElem hlt] at hd'
        simpa using hd'.symm
      subst e1
      obtain ⟨n1, n2⟩ := hN _ (List.getElem_mem hlt)
      have nk : hasK (keysN (N.take i)) (.inr N[i]) = false := by
        rw [hasK_N]
        refine decide_eq_false fun hm => ?_
        obtain ⟨j, hj, e⟩ := List.getElem_of_mem hm
        rw [List.length_take] at hj
        rw [List.getElem_take] at e
        have := (List.getElem_inj hd).mp e
        omega
      simp only [rp_def, List.map_cons, List.map_nil, List.length_cons, List.length_nil, Nat.reduceAdd, Nat.reduceSub, List.replicate_zero, List.replicate_succ, List.append_nil, List.cons_append, List.nil_append, List.set_cons_zero, List.set_cons_succ, sp_ret, sp_seq, sp_asg, sp_if, sp_nx, sp_drop, SP_brS, rap_cons, rap_nil, rp_bi, rp_c, rp_op2, rp_op1, rp_not, rp_or, rp_and, rp_if, rp_call, rp_varM, List.getElem?_cons_zero, List.getElem?_cons_succ, rp_notD, RP_br, RP_ok]
      refine isn_str (by rw [sizeLine_eq]; omega) ?_
      rw [n1]
      simp only [rp_def, List.map_cons, List.map_nil, List.length_cons, List.length_nil, Nat.reduceAdd, Nat.reduceSub, List.replicate_zero, List.replicate_succ, List.append_nil, List.cons_append, List.nil_append, List.set_cons_zero, List.set_cons_succ, sp_ret, sp_seq, sp_asg, sp_if, sp_nx, sp_drop, SP_brS, rap_cons, rap_nil, rp_bi, rp_c, rp_op2, rp_op1, rp_not, rp_or, rp_and, rp_if, rp_call, rp_varM, List.getElem?_cons_zero, List.getElem?_cons_succ, rp_notD, RP_br, RP_ok, Bool.not_true, Bool.false_eq_true, if_false, rp_inS2 (set_at hs) (show kdOf (.str N[i]) = some (.inr N[i]) from rfl), nk, rp_sadd, set_at hs, kdOf]
      have hb : (keysN (N.take i)).length + 1 < scanBound := by
        have : (keysN (N.take i)).length ≤ 1000 := by unfold keysN; rw [List.length_map, List.length_take]; omega
        have h2 : (1001 : Nat) < scanBound := by decide +kernel
        omega
      rw [if_pos hb]
      refine ⟨hlt, _, rfl, ?_⟩
      rw [List.set_append_right _ _ (Nat.le_refl _), Nat.sub_self]
      unfold addK
      rw [if_neg (by rw [nk]; decide)]
      show cs ++ [Cell.set (keysN (N.take i) ++ [.inr N[i]])] = _
      unfold keysN
      rw [List.take_succ, List.getElem?_eq_getElem hlt, List.map_append]
      rfl
    · have hi2 : i = N.length := by omega
      subst hi2
      have ht : N.take N.length = N := List.take_length
      rw [ht] at hs ⊢
      rw [List.getElem?_append_right (by simp)] at hd'
      simp only [List.length_map, Nat.sub_self] at hd'
      cases rest with
      | nil => simp at hd'
      | cons e r =>
        simp only [List.getElem?_cons_zero, Option.some.injEq] at hd'
        subst hd'
        rcases k with ⟨k1, k2, k3⟩ | ⟨z, rfl, k1, k2, k3, k4⟩
        · simp only [rp_def, List.map_cons, List.map_nil, List.length_cons, List.length_nil, Nat.reduceAdd, Nat.reduceSub, List.replicate_zero, List.replicate_succ, List.append_nil, List.cons_append, List.nil_append, List.set_cons_zero, List.set_cons_succ, sp_ret, sp_seq, sp_asg, sp_if, sp_nx, sp_drop, SP_brS, rap_cons, rap_nil, rp_bi, rp_c, rp_op2, rp_op1, rp_not, rp_or, rp_and, rp_if, rp_call, rp_varM, List.getElem?_cons_zero, List.getElem?_cons_succ, rp_notD, RP_br, RP_ok]
          refine okE_isn k1 _ _ ?_
          rw [k2]
          simp only [rp_def, List.map_cons, List.map_nil, List.length_cons, List.length_nil, Nat.reduceAdd, Nat.reduceSub, List.replicate_zero, List.replicate_succ, List.append_nil, List.cons_append, List.nil_append, List.set_cons_zero, List.set_cons_succ, sp_ret, sp_seq, sp_asg, sp_if, sp_nx, sp_drop, SP_brS, rap_cons, rap_nil, rp_bi, rp_c, rp_op2, rp_op1, rp_not, rp_or, rp_and, rp_if, rp_call, rp_varM, List.getElem?_cons_zero, List.getElem?_cons_succ, rp_notD, RP_br, RP_ok, Bool.not_false, if_true, sp_raise]
          exact k3
        · simp only [rp_def, List.map_cons, List.map_nil, List.length_cons, List.length_nil, Nat.reduceAdd, Nat.reduceSub, List.replicate_zero, List.replicate_succ, List.append_nil, List.cons_append, List.nil_append, List.set_cons_zero, List.set_cons_succ, sp_ret, sp_seq, sp_asg, sp_if, sp_nx, sp_drop, SP_brS, rap_cons, rap_nil, rp_bi, rp_c, rp_op2, rp_op1, rp_not, rp_or, rp_and, rp_if, rp_call, rp_varM, List.getElem?_cons_zero, List.getElem?_cons_succ, rp_notD, RP_br, RP_ok]
          refine isn_str (by rw [sizeLine_eq]; omega) ?_
          rw [k1]
          simp only [rp_def, List.map_cons, List.map_nil, List.length_cons, List.length_nil, Nat.reduceAdd, Nat.reduceSub, List.replicate_zero, List.replicate_succ, List.append_nil, List.cons_append, List.nil_append, List.set_cons_zero, List.set_cons_succ, sp_ret, sp_seq, sp_asg, sp_if, sp_nx, sp_drop, SP_brS, rap_cons, rap_nil, rp_bi, rp_c, rp_op2, rp_op1, rp_not, rp_or, rp_and, rp_if, rp_call, rp_varM, List.getElem?_cons_zero, List.getElem?_cons_succ, rp_notD, RP_br, RP_ok, Bool.not_true, Bool.false_eq_true, if_false, rp_inS2 (set_at hs) (show kdOf (.str z) = some (.inr z) from rfl), hasK_N, k3, decide_true, if_true, sp_raise]
          exact k4
theorem tk_rp (h : RP (m_need_unlike [d, .int 100] cs) (fun _ c => P .non c) X) : RP (m_need_taken [d] cs) P X := by
  unfold m_need_taken mb_need_taken
  simp only [rp_def, List.map_cons, List.map_nil, List.length_cons, List.length_nil, Nat.reduceAdd, Nat.reduceSub, List.replicate_zero, List.replicate_succ, List.append_nil, List.cons_append, List.nil_append, List.set_cons_zero, List.set_cons_succ, sp_ret, sp_seq, sp_asg, sp_if, sp_nx, sp_drop, SP_brS, rap_cons, rap_nil, rp_bi, rp_c, rp_op2, rp_op1, rp_not, rp_or, rp_and, rp_if, rp_call, rp_varM, List.getElem?_cons_zero, List.getElem?_cons_succ, rp_notD, RP_br, RP_ok]
  exact h
end

/-- what behind the first names comes to: an end, a name that is none, a name twice -/
def UnEndO (N : List (List Nat)) (rest : List D) (cs : Cells) (Pn : Cells → Prop) (X : KX) : Prop := match rest with
  | [] => Pn (cs ++ [.set (keysN N)])
  | e :: _ => ((∀ P X, P (.bl false) (cs ++ [.set (keysN N)]) → RP (m_is_name [e] (cs ++ [.set (keysN N)])) P X) ∧ X "BadName" [("found", e)] (cs ++ [.set (keysN N)])) ∨ ∃ z, e = .str z ∧ nm z = true ∧ z.length ≤ 1000 ∧ z ∈ N ∧ X "Doubled" [("found", e)] (cs ++ [.set (keysN N)])
section
variable {cs : Cells} {P : D → Cells → Prop} {X : KX} {d e : D} {most : Int} {ds rest : List D} {N : List (List Nat)}
theorem un_rpO (hN : ∀ z ∈ N, nm z = true ∧ z.length ≤ 1000) (hd : N.Nodup) (hl : ((N.map D.str ++ rest).length : Int) ≤ most) (hz : N.length ≤ 1000) (k : UnEndO N rest cs (fun c => P .non c) X) : RP (m_need_unlike [.lst (N.map D.str ++ rest), .int most] cs) P X := by
  unfold m_need_unlike mb_need_unlike
  simp only [rp_def, List.map_cons, List.map_nil, List.length_cons, List.length_nil, Nat.reduceAdd, Nat.reduceSub, List.replicate_zero, List.replicate_succ, List.append_nil, List.cons_append, List.nil_append, List.set_cons_zero, List.set_cons_succ, sp_ret, sp_seq, sp_asg, sp_if, sp_nx, sp_drop, SP_brS, rap_cons, rap_nil, rp_bi, rp_c, rp_op2, rp_op1, rp_not, rp_or, rp_and, rp_if, rp_call, rp_varM, List.getElem?_cons_zero, List.getElem?_cons_succ, rp_notD, RP_br, RP_ok]
  refine isl_rp ?_
  simp only [hl, decide_true, rp_def, List.map_cons, List.map_nil, List.length_cons, List.length_nil, Nat.reduceAdd, Nat.reduceSub, List.replicate_zero, List.replicate_succ, List.append_nil, List.cons_append, List.nil_append, List.set_cons_zero, List.set_cons_succ, sp_ret, sp_seq, sp_asg, sp_if, sp_nx, sp_drop, SP_brS, rap_cons, rap_nil, rp_bi, rp_c, rp_op2, rp_op1, rp_not, rp_or, rp_and, rp_if, rp_call, rp_varM, List.getElem?_cons_zero, List.getElem?_cons_succ, rp_notD, RP_br, RP_ok, Bool.not_true, Bool.false_eq_true, if_false, rp_set0, sp_for, wp_seq, seq_lst]
  refine for_invN (fun i env c => i ≤ N.length ∧ ∃ e3, env = [some (.lst (N.map D.str ++ rest)), some (.int most), some (.loc cs.length), e3] ∧ c = cs ++ [.set (keysN (N.take i))]) ⟨Nat.zero_le _, _, rfl, rfl⟩ ?_ ?_
  · rintro env c ⟨hi, e3, rfl, rfl⟩
    refine ⟨by trivial, ?_⟩
    have hr : rest = [] := by
      cases rest with
      | nil => rfl
      | cons a r => simp at hi; omega
    subst hr
    rw [List.take_of_length_le (by simp)]
    exact k
  · rintro i d env c hd' ⟨hi, e3, rfl, rfl⟩
    refine ⟨by trivial, _, rfl, ?_⟩
    have hs : (cs ++ [Cell.set (keysN (N.take i))])[cs.length]? = some (.set (keysN (N.take i))) := by
      rw [List.getElem?_append_right (Nat.le_refl _), Nat.sub_self]; rfl
    by_cases hlt : i < N.length
    · have e1 : d = .str N[i] := by
        rw [List.getElem?_append_left (by simpa using hlt), List.getElem?_map, List.getElem?_eq_getElem hlt] at hd'
        simpa using hd'.symm
      subst e1
      obtain ⟨n1, n2⟩ := hN _ (List.getElem_mem hlt)
      have nk : hasK (keysN (N.take i)) (.inr N[i]) = false := by
        rw [hasK_N]
        refine decide_eq_false fun hm => ?_
        obtain ⟨j, hj, e⟩ := List.getElem_of_mem hm
        rw [List.length_take] at hj
        rw [List.getElem_take] at e
        have := (List.getElem_inj hd).mp e
        omega
      simp only [rp_def, List.map_cons, List.map_nil, List.length_cons, List.length_nil, Nat.reduceAdd, Nat.reduceSub, List.replicate_zero, List.replicate_succ, List.append_nil, List.cons_append, List.nil_append, List.set_cons_zero, List.set_cons_succ, sp_ret, sp_seq, sp_asg, sp_if, sp_nx, sp_drop, SP_brS, rap_cons, rap_nil, rp_bi, rp_c, rp_op2, rp_op1, rp_not, rp_or, rp_and, rp_if, rp_call, rp_varM, List.getElem?_cons_zero, List.getElem?_cons_succ, rp_notD, RP_br, RP_ok]
      refine isn_str (by rw [sizeLine_eq]; omega) ?_
      rw [n1]
      simp only [rp_def, List.map_cons, List.map_nil, List.length_cons, List.length_nil, Nat.reduceAdd, Nat.reduceSub, List.replicate_zero, List.replicate_succ, List.append_nil, List.cons_append, List.nil_append, List.set_cons_zero, List.set_cons_succ, sp_ret, sp_seq, sp_asg, sp_if, sp_nx, sp_drop, SP_brS, rap_cons, rap_nil, rp_bi, rp_c, rp_op2, rp_op1, rp_not, rp_or, rp_and, rp_if, rp_call, rp_varM, List.getElem?_cons_zero, List.getElem?_cons_succ, rp_notD, RP_br, RP_ok, Bool.not_true, Bool.false_eq_true, if_false, rp_inS2 (set_at hs) (show kdOf (.str N[i]) = some (.inr N[i]) from rfl), nk, rp_sadd, set_at hs, kdOf]
      have hb : (keysN (N.take i)).length + 1 < scanBound := by
        have : (keysN (N.take i)).length ≤ 1000 := by unfold keysN; rw [List.length_map, List.length_take]; omega
        have h2 : (1001 : Nat) < scanBound := by decide +kernel
        omega
      rw [if_pos hb]
      refine ⟨hlt, _, rfl, ?_⟩
      rw [List.set_append_right _ _ (Nat.le_refl _), Nat.sub_self]
      unfold addK
      rw [if_neg (by rw [nk]; decide)]
      show cs ++ [Cell.set (keysN (N.take i) ++ [.inr N[i]])] = _
      unfold keysN
      rw [List.take_succ, List.getElem?_eq_getElem hlt, List.map_append]
      rfl
    · have hi2 : i = N.length := by omega
      subst hi2
      have ht : N.take N.length = N := List.take_length
      rw [ht] at hs ⊢
      rw [List.getElem?_append_right (by simp)] at hd'
      simp only [List.length_map, Nat.sub_self] at hd'
      cases rest with
      | nil => simp at hd'
      | cons e r =>
        simp only [List.getElem?_cons_zero, Option.some.injEq] at hd'
        subst hd'
        rcases k with ⟨k1, k3⟩ | ⟨z, rfl, k1, k2, k3, k4⟩
        · simp only [rp_def, List.map_cons, List.map_nil, List.length_cons, List.length_nil, Nat.reduceAdd, Nat.reduceSub, List.replicate_zero, List.replicate_succ, List.append_nil, List.cons_append, List.nil_append, List.set_cons_zero, List.set_cons_succ, sp_ret, sp_seq, sp_asg, sp_if, sp_nx, sp_drop, SP_brS, rap_cons, rap_nil, rp_bi, rp_c, rp_op2, rp_op1, rp_not, rp_or, rp_and, rp_if, rp_call, rp_varM, List.getElem?_cons_zero, List.getElem?_cons_succ, rp_notD, RP_br, RP_ok]
          refine k1 _ _ ?_
          simp only [rp_def, List.map_cons, List.map_nil, List.length_cons, List.length_nil, Nat.reduceAdd, Nat.reduceSub, List.replicate_zero, List.replicate_succ, List.append_nil, List.cons_append, List.nil_append, List.set_cons_zero, List.set_cons_succ, sp_ret, sp_seq, sp_asg, sp_if, sp_nx, sp_drop, SP_brS, rap_cons, rap_nil, rp_bi, rp_c, rp_op2, rp_op1, rp_not, rp_or, rp_and, rp_if, rp_call, rp_varM, List.getElem?_cons_zero, List.getElem?_cons_succ, rp_notD, RP_br, RP_ok, Bool.not_false, if_true, sp_raise]
          exact k3
        · simp only [rp_def, List.map_cons, List.map_nil, List.length_cons, List.length_nil, Nat.reduceAdd, Nat.reduceSub, List.replicate_zero, List.replicate_succ, List.append_nil, List.cons_append, List.nil_append, List.set_cons_zero, List.set_cons_succ, sp_ret, sp_seq, sp_asg, sp_if, sp_nx, sp_drop, SP_brS, rap_cons, rap_nil, rp_bi, rp_c, rp_op2, rp_op1, rp_not, rp_or, rp_and, rp_if, rp_call, rp_varM, List.getElem?_cons_zero, List.getElem?_cons_succ, rp_notD, RP_br, RP_ok]
          refine isn_str (by rw [sizeLine_eq]; omega) ?_
          rw [k1]
          simp only [rp_def, List.map_cons, List.map_nil, List.length_cons, List.length_nil, Nat.reduceAdd, Nat.reduceSub, List.replicate_zero, List.replicate_succ, List.append_nil, List.cons_append, List.nil_append, List.set_cons_zero, List.set_cons_succ, sp_ret, sp_seq, sp_asg, sp_if, sp_nx, sp_drop, SP_brS, rap_cons, rap_nil, rp_bi, rp_c, rp_op2, rp_op1, rp_not, rp_or, rp_and, rp_if, rp_call, rp_varM, List.getElem?_cons_zero, List.getElem?_cons_succ, rp_notD, RP_br, RP_ok, Bool.not_true, Bool.false_eq_true, if_false, rp_inS2 (set_at hs) (show kdOf (.str z) = some (.inr z) from rfl), hasK_N, k3, decide_true, if_true, sp_raise]
          exact k4
theorem isl_loc {n : Nat} {L : List D} (h : cs[n]? = some (.lst L)) (k : P (.bl (decide ((L.length : Int) ≤ most))) cs) : RP (m_is_list [.loc n, .int most] cs) P X := by
  have ht : tyC cs (.loc n) = some "list" := by simp only [tyC, h]
  have hl : ∀ (P : D → Cells → Prop) (X : KX), RP (lenB cs [.loc n]) P X = P (.int L.length) cs := fun P X => by
    show RP (match L3.listOf cs (.loc n) with | some l => _ | none => _) P X = _
    simp only [L3.listOf, h]; rfl
  unfold m_is_list mb_is_list
  have e1 : (decide (("list" : String) = "list") || decide (("list" : String) = "tuple")) = true := by decide
  simp only [rp_def, List.map_cons, List.map_nil, List.length_cons, List.length_nil, Nat.reduceAdd, Nat.reduceSub, List.replicate_zero, List.replicate_succ, List.append_nil, List.cons_append, List.nil_append, List.set_cons_zero, List.set_cons_succ, sp_ret, sp_seq, sp_asg, sp_if, sp_nx, sp_drop, SP_brS, rap_cons, rap_nil, rp_bi, rp_c, rp_op2, rp_op1, rp_not, rp_or, rp_and, rp_if, rp_call, rp_varM, List.getElem?_cons_zero, List.getElem?_cons_succ, rp_notD, RP_br, RP_ok, rp_isi2 (u := "list") ht (by simp), e1, cond_true, hl, rp_le]
  exact k
end

theorem lisn_non {d e : D} {cs : Cells} {u : String} {P : D → Cells → Prop} {X : KX} (h : tyC cs d = some u) (q : u ∈ TY) (k : P (.bl false) cs) : RP (m__law_is_name [d, e] cs) P X := by
  unfold m__law_is_name mb__law_is_name
  simp only [rp_def, List.map_cons, List.map_nil, List.length_cons, List.length_nil, Nat.reduceAdd, Nat.reduceSub, List.replicate_zero, List.replicate_succ, List.append_nil, List.cons_append, List.nil_append,
    sp_ret, sp_seq, sp_if, sp_nx, SP_brS, rp_c, rp_op1, rp_not, rp_or, rp_varM, List.getElem?_cons_zero, isi_nstr h q, rp_notD, RP_br, RP_ok, Bool.not_false, cond_true, if_true]
  exact k
theorem lisn_str {l : List Nat} {cs : Cells} {P : D → Cells → Prop} {X : KX} (hl : l.length ≤ sizeLine) (hc : ∀ c ∈ l, c < 0x110000) (k : P (.bl (nm l)) cs) : RP (m__law_is_name [.str l, .int 200] cs) P X := by
  unfold m__law_is_name mb__law_is_name
  simp only [rp_def, List.map_cons, List.map_nil, List.length_cons, List.length_nil, Nat.reduceAdd, Nat.reduceSub, List.replicate_zero, List.replicate_succ, List.append_nil, List.cons_append, List.nil_append,
    sp_ret, sp_seq, sp_if, sp_nx, SP_brS, rap_cons, rap_nil, rp_bi, rp_c, rp_op2, rp_op1, rp_not, rp_or, rp_varM, List.getElem?_cons_zero, List.getElem?_cons_succ, isi_str, rp_notD, RP_br, RP_ok, Bool.not_true, cond_false, rp_chain, rp_lenS hl, rp_le, RP_bind, rp_lc, wp_seq, rp_list]
  by_cases hlen : 1 ≤ l.length ∧ l.length ≤ 200
  · have a1 : decide ((1 : Int) ≤ (l.length : Int)) = true := by simp; omega
    have a2 : decide ((l.length : Int) ≤ 200) = true := by simp; omega
    simp only [a1, a2, cond_true, Bool.not_true, Bool.false_eq_true, if_false]
    rw [lc_filter (g := fun d => d) (p := fun d => match d with | .str [c] => !decide (c ∈ SG) | _ => false) trivial ?_]
    · have e1 : (List.map (fun d => d) (List.filter (fun d => match d with | D.str [c] => !decide (c ∈ SG) | x => false) (List.map (fun ch => D.str [ch]) l))) = (l.filter fun c => !decide (c ∈ SG)).map fun c => D.str [c] := by
        rw [List.map_id', List.filter_map]; rfl
      rw [e1]
      show RP (mkL false cs _) _ _
      rw [rp_mkLf (by rw [List.length_map]; exact Nat.le_trans (List.length_filter_le _ _) hl), rp_mkLf (by rw [sizeLine_eq]; simp), eq_ones_nil fun c h => hc c ((List.mem_filter.mp h).1)]
      have : nm l = (l.filter fun c => !decide (c ∈ SG)).isEmpty := by
        unfold nm
        rw [decide_eq_true hlen, Bool.true_and]
        exact all_filter SG l
      rw [← this]
      exact k
    · intro d hd
      obtain ⟨c, hc, rfl⟩ := List.mem_map.mp hd
      exact ⟨_, rfl, rfl, rfl⟩
  · have en : nm l = false := by unfold nm; rw [decide_eq_false hlen]; rfl
    rw [en] at k
    by_cases h1 : (1 : Int) ≤ (l.length : Int)
    · have h2 : ¬ (l.length : Int) ≤ 200 := by omega
      simp only [h1, h2, decide_true, decide_false, cond_true, Bool.not_false, if_true]
      exact k
    · simp only [h1, decide_false, cond_false, Bool.not_false, cond_true, if_true]
      exact k

/-! ### `_law_is_name(value, most)` -/
def nmM (most : Nat) (l : List Nat) : Bool := decide (1 ≤ l.length ∧ l.length ≤ most) && l.all fun c => decide (c ∈ SG)
theorem nmM_200 (l : List Nat) : nmM 200 l = nm l := rfl
theorem lnm_non {d e : D} {cs : Cells} {u : String} {P : D → Cells → Prop} {X : KX} (h : tyC cs d = some u) (q : u ∈ TY) (k : P (.bl false) cs) : RP (m__law_is_name [d, e] cs) P X := by
  unfold m__law_is_name mb__law_is_name
  simp only [rp_def, List.map_cons, List.map_nil, List.length_cons, List.length_nil, Nat.reduceAdd, Nat.reduceSub, List.replicate_zero, List.replicate_succ, List.append_nil, List.cons_append, List.nil_append, List.set_cons_zero, List.set_cons_succ, sp_ret, sp_seq, sp_asg, sp_if, sp_nx, sp_drop, SP_brS, rap_cons, rap_nil, rp_bi, rp_c, rp_op2, rp_op1, rp_not, rp_or, rp_and, rp_if, rp_call, rp_varM, List.getElem?_cons_zero, List.getElem?_cons_succ, rp_notD, RP_br, RP_ok, isi_nstr h q, Bool.not_false, cond_true, if_true]
  exact k
theorem lnm_str {l : List Nat} {most : Nat} {cs : Cells} {P : D → Cells → Prop} {X : KX} (hl : l.length ≤ sizeLine) (hc : ∀ c ∈ l, c < 0x110000) (k : P (.bl (nmM most l)) cs) : RP (m__law_is_name [.str l, .int (most : Nat)] cs) P X := by
  unfold m__law_is_name mb__law_is_name
  simp only [rp_def, List.map_cons, List.map_nil, List.length_cons, List.length_nil, Nat.reduceAdd, Nat.reduceSub, List.replicate_zero, List.replicate_succ, List.append_nil, List.cons_append, List.nil_append, List.set_cons_zero, List.set_cons_succ, sp_ret, sp_seq, sp_asg, sp_if, sp_nx, sp_drop, SP_brS, rap_cons, rap_nil, rp_bi, rp_c, rp_op2, rp_op1, rp_not, rp_or, rp_and, rp_if, rp_call, rp_varM, List.getElem?_cons_zero, List.getElem?_cons_succ, rp_notD, RP_br, RP_ok, isi_str, Bool.not_true, cond_false, rp_chain, rp_lenS hl, rp_le, RP_bind, rp_lc, wp_seq, rp_list]
  by_cases hlen : 1 ≤ l.length ∧ l.length ≤ most
  · have a1 : decide ((1 : Int) ≤ (l.length : Int)) = true := by simp; omega
    have a2 : decide ((l.length : Int) ≤ (most : Int)) = true := by simp; omega
    simp only [a1, a2, cond_true, Bool.not_true, Bool.false_eq_true, if_false]
    rw [lc_filter (g := fun d => d) (p := fun d => match d with | .str [c] => !decide (c ∈ SG) | _ => false) trivial ?_]
    · have e1 : (List.map (fun d => d) (List.filter (fun d => match d with | D.str [c] => !decide (c ∈ SG) | x => false) (List.map (fun ch => D.str [ch]) l))) = (l.filter fun c => !decide (c ∈ SG)).map fun c => D.str [c] := by
        rw [List.map_id', List.filter_map]; rfl
      rw [e1]
      show RP (mkL false cs _) _ _
      rw [rp_mkLf (by rw [List.length_map]; exact Nat.le_trans (List.length_filter_le _ _) hl), rp_mkLf (by rw [sizeLine_eq]; simp), eq_ones_nil fun c h => hc c ((List.mem_filter.mp h).1)]
      have : nmM most l = (l.filter fun c => !decide (c ∈ SG)).isEmpty := by
        unfold nmM
        rw [decide_eq_true hlen, Bool.true_and]
        exact all_filter SG l
      rw [← this]
      exact k
    · intro d hd
      obtain ⟨c, hc, rfl⟩ := List.mem_map.mp hd
      exact ⟨_, rfl, rfl, rfl⟩
  · have en : nmM most l = false := by unfold nmM; rw [decide_eq_false hlen]; rfl
    rw [en] at k
    by_cases h1 : (1 : Int) ≤ (l.length : Int)
    · have h2 : ¬ (l.length : Int) ≤ (most : Int) := by omega
      simp only [h1, h2, decide_true, decide_false, cond_true, Bool.not_false, if_true]
      exact k
    · simp only [h1, decide_false, cond_false, Bool.not_false, cond_true, if_true]
      exact k
def nmD (most : Nat) (d : D) : Bool := match d with
  | .str l => nmM most l
  | _ => false

end T_k15

namespace T_k15
open PySem L2 L3
/-! ### reading, exactly -/
def rscL (x y : List Nat) : List Nat := codes (Txt.rstripChars (mk x) (mk y))
def lscL (x y : List Nat) : List Nat := codes (Txt.lstripChars (mk x) (mk y))
def biL (x y : List Nat) : D := match nuL y with
  | .int i => if nm x then .tup [.str x, .int i] else .non
  | _ => .non
def nbL (x y : List Nat) : D :=
  let cut : Int := (rscL x FG).length + ((y.length : Int) - (rscL y FG).length)
  let front := cutL x none (some cut)
  if Txt.endswith (mk front) (mk y) then biL (cutL front none (some ((front.length : Int) - y.length))) (cutL x (some cut) none) else .non
def naL (x y : List Nat) : D :=
  let cut : Int := (x.length : Int) - (lscL x FG).length - ((y.length : Int) - (lscL y FG).length)
  if cut < 1 then .non else
  if Txt.startswith (mk (cutL x (some cut) none)) (mk y) then biL (cutL x (some (cut + y.length)) none) (cutL x none (some cut)) else .non
def rdX (pre near post : List Nat) (s1 : Nat) (n : List Nat) : D :=
  if (n.length : Int) < (pre.length : Int) + (post.length : Int) then .non else
  if Txt.startswith (mk n) (mk pre) then
    (if Txt.endswith (mk n) (mk post) then
      (let mid := cutL n (some (pre.length : Int)) (some ((n.length : Int) - (post.length : Int)))
       if s1 = 42 then nbL mid near else naL mid near)
    else .non)
  else .non
theorem nuL_or (y : List Nat) : nuL y = .non ∨ ∃ i, 2 ≤ i ∧ nuL y = .int i := by
  unfold nuL
  split
  · rename_i h
    exact .inr ⟨_, by have := h.2.2.2.2; omega, rfl⟩
  · exact .inl rfl
theorem biL_or (x y : List Nat) : biL x y = .non ∨ ∃ n i, nm n = true ∧ 2 ≤ i ∧ biL x y = .tup [.str n, .int i] := by
  unfold biL
  rcases nuL_or y with e | ⟨i, hi, e⟩
  · rw [e]; exact .inl rfl
  · rw [e]
    by_cases h : nm x = true
    · simp only [h, if_true]; exact .inr ⟨_, _, h, hi, rfl⟩
    · simp only [h, if_false]; exact .inl rfl
theorem rdX_or (pre near post : List Nat) (s1 : Nat) (n : List Nat) : rdX pre near post s1 n = .non ∨ ∃ z i, nm z = true ∧ 2 ≤ i ∧ rdX pre near post s1 n = .tup [.str z, .int i] := by
  unfold rdX nbL naL
  simp only
  repeat' split
  all_goals first | exact .inl rfl | exact biL_or _ _
section
variable {cs : Cells} {P : D → Cells → Prop} {X : KX} {l pre near post : List Nat} {s1 s2 : Nat}
theorem rp_rscX {l k : List Nat} (h : l.length ≤ sizeLine) : RP (rscD cs l (.str k)) P X = P (.str (rscL l k)) cs := by
  show RP (if _ then _ else _) P X = _
  rw [if_pos h]; rfl
theorem rp_lscX {l k : List Nat} (h : l.length ≤ sizeLine) : RP (lscD cs l (.str k)) P X = P (.str (lscL l k)) cs := by
  show RP (if _ then _ else _) P X = _
  rw [if_pos h]; rfl
theorem rscL_len {l k : List Nat} : (rscL l k).length ≤ l.length := by
  unfold rscL
  rw [codes_len]
  exact PyProof.Rows.len_stripBy (mk k).cps.contains false true (mk l)
theorem lscL_len {l k : List Nat} : (lscL l k).length ≤ l.length := by
  unfold lscL
  rw [codes_len]
  exact PyProof.Rows.len_stripBy (mk k).cps.contains true false (mk l)
theorem biX_rp {x y : List Nat} (hx : x.length ≤ 1000) (hy : y.length ≤ 1000) (k : P (biL x y) cs) : RP (m_both_in [.str x, .str y] cs) P X := by
  unfold m_both_in mb_both_in
  try simp only [rp_def, List.map_cons, List.map_nil, List.length_cons, List.length_nil, Nat.reduceAdd, Nat.reduceSub, List.replicate_zero, List.replicate_succ, List.append_nil, List.cons_append, List.nil_append, List.set_cons_zero, List.set_cons_succ, sp_ret, sp_seq, sp_asg, sp_if, sp_nx, sp_drop, SP_brS, rap_cons, rap_nil, rp_bi, rp_c, rp_op2, rp_op1, rp_not, rp_or, rp_and, rp_if, rp_call, rp_varM, List.getElem?_cons_zero, List.getElem?_cons_succ, rp_notD, RP_br, RP_ok]
  refine num_str (by rw [sizeLine_eq]; omega) ?_
  unfold biL at k
  rcases nuL_or y with e | ⟨i, _, e⟩
  · rw [e] at k ⊢
    simp only [rp_def, List.map_cons, List.map_nil, List.length_cons, List.length_nil, Nat.reduceAdd, Nat.reduceSub, List.replicate_zero, List.replicate_succ, List.append_nil, List.cons_append, List.nil_append, List.set_cons_zero, List.set_cons_succ, sp_ret, sp_seq, sp_asg, sp_if, sp_nx, sp_drop, SP_brS, rap_cons, rap_nil, rp_bi, rp_c, rp_op2, rp_op1, rp_not, rp_or, rp_and, rp_if, rp_call, rp_varM, List.getElem?_cons_zero, List.getElem?_cons_succ, rp_notD, RP_br, RP_ok, rp_isB, cond_true, if_true]
    exact k
  · rw [e] at k ⊢
    simp only [rp_def, List.map_cons, List.map_nil, List.length_cons, List.length_nil, Nat.reduceAdd, Nat.reduceSub, List.replicate_zero, List.replicate_succ, List.append_nil, List.cons_append, List.nil_append, List.set_cons_zero, List.set_cons_succ, sp_ret, sp_seq, sp_asg, sp_if, sp_nx, sp_drop, SP_brS, rap_cons, rap_nil, rp_bi, rp_c, rp_op2, rp_op1, rp_not, rp_or, rp_and, rp_if, rp_call, rp_varM, List.getElem?_cons_zero, List.getElem?_cons_succ, rp_notD, RP_br, RP_ok, rp_isB, cond_false]
    have sx : x.length ≤ sizeLine := by rw [sizeLine_eq]; omega
    refine isn_str sx ?_
    cases h : nm x with
    | true =>
      simp only [rp_def, List.map_cons, List.map_nil, List.length_cons, List.length_nil, Nat.reduceAdd, Nat.reduceSub, List.replicate_zero, List.replicate_succ, List.append_nil, List.cons_append, List.nil_append, List.set_cons_zero, List.set_cons_succ, sp_ret, sp_seq, sp_asg, sp_if, sp_nx, sp_drop, SP_brS, rap_cons, rap_nil, rp_bi, rp_c, rp_op2, rp_op1, rp_not, rp_or, rp_and, rp_if, rp_call, rp_varM, List.getElem?_cons_zero, List.getElem?_cons_succ, rp_notD, RP_br, RP_ok, Bool.not_true, Bool.false_eq_true, if_false, rp_tup]
      rw [rp_mkT (by rw [sizeLine_eq]; simp)]
      simp only [h, if_true] at k; exact k
    | false =>
      simp only [rp_def, List.map_cons, List.map_nil, List.length_cons, List.length_nil, Nat.reduceAdd, Nat.reduceSub, List.replicate_zero, List.replicate_succ, List.append_nil, List.cons_append, List.nil_append, List.set_cons_zero, List.set_cons_succ, sp_ret, sp_seq, sp_asg, sp_if, sp_nx, sp_drop, SP_brS, rap_cons, rap_nil, rp_bi, rp_c, rp_op2, rp_op1, rp_not, rp_or, rp_and, rp_if, rp_call, rp_varM, List.getElem?_cons_zero, List.getElem?_cons_succ, rp_notD, RP_br, RP_ok, Bool.not_false, if_true]
      simp only [h, Bool.false_eq_true, if_false] at k; exact k
theorem nbX_rp {x y : List Nat} (hx : x.length ≤ 500) (hy : y.length ≤ 500) (k : P (nbL x y) cs) : RP (m_number_behind [.str x, .str y] cs) P X := by
  have sx : x.length ≤ sizeLine := by rw [sizeLine_eq]; omega
  have sy : y.length ≤ sizeLine := by rw [sizeLine_eq]; omega
  have rx : (rscL x FG).length ≤ sizeLine := Nat.le_trans rscL_len sx
  have ry : (rscL y FG).length ≤ sizeLine := Nat.le_trans rscL_len sy
  unfold m_number_behind mb_number_behind
  try simp only [rp_def, List.map_cons, List.map_nil, List.length_cons, List.length_nil, Nat.reduceAdd, Nat.reduceSub, List.replicate_zero, List.replicate_succ, List.append_nil, List.cons_append, List.nil_append, List.set_cons_zero, List.set_cons_succ, sp_ret, sp_seq, sp_asg, sp_if, sp_nx, sp_drop, SP_brS, rap_cons, rap_nil, rp_bi, rp_c, rp_op2, rp_op1, rp_not, rp_or, rp_and, rp_if, rp_call, rp_varM, List.getElem?_cons_zero, List.getElem?_cons_succ, rp_notD, RP_br, RP_ok, rp_lenS sx, rp_lenS sy, rp_m1, rp_rscX sx, rp_rscX sy, rp_lenS rx, rp_lenS ry, rp_sub, rp_addI]
  simp only [rp_def, List.map_cons, List.map_nil, List.length_cons, List.length_nil, Nat.reduceAdd, Nat.reduceSub, List.replicate_zero, List.replicate_succ, List.append_nil, List.cons_append, List.nil_append, List.set_cons_zero, List.set_cons_succ, sp_ret, sp_seq, sp_asg, sp_if, sp_nx, sp_drop, SP_brS, rap_cons, rap_nil, rp_bi, rp_c, rp_op2, rp_op1, rp_not, rp_or, rp_and, rp_if, rp_call, rp_varM, List.getElem?_cons_zero, List.getElem?_cons_succ, rp_notD, RP_br, RP_ok, rp_sl, ro_none, ro_varM, rp_slS sx, rp_m1, rp_ends]
  unfold nbL at k
  simp only at k
  have hc := cutL_len x none (some (((rscL x FG).length : Int) + ((y.length : Int) - ((rscL y FG).length : Int))))
  cases he : Txt.endswith (mk (cutL x none (some (((rscL x FG).length : Int) + ((y.length : Int) - ((rscL y FG).length : Int)))))) (mk y) with
  | false =>
    simp only [rp_def, List.map_cons, List.map_nil, List.length_cons, List.length_nil, Nat.reduceAdd, Nat.reduceSub, List.replicate_zero, List.replicate_succ, List.append_nil, List.cons_append, List.nil_append, List.set_cons_zero, List.set_cons_succ, sp_ret, sp_seq, sp_asg, sp_if, sp_nx, sp_drop, SP_brS, rap_cons, rap_nil, rp_bi, rp_c, rp_op2, rp_op1, rp_not, rp_or, rp_and, rp_if, rp_call, rp_varM, List.getElem?_cons_zero, List.getElem?_cons_succ, rp_notD, RP_br, RP_ok, Bool.not_false, if_true]
    rw [he] at k; exact k
  | true =>
    have hs : (cutL x none (some (((rscL x FG).length : Int) + ((y.length : Int) - ((rscL y FG).length : Int))))).length ≤ sizeLine := by omega
    have ro : oSome (op2 subD (eBi lenB (aCons (eVar 4) aNil)) (eBi lenB (aCons (eVar 1) aNil))) [some (D.str x), some (D.str y), some (D.int ((y.length : Int) - ((rscL y FG).length : Int))), some (D.int (((rscL x FG).length : Int) + ((y.length : Int) - ((rscL y FG).length : Int)))), some (D.str (cutL x none (some (((rscL x FG).length : Int) + ((y.length : Int) - ((rscL y FG).length : Int))))))] cs = some (some (((cutL x none (some (((rscL x FG).length : Int) + ((y.length : Int) - ((rscL y FG).length : Int))))).length : Int) - (y.length : Int)), cs) := by
      refine ro_some (RP.eq ?_)
      simp only [rp_def, List.map_cons, List.map_nil, List.length_cons, List.length_nil, Nat.reduceAdd, Nat.reduceSub, List.replicate_zero, List.replicate_succ, List.append_nil, List.cons_append, List.nil_append, List.set_cons_zero, List.set_cons_succ, sp_ret, sp_seq, sp_asg, sp_if, sp_nx, sp_drop, SP_brS, rap_cons, rap_nil, rp_bi, rp_c, rp_op2, rp_op1, rp_not, rp_or, rp_and, rp_if, rp_call, rp_varM, List.getElem?_cons_zero, List.getElem?_cons_succ, rp_notD, RP_br, RP_ok, rp_lenS hs, rp_lenS sy, rp_sub]
      first | exact ⟨rfl, rfl⟩ | exact ⟨rfl, trivial⟩ | exact ⟨trivial, rfl⟩ | exact trivial | exact ⟨trivial, trivial⟩
    simp only [rp_def, List.map_cons, List.map_nil, List.length_cons, List.length_nil, Nat.reduceAdd, Nat.reduceSub, List.replicate_zero, List.replicate_succ, List.append_nil, List.cons_append, List.nil_append, List.set_cons_zero, List.set_cons_succ, sp_ret, sp_seq, sp_asg, sp_if, sp_nx, sp_drop, SP_brS, rap_cons, rap_nil, rp_bi, rp_c, rp_op2, rp_op1, rp_not, rp_or, rp_and, rp_if, rp_call, rp_varM, List.getElem?_cons_zero, List.getElem?_cons_succ, rp_notD, RP_br, RP_ok, Bool.not_true, Bool.false_eq_true, if_false, rp_sl, ro_none, ro_varM, ro, rp_slS sx, rp_slS hs]
    rw [he, if_pos rfl] at k
    exact biX_rp (Nat.le_trans (cutL_len _ _ _) (by omega)) (Nat.le_trans (cutL_len _ _ _) (by omega)) k
theorem naX_rp {x y : List Nat} (hx : x.length ≤ 500) (hy : y.length ≤ 500) (k : P (naL x y) cs) : RP (m_number_ahead [.str x, .str y] cs) P X := by
  have sx : x.length ≤ sizeLine := by rw [sizeLine_eq]; omega
  have sy : y.length ≤ sizeLine := by rw [sizeLine_eq]; omega
  have rx : (lscL x FG).length ≤ sizeLine := Nat.le_trans lscL_len sx
  have ry : (lscL y FG).length ≤ sizeLine := Nat.le_trans lscL_len sy
  unfold m_number_ahead mb_number_ahead
  try simp only [rp_def, List.map_cons, List.map_nil, List.length_cons, List.length_nil, Nat.reduceAdd, Nat.reduceSub, List.replicate_zero, List.replicate_succ, List.append_nil, List.cons_append, List.nil_append, List.set_cons_zero, List.set_cons_succ, sp_ret, sp_seq, sp_asg, sp_if, sp_nx, sp_drop, SP_brS, rap_cons, rap_nil, rp_bi, rp_c, rp_op2, rp_op1, rp_not, rp_or, rp_and, rp_if, rp_call, rp_varM, List.getElem?_cons_zero, List.getElem?_cons_succ, rp_notD, RP_br, RP_ok, rp_lenS sx, rp_lenS sy, rp_m1, rp_lscX sx, rp_lscX sy, rp_lenS rx, rp_lenS ry, rp_sub, rp_addI]
  unfold naL at k
  simp only at k
  simp only [rp_def, List.map_cons, List.map_nil, List.length_cons, List.length_nil, Nat.reduceAdd, Nat.reduceSub, List.replicate_zero, List.replicate_succ, List.append_nil, List.cons_append, List.nil_append, List.set_cons_zero, List.set_cons_succ, sp_ret, sp_seq, sp_asg, sp_if, sp_nx, sp_drop, SP_brS, rap_cons, rap_nil, rp_bi, rp_c, rp_op2, rp_op1, rp_not, rp_or, rp_and, rp_if, rp_call, rp_varM, List.getElem?_cons_zero, List.getElem?_cons_succ, rp_notD, RP_br, RP_ok, rp_sub, rp_lt]
  generalize (x.length : Int) - ((lscL x FG).length : Int) - ((y.length : Int) - ((lscL y FG).length : Int)) = j at k ⊢
  by_cases hj : j < 1
  · simp only [hj, decide_true, cond_true, rp_def, List.map_cons, List.map_nil, List.length_cons, List.length_nil, Nat.reduceAdd, Nat.reduceSub, List.replicate_zero, List.replicate_succ, List.append_nil, List.cons_append, List.nil_append, List.set_cons_zero, List.set_cons_succ, sp_ret, sp_seq, sp_asg, sp_if, sp_nx, sp_drop, SP_brS, rap_cons, rap_nil, rp_bi, rp_c, rp_op2, rp_op1, rp_not, rp_or, rp_and, rp_if, rp_call, rp_varM, List.getElem?_cons_zero, List.getElem?_cons_succ, rp_notD, RP_br, RP_ok, if_true]
    rw [if_pos hj] at k; exact k
  · simp only [hj, decide_false, cond_false, rp_def, List.map_cons, List.map_nil, List.length_cons, List.length_nil, Nat.reduceAdd, Nat.reduceSub, List.replicate_zero, List.replicate_succ, List.append_nil, List.cons_append, List.nil_append, List.set_cons_zero, List.set_cons_succ, sp_ret, sp_seq, sp_asg, sp_if, sp_nx, sp_drop, SP_brS, rap_cons, rap_nil, rp_bi, rp_c, rp_op2, rp_op1, rp_not, rp_or, rp_and, rp_if, rp_call, rp_varM, List.getElem?_cons_zero, List.getElem?_cons_succ, rp_notD, RP_br, RP_ok, rp_sl, ro_none, ro_varM, rp_slS sx, rp_m1, rp_starts]
    rw [if_neg hj] at k
    cases he : Txt.startswith (mk (cutL x (some j) none)) (mk y) with
    | false =>
      simp only [rp_def, List.map_cons, List.map_nil, List.length_cons, List.length_nil, Nat.reduceAdd, Nat.reduceSub, List.replicate_zero, List.replicate_succ, List.append_nil, List.cons_append, List.nil_append, List.set_cons_zero, List.set_cons_succ, sp_ret, sp_seq, sp_asg, sp_if, sp_nx, sp_drop, SP_brS, rap_cons, rap_nil, rp_bi, rp_c, rp_op2, rp_op1, rp_not, rp_or, rp_and, rp_if, rp_call, rp_varM, List.getElem?_cons_zero, List.getElem?_cons_succ, rp_notD, RP_br, RP_ok, Bool.not_false, if_true]
      rw [he] at k; exact k
    | true =>
      have ro : oSome (op2 (addD false) (eVar 3) (eBi lenB (aCons (eVar 1) aNil))) [some (D.str x), some (D.str y), some (D.int ((y.length : Int) - ((lscL y FG).length : Int))), some (D.int j)] cs = some (some (j + (y.length : Int)), cs) := by
        refine ro_some (RP.eq ?_)
        simp only [rp_def, List.map_cons, List.map_nil, List.length_cons, List.length_nil, Nat.reduceAdd, Nat.reduceSub, List.replicate_zero, List.replicate_succ, List.append_nil, List.cons_append, List.nil_append, List.set_cons_zero, List.set_cons_succ, sp_ret, sp_seq, sp_asg, sp_if, sp_nx, sp_drop, SP_brS, rap_cons, rap_nil, rp_bi, rp_c, rp_op2, rp_op1, rp_not, rp_or, rp_and, rp_if, rp_call, rp_varM, List.getElem?_cons_zero, List.getElem?_cons_succ, rp_notD, RP_br, RP_ok, rp_lenS sy, rp_addI]
        first | exact ⟨rfl, rfl⟩ | exact ⟨rfl, trivial⟩ | exact ⟨trivial, rfl⟩ | exact trivial | exact ⟨trivial, trivial⟩
      simp only [rp_def, List.map_cons, List.map_nil, List.length_cons, List.length_nil, Nat.reduceAdd, Nat.reduceSub, List.replicate_zero, List.replicate_succ, List.append_nil, List.cons_append, List.nil_append, List.set_cons_zero, List.set_cons_succ, sp_ret, sp_seq, sp_asg, sp_if, sp_nx, sp_drop, SP_brS, rap_cons, rap_nil, rp_bi, rp_c, rp_op2, rp_op1, rp_not, rp_or, rp_and, rp_if, rp_call, rp_varM, List.getElem?_cons_zero, List.getElem?_cons_succ, rp_notD, RP_br, RP_ok, Bool.not_true, Bool.false_eq_true, if_false, rp_sl, ro_none, ro_varM, ro, rp_slS sx]
      rw [he, if_pos rfl] at k
      exact biX_rp (Nat.le_trans (cutL_len _ _ _) (by omega)) (Nat.le_trans (cutL_len _ _ _) (by omega)) k
theorem rdX_rp (m : Mk l pre near post s1 s2) (h : allF near = false) {n : List Nat} (q : IsN cs (.str n) true) (hn : n.length ≤ 500) (k : P (rdX pre near post s1 n) cs) : RP (m_reading [.str l, .str n] cs) P X := by
  have ln := m.lens
  have sn : n.length ≤ sizeLine := by rw [sizeLine_eq]; omega
  have sp : pre.length ≤ sizeLine := by rw [sizeLine_eq]; omega
  have sq : post.length ≤ sizeLine := by rw [sizeLine_eq]; omega
  unfold m_reading mb_reading
  try simp only [rp_def, List.map_cons, List.map_nil, List.length_cons, List.length_nil, Nat.reduceAdd, Nat.reduceSub, List.replicate_zero, List.replicate_succ, List.append_nil, List.cons_append, List.nil_append, List.set_cons_zero, List.set_cons_succ, sp_ret, sp_seq, sp_asg, sp_if, sp_nx, sp_drop, SP_brS, rap_cons, rap_nil, rp_bi, rp_c, rp_op2, rp_op1, rp_not, rp_or, rp_and, rp_if, rp_call, rp_varM, List.getElem?_cons_zero, List.getElem?_cons_succ, rp_notD, RP_br, RP_ok]
  refine nc_rp m h ?_
  try simp only [rp_def, List.map_cons, List.map_nil, List.length_cons, List.length_nil, Nat.reduceAdd, Nat.reduceSub, List.replicate_zero, List.replicate_succ, List.append_nil, List.cons_append, List.nil_append, List.set_cons_zero, List.set_cons_succ, sp_ret, sp_seq, sp_asg, sp_if, sp_nx, sp_drop, SP_brS, rap_cons, rap_nil, rp_bi, rp_c, rp_op2, rp_op1, rp_not, rp_or, rp_and, rp_if, rp_call, rp_varM, List.getElem?_cons_zero, List.getElem?_cons_succ, rp_notD, RP_br, RP_ok]
  refine nn_rp q ?_
  simp only [rp_def, List.map_cons, List.map_nil, List.length_cons, List.length_nil, Nat.reduceAdd, Nat.reduceSub, List.replicate_zero, List.replicate_succ, List.append_nil, List.cons_append, List.nil_append, List.set_cons_zero, List.set_cons_succ, sp_ret, sp_seq, sp_asg, sp_if, sp_nx, sp_drop, SP_brS, rap_cons, rap_nil, rp_bi, rp_c, rp_op2, rp_op1, rp_not, rp_or, rp_and, rp_if, rp_call, rp_varM, List.getElem?_cons_zero, List.getElem?_cons_succ, rp_notD, RP_br, RP_ok, sp_asgT]
  refine parts_rp m ?_
  simp only [rp_def, List.map_cons, List.map_nil, List.length_cons, List.length_nil, Nat.reduceAdd, Nat.reduceSub, List.replicate_zero, List.replicate_succ, List.append_nil, List.cons_append, List.nil_append, List.set_cons_zero, List.set_cons_succ, sp_ret, sp_seq, sp_asg, sp_if, sp_nx, sp_drop, SP_brS, rap_cons, rap_nil, rp_bi, rp_c, rp_op2, rp_op1, rp_not, rp_or, rp_and, rp_if, rp_call, rp_varM, List.getElem?_cons_zero, List.getElem?_cons_succ, rp_notD, RP_br, RP_ok, tgTup, tgTs, rp_lenS sn, rp_lenS sp, rp_lenS sq, rp_addI, rp_lt, rp_m1, rp_starts, rp_ends]
  unfold rdX at k
  by_cases hlt : (n.length : Int) < (pre.length : Int) + (post.length : Int)
  · rw [if_pos hlt] at k
    simp only [hlt, decide_true, cond_true, if_true, rp_def, List.map_cons, List.map_nil, List.length_cons, List.length_nil, Nat.reduceAdd, Nat.reduceSub, List.replicate_zero, List.replicate_succ, List.append_nil, List.cons_append, List.nil_append, List.set_cons_zero, List.set_cons_succ, sp_ret, sp_seq, sp_asg, sp_if, sp_nx, sp_drop, SP_brS, rap_cons, rap_nil, rp_bi, rp_c, rp_op2, rp_op1, rp_not, rp_or, rp_and, rp_if, rp_call, rp_varM, List.getElem?_cons_zero, List.getElem?_cons_succ, rp_notD, RP_br, RP_ok]; exact k
  · rw [if_neg hlt] at k
    simp only [hlt, decide_false]
    cases he : Txt.startswith (mk n) (mk pre) with
    | false => rw [he] at k; simp only [cond_true, cond_false, Bool.not_false, if_true, rp_def, List.map_cons, List.map_nil, List.length_cons, List.length_nil, Nat.reduceAdd, Nat.reduceSub, List.replicate_zero, List.replicate_succ, List.append_nil, List.cons_append, List.nil_append, List.set_cons_zero, List.set_cons_succ, sp_ret, sp_seq, sp_asg, sp_if, sp_nx, sp_drop, SP_brS, rap_cons, rap_nil, rp_bi, rp_c, rp_op2, rp_op1, rp_not, rp_or, rp_and, rp_if, rp_call, rp_varM, List.getElem?_cons_zero, List.getElem?_cons_succ, rp_notD, RP_br, RP_ok]; exact k
    | true =>
      rw [he, if_pos rfl] at k
      cases he2 : Txt.endswith (mk n) (mk post) with
      | false => rw [he2] at k; simp only [cond_true, cond_false, Bool.not_false, Bool.not_true, if_true, rp_def, List.map_cons, List.map_nil, List.length_cons, List.length_nil, Nat.reduceAdd, Nat.reduceSub, List.replicate_zero, List.replicate_succ, List.append_nil, List.cons_append, List.nil_append, List.set_cons_zero, List.set_cons_succ, sp_ret, sp_seq, sp_asg, sp_if, sp_nx, sp_drop, SP_brS, rap_cons, rap_nil, rp_bi, rp_c, rp_op2, rp_op1, rp_not, rp_or, rp_and, rp_if, rp_call, rp_varM, List.getElem?_cons_zero, List.getElem?_cons_succ, rp_notD, RP_br, RP_ok]; exact k
      | true =>
        rw [he2, if_pos rfl] at k
        have r1 : oSome (eBi lenB (aCons (eVar 2) aNil)) [some (.str l), some (.str n), some (.str pre), some (.str near), some (.str post), none] cs = some (some (pre.length : Int), cs) := by
          refine ro_some (RP.eq ?_)
          simp only [rp_def, List.map_cons, List.map_nil, List.length_cons, List.length_nil, Nat.reduceAdd, Nat.reduceSub, List.replicate_zero, List.replicate_succ, List.append_nil, List.cons_append, List.nil_append, List.set_cons_zero, List.set_cons_succ, sp_ret, sp_seq, sp_asg, sp_if, sp_nx, sp_drop, SP_brS, rap_cons, rap_nil, rp_bi, rp_c, rp_op2, rp_op1, rp_not, rp_or, rp_and, rp_if, rp_call, rp_varM, List.getElem?_cons_zero, List.getElem?_cons_succ, rp_notD, RP_br, RP_ok, rp_lenS sp]
          first | exact ⟨rfl, rfl⟩ | exact ⟨rfl, trivial⟩ | exact ⟨trivial, rfl⟩ | exact trivial | exact ⟨trivial, trivial⟩
        have r2 : oSome (op2 subD (eBi lenB (aCons (eVar 1) aNil)) (eBi lenB (aCons (eVar 4) aNil))) [some (.str l), some (.str n), some (.str pre), some (.str near), some (.str post), none] cs = some (some ((n.length : Int) - (post.length : Int)), cs) := by
          refine ro_some (RP.eq ?_)
          simp only [rp_def, List.map_cons, List.map_nil, List.length_cons, List.length_nil, Nat.reduceAdd, Nat.reduceSub, List.replicate_zero, List.replicate_succ, List.append_nil, List.cons_append, List.nil_append, List.set_cons_zero, List.set_cons_succ, sp_ret, sp_seq, sp_asg, sp_if, sp_nx, sp_drop, SP_brS, rap_cons, rap_nil, rp_bi, rp_c, rp_op2, rp_op1, rp_not, rp_or, rp_and, rp_if, rp_call, rp_varM, List.getElem?_cons_zero, List.getElem?_cons_succ, rp_notD, RP_br, RP_ok, rp_lenS sn, rp_lenS sq, rp_sub]
          first | exact ⟨rfl, rfl⟩ | exact ⟨rfl, trivial⟩ | exact ⟨trivial, rfl⟩ | exact trivial | exact ⟨trivial, trivial⟩
        simp only [cond_true, cond_false, Bool.not_true, Bool.false_eq_true, if_false, rp_def, List.map_cons, List.map_nil, List.length_cons, List.length_nil, Nat.reduceAdd, Nat.reduceSub, List.replicate_zero, List.replicate_succ, List.append_nil, List.cons_append, List.nil_append, List.set_cons_zero, List.set_cons_succ, sp_ret, sp_seq, sp_asg, sp_if, sp_nx, sp_drop, SP_brS, rap_cons, rap_nil, rp_bi, rp_c, rp_op2, rp_op1, rp_not, rp_or, rp_and, rp_if, rp_call, rp_varM, List.getElem?_cons_zero, List.getElem?_cons_succ, rp_notD, RP_br, RP_ok, rp_sl, r1, r2, rp_slS sn]
        have hc := cutL_len n (some (pre.length : Int)) (some ((n.length : Int) - (post.length : Int)))
        refine nf_rp m ?_
        by_cases e : s1 = 42
        · rw [if_pos e] at k
          simp only [e, decide_true, if_true, rp_def, List.map_cons, List.map_nil, List.length_cons, List.length_nil, Nat.reduceAdd, Nat.reduceSub, List.replicate_zero, List.replicate_succ, List.append_nil, List.cons_append, List.nil_append, List.set_cons_zero, List.set_cons_succ, sp_ret, sp_seq, sp_asg, sp_if, sp_nx, sp_drop, SP_brS, rap_cons, rap_nil, rp_bi, rp_c, rp_op2, rp_op1, rp_not, rp_or, rp_and, rp_if, rp_call, rp_varM, List.getElem?_cons_zero, List.getElem?_cons_succ, rp_notD, RP_br, RP_ok]
          exact nbX_rp (by omega) (by omega) k
        · rw [if_neg e] at k
          simp only [e, decide_false, Bool.false_eq_true, if_false, rp_def, List.map_cons, List.map_nil, List.length_cons, List.length_nil, Nat.reduceAdd, Nat.reduceSub, List.replicate_zero, List.replicate_succ, List.append_nil, List.cons_append, List.nil_append, List.set_cons_zero, List.set_cons_succ, sp_ret, sp_seq, sp_asg, sp_if, sp_nx, sp_drop, SP_brS, rap_cons, rap_nil, rp_bi, rp_c, rp_op2, rp_op1, rp_not, rp_or, rp_and, rp_if, rp_call, rp_varM, List.getElem?_cons_zero, List.getElem?_cons_succ, rp_notD, RP_br, RP_ok]
          exact naX_rp (by omega) (by omega) k
end

/-! ### wishes, names on a way -/
def wishB (w : List Nat) (r : D) (z : List Nat) : Bool := nm z && (decide (z.length ≤ 150) && (decide (w = wNest) || match r with
  | .tup [_, .int i] => decide (i ≤ 99999999999999)
  | _ => true))
section
variable {cs : Cells} {P : D → Cells → Prop} {X : KX} {l pre near post w z : List Nat} {s1 s2 n : Nat}
theorem isw_no {d : D} (hr : RuleAt cs n l w) (h : IsN cs d false) (k : P (.bl false) cs) : RP (m_is_wish [.loc n, d] cs) P X := by
  unfold m_is_wish mb_is_wish
  simp only [rp_def, List.map_cons, List.map_nil, List.length_cons, List.length_nil, Nat.reduceAdd, Nat.reduceSub, List.replicate_zero, List.replicate_succ, List.append_nil, List.cons_append, List.nil_append, List.set_cons_zero, List.set_cons_succ, sp_ret, sp_seq, sp_asg, sp_if, sp_nx, sp_drop, SP_brS, rap_cons, rap_nil, rp_bi, rp_c, rp_op2, rp_op1, rp_not, rp_or, rp_and, rp_if, rp_call, rp_varM, List.getElem?_cons_zero, List.getElem?_cons_succ, rp_notD, RP_br, RP_ok]
  refine nr_rp hr ?_
  try simp only [rp_def, List.map_cons, List.map_nil, List.length_cons, List.length_nil, Nat.reduceAdd, Nat.reduceSub, List.replicate_zero, List.replicate_succ, List.append_nil, List.cons_append, List.nil_append, List.set_cons_zero, List.set_cons_succ, sp_ret, sp_seq, sp_asg, sp_if, sp_nx, sp_drop, SP_brS, rap_cons, rap_nil, rp_bi, rp_c, rp_op2, rp_op1, rp_not, rp_or, rp_and, rp_if, rp_call, rp_varM, List.getElem?_cons_zero, List.getElem?_cons_succ, rp_notD, RP_br, RP_ok]
  refine h _ _ ?_
  simp only [rp_def, List.map_cons, List.map_nil, List.length_cons, List.length_nil, Nat.reduceAdd, Nat.reduceSub, List.replicate_zero, List.replicate_succ, List.append_nil, List.cons_append, List.nil_append, List.set_cons_zero, List.set_cons_succ, sp_ret, sp_seq, sp_asg, sp_if, sp_nx, sp_drop, SP_brS, rap_cons, rap_nil, rp_bi, rp_c, rp_op2, rp_op1, rp_not, rp_or, rp_and, rp_if, rp_call, rp_varM, List.getElem?_cons_zero, List.getElem?_cons_succ, rp_notD, RP_br, RP_ok, Bool.not_false, cond_true, if_true]
  exact k
theorem isw_rp (hr : RuleAt cs n l w) (m : Mk l pre near post s1 s2) (h : allF near = false) (hz : z.length ≤ 1000) (k : P (.bl (wishB w (rdX pre near post s1 z) z)) cs) : RP (m_is_wish [.loc n, .str z] cs) P X := by
  have sz : z.length ≤ sizeLine := by rw [sizeLine_eq]; omega
  unfold m_is_wish mb_is_wish
  simp only [rp_def, List.map_cons, List.map_nil, List.length_cons, List.length_nil, Nat.reduceAdd, Nat.reduceSub, List.replicate_zero, List.replicate_succ, List.append_nil, List.cons_append, List.nil_append, List.set_cons_zero, List.set_cons_succ, sp_ret, sp_seq, sp_asg, sp_if, sp_nx, sp_drop, SP_brS, rap_cons, rap_nil, rp_bi, rp_c, rp_op2, rp_op1, rp_not, rp_or, rp_and, rp_if, rp_call, rp_varM, List.getElem?_cons_zero, List.getElem?_cons_succ, rp_notD, RP_br, RP_ok]
  refine nr_rp hr ?_
  try simp only [rp_def, List.map_cons, List.map_nil, List.length_cons, List.length_nil, Nat.reduceAdd, Nat.reduceSub, List.replicate_zero, List.replicate_succ, List.append_nil, List.cons_append, List.nil_append, List.set_cons_zero, List.set_cons_succ, sp_ret, sp_seq, sp_asg, sp_if, sp_nx, sp_drop, SP_brS, rap_cons, rap_nil, rp_bi, rp_c, rp_op2, rp_op1, rp_not, rp_or, rp_and, rp_if, rp_call, rp_varM, List.getElem?_cons_zero, List.getElem?_cons_succ, rp_notD, RP_br, RP_ok]
  refine isn_str sz ?_
  unfold wishB at k
  cases hn : nm z with
  | false =>
    rw [hn] at k
    simp only [rp_def, List.map_cons, List.map_nil, List.length_cons, List.length_nil, Nat.reduceAdd, Nat.reduceSub, List.replicate_zero, List.replicate_succ, List.append_nil, List.cons_append, List.nil_append, List.set_cons_zero, List.set_cons_succ, sp_ret, sp_seq, sp_asg, sp_if, sp_nx, sp_drop, SP_brS, rap_cons, rap_nil, rp_bi, rp_c, rp_op2, rp_op1, rp_not, rp_or, rp_and, rp_if, rp_call, rp_varM, List.getElem?_cons_zero, List.getElem?_cons_succ, rp_notD, RP_br, RP_ok, Bool.not_false, cond_true, if_true]
    exact k
  | true =>
    rw [hn] at k
    simp only [rp_def, List.map_cons, List.map_nil, List.length_cons, List.length_nil, Nat.reduceAdd, Nat.reduceSub, List.replicate_zero, List.replicate_succ, List.append_nil, List.cons_append, List.nil_append, List.set_cons_zero, List.set_cons_succ, sp_ret, sp_seq, sp_asg, sp_if, sp_nx, sp_drop, SP_brS, rap_cons, rap_nil, rp_bi, rp_c, rp_op2, rp_op1, rp_not, rp_or, rp_and, rp_if, rp_call, rp_varM, List.getElem?_cons_zero, List.getElem?_cons_succ, rp_notD, RP_br, RP_ok, Bool.not_true, cond_false, rp_lenS sz, rp_gt]
    by_cases hl : z.length ≤ 150
    · have e1 : decide ((z.length : Int) > 150) = false := by simp; omega
      rw [decide_eq_true hl] at k
      simp only [e1, Bool.false_eq_true, if_false, rp_def, List.map_cons, List.map_nil, List.length_cons, List.length_nil, Nat.reduceAdd, Nat.reduceSub, List.replicate_zero, List.replicate_succ, List.append_nil, List.cons_append, List.nil_append, List.set_cons_zero, List.set_cons_succ, sp_ret, sp_seq, sp_asg, sp_if, sp_nx, sp_drop, SP_brS, rap_cons, rap_nil, rp_bi, rp_c, rp_op2, rp_op1, rp_not, rp_or, rp_and, rp_if, rp_call, rp_varM, List.getElem?_cons_zero, List.getElem?_cons_succ, rp_notD, RP_br, RP_ok, rp_eMeth, hr.ins, ru_read, eq_self, true_and, if_true]
      refine rread_rp hr (rdX_rp m h (fun P X k => isn_str sz (by rw [hn]; exact k)) (by omega) ?_)
      simp only [rp_def, List.map_cons, List.map_nil, List.length_cons, List.length_nil, Nat.reduceAdd, Nat.reduceSub, List.replicate_zero, List.replicate_succ, List.append_nil, List.cons_append, List.nil_append, List.set_cons_zero, List.set_cons_succ, sp_ret, sp_seq, sp_asg, sp_if, sp_nx, sp_drop, SP_brS, rap_cons, rap_nil, rp_bi, rp_c, rp_op2, rp_op1, rp_not, rp_or, rp_and, rp_if, rp_call, rp_varM, List.getElem?_cons_zero, List.getElem?_cons_succ, rp_notD, RP_br, RP_ok, rp_eMeth, hr.ins, ru_wayM, eq_self, true_and, if_true]
      refine rway_rp hr ?_
      rw [rp_eqS]
      simp only [rp_def, List.map_cons, List.map_nil, List.length_cons, List.length_nil, Nat.reduceAdd, Nat.reduceSub, List.replicate_zero, List.replicate_succ, List.append_nil, List.cons_append, List.nil_append, List.set_cons_zero, List.set_cons_succ, sp_ret, sp_seq, sp_asg, sp_if, sp_nx, sp_drop, SP_brS, rap_cons, rap_nil, rp_bi, rp_c, rp_op2, rp_op1, rp_not, rp_or, rp_and, rp_if, rp_call, rp_varM, List.getElem?_cons_zero, List.getElem?_cons_succ, rp_notD, RP_br, RP_ok]
      by_cases hw : w = wNest
      · rw [decide_eq_true hw] at k
        simp only [hw, decide_true, cond_true]
        exact k
      · rw [decide_eq_false hw] at k
        simp only [hw, decide_false, cond_false, rp_isB]
        rcases rdX_or pre near post s1 z with e | ⟨y, i, _, _, e⟩
        · rw [e] at k ⊢
          simp only [cond_true]
          exact k
        · rw [e] at k ⊢
          simp only [cond_false, rp_def, List.map_cons, List.map_nil, List.length_cons, List.length_nil, Nat.reduceAdd, Nat.reduceSub, List.replicate_zero, List.replicate_succ, List.append_nil, List.cons_append, List.nil_append, List.set_cons_zero, List.set_cons_succ, sp_ret, sp_seq, sp_asg, sp_if, sp_nx, sp_drop, SP_brS, rap_cons, rap_nil, rp_bi, rp_c, rp_op2, rp_op1, rp_not, rp_or, rp_and, rp_if, rp_call, rp_varM, List.getElem?_cons_zero, List.getElem?_cons_succ, rp_notD, RP_br, RP_ok]
          rw [rp_ixT (x := .int i) rfl, rp_le]
          exact k
    · have e1 : decide ((z.length : Int) > 150) = true := by simp; omega
      rw [decide_eq_false hl] at k
      simp only [e1, if_true, rp_def, List.map_cons, List.map_nil, List.length_cons, List.length_nil, Nat.reduceAdd, Nat.reduceSub, List.replicate_zero, List.replicate_succ, List.append_nil, List.cons_append, List.nil_append, List.set_cons_zero, List.set_cons_succ, sp_ret, sp_seq, sp_asg, sp_if, sp_nx, sp_drop, SP_brS, rap_cons, rap_nil, rp_bi, rp_c, rp_op2, rp_op1, rp_not, rp_or, rp_and, rp_if, rp_call, rp_varM, List.getElem?_cons_zero, List.getElem?_cons_succ, rp_notD, RP_br, RP_ok]
      exact k
theorem nw_rp {d : D} (h : ∀ (P : D → Cells → Prop) (X : KX), P (.bl true) cs → RP (m_is_wish [.loc n, d] cs) P X) (k : P .non cs) : RP (m_need_wish [.loc n, d] cs) P X := by
  unfold m_need_wish mb_need_wish
  simp only [rp_def, List.map_cons, List.map_nil, List.length_cons, List.length_nil, Nat.reduceAdd, Nat.reduceSub, List.replicate_zero, List.replicate_succ, List.append_nil, List.cons_append, List.nil_append, List.set_cons_zero, List.set_cons_succ, sp_ret, sp_seq, sp_asg, sp_if, sp_nx, sp_drop, SP_brS, rap_cons, rap_nil, rp_bi, rp_c, rp_op2, rp_op1, rp_not, rp_or, rp_and, rp_if, rp_call, rp_varM, List.getElem?_cons_zero, List.getElem?_cons_succ, rp_notD, RP_br, RP_ok]
  refine h _ _ ?_
  simp only [rp_def, List.map_cons, List.map_nil, List.length_cons, List.length_nil, Nat.reduceAdd, Nat.reduceSub, List.replicate_zero, List.replicate_succ, List.append_nil, List.cons_append, List.nil_append, List.set_cons_zero, List.set_cons_succ, sp_ret, sp_seq, sp_asg, sp_if, sp_nx, sp_drop, SP_brS, rap_cons, rap_nil, rp_bi, rp_c, rp_op2, rp_op1, rp_not, rp_or, rp_and, rp_if, rp_call, rp_varM, List.getElem?_cons_zero, List.getElem?_cons_succ, rp_notD, RP_br, RP_ok, Bool.not_true, Bool.false_eq_true, if_false]
  exact k
theorem nw_x {d : D} (h : ∀ (P : D → Cells → Prop) (X : KX), P (.bl false) cs → RP (m_is_wish [.loc n, d] cs) P X) (k : X "BadWish" [("found", d)] cs) : RP (m_need_wish [.loc n, d] cs) P X := by
  unfold m_need_wish mb_need_wish
  simp only [rp_def, List.map_cons, List.map_nil, List.length_cons, List.length_nil, Nat.reduceAdd, Nat.reduceSub, List.replicate_zero, List.replicate_succ, List.append_nil, List.cons_append, List.nil_append, List.set_cons_zero, List.set_cons_succ, sp_ret, sp_seq, sp_asg, sp_if, sp_nx, sp_drop, SP_brS, rap_cons, rap_nil, rp_bi, rp_c, rp_op2, rp_op1, rp_not, rp_or, rp_and, rp_if, rp_call, rp_varM, List.getElem?_cons_zero, List.getElem?_cons_succ, rp_notD, RP_br, RP_ok]
  refine h _ _ ?_
  simp only [rp_def, List.map_cons, List.map_nil, List.length_cons, List.length_nil, Nat.reduceAdd, Nat.reduceSub, List.replicate_zero, List.replicate_succ, List.append_nil, List.cons_append, List.nil_append, List.set_cons_zero, List.set_cons_succ, sp_ret, sp_seq, sp_asg, sp_if, sp_nx, sp_drop, SP_brS, rap_cons, rap_nil, rp_bi, rp_c, rp_op2, rp_op1, rp_not, rp_or, rp_and, rp_if, rp_call, rp_varM, List.getElem?_cons_zero, List.getElem?_cons_succ, rp_notD, RP_br, RP_ok, Bool.not_false, if_true, sp_raise]
  exact k
end

section
variable {cs : Cells} {P : D → Cells → Prop} {X : KX} {l pre near post w z : List Nat} {s1 s2 n : Nat}
/-- the name at a place of a way -/
def wayL (pre near post : List Nat) (s1 : Nat) (w z : List Nat) (j : Nat) : List Nat := if j = 0 then z else
  match (if w = wClimb then rdX pre near post s1 z else .non) with
  | .tup [.str y, .int i] => wrL pre near post s1 y (i + j)
  | _ => wrL pre near post s1 z (j + 1)
theorem natAbs_lt {i : Int} (h : 0 ≤ i) (q : i ≤ 999999999999999) : i.natAbs < 2 ^ 1000 := by
  have h1 : i.natAbs < 10 ^ 15 := by omega
  exact Nat.lt_of_lt_of_le h1 (by decide +kernel)
theorem put_rp (hr : RuleAt cs n l w) (m : Mk l pre near post s1 s2) {i : Int} (hn : nm z = true) (hz : z.length ≤ 1000) (h0 : 2 ≤ i) (h1 : i ≤ 999999999999999) (k : P (.str (wrL pre near post s1 z i)) cs) : RP (m_Rule_put [.loc n, .str z, .int i] cs) P X := by
  unfold m_Rule_put mb_Rule_put
  simp only [rp_def, List.map_cons, List.map_nil, List.length_cons, List.length_nil, Nat.reduceAdd, Nat.reduceSub, List.replicate_zero, List.replicate_succ, List.append_nil, List.cons_append, List.nil_append, List.set_cons_zero, List.set_cons_succ, sp_ret, sp_seq, sp_asg, sp_if, sp_nx, sp_drop, SP_brS, rap_cons, rap_nil, rp_bi, rp_c, rp_op2, rp_op1, rp_not, rp_or, rp_and, rp_if, rp_call, rp_varM, List.getElem?_cons_zero, List.getElem?_cons_succ, rp_notD, RP_br, RP_ok, rp_eFld, hr.ins, eq_self, if_true, ru_mark]
  refine wr_ok m (fun P X k => isn_str (by rw [sizeLine_eq]; omega) (by rw [hn]; exact k)) hz (fun P X k => isnu_int i P X ?_) (natAbs_lt (by omega) h1) ?_ k
  · have : ig (.int i) 2 999999999999999 = true := by unfold ig; simp [h0, h1]
    rw [this]; exact k
  · rw [codes_len]
    exact Nat.le_trans (PyProof.Rows.toString_length_le (k := 15) (by omega) (by decide) (by omega)) (by decide)
/-- what may be dealt: a wish, or something read whose number is not too great -/
theorem na0_rp {d e : D} (k : P e cs) : RP (m_name_at [d, e, .int 0] cs) P X := by
  unfold m_name_at mb_name_at
  simp only [rp_def, List.map_cons, List.map_nil, List.length_cons, List.length_nil, Nat.reduceAdd, Nat.reduceSub, List.replicate_zero, List.replicate_succ, List.append_nil, List.cons_append, List.nil_append, List.set_cons_zero, List.set_cons_succ, sp_ret, sp_seq, sp_asg, sp_if, sp_nx, sp_drop, SP_brS, rap_cons, rap_nil, rp_bi, rp_c, rp_op2, rp_op1, rp_not, rp_or, rp_and, rp_if, rp_call, rp_varM, List.getElem?_cons_zero, List.getElem?_cons_succ, rp_notD, RP_br, RP_ok, rp_eqI, decide_true, if_true]
  exact k
theorem way_rp (hr : RuleAt cs n l w) (m : Mk l pre near post s1 s2) (h : allF near = false) (hw : w = wNest ∨ w = wClimb) (hz : z.length ≤ 500) (hk : wishB w (rdX pre near post s1 z) z = true) {j : Nat} (hj : j ≤ 1000000) (k : P (.str (wayL pre near post s1 w z j)) cs) : RP (m_name_at [.loc n, .str z, .int (j : Nat)] cs) P X := by
  by_cases h0 : j = 0
  · subst h0
    exact na0_rp k
  · have hn : nm z = true := by unfold wishB at hk; rw [Bool.and_eq_true] at hk; exact hk.1
    have hk2 := hk
    unfold wayL at k
    rw [if_neg h0] at k
    unfold wishB at hk
    rw [Bool.and_eq_true, Bool.and_eq_true] at hk
    have e0 : decide ((j : Int) = 0) = false := by simp; omega
    unfold m_name_at mb_name_at
    simp only [rp_def, List.map_cons, List.map_nil, List.length_cons, List.length_nil, Nat.reduceAdd, Nat.reduceSub, List.replicate_zero, List.replicate_succ, List.append_nil, List.cons_append, List.nil_append, List.set_cons_zero, List.set_cons_succ, sp_ret, sp_seq, sp_asg, sp_if, sp_nx, sp_drop, SP_brS, rap_cons, rap_nil, rp_bi, rp_c, rp_op2, rp_op1, rp_not, rp_or, rp_and, rp_if, rp_call, rp_varM, List.getElem?_cons_zero, List.getElem?_cons_succ, rp_notD, RP_br, RP_ok, rp_eqI, e0, Bool.false_eq_true, if_false, rp_eMeth, hr.ins, ru_wayM, eq_self, true_and, if_true]
    refine rway_rp hr ?_
    rw [rp_eqS]
    simp only [rp_def, List.map_cons, List.map_nil, List.length_cons, List.length_nil, Nat.reduceAdd, Nat.reduceSub, List.replicate_zero, List.replicate_succ, List.append_nil, List.cons_append, List.nil_append, List.set_cons_zero, List.set_cons_succ, sp_ret, sp_seq, sp_asg, sp_if, sp_nx, sp_drop, SP_brS, rap_cons, rap_nil, rp_bi, rp_c, rp_op2, rp_op1, rp_not, rp_or, rp_and, rp_if, rp_call, rp_varM, List.getElem?_cons_zero, List.getElem?_cons_succ, rp_notD, RP_br, RP_ok]
    by_cases hc : w = wClimb
    · rw [if_pos hc] at k
      simp only [hc, decide_true, if_true, cond_true, rp_def, List.map_cons, List.map_nil, List.length_cons, List.length_nil, Nat.reduceAdd, Nat.reduceSub, List.replicate_zero, List.replicate_succ, List.append_nil, List.cons_append, List.nil_append, List.set_cons_zero, List.set_cons_succ, sp_ret, sp_seq, sp_asg, sp_if, sp_nx, sp_drop, SP_brS, rap_cons, rap_nil, rp_bi, rp_c, rp_op2, rp_op1, rp_not, rp_or, rp_and, rp_if, rp_call, rp_varM, List.getElem?_cons_zero, List.getElem?_cons_succ, rp_notD, RP_br, RP_ok, rp_eMeth, eq_self, true_and]
      rw [hc] at hk hr
      simp only [hr.ins, ru_read, eq_self, true_and, if_true, rp_def, List.map_cons, List.map_nil, List.length_cons, List.length_nil, Nat.reduceAdd, Nat.reduceSub, List.replicate_zero, List.replicate_succ, List.append_nil, List.cons_append, List.nil_append, List.set_cons_zero, List.set_cons_succ, sp_ret, sp_seq, sp_asg, sp_if, sp_nx, sp_drop, SP_brS, rap_cons, rap_nil, rp_bi, rp_c, rp_op2, rp_op1, rp_not, rp_or, rp_and, rp_if, rp_call, rp_varM, List.getElem?_cons_zero, List.getElem?_cons_succ, rp_notD, RP_br, RP_ok]
      refine rread_rp hr (rdX_rp m h (fun P X k => isn_str (by rw [sizeLine_eq]; omega) (by rw [hn]; exact k)) hz ?_)
      rcases rdX_or pre near post s1 z with e | ⟨y, i, hy, hi, e⟩
      · rw [e] at k ⊢
        simp only [rp_def, List.map_cons, List.map_nil, List.length_cons, List.length_nil, Nat.reduceAdd, Nat.reduceSub, List.replicate_zero, List.replicate_succ, List.append_nil, List.cons_append, List.nil_append, List.set_cons_zero, List.set_cons_succ, sp_ret, sp_seq, sp_asg, sp_if, sp_nx, sp_drop, SP_brS, rap_cons, rap_nil, rp_bi, rp_c, rp_op2, rp_op1, rp_not, rp_or, rp_and, rp_if, rp_call, rp_varM, List.getElem?_cons_zero, List.getElem?_cons_succ, rp_notD, RP_br, RP_ok, rp_isB, if_true, rp_eMeth, hr.ins, ru_put, eq_self, true_and, rp_addI]
        exact put_rp hr m hn (by omega) (by omega) (by omega) k
      · rw [e] at k hk ⊢
        have hi2 : i ≤ 99999999999999 := by
          have := hk.2.2
          rw [show decide (wClimb = wNest) = false by decide, Bool.false_or] at this
          exact of_decide_eq_true this
        have i0 : ∀ c (P : D → Cells → Prop) (X : KX), RP (ixD c (.tup [.str y, .int i]) (.int 0)) P X = P (.str y) c := fun c P X => rp_ixT rfl
        have i1 : ∀ c (P : D → Cells → Prop) (X : KX), RP (ixD c (.tup [.str y, .int i]) (.int 1)) P X = P (.int i) c := fun c P X => rp_ixT rfl
        simp only [rp_def, List.map_cons, List.map_nil, List.length_cons, List.length_nil, Nat.reduceAdd, Nat.reduceSub, List.replicate_zero, List.replicate_succ, List.append_nil, List.cons_append, List.nil_append, List.set_cons_zero, List.set_cons_succ, sp_ret, sp_seq, sp_asg, sp_if, sp_nx, sp_drop, SP_brS, rap_cons, rap_nil, rp_bi, rp_c, rp_op2, rp_op1, rp_not, rp_or, rp_and, rp_if, rp_call, rp_varM, List.getElem?_cons_zero, List.getElem?_cons_succ, rp_notD, RP_br, RP_ok, rp_isB, Bool.false_eq_true, if_false, rp_eMeth, hr.ins, ru_put, eq_self, true_and, if_true, i0, i1, rp_addI]
        have hy2 : y.length ≤ 200 := by
          unfold nm at hy
          rw [Bool.and_eq_true, decide_eq_true_eq] at hy
          exact hy.1.2
        exact put_rp hr m hy (by omega) (by omega) (by omega) k
    · rw [if_neg hc] at k
      simp only [hc, decide_false, Bool.false_eq_true, if_false, cond_false, rp_def, List.map_cons, List.map_nil, List.length_cons, List.length_nil, Nat.reduceAdd, Nat.reduceSub, List.replicate_zero, List.replicate_succ, List.append_nil, List.cons_append, List.nil_append, List.set_cons_zero, List.set_cons_succ, sp_ret, sp_seq, sp_asg, sp_if, sp_nx, sp_drop, SP_brS, rap_cons, rap_nil, rp_bi, rp_c, rp_op2, rp_op1, rp_not, rp_or, rp_and, rp_if, rp_call, rp_varM, List.getElem?_cons_zero, List.getElem?_cons_succ, rp_notD, RP_br, RP_ok, rp_isB, if_true, rp_eMeth, hr.ins, ru_put, eq_self, true_and, rp_addI]
      exact put_rp hr m hn (by omega) (by omega) (by omega) k
/-- the first name that is not held, at the place `a` -/
theorem fo_rp (hr : RuleAt cs n l w) (m : Mk l pre near post s1 s2) (h : allF near = false) (hw : w = wNest ∨ w = wClimb) (hz : z.length ≤ 500) (hk : wishB w (rdX pre near post s1 z) z = true) {g a : Nat} {H : List (List Nat)} (hh : cs[g]? = some (.lst (H.map D.str)))
    (ha : a ≤ 1000000) (h1 : ∀ j, j < a → wayL pre near post s1 w z j ∈ H) (h2 : wayL pre near post s1 w z a ∉ H) (k : P (.str (wayL pre near post s1 w z a)) cs) : RP (m_free_on [.loc n, .loc g, .str z] cs) P X := by
  unfold m_free_on mb_free_on
  simp only [rp_def, List.map_cons, List.map_nil, List.length_cons, List.length_nil, Nat.reduceAdd, Nat.reduceSub, List.replicate_zero, List.replicate_succ, List.append_nil, List.cons_append, List.nil_append, List.set_cons_zero, List.set_cons_succ, sp_ret, sp_seq, sp_asg, sp_if, sp_nx, sp_drop, SP_brS, rap_cons, rap_nil, rp_bi, rp_c, rp_op2, rp_op1, rp_not, rp_or, rp_and, rp_if, rp_call, rp_varM, List.getElem?_cons_zero, List.getElem?_cons_succ, rp_notD, RP_br, RP_ok]
  refine wh_inv a (fun i env c => env = [some (.loc n), some (.loc g), some (.str z), some (.int (i : Nat))] ∧ c = cs) ⟨rfl, rfl⟩ ?_ ?_
  · rintro i env c hi ⟨rfl, rfl⟩
    simp only [rp_def, List.map_cons, List.map_nil, List.length_cons, List.length_nil, Nat.reduceAdd, Nat.reduceSub, List.replicate_zero, List.replicate_succ, List.append_nil, List.cons_append, List.nil_append, List.set_cons_zero, List.set_cons_succ, sp_ret, sp_seq, sp_asg, sp_if, sp_nx, sp_drop, SP_brS, rap_cons, rap_nil, rp_bi, rp_c, rp_op2, rp_op1, rp_not, rp_or, rp_and, rp_if, rp_call, rp_varM, List.getElem?_cons_zero, List.getElem?_cons_succ, rp_notD, RP_br, RP_ok]
    refine way_rp hr m h hw hz hk (by omega) ?_
    simp only [rp_def, List.map_cons, List.map_nil, List.length_cons, List.length_nil, Nat.reduceAdd, Nat.reduceSub, List.replicate_zero, List.replicate_succ, List.append_nil, List.cons_append, List.nil_append, List.set_cons_zero, List.set_cons_succ, sp_ret, sp_seq, sp_asg, sp_if, sp_nx, sp_drop, SP_brS, rap_cons, rap_nil, rp_bi, rp_c, rp_op2, rp_op1, rp_not, rp_or, rp_and, rp_if, rp_call, rp_varM, List.getElem?_cons_zero, List.getElem?_cons_succ, rp_notD, RP_br, RP_ok, rp_inLoc hh, h1 i hi, decide_true, sp_augI]
    exact ⟨trivial, by simp, trivial⟩
  · rintro env c ⟨rfl, rfl⟩
    simp only [rp_def, List.map_cons, List.map_nil, List.length_cons, List.length_nil, Nat.reduceAdd, Nat.reduceSub, List.replicate_zero, List.replicate_succ, List.append_nil, List.cons_append, List.nil_append, List.set_cons_zero, List.set_cons_succ, sp_ret, sp_seq, sp_asg, sp_if, sp_nx, sp_drop, SP_brS, rap_cons, rap_nil, rp_bi, rp_c, rp_op2, rp_op1, rp_not, rp_or, rp_and, rp_if, rp_call, rp_varM, List.getElem?_cons_zero, List.getElem?_cons_succ, rp_notD, RP_br, RP_ok]
    refine way_rp hr m h hw hz hk (by omega) ?_
    simp only [rp_def, List.map_cons, List.map_nil, List.length_cons, List.length_nil, Nat.reduceAdd, Nat.reduceSub, List.replicate_zero, List.replicate_succ, List.append_nil, List.cons_append, List.nil_append, List.set_cons_zero, List.set_cons_succ, sp_ret, sp_seq, sp_asg, sp_if, sp_nx, sp_drop, SP_brS, rap_cons, rap_nil, rp_bi, rp_c, rp_op2, rp_op1, rp_not, rp_or, rp_and, rp_if, rp_call, rp_varM, List.getElem?_cons_zero, List.getElem?_cons_succ, rp_notD, RP_br, RP_ok, rp_inLoc hh, h2, decide_false]
    refine ⟨trivial, ?_⟩
    exact way_rp hr m h hw hz hk (by omega) k
end

/-! ### lists that are the same -/
def sameOk (d : D) : Bool := match py0 d with
  | some p => SeqAt.shaped p && PyData.eqv p p
  | none => false
theorem ne_same {cs : Cells} {P : D → Cells → Prop} {X : KX} {t : List D} (h : sameOk (.lst t) = true) (k : P (.bl false) cs) : RP (neD cs (.lst t) (.lst t)) P X := by
  have : eqB cs (.lst t) (.lst t) = some true := by
    show (match pyOf cs (.lst t), pyOf cs (.lst t) with
      | some p, some q => if SeqAt.shaped p && SeqAt.shaped q then some (PyData.eqv p q) else none
      | _, _ => none) = _
    have e : pyOf cs (.lst t) = py0 (.lst t) := rfl
    rw [e]
    unfold sameOk at h
    cases hp : py0 (.lst t) with
    | none => rw [hp] at h; cases h
    | some p =>
      rw [hp] at h
      simp only [Bool.and_eq_true] at h
      simp only [h.1, h.2, Bool.and_self, if_true]
  unfold neD; rw [this]; exact k
theorem eq_same {cs : Cells} {P : D → Cells → Prop} {X : KX} {t : List D} (h : sameOk (.lst t) = true) (k : P (.bl true) cs) : RP (eqD cs (.lst t) (.lst t)) P X := by
  have : eqB cs (.lst t) (.lst t) = some true := by
    show (match pyOf cs (.lst t), pyOf cs (.lst t) with
      | some p, some q => if SeqAt.shaped p && SeqAt.shaped q then some (PyData.eqv p q) else none
      | _, _ => none) = _
    have e : pyOf cs (.lst t) = py0 (.lst t) := rfl
    rw [e]
    unfold sameOk at h
    cases hp : py0 (.lst t) with
    | none => rw [hp] at h; cases h
    | some p =>
      rw [hp] at h
      simp only [Bool.and_eq_true] at h
      simp only [h.1, h.2, Bool.and_self, if_true]
  unfold eqD; rw [this]; exact k
theorem rep_dct {cs : Cells} {t : List (Kd × D)} (q : repOkD (.dct t) = true) : ∃ z, reprBD cs [.dct t] = .ok (.str z) cs := by
  unfold repOkD at q
  cases hp : py0 (.dct t) with
  | none => try rw [hp] at q
            cases q
  | some p =>
    try rw [hp] at q
    have q := of_decide_eq_true q
    refine ⟨codes p.shown, ?_⟩
    have hp' : pyOf cs (.dct t) = some p := hp
    unfold reprBD
    simp only [reprC, hp', if_pos q]

end T_k15

namespace T_k15
open PySem L2 L3
/-! ### what `_law_asked` answers -/
abbrev w_BadRule : List Nat := [114, 117, 108, 101]
abbrev w_BadWish : List Nat := [119, 105, 115, 104]
abbrev w_BadNumber : List Nat := [110, 117, 109, 98, 101, 114]
abbrev w_BadName : List Nat := [110, 97, 109, 101]
abbrev w_BadNames : List Nat := [110, 97, 109, 101, 115]
abbrev w_Doubled : List Nat := [100, 111, 117, 98, 108, 101, 100]
abbrev w_none : List Nat := [110, 111, 110, 101]
def AskX (P : D → Cells → Prop) : KX := fun n fs c => (n = "BadRule" ∧ ∃ d : D, fs = ([("found", d)] : List (Str × D)) ∧ P (.lst [.str w_BadRule, d]) c) ∨ (n = "BadWish" ∧ ∃ d : D, fs = ([("found", d)] : List (Str × D)) ∧ P (.lst [.str w_BadWish, d]) c) ∨ (n = "BadNumber" ∧ ∃ d : D, fs = ([("found", d)] : List (Str × D)) ∧ P (.lst [.str w_BadNumber, d]) c) ∨ (n = "BadName" ∧ ∃ d : D, fs = ([("found", d)] : List (Str × D)) ∧ P (.lst [.str w_BadName, d]) c) ∨ (n = "BadNames" ∧ ∃ d : D, fs = ([("found", d)] : List (Str × D)) ∧ P (.lst [.str w_BadNames, d]) c) ∨ (n = "Doubled" ∧ ∃ d : D, fs = ([("found", d)] : List (Str × D)) ∧ P (.lst [.str w_Doubled, d]) c)
theorem ask_catch {P : D → Cells → Prop} {K : Cn} {n : Str} {fs : List (Str × D)} {env : L3.Env} {cs : Cells} (hK : K.rt = P) (he : env.length = 5) (h : AskX P n fs cs) : L3.SP (catchH (isaT isa) n fs env cs
    (("BadRule", some 4, fun fs env cs => ((he2 (fun _ cs => .ok (.str [114, 117, 108, 101]) cs) (fldD "found")) fs cs).toS env fun d c => .rt d c) :: (("BadWish", some 4, fun fs env cs => ((he2 (fun _ cs => .ok (.str [119, 105, 115, 104]) cs) (fldD "found")) fs cs).toS env fun d c => .rt d c) :: (("BadNumber", some 4, fun fs env cs => ((he2 (fun _ cs => .ok (.str [110, 117, 109, 98, 101, 114]) cs) (fldD "found")) fs cs).toS env fun d c => .rt d c) :: (("BadName", some 4, fun fs env cs => ((he2 (fun _ cs => .ok (.str [110, 97, 109, 101]) cs) (fldD "found")) fs cs).toS env fun d c => .rt d c) :: (("BadNames", some 4, fun fs env cs => ((he2 (fun _ cs => .ok (.str [110, 97, 109, 101, 115]) cs) (fldD "found")) fs cs).toS env fun d c => .rt d c) :: (("Doubled", some 4, fun fs env cs => ((he2 (fun _ cs => .ok (.str [100, 111, 117, 98, 108, 101, 100]) cs) (fldD "found")) fs cs).toS env fun d c => .rt d c) :: (("TailError", none, fun _ => (sRet (eList false (aCons (eC (.str [111, 116, 104, 101, 114])) (aCons (eC .non) aNil))))) :: [])))))))) K := by
  subst hK
  rcases h with ⟨rfl, d, rfl, h⟩ | ⟨rfl, d, rfl, h⟩ | ⟨rfl, d, rfl, h⟩ | ⟨rfl, d, rfl, h⟩ | ⟨rfl, d, rfl, h⟩ | ⟨rfl, d, rfl, h⟩
  · rw [sp_hit (by decide +kernel) (by rw [he]; decide), sp_clr, rp_he2]
    simp only [RP_ok, rp_fld]
    exact h
  · rw [sp_miss (by decide +kernel), sp_hit (by decide +kernel) (by rw [he]; decide), sp_clr, rp_he2]
    simp only [RP_ok, rp_fld]
    exact h
  · rw [sp_miss (by decide +kernel), sp_miss (by decide +kernel), sp_hit (by decide +kernel) (by rw [he]; decide), sp_clr, rp_he2]
    simp only [RP_ok, rp_fld]
    exact h
  · rw [sp_miss (by decide +kernel), sp_miss (by decide +kernel), sp_miss (by decide +kernel), sp_hit (by decide +kernel) (by rw [he]; decide), sp_clr, rp_he2]
    simp only [RP_ok, rp_fld]
    exact h
  · rw [sp_miss (by decide +kernel), sp_miss (by decide +kernel), sp_miss (by decide +kernel), sp_miss (by decide +kernel), sp_hit (by decide +kernel) (by rw [he]; decide), sp_clr, rp_he2]
    simp only [RP_ok, rp_fld]
    exact h
  · rw [sp_miss (by decide +kernel), sp_miss (by decide +kernel), sp_miss (by decide +kernel), sp_miss (by decide +kernel), sp_miss (by decide +kernel), sp_hit (by decide +kernel) (by rw [he]; decide), sp_clr, rp_he2]
    simp only [RP_ok, rp_fld]
    exact h
theorem AskX.BadRule {P : D → Cells → Prop} {c : Cells} {d : D} (k : P (.lst [.str w_BadRule, d]) c) : AskX P "BadRule" [("found", d)] c := .inl ⟨rfl, _, rfl, k⟩
theorem AskX.BadWish {P : D → Cells → Prop} {c : Cells} {d : D} (k : P (.lst [.str w_BadWish, d]) c) : AskX P "BadWish" [("found", d)] c := .inr (.inl ⟨rfl, _, rfl, k⟩)
theorem AskX.BadNumber {P : D → Cells → Prop} {c : Cells} {d : D} (k : P (.lst [.str w_BadNumber, d]) c) : AskX P "BadNumber" [("found", d)] c := .inr (.inr (.inl ⟨rfl, _, rfl, k⟩))
theorem AskX.BadName {P : D → Cells → Prop} {c : Cells} {d : D} (k : P (.lst [.str w_BadName, d]) c) : AskX P "BadName" [("found", d)] c := .inr (.inr (.inr (.inl ⟨rfl, _, rfl, k⟩)))
theorem AskX.BadNames {P : D → Cells → Prop} {c : Cells} {d : D} (k : P (.lst [.str w_BadNames, d]) c) : AskX P "BadNames" [("found", d)] c := .inr (.inr (.inr (.inr (.inl ⟨rfl, _, rfl, k⟩))))
theorem AskX.Doubled {P : D → Cells → Prop} {c : Cells} {d : D} (k : P (.lst [.str w_Doubled, d]) c) : AskX P "Doubled" [("found", d)] c := .inr (.inr (.inr (.inr (.inr (⟨rfl, _, rfl, k⟩)))))

section
variable {cs : Cells} {P : D → Cells → Prop} {X : KX} {r t d a b c3 v : D} {n : Nat} {l w : List Nat} {way : Int}
theorem e_none {c' : Cells} : RP (mkL false c' [.str w_none, .non]) P X = P (.lst [.str w_none, .non]) c' := rp_mkLf (by rw [sizeLine_eq]; simp)
theorem asked0 (h : RP (m_first_names [r, t, d] cs) (fun _ c' => P (.lst [.str w_none, .non]) c') (AskX P)) : RP (m__law_asked [.int 0, r, t, d] cs) P X := by
  unfold m__law_asked mb__law_asked
  simp only [rp_def, List.map_cons, List.map_nil, List.length_cons, List.length_nil, Nat.reduceAdd, Nat.reduceSub, List.replicate_zero, List.replicate_succ, List.cons_append, List.nil_append, sp_seq, sp_try]
  simp only [rp_def, List.map_cons, List.map_nil, List.length_cons, List.length_nil, Nat.reduceAdd, Nat.reduceSub, List.replicate_zero, List.replicate_succ, List.append_nil, List.cons_append, List.nil_append, List.set_cons_zero, List.set_cons_succ, sp_ret, sp_seq, sp_asg, sp_if, sp_nx, sp_drop, SP_brS, rap_cons, rap_nil, rp_bi, rp_c, rp_op2, rp_op1, rp_not, rp_or, rp_and, rp_if, rp_call, rp_varM, List.getElem?_cons_zero, List.getElem?_cons_succ, rp_notD, RP_br, RP_ok, rp_eqI, Int.reduceEq, decide_true, decide_false, Bool.false_eq_true, if_true, if_false, rp_list, e_none]
  exact RP.monoX h (fun _ _ p => p) fun n fs c q => ask_catch rfl rfl q
theorem asked1 (h : RP (m_place [r, t, d] cs) (fun _ c' => P (.lst [.str w_none, .non]) c') (AskX P)) : RP (m__law_asked [.int 1, r, t, d] cs) P X := by
  unfold m__law_asked mb__law_asked
  simp only [rp_def, List.map_cons, List.map_nil, List.length_cons, List.length_nil, Nat.reduceAdd, Nat.reduceSub, List.replicate_zero, List.replicate_succ, List.cons_append, List.nil_append, sp_seq, sp_try]
  simp only [rp_def, List.map_cons, List.map_nil, List.length_cons, List.length_nil, Nat.reduceAdd, Nat.reduceSub, List.replicate_zero, List.replicate_succ, List.append_nil, List.cons_append, List.nil_append, List.set_cons_zero, List.set_cons_succ, sp_ret, sp_seq, sp_asg, sp_if, sp_nx, sp_drop, SP_brS, rap_cons, rap_nil, rp_bi, rp_c, rp_op2, rp_op1, rp_not, rp_or, rp_and, rp_if, rp_call, rp_varM, List.getElem?_cons_zero, List.getElem?_cons_succ, rp_notD, RP_br, RP_ok, rp_eqI, Int.reduceEq, decide_true, decide_false, Bool.false_eq_true, if_true, if_false, rp_list, e_none]
  exact RP.monoX h (fun _ _ p => p) fun n fs c q => ask_catch rfl rfl q
theorem asked2 (h : RP (m_first_free [r, t, d] cs) (fun _ c' => P (.lst [.str w_none, .non]) c') (AskX P)) : RP (m__law_asked [.int 2, r, t, d] cs) P X := by
  unfold m__law_asked mb__law_asked
  simp only [rp_def, List.map_cons, List.map_nil, List.length_cons, List.length_nil, Nat.reduceAdd, Nat.reduceSub, List.replicate_zero, List.replicate_succ, List.cons_append, List.nil_append, sp_seq, sp_try]
  simp only [rp_def, List.map_cons, List.map_nil, List.length_cons, List.length_nil, Nat.reduceAdd, Nat.reduceSub, List.replicate_zero, List.replicate_succ, List.append_nil, List.cons_append, List.nil_append, List.set_cons_zero, List.set_cons_succ, sp_ret, sp_seq, sp_asg, sp_if, sp_nx, sp_drop, SP_brS, rap_cons, rap_nil, rp_bi, rp_c, rp_op2, rp_op1, rp_not, rp_or, rp_and, rp_if, rp_call, rp_varM, List.getElem?_cons_zero, List.getElem?_cons_succ, rp_notD, RP_br, RP_ok, rp_eqI, Int.reduceEq, decide_true, decide_false, Bool.false_eq_true, if_true, if_false, rp_list, e_none]
  exact RP.monoX h (fun _ _ p => p) fun n fs c q => ask_catch rfl rfl q
/-! each error -/
theorem a_rule (hw : way = 0 ∨ way = 1 ∨ way = 2) {u : String} (h : insAt cs r = none) (q : tyC cs r = some u) (hu : u ∈ TZ) (k : P (.lst [.str w_BadRule, r]) cs) : RP (m__law_asked [.int way, r, t, d] cs) P X := by
  rcases hw with rfl | rfl | rfl
  · refine asked0 ?_
    unfold m_first_names mb_first_names
    try simp only [rp_def, List.map_cons, List.map_nil, List.length_cons, List.length_nil, Nat.reduceAdd, Nat.reduceSub, List.replicate_zero, List.replicate_succ, List.append_nil, List.cons_append, List.nil_append, List.set_cons_zero, List.set_cons_succ, sp_ret, sp_seq, sp_asg, sp_if, sp_nx, sp_drop, SP_brS, rap_cons, rap_nil, rp_bi, rp_c, rp_op2, rp_op1, rp_not, rp_or, rp_and, rp_if, rp_call, rp_varM, List.getElem?_cons_zero, List.getElem?_cons_succ, rp_notD, RP_br, RP_ok]
    exact nr_x h q hu (AskX.BadRule k)
  · refine asked1 ?_
    unfold m_place mb_place
    try simp only [rp_def, List.map_cons, List.map_nil, List.length_cons, List.length_nil, Nat.reduceAdd, Nat.reduceSub, List.replicate_zero, List.replicate_succ, List.append_nil, List.cons_append, List.nil_append, List.set_cons_zero, List.set_cons_succ, sp_ret, sp_seq, sp_asg, sp_if, sp_nx, sp_drop, SP_brS, rap_cons, rap_nil, rp_bi, rp_c, rp_op2, rp_op1, rp_not, rp_or, rp_and, rp_if, rp_call, rp_varM, List.getElem?_cons_zero, List.getElem?_cons_succ, rp_notD, RP_br, RP_ok]
    exact nr_x h q hu (AskX.BadRule k)
  · refine asked2 ?_
    unfold m_first_free mb_first_free
    try simp only [rp_def, List.map_cons, List.map_nil, List.length_cons, List.length_nil, Nat.reduceAdd, Nat.reduceSub, List.replicate_zero, List.replicate_succ, List.append_nil, List.cons_append, List.nil_append, List.set_cons_zero, List.set_cons_succ, sp_ret, sp_seq, sp_asg, sp_if, sp_nx, sp_drop, SP_brS, rap_cons, rap_nil, rp_bi, rp_c, rp_op2, rp_op1, rp_not, rp_or, rp_and, rp_if, rp_call, rp_varM, List.getElem?_cons_zero, List.getElem?_cons_succ, rp_notD, RP_br, RP_ok]
    exact nr_x h q hu (AskX.BadRule k)
def IsW (cs : Cells) (n : Nat) (d : D) (b : Bool) : Prop := ∀ (P : D → Cells → Prop) (X : KX), P (.bl b) cs → RP (m_is_wish [.loc n, d] cs) P X
theorem a_wish (hw : way = 0 ∨ way = 1) (hr : RuleAt cs n l w) (h : IsW cs n t false) (k : P (.lst [.str w_BadWish, t]) cs) : RP (m__law_asked [.int way, .loc n, t, d] cs) P X := by
  rcases hw with rfl | rfl
  · refine asked0 ?_
    unfold m_first_names mb_first_names
    try simp only [rp_def, List.map_cons, List.map_nil, List.length_cons, List.length_nil, Nat.reduceAdd, Nat.reduceSub, List.replicate_zero, List.replicate_succ, List.append_nil, List.cons_append, List.nil_append, List.set_cons_zero, List.set_cons_succ, sp_ret, sp_seq, sp_asg, sp_if, sp_nx, sp_drop, SP_brS, rap_cons, rap_nil, rp_bi, rp_c, rp_op2, rp_op1, rp_not, rp_or, rp_and, rp_if, rp_call, rp_varM, List.getElem?_cons_zero, List.getElem?_cons_succ, rp_notD, RP_br, RP_ok]
    refine nr_rp hr ?_
    try simp only [rp_def, List.map_cons, List.map_nil, List.length_cons, List.length_nil, Nat.reduceAdd, Nat.reduceSub, List.replicate_zero, List.replicate_succ, List.append_nil, List.cons_append, List.nil_append, List.set_cons_zero, List.set_cons_succ, sp_ret, sp_seq, sp_asg, sp_if, sp_nx, sp_drop, SP_brS, rap_cons, rap_nil, rp_bi, rp_c, rp_op2, rp_op1, rp_not, rp_or, rp_and, rp_if, rp_call, rp_varM, List.getElem?_cons_zero, List.getElem?_cons_succ, rp_notD, RP_br, RP_ok]
    exact nw_x h (AskX.BadWish k)
  · refine asked1 ?_
    unfold m_place mb_place
    try simp only [rp_def, List.map_cons, List.map_nil, List.length_cons, List.length_nil, Nat.reduceAdd, Nat.reduceSub, List.replicate_zero, List.replicate_succ, List.append_nil, List.cons_append, List.nil_append, List.set_cons_zero, List.set_cons_succ, sp_ret, sp_seq, sp_asg, sp_if, sp_nx, sp_drop, SP_brS, rap_cons, rap_nil, rp_bi, rp_c, rp_op2, rp_op1, rp_not, rp_or, rp_and, rp_if, rp_call, rp_varM, List.getElem?_cons_zero, List.getElem?_cons_succ, rp_notD, RP_br, RP_ok]
    refine nr_rp hr ?_
    try simp only [rp_def, List.map_cons, List.map_nil, List.length_cons, List.length_nil, Nat.reduceAdd, Nat.reduceSub, List.replicate_zero, List.replicate_succ, List.append_nil, List.cons_append, List.nil_append, List.set_cons_zero, List.set_cons_succ, sp_ret, sp_seq, sp_asg, sp_if, sp_nx, sp_drop, SP_brS, rap_cons, rap_nil, rp_bi, rp_c, rp_op2, rp_op1, rp_not, rp_or, rp_and, rp_if, rp_call, rp_varM, List.getElem?_cons_zero, List.getElem?_cons_succ, rp_notD, RP_br, RP_ok]
    exact nw_x h (AskX.BadWish k)
theorem lA_ok {Pn : D → Cells → Prop} (k : Pn .non (cs ++ [.set (keysN [[97]])])) : RP (m_need_taken [.lst [.str [97]]] cs) Pn X :=
  tk_rp (un_rp (N := [[97]]) (rest := []) (by decide) (by simp) (by decide) (by decide) k)
theorem a_wish2 (hr : RuleAt cs n l w) (h : ∀ news, IsW (cs ++ news) n d false) (k : ∀ news, P (.lst [.str w_BadWish, d]) (cs ++ news)) : RP (m__law_asked [.int 2, .loc n, .lst [.str [97]], d] cs) P X := by
  refine asked2 ?_
  unfold m_first_free mb_first_free
  try simp only [rp_def, List.map_cons, List.map_nil, List.length_cons, List.length_nil, Nat.reduceAdd, Nat.reduceSub, List.replicate_zero, List.replicate_succ, List.append_nil, List.cons_append, List.nil_append, List.set_cons_zero, List.set_cons_succ, sp_ret, sp_seq, sp_asg, sp_if, sp_nx, sp_drop, SP_brS, rap_cons, rap_nil, rp_bi, rp_c, rp_op2, rp_op1, rp_not, rp_or, rp_and, rp_if, rp_call, rp_varM, List.getElem?_cons_zero, List.getElem?_cons_succ, rp_notD, RP_br, RP_ok]
  refine nr_rp hr ?_
  try simp only [rp_def, List.map_cons, List.map_nil, List.length_cons, List.length_nil, Nat.reduceAdd, Nat.reduceSub, List.replicate_zero, List.replicate_succ, List.append_nil, List.cons_append, List.nil_append, List.set_cons_zero, List.set_cons_succ, sp_ret, sp_seq, sp_asg, sp_if, sp_nx, sp_drop, SP_brS, rap_cons, rap_nil, rp_bi, rp_c, rp_op2, rp_op1, rp_not, rp_or, rp_and, rp_if, rp_call, rp_varM, List.getElem?_cons_zero, List.getElem?_cons_succ, rp_notD, RP_br, RP_ok]
  refine lA_ok ?_
  try simp only [rp_def, List.map_cons, List.map_nil, List.length_cons, List.length_nil, Nat.reduceAdd, Nat.reduceSub, List.replicate_zero, List.replicate_succ, List.append_nil, List.cons_append, List.nil_append, List.set_cons_zero, List.set_cons_succ, sp_ret, sp_seq, sp_asg, sp_if, sp_nx, sp_drop, SP_brS, rap_cons, rap_nil, rp_bi, rp_c, rp_op2, rp_op1, rp_not, rp_or, rp_and, rp_if, rp_call, rp_varM, List.getElem?_cons_zero, List.getElem?_cons_succ, rp_notD, RP_br, RP_ok]
  exact nw_x (h _) (AskX.BadWish (k _))
theorem a_num (hr : RuleAt cs n l w) (hA : IsW cs n (.str [97]) true) (h : ∀ (P : D → Cells → Prop) (X : KX), P (.bl false) cs → RP (m_is_integer [d, .int 0, .int 200] cs) P X) (k : P (.lst [.str w_BadNumber, d]) cs) : RP (m__law_asked [.int 0, .loc n, .str [97], d] cs) P X := by
  refine asked0 ?_
  unfold m_first_names mb_first_names
  try simp only [rp_def, List.map_cons, List.map_nil, List.length_cons, List.length_nil, Nat.reduceAdd, Nat.reduceSub, List.replicate_zero, List.replicate_succ, List.append_nil, List.cons_append, List.nil_append, List.set_cons_zero, List.set_cons_succ, sp_ret, sp_seq, sp_asg, sp_if, sp_nx, sp_drop, SP_brS, rap_cons, rap_nil, rp_bi, rp_c, rp_op2, rp_op1, rp_not, rp_or, rp_and, rp_if, rp_call, rp_varM, List.getElem?_cons_zero, List.getElem?_cons_succ, rp_notD, RP_br, RP_ok]
  refine nr_rp hr ?_
  try simp only [rp_def, List.map_cons, List.map_nil, List.length_cons, List.length_nil, Nat.reduceAdd, Nat.reduceSub, List.replicate_zero, List.replicate_succ, List.append_nil, List.cons_append, List.nil_append, List.set_cons_zero, List.set_cons_succ, sp_ret, sp_seq, sp_asg, sp_if, sp_nx, sp_drop, SP_brS, rap_cons, rap_nil, rp_bi, rp_c, rp_op2, rp_op1, rp_not, rp_or, rp_and, rp_if, rp_call, rp_varM, List.getElem?_cons_zero, List.getElem?_cons_succ, rp_notD, RP_br, RP_ok]
  refine nw_rp hA ?_
  try simp only [rp_def, List.map_cons, List.map_nil, List.length_cons, List.length_nil, Nat.reduceAdd, Nat.reduceSub, List.replicate_zero, List.replicate_succ, List.append_nil, List.cons_append, List.nil_append, List.set_cons_zero, List.set_cons_succ, sp_ret, sp_seq, sp_asg, sp_if, sp_nx, sp_drop, SP_brS, rap_cons, rap_nil, rp_bi, rp_c, rp_op2, rp_op1, rp_not, rp_or, rp_and, rp_if, rp_call, rp_varM, List.getElem?_cons_zero, List.getElem?_cons_succ, rp_notD, RP_br, RP_ok]
  refine h _ _ ?_
  simp only [rp_def, List.map_cons, List.map_nil, List.length_cons, List.length_nil, Nat.reduceAdd, Nat.reduceSub, List.replicate_zero, List.replicate_succ, List.append_nil, List.cons_append, List.nil_append, List.set_cons_zero, List.set_cons_succ, sp_ret, sp_seq, sp_asg, sp_if, sp_nx, sp_drop, SP_brS, rap_cons, rap_nil, rp_bi, rp_c, rp_op2, rp_op1, rp_not, rp_or, rp_and, rp_if, rp_call, rp_varM, List.getElem?_cons_zero, List.getElem?_cons_succ, rp_notD, RP_br, RP_ok, Bool.not_false, if_true, sp_raise]
  exact AskX.BadNumber k
theorem a_name (hr : RuleAt cs n l w) (hA : IsW cs n (.str [97]) true) (h : IsN cs d false) (k : P (.lst [.str w_BadName, d]) cs) : RP (m__law_asked [.int 1, .loc n, .str [97], d] cs) P X := by
  refine asked1 ?_
  unfold m_place mb_place
  try simp only [rp_def, List.map_cons, List.map_nil, List.length_cons, List.length_nil, Nat.reduceAdd, Nat.reduceSub, List.replicate_zero, List.replicate_succ, List.append_nil, List.cons_append, List.nil_append, List.set_cons_zero, List.set_cons_succ, sp_ret, sp_seq, sp_asg, sp_if, sp_nx, sp_drop, SP_brS, rap_cons, rap_nil, rp_bi, rp_c, rp_op2, rp_op1, rp_not, rp_or, rp_and, rp_if, rp_call, rp_varM, List.getElem?_cons_zero, List.getElem?_cons_succ, rp_notD, RP_br, RP_ok]
  refine nr_rp hr ?_
  try simp only [rp_def, List.map_cons, List.map_nil, List.length_cons, List.length_nil, Nat.reduceAdd, Nat.reduceSub, List.replicate_zero, List.replicate_succ, List.append_nil, List.cons_append, List.nil_append, List.set_cons_zero, List.set_cons_succ, sp_ret, sp_seq, sp_asg, sp_if, sp_nx, sp_drop, SP_brS, rap_cons, rap_nil, rp_bi, rp_c, rp_op2, rp_op1, rp_not, rp_or, rp_and, rp_if, rp_call, rp_varM, List.getElem?_cons_zero, List.getElem?_cons_succ, rp_notD, RP_br, RP_ok]
  refine nw_rp hA ?_
  try simp only [rp_def, List.map_cons, List.map_nil, List.length_cons, List.length_nil, Nat.reduceAdd, Nat.reduceSub, List.replicate_zero, List.replicate_succ, List.append_nil, List.cons_append, List.nil_append, List.set_cons_zero, List.set_cons_succ, sp_ret, sp_seq, sp_asg, sp_if, sp_nx, sp_drop, SP_brS, rap_cons, rap_nil, rp_bi, rp_c, rp_op2, rp_op1, rp_not, rp_or, rp_and, rp_if, rp_call, rp_varM, List.getElem?_cons_zero, List.getElem?_cons_succ, rp_notD, RP_br, RP_ok]
  exact nn_x h (AskX.BadName k)
theorem a_tk (hr : RuleAt cs n l w) (h : RP (m_need_unlike [t, .int 100] cs) (fun _ _ => False) (AskX P)) : RP (m__law_asked [.int 2, .loc n, t, d] cs) P X := by
  refine asked2 ?_
  unfold m_first_free mb_first_free
  try simp only [rp_def, List.map_cons, List.map_nil, List.length_cons, List.length_nil, Nat.reduceAdd, Nat.reduceSub, List.replicate_zero, List.replicate_succ, List.append_nil, List.cons_append, List.nil_append, List.set_cons_zero, List.set_cons_succ, sp_ret, sp_seq, sp_asg, sp_if, sp_nx, sp_drop, SP_brS, rap_cons, rap_nil, rp_bi, rp_c, rp_op2, rp_op1, rp_not, rp_or, rp_and, rp_if, rp_call, rp_varM, List.getElem?_cons_zero, List.getElem?_cons_succ, rp_notD, RP_br, RP_ok]
  refine nr_rp hr ?_
  try simp only [rp_def, List.map_cons, List.map_nil, List.length_cons, List.length_nil, Nat.reduceAdd, Nat.reduceSub, List.replicate_zero, List.replicate_succ, List.append_nil, List.cons_append, List.nil_append, List.set_cons_zero, List.set_cons_succ, sp_ret, sp_seq, sp_asg, sp_if, sp_nx, sp_drop, SP_brS, rap_cons, rap_nil, rp_bi, rp_c, rp_op2, rp_op1, rp_not, rp_or, rp_and, rp_if, rp_call, rp_varM, List.getElem?_cons_zero, List.getElem?_cons_succ, rp_notD, RP_br, RP_ok]
  exact tk_rp (RP.monoX h (fun _ _ f => f.elim) fun _ _ _ p => p)
/-! ### `_law_refused` -/
theorem ref_rp {j : Nat} {word : List Nat} (ov : ∀ news, Od (cs ++ news) j v) (hj : j ≤ 11) (h : ∀ P' : D → Cells → Prop, (∀ news, P' (.lst [.str word, v]) (cs ++ news)) → RP (m__law_asked [.int way, a, b, c3] cs) P' X) (k : ∀ news c', Upd (cs ++ news) c' j → P (.bl true) c') :
    RP (m__law_refused [.int way, .lst [a, b, c3], .str word, v] cs) P X := by
  have i0 : ∀ (c : Cells) (P : D → Cells → Prop) (X : KX), RP (ixD c (.lst [a, b, c3]) (.int 0)) P X = P a c := fun c P X => rp_ixL rfl
  have i1 : ∀ (c : Cells) (P : D → Cells → Prop) (X : KX), RP (ixD c (.lst [a, b, c3]) (.int 1)) P X = P b c := fun c P X => rp_ixL rfl
  have i2 : ∀ (c : Cells) (P : D → Cells → Prop) (X : KX), RP (ixD c (.lst [a, b, c3]) (.int 2)) P X = P c3 c := fun c P X => rp_ixL rfl
  have j0 : ∀ (c : Cells) (P : D → Cells → Prop) (X : KX), RP (ixD c (.lst [.str word, v]) (.int 0)) P X = P (.str word) c := fun c P X => rp_ixL rfl
  have j1 : ∀ (c : Cells) (P : D → Cells → Prop) (X : KX), RP (ixD c (.lst [.str word, v]) (.int 1)) P X = P v c := fun c P X => rp_ixL rfl
  unfold m__law_refused mb__law_refused
  simp only [rp_def, List.map_cons, List.map_nil, List.length_cons, List.length_nil, Nat.reduceAdd, Nat.reduceSub, List.replicate_zero, List.replicate_succ, List.append_nil, List.cons_append, List.nil_append, List.set_cons_zero, List.set_cons_succ, sp_ret, sp_seq, sp_asg, sp_if, sp_nx, sp_drop, SP_brS, rap_cons, rap_nil, rp_bi, rp_c, rp_op2, rp_op1, rp_not, rp_or, rp_and, rp_if, rp_call, rp_varM, List.getElem?_cons_zero, List.getElem?_cons_succ, rp_notD, RP_br, RP_ok, i0, i1, i2]
  refine h _ fun news => ?_
  simp only [rp_def, List.map_cons, List.map_nil, List.length_cons, List.length_nil, Nat.reduceAdd, Nat.reduceSub, List.replicate_zero, List.replicate_succ, List.append_nil, List.cons_append, List.nil_append, List.set_cons_zero, List.set_cons_succ, sp_ret, sp_seq, sp_asg, sp_if, sp_nx, sp_drop, SP_brS, rap_cons, rap_nil, rp_bi, rp_c, rp_op2, rp_op1, rp_not, rp_or, rp_and, rp_if, rp_call, rp_varM, List.getElem?_cons_zero, List.getElem?_cons_succ, rp_notD, RP_br, RP_ok, j0, rp_eqS, decide_true, cond_true, j1, RP_bind]
  exact very_rp (ov news) hj fun c' u => k news c' u
end
/-! ### the state -/
structure St (c : Cells) (n rn j B : Nat) (mk w : List Nat) (odd oth : D) : Prop where
  hb : Bx c n B
  hr : RuleAt c rn mk w
  o1 : Od c j odd
  o2 : Od c j oth
theorem RuleAt.upd {cs c' : Cells} {n j : Nat} {l w : List Nat} (h : RuleAt cs n l w) (u : Upd cs c' j) : RuleAt c' n l w := by
  rcases u.2 n with e | ⟨c, _, h3, q, _⟩
  · exact e.trans h
  · rw [show cs[n]? = _ from h] at h3
    cases h3
    rcases q with ⟨_, _, _, _, e⟩ | ⟨_, _, e⟩ <;> cases e
section
variable {c c' : Cells} {n rn j B : Nat} {mk w : List Nat} {odd oth : D}
theorem St.app (s : St c n rn j B mk w odd oth) {news : Cells} : St (c ++ news) n rn j B mk w odd oth := ⟨s.hb.app, s.hr.app, s.o1.app, s.o2.app⟩
theorem St.up (s : St c n rn j B mk w odd oth) (u : Upd c c' j) : St c' n rn (j + 1) B mk w odd oth := ⟨s.hb.up u, s.hr.upd u, s.o1.up u, s.o2.up u⟩
theorem St.tk (s : St c n rn j B mk w odd oth) (k : ∀ m, m ≠ n → c'[m]? = c[m]?) (hb : Bx c' n (B + 1)) : St c' n rn j (B + 1) mk w odd oth := ⟨hb, s.hr.tk s.hb k, s.o1.tk s.hb k, s.o2.tk s.hb k⟩
theorem St.le (s : St c n rn j B mk w odd oth) {B' j' : Nat} (h : B ≤ B') (hj : j ≤ j') : St c n rn j' B' mk w odd oth := ⟨s.hb.le h, s.hr, s.o1.mono hj, s.o2.mono hj⟩
theorem St.tk' (s : St c n rn j B mk w odd oth) (k : ∀ m, m ≠ n → c'[m]? = c[m]?) {B' : Nat} (hb : Bx c' n B') : St c' n rn j B' mk w odd oth := ⟨hb, s.hr.tk s.hb k, s.o1.tk s.hb k, s.o2.tk s.hb k⟩
end
/-! ### names, wishes -/
def nmO (most : Nat) (d : D) : Bool := nmD most d
theorem Od.lnm {cs : Cells} {j most : Nat} {d : D} (o : Od cs j d) {P : D → Cells → Prop} {X : KX} (k : P (.bl (nmD most d)) cs) : RP (m__law_is_name [d, .int (most : Nat)] cs) P X := by
  rcases o.ns with ⟨l, h, rfl⟩ | ⟨⟨u, h, q⟩, _, _⟩
  · exact lnm_str (by have := h.1; rw [sizeLine_eq]; omega) (fun c hc => Nat.lt_of_lt_of_le (h.2 c hc) (by decide)) k
  · have e : nmD most d = false := by
      cases d <;> first | rfl | (simp only [tyC, tyD, Option.some.injEq] at h; subst h; simp at q)
    rw [e] at k; exact lnm_non h q k
theorem Od.isnD {cs : Cells} {j : Nat} {d : D} (o : Od cs j d) : IsN cs d (nmD 200 d) := by
  have := o.isn
  have e : isNd d = nmD 200 d := by cases d <;> rfl
  rw [← e]; exact this
theorem Od.isw {cs : Cells} {j n : Nat} {d : D} {mk pre near post w : List Nat} {s1 s2 : Nat} (o : Od cs j d) (hr : RuleAt cs n mk w) (m : Mk mk pre near post s1 s2) (hf : allF near = false) (h : nmD 150 d = false) : IsW cs n d false := by
  intro P X k
  rcases o.ns with ⟨l, hl, rfl⟩ | ⟨⟨u, hu, q⟩, _, e⟩
  · refine isw_rp hr m hf (by have := hl.1; omega) ?_
    have : wishB w (rdX pre near post s1 l) l = false := by
      unfold wishB
      simp only [nmD, nmM] at h
      cases hn : nm l with
      | false => rfl
      | true =>
        unfold nm at hn
        rw [Bool.and_eq_true, decide_eq_true_eq] at hn
        rw [hn.2, Bool.and_true] at h
        have h' := of_decide_eq_false h
        have : ¬ l.length ≤ 150 := fun h3 => h' ⟨hn.1.1, h3⟩
        rw [decide_eq_false this]; rfl
    rw [this]; exact k
  · exact isw_no hr (fun P X k => by have := o.isn P X; rw [e] at this; exact this k) k
/-! a wish without figures is not read -/
theorem nuL_nd {y : List Nat} (h : ∀ c ∈ y, ¬ (48 ≤ c ∧ c ≤ 57)) : nuL y = .non := by
  unfold nuL
  rw [if_neg]
  rintro ⟨h1, _, h3, _⟩
  cases y with
  | nil => simp at h1
  | cons a r => exact h a (by simp) (h3 a (by simp))
theorem cutL_mem {x : List Nat} {a b : Option Int} {c : Nat} (h : c ∈ cutL x a b) : c ∈ x := by
  unfold cutL at h
  exact List.mem_of_mem_drop (List.mem_of_mem_take h)
theorem biL_nd {x y : List Nat} (h : ∀ c ∈ y, ¬ (48 ≤ c ∧ c ≤ 57)) : biL x y = .non := by unfold biL; rw [nuL_nd h]
theorem rdX_nd {pre near post : List Nat} {s1 : Nat} {n : List Nat} (h : ∀ c ∈ n, ¬ (48 ≤ c ∧ c ≤ 57)) : rdX pre near post s1 n = .non := by
  have hc : ∀ a b, ∀ c ∈ cutL n a b, ¬ (48 ≤ c ∧ c ≤ 57) := fun a b c hc => h c (cutL_mem hc)
  unfold rdX nbL naL
  simp only
  repeat' split
  all_goals first | rfl | exact biL_nd fun c hm => hc _ _ c (cutL_mem hm)
theorem rd_a {pre near post : List Nat} {s1 : Nat} : rdX pre near post s1 [97] = .non := rdX_nd (by intro c hc; simp at hc; subst hc; decide)
theorem wish_a (w : List Nat) : wishB w .non [97] = true := by
  unfold wishB
  have : nm [97] = true := by decide
  rw [this]; simp
theorem isw_a {cs : Cells} {n : Nat} {mk pre near post w : List Nat} {s1 s2 : Nat} (hr : RuleAt cs n mk w) (m : Mk mk pre near post s1 s2) (hf : allF near = false) : IsW cs n (.str [97]) true := fun P X k => isw_rp hr m hf (by decide) (by rw [rd_a, wish_a]; exact k)

end T_k15

namespace T_k15
open PySem L2 L3
/-! ### `_law_spoilt` -/
def SpO (odd : D) (L : List D) (word : List Nat) (v : D) : Prop := ∃ (N : List (List Nat)) (rest : List D), (∀ z ∈ N, nm z = true ∧ z.length ≤ 1000) ∧ N.Nodup ∧ N.length ≤ 50 ∧ rest.length ≤ 40 ∧
  ((L = N.map D.str ++ odd :: rest ∧ word = w_BadName ∧ v = odd ∧ nmD 200 odd = false) ∨ ∃ z, L = N.map D.str ++ .str z :: rest ∧ word = w_Doubled ∧ v = .str z ∧ nm z = true ∧ z.length ≤ 1000 ∧ z ∈ N)
def NmL (N : List (List Nat)) : Prop := ∀ (i : Nat) (z : List Nat), N[i]? = some z → z.length = 2 + i ∧ nm z = true
theorem NmL.nd {N : List (List Nat)} (h : NmL N) : N.Nodup := by
  rw [List.Nodup, List.pairwise_iff_getElem]
  intro i j hi hj hij e
  have h1 := (h i _ (List.getElem?_eq_getElem hi)).1
  have h2 := (h j _ (List.getElem?_eq_getElem hj)).1
  rw [e] at h1
  omega
theorem NmL.mem {N : List (List Nat)} (h : NmL N) (hl : N.length ≤ 21) : ∀ z ∈ N, nm z = true ∧ z.length ≤ 1000 := by
  intro z hz
  obtain ⟨i, hi⟩ := List.getElem?_of_mem hz
  have := h i z hi
  have := (List.getElem?_eq_some_iff.mp hi).1
  exact ⟨(h i z hi).2, by omega⟩
theorem nm_k {s : List Nat} (h : ∀ c ∈ s, c ∈ SG) (hl : s.length = 2) {a : Nat} (ha : a ≤ 21) : nm (s ++ List.replicate a 107) = true := by
  unfold nm
  rw [Bool.and_eq_true, decide_eq_true_eq, List.all_eq_true]
  refine ⟨by simp; omega, fun c hc => ?_⟩
  rcases List.mem_append.mp hc with hc | hc
  · exact decide_eq_true (h c hc)
  · rw [List.eq_of_mem_replicate hc]; decide
theorem atI_nat {α : Type} {l : List α} {i : Nat} (h : i < l.length) : atI l (i : Int) = l[i]? := by
  unfold atI ixN
  rw [if_pos (by omega), if_pos (by omega), Int.toNat_natCast]; rfl
section
variable {n B : Nat} {c0 cs : Cells} {P : D → Cells → Prop} {X : KX} {odd : D}
theorem spoilt_bk (hb : Bk c0 cs n B) (hB : B < 700000) {j : Nat} (o : ∀ c, Bk c0 c n 800000 → Od c j odd) (k : ∀ L word v c', SpO odd L word v → Bk c0 c' n (B + 200) → P (.lst [.lst L, .str word, v]) c') : RP (m__law_spoilt [.loc n, odd] cs) P X := by
  unfold m__law_spoilt mb__law_spoilt
  try simp only [rp_def, List.map_cons, List.map_nil, List.length_cons, List.length_nil, Nat.reduceAdd, Nat.reduceSub, List.replicate_zero, List.replicate_succ, List.append_nil, List.cons_append, List.nil_append, List.set_cons_zero, List.set_cons_succ, sp_ret, sp_seq, sp_asg, sp_if, sp_nx, sp_drop, SP_brS, rap_cons, rap_nil, rp_bi, rp_c, rp_op2, rp_op1, rp_not, rp_or, rp_and, rp_if, rp_call, rp_varM, List.getElem?_cons_zero, List.getElem?_cons_succ, rp_notD, RP_br, RP_ok]
  simp only [rp_lc, wp_r1, rp_op2, rp_c, rp_call, rap_cons, rap_nil, rp_varM, List.getElem?_cons_zero, List.getElem?_cons_succ]
  refine take_bk hb (by omega) (by decide) (by decide) fun r c1 q1 q1' hb _ _ => ?_
  rw [rp_addI]
  refine ⟨by unfold lim; omega, ?_⟩
  generalize hm : ((2 : Int) + r).toNat = m
  have hm2 : 2 ≤ m ∧ m ≤ 21 := by omega
  have hlc := lc_inv (X := X) (chk := fun _ => True) (tg := tgN 3) (t := eC (.bl true)) (e := op2 (addD false) (eCall m__law_signs (aCons (eVar 0) (aCons (eC (.int 2)) aNil))) (op2 (mulD false) (eC (.str [107])) (eVar 3)))
    (items := rangeD 0 m) (env := wipeE [some (.loc n), some odd, none, none, none] [3]) (cs := c1)
    (fun i ds c => Bk c0 c n (B + 1 + 2 * i) ∧ ∃ N : List (List Nat), ds = N.map D.str ∧ N.length = i ∧ NmL N) [] ⟨hb, [], rfl, rfl, fun i z h => by simp at h⟩ (fun _ _ _ => trivial) (fun i d ds c hi ⟨hb, N, e1, e2, e3⟩ => by
    obtain ⟨hi, rfl⟩ := range_get hi
    refine ⟨trivial, _, rfl, ?_⟩
    rw [rp_c]
    refine ⟨true, rfl, ?_⟩
    rw [if_pos rfl]
    simp only [rp_op2, rp_c, rp_call, rap_cons, rap_nil, rp_varM, wipeE, List.set_cons_zero, List.set_cons_succ, List.getElem?_cons_zero, List.getElem?_cons_succ]
    refine signs_bk hb (by decide) (by decide) (by omega) fun s c' hs hsg hb' => ?_
    rw [rp_mulS ⟨by omega, by omega, by decide⟩, rp_addS (by rw [sizeLine_eq, hs]; simp; omega)]
    have hs2 : s.length = 2 := hs
    have ek : (List.replicate (0 + (i : Int)).toNat [107]).flatten = List.replicate i 107 := by
      have : (0 + (i : Int)).toNat = i := by omega
      rw [this]; simp
    rw [ek]
    refine ⟨⟨hb'.1.le (by have : Int.toNat 2 = 2 := rfl; omega), hb'.2⟩, N ++ [s ++ List.replicate i 107], by rw [e1, List.map_append]; rfl, by simp [e2], fun q z hz => ?_⟩
    by_cases hq : q < N.length
    · rw [List.getElem?_append_left hq] at hz
      exact e3 q z hz
    · rw [List.getElem?_append_right (by omega)] at hz
      have : q - N.length = 0 := by
        have := (List.getElem?_eq_some_iff.mp hz).1
        simp at this; omega
      rw [this] at hz
      simp at hz
      subst hz
      exact ⟨by simp [hs2]; omega, nm_k hsg hs2 (by omega)⟩)
  refine RAP.mono hlc fun ds c6 ⟨hb, N, e1, e2, hN⟩ => ?_
  rw [List.nil_append] at e1
  subst e1
  rw [rangeD_length] at hb e2
  have hNl : N.length ≤ 21 := by omega
  rw [rp_mkLf (by rw [sizeLine_eq, List.length_map]; omega)]
  simp only [rp_def, List.map_cons, List.map_nil, List.length_cons, List.length_nil, Nat.reduceAdd, Nat.reduceSub, List.replicate_zero, List.replicate_succ, List.append_nil, List.cons_append, List.nil_append, List.set_cons_zero, List.set_cons_succ, sp_ret, sp_seq, sp_asg, sp_if, sp_nx, sp_drop, SP_brS, rap_cons, rap_nil, rp_bi, rp_c, rp_op2, rp_op1, rp_not, rp_or, rp_and, rp_if, rp_call, rp_varM, List.getElem?_cons_zero, List.getElem?_cons_succ, rp_notD, RP_br, RP_ok, sp_par, rp_lenLst, List.length_map]
  have hb := hb.le (B' := B + 60) (by omega)
  refine take_bk hb (by omega) (by omega) (by unfold big; omega) fun first c7 f1 f2 hb _ _ => ?_
  refine take_bk hb (by omega) (by omega) (by unfold big; omega) fun at' c8 a1 a2 hb _ _ => ?_
  obtain ⟨f, rfl⟩ : ∃ f : Nat, first = f := ⟨first.toNat, by omega⟩
  obtain ⟨a, rfl⟩ : ∃ a : Nat, at' = a := ⟨at'.toNat, by omega⟩
  have hf : f < N.length := by omega
  have ha : a < N.length := by omega
  simp only [tgTs, List.set_cons_zero, List.set_cons_succ]
  have hcut : ∀ i : Nat, cutL (N.map D.str) none (some (i : Int)) = (N.take i).map D.str := fun i => by rw [cut_to (by omega), ← List.map_take]; simp
  have hcut2 : ∀ i : Nat, cutL (N.map D.str) (some (i : Int)) none = (N.drop i).map D.str := fun i => by rw [cut_from (by omega), ← List.map_drop]; simp
  simp only [List.getElem?_cons_zero, List.getElem?_cons_succ]
  suffices rest : ∀ c : Cells, Bk c0 c n (B + 70) → _ by
    refine (o _ (hb.le (by omega))).lnm (most := 200) ?_
    rw [rp_notD]
    cases hn : nmD 200 odd with
    | false =>
      simp only [Bool.not_false, RP_br, cond_true, rp_op2, rp_call, rap_cons, rap_nil, rp_c, rp_varM, List.getElem?_cons_zero, List.getElem?_cons_succ, RP_bind]
      refine take_bk hb (by omega) (by decide) (by decide) fun r2 c9 g1 g2 hb _ _ => ?_
      rw [rp_eqI]
      by_cases h0 : r2 = 0
      · simp only [h0, decide_true, SP_brS, if_true]
        simp only [rp_def, List.map_cons, List.map_nil, List.length_cons, List.length_nil, Nat.reduceAdd, Nat.reduceSub, List.replicate_zero, List.replicate_succ, List.append_nil, List.cons_append, List.nil_append, List.set_cons_zero, List.set_cons_succ, sp_ret, sp_seq, sp_asg, sp_if, sp_nx, sp_drop, SP_brS, rap_cons, rap_nil, rp_bi, rp_c, rp_op2, rp_op1, rp_not, rp_or, rp_and, rp_if, rp_call, rp_varM, List.getElem?_cons_zero, List.getElem?_cons_succ, rp_notD, RP_br, RP_ok, rp_sl, ro_none, ro_varM, rp_slL, hcut, hcut2, rp_list]
        rw [rp_mkLf (by rw [sizeLine_eq, List.length_map, List.length_take]; omega), rp_mkLf (by rw [sizeLine_eq]; simp), rp_addL, rp_mkLf (by rw [sizeLine_eq]; simp; omega), rp_mkLf (by rw [sizeLine_eq, List.length_map, List.length_drop]; omega), rp_addL, rp_mkLf (by rw [sizeLine_eq]; simp; omega)]
        try simp only [rp_def, List.map_cons, List.map_nil, List.length_cons, List.length_nil, Nat.reduceAdd, Nat.reduceSub, List.replicate_zero, List.replicate_succ, List.append_nil, List.cons_append, List.nil_append, List.set_cons_zero, List.set_cons_succ, sp_ret, sp_seq, sp_asg, sp_if, sp_nx, sp_drop, SP_brS, rap_cons, rap_nil, rp_bi, rp_c, rp_op2, rp_op1, rp_not, rp_or, rp_and, rp_if, rp_call, rp_varM, List.getElem?_cons_zero, List.getElem?_cons_succ, rp_notD, RP_br, RP_ok, rp_list]
        refine rp_ixAll (by decide) (by simp; omega) fun x hx => ?_
        rw [rp_mkLf (by rw [sizeLine_eq]; simp), rp_addL, rp_mkLf (by rw [sizeLine_eq]; simp; omega)]
        try simp only [rp_def, List.map_cons, List.map_nil, List.length_cons, List.length_nil, Nat.reduceAdd, Nat.reduceSub, List.replicate_zero, List.replicate_succ, List.append_nil, List.cons_append, List.nil_append, List.set_cons_zero, List.set_cons_succ, sp_ret, sp_seq, sp_asg, sp_if, sp_nx, sp_drop, SP_brS, rap_cons, rap_nil, rp_bi, rp_c, rp_op2, rp_op1, rp_not, rp_or, rp_and, rp_if, rp_call, rp_varM, List.getElem?_cons_zero, List.getElem?_cons_succ, rp_notD, RP_br, RP_ok, rp_list]
        rw [rp_mkLf (by rw [sizeLine_eq]; simp)]
        have hsub := hN.mem hNl
        refine k _ w_BadName odd _ ⟨N.take a, (N.drop a).map D.str ++ [x], fun z hz => hsub z (List.mem_of_mem_take hz), hN.nd.sublist (List.take_sublist _ _), by rw [List.length_take]; omega, by simp; omega, .inl ⟨by simp, rfl, rfl, hn⟩⟩ (hb.le (by omega))
      · simp only [h0, decide_false, SP_brS, Bool.false_eq_true, if_false, sp_nx]
        exact rest c9 (hb.le (by omega))
    | true =>
      simp only [Bool.not_true, RP_br, cond_false, RP_ok, SP_brS, Bool.false_eq_true, if_false, sp_nx]
      exact rest c8 (hb.le (by omega))
  intro c hb
  obtain ⟨mx, hmx⟩ : ∃ mx : Nat, (if (a : Int) > f then (a : Int) else f) = mx := ⟨max a f, by split <;> omega⟩
  obtain ⟨mn, hmn⟩ : ∃ mn : Nat, (if (a : Int) < f then (a : Int) else f) = mn := ⟨min a f, by split <;> omega⟩
  have hmn2 : mn ≤ mx ∧ mx < N.length := by
    split at hmx <;> split at hmn <;> omega
  have roM : ∀ (e : L3.Env) (c : Cells), e[3]? = some (some (.int a)) → e[4]? = some (some (.int f)) → oSome (eBi maxB (aCons (eVar 4) (aCons (eVar 3) aNil))) e c = some (some (mx : Int), c) := by
    intro e c h3 h4
    refine ro_some (RP.eq ?_)
    simp only [rp_bi, rap_cons, rap_nil, rp_varM, h3, h4, rp_max, hmx]
    first | exact ⟨rfl, rfl⟩ | exact ⟨rfl, trivial⟩ | exact ⟨trivial, rfl⟩ | exact ⟨trivial, trivial⟩ | trivial
  have roE : ∀ c : Cells, oSome (eBi maxB (aCons (eVar 4) (aCons (eVar 3) aNil))) [some (D.loc n), some odd, some (D.lst (List.map D.str N)), some (D.int (a : Nat)), some (D.int (f : Nat))] c = some (some (mx : Int), c) := fun c => roM _ c rfl rfl
  have hz := List.getElem?_eq_getElem (l := N) (i := mn) (by omega)
  generalize hzz : N[mn] = z at hz
  have ixz : ∀ (c : Cells) (P : D → Cells → Prop) (X : KX), RP (ixD c (.lst (N.map D.str)) (.int (mn : Nat))) P X = P (.str z) c := fun c P X => rp_ixL (by
    rw [atI_nat (by rw [List.length_map]; omega), List.getElem?_map, hz]; rfl)
  show RP _ _ _
  rw [rp_sl]
  simp only [ro_none, roE, rp_varM, rp_slL, hcut, List.getElem?_cons_zero, List.getElem?_cons_succ]
  rw [rp_mkLf (by rw [sizeLine_eq, List.length_map, List.length_take]; omega)]
  simp only [rp_list, rap_cons, rap_nil, rp_op2, rp_varM, List.getElem?_cons_zero, List.getElem?_cons_succ, rp_bi, rp_min, hmn, ixz]
  rw [rp_mkLf (by rw [sizeLine_eq]; simp), rp_addL, rp_mkLf (by rw [sizeLine_eq]; simp; omega), rp_sl]
  simp only [ro_none, roE, rp_varM, rp_slL, hcut2, List.getElem?_cons_zero, List.getElem?_cons_succ]
  rw [rp_mkLf (by rw [sizeLine_eq, List.length_map, List.length_drop]; omega), rp_addL, rp_mkLf (by rw [sizeLine_eq]; simp; omega)]
  simp only [List.set_cons_zero, List.set_cons_succ, rp_list, rap_cons, rap_nil, rp_op2, rp_c, rp_varM, List.getElem?_cons_zero, List.getElem?_cons_succ, rp_bi, rp_min, hmn]
  rw [rp_mkLf (by rw [sizeLine_eq]; simp), rp_addL, rp_mkLf (by rw [sizeLine_eq]; simp; omega)]
  have hsub := hN.mem hNl
  have hzN : z ∈ N := List.mem_of_getElem? hz
  -- the item at the lesser place
  have hget : ((N.take mx).map D.str ++ [D.str z] ++ (N.drop mx).map D.str)[mn]? = some (.str z) := by
    by_cases h : mn < mx
    · rw [List.append_assoc, List.getElem?_append_left (by simp; omega), List.getElem?_map, List.getElem?_take, if_pos h, hz]; rfl
    · have : mn = mx := by omega
      subst this
      rw [List.append_assoc, List.getElem?_append_right (by rw [List.length_map, List.length_take]; omega)]
      have : mn - ((N.take mn).map D.str).length = 0 := by rw [List.length_map, List.length_take]; omega
      rw [this]; rfl
  rw [rp_ixL (d := .str z) (by rw [atI_nat (by simp; omega)]; exact hget), rp_mkLf (by rw [sizeLine_eq]; simp)]
  by_cases h : mn < mx
  · refine k _ w_Doubled (.str z) _ ⟨N.take mx, (N.drop mx).map D.str ++ [.str []], fun z hz => hsub z (List.mem_of_mem_take hz), hN.nd.sublist (List.take_sublist _ _), by rw [List.length_take]; omega, by simp; omega, .inr ⟨z, by simp, rfl, rfl, (hsub z hzN).1, (hsub z hzN).2, ?_⟩⟩ (hb.le (by omega))
    refine List.mem_of_getElem? (i := mn) ?_
    rw [List.getElem?_take, if_pos h, hz]
  · have hmm : mn = mx := by omega
    subst hmm
    have hd : N.drop mn = z :: N.drop (mn + 1) := by rw [← hzz]; exact List.drop_eq_getElem_cons (by omega)
    have ht : N.take mn ++ [z] = N.take (mn + 1) := by rw [← hzz, List.take_succ, List.getElem?_eq_getElem (by omega)]; rfl
    refine k _ w_Doubled (.str z) _ ⟨N.take (mn + 1), (N.drop (mn + 1)).map D.str ++ [.str []], fun z hz => hsub z (List.mem_of_mem_take hz), hN.nd.sublist (List.take_sublist _ _), by rw [List.length_take]; omega, by simp; omega, .inr ⟨z, ?_, rfl, rfl, (hsub z hzN).1, (hsub z hzN).2, ?_⟩⟩ (hb.le (by omega))
    · rw [← ht, hd]; simp
    · rw [← ht]; simp
end

end T_k15

namespace T_k15
open PySem L2 L3
/-! ### the great list of names, in a cell -/
def nmb : List (List Nat) := (List.range 101).map fun p => [97] ++ List.replicate p 98
theorem nmb_len : nmb.length = 101 := by unfold nmb; rw [List.length_map, List.length_range]
theorem nmb_get {i : Nat} (h : i < 101) : nmb[i]? = some ([97] ++ List.replicate i 98) := by
  unfold nmb
  rw [List.getElem?_map, List.getElem?_range h]; rfl
theorem nmb_rep : repOkD (.lst (nmb.map D.str ++ [moreD])) = true := repQ_ok (by decide +kernel)
theorem nmb_nm : ∀ z ∈ nmb.take 100, nm z = true ∧ z.length ≤ 1000 := by decide +kernel
theorem nmb_nd : (nmb.take 100).Nodup := by
  have h : nmb.Nodup := by
    unfold nmb
    refine List.Pairwise.map _ ?_ List.nodup_range
    intro a b hab e
    have := congrArg List.length e
    simp at this
    exact hab this
  exact h.sublist (List.take_sublist _ _)
theorem repOk_D {l : List D} (h : repOkD (.lst l) = true) : repOk (.lst l) = true := h
section
variable {c : Cells} {P : D → Cells → Prop} {X : KX} {tn n rn j B : Nat} {mk w : List Nat} {odd oth : D}
def Big (c : Cells) (tn : Nat) : Prop := c[tn]? = some (.lst (nmb.map D.str))
def aft (c : Cells) (tn : Nat) : Cells := c.set tn (.lst (nmb.map D.str ++ [moreD]))
theorem very_big (h : Big c tn) (k : P (.bl true) (aft c tn)) : RP (m__law_very [.loc tn, .loc tn] c) P X := by
  have hn : tn < c.length := (List.getElem?_eq_some_iff.mp h).1
  have ht : tyC c (.loc tn) = some "list" := by simp only [tyC, show c[tn]? = _ from h]
  have hl : isLc c (.loc tn) = true := by simp only [isLc, show c[tn]? = _ from h]
  have hp : pushL c (.loc tn) (.str [109, 111, 114, 101]) = some (aft c tn) := push_at h (by rw [sizeLine_eq, List.length_map, nmb_len]; decide)
  have e2 : (aft c tn)[tn]? = some (.lst (nmb.map D.str ++ [moreD])) := List.getElem?_set_self hn
  have ht2 : tyC (aft c tn) (.loc tn) = some "list" := by simp only [tyC, e2]
  have d1 : decide (("list" : String) = "list") = true := by decide
  have d2 : decide (("list" : String) = "dict") = false := by decide
  obtain ⟨z, ez⟩ := rep_loc e2 (repOk_D nmb_rep)
  unfold m__law_very mb__law_very
  simp only [rp_def, List.map_cons, List.map_nil, List.length_cons, List.length_nil, Nat.reduceAdd, Nat.reduceSub, List.replicate_zero, List.replicate_succ, List.append_nil, List.cons_append, List.nil_append, List.set_cons_zero, List.set_cons_succ, sp_ret, sp_seq, sp_asg, sp_if, sp_nx, sp_drop, SP_brS, rap_cons, rap_nil, rp_bi, rp_c, rp_op2, rp_op1, rp_not, rp_or, rp_and, rp_if, rp_call, rp_varM, List.getElem?_cons_zero, List.getElem?_cons_succ, rp_notD, RP_br, RP_ok, isi_list ht (by simp), d1, SP_brS, if_true, sp_drop, rp_push, hl, hp, isi_dict ht2 (by simp), d2, Bool.false_eq_true, if_false, sp_nx, rp_reprX ez, rp_eqS, decide_true]
  exact k
theorem OkC.few {j : Nat} {L : List D} (q : OkC j (.lst L)) : L.length ≤ j + 2 := by
  have hb : ∀ b ∈ lsB, b.length ≤ 2 := by decide +kernel
  rcases q with ⟨b, hb', i, hi, e⟩ | ⟨_, _, e⟩
  · cases e
    have := hb b hb'
    rw [List.length_append, List.length_replicate]; omega
  · cases e
theorem Od.set {d : D} (o : Od c j d) (h : Big c tn) (hj : j ≤ 50) : Od (aft c tn) j d := by
  cases o with
  | non => exact .non
  | bl b => exact .bl b
  | int i h => exact .int i h
  | str l h => exact .str l h
  | tup t h => exact .tup t h
  | loc m cl h1 q =>
    refine .loc m cl ?_ q
    have hm : tn ≠ m := by
      rintro rfl
      rw [show c[tn]? = _ from h] at h1
      cases h1
      have := q.few
      rw [List.length_map, nmb_len] at this
      omega
    unfold aft
    rw [List.getElem?_set_ne hm]; exact h1
theorem St.set (s : St c n rn j B mk w odd oth) (h : Big c tn) (hj : j ≤ 50) : St (aft c tn) n rn j B mk w odd oth := by
  refine ⟨?_, ?_, s.o1.set h hj, s.o2.set h hj⟩
  · obtain ⟨a, b, e, h1, h2⟩ := s.hb
    refine ⟨a, b, e, ?_, h2⟩
    have hm : tn ≠ n := by
      rintro rfl
      rw [show c[tn]? = _ from h] at h1
      have := congrArg (fun x : Option Cell => match x with | some (.lst l) => l.length | _ => 0) h1
      simp only [List.length_map, nmb_len] at this
      simp at this
    unfold aft
    rw [List.getElem?_set_ne hm]; exact h1
  · have hm : tn ≠ rn := by
      rintro rfl
      have h1 : c[tn]? = some (.ins "Rule" (RuF mk w)) := s.hr
      rw [show c[tn]? = _ from h] at h1
      cases h1
    show (aft c tn)[rn]? = _
    unfold aft
    rw [List.getElem?_set_ne hm]; exact s.hr
theorem Big.app {news : Cells} (h : Big c tn) : Big (c ++ news) tn := by
  unfold Big at *
  rw [List.getElem?_append_left (List.getElem?_eq_some_iff.mp h).1]; exact h
theorem Big.tk {c' : Cells} (h : Big c tn) (hb : Bx c n B) (k : ∀ m, m ≠ n → c'[m]? = c[m]?) : Big c' tn := by
  refine (k tn ?_).trans h
  rintro rfl
  obtain ⟨a, b, e, h1, _⟩ := hb
  rw [show c[tn]? = _ from h] at h1
  have := congrArg (fun x : Option Cell => match x with | some (.lst l) => l.length | _ => 0) h1
  simp only [List.length_map, nmb_len] at this
  simp at this
theorem ty_dct {c' : Cells} {m : Nat} (h : tyC c (.loc m) = some "dict") (hb : Bx c n B) (k : ∀ m, m ≠ n → c'[m]? = c[m]?) : tyC c' (.loc m) = some "dict" := by
  have hm : m ≠ n := by
    rintro rfl
    obtain ⟨a, b, e, h1, _⟩ := hb
    simp only [tyC, h1] at h
    simp at h
  simp only [tyC] at h ⊢
  rw [k m hm]; exact h
/-- .. refused -/
theorem ref_big {a c3 : D} {way : Int} {word : List Nat} (hB : Big c tn) (h : ∀ P' : D → Cells → Prop, P' (.lst [.str word, .loc tn]) c → RP (m__law_asked [.int way, a, .loc tn, c3] c) P' X) (k : P (.bl true) (aft c tn)) :
    RP (m__law_refused [.int way, .lst [a, .loc tn, c3], .str word, .loc tn] c) P X := by
  have i0 : ∀ (c : Cells) (P : D → Cells → Prop) (X : KX), RP (ixD c (.lst [a, .loc tn, c3]) (.int 0)) P X = P a c := fun c P X => rp_ixL rfl
  have i1 : ∀ (c : Cells) (P : D → Cells → Prop) (X : KX), RP (ixD c (.lst [a, .loc tn, c3]) (.int 1)) P X = P (.loc tn) c := fun c P X => rp_ixL rfl
  have i2 : ∀ (c : Cells) (P : D → Cells → Prop) (X : KX), RP (ixD c (.lst [a, .loc tn, c3]) (.int 2)) P X = P c3 c := fun c P X => rp_ixL rfl
  have j0 : ∀ (c : Cells) (P : D → Cells → Prop) (X : KX), RP (ixD c (.lst [.str word, .loc tn]) (.int 0)) P X = P (.str word) c := fun c P X => rp_ixL rfl
  have j1 : ∀ (c : Cells) (P : D → Cells → Prop) (X : KX), RP (ixD c (.lst [.str word, .loc tn]) (.int 1)) P X = P (.loc tn) c := fun c P X => rp_ixL rfl
  unfold m__law_refused mb__law_refused
  simp only [rp_def, List.map_cons, List.map_nil, List.length_cons, List.length_nil, Nat.reduceAdd, Nat.reduceSub, List.replicate_zero, List.replicate_succ, List.append_nil, List.cons_append, List.nil_append, List.set_cons_zero, List.set_cons_succ, sp_ret, sp_seq, sp_asg, sp_if, sp_nx, sp_drop, SP_brS, rap_cons, rap_nil, rp_bi, rp_c, rp_op2, rp_op1, rp_not, rp_or, rp_and, rp_if, rp_call, rp_varM, List.getElem?_cons_zero, List.getElem?_cons_succ, rp_notD, RP_br, RP_ok, i0, i1, i2]
  refine h _ ?_
  simp only [rp_def, List.map_cons, List.map_nil, List.length_cons, List.length_nil, Nat.reduceAdd, Nat.reduceSub, List.replicate_zero, List.replicate_succ, List.append_nil, List.cons_append, List.nil_append, List.set_cons_zero, List.set_cons_succ, sp_ret, sp_seq, sp_asg, sp_if, sp_nx, sp_drop, SP_brS, rap_cons, rap_nil, rp_bi, rp_c, rp_op2, rp_op1, rp_not, rp_or, rp_and, rp_if, rp_call, rp_varM, List.getElem?_cons_zero, List.getElem?_cons_succ, rp_notD, RP_br, RP_ok, j0, rp_eqS, decide_true, cond_true, j1, RP_bind]
  exact very_big hB k
/-! numbers that are none -/
theorem Od.int0 {d : D} (o : Od c j d) (h : ig d 0 200 = false) : ∀ (P : D → Cells → Prop) (X : KX), P (.bl false) c → RP (m_is_integer [d, .int 0, .int 200] c) P X := by
  intro P X k
  rw [← h] at k
  cases o with
  | non => exact int_rp (u := "NoneType") rfl (by simp) (fun e => absurd e (by decide)) (fun _ i e => by cases e) k
  | bl b => exact int_rp (u := "bool") rfl (by simp) (fun e => absurd e (by decide)) (fun _ i e => by cases e) k
  | int i h => exact int_rp (u := "int") rfl (by simp) (fun _ => ⟨i, rfl⟩) (fun e => absurd rfl e) k
  | str l h => exact int_rp (u := "str") rfl (by simp) (fun e => absurd e (by decide)) (fun _ i e => by cases e) k
  | tup t h => exact int_rp (u := "tuple") rfl (by simp) (fun e => absurd e (by decide)) (fun _ i e => by cases e) k
  | loc n c h1 q => rcases OkC.ty h1 q with e | e <;> exact int_rp e (by simp) (fun e => absurd e (by decide)) (fun _ i e => by cases e) k
theorem Od.tyz {d : D} (o : Od c j d) : ∃ u, tyC c d = some u ∧ u ∈ TZ := by
  cases o with
  | non => exact ⟨"NoneType", rfl, by simp⟩
  | bl b => exact ⟨"bool", rfl, by simp⟩
  | int i h => exact ⟨"int", rfl, by simp⟩
  | str l h => exact ⟨"str", rfl, by simp⟩
  | tup t h => exact ⟨"tuple", rfl, by simp⟩
  | loc n c h1 q => rcases OkC.ty h1 q with e | e <;> exact ⟨_, e, by simp⟩
theorem Od.ins {d : D} (o : Od c j d) : insAt c d = none := by
  cases o with
  | loc n c h1 q =>
    rcases q with ⟨b, hb, i, hi, rfl⟩ | ⟨b, hb, rfl⟩ <;> simp only [insAt, h1]
  | _ => rfl
end

/-! ### good values -/
section
variable {cs : Cells} {P : D → Cells → Prop} {X : KX} {l pre near post w z : List Nat} {s1 s2 n : Nat} {d : D}
theorem rp_inLst {z : List Nat} {H : List (List Nat)} : RP (inD cs (.str z) (.lst (H.map D.str))) P X = P (.bl (decide (z ∈ H))) cs := by
  have : inB cs (.str z) (.lst (H.map D.str)) = some (decide (z ∈ H)) := by
    unfold inB
    split
    · rename_i e; cases e
    · simp only [seqOf, L3.listOf, flat_strs, show flatD (.str z) = true from rfl, Bool.and_self, if_true, inF_strs]
  unfold inD; rw [this]; rfl
theorem fo_gen (hr : RuleAt cs n l w) (m : Mk l pre near post s1 s2) (h : allF near = false) (hw : w = wNest ∨ w = wClimb) (hz : z.length ≤ 500) (hk : wishB w (rdX pre near post s1 z) z = true) {hd : D} {a : Nat} {H : List (List Nat)} (hin : ∀ (z : List Nat) (P : D → Cells → Prop) (X : KX), RP (inD cs (.str z) hd) P X = P (.bl (decide (z ∈ H))) cs)
    (ha : a ≤ 1000000) (h1 : ∀ j, j < a → wayL pre near post s1 w z j ∈ H) (h2 : wayL pre near post s1 w z a ∉ H) (k : P (.str (wayL pre near post s1 w z a)) cs) : RP (m_free_on [.loc n, hd, .str z] cs) P X := by
  unfold m_free_on mb_free_on
  try simp only [rp_def, List.map_cons, List.map_nil, List.length_cons, List.length_nil, Nat.reduceAdd, Nat.reduceSub, List.replicate_zero, List.replicate_succ, List.append_nil, List.cons_append, List.nil_append, List.set_cons_zero, List.set_cons_succ, sp_ret, sp_seq, sp_asg, sp_if, sp_nx, sp_drop, SP_brS, rap_cons, rap_nil, rp_bi, rp_c, rp_op2, rp_op1, rp_not, rp_or, rp_and, rp_if, rp_call, rp_varM, List.getElem?_cons_zero, List.getElem?_cons_succ, rp_notD, RP_br, RP_ok]
  refine wh_inv a (fun i env c => env = [some (.loc n), some hd, some (.str z), some (.int (i : Nat))] ∧ c = cs) ⟨rfl, rfl⟩ ?_ ?_
  · rintro i env c hi ⟨rfl, rfl⟩
    simp only [rp_def, List.map_cons, List.map_nil, List.length_cons, List.length_nil, Nat.reduceAdd, Nat.reduceSub, List.replicate_zero, List.replicate_succ, List.append_nil, List.cons_append, List.nil_append, List.set_cons_zero, List.set_cons_succ, sp_ret, sp_seq, sp_asg, sp_if, sp_nx, sp_drop, SP_brS, rap_cons, rap_nil, rp_bi, rp_c, rp_op2, rp_op1, rp_not, rp_or, rp_and, rp_if, rp_call, rp_varM, List.getElem?_cons_zero, List.getElem?_cons_succ, rp_notD, RP_br, RP_ok]
    refine way_rp hr m h hw hz hk (by omega) ?_
    simp only [rp_def, List.map_cons, List.map_nil, List.length_cons, List.length_nil, Nat.reduceAdd, Nat.reduceSub, List.replicate_zero, List.replicate_succ, List.append_nil, List.cons_append, List.nil_append, List.set_cons_zero, List.set_cons_succ, sp_ret, sp_seq, sp_asg, sp_if, sp_nx, sp_drop, SP_brS, rap_cons, rap_nil, rp_bi, rp_c, rp_op2, rp_op1, rp_not, rp_or, rp_and, rp_if, rp_call, rp_varM, List.getElem?_cons_zero, List.getElem?_cons_succ, rp_notD, RP_br, RP_ok, hin, h1 i hi, decide_true, sp_augI]
    exact ⟨trivial, by simp, trivial⟩
  · rintro env c ⟨rfl, rfl⟩
    simp only [rp_def, List.map_cons, List.map_nil, List.length_cons, List.length_nil, Nat.reduceAdd, Nat.reduceSub, List.replicate_zero, List.replicate_succ, List.append_nil, List.cons_append, List.nil_append, List.set_cons_zero, List.set_cons_succ, sp_ret, sp_seq, sp_asg, sp_if, sp_nx, sp_drop, SP_brS, rap_cons, rap_nil, rp_bi, rp_c, rp_op2, rp_op1, rp_not, rp_or, rp_and, rp_if, rp_call, rp_varM, List.getElem?_cons_zero, List.getElem?_cons_succ, rp_notD, RP_br, RP_ok]
    refine way_rp hr m h hw hz hk (by omega) ?_
    simp only [rp_def, List.map_cons, List.map_nil, List.length_cons, List.length_nil, Nat.reduceAdd, Nat.reduceSub, List.replicate_zero, List.replicate_succ, List.append_nil, List.cons_append, List.nil_append, List.set_cons_zero, List.set_cons_succ, sp_ret, sp_seq, sp_asg, sp_if, sp_nx, sp_drop, SP_brS, rap_cons, rap_nil, rp_bi, rp_c, rp_op2, rp_op1, rp_not, rp_or, rp_and, rp_if, rp_call, rp_varM, List.getElem?_cons_zero, List.getElem?_cons_succ, rp_notD, RP_br, RP_ok, hin, h2, decide_false]
    refine ⟨trivial, ?_⟩
    exact way_rp hr m h hw hz hk (by omega) k
theorem nmb_ab : ∀ z ∈ nmb.take 100, 50 ∉ z := by decide +kernel
theorem wr2 (pre near post : List Nat) (s1 : Nat) : 50 ∈ wrL pre near post s1 [97] 2 := by
  have e : codes (toString (2 : Int)) = [50] := by decide +kernel
  unfold wrL
  rw [e]
  split <;> simp
theorem af_ok (hr : RuleAt cs n l w) (m : Mk l pre near post s1 s2) (h : allF near = false) (hw : w = wNest ∨ w = wClimb) (k : ∀ news, P (.lst [.str w_none, .non]) (cs ++ news)) : RP (m__law_asked [.int 2, .loc n, .lst ((nmb.take 100).map D.str), .str [97]] cs) P X := by
  refine asked2 ?_
  unfold m_first_free mb_first_free
  try simp only [rp_def, List.map_cons, List.map_nil, List.length_cons, List.length_nil, Nat.reduceAdd, Nat.reduceSub, List.replicate_zero, List.replicate_succ, List.append_nil, List.cons_append, List.nil_append, List.set_cons_zero, List.set_cons_succ, sp_ret, sp_seq, sp_asg, sp_if, sp_nx, sp_drop, SP_brS, rap_cons, rap_nil, rp_bi, rp_c, rp_op2, rp_op1, rp_not, rp_or, rp_and, rp_if, rp_call, rp_varM, List.getElem?_cons_zero, List.getElem?_cons_succ, rp_notD, RP_br, RP_ok]
  refine nr_rp hr ?_
  try simp only [rp_def, List.map_cons, List.map_nil, List.length_cons, List.length_nil, Nat.reduceAdd, Nat.reduceSub, List.replicate_zero, List.replicate_succ, List.append_nil, List.cons_append, List.nil_append, List.set_cons_zero, List.set_cons_succ, sp_ret, sp_seq, sp_asg, sp_if, sp_nx, sp_drop, SP_brS, rap_cons, rap_nil, rp_bi, rp_c, rp_op2, rp_op1, rp_not, rp_or, rp_and, rp_if, rp_call, rp_varM, List.getElem?_cons_zero, List.getElem?_cons_succ, rp_notD, RP_br, RP_ok]
  have hl : (nmb.take 100).length = 100 := by rw [List.length_take, nmb_len]; decide
  have hun := un_rp (cs := cs) (X := AskX P) (most := 100) (N := nmb.take 100) (rest := []) (P := fun _ c => RP (m_need_wish [.loc n, .str [97]] c) (fun _ c1 => RP (m_free_on [.loc n, .lst ((nmb.take 100).map D.str), .str [97]] c1) (fun _ c' => P (.lst [.str w_none, .non]) c') (AskX P)) (AskX P)) nmb_nm nmb_nd (by rw [List.append_nil, List.length_map, hl]; decide) (by omega) ?_
  · rw [List.append_nil] at hun
    exact tk_rp (RP.monoX hun (fun _ _ p => p) fun _ _ _ p => p)
  · refine nw_rp (isw_a hr.app m h) ?_
    have hwish : wishB w (rdX pre near post s1 [97]) [97] = true := by rw [rd_a]; exact wish_a w
    refine fo_gen hr.app m h hw (by decide) hwish (a := 1) (H := nmb.take 100) (fun z P X => rp_inLst) (by decide) (fun j hj => ?_) ?_ (k _)
    · have : j = 0 := by omega
      subst this
      show wayL pre near post s1 w [97] 0 ∈ _
      unfold wayL
      rw [if_pos rfl]
      decide +kernel
    · intro hm
      have := nmb_ab _ hm
      refine this ?_
      unfold wayL
      rw [if_neg (by decide)]
      rw [rd_a]
      have : (if w = wClimb then (D.non) else D.non) = D.non := by split <;> rfl
      rw [this]
      exact wr2 _ _ _ _
theorem an_ok (hr : RuleAt cs n l w) (m : Mk l pre near post s1 s2) (h : allF near = false) (hw : w = wNest ∨ w = wClimb) (k : P (.lst [.str w_none, .non]) cs) : RP (m__law_asked [.int 0, .loc n, .str [97], .int 200] cs) P X := by
  have hwish : wishB w (rdX pre near post s1 [97]) [97] = true := by rw [rd_a]; exact wish_a w
  refine asked0 ?_
  unfold m_first_names mb_first_names
  try simp only [rp_def, List.map_cons, List.map_nil, List.length_cons, List.length_nil, Nat.reduceAdd, Nat.reduceSub, List.replicate_zero, List.replicate_succ, List.append_nil, List.cons_append, List.nil_append, List.set_cons_zero, List.set_cons_succ, sp_ret, sp_seq, sp_asg, sp_if, sp_nx, sp_drop, SP_brS, rap_cons, rap_nil, rp_bi, rp_c, rp_op2, rp_op1, rp_not, rp_or, rp_and, rp_if, rp_call, rp_varM, List.getElem?_cons_zero, List.getElem?_cons_succ, rp_notD, RP_br, RP_ok]
  refine nr_rp hr ?_
  try simp only [rp_def, List.map_cons, List.map_nil, List.length_cons, List.length_nil, Nat.reduceAdd, Nat.reduceSub, List.replicate_zero, List.replicate_succ, List.append_nil, List.cons_append, List.nil_append, List.set_cons_zero, List.set_cons_succ, sp_ret, sp_seq, sp_asg, sp_if, sp_nx, sp_drop, SP_brS, rap_cons, rap_nil, rp_bi, rp_c, rp_op2, rp_op1, rp_not, rp_or, rp_and, rp_if, rp_call, rp_varM, List.getElem?_cons_zero, List.getElem?_cons_succ, rp_notD, RP_br, RP_ok]
  refine nw_rp (isw_a hr m h) ?_
  try simp only [rp_def, List.map_cons, List.map_nil, List.length_cons, List.length_nil, Nat.reduceAdd, Nat.reduceSub, List.replicate_zero, List.replicate_succ, List.append_nil, List.cons_append, List.nil_append, List.set_cons_zero, List.set_cons_succ, sp_ret, sp_seq, sp_asg, sp_if, sp_nx, sp_drop, SP_brS, rap_cons, rap_nil, rp_bi, rp_c, rp_op2, rp_op1, rp_not, rp_or, rp_and, rp_if, rp_call, rp_varM, List.getElem?_cons_zero, List.getElem?_cons_succ, rp_notD, RP_br, RP_ok]
  refine int_rp (u := "int") rfl (by simp) (fun _ => ⟨_, rfl⟩) (fun e => absurd rfl e) ?_
  have : ig (.int 200) 0 200 = true := by decide
  rw [this]
  simp only [rp_def, List.map_cons, List.map_nil, List.length_cons, List.length_nil, Nat.reduceAdd, Nat.reduceSub, List.replicate_zero, List.replicate_succ, List.append_nil, List.cons_append, List.nil_append, List.set_cons_zero, List.set_cons_succ, sp_ret, sp_seq, sp_asg, sp_if, sp_nx, sp_drop, SP_brS, rap_cons, rap_nil, rp_bi, rp_c, rp_op2, rp_op1, rp_not, rp_or, rp_and, rp_if, rp_call, rp_varM, List.getElem?_cons_zero, List.getElem?_cons_succ, rp_notD, RP_br, RP_ok, Bool.not_true, Bool.false_eq_true, if_false, rp_lc, wp_r1]
  refine ⟨by unfold lim; decide, ?_⟩
  rw [lc_map (g := fun d => match d with | .int p => .str (wayL pre near post s1 w [97] p.toNat) | _ => .non) trivial ?_]
  · have rk : ∀ (ds : List D) (c : Cells) (P : List D → Cells → Prop) (X : KX), RAP (RA.ok ds c) P X = P ds c := fun _ _ _ _ => rfl
    rw [rk, rp_mkLf (by rw [List.length_map, rangeD_length, sizeLine_eq]; decide)]
    exact k
  · intro d hd
    obtain ⟨q, hq0⟩ := List.getElem?_of_mem hd
    obtain ⟨hq, rfl⟩ := range_get hq0
    have hq2 : q < 200 := hq
    refine ⟨_, rfl, rfl, RP.eq ?_⟩
    simp only [wipeE, List.set_cons_zero, List.set_cons_succ, List.getElem?_cons_zero, List.getElem?_cons_succ, rp_call, rap_cons, rap_nil, rp_varM]
    have e0 : (0 : Int) + (q : Int) = (q : Nat) := by omega
    rw [e0]
    refine way_rp hr m h hw (by decide) hwish (by omega) ?_
    rw [Int.toNat_natCast]
    exact ⟨rfl, rfl⟩
end

end T_k15

namespace T_k15
open PySem L2 L3
theorem law_pure : ∀ ns : List Int, ns.length ≤ 63 → (∀ z ∈ ns, Builtin.Int.intBits z ≤ 1048576) → ∃ cs, m_law [.scr ns] [] = .ok (.bl true) cs := by
  intro ns hns _
  suffices h : RP (m_law [.scr ns] []) (fun d _ => d = .bl true) noX by
    obtain ⟨d, cs, e, rfl⟩ := h.get
    exact ⟨cs, e⟩
  unfold m_law mb_law
  simp only [rp_def, List.map_cons, List.map_nil, List.length_cons, List.length_nil, Nat.reduceAdd, Nat.reduceSub, List.replicate_zero, List.replicate_succ, List.append_nil, List.cons_append, List.nil_append,
    sp_seq, sp_for, wp_r1, rap_cons, rap_nil, rp_bi, rp_c, rp_varM, List.getElem?_cons_zero, rp_lenScr, rp_min, rp_max, sp_ret]
  refine ⟨by unfold lim; split <;> split <;> omega, ?_⟩
  refine for_invN (fun i env c => ∃ e1 e2 e3 e4 e5 e6 e7 e8 e9 e10 e11, env = [some (.scr ns), e1, e2, e3, e4, e5, e6, e7, e8, e9, e10, e11]) ⟨_, _, _, _, _, _, _, _, _, _, _, rfl⟩ (fun env c _ => ⟨trivial, trivial⟩) ?_
  rintro i d env c hi ⟨e1, e2, e3, e4, e5, e6, e7, e8, e9, e10, e11, rfl⟩
  obtain ⟨hi1, rfl⟩ := range_get hi
  refine ⟨trivial, _, rfl, ?_⟩
  simp only [List.set_cons_zero, List.set_cons_succ, List.getElem?_cons_zero, List.getElem?_cons_succ, sp_seq, sp_asg, sp_par, rp_call, rap_cons, rap_nil, rp_varM]
  refine cell_rp (by omega) fun z => box_rp ?_
  have hb : Bx (c ++ [.lst [.int (if z - 10 ^ 18 > 0 then z - 10 ^ 18 else 0), .int (z % 2147483629), .int 0]]) c.length 0 := Bx.new (Int.emod_nonneg _ (by decide)) (Int.lt_trans (Int.emod_lt_of_pos _ (by decide)) (by decide))
  revert hb
  generalize (c ++ [Cell.lst [.int (if z - 10 ^ 18 > 0 then z - 10 ^ 18 else 0), .int (z % 2147483629), .int 0]]) = c1
  generalize c.length = n
  intro hb
  try simp only [tgTs, List.set_cons_zero, List.set_cons_succ, List.getElem?_cons_zero, List.getElem?_cons_succ, rp_eMake, rap_cons, rap_nil, rp_varM, rp_op2, rp_list, rp_c, rp_call]
  refine oddc_rp hb (by decide) fun odd c3 o1 _ hb _ => ?_
  try simp only [tgTs, List.set_cons_zero, List.set_cons_succ, List.getElem?_cons_zero, List.getElem?_cons_succ, rp_eMake, rap_cons, rap_nil, rp_varM, rp_op2, rp_list, rp_c, rp_call]
  refine oddc_rp hb (by decide) fun oth c4 o2 _ hb ho => ?_
  have o1 := ho _ _ o1
  clear ho
  try simp only [tgTs, List.set_cons_zero, List.set_cons_succ, List.getElem?_cons_zero, List.getElem?_cons_succ, rp_eMake, rap_cons, rap_nil, rp_varM, rp_op2, rp_list, rp_c, rp_call]
  refine mark_bk (Bk.refl hb) (by decide) fun mk mp mn mq s1 s2 c5 M hf hbk => ?_
  have o1 : Od c5 0 odd := o1.tk hb hbk.2
  have o2 : Od c5 0 oth := o2.tk hb hbk.2
  have hb := hbk.1
  clear hbk
  rw [rp_mkLf (by rw [sizeLine_eq]; simp)]
  have hb0 := hb
  refine take_rp hb (by decide) (by decide) (by decide) fun r1 c6 q1 q1' hb k6 _ => ?_
  have o1 := o1.tk hb0 k6
  have o2 := o2.tk hb0 k6
  have hz : ∀ d ∈ [D.str wNest, .str wClimb], ∃ w, d = .str w ∧ (w = wNest ∨ w = wClimb) := by
    simp only [List.forall_mem_cons]
    exact ⟨⟨_, rfl, .inl rfl⟩, ⟨_, rfl, .inr rfl⟩, fun d h => by cases h⟩
  refine rp_ixAll q1 (by simpa using q1') fun d hd => ?_
  obtain ⟨w, rfl, hw⟩ := hz d hd
  clear hz hd hb0 k6 q1 q1'
  refine ri_ok M hf hw cell_end ?_
  rw [cell_set]
  have st : St (c6 ++ [.ins "Rule" (RuF mk w)]) n c6.length 0 100 mk w odd oth := ⟨(hb.le (B' := 100) (by decide)).app, cell_end, o1.app, o2.app⟩
  clear o1 o2 hb
  revert st
  generalize (c6 ++ [Cell.ins "Rule" (RuF mk w)]) = c7
  generalize c6.length = rn
  intro st
  clear hi hi1
  -- the rule
  simp only [sp_for, wp_r1, rp_c, List.set_cons_zero, List.set_cons_succ]
  refine ⟨by unfold lim; decide, ?_⟩
  refine for_invN (fun j env c => ∃ e6, env = [some (.scr ns), some (.int (0 + ↑i)), some (.loc n), some odd, some oth, some (.loc rn), e6, e7, e8, e9, e10, e11] ∧ St c n rn j 100 mk w odd oth) ⟨_, rfl, st⟩ ?_ ?_
  rotate_left
  · rintro j d' env c hj ⟨e6, rfl, st⟩
    obtain ⟨hj1, rfl⟩ := range_get hj
    have hj2 : j < 3 := hj1
    have hi3 : (0 : Int) + (j : Int) = 0 ∨ (0 : Int) + (j : Int) = 1 ∨ (0 : Int) + (j : Int) = 2 := by omega
    refine ⟨by trivial, _, rfl, ?_⟩
    simp only [rp_def, List.map_cons, List.map_nil, List.length_cons, List.length_nil, Nat.reduceAdd, Nat.reduceSub, List.replicate_zero, List.replicate_succ, List.append_nil, List.cons_append, List.nil_append, List.set_cons_zero, List.set_cons_succ, sp_ret, sp_seq, sp_asg, sp_if, sp_nx, sp_drop, SP_brS, rap_cons, rap_nil, rp_bi, rp_c, rp_op2, rp_op1, rp_not, rp_or, rp_and, rp_if, rp_call, rp_varM, List.getElem?_cons_zero, List.getElem?_cons_succ, rp_notD, RP_br, RP_ok, rp_list]
    rw [rp_mkLf (by rw [sizeLine_eq]; simp)]
    obtain ⟨u, hu, hm⟩ := st.o1.tyz
    refine ref_rp (word := w_BadRule) (fun news => st.o1.app) (by omega) (fun P' hk => a_rule hi3 st.o1.ins hu hm ?_) fun news c' u => ?_
    · have := hk []
      rw [List.append_nil] at this
      exact this
    · simp only [rp_def, List.map_cons, List.map_nil, List.length_cons, List.length_nil, Nat.reduceAdd, Nat.reduceSub, List.replicate_zero, List.replicate_succ, List.append_nil, List.cons_append, List.nil_append, List.set_cons_zero, List.set_cons_succ, sp_ret, sp_seq, sp_asg, sp_if, sp_nx, sp_drop, SP_brS, rap_cons, rap_nil, rp_bi, rp_c, rp_op2, rp_op1, rp_not, rp_or, rp_and, rp_if, rp_call, rp_varM, List.getElem?_cons_zero, List.getElem?_cons_succ, rp_notD, RP_br, RP_ok, Bool.not_true, Bool.false_eq_true, if_false]
      exact ⟨_, rfl, st.app.up u⟩
  · rintro env c ⟨e6, rfl, st⟩
    refine ⟨by trivial, ?_⟩
    show L3.SP (sIf _ _ _ _ _) _
    suffices rest : ∀ (e6 : Option D) (c : Cells), St c n rn 6 100 mk w odd oth → _ by
      rw [sp_if, rp_not, rp_call]
      simp only [rap_cons, rap_nil, rp_varM, rp_c, List.getElem?_cons_zero, List.getElem?_cons_succ]
      refine st.o1.lnm (most := 150) ?_
      rw [rp_notD]
      cases hn : nmD 150 odd with
      | false =>
        simp only [Bool.not_false, SP_brS, if_true, sp_seq, sp_for, wp_r1, rp_c]
        refine ⟨by unfold lim; decide, ?_⟩
        refine for_invN (fun j env c => ∃ e6, env = [some (.scr ns), some (.int (0 + ↑i)), some (.loc n), some odd, some oth, some (.loc rn), e6, e7, e8, e9, e10, e11] ∧ St c n rn (3 + j) 100 mk w odd oth) ⟨_, rfl, st.le (Nat.le_refl _) (by decide)⟩ ?_ ?_
        · rintro env c ⟨e6, rfl, st⟩
          refine ⟨by trivial, ?_⟩
          have st : St c n rn 5 100 mk w odd oth := st
          simp only [rp_def, List.map_cons, List.map_nil, List.length_cons, List.length_nil, Nat.reduceAdd, Nat.reduceSub, List.replicate_zero, List.replicate_succ, List.append_nil, List.cons_append, List.nil_append, List.set_cons_zero, List.set_cons_succ, sp_ret, sp_seq, sp_asg, sp_if, sp_nx, sp_drop, SP_brS, rap_cons, rap_nil, rp_bi, rp_c, rp_op2, rp_op1, rp_not, rp_or, rp_and, rp_if, rp_call, rp_varM, List.getElem?_cons_zero, List.getElem?_cons_succ, rp_notD, RP_br, RP_ok, rp_list]
          rw [rp_mkLf (by rw [sizeLine_eq]; simp), rp_mkLf (by rw [sizeLine_eq]; simp)]
          refine ref_rp (j := 5) (word := w_BadWish) (fun news => st.o1.app) (by omega) (fun P' hk => a_wish2 st.hr (fun news => st.app.o1.isw st.app.hr M hf hn) hk) fun news c' u => ?_
          simp only [rp_def, List.map_cons, List.map_nil, List.length_cons, List.length_nil, Nat.reduceAdd, Nat.reduceSub, List.replicate_zero, List.replicate_succ, List.append_nil, List.cons_append, List.nil_append, List.set_cons_zero, List.set_cons_succ, sp_ret, sp_seq, sp_asg, sp_if, sp_nx, sp_drop, SP_brS, rap_cons, rap_nil, rp_bi, rp_c, rp_op2, rp_op1, rp_not, rp_or, rp_and, rp_if, rp_call, rp_varM, List.getElem?_cons_zero, List.getElem?_cons_succ, rp_notD, RP_br, RP_ok, Bool.not_true, Bool.false_eq_true, if_false]
          exact rest e6 c' (st.app.up u)
        · rintro j d' env c hj ⟨e6, rfl, st⟩
          obtain ⟨hj1, rfl⟩ := range_get hj
          have hj2 : j < 2 := hj1
          have hi2 : (0 : Int) + (j : Int) = 0 ∨ (0 : Int) + (j : Int) = 1 := by omega
          refine ⟨by trivial, _, rfl, ?_⟩
          simp only [rp_def, List.map_cons, List.map_nil, List.length_cons, List.length_nil, Nat.reduceAdd, Nat.reduceSub, List.replicate_zero, List.replicate_succ, List.append_nil, List.cons_append, List.nil_append, List.set_cons_zero, List.set_cons_succ, sp_ret, sp_seq, sp_asg, sp_if, sp_nx, sp_drop, SP_brS, rap_cons, rap_nil, rp_bi, rp_c, rp_op2, rp_op1, rp_not, rp_or, rp_and, rp_if, rp_call, rp_varM, List.getElem?_cons_zero, List.getElem?_cons_succ, rp_notD, RP_br, RP_ok, rp_list, rp_neg]
          rw [rp_mkLf (by rw [sizeLine_eq]; simp)]
          refine ref_rp (j := 3 + j) (word := w_BadWish) (fun news => st.o1.app) (by omega) (fun P' hk => a_wish hi2 st.hr (st.o1.isw st.hr M hf hn) ?_) fun news c' u => ?_
          · have := hk []
            rw [List.append_nil] at this
            exact this
          · simp only [rp_def, List.map_cons, List.map_nil, List.length_cons, List.length_nil, Nat.reduceAdd, Nat.reduceSub, List.replicate_zero, List.replicate_succ, List.append_nil, List.cons_append, List.nil_append, List.set_cons_zero, List.set_cons_succ, sp_ret, sp_seq, sp_asg, sp_if, sp_nx, sp_drop, SP_brS, rap_cons, rap_nil, rp_bi, rp_c, rp_op2, rp_op1, rp_not, rp_or, rp_and, rp_if, rp_call, rp_varM, List.getElem?_cons_zero, List.getElem?_cons_succ, rp_notD, RP_br, RP_ok, Bool.not_true, Bool.false_eq_true, if_false]
            exact ⟨_, rfl, st.app.up u⟩
      | true =>
        simp only [Bool.not_true, SP_brS, Bool.false_eq_true, if_false, sp_nx]
        simp only [rp_def, List.map_cons, List.map_nil, List.length_cons, List.length_nil, Nat.reduceAdd, Nat.reduceSub, List.replicate_zero, List.replicate_succ, List.append_nil, List.cons_append, List.nil_append, List.set_cons_zero, List.set_cons_succ, sp_ret, sp_seq, sp_asg, sp_if, sp_nx, sp_drop, SP_brS, rap_cons, rap_nil, rp_bi, rp_c, rp_op2, rp_op1, rp_not, rp_or, rp_and, rp_if, rp_call, rp_varM, List.getElem?_cons_zero, List.getElem?_cons_succ, rp_notD, RP_br, RP_ok, rp_list]
        try simp only [rp_def, List.map_cons, List.map_nil, List.length_cons, List.length_nil, Nat.reduceAdd, Nat.reduceSub, List.replicate_zero, List.replicate_succ, List.append_nil, List.cons_append, List.nil_append, List.set_cons_zero, List.set_cons_succ, sp_ret, sp_seq, sp_asg, sp_if, sp_nx, sp_drop, SP_brS, rap_cons, rap_nil, rp_bi, rp_c, rp_op2, rp_op1, rp_not, rp_or, rp_and, rp_if, rp_call, rp_varM, List.getElem?_cons_zero, List.getElem?_cons_succ, rp_notD, RP_br, RP_ok, Bool.not_true, Bool.false_eq_true, if_false]
        exact rest e6 c (st.le (Nat.le_refl _) (by decide))
    clear st
    intro e6 c st
    show RP _ _ _
    rw [rp_neg, rp_mkLt (by rw [sizeLine_eq]; simp), rp_pow (by decide), rp_mkLf (by rw [sizeLine_eq]; simp)]
    have ol : Od (c ++ [.lst [.int 3]]) 0 (.loc c.length) := .loc _ _ cell_end (.inl ⟨[.int 3], by simp [lsB], 0, Nat.le_refl _, rfl⟩)
    have st : St (c ++ [.lst [.int 3]]) n rn 6 100 mk w odd oth := st.app
    revert ol st
    generalize c ++ [Cell.lst [D.int 3]] = c2
    generalize c.length = tn
    intro ol st
    refine take_rp st.hb (by decide) (by decide) (by decide) fun r2 c3 q2 q2' hb k2 _ => ?_
    have ol := ol.tk st.hb k2
    have st := st.tk k2 hb
    refine rp_ixAll q2 (by simpa using q2') fun bad hbad => ?_
    have hbd : Od c3 0 bad ∧ ig bad 0 200 = false := by
      revert bad
      simp only [List.forall_mem_cons]
      exact ⟨⟨.int _ ⟨by decide, by decide⟩, by decide⟩, ⟨.int _ ⟨by decide, by decide⟩, by decide⟩, ⟨.bl _, rfl⟩, ⟨.non, rfl⟩, ⟨.str _ ⟨by decide, by decide⟩, rfl⟩, ⟨ol, rfl⟩, ⟨.int _ ⟨by decide, by decide⟩, by decide⟩, fun d h => by cases h⟩
    obtain ⟨ob, hig⟩ := hbd
    clear hbad q2 q2' hb k2 ol
    rw [rp_mkLf (by rw [sizeLine_eq]; simp)]
    refine ref_rp (j := 6) (word := w_BadNumber) (fun news => (ob.mono (by decide)).app) (by omega) (fun P' hk => a_num st.hr (isw_a st.hr M hf) (ob.int0 hig) ?_) fun news c4 u => ?_
    · have := hk []
      rw [List.append_nil] at this
      exact this
    have st : St c4 n rn 7 101 mk w odd oth := st.app.up u
    clear u ob hig
    simp only [rp_def, List.map_cons, List.map_nil, List.length_cons, List.length_nil, Nat.reduceAdd, Nat.reduceSub, List.replicate_zero, List.replicate_succ, List.append_nil, List.cons_append, List.nil_append, List.set_cons_zero, List.set_cons_succ, sp_ret, sp_seq, sp_asg, sp_if, sp_nx, sp_drop, SP_brS, rap_cons, rap_nil, rp_bi, rp_c, rp_op2, rp_op1, rp_not, rp_or, rp_and, rp_if, rp_call, rp_varM, List.getElem?_cons_zero, List.getElem?_cons_succ, rp_notD, RP_br, RP_ok, Bool.not_true, Bool.false_eq_true, if_false]
    -- the name
    suffices rest : ∀ (c : Cells), St c n rn 8 101 mk w odd oth → _ by
      refine st.o2.lnm (most := 200) ?_
      rw [rp_notD]
      cases hn : nmD 200 oth with
      | false =>
        simp only [Bool.not_false, RP_br, cond_true, rp_not, rp_call, rap_cons, rap_nil, rp_c, rp_varM, rp_list, List.getElem?_cons_zero, List.getElem?_cons_succ]
        rw [rp_mkLf (by rw [sizeLine_eq]; simp)]
        refine ref_rp (j := 7) (word := w_BadName) (fun news => st.o2.app) (by omega) (fun P' hk => a_name st.hr (isw_a st.hr M hf) (by have := st.o2.isnD; rw [hn] at this; exact this) ?_) fun news c5 u => ?_
        · have := hk []
          rw [List.append_nil] at this
          exact this
        simp only [rp_notD, Bool.not_true, SP_brS, Bool.false_eq_true, if_false, sp_nx]
        exact rest c5 (st.app.up u)
      | true =>
        simp only [Bool.not_true, RP_br, cond_false, RP_ok, SP_brS, Bool.false_eq_true, if_false, sp_nx]
        exact rest c4 (st.le (Nat.le_refl _) (by decide))
    clear st
    intro c st
    show RP _ _ _
    have rk : ∀ (ds : List D) (c : Cells) (P : List D → Cells → Prop) (X : KX), RAP (RA.ok ds c) P X = P ds c := fun _ _ _ _ => rfl
    have lcn : ∀ (m : Nat) (env : L3.Env) (c : Cells), 9 < env.length → m ≤ 101 → lcL (fun _ => True) (tgN 9) (eC (D.bl true)) (op2 (addD false) (eC (D.str [97])) (op2 (mulD false) (eC (D.str [98])) (eVar 9))) (rangeD 0 m) (wipeE env [9]) c = .ok ((rangeD 0 m).map fun d => match d with | .int p => .str ([97] ++ List.replicate p.toNat 98) | _ => .non) c := by
      intro m env c he hm
      refine lc_map trivial fun d hd => ?_
      obtain ⟨q, hq0⟩ := List.getElem?_of_mem hd
      obtain ⟨hq, rfl⟩ := range_get hq0
      refine ⟨_, rfl, rfl, RP.eq ?_⟩
      have hg : ((wipeE env [9]).set 9 (some (D.int (0 + (q : Int)))))[9]? = some (some (.int (0 + (q : Int)))) := List.getElem?_set_self (by simp [wipeE]; exact he)
      simp only [rp_op2, rp_c, rp_varM, hg]
      rw [rp_mulS ⟨by omega, by omega, by decide⟩, rp_addS (by rw [sizeLine_eq]; simp; omega)]
      have : (List.replicate (0 + (q : Int)).toNat [98]).flatten = List.replicate (0 + (q : Int)).toNat 98 := by simp
      rw [this]
      exact ⟨rfl, rfl⟩
    have em : ∀ m : Nat, m ≤ 101 → ((rangeD 0 m).map fun d => match d with | D.int p => D.str ([97] ++ List.replicate p.toNat 98) | _ => .non) = (nmb.take m).map D.str := by
      intro m hm
      apply List.ext_getElem?
      intro q
      by_cases hq : q < m
      · have h1 : (rangeD 0 m)[q]? = some (.int (0 + (q : Int))) := by simp [rangeD, hq]
        rw [List.getElem?_map, h1, List.getElem?_map, List.getElem?_take, if_pos hq, nmb_get (by omega)]
        have : (0 + (q : Int)).toNat = q := by omega
        simp only [Option.map_some, this]
      · rw [List.getElem?_eq_none (by simp [rangeD]; omega), List.getElem?_eq_none (by simp; omega)]
    simp only [rp_lc, wp_r1, rp_c]
    refine ⟨by unfold lim; decide, ?_⟩
    rw [lcn (Int.toNat 101) _ _ (by simp) (by decide), rk, em (Int.toNat 101) (by decide)]
    have e101 : nmb.take (Int.toNat 101) = nmb := by rw [List.take_of_length_le (by rw [nmb_len]; decide)]
    rw [e101, rp_mkLt (by rw [sizeLine_eq, List.length_map, nmb_len]; decide)]
    simp only [List.set_cons_zero, List.set_cons_succ, List.getElem?_cons_zero, List.getElem?_cons_succ, rp_dict, rap_cons, rap_nil, rp_c, kvD, len_ite, rp_mkDt]
    rw [rp_mkLf (by rw [sizeLine_eq]; simp)]
    have hB : Big (c ++ [.lst (nmb.map D.str)]) c.length := cell_end
    have hB := hB.app (news := [.dct (mergeD [] [(Sum.inr [97], D.int 1)])])
    have od : Od (c ++ [.lst (nmb.map D.str)] ++ [.dct (mergeD [] [(Sum.inr [97], D.int 1)])]) 0 (.loc (c ++ [Cell.lst (nmb.map D.str)]).length) := .loc _ _ cell_end (.inr ⟨_, by simp [dsC, dsB, mergeD, putD], rfl⟩)
    have td : tyC (c ++ [.lst (nmb.map D.str)] ++ [.dct (mergeD [] [(Sum.inr [97], D.int 1)])]) (.loc (c ++ [Cell.lst (nmb.map D.str)]).length) = some "dict" := by simp only [tyC, cell_end]
    have st : St (c ++ [.lst (nmb.map D.str)] ++ [.dct (mergeD [] [(Sum.inr [97], D.int 1)])]) n rn 8 101 mk w odd oth := st.app.app
    revert hB od td st
    generalize c ++ [.lst (nmb.map D.str)] ++ [.dct (mergeD [] [(Sum.inr [97], D.int 1)])] = c2
    generalize (c ++ [Cell.lst (nmb.map D.str)]).length = dn
    generalize c.length = tn
    intro hB od td st
    refine take_rp st.hb (by decide) (by decide) (by decide) fun r3 c3 q3 q3' hb k3 _ => ?_
    have hB := hB.tk st.hb k3
    have td : tyC c3 (.loc dn) = some "dict" := ty_dct td st.hb k3
    have od := od.tk st.hb k3
    have st := st.tk k3 hb
    clear hb k3
    refine rp_ixAll q3 (by simpa using q3') fun whole hwh => ?_
    have hcase : (Od c3 0 whole ∧ ∃ u, tyC c3 whole = some u ∧ u ∈ ["NoneType", "bool", "int", "str", "dict"]) ∨ whole = .loc tn := by
      revert whole
      simp only [List.forall_mem_cons]
      exact ⟨.inr (by trivial), .inl ⟨od, _, td, by simp⟩, .inl ⟨.str _ ⟨by decide, by decide⟩, "str", rfl, by simp⟩, .inl ⟨.non, "NoneType", rfl, by simp⟩, .inl ⟨.int _ ⟨by decide, by decide⟩, "int", rfl, by simp⟩, .inl ⟨.bl _, "bool", rfl, by simp⟩, fun d h => by cases h⟩
    clear hwh q3 q3' td od
    try simp only [List.set_cons_zero, List.set_cons_succ, List.getElem?_cons_zero, List.getElem?_cons_succ]
    rw [rp_mkLf (by rw [sizeLine_eq]; simp)]
    have href : ∀ (P : D → Cells → Prop) (X : KX), (∀ c, St c n rn 9 102 mk w odd oth → P (.bl true) c) → RP (m__law_refused [.int 2, .lst [.loc rn, whole, odd], .str w_BadNames, whole] c3) P X := by
      intro P X kk
      rcases hcase with ⟨ow, u, hu, hm⟩ | hwt
      · refine ref_rp (j := 8) (word := w_BadNames) (fun news => (ow.mono (by decide)).app) (by omega) (fun P' hk => a_tk st.hr (un_no (fun P X k => isl_no hu hm k) (AskX.BadNames ?_))) fun news c5 u => kk _ (st.app.up u)
        have := hk []
        rw [List.append_nil] at this
        exact this
      · subst hwt
        refine ref_big (word := w_BadNames) hB (fun P' hk => a_tk st.hr (un_no (fun P X k => isl_loc hB ?_) (AskX.BadNames hk))) (kk _ ((st.set hB (by decide)).le (Nat.le_refl _) (by decide)))
        have : decide ((((nmb.map D.str).length : Nat) : Int) ≤ 100) = false := by rw [List.length_map, nmb_len]; decide
        rw [this]; exact k
    clear hB hcase
    refine href _ _ fun c st => ?_
    clear href
    simp only [rp_notD, Bool.not_true, SP_brS, Bool.false_eq_true, if_false, sp_nx]
    show RP (m__law_spoilt [.loc n, odd] c) _ _
    refine spoilt_bk (Bk.refl st.hb) (by decide) (j := 9) (fun c' hbk => st.o1.tk st.hb hbk.2) fun L word v c4 hsp hbk => ?_
    have st : St c4 n rn 9 302 mk w odd oth := st.tk' hbk.2 hbk.1
    clear hbk
    obtain ⟨N, rest, hN, hnd, hNl, hrl, hc⟩ := hsp
    have ov : Od c4 9 v := by
      rcases hc with ⟨_, _, rfl, _⟩ | ⟨z, _, _, rfl, hz, _⟩
      · exact st.o1
      · refine .str _ ?_
        unfold nm at hz
        rw [Bool.and_eq_true, decide_eq_true_eq, List.all_eq_true] at hz
        refine ⟨by omega, fun x hx => ?_⟩
        have hx2 := of_decide_eq_true (hz.2 x hx)
        have : ∀ y ∈ SG, y < 128 := by decide
        exact this x hx2
    have i0 : ∀ (c : Cells) (P : D → Cells → Prop) (X : KX), RP (ixD c (.lst [.lst L, .str word, v]) (.int 0)) P X = P (.lst L) c := fun c P X => rp_ixL rfl
    have i1 : ∀ (c : Cells) (P : D → Cells → Prop) (X : KX), RP (ixD c (.lst [.lst L, .str word, v]) (.int 1)) P X = P (.str word) c := fun c P X => rp_ixL rfl
    have i2 : ∀ (c : Cells) (P : D → Cells → Prop) (X : KX), RP (ixD c (.lst [.lst L, .str word, v]) (.int 2)) P X = P v c := fun c P X => rp_ixL rfl
    simp only [List.set_cons_zero, List.set_cons_succ, List.getElem?_cons_zero, List.getElem?_cons_succ, i0, i1, i2]
    rw [rp_mkLf (by rw [sizeLine_eq]; simp)]
    try simp only [i0, i1, i2]
    refine ref_rp (j := 9) (word := word) (fun news => ov.app) (by omega) (fun P' hk => ?_) fun news c5 u => ?_
    · refine a_tk st.hr ?_
      rcases hc with ⟨rfl, rfl, rfl, hodd⟩ | ⟨z, rfl, rfl, rfl, hz1, hz2, hz3⟩
      · refine un_rpO hN hnd (by simp; omega) (by omega) (.inl ⟨fun P X k => ?_, AskX.BadName (hk _)⟩)
        have := (st.o1.app (news := [Cell.set (keysN N)])).isnD
        rw [hodd] at this
        exact this P X k
      · exact un_rpO hN hnd (by simp; omega) (by omega) (.inr ⟨z, rfl, hz1, hz2, hz3, AskX.Doubled (hk _)⟩)
    have st : St c5 n rn 10 302 mk w odd oth := st.app.up u
    clear u hc ov i0 i1 i2
    simp only [rp_notD, Bool.not_true, SP_brS, Bool.false_eq_true, if_false, sp_nx]
    simp only [List.getElem?_cons_zero, List.getElem?_cons_succ]
    refine ⟨by unfold lim; decide, ?_⟩
    rw [lcn (Int.toNat 100) _ _ (by simp) (by decide), rk, em (Int.toNat 100) (by decide)]
    have e100 : Int.toNat 100 = 100 := rfl
    rw [e100, rp_mkLf (by rw [sizeLine_eq, List.length_map, List.length_take, nmb_len]; decide)]
    refine af_ok st.hr M hf hw fun news => ?_
    have st := st.app (news := news)
    have j0 : ∀ (c : Cells) (P : D → Cells → Prop) (X : KX), RP (ixD c (.lst [.str w_none, .non]) (.int 0)) P X = P (.str w_none) c := fun c P X => rp_ixL rfl
    simp only [j0, rp_neS, decide_true, Bool.not_true, RP_br, cond_false, cond_true]
    simp only [rp_op2, rp_call, rap_cons, rap_nil, rp_c, rp_varM, List.getElem?_cons_zero, List.getElem?_cons_succ]
    refine an_ok st.hr M hf hw ?_
    simp only [j0, rp_neS, decide_true, Bool.not_true, SP_brS, Bool.false_eq_true, if_false, sp_nx]
    exact ⟨_, _, _, _, _, _, _, _, _, _, _, rfl⟩

end T_k15

open PySem PySem.W PyProof.Rows
set_option maxRecDepth 100000 in
set_option maxHeartbeats 0 in
theorem PySem.Challenge.cw_tailnames_k15_ways_refused_holds : PySem.Challenge.rw_tailnames_k15_ways_refused.Holds := by
  w_on; o_law; k_head; (case hw => w_witness2)
  k_fill
  refine L3.lawG_walk (k := 14) (l := PySem.Challenge.rw_tailnames_k15_ways_refused) rfl rfl ⟨by decide, by decide, by decide⟩ rfl (fun w h Y => PySem.W.kIn_of Y) ?F
  case F =>
    intro w mg fa h KX G hmg
    refine' T_k15.all_mk (l := PySem.Challenge.rw_tailnames_k15_ways_refused) KX G hmg ?a1 ?l1 ?c1 ?k1 ?a2 ?l2 ?c2 ?k2 ?a3 ?l3 ?c3 ?k3 ?a4 ?l4 ?c4 ?k4 ?a5 ?l5 ?c5 ?k5 ?a6 ?l6 ?c6 ?k6 ?a7 ?l7 ?c7 ?k7 ?a8 ?l8 ?c8 ?k8 ?y9 ?a9 ?l9 ?c9 ?k9 ?a10 ?l10 ?c10 ?k10 ?a11 ?l11 ?c11 ?k11 ?a12 ?l12 ?c12 ?k12 ?a13 ?l13 ?c13 ?k13 ?a14 ?l14 ?c14 ?k14 ?a15 ?l15 ?c15 ?k15 ?a16 ?l16 ?c16 ?k16 ?a17 ?l17 ?c17 ?k17 ?a18 ?l18 ?c18 ?k18 ?a19 ?l19 ?c19 ?k19 ?a20 ?l20 ?c20 ?k20 ?a21 ?l21 ?c21 ?k21 ?a22 ?l22 ?c22 ?k22 ?a23 ?l23 ?c23 ?k23 ?a24 ?l24 ?c24 ?k24 ?y25 ?a25 ?l25 ?c25 ?k25 ?y26 ?a26 ?l26 ?c26 ?k26 ?a27 ?l27 ?c27 ?k27 ?a28 ?l28 ?c28 ?k28 ?a29 ?l29 ?c29 ?k29 ?a30 ?l30 ?c30 ?k30 ?a31 ?l31 ?c31 ?k31 ?a32 ?l32 ?c32 ?k32 ?y33 ?a33 ?l33 ?c33 ?k33 ?a34 ?l34 ?c34 ?k34 ?a35 ?l35 ?c35 ?k35 ?a36 ?l36 ?c36 ?k36 ?a37 ?l37 ?c37 ?k37 ?a38 ?l38 ?c38 ?k38 ?a39 ?l39 ?c39 ?k39 ?a40 ?l40 ?c40 ?k40 ?a41 ?l41 ?c41 ?k41 ?a42 ?l42 ?c42 ?k42 ?a43 ?l43 ?c43 ?k43 ?a44 ?l44 ?c44 ?k44 ?a45 ?l45 ?c45 ?k45 ?n_BadMark ?e_BadMark ?t_BadMark ?d_BadMark ?n_BadName ?e_BadName ?t_BadName ?d_BadName ?n_BadNames ?e_BadNames ?t_BadNames ?d_BadNames ?n_BadNumber ?e_BadNumber ?t_BadNumber ?d_BadNumber ?n_BadRule ?e_BadRule ?t_BadRule ?d_BadRule ?n_BadWay ?e_BadWay ?t_BadWay ?d_BadWay ?n_BadWish ?e_BadWish ?t_BadWish ?d_BadWish ?n_Blurred ?e_Blurred ?t_Blurred ?d_Blurred ?n_Doubled ?e_Doubled ?t_Doubled ?d_Doubled ?n_TailError ?e_TailError ?t_TailError ?d_TailError ?n_Rule ?t_Rule ?d_Rule ?pg_Rule ?hd_Rule ?po_Rule ?sa_Rule ?mk_Rule ?kp_Rule ?fl_Rule_rule_mark ?fl_Rule_rule_way ?ha_Rule ?hn_Rule ?ht_Rule ?hm_Rule ?s_Rule_NoneType ?s_Rule_bool ?s_Rule_int ?s_Rule_str ?s_Rule_list ?s_Rule_tuple ?s_Rule_dict ?bg_TailError ?br_TailError ?bi_TailError ?l_BadMark ?v_BadMark ?s_BadMark ?k_BadMark ?i_BadMark ?j_BadMark ?il_BadMark ?ic_BadMark ?ik_BadMark ?xg_BadMark ?xn_BadMark ?xh_BadMark ?f0_BadMark ?l_BadName ?v_BadName ?s_BadName ?k_BadName ?i_BadName ?j_BadName ?il_BadName ?ic_BadName ?ik_BadName ?xg_BadName ?xn_BadName ?xh_BadName ?f0_BadName ?l_BadNames ?v_BadNames ?s_BadNames ?k_BadNames ?i_BadNames ?j_BadNames ?il_BadNames ?ic_BadNames ?ik_BadNames ?xg_BadNames ?xn_BadNames ?xh_BadNames ?f0_BadNames ?l_BadNumber ?v_BadNumber ?s_BadNumber ?k_BadNumber ?i_BadNumber ?j_BadNumber ?il_BadNumber ?ic_BadNumber ?ik_BadNumber ?xg_BadNumber ?xn_BadNumber ?xh_BadNumber ?f0_BadNumber ?l_BadRule ?v_BadRule ?s_BadRule ?k_BadRule ?i_BadRule ?j_BadRule ?il_BadRule ?ic_BadRule ?ik_BadRule ?xg_BadRule ?xn_BadRule ?xh_BadRule ?f0_BadRule ?l_BadWay ?v_BadWay ?s_BadWay ?k_BadWay ?i_BadWay ?j_BadWay ?il_BadWay ?ic_BadWay ?ik_BadWay ?xg_BadWay ?xn_BadWay ?xh_BadWay ?f0_BadWay ?l_BadWish ?v_BadWish ?s_BadWish ?k_BadWish ?i_BadWish ?j_BadWish ?il_BadWish ?ic_BadWish ?ik_BadWish ?xg_BadWish ?xn_BadWish ?xh_BadWish ?f0_BadWish ?l_Blurred ?v_Blurred ?s_Blurred ?k_Blurred ?i_Blurred ?j_Blurred ?il_Blurred ?ic_Blurred ?ik_Blurred ?xg_Blurred ?xn_Blurred ?xh_Blurred ?f0_Blurred ?f1_Blurred ?l_Doubled ?v_Doubled ?s_Doubled ?k_Doubled ?i_Doubled ?j_Doubled ?il_Doubled ?ic_Doubled ?ik_Doubled ?xg_Doubled ?xn_Doubled ?xh_Doubled ?f0_Doubled ?p_Doubled_TailError ?p_Doubled_Doubled ?p_Doubled_BadWish ?p_Doubled_BadRule ?p_Doubled_BadNumber ?p_Doubled_BadNames ?p_Doubled_BadName ?p_Blurred_TailError ?p_Blurred_Doubled ?p_Blurred_BadWish ?p_Blurred_BadRule ?p_Blurred_BadNumber ?p_Blurred_BadNames ?p_Blurred_BadName ?p_BadWish_TailError ?p_BadWish_Doubled ?p_BadWish_BadWish ?p_BadWish_BadRule ?p_BadWish_BadNumber ?p_BadWish_BadNames ?p_BadWish_BadName ?p_BadWay_TailError ?p_BadWay_Doubled ?p_BadWay_BadWish ?p_BadWay_BadRule ?p_BadWay_BadNumber ?p_BadWay_BadNames ?p_BadWay_BadName ?p_BadRule_TailError ?p_BadRule_Doubled ?p_BadRule_BadWish ?p_BadRule_BadRule ?p_BadRule_BadNumber ?p_BadRule_BadNames ?p_BadRule_BadName ?p_BadNumber_TailError ?p_BadNumber_Doubled ?p_BadNumber_BadWish ?p_BadNumber_BadRule ?p_BadNumber_BadNumber ?p_BadNumber_BadNames ?p_BadNumber_BadName ?p_BadNames_TailError ?p_BadNames_Doubled ?p_BadNames_BadWish ?p_BadNames_BadRule ?p_BadNames_BadNumber ?p_BadNames_BadNames ?p_BadNames_BadName ?p_BadName_TailError ?p_BadName_Doubled ?p_BadName_BadWish ?p_BadName_BadRule ?p_BadName_BadNumber ?p_BadName_BadNames ?p_BadName_BadName ?p_BadMark_TailError ?p_BadMark_Doubled ?p_BadMark_BadWish ?p_BadMark_BadRule ?p_BadMark_BadNumber ?p_BadMark_BadNames ?p_BadMark_BadName ?z_all ?z_bool ?z_dict ?z_int ?z_isinstance ?z_len ?z_list ?z_max ?z_min ?z_range ?z_repr ?z_set ?z_str ?z_tuple ?z_CLIMB ?z_FIGURES ?z_GREATEST ?z_GREATEST_WISH ?z_HASH ?z_LONGEST_MARK ?z_LONGEST_NAME ?z_LONGEST_WISH ?z_MOST_FIGURES ?z_MOST_NAMES ?z_MOST_TAKEN ?z_NEST ?z_SIGNS ?z_STAR T_k15.law_pure
    (case n_BadMark => k_is); (case n_BadName => k_is); (case n_BadNames => k_is); (case n_BadNumber => k_is); (case n_BadRule => k_is); (case n_BadWay => k_is)
    (case n_BadWish => k_is); (case n_Blurred => k_is); (case n_Doubled => k_is); (case n_TailError => k_is); (case n_Rule => k_is); (case a1 => k_is)
    (case l1 => k_is); (case c1 => k_is); (case k1 => k_is); (case a2 => k_is); (case l2 => k_is); (case c2 => k_is)
    (case k2 => k_is); (case a3 => k_is); (case l3 => k_is); (case c3 => k_is); (case k3 => k_is); (case a4 => k_is)
    (case l4 => k_is); (case c4 => k_is); (case k4 => k_is); (case a5 => k_is); (case l5 => k_is); (case c5 => k_is)
    (case k5 => k_is); (case a6 => k_is); (case l6 => k_is); (case c6 => k_is); (case k6 => k_is); (case a7 => k_is)
    (case l7 => k_is); (case c7 => k_is); (case k7 => k_is); (case a8 => k_is); (case l8 => k_is); (case c8 => k_is)
    (case k8 => k_is); (case a9 => k_is); (case l9 => k_is); (case c9 => k_is); (case k9 => k_is); (case a10 => k_is)
    (case l10 => k_is); (case c10 => k_is); (case k10 => k_is); (case a11 => k_is); (case l11 => k_is); (case c11 => k_is)
    (case k11 => k_is); (case a12 => k_is); (case l12 => k_is); (case c12 => k_is); (case k12 => k_is); (case a13 => k_is)
    (case l13 => k_is); (case c13 => k_is); (case k13 => k_is); (case a14 => k_is); (case l14 => k_is); (case c14 => k_is)
    (case k14 => k_is); (case a15 => k_is); (case l15 => k_is); (case c15 => k_is); (case k15 => k_is); (case a16 => k_is)
    (case l16 => k_is); (case c16 => k_is); (case k16 => k_is); (case a17 => k_is); (case l17 => k_is); (case c17 => k_is)
    (case k17 => k_is); (case a18 => k_is); (case l18 => k_is); (case c18 => k_is); (case k18 => k_is); (case a19 => k_is)
    (case l19 => k_is); (case c19 => k_is); (case k19 => k_is); (case a20 => k_is); (case l20 => k_is); (case c20 => k_is)
    (case k20 => k_is); (case a21 => k_is); (case l21 => k_is); (case c21 => k_is); (case k21 => k_is); (case a22 => k_is)
    (case l22 => k_is); (case c22 => k_is); (case k22 => k_is); (case a23 => k_is); (case l23 => k_is); (case c23 => k_is)
    (case k23 => k_is); (case a24 => k_is); (case l24 => k_is); (case c24 => k_is); (case k24 => k_is); (case a25 => k_is)
    (case l25 => k_is); (case c25 => k_is); (case k25 => k_is); (case a26 => k_is); (case l26 => k_is); (case c26 => k_is)
    (case k26 => k_is); (case a27 => k_is); (case l27 => k_is); (case c27 => k_is); (case k27 => k_is); (case a28 => k_is)
    (case l28 => k_is); (case c28 => k_is); (case k28 => k_is); (case a29 => k_is); (case l29 => k_is); (case c29 => k_is)
    (case k29 => k_is); (case a30 => k_is); (case l30 => k_is); (case c30 => k_is); (case k30 => k_is); (case a31 => k_is)
    (case l31 => k_is); (case c31 => k_is); (case k31 => k_is); (case a32 => k_is); (case l32 => k_is); (case c32 => k_is)
    (case k32 => k_is); (case a33 => k_is); (case l33 => k_is); (case c33 => k_is); (case k33 => k_is); (case a34 => k_is)
    (case l34 => k_is); (case c34 => k_is); (case k34 => k_is); (case a35 => k_is); (case l35 => k_is); (case c35 => k_is)
    (case k35 => k_is); (case a36 => k_is); (case l36 => k_is); (case c36 => k_is); (case k36 => k_is); (case a37 => k_is)
    (case l37 => k_is); (case c37 => k_is); (case k37 => k_is); (case a38 => k_is); (case l38 => k_is); (case c38 => k_is)
    (case k38 => k_is); (case a39 => k_is); (case l39 => k_is); (case c39 => k_is); (case k39 => k_is); (case a40 => k_is)
    (case l40 => k_is); (case c40 => k_is); (case k40 => k_is); (case a41 => k_is); (case l41 => k_is); (case c41 => k_is)
    (case k41 => k_is); (case a42 => k_is); (case l42 => k_is); (case c42 => k_is); (case k42 => k_is); (case a43 => k_is)
    (case l43 => k_is); (case c43 => k_is); (case k43 => k_is); (case a44 => k_is); (case l44 => k_is); (case c44 => k_is)
    (case k44 => k_is); (case a45 => k_is); (case l45 => k_is); (case c45 => k_is); (case k45 => k_is); (case e_BadMark => k_is)
    (case t_BadMark => k_is); (case d_BadMark => k_is); (case e_BadName => k_is); (case t_BadName => k_is); (case d_BadName => k_is); (case e_BadNames => k_is)
    (case t_BadNames => k_is); (case d_BadNames => k_is); (case e_BadNumber => k_is); (case t_BadNumber => k_is); (case d_BadNumber => k_is); (case e_BadRule => k_is)
    (case t_BadRule => k_is); (case d_BadRule => k_is); (case e_BadWay => k_is); (case t_BadWay => k_is); (case d_BadWay => k_is); (case e_BadWish => k_is)
    (case t_BadWish => k_is); (case d_BadWish => k_is); (case e_Blurred => k_is); (case t_Blurred => k_is); (case d_Blurred => k_is); (case e_Doubled => k_is)
    (case t_Doubled => k_is); (case d_Doubled => k_is); (case e_TailError => k_is); (case t_TailError => k_is); (case d_TailError => k_is); (case t_Rule => k_is)
    (case d_Rule => k_is); (case pg_Rule => k_is); (case hd_Rule => k_is); (case po_Rule => k_is); (case sa_Rule => k_is); (case mk_Rule => k_is)
    (case kp_Rule => k_is); (case fl_Rule_rule_mark => k_is); (case fl_Rule_rule_way => k_is); (case ha_Rule => k_is); (case hn_Rule => k_is); (case ht_Rule => k_is)
    (case hm_Rule => k_is); (case s_Rule_NoneType => k_is); (case s_Rule_bool => k_is); (case s_Rule_int => k_is); (case s_Rule_str => k_is); (case s_Rule_list => k_is)
    (case s_Rule_tuple => k_is); (case s_Rule_dict => k_is); (case bg_TailError => k_is); (case br_TailError => k_is); (case bi_TailError => k_is); (case l_BadMark => k_is)
    (case v_BadMark => rfl); (case s_BadMark => k_is); (case k_BadMark => k_is); (case i_BadMark => k_is); (case j_BadMark => k_is); (case il_BadMark => k_is)
    (case ic_BadMark => k_is); (case ik_BadMark => k_is); (case xg_BadMark => k_is); (case xn_BadMark => k_is); (case xh_BadMark => k_is); (case f0_BadMark => k_is)
    (case l_BadName => k_is); (case v_BadName => rfl); (case s_BadName => k_is); (case k_BadName => k_is); (case i_BadName => k_is); (case j_BadName => k_is)
    (case il_BadName => k_is); (case ic_BadName => k_is); (case ik_BadName => k_is); (case xg_BadName => k_is); (case xn_BadName => k_is); (case xh_BadName => k_is)
    (case f0_BadName => k_is); (case l_BadNames => k_is); (case v_BadNames => rfl); (case s_BadNames => k_is); (case k_BadNames => k_is); (case i_BadNames => k_is)
    (case j_BadNames => k_is); (case il_BadNames => k_is); (case ic_BadNames => k_is); (case ik_BadNames => k_is); (case xg_BadNames => k_is); (case xn_BadNames => k_is)
    (case xh_BadNames => k_is); (case f0_BadNames => k_is); (case l_BadNumber => k_is); (case v_BadNumber => rfl); (case s_BadNumber => k_is); (case k_BadNumber => k_is)
    (case i_BadNumber => k_is); (case j_BadNumber => k_is); (case il_BadNumber => k_is); (case ic_BadNumber => k_is); (case ik_BadNumber => k_is); (case xg_BadNumber => k_is)
    (case xn_BadNumber => k_is); (case xh_BadNumber => k_is); (case f0_BadNumber => k_is); (case l_BadRule => k_is); (case v_BadRule => rfl); (case s_BadRule => k_is)
    (case k_BadRule => k_is); (case i_BadRule => k_is); (case j_BadRule => k_is); (case il_BadRule => k_is); (case ic_BadRule => k_is); (case ik_BadRule => k_is)
    (case xg_BadRule => k_is); (case xn_BadRule => k_is); (case xh_BadRule => k_is); (case f0_BadRule => k_is); (case l_BadWay => k_is); (case v_BadWay => rfl)
    (case s_BadWay => k_is); (case k_BadWay => k_is); (case i_BadWay => k_is); (case j_BadWay => k_is); (case il_BadWay => k_is); (case ic_BadWay => k_is)
    (case ik_BadWay => k_is); (case xg_BadWay => k_is); (case xn_BadWay => k_is); (case xh_BadWay => k_is); (case f0_BadWay => k_is); (case l_BadWish => k_is)
    (case v_BadWish => rfl); (case s_BadWish => k_is); (case k_BadWish => k_is); (case i_BadWish => k_is); (case j_BadWish => k_is); (case il_BadWish => k_is)
    (case ic_BadWish => k_is); (case ik_BadWish => k_is); (case xg_BadWish => k_is); (case xn_BadWish => k_is); (case xh_BadWish => k_is); (case f0_BadWish => k_is)
    (case l_Blurred => k_is); (case v_Blurred => rfl); (case s_Blurred => k_is); (case k_Blurred => k_is); (case i_Blurred => k_is); (case j_Blurred => k_is)
    (case il_Blurred => k_is); (case ic_Blurred => k_is); (case ik_Blurred => k_is); (case xg_Blurred => k_is); (case xn_Blurred => k_is); (case xh_Blurred => k_is)
    (case f0_Blurred => k_is); (case f1_Blurred => k_is); (case l_Doubled => k_is); (case v_Doubled => rfl); (case s_Doubled => k_is); (case k_Doubled => k_is)
    (case i_Doubled => k_is); (case j_Doubled => k_is); (case il_Doubled => k_is); (case ic_Doubled => k_is); (case ik_Doubled => k_is); (case xg_Doubled => k_is)
    (case xn_Doubled => k_is); (case xh_Doubled => k_is); (case f0_Doubled => k_is); (case p_Doubled_TailError => k_is); (case p_Doubled_Doubled => k_is); (case p_Doubled_BadWish => k_is)
    (case p_Doubled_BadRule => k_is); (case p_Doubled_BadNumber => k_is); (case p_Doubled_BadNames => k_is); (case p_Doubled_BadName => k_is); (case p_Blurred_TailError => k_is); (case p_Blurred_Doubled => k_is)
    (case p_Blurred_BadWish => k_is); (case p_Blurred_BadRule => k_is); (case p_Blurred_BadNumber => k_is); (case p_Blurred_BadNames => k_is); (case p_Blurred_BadName => k_is); (case p_BadWish_TailError => k_is)
    (case p_BadWish_Doubled => k_is); (case p_BadWish_BadWish => k_is); (case p_BadWish_BadRule => k_is); (case p_BadWish_BadNumber => k_is); (case p_BadWish_BadNames => k_is); (case p_BadWish_BadName => k_is)
    (case p_BadWay_TailError => k_is); (case p_BadWay_Doubled => k_is); (case p_BadWay_BadWish => k_is); (case p_BadWay_BadRule => k_is); (case p_BadWay_BadNumber => k_is); (case p_BadWay_BadNames => k_is)
    (case p_BadWay_BadName => k_is); (case p_BadRule_TailError => k_is); (case p_BadRule_Doubled => k_is); (case p_BadRule_BadWish => k_is); (case p_BadRule_BadRule => k_is); (case p_BadRule_BadNumber => k_is)
    (case p_BadRule_BadNames => k_is); (case p_BadRule_BadName => k_is); (case p_BadNumber_TailError => k_is); (case p_BadNumber_Doubled => k_is); (case p_BadNumber_BadWish => k_is); (case p_BadNumber_BadRule => k_is)
    (case p_BadNumber_BadNumber => k_is); (case p_BadNumber_BadNames => k_is); (case p_BadNumber_BadName => k_is); (case p_BadNames_TailError => k_is); (case p_BadNames_Doubled => k_is); (case p_BadNames_BadWish => k_is)
    (case p_BadNames_BadRule => k_is); (case p_BadNames_BadNumber => k_is); (case p_BadNames_BadNames => k_is); (case p_BadNames_BadName => k_is); (case p_BadName_TailError => k_is); (case p_BadName_Doubled => k_is)
    (case p_BadName_BadWish => k_is); (case p_BadName_BadRule => k_is); (case p_BadName_BadNumber => k_is); (case p_BadName_BadNames => k_is); (case p_BadName_BadName => k_is); (case p_BadMark_TailError => k_is)
    (case p_BadMark_Doubled => k_is); (case p_BadMark_BadWish => k_is); (case p_BadMark_BadRule => k_is); (case p_BadMark_BadNumber => k_is); (case p_BadMark_BadNames => k_is); (case p_BadMark_BadName => k_is)
    (case z_all => k_is); (case z_bool => k_is); (case z_dict => k_is); (case z_int => k_is); (case z_isinstance => k_is); (case z_len => k_is)
    (case z_list => k_is); (case z_max => k_is); (case z_min => k_is); (case z_range => k_is); (case z_repr => k_is); (case z_set => k_is)
    (case z_str => k_is); (case z_tuple => k_is); (case z_CLIMB => k_is); (case z_FIGURES => k_is); (case z_GREATEST => k_is); (case z_GREATEST_WISH => k_is)
    (case z_HASH => k_is); (case z_LONGEST_MARK => k_is); (case z_LONGEST_NAME => k_is); (case z_LONGEST_WISH => k_is); (case z_MOST_FIGURES => k_is); (case z_MOST_NAMES => k_is)
    (case z_MOST_TAKEN => k_is); (case z_NEST => k_is); (case z_SIGNS => k_is); (case z_STAR => k_is); (case y9 => k_is); (case y25 => k_is)
    (case y26 => k_is); (case y33 => k_is)

#print axioms PySem.Challenge.cw_tailnames_k15_ways_refused_holds
