import PyProof.Rows.All
import Wide.All
import OpenK.AllK
import Wide.FinOn
import HandS.ForMost
import HandS.ForExc
import HandS.SetKeys
import HandS.Flow
import HandS.Wide
import HandS.IsInst
import HandS.TupLe
import HandS.TupAny
import HandS.StrMore
import HandS.ExcOwn
import HandS.Steps
import PyProof.StrOps2
import HandS.CallSlots
import HandS.RaiseMore
import HandS.Replace
import HandS.EndBits
import PySem.Challenge.RW_tailnames_k59_slugs_sign_by_sign
set_option Elab.async false
set_option linter.all false
set_option maxRecDepth 100000
/-! L3: Python's values as plain data; what a piece of the text does, as a plain function of data. -/
namespace L3
open PySem L2

/-- a dict's key: an int, or a text by its codes -/
abbrev Kd := Sum Int (List Nat)
def kk : Kd → Key
  | .inl i => .inl i
  | .inr l => .inr ⟨l.toArray⟩
theorem kk_inj {a b : Kd} (h : kk a = kk b) : a = b := by
  cases a <;> cases b <;> simp [kk] at h
  · rw [h]
  · rw [h]
theorem kk_eq (a b : Kd) : decide (kk a = kk b) = decide (a = b) := by
  by_cases h : a = b
  · rw [h]; simp
  · have : ¬ kk a = kk b := fun e => h (kk_inj e)
    simp [h, this]

/-- a value -/
inductive D where
  | non | bl (b : Bool) | int (i : Int) | str (l : List Nat)
  | lst (l : List D) | tup (l : List D) | dct (l : List (Kd × D))
  | scr (l : List Int)
  | obj (n : Str) (l : List (Str × D))
  | loc (n : Nat)

/-- what stands at a place that may change -/
inductive Cell where
  | lst (l : List D) | dct (l : List (Kd × D)) | set (l : List Kd)
  | ins (n : Str) (l : List (Str × D))
  | fz (d : D)

abbrev Cells := List Cell
abbrev Env := List (Option D)

/-- how an expression ends -/
inductive R where
  | ok (d : D) (cs : Cells)
  | exc (n : Str) (fs : List (Str × D)) (cs : Cells)
  | stuck
def R.bind : R → (D → Cells → R) → R
  | .ok d cs, f => f d cs
  | .exc n fs cs, _ => .exc n fs cs
  | .stuck, _ => .stuck
@[simp] theorem R.bind_ok (d : D) (cs : Cells) (f : D → Cells → R) : (R.ok d cs).bind f = f d cs := rfl
@[simp] theorem R.bind_exc (n : Str) (fs : List (Str × D)) (cs : Cells) (f : D → Cells → R) : (R.exc n fs cs).bind f = .exc n fs cs := rfl
@[simp] theorem R.bind_stuck (f : D → Cells → R) : R.stuck.bind f = .stuck := rfl
/-- how an argument list ends -/
inductive RA where
  | ok (ds : List D) (cs : Cells)
  | exc (n : Str) (fs : List (Str × D)) (cs : Cells)
  | stuck
def RA.bind : RA → (List D → Cells → R) → R
  | .ok d cs, f => f d cs
  | .exc n fs cs, _ => .exc n fs cs
  | .stuck, _ => .stuck
@[simp] theorem RA.bind_ok (d : List D) (cs : Cells) (f : List D → Cells → R) : (RA.ok d cs).bind f = f d cs := rfl
@[simp] theorem RA.bind_exc (n : Str) (fs : List (Str × D)) (cs : Cells) (f : List D → Cells → R) : (RA.exc n fs cs).bind f = .exc n fs cs := rfl
@[simp] theorem RA.bind_stuck (f : List D → Cells → R) : RA.stuck.bind f = .stuck := rfl
/-- how a statement ends -/
inductive S where
  | nx (env : Env) (cs : Cells)
  | rt (d : D) (cs : Cells)
  | bk (env : Env) (cs : Cells)
  | ct (env : Env) (cs : Cells)
  | exc (n : Str) (fs : List (Str × D)) (env : Env) (cs : Cells)
  | stuck
abbrev ME := Env → Cells → R
abbrev MA := Env → Cells → RA
abbrev MS := Env → Cells → S
abbrev MF := List D → Cells → R

/-- what is fixed: the program, the world, the written part, the module's names -/
structure Gd where
  P : Program
  w : World
  K : PySem.W.Frag
  mg : Str → Option Value
abbrev gd (X : Cx) : Gd := ⟨X.prog, X.w, X.K, X.mg⟩

/-! ### which value stands for which data; F: what stands still -/
mutual
inductive RV (g : Gd) (F : Hp) (c : List Addr) : V → D → Prop
  | non : RV g F c .non .non
  | bl (b : Bool) : RV g F c (.bl b) (.bl b)
  | int (i : Int) : RV g F c (.int i) (.int i)
  | str (l : List Nat) : RV g F c (.str ⟨l.toArray⟩) (.str l)
  | lst {a : Addr} {vs : List V} {ds : List D} : F a = some (.lst vs) → RVs g F c vs ds → RV g F c (.ref a) (.lst ds)
  | tup {a : Addr} {vs : List V} {ds : List D} : F a = some (.tup vs) → RVs g F c vs ds → RV g F c (.ref a) (.tup ds)
  | dct {a : Addr} {kvs : List (Key × V)} {kds : List (Kd × D)} : Rd F a (.dK kvs) → RKs g F c kvs kds → RV g F c (.ref a) (.dct kds)
  | scr {a : Addr} {ns : List Int} : SqL g.K F a (ns.map V.int) → RV g F c (.ref a) (.scr ns)
  | obj {a C dx : Addr} {n : Str} {fs : List (Str × V)} {gs : List (Str × D)} : g.mg n = some (.ref C) → F a = some (.ins C dx fs) → RFs g F c fs gs → RV g F c (.ref a) (.obj n gs)
  | loc {n : Nat} {a : Addr} : c[n]? = some a → RV g F c (.ref a) (.loc n)
inductive RVs (g : Gd) (F : Hp) (c : List Addr) : List V → List D → Prop
  | nil : RVs g F c [] []
  | cons {v : V} {d : D} {vs : List V} {ds : List D} : RV g F c v d → RVs g F c vs ds → RVs g F c (v :: vs) (d :: ds)
inductive RKs (g : Gd) (F : Hp) (c : List Addr) : List (Key × V) → List (Kd × D) → Prop
  | nil : RKs g F c [] []
  | cons {k : Kd} {v : V} {d : D} {vs : List (Key × V)} {ds : List (Kd × D)} : RV g F c v d → RKs g F c vs ds → RKs g F c ((kk k, v) :: vs) ((k, d) :: ds)
inductive RFs (g : Gd) (F : Hp) (c : List Addr) : List (Str × V) → List (Str × D) → Prop
  | nil : RFs g F c [] []
  | cons {k : Str} {v : V} {d : D} {vs : List (Str × V)} {ds : List (Str × D)} : RV g F c v d → RFs g F c vs ds → RFs g F c ((k, v) :: vs) ((k, d) :: ds)
end

/-- more is known (a dict may be locked meanwhile) -/
structure Le (F : Hp) (c : List Addr) (F' : Hp) (c' : List Addr) : Prop where
  lst : ∀ a xs, F a = some (.lst xs) → F' a = some (.lst xs)
  tup : ∀ a xs, F a = some (.tup xs) → F' a = some (.tup xs)
  ins : ∀ a C dx fs, F a = some (.ins C dx fs) → F' a = some (.ins C dx fs)
  rd : ∀ a u, Rd F a u → Rd F' a u
  loc : ∀ (n : Nat) (a : Addr), c[n]? = some a → c'[n]? = some a
theorem Le.refl (F : Hp) (c : List Addr) : Le F c F c := ⟨fun _ _ h => h, fun _ _ h => h, fun _ _ _ _ h => h, fun _ _ h => h, fun _ _ h => h⟩
theorem Le.trans {F F1 F2 : Hp} {c c1 c2 : List Addr} (a : Le F c F1 c1) (b : Le F1 c1 F2 c2) : Le F c F2 c2 :=
  ⟨fun x xs h => b.lst x xs (a.lst x xs h), fun x xs h => b.tup x xs (a.tup x xs h), fun x C dx fs h => b.ins x C dx fs (a.ins x C dx fs h), fun x u h => b.rd x u (a.rd x u h), fun n x h => b.loc n x (a.loc n x h)⟩
theorem Le.seq {K : PySem.W.Frag} {F F' : Hp} {c c' : List Addr} {a : Addr} {xs : List V} (e : Le F c F' c') (h : SqL K F a xs) : SqL K F' a xs := by
  rcases h with h | h
  · exact .inl (e.rd _ _ h)
  · exact .inr h
/-- from a plain extension -/
theorem Le.of {F F' : Hp} {c c' : List Addr} (h : ∀ a o, F a = some o → F' a = some o) (hc : ∀ (n : Nat) (a : Addr), c[n]? = some a → c'[n]? = some a) : Le F c F' c' :=
  ⟨fun _ _ e => h _ _ e, fun _ _ e => h _ _ e, fun _ _ _ _ e => h _ _ e, fun a u e => by
    rcases e with e | ⟨o, e⟩
    · exact .inl (h _ _ e)
    · exact .inr ⟨o, h _ _ e⟩, hc⟩

section
variable {g : Gd} {F F' : Hp} {c c' : List Addr}
mutual
theorem RV.mono (e : Le F c F' c') : ∀ {v : V} {d : D}, RV g F c v d → RV g F' c' v d
  | _, _, .non => .non
  | _, _, .bl b => .bl b
  | _, _, .int i => .int i
  | _, _, .str l => .str l
  | _, _, .lst h r => .lst (e.lst _ _ h) (RVs.mono e r)
  | _, _, .tup h r => .tup (e.tup _ _ h) (RVs.mono e r)
  | _, _, .dct h r => .dct (e.rd _ _ h) (RKs.mono e r)
  | _, _, .scr h => .scr (e.seq h)
  | _, _, .obj m h r => .obj m (e.ins _ _ _ _ h) (RFs.mono e r)
  | _, _, .loc h => .loc (e.loc _ _ h)
theorem RVs.mono (e : Le F c F' c') : ∀ {vs : List V} {ds : List D}, RVs g F c vs ds → RVs g F' c' vs ds
  | _, _, .nil => .nil
  | _, _, .cons a b => .cons (RV.mono e a) (RVs.mono e b)
theorem RKs.mono (e : Le F c F' c') : ∀ {vs : List (Key × V)} {ds : List (Kd × D)}, RKs g F c vs ds → RKs g F' c' vs ds
  | _, _, .nil => .nil
  | _, _, .cons a b => .cons (RV.mono e a) (RKs.mono e b)
theorem RFs.mono (e : Le F c F' c') : ∀ {vs : List (Str × V)} {ds : List (Str × D)}, RFs g F c vs ds → RFs g F' c' vs ds
  | _, _, .nil => .nil
  | _, _, .cons a b => .cons (RV.mono e a) (RFs.mono e b)
end
theorem RVs.length : ∀ {vs : List V} {ds : List D}, RVs g F c vs ds → vs.length = ds.length
  | _, _, .nil => rfl
  | _, _, .cons _ r => by simp [RVs.length r]
theorem RVs.get : ∀ {vs : List V} {ds : List D} {i : Nat} {d : D}, RVs g F c vs ds → ds[i]? = some d → ∃ v, vs[i]? = some v ∧ RV g F c v d
  | _, _, _, _, .nil, e => by simp at e
  | _, _, 0, _, .cons r _, e => by simp at e; subst e; exact ⟨_, rfl, r⟩
  | _, _, i + 1, d, .cons _ t, e => by
    obtain ⟨u, h1, h2⟩ := RVs.get (i := i) (d := d) t (by simpa using e)
    exact ⟨u, by simpa using h1, h2⟩
theorem RVs.get' : ∀ {vs : List V} {ds : List D} {i : Nat} {v : V}, RVs g F c vs ds → vs[i]? = some v → ∃ d, ds[i]? = some d ∧ RV g F c v d
  | _, _, _, _, .nil, e => by simp at e
  | _, _, 0, _, .cons r _, e => by simp at e; subst e; exact ⟨_, rfl, r⟩
  | _, _, i + 1, v, .cons _ t, e => by
    obtain ⟨u, h1, h2⟩ := RVs.get' (i := i) (v := v) t (by simpa using e)
    exact ⟨u, by simpa using h1, h2⟩
theorem RVs.append : ∀ {vs ws : List V} {ds es : List D}, RVs g F c vs ds → RVs g F c ws es → RVs g F c (vs ++ ws) (ds ++ es)
  | _, _, _, _, .nil, s => s
  | _, _, _, _, .cons a b, s => .cons a (RVs.append b s)
theorem RVs.take : ∀ {vs : List V} {ds : List D} (n : Nat), RVs g F c vs ds → RVs g F c (vs.take n) (ds.take n)
  | _, _, 0, _ => by simp; exact .nil
  | _, _, _ + 1, .nil => .nil
  | _, _, n + 1, .cons a b => .cons a (RVs.take n b)
theorem RVs.drop : ∀ {vs : List V} {ds : List D} (n : Nat), RVs g F c vs ds → RVs g F c (vs.drop n) (ds.drop n)
  | _, _, 0, r => by simpa using r
  | _, _, _ + 1, .nil => .nil
  | _, _, n + 1, .cons _ b => by simpa using RVs.drop n b
theorem RVs.reverse {vs : List V} {ds : List D} (r : RVs g F c vs ds) : RVs g F c vs.reverse ds.reverse := by
  induction r using RVs.rec (motive_1 := fun _ _ _ => True) (motive_3 := fun _ _ _ => True) (motive_4 := fun _ _ _ => True) with
  | nil => exact .nil
  | cons a b _ ih => simp only [List.reverse_cons]; exact ih.append (.cons a .nil)
  | _ => trivial
end

/-! ### the state: H what is tracked, F what stands still, c where the cells lie -/
def CR (g : Gd) (H F : Hp) (c : List Addr) (a : Addr) : Cell → Prop
  | .lst ds => F a = none ∧ ∃ vs, H a = some (.lst vs) ∧ RVs g F c vs ds
  | .dct ks => F a = none ∧ ∃ kvs, H a = some (.dK kvs) ∧ RKs g F c kvs ks
  | .set l => F a = none ∧ H a = some (SetK g.P g.w a (fun k => (l.map kk).contains k) l.length)
  | .ins n gs => F a = none ∧ ∃ C dx fs, g.mg n = some (.ref C) ∧ H a = some (.ins C dx fs) ∧ RFs g F c fs gs
  | .fz d => RV g F c (.ref a) d ∧ ∃ o, H a = some o
structure Ih (g : Gd) (H F : Hp) (c : List Addr) (cs : Cells) : Prop where
  sub : ∀ a o, F a = some o → H a = some o
  len : c.length = cs.length
  nd : c.Nodup
  cell : ∀ (n : Nat) (a : Addr) (x : Cell), c[n]? = some a → cs[n]? = some x → CR g H F c a x
structure Xt (H F : Hp) (c : List Addr) (H' F' : Hp) (c' : List Addr) : Prop where
  le : Le F c F' c'
  kp : ∀ a o, H a = some o → a ∉ c → H' a = some o
  dom : ∀ a o, H a = some o → ∃ o', H' a = some o'
  new : ∀ a, a ∈ c' → a ∉ c → H a = none
  out : ∀ a o, H a = some o → F a = none → a ∉ c → F' a = none
theorem Xt.refl (H F : Hp) (c : List Addr) : Xt H F c H F c := ⟨Le.refl F c, fun _ _ h _ => h, fun _ o h => ⟨o, h⟩, fun a h n => absurd h n, fun _ _ _ h _ => h⟩
theorem Xt.trans {H F H1 F1 H2 F2 : Hp} {c c1 c2 : List Addr} (a : Xt H F c H1 F1 c1) (b : Xt H1 F1 c1 H2 F2 c2) : Xt H F c H2 F2 c2 := by
  refine ⟨a.le.trans b.le, fun x o h n => ?_, fun x o h => ?_, fun x h n => ?_, fun x o h f n => ?_⟩
  · refine b.kp x o (a.kp x o h n) fun m => ?_
    have := a.new x m n
    rw [h] at this; cases this
  · obtain ⟨o1, h1⟩ := a.dom x o h
    exact b.dom x o1 h1
  · by_cases m : x ∈ c1
    · exact a.new x m n
    · have := b.new x h m
      cases e : H x with
      | none => rfl
      | some o => obtain ⟨o1, h1⟩ := a.dom x o e; rw [this] at h1; cases h1
  · obtain ⟨o1, h1⟩ := a.dom x o h
    refine b.out x o1 h1 (a.out x o h f n) fun m => ?_
    have := a.new x m n
    rw [h] at this; cases this

section
variable {g : Gd} {H F : Hp} {c : List Addr} {cs : Cells}
theorem Ih.there (I : Ih g H F c cs) {n : Nat} {a : Addr} (h : c[n]? = some a) : ∃ x, cs[n]? = some x := by
  have hl : n < c.length := (List.getElem?_eq_some_iff.mp h).1
  exact ⟨cs[n]'(by rw [← I.len]; exact hl), by rw [List.getElem?_eq_getElem]⟩
theorem Ih.at (I : Ih g H F c cs) {n : Nat} {x : Cell} (h : cs[n]? = some x) : ∃ a, c[n]? = some a ∧ CR g H F c a x := by
  have hl : n < cs.length := (List.getElem?_eq_some_iff.mp h).1
  have hl' : n < c.length := by rw [I.len]; exact hl
  exact ⟨c[n], List.getElem?_eq_getElem hl', I.cell n _ x (List.getElem?_eq_getElem hl') h⟩
theorem CR.tracked {a : Addr} {x : Cell} (h : CR g H F c a x) : ∃ o, H a = some o := by
  cases x with
  | lst l => obtain ⟨_, vs, h, _⟩ := h; exact ⟨_, h⟩
  | dct l => obtain ⟨_, vs, h, _⟩ := h; exact ⟨_, h⟩
  | set l => obtain ⟨_, h⟩ := h; exact ⟨_, h⟩
  | ins n l => obtain ⟨_, C, dx, fs, _, h, _⟩ := h; exact ⟨_, h⟩
  | fz d => exact h.2
theorem Ih.mem (I : Ih g H F c cs) {a : Addr} (h : a ∈ c) : ∃ o, H a = some o := by
  obtain ⟨n, hn⟩ := List.getElem?_of_mem h
  obtain ⟨x, hx⟩ := I.there hn
  exact CR.tracked (I.cell n a x hn hx)
theorem Ih.notMem (I : Ih g H F c cs) {a : Addr} (h : H a = none) : a ∉ c := fun m => by
  obtain ⟨o, e⟩ := I.mem m
  rw [h] at e; cases e
theorem Ih.noF (I : Ih g H F c cs) {a : Addr} (h : H a = none) : F a = none := by
  cases e : F a with
  | none => rfl
  | some o => rw [I.sub a o e] at h; cases h
/-- what stands still is no cell that changes -/
def Cell.live : Cell → Bool
  | .fz _ => false
  | _ => true
theorem CR.free {a : Addr} {x : Cell} (h : CR g H F c a x) (l : x.live = true) : F a = none := by
  cases x with
  | fz d => cases l
  | lst l => exact h.1
  | dct l => exact h.1
  | set l => exact h.1
  | ins n l => exact h.1
theorem Ih.inj (I : Ih g H F c cs) {n m : Nat} {a : Addr} (h : c[n]? = some a) (h' : c[m]? = some a) : n = m := by
  obtain ⟨h1, e1⟩ := List.getElem?_eq_some_iff.mp h
  obtain ⟨h2, e2⟩ := List.getElem?_eq_some_iff.mp h'
  exact (List.getElem_inj I.nd).mp (e1.trans e2.symm)

/-- a cell's facts where what is around it has grown -/
theorem CR.mono {H' F' : Hp} {c' : List Addr} {a : Addr} {x : Cell} (h : CR g H F c a x) (e : Le F c F' c') (hH : ∀ o, H a = some o → H' a = some o) (hF : F a = none → F' a = none) : CR g H' F' c' a x := by
  cases x with
  | lst l => obtain ⟨f, vs, h, r⟩ := h; exact ⟨hF f, vs, hH _ h, r.mono e⟩
  | dct l => obtain ⟨f, vs, h, r⟩ := h; exact ⟨hF f, vs, hH _ h, r.mono e⟩
  | set l => obtain ⟨f, h⟩ := h; exact ⟨hF f, hH _ h⟩
  | ins n l => obtain ⟨f, C, dx, fs, m, h, r⟩ := h; exact ⟨hF f, C, dx, fs, m, hH _ h, r.mono e⟩
  | fz d => obtain ⟨r, o, h⟩ := h; exact ⟨r.mono e, o, hH _ h⟩

/-- a new object that stands still -/
theorem Le.upd (hn : F p = none) : Le F c (upd F p o) c := Le.of (fun a u e => by rw [upd_ne (ne_of_none e hn)]; exact e) fun _ _ e => e
theorem Ih.still (I : Ih g H F c cs) {p : Addr} {o : HO} (hp : H p = none) : Ih g (upd H p o) (upd F p o) c cs := by
  have hF := I.noF hp
  refine ⟨fun a u e => ?_, I.len, I.nd, fun n a x h1 h2 => ?_⟩
  · by_cases hb : a = p
    · subst hb; rw [upd_same] at e ⊢; exact e
    · rw [upd_ne hb] at e ⊢; exact I.sub a u e
  · have q := I.cell n a x h1 h2
    have hne : a ≠ p := fun e => by
      obtain ⟨u, hu⟩ := CR.tracked q
      rw [e, hp] at hu; cases hu
    exact CR.mono q (Le.upd hF) (fun u e => by rw [upd_ne hne]; exact e) (fun e => by rw [upd_ne hne]; exact e)
theorem Xt.still (I : Ih g H F c cs) {p : Addr} {o : HO} (hp : H p = none) : Xt H F c (L2.upd H p o) (L2.upd F p o) c :=
  ⟨Le.upd (I.noF hp), fun a u e _ => by rw [upd_ne (ne_of_none e hp)]; exact e, fun a u e => ⟨u, by rw [upd_ne (ne_of_none e hp)]; exact e⟩, fun a h n => absurd h n, fun a u e f _ => by rw [upd_ne (ne_of_none e hp)]; exact f⟩
/-- a new cell -/
theorem Le.push : Le F c F (c ++ [p]) := Le.of (fun _ _ e => e) fun n a e => by
  rw [List.getElem?_append_left (List.getElem?_eq_some_iff.mp e).1]; exact e
theorem Ih.push (I : Ih g H F c cs) {p : Addr} {o : HO} {x : Cell} (hp : H p = none) (hx : CR g (L2.upd H p o) F (c ++ [p]) p x) : Ih g (L2.upd H p o) F (c ++ [p]) (cs ++ [x]) := by
  refine ⟨fun a u e => ?_, by simp [I.len], ?_, fun n a y h1 h2 => ?_⟩
  · have := I.sub a u e
    rw [upd_ne (ne_of_none this hp)]; exact this
  · rw [List.nodup_append]
    refine ⟨I.nd, by simp, fun a ha b hb => ?_⟩
    have : b = p := by simpa using hb
    subst this
    rintro rfl
    exact I.notMem hp ha
  · by_cases hlt : n < c.length
    · rw [List.getElem?_append_left hlt] at h1
      rw [List.getElem?_append_left (by rw [← I.len]; exact hlt)] at h2
      have q := I.cell n a y h1 h2
      have hne : a ≠ p := fun e => by
        obtain ⟨u, hu⟩ := CR.tracked q
        rw [e, hp] at hu; cases hu
      exact CR.mono q Le.push (fun u e => by rw [upd_ne hne]; exact e) (fun e => e)
    · have hl : n < (c ++ [p]).length := (List.getElem?_eq_some_iff.mp h1).1
      have hn : n = c.length := by simp at hl; omega
      subst hn
      rw [List.getElem?_append_right (Nat.le_refl _)] at h1
      rw [I.len, List.getElem?_append_right (Nat.le_refl _)] at h2
      simp at h1 h2
      subst h1; subst h2
      exact hx
theorem Xt.push (I : Ih g H F c cs) {p : Addr} {o : HO} (hp : H p = none) : Xt H F c (L2.upd H p o) F (c ++ [p]) :=
  ⟨Le.push, fun a u e _ => by rw [upd_ne (ne_of_none e hp)]; exact e, fun a u e => ⟨u, by rw [upd_ne (ne_of_none e hp)]; exact e⟩, fun a h n => by
    rcases List.mem_append.mp h with h | h
    · exact absurd h n
    · have : a = p := by simpa using h
      rw [this]; exact hp, fun _ _ _ f _ => f⟩
/-- a cell is written -/
theorem Ih.write (I : Ih g H F c cs) {n : Nat} {a : Addr} {x0 x : Cell} {o : HO} (ha : c[n]? = some a) (h0 : cs[n]? = some x0) (hl : x0.live = true) (hx : CR g (L2.upd H a o) F c a x) : Ih g (L2.upd H a o) F c (cs.set n x) := by
  have hF := CR.free (I.cell n a x0 ha h0) hl
  refine ⟨fun b u e => ?_, by simp [I.len], I.nd, fun m b y h1 h2 => ?_⟩
  · rw [upd_ne (ne_of_none e hF)]; exact I.sub b u e
  · by_cases hm : m = n
    · subst hm
      rw [ha] at h1; cases h1
      have hlt : m < cs.length := (List.getElem?_eq_some_iff.mp h0).1
      rw [List.getElem?_set_self hlt] at h2
      cases h2
      exact hx
    · rw [List.getElem?_set_ne (Ne.symm hm)] at h2
      have hne : b ≠ a := fun e => hm (I.inj (e ▸ h1) ha)
      exact CR.mono (I.cell m b y h1 h2) (Le.refl F c) (fun u e => by rw [upd_ne hne]; exact e) (fun e => e)
theorem Xt.write (I : Ih g H F c cs) {n : Nat} {a : Addr} {o : HO} (ha : c[n]? = some a) : Xt H F c (L2.upd H a o) F c := by
  have hm : a ∈ c := List.mem_of_getElem? ha
  refine ⟨Le.refl F c, fun b u e hb => ?_, fun b u e => ?_, fun b h hb => absurd h hb, fun _ _ _ f _ => f⟩
  · rw [upd_ne (fun z => hb (by rw [z]; exact hm))]; exact e
  · by_cases hb : b = a
    · subst hb; exact ⟨o, upd_same⟩
    · exact ⟨u, by rw [upd_ne hb]; exact e⟩
end

/-! ### the frame -/
def RE (g : Gd) (F : Hp) (c : List Addr) (σ : L2.St) (env : Env) : Prop :=
  σ.length = env.length ∧ ∀ (i : Nat) (d : D), env[i]? = some (some d) → ∃ v, σ[i]? = some (some v) ∧ RV g F c v d
section
variable {g : Gd} {F F' : Hp} {c c' : List Addr} {σ : L2.St} {env : Env}
theorem RE.mono (h : RE g F c σ env) (e : Le F c F' c') : RE g F' c' σ env := ⟨h.1, fun i d q => by
  obtain ⟨v, a, b⟩ := h.2 i d q
  exact ⟨v, a, b.mono e⟩⟩
theorem RE.set (h : RE g F c σ env) (i : Nat) {v : V} {d : D} (r : RV g F c v d) : RE g F c (σ.set i (some v)) (env.set i (some d)) := by
  refine ⟨by simp [h.1], fun j e q => ?_⟩
  by_cases hj : j = i
  · subst hj
    by_cases hl : j < env.length
    · rw [List.getElem?_set_self hl] at q
      cases q
      exact ⟨v, by rw [List.getElem?_set_self (by rw [h.1]; exact hl)], r⟩
    · rw [List.getElem?_eq_none (by simp; omega)] at q; cases q
  · rw [List.getElem?_set_ne (Ne.symm hj)] at q
    rw [List.getElem?_set_ne (Ne.symm hj)]
    exact h.2 j e q
theorem RE.unset (h : RE g F c σ env) (i : Nat) : RE g F c (σ.set i none) (env.set i none) := by
  refine ⟨by simp [h.1], fun j e q => ?_⟩
  by_cases hj : j = i
  · subst hj
    by_cases hl : j < env.length
    · rw [List.getElem?_set_self hl] at q; cases q
    · rw [List.getElem?_eq_none (by simp; omega)] at q; cases q
  · rw [List.getElem?_set_ne (Ne.symm hj)] at q
    rw [List.getElem?_set_ne (Ne.symm hj)]
    exact h.2 j e q
end

/-! ### what is wanted behind a piece -/
abbrev Q3 := Hp → Hp → List Addr → Prop
/-- all that comes out of (H, F, c) and has the cells cs -/
def Fw (g : Gd) (H F : Hp) (c : List Addr) (cs : Cells) (κ : Q3) : Prop := ∀ H' F' c', Xt H F c H' F' c' → Ih g H' F' c' cs → κ H' F' c'
def ExK (g : Gd) (W : XK) (H F : Hp) (c : List Addr) (n : Str) (fs : List (Str × D)) (cs : Cells) : Prop :=
  Fw g H F c cs fun H' F' c' => ∀ C dx vs, g.mg n = some (.ref C) → H' dx = some (.xd vs) → RFs g F' c' vs fs → W (.ref C) (some dx) H'
def PoE (g : Gd) (W : XK) (H F : Hp) (c : List Addr) (r : R) (Q : VK) : Prop :=
  match r with
  | .ok d cs => Fw g H F c cs fun H' F' c' => ∀ v, RV g F' c' v d → Q v H'
  | .exc n fs cs => ExK g W H F c n fs cs
  | .stuck => False
def PoA (g : Gd) (W : XK) (H F : Hp) (c : List Addr) (r : RA) (Q : List V → Hp → Prop) : Prop :=
  match r with
  | .ok ds cs => Fw g H F c cs fun H' F' c' => ∀ vs, RVs g F' c' vs ds → Q vs H'
  | .exc n fs cs => ExK g W H F c n fs cs
  | .stuck => False
def PoT (g : Gd) (W : XK) (H F : Hp) (c : List Addr) (r : R) (Q : Bool → Hp → Prop) : Prop :=
  match r with
  | .ok (.bl b) cs => Fw g H F c cs fun H' _ _ => Q b H'
  | .exc n fs cs => ExK g W H F c n fs cs
  | _ => False
def PoS (g : Gd) (W : WX) (Dn : Ends) (H F : Hp) (c : List Addr) (r : S) : Prop :=
  match r with
  | .nx env cs => Fw g H F c cs fun H' F' c' => ∀ σ, RE g F' c' σ env → Dn.nx σ H'
  | .rt d cs => Fw g H F c cs fun H' F' c' => ∀ v, RV g F' c' v d → Dn.rt v H'
  | .bk env cs => Fw g H F c cs fun H' F' c' => ∀ σ, RE g F' c' σ env → Dn.bk σ H'
  | .ct env cs => Fw g H F c cs fun H' F' c' => ∀ σ, RE g F' c' σ env → Dn.ct σ H'
  | .exc n fs env cs => Fw g H F c cs fun H' F' c' => ∀ σ C dx vs, RE g F' c' σ env → g.mg n = some (.ref C) → H' dx = some (.xd vs) → RFs g F' c' vs fs → W (.ref C) (some dx) σ H'
  | .stuck => False

/-! ### the judgements: a piece of the text does what the plain function says -/
def Xp (X : Cx) (W : WX) (e : Expr) (m : ME) : Prop := ∃ t, PE X e t ∧ ∀ σ env H F c cs Q, RE (gd X) F c σ env → Ih (gd X) H F c cs → PoE (gd X) (fun a b => W a b σ) H F c (m env cs) Q → t σ H Q
def Xt1 (X : Cx) (W : WX) (e : Expr) (m : ME) : Prop := ∃ t, PT X e t ∧ ∀ σ env H F c cs Q, RE (gd X) F c σ env → Ih (gd X) H F c cs → PoT (gd X) (fun a b => W a b σ) H F c (m env cs) Q → t σ H Q
def Xw (X : Cx) (W : WX) (e : Expr) (m : ME) : Prop := ∃ t, PW X e t ∧ ∀ σ env H F c cs Q, RE (gd X) F c σ env → Ih (gd X) H F c cs → PoT (gd X) (fun a b => W a b σ) H F c (m env cs) Q → t σ H Q
def Xa (X : Cx) (W : WX) (es : List Expr) (m : MA) : Prop := ∃ t, PA X es t ∧ ∀ σ env H F c cs Q, RE (gd X) F c σ env → Ih (gd X) H F c cs → PoA (gd X) (fun a b => W a b σ) H F c (m env cs) Q → t σ H Q
def Sm (X : Cx) (W : WX) (st : Stmt) (m : MS) : Prop := ∃ t, PS X st t ∧ ∀ σ env H F c cs Dn, RE (gd X) F c σ env → Ih (gd X) H F c cs → PoS (gd X) W Dn H F c (m env cs) → t Dn σ H
def Sms (X : Cx) (W : WX) (st : List Stmt) (m : MS) : Prop := ∃ t, PSs X st t ∧ ∀ σ env H F c cs Dn, RE (gd X) F c σ env → Ih (gd X) H F c cs → PoS (gd X) W Dn H F c (m env cs) → t Dn σ H

theorem Fw.from {g : Gd} {H F H1 F1 : Hp} {c c1 : List Addr} {cs : Cells} {κ κ' : Q3} (x : Xt H F c H1 F1 c1) (h : Fw g H F c cs κ) (k : ∀ H' F' c', κ H' F' c' → κ' H' F' c') : Fw g H1 F1 c1 cs κ' :=
  fun H' F' c' y I => k _ _ _ (h H' F' c' (x.trans y) I)
theorem ExK.from {g : Gd} {W : XK} {H F H1 F1 : Hp} {c c1 : List Addr} {n : Str} {fs : List (Str × D)} {cs : Cells} (x : Xt H F c H1 F1 c1) (h : ExK g W H F c n fs cs) : ExK g W H1 F1 c1 n fs cs := Fw.from x h fun _ _ _ k => k
theorem PoE.from {g : Gd} {W : XK} {H F H1 F1 : Hp} {c c1 : List Addr} {r : R} {Q : VK} (x : Xt H F c H1 F1 c1) (h : PoE g W H F c r Q) : PoE g W H1 F1 c1 r Q := by
  cases r with
  | ok d cs => exact Fw.from x h fun _ _ _ k => k
  | exc n fs cs => exact ExK.from x h
  | stuck => exact h
theorem PoT.from {g : Gd} {W : XK} {H F H1 F1 : Hp} {c c1 : List Addr} {r : R} {Q : Bool → Hp → Prop} (x : Xt H F c H1 F1 c1) (h : PoT g W H F c r Q) : PoT g W H1 F1 c1 r Q := by
  cases r with
  | ok d cs => cases d <;> first | exact h | exact Fw.from x h fun _ _ _ k => k
  | exc n fs cs => exact ExK.from x h
  | stuck => exact h
theorem PoA.from {g : Gd} {W : XK} {H F H1 F1 : Hp} {c c1 : List Addr} {r : RA} {Q : List V → Hp → Prop} (x : Xt H F c H1 F1 c1) (h : PoA g W H F c r Q) : PoA g W H1 F1 c1 r Q := by
  cases r with
  | ok d cs => exact Fw.from x h fun _ _ _ k => k
  | exc n fs cs => exact ExK.from x h
  | stuck => exact h
theorem PoS.from {g : Gd} {W : WX} {Dn : Ends} {H F H1 F1 : Hp} {c c1 : List Addr} {r : S} (x : Xt H F c H1 F1 c1) (h : PoS g W Dn H F c r) : PoS g W Dn H1 F1 c1 r := by
  cases r <;> first | exact h | exact Fw.from x h fun _ _ _ k => k

/-- the bind: what is wanted of the whole, from what the first part gives -/
theorem PoE.cut {g : Gd} {W : XK} {H F : Hp} {c : List Addr} {r : R} {k : D → Cells → R} {Q : VK} (h : PoE g W H F c (r.bind k) Q) :
    ∀ Q' : VK, (∀ d cs, r = .ok d cs → ∀ H1 F1 c1 v, Xt H F c H1 F1 c1 → Ih g H1 F1 c1 cs → RV g F1 c1 v d → PoE g W H1 F1 c1 (k d cs) Q → Q' v H1) → PoE g W H F c r Q' := by
  intro Q' hk
  cases r with
  | ok d cs => exact fun H1 F1 c1 x I v rv => hk d cs rfl H1 F1 c1 v x I rv (PoE.from x h)
  | exc n fs cs => exact h
  | stuck => exact h
theorem PoE.here {g : Gd} {W : XK} {H F : Hp} {c : List Addr} {cs : Cells} {d : D} {Q : VK} {v : V} (I : Ih g H F c cs) (r : RV g F c v d) (h : PoE g W H F c (.ok d cs) Q) : Q v H := h H F c (Xt.refl H F c) I v r
theorem PoT.here {g : Gd} {W : XK} {H F : Hp} {c : List Addr} {cs : Cells} {b : Bool} {Q : Bool → Hp → Prop} (I : Ih g H F c cs) (h : PoT g W H F c (.ok (.bl b) cs) Q) : Q b H := h H F c (Xt.refl H F c) I
end L3

namespace L3
open PySem L2

/-! ### names, constants -/
def eVar (i : Nat) : ME := fun env cs => match env[i]? with
  | some (some d) => .ok d cs
  | _ => .stuck
def eC (d : D) : ME := fun _ cs => .ok d cs

section
variable {X : Cx} {W : WX} {pos : Pos}
theorem xp_var {i : Nat} {x : Str} (hN : X.N[i]? = some x) (hv : Vis X.env.scope x) (hd : (x == ("__debug__" : Str)) = false := by decide) (hcd : (x == ("__classdict__" : Str)) = false := by decide) : Xp X W (.Name x pos) (eVar i) := by
  refine ⟨_, pe_var hN hv hd hcd, fun σ env H F c cs Q re I po => ?_⟩
  unfold eVar at po
  cases e : env[i]? with
  | none => rw [e] at po; exact po.elim
  | some o =>
    cases o with
    | none => rw [e] at po; exact po.elim
    | some d =>
      rw [e] at po
      obtain ⟨v, hv, rv⟩ := re.2 i d e
      exact ⟨v, hv, PoE.here I rv po⟩
theorem xp_int {i : Int} {j} : Xp X W (.Constant (.int i) j pos) (eC (.int i)) := ⟨_, pe_int, fun _ _ _ _ _ _ _ _ I po => PoE.here I (.int i) po⟩
theorem xp_bl {b : Bool} {j} : Xp X W (.Constant (.bool b) j pos) (eC (.bl b)) := ⟨_, pe_bl, fun _ _ _ _ _ _ _ _ I po => PoE.here I (.bl b) po⟩
theorem xp_non {j} : Xp X W (.Constant .none j pos) (eC .non) := ⟨_, pe_non, fun _ _ _ _ _ _ _ _ I po => PoE.here I .non po⟩
theorem xp_str {x : Str} {l : List Nat} {j} (h : x = ⟨l.toArray⟩) : Xp X W (.Constant (.str x) j pos) (eC (.str l)) := by
  subst h
  exact ⟨_, pe_str, fun _ _ _ _ _ _ _ _ I po => PoE.here I (.str l) po⟩
/-- a module's constant -/
theorem xp_glob {x : Str} {u : Value} {v : V} {d : D} (hg : Gl X x) (hm : X.mg x = some u) (r : RelV v u) (rv : ∀ g F c, RV g F c v d) (hd : (x == ("__debug__" : Str)) = false := by decide) : Xp X W (.Name x pos) (eC d) :=
  ⟨_, pe_glob hg hm r hd, fun _ _ _ _ _ _ _ _ I po => PoE.here I (rv _ _ _) po⟩
theorem xp_globS {x z : Str} {t : Tok} {l : List Nat} (hg : Gl X x) (hm : X.mg x = some (.str z t)) (h : z = ⟨l.toArray⟩) (hd : (x == ("__debug__" : Str)) = false := by decide) : Xp X W (.Name x pos) (eC (.str l)) := by
  subst h
  exact xp_glob hg hm (v := .str ⟨l.toArray⟩) ⟨_, rfl⟩ (fun _ _ _ => .str l) hd
theorem xp_globI {x : Str} {t : Tok} {i : Int} (hg : Gl X x) (hm : X.mg x = some (.int i t)) (hd : (x == ("__debug__" : Str)) = false := by decide) : Xp X W (.Name x pos) (eC (.int i)) :=
  xp_glob hg hm (v := .int i) ⟨_, rfl⟩ (fun _ _ _ => .int i) hd
end

/-! ### operations on values -/
def op2 (f : Cells → D → D → R) (a b : ME) : ME := fun env cs => (a env cs).bind fun x cs1 => (b env cs1).bind fun y cs2 => f cs2 x y
def op1 (f : Cells → D → R) (a : ME) : ME := fun env cs => (a env cs).bind fun x cs1 => f cs1 x
/-- an operation's rule does what f says -/
def O2 (g : Gd) (r : R2) (f : Cells → D → D → R) : Prop := ∀ (W : XK) (H F : Hp) (c : List Addr) (cs : Cells) (x y : V) (d e : D) (Q : VK), Ih g H F c cs → RV g F c x d → RV g F c y e → PoE g W H F c (f cs d e) Q → r x y H Q
def O1 (g : Gd) (r : V → Hp → VK → Prop) (f : Cells → D → R) : Prop := ∀ (W : XK) (H F : Hp) (c : List Addr) (cs : Cells) (x : V) (d : D) (Q : VK), Ih g H F c cs → RV g F c x d → PoE g W H F c (f cs d) Q → r x H Q
theorem O2.or {g : Gd} {r r' : R2} {f f' h : Cells → D → D → R} (a : O2 g r f) (b : O2 g r' f') (e : ∀ cs d e, h cs d e = f cs d e ∨ h cs d e = f' cs d e) : O2 g (fun x y H Q => r x y H Q ∨ r' x y H Q) h :=
  fun W H F c cs x y d e' Q I rx ry po => by
    rcases e cs d e' with q | q
    · rw [q] at po; exact .inl (a W H F c cs x y d e' Q I rx ry po)
    · rw [q] at po; exact .inr (b W H F c cs x y d e' Q I rx ry po)

section
variable {X : Cx} {W : WX} {pos : Pos} {a b c : Expr} {ma mb mc : ME}
/-- two parts, then what f says -/
theorem sim2 {ta tb : TE} {r : R2} {f : Cells → D → D → R} {σ : L2.St} {env : Env} {H F : Hp} {c : List Addr} {cs : Cells} {Q : VK}
    (ha : ∀ σ env H F c cs Q, RE (gd X) F c σ env → Ih (gd X) H F c cs → PoE (gd X) (fun a b => W a b σ) H F c (ma env cs) Q → ta σ H Q)
    (hb : ∀ σ env H F c cs Q, RE (gd X) F c σ env → Ih (gd X) H F c cs → PoE (gd X) (fun a b => W a b σ) H F c (mb env cs) Q → tb σ H Q)
    (ho : O2 (gd X) r f) (re : RE (gd X) F c σ env) (I : Ih (gd X) H F c cs) (po : PoE (gd X) (fun a b => W a b σ) H F c (op2 f ma mb env cs) Q) : tOp r ta tb σ H Q := by
  refine ha σ env H F c cs _ re I (PoE.cut po _ fun d cs1 _ H1 F1 c1 v x1 I1 rv po1 => ?_)
  refine hb σ env H1 F1 c1 cs1 _ (re.mono x1.le) I1 (PoE.cut po1 _ fun e cs2 _ H2 F2 c2 u x2 I2 ru po2 => ?_)
  exact ho _ H2 F2 c2 cs2 v u d e Q I2 (rv.mono x2.le) ru po2
theorem xp_op {op : Operator} {r : R2} {f : Cells → D → D → R} (h : OpR X (binaryOp op) r) (o : O2 (gd X) r f) (ha : Xp X W a ma) (hb : Xp X W b mb) : Xp X W (.BinOp a op b pos) (op2 f ma mb) := by
  obtain ⟨ta, pa, sa⟩ := ha
  obtain ⟨tb, pb, sb⟩ := hb
  exact ⟨_, pe_op h pa pb, fun σ env H F c cs Q re I po => sim2 sa sb o re I po⟩
theorem xp_cmp {op : CmpOp} {r : R2} {f : Cells → D → D → R} (h : OpR X (compareOp op) r) (o : O2 (gd X) r f) (ha : Xp X W a ma) (hb : Xp X W b mb) (hm : behindInMarks op b = false) : Xp X W (.Compare a [op] [b] pos) (op2 f ma mb) := by
  obtain ⟨ta, pa, sa⟩ := ha
  obtain ⟨tb, pb, sb⟩ := hb
  exact ⟨_, pe_cmpR h pa pb hm, fun σ env H F c cs Q re I po => sim2 sa sb o re I po⟩
theorem xp_un {op : UnaryOp} {r : V → Hp → VK → Prop} {f : Cells → D → R} (h : UnR X (unaryOp op) r) (o : O1 (gd X) r f) (ha : Xp X W a ma) : Xp X W (.UnaryOp op a pos) (op1 f ma) := by
  obtain ⟨ta, pa, sa⟩ := ha
  refine ⟨_, pe_un h pa, fun σ env H F c cs Q re I po => ?_⟩
  exact sa σ env H F c cs _ re I (PoE.cut po _ fun d cs1 _ H1 F1 c1 v x1 I1 rv po1 => o _ H1 F1 c1 cs1 v d Q I1 rv po1)
/-- a value that is a truth, as a test -/
theorem xt_val (ha : Xp X W a ma) (he : ∀ whole, isTrue a X.env whole = (do let v ← whole; standAt a.pos; holding [v] (truthy v)) := by intro _; rfl) : Xt1 X W a ma := by
  obtain ⟨ta, pa, sa⟩ := ha
  refine ⟨_, pt_val pa he, fun σ env H F c cs Q re I po => ?_⟩
  refine sa σ env H F c cs _ re I ?_
  cases e : ma env cs with
  | ok d cs1 =>
    rw [e] at po
    cases d with
    | bl b => exact fun H' F' c' x I' v rv => by cases rv; exact ⟨b, rfl, po H' F' c' x I'⟩
    | _ => exact po.elim
  | exc n fs cs1 => rw [e] at po; exact po
  | stuck => rw [e] at po; exact po.elim
theorem Xw.t (h : Xw X W a ma) : Xt1 X W a ma := by
  obtain ⟨t, p, s⟩ := h
  exact ⟨t, p.pt, s⟩

/-! ### and, or, not, if .. else -/
/-- two ways on, by a truth -/
def brD (x : D) (cs : Cells) (a b : Cells → R) : R := match x with
  | .bl true => a cs
  | .bl false => b cs
  | _ => .stuck
@[simp] theorem brD_true (cs : Cells) (a b : Cells → R) : brD (.bl true) cs a b = a cs := rfl
@[simp] theorem brD_false (cs : Cells) (a b : Cells → R) : brD (.bl false) cs a b = b cs := rfl
def eAnd (a b : ME) : ME := fun env cs => (a env cs).bind fun x cs1 => brD x cs1 (b env) fun cs2 => .ok (.bl false) cs2
def eOr (a b : ME) : ME := fun env cs => (a env cs).bind fun x cs1 => brD x cs1 (fun cs2 => .ok (.bl true) cs2) (b env)
def notD (cs : Cells) : D → R
  | .bl b => .ok (.bl !b) cs
  | _ => .stuck
def eNot (a : ME) : ME := op1 notD a
def eIf (t a b : ME) : ME := fun env cs => (t env cs).bind fun x cs1 => brD x cs1 (a env) (b env)

theorem PoE.br {g : Gd} {W : XK} {H F : Hp} {c : List Addr} {r : R} {fa fb : Cells → R} {Q : VK} (h : PoE g W H F c (r.bind fun x cs1 => brD x cs1 fa fb) Q) :
    ∀ Q' : Bool → Hp → Prop, (∀ b cs, r = .ok (.bl b) cs → ∀ H1 F1 c1, Xt H F c H1 F1 c1 → Ih g H1 F1 c1 cs → PoE g W H1 F1 c1 (if b = true then fa cs else fb cs) Q → Q' b H1) → PoT g W H F c r Q' := by
  intro Q' hq
  cases r with
  | ok d cs =>
    cases d with
    | bl b => exact fun H1 F1 c1 x I => hq b cs rfl H1 F1 c1 x I (by cases b <;> exact PoE.from x h)
    | _ => exact h.elim
  | exc n fs cs => exact h
  | stuck => exact h.elim
theorem PoT.br {g : Gd} {W : XK} {H F : Hp} {c : List Addr} {r : R} {fa fb : Cells → R} {Q : Bool → Hp → Prop} (h : PoT g W H F c (r.bind fun x cs1 => brD x cs1 fa fb) Q) :
    ∀ Q' : Bool → Hp → Prop, (∀ b cs, r = .ok (.bl b) cs → ∀ H1 F1 c1, Xt H F c H1 F1 c1 → Ih g H1 F1 c1 cs → PoT g W H1 F1 c1 (if b = true then fa cs else fb cs) Q → Q' b H1) → PoT g W H F c r Q' := by
  intro Q' hq
  cases r with
  | ok d cs =>
    cases d with
    | bl b => exact fun H1 F1 c1 x I => hq b cs rfl H1 F1 c1 x I (by cases b <;> exact PoT.from x h)
    | _ => exact h.elim
  | exc n fs cs => exact h
  | stuck => exact h.elim
theorem PoT.map {g : Gd} {W : XK} {H F : Hp} {c : List Addr} {r : R} {Q : Bool → Hp → Prop} (h : PoT g W H F c (r.bind fun x cs1 => notD cs1 x) Q) : PoT g W H F c r fun b H1 => Q (!b) H1 := by
  cases r with
  | ok d cs =>
    cases d with
    | bl b => exact h
    | _ => exact h.elim
  | exc n fs cs => exact h
  | stuck => exact h.elim

theorem xp_if (ht : Xt1 X W c mc) (ha : Xp X W a ma) (hb : Xp X W b mb) : Xp X W (.IfExp c a b pos) (eIf mc ma mb) := by
  obtain ⟨tc, pc, sc⟩ := ht
  obtain ⟨ta, pa, sa⟩ := ha
  obtain ⟨tb, pb, sb⟩ := hb
  refine ⟨_, pe_ifExp pc pa pb, fun σ env H F c cs Q re I po => ?_⟩
  refine sc σ env H F c cs _ re I (PoE.br po _ fun b cs1 _ H1 F1 c1 x I1 po1 => ?_)
  cases b with
  | true => exact iteT (sa σ env H1 F1 c1 cs1 Q (re.mono x.le) I1 po1)
  | false => exact iteF (sb σ env H1 F1 c1 cs1 Q (re.mono x.le) I1 po1)

/-- .. of truths, as values -/
theorem xp_and {rest : List Expr} {p2 : Pos} (ha : Xp X W a ma) (hb : Xp X W (.BoolOp .And (b :: rest) pos) mb) : Xp X W (.BoolOp .And (a :: b :: rest) pos) (eAnd ma mb) := by
  obtain ⟨ta, pa, sa⟩ := ha
  obtain ⟨tb, pb, sb⟩ := hb
  refine ⟨_, pe_and pa pb, fun σ env H F c cs Q re I po => ?_⟩
  refine sa σ env H F c cs _ re I (PoE.cut po _ fun d cs1 _ H1 F1 c1 v x1 I1 rv po1 => ?_)
  cases d with
  | bl k =>
    cases rv
    cases k with
    | true => exact ⟨true, rfl, iteT (sb σ env H1 F1 c1 cs1 Q (re.mono x1.le) I1 po1)⟩
    | false => exact ⟨false, rfl, iteF (PoE.here I1 (.bl false) po1)⟩
  | _ => exact po1.elim
theorem xp_or {rest : List Expr} {p2 : Pos} (ha : Xp X W a ma) (hb : Xp X W (.BoolOp .Or (b :: rest) pos) mb) : Xp X W (.BoolOp .Or (a :: b :: rest) pos) (eOr ma mb) := by
  obtain ⟨ta, pa, sa⟩ := ha
  obtain ⟨tb, pb, sb⟩ := hb
  refine ⟨_, pe_or pa pb, fun σ env H F c cs Q re I po => ?_⟩
  refine sa σ env H F c cs _ re I (PoE.cut po _ fun d cs1 _ H1 F1 c1 v x1 I1 rv po1 => ?_)
  cases d with
  | bl k =>
    cases rv
    cases k with
    | true => exact ⟨true, rfl, iteT (PoE.here I1 (.bl true) po1)⟩
    | false => exact ⟨false, rfl, iteF (sb σ env H1 F1 c1 cs1 Q (re.mono x1.le) I1 po1)⟩
  | _ => exact po1.elim
theorem xp_one {op : BoolOp} (ha : Xp X W a ma) : Xp X W (.BoolOp op [a] pos) ma := by
  obtain ⟨ta, pa, sa⟩ := ha
  exact ⟨_, pe_one pa, sa⟩
theorem xp_not (ha : Xp X W a ma) : Xp X W (.UnaryOp .Not a pos) (eNot ma) := by
  obtain ⟨ta, pa, sa⟩ := ha
  refine ⟨_, pe_not pa, fun σ env H F c cs Q re I po => ?_⟩
  refine sa σ env H F c cs _ re I (PoE.cut po _ fun d cs1 _ H1 F1 c1 v x1 I1 rv po1 => ?_)
  cases d with
  | bl k => cases rv; exact ⟨k, rfl, PoE.here I1 (.bl !k) po1⟩
  | _ => exact po1.elim
/-- .. as tests -/
theorem xw_and {rest : List Expr} (ha : Xt1 X W a ma) (hb : Xw X W (.BoolOp .And (b :: rest) pos) mb) : Xw X W (.BoolOp .And (a :: b :: rest) pos) (eAnd ma mb) := by
  obtain ⟨ta, pa, sa⟩ := ha
  obtain ⟨tb, pb, sb⟩ := hb
  refine ⟨_, pw_and pa pb, fun σ env H F c cs Q re I po => ?_⟩
  refine sa σ env H F c cs _ re I (PoT.br po _ fun b cs1 _ H1 F1 c1 x I1 po1 => ?_)
  cases b with
  | true => exact iteT (sb σ env H1 F1 c1 cs1 Q (re.mono x.le) I1 po1)
  | false => exact iteF (PoT.here I1 po1)
theorem xw_or {rest : List Expr} (ha : Xt1 X W a ma) (hb : Xw X W (.BoolOp .Or (b :: rest) pos) mb) : Xw X W (.BoolOp .Or (a :: b :: rest) pos) (eOr ma mb) := by
  obtain ⟨ta, pa, sa⟩ := ha
  obtain ⟨tb, pb, sb⟩ := hb
  refine ⟨_, pw_or pa pb, fun σ env H F c cs Q re I po => ?_⟩
  refine sa σ env H F c cs _ re I (PoT.br po _ fun b cs1 _ H1 F1 c1 x I1 po1 => ?_)
  cases b with
  | true => exact iteT (PoT.here I1 po1)
  | false => exact iteF (sb σ env H1 F1 c1 cs1 Q (re.mono x.le) I1 po1)
theorem xw_and1 (ha : Xt1 X W a ma) : Xw X W (.BoolOp .And [a] pos) ma := by
  obtain ⟨ta, pa, sa⟩ := ha
  exact ⟨_, pw_and1 pa, sa⟩
theorem xw_or1 (ha : Xt1 X W a ma) : Xw X W (.BoolOp .Or [a] pos) ma := by
  obtain ⟨ta, pa, sa⟩ := ha
  exact ⟨_, pw_or1 pa, sa⟩
theorem xt_not (ha : Xt1 X W a ma) : Xt1 X W (.UnaryOp .Not a pos) (eNot ma) := by
  obtain ⟨ta, pa, sa⟩ := ha
  refine ⟨_, pt_not pa, fun σ env H F c cs Q re I po => ?_⟩
  exact sa σ env H F c cs _ re I (PoT.map po)
end

/-! ### arguments -/
def aNil : MA := fun _ cs => .ok [] cs
def aCons (a : ME) (r : MA) : MA := fun env cs => match a env cs with
  | .ok d cs1 => (match r env cs1 with
    | .ok ds cs2 => .ok (d :: ds) cs2
    | .exc n fs cs2 => .exc n fs cs2
    | .stuck => .stuck)
  | .exc n fs cs1 => .exc n fs cs1
  | .stuck => .stuck
theorem PoA.cut {g : Gd} {W : XK} {H F : Hp} {c : List Addr} {r : RA} {k : List D → Cells → R} {Q : VK} (h : PoE g W H F c (r.bind k) Q) :
    ∀ Q' : List V → Hp → Prop, (∀ ds cs, r = .ok ds cs → ∀ H1 F1 c1 vs, Xt H F c H1 F1 c1 → Ih g H1 F1 c1 cs → RVs g F1 c1 vs ds → PoE g W H1 F1 c1 (k ds cs) Q → Q' vs H1) → PoA g W H F c r Q' := by
  intro Q' hk
  cases r with
  | ok d cs => exact fun H1 F1 c1 x I v rv => hk d cs rfl H1 F1 c1 v x I rv (PoE.from x h)
  | exc n fs cs => exact h
  | stuck => exact h
section
variable {X : Cx} {W : WX} {pos : Pos} {e : Expr} {es : List Expr} {m : ME} {ms : MA}
theorem xa_nil : Xa X W [] aNil := ⟨_, pa_nil, fun _ _ _ _ _ _ _ _ I po => po _ _ _ (Xt.refl _ _ _) I [] .nil⟩
theorem xa_cons (ha : Xp X W e m) (hr : Xa X W es ms) (hs : starEach (e :: es) X.env = (false, eval e X.env) :: starEach es X.env := by rfl) : Xa X W (e :: es) (aCons m ms) := by
  obtain ⟨ta, pa, sa⟩ := ha
  obtain ⟨tb, pb, sb⟩ := hr
  refine ⟨_, pa_cons pa pb hs, fun σ env H F c cs Q re I po => ?_⟩
  refine sa σ env H F c cs _ re I ?_
  unfold aCons at po
  cases h1 : m env cs with
  | ok d cs1 =>
    rw [h1] at po
    simp only at po
    intro H1 F1 c1 x1 I1 v rv
    refine sb σ env H1 F1 c1 cs1 _ (re.mono x1.le) I1 ?_
    cases h2 : ms env cs1 with
    | ok ds cs2 =>
      rw [h2] at po
      exact fun H2 F2 c2 x2 I2 vs rvs => po H2 F2 c2 (x1.trans x2) I2 (v :: vs) (.cons (rv.mono x2.le) rvs)
    | exc n fs cs2 =>
      rw [h2] at po
      have po : ExK (gd X) (fun a b => W a b σ) H F c n fs cs2 := po
      exact ExK.from x1 po
    | stuck => rw [h2] at po; exact po.elim
  | exc n fs cs1 => rw [h1] at po; exact po
  | stuck => rw [h1] at po; exact po.elim
end

/-! ### lists, tuples -/
/-- a new list: one that stands still, or (md) a cell -/
def mkL (md : Bool) (cs : Cells) (ds : List D) : R := if ds.length ≤ sizeLine then (if md then .ok (.loc cs.length) (cs ++ [.lst ds]) else .ok (.lst ds) cs) else .stuck
def mkT (cs : Cells) (ds : List D) : R := if ds.length ≤ sizeLine then .ok (.tup ds) cs else .stuck
section
variable {g : Gd} {W : XK} {H F : Hp} {c : List Addr} {cs : Cells} {vs : List V} {ds : List D} {Q : VK} {md : Bool}
theorem mkL_len (h : PoE g W H F c (mkL md cs ds) Q) (rv : RVs g F c vs ds) : vs.length ≤ sizeLine := by
  unfold mkL at h
  split at h
  · rw [rv.length]; assumption
  · exact h.elim
theorem mkL_ok (I : Ih g H F c cs) (rv : RVs g F c vs ds) (h : PoE g W H F c (mkL md cs ds) Q) {p : Addr} (hp : H p = none) : Q (.ref p) (upd H p (.lst vs)) := by
  unfold mkL at h
  split at h
  · cases md with
    | true =>
      rw [if_pos rfl] at h
      have x := Xt.push I (o := .lst vs) hp
      refine h _ _ _ x (I.push hp ?_) _ (.loc (by rw [← I.len]; simp))
      exact ⟨I.noF hp, vs, upd_same, rv.mono x.le⟩
    | false =>
      rw [if_neg Bool.false_ne_true] at h
      have x := Xt.still I (o := .lst vs) hp
      exact h _ _ _ x (I.still hp) _ (.lst upd_same (rv.mono x.le))
  · exact h.elim
theorem mkT_len (h : PoE g W H F c (mkT cs ds) Q) (rv : RVs g F c vs ds) : vs.length ≤ sizeLine := by
  unfold mkT at h
  split at h
  · rw [rv.length]; assumption
  · exact h.elim
theorem mkT_ok (I : Ih g H F c cs) (rv : RVs g F c vs ds) (h : PoE g W H F c (mkT cs ds) Q) {p : Addr} (hp : H p = none) : Q (.ref p) (upd H p (.tup vs)) := by
  unfold mkT at h
  split at h
  · have x := Xt.still I (o := .tup vs) hp
    exact h _ _ _ x (I.still hp) _ (.tup upd_same (rv.mono x.le))
  · exact h.elim
end
def eList (md : Bool) (a : MA) : ME := fun env cs => (a env cs).bind fun ds cs1 => mkL md cs1 ds
def eTup (a : MA) : ME := fun env cs => (a env cs).bind fun ds cs1 => mkT cs1 ds
section
variable {X : Cx} {W : WX} {pos : Pos} {es : List Expr} {ms : MA}
theorem xp_list (md : Bool) (h : Xa X W es ms) : Xp X W (.List es pos) (eList md ms) := by
  obtain ⟨t, p, s⟩ := h
  refine ⟨_, pe_lst p, fun σ env H F c cs Q re I po => ?_⟩
  refine s σ env H F c cs _ re I (PoA.cut po _ fun ds cs1 _ H1 F1 c1 vs x1 I1 rv po1 => ?_)
  exact ⟨mkL_len po1 rv, fun p hp => mkL_ok I1 rv po1 hp⟩
theorem xp_tup {x1} (h : Xa X W es ms) : Xp X W (.Tuple es x1 pos) (eTup ms) := by
  obtain ⟨t, p, s⟩ := h
  refine ⟨_, pe_tup p, fun σ env H F c cs Q re I po => ?_⟩
  refine s σ env H F c cs _ re I (PoA.cut po _ fun ds cs1 _ H1 F1 c1 vs x1 I1 rv po1 => ?_)
  exact ⟨mkT_len po1 rv, fun p hp => mkT_ok I1 rv po1 hp⟩
end
/-- what a list holds -/
def listOf (cs : Cells) : D → Option (List D)
  | .lst l => some l
  | .loc n => match cs[n]? with
    | some (.lst l) => some l
    | some (.fz (.lst l)) => some l
    | _ => none
  | _ => none
/-- .. a list, a tuple, the script -/
def seqOf (cs : Cells) : D → Option (List D)
  | .tup l => some l
  | .scr l => some (l.map .int)
  | d => listOf cs d
theorem rvs_ints {g : Gd} {F : Hp} {c : List Addr} : ∀ ns : List Int, RVs g F c (ns.map V.int) (ns.map D.int)
  | [] => .nil
  | n :: r => .cons (.int n) (rvs_ints r)
section
variable {g : Gd} {H F : Hp} {c : List Addr} {cs : Cells} {v : V} {d : D} {ds : List D}
theorem listOf_at (I : Ih g H F c cs) (r : RV g F c v d) (h : listOf cs d = some ds) : ∃ a vs, v = .ref a ∧ H a = some (.lst vs) ∧ RVs g F c vs ds := by
  cases r with
  | lst h1 h2 =>
    simp only [listOf, Option.some.injEq] at h
    subst h
    exact ⟨_, _, rfl, I.sub _ _ h1, h2⟩
  | @loc n a ha =>
    simp only [listOf] at h
    obtain ⟨x, hx⟩ := I.there ha
    have q := I.cell n a x ha hx
    rw [hx] at h
    cases x with
    | lst l =>
      simp only [Option.some.injEq] at h
      subst h
      obtain ⟨_, vs, h1, h2⟩ := q
      exact ⟨a, vs, rfl, h1, h2⟩
    | fz d =>
      cases d with
      | lst l =>
        simp only [Option.some.injEq] at h
        subst h
        obtain ⟨q1, _⟩ := q
        cases q1 with
        | lst h1 h2 => exact ⟨a, _, rfl, I.sub _ _ h1, h2⟩
      | _ => cases h
    | _ => cases h
  | _ => cases h
theorem SqL.up {K : PySem.W.Frag} (hs : ∀ a o, F a = some o → H a = some o) {a : Addr} {xs : List V} (h : SqL K F a xs) : SqL K H a xs := by
  rcases h with (h | ⟨o, h⟩) | h
  · exact .inl (.inl (hs _ _ h))
  · exact .inl (.inr ⟨o, hs _ _ h⟩)
  · exact .inr h
theorem seqOf_at (I : Ih g H F c cs) (r : RV g F c v d) (h : seqOf cs d = some ds) : ∃ a vs, v = .ref a ∧ (SqL g.K H a vs ∨ SqT g.K H a vs) ∧ RVs g F c vs ds := by
  have fl : listOf cs d = some ds → ∃ a vs, v = .ref a ∧ (SqL g.K H a vs ∨ SqT g.K H a vs) ∧ RVs g F c vs ds := fun h => by
    obtain ⟨a, vs, e, h1, h2⟩ := listOf_at I r h
    exact ⟨a, vs, e, .inl (.inl (.inl h1)), h2⟩
  cases d with
  | tup l =>
    simp only [seqOf, Option.some.injEq] at h
    subst h
    cases r with
    | tup h1 h2 => exact ⟨_, _, rfl, .inr (.inl (.inl (I.sub _ _ h1))), h2⟩
  | scr l =>
    simp only [seqOf, Option.some.injEq] at h
    subst h
    cases r with
    | scr h1 => exact ⟨_, _, rfl, .inl (SqL.up I.sub h1), rvs_ints _⟩
  | _ => exact fl h
end

/-! ### arithmetic, joining -/
def addD (md : Bool) (cs : Cells) (x y : D) : R := match x, y with
  | .int i, .int j => .ok (.int (i + j)) cs
  | .str a, .str b => if a.length + b.length ≤ sizeLine then .ok (.str (a ++ b)) cs else .stuck
  | .tup a, .tup b => mkT cs (a ++ b)
  | x, y => match listOf cs x, listOf cs y with
    | some a, some b => mkL md cs (a ++ b)
    | _, _ => .stuck
def subD (cs : Cells) (x y : D) : R := match x, y with
  | .int i, .int j => .ok (.int (i - j)) cs
  | _, _ => .stuck
abbrev big : Int := 18446744073709551616
def mulD (md : Bool) (cs : Cells) (x y : D) : R := match x, y with
  | .int i, .int j => if (-big < i ∧ i < big) ∨ (-big < j ∧ j < big) then .ok (.int (i * j)) cs else .stuck
  | .str a, .int j => if -1000 ≤ j ∧ j ≤ 1000 ∧ a.length ≤ 1000 then .ok (.str (List.replicate j.toNat a).flatten) cs else .stuck
  | x, .int k => match listOf cs x with
    | some a => if 0 ≤ k ∧ k ≤ 1000 ∧ a.length ≤ 1000 then mkL md cs (List.replicate k.toNat a).flatten else .stuck
    | none => .stuck
  | _, _ => .stuck
def fdivD (cs : Cells) (x y : D) : R := match x, y with
  | .int i, .int j => if 0 < j ∧ j < big then .ok (.int (i / j)) cs else .stuck
  | _, _ => .stuck
def modD (cs : Cells) (x y : D) : R := match x, y with
  | .int i, .int j => if 0 < j then .ok (.int (i % j)) cs else .stuck
  | _, _ => .stuck
def powD (cs : Cells) (x y : D) : R := match x, y with
  | .int i, .int j => if 0 ≤ j ∧ j ≤ 1000000 ∧ -big < i ∧ i < big then .ok (.int (i ^ j.toNat)) cs else .stuck
  | _, _ => .stuck
def negD (cs : Cells) : D → R
  | .int i => .ok (.int (-i)) cs
  | _ => .stuck

/-- a binary rule on two ints -/
theorem o2_ii {g : Gd} {C : Int → Int → Prop} {h : Int → Int → V} {f : Cells → D → D → R} (k : Int → Int → D) (hk : ∀ g F c i j, RV g F c (h i j) (k i j))
    (hf : ∀ cs d e, f cs d e = .stuck ∨ ∃ i j, d = .int i ∧ e = .int j ∧ C i j ∧ f cs d e = .ok (k i j) cs) : O2 g (fun x y H Q => ∃ i j, x = .int i ∧ y = .int j ∧ C i j ∧ Q (h i j) H) f := by
  intro W H F c cs x y d e Q I rx ry po
  rcases hf cs d e with q | ⟨i, j, rfl, rfl, hC, q⟩
  · rw [q] at po; exact po.elim
  · rw [q] at po
    cases rx; cases ry
    exact ⟨i, j, rfl, rfl, hC, PoE.here I (hk _ _ _ i j) po⟩
theorem o2_ii0 {g : Gd} {h : Int → Int → V} {f : Cells → D → D → R} (k : Int → Int → D) (hk : ∀ g F c i j, RV g F c (h i j) (k i j))
    (hf : ∀ cs d e, f cs d e = .stuck ∨ ∃ i j, d = .int i ∧ e = .int j ∧ f cs d e = .ok (k i j) cs) : O2 g (rI0 h) f := by
  intro W H F c cs x y d e Q I rx ry po
  rcases hf cs d e with q | ⟨i, j, rfl, rfl, q⟩
  · rw [q] at po; exact po.elim
  · rw [q] at po
    cases rx; cases ry
    exact ⟨i, j, rfl, rfl, PoE.here I (hk _ _ _ i j) po⟩
section
variable {X : Cx} {W : WX} {pos : Pos} {a b : Expr} {ma mb : ME}
theorem o2_sub {g : Gd} : O2 g (rI0 fun i j => .int (i - j)) subD := by
  refine o2_ii0 (fun i j => .int (i - j)) (fun _ _ _ _ _ => .int _) fun cs d e => ?_
  unfold subD
  split
  · exact .inr ⟨_, _, rfl, rfl, rfl⟩
  · exact .inl rfl
theorem xp_sub (ha : Xp X W a ma) (hb : Xp X W b mb) : Xp X W (.BinOp a .Sub b pos) (op2 subD ma mb) := xp_op op_sub o2_sub ha hb
theorem log2_big {j : Int} (h0 : 0 < j) (h1 : j < big) : j.natAbs.log2 < 9000 := by
  have : j.natAbs < 2 ^ 64 := by have : (2 : Nat) ^ 64 = 18446744073709551616 := by decide
                                 unfold big at h1; omega
  have := Nat.log2_lt (n := j.natAbs) (k := 64) (by omega) |>.mpr this
  omega
theorem o2_fdiv {g : Gd} : O2 g (rI CDivW fun i j => .int (i / j)) fdivD := by
  refine o2_ii (fun i j => .int (i / j)) (fun _ _ _ _ _ => .int _) fun cs d e => ?_
  unfold fdivD
  split
  · split
    · rename_i h
      exact .inr ⟨_, _, rfl, rfl, ⟨h.1, log2_big h.1 h.2⟩, rfl⟩
    · exact .inl rfl
  · exact .inl rfl
theorem xp_fdiv (ha : Xp X W a ma) (hb : Xp X W b mb) : Xp X W (.BinOp a .FloorDiv b pos) (op2 fdivD ma mb) := xp_op op_fdivW o2_fdiv ha hb
theorem o2_mod {g : Gd} : O2 g (rI (fun _ j => 0 < j) fun i j => .int (i % j)) modD := by
  refine o2_ii (fun i j => .int (i % j)) (fun _ _ _ _ _ => .int _) fun cs d e => ?_
  unfold modD
  split
  · split
    · exact .inr ⟨_, _, rfl, rfl, by assumption, rfl⟩
    · exact .inl rfl
  · exact .inl rfl
theorem xp_mod (ha : Xp X W a ma) (hb : Xp X W b mb) : Xp X W (.BinOp a .Mod b pos) (op2 modD ma mb) := xp_op op_mod o2_mod ha hb
theorem o2_pow {g : Gd} : O2 g (rI CPow fun i j => .int (i ^ j.toNat)) powD := by
  refine o2_ii (fun i j => .int (i ^ j.toNat)) (fun _ _ _ _ _ => .int _) fun cs d e => ?_
  unfold powD
  split
  · split
    · rename_i h
      refine .inr ⟨_, _, rfl, rfl, ⟨h.1, h.2.1, ?_⟩, rfl⟩
      have : (2 : Nat) ^ 64 = 18446744073709551616 := by decide
      unfold big at h; omega
    · exact .inl rfl
  · exact .inl rfl
theorem xp_pow (ha : Xp X W a ma) (hb : Xp X W b mb) : Xp X W (.BinOp a .Pow b pos) (op2 powD ma mb) := xp_op op_pow o2_pow ha hb
theorem o1_neg {g : Gd} : O1 g (rU fun i => .int (-i)) negD := by
  intro W H F c cs x d Q I rx po
  cases d with
  | int i => cases rx; exact ⟨i, rfl, PoE.here I (.int _) po⟩
  | _ => exact po.elim
theorem xp_neg (ha : Xp X W a ma) : Xp X W (.UnaryOp .USub a pos) (op1 negD ma) := xp_un un_neg o1_neg ha

def rAddAll (K : PySem.W.Frag) : R2 := fun x y H Q => rI0 (fun i j => .int (i + j)) x y H Q ∨ (∃ i j, x = .str i ∧ y = .str j ∧ i.length + j.length ≤ sizeLine ∧ Q (.str (i ++ j)) H) ∨ rCatA K x y H Q ∨ rCat x y H Q
theorem op_addAll : OpR X (binaryOp .Add) (rAddAll X.K) := op_add.or (op_add_str.or (op_catA.or op_cat))
theorem str_app (a b : List Nat) : ((⟨a.toArray⟩ : Str) ++ (⟨b.toArray⟩ : Str)) = ⟨(a ++ b).toArray⟩ := by
  show Str.append _ _ = _
  unfold Str.append
  simp
theorem str_len (a : List Nat) : (⟨a.toArray⟩ : Str).length = a.length := by
  unfold Str.length
  simp
theorem o2_add {g : Gd} (md : Bool) : O2 g (rAddAll g.K) (addD md) := by
  intro W H F c cs x y d e Q I rx ry po
  unfold addD at po
  split at po
  · cases rx; cases ry
    exact .inl ⟨_, _, rfl, rfl, PoE.here I (.int _) po⟩
  · split at po
    · cases rx; cases ry
      refine .inr (.inl ⟨_, _, rfl, rfl, by rw [str_len, str_len]; assumption, ?_⟩)
      rw [str_app]
      exact PoE.here I (.str _) po
    · exact po.elim
  · rename_i l m
    cases rx with
    | tup h1 h2 =>
      cases ry with
      | tup h3 h4 =>
        have rv := h2.append h4
        have len := mkT_len po rv
        rw [List.length_append] at len
        refine .inr (.inr (.inl ⟨_, _, _, _, rfl, rfl, .inl (.inl (I.sub _ _ h1)), .inl (.inl (I.sub _ _ h3)), len, fun e => ?_, fun ne e => ?_, fun _ _ p hp => mkT_ok I rv po hp⟩))
        · subst e
          cases h2
          unfold mkT at po
          split at po
          · exact po _ _ _ (Xt.refl _ _ _) I _ (.tup h3 h4)
          · exact po.elim
        · subst e
          cases h4
          unfold mkT at po
          split at po
          · rw [List.append_nil] at po
            exact po _ _ _ (Xt.refl _ _ _) I _ (.tup h1 h2)
          · exact po.elim
  · split at po
    · rename_i l1 l2 e1 e2
      obtain ⟨p1, vs1, rfl, g1, r1⟩ := listOf_at I rx e1
      obtain ⟨p2, vs2, rfl, g2, r2⟩ := listOf_at I ry e2
      have rv := r1.append r2
      have len := mkL_len po rv
      rw [List.length_append] at len
      exact .inr (.inr (.inr ⟨_, _, _, _, rfl, rfl, g1, g2, len, fun p hp => mkL_ok I rv po hp⟩))
    · exact po.elim
theorem xp_add (md : Bool) (ha : Xp X W a ma) (hb : Xp X W b mb) : Xp X W (.BinOp a .Add b pos) (op2 (addD md) ma mb) := xp_op op_addAll (o2_add md) ha hb
end
end L3

namespace L3
open PySem L2

section
variable {X : Cx}
theorem pe_orE {e : Expr} {t u : TE} (a : PE X e t) (b : PE X e u) : PE X e (fun σ H Q => t σ H Q ∨ u σ H Q) := ⟨fun pins s σ H Q I h => h.elim (a.run pins s σ H Q I) (b.run pins s σ H Q I)⟩
theorem pt_orE {e : Expr} {t u : TT} (a : PT X e t) (b : PT X e u) : PT X e (fun σ H Q => t σ H Q ∨ u σ H Q) := ⟨fun pins s σ H Q I h => h.elim (a.run pins s σ H Q I) (b.run pins s σ H Q I)⟩
theorem pi_orE {tg e : Expr} {t u : TI} (a : PI X tg e t) (b : PI X tg e u) : PI X tg e (fun σ H R => t σ H R ∨ u σ H R) := ⟨fun pins s σ H R I h => h.elim (a.run pins s σ H R I) (b.run pins s σ H R I)⟩
/-- text * int -/
theorem op_mulS : OpR X (binaryOp .Mult) (fun x y H Q => ∃ (l : List Nat) (j : Int), x = .str ⟨l.toArray⟩ ∧ y = .int j ∧ -1000 ≤ j ∧ j ≤ 1000 ∧ l.length ≤ 1000 ∧ Q (.str ⟨(List.replicate j.toNat l).flatten.toArray⟩) H) := by
  intro pins s σ H x y v u Q I rx ry h
  obtain ⟨l, j, rfl, rfl, h2, h3, h5, q⟩ := h
  obtain ⟨t, rfl⟩ := rx
  obtain ⟨t2, rfl⟩ := ry
  have hlen : (⟨l.toArray⟩ : Str).length = l.length := str_len l
  have hfold : ∀ (n : Nat) (acc : Array Nat), (List.replicate n (⟨l.toArray⟩ : Str).cps).foldl (· ++ ·) acc = acc ++ (List.replicate n l).flatten.toArray := by
    intro n
    induction n with
    | zero => intro acc; simp
    | succ n ih => intro acc; simp only [List.replicate_succ, List.foldl_cons, ih, List.flatten_cons]; simp [Array.append_assoc]
  refine PySem.P.mul_str (by simp; omega) (fun h1 _ => ?_) (fun h1 _ => ?_) ?_
  · rw [hlen]
    have : (2 ^ 63 - 1) / j ≥ 1000 := by
      have h := Int.ediv_le_ediv (a := 1000 * j) (b := 2 ^ 63 - 1) (c := j) (by omega) (by omega)
      rw [Int.mul_ediv_cancel _ (by omega)] at h
      exact h
    exact Int.not_lt.mpr (Int.le_trans (by omega : (l.length : Int) ≤ 1000) this)
  · rw [hlen]
    have hmul : l.length * j.toNat ≤ 1000 * 1000 := Nat.mul_le_mul h5 (by omega)
    have : Builtin.Str.tooLong (l.length * j.toNat) = decide (l.length * j.toNat > 16777216) := by rfl
    rw [this]
    simp; omega
  · by_cases h1 : j < 1
    · rw [if_pos h1]
      have : j.toNat = 0 := by omega
      rw [this] at q
      refine ⟨by decide, .str _, H, I.tok _, ⟨_, rfl⟩, q⟩
    · rw [if_neg h1, hlen]
      by_cases h4 : (j == 1 || l.length == 0) = true
      · rw [if_pos h4]
        refine ⟨.str _, H, I, ⟨_, rfl⟩, ?_⟩
        simp only [Bool.or_eq_true, beq_iff_eq] at h4
        rcases h4 with h4 | h4
        · subst h4
          simpa using q
        · have : l = [] := List.length_eq_zero_iff.mp h4
          subst this
          have e : (List.replicate j.toNat ([] : List Nat)).flatten = [] := by simp
          rw [e] at q
          exact q
      · rw [if_neg h4]
        have hmul : l.length * j.toNat ≤ 1000 * 1000 := Nat.mul_le_mul h5 (by omega)
        refine ⟨?_, ?_⟩
        · rw [hfold]
          show ((#[] : Array Nat) ++ _).size ≤ sizeLine
          rw [show sizeLine = 16777216 from sizeLine_eq]
          simp
          rw [Nat.mul_comm]
          omega
        · refine ⟨.str _, H, I.tok _, ⟨_, rfl⟩, ?_⟩
          rw [hfold]
          simpa using q
end

/-! ### multiplication -/
section
variable {X : Cx} {W : WX} {pos : Pos} {a b c : Expr} {ma mb mc : ME}
def rMulAll : R2 := fun x y H Q => rI CMul (fun i j => .int (i * j)) x y H Q ∨ (∃ (l : List Nat) (j : Int), x = .str ⟨l.toArray⟩ ∧ y = .int j ∧ -1000 ≤ j ∧ j ≤ 1000 ∧ l.length ≤ 1000 ∧ Q (.str ⟨(List.replicate j.toNat l).flatten.toArray⟩) H) ∨ rRep x y H Q
theorem op_mulAll : OpR X (binaryOp .Mult) rMulAll := op_mul.or (op_mulS.or op_rep)
theorem rvs_rep {g : Gd} {F : Hp} {c : List Addr} {vs : List V} {ds : List D} (r : RVs g F c vs ds) : ∀ n : Nat, RVs g F c (List.replicate n vs).flatten (List.replicate n ds).flatten
  | 0 => .nil
  | n + 1 => by simp only [List.replicate_succ, List.flatten_cons]; exact r.append (rvs_rep r n)
theorem rep_len (n : Nat) (vs : List V) : (List.replicate n vs).flatten.length = n * vs.length := by
  induction n with
  | zero => simp
  | succ n ih => simp only [List.replicate_succ, List.flatten_cons, List.length_append, ih, Nat.succ_mul]; omega
theorem o2_mul {g : Gd} (md : Bool) : O2 g rMulAll (mulD md) := by
  intro W H F c cs x y d e Q I rx ry po
  unfold mulD at po
  split at po
  · split at po
    · rename_i h
      cases rx; cases ry
      have p : (2 : Int) ^ 64 = 18446744073709551616 := by decide
      refine .inl ⟨_, _, rfl, rfl, ?_, PoE.here I (.int _) po⟩
      unfold CMul
      unfold big at h
      rw [p]; exact h
    · exact po.elim
  · split at po
    · rename_i h
      cases rx; cases ry
      exact .inr (.inl ⟨_, _, rfl, rfl, h.1, h.2.1, h.2.2, PoE.here I (.str _) po⟩)
    · exact po.elim
  · split at po
    · rename_i h1
      split at po
      · rename_i h2
        obtain ⟨p1, vs1, rfl, g1, r1⟩ := listOf_at I rx h1
        cases ry
        have rv := rvs_rep r1 ‹Int›.toNat
        have len := mkL_len po rv
        rw [rep_len] at len
        exact .inr (.inr ⟨_, _, _, rfl, rfl, g1, by omega, by omega, by rw [Nat.mul_comm]; exact len, fun p hp => mkL_ok I rv po hp⟩)
      · exact po.elim
    · exact po.elim
  · exact po.elim
theorem xp_mul (md : Bool) (ha : Xp X W a ma) (hb : Xp X W b mb) : Xp X W (.BinOp a .Mult b pos) (op2 (mulD md) ma mb) := xp_op op_mulAll (o2_mul md) ha hb
end

/-! ### equality -/
mutual
def py0 : D → Option PyData
  | .non => some .none
  | .bl b => some (.bool b)
  | .int i => some (.int i)
  | .str l => some (.str ⟨l.toArray⟩)
  | .lst l => (py0s l).map .list
  | .tup l => (py0s l).map .tuple
  | .dct l => (py0k l).map .dict
  | .scr _ => none
  | .obj _ _ => none
  | .loc _ => none
def py0s : List D → Option (List PyData)
  | [] => some []
  | d :: r => match py0 d, py0s r with
    | some p, some q => some (p :: q)
    | _, _ => none
def py0k : List (Kd × D) → Option (List (PyData × PyData))
  | [] => some []
  | (k, d) :: r => match py0 d, py0k r with
    | some p, some q => some (((match k with | .inl i => PyData.int i | .inr l => PyData.str ⟨l.toArray⟩), p) :: q)
    | _, _ => none
end
def pyOf (cs : Cells) : D → Option PyData
  | .loc n => match cs[n]? with
    | some (.lst l) => (py0s l).map .list
    | some (.dct l) => (py0k l).map .dict
    | some (.fz d) => py0 d
    | _ => none
  | d => py0 d
mutual
def noDict : PyData → Bool
  | .list xs | .tuple xs => noDicts xs
  | .dict _ => false
  | _ => true
def noDicts : List PyData → Bool
  | [] => true
  | x :: xs => noDict x && noDicts xs
end
mutual
theorem noDict_of : ∀ {p : PyData}, p.canLay0 = true → noDict p = true
  | .none, _ => rfl
  | .bool _, _ => rfl
  | .int _, _ => rfl
  | .str _, _ => rfl
  | .list xs, h => noDicts_of (by simpa [PyData.canLay0] using h)
  | .tuple xs, h => noDicts_of (by simpa [PyData.canLay0] using h)
  | .dict _, h => by simp [PyData.canLay0] at h
theorem noDicts_of : ∀ {p : List PyData}, PyData.canLayAll0 p = true → noDicts p = true
  | [], _ => rfl
  | x :: xs, h => by
    simp only [PyData.canLayAll0, Bool.and_eq_true] at h
    simp only [noDicts, noDict_of h.1, noDicts_of h.2, Bool.and_self]
end
section
variable {g : Gd} {H F : Hp} {c : List Addr} {cs : Cells}
mutual
theorem py0_dp (hs : ∀ a o, F a = some o → H a = some o) : ∀ {v : V} {d : D} {p : PyData}, RV g F c v d → py0 d = some p → noDict p = true → Dp g.K H v p
  | _, _, _, .non, h, _ => by simp only [py0, Option.some.injEq] at h; subst h; exact .non
  | _, _, _, .bl b, h, _ => by simp only [py0, Option.some.injEq] at h; subst h; exact .bl b
  | _, _, _, .int i, h, _ => by simp only [py0, Option.some.injEq] at h; subst h; exact .int i
  | _, _, _, .str l, h, _ => by simp only [py0, Option.some.injEq] at h; subst h; exact .str _
  | _, _, _, .lst h1 h2, h, n => by
    simp only [py0, Option.map_eq_some_iff] at h
    obtain ⟨q, e, rfl⟩ := h
    exact .lst (.inl (.inl (hs _ _ h1))) (py0s_dp hs h2 e n)
  | _, _, _, .tup h1 h2, h, n => by
    simp only [py0, Option.map_eq_some_iff] at h
    obtain ⟨q, e, rfl⟩ := h
    exact .tup (.inl (.inl (hs _ _ h1))) (py0s_dp hs h2 e n)
  | _, _, _, .dct h1 h2, h, n => by
    simp only [py0, Option.map_eq_some_iff] at h
    obtain ⟨q, e, rfl⟩ := h
    cases n
  | _, _, _, .scr _, h, _ => by simp [py0] at h
  | _, _, _, .obj _ _ _, h, _ => by simp [py0] at h
  | _, _, _, .loc _, h, _ => by simp [py0] at h
theorem py0s_dp (hs : ∀ a o, F a = some o → H a = some o) : ∀ {v : List V} {d : List D} {p : List PyData}, RVs g F c v d → py0s d = some p → noDicts p = true → DpAll g.K H v p
  | _, _, _, .nil, h, _ => by simp only [py0s, Option.some.injEq] at h; subst h; exact .nil
  | _, _, _, .cons a b, h, n => by
    simp only [py0s] at h
    split at h
    · rename_i e1 e2
      simp only [Option.some.injEq] at h
      subst h
      simp only [noDicts, Bool.and_eq_true] at n
      exact .cons (py0_dp hs a e1 n.1) (py0s_dp hs b e2 n.2)
    · cases h
end
theorem pyOf_dp (I : Ih g H F c cs) {v : V} {d : D} {p : PyData} (r : RV g F c v d) (h : pyOf cs d = some p) (n : noDict p = true) : Dp g.K H v p := by
  cases r with
  | @loc k a ha =>
    simp only [pyOf] at h
    obtain ⟨x, hx⟩ := I.there ha
    have q := I.cell k a x ha hx
    rw [hx] at h
    cases x with
    | lst l =>
      simp only [Option.map_eq_some_iff] at h
      obtain ⟨y, e, rfl⟩ := h
      obtain ⟨_, vs, h1, h2⟩ := q
      exact .lst (.inl (.inl h1)) (py0s_dp I.sub h2 e n)
    | dct l =>
      simp only [Option.map_eq_some_iff] at h
      obtain ⟨y, e, rfl⟩ := h
      cases n
    | fz d => exact py0_dp I.sub q.1 h n
    | set l => cases h
    | ins n l => cases h
  | non => exact py0_dp (c := c) I.sub .non h n
  | bl b => exact py0_dp (c := c) I.sub (.bl b) h n
  | int i => exact py0_dp (c := c) I.sub (.int i) h n
  | str l => exact py0_dp (c := c) I.sub (.str l) h n
  | lst a b => exact py0_dp I.sub (.lst a b) h n
  | tup a b => exact py0_dp I.sub (.tup a b) h n
  | dct a b => exact py0_dp I.sub (.dct a b) h n
  | scr a => exact py0_dp (c := c) I.sub (.scr a) h n
  | obj a b e => exact py0_dp I.sub (.obj a b e) h n
end
def eqB (cs : Cells) (d e : D) : Option Bool := match d, e with
  | .str a, .str b => some (decide (a = b))
  | .int i, .int j => some (decide (i = j))
  | .bl a, .bl b => some (decide (a = b))
  | d, e => match pyOf cs d, pyOf cs e with
    | some p, some q => if SeqAt.shaped p && SeqAt.shaped q then some (PyData.eqv p q) else none
    | _, _ => none
def eqD (cs : Cells) (d e : D) : R := match eqB cs d e with
  | some b => .ok (.bl b) cs
  | none => .stuck
def neD (cs : Cells) (d e : D) : R := match eqB cs d e with
  | some b => .ok (.bl !b) cs
  | none => .stuck
theorem str_eq (a b : List Nat) : decide ((V.str ⟨a.toArray⟩ : V) = V.str ⟨b.toArray⟩) = decide (a = b) := by
  by_cases h : a = b
  · simp [h]
  · have : ¬ (V.str ⟨a.toArray⟩ : V) = V.str ⟨b.toArray⟩ := fun e => h (by simpa using e)
    simp [h, this]
section
variable {X : Cx} {W : WX} {pos : Pos} {a b c : Expr} {ma mb mc : ME}
theorem o2_eq {g : Gd} : O2 g (fun x y H Q => rEq x y H Q ∨ rEqD g.K x y H Q) eqD := by
  intro W H F c cs x y d e Q I rx ry po
  unfold eqD eqB at po
  split at po
  · rename_i b hb
    split at hb
    · simp only [Option.some.injEq] at hb
      subst hb
      cases rx; cases ry
      exact .inl ⟨rfl, by rw [str_eq]; exact PoE.here I (.bl _) po⟩
    · simp only [Option.some.injEq] at hb
      subst hb
      cases rx; cases ry
      exact .inl ⟨rfl, by simpa using PoE.here I (.bl _) po⟩
    · simp only [Option.some.injEq] at hb
      subst hb
      cases rx; cases ry
      exact .inl ⟨rfl, by simpa using PoE.here I (.bl _) po⟩
    · split at hb
      · rename_i p q e1 e2
        split at hb
        · rename_i sh
          simp only [Bool.and_eq_true] at sh
          simp only [Option.some.injEq] at hb
          subst hb
          exact .inr ⟨p, q, pyOf_dp I rx e1 (noDict_of (SeqAt.canLay_of_shaped sh.1)), pyOf_dp I ry e2 (noDict_of (SeqAt.canLay_of_shaped sh.2)), sh.1, sh.2, PoE.here I (.bl _) po⟩
        · cases hb
      · cases hb
  · exact po.elim
theorem o2_ne {g : Gd} : O2 g (fun x y H Q => rNe x y H Q ∨ rNeD g.K x y H Q) neD := by
  intro W H F c cs x y d e Q I rx ry po
  unfold neD eqB at po
  split at po
  · rename_i b hb
    split at hb
    · simp only [Option.some.injEq] at hb
      subst hb
      cases rx; cases ry
      exact .inl ⟨rfl, by rw [str_eq]; exact PoE.here I (.bl _) po⟩
    · simp only [Option.some.injEq] at hb
      subst hb
      cases rx; cases ry
      exact .inl ⟨rfl, by simpa using PoE.here I (.bl _) po⟩
    · simp only [Option.some.injEq] at hb
      subst hb
      cases rx; cases ry
      exact .inl ⟨rfl, by simpa using PoE.here I (.bl _) po⟩
    · split at hb
      · rename_i p q e1 e2
        split at hb
        · rename_i sh
          simp only [Bool.and_eq_true] at sh
          simp only [Option.some.injEq] at hb
          subst hb
          exact .inr ⟨p, q, pyOf_dp I rx e1 (noDict_of (SeqAt.canLay_of_shaped sh.1)), pyOf_dp I ry e2 (noDict_of (SeqAt.canLay_of_shaped sh.2)), sh.1, sh.2, PoE.here I (.bl _) po⟩
        · cases hb
      · cases hb
  · exact po.elim
theorem xp_eq (hu : X.A.units + 64 < cLine) (ha : Xp X W a ma) (hb : Xp X W b mb) (hm : behindInMarks .Eq b = false := by exact nomark _) : Xp X W (.Compare a [.Eq] [b] pos) (op2 eqD ma mb) := xp_cmp (op_eq.or (op_eqD hu)) o2_eq ha hb hm
theorem xp_ne (hu : X.A.units + 64 < cLine) (ha : Xp X W a ma) (hb : Xp X W b mb) (hm : behindInMarks .NotEq b = false := by exact nomark _) : Xp X W (.Compare a [.NotEq] [b] pos) (op2 neD ma mb) := xp_cmp (op_ne.or (op_neD hu)) o2_ne ha hb hm
/-- a comparison as a test -/
theorem xt_cmp {op : CmpOp} {r : R2} {f : Cells → D → D → R} (h : OpR X (compareOp op) r) (o : O2 (gd X) r f) (ha : Xp X W a ma) (hb : Xp X W b mb) (hm : behindInMarks op b = false) : Xt1 X W (.Compare a [op] [b] pos) (op2 f ma mb) := by
  obtain ⟨ta, pa, sa⟩ := ha
  obtain ⟨tb, pb, sb⟩ := hb
  refine ⟨_, pt_cmpR h pa pb hm, fun σ env H F c cs Q re I po => ?_⟩
  refine sim2 sa sb o re I (Q := fun x H' => ∃ k, x = .bl k ∧ Q k H') ?_
  cases e : op2 f ma mb env cs with
  | ok d cs1 =>
    rw [e] at po
    cases d with
    | bl b => exact fun H' F' c' x I' v rv => by cases rv; exact ⟨b, rfl, po H' F' c' x I'⟩
    | _ => exact po.elim
  | exc n fs cs1 => rw [e] at po; exact po
  | stuck => rw [e] at po; exact po.elim
theorem xt_eq (hu : X.A.units + 64 < cLine) (ha : Xp X W a ma) (hb : Xp X W b mb) (hm : behindInMarks .Eq b = false := by exact nomark _) : Xt1 X W (.Compare a [.Eq] [b] pos) (op2 eqD ma mb) := xt_cmp (op_eq.or (op_eqD hu)) o2_eq ha hb hm
theorem xt_ne (hu : X.A.units + 64 < cLine) (ha : Xp X W a ma) (hb : Xp X W b mb) (hm : behindInMarks .NotEq b = false := by exact nomark _) : Xt1 X W (.Compare a [.NotEq] [b] pos) (op2 neD ma mb) := xt_cmp (op_ne.or (op_neD hu)) o2_ne ha hb hm

/-! ### order -/
def ltD (cs : Cells) (d e : D) : R := match d, e with
  | .int i, .int j => .ok (.bl (decide (i < j))) cs
  | _, _ => .stuck
def leD (cs : Cells) (d e : D) : R := match d, e with
  | .int i, .int j => .ok (.bl (decide (i ≤ j))) cs
  | _, _ => .stuck
def gtD (cs : Cells) (d e : D) : R := match d, e with
  | .int i, .int j => .ok (.bl (decide (j < i))) cs
  | _, _ => .stuck
def geD (cs : Cells) (d e : D) : R := match d, e with
  | .int i, .int j => .ok (.bl (decide (j ≤ i))) cs
  | _, _ => .stuck
theorem o2_lt {g : Gd} : O2 g (rI0 fun i j => .bl (decide (i < j))) ltD := by
  refine o2_ii0 (fun i j => .bl (decide (i < j))) (fun _ _ _ _ _ => .bl _) fun cs d e => ?_
  unfold ltD
  split
  · exact .inr ⟨_, _, rfl, rfl, rfl⟩
  · exact .inl rfl
theorem o2_le {g : Gd} : O2 g (rI0 fun i j => .bl (decide (i ≤ j))) leD := by
  refine o2_ii0 (fun i j => .bl (decide (i ≤ j))) (fun _ _ _ _ _ => .bl _) fun cs d e => ?_
  unfold leD
  split
  · exact .inr ⟨_, _, rfl, rfl, rfl⟩
  · exact .inl rfl
theorem o2_gt {g : Gd} : O2 g (rI0 fun i j => .bl (decide (j < i))) gtD := by
  refine o2_ii0 (fun i j => .bl (decide (j < i))) (fun _ _ _ _ _ => .bl _) fun cs d e => ?_
  unfold gtD
  split
  · exact .inr ⟨_, _, rfl, rfl, rfl⟩
  · exact .inl rfl
theorem o2_ge {g : Gd} : O2 g (rI0 fun i j => .bl (decide (j ≤ i))) geD := by
  refine o2_ii0 (fun i j => .bl (decide (j ≤ i))) (fun _ _ _ _ _ => .bl _) fun cs d e => ?_
  unfold geD
  split
  · exact .inr ⟨_, _, rfl, rfl, rfl⟩
  · exact .inl rfl
theorem xp_lt (ha : Xp X W a ma) (hb : Xp X W b mb) (hm : behindInMarks .Lt b = false := by exact nomark _) : Xp X W (.Compare a [.Lt] [b] pos) (op2 ltD ma mb) := xp_cmp op_lt o2_lt ha hb hm
theorem xt_lt (ha : Xp X W a ma) (hb : Xp X W b mb) (hm : behindInMarks .Lt b = false := by exact nomark _) : Xt1 X W (.Compare a [.Lt] [b] pos) (op2 ltD ma mb) := xt_cmp op_lt o2_lt ha hb hm
theorem xp_le (ha : Xp X W a ma) (hb : Xp X W b mb) (hm : behindInMarks .LtE b = false := by exact nomark _) : Xp X W (.Compare a [.LtE] [b] pos) (op2 leD ma mb) := xp_cmp op_le o2_le ha hb hm
theorem xt_le (ha : Xp X W a ma) (hb : Xp X W b mb) (hm : behindInMarks .LtE b = false := by exact nomark _) : Xt1 X W (.Compare a [.LtE] [b] pos) (op2 leD ma mb) := xt_cmp op_le o2_le ha hb hm
theorem xp_gt (ha : Xp X W a ma) (hb : Xp X W b mb) (hm : behindInMarks .Gt b = false := by exact nomark _) : Xp X W (.Compare a [.Gt] [b] pos) (op2 gtD ma mb) := xp_cmp op_gt o2_gt ha hb hm
theorem xt_gt (ha : Xp X W a ma) (hb : Xp X W b mb) (hm : behindInMarks .Gt b = false := by exact nomark _) : Xt1 X W (.Compare a [.Gt] [b] pos) (op2 gtD ma mb) := xt_cmp op_gt o2_gt ha hb hm
theorem xp_ge (ha : Xp X W a ma) (hb : Xp X W b mb) (hm : behindInMarks .GtE b = false := by exact nomark _) : Xp X W (.Compare a [.GtE] [b] pos) (op2 geD ma mb) := xp_cmp op_ge o2_ge ha hb hm
theorem xt_ge (ha : Xp X W a ma) (hb : Xp X W b mb) (hm : behindInMarks .GtE b = false := by exact nomark _) : Xt1 X W (.Compare a [.GtE] [b] pos) (op2 geD ma mb) := xt_cmp op_ge o2_ge ha hb hm

/-! ### a < b < c -/
def eChain (f f' : Cells → D → D → R) (a b c : ME) : ME := fun env cs => (a env cs).bind fun x cs1 => (b env cs1).bind fun y cs2 => (f cs2 x y).bind fun z cs3 => brD z cs3 (fun cs4 => (c env cs4).bind fun w cs5 => f' cs5 y w) fun cs4 => .ok (.bl false) cs4
theorem simChain {ta tb tc : TE} {r r' : R2} {f f' : Cells → D → D → R} {σ : L2.St} {env : Env} {H F : Hp} {c : List Addr} {cs : Cells} {Q : VK}
    (ha : ∀ σ env H F c cs Q, RE (gd X) F c σ env → Ih (gd X) H F c cs → PoE (gd X) (fun a b => W a b σ) H F c (ma env cs) Q → ta σ H Q)
    (hb : ∀ σ env H F c cs Q, RE (gd X) F c σ env → Ih (gd X) H F c cs → PoE (gd X) (fun a b => W a b σ) H F c (mb env cs) Q → tb σ H Q)
    (hc : ∀ σ env H F c cs Q, RE (gd X) F c σ env → Ih (gd X) H F c cs → PoE (gd X) (fun a b => W a b σ) H F c (mc env cs) Q → tc σ H Q)
    (ho : O2 (gd X) r f) (ho' : O2 (gd X) r' f') (re : RE (gd X) F c σ env) (I : Ih (gd X) H F c cs) (po : PoE (gd X) (fun a b => W a b σ) H F c (eChain f f' ma mb mc env cs) Q) : tChain r r' ta tb tc σ H Q := by
  refine ha σ env H F c cs _ re I (PoE.cut po _ fun d cs1 _ H1 F1 c1 v x1 I1 rv po1 => ?_)
  refine hb σ env H1 F1 c1 cs1 _ (re.mono x1.le) I1 (PoE.cut po1 _ fun e cs2 _ H2 F2 c2 u x2 I2 ru po2 => ?_)
  refine ho _ H2 F2 c2 cs2 v u d e _ I2 (rv.mono x2.le) ru (PoE.cut po2 _ fun z cs3 _ H3 F3 c3 w x3 I3 rw' po3 => ?_)
  cases z with
  | bl k =>
    cases rw'
    cases k with
    | true =>
      refine ⟨true, rfl, iteT ?_⟩
      refine hc σ env H3 F3 c3 cs3 _ (((re.mono x1.le).mono x2.le).mono x3.le) I3 (PoE.cut po3 _ fun z2 cs4 _ H4 F4 c4 w2 x4 I4 rw2 po4 => ?_)
      exact ho' _ H4 F4 c4 cs4 u w2 e z2 Q I4 ((ru.mono x3.le).mono x4.le) rw2 po4
    | false => exact ⟨false, rfl, iteF (PoE.here I3 (.bl false) po3)⟩
  | _ => exact po3.elim
theorem xp_chain {op op' : CmpOp} {r r' : R2} {f f' : Cells → D → D → R} (h : OpR X (compareOp op) r) (o : O2 (gd X) r f) (h' : OpR X (compareOp op') r') (o' : O2 (gd X) r' f') (ha : Xp X W a ma) (hb : Xp X W b mb) (hc : Xp X W c mc) (hm : lastMarks [op, op'] [b, c] = false := by with_unfolding_all rfl) : Xp X W (.Compare a [op, op'] [b, c] pos) (eChain f f' ma mb mc) := by
  obtain ⟨ta, pa, sa⟩ := ha
  obtain ⟨tb, pb, sb⟩ := hb
  obtain ⟨tc, pc, sc⟩ := hc
  exact ⟨_, pe_chain h h' pa pb pc hm, fun σ env H F c cs Q re I po => simChain sa sb sc o o' re I po⟩
theorem xt_chain {op op' : CmpOp} {r r' : R2} {f f' : Cells → D → D → R} (h : OpR X (compareOp op) r) (o : O2 (gd X) r f) (h' : OpR X (compareOp op') r') (o' : O2 (gd X) r' f') (ha : Xp X W a ma) (hb : Xp X W b mb) (hc : Xp X W c mc) (hm : lastMarks [op, op'] [b, c] = false := by with_unfolding_all rfl) : Xt1 X W (.Compare a [op, op'] [b, c] pos) (eChain f f' ma mb mc) := by
  obtain ⟨ta, pa, sa⟩ := ha
  obtain ⟨tb, pb, sb⟩ := hb
  obtain ⟨tc, pc, sc⟩ := hc
  refine ⟨_, pt_chain h h' pa pb pc hm, fun σ env H F c cs Q re I po => ?_⟩
  refine simChain sa sb sc o o' re I (Q := fun x H' => ∃ k, x = .bl k ∧ Q k H') ?_
  cases e : eChain f f' ma mb mc env cs with
  | ok d cs1 =>
    rw [e] at po
    cases d with
    | bl b => exact fun H' F' c' x I' v rv => by cases rv; exact ⟨b, rfl, po H' F' c' x I'⟩
    | _ => exact po.elim
  | exc n fs cs1 => rw [e] at po; exact po
  | stuck => rw [e] at po; exact po.elim

/-! ### is -/
def isB (k : Option Bool) (cs : Cells) (d : D) : R := .ok (.bl (match k, d with
  | none, .non => true
  | some b, .bl b' => decide (b' = b)
  | _, _ => false)) cs
def isNB (k : Option Bool) (cs : Cells) (d : D) : R := .ok (.bl !(match k, d with
  | none, .non => true
  | some b, .bl b' => decide (b' = b)
  | _, _ => false)) cs
theorem rv_non {g : Gd} {F : Hp} {c : List Addr} {v : V} {d : D} (r : RV g F c v d) : decide (v = .non) = (match d with | .non => true | _ => false) := by
  cases r <;> rfl
theorem rv_bl {g : Gd} {F : Hp} {c : List Addr} {v : V} {d : D} (b : Bool) (r : RV g F c v d) : decide (v = .bl b) = (match d with | .bl b' => decide (b' = b) | _ => false) := by
  cases r <;> first | rfl | simp
theorem xp_isN {j} {p : Pos} (ha : Xp X W a ma) : Xp X W (.Compare a [.Is] [.Constant .none j p] pos) (op1 (isB none) ma) := by
  obtain ⟨ta, pa, sa⟩ := ha
  refine ⟨_, pe_cmp (pc_isN pa) rfl, fun σ env H F c cs Q re I po => ?_⟩
  refine sa σ env H F c cs _ re I (PoE.cut po _ fun d cs1 _ H1 F1 c1 v x1 I1 rv po1 => ?_)
  rw [rv_non rv]
  cases d <;> exact PoE.here I1 (.bl _) po1
theorem xp_notN {j} {p : Pos} (ha : Xp X W a ma) : Xp X W (.Compare a [.IsNot] [.Constant .none j p] pos) (op1 (isNB none) ma) := by
  obtain ⟨ta, pa, sa⟩ := ha
  refine ⟨_, pe_cmp (pc_notN pa) rfl, fun σ env H F c cs Q re I po => ?_⟩
  refine sa σ env H F c cs _ re I (PoE.cut po _ fun d cs1 _ H1 F1 c1 v x1 I1 rv po1 => ?_)
  rw [rv_non rv]
  cases d <;> exact PoE.here I1 (.bl _) po1
theorem op_isB {X : Cx} : OpR X (compareOp .Is) (fun x y H Q => ∃ b, y = .bl b ∧ Q (.bl (decide (x = .bl b))) H) := by
  intro pins s σ H x y v u Q I rx ry h
  obtain ⟨b, rfl, q⟩ := h
  cases (show u = Value.bool b from ry)
  have hp : plainIs v (.bool b) = true := by
    cases x <;> first | (cases (show v = _ from rx); rfl) | (obtain ⟨t, rfl⟩ := rx; rfl)
  by_cases e : x = .bl b
  · subst e
    cases (show v = Value.bool b from rx)
    exact wpAny_is_self hp ⟨.bl true, H, I, rfl, by simpa using q⟩
  · have ne : v ≠ .bool b := by
      rintro rfl
      cases x <;> first | (cases (show Value.bool b = _ from rx); try exact e rfl) | (obtain ⟨t, z⟩ := rx; cases z)
    exact wpAny_is_other hp ne ⟨.bl false, H, I, rfl, by simpa [e] using q⟩
theorem op_isNB {X : Cx} : OpR X (compareOp .IsNot) (fun x y H Q => ∃ b, y = .bl b ∧ Q (.bl (!decide (x = .bl b))) H) := by
  intro pins s σ H x y v u Q I rx ry h
  obtain ⟨b, rfl, q⟩ := h
  cases (show u = Value.bool b from ry)
  have hp : plainIs v (.bool b) = true := by
    cases x <;> first | (cases (show v = _ from rx); rfl) | (obtain ⟨t, rfl⟩ := rx; rfl)
  by_cases e : x = .bl b
  · subst e
    cases (show v = Value.bool b from rx)
    exact wpAny_isNot_self hp ⟨.bl false, H, I, rfl, by simpa using q⟩
  · have ne : v ≠ .bool b := by
      rintro rfl
      cases x <;> first | (cases (show Value.bool b = _ from rx); try exact e rfl) | (obtain ⟨t, z⟩ := rx; cases z)
    exact wpAny_isNot_other hp ne ⟨.bl true, H, I, rfl, by simpa [e] using q⟩
theorem xp_isB {j} {p : Pos} {b : Bool} (ha : Xp X W a ma) : Xp X W (.Compare a [.Is] [.Constant (.bool b) j p] pos) (op1 (isB (some b)) ma) := by
  obtain ⟨ta, pa, sa⟩ := ha
  refine ⟨_, pe_cmpR op_isB pa pe_bl (nomark _), fun σ env H F c cs Q re I po => ?_⟩
  refine sa σ env H F c cs _ re I (PoE.cut po _ fun d cs1 _ H1 F1 c1 v x1 I1 rv po1 => ?_)
  refine ⟨b, rfl, ?_⟩
  rw [rv_bl b rv]
  cases d <;> exact PoE.here I1 (.bl _) po1
theorem xp_isNB {j} {p : Pos} {b : Bool} (ha : Xp X W a ma) : Xp X W (.Compare a [.IsNot] [.Constant (.bool b) j p] pos) (op1 (isNB (some b)) ma) := by
  obtain ⟨ta, pa, sa⟩ := ha
  refine ⟨_, pe_cmpR op_isNB pa pe_bl (nomark _), fun σ env H F c cs Q re I po => ?_⟩
  refine sa σ env H F c cs _ re I (PoE.cut po _ fun d cs1 _ H1 F1 c1 v x1 I1 rv po1 => ?_)
  refine ⟨b, rfl, ?_⟩
  rw [rv_bl b rv]
  cases d <;> exact PoE.here I1 (.bl _) po1
/-- any comparison that is a value, as a test -/
theorem xt_of {t : TE} {op : CmpOp} (hp : PE X (.Compare a [op] [b] pos) t) : True := trivial
end
end L3

namespace L3
open PySem L2

/-! ### statements -/
def R.toS (r : R) (env : Env) (k : D → Cells → S) : S := match r with
  | .ok d cs => k d cs
  | .exc n fs cs => .exc n fs env cs
  | .stuck => .stuck
@[simp] theorem R.toS_ok (d : D) (cs : Cells) (env : Env) (k : D → Cells → S) : (R.ok d cs).toS env k = k d cs := rfl
@[simp] theorem R.toS_exc (n : Str) (fs : List (Str × D)) (cs : Cells) (env : Env) (k : D → Cells → S) : (R.exc n fs cs).toS env k = .exc n fs env cs := rfl
@[simp] theorem R.toS_stuck (env : Env) (k : D → Cells → S) : R.stuck.toS env k = .stuck := rfl
def S.bind (s : S) (k : Env → Cells → S) : S := match s with
  | .nx e c => k e c
  | s => s
@[simp] theorem S.bind_nx (e : Env) (c : Cells) (k : Env → Cells → S) : (S.nx e c).bind k = k e c := rfl
@[simp] theorem S.bind_rt (d : D) (c : Cells) (k : Env → Cells → S) : (S.rt d c).bind k = .rt d c := rfl
@[simp] theorem S.bind_exc (n : Str) (fs : List (Str × D)) (e : Env) (c : Cells) (k : Env → Cells → S) : (S.exc n fs e c).bind k = .exc n fs e c := rfl
@[simp] theorem S.bind_bk (e : Env) (c : Cells) (k : Env → Cells → S) : (S.bk e c).bind k = .bk e c := rfl
@[simp] theorem S.bind_ct (e : Env) (c : Cells) (k : Env → Cells → S) : (S.ct e c).bind k = .ct e c := rfl
@[simp] theorem S.bind_stuck (k : Env → Cells → S) : S.stuck.bind k = .stuck := rfl
def brS (x : D) (a b : S) : S := match x with
  | .bl true => a
  | .bl false => b
  | _ => .stuck
@[simp] theorem brS_true (a b : S) : brS (.bl true) a b = a := rfl
@[simp] theorem brS_false (a b : S) : brS (.bl false) a b = b := rfl

def sNx : MS := fun env cs => .nx env cs
def sSeq (a b : MS) : MS := fun env cs => (a env cs).bind b
def sAsg (i : Nat) (m : ME) : MS := fun env cs => (m env cs).toS env fun d cs1 => .nx (env.set i (some d)) cs1
def sIf (t : ME) (a b : MS) : MS := fun env cs => (t env cs).toS env fun d cs1 => brS d (a env cs1) (b env cs1)
def sRet (m : ME) : MS := fun env cs => (m env cs).toS env fun d cs1 => .rt d cs1
def sDrop (m : ME) : MS := fun env cs => (m env cs).toS env fun _ cs1 => .nx env cs1
def sBk : MS := fun env cs => .bk env cs
def sCt : MS := fun env cs => .ct env cs
def sNo : MS := fun _ _ => .stuck

theorem PoS.cut {g : Gd} {W : WX} {Dn : Ends} {H F : Hp} {c : List Addr} {r : R} {env : Env} {σ : L2.St} {k : D → Cells → S} (re : RE g F c σ env) (h : PoS g W Dn H F c (r.toS env k)) :
    ∀ Q' : VK, (∀ d cs, r = .ok d cs → ∀ H1 F1 c1 v, Xt H F c H1 F1 c1 → Ih g H1 F1 c1 cs → RV g F1 c1 v d → PoS g W Dn H1 F1 c1 (k d cs) → Q' v H1) → PoE g (fun a b => W a b σ) H F c r Q' := by
  intro Q' hk
  cases r with
  | ok d cs => exact fun H1 F1 c1 x I v rv => hk d cs rfl H1 F1 c1 v x I rv (PoS.from x h)
  | exc n fs cs => exact fun H1 F1 c1 x I C dx vs a b d => h H1 F1 c1 x I σ C dx vs (re.mono x.le) a b d
  | stuck => exact h.elim
theorem PoS.br {g : Gd} {W : WX} {Dn : Ends} {H F : Hp} {c : List Addr} {r : R} {env : Env} {σ : L2.St} {a b : Cells → S} (re : RE g F c σ env) (h : PoS g W Dn H F c (r.toS env fun d cs1 => brS d (a cs1) (b cs1))) :
    ∀ Q' : Bool → Hp → Prop, (∀ t cs, r = .ok (.bl t) cs → ∀ H1 F1 c1, Xt H F c H1 F1 c1 → Ih g H1 F1 c1 cs → PoS g W Dn H1 F1 c1 (if t = true then a cs else b cs) → Q' t H1) → PoT g (fun a b => W a b σ) H F c r Q' := by
  intro Q' hq
  cases r with
  | ok d cs =>
    cases d with
    | bl t => exact fun H1 F1 c1 x I => hq t cs rfl H1 F1 c1 x I (by cases t <;> exact PoS.from x h)
    | _ => exact h.elim
  | exc n fs cs => exact fun H1 F1 c1 x I C dx vs a b d => h H1 F1 c1 x I σ C dx vs (re.mono x.le) a b d
  | stuck => exact h.elim
theorem PoS.next {g : Gd} {W : WX} {Dn : Ends} {H F : Hp} {c : List Addr} {env : Env} {σ : L2.St} {cs : Cells} (I : Ih g H F c cs) (re : RE g F c σ env) (h : PoS g W Dn H F c (.nx env cs)) : Dn.nx σ H := h H F c (Xt.refl _ _ _) I σ re
section
variable {X : Cx} {W : WX} {pos : Pos} {e t : Expr} {m mt : ME} {st : Stmt} {ss tt : List Stmt} {a b : MS}
theorem sms_nil : Sms X W [] sNx := ⟨_, pss_nil, fun _ _ _ _ _ _ _ re I po => PoS.next I re po⟩
theorem seq_sim {ta tb : TS} (sa : ∀ σ env H F c cs Dn, RE (gd X) F c σ env → Ih (gd X) H F c cs → PoS (gd X) W Dn H F c (a env cs) → ta Dn σ H)
    (sb : ∀ σ env H F c cs Dn, RE (gd X) F c σ env → Ih (gd X) H F c cs → PoS (gd X) W Dn H F c (b env cs) → tb Dn σ H) :
    ∀ σ env H F c cs Dn, RE (gd X) F c σ env → Ih (gd X) H F c cs → PoS (gd X) W Dn H F c (sSeq a b env cs) → tSeq ta tb Dn σ H := by
  intro σ env H F c cs Dn re I po
  refine sa σ env H F c cs _ re I ?_
  unfold sSeq at po
  cases h : a env cs with
  | nx e1 c1 => rw [h] at po; exact fun H' F' c' x I' σ' re' => sb σ' e1 H' F' c' c1 Dn re' I' (PoS.from x po)
  | rt d c1 => rw [h] at po; exact po
  | bk e1 c1 => rw [h] at po; exact po
  | ct e1 c1 => rw [h] at po; exact po
  | exc n fs e1 c1 => rw [h] at po; exact po
  | stuck => rw [h] at po; exact po.elim
theorem sms_cons (ha : Sm X W st a) (hb : Sms X W ss b) : Sms X W (st :: ss) (sSeq a b) := by
  obtain ⟨ta, pa, sa⟩ := ha
  obtain ⟨tb, pb, sb⟩ := hb
  exact ⟨_, pss_cons pa pb, seq_sim sa sb⟩
theorem sms_one (ha : Sm X W st a) : Sms X W [st] a := by
  obtain ⟨ta, pa, sa⟩ := ha
  exact ⟨_, pss_one pa, sa⟩
theorem sm_set {i : Nat} {x : Str} {pos' : Pos} (hN : X.N.Nodup) (hi : X.N[i]? = some x) (hx : Loc X.env.scope x) (h : Xp X W e m) (hs : swapsWith e (some (.Name x pos')) pos.line X.env = pure false := by rfl) (hf : X.fn x = true ∨ X.env.scope.names.lookup x = some .local := by first | exact .inl rfl | exact .inr rfl | assumption) : Sm X W (.Assign [.Name x pos'] e pos) (sAsg i m) := by
  obtain ⟨t, p, s⟩ := h
  refine ⟨_, ps_set hN hi hx p hs hf, fun σ env H F c cs Dn re I po => ?_⟩
  refine s σ env H F c cs _ re I (PoS.cut re po _ fun d cs1 _ H1 F1 c1 v x1 I1 rv po1 => ?_)
  exact PoS.next I1 ((re.mono x1.le).set i rv) po1
theorem sm_ret (h : Xp X W e m) : Sm X W (.Return (some e) pos) (sRet m) := by
  obtain ⟨t, p, s⟩ := h
  refine ⟨_, ps_ret p, fun σ env H F c cs Dn re I po => ?_⟩
  exact s σ env H F c cs _ re I (PoS.cut re po _ fun d cs1 _ H1 F1 c1 v x1 I1 rv po1 => po1 _ _ _ (Xt.refl _ _ _) I1 v rv)
theorem sm_retN : Sm X W (.Return none pos) (sRet (eC .non)) := ⟨_, ps_retN, fun σ env H F c cs Dn re I po => po _ _ _ (Xt.refl _ _ _) I .non .non⟩
theorem sm_expr (h : Xp X W e m) (hs : swapsWith e none pos.line X.env = pure false := by rfl) : Sm X W (.Expr e pos) (sDrop m) := by
  obtain ⟨t, p, s⟩ := h
  refine ⟨_, ps_expr p hs, fun σ env H F c cs Dn re I po => ?_⟩
  exact s σ env H F c cs _ re I (PoS.cut re po _ fun d cs1 _ H1 F1 c1 v x1 I1 rv po1 => PoS.next I1 (re.mono x1.le) po1)
theorem sm_pass : Sm X W (.Pass pos) sNx := ⟨_, ps_pass, fun _ _ _ _ _ _ _ re I po => PoS.next I re po⟩
theorem sm_break : Sm X W (.Break pos) sBk := ⟨_, ps_break, fun _ _ _ _ _ _ _ re I po => po _ _ _ (Xt.refl _ _ _) I _ re⟩
theorem sm_continue : Sm X W (.Continue pos) sCt := ⟨_, ps_continue, fun _ _ _ _ _ _ _ re I po => po _ _ _ (Xt.refl _ _ _) I _ re⟩
theorem sm_no : Sm X W st sNo := ⟨_, ps_never, fun _ _ _ _ _ _ _ _ _ po => po⟩
theorem sm_if (ht : Xt1 X W t mt) (ha : Sms X W ss a) (hb : Sms X W tt b) : Sm X W (.If t ss tt pos) (sIf mt a b) := by
  obtain ⟨tc, pc, sc⟩ := ht
  obtain ⟨ta, pa, sa⟩ := ha
  obtain ⟨tb, pb, sb⟩ := hb
  refine ⟨_, ps_if pc pa pb, fun σ env H F c cs Dn re I po => ?_⟩
  refine sc σ env H F c cs _ re I (PoS.br (a := fun cs1 => a env cs1) (b := fun cs1 => b env cs1) re po _ fun k cs1 _ H1 F1 c1 x I1 po1 => ?_)
  cases k with
  | true => exact iteT (sa σ env H1 F1 c1 cs1 Dn (re.mono x.le) I1 po1)
  | false => exact iteF (sb σ env H1 F1 c1 cs1 Dn (re.mono x.le) I1 po1)
end

/-! ### loops -/
open Classical in
/-- one item behind the other; chk: what must hold whenever the next one is asked for -/
noncomputable def forL (chk : Cells → Prop) (tg : D → Env → Option Env) (body : MS) : List D → Env → Cells → S
  | [], env, cs => if chk cs then .nx env cs else .stuck
  | d :: ds, env, cs => if chk cs then (match tg d env with
    | none => .stuck
    | some env1 => match body env1 cs with
      | .nx e c => forL chk tg body ds e c
      | .ct e c => forL chk tg body ds e c
      | .bk e c => .nx e c
      | r => r) else .stuck
theorem forL_chk {chk : Cells → Prop} {tg : D → Env → Option Env} {body : MS} {ds : List D} {env : Env} {cs : Cells} (h : ¬ chk cs) : forL chk tg body ds env cs = .stuck := by
  cases ds <;> simp [forL, h]
/-- an iterator gives these items, as long as ok holds -/
structure Itk (g : Gd) (J : It) (items : List D) (ok : Hp → Hp → List Addr → Cells → Prop) : Prop where
  go : ∀ (i : Nat) H F c cs, Ih g H F c cs → ok H F c cs → i < items.length → J.go i H
  yld : ∀ (i : Nat) H F c cs d, Ih g H F c cs → ok H F c cs → items[i]? = some d → ∀ x H', J.yld i H x H' → ∃ F', Xt H F c H' F' c ∧ Ih g H' F' c cs ∧ RV g F' c x d
  stop : ∀ (i : Nat) H F c cs, Ih g H F c cs → ok H F c cs → i = items.length → J.stop i H
/-- a target -/
def Tgt (X : Cx) (tg : Expr) (f : D → Env → Option Env) (own : List Nat) : Prop := ∃ tG, PG X tg tG ∧ ∀ σ env H F c cs v d env1 Q, RE (gd X) F c σ env → Ih (gd X) H F c cs → RV (gd X) F c v d → f d env = some env1 → (∀ σ1, RE (gd X) F c σ1 env1 → L2.wipe σ1 own = L2.wipe σ own → Q σ1 H) → tG v σ H Q
theorem wipe_get (σ : L2.St) (j : Nat) : ∀ vs : List Nat, (L2.wipe σ vs)[j]? = if j ∈ vs then (if j < σ.length then some none else none) else σ[j]?
  | [] => by simp [L2.wipe]
  | v :: vs => by
    unfold L2.wipe
    have ih := wipe_get σ j vs
    by_cases h : j = v
    · subst h
      by_cases hl : j < σ.length
      · rw [List.getElem?_set_self (by rw [wipe_length]; exact hl)]; simp [hl]
      · rw [List.getElem?_eq_none (by rw [List.length_set, wipe_length]; omega)]; simp [hl]
    · rw [List.getElem?_set_ne (Ne.symm h), ih]
      simp [h]
theorem wipe_set {σ : L2.St} {i : Nat} {x : Option V} {vs : List Nat} (h : i ∈ vs) : L2.wipe (σ.set i x) vs = L2.wipe σ vs := by
  apply List.ext_getElem?
  intro j
  rw [wipe_get, wipe_get]
  by_cases hj : j ∈ vs
  · simp [hj]
  · have : j ≠ i := fun e => hj (e ▸ h)
    simp [hj, List.getElem?_set_ne (Ne.symm this)]
theorem wipe_wipe (σ : L2.St) (vs : List Nat) : L2.wipe (L2.wipe σ vs) vs = L2.wipe σ vs := by
  apply List.ext_getElem?
  intro j
  rw [wipe_get, wipe_length]
  by_cases hj : j ∈ vs <;> simp [hj, wipe_get]
theorem for_sim {g : Gd} {W : WX} {J : It} {items : List D} {kn : Hp → List Addr → Prop} {chk : Cells → Prop} (K : Itk g J items fun H F c cs => kn F c ∧ chk cs) (km : ∀ F c F' c', Le F c F' c' → kn F c → kn F' c')
    {tg : D → Env → Option Env} {body : MS} {tG : TG} {tb : TS} (hg : ∀ σ env H F c cs v d env1 Q, RE g F c σ env → Ih g H F c cs → RV g F c v d → tg d env = some env1 → (∀ σ1, RE g F c σ1 env1 → Q σ1 H) → tG v σ H Q)
    (hb : ∀ σ env H F c cs Dn, RE g F c σ env → Ih g H F c cs → PoS g W Dn H F c (body env cs) → tb Dn σ H)
    {σ : L2.St} {env : Env} {H F : Hp} {c : List Addr} {cs : Cells} {Dn : Ends} (re : RE g F c σ env) (I : Ih g H F c cs) (hk : kn F c) (po : PoS g W Dn H F c (forL chk tg body items env cs)) :
    ∃ Wi : Nat → Nat → L2.St → Hp → Prop, (∃ m, Wi 0 m σ H) ∧ ∀ i m σ H, Wi i m σ H →
      (J.stop i H ∧ Dn.nx σ H) ∨ (J.go i H ∧ ∃ N : L2.St → Hp → Prop, (∀ σ' H', N σ' H' → ∃ m', m' < m ∧ Wi (i + 1) m' σ' H') ∧ ∀ x H', J.yld i H x H' → tG x σ H' fun σ2 H2 => tb { Dn with nx := N, ct := N, bk := Dn.nx } σ2 H2) := by
  refine ⟨fun i m σ H => m = items.length - i ∧ i ≤ items.length ∧ ∃ env F c cs, RE g F c σ env ∧ Ih g H F c cs ∧ kn F c ∧ PoS g W Dn H F c (forL chk tg body (items.drop i) env cs), ⟨_, rfl, Nat.zero_le _, env, F, c, cs, re, I, hk, by simpa using po⟩, ?_⟩
  rintro i m σ H ⟨rfl, hi, env, F, c, cs, re, I, hk, po⟩
  by_cases hc : chk cs
  · by_cases hlt : i < items.length
    · refine .inr ⟨K.go i H F c cs I ⟨hk, hc⟩ hlt, fun σ' H' => ∃ m', m' < items.length - i ∧ (m' = items.length - (i + 1) ∧ i + 1 ≤ items.length ∧ ∃ env F c cs, RE g F c σ' env ∧ Ih g H' F c cs ∧ kn F c ∧ PoS g W Dn H' F c (forL chk tg body (items.drop (i + 1)) env cs)), fun σ' H' h => h, fun x H' y => ?_⟩
      obtain ⟨F', x1, I1, rv⟩ := K.yld i H F c cs items[i] I ⟨hk, hc⟩ (by simp [hlt]) x H' y
      rw [List.drop_eq_getElem_cons hlt] at po
      simp only [forL, hc, if_true] at po
      cases ht : tg items[i] env with
      | none => rw [ht] at po; exact po.elim
      | some env1 =>
        rw [ht] at po
        simp only at po
        refine hg σ env H' F' c cs x _ env1 _ (re.mono x1.le) I1 rv ht fun σ1 re1 => ?_
        have po' := PoS.from x1 po
        have k1 := km _ _ _ _ x1.le hk
        refine hb σ1 env1 H' F' c cs _ re1 I1 ?_
        have nxt : ∀ {e1 : Env} {c1 : Cells} {H2 F2 : Hp} {c2 : List Addr} {σ2 : L2.St}, Xt H' F' c H2 F2 c2 → Ih g H2 F2 c2 c1 → RE g F2 c2 σ2 e1 → PoS g W Dn H' F' c (forL chk tg body (items.drop (i + 1)) e1 c1) →
            ∃ m', m' < items.length - i ∧ (m' = items.length - (i + 1) ∧ i + 1 ≤ items.length ∧ ∃ env F c cs, RE g F c σ2 env ∧ Ih g H2 F c cs ∧ kn F c ∧ PoS g W Dn H2 F c (forL chk tg body (items.drop (i + 1)) env cs)) :=
          fun x2 I2 re2 p2 => ⟨_, by omega, rfl, hlt, _, _, _, _, re2, I2, km _ _ _ _ x2.le k1, PoS.from x2 p2⟩
        cases hbd : body env1 cs with
        | nx e1 c1 => rw [hbd] at po'; exact fun H2 F2 c2 x2 I2 σ2 re2 => nxt x2 I2 re2 po'
        | ct e1 c1 => rw [hbd] at po'; exact fun H2 F2 c2 x2 I2 σ2 re2 => nxt x2 I2 re2 po'
        | bk e1 c1 => rw [hbd] at po'; exact po'
        | rt d c1 => rw [hbd] at po'; exact po'
        | exc n fs e1 c1 => rw [hbd] at po'; exact po'
        | stuck => rw [hbd] at po'; exact po'.elim
    · have e : i = items.length := by omega
      subst e
      rw [List.drop_length] at po
      simp only [forL, hc, if_true] at po
      exact .inl ⟨K.stop _ H F c cs I ⟨hk, hc⟩ rfl, PoS.next I re po⟩
  · rw [forL_chk hc] at po
    exact po.elim
section
variable {g : Gd}
theorem itk_list {a : Addr} {d : D} {items : List D} (hd : ∀ l, d ≠ .tup l) : Itk g (Itl g.K a) items fun H F c cs => RV g F c (.ref a) d ∧ seqOf cs d = some items := by
  have get : ∀ {H F c cs}, Ih g H F c cs → RV g F c (.ref a) d ∧ seqOf cs d = some items → ∃ vs, SqL g.K H a vs ∧ RVs g F c vs items := by
    rintro H F c cs I ⟨r, h⟩
    have fl : listOf cs d = some items → ∃ vs, SqL g.K H a vs ∧ RVs g F c vs items := fun h => by
      obtain ⟨b, vs, e, h1, h2⟩ := listOf_at I r h
      cases e
      exact ⟨vs, .inl (.inl h1), h2⟩
    cases d with
    | tup l => exact absurd rfl (hd l)
    | scr l =>
      simp only [seqOf, Option.some.injEq] at h
      subst h
      cases r with
      | scr h1 => exact ⟨_, SqL.up I.sub h1, rvs_ints _⟩
    | _ => exact fl h
  refine ⟨fun i H F c cs I ok hi => ?_, fun i H F c cs d' I ok hd x H' y => ?_, fun i H F c cs I ok hi => ?_⟩
  · obtain ⟨vs, h1, h2⟩ := get I ok
    exact ⟨vs, vs[i]'(by rw [h2.length]; exact hi), h1, by simp⟩
  · obtain ⟨vs, h1, h2⟩ := get I ok
    obtain ⟨rfl, y⟩ := y
    obtain ⟨v, e, rv⟩ := h2.get hd
    have := y vs h1
    rw [e] at this
    cases this
    exact ⟨F, Xt.refl _ _ _, I, rv⟩
  · obtain ⟨vs, h1, h2⟩ := get I ok
    exact ⟨vs, h1, by rw [h2.length]; omega⟩
theorem itk_tup {a : Addr} {items : List D} : Itk g (Itt g.K a) items fun H F c cs => RV g F c (.ref a) (.tup items) ∧ seqOf cs (.tup items) = some items := by
  have get : ∀ {H F c cs}, Ih g H F c cs → RV g F c (.ref a) (.tup items) → ∃ vs, SqT g.K H a vs ∧ RVs g F c vs items := by
    intro H F c cs I r
    cases r with
    | tup h1 h2 => exact ⟨_, .inl (.inl (I.sub _ _ h1)), h2⟩
  refine ⟨fun i H F c cs I ok hi => ?_, fun i H F c cs d' I ok hd x H' y => ?_, fun i H F c cs I ok hi => ?_⟩
  · obtain ⟨vs, h1, h2⟩ := get I ok.1
    exact ⟨vs, vs[i]'(by rw [h2.length]; exact hi), h1, by simp⟩
  · obtain ⟨vs, h1, h2⟩ := get I ok.1
    obtain ⟨rfl, y⟩ := y
    obtain ⟨v, e, rv⟩ := h2.get hd
    have := y vs h1
    rw [e] at this
    cases this
    exact ⟨F, Xt.refl _ _ _, I, rv⟩
  · obtain ⟨vs, h1, h2⟩ := get I ok.1
    exact ⟨vs, h1, by rw [h2.length]; omega⟩
def rangeD (lo : Int) (n : Nat) : List D := (List.range n).map fun (i : Nat) => D.int (lo + (i : Int))
@[simp] theorem rangeD_length (lo : Int) (n : Nat) : (rangeD lo n).length = n := by simp [rangeD]
theorem itk_range {lo : Int} {n : Nat} : Itk g (Itr lo n) (rangeD lo n) fun _ _ _ _ => True ∧ True := by
  refine ⟨fun i H F c cs I ok hi => (by simpa using hi : i < n), fun i H F c cs d' I ok hd x H' y => ?_, fun i H F c cs I ok hi => ?_⟩
  · obtain ⟨rfl, rfl⟩ := y
    have hl : i < n := by simpa using (List.getElem?_eq_some_iff.mp hd).1
    simp [rangeD, hl] at hd
    subst hd
    exact ⟨F, Xt.refl _ _ _, I, .int _⟩
  · show n ≤ i
    simp at hi; omega
end
def tgN (i : Nat) (d : D) (env : Env) : Option Env := some (env.set i (some d))
section
variable {X : Cx} {W : WX} {pos : Pos} {e t : Expr} {m mt : ME} {ss : List Stmt} {a b : MS}
theorem tgt_name {i : Nat} {x : Str} (hN : X.N.Nodup) (hi : X.N[i]? = some x) (hx : Loc X.env.scope x) {own : List Nat} (ho : i ∈ own := by decide) (hf : X.fn x = true ∨ X.env.scope.names.lookup x = some .local := by first | exact .inl rfl | exact .inr rfl | assumption) : Tgt X (.Name x pos) (tgN i) own := by
  refine ⟨_, pg_name hN hi hx hf, fun σ env H F c cs v d env1 Q re I rv h k => ?_⟩
  simp only [tgN, Option.some.injEq] at h
  subst h
  exact k _ (re.set i rv) (wipe_set ho)
/-! ### while -/
/-- n turns at most -/
def whN (t : ME) (b : MS) : Nat → Env → Cells → S
  | 0, _, _ => .stuck
  | n + 1, env, cs => (t env cs).toS env fun d cs1 => brS d (match b env cs1 with
      | .nx e c => whN t b n e c
      | .ct e c => whN t b n e c
      | .bk e c => .nx e c
      | r => r) (.nx env cs1)
open Classical in
/-- as many turns as it takes -/
noncomputable def sWhile (t : ME) (b : MS) : MS := fun env cs => if h : ∃ n, whN t b n env cs ≠ .stuck then whN t b h.choose env cs else .stuck
theorem whN_mono (t : ME) (b : MS) : ∀ (n : Nat) (env : Env) (cs : Cells), whN t b n env cs ≠ .stuck → whN t b (n + 1) env cs = whN t b n env cs
  | 0, _, _, h => absurd rfl h
  | n + 1, env, cs, h => by
    simp only [whN] at h ⊢
    cases ht : t env cs with
    | ok d cs1 =>
      rw [ht] at h
      simp only [R.toS_ok] at h ⊢
      cases d with
      | bl k =>
        cases k with
        | false => rfl
        | true =>
          simp only [brS_true] at h ⊢
          cases hb : b env cs1 with
          | nx e c => rw [hb] at h; exact whN_mono t b n e c h
          | ct e c => rw [hb] at h; exact whN_mono t b n e c h
          | _ => rfl
      | _ => exact absurd rfl h
    | exc => rfl
    | stuck => rw [ht] at h; exact absurd rfl h
theorem whN_le (t : ME) (b : MS) {n : Nat} {env : Env} {cs : Cells} (h : whN t b n env cs ≠ .stuck) : ∀ k, whN t b (n + k) env cs = whN t b n env cs
  | 0 => rfl
  | k + 1 => by
    have ih := whN_le t b h k
    have := whN_mono t b (n + k) env cs (by rw [ih]; exact h)
    rw [← Nat.add_assoc, this, ih]
theorem sWhile_eq (t : ME) (b : MS) {n : Nat} {env : Env} {cs : Cells} (h : whN t b n env cs ≠ .stuck) : sWhile t b env cs = whN t b n env cs := by
  have hx : ∃ n, whN t b n env cs ≠ .stuck := ⟨n, h⟩
  unfold sWhile
  rw [dif_pos hx]
  generalize hx.choose = k, hx.choose_spec = hk
  rcases Nat.le_total k n with q | q
  · obtain ⟨j, rfl⟩ := Nat.exists_eq_add_of_le q
    rw [whN_le t b hk j]
  · obtain ⟨j, rfl⟩ := Nat.exists_eq_add_of_le q
    rw [whN_le t b h j]
theorem sm_while (hp : PassesOwn (model X.prog X.w) X.A X.env X.xe) (ht : Xt1 X W t mt) (hb : Sms X W ss b) : Sm X W (.While t ss [] pos) (sWhile mt b) := by
  obtain ⟨tc, pc, sc⟩ := ht
  obtain ⟨tb, pb, sb⟩ := hb
  refine ⟨_, ps_while hp pc pb, fun σ env H F c cs Dn re I po => ?_⟩
  unfold sWhile at po
  split at po
  · rename_i hx
    generalize hx.choose = n at po
    refine ⟨fun n σ H => ∃ env F c cs, RE (gd X) F c σ env ∧ Ih (gd X) H F c cs ∧ PoS (gd X) W Dn H F c (whN mt b n env cs), ⟨n, env, F, c, cs, re, I, po⟩, ?_⟩
    rintro n σ H ⟨env, F, c, cs, re, I, po⟩
    cases n with
    | zero => exact po.elim
    | succ n =>
      simp only [whN] at po
      refine sc σ env H F c cs _ re I (PoS.br (a := fun cs1 => match b env cs1 with | .nx e c => whN mt b n e c | .ct e c => whN mt b n e c | .bk e c => .nx e c | r => r) (b := fun cs1 => .nx env cs1) re po _ fun k cs1 _ H1 F1 c1 x I1 po1 => ?_)
      cases k with
      | true =>
        refine iteT ⟨fun σ' H' => ∃ env F c cs, RE (gd X) F c σ' env ∧ Ih (gd X) H' F c cs ∧ PoS (gd X) W Dn H' F c (whN mt b n env cs), fun σ' H' h => ⟨n, Nat.lt_succ_self n, h⟩, ?_⟩
        refine sb σ env H1 F1 c1 cs1 _ (re.mono x.le) I1 ?_
        simp only [if_true] at po1
        cases hbd : b env cs1 with
        | nx e1 c2 => rw [hbd] at po1; exact fun H2 F2 c3 x2 I2 σ2 re2 => ⟨e1, F2, c3, c2, re2, I2, PoS.from x2 po1⟩
        | ct e1 c2 => rw [hbd] at po1; exact fun H2 F2 c3 x2 I2 σ2 re2 => ⟨e1, F2, c3, c2, re2, I2, PoS.from x2 po1⟩
        | bk e1 c2 => rw [hbd] at po1; exact po1
        | rt d c2 => rw [hbd] at po1; exact po1
        | exc n fs e1 c2 => rw [hbd] at po1; exact po1
        | stuck => rw [hbd] at po1; exact po1.elim
      | false => exact iteF (PoS.next I1 (re.mono x.le) po1)
  · exact po.elim
end
end L3

namespace L3
open PySem L2

/-! ### what is walked -/
inductive RW where
  | ok (items : List D) (chk : Cells → Prop) (cs : Cells)
  | exc (n : Str) (fs : List (Str × D)) (cs : Cells)
  | stuck
abbrev MW := Env → Cells → RW
def R.toW (r : R) (k : D → Cells → RW) : RW := match r with
  | .ok d cs => k d cs
  | .exc n fs cs => .exc n fs cs
  | .stuck => .stuck
@[simp] theorem R.toW_ok (d : D) (cs : Cells) (k : D → Cells → RW) : (R.ok d cs).toW k = k d cs := rfl
@[simp] theorem R.toW_exc (n : Str) (fs : List (Str × D)) (cs : Cells) (k : D → Cells → RW) : (R.exc n fs cs).toW k = .exc n fs cs := rfl
@[simp] theorem R.toW_stuck (k : D → Cells → RW) : R.stuck.toW k = .stuck := rfl
def PoW (g : Gd) (W : XK) (H F : Hp) (c : List Addr) (r : RW) (R : It → Hp → Prop) : Prop := match r with
  | .ok items chk cs => Fw g H F c cs fun H' F' c' => ∀ (J : It) (kn : Hp → List Addr → Prop), Itk g J items (fun H F c cs => kn F c ∧ chk cs) → (∀ F c F' c', Le F c F' c' → kn F c → kn F' c') → kn F' c' → R J H'
  | .exc n fs cs => ExK g W H F c n fs cs
  | .stuck => False
def Wk (X : Cx) (W : WX) (tg e : Expr) (m : MW) : Prop := ∃ wi, PI X tg e wi ∧ ∀ σ env H F c cs R, RE (gd X) F c σ env → Ih (gd X) H F c cs → PoW (gd X) (fun a b => W a b σ) H F c (m env cs) R → wi σ H R
theorem PoW.from {g : Gd} {W : XK} {H F H1 F1 : Hp} {c c1 : List Addr} {r : RW} {R : It → Hp → Prop} (x : Xt H F c H1 F1 c1) (h : PoW g W H F c r R) : PoW g W H1 F1 c1 r R := by
  cases r with
  | ok d k cs => exact Fw.from x h fun _ _ _ k => k
  | exc n fs cs => exact ExK.from x h
  | stuck => exact h
theorem PoW.cut {g : Gd} {W : XK} {H F : Hp} {c : List Addr} {r : R} {k : D → Cells → RW} {Rw : It → Hp → Prop} (h : PoW g W H F c (r.toW k) Rw) :
    ∀ Q' : VK, (∀ d cs, r = .ok d cs → ∀ H1 F1 c1 v, Xt H F c H1 F1 c1 → Ih g H1 F1 c1 cs → RV g F1 c1 v d → PoW g W H1 F1 c1 (k d cs) Rw → Q' v H1) → PoE g W H F c r Q' := by
  intro Q' hk
  cases r with
  | ok d cs => exact fun H1 F1 c1 x I v rv => hk d cs rfl H1 F1 c1 v x I rv (PoW.from x h)
  | exc n fs cs => exact h
  | stuck => exact h
section
variable {X : Cx} {W : WX} {pos p p1 : Pos} {tg e e2 e3 : Expr} {m m2 m3 : ME}
theorem seqOf_ref {g : Gd} {H F : Hp} {c : List Addr} {cs : Cells} {v : V} {d : D} {items : List D} (I : Ih g H F c cs) (rv : RV g F c v d) (h : seqOf cs d = some items) : ∃ p, v = .ref p := by
  obtain ⟨p, vs, e, _⟩ := seqOf_at I rv h
  exact ⟨p, e⟩
/-- a list, a tuple, a text -/
def wSeq (m : ME) : MW := fun env cs => (m env cs).toW fun d cs1 => match d with
  | .str l => .ok (l.map fun ch => .str [ch]) (fun _ => True) cs1
  | d => match seqOf cs1 d with
    | some items => .ok items (fun cs2 => seqOf cs2 d = some items) cs1
    | none => .stuck
theorem itk_str {g : Gd} {l : List Nat} : Itk g (Its ⟨l.toArray⟩) (l.map fun ch => .str [ch]) fun _ _ _ _ => True ∧ True := by
  refine ⟨fun i H F c cs I ok hi => ?_, fun i H F c cs d' I ok hd x H' y => ?_, fun i H F c cs I ok hi => ?_⟩
  · show i < l.toArray.size
    simpa using hi
  · obtain ⟨rfl, ch, h1, rfl⟩ := y
    have h1 : l[i]? = some ch := by simpa using h1
    rw [List.getElem?_map, h1] at hd
    simp only [Option.map_some, Option.some.injEq] at hd
    subst hd
    exact ⟨F, Xt.refl _ _ _, I, .str [ch]⟩
  · show l.toArray.size ≤ i
    simp at hi ⊢; omega
theorem wk_seq (he : Xp X W e m) : Wk X W tg e (wSeq m) := by
  obtain ⟨te, pe, se⟩ := he
  refine ⟨_, pi_orE (pi_list pe) (pi_orE (pi_tup pe) (pi_str pe)), fun σ env H F c cs R re I po => ?_⟩
  unfold wSeq at po
  by_cases hstr : ∃ l cs1, m env cs = .ok (.str l) cs1
  · obtain ⟨l, cs1, h⟩ := hstr
    refine .inr (.inr (se σ env H F c cs _ re I (PoW.cut po _ fun d cs2 h2 H1 F1 c1 v x1 I1 rv po1 => ?_)))
    rw [h] at h2
    cases h2
    cases rv
    exact ⟨_, rfl, po1 _ _ _ (Xt.refl _ _ _) I1 _ (fun _ _ => True) itk_str (fun _ _ _ _ _ k => k) trivial⟩
  · by_cases htup : ∃ l cs1, m env cs = .ok (.tup l) cs1
    · obtain ⟨l, cs1, h⟩ := htup
      refine .inr (.inl (se σ env H F c cs _ re I (PoW.cut po _ fun d cs2 h2 H1 F1 c1 v x1 I1 rv po1 => ?_)))
      rw [h] at h2
      cases h2
      obtain ⟨p, rfl⟩ := seqOf_ref I1 rv (items := l) rfl
      refine ⟨p, rfl, ?_, po1 _ _ _ (Xt.refl _ _ _) I1 _ (fun F c => RV (gd X) F c (.ref p) (.tup l)) itk_tup (fun _ _ _ _ e k => k.mono e) rv⟩
      cases rv with
      | tup g1 g2 => exact ⟨_, .inl (.inl (I1.sub _ _ g1))⟩
    · refine .inl (se σ env H F c cs _ re I (PoW.cut po _ fun d cs2 h2 H1 F1 c1 v x1 I1 rv po1 => ?_))
      have nt : ∀ l, d ≠ .tup l := fun l e => htup ⟨l, cs2, by rw [h2, e]⟩
      have ns : ∀ l, d ≠ .str l := fun l e => hstr ⟨l, cs2, by rw [h2, e]⟩
      have po2 : PoW (gd X) (fun a b => W a b σ) H1 F1 c1 (match seqOf cs2 d with
          | some items => .ok items (fun cs2 => seqOf cs2 d = some items) cs2
          | none => .stuck) R := by
        cases d with
        | str l => exact absurd rfl (ns l)
        | _ => exact po1
      cases hs : seqOf cs2 d with
      | none => rw [hs] at po2; exact po2.elim
      | some items =>
        rw [hs] at po2
        obtain ⟨p, rfl⟩ := seqOf_ref I1 rv hs
        have K := itk_list (g := gd X) (a := p) (items := items) nt
        refine ⟨p, rfl, ?_, po2 _ _ _ (Xt.refl _ _ _) I1 _ (fun F c => RV (gd X) F c (.ref p) d) K (fun _ _ _ _ e k => k.mono e) rv⟩
        by_cases hz : 0 < items.length
        · obtain ⟨xs, _, h1, _⟩ := K.go 0 H1 F1 c1 cs2 I1 ⟨rv, hs⟩ hz
          exact ⟨xs, h1⟩
        · obtain ⟨xs, h1, _⟩ := K.stop 0 H1 F1 c1 cs2 I1 ⟨rv, hs⟩ (by omega)
          exact ⟨xs, h1⟩
/-- range -/
def lim : Int := 4611686018427387904
def wR1 (m : ME) : MW := fun env cs => (m env cs).toW fun d cs1 => match d with
  | .int j => if -lim ≤ j ∧ j < lim then .ok (rangeD 0 j.toNat) (fun _ => True) cs1 else .stuck
  | _ => .stuck
def wR2 (m m2 : ME) : MW := fun env cs => (m env cs).toW fun d cs1 => (m2 env cs1).toW fun d2 cs2 => match d, d2 with
  | .int i, .int j => if -lim ≤ i ∧ i < lim ∧ -lim ≤ j ∧ j < lim then .ok (rangeD i (j - i).toNat) (fun _ => True) cs2 else .stuck
  | _, _ => .stuck
theorem wk_range1 (hg : Gl X "range") (hm : X.mg "range" = none) (he : Xp X W e m) (hs : starEach [e] X.env = (false, eval e X.env) :: starEach [] X.env := by rfl) : Wk X W tg (.Call (.Name "range" p) [e] [] p1) (wR1 m) := by
  obtain ⟨te, pe, se⟩ := he
  refine ⟨_, pi_range1 hg hm (pa_cons pe pa_nil hs) hs, fun σ env H F c cs R re I po => ?_⟩
  refine se σ env H F c cs _ re I (PoW.cut po _ fun d cs2 h2 H1 F1 c1 v x1 I1 rv po1 => ?_)
  cases d with
  | int j =>
    cases rv
    simp only at po1
    split at po1
    · rename_i h
      have p2 : (2 : Int) ^ 62 = lim := by decide
      exact ⟨j, rfl, by rw [p2]; exact h.1, by rw [p2]; exact h.2, po1 _ _ _ (Xt.refl _ _ _) I1 _ (fun _ _ => True) (itk_range (lo := 0) (n := j.toNat)) (fun _ _ _ _ _ k => k) trivial⟩
    · exact po1.elim
  | _ => exact po1.elim
theorem wk_range2 (hg : Gl X "range") (hm : X.mg "range" = none) (he : Xp X W e m) (he2 : Xp X W e2 m2)
    (hs : starEach [e, e2] X.env = (false, eval e X.env) :: starEach [e2] X.env := by rfl) (hs2 : starEach [e2] X.env = (false, eval e2 X.env) :: starEach [] X.env := by rfl) : Wk X W tg (.Call (.Name "range" p) [e, e2] [] p1) (wR2 m m2) := by
  obtain ⟨te, pe, se⟩ := he
  obtain ⟨te2, pe2, se2⟩ := he2
  refine ⟨_, pi_range2 hg hm (pa_cons pe (pa_cons pe2 pa_nil hs2) hs) (hs.trans (by rw [hs2]; rfl)) hs2, fun σ env H F c cs R re I po => ?_⟩
  refine se σ env H F c cs _ re I (PoW.cut po _ fun d cs2 h2 H1 F1 c1 v x1 I1 rv po1 => ?_)
  refine se2 σ env H1 F1 c1 cs2 _ (re.mono x1.le) I1 (PoW.cut po1 _ fun d2 cs3 h3 H2 F2 c2 v2 x2 I2 rv2 po2 => ?_)
  split at po2
  · cases rv; cases rv2
    split at po2
    · rename_i h
      have p2 : (2 : Int) ^ 62 = lim := by decide
      exact ⟨_, _, rfl, by rw [p2]; exact h, po2 _ _ _ (Xt.refl _ _ _) I2 _ (fun _ _ => True) itk_range (fun _ _ _ _ _ k => k) trivial⟩
    · exact po2.elim
  · exact po2.elim

/-! ### for -/
noncomputable def sFor (tg : D → Env → Option Env) (m : MW) (body : MS) : MS := fun env cs => match m env cs with
  | .ok items chk cs1 => forL chk tg body items env cs1
  | .exc n fs cs1 => .exc n fs env cs1
  | .stuck => .stuck
theorem sm_for {f : D → Env → Option Env} {mw : MW} {ss : List Stmt} {b : MS} (hc : X.calm = true) (hp : PassesOwn (model X.prog X.w) X.A X.env X.xe) (he : Wk X W tg e mw) {own : List Nat} (ht : Tgt X tg f own) (hb : Sms X W ss b)
    (hs : ∀ x, foldedSetIterable e X.env x = pure x := by intro _; rfl) : Sm X W (.For tg e ss [] pos) (sFor f mw b) := by
  obtain ⟨wi, pw, sw⟩ := he
  obtain ⟨tG, pg, sg⟩ := ht
  obtain ⟨tb, pb, sb⟩ := hb
  refine ⟨_, ps_for hp hc pw pg pb hs, fun σ env H F c cs Dn re I po => ?_⟩
  refine sw σ env H F c cs _ re I ?_
  unfold sFor at po
  cases h : mw env cs with
  | ok items chk cs1 =>
    rw [h] at po
    exact fun H1 F1 c1 x1 I1 J kn K km hk => for_sim K km (fun σ env H F c cs v d env1 Q re I rv h k => sg σ env H F c cs v d env1 Q re I rv h fun σ1 a _ => k σ1 a) sb (re.mono x1.le) I1 hk (PoS.from x1 po)
  | exc n fs cs1 =>
    rw [h] at po
    exact fun H1 F1 c1 x I C dx vs a b d => po H1 F1 c1 x I σ C dx vs (re.mono x.le) a b d
  | stuck => rw [h] at po; exact po.elim

/-! ### comprehensions -/
def wipeE (env : Env) : List Nat → Env
  | [] => env
  | v :: vs => (wipeE env vs).set v none
theorem RE.wipe {g : Gd} {F : Hp} {c : List Addr} {σ : L2.St} {env : Env} (h : RE g F c σ env) : ∀ vs : List Nat, RE g F c (L2.wipe σ vs) (wipeE env vs)
  | [] => h
  | v :: vs => RE.unset (RE.wipe h vs) v
open Classical in
noncomputable def lcL (chk : Cells → Prop) (tg : D → Env → Option Env) (t e : ME) : List D → Env → Cells → RA
  | [], env, cs => if chk cs then .ok [] cs else .stuck
  | d :: ds, env, cs => if chk cs then (match tg d env with
    | none => .stuck
    | some env1 => match t env1 cs with
      | .ok (.bl true) cs1 => (match e env1 cs1 with
        | .ok y cs2 => (match lcL chk tg t e ds env cs2 with
          | .ok ys cs3 => .ok (y :: ys) cs3
          | _ => .stuck)
        | _ => .stuck)
      | .ok (.bl false) cs1 => lcL chk tg t e ds env cs1
      | _ => .stuck) else .stuck
def RA.pre (l : List D) : RA → RA
  | .ok ds cs => .ok (l ++ ds) cs
  | r => r
noncomputable def eLc (md : Bool) (own : List Nat) (tg : D → Env → Option Env) (m : MW) (t e : ME) : ME := fun env cs => match m env cs with
  | .ok items chk cs1 => (lcL chk tg t e items (wipeE env own) cs1).bind fun ds cs2 => mkL md cs2 ds
  | .exc n fs cs1 => .exc n fs cs1
  | .stuck => .stuck
/-- the tests of a comprehension -/
def Xts (X : Cx) (W : WX) (es : List Expr) (m : ME) : Prop := ∃ t, PTs X es t ∧ ∀ σ env H F c cs Q, RE (gd X) F c σ env → Ih (gd X) H F c cs → PoT (gd X) (fun a b => W a b σ) H F c (m env cs) Q → t σ H Q
theorem xts_nil : Xts X W [] (eC (.bl true)) := ⟨_, pts_nil, fun _ _ _ _ _ _ _ _ I po => PoT.here I po⟩
theorem xts_one (h : Xt1 X W e m) : Xts X W [e] m := by
  obtain ⟨t, p, s⟩ := h
  exact ⟨_, pts_one p, s⟩
end
/-- an object aside of F and c is written -/
theorem Ih.side {g : Gd} {H F : Hp} {c : List Addr} {cs : Cells} (I : Ih g H F c cs) {p : Addr} {o : HO} (hc : p ∉ c) (hF : F p = none) : Ih g (upd H p o) F c cs := by
  refine ⟨fun a u e => by rw [upd_ne (ne_of_none e hF)]; exact I.sub a u e, I.len, I.nd, fun n a x h1 h2 => ?_⟩
  have hne : a ≠ p := fun e => hc (e ▸ List.mem_of_getElem? h1)
  exact CR.mono (I.cell n a x h1 h2) (Le.refl _ _) (fun u e => by rw [upd_ne hne]; exact e) fun e => e
theorem Xt.side {H0 F0 H F : Hp} {c0 c : List Addr} (x : Xt H0 F0 c0 H F c) {p : Addr} {o : HO} (hp : H0 p = none) : Xt H0 F0 c0 (upd H p o) F c :=
  ⟨x.le, fun a u e n => by rw [upd_ne (ne_of_none e hp)]; exact x.kp a u e n, fun a u e => by rw [upd_ne (ne_of_none e hp)]; exact x.dom a u e, x.new, x.out⟩
structure LcI (g : Gd) (W : XK) (H F : Hp) (c : List Addr) (Q : VK) (md : Bool) (Dl : Addr) (rest : Env → Cells → RA) (env : Env) (H' : Hp) : Prop where
  ex : ∃ F' c' cs' acc dacc, Xt H F c H' F' c' ∧ Ih g H' F' c' cs' ∧ H' Dl = some (.lst acc) ∧ Dl ∉ c' ∧ F' Dl = none ∧ RVs g F' c' acc dacc ∧ PoE g W H F c (((rest env cs').pre dacc).bind fun ds cs2 => mkL md cs2 ds) Q
/-- [e for .. in it if t] -/
theorem lc_sim {g : Gd} {W : XK} {J : It} {items : List D} {kn : Hp → List Addr → Prop} {chk : Cells → Prop} (K : Itk g J items fun H F c cs => kn F c ∧ chk cs) (km : ∀ F c F' c', Le F c F' c' → kn F c → kn F' c')
    {tg : D → Env → Option Env} {mt me : ME} {md : Bool} {tG : TG} {tt : TT} {te : TE} {own : List Nat} {Q : VK}
    (hg : ∀ σ env H F c cs v d env1 Q, RE g F c σ env → Ih g H F c cs → RV g F c v d → tg d env = some env1 → (∀ σ1, RE g F c σ1 env1 → L2.wipe σ1 own = L2.wipe σ own → Q σ1 H) → tG v σ H Q)
    (ht : ∀ σ env H F c cs Q, RE g F c σ env → Ih g H F c cs → PoT g (fun _ _ _ => False) H F c (mt env cs) Q → tt σ H Q)
    (he : ∀ σ env H F c cs Q, RE g F c σ env → Ih g H F c cs → PoE g (fun _ _ _ => False) H F c (me env cs) Q → te σ H Q)
    {σ : L2.St} {env : Env} {H F : Hp} {c : List Addr} {cs : Cells} (re : RE g F c σ env) (I : Ih g H F c cs) (hk : kn F c) {Dl : Addr} (hD : H Dl = none)
    (po : PoE g W H F c ((lcL chk tg mt me items env cs).bind fun ds cs2 => mkL md cs2 ds) Q) (hσ : L2.wipe σ own = σ) :
    ∃ Wi : Nat → Nat → Hp → Prop, (∃ m, Wi 0 m (upd H Dl (.lst []))) ∧ ∀ i m H, Wi i m H → (J.stop i H ∧ Q (.ref Dl) H) ∨ (J.go i H ∧ ∃ Nx : Hp → Prop, (∀ H', Nx H' → ∃ m', m' < m ∧ Wi (i + 1) m' H') ∧ ∀ x H', J.yld i H x H' → tG x σ H' fun σ2 H2 => L2.wipe σ2 own = σ ∧ tt σ2 H2 fun b H3 =>
      if b = true then te σ2 H3 fun y H4 => ∃ acc, H4 Dl = some (.lst acc) ∧ acc.length < sizeLine ∧ Nx (upd H4 Dl (.lst (acc ++ [y]))) else Nx H3) := by
  refine ⟨fun i m H' => m = items.length - i ∧ i ≤ items.length ∧ LcI g W H F c Q md Dl (lcL chk tg mt me (items.drop i)) env H', ⟨_, rfl, Nat.zero_le _, F, c, cs, [], [], Xt.side (Xt.refl _ _ _) hD, I.side (I.notMem hD) (I.noF hD), upd_same, I.notMem hD, I.noF hD, .nil, ?_⟩, ?_⟩
  · cases hl : lcL chk tg mt me items env cs <;> simpa [RA.pre, hl] using po
  · rintro i m H1 ⟨rfl, hi, F1, c1, cs1, acc, dacc, x1, I1, hDl, hDc, hDF, rva, po1⟩
    have re1 := re.mono x1.le
    have k1 := km _ _ _ _ x1.le hk
    by_cases hc : chk cs1
    · by_cases hlt : i < items.length
      · refine .inr ⟨K.go i H1 F1 c1 cs1 I1 ⟨k1, hc⟩ hlt, fun H' => ∃ m', m' < items.length - i ∧ m' = items.length - (i + 1) ∧ i + 1 ≤ items.length ∧ LcI g W H F c Q md Dl (lcL chk tg mt me (items.drop (i + 1))) env H', fun H' h => h, fun x H2 y => ?_⟩
        obtain ⟨F2, x2, I2, rv⟩ := K.yld i H1 F1 c1 cs1 items[i] I1 ⟨k1, hc⟩ (by simp [hlt]) x H2 y
        have hDl2 : H2 Dl = some (.lst acc) := x2.kp _ _ hDl hDc
        have hDF2 := x2.out _ _ hDl hDF hDc
        rw [List.drop_eq_getElem_cons hlt] at po1
        simp only [lcL, hc, if_true] at po1
        cases htg : tg items[i] env with
        | none => rw [htg] at po1; exact po1.elim
        | some env1 =>
          rw [htg] at po1
          simp only at po1
          refine hg σ env H2 F2 c1 cs1 x _ env1 _ (re1.mono x2.le) I2 rv htg fun σ2 re2 hw => ⟨hw.trans hσ, ?_⟩
          refine ht σ2 env1 H2 F2 c1 cs1 _ re2 I2 ?_
          cases htt : mt env1 cs1 with
          | ok d cs3 =>
            rw [htt] at po1
            cases d with
            | bl b =>
              intro H3 F3 c3 x3 I3
              have hDc3 : Dl ∉ c3 := fun h => by
                have := x3.new Dl h hDc
                rw [hDl2] at this; cases this
              have hDl3 : H3 Dl = some (.lst acc) := x3.kp _ _ hDl2 hDc
              have hDF3 := x3.out _ _ hDl2 hDF2 hDc
              cases b with
              | true =>
                refine iteT ?_
                simp only at po1
                refine he σ2 env1 H3 F3 c3 cs3 _ (re2.mono x3.le) I3 ?_
                cases hee : me env1 cs3 with
                | ok d4 cs4 =>
                  rw [hee] at po1
                  simp only at po1
                  intro H4 F4 c4 x4 I4 y ry
                  have hDc4 : Dl ∉ c4 := fun h => by
                    have := x4.new Dl h hDc3
                    rw [hDl3] at this; cases this
                  have hDl4 : H4 Dl = some (.lst acc) := x4.kp _ _ hDl3 hDc3
                  have hDF4 := x4.out _ _ hDl3 hDF3 hDc3
                  have xx := ((x1.trans x2).trans x3).trans x4
                  have ra : RVs g F4 c4 (acc ++ [y]) (dacc ++ [d4]) := (((rva.mono x2.le).mono x3.le).mono x4.le).append (.cons ry .nil)
                  cases hl : lcL chk tg mt me (items.drop (i + 1)) env cs4 with
                  | ok ys cs5 =>
                    rw [hl] at po1
                    have po2 : PoE g W H F c (mkL md cs5 (dacc ++ (d4 :: ys))) Q := po1
                    have hlen : acc.length < sizeLine := by
                      unfold mkL at po2
                      split at po2
                      · rename_i q
                        have := rva.length
                        simp at q
                        omega
                      · exact po2.elim
                    refine ⟨acc, hDl4, hlen, _, by omega, rfl, hlt, F4, c4, cs4, acc ++ [y], dacc ++ [d4], xx.side hD, I4.side hDc4 hDF4, upd_same, hDc4, hDF4, ra, ?_⟩
                    rw [hl]
                    simp only [RA.pre, RA.bind_ok, List.append_assoc, List.singleton_append]
                    exact po2
                  | exc n fs cs5 => rw [hl] at po1; exact po1.elim
                  | stuck => rw [hl] at po1; exact po1.elim
                | exc n fs cs4 => rw [hee] at po1; exact po1.elim
                | stuck => rw [hee] at po1; exact po1.elim
              | false =>
                refine iteF ⟨_, by omega, rfl, hlt, F3, c3, cs3, acc, dacc, (x1.trans x2).trans x3, I3, hDl3, hDc3, hDF3, (rva.mono x2.le).mono x3.le, po1⟩
            | _ => exact po1.elim
          | exc n fs cs3 => rw [htt] at po1; exact po1.elim
          | stuck => rw [htt] at po1; exact po1.elim
      · have e : i = items.length := by omega
        subst e
        refine .inl ⟨K.stop _ H1 F1 c1 cs1 I1 ⟨k1, hc⟩ rfl, ?_⟩
        rw [List.drop_length] at po1
        simp only [lcL, hc, if_true, RA.pre, RA.bind_ok, List.append_nil] at po1
        unfold mkL at po1
        split at po1
        · cases md with
          | true =>
            rw [if_pos rfl] at po1
            have xp : Xt H F c H1 F1 (c1 ++ [Dl]) := ⟨x1.le.trans Le.push, x1.kp, x1.dom, fun a h n => by
              rcases List.mem_append.mp h with h | h
              · exact x1.new a h n
              · have : a = Dl := by simpa using h
                rw [this]; exact hD, x1.out⟩
            refine po1 _ _ _ xp ?_ _ (.loc (n := cs1.length) (by rw [← I1.len]; simp))
            refine ⟨I1.sub, by simp [I1.len], ?_, fun n a z h1 h2 => ?_⟩
            · rw [List.nodup_append]
              refine ⟨I1.nd, by simp, fun a ha b hb => ?_⟩
              have : b = Dl := by simpa using hb
              subst this
              rintro rfl
              exact hDc ha
            · by_cases hl : n < c1.length
              · rw [List.getElem?_append_left hl] at h1
                rw [List.getElem?_append_left (by rw [← I1.len]; exact hl)] at h2
                exact CR.mono (I1.cell n a z h1 h2) Le.push (fun _ e => e) fun e => e
              · have hl' : n < (c1 ++ [Dl]).length := (List.getElem?_eq_some_iff.mp h1).1
                have hn : n = c1.length := by simp at hl'; omega
                subst hn
                rw [List.getElem?_append_right (Nat.le_refl _)] at h1
                rw [I1.len, List.getElem?_append_right (Nat.le_refl _)] at h2
                simp at h1 h2
                subst h1; subst h2
                exact ⟨hDF, acc, hDl, rva.mono Le.push⟩
          | false =>
            rw [if_neg Bool.false_ne_true] at po1
            have le2 : Le F1 c1 (upd F1 Dl (.lst acc)) c1 := Le.upd hDF
            have xp : Xt H F c H1 (upd F1 Dl (.lst acc)) c1 := ⟨x1.le.trans le2, x1.kp, x1.dom, x1.new, fun a o h f n => by
              rw [upd_ne (ne_of_none h hD)]; exact x1.out a o h f n⟩
            refine po1 _ _ _ xp ?_ _ (.lst upd_same (rva.mono le2))
            refine ⟨fun a o e => ?_, I1.len, I1.nd, fun n a z h1 h2 => ?_⟩
            · by_cases ha : a = Dl
              · subst ha; rw [upd_same] at e; cases e; exact hDl
              · rw [upd_ne ha] at e; exact I1.sub a o e
            · have hne : a ≠ Dl := fun e => hDc (e ▸ List.mem_of_getElem? h1)
              exact CR.mono (I1.cell n a z h1 h2) le2 (fun _ e => e) fun e => by rw [upd_ne hne]; exact e
        · exact po1.elim
    · have : lcL chk tg mt me (items.drop i) env cs1 = .stuck := by cases items.drop i <;> simp [lcL, hc]
      rw [this] at po1
      exact po1.elim
/-! ### readings that are the same in every context -/
def teOf (g : Gd) (W : WX) (m : ME) : TE := fun σ H Q => ∃ env F c cs, RE g F c σ env ∧ Ih g H F c cs ∧ PoE g (fun a b => W a b σ) H F c (m env cs) Q
def ttOf (g : Gd) (W : WX) (m : ME) : TT := fun σ H Q => ∃ env F c cs, RE g F c σ env ∧ Ih g H F c cs ∧ PoT g (fun a b => W a b σ) H F c (m env cs) Q
def tgOf (g : Gd) (f : D → Env → Option Env) (own : List Nat) : TG := fun v σ H Q => ∃ env F c cs d env1, RE g F c σ env ∧ Ih g H F c cs ∧ RV g F c v d ∧ f d env = some env1 ∧ ∀ σ1, RE g F c σ1 env1 → L2.wipe σ1 own = L2.wipe σ own → Q σ1 H
section
variable {X : Cx} {W : WX} {pos : Pos} {tg iter elt e : Expr} {ifs : List Expr} {scope : Scope} {own : List (Str × Nat)} {f : D → Env → Option Env} {mw : MW} {m mt me : ME} {md : Bool} {ow : List Nat}
theorem Xp.canon (h : Xp X W e m) : PE X e (teOf (gd X) W m) := by
  obtain ⟨t, p, s⟩ := h
  exact ⟨fun pins s0 σ H Q I ⟨env, F, c, cs, re, I1, po⟩ => p.run pins s0 σ H Q I (s σ env H F c cs Q re I1 po)⟩
theorem Xts.canon (h : Xts X W ifs m) : PTs X ifs (ttOf (gd X) W m) := by
  obtain ⟨t, p, s⟩ := h
  exact ⟨fun pins s0 σ H Q I ⟨env, F, c, cs, re, I1, po⟩ => p.run pins s0 σ H Q I (s σ env H F c cs Q re I1 po)⟩
theorem Tgt.canon (h : Tgt X tg f ow) : PG X tg (tgOf (gd X) f ow) := by
  obtain ⟨t, p, s⟩ := h
  exact ⟨fun pins s0 σ H v u Q I r ⟨env, F, c, cs, d, env1, re, I1, rv, e, k⟩ => p.run pins s0 σ H v u Q I r (s σ env H F c cs v d env1 Q re I1 rv e k)⟩
/-- the parts of a comprehension in its block -/
structure LcOk (X : Cx) (tg : Expr) (ifs : List Expr) (elt : Expr) (scope : Scope) (own : List (Str × Nat)) (f : D → Env → Option Env) (mt me : ME) : Prop where
  tgt : ∀ (s : Shared) (H : Hp) (C : Addr) (cl : List (Str × Addr)) (fp : List Addr), Tgt (X.blk s H scope (compEnvC scope cl C X.env) fp) tg f (own.map (·.2))
  tst : ∀ (s : Shared) (H : Hp) (C : Addr) (cl : List (Str × Addr)) (fp : List Addr), Xts (X.blk s H scope (compEnvC scope cl C X.env) fp) (fun _ _ _ _ => False) ifs mt
  elt : ∀ (s : Shared) (H : Hp) (C : Addr) (cl : List (Str × Addr)) (fp : List Addr), Xp (X.blk s H scope (compEnvC scope cl C X.env) fp) (fun _ _ _ _ => False) elt me
theorem lc_go {wi : TI} (sw : ∀ σ env H F c cs R, RE (gd X) F c σ env → Ih (gd X) H F c cs → PoW (gd X) (fun a b => W a b σ) H F c (mw env cs) R → wi σ H R)
    {σ : L2.St} {env : Env} {H F : Hp} {c : List Addr} {cs : Cells} {Q : VK} (re : RE (gd X) F c σ env) (I : Ih (gd X) H F c cs) (po : PoE (gd X) (fun a b => W a b σ) H F c (eLc md (own.map (·.2)) f mw mt me env cs) Q) :
    tLc wi (tgOf (gd X) f (own.map (·.2))) (ttOf (gd X) (fun _ _ _ _ => False) mt) (teOf (gd X) (fun _ _ _ _ => False) me) (own.map (·.2)) σ H Q := by
  refine sw σ env H F c cs _ re I ?_
  unfold eLc at po
  cases h : mw env cs with
  | ok items chk cs1 =>
    rw [h] at po
    intro H1 F1 c1 x1 I1 J kn K km hk Dl hD
    have q := lc_sim K km (tg := f) (mt := mt) (me := me) (md := md) (own := own.map (·.2)) (Q := Q) (fun σ env H F c cs v d env1 Q re I rv h k => (⟨env, F, c, cs, d, env1, re, I, rv, h, k⟩ : tgOf (gd X) f (own.map (·.2)) v σ H Q))
      (fun σ env H F c cs Q re I po => (⟨env, F, c, cs, re, I, po⟩ : ttOf (gd X) (fun _ _ _ _ => False) mt σ H Q)) (fun σ env H F c cs Q re I po => (⟨env, F, c, cs, re, I, po⟩ : teOf (gd X) (fun _ _ _ _ => False) me σ H Q))
      (W := fun a b => W a b σ) ((re.mono x1.le).wipe (own.map (·.2))) I1 hk hD (PoE.from x1 po) (wipe_wipe σ _)
    exact q
  | exc n fs cs1 => rw [h] at po; exact po
  | stuck => rw [h] at po; exact po.elim
theorem xp_lc (md : Bool) (hc : X.calm = true) (hN : X.N.Nodup) (hi : Wk X W tg iter mw) (ok : BlkOk X.N X.env.scope scope own) (h : LcOk X tg ifs elt scope own f mt me) (hs : ∀ x, foldedSetIterable iter X.env x = pure x := by intro _; rfl) :
    Xp X W (.ListComp elt [⟨tg, iter, ifs, 0⟩] scope pos) (eLc md (own.map (·.2)) f mw mt me) := by
  obtain ⟨wi, pw, sw⟩ := hi
  exact ⟨_, pe_lc (g := tgOf (gd X) f (own.map (·.2))) (tt := ttOf (gd X) (fun _ _ _ _ => False) mt) (te := teOf (gd X) (fun _ _ _ _ => False) me) hc hN pw ok (fun s H C cl fp => (h.tgt s H C cl fp).canon) (fun s H C cl fp => (h.tst s H C cl fp).canon) (fun s H C cl fp => (h.elt s H C cl fp).canon) hs, fun σ env H F c cs Q re I po => lc_go sw re I po⟩
/-- y = [..] -/
theorem sm_setLc (md : Bool) {i : Nat} {y : Str} {py spos : Pos} (hc : X.calm = true) (hN : X.N.Nodup) (hy : X.N[i]? = some y) (hyl : X.env.scope.names.lookup y = some .local)
    (hsw : swapsWith (.ListComp elt [⟨tg, iter, ifs, 0⟩] scope pos) (some (.Name y py)) spos.line X.env = pure true) (hi : Wk X W tg iter mw) (ok : BlkOk X.N X.env.scope scope own) (h : LcOk X tg ifs elt scope own f mt me) (hs : ∀ x, foldedSetIterable iter X.env x = pure x := by intro _; rfl) :
    Sm X W (.Assign [.Name y py] (.ListComp elt [⟨tg, iter, ifs, 0⟩] scope pos) spos) (sAsg i (eLc md (own.map (·.2)) f mw mt me)) := by
  obtain ⟨wi, pw, sw⟩ := hi
  refine ⟨_, ps_setLc (g := tgOf (gd X) f (own.map (·.2))) (tt := ttOf (gd X) (fun _ _ _ _ => False) mt) (te := teOf (gd X) (fun _ _ _ _ => False) me) hc hN hy hyl hsw pw ok (fun s H C cl fp => (h.tgt s H C cl fp).canon) (fun s H C cl fp => (h.tst s H C cl fp).canon) (fun s H C cl fp => (h.elt s H C cl fp).canon) hs, fun σ env H F c cs Dn re I po => ?_⟩
  refine lc_go sw re I (PoS.cut re po _ fun d cs1 _ H1 F1 c1 v x1 I1 rv po1 => ?_)
  exact PoS.next I1 ((re.mono x1.le).set i rv) po1
end
end L3

namespace L3
open PySem L2

/-! ### calls of defs -/
/-- a def of the text keeps m -/
def spM (g : Gd) (m : MF) (n : Nat) : Sp := fun vs H Q E => vs.length = n ∧ ∃ F c cs ds, Ih g H F c cs ∧ RVs g F c vs ds ∧ PoE g E H F c (m ds cs) Q
def eCall (m : MF) (a : MA) : ME := fun env cs => (a env cs).bind fun ds cs1 => m ds cs1
section
variable {X : Cx} {W : WX} {k : Nat} {f : Addr} {fd : FuncData} {ps : List Str} {m : MF} {x : Str} {p pos : Pos} {e : Expr} {es : List Expr} {ms : MA} {n : Nat}
abbrev FnM (X : Cx) (k : Nat) (f : Addr) (fd : FuncData) (ps : List Str) (m : MF) : Prop := FnOk X.prog X.w X.K X.mg X.base (L2.CX X.prog X.w) k f fd ps (spM (gd X) m ps.length)
theorem xp_call (F : FnOk X.prog X.w X.K X.mg X.base (L2.CX X.prog X.w) k f fd ps (spM (gd X) m n)) (hr : Room k X.A) (hg : Gl X x) (hm : X.mg x = some (.ref f)) (hk : PySem.W.keepIn X.K (.ref f) = true) (hb : Binds X.K fd ps []) (tk : Takes X W)
    (ha : Xa X W (e :: es) ms) (hn : (e :: es).length = n := by rfl) (hdb : (x == ("__debug__" : Str)) = false := by decide) (he : starEach (e :: es) X.env = (false, eval e X.env) :: starEach es X.env := by rfl) (hpl : (backTo pos (starEach es X.env)).any (·.1) = false := by rfl)
    (hlen : ∀ env cs ds cs1, ms env cs = .ok ds cs1 → ds.length = n) : Xp X W (.Call (.Name x p) (e :: es) [] pos) (eCall m ms) := by
  obtain ⟨t, pa, sa⟩ := ha
  refine ⟨_, pe_callS F hr hg hm hk hb (fun σ => passAt tk σ) pa hdb he hpl, fun σ env H F c cs Q re I po => ?_⟩
  refine sa σ env H F c cs _ re I (PoA.cut po _ fun ds cs1 h1 H1 F1 c1 vs x1 I1 rv po1 => ?_)
  exact ⟨by rw [rv.length]; exact hlen _ _ _ _ h1, F1, c1, cs1, ds, I1, rv, po1⟩
theorem len_nil : ∀ env cs ds cs1, aNil env cs = .ok ds cs1 → ds.length = 0 := fun env cs ds cs1 h => by
  simp only [aNil, RA.ok.injEq] at h
  rw [← h.1]; rfl
theorem len_cons {m : ME} {ms : MA} {n : Nat} (h : ∀ env cs ds cs1, ms env cs = .ok ds cs1 → ds.length = n) : ∀ env cs ds cs1, aCons m ms env cs = .ok ds cs1 → ds.length = n + 1 := fun env cs ds cs1 e => by
  unfold aCons at e
  split at e
  · split at e
    · rename_i h2
      simp only [RA.ok.injEq] at e
      rw [← e.1, List.length_cons, h _ _ _ _ h2]
    · cases e
    · cases e
  · cases e
  · cases e
end
/-- a def's body -/
def mDef (n : Nat) (body : MS) : MF := fun ds cs => match body (ds.map some ++ List.replicate (n - ds.length) none) cs with
  | .nx _ cs1 => .ok .non cs1
  | .rt d cs1 => .ok d cs1
  | .exc x fs _ cs1 => .exc x fs cs1
  | _ => .stuck
section
variable {P : Program} {w : World} {K : PySem.W.Frag} {mg : Str → Option Value} {base : Heap}
theorem re_start {g : Gd} {F : Hp} {c : List Addr} {vs : List V} {ds : List D} (rv : RVs g F c vs ds) (N : List Str) : RE g F c (L2.start N vs) (ds.map some ++ List.replicate (N.length - ds.length) none) := by
  unfold L2.start
  refine ⟨by simp [rv.length], fun i d h => ?_⟩
  by_cases hl : i < ds.length
  · rw [List.getElem?_append_left (by simpa using hl), List.getElem?_map] at h
    cases hd : ds[i]? with
    | none => rw [hd] at h; cases h
    | some d' =>
      rw [hd] at h
      simp only [Option.map_some, Option.some.injEq] at h
      subst h
      obtain ⟨v, hv, r⟩ := rv.get hd
      exact ⟨v, by rw [List.getElem?_append_left (by simp [rv.length]; exact hl), List.getElem?_map, hv]; rfl, r⟩
  · rw [List.getElem?_append_right (by simp; omega)] at h
    rw [List.getElem?_replicate] at h
    split at h <;> cases h
theorem fnM {x qual : Str} {st : Stmt} {f : Addr} {fd : FuncData} {N ps : List Str} {k : Nat} (F : Fun K x qual st f fd) (S : FnScope N ps (defScope st)) (body : MS)
    (h : ∀ (cdv : Value) (A : Around) (outer : List PySem.Env) (s : Shared) (H : Hp) (E : XK), Room k (A.deeper (PyProof.Rows.envOfC qual (defScope st) s.heap.objs.size f cdv)) →
      Sms (cxOf (L2.CX P w) P w K mg base N qual (defScope st) f cdv A outer s H E) (fun cls d _ H => E cls d H) (defBody st) body) :
    FnOk P w K mg base (L2.CX P w) (k + 1) f fd ps (spM ⟨P, w, K, mg⟩ (mDef N.length body) ps.length) := by
  refine F.okX S (fun vs H Q E h => h.1) fun cdv A outer s H vs Q E hr ⟨hl, F0, c, cs, ds, I, rv, po⟩ => ?_
  obtain ⟨t, pt, st⟩ := h cdv A outer s H E hr
  refine ⟨t, pt, st _ _ H F0 c cs _ (re_start rv N) I ?_⟩
  unfold mDef at po
  cases hb : body (ds.map some ++ List.replicate (N.length - ds.length) none) cs with
  | nx e c1 => rw [hb] at po; exact fun H' F' c' x I' σ re => po H' F' c' x I' .non .non
  | rt d c1 => rw [hb] at po; exact po
  | exc n fs e c1 => rw [hb] at po; exact fun H' F' c' x I' σ C dx vs _ a b d => po H' F' c' x I' C dx vs a b d
  | bk e c1 => rw [hb] at po; exact po.elim
  | ct e c1 => rw [hb] at po; exact po.elim
  | stuck => rw [hb] at po; exact po.elim
end
/-- another function that says the same where it says anything -/
theorem spM_imp {g : Gd} {m m' : MF} {n : Nat} (h : ∀ E H F c cs vs ds Q, Ih g H F c cs → RVs g F c vs ds → PoE g E H F c (m' ds cs) Q → PoE g E H F c (m ds cs) Q) : ∀ vs H Q E, spM g m' n vs H Q E → spM g m n vs H Q E :=
  fun vs H Q E ⟨hl, F, c, cs, ds, I, rv, po⟩ => ⟨hl, F, c, cs, ds, I, rv, h _ _ _ _ _ _ _ _ I rv po⟩

/-! ### what a def leaves behind: its own cells are dropped -/
mutual
def below (n : Nat) : D → Bool
  | .lst l => belows n l
  | .tup l => belows n l
  | .dct l => belowk n l
  | .obj _ l => belowf n l
  | .loc k => decide (k < n)
  | _ => true
def belows (n : Nat) : List D → Bool
  | [] => true
  | d :: r => below n d && belows n r
def belowk (n : Nat) : List (Kd × D) → Bool
  | [] => true
  | (_, d) :: r => below n d && belowk n r
def belowf (n : Nat) : List (Str × D) → Bool
  | [] => true
  | (_, d) :: r => below n d && belowf n r
end
def Cell.below (n : Nat) : Cell → Bool
  | .lst l => belows n l
  | .dct l => belowk n l
  | .set _ => true
  | .ins _ l => belowf n l
  | .fz d => L3.below n d
section
variable {g : Gd} {F : Hp} {c : List Addr}
mutual
theorem RV.bel : ∀ {v : V} {d : D}, RV g F c v d → below c.length d = true
  | _, _, .non => rfl
  | _, _, .bl b => rfl
  | _, _, .int i => rfl
  | _, _, .str l => rfl
  | _, _, .lst _ r => RVs.bel r
  | _, _, .tup _ r => RVs.bel r
  | _, _, .dct _ r => RKs.bel r
  | _, _, .scr _ => rfl
  | _, _, .obj _ _ r => RFs.bel r
  | _, _, .loc h => by
    simp only [L3.below, decide_eq_true_eq]
    exact (List.getElem?_eq_some_iff.mp h).1
theorem RVs.bel : ∀ {v : List V} {d : List D}, RVs g F c v d → belows c.length d = true
  | _, _, .nil => rfl
  | _, _, .cons a b => by simp only [L3.belows, RV.bel a, RVs.bel b, Bool.and_self]
theorem RKs.bel : ∀ {v : List (Key × V)} {d : List (Kd × D)}, RKs g F c v d → belowk c.length d = true
  | _, _, .nil => rfl
  | _, _, .cons a b => by simp only [L3.belowk, RV.bel a, RKs.bel b, Bool.and_self]
theorem RFs.bel : ∀ {v : List (Str × V)} {d : List (Str × D)}, RFs g F c v d → belowf c.length d = true
  | _, _, .nil => rfl
  | _, _, .cons a b => by simp only [L3.belowf, RV.bel a, RFs.bel b, Bool.and_self]
end
mutual
theorem RV.cut {n : Nat} : ∀ {v : V} {d : D}, RV g F c v d → below n d = true → RV g F (c.take n) v d
  | _, _, .non, _ => .non
  | _, _, .bl b, _ => .bl b
  | _, _, .int i, _ => .int i
  | _, _, .str l, _ => .str l
  | _, _, .lst h r, b => .lst h (RVs.cut r b)
  | _, _, .tup h r, b => .tup h (RVs.cut r b)
  | _, _, .dct h r, b => .dct h (RKs.cut r b)
  | _, _, .scr h, _ => .scr h
  | _, _, .obj m h r, b => .obj m h (RFs.cut r b)
  | _, _, .loc h, b => .loc (by
    simp only [L3.below, decide_eq_true_eq] at b
    rw [List.getElem?_take, if_pos b]; exact h)
theorem RVs.cut {n : Nat} : ∀ {v : List V} {d : List D}, RVs g F c v d → belows n d = true → RVs g F (c.take n) v d
  | _, _, .nil, _ => .nil
  | _, _, .cons a b, h => by
    simp only [L3.belows, Bool.and_eq_true] at h
    exact .cons (RV.cut a h.1) (RVs.cut b h.2)
theorem RKs.cut {n : Nat} : ∀ {v : List (Key × V)} {d : List (Kd × D)}, RKs g F c v d → belowk n d = true → RKs g F (c.take n) v d
  | _, _, .nil, _ => .nil
  | _, _, .cons a b, h => by
    simp only [L3.belowk, Bool.and_eq_true] at h
    exact .cons (RV.cut a h.1) (RKs.cut b h.2)
theorem RFs.cut {n : Nat} : ∀ {v : List (Str × V)} {d : List (Str × D)}, RFs g F c v d → belowf n d = true → RFs g F (c.take n) v d
  | _, _, .nil, _ => .nil
  | _, _, .cons a b, h => by
    simp only [L3.belowf, Bool.and_eq_true] at h
    exact .cons (RV.cut a h.1) (RFs.cut b h.2)
end
theorem CR.cut {H : Hp} {n : Nat} {a : Addr} {x : Cell} (h : CR g H F c a x) (b : x.below n = true) : CR g H F (c.take n) a x := by
  cases x with
  | lst l => obtain ⟨f, vs, h, r⟩ := h; exact ⟨f, vs, h, r.cut b⟩
  | dct l => obtain ⟨f, vs, h, r⟩ := h; exact ⟨f, vs, h, r.cut b⟩
  | set l => exact h
  | ins m l => obtain ⟨f, C, dx, fs, m, h, r⟩ := h; exact ⟨f, C, dx, fs, m, h, r.cut b⟩
  | fz d => exact ⟨h.1.cut b, h.2⟩
theorem CR.below {H : Hp} {a : Addr} {x : Cell} (h : CR g H F c a x) : x.below c.length = true := by
  cases x with
  | lst l => obtain ⟨f, vs, h, r⟩ := h; exact r.bel
  | dct l => obtain ⟨f, vs, h, r⟩ := h; exact r.bel
  | set l => rfl
  | ins m l => obtain ⟨f, C, dx, fs, m, h, r⟩ := h; exact r.bel
  | fz d => exact h.1.bel
end
/-- the elder cells are as they were, or speak of elder cells alone -/
def Kept (cs cs' : Cells) : Prop := cs.length ≤ cs'.length ∧ ∀ i x, i < cs.length → cs'[i]? = some x → cs[i]? = some x ∨ x.below cs.length = true
theorem ih_cut {g : Gd} {H F H' F' : Hp} {c c' : List Addr} {cs cs' : Cells} (I : Ih g H F c cs) (x : Xt H F c H' F' c') (I' : Ih g H' F' c' cs') (k : Kept cs cs') : Ih g H' F' (c'.take cs.length) (cs'.take cs.length) ∧ Xt H F c H' F' (c'.take cs.length) := by
  refine ⟨⟨I'.sub, by simp [I'.len], I'.nd.sublist (List.take_sublist _ _), fun n a y h1 h2 => ?_⟩, ?_⟩
  · rw [List.getElem?_take] at h1 h2
    split at h1
    · rename_i hn
      rw [if_pos hn] at h2
      have q := I'.cell n a y h1 h2
      refine CR.cut q ?_
      rcases k.2 n y hn h2 with e | e
      · obtain ⟨a0, h0, q0⟩ := I.at e
        have := CR.below q0
        rw [I.len] at this
        exact this
      · exact e
    · cases h1
  · refine ⟨⟨x.le.lst, x.le.tup, x.le.ins, x.le.rd, fun n a h => ?_⟩, x.kp, x.dom, fun a h n => x.new a (List.mem_of_mem_take h) n, x.out⟩
    have hn : n < cs.length := by rw [← I.len]; exact (List.getElem?_eq_some_iff.mp h).1
    rw [List.getElem?_take, if_pos hn]
    exact x.le.loc n a h
open Classical in
noncomputable def tidy (m : MF) : MF := fun ds cs => match m ds cs with
  | .ok d cs' => if Kept cs cs' ∧ below cs.length d = true then .ok d (cs'.take cs.length) else .stuck
  | .exc n fs cs' => if Kept cs cs' ∧ belowf cs.length fs = true then .exc n fs (cs'.take cs.length) else .stuck
  | .stuck => .stuck
theorem tidy_imp {g : Gd} {m : MF} {n : Nat} : ∀ vs H Q E, spM g (tidy m) n vs H Q E → spM g m n vs H Q E := by
  refine spM_imp fun E H F c cs vs ds Q I rv po => ?_
  unfold tidy at po
  cases h : m ds cs with
  | ok d cs' =>
    rw [h] at po
    simp only at po
    split at po
    · rename_i q
      intro H' F' c' x I' v r
      obtain ⟨I2, x2⟩ := ih_cut I x I' q.1
      exact po H' F' _ x2 I2 v (r.cut q.2)
    · exact po.elim
  | exc k fs cs' =>
    rw [h] at po
    simp only at po
    split at po
    · rename_i q
      intro H' F' c' x I' C dx vs' a b r
      obtain ⟨I2, x2⟩ := ih_cut I x I' q.1
      exact po H' F' _ x2 I2 C dx vs' a b (r.cut q.2)
    · exact po.elim
  | stuck => rw [h] at po; exact po.elim
theorem fn_tidy {P : Program} {w : World} {K : PySem.W.Frag} {mg : Str → Option Value} {base : Heap} {k : Nat} {f : Addr} {fd : FuncData} {ps : List Str} {m : MF} {n : Nat} (F : FnOk P w K mg base (L2.CX P w) k f fd ps (spM ⟨P, w, K, mg⟩ m n)) :
    FnOk P w K mg base (L2.CX P w) k f fd ps (spM ⟨P, w, K, mg⟩ (tidy m) n) := F.imp tidy_imp
theorem kept_app (cs js : Cells) : Kept cs (cs ++ js) := ⟨by simp, fun i x hi h => .inl (by rw [List.getElem?_append_left hi] at h; exact h)⟩
theorem tidy_ok {m : MF} {ds : List D} {cs js : Cells} {d : D} (h : m ds cs = .ok d (cs ++ js)) (b : below cs.length d = true) : tidy m ds cs = .ok d cs := by
  unfold tidy
  rw [h]
  simp only
  rw [if_pos ⟨kept_app cs js, b⟩, List.take_left']
  rfl

/-! ### items -/
def ixD (cs : Cells) (x y : D) : R := match x, y with
  | .str l, .int i => if l.length ≤ sizeLine then (match atI l i with
    | some ch => .ok (.str [ch]) cs
    | none => .stuck) else .stuck
  | x, .int i => match seqOf cs x with
    | some ds => match atI ds i with
      | some d => .ok d cs
      | none => .stuck
    | none => .stuck
  | _, _ => .stuck
theorem atI_rv {g : Gd} {F : Hp} {c : List Addr} {vs : List V} {ds : List D} {i : Int} {d : D} (r : RVs g F c vs ds) (h : atI ds i = some d) : ∃ v, atI vs i = some v ∧ RV g F c v d := by
  unfold atI at h ⊢
  rw [r.length]
  cases e : ixN ds.length i with
  | none => rw [e] at h; cases h
  | some j => rw [e] at h; exact r.get h
section
variable {X : Cx} {W : WX} {pos p p1 p2 : Pos} {a b o : Expr} {ma mb mo : ME}
theorem o2_ix {g : Gd} : O2 g (rIx g.K) ixD := by
  intro W H F c cs x y d e Q I rx ry po
  unfold ixD at po
  split at po
  · split at po
    · split at po
      · rename_i hl _ ch hch
        cases rx; cases ry
        exact .inr (.inr ⟨_, _, ch, rfl, rfl, by rw [str_len]; exact hl, by simpa using hch, PoE.here I (.str [ch]) po⟩)
      · exact po.elim
    · exact po.elim
  · split at po
    · rename_i ds hds
      split at po
      · rename_i d' hd
        obtain ⟨q, vs, rfl, hs, rv⟩ := seqOf_at I rx hds
        cases ry
        obtain ⟨v, hv, r⟩ := atI_rv rv hd
        rcases hs with hs | hs
        · exact .inl ⟨q, vs, _, v, rfl, rfl, hs, hv, PoE.here I r po⟩
        · exact .inr (.inl ⟨q, vs, _, v, rfl, rfl, hs, hv, PoE.here I r po⟩)
      · exact po.elim
    · exact po.elim
  · exact po.elim
theorem xp_ix (ha : Xp X W a ma) (hb : Xp X W b mb) (hs : PlainIx b) : Xp X W (.Subscript a b pos) (op2 ixD ma mb) := by
  obtain ⟨ta, pa, sa⟩ := ha
  obtain ⟨tb, pb, sb⟩ := hb
  exact ⟨_, pe_ix ix_seq pa pb hs, fun σ env H F c cs Q re I po => sim2 sa sb o2_ix re I po⟩

/-! ### slices -/
theorem seqL_at {g : Gd} {H F : Hp} {c : List Addr} {cs : Cells} {v : V} {d : D} {ds : List D} (I : Ih g H F c cs) (r : RV g F c v d) (nt : ∀ l, d ≠ .tup l) (h : seqOf cs d = some ds) : ∃ a vs, v = .ref a ∧ SqL g.K H a vs ∧ RVs g F c vs ds := by
  have fl : listOf cs d = some ds → ∃ a vs, v = .ref a ∧ SqL g.K H a vs ∧ RVs g F c vs ds := fun h => by
    obtain ⟨b, vs, e, h1, h2⟩ := listOf_at I r h
    exact ⟨b, vs, e, .inl (.inl h1), h2⟩
  cases d with
  | tup l => exact absurd rfl (nt l)
  | scr l =>
    simp only [seqOf, Option.some.injEq] at h
    subst h
    cases r with
    | scr h1 => exact ⟨_, _, rfl, SqL.up I.sub h1, rvs_ints _⟩
  | _ => exact fl h

def cutL {α : Type} (xs : List α) (lo hi : Option Int) : List α := (xs.drop (HT.sIx xs.length 0 lo)).take (HT.sIx xs.length xs.length hi - HT.sIx xs.length 0 lo)
abbrev MO := Env → Cells → Option (Option Int × Cells)
def oNone : MO := fun _ cs => some (none, cs)
def oSome (m : ME) : MO := fun env cs => match m env cs with
  | .ok (.int i) cs1 => some (some i, cs1)
  | _ => none
def slD (md : Bool) (cs : Cells) (x : D) (lo hi : Option Int) : R := match x with
  | .str l => if l.length ≤ sizeLine then .ok (.str (cutL l lo hi)) cs else .stuck
  | .tup l => mkT cs (cutL l lo hi)
  | x => match seqOf cs x with
    | some ds => mkL md cs (cutL ds lo hi)
    | none => .stuck
def eSl (md : Bool) (m : ME) (lo hi : MO) : ME := fun env cs => (m env cs).bind fun x cs1 => match lo env cs1 with
  | some (l, cs2) => match hi env cs2 with
    | some (h, cs3) => slD md cs3 x l h
    | none => .stuck
  | none => .stuck
def Xo (X : Cx) (W : WX) (e : Option Expr) (m : MO) : Prop := ∃ t, PO X e t ∧ ∀ σ env H F c cs (Q : Option Int → Hp → Prop), RE (gd X) F c σ env → Ih (gd X) H F c cs →
  (match m env cs with
    | some (o, cs1) => Fw (gd X) H F c cs1 fun H' _ _ => Q o H'
    | none => False) → t σ H Q
theorem xo_none : Xo X W none oNone := ⟨_, po_none, fun _ _ _ _ _ _ _ _ I po => po _ _ _ (Xt.refl _ _ _) I⟩
theorem xo_some (h : Xp X W a ma) : Xo X W (some a) (oSome ma) := by
  obtain ⟨ta, pa, sa⟩ := h
  refine ⟨_, po_some pa, fun σ env H F c cs Q re I po => ?_⟩
  refine sa σ env H F c cs _ re I ?_
  unfold oSome at po
  cases h : ma env cs with
  | ok d cs1 =>
    rw [h] at po
    cases d with
    | int i => exact fun H' F' c' x I' v rv => by cases rv; exact ⟨i, rfl, po H' F' c' x I'⟩
    | _ => exact po.elim
  | exc n fs cs1 => rw [h] at po; exact po.elim
  | stuck => rw [h] at po; exact po.elim
theorem rvs_cut {g : Gd} {F : Hp} {c : List Addr} {vs : List V} {ds : List D} (r : RVs g F c vs ds) (lo hi : Option Int) : RVs g F c (cutV vs lo hi) (cutL ds lo hi) := by
  unfold cutV cutL
  rw [r.length]
  exact (r.drop _).take _
theorem xp_sl (md : Bool) {lo hi : Option Expr} {ml mh : MO} (ha : Xp X W a ma) (hl : Xo X W lo ml) (hh : Xo X W hi mh) : Xp X W (.Subscript a (.Slice lo hi none p2) pos) (eSl md ma ml mh) := by
  obtain ⟨ta, pa, sa⟩ := ha
  obtain ⟨tl, pl, sl⟩ := hl
  obtain ⟨th, ph, sh⟩ := hh
  refine ⟨_, pe_slice ((sl_list (X := X)).or (sl_str.or sl_tupA)) pa pl ph, fun σ env H F c cs Q re I po => ?_⟩
  refine sa σ env H F c cs _ re I (PoE.cut po _ fun d cs1 _ H1 F1 c1 v x1 I1 rv po1 => ?_)
  refine sl σ env H1 F1 c1 cs1 _ (re.mono x1.le) I1 ?_
  cases e1 : ml env cs1 with
  | none => rw [e1] at po1; exact po1.elim
  | some q =>
    obtain ⟨l, cs2⟩ := q
    rw [e1] at po1
    simp only at po1 ⊢
    intro H2 F2 c2 x2 I2
    refine sh σ env H2 F2 c2 cs2 _ ((re.mono x1.le).mono x2.le) I2 ?_
    cases e2 : mh env cs2 with
    | none => rw [e2] at po1; exact po1.elim
    | some q =>
      obtain ⟨h, cs3⟩ := q
      rw [e2] at po1
      simp only at po1 ⊢
      intro H3 F3 c3 x3 I3
      have po3 := PoE.from (x2.trans x3) po1
      have rv3 := (rv.mono x2.le).mono x3.le
      unfold slD at po3
      split at po3
      · split at po3
        · rename_i hl
          cases rv3
          refine .inr (.inl ⟨_, rfl, by rw [str_len]; exact hl, ?_⟩)
          have : cutS (⟨List.toArray ‹List Nat›⟩ : Str) l h = ⟨(cutL ‹List Nat› l h).toArray⟩ := by
            unfold cutS cutL
            rw [str_len]
          rw [this]
          exact PoE.here I3 (.str _) po3
        · exact po3.elim
      · cases rv3 with
        | tup g1 g2 =>
          refine .inr (.inr ⟨_, _, rfl, .inl (.inl (I3.sub _ _ g1)), fun e => ?_, fun _ p hp => mkT_ok I3 (rvs_cut g2 l h) po3 hp⟩)
          unfold mkT at po3
          split at po3
          · have hc : cutL ‹List D› l h = ‹List D› := by
              unfold cutL
              rw [← g2.length, e.1, e.2, g2.length]
              simp
            rw [hc] at po3
            exact PoE.here I3 (.tup g1 g2) po3
          · exact po3.elim
      · split at po3
        · rename_i ds hds
          have nt : ∀ l, d ≠ .tup l := by
            rintro l rfl
            rename_i hn
            exact hn l rfl
          obtain ⟨q, vs, rfl, hs, r⟩ := seqL_at I3 rv3 nt hds
          exact .inl ⟨q, vs, rfl, hs, fun p hp => mkL_ok I3 (rvs_cut r l h) po3 hp⟩
        · exact po3.elim
end
end L3

namespace L3
open PySem L2

/-! ### calls of built-in functions -/
def Cb (g : Gd) (r : List V → Hp → VK → Prop) (f : Cells → List D → R) : Prop := ∀ (W : XK) (H F : Hp) (c : List Addr) (cs : Cells) (vs : List V) (ds : List D) (Q : VK), Ih g H F c cs → RVs g F c vs ds → PoE g W H F c (f cs ds) Q → r vs H Q
def eBi (f : Cells → List D → R) (a : MA) : ME := fun env cs => (a env cs).bind fun ds cs1 => f cs1 ds
section
variable {X : Cx} {W : WX} {pos p p1 p2 : Pos} {a b o e : Expr} {ma mb mo : ME} {ms : MA} {id T : String} {x : Str} {es : List Expr} {r : List V → Hp → VK → Prop} {f : Cells → List D → R}
theorem xp_bi (hc : CallR X (.builtin id) r) (ho : Cb (gd X) r f) (hg : Gl X x) (hm : X.mg x = none) (hv : bootBuiltins x = some (.builtin id)) (ha : Xa X W (e :: es) ms) (hn : x ≠ "__name__" := by decide) (hdb : (x == ("__debug__" : Str)) = false := by decide)
    (he : starEach (e :: es) X.env = (false, eval e X.env) :: starEach es X.env := by rfl) (hpl : (backTo pos (starEach es X.env)).any (·.1) = false := by rfl) : Xp X W (.Call (.Name x p) (e :: es) [] pos) (eBi f ms) := by
  obtain ⟨t, pa, sa⟩ := ha
  refine ⟨_, pe_callB hc hg hm hv pa hn hdb he hpl, fun σ env H F c cs Q re I po => ?_⟩
  exact sa σ env H F c cs _ re I (PoA.cut po _ fun ds cs1 _ H1 F1 c1 vs x1 I1 rv po1 => ho _ H1 F1 c1 cs1 vs ds Q I1 rv po1)
theorem xp_ty (hc : CallR X (.type T) r) (ho : Cb (gd X) r f) (hg : Gl X x) (hm : X.mg x = none) (hv : bootBuiltins x = some (.type T)) (ha : Xa X W (e :: es) ms) (hn : x ≠ "__name__" := by decide) (hdb : (x == ("__debug__" : Str)) = false := by decide)
    (he : starEach (e :: es) X.env = (false, eval e X.env) :: starEach es X.env := by rfl) (hpl : (backTo pos (starEach es X.env)).any (·.1) = false := by rfl) : Xp X W (.Call (.Name x p) (e :: es) [] pos) (eBi f ms) := by
  obtain ⟨t, pa, sa⟩ := ha
  refine ⟨_, pe_callTy hc hg hm hv pa hn hdb he hpl, fun σ env H F c cs Q re I po => ?_⟩
  exact sa σ env H F c cs _ re I (PoA.cut po _ fun ds cs1 _ H1 F1 c1 vs x1 I1 rv po1 => ho _ H1 F1 c1 cs1 vs ds Q I1 rv po1)
end

/-! len -/
def lenB (cs : Cells) : List D → R
  | [.str l] => if l.length ≤ sizeLine then .ok (.int l.length) cs else .stuck
  | [d] => match seqOf cs d with
    | some ds => .ok (.int ds.length) cs
    | none => .stuck
  | _ => .stuck
theorem cb_len {g : Gd} : Cb g (fun xs H Q => ∃ x n, xs = [x] ∧ LenV g.K x H n ∧ Q (.int n) H) lenB := by
  intro W H F c cs vs ds Q I rv po
  unfold lenB at po
  split at po
  · split at po
    · rename_i l hl
      cases rv with
      | cons r1 r2 =>
        cases r1; cases r2
        exact ⟨_, l.length, rfl, ⟨by rw [str_len]; exact hl, by rw [str_len]⟩, PoE.here I (.int _) po⟩
    · exact po.elim
  · split at po
    · rename_i d _ ds hds
      cases rv with
      | cons r1 r2 =>
        cases r2
        obtain ⟨q, vs, rfl, hs, r⟩ := seqOf_at I r1 hds
        refine ⟨_, ds.length, rfl, ?_, PoE.here I (.int _) po⟩
        rcases hs with hs | hs
        · exact .inl ⟨vs, hs, r.length.symm⟩
        · exact .inr ⟨vs, hs, r.length.symm⟩
    · exact po.elim
  · exact po.elim
/-! max, min, of two -/
def maxB (cs : Cells) : List D → R
  | [.int i, .int j] => .ok (.int (if j > i then j else i)) cs
  | _ => .stuck
def minB (cs : Cells) : List D → R
  | [.int i, .int j] => .ok (.int (if j < i then j else i)) cs
  | _ => .stuck
theorem cb_max {g : Gd} : Cb g (fun xs H Q => ∃ i j, xs = [.int i, .int j] ∧ Q (.int (if j > i then j else i)) H) maxB := by
  intro W H F c cs vs ds Q I rv po
  unfold maxB at po
  split at po
  · cases rv with
    | cons r1 r2 =>
      cases r2 with
      | cons r2 r3 =>
        cases r1; cases r2; cases r3
        exact ⟨_, _, rfl, PoE.here I (.int _) po⟩
  · exact po.elim
theorem cb_min {g : Gd} : Cb g (fun xs H Q => ∃ i j, xs = [.int i, .int j] ∧ Q (.int (if j < i then j else i)) H) minB := by
  intro W H F c cs vs ds Q I rv po
  unfold minB at po
  split at po
  · cases rv with
    | cons r1 r2 =>
      cases r2 with
      | cons r2 r3 =>
        cases r1; cases r2; cases r3
        exact ⟨_, _, rfl, PoE.here I (.int _) po⟩
  · exact po.elim
/-! str, int, repr of flat values -/
def codes (x : Str) : List Nat := x.cps.toList
theorem str_codes (x : Str) : (⟨(codes x).toArray⟩ : Str) = x := by
  cases x; simp [codes]
def strB (cs : Cells) : List D → R
  | [.int i] => if i.natAbs.log2 < 1920 then .ok (.str (codes (toString i))) cs else .stuck
  | [.str l] => .ok (.str l) cs
  | _ => .stuck
abbrev rStrA : List V → Hp → VK → Prop := fun xs H Q => (∃ i, xs = [.int i] ∧ i.natAbs.log2 < 1920 ∧ Q (.str (toString i)) H) ∨ ∃ a, xs = [.str a] ∧ Q (.str a) H
theorem call_strA {X : Cx} : CallR X (.type "str") rStrA := call_str_int.or SkE.call_str_str
theorem cb_str {g : Gd} : Cb g rStrA strB := by
  intro W H F c cs vs ds Q I rv po
  unfold strB at po
  split at po
  · split at po
    · rename_i i hi
      cases rv with
      | cons r1 r2 =>
        cases r1; cases r2
        refine .inl ⟨_, rfl, hi, ?_⟩
        have := PoE.here I (.str (codes (toString i))) po
        rw [str_codes] at this
        exact this
    · exact po.elim
  · cases rv with
    | cons r1 r2 =>
      cases r1; cases r2
      exact .inr ⟨_, rfl, PoE.here I (.str _) po⟩
  · exact po.elim
def intB (cs : Cells) : List D → R
  | [.str l] => match PySem.intText? ⟨l.toArray⟩ with
    | some n => if l.length ≤ 640 then .ok (.int n) cs else .stuck
    | none => .stuck
  | _ => .stuck
theorem cb_int {g : Gd} : Cb g (fun xs H Q => ∃ a n, xs = [.str a] ∧ PySem.intText? a = some n ∧ a.length ≤ 640 ∧ Q (.int n) H) intB := by
  intro W H F c cs vs ds Q I rv po
  unfold intB at po
  split at po
  · split at po
    · split at po
      · rename_i hl
        cases rv with
        | cons r1 r2 =>
          cases r1; cases r2
          exact ⟨_, _, rfl, by assumption, by rw [str_len]; exact hl, PoE.here I (.int _) po⟩
      · exact po.elim
    · exact po.elim
  · exact po.elim
/-- repr of a flat value -/
def reprC : D → Option (List Nat)
  | .non => some (codes "None")
  | .bl b => some (codes (if b then "True" else "False"))
  | .int i => if i.natAbs.log2 < 1920 then some (codes (toString i)) else none
  | .str l => if (reprText ⟨l.toArray⟩).length ≤ sizeLine then some (codes (reprText ⟨l.toArray⟩)) else none
  | _ => none
def reprB (cs : Cells) : List D → R
  | [d] => match reprC d with
    | some l => .ok (.str l) cs
    | none => .stuck
  | _ => .stuck
inductive RepV : V → Str → Prop
  | non : RepV .non "None"
  | bl (b : Bool) : RepV (.bl b) (if b then "True" else "False")
  | int {i : Int} (h : i.natAbs.log2 < 1920) : RepV (.int i) (toString i)
  | str {x : Str} (h : (reprText x).length ≤ sizeLine) : RepV (.str x) (reprText x)
def rRepV : List V → Hp → VK → Prop := fun xs H Q => ∃ x z, xs = [x] ∧ RepV x z ∧ Q (.str z) H
theorem call_repV {X : Cx} : CallR X (.builtin "repr") rRepV := by
  intro pins s σ H xs us Q I r h
  obtain ⟨x, z, rfl, hr, q⟩ := h
  obtain ⟨u, rfl, ru⟩ := vals1 r
  cases hr with
  | non => cases (show u = Value.none from ru); exact PySem.P.repr_of_none ⟨.str _, H, I.tok _, ⟨_, rfl⟩, q⟩
  | bl b => cases (show u = Value.bool b from ru); exact PySem.P.repr_of_bool ⟨.str _, H, I.tok _, by cases b <;> exact ⟨_, rfl⟩, q⟩
  | int h => obtain ⟨t, rfl⟩ := ru; exact PySem.P.repr_of_int h ⟨.str _, H, I.tok _, ⟨_, rfl⟩, q⟩
  | str h => obtain ⟨t, rfl⟩ := ru; exact PySem.P.repr_of_str ⟨.str _, H, I.tok _, ⟨_, rfl⟩, q⟩ h
theorem cb_repr {g : Gd} : Cb g rRepV reprB := by
  intro W H F c cs vs ds Q I rv po
  unfold reprB at po
  split at po
  · rename_i d
    cases rv with
    | cons r1 r2 =>
      cases r2
      split at po
      · rename_i l hl
        have go : ∀ z, codes z = l → ∀ v, RepV v z → rRepV [v] H Q := fun z e v h => ⟨v, z, rfl, h, by
          have := PoE.here I (.str l) po
          rw [← e, str_codes] at this
          exact this⟩
        cases r1 with
        | non => simp only [reprC, Option.some.injEq] at hl; exact go _ hl _ .non
        | bl b => simp only [reprC, Option.some.injEq] at hl; exact go _ hl _ (.bl b)
        | int i =>
          simp only [reprC] at hl
          split at hl
          · simp only [Option.some.injEq] at hl; exact go _ hl _ (.int (by assumption))
          · cases hl
        | str y =>
          simp only [reprC] at hl
          split at hl
          · simp only [Option.some.injEq] at hl; exact go _ hl _ (.str (by assumption))
          · cases hl
        | _ => cases hl
      · exact po.elim
  · exact po.elim
/-! all, any, of a list of truths -/
def blsOf : List D → Option (List Bool)
  | [] => some []
  | .bl b :: r => match blsOf r with
    | some l => some (b :: l)
    | none => none
  | _ => none
def allB (cs : Cells) : List D → R
  | [d] => match listOf cs d with
    | some ds => match blsOf ds with
      | some l => .ok (.bl (l.all id)) cs
      | none => .stuck
    | none => .stuck
  | _ => .stuck
theorem blsOf_rv {g : Gd} {F : Hp} {c : List Addr} : ∀ {vs : List V} {ds : List D} {l : List Bool}, RVs g F c vs ds → blsOf ds = some l → vs = l.map V.bl
  | _, _, _, .nil, h => by simp only [blsOf, Option.some.injEq] at h; subst h; rfl
  | _, _, _, .cons r1 r2, h => by
    cases r1 with
    | bl b =>
      simp only [blsOf] at h
      split at h
      · rename_i l hl
        simp only [Option.some.injEq] at h
        subst h
        rw [blsOf_rv r2 hl]; rfl
      · cases h
    | _ => cases h
theorem cb_all {g : Gd} : Cb g (fun vs H Q => ∃ (a : Addr) (bs : List Bool), vs = [V.ref a] ∧ SqL g.K H a (bs.map V.bl) ∧ Q (.bl (bs.all _root_.id)) H) allB := by
  intro W H F c cs vs ds Q I rv po
  unfold allB at po
  split at po
  · rename_i d
    cases rv with
    | cons r1 r2 =>
      cases r2
      split at po
      · rename_i ds hds
        split at po
        · rename_i l hl
          obtain ⟨q, vs, rfl, hs, r⟩ := listOf_at I r1 hds
          have e := blsOf_rv r hl
          subst e
          exact ⟨q, l, rfl, .inl (.inl hs), PoE.here I (.bl _) po⟩
        · exact po.elim
      · exact po.elim
  · exact po.elim

/-! ### isinstance, one built-in class -/
def tyD : D → Option String
  | .non => some "NoneType"
  | .bl _ => some "bool"
  | .int _ => some "int"
  | .str _ => some "str"
  | .lst _ => some "list"
  | .scr _ => some "list"
  | .tup _ => some "tuple"
  | .dct _ => some "dict"
  | _ => none
def tyC (cs : Cells) : D → Option String
  | .loc n => match cs[n]? with
    | some (.lst _) => some "list"
    | some (.dct _) => some "dict"
    | some (.fz d) => tyD d
    | _ => none
  | d => tyD d
def isiD (t : String) (cs : Cells) (d : D) : R := match tyC cs d with
  | some u => match kitB u t with
    | some b => .ok (.bl b) cs
    | none => .stuck
  | none => .stuck
section
variable {g : Gd} {H F : Hp} {c : List Addr} {cs : Cells}
theorem tyD_at (I : Ih g H F c cs) {v : V} {d : D} {t : String} (r : RV g F c v d) (h : tyD d = some t) : TyX g.K H v (.type t) := by
  cases r with
  | non => cases h; exact .base .non
  | bl b => cases h; exact .base (.bl b)
  | int i => cases h; exact .base (.int i)
  | str l => cases h; exact .base (.str _)
  | lst h1 _ => cases h; exact .base (.lst (I.sub _ _ h1))
  | tup h1 _ => cases h; exact .base (.tup (I.sub _ _ h1))
  | dct h1 _ =>
    cases h
    rcases h1 with h1 | ⟨o, h1⟩
    · exact .base (.dK (I.sub _ _ h1))
    · exact .fDict (I.sub _ _ h1)
  | scr h1 =>
    cases h
    rcases h1 with (h1 | ⟨o, h1⟩) | ⟨o, its, n, h1, h2, _⟩
    · exact .base (.lst (I.sub _ _ h1))
    · exact .base (.frz (I.sub _ _ h1))
    · exact .kList h1 h2
  | _ => cases h
theorem tyC_at (I : Ih g H F c cs) {v : V} {d : D} {t : String} (r : RV g F c v d) (h : tyC cs d = some t) : TyX g.K H v (.type t) := by
  cases r with
  | @loc n a ha =>
    simp only [tyC] at h
    obtain ⟨x, hx⟩ := I.there ha
    have q := I.cell n a x ha hx
    rw [hx] at h
    cases x with
    | lst l => cases h; obtain ⟨_, vs, h1, _⟩ := q; exact .base (.lst h1)
    | dct l => cases h; obtain ⟨_, vs, h1, _⟩ := q; exact .base (.dK h1)
    | fz d => exact tyD_at I q.1 h
    | _ => cases h
  | non => exact tyD_at (c := c) I .non h
  | bl b => exact tyD_at (c := c) I (.bl b) h
  | int i => exact tyD_at (c := c) I (.int i) h
  | str l => exact tyD_at (c := c) I (.str l) h
  | lst a b => exact tyD_at I (.lst a b) h
  | tup a b => exact tyD_at I (.tup a b) h
  | dct a b => exact tyD_at I (.dct a b) h
  | scr a => exact tyD_at (c := c) I (.scr a) h
  | obj a b e => exact tyD_at I (.obj a b e) h
end
section
variable {X : Cx} {W : WX} {pos p p1 p2 : Pos} {a b o e : Expr} {ma mb mo m : ME} {ms : MA} {x : Str} {t : String}
theorem pe_blt (hg : Gl X x) (hm : X.mg x = none) (hv : bootBuiltins x = some (.type t)) (hn : x ≠ "__name__" := by decide) (hdb : (x == ("__debug__" : Str)) = false := by decide) : PE X (.Name x p) (tC (.ty t)) :=
  pe_bltn hg hm hv rfl hn hdb
theorem xp_isi (hgi : Gl X "isinstance") (hmi : X.mg "isinstance" = none) (hg : Gl X x) (hm : X.mg x = none) (hv : bootBuiltins x = some (.type t)) (ha : Xp X W a ma) (hn : x ≠ "__name__" := by decide) (hdb : (x == ("__debug__" : Str)) = false := by decide)
    (he : starEach [a, .Name x p2] X.env = (false, eval a X.env) :: starEach [.Name x p2] X.env := by rfl) (he2 : starEach [.Name x p2] X.env = (false, eval (.Name x p2) X.env) :: starEach [] X.env := by rfl)
    (hpl : (backTo pos (starEach [.Name x p2] X.env)).any (·.1) = false := by rfl) : Xp X W (.Call (.Name "isinstance" p) [a, .Name x p2] [] pos) (op1 (isiD t) ma) := by
  obtain ⟨ta, pa, sa⟩ := ha
  refine ⟨_, pe_callB call_isi hgi hmi PyProof.Rows.boot_isinstance (pa_cons pa (pa_cons (pe_blt hg hm hv hn hdb) pa_nil he2) he) (by decide) (by decide) he hpl, fun σ env H F c cs Q re I po => ?_⟩
  refine sa σ env H F c cs _ re I (PoE.cut po _ fun d cs1 _ H1 F1 c1 v x1 I1 rv po1 => ?_)
  unfold isiD at po1
  split at po1
  · rename_i u hu
    split at po1
    · rename_i k hk
      exact ⟨v, .ty t, .type u, .type t, k, rfl, .ty t, tyC_at I1 rv hu, kit_ty hk, PoE.here I1 (.bl k) po1⟩
    · exact po1.elim
  · exact po1.elim
end
end L3

namespace L3
open PySem L2

/-! ### x in y -/
def flatD : D → Bool
  | .non => true
  | .bl _ => true
  | .int _ => true
  | .str _ => true
  | _ => false
def eqF : D → D → Bool
  | .non, .non => true
  | .bl a, .bl b => a == b
  | .bl a, .int b => (if a then 1 else 0) == b
  | .int a, .bl b => a == (if b then 1 else 0)
  | .int a, .int b => a == b
  | .str a, .str b => decide (a = b)
  | _, _ => false
def inF (x : D) (xs : List D) : Bool := xs.any fun y => eqF y x
theorem flat_rv {g : Gd} {F : Hp} {c : List Addr} {v : V} {d : D} (r : RV g F c v d) (h : flatD d = true) : flatV v = true := by
  cases r <;> first | rfl | cases h
theorem flats_rv {g : Gd} {F : Hp} {c : List Addr} : ∀ {v : List V} {d : List D}, RVs g F c v d → d.all flatD = true → v.all flatV = true
  | _, _, .nil, _ => rfl
  | _, _, .cons a b, h => by
    rw [List.all_cons, Bool.and_eq_true] at h ⊢
    exact ⟨flat_rv a h.1, flats_rv b h.2⟩
theorem str_beq (a b : List Nat) : ((⟨a.toArray⟩ : Str) == ⟨b.toArray⟩) = decide (a = b) := by
  rw [Bool.eq_iff_iff, beq_iff_eq, decide_eq_true_eq]
  constructor
  · intro h
    have := congrArg (fun z : Str => z.cps.toList) h
    simpa using this
  · intro h; rw [h]
theorem eqF_rv {g : Gd} {F : Hp} {c : List Addr} {v u : V} {d e : D} (r : RV g F c v d) (q : RV g F c u e) : eqV v u = eqF d e := by
  cases r <;> cases q <;> first | rfl | (simp only [eqV, eqF]; exact str_beq _ _)
theorem inF_rv {g : Gd} {F : Hp} {c : List Addr} {v : V} {d : D} (r : RV g F c v d) : ∀ {vs : List V} {ds : List D}, RVs g F c vs ds → inV v vs = inF d ds
  | _, _, .nil => rfl
  | _, _, .cons a b => by
    unfold inV inF
    rw [List.any_cons, List.any_cons, eqF_rv a r]
    have := inF_rv r b
    unfold inV inF at this
    rw [this]
def inB (cs : Cells) (x y : D) : Option Bool := match x, y with
  | .str [k], .str l => some (decide (k ∈ l))
  | x, y => match seqOf cs y with
    | some ds => if flatD x && ds.all flatD then some (inF x ds) else none
    | none => none
def inD (cs : Cells) (x y : D) : R := match inB cs x y with
  | some b => .ok (.bl b) cs
  | none => .stuck
def ninD (cs : Cells) (x y : D) : R := match inB cs x y with
  | some b => .ok (.bl !b) cs
  | none => .stuck
abbrev rInS1 : R2 := fun x y H Q => ∃ (c : Nat) (z : Str), x = .str ⟨#[c]⟩ ∧ y = .str z ∧ Q (.bl (decide (c ∈ z.cps.toList))) H
abbrev rNInS1 : R2 := fun x y H Q => ∃ (c : Nat) (z : Str), x = .str ⟨#[c]⟩ ∧ y = .str z ∧ Q (.bl (!decide (c ∈ z.cps.toList))) H
section
variable {X : Cx} {W : WX} {pos p p1 p2 : Pos} {a b o e : Expr} {ma mb mo me : ME} {ms : MA}
theorem o2_in {g : Gd} : O2 g (fun x y H Q => rInS1 x y H Q ∨ rIn g.K false x y H Q) inD := by
  intro W H F c cs x y d e Q I rx ry po
  unfold inD inB at po
  split at po
  · rename_i k hk
    split at hk
    · simp only [Option.some.injEq] at hk
      subst hk
      cases rx; cases ry
      exact .inl ⟨_, _, rfl, rfl, PoE.here I (.bl _) po⟩
    · split at hk
      · rename_i ds hds
        split at hk
        · rename_i hf
          simp only [Bool.and_eq_true] at hf
          simp only [Option.some.injEq] at hk
          obtain ⟨q, vs, rfl, hs, r⟩ := seqOf_at I ry hds
          refine .inr ⟨q, vs, rfl, hs, flat_rv rx hf.1, flats_rv r hf.2, ?_⟩
          rw [if_neg Bool.false_ne_true, inF_rv rx r, hk]
          exact PoE.here I (.bl _) po
        · cases hk
      · cases hk
  · exact po.elim
theorem o2_nin {g : Gd} : O2 g (fun x y H Q => rNInS1 x y H Q ∨ rIn g.K true x y H Q) ninD := by
  intro W H F c cs x y d e Q I rx ry po
  unfold ninD inB at po
  split at po
  · rename_i k hk
    split at hk
    · simp only [Option.some.injEq] at hk
      subst hk
      cases rx; cases ry
      exact .inl ⟨_, _, rfl, rfl, PoE.here I (.bl _) po⟩
    · split at hk
      · rename_i ds hds
        split at hk
        · rename_i hf
          simp only [Bool.and_eq_true] at hf
          simp only [Option.some.injEq] at hk
          obtain ⟨q, vs, rfl, hs, r⟩ := seqOf_at I ry hds
          refine .inr ⟨q, vs, rfl, hs, flat_rv rx hf.1, flats_rv r hf.2, ?_⟩
          rw [if_pos rfl, inF_rv rx r, hk]
          exact PoE.here I (.bl _) po
        · cases hk
      · cases hk
  · exact po.elim
theorem xp_in (ha : Xp X W a ma) (hb : Xp X W b mb) (hm : behindInMarks .In b = false) : Xp X W (.Compare a [.In] [b] pos) (op2 inD ma mb) := xp_cmp (op_in_sign.or op_in_seq) o2_in ha hb hm
theorem xp_nin (ha : Xp X W a ma) (hb : Xp X W b mb) (hm : behindInMarks .NotIn b = false) : Xp X W (.Compare a [.NotIn] [b] pos) (op2 ninD ma mb) := xp_cmp (op_notIn_sign.or op_notIn_seq) o2_nin ha hb hm
theorem xt_in (ha : Xp X W a ma) (hb : Xp X W b mb) (hm : behindInMarks .In b = false) : Xt1 X W (.Compare a [.In] [b] pos) (op2 inD ma mb) := xt_cmp (op_in_sign.or op_in_seq) o2_in ha hb hm
theorem xt_nin (ha : Xp X W a ma) (hb : Xp X W b mb) (hm : behindInMarks .NotIn b = false) : Xt1 X W (.Compare a [.NotIn] [b] pos) (op2 ninD ma mb) := xt_cmp (op_notIn_sign.or op_notIn_seq) o2_nin ha hb hm

/-! ### o[i] = e, o a list that is a cell -/
def putL (cs : Cells) (o i v : D) : Option Cells := match o, i with
  | .loc n, .int k => match cs[n]? with
    | some (.lst l) => match ixN l.length k with
      | some j => some (cs.set n (.lst (l.set j v)))
      | none => none
    | _ => none
  | _, _ => none
def sPut (mo mi mv : ME) : MS := fun env cs => (mv env cs).toS env fun v cs1 => (mo env cs1).toS env fun o cs2 => (mi env cs2).toS env fun i cs3 => match putL cs3 o i v with
  | some cs4 => .nx env cs4
  | none => .stuck
theorem RVs.set {g : Gd} {F : Hp} {c : List Addr} : ∀ {vs : List V} {ds : List D} (j : Nat) {v : V} {d : D}, RVs g F c vs ds → RV g F c v d → RVs g F c (vs.set j v) (ds.set j d)
  | _, _, _, _, _, .nil, _ => .nil
  | _, _, 0, _, _, .cons a b, r => .cons r b
  | _, _, j + 1, _, _, .cons a b, r => .cons a (RVs.set j b r)
theorem sm_put {tpos : Pos} (ho : Xp X W o mo) (hi : Xp X W b mb) (hv : Xp X W e me)
    (hs : swapsWithSole [.Subscript o b tpos] e pos.line X.env = pure false := by rfl) (hw : swappedStores [.Subscript o b tpos] e X.env = pure none := by rfl)
    (h1 : (assignEach [.Subscript o b tpos] X.env).map (·.2) = [assign (.Subscript o b tpos) X.env] := by rfl)
    (ha : ∀ v, assign (.Subscript o b tpos) X.env v = (do
      let ov ← holding [v] (eval o X.env)
      let iv ← holding [v, ov] (eval b X.env)
      standAt tpos
      holding [v, ov, iv] (setItem ov iv v)
      release [v, ov, iv] []) := by intro _; rfl) : Sm X W (.Assign [.Subscript o b tpos] e pos) (sPut mo mb me) := by
  obtain ⟨to, po', so⟩ := ho
  obtain ⟨tb, pb, sb⟩ := hi
  obtain ⟨te, pe, se⟩ := hv
  refine ⟨_, ps_asg pe (pg_sub po' pb set_list ha) hs hw h1, fun σ env H F c cs Dn re I po => ?_⟩
  refine se σ env H F c cs _ re I (PoS.cut re po _ fun d cs1 _ H1 F1 c1 v x1 I1 rv po1 => ?_)
  refine so σ env H1 F1 c1 cs1 _ (re.mono x1.le) I1 (PoS.cut (re.mono x1.le) po1 _ fun d2 cs2 _ H2 F2 c2 v2 x2 I2 rv2 po2 => ?_)
  refine sb σ env H2 F2 c2 cs2 _ ((re.mono x1.le).mono x2.le) I2 (PoS.cut ((re.mono x1.le).mono x2.le) po2 _ fun d3 cs3 _ H3 F3 c3 v3 x3 I3 rv3 po3 => ?_)
  have re3 := ((re.mono x1.le).mono x2.le).mono x3.le
  have rv' := (rv.mono x2.le).mono x3.le
  have rv2' := rv2.mono x3.le
  split at po3
  · rename_i cs4 h4
    unfold putL at h4
    split at h4
    · rename_i n k
      split at h4
      · rename_i l hl
        split at h4
        · rename_i j hj
          simp only [Option.some.injEq] at h4
          subst h4
          cases rv3
          cases rv2' with
          | loc ha =>
            have q := I3.cell _ _ _ ha hl
            obtain ⟨f, vs, hH, r⟩ := q
            refine ⟨_, vs, _, j, rfl, rfl, hH, by rw [r.length]; exact hj, ?_⟩
            have x4 := Xt.write I3 (o := .lst (vs.set j v)) ha
            refine po3 _ _ _ x4 (I3.write ha hl rfl ?_) σ (re3.mono x4.le)
            exact ⟨f, _, upd_same, r.set j rv'⟩
        · cases h4
      · cases h4
    · cases h4
  · exact po3.elim
end

/-! ### methods of a text -/
def eM0 (f : Cells → List Nat → R) (mo : ME) : ME := fun env cs => (mo env cs).bind fun x cs1 => match x with
  | .str l => f cs1 l
  | _ => .stuck
def eM1 (f : Cells → List Nat → D → R) (mo me : ME) : ME := fun env cs => (mo env cs).bind fun x cs1 => match x with
  | .str l => (me env cs1).bind fun y cs2 => f cs2 l y
  | _ => .stuck
def Mb0 (g : Gd) (r : V → List V → Hp → VK → Prop) (f : Cells → List Nat → R) : Prop := ∀ (W : XK) (H F : Hp) (c : List Addr) (cs : Cells) (l : List Nat) (Q : VK), Ih g H F c cs → PoE g W H F c (f cs l) Q → r (.str ⟨l.toArray⟩) [] H Q
def Mb1 (g : Gd) (r : V → List V → Hp → VK → Prop) (f : Cells → List Nat → D → R) : Prop := ∀ (W : XK) (H F : Hp) (c : List Addr) (cs : Cells) (l : List Nat) (y : V) (e : D) (Q : VK), Ih g H F c cs → RV g F c y e → PoE g W H F c (f cs l e) Q → r (.str ⟨l.toArray⟩) [y] H Q
section
variable {X : Cx} {W : WX} {pos p p1 p2 apos : Pos} {a b o e : Expr} {ma mb mo me : ME} {ms : MA} {id : String} {name : Str} {r : V → List V → Hp → VK → Prop} {f : Cells → List Nat → D → R} {f0 : Cells → List Nat → R}
theorem xp_m0 (slot : Slot "str" name id) (ty : typeOf (.builtin id) = pure (.type "method_descriptor")) (rule : MtR X id r) (ok : Mb0 (gd X) r f0) (ho : Xp X W o mo)
    (hbase : attributeBase o name X.env (eval o X.env) = eval o X.env := by rfl) (hline : (apos.endLine == pos.line) = true := by rfl) : Xp X W (.Call (.Attribute o name apos) [] [] pos) (eM0 f0 mo) := by
  obtain ⟨to, po', so⟩ := ho
  refine ⟨_, pe_m0 slot ty rule po' hbase hline, fun σ env H F c cs Q re I po => ?_⟩
  refine so σ env H F c cs _ re I (PoE.cut po _ fun d cs1 _ H1 F1 c1 v x1 I1 rv po1 => ?_)
  split at po1
  · cases rv
    exact ⟨⟨_, rfl⟩, ok _ _ _ _ _ _ _ I1 po1⟩
  · exact po1.elim
theorem xp_m1 (slot : Slot "str" name id) (ty : typeOf (.builtin id) = pure (.type "method_descriptor")) (rule : MtR X id r) (ok : Mb1 (gd X) r f) (ho : Xp X W o mo) (he : Xp X W e me)
    (hs : starEach [e] X.env = [(false, eval e X.env)] := by rfl) (hbase : attributeBase o name X.env (eval o X.env) = eval o X.env := by rfl) (hline : (apos.endLine == pos.line) = true := by rfl) :
    Xp X W (.Call (.Attribute o name apos) [e] [] pos) (eM1 f mo me) := by
  obtain ⟨to, po', so⟩ := ho
  obtain ⟨te, pe', se⟩ := he
  refine ⟨_, pe_m1 slot ty rule po' pe' hs hbase hline, fun σ env H F c cs Q re I po => ?_⟩
  refine so σ env H F c cs _ re I (PoE.cut po _ fun d cs1 _ H1 F1 c1 v x1 I1 rv po1 => ?_)
  split at po1
  · cases rv
    refine ⟨⟨_, rfl⟩, se σ env H1 F1 c1 cs1 _ (re.mono x1.le) I1 (PoE.cut po1 _ fun d2 cs2 _ H2 F2 c2 v2 x2 I2 rv2 po2 => ?_)⟩
    exact ok _ _ _ _ _ _ _ _ _ I2 rv2 po2
  · exact po1.elim
/-! join -/
def strsOf : List D → Option (List (List Nat))
  | [] => some []
  | .str l :: r => match strsOf r with
    | some q => some (l :: q)
    | none => none
  | _ => none
def joinD (cs : Cells) (l : List Nat) (y : D) : R := match seqOf cs y with
  | some ds => match strsOf ds with
    | some ls => if (ls.map (·.length)).sum + ls.length * l.length ≤ 16777216 then .ok (.str (TL.joinL l ls)) cs else .stuck
    | none => .stuck
  | none => .stuck
theorem strsOf_rv {g : Gd} {F : Hp} {c : List Addr} : ∀ {vs : List V} {ds : List D} {l : List (List Nat)}, RVs g F c vs ds → strsOf ds = some l → vs = (l.map fun z => (⟨z.toArray⟩ : Str)).map V.str
  | _, _, _, .nil, h => by simp only [strsOf, Option.some.injEq] at h; subst h; rfl
  | _, _, _, .cons r1 r2, h => by
    cases r1 with
    | str y =>
      simp only [strsOf] at h
      split at h
      · rename_i l hl
        simp only [Option.some.injEq] at h
        subst h
        rw [strsOf_rv r2 hl]; rfl
      · cases h
    | _ => cases h
theorem map_tl (ls : List (List Nat)) : (ls.map fun z => (⟨z.toArray⟩ : Str)).map TL.tl = ls := by
  rw [List.map_map]
  conv => rhs; rw [← List.map_id ls]
  exact List.map_congr_left fun z _ => by simp [TL.tl]
theorem join_codes (l : List Nat) (ls : List (List Nat)) : Txt.join ⟨l.toArray⟩ (ls.map fun z => (⟨z.toArray⟩ : Str)) = ⟨(TL.joinL l ls).toArray⟩ := by
  rw [TL.join_eq]
  refine TL.ext_tl ?_
  rw [TL.tl_join, map_tl]
theorem mb_join {g : Gd} : Mb1 g (fun x xs H Q => ∃ a p, ∃ ys : List Str, x = .str a ∧ xs = [.ref p] ∧ (SqL g.K H p (ys.map V.str) ∨ SqT g.K H p (ys.map V.str)) ∧
      (ys.map (·.length)).sum + ys.length * a.length ≤ 16777216 ∧ Q (.str (Txt.join a ys)) H) joinD := by
  intro W H F c cs l y e Q I ry po
  unfold joinD at po
  split at po
  · rename_i ds hds
    split at po
    · rename_i ls hls
      split at po
      · rename_i hz
        obtain ⟨q, vs, rfl, hs, r⟩ := seqOf_at I ry hds
        have e := strsOf_rv r hls
        subst e
        refine ⟨_, q, _, rfl, rfl, hs, ?_, ?_⟩
        · rw [List.map_map, List.length_map, str_len]
          have : ls.map ((fun x : Str => x.length) ∘ fun z => (⟨z.toArray⟩ : Str)) = ls.map (·.length) := List.map_congr_left fun z _ => str_len z
          rw [this]; exact hz
        · rw [join_codes]
          exact PoE.here I (.str _) po
      · exact po.elim
    · exact po.elim
  · exact po.elim
theorem xp_join (ho : Xp X W o mo) (he : Xp X W e me)
    (hs : starEach [e] X.env = [(false, eval e X.env)] := by rfl) (hbase : attributeBase o "join" X.env (eval o X.env) = eval o X.env := by rfl) (hline : (apos.endLine == pos.line) = true := by rfl) :
    Xp X W (.Call (.Attribute o "join" apos) [e] [] pos) (eM1 joinD mo me) := xp_m1 F.slot_str_join F.type_str_join mt_join mb_join ho he hs hbase hline
/-! index of one sign -/
def sixD (cs : Cells) (l : List Nat) (y : D) : R := match y with
  | .str [k] => if k ∈ l then .ok (.int ((l.idxOf k : Nat) : Int)) cs else .stuck
  | _ => .stuck
abbrev rSix : V → List V → Hp → VK → Prop := fun x xs H Q => ∃ a b i rest, x = .str a ∧ xs = [.str b] ∧ Builtin.Str.occurrences a b 0 a.length 1 = i :: rest ∧ Q (.int (i : Nat)) H
theorem idx_of : ∀ {l : List Nat} {k i : Nat}, l[i]? = some k → (∀ j, j < i → l[j]? ≠ some k) → i = l.idxOf k
  | [], _, _, h, _ => by simp at h
  | x :: l, k, 0, h, _ => by simp at h; subst h; simp
  | x :: l, k, i + 1, h, q => by
    have hx : x ≠ k := fun e => q 0 (Nat.succ_pos _) (by simp [e])
    have := idx_of (l := l) (k := k) (i := i) (by simpa using h) fun j hj e => q (j + 1) (by omega) (by simpa using e)
    rw [List.idxOf_cons, ← this]
    have : (x == k) = false := by simpa using hx
    rw [this]; rfl
theorem occ_one (l : List Nat) {k : Nat} (h : k ∈ l) : ∃ rest, Builtin.Str.occurrences ⟨l.toArray⟩ ⟨#[k]⟩ 0 (⟨l.toArray⟩ : Str).length 1 = l.idxOf k :: rest := by
  rcases StrLaws.occ_head ⟨l.toArray⟩ ⟨#[k]⟩ 1 (Nat.le_refl _) with ⟨_, hn⟩ | ⟨i, r, e, ha, hn⟩
  · obtain ⟨i, hi⟩ := List.mem_iff_getElem?.mp h
    exact absurd ((StrLaws.subAt_one ⟨l.toArray⟩ k i).mpr (by simpa using hi)) (hn i)
  · have h1 := (StrLaws.subAt_one ⟨l.toArray⟩ k i).mp ha
    have : i = l.idxOf k := idx_of (by simpa using h1) fun j hj e => hn j hj ((StrLaws.subAt_one ⟨l.toArray⟩ k j).mpr (by simpa using e))
    rw [e, this]
    exact ⟨r, rfl⟩
theorem mb_six {g : Gd} : Mb1 g rSix sixD := by
  intro W H F c cs l y e Q I ry po
  unfold sixD at po
  split at po
  · split at po
    · rename_i h
      cases ry
      obtain ⟨r, hr⟩ := occ_one l h
      exact ⟨_, _, _, r, rfl, rfl, hr, PoE.here I (.int _) po⟩
    · exact po.elim
  · exact po.elim
theorem xp_six (ho : Xp X W o mo) (he : Xp X W e me)
    (hs : starEach [e] X.env = [(false, eval e X.env)] := by rfl) (hbase : attributeBase o "index" X.env (eval o X.env) = eval o X.env := by rfl) (hline : (apos.endLine == pos.line) = true := by rfl) :
    Xp X W (.Call (.Attribute o "index" apos) [e] [] pos) (eM1 sixD mo me) := xp_m1 F.slot_str_index F.type_str_index mt_sindex mb_six ho he hs hbase hline
end

/-! ### {k: v, ..} -/
inductive RPs (g : Gd) (F : Hp) (c : List Addr) : List (V × V) → List D → Prop
  | nil : RPs g F c [] []
  | cons {x y : V} {d e : D} {ps : List (V × V)} {ds : List D} : RV g F c x d → RV g F c y e → RPs g F c ps ds → RPs g F c ((x, y) :: ps) (d :: e :: ds)
def PoP (g : Gd) (W : XK) (H F : Hp) (c : List Addr) (r : RA) (Q : List (V × V) → Hp → Prop) : Prop :=
  match r with
  | .ok ds cs => Fw g H F c cs fun H' F' c' => ∀ ps, RPs g F' c' ps ds → Q ps H'
  | .exc n fs cs => ExK g W H F c n fs cs
  | .stuck => False
def Xps (X : Cx) (W : WX) (pos : Pos) (ks : List (Option Expr)) (vs : List Expr) (m : MA) : Prop := ∃ trs, PPs X pos ks vs trs ∧ ∀ σ env H F c cs Q, RE (gd X) F c σ env → Ih (gd X) H F c cs → PoP (gd X) (fun a b => W a b σ) H F c (m env cs) Q → tPairs trs σ H Q
section
variable {X : Cx} {W : WX} {pos : Pos} {k v : Expr} {ks : List (Option Expr)} {vs : List Expr} {mk mv : ME} {ms : MA}
theorem xps_nil : Xps X W pos [] [] aNil := ⟨[], pps_nil, fun _ _ _ _ _ _ _ _ I po => po _ _ _ (Xt.refl _ _ _) I [] .nil⟩
theorem xps_cons (hk : Xp X W k mk) (hv : Xp X W v mv) (hr : Xps X W pos ks vs ms) : Xps X W pos (some k :: ks) (v :: vs) (aCons mk (aCons mv ms)) := by
  obtain ⟨tk, pk, sk⟩ := hk
  obtain ⟨tv, pv, sv⟩ := hv
  obtain ⟨trs, pr, sr⟩ := hr
  refine ⟨_, pps_cons pk pv pr, fun σ env H F c cs Q re I po => ?_⟩
  refine sk σ env H F c cs _ re I ?_
  unfold aCons at po
  cases h1 : mk env cs with
  | ok d cs1 =>
    rw [h1] at po
    simp only at po
    intro H1 F1 c1 x1 I1 v rv
    refine sv σ env H1 F1 c1 cs1 _ (re.mono x1.le) I1 ?_
    cases h2 : mv env cs1 with
    | ok d2 cs2 =>
      rw [h2] at po
      simp only at po
      intro H2 F2 c2 x2 I2 v2 rv2
      refine sr σ env H2 F2 c2 cs2 _ ((re.mono x1.le).mono x2.le) I2 ?_
      cases h3 : ms env cs2 with
      | ok ds cs3 =>
        rw [h3] at po
        exact fun H3 F3 c3 x3 I3 ps rps => po H3 F3 c3 ((x1.trans x2).trans x3) I3 _ (.cons ((rv.mono x2.le).mono x3.le) (rv2.mono x3.le) rps)
      | exc n fs cs3 =>
        rw [h3] at po
        have po : ExK (gd X) (fun a b => W a b σ) H F c n fs cs3 := po
        exact ExK.from (x1.trans x2) po
      | stuck => rw [h3] at po; exact po.elim
    | exc n fs cs2 =>
      rw [h2] at po
      have po : ExK (gd X) (fun a b => W a b σ) H F c n fs cs2 := po
      exact ExK.from x1 po
    | stuck => rw [h2] at po; exact po.elim
  | exc n fs cs1 => rw [h1] at po; exact po
  | stuck => rw [h1] at po; exact po.elim
def kvD : List D → Option (List (Kd × D))
  | [] => some []
  | .int i :: v :: r => match kvD r with
    | some q => some ((.inl i, v) :: q)
    | none => none
  | .str l :: v :: r => match kvD r with
    | some q => some ((.inr l, v) :: q)
    | none => none
  | _ => none
def putD (kds : List (Kd × D)) (k : Kd) (v : D) : List (Kd × D) := if (kds.any fun kv => decide (kv.1 = k)) = true then kds.map (fun kv => if kv.1 = k then (kv.1, v) else kv) else kds ++ [(k, v)]
def mergeD (kds more : List (Kd × D)) : List (Kd × D) := more.foldl (fun acc kv => putD acc kv.1 kv.2) kds
theorem RKs.app {g : Gd} {F : Hp} {c : List Addr} : ∀ {vs ws : List (Key × V)} {ds es : List (Kd × D)}, RKs g F c vs ds → RKs g F c ws es → RKs g F c (vs ++ ws) (ds ++ es)
  | _, _, _, _, .nil, s => s
  | _, _, _, _, .cons a b, s => .cons a (RKs.app b s)
theorem RKs.any {g : Gd} {F : Hp} {c : List Addr} (k : Kd) : ∀ {vs : List (Key × V)} {ds : List (Kd × D)}, RKs g F c vs ds → (vs.any fun kv => decide (kv.1 = kk k)) = ds.any fun kv => decide (kv.1 = k)
  | _, _, .nil => rfl
  | _, _, .cons a b => by rw [List.any_cons, List.any_cons, RKs.any k b, kk_eq]
theorem RKs.upd {g : Gd} {F : Hp} {c : List Addr} (k : Kd) {v : V} {d : D} (r : RV g F c v d) : ∀ {vs : List (Key × V)} {ds : List (Kd × D)}, RKs g F c vs ds → RKs g F c (vs.map fun kv => if kv.1 = kk k then (kv.1, v) else kv) (ds.map fun kv => if kv.1 = k then (kv.1, d) else kv)
  | _, _, .nil => .nil
  | _, _, @RKs.cons _ _ _ k0 v0 d0 vs ds a b => by
    rw [List.map_cons, List.map_cons]
    by_cases h : k0 = k
    · subst h
      rw [if_pos rfl, if_pos rfl]
      exact .cons r (RKs.upd k0 r b)
    · have h' : ¬ kk k0 = kk k := fun e => h (kk_inj e)
      rw [if_neg h', if_neg h]
      exact .cons a (RKs.upd k r b)
theorem RKs.put {g : Gd} {F : Hp} {c : List Addr} {vs : List (Key × V)} {ds : List (Kd × D)} (r : RKs g F c vs ds) (k : Kd) {v : V} {d : D} (q : RV g F c v d) : RKs g F c (putK vs (kk k) v) (putD ds k d) := by
  unfold putK putD
  rw [r.any k]
  split
  · exact r.upd k q
  · exact r.app (.cons q .nil)
theorem RKs.merge {g : Gd} {F : Hp} {c : List Addr} : ∀ {ws : List (Key × V)} {es : List (Kd × D)} {vs : List (Key × V)} {ds : List (Kd × D)}, RKs g F c ws es → RKs g F c vs ds → RKs g F c (mergeK vs ws) (mergeD ds es)
  | _, _, _, _, .nil, r => r
  | _, _, vs, ds, .cons (k := k) a b, r => by
    have h := RKs.merge b (RKs.put r k a)
    exact h
theorem kvD_rv {g : Gd} {F : Hp} {c : List Addr} : ∀ {ps : List (V × V)} {ds : List D} {kds : List (Kd × D)}, RPs g F c ps ds → kvD ds = some kds → ∃ kvs, ps = kvs.map (fun kv => (kV kv.1, kv.2)) ∧ RKs g F c kvs kds
  | _, _, _, .nil, h => by simp only [kvD, Option.some.injEq] at h; subst h; exact ⟨[], rfl, .nil⟩
  | _, _, _, .cons r1 r2 r3, h => by
    cases r1 with
    | int i =>
      simp only [kvD] at h
      split at h
      · rename_i q hq
        simp only [Option.some.injEq] at h
        subst h
        obtain ⟨kvs, e, r⟩ := kvD_rv r3 hq
        exact ⟨(kk (.inl i), _) :: kvs, by rw [e]; rfl, .cons r2 r⟩
      · cases h
    | str l =>
      simp only [kvD] at h
      split at h
      · rename_i q hq
        simp only [Option.some.injEq] at h
        subst h
        obtain ⟨kvs, e, r⟩ := kvD_rv r3 hq
        exact ⟨(kk (.inr l), _) :: kvs, by rw [e]; rfl, .cons r2 r⟩
      · cases h
    | _ => cases h
theorem RKs.length {g : Gd} {F : Hp} {c : List Addr} : ∀ {vs : List (Key × V)} {ds : List (Kd × D)}, RKs g F c vs ds → vs.length = ds.length
  | _, _, .nil => rfl
  | _, _, .cons _ r => by simp [RKs.length r]
def mkD (md : Bool) (cs : Cells) (ds : List (Kd × D)) : R := if md then .ok (.loc cs.length) (cs ++ [.dct ds]) else .ok (.dct ds) cs
def eDict (md : Bool) (m : MA) : ME := fun env cs => (m env cs).bind fun ds cs1 => match kvD ds with
  | some kds => if kds.length ≤ 15 then mkD md cs1 (mergeD [] kds) else .stuck
  | none => .stuck
/-- an object aside joins: stands still, or a cell -/
theorem mkD_ok {g : Gd} {W : XK} {md : Bool} {H F H1 F1 : Hp} {c c1 : List Addr} {cs : Cells} {kds : List (Kd × D)} {kvs : List (Key × V)} {Q : VK} {p : Addr} (x : Xt H F c H1 F1 c1) (I : Ih g H1 F1 c1 cs) (hp : H p = none) (hF : F1 p = none) (hc : p ∉ c1)
    (r : RKs g F1 c1 kvs kds) (po : PoE g W H F c (mkD md cs kds) Q) : Q (.ref p) (L2.upd H1 p (.dK kvs)) := by
  unfold mkD at po
  cases md with
  | true =>
    rw [if_pos rfl] at po
    have y : Xt H F c (L2.upd H1 p (.dK kvs)) F1 (c1 ++ [p]) := by
      have z := x.side (o := .dK kvs) hp
      exact ⟨z.le.trans Le.push, z.kp, z.dom, fun a h n => by
        rcases List.mem_append.mp h with h | h
        · exact z.new a h n
        · have : a = p := by simpa using h
          rw [this]; exact hp, z.out⟩
    have J := I.side (o := .dK kvs) hc hF
    refine po _ _ _ y ⟨J.sub, by simp [J.len], ?_, fun n a z h1 h2 => ?_⟩ _ (.loc (n := cs.length) (by rw [← I.len]; simp))
    · rw [List.nodup_append]
      refine ⟨I.nd, by simp, fun a ha b hb => ?_⟩
      have : b = p := by simpa using hb
      subst this
      rintro rfl
      exact hc ha
    · by_cases hl : n < c1.length
      · rw [List.getElem?_append_left hl] at h1
        rw [List.getElem?_append_left (by rw [← I.len]; exact hl)] at h2
        exact CR.mono (J.cell n a z h1 h2) Le.push (fun _ e => e) fun e => e
      · have hl' : n < (c1 ++ [p]).length := (List.getElem?_eq_some_iff.mp h1).1
        have hn : n = c1.length := by simp at hl'; omega
        subst hn
        rw [List.getElem?_append_right (Nat.le_refl _)] at h1
        rw [I.len, List.getElem?_append_right (Nat.le_refl _)] at h2
        simp at h1 h2
        subst h1; subst h2
        exact ⟨hF, kvs, upd_same, r.mono Le.push⟩
  | false =>
    rw [if_neg Bool.false_ne_true] at po
    have le2 : Le F1 c1 (L2.upd F1 p (.dK kvs)) c1 := Le.upd hF
    have z := x.side (o := .dK kvs) hp
    have J := I.side (o := .dK kvs) hc hF
    have y : Xt H F c (L2.upd H1 p (.dK kvs)) (L2.upd F1 p (.dK kvs)) c1 := ⟨z.le.trans le2, z.kp, z.dom, z.new, fun a o h f n => by
      rw [upd_ne (ne_of_none h hp)]; exact z.out a o h f n⟩
    refine po _ _ _ y ⟨fun a o e => ?_, I.len, I.nd, fun n a z h1 h2 => ?_⟩ _ (.dct (.inl upd_same) (r.mono le2))
    · by_cases ha : a = p
      · subst ha; rw [upd_same] at e ⊢; exact e
      · rw [upd_ne ha] at e; exact J.sub a o e
    · have hne : a ≠ p := fun e => hc (e ▸ List.mem_of_getElem? h1)
      exact CR.mono (J.cell n a z h1 h2) le2 (fun _ e => e) fun e => by rw [upd_ne hne]; exact e
theorem xp_dict (md : Bool) (h : Xps X W pos ks vs ms) (hall : ks.all (·.isSome) = true := by rfl) (hl : ks.length = vs.length := by rfl) (h0 : ks ≠ [] := by simp) (h15 : ks.length ≤ 15 := by decide) : Xp X W (.Dict ks vs pos) (eDict md ms) := by
  obtain ⟨trs, pr, sr⟩ := h
  refine ⟨_, pe_disp pr hall hl h0 h15, fun σ env H F c cs Q re I po p hp => ?_⟩
  have x0 := Xt.side (Xt.refl H F c) (o := .dK []) hp
  refine sr σ env _ F c cs _ re (I.side (I.notMem hp) (I.noF hp)) ?_
  unfold eDict at po
  cases h1 : ms env cs with
  | ok ds cs1 =>
    rw [h1] at po
    simp only [RA.bind_ok] at po
    intro H1 F1 c1 x1 I1 ps rps
    split at po
    · rename_i kds hk
      split at po
      · rename_i h15
        obtain ⟨kvs, e, r⟩ := kvD_rv rps hk
        refine ⟨x1.kp _ _ upd_same (I.notMem hp), kvs, e, by rw [r.length]; exact h15, ?_⟩
        refine mkD_ok (x0.trans x1) I1 hp (x1.out _ _ upd_same (I.noF hp) (I.notMem hp)) (fun m => ?_) (r.merge .nil) po
        have := x1.new p m (I.notMem hp)
        rw [upd_same] at this; cases this
      · exact po.elim
    · exact po.elim
  | exc n fs cs1 =>
    rw [h1] at po
    have po : ExK (gd X) (fun a b => W a b σ) H F c n fs cs1 := po
    exact ExK.from x0 po
  | stuck => rw [h1] at po; exact po.elim
/-- {} -/
theorem xp_dict0 (md : Bool) : Xp X W (.Dict [] [] pos) (fun _ cs => mkD md cs []) := by
  refine ⟨_, pe_dnewK, fun σ env H F c cs Q re I po p hp => ?_⟩
  exact mkD_ok (Xt.refl _ _ _) I hp (I.noF hp) (I.notMem hp) .nil po
end
end L3
namespace L3
open PySem L2
section
variable {X : Cx} {W : WX} {pos : Pos} {a : Expr} {ma : ME}
theorem xt_tB {t : TE} {m : ME} {σ : L2.St} {env : Env} {H F : Hp} {c : List Addr} {cs : Cells} {Q : Bool → Hp → Prop}
    (s : ∀ σ env H F c cs Q, RE (gd X) F c σ env → Ih (gd X) H F c cs → PoE (gd X) (fun a b => W a b σ) H F c (m env cs) Q → t σ H Q) (re : RE (gd X) F c σ env) (I : Ih (gd X) H F c cs) (po : PoT (gd X) (fun a b => W a b σ) H F c (m env cs) Q) : tB t σ H Q := by
  refine s σ env H F c cs (fun x H' => ∃ k, x = .bl k ∧ Q k H') re I ?_
  cases e : m env cs with
  | ok d cs1 =>
    rw [e] at po
    cases d with
    | bl b => exact fun H' F' c' x I' v rv => by cases rv; exact ⟨b, rfl, po H' F' c' x I'⟩
    | _ => exact po.elim
  | exc n fs cs1 => rw [e] at po; exact po
  | stuck => rw [e] at po; exact po.elim
theorem xt_isN {j} {p : Pos} (ha : Xp X W a ma) : Xt1 X W (.Compare a [.Is] [.Constant .none j p] pos) (op1 (isB none) ma) := by
  obtain ⟨ta, pa, sa⟩ := ha
  refine ⟨_, pt_cmp (pc_isN pa) rfl, fun σ env H F c cs Q re I po => ?_⟩
  refine xt_tB (W := W) (m := op1 (isB none) ma) (fun σ env H F c cs Q re I po => ?_) re I po
  refine sa σ env H F c cs _ re I (PoE.cut po _ fun d cs1 _ H1 F1 c1 v x1 I1 rv po1 => ?_)
  rw [rv_non rv]
  cases d <;> exact PoE.here I1 (.bl _) po1
theorem xt_notN {j} {p : Pos} (ha : Xp X W a ma) : Xt1 X W (.Compare a [.IsNot] [.Constant .none j p] pos) (op1 (isNB none) ma) := by
  obtain ⟨ta, pa, sa⟩ := ha
  refine ⟨_, pt_cmp (pc_notN pa) rfl, fun σ env H F c cs Q re I po => ?_⟩
  refine xt_tB (W := W) (m := op1 (isNB none) ma) (fun σ env H F c cs Q re I po => ?_) re I po
  refine sa σ env H F c cs _ re I (PoE.cut po _ fun d cs1 _ H1 F1 c1 v x1 I1 rv po1 => ?_)
  rw [rv_non rv]
  cases d <;> exact PoE.here I1 (.bl _) po1
theorem xt_isB {j} {p : Pos} {b : Bool} (ha : Xp X W a ma) : Xt1 X W (.Compare a [.Is] [.Constant (.bool b) j p] pos) (op1 (isB (some b)) ma) := by
  obtain ⟨ta, pa, sa⟩ := ha
  refine ⟨_, pt_cmpR op_isB pa pe_bl (nomark _), fun σ env H F c cs Q re I po => ?_⟩
  refine xt_tB (W := W) (m := op1 (isB (some b)) ma) (fun σ env H F c cs Q re I po => ?_) re I po
  refine sa σ env H F c cs _ re I (PoE.cut po _ fun d cs1 _ H1 F1 c1 v x1 I1 rv po1 => ?_)
  refine ⟨b, rfl, ?_⟩
  rw [rv_bl b rv]
  cases d <;> exact PoE.here I1 (.bl _) po1
theorem xt_isNB {j} {p : Pos} {b : Bool} (ha : Xp X W a ma) : Xt1 X W (.Compare a [.IsNot] [.Constant (.bool b) j p] pos) (op1 (isNB (some b)) ma) := by
  obtain ⟨ta, pa, sa⟩ := ha
  refine ⟨_, pt_cmpR op_isNB pa pe_bl (nomark _), fun σ env H F c cs Q re I po => ?_⟩
  refine xt_tB (W := W) (m := op1 (isNB (some b)) ma) (fun σ env H F c cs Q re I po => ?_) re I po
  refine sa σ env H F c cs _ re I (PoE.cut po _ fun d cs1 _ H1 F1 c1 v x1 I1 rv po1 => ?_)
  refine ⟨b, rfl, ?_⟩
  rw [rv_bl b rv]
  cases d <;> exact PoE.here I1 (.bl _) po1
end
end L3

namespace L3
open PySem L2
def anyB (cs : Cells) : List D → R
  | [d] => match listOf cs d with
    | some ds => match blsOf ds with
      | some l => .ok (.bl (l.any id)) cs
      | none => .stuck
    | none => .stuck
  | _ => .stuck
theorem cb_any {g : Gd} : Cb g (fun vs H Q => ∃ (a : Addr) (bs : List Bool), vs = [V.ref a] ∧ SqL g.K H a (bs.map V.bl) ∧ Q (.bl (bs.any _root_.id)) H) anyB := by
  intro W H F c cs vs ds Q I rv po
  unfold anyB at po
  split at po
  · rename_i d
    cases rv with
    | cons r1 r2 =>
      cases r2
      split at po
      · rename_i ds hds
        split at po
        · rename_i l hl
          obtain ⟨q, vs, rfl, hs, r⟩ := listOf_at I r1 hds
          have e := blsOf_rv r hl
          subst e
          exact ⟨q, l, rfl, .inl (.inl hs), PoE.here I (.bl _) po⟩
        · exact po.elim
      · exact po.elim
  · exact po.elim
/-! x.lower(), x.split() -/
def lowerD (cs : Cells) (l : List Nat) : R := if l.length ≤ 5592405 then .ok (.str (codes (Txt.lower ⟨l.toArray⟩))) cs else .stuck
def wordsL (l : List Nat) : List (List Nat) := TL.wfin (l.foldl TL.wstep ([], []))
def wordsD (md : Bool) (cs : Cells) (l : List Nat) : R := if l.length + 2 ≤ sizeLine then mkL md cs ((wordsL l).map D.str) else .stuck
theorem rvs_strs {g : Gd} {F : Hp} {c : List Addr} : ∀ ys : List Str, RVs g F c (ys.map V.str) ((ys.map TL.tl).map D.str)
  | [] => .nil
  | y :: r => .cons (by
      have : RV g F c (.str ⟨(TL.tl y).toArray⟩) (.str (TL.tl y)) := .str _
      rw [TL.mk_tl] at this
      exact this) (rvs_strs r)
section
variable {X : Cx} {W : WX} {pos apos : Pos} {o : Expr} {mo : ME}
theorem mb_lower {g : Gd} : Mb0 g (fun x xs H Q => ∃ a, x = .str a ∧ xs = [] ∧ a.length ≤ 5592405 ∧ Q (.str (Txt.lower a)) H) lowerD := by
  intro W H F c cs l Q I po
  unfold lowerD at po
  split at po
  · rename_i h
    refine ⟨_, rfl, rfl, by rw [str_len]; exact h, ?_⟩
    have := PoE.here I (.str _) po
    rw [str_codes] at this
    exact this
  · exact po.elim
theorem xp_lower (ho : Xp X W o mo) (hbase : attributeBase o "lower" X.env (eval o X.env) = eval o X.env := by rfl) (hline : (apos.endLine == pos.line) = true := by rfl) : Xp X W (.Call (.Attribute o "lower" apos) [] [] pos) (eM0 lowerD mo) :=
  xp_m0 F.slot_str_lower F.type_str_lower mt_lower mb_lower ho hbase hline
theorem mb_words {g : Gd} (md : Bool) : Mb0 g (fun x xs H Q => ∃ a, x = .str a ∧ xs = [] ∧ a.length + 2 ≤ sizeLine ∧ rNewStrs (Txt.words a) H Q) (wordsD md) := by
  intro W H F c cs l Q I po
  unfold wordsD at po
  split at po
  · rename_i h
    refine ⟨_, rfl, rfl, by rw [str_len]; exact h, fun p hp => ?_⟩
    have e : (Txt.words ⟨l.toArray⟩).map TL.tl = wordsL l := TL.words_tl _
    have rv := rvs_strs (g := g) (F := F) (c := c) (Txt.words ⟨l.toArray⟩)
    rw [e] at rv
    exact mkL_ok I rv po hp
  · exact po.elim
theorem xp_words (md : Bool) (ho : Xp X W o mo) (hbase : attributeBase o "split" X.env (eval o X.env) = eval o X.env := by rfl) (hline : (apos.endLine == pos.line) = true := by rfl) : Xp X W (.Call (.Attribute o "split" apos) [] [] pos) (eM0 (wordsD md) mo) :=
  xp_m0 F.slot_str_split F.type_str_split mt_words (mb_words md) ho hbase hline
end
end L3

namespace L3
open PySem L2

/-! ### a def of the text, under its name -/
structure Own (P : Program) (w : World) (K : PySem.W.Frag) (mg : Str → Option Value) (base : Heap) (k : Nat) (x : Str) (n : Nat) (m : MF) : Prop where
  ex : ∃ f fd ps, FnOk P w K mg base (L2.CX P w) k f fd ps (spM ⟨P, w, K, mg⟩ m n) ∧ mg x = some (.ref f) ∧ PySem.W.keepIn K (.ref f) = true ∧ Binds K fd ps []
section
variable {P : Program} {w : World} {K : PySem.W.Frag} {mg : Str → Option Value} {base : Heap} {k n : Nat} {x : Str} {m m' : MF}
/-- another function, the same wherever it says anything -/
theorem Own.imp (o : Own P w K mg base k x n m) (h : ∀ ds cs, m' ds cs = .stuck ∨ m' ds cs = m ds cs) : Own P w K mg base k x n m' := by
  obtain ⟨f, fd, ps, F, a, b, c⟩ := o
  refine ⟨f, fd, ps, F.imp (spM_imp fun E H F c cs vs ds Q I rv po => ?_), a, b, c⟩
  rcases h ds cs with e | e
  · rw [e] at po; exact po.elim
  · rw [e] at po; exact po
theorem Own.tidy (o : Own P w K mg base k x n m) : Own P w K mg base k x n (tidy m) := by
  obtain ⟨f, fd, ps, F, a, b, c⟩ := o
  exact ⟨f, fd, ps, F.imp tidy_imp, a, b, c⟩
theorem own_mk {f : Addr} {fd : FuncData} {st : Stmt} {qual : Str} {ps : List Str} (Fn : Fun K x qual st f fd) (F : FnOk P w K mg base (L2.CX P w) k f fd ps (spM ⟨P, w, K, mg⟩ m ps.length)) (hm : mg x = some (.ref f)) (hb : Binds K fd ps []) (hn : ps.length = n) : Own P w K mg base k x n m := by
  subst hn
  exact ⟨f, fd, ps, F, hm, Fn.kp, hb⟩
end
section
variable {X : Cx} {W : WX} {k n : Nat} {m : MF} {x : Str} {p pos : Pos} {e : Expr} {es : List Expr} {ms : MA}
theorem xp_own (o : Own X.prog X.w X.K X.mg X.base k x n m) (hr : Room k X.A) (tk : Takes X W) (ha : Xa X W (e :: es) ms) (hg : Gl X x) (hlen : ∀ env cs ds cs1, ms env cs = .ok ds cs1 → ds.length = n) (hn : (e :: es).length = n := by rfl) (hdb : (x == ("__debug__" : Str)) = false := by decide)
    (he : starEach (e :: es) X.env = (false, eval e X.env) :: starEach es X.env := by rfl) (hpl : (backTo pos (starEach es X.env)).any (·.1) = false := by rfl) : Xp X W (.Call (.Name x p) (e :: es) [] pos) (eCall m ms) := by
  obtain ⟨f, fd, ps, F, a, b, c⟩ := o
  exact xp_call F hr hg a b c tk ha hn hdb he hpl hlen
end
end L3
namespace L3
open PySem L2
theorem bo_len : bootBuiltins "len" = some (.builtin "len") := by decide +kernel
theorem bo_max : bootBuiltins "max" = some (.builtin "max") := by decide +kernel
theorem bo_min : bootBuiltins "min" = some (.builtin "min") := by decide +kernel
theorem bo_all : bootBuiltins "all" = some (.builtin "all") := by decide +kernel
theorem bo_any : bootBuiltins "any" = some (.builtin "any") := by decide +kernel
theorem bo_sum : bootBuiltins "sum" = some (.builtin "sum") := by decide +kernel
theorem bo_sorted : bootBuiltins "sorted" = some (.builtin "sorted") := by decide +kernel
theorem bo_repr : bootBuiltins "repr" = some (.builtin "repr") := by decide +kernel
theorem bo_isinstance : bootBuiltins "isinstance" = some (.builtin "isinstance") := by decide +kernel
theorem bo_str : bootBuiltins "str" = some (.type "str") := by decide +kernel
theorem bo_int : bootBuiltins "int" = some (.type "int") := by decide +kernel
theorem bo_bool : bootBuiltins "bool" = some (.type "bool") := by decide +kernel
theorem bo_list : bootBuiltins "list" = some (.type "list") := by decide +kernel
theorem bo_tuple : bootBuiltins "tuple" = some (.type "tuple") := by decide +kernel
theorem bo_dict : bootBuiltins "dict" = some (.type "dict") := by decide +kernel
theorem bo_set : bootBuiltins "set" = some (.type "set") := by decide +kernel
/-- what is asked of a law: any script of at most 63 whole numbers -/
def spLaw (K : PySem.W.Frag) : Sp := fun vs H Q _ => ∃ (a : Addr) (ns : List Int), vs = [.ref a] ∧ SqL K H a (ns.map V.int) ∧ ns.length ≤ 63 ∧ (∀ z ∈ ns, Builtin.Int.intBits z ≤ 1048576) ∧ ∀ H', Q (.bl true) H'
theorem law_of {P : Program} {w : World} {K : PySem.W.Frag} {mg : Str → Option Value} {base : Heap} {k : Nat} {f : Addr} {fd : FuncData} {ps : List Str} {m : MF}
    (F : FnOk P w K mg base (L2.CX P w) k f fd ps (spM ⟨P, w, K, mg⟩ m 1)) (h : ∀ ns : List Int, ns.length ≤ 63 → (∀ z ∈ ns, Builtin.Int.intBits z ≤ 1048576) → ∃ cs, m [.scr ns] [] = .ok (.bl true) cs) :
    FnOk P w K mg base (L2.CX P w) k f fd ps (spLaw K) := by
  refine F.imp fun vs H Q E ⟨a, ns, e, hs, hl, hb, q⟩ => ?_
  subst e
  obtain ⟨cs, hc⟩ := h ns hl hb
  refine ⟨rfl, H, [], [], [.scr ns], ⟨fun _ _ h => h, rfl, List.nodup_nil, fun n a x h => by simp at h⟩, .cons (.scr hs) .nil, ?_⟩
  rw [hc]
  intro H' F' c' x I v rv
  cases rv
  exact q H'
theorem law_walk {l : PySem.W.OpenLaw} {q : Program} {loose : List Str} {XP : (Str → Option Value) → Heap → Prop} {YP : World → Heap → Prop} {d : DefRec} {K : Params → PySem.W.Frag} {k : Nat} (hn : l.most = some 63) (hdf : d.params.defaults = []) (hr : Room k callerA)
    (hY : ∀ (w : World) (h : Heap), YP w h → (K w.params).In h)
    (F : ∀ (w : World) (mg : Str → Option Value) (fa : Addr) (h : Heap), (K w.params).In h → h.Ns mainGlobals mg → mg d.name = some (.ref fa) →
      ∃ fd : FuncData, (∀ (s : Shared) (u : Value), BindsTo s fd ⟨[u], []⟩ [("script", u)]) ∧ ∀ base : Heap, (K w.params).In base → base.Ns mainGlobals mg → FnOk l.prog w (K w.params) mg base (L2.CX l.prog w) k fa fd ["script"] (spLaw (K w.params))) :
    PySem.W.WalkO q loose XP YP l.row.toRowW d [] (fun f vs => PySem.call f vs) :=
  L2.walk_ofB (n := 63) (k := k) (x := "script") (CX := fun w => L2.CX l.prog w) (sp := fun w => spLaw (K w.params)) hn (by decide) hdf hr hY F (fun _ _ a ns hl hb _ hS => ⟨a, ns, rfl, hS, hl, hb, fun _ => rfl⟩)
    fun w H s e s' ⟨_, _, _, _, _, _, _, _, _, _, _, _, z⟩ => z
end L3
namespace L3
open PySem L2
theorem takes_no {X : Cx} : L2.Takes X (fun _ _ _ _ => False) := fun _ _ ⟨_, _, _, _, _, _, _, _, _, _, _, _, _, _, _, _, w⟩ => w.elim
def blkOk (N : List Str) (sc scope : Scope) (own : List (Str × Nat)) : Bool :=
  decide (scope.kind = .function) && scope.names.all (fun y => decide (scope.names.lookup y.1 = some y.2)) && own.all (fun p => decide (N[p.2]? = some p.1)) &&
  scope.names.all (fun y => decide (y.2 = .free → sc.names.lookup y.1 = some .cell ∨ sc.names.lookup y.1 = some .free)) &&
  scope.names.all (fun y => decide (y.2 = .local ∨ y.2 = .cell → y.1 ∈ own.map (·.1) ∨ y.1 ∉ N))
theorem blk_ok {N : List Str} {sc scope : Scope} {own : List (Str × Nat)} (h : blkOk N sc scope own = true) : BlkOk N sc scope own := by
  unfold blkOk at h
  simp only [Bool.and_eq_true, List.all_eq_true, decide_eq_true_eq] at h
  obtain ⟨⟨⟨⟨h1, h2⟩, h3⟩, h4⟩, h5⟩ := h
  exact ⟨h1, h2, h3, h4, h5⟩
end L3

namespace L3
open PySem L2
theorem nr {α : Sort _} {a b : α} (h : a = b) : a = b := h

/-! ### what comes out: by conditions -/
abbrev KX := Str → List (Str × D) → Cells → Prop
def RP (r : R) (P : D → Cells → Prop) (X : KX) : Prop := match r with
  | .ok d cs => P d cs
  | .exc n fs cs => X n fs cs
  | .stuck => False
def RAP (r : RA) (P : List D → Cells → Prop) (X : KX) : Prop := match r with
  | .ok d cs => P d cs
  | .exc n fs cs => X n fs cs
  | .stuck => False
structure Cn where
  nx : Env → Cells → Prop
  rt : D → Cells → Prop
  bk : Env → Cells → Prop
  ct : Env → Cells → Prop
  xc : Str → List (Str × D) → Env → Cells → Prop
def SP (s : S) (K : Cn) : Prop := match s with
  | .nx e c => K.nx e c
  | .rt d c => K.rt d c
  | .bk e c => K.bk e c
  | .ct e c => K.ct e c
  | .exc n fs e c => K.xc n fs e c
  | .stuck => False
def noX : KX := fun _ _ _ => False
section
variable {P P' : D → Cells → Prop} {X : KX} {K : Cn} {env : Env} {cs : Cells} {a b c t : ME} {ms : MA} {d e : D}
theorem RP_ok : RP (.ok d cs) P X = P d cs := nr rfl
theorem RP_bind (r : R) (f : D → Cells → R) : RP (r.bind f) P X = RP r (fun d c => RP (f d c) P X) X := by cases r <;> rfl
theorem RAP_bind (r : RA) (f : List D → Cells → R) : RP (r.bind f) P X = RAP r (fun d c => RP (f d c) P X) X := by cases r <;> rfl
theorem RP.mono {r : R} (h : RP r P X) (k : ∀ d cs, P d cs → P' d cs) : RP r P' X := by
  cases r with
  | ok d cs => exact k d cs h
  | exc n fs cs => exact h
  | stuck => exact h
theorem RP.get {r : R} (h : RP r P noX) : ∃ d cs, r = .ok d cs ∧ P d cs := by
  cases r with
  | ok d cs => exact ⟨d, cs, rfl, h⟩
  | exc n fs cs => exact h.elim
  | stuck => exact h.elim
theorem SP_bind (s : S) (k : Env → Cells → S) : SP (s.bind k) K = SP s { K with nx := fun e c => SP (k e c) K } := by cases s <;> rfl
theorem SP_toS (r : R) (k : D → Cells → S) : SP (r.toS env k) K = RP r (fun d c => SP (k d c) K) (fun n fs c => K.xc n fs env c) := by cases r <;> rfl
/-! statements -/
theorem sp_nx : SP (sNx env cs) K = K.nx env cs := nr rfl
theorem sp_seq {a b : MS} : SP (sSeq a b env cs) K = SP (a env cs) { K with nx := fun e c => SP (b e c) K } := SP_bind _ _
theorem sp_asg {i : Nat} : SP (sAsg i a env cs) K = RP (a env cs) (fun d c => K.nx (env.set i (some d)) c) (fun n fs c => K.xc n fs env c) := SP_toS _ _
theorem sp_ret : SP (sRet a env cs) K = RP (a env cs) K.rt (fun n fs c => K.xc n fs env c) := SP_toS _ _
theorem sp_drop : SP (sDrop a env cs) K = RP (a env cs) (fun _ c => K.nx env c) (fun n fs c => K.xc n fs env c) := SP_toS _ _
theorem sp_if {x y : MS} : SP (sIf t x y env cs) K = RP (t env cs) (fun d c => SP (brS d (x env c) (y env c)) K) (fun n fs c => K.xc n fs env c) := SP_toS _ _
theorem SP_brS {k : Bool} {x y : S} : SP (brS (.bl k) x y) K = if k = true then SP x K else SP y K := by cases k <;> rfl
theorem sp_put : SP (sPut a b c env cs) K = RP (c env cs) (fun v c1 => RP (a env c1) (fun o c2 => RP (b env c2) (fun i c3 => ∃ c4, putL c3 o i v = some c4 ∧ K.nx env c4) (fun n fs c => K.xc n fs env c)) (fun n fs c => K.xc n fs env c)) (fun n fs c => K.xc n fs env c) := by
  unfold sPut
  simp only [SP_toS]
  congr; funext v c1; congr; funext o c2; congr; funext i c3
  cases h : putL c3 o i v with
  | none => simp [SP]
  | some c4 => simp [SP]
/-! expressions -/
theorem rp_var {i : Nat} (h : env[i]? = some (some d)) : RP (eVar i env cs) P X = P d cs := by
  unfold eVar; rw [h]; rfl
theorem rp_c : RP (eC d env cs) P X = P d cs := nr rfl
theorem rp_op2 {f : Cells → D → D → R} : RP (op2 f a b env cs) P X = RP (a env cs) (fun x c1 => RP (b env c1) (fun y c2 => RP (f c2 x y) P X) X) X := by
  unfold op2; simp only [RP_bind]
theorem rp_op1 {f : Cells → D → R} : RP (op1 f a env cs) P X = RP (a env cs) (fun x c1 => RP (f c1 x) P X) X := RP_bind _ _
theorem RP_brD {k : Bool} {x y : Cells → R} : RP (brD (.bl k) cs x y) P X = if k = true then RP (x cs) P X else RP (y cs) P X := by cases k <;> rfl
theorem rp_and : RP (eAnd a b env cs) P X = RP (a env cs) (fun x c1 => RP (brD x c1 (b env) fun c2 => .ok (.bl false) c2) P X) X := RP_bind _ _
theorem rp_or : RP (eOr a b env cs) P X = RP (a env cs) (fun x c1 => RP (brD x c1 (fun c2 => .ok (.bl true) c2) (b env)) P X) X := RP_bind _ _
theorem rp_not : RP (eNot a env cs) P X = RP (a env cs) (fun x c1 => RP (notD c1 x) P X) X := RP_bind _ _
theorem rp_notD {k : Bool} : RP (notD cs (.bl k)) P X = P (.bl !k) cs := nr rfl
theorem rp_if : RP (eIf t a b env cs) P X = RP (t env cs) (fun x c1 => RP (brD x c1 (a env) (b env)) P X) X := RP_bind _ _
theorem rap_nil {Q : List D → Cells → Prop} : RAP (aNil env cs) Q X = Q [] cs := nr rfl
theorem rap_cons {Q : List D → Cells → Prop} : RAP (aCons a ms env cs) Q X = RP (a env cs) (fun d c1 => RAP (ms env c1) (fun ds c2 => Q (d :: ds) c2) X) X := by
  unfold aCons
  cases a env cs with
  | ok d c1 =>
    simp only [RP]
    cases ms env c1 <;> rfl
  | exc => rfl
  | stuck => rfl
theorem rp_call {m : MF} : RP (eCall m ms env cs) P X = RAP (ms env cs) (fun ds c => RP (m ds c) P X) X := RAP_bind _ _
theorem rp_bi {f : Cells → List D → R} : RP (eBi f ms env cs) P X = RAP (ms env cs) (fun ds c => RP (f c ds) P X) X := RAP_bind _ _
theorem rp_list {md : Bool} : RP (eList md ms env cs) P X = RAP (ms env cs) (fun ds c => RP (mkL md c ds) P X) X := RAP_bind _ _
theorem rp_tup : RP (eTup ms env cs) P X = RAP (ms env cs) (fun ds c => RP (mkT c ds) P X) X := RAP_bind _ _
theorem rp_mkLf {ds : List D} (h : ds.length ≤ sizeLine) : RP (mkL false cs ds) P X = P (.lst ds) cs := by
  unfold mkL; rw [if_pos h]; rfl
theorem rp_mkLt {ds : List D} (h : ds.length ≤ sizeLine) : RP (mkL true cs ds) P X = P (.loc cs.length) (cs ++ [.lst ds]) := by
  unfold mkL; rw [if_pos h]; rfl
theorem rp_mkT {ds : List D} (h : ds.length ≤ sizeLine) : RP (mkT cs ds) P X = P (.tup ds) cs := by
  unfold mkT; rw [if_pos h]; rfl
theorem rp_chain {f f' : Cells → D → D → R} : RP (eChain f f' a b c env cs) P X = RP (a env cs) (fun x c1 => RP (b env c1) (fun y c2 => RP (f c2 x y) (fun z c3 => RP (brD z c3 (fun c4 => (c env c4).bind fun w c5 => f' c5 y w) fun c4 => .ok (.bl false) c4) P X) X) X) X := by
  unfold eChain; simp only [RP_bind]
theorem rp_m0 {f : Cells → List Nat → R} : RP (eM0 f a env cs) P X = RP (a env cs) (fun x c1 => match x with | .str l => RP (f c1 l) P X | _ => False) X := by
  unfold eM0; rw [RP_bind]; congr; funext x c1; cases x <;> rfl
theorem rp_m1 {f : Cells → List Nat → D → R} : RP (eM1 f a b env cs) P X = RP (a env cs) (fun x c1 => match x with | .str l => RP (b env c1) (fun y c2 => RP (f c2 l y) P X) X | _ => False) X := by
  unfold eM1; rw [RP_bind]; congr; funext x c1; cases x <;> first | rfl | exact RP_bind _ _
/-! primitives -/
variable {i j : Int} {k l : List Nat} {md : Bool}
theorem rp_addI : RP (addD md cs (.int i) (.int j)) P X = P (.int (i + j)) cs := nr rfl
theorem rp_addS (h : k.length + l.length ≤ sizeLine) : RP (addD md cs (.str k) (.str l)) P X = P (.str (k ++ l)) cs := by
  show RP (if _ then _ else _) P X = _
  rw [if_pos h]; rfl
theorem rp_addL {x y : List D} : RP (addD md cs (.lst x) (.lst y)) P X = RP (mkL md cs (x ++ y)) P X := nr rfl
theorem rp_sub : RP (subD cs (.int i) (.int j)) P X = P (.int (i - j)) cs := nr rfl
theorem rp_mulI (h : (-big < i ∧ i < big) ∨ (-big < j ∧ j < big)) : RP (mulD md cs (.int i) (.int j)) P X = P (.int (i * j)) cs := by
  show RP (if _ then _ else _) P X = _
  rw [if_pos h]; rfl
theorem rp_mulS (h : -1000 ≤ j ∧ j ≤ 1000 ∧ k.length ≤ 1000) : RP (mulD md cs (.str k) (.int j)) P X = P (.str (List.replicate j.toNat k).flatten) cs := by
  show RP (if _ then _ else _) P X = _
  rw [if_pos h]; rfl
theorem rp_fdiv (h : 0 < j ∧ j < big) : RP (fdivD cs (.int i) (.int j)) P X = P (.int (i / j)) cs := by
  show RP (if _ then _ else _) P X = _
  rw [if_pos h]; rfl
theorem rp_mod (h : 0 < j) : RP (modD cs (.int i) (.int j)) P X = P (.int (i % j)) cs := by
  show RP (if _ then _ else _) P X = _
  rw [if_pos h]; rfl
theorem rp_pow (h : 0 ≤ j ∧ j ≤ 1000000 ∧ -big < i ∧ i < big) : RP (powD cs (.int i) (.int j)) P X = P (.int (i ^ j.toNat)) cs := by
  show RP (if _ then _ else _) P X = _
  rw [if_pos h]; rfl
theorem rp_neg : RP (negD cs (.int i)) P X = P (.int (-i)) cs := nr rfl
theorem rp_lt : RP (ltD cs (.int i) (.int j)) P X = P (.bl (decide (i < j))) cs := nr rfl
theorem rp_le : RP (leD cs (.int i) (.int j)) P X = P (.bl (decide (i ≤ j))) cs := nr rfl
theorem rp_gt : RP (gtD cs (.int i) (.int j)) P X = P (.bl (decide (j < i))) cs := nr rfl
theorem rp_ge : RP (geD cs (.int i) (.int j)) P X = P (.bl (decide (j ≤ i))) cs := nr rfl
theorem rp_eqS : RP (eqD cs (.str k) (.str l)) P X = P (.bl (decide (k = l))) cs := nr rfl
theorem rp_neS : RP (neD cs (.str k) (.str l)) P X = P (.bl (!decide (k = l))) cs := nr rfl
theorem rp_eqI : RP (eqD cs (.int i) (.int j)) P X = P (.bl (decide (i = j))) cs := nr rfl
theorem rp_neI : RP (neD cs (.int i) (.int j)) P X = P (.bl (!decide (i = j))) cs := nr rfl
theorem rp_max : RP (maxB cs [.int i, .int j]) P X = P (.int (if j > i then j else i)) cs := nr rfl
theorem rp_min : RP (minB cs [.int i, .int j]) P X = P (.int (if j < i then j else i)) cs := nr rfl
theorem rp_lenScr {ns : List Int} : RP (lenB cs [.scr ns]) P X = P (.int ns.length) cs := by
  show P (.int ((ns.map D.int).length : Nat)) cs = _
  rw [List.length_map]
theorem rp_lenLst {ds : List D} : RP (lenB cs [.lst ds]) P X = P (.int ds.length) cs := nr rfl
theorem rp_lenTup {ds : List D} : RP (lenB cs [.tup ds]) P X = P (.int ds.length) cs := nr rfl
theorem rp_lenS (h : l.length ≤ sizeLine) : RP (lenB cs [.str l]) P X = P (.int l.length) cs := by
  show RP (if _ then _ else _) P X = _
  rw [if_pos h]; rfl
theorem rp_strI (h : i.natAbs.log2 < 1920) : RP (strB cs [.int i]) P X = P (.str (codes (toString i))) cs := by
  show RP (if _ then _ else _) P X = _
  rw [if_pos h]; rfl
theorem rp_repr {z : List Nat} (h : reprC d = some z) : RP (reprB cs [d]) P X = P (.str z) cs := by
  show RP (match reprC d with | some l => _ | none => _) P X = _
  rw [h]; rfl
theorem rp_isi {t u : String} {v : Bool} (h : tyC cs d = some u) (q : kitB u t = some v) : RP (isiD t cs d) P X = P (.bl v) cs := by
  unfold isiD; rw [h]; simp only; rw [q]; rfl
theorem rp_ixS {ch : Nat} (h : l.length ≤ sizeLine) (q : atI l i = some ch) : RP (ixD cs (.str l) (.int i)) P X = P (.str [ch]) cs := by
  show RP (if _ then _ else _) P X = _
  rw [if_pos h, q]; rfl
theorem rp_ixL {ds : List D} (q : atI ds i = some d) : RP (ixD cs (.lst ds) (.int i)) P X = P d cs := by
  show RP (match atI ds i with | some d => _ | none => _) P X = _
  rw [q]; rfl
theorem rp_ixScr {ns : List Int} {z : Int} (q : atI ns i = some z) : RP (ixD cs (.scr ns) (.int i)) P X = P (.int z) cs := by
  show RP (match atI (ns.map D.int) i with | some d => _ | none => _) P X = _
  have : atI (ns.map D.int) i = some (.int z) := by
    unfold atI at q ⊢
    rw [List.length_map]
    cases h : ixN ns.length i with
    | none => rw [h] at q; cases q
    | some m =>
      rw [h] at q
      show (ns.map D.int)[m]? = _
      rw [List.getElem?_map, show ns[m]? = some z from q]; rfl
  rw [this]; rfl
theorem rp_ixLoc {ds : List D} {n : Nat} (h : cs[n]? = some (.lst ds)) (q : atI ds i = some d) : RP (ixD cs (.loc n) (.int i)) P X = P d cs := by
  unfold ixD
  simp only [seqOf, listOf, h, q]
  rfl
theorem at_mid {α : Type} {ds : List α} {i : Int} (h0 : 0 ≤ i) (h1 : i < ds.length) : ∃ d, atI ds i = some d ∧ d ∈ ds ∧ ds[i.toNat]? = some d := by
  have hn : i.toNat < ds.length := by omega
  refine ⟨ds[i.toNat], ?_, List.getElem_mem hn, List.getElem?_eq_getElem hn⟩
  unfold atI ixN
  rw [if_pos (by omega)]
  first | rw [if_pos h1] | rw [if_pos (by omega)]
  simp [List.getElem?_eq_getElem hn]
/-! slices of a text -/
theorem rp_sl {lo hi : MO} : RP (eSl md a lo hi env cs) P X = RP (a env cs) (fun x c1 => match lo env c1 with
  | some (l, c2) => (match hi env c2 with
    | some (h, c3) => RP (slD md c3 x l h) P X
    | none => False)
  | none => False) X := by
  unfold eSl
  rw [RP_bind]
  congr; funext x c1
  cases lo env c1 with
  | none => rfl
  | some q =>
    obtain ⟨q1, q2⟩ := q
    simp only
    cases hi env q2 with
    | none => rfl
    | some r => rfl
theorem rp_slS {lo hi : Option Int} (h : l.length ≤ sizeLine) : RP (slD md cs (.str l) lo hi) P X = P (.str (cutL l lo hi)) cs := by
  show RP (if _ then _ else _) P X = _
  rw [if_pos h]; rfl
theorem rp_slL {ds : List D} {lo hi : Option Int} : RP (slD md cs (.lst ds) lo hi) P X = RP (mkL md cs (cutL ds lo hi)) P X := nr rfl
theorem ro_some {env : Env} {cs c1 : Cells} {m : ME} {i : Int} (h : m env cs = .ok (.int i) c1) : oSome m env cs = some (some i, c1) := by
  unfold oSome; rw [h]
theorem ro_var {i : Nat} {j : Int} (h : env[i]? = some (some (.int j))) : oSome (eVar i) env cs = some (some j, cs) := ro_some (by unfold eVar; rw [h])
theorem ro_var1 {i : Nat} {j n : Int} (h : env[i]? = some (some (.int j))) : oSome (op2 (addD md) (eVar i) (eC (.int n))) env cs = some (some (j + n), cs) := ro_some (by unfold op2 eVar; rw [h]; rfl)
theorem cutL_len {α : Type} (xs : List α) (lo hi : Option Int) : (cutL xs lo hi).length ≤ xs.length := by
  unfold cutL
  rw [List.length_take, List.length_drop]
  omega
/-! joins, signs -/
theorem rp_join {ds : List D} {y : D} {ls : List (List Nat)} (h : seqOf cs y = some ds) (q : strsOf ds = some ls) (z : (ls.map (·.length)).sum + ls.length * l.length ≤ 16777216) : RP (joinD cs l y) P X = P (.str (TL.joinL l ls)) cs := by
  unfold joinD; rw [h]; simp only; rw [q]; simp only; rw [if_pos z]; rfl
theorem rp_six {ch : Nat} (h : ch ∈ l) : RP (sixD cs l (.str [ch])) P X = P (.int ((l.idxOf ch : Nat) : Int)) cs := by
  unfold sixD; simp only; rw [if_pos h]; rfl
theorem rp_inS {ch : Nat} : RP (inD cs (.str [ch]) (.str l)) P X = P (.bl (decide (ch ∈ l))) cs := nr rfl
theorem rp_ninS {ch : Nat} : RP (ninD cs (.str [ch]) (.str l)) P X = P (.bl (!decide (ch ∈ l))) cs := nr rfl
theorem rp_all {ds : List D} {bs : List Bool} {y : D} (h : listOf cs y = some ds) (q : blsOf ds = some bs) : RP (allB cs [y]) P X = P (.bl (bs.all id)) cs := by
  unfold allB; simp only; rw [h]; simp only; rw [q]; rfl
theorem rp_int {n : Int} (h : PySem.intText? ⟨l.toArray⟩ = some n) (q : l.length ≤ 640) : RP (intB cs [.str l]) P X = P (.int n) cs := by
  unfold intB; simp only; rw [h]; simp only; rw [if_pos q]; rfl
/-! defs -/
theorem rp_def {n : Nat} {body : MS} {ds : List D} : RP (mDef n body ds cs) P X = SP (body (ds.map some ++ List.replicate (n - ds.length) none) cs) ⟨fun _ c => P .non c, P, fun _ _ => False, fun _ _ => False, fun x fs _ c => X x fs c⟩ := by
  unfold mDef
  cases body (ds.map some ++ List.replicate (n - ds.length) none) cs <;> rfl
/-! loops -/
def WP (r : RW) (P : List D → (Cells → Prop) → Cells → Prop) (X : KX) : Prop := match r with
  | .ok ds k c => P ds k c
  | .exc n fs c => X n fs c
  | .stuck => False
theorem sp_for {tg : D → Env → Option Env} {m : MW} {body : MS} : SP (sFor tg m body env cs) K = WP (m env cs) (fun ds k c => SP (forL k tg body ds env c) K) (fun n fs c => K.xc n fs env c) := by
  unfold sFor
  cases m env cs <;> rfl
theorem wp_toW (r : R) (k : D → Cells → RW) (Q : List D → (Cells → Prop) → Cells → Prop) : WP (r.toW k) Q X = RP r (fun d c => WP (k d c) Q X) X := by cases r <;> rfl
theorem wp_r1 {Q : List D → (Cells → Prop) → Cells → Prop} : WP (wR1 a env cs) Q X = RP (a env cs) (fun d c => match d with
  | .int j => (-lim ≤ j ∧ j < lim) ∧ Q (rangeD 0 j.toNat) (fun _ => True) c
  | _ => False) X := by
  unfold wR1
  rw [wp_toW]
  congr; funext d c
  cases d with
  | int j =>
    simp only
    by_cases h : -lim ≤ j ∧ j < lim
    · rw [if_pos h]; simp [WP, h]
    · rw [if_neg h]; simp [WP, h]
  | _ => rfl
theorem wp_r2 {Q : List D → (Cells → Prop) → Cells → Prop} : WP (wR2 a b env cs) Q X = RP (a env cs) (fun d c => RP (b env c) (fun e c2 => match d, e with
  | .int i, .int j => (-lim ≤ i ∧ i < lim ∧ -lim ≤ j ∧ j < lim) ∧ Q (rangeD i (j - i).toNat) (fun _ => True) c2
  | _, _ => False) X) X := by
  unfold wR2
  rw [wp_toW]
  congr; funext d c
  rw [wp_toW]
  congr; funext e c2
  cases d <;> cases e <;> try rfl
  simp only
  rename_i i j
  by_cases h : -lim ≤ i ∧ i < lim ∧ -lim ≤ j ∧ j < lim
  · rw [if_pos h]; simp [WP, h]
  · rw [if_neg h]; simp only [WP]; simp [h]
theorem wp_seq {Q : List D → (Cells → Prop) → Cells → Prop} : WP (wSeq a env cs) Q X = RP (a env cs) (fun d c => match d with
  | .str l => Q (l.map fun ch => .str [ch]) (fun _ => True) c
  | d => match seqOf c d with
    | some ds => Q ds (fun c2 => seqOf c2 d = some ds) c
    | none => False) X := by
  unfold wSeq
  rw [wp_toW]
  congr; funext d c
  cases d <;> first | rfl | (simp only; split <;> (rename_i h; first | rfl | (rw [h]; rfl)))
theorem for_inv {chk : Cells → Prop} {tg : D → Env → Option Env} {body : MS} : ∀ {items : List D} {env : Env} {cs : Cells} (J : Nat → Env → Cells → Prop), J 0 env cs → (∀ env cs, J items.length env cs → chk cs ∧ K.nx env cs) →
    (∀ i d env cs, items[i]? = some d → J i env cs → chk cs ∧ ∃ env1, tg d env = some env1 ∧ SP (body env1 cs) { K with nx := J (i + 1), ct := J (i + 1), bk := K.nx }) → SP (forL chk tg body items env cs) K
  | [], env, cs, J, h0, hn, hs => by
    obtain ⟨h1, h2⟩ := hn env cs h0
    simp only [forL, h1, if_true]
    exact h2
  | d :: ds, env, cs, J, h0, hn, hs => by
    obtain ⟨h1, env1, h2, h3⟩ := hs 0 d env cs rfl h0
    simp only [forL, h1, if_true, h2]
    have ih : ∀ e c, J 1 e c → SP (forL chk tg body ds e c) K := fun e c hj => for_inv (items := ds) (fun i => J (i + 1)) hj (fun e c h => hn e c (by simpa using h)) fun i d e c hi h => hs (i + 1) d e c (by simpa using hi) h
    cases hb : body env1 cs with
    | nx e c => rw [hb] at h3; exact ih e c h3
    | ct e c => rw [hb] at h3; exact ih e c h3
    | bk e c => rw [hb] at h3; exact h3
    | rt d c => rw [hb] at h3; exact h3
    | exc n fs e c => rw [hb] at h3; exact h3
    | stuck => rw [hb] at h3; exact h3.elim
theorem lc_inv {chk : Cells → Prop} {tg : D → Env → Option Env} {t e : ME} : ∀ {items : List D} {env : Env} {cs : Cells} (J : Nat → List D → Cells → Prop) (acc : List D), J 0 acc cs → (∀ ds cs, J items.length ds cs → chk cs) →
    (∀ i d ds cs, items[i]? = some d → J i ds cs → chk cs ∧ ∃ env1, tg d env = some env1 ∧ RP (t env1 cs) (fun b c1 => ∃ k, b = .bl k ∧ if k = true then RP (e env1 c1) (fun y c2 => J (i + 1) (ds ++ [y]) c2) noX else J (i + 1) ds c1) noX) →
    RAP (lcL chk tg t e items env cs) (fun ds cs => J items.length (acc ++ ds) cs) X
  | [], env, cs, J, acc, h0, hn, hs => by
    have h1 := hn acc cs h0
    simp only [lcL, h1, if_true]
    simpa [RAP] using h0
  | d :: ds, env, cs, J, acc, h0, hn, hs => by
    obtain ⟨h1, env1, h2, h3⟩ := hs 0 d acc cs rfl h0
    simp only [lcL, h1, if_true, h2]
    have ih : ∀ ac c, J 1 ac c → RAP (lcL chk tg t e ds env c) (fun ds' cs => J (ds.length + 1) (ac ++ ds') cs) X := fun ac c hj => lc_inv (items := ds) (fun i => J (i + 1)) ac hj (fun e c h => hn e c (by simpa using h)) fun i d e c hi h => hs (i + 1) d e c (by simpa using hi) h
    obtain ⟨b, c1, e1, k, rfl, h4⟩ := h3.get
    rw [e1]
    cases k with
    | true =>
      rw [if_pos rfl] at h4
      obtain ⟨y, c2, e2, h5⟩ := h4.get
      simp only [e2]
      have r := ih _ _ h5
      cases hl : lcL chk tg t e ds env c2 with
      | ok ys c3 =>
        rw [hl] at r
        simp only [RAP] at r ⊢
        rw [List.length_cons]
        simpa using r
      | exc n fs c3 =>
        exfalso
        have : ∀ (ds : List D) (env : Env) (cs : Cells), lcL chk tg t e ds env cs ≠ .exc n fs c3 := by
          intro ds
          induction ds with
          | nil => intro env cs h; simp only [lcL] at h; split at h <;> cases h
          | cons d ds ih =>
            intro env cs h
            simp only [lcL] at h
            split at h
            · split at h
              · cases h
              · split at h
                · split at h
                  · split at h <;> cases h
                  · cases h
                · exact ih _ _ h
                · cases h
            · cases h
        exact this _ _ _ hl
      | stuck => rw [hl] at r; exact r.elim
    | false =>
      rw [if_neg Bool.false_ne_true] at h4
      exact ih _ _ h4
/-- one value an item, nothing touched -/
theorem lc_map {chk : Cells → Prop} {tg : D → Env → Option Env} {t e : ME} {g : D → D} : ∀ {items : List D} {env : Env} {cs : Cells}, chk cs → (∀ d ∈ items, ∃ env1, tg d env = some env1 ∧ t env1 cs = .ok (.bl true) cs ∧ e env1 cs = .ok (g d) cs) →
    lcL chk tg t e items env cs = .ok (items.map g) cs
  | [], env, cs, hc, _ => by simp [lcL, hc]
  | d :: ds, env, cs, hc, h => by
    obtain ⟨env1, h1, h2, h3⟩ := h d (by simp)
    simp only [lcL, hc, if_true, h1, h2, h3]
    rw [lc_map hc fun d hd => h d (by simp [hd])]
    rfl
theorem rp_lc {own : List Nat} {tg : D → Env → Option Env} {m : MW} {t e : ME} : RP (eLc md own tg m t e env cs) P X = WP (m env cs) (fun ds k c => RAP (lcL k tg t e ds (wipeE env own) c) (fun ys c2 => RP (mkL md c2 ys) P X) X) X := by
  unfold eLc
  cases m env cs with
  | ok ds k c => exact RAP_bind _ _
  | exc n fs c => rfl
  | stuck => rfl
theorem RAP.mono {r : RA} {Q Q' : List D → Cells → Prop} (h : RAP r Q X) (k : ∀ d cs, Q d cs → Q' d cs) : RAP r Q' X := by
  cases r with
  | ok d cs => exact k d cs h
  | exc n fs cs => exact h
  | stuck => exact h
theorem range_get {lo : Int} {n i : Nat} {d : D} (h : (rangeD lo n)[i]? = some d) : i < n ∧ d = .int (lo + (i : Int)) := by
  have hl : i < n := by simpa using (List.getElem?_eq_some_iff.mp h).1
  simp [rangeD, hl] at h
  exact ⟨hl, h.symm⟩
theorem tgN_some {i : Nat} {d : D} : tgN i d env = some (env.set i (some d)) := nr rfl
end
end L3
namespace L3
theorem rp_varM {i : Nat} {env : Env} {cs : Cells} {P : D → Cells → Prop} {X : KX} : RP (eVar i env cs) P X = match env[i]? with
  | some (some d) => P d cs
  | _ => False := by
  unfold eVar
  cases env[i]? with
  | none => rfl
  | some o => cases o <;> rfl
end L3
namespace L3
open PySem L2
theorem at3_0 {x y z : D} : atI [x, y, z] 0 = some x := nr rfl
theorem at3_1 {x y z : D} : atI [x, y, z] 1 = some y := nr rfl
theorem at3_2 {x y z : D} : atI [x, y, z] 2 = some z := nr rfl
theorem rp_ixLocM {cs : Cells} {n : Nat} {i : Int} {P : D → Cells → Prop} {X : KX} : RP (ixD cs (.loc n) (.int i)) P X = match listOf cs (.loc n) with
  | some ds => (match atI ds i with
    | some d => P d cs
    | none => False)
  | none => False := by
  unfold ixD
  simp only [seqOf]
  cases listOf cs (.loc n) with
  | none => rfl
  | some ds =>
    simp only
    cases atI ds i <;> rfl
theorem loc_list {cs : Cells} {n : Nat} {ds : List D} (h : cs[n]? = some (.lst ds)) : listOf cs (.loc n) = some ds := by
  simp only [listOf, h]
/-- the box of the draws -/
def Bx (cs : Cells) (n B : Nat) : Prop := ∃ a b c : Int, cs[n]? = some (.lst [.int a, .int b, .int c]) ∧ 0 ≤ b ∧ b < 2147483648 ∧ 0 ≤ c ∧ c ≤ B
theorem Bx.le {cs : Cells} {n B B' : Nat} (h : Bx cs n B) (l : B ≤ B') : Bx cs n B' := by
  obtain ⟨a, b, c, h1, h2, h3, h4, h5⟩ := h
  exact ⟨a, b, c, h1, h2, h3, h4, by omega⟩
theorem put_at {cs : Cells} {n j : Nat} {k : Int} {ds : List D} {v : D} (h : cs[n]? = some (.lst ds)) (hj : ixN ds.length k = some j) : ∃ c4, putL cs (.loc n) (.int k) v = some c4 ∧ c4[n]? = some (.lst (ds.set j v)) ∧ (∀ m, m ≠ n → c4[m]? = cs[m]?) ∧ c4.length = cs.length := by
  have hl : n < cs.length := (List.getElem?_eq_some_iff.mp h).1
  refine ⟨cs.set n (.lst (ds.set j v)), ?_, List.getElem?_set_self hl, fun m hm => List.getElem?_set_ne (Ne.symm hm), by simp⟩
  unfold putL
  simp only [h, hj]
end L3
namespace L3
open PySem L2
theorem rp_dict {md : Bool} {m : MA} {env : Env} {cs : Cells} {P : D → Cells → Prop} {X : KX} : RP (eDict md m env cs) P X = RAP (m env cs) (fun ds c => match kvD ds with
  | some kds => if kds.length ≤ 15 then RP (mkD md c (mergeD [] kds)) P X else False
  | none => False) X := by
  unfold eDict
  rw [RAP_bind]
  congr; funext ds c
  cases kvD ds with
  | none => rfl
  | some k => simp only; split <;> rfl
theorem rp_mkDf {cs : Cells} {ds : List (Kd × D)} {P : D → Cells → Prop} {X : KX} : RP (mkD false cs ds) P X = P (.dct ds) cs := nr rfl
theorem len_ite {a b : Nat} {p : Prop} (h : a ≤ b) : (if a ≤ b then p else False) = p := if_pos h
end L3
namespace L3
open PySem L2
theorem rp_ixAll {cs : Cells} {ds : List D} {i : Int} {P : D → Cells → Prop} {X : KX} (h0 : 0 ≤ i) (h1 : i < (ds.length : Int)) (h : ∀ d ∈ ds, P d cs) : RP (ixD cs (.lst ds) (.int i)) P X := by
  obtain ⟨d, e, m, _⟩ := at_mid h0 h1
  rw [rp_ixL e]
  exact h d m
end L3
namespace L3
open PySem L2
theorem kit_ss : kitB "str" "str" = some true := by decide +kernel
theorem kit_ns : ∀ u ∈ ["NoneType", "bool", "int", "list", "tuple", "dict"], kitB u "str" = some false := by decide +kernel
theorem isi_str {cs : Cells} {l : List Nat} {P : D → Cells → Prop} {X : KX} : RP (isiD "str" cs (.str l)) P X = P (.bl true) cs := rp_isi rfl kit_ss
theorem isi_nstr {cs : Cells} {d : D} {P : D → Cells → Prop} {X : KX} {u : String} (h : tyC cs d = some u) (q : u ∈ ["NoneType", "bool", "int", "list", "tuple", "dict"]) : RP (isiD "str" cs d) P X = P (.bl false) cs := rp_isi h (kit_ns u q)
theorem RP_br {k : Bool} {cs : Cells} {x y : Cells → R} {P : D → Cells → Prop} {X : KX} : RP (brD (.bl k) cs x y) P X = bif k then RP (x cs) P X else RP (y cs) P X := by cases k <;> rfl
end L3
namespace L3
open PySem L2
theorem blsOf_map : ∀ bs : List Bool, blsOf (bs.map D.bl) = some bs
  | [] => rfl
  | b :: r => by simp only [List.map_cons, blsOf, blsOf_map r]
theorem rp_allL {cs : Cells} {bs : List Bool} {P : D → Cells → Prop} {X : KX} : RP (allB cs [.lst (bs.map D.bl)]) P X = P (.bl (bs.all id)) cs := rp_all rfl (blsOf_map bs)
theorem atI_0 {α : Type} {x : α} {l : List α} : atI (x :: l) 0 = some x := by
  unfold atI ixN
  rw [if_pos (by decide), if_pos (by simp)]
  rfl
end L3
namespace L3
open PySem L2
theorem seq_lst {cs : Cells} {l : List D} : seqOf cs (.lst l) = some l := nr rfl
theorem seq_scr {cs : Cells} {l : List Int} : seqOf cs (.scr l) = some (l.map .int) := nr rfl
theorem seq_tup {cs : Cells} {l : List D} : seqOf cs (.tup l) = some l := nr rfl
theorem joinL_nil : ∀ ls : List (List Nat), TL.joinL [] ls = ls.flatten
  | [] => rfl
  | [p] => by simp [TL.joinL]
  | p :: q :: r => by
    show p ++ ([] ++ TL.joinL [] (q :: r)) = _
    rw [joinL_nil (q :: r)]; simp
theorem strsOf_app : ∀ {ds es : List D} {ls ms : List (List Nat)}, strsOf ds = some ls → strsOf es = some ms → strsOf (ds ++ es) = some (ls ++ ms)
  | [], es, ls, ms, h, q => by simp only [strsOf, Option.some.injEq] at h; subst h; exact q
  | d :: ds, es, ls, ms, h, q => by
    cases d with
    | str l =>
      simp only [strsOf] at h
      split at h
      · rename_i k hk
        simp only [Option.some.injEq] at h
        subst h
        simp only [List.cons_append, strsOf, strsOf_app hk q]
      · cases h
    | _ => cases h
/-- texts of one sign each -/
theorem ones_len {ls : List (List Nat)} (h : ∀ z ∈ ls, z.length = 1) : ls.flatten.length = ls.length := by
  induction ls with
  | nil => rfl
  | cons a r ih =>
    rw [List.flatten_cons, List.length_append, h a (by simp), ih fun z hz => h z (by simp [hz]), List.length_cons]
    omega
theorem ones_sum {ls : List (List Nat)} (h : ∀ z ∈ ls, z.length = 1) : (ls.map (·.length)).sum = ls.length := by
  induction ls with
  | nil => rfl
  | cons a r ih =>
    rw [List.map_cons, List.sum_cons, h a (by simp), ih fun z hz => h z (by simp [hz]), List.length_cons]
    omega
theorem atS {l : List Nat} {i : Int} (h0 : 0 ≤ i) (h1 : i < l.length) : ∃ ch, atI l i = some ch ∧ ch ∈ l := by
  obtain ⟨d, e, m, _⟩ := at_mid h0 h1
  exact ⟨d, e, m⟩
theorem Bx.new {cs : Cells} {a b : Int} (h : 0 ≤ b) (q : b < 2147483648) : Bx (cs ++ [.lst [.int a, .int b, .int 0]]) cs.length 0 :=
  ⟨a, b, 0, by simp, h, q, by decide, by decide⟩
theorem log2_lt {i : Int} (h : i.natAbs < 2 ^ 1000) : i.natAbs.log2 < 1920 := by
  by_cases h0 : i.natAbs = 0
  · rw [h0]; decide
  · have := (Nat.log2_lt h0).mpr h
    omega
theorem RAP.get {r : RA} {Q : List D → Cells → Prop} (h : RAP r Q noX) : ∃ d cs, r = .ok d cs ∧ Q d cs := by
  cases r with
  | ok d cs => exact ⟨d, cs, rfl, h⟩
  | exc n fs cs => exact h.elim
  | stuck => exact h.elim
end L3
namespace L3
open PySem L2
theorem ro_none {env : Env} {cs : Cells} : oNone env cs = some (none, cs) := nr rfl
theorem ro_varM {i : Nat} {env : Env} {cs : Cells} : oSome (eVar i) env cs = match env[i]? with
  | some (some (.int j)) => some (some j, cs)
  | _ => none := by
  unfold oSome eVar
  cases env[i]? with
  | none => rfl
  | some o => cases o with
    | none => rfl
    | some d => cases d <;> rfl
theorem ro_varA {i : Nat} {n : Int} {md : Bool} {env : Env} {cs : Cells} : oSome (op2 (addD md) (eVar i) (eC (.int n))) env cs = match env[i]? with
  | some (some (.int j)) => some (some (j + n), cs)
  | some (some _) => oSome (op2 (addD md) (eVar i) (eC (.int n))) env cs
  | _ => none := by
  cases h : env[i]? with
  | none => simp [oSome, op2, eVar, h]
  | some o => cases o with
    | none => simp [oSome, op2, eVar, h]
    | some d => cases d <;> first | rfl | (simp [oSome, op2, eVar, h, eC, addD])
theorem strsOf_len : ∀ {ds : List D} {ls : List (List Nat)}, strsOf ds = some ls → ds.length = ls.length
  | [], ls, h => by simp only [strsOf, Option.some.injEq] at h; subst h; rfl
  | d :: ds, ls, h => by
    cases d with
    | str l =>
      simp only [strsOf] at h
      split at h
      · rename_i k hk
        simp only [Option.some.injEq] at h
        subst h
        simp [strsOf_len hk]
      · cases h
    | _ => cases h
end L3
namespace L3
open PySem L2
theorem lc_filter {chk : Cells → Prop} {tg : D → Env → Option Env} {t e : ME} {g : D → D} {p : D → Bool} : ∀ {items : List D} {env : Env} {cs : Cells}, chk cs → (∀ d ∈ items, ∃ env1, tg d env = some env1 ∧ t env1 cs = .ok (.bl (p d)) cs ∧ e env1 cs = .ok (g d) cs) →
    lcL chk tg t e items env cs = .ok ((items.filter p).map g) cs
  | [], env, cs, hc, _ => by simp [lcL, hc]
  | d :: ds, env, cs, hc, h => by
    obtain ⟨env1, h1, h2, h3⟩ := h d (by simp)
    have ih := lc_filter (g := g) (p := p) hc fun d hd => h d (List.mem_cons_of_mem _ hd)
    simp only [lcL, hc, if_true, h1, h2]
    cases hp : p d with
    | true => simp only [h3, ih, List.filter_cons, hp, if_true, List.map_cons]
    | false => simp only [ih, List.filter_cons, hp, Bool.false_eq_true, if_false]
theorem py0s_ones : ∀ l : List Nat, py0s (l.map fun c => D.str [c]) = some (l.map fun c => PyData.str ⟨#[c]⟩)
  | [] => rfl
  | c :: r => by simp only [List.map_cons, py0s, py0, py0s_ones r]
theorem lay_ones : ∀ {l : List Nat}, (∀ c ∈ l, c < 0x110000) → PyData.canLayAll0 (l.map fun c => PyData.str ⟨#[c]⟩) = true
  | [], _ => rfl
  | c :: r, h => by
    simp only [List.map_cons, PyData.canLayAll0, PyData.canLay0, lay_ones fun c hc => h c (List.mem_cons_of_mem _ hc), Bool.and_true]
    have := h c (by simp)
    simpa [PyData.strOk] using this
theorem dep_ones : ∀ l : List Nat, PyData.depthAll (l.map fun c => PyData.str ⟨#[c]⟩) = 0
  | [] => rfl
  | c :: r => by simp only [List.map_cons, PyData.depthAll, PyData.depth, dep_ones r, Nat.max_self]
theorem eq_ones_nil {l : List Nat} {cs : Cells} {P : D → Cells → Prop} {X : KX} (h : ∀ c ∈ l, c < 0x110000) : RP (eqD cs (.lst (l.map fun c => D.str [c])) (.lst [])) P X = P (.bl l.isEmpty) cs := by
  have e1 : eqB cs (.lst (l.map fun c => D.str [c])) (.lst []) = some l.isEmpty := by
    unfold eqB
    simp only [pyOf, py0, py0s_ones, py0s, Option.map_some]
    have s1 : SeqAt.shaped (PyData.list (l.map fun c => PyData.str ⟨#[c]⟩)) = true := by
      unfold SeqAt.shaped
      simp only [PyData.canLay0, lay_ones h, PyData.depth, dep_ones, Bool.true_and]
      decide
    have s2 : SeqAt.shaped (PyData.list []) = true := by decide
    rw [s1, s2]
    cases l <;> simp [PyData.eqv, PyData.eqvAll]
  unfold eqD
  rw [e1]; rfl
end L3
namespace L3
open PySem L2
theorem kit_int : ∀ u ∈ ["NoneType", "bool", "int", "str", "list", "tuple", "dict"], kitB u "int" = some (decide (u = "int" ∨ u = "bool")) := by decide +kernel
theorem kit_bool : ∀ u ∈ ["NoneType", "bool", "int", "str", "list", "tuple", "dict"], kitB u "bool" = some (decide (u = "bool")) := by decide +kernel
theorem isi_int {cs : Cells} {d : D} {P : D → Cells → Prop} {X : KX} {u : String} (h : tyC cs d = some u) (q : u ∈ ["NoneType", "bool", "int", "str", "list", "tuple", "dict"]) : RP (isiD "int" cs d) P X = P (.bl (decide (u = "int" ∨ u = "bool"))) cs := rp_isi h (kit_int u q)
theorem isi_bool {cs : Cells} {d : D} {P : D → Cells → Prop} {X : KX} {u : String} (h : tyC cs d = some u) (q : u ∈ ["NoneType", "bool", "int", "str", "list", "tuple", "dict"]) : RP (isiD "bool" cs d) P X = P (.bl (decide (u = "bool"))) cs := rp_isi h (kit_bool u q)
theorem rp_isB {k : Option Bool} {cs : Cells} {d : D} {P : D → Cells → Prop} {X : KX} : RP (isB k cs d) P X = P (.bl (match k, d with
  | none, .non => true
  | some b, .bl b' => decide (b' = b)
  | _, _ => false)) cs := nr rfl
theorem rp_isNB {k : Option Bool} {cs : Cells} {d : D} {P : D → Cells → Prop} {X : KX} : RP (isNB k cs d) P X = P (.bl !(match k, d with
  | none, .non => true
  | some b, .bl b' => decide (b' = b)
  | _, _ => false)) cs := nr rfl
theorem rp_ixSA {l : List Nat} {cs : Cells} {i : Int} {P : D → Cells → Prop} {X : KX} (h : l.length ≤ sizeLine) (h0 : 0 ≤ i) (h1 : i < (l.length : Int)) (k : ∀ ch ∈ l, P (.str [ch]) cs) : RP (ixD cs (.str l) (.int i)) P X := by
  obtain ⟨ch, e, m⟩ := atS h0 h1
  rw [rp_ixS h e]
  exact k ch m
theorem cutL_mem {α : Type} {xs : List α} {lo hi : Option Int} {x : α} (h : x ∈ cutL xs lo hi) : x ∈ xs := by
  unfold cutL at h
  exact List.mem_of_mem_drop (List.mem_of_mem_take h)
end L3
namespace L3
open PySem L2
theorem rp_anyL {cs : Cells} {bs : List Bool} {P : D → Cells → Prop} {X : KX} : RP (anyB cs [.lst (bs.map D.bl)]) P X = P (.bl (bs.any id)) cs := by
  unfold anyB
  simp only [listOf, blsOf_map]
  rfl
theorem rp_words {md : Bool} {cs : Cells} {l : List Nat} {P : D → Cells → Prop} {X : KX} (h : l.length + 2 ≤ sizeLine) : RP (wordsD md cs l) P X = RP (mkL md cs ((wordsL l).map D.str)) P X := by
  unfold wordsD
  rw [if_pos h]
theorem rp_lower {cs : Cells} {l k : List Nat} {P : D → Cells → Prop} {X : KX} (h : l.length ≤ 5592405) (e : codes (Txt.lower ⟨l.toArray⟩) = k) : RP (lowerD cs l) P X = P (.str k) cs := by
  unfold lowerD
  rw [if_pos h, e]; rfl
theorem low1 : ∀ c, c < 128 → codes (Txt.lower ⟨[c].toArray⟩) = [if 65 ≤ c ∧ c ≤ 90 then c + 32 else c] := by decide +kernel
theorem cut_to {α : Type} {xs : List α} {i : Int} (h0 : 0 ≤ i) : cutL xs none (some i) = xs.take i.toNat := by
  have e : HT.sIx xs.length xs.length (some i) = min i.toNat xs.length := by unfold HT.sIx; simp only; rw [if_neg (by omega)]
  have e0 : HT.sIx xs.length 0 none = 0 := rfl
  unfold cutL
  rw [e, e0, List.drop_zero, Nat.sub_zero]
  by_cases h : i.toNat ≤ xs.length
  · rw [Nat.min_eq_left h]
  · rw [Nat.min_eq_right (by omega), List.take_length, List.take_of_length_le (by omega)]
theorem cut_from {α : Type} {xs : List α} {i : Int} (h0 : 0 ≤ i) : cutL xs (some i) none = xs.drop i.toNat := by
  have e : HT.sIx xs.length 0 (some i) = min i.toNat xs.length := by unfold HT.sIx; simp only; rw [if_neg (by omega)]
  have e0 : HT.sIx xs.length xs.length none = xs.length := rfl
  unfold cutL
  rw [e, e0]
  by_cases h : i.toNat ≤ xs.length
  · rw [Nat.min_eq_left h, List.take_of_length_le (by simp)]
  · rw [Nat.min_eq_right (by omega), List.drop_length, List.drop_eq_nil_of_le (by omega), List.take_nil]
theorem cut_back {α : Type} {xs : List α} {i : Int} (h0 : i < 0) : cutL xs (some i) none = xs.drop (i + xs.length).toNat := by
  have e : HT.sIx xs.length 0 (some i) = (i + xs.length).toNat := by unfold HT.sIx; simp only; rw [if_pos h0]
  have e0 : HT.sIx xs.length xs.length none = xs.length := rfl
  unfold cutL
  rw [e, e0, List.take_of_length_le (by simp)]
end L3
namespace L3
open PySem L2
theorem rp_lower1 {cs : Cells} {c : Nat} {P : D → Cells → Prop} {X : KX} (h : c < 128) : RP (lowerD cs [c]) P X = P (.str [if 65 ≤ c ∧ c ≤ 90 then c + 32 else c]) cs := rp_lower (by simp) (low1 c h)
theorem strsOf_map (ls : List (List Nat)) : strsOf (ls.map D.str) = some ls := by
  induction ls with
  | nil => rfl
  | cons a r ih => simp only [List.map_cons, strsOf, ih]
theorem rep_str {l : List Nat} (h : l.length ≤ 100000) (q : ∀ c ∈ l, c < 128) : ∃ z, reprC (.str l) = some z := by
  refine ⟨codes (reprText ⟨l.toArray⟩), ?_⟩
  show (if _ then _ else _) = _
  rw [if_pos]
  have := StrLaws.reprText_len ⟨l.toArray⟩ (fun c hc => Nat.lt_of_lt_of_le (q c (by simpa using hc)) (by decide))
  have e2 : (⟨l.toArray⟩ : Str).length = l.length := str_len l
  rw [sizeLine_eq]; omega
end L3
namespace L3
open PySem L2
theorem ro_c {i : Int} {env : Env} {cs : Cells} : oSome (eC (.int i)) env cs = some (some i, cs) := nr rfl
theorem ro_nc {i : Int} {env : Env} {cs : Cells} : oSome (op1 negD (eC (.int i))) env cs = some (some (-i), cs) := nr rfl
end L3

/-! the program by its places -/
namespace T_k59
open PySem L2 L3
def top (i : Nat) : Stmt := PySem.Challenge.pw_tailnames_k59_slugs_sign_by_sign.main.body.getD i (.Pass ⟨0, 0, 0, 0⟩)
/-- what the top has given names -/
structure Tx (K : PySem.W.Frag) (mg : Str → Option Value) : Prop where
  b_any : mg "any" = none
  b_isinstance : mg "isinstance" = none
  b_len : mg "len" = none
  b_max : mg "max" = none
  b_min : mg "min" = none
  b_range : mg "range" = none
  b_repr : mg "repr" = none
  b_str : mg "str" = none
  c_FIGURES : ∃ t, mg "FIGURES" = some (.str "0123456789" t)
  c_LARGE : ∃ t, mg "LARGE" = some (.str "ABCDEFGHIJKLMNOPQRSTUVWXYZ" t)
  c_LONGEST_TITLE : ∃ t, mg "LONGEST_TITLE" = some (.int 150 t)
  c_SMALL : ∃ t, mg "SMALL" = some (.str "abcdefghijklmnopqrstuvwxyz" t)
section
variable {P : Program} {w : World} {K : PySem.W.Frag} {mg : Str → Option Value} {base : Heap}
abbrev st__law_box : Stmt := top 14
theorem sc__law_box : FnScope ["cell"] ["cell"] (defScope st__law_box) := ⟨rfl, rfl, rfl, by decide +kernel, rfl, by decide +kernel, by decide +kernel⟩
noncomputable def mb__law_box : MS := (sRet (eList true (aCons (eBi maxB (aCons (eC (.int 0)) (aCons (op2 subD (eVar 0) (op2 powD (eC (.int 10)) (eC (.int 18)))) aNil))) (aCons (op2 modD (eVar 0) (eC (.int 2147483629))) (aCons (eC (.int 0)) aNil)))))
noncomputable def m__law_box : MF := mDef 1 mb__law_box
theorem ok__law_box {f : Addr} {fd : FuncData} (F : Fun K "_law_box" "_law_box" st__law_box f fd) (T : Tx K mg) : FnOk P w K mg base (L2.CX P w) 1 f fd ["cell"] (spM ⟨P, w, K, mg⟩ m__law_box 1) := by
  refine fnM F sc__law_box mb__law_box fun cdv A outer s H E hr => ?_
  exact (sms_one (sm_ret (xp_list true (xa_cons (xp_bi (call_max2 rfl) cb_max rfl T.b_max bo_max (xa_cons xp_int (xa_cons (xp_sub (xp_var (i := 0) rfl (.inl rfl)) (xp_pow xp_int xp_int)) xa_nil))) (xa_cons (xp_mod (xp_var (i := 0) rfl (.inl rfl)) xp_int) (xa_cons xp_int xa_nil))))))
abbrev st__law_take : Stmt := top 15
theorem sc__law_take : FnScope ["box", "many", "digit", "one", "two"] ["box", "many"] (defScope st__law_take) := ⟨rfl, rfl, rfl, by decide +kernel, rfl, by decide +kernel, by decide +kernel⟩
noncomputable def mb__law_take : MS := (sSeq (sIf (op2 gtD (op2 ixD (eVar 0) (eC (.int 0))) (eC (.int 0))) (sSeq (sAsg 2 (op2 modD (op2 ixD (eVar 0) (eC (.int 0))) (eVar 1))) (sSeq (sPut (eVar 0) (eC (.int 0)) (op2 fdivD (op2 ixD (eVar 0) (eC (.int 0))) (eVar 1))) (sRet (eVar 2)))) sNx) (sSeq (sPut (eVar 0) (eC (.int 2)) (op2 (addD false) (op2 ixD (eVar 0) (eC (.int 2))) (eC (.int 1)))) (sSeq (sAsg 3 (op2 modD (op2 powD (op2 (addD false) (op2 (addD false) (op2 ixD (eVar 0) (eC (.int 1))) (op2 (mulD false) (eC (.int 7919)) (op2 ixD (eVar 0) (eC (.int 2))))) (eC (.int 125))) (eC (.int 5))) (eC (.int 2147483647)))) (sSeq (sAsg 4 (op2 modD (op2 powD (op2 (addD false) (op2 (addD false) (op2 fdivD (eVar 3) (eC (.int 8))) (op2 (mulD false) (op2 (mulD false) (eC (.int 104729)) (op2 ixD (eVar 0) (eC (.int 2)))) (op2 ixD (eVar 0) (eC (.int 2))))) (eC (.int 11))) (eC (.int 3))) (eC (.int 2147483587)))) (sRet (op2 modD (op2 (addD false) (op2 fdivD (eVar 3) (eC (.int 4))) (op2 (mulD false) (eC (.int 536870909)) (op2 fdivD (eVar 4) (eC (.int 4))))) (eVar 1)))))))
noncomputable def m__law_take : MF := mDef 5 mb__law_take
theorem ok__law_take {f : Addr} {fd : FuncData} (F : Fun K "_law_take" "_law_take" st__law_take f fd) (T : Tx K mg) : FnOk P w K mg base (L2.CX P w) 1 f fd ["box", "many"] (spM ⟨P, w, K, mg⟩ m__law_take 2) := by
  refine fnM F sc__law_take mb__law_take fun cdv A outer s H E hr => ?_
  exact (sms_cons (sm_if (xt_gt (xp_ix (xp_var (i := 0) rfl (.inl rfl)) xp_int (fun _ _ => rfl)) xp_int) (sms_cons (sm_set (i := 2) sc__law_take.nd rfl (.inl rfl) (xp_mod (xp_ix (xp_var (i := 0) rfl (.inl rfl)) xp_int (fun _ _ => rfl)) (xp_var (i := 1) rfl (.inl rfl))))
    (sms_cons (sm_put (xp_var (i := 0) rfl (.inl rfl)) xp_int (xp_fdiv (xp_ix (xp_var (i := 0) rfl (.inl rfl)) xp_int (fun _ _ => rfl)) (xp_var (i := 1) rfl (.inl rfl))))
    (sms_one (sm_ret (xp_var (i := 2) rfl (.inl rfl)))))) sms_nil)
    (sms_cons (sm_put (xp_var (i := 0) rfl (.inl rfl)) xp_int (xp_add false (xp_ix (xp_var (i := 0) rfl (.inl rfl)) xp_int (fun _ _ => rfl)) xp_int))
    (sms_cons (sm_set (i := 3) sc__law_take.nd rfl (.inl rfl) (xp_mod (xp_pow (xp_add false (xp_add false (xp_ix (xp_var (i := 0) rfl (.inl rfl)) xp_int (fun _ _ => rfl)) (xp_mul false xp_int (xp_ix (xp_var (i := 0) rfl (.inl rfl)) xp_int (fun _ _ => rfl)))) xp_int) xp_int) xp_int))
    (sms_cons (sm_set (i := 4) sc__law_take.nd rfl (.inl rfl) (xp_mod (xp_pow (xp_add false (xp_add false (xp_fdiv (xp_var (i := 3) rfl (.inl rfl)) xp_int) (xp_mul false (xp_mul false xp_int (xp_ix (xp_var (i := 0) rfl (.inl rfl)) xp_int (fun _ _ => rfl))) (xp_ix (xp_var (i := 0) rfl (.inl rfl)) xp_int (fun _ _ => rfl)))) xp_int) xp_int) xp_int))
    (sms_one (sm_ret (xp_mod (xp_add false (xp_fdiv (xp_var (i := 3) rfl (.inl rfl)) xp_int) (xp_mul false xp_int (xp_fdiv (xp_var (i := 4) rfl (.inl rfl)) xp_int))) (xp_var (i := 1) rfl (.inl rfl)))))))))
abbrev st__law_title : Stmt := top 17
theorem sc__law_title : FnScope ["box", "some", "many", "title", "at", "signs"] ["box"] (defScope st__law_title) := ⟨rfl, rfl, rfl, by decide +kernel, rfl, by decide +kernel, by decide +kernel⟩
noncomputable def mb__law_title : MS := (sSeq (sAsg 1 (eList false (aCons (eC (.str [97, 90, 48, 57, 32, 45, 95, 46, 47])) (aCons (eC (.str [97, 98, 99, 100, 101, 102, 103, 104, 105, 106, 107, 108, 109, 110, 111, 112, 113, 114, 115, 116, 117, 118, 119, 120, 121, 122, 65, 66, 67, 68, 69, 70, 71, 72, 73, 74, 75, 76, 77, 78, 79, 80, 81, 82, 83, 84, 85, 86, 87, 88, 89, 90, 48, 49, 50, 51, 52, 53, 54, 55, 56, 57])) (aCons (eC (.str [32, 33, 36, 38, 39, 40, 41, 42, 43, 44, 45, 46, 47, 58, 59, 60, 61, 62, 63, 64, 91, 93, 94, 95, 96, 123, 124, 125, 126, 35, 10])) aNil))))) (sSeq (sAsg 2 (op2 ixD (eList false (aCons (op2 (addD false) (eC (.int 1)) (eCall m__law_take (aCons (eVar 0) (aCons (eC (.int 12)) aNil)))) (aCons (op2 (addD false) (eC (.int 140)) (eCall m__law_take (aCons (eVar 0) (aCons (eC (.int 11)) aNil)))) (aCons (op2 (addD false) (eC (.int 1)) (eCall m__law_take (aCons (eVar 0) (aCons (eC (.int 40)) aNil)))) aNil)))) (eCall m__law_take (aCons (eVar 0) (aCons (eC (.int 3)) aNil))))) (sSeq (sAsg 3 (eC (.str []))) (sSeq (sFor (tgN 4) (wR1 (eVar 2)) (sSeq (sAsg 5 (op2 ixD (eVar 1) (eCall m__law_take (aCons (eVar 0) (aCons (eC (.int 3)) aNil))))) (sAsg 3 (op2 (addD false) (eVar 3) (op2 ixD (eVar 5) (eCall m__law_take (aCons (eVar 0) (aCons (eBi lenB (aCons (eVar 5) aNil)) aNil)))))))) (sSeq (sAsg 4 (eCall m__law_take (aCons (eVar 0) (aCons (eVar 2) aNil)))) (sRet (op2 (addD false) (op2 (addD false) (eSl false (eVar 3) oNone (oSome (eVar 4))) (op2 ixD (op2 ixD (eVar 1) (eC (.int 1))) (eCall m__law_take (aCons (eVar 0) (aCons (eC (.int 62)) aNil))))) (eSl false (eVar 3) (oSome (op2 (addD false) (eVar 4) (eC (.int 1)))) oNone))))))))
noncomputable def m__law_title : MF := mDef 6 mb__law_title
theorem ok__law_title {f : Addr} {fd : FuncData} (F : Fun K "_law_title" "_law_title" st__law_title f fd) (T : Tx K mg) (o__law_take : Own P w K mg base 1 "_law_take" 2 m__law_take) : FnOk P w K mg base (L2.CX P w) 2 f fd ["box"] (spM ⟨P, w, K, mg⟩ m__law_title 1) := by
  refine fnM F sc__law_title mb__law_title fun cdv A outer s H E hr => ?_
  exact (sms_cons (sm_set (i := 1) sc__law_title.nd rfl (.inl rfl) (xp_list false (xa_cons (xp_str (l := [97, 90, 48, 57, 32, 45, 95, 46, 47]) (by decide +kernel)) (xa_cons (xp_str (l := [97, 98, 99, 100, 101, 102, 103, 104, 105, 106, 107, 108, 109, 110, 111, 112, 113, 114, 115, 116, 117, 118, 119, 120, 121, 122, 65, 66, 67, 68, 69, 70, 71, 72, 73, 74, 75, 76, 77, 78, 79, 80, 81, 82, 83, 84, 85, 86, 87, 88, 89, 90, 48, 49, 50, 51, 52, 53, 54, 55, 56, 57]) (by decide +kernel)) (xa_cons (xp_str (l := [32, 33, 36, 38, 39, 40, 41, 42, 43, 44, 45, 46, 47, 58, 59, 60, 61, 62, 63, 64, 91, 93, 94, 95, 96, 123, 124, 125, 126, 35, 10]) (by decide +kernel)) xa_nil)))))
    (sms_cons (sm_set (i := 2) sc__law_title.nd rfl (.inl rfl) (xp_ix (xp_list false (xa_cons (xp_add false xp_int (xp_own o__law_take (hr.mono (by decide)) (takes_of rfl rfl rfl rfl) (xa_cons (xp_var (i := 0) rfl (.inl rfl)) (xa_cons xp_int xa_nil)) rfl (len_cons (len_cons len_nil)))) (xa_cons (xp_add false xp_int (xp_own o__law_take (hr.mono (by decide)) (takes_of rfl rfl rfl rfl) (xa_cons (xp_var (i := 0) rfl (.inl rfl)) (xa_cons xp_int xa_nil)) rfl (len_cons (len_cons len_nil)))) (xa_cons (xp_add false xp_int (xp_own o__law_take (hr.mono (by decide)) (takes_of rfl rfl rfl rfl) (xa_cons (xp_var (i := 0) rfl (.inl rfl)) (xa_cons xp_int xa_nil)) rfl (len_cons (len_cons len_nil)))) xa_nil)))) (xp_own o__law_take (hr.mono (by decide)) (takes_of rfl rfl rfl rfl) (xa_cons (xp_var (i := 0) rfl (.inl rfl)) (xa_cons xp_int xa_nil)) rfl (len_cons (len_cons len_nil))) (fun _ _ => rfl)))
    (sms_cons (sm_set (i := 3) sc__law_title.nd rfl (.inl rfl) (xp_str (l := []) (by decide +kernel)))
    (sms_cons (sm_for rfl (passes_of rfl) (wk_range1 rfl T.b_range (xp_var (i := 2) rfl (.inl rfl))) (tgt_name (i := 4) (own := [4]) sc__law_title.nd rfl (.inl rfl)) (sms_cons (sm_set (i := 5) sc__law_title.nd rfl (.inl rfl) (xp_ix (xp_var (i := 1) rfl (.inl rfl)) (xp_own o__law_take (hr.mono (by decide)) (takes_of rfl rfl rfl rfl) (xa_cons (xp_var (i := 0) rfl (.inl rfl)) (xa_cons xp_int xa_nil)) rfl (len_cons (len_cons len_nil))) (fun _ _ => rfl)))
    (sms_one (sm_set (i := 3) sc__law_title.nd rfl (.inl rfl) (xp_add false (xp_var (i := 3) rfl (.inl rfl)) (xp_ix (xp_var (i := 5) rfl (.inl rfl)) (xp_own o__law_take (hr.mono (by decide)) (takes_of rfl rfl rfl rfl) (xa_cons (xp_var (i := 0) rfl (.inl rfl)) (xa_cons (xp_bi call_len cb_len rfl T.b_len bo_len (xa_cons (xp_var (i := 5) rfl (.inl rfl)) xa_nil)) xa_nil)) rfl (len_cons (len_cons len_nil))) (fun _ _ => rfl)))))))
    (sms_cons (sm_set (i := 4) sc__law_title.nd rfl (.inl rfl) (xp_own o__law_take (hr.mono (by decide)) (takes_of rfl rfl rfl rfl) (xa_cons (xp_var (i := 0) rfl (.inl rfl)) (xa_cons (xp_var (i := 2) rfl (.inl rfl)) xa_nil)) rfl (len_cons (len_cons len_nil))))
    (sms_one (sm_ret (xp_add false (xp_add false (xp_sl false (xp_var (i := 3) rfl (.inl rfl)) xo_none (xo_some (xp_var (i := 4) rfl (.inl rfl)))) (xp_ix (xp_ix (xp_var (i := 1) rfl (.inl rfl)) xp_int (fun _ _ => rfl)) (xp_own o__law_take (hr.mono (by decide)) (takes_of rfl rfl rfl rfl) (xa_cons (xp_var (i := 0) rfl (.inl rfl)) (xa_cons xp_int xa_nil)) rfl (len_cons (len_cons len_nil))) (fun _ _ => rfl))) (xp_sl false (xp_var (i := 3) rfl (.inl rfl)) (xo_some (xp_add false (xp_var (i := 4) rfl (.inl rfl)) xp_int)) xo_none)))))))))
abbrev st__law_due : Stmt := top 16
theorem sc__law_due : FnScope ["title", "result", "gap", "sign", "small"] ["title"] (defScope st__law_due) := ⟨rfl, rfl, rfl, by decide +kernel, rfl, by decide +kernel, by decide +kernel⟩
noncomputable def mb__law_due : MS := (sSeq (sAsg 1 (eC (.str []))) (sSeq (sAsg 2 (eC (.bl false))) (sSeq (sFor (tgN 3) (wSeq (eVar 0)) (sSeq (sAsg 4 (eM0 lowerD (eVar 3))) (sIf (op2 inD (eVar 4) (eC (.str [97, 98, 99, 100, 101, 102, 103, 104, 105, 106, 107, 108, 109, 110, 111, 112, 113, 114, 115, 116, 117, 118, 119, 120, 121, 122, 48, 49, 50, 51, 52, 53, 54, 55, 56, 57]))) (sSeq (sAsg 1 (op2 (addD false) (op2 (addD false) (eVar 1) (eIf (eAnd (eVar 2) (op2 neD (eVar 1) (eC (.str [])))) (eC (.str [45])) (eC (.str [])))) (eVar 4))) (sAsg 2 (eC (.bl false)))) (sAsg 2 (eC (.bl true)))))) (sRet (eVar 1)))))
noncomputable def m__law_due : MF := mDef 5 mb__law_due
theorem ok__law_due {f : Addr} {fd : FuncData} (F : Fun K "_law_due" "_law_due" st__law_due f fd) (T : Tx K mg) : FnOk P w K mg base (L2.CX P w) 1 f fd ["title"] (spM ⟨P, w, K, mg⟩ m__law_due 1) := by
  refine fnM F sc__law_due mb__law_due fun cdv A outer s H E hr => ?_
  exact (sms_cons (sm_set (i := 1) sc__law_due.nd rfl (.inl rfl) (xp_str (l := []) (by decide +kernel)))
    (sms_cons (sm_set (i := 2) sc__law_due.nd rfl (.inl rfl) xp_bl)
    (sms_cons (sm_for rfl (passes_of rfl) (wk_seq (xp_var (i := 0) rfl (.inl rfl))) (tgt_name (i := 3) (own := [3]) sc__law_due.nd rfl (.inl rfl)) (sms_cons (sm_set (i := 4) sc__law_due.nd rfl (.inl rfl) (xp_lower (xp_var (i := 3) rfl (.inl rfl))))
    (sms_one (sm_if (xt_in (xp_var (i := 4) rfl (.inl rfl)) (xp_str (l := [97, 98, 99, 100, 101, 102, 103, 104, 105, 106, 107, 108, 109, 110, 111, 112, 113, 114, 115, 116, 117, 118, 119, 120, 121, 122, 48, 49, 50, 51, 52, 53, 54, 55, 56, 57]) (by decide +kernel)) rfl) (sms_cons (sm_set (i := 1) sc__law_due.nd rfl (.inl rfl) (xp_add false (xp_add false (xp_var (i := 1) rfl (.inl rfl)) (xp_if (Xw.t (xw_and (xt_val (xp_var (i := 2) rfl (.inl rfl))) (xw_and1 (xt_ne hr.units (xp_var (i := 1) rfl (.inl rfl)) (xp_str (l := []) (by decide +kernel)))))) (xp_str (l := [45]) (by decide +kernel)) (xp_str (l := []) (by decide +kernel)))) (xp_var (i := 4) rfl (.inl rfl))))
    (sms_one (sm_set (i := 2) sc__law_due.nd rfl (.inl rfl) xp_bl))) (sms_one (sm_set (i := 2) sc__law_due.nd rfl (.inl rfl) xp_bl))))))
    (sms_one (sm_ret (xp_var (i := 1) rfl (.inl rfl)))))))
abbrev st__law_cell : Stmt := top 13
theorem sc__law_cell : FnScope ["script", "k"] ["script", "k"] (defScope st__law_cell) := ⟨rfl, rfl, rfl, by decide +kernel, rfl, by decide +kernel, by decide +kernel⟩
noncomputable def mb__law_cell : MS := (sSeq (sIf (op2 ltD (eVar 1) (eBi lenB (aCons (eVar 0) aNil))) (sRet (op2 ixD (eVar 0) (eVar 1))) sNx) (sRet (op2 (addD false) (op2 (mulD false) (eC (.int 217645177)) (eVar 1)) (eC (.int 125)))))
noncomputable def m__law_cell : MF := mDef 2 mb__law_cell
theorem ok__law_cell {f : Addr} {fd : FuncData} (F : Fun K "_law_cell" "_law_cell" st__law_cell f fd) (T : Tx K mg) : FnOk P w K mg base (L2.CX P w) 1 f fd ["script", "k"] (spM ⟨P, w, K, mg⟩ m__law_cell 2) := by
  refine fnM F sc__law_cell mb__law_cell fun cdv A outer s H E hr => ?_
  exact (sms_cons (sm_if (xt_lt (xp_var (i := 1) rfl (.inl rfl)) (xp_bi call_len cb_len rfl T.b_len bo_len (xa_cons (xp_var (i := 0) rfl (.inl rfl)) xa_nil))) (sms_one (sm_ret (xp_ix (xp_var (i := 0) rfl (.inl rfl)) (xp_var (i := 1) rfl (.inl rfl)) (fun _ _ => rfl)))) sms_nil)
    (sms_one (sm_ret (xp_add false (xp_mul false xp_int (xp_var (i := 1) rfl (.inl rfl))) xp_int))))
abbrev st_is_title : Stmt := top 8
theorem sc_is_title : FnScope ["value", "sign"] ["value"] (defScope st_is_title) := ⟨rfl, rfl, rfl, by decide +kernel, rfl, by decide +kernel, by decide +kernel⟩
noncomputable def mb_is_title : MS := (sSeq (sIf (eOr (eNot (op1 (isiD "str") (eVar 0))) (eNot (eChain leD leD (eC (.int 1)) (eBi lenB (aCons (eVar 0) aNil)) (eC (.int 150))))) (sRet (eC (.bl false))) sNx) (sRet (eBi anyB (aCons (eLc false [1] (tgN 1) (wSeq (eVar 0)) (eC (.bl true)) (eOr (op2 inD (eVar 1) (eC (.str [97, 98, 99, 100, 101, 102, 103, 104, 105, 106, 107, 108, 109, 110, 111, 112, 113, 114, 115, 116, 117, 118, 119, 120, 121, 122]))) (eOr (op2 inD (eVar 1) (eC (.str [65, 66, 67, 68, 69, 70, 71, 72, 73, 74, 75, 76, 77, 78, 79, 80, 81, 82, 83, 84, 85, 86, 87, 88, 89, 90]))) (op2 inD (eVar 1) (eC (.str [48, 49, 50, 51, 52, 53, 54, 55, 56, 57])))))) aNil))))
noncomputable def m_is_title : MF := mDef 2 mb_is_title
theorem ok_is_title {f : Addr} {fd : FuncData} (F : Fun K "is_title" "is_title" st_is_title f fd) (T : Tx K mg) : FnOk P w K mg base (L2.CX P w) 1 f fd ["value"] (spM ⟨P, w, K, mg⟩ m_is_title 1) := by
  refine fnM F sc_is_title mb_is_title fun cdv A outer s H E hr => ?_
  obtain ⟨tk_FIGURES, g_FIGURES⟩ := T.c_FIGURES
  obtain ⟨tk_LARGE, g_LARGE⟩ := T.c_LARGE
  obtain ⟨tk_LONGEST_TITLE, g_LONGEST_TITLE⟩ := T.c_LONGEST_TITLE
  obtain ⟨tk_SMALL, g_SMALL⟩ := T.c_SMALL
  exact (sms_cons (sm_if (Xw.t (xw_or (xt_not (xt_val (xp_isi rfl T.b_isinstance rfl T.b_str bo_str (xp_var (i := 0) rfl (.inl rfl))))) (xw_or1 (xt_not (xt_chain op_le o2_le op_le o2_le xp_int (xp_bi call_len cb_len rfl T.b_len bo_len (xa_cons (xp_var (i := 0) rfl (.inl rfl)) xa_nil)) (xp_globI rfl g_LONGEST_TITLE)))))) (sms_one (sm_ret xp_bl)) sms_nil)
    (sms_one (sm_ret (xp_bi (cr_any rfl) cb_any rfl T.b_any bo_any (xa_cons (xp_lc false rfl sc_is_title.nd (wk_seq (xp_var (i := 0) rfl (.inl rfl))) (own := [("sign", 1)]) (blk_ok (N := ["value", "sign"]) (sc := defScope st_is_title) (by decide +kernel)) ⟨fun s H C cl fp => (tgt_name (i := 1) (own := [1]) sc_is_title.nd rfl (.inl rfl)), fun s H C cl fp => xts_nil, fun s H C cl fp => (xp_or (p2 := ⟨0, 0, 0, 0⟩) (xp_in (xp_var (i := 1) rfl (.inl rfl)) (xp_globS (l := [97, 98, 99, 100, 101, 102, 103, 104, 105, 106, 107, 108, 109, 110, 111, 112, 113, 114, 115, 116, 117, 118, 119, 120, 121, 122]) rfl g_SMALL (by decide +kernel)) rfl) (xp_or (p2 := ⟨0, 0, 0, 0⟩) (xp_in (xp_var (i := 1) rfl (.inl rfl)) (xp_globS (l := [65, 66, 67, 68, 69, 70, 71, 72, 73, 74, 75, 76, 77, 78, 79, 80, 81, 82, 83, 84, 85, 86, 87, 88, 89, 90]) rfl g_LARGE (by decide +kernel)) rfl) (xp_one (xp_in (xp_var (i := 1) rfl (.inl rfl)) (xp_globS (l := [48, 49, 50, 51, 52, 53, 54, 55, 56, 57]) rfl g_FIGURES (by decide +kernel)) rfl))))⟩) xa_nil)))))
abbrev st_need_title : Stmt := top 9
theorem sc_need_title : FnScope ["title"] ["title"] (defScope st_need_title) := ⟨rfl, rfl, rfl, by decide +kernel, rfl, by decide +kernel, by decide +kernel⟩
noncomputable def mb_need_title : MS := (sIf (eNot (eCall m_is_title (aCons (eVar 0) aNil))) sNo sNx)
noncomputable def m_need_title : MF := mDef 1 mb_need_title
theorem ok_need_title {f : Addr} {fd : FuncData} (F : Fun K "need_title" "need_title" st_need_title f fd) (T : Tx K mg) (o_is_title : Own P w K mg base 1 "is_title" 1 m_is_title) : FnOk P w K mg base (L2.CX P w) 2 f fd ["title"] (spM ⟨P, w, K, mg⟩ m_need_title 1) := by
  refine fnM F sc_need_title mb_need_title fun cdv A outer s H E hr => ?_
  exact (sms_one (sm_if (xt_not (xt_val (xp_own o_is_title (hr.mono (by decide)) (takes_of rfl rfl rfl rfl) (xa_cons (xp_var (i := 0) rfl (.inl rfl)) xa_nil) rfl (len_cons len_nil)))) (sms_one sm_no) sms_nil))
abbrev st_sign_of : Stmt := top 10
theorem sc_sign_of : FnScope ["sign"] ["sign"] (defScope st_sign_of) := ⟨rfl, rfl, rfl, by decide +kernel, rfl, by decide +kernel, by decide +kernel⟩
noncomputable def mb_sign_of : MS := (sSeq (sIf (op2 inD (eVar 0) (eC (.str [65, 66, 67, 68, 69, 70, 71, 72, 73, 74, 75, 76, 77, 78, 79, 80, 81, 82, 83, 84, 85, 86, 87, 88, 89, 90]))) (sRet (op2 ixD (eC (.str [97, 98, 99, 100, 101, 102, 103, 104, 105, 106, 107, 108, 109, 110, 111, 112, 113, 114, 115, 116, 117, 118, 119, 120, 121, 122])) (eM1 sixD (eC (.str [65, 66, 67, 68, 69, 70, 71, 72, 73, 74, 75, 76, 77, 78, 79, 80, 81, 82, 83, 84, 85, 86, 87, 88, 89, 90])) (eVar 0)))) sNx) (sRet (eIf (eOr (op2 inD (eVar 0) (eC (.str [97, 98, 99, 100, 101, 102, 103, 104, 105, 106, 107, 108, 109, 110, 111, 112, 113, 114, 115, 116, 117, 118, 119, 120, 121, 122]))) (op2 inD (eVar 0) (eC (.str [48, 49, 50, 51, 52, 53, 54, 55, 56, 57])))) (eVar 0) (eC (.str [32])))))
noncomputable def m_sign_of : MF := mDef 1 mb_sign_of
theorem ok_sign_of {f : Addr} {fd : FuncData} (F : Fun K "sign_of" "sign_of" st_sign_of f fd) (T : Tx K mg) : FnOk P w K mg base (L2.CX P w) 1 f fd ["sign"] (spM ⟨P, w, K, mg⟩ m_sign_of 1) := by
  refine fnM F sc_sign_of mb_sign_of fun cdv A outer s H E hr => ?_
  obtain ⟨tk_FIGURES, g_FIGURES⟩ := T.c_FIGURES
  obtain ⟨tk_LARGE, g_LARGE⟩ := T.c_LARGE
  obtain ⟨tk_SMALL, g_SMALL⟩ := T.c_SMALL
  exact (sms_cons (sm_if (xt_in (xp_var (i := 0) rfl (.inl rfl)) (xp_globS (l := [65, 66, 67, 68, 69, 70, 71, 72, 73, 74, 75, 76, 77, 78, 79, 80, 81, 82, 83, 84, 85, 86, 87, 88, 89, 90]) rfl g_LARGE (by decide +kernel)) rfl) (sms_one (sm_ret (xp_ix (xp_globS (l := [97, 98, 99, 100, 101, 102, 103, 104, 105, 106, 107, 108, 109, 110, 111, 112, 113, 114, 115, 116, 117, 118, 119, 120, 121, 122]) rfl g_SMALL (by decide +kernel)) (xp_six (xp_globS (l := [65, 66, 67, 68, 69, 70, 71, 72, 73, 74, 75, 76, 77, 78, 79, 80, 81, 82, 83, 84, 85, 86, 87, 88, 89, 90]) rfl g_LARGE (by decide +kernel)) (xp_var (i := 0) rfl (.inl rfl))) (fun _ _ => rfl)))) sms_nil)
    (sms_one (sm_ret (xp_if (Xw.t (xw_or (xt_in (xp_var (i := 0) rfl (.inl rfl)) (xp_globS (l := [97, 98, 99, 100, 101, 102, 103, 104, 105, 106, 107, 108, 109, 110, 111, 112, 113, 114, 115, 116, 117, 118, 119, 120, 121, 122]) rfl g_SMALL (by decide +kernel)) rfl) (xw_or1 (xt_in (xp_var (i := 0) rfl (.inl rfl)) (xp_globS (l := [48, 49, 50, 51, 52, 53, 54, 55, 56, 57]) rfl g_FIGURES (by decide +kernel)) rfl)))) (xp_var (i := 0) rfl (.inl rfl)) (xp_str (l := [32]) (by decide +kernel))))))
abbrev st_slug : Stmt := top 11
theorem sc_slug : FnScope ["title", "sign"] ["title"] (defScope st_slug) := ⟨rfl, rfl, rfl, by decide +kernel, rfl, by decide +kernel, by decide +kernel⟩
noncomputable def mb_slug : MS := (sSeq (sDrop (eCall m_need_title (aCons (eVar 0) aNil))) (sRet (eM1 joinD (eC (.str [45])) (eM0 (wordsD false) (eM1 joinD (eC (.str [])) (eLc false [1] (tgN 1) (wSeq (eVar 0)) (eC (.bl true)) (eCall m_sign_of (aCons (eVar 1) aNil))))))))
noncomputable def m_slug : MF := mDef 2 mb_slug
theorem ok_slug {f : Addr} {fd : FuncData} (F : Fun K "slug" "slug" st_slug f fd) (T : Tx K mg) (o_need_title : Own P w K mg base 2 "need_title" 1 m_need_title) (o_sign_of : Own P w K mg base 1 "sign_of" 1 m_sign_of) : FnOk P w K mg base (L2.CX P w) 3 f fd ["title"] (spM ⟨P, w, K, mg⟩ m_slug 1) := by
  refine fnM F sc_slug mb_slug fun cdv A outer s H E hr => ?_
  exact (sms_cons (sm_expr (xp_own o_need_title (hr.mono (by decide)) (takes_of rfl rfl rfl rfl) (xa_cons (xp_var (i := 0) rfl (.inl rfl)) xa_nil) rfl (len_cons len_nil)))
    (sms_one (sm_ret (xp_join (xp_str (l := [45]) (by decide +kernel)) (xp_words false (xp_join (xp_str (l := []) (by decide +kernel)) (xp_lc false rfl sc_slug.nd (wk_seq (xp_var (i := 0) rfl (.inl rfl))) (own := [("sign", 1)]) (blk_ok (N := ["title", "sign"]) (sc := defScope st_slug) (by decide +kernel)) ⟨fun s H C cl fp => (tgt_name (i := 1) (own := [1]) sc_slug.nd rfl (.inl rfl)), fun s H C cl fp => xts_nil, fun s H C cl fp => (xp_own o_sign_of (hr.mono (by decide)) takes_no (xa_cons (xp_var (i := 1) rfl (.inl rfl)) xa_nil) rfl (len_cons len_nil))⟩)))))))
abbrev st_law : Stmt := top 18
theorem sc_law : FnScope ["script", "k", "box", "title", "due", "other", "one", "bare"] ["script"] (defScope st_law) := ⟨rfl, rfl, rfl, by decide +kernel, rfl, by decide +kernel, by decide +kernel⟩
noncomputable def mb_law : MS := (sSeq (sFor (tgN 1) (wR1 (eBi maxB (aCons (eC (.int 2)) (aCons (eBi minB (aCons (eC (.int 10)) (aCons (eBi lenB (aCons (eVar 0) aNil)) aNil))) aNil)))) (sSeq (sAsg 2 (eCall m__law_box (aCons (eCall m__law_cell (aCons (eVar 0) (aCons (eVar 1) aNil))) aNil))) (sSeq (sAsg 3 (eCall m__law_title (aCons (eVar 2) aNil))) (sSeq (sAsg 4 (eCall m__law_due (aCons (eVar 3) aNil))) (sSeq (sAsg 5 (op2 ixD (eList false (aCons (eC (.str [45, 45])) (aCons (eC (.str [46, 32])) (aCons (eC (.str [95, 40, 10])) (aCons (eC (.str [])) aNil))))) (eCall m__law_take (aCons (eVar 2) (aCons (eC (.int 4)) aNil))))) (sSeq (sFor (tgN 6) (wSeq (eList false (aCons (eVar 3) (aCons (eVar 4) (aCons (eIf (eAnd (op2 ltD (eBi lenB (aCons (eVar 4) aNil)) (eC (.int 60))) (op2 neD (eCall m__law_due (aCons (op2 (addD false) (eSl false (eVar 3) oNone (oSome (eC (.int 70)))) (eSl false (eVar 3) (oSome (op1 negD (eC (.int 70)))) oNone)) aNil)) (eC (.str [])))) (op2 (addD false) (op2 (addD false) (eSl false (eVar 3) oNone (oSome (eC (.int 70)))) (eVar 5)) (eSl false (eVar 3) (oSome (op1 negD (eC (.int 70)))) oNone)) (eVar 3)) aNil))))) (sIf (op2 neD (eBi reprB (aCons (eCall m_slug (aCons (eVar 6) aNil)) aNil)) (eBi reprB (aCons (eCall m__law_due (aCons (eVar 6) aNil)) aNil))) (sRet (eC (.bl false))) sNx)) (sSeq (sAsg 7 (op2 (addD false) (op2 (addD false) (eVar 5) (op2 ixD (eC (.str [97, 90, 53])) (eCall m__law_take (aCons (eVar 2) (aCons (eC (.int 3)) aNil))))) (eVar 5))) (sIf (eOr (op2 neD (eBi reprB (aCons (eCall m_slug (aCons (eVar 7) aNil)) aNil)) (eBi reprB (aCons (eCall m__law_due (aCons (eVar 7) aNil)) aNil))) (op2 neD (eCall m_slug (aCons (eVar 4) aNil)) (eVar 4))) (sRet (eC (.bl false))) sNx)))))))) (sRet (eC (.bl true))))
noncomputable def m_law : MF := mDef 8 mb_law
theorem ok_law {f : Addr} {fd : FuncData} (F : Fun K "law" "law" st_law f fd) (T : Tx K mg) (o__law_box : Own P w K mg base 1 "_law_box" 1 m__law_box) (o__law_cell : Own P w K mg base 1 "_law_cell" 2 m__law_cell) (o__law_title : Own P w K mg base 2 "_law_title" 1 m__law_title) (o__law_due : Own P w K mg base 1 "_law_due" 1 m__law_due) (o__law_take : Own P w K mg base 1 "_law_take" 2 m__law_take) (o_slug : Own P w K mg base 3 "slug" 1 m_slug) : FnOk P w K mg base (L2.CX P w) 4 f fd ["script"] (spM ⟨P, w, K, mg⟩ m_law 1) := by
  refine fnM F sc_law mb_law fun cdv A outer s H E hr => ?_
  exact (sms_cons (sm_for rfl (passes_of rfl) (wk_range1 rfl T.b_range (xp_bi (call_max2 rfl) cb_max rfl T.b_max bo_max (xa_cons xp_int (xa_cons (xp_bi (call_min2 rfl) cb_min rfl T.b_min bo_min (xa_cons xp_int (xa_cons (xp_bi call_len cb_len rfl T.b_len bo_len (xa_cons (xp_var (i := 0) rfl (.inl rfl)) xa_nil)) xa_nil))) xa_nil)))) (tgt_name (i := 1) (own := [1]) sc_law.nd rfl (.inl rfl)) (sms_cons (sm_set (i := 2) sc_law.nd rfl (.inl rfl) (xp_own o__law_box (hr.mono (by decide)) (takes_of rfl rfl rfl rfl) (xa_cons (xp_own o__law_cell (hr.mono (by decide)) (takes_of rfl rfl rfl rfl) (xa_cons (xp_var (i := 0) rfl (.inl rfl)) (xa_cons (xp_var (i := 1) rfl (.inl rfl)) xa_nil)) rfl (len_cons (len_cons len_nil))) xa_nil) rfl (len_cons len_nil)))
    (sms_cons (sm_set (i := 3) sc_law.nd rfl (.inl rfl) (xp_own o__law_title (hr.mono (by decide)) (takes_of rfl rfl rfl rfl) (xa_cons (xp_var (i := 2) rfl (.inl rfl)) xa_nil) rfl (len_cons len_nil)))
    (sms_cons (sm_set (i := 4) sc_law.nd rfl (.inl rfl) (xp_own o__law_due (hr.mono (by decide)) (takes_of rfl rfl rfl rfl) (xa_cons (xp_var (i := 3) rfl (.inl rfl)) xa_nil) rfl (len_cons len_nil)))
    (sms_cons (sm_set (i := 5) sc_law.nd rfl (.inl rfl) (xp_ix (xp_list false (xa_cons (xp_str (l := [45, 45]) (by decide +kernel)) (xa_cons (xp_str (l := [46, 32]) (by decide +kernel)) (xa_cons (xp_str (l := [95, 40, 10]) (by decide +kernel)) (xa_cons (xp_str (l := []) (by decide +kernel)) xa_nil))))) (xp_own o__law_take (hr.mono (by decide)) (takes_of rfl rfl rfl rfl) (xa_cons (xp_var (i := 2) rfl (.inl rfl)) (xa_cons xp_int xa_nil)) rfl (len_cons (len_cons len_nil))) (fun _ _ => rfl)))
    (sms_cons (sm_for rfl (passes_of rfl) (wk_seq (xp_list false (xa_cons (xp_var (i := 3) rfl (.inl rfl)) (xa_cons (xp_var (i := 4) rfl (.inl rfl)) (xa_cons (xp_if (Xw.t (xw_and (xt_lt (xp_bi call_len cb_len rfl T.b_len bo_len (xa_cons (xp_var (i := 4) rfl (.inl rfl)) xa_nil)) xp_int) (xw_and1 (xt_ne hr.units (xp_own o__law_due (hr.mono (by decide)) (takes_of rfl rfl rfl rfl) (xa_cons (xp_add false (xp_sl false (xp_var (i := 3) rfl (.inl rfl)) xo_none (xo_some xp_int)) (xp_sl false (xp_var (i := 3) rfl (.inl rfl)) (xo_some (xp_neg xp_int)) xo_none)) xa_nil) rfl (len_cons len_nil)) (xp_str (l := []) (by decide +kernel)))))) (xp_add false (xp_add false (xp_sl false (xp_var (i := 3) rfl (.inl rfl)) xo_none (xo_some xp_int)) (xp_var (i := 5) rfl (.inl rfl))) (xp_sl false (xp_var (i := 3) rfl (.inl rfl)) (xo_some (xp_neg xp_int)) xo_none)) (xp_var (i := 3) rfl (.inl rfl))) xa_nil))))) (tgt_name (i := 6) (own := [6]) sc_law.nd rfl (.inl rfl)) (sms_one (sm_if (xt_ne hr.units (xp_bi call_repV cb_repr rfl T.b_repr bo_repr (xa_cons (xp_own o_slug (hr.mono (by decide)) (takes_of rfl rfl rfl rfl) (xa_cons (xp_var (i := 6) rfl (.inl rfl)) xa_nil) rfl (len_cons len_nil)) xa_nil)) (xp_bi call_repV cb_repr rfl T.b_repr bo_repr (xa_cons (xp_own o__law_due (hr.mono (by decide)) (takes_of rfl rfl rfl rfl) (xa_cons (xp_var (i := 6) rfl (.inl rfl)) xa_nil) rfl (len_cons len_nil)) xa_nil))) (sms_one (sm_ret xp_bl)) sms_nil)))
    (sms_cons (sm_set (i := 7) sc_law.nd rfl (.inl rfl) (xp_add false (xp_add false (xp_var (i := 5) rfl (.inl rfl)) (xp_ix (xp_str (l := [97, 90, 53]) (by decide +kernel)) (xp_own o__law_take (hr.mono (by decide)) (takes_of rfl rfl rfl rfl) (xa_cons (xp_var (i := 2) rfl (.inl rfl)) (xa_cons xp_int xa_nil)) rfl (len_cons (len_cons len_nil))) (fun _ _ => rfl))) (xp_var (i := 5) rfl (.inl rfl))))
    (sms_one (sm_if (Xw.t (xw_or (xt_ne hr.units (xp_bi call_repV cb_repr rfl T.b_repr bo_repr (xa_cons (xp_own o_slug (hr.mono (by decide)) (takes_of rfl rfl rfl rfl) (xa_cons (xp_var (i := 7) rfl (.inl rfl)) xa_nil) rfl (len_cons len_nil)) xa_nil)) (xp_bi call_repV cb_repr rfl T.b_repr bo_repr (xa_cons (xp_own o__law_due (hr.mono (by decide)) (takes_of rfl rfl rfl rfl) (xa_cons (xp_var (i := 7) rfl (.inl rfl)) xa_nil) rfl (len_cons len_nil)) xa_nil))) (xw_or1 (xt_ne hr.units (xp_own o_slug (hr.mono (by decide)) (takes_of rfl rfl rfl rfl) (xa_cons (xp_var (i := 4) rfl (.inl rfl)) xa_nil) rfl (len_cons len_nil)) (xp_var (i := 4) rfl (.inl rfl)))))) (sms_one (sm_ret xp_bl)) sms_nil)))))))))
    (sms_one (sm_ret xp_bl)))
theorem all_mk {l : PySem.W.OpenLaw} {w : World} {K : PySem.W.Frag} {h : Heap} {mg : Str → Option Value} {fa f1 f2 f3 f4 f5 f6 f7 f8 f9 f10 : Addr} (X : K.In h) (G : h.Ns mainGlobals mg) (hfa : mg "law" = some (.ref fa))
    {od1 an1 od2 an2 od3 an3 od4 an4 od5 an5 od6 an6 od7 an7 od8 an8 od9 an9 od10 an10 : Option Addr} {sl1 sl2 sl3 sl4 sl5 sl6 sl7 sl8 sl9 sl10 : Array (Option Value)} {oc1 kV1 dc1 pm1 cd1 ct1 oc2 kV2 dc2 pm2 cd2 ct2 oc3 kV3 dc3 pm3 cd3 ct3 oc4 kV4 dc4 pm4 cd4 ct4 oc5 kV5 dc5 pm5 cd5 ct5 oc6 kV6 dc6 pm6 cd6 ct6 oc7 kV7 dc7 pm7 cd7 ct7 oc8 kV8 dc8 pm8 cd8 ct8 oc9 kV9 dc9 pm9 cd9 ct9 oc10 kV10 dc10 pm10 cd10 ct10 : Value} {t_FIGURES t_LARGE t_LONGEST_TITLE t_SMALL : Tok}
    (a1 : PySem.W.nsIn K mainGlobals "_law_box" = some (some (.ref f1))) (l1 : K.lookup f1 = some ⟨oc1, od1, .func (PySem.W.fnOf "_law_box" "_law_box" (defArgs st__law_box) (defBody st__law_box) (defScope st__law_box) .none kV1 dc1 pm1 an1 cd1 ct1), sl1⟩) (c1 : PySem.W.codeIn K cd1 "_law_box" = true) (k1 : PySem.W.keepIn K (.ref f1) = true)
    (a2 : PySem.W.nsIn K mainGlobals "_law_take" = some (some (.ref f2))) (l2 : K.lookup f2 = some ⟨oc2, od2, .func (PySem.W.fnOf "_law_take" "_law_take" (defArgs st__law_take) (defBody st__law_take) (defScope st__law_take) .none kV2 dc2 pm2 an2 cd2 ct2), sl2⟩) (c2 : PySem.W.codeIn K cd2 "_law_take" = true) (k2 : PySem.W.keepIn K (.ref f2) = true)
    (a3 : PySem.W.nsIn K mainGlobals "_law_title" = some (some (.ref f3))) (l3 : K.lookup f3 = some ⟨oc3, od3, .func (PySem.W.fnOf "_law_title" "_law_title" (defArgs st__law_title) (defBody st__law_title) (defScope st__law_title) .none kV3 dc3 pm3 an3 cd3 ct3), sl3⟩) (c3 : PySem.W.codeIn K cd3 "_law_title" = true) (k3 : PySem.W.keepIn K (.ref f3) = true)
    (a4 : PySem.W.nsIn K mainGlobals "_law_due" = some (some (.ref f4))) (l4 : K.lookup f4 = some ⟨oc4, od4, .func (PySem.W.fnOf "_law_due" "_law_due" (defArgs st__law_due) (defBody st__law_due) (defScope st__law_due) .none kV4 dc4 pm4 an4 cd4 ct4), sl4⟩) (c4 : PySem.W.codeIn K cd4 "_law_due" = true) (k4 : PySem.W.keepIn K (.ref f4) = true)
    (a5 : PySem.W.nsIn K mainGlobals "_law_cell" = some (some (.ref f5))) (l5 : K.lookup f5 = some ⟨oc5, od5, .func (PySem.W.fnOf "_law_cell" "_law_cell" (defArgs st__law_cell) (defBody st__law_cell) (defScope st__law_cell) .none kV5 dc5 pm5 an5 cd5 ct5), sl5⟩) (c5 : PySem.W.codeIn K cd5 "_law_cell" = true) (k5 : PySem.W.keepIn K (.ref f5) = true)
    (a6 : PySem.W.nsIn K mainGlobals "is_title" = some (some (.ref f6))) (l6 : K.lookup f6 = some ⟨oc6, od6, .func (PySem.W.fnOf "is_title" "is_title" (defArgs st_is_title) (defBody st_is_title) (defScope st_is_title) .none kV6 dc6 pm6 an6 cd6 ct6), sl6⟩) (c6 : PySem.W.codeIn K cd6 "is_title" = true) (k6 : PySem.W.keepIn K (.ref f6) = true)
    (a7 : PySem.W.nsIn K mainGlobals "need_title" = some (some (.ref f7))) (l7 : K.lookup f7 = some ⟨oc7, od7, .func (PySem.W.fnOf "need_title" "need_title" (defArgs st_need_title) (defBody st_need_title) (defScope st_need_title) .none kV7 dc7 pm7 an7 cd7 ct7), sl7⟩) (c7 : PySem.W.codeIn K cd7 "need_title" = true) (k7 : PySem.W.keepIn K (.ref f7) = true)
    (a8 : PySem.W.nsIn K mainGlobals "sign_of" = some (some (.ref f8))) (l8 : K.lookup f8 = some ⟨oc8, od8, .func (PySem.W.fnOf "sign_of" "sign_of" (defArgs st_sign_of) (defBody st_sign_of) (defScope st_sign_of) .none kV8 dc8 pm8 an8 cd8 ct8), sl8⟩) (c8 : PySem.W.codeIn K cd8 "sign_of" = true) (k8 : PySem.W.keepIn K (.ref f8) = true)
    (a9 : PySem.W.nsIn K mainGlobals "slug" = some (some (.ref f9))) (l9 : K.lookup f9 = some ⟨oc9, od9, .func (PySem.W.fnOf "slug" "slug" (defArgs st_slug) (defBody st_slug) (defScope st_slug) .none kV9 dc9 pm9 an9 cd9 ct9), sl9⟩) (c9 : PySem.W.codeIn K cd9 "slug" = true) (k9 : PySem.W.keepIn K (.ref f9) = true)
    (a10 : PySem.W.nsIn K mainGlobals "law" = some (some (.ref f10))) (l10 : K.lookup f10 = some ⟨oc10, od10, .func (PySem.W.fnOf "law" "law" (defArgs st_law) (defBody st_law) (defScope st_law) .none kV10 dc10 pm10 an10 cd10 ct10), sl10⟩) (c10 : PySem.W.codeIn K cd10 "law" = true) (k10 : PySem.W.keepIn K (.ref f10) = true)
    (z_any : PySem.W.nsIn K mainGlobals "any" = some none) (z_isinstance : PySem.W.nsIn K mainGlobals "isinstance" = some none) (z_len : PySem.W.nsIn K mainGlobals "len" = some none) (z_max : PySem.W.nsIn K mainGlobals "max" = some none) (z_min : PySem.W.nsIn K mainGlobals "min" = some none) (z_range : PySem.W.nsIn K mainGlobals "range" = some none) (z_repr : PySem.W.nsIn K mainGlobals "repr" = some none) (z_str : PySem.W.nsIn K mainGlobals "str" = some none) (z_FIGURES : PySem.W.nsIn K mainGlobals "FIGURES" = some (some (.str "0123456789" t_FIGURES))) (z_LARGE : PySem.W.nsIn K mainGlobals "LARGE" = some (some (.str "ABCDEFGHIJKLMNOPQRSTUVWXYZ" t_LARGE))) (z_LONGEST_TITLE : PySem.W.nsIn K mainGlobals "LONGEST_TITLE" = some (some (.int 150 t_LONGEST_TITLE))) (z_SMALL : PySem.W.nsIn K mainGlobals "SMALL" = some (some (.str "abcdefghijklmnopqrstuvwxyz" t_SMALL)))
    (pure : ∀ ns : List Int, ns.length ≤ 63 → (∀ z ∈ ns, Builtin.Int.intBits z ≤ 1048576) → ∃ cs, m_law [.scr ns] [] = .ok (.bl true) cs) :
    ∃ fd : FuncData, (∀ (s : Shared) (v : Value), BindsTo s fd ⟨[v], []⟩ [("script", v)]) ∧ ∀ base : Heap, K.In base → base.Ns mainGlobals mg → FnOk l.prog w K mg base (L2.CX l.prog w) 4 fa fd ["script"] (spLaw K) := by
  have e := hfa.symm.trans (PySem.W.mg_of X G a10)
  cases e
  have T : Tx K mg := ⟨PySem.W.mg_none_of X G z_any, PySem.W.mg_none_of X G z_isinstance, PySem.W.mg_none_of X G z_len, PySem.W.mg_none_of X G z_max, PySem.W.mg_none_of X G z_min, PySem.W.mg_none_of X G z_range, PySem.W.mg_none_of X G z_repr, PySem.W.mg_none_of X G z_str, ⟨_, PySem.W.mg_of X G z_FIGURES⟩, ⟨_, PySem.W.mg_of X G z_LARGE⟩, ⟨_, PySem.W.mg_of X G z_LONGEST_TITLE⟩, ⟨_, PySem.W.mg_of X G z_SMALL⟩⟩
  have F1 := fun_mk (st := st__law_box) l1 c1 k1
  have b1 := F1.binds (ps := ["cell"]) fun _ _ _ _ _ _ us hl => match us, hl with | [_], _ => rfl
  have F2 := fun_mk (st := st__law_take) l2 c2 k2
  have b2 := F2.binds (ps := ["box", "many"]) fun _ _ _ _ _ _ us hl => match us, hl with | [_, _], _ => rfl
  have F3 := fun_mk (st := st__law_title) l3 c3 k3
  have b3 := F3.binds (ps := ["box"]) fun _ _ _ _ _ _ us hl => match us, hl with | [_], _ => rfl
  have F4 := fun_mk (st := st__law_due) l4 c4 k4
  have b4 := F4.binds (ps := ["title"]) fun _ _ _ _ _ _ us hl => match us, hl with | [_], _ => rfl
  have F5 := fun_mk (st := st__law_cell) l5 c5 k5
  have b5 := F5.binds (ps := ["script", "k"]) fun _ _ _ _ _ _ us hl => match us, hl with | [_, _], _ => rfl
  have F6 := fun_mk (st := st_is_title) l6 c6 k6
  have b6 := F6.binds (ps := ["value"]) fun _ _ _ _ _ _ us hl => match us, hl with | [_], _ => rfl
  have F7 := fun_mk (st := st_need_title) l7 c7 k7
  have b7 := F7.binds (ps := ["title"]) fun _ _ _ _ _ _ us hl => match us, hl with | [_], _ => rfl
  have F8 := fun_mk (st := st_sign_of) l8 c8 k8
  have b8 := F8.binds (ps := ["sign"]) fun _ _ _ _ _ _ us hl => match us, hl with | [_], _ => rfl
  have F9 := fun_mk (st := st_slug) l9 c9 k9
  have b9 := F9.binds (ps := ["title"]) fun _ _ _ _ _ _ us hl => match us, hl with | [_], _ => rfl
  have F10 := fun_mk (st := st_law) l10 c10 k10
  refine ⟨PySem.W.fnOf "law" "law" (defArgs st_law) (defBody st_law) (defScope st_law) .none kV10 dc10 pm10 an10 cd10 ct10, fun s v => .of_eq rfl, fun base _ _ => ?_⟩
  have o__law_box := own_mk F1 (ok__law_box (P := l.prog) (w := w) (base := base) F1 T ) (PySem.W.mg_of X G a1) b1 rfl
  have o__law_take := own_mk F2 (ok__law_take (P := l.prog) (w := w) (base := base) F2 T ) (PySem.W.mg_of X G a2) b2 rfl
  have o__law_title := own_mk F3 (ok__law_title (P := l.prog) (w := w) (base := base) F3 T o__law_take) (PySem.W.mg_of X G a3) b3 rfl
  have o__law_due := own_mk F4 (ok__law_due (P := l.prog) (w := w) (base := base) F4 T ) (PySem.W.mg_of X G a4) b4 rfl
  have o__law_cell := own_mk F5 (ok__law_cell (P := l.prog) (w := w) (base := base) F5 T ) (PySem.W.mg_of X G a5) b5 rfl
  have o_is_title := own_mk F6 (ok_is_title (P := l.prog) (w := w) (base := base) F6 T ) (PySem.W.mg_of X G a6) b6 rfl
  have o_need_title := own_mk F7 (ok_need_title (P := l.prog) (w := w) (base := base) F7 T o_is_title) (PySem.W.mg_of X G a7) b7 rfl
  have o_sign_of := own_mk F8 (ok_sign_of (P := l.prog) (w := w) (base := base) F8 T ) (PySem.W.mg_of X G a8) b8 rfl
  have o_slug := own_mk F9 (ok_slug (P := l.prog) (w := w) (base := base) F9 T o_need_title o_sign_of) (PySem.W.mg_of X G a9) b9 rfl
  exact law_of (ok_law (P := l.prog) (w := w) (base := base) F10 T o__law_box o__law_cell o__law_title o__law_due o__law_take o_slug) pure
end
end T_k59

namespace T_k59
open PySem L2 L3
theorem box_rp {z : Int} {cs : Cells} {P : D → Cells → Prop} {X : KX} (h : P (.loc cs.length) (cs ++ [.lst [.int (if z - 10 ^ 18 > 0 then z - 10 ^ 18 else 0), .int (z % 2147483629), .int 0]])) : RP (m__law_box [.int z] cs) P X := by
  unfold m__law_box mb__law_box
  simp only [rp_def, List.map_cons, List.map_nil, List.length_cons, List.length_nil, Nat.reduceAdd, Nat.reduceSub, List.replicate_zero, List.replicate_succ, List.append_nil, List.cons_append, List.nil_append,
    sp_ret, rp_list, rap_cons, rap_nil, rp_bi, rp_c, rp_op2, rp_op1, rp_max, rp_varM, List.getElem?_cons_zero, List.getElem?_cons_succ, rp_sub, rp_pow, rp_mod, Int.reduceLT, Int.reduceLE, Int.reduceNeg, true_and, and_true, and_self, Int.reduceToNat, rp_mkLt, sizeLine_eq, Nat.reduceLeDiff]
  exact h
theorem take_rp {n B : Nat} {many : Int} {cs : Cells} {P : D → Cells → Prop} {X : KX} (hb : Bx cs n B) (hB : B < 1000000) (h1 : 0 < many) (h2 : many < big)
    (hP : ∀ (r : Int) (c' : Cells), 0 ≤ r → r < many → Bx c' n (B + 1) → (∀ m, m ≠ n → c'[m]? = cs[m]?) → c'.length = cs.length → P (.int r) c') : RP (m__law_take [.loc n, .int many] cs) P X := by
  obtain ⟨a, b, c, hc, hb0, hb1, hc0, hc1⟩ := hb
  have hl := loc_list hc
  have hd : 0 < many ∧ many < big := ⟨h1, h2⟩
  unfold m__law_take mb__law_take
  simp only [rp_def, List.map_cons, List.map_nil, List.length_cons, List.length_nil, Nat.reduceAdd, Nat.reduceSub, List.replicate_zero, List.replicate_succ, List.append_nil, List.cons_append, List.nil_append, List.set_cons_zero, List.set_cons_succ,
    sp_ret, sp_seq, sp_asg, sp_if, sp_put, sp_nx, SP_brS, rp_c, rp_op2, rp_op1, rp_varM, List.getElem?_cons_zero, List.getElem?_cons_succ, rp_ixLocM, hl, at3_0, at3_1, at3_2, rp_gt, decide_eq_true_eq, rp_mod, h1, rp_fdiv, hd, and_self]
  split
  · obtain ⟨c4, e4, q4, k4, l4⟩ := put_at (v := .int (a / many)) hc (k := 0) (j := 0) rfl
    exact ⟨c4, e4, hP _ c4 (Int.emod_nonneg _ (by omega)) (Int.emod_lt_of_pos _ h1) ⟨_, b, c, q4, hb0, hb1, hc0, by omega⟩ k4 l4⟩
  · rename_i ha
    simp only [rp_addI]
    obtain ⟨c4, e4, q4, k4, l4⟩ := put_at (v := .int (c + 1)) hc (k := 2) (j := 2) rfl
    refine ⟨c4, e4, ?_⟩
    have hl4 := loc_list q4
    simp only [List.set_cons_zero, List.set_cons_succ] at hl4 q4
    simp only [hl4, at3_0, at3_1, at3_2, rp_c, rp_op2, rp_varM, List.getElem?_cons_zero, List.getElem?_cons_succ, rp_ixLocM, List.set_cons_zero, List.set_cons_succ]
    have m1 : ∀ y : Int, (-big < 7919 ∧ 7919 < big) ∨ (-big < y ∧ y < big) := fun _ => .inl (by decide)
    have p1 : 0 ≤ (5 : Int) ∧ (5 : Int) ≤ 1000000 ∧ -big < b + 7919 * (c + 1) + 125 ∧ b + 7919 * (c + 1) + 125 < big := by unfold big; omega
    have m2 : ∀ y : Int, (-big < 104729 ∧ 104729 < big) ∨ (-big < y ∧ y < big) := fun _ => .inl (by decide)
    have m3 : ∀ x : Int, (-big < x ∧ x < big) ∨ (-big < c + 1 ∧ c + 1 < big) := fun _ => .inr (by unfold big; omega)
    have m4 : ∀ y : Int, (-big < 536870909 ∧ 536870909 < big) ∨ (-big < y ∧ y < big) := fun _ => .inl (by decide)
    have d8 : 0 < (8 : Int) ∧ (8 : Int) < big := by decide
    have d4 : 0 < (4 : Int) ∧ (4 : Int) < big := by decide
    rw [rp_mulI (m1 _), rp_addI, rp_addI, rp_pow p1, rp_mod (by decide)]
    generalize hone : (b + 7919 * (c + 1) + 125) ^ Int.toNat 5 % 2147483647 = one
    have o0 : 0 ≤ one := by rw [← hone]; exact Int.emod_nonneg _ (by decide)
    have o1 : one < 2147483647 := by rw [← hone]; exact Int.emod_lt_of_pos _ (by decide)
    have hcc : 0 ≤ (c + 1) * (c + 1) ∧ (c + 1) * (c + 1) ≤ 1000001 * 1000001 := ⟨Int.mul_nonneg (by omega) (by omega), Int.mul_le_mul (by omega) (by omega) (by omega) (by decide)⟩
    have hass : 104729 * (c + 1) * (c + 1) = 104729 * ((c + 1) * (c + 1)) := Int.mul_assoc _ _ _
    have p2 : 0 ≤ (3 : Int) ∧ (3 : Int) ≤ 1000000 ∧ -big < one / 8 + 104729 * (c + 1) * (c + 1) + 11 ∧ one / 8 + 104729 * (c + 1) * (c + 1) + 11 < big := by
      rw [hass]; unfold big; omega
    rw [rp_fdiv d8]
    simp only [hl4, at3_2]
    rw [rp_mulI (m2 _)]
    simp only [hl4, at3_2]
    rw [rp_mulI (m3 _), rp_addI, rp_addI, rp_pow p2, rp_mod (by decide), rp_fdiv d4, rp_fdiv d4, rp_mulI (m4 _), rp_addI, rp_mod h1]
    exact hP _ c4 (Int.emod_nonneg _ (by omega)) (Int.emod_lt_of_pos _ h1) ⟨a, b, c + 1, q4, hb0, hb1, by omega, by omega⟩ k4 l4
theorem cell_rp {ns : List Int} {k : Int} {cs : Cells} {P : D → Cells → Prop} {X : KX} (h0 : 0 ≤ k) (h : ∀ z, P (.int z) cs) : RP (m__law_cell [.scr ns, .int k] cs) P X := by
  unfold m__law_cell mb__law_cell
  simp only [rp_def, List.map_cons, List.map_nil, List.length_cons, List.length_nil, Nat.reduceAdd, Nat.reduceSub, List.replicate_zero, List.replicate_succ, List.append_nil, List.cons_append, List.nil_append,
    sp_ret, sp_seq, sp_if, sp_nx, SP_brS, rap_cons, rap_nil, rp_bi, rp_c, rp_op2, rp_varM, List.getElem?_cons_zero, List.getElem?_cons_succ, rp_lenScr, rp_lt, decide_eq_true_eq]
  split
  · rename_i hk
    obtain ⟨z, e, _⟩ := at_mid (ds := ns) h0 hk
    rw [rp_ixScr e]
    exact h z
  · rw [rp_mulI (.inl (by decide)), rp_addI]
    exact h _

end T_k59

namespace T_k59
open PySem L2 L3
/-! the plain law -/
def lo (c : Nat) : Nat := if 65 ≤ c ∧ c ≤ 90 then c + 32 else c
def isA (c : Nat) : Bool := (decide (97 ≤ c) && decide (c ≤ 122)) || (decide (48 ≤ c) && decide (c ≤ 57))
def sgn (c : Nat) : Nat := if isA (lo c) then lo c else 32
def dst (s : List Nat × Bool) (c : Nat) : List Nat × Bool := if isA (lo c) then (s.1 ++ (if s.2 = true ∧ s.1 ≠ [] then [45] else []) ++ [lo c], false) else (s.1, true)
def dueL (l : List Nat) : List Nat := (l.foldl dst ([], false)).1
def slugL (l : List Nat) : List Nat := TL.joinL [45] (wordsL (l.map sgn))
theorem sp32 : Unicode.isSpace 32 = true := by decide +kernel
theorem spA : ∀ c, c < 128 → isA c = true → Unicode.isSpace c = false := by decide +kernel
theorem isA_lt {c : Nat} (h : isA c = true) : c < 128 := by
  unfold isA at h; simp at h; omega
theorem joinL_ne {S : List Nat} : ∀ {ws : List (List Nat)}, ws ≠ [] → (∀ w ∈ ws, w ≠ []) → TL.joinL S ws ≠ []
  | [], h, _ => absurd rfl h
  | [p], _, h => h p (by simp)
  | p :: q :: r, _, h => by
    show p ++ _ ≠ []
    intro e
    exact h p (by simp) (List.append_eq_nil_iff.mp e).1
theorem joinL_last {S u : List Nat} {c : Nat} : ∀ ws : List (List Nat), TL.joinL S (ws ++ [u ++ [c]]) = TL.joinL S (ws ++ [u]) ++ [c]
  | [] => rfl
  | [p] => by show p ++ (S ++ (u ++ [c])) = p ++ (S ++ u) ++ [c]; simp
  | p :: q :: r => by
    show p ++ (S ++ TL.joinL S (q :: r ++ [u ++ [c]])) = p ++ (S ++ TL.joinL S (q :: r ++ [u])) ++ [c]
    rw [joinL_last (q :: r)]; simp
theorem joinL_new {S : List Nat} {u : List Nat} : ∀ {ws : List (List Nat)}, ws ≠ [] → TL.joinL S (ws ++ [u]) = TL.joinL S ws ++ S ++ u
  | [], h => absurd rfl h
  | [p], _ => by show p ++ (S ++ u) = _; simp [TL.joinL]
  | p :: q :: r, _ => by
    show p ++ (S ++ TL.joinL S (q :: r ++ [u])) = p ++ (S ++ TL.joinL S (q :: r)) ++ S ++ u
    rw [joinL_new (ws := q :: r) (by simp)]; simp
structure Rel (w : List (List Nat) × List Nat) (s : List Nat × Bool) : Prop where
  r : s.1 = TL.joinL [45] (TL.wfin w)
  ne : ∀ x ∈ w.1, x ≠ []
  al : ∀ x ∈ TL.wfin w, ∀ c ∈ x, isA c = true
  g1 : w.2 ≠ [] → s.2 = false
  g2 : w.2 = [] → s.2 = true ∨ w.1 = []
theorem rel_step {w : List (List Nat) × List Nat} {s : List Nat × Bool} (R : Rel w s) (c : Nat) : Rel (TL.wstep w (sgn c)) (dst s c) := by
  obtain ⟨ws, u⟩ := w
  obtain ⟨r, g⟩ := s
  obtain ⟨hr, ne, al, g1, g2⟩ := R
  simp only at hr ne g1 g2
  unfold sgn dst
  by_cases ha : isA (lo c) = true
  · rw [if_pos ha, if_pos ha]
    have e : TL.wstep (ws, u) (lo c) = (ws, u ++ [lo c]) := by
      unfold TL.wstep
      rw [if_neg (by rw [spA _ (isA_lt ha) ha]; exact Bool.false_ne_true)]
    rw [e]
    have wf : TL.wfin (ws, u ++ [lo c]) = ws ++ [u ++ [lo c]] := by unfold TL.wfin; rw [if_neg (by simp)]
    refine ⟨?_, ne, ?_, fun _ => rfl, fun h => by simp at h⟩
    · simp only
      rw [wf, joinL_last]
      by_cases hu : u = []
      · subst hu
        have w0 : TL.wfin (ws, ([] : List Nat)) = ws := by unfold TL.wfin; rw [if_pos rfl]
        rw [w0] at hr
        by_cases hw : ws = []
        · subst hw
          have : r = [] := hr
          subst this
          simp [TL.joinL]
        · have hg : g = true := (g2 rfl).resolve_right hw
          have hr0 : r ≠ [] := by rw [hr]; exact joinL_ne hw ne
          rw [if_pos ⟨hg, hr0⟩, joinL_new hw, ← hr]
          simp
      · have hg := g1 hu
        have w0 : TL.wfin (ws, u) = ws ++ [u] := by unfold TL.wfin; rw [if_neg hu]
        rw [w0] at hr
        rw [if_neg (by rw [hg]; simp), ← hr]
        simp
    · rw [wf]
      intro x hx d hd
      rcases List.mem_append.mp hx with hx | hx
      · refine al x ?_ d hd
        unfold TL.wfin
        split
        · exact hx
        · exact List.mem_append_left _ hx
      · rw [List.mem_singleton.mp hx] at hd
        rcases List.mem_append.mp hd with hd | hd
        · refine al u ?_ d hd
          unfold TL.wfin
          rw [if_neg (List.ne_nil_of_mem hd)]
          simp
        · rw [List.mem_singleton.mp hd]; exact ha
  · rw [if_neg ha, if_neg ha]
    unfold TL.wstep
    rw [if_pos sp32]
    by_cases hu : u = []
    · subst hu
      rw [if_pos rfl]
      exact ⟨hr, ne, al, fun h => absurd rfl h, fun _ => .inl rfl⟩
    · rw [if_neg hu]
      have w0 : TL.wfin (ws, u) = ws ++ [u] := by unfold TL.wfin; rw [if_neg hu]
      have w1 : TL.wfin (ws ++ [u], ([] : List Nat)) = ws ++ [u] := by unfold TL.wfin; rw [if_pos rfl]
      rw [w0] at hr al
      refine ⟨by rw [w1]; exact hr, fun x hx => ?_, by rw [w1]; exact al, fun h => absurd rfl h, fun _ => .inl rfl⟩
      rcases List.mem_append.mp hx with hx | hx
      · exact ne x hx
      · rw [List.mem_singleton.mp hx]; exact hu
theorem rel_all : ∀ (l : List Nat) {w : List (List Nat) × List Nat} {s : List Nat × Bool}, Rel w s → Rel ((l.map sgn).foldl TL.wstep w) (l.foldl dst s)
  | [], _, _, R => R
  | c :: r, _, _, R => rel_all r (rel_step R c)
theorem rel0 : Rel ([], []) ([], false) := ⟨rfl, (fun _ h => by cases h), (fun _ h => by cases h), (fun h => absurd rfl h), (fun _ => .inr rfl)⟩
theorem slug_due (l : List Nat) : slugL l = dueL l := ((rel_all l rel0).r).symm
theorem words_al (l : List Nat) : ∀ x ∈ wordsL (l.map sgn), ∀ c ∈ x, isA c = true := (rel_all l rel0).al
theorem words_ne (l : List Nat) : ∀ x ∈ wordsL (l.map sgn), x ≠ [] := by
  have R := rel_all l rel0
  intro x hx
  unfold wordsL TL.wfin at hx
  split at hx
  · exact R.ne x hx
  · rename_i h
    rcases List.mem_append.mp hx with hx | hx
    · exact R.ne x hx
    · rw [List.mem_singleton.mp hx]; exact h
theorem joinL_map {f : Nat → Nat} {S : List Nat} : ∀ ws : List (List Nat), (TL.joinL S ws).map f = TL.joinL (S.map f) (ws.map (List.map f))
  | [] => rfl
  | [p] => rfl
  | p :: q :: r => by
    show (p ++ (S ++ TL.joinL S (q :: r))).map f = _
    rw [List.map_append, List.map_append, joinL_map (q :: r)]
    rfl
theorem lo_A {c : Nat} (h : isA c = true) : lo c = c := by
  unfold lo; rw [if_neg]; unfold isA at h; simp at h; omega
theorem sgn_A {c : Nat} (h : isA c = true) : sgn c = c := by
  unfold sgn; rw [lo_A h, if_pos h]
theorem slug_idem (l : List Nat) (h : slugL l ≠ []) : slugL (slugL l) = slugL l := by
  have hal := words_al l
  have hne := words_ne l
  unfold slugL at h ⊢
  generalize wordsL (l.map sgn) = ws at h hal hne
  have hw : ws ≠ [] := fun e => h (by rw [e]; rfl)
  have e1 : (TL.joinL [45] ws).map sgn = TL.joinL [32] ws := by
    rw [joinL_map]
    have : ws.map (List.map sgn) = ws := by
      conv => rhs; rw [← List.map_id ws]
      refine List.map_congr_left fun w hw => ?_
      conv => rhs; rw [← List.map_id w]
      exact List.map_congr_left fun c hc => by rw [sgn_A (hal w hw c hc)]; rfl
    rw [this]
    rfl
  rw [e1]
  unfold wordsL
  rw [TL.wfold_join ws [] hw fun p hp => ⟨hne p hp, fun c hc => spA c (isA_lt (hal p hp c hc)) (hal p hp c hc)⟩]
  rfl
/-- what is known of a due slug -/
theorem due_facts (l : List Nat) : (dueL l).length ≤ l.length ∧ (∀ c ∈ dueL l, isA c = true ∨ c = 45) ∧ (∀ c ∈ l, isA (lo c) = true → lo c ∈ dueL l) ∧ (dueL l ≠ [] → ∃ c ∈ l, isA (lo c) = true) := by
  have key : ∀ (l : List Nat) (s : List Nat × Bool) (n : Nat), s.1.length + (if s.2 = true then 1 else 0) ≤ n → (∀ c ∈ s.1, isA c = true ∨ c = 45) →
      ((l.foldl dst s).1.length + (if (l.foldl dst s).2 = true then 1 else 0) ≤ n + l.length) ∧ (∀ c ∈ (l.foldl dst s).1, isA c = true ∨ c = 45) ∧ (∀ c ∈ s.1, c ∈ (l.foldl dst s).1) ∧ (∀ c ∈ l, isA (lo c) = true → lo c ∈ (l.foldl dst s).1) ∧ ((∀ c ∈ l, ¬ isA (lo c) = true) → (l.foldl dst s).1 = s.1) := by
    intro l
    induction l with
    | nil => intro s n h1 h2; exact ⟨h1, h2, fun _ h => h, fun _ h => by simp at h, fun _ => rfl⟩
    | cons c l ih =>
      intro s n h1 h2
      have st : (dst s c).1.length + (if (dst s c).2 = true then 1 else 0) ≤ n + 1 ∧ (∀ d ∈ (dst s c).1, isA d = true ∨ d = 45) ∧ (∀ d ∈ s.1, d ∈ (dst s c).1) ∧ (isA (lo c) = true → lo c ∈ (dst s c).1) ∧ (¬ isA (lo c) = true → (dst s c).1 = s.1) := by
        unfold dst
        by_cases ha : isA (lo c) = true
        · rw [if_pos ha]
          refine ⟨?_, fun d hd => ?_, fun d hd => by simp [hd], fun _ => by simp, fun h => absurd ha h⟩
          · simp only [List.length_append, List.length_singleton, Bool.false_eq_true, if_false]
            by_cases hg : s.2 = true ∧ s.1 ≠ []
            · rw [if_pos hg]; rw [if_pos hg.1] at h1; simp; omega
            · rw [if_neg hg]; simp; split at h1 <;> omega
          · simp only [List.mem_append, List.mem_singleton] at hd
            rcases hd with (hd | hd) | hd
            · exact h2 d hd
            · split at hd
              · exact .inr (List.mem_singleton.mp hd)
              · cases hd
            · rw [hd]; exact .inl ha
        · rw [if_neg ha]
          refine ⟨?_, h2, fun d hd => hd, fun h => absurd h ha, fun _ => rfl⟩
          simp only [if_true]
          split at h1 <;> omega
      obtain ⟨a1, a2, a3, a4, a5⟩ := ih (dst s c) (n + 1) st.1 st.2.1
      rw [List.foldl_cons]
      refine ⟨by rw [List.length_cons]; omega, a2, fun d hd => a3 d (st.2.2.1 d hd), fun d hd hA => ?_, fun h => ?_⟩
      · rcases List.mem_cons.mp hd with rfl | hd
        · exact a3 _ (st.2.2.2.1 hA)
        · exact a4 d hd hA
      · rw [a5 fun d hd => h d (List.mem_cons_of_mem _ hd), st.2.2.2.2 (h c (by simp))]
  obtain ⟨k1, k2, _, k4, k5⟩ := key l ([], false) 0 (by simp) (fun _ h => by cases h)
  refine ⟨?_, k2, k4, fun h => ?_⟩
  · unfold dueL; split at k1 <;> omega
  · by_cases hx : ∃ c ∈ l, isA (lo c) = true
    · exact hx
    · exact absurd (k5 fun c hc hA => hx ⟨c, hc, hA⟩) h
end T_k59

namespace T_k59
open PySem L2 L3
abbrev SM : List Nat := [97, 98, 99, 100, 101, 102, 103, 104, 105, 106, 107, 108, 109, 110, 111, 112, 113, 114, 115, 116, 117, 118, 119, 120, 121, 122]
abbrev LG : List Nat := [65, 66, 67, 68, 69, 70, 71, 72, 73, 74, 75, 76, 77, 78, 79, 80, 81, 82, 83, 84, 85, 86, 87, 88, 89, 90]
abbrev FG : List Nat := [48, 49, 50, 51, 52, 53, 54, 55, 56, 57]
abbrev AN : List Nat := [97, 98, 99, 100, 101, 102, 103, 104, 105, 106, 107, 108, 109, 110, 111, 112, 113, 114, 115, 116, 117, 118, 119, 120, 121, 122, 48, 49, 50, 51, 52, 53, 54, 55, 56, 57]
theorem kind_tab : ∀ c, c < 128 → (decide (c ∈ SM) || (decide (c ∈ LG) || decide (c ∈ FG))) = isA (lo c) := by decide +kernel
theorem an_tab : ∀ c, c < 128 → decide (lo c ∈ AN) = isA (lo c) := by decide +kernel
theorem sgn_tab : ∀ c, c < 128 → (if c ∈ LG then SM[LG.idxOf c]? else some (if c ∈ SM ∨ c ∈ FG then c else 32)) = some (sgn c) := by decide +kernel
theorem isi_s {cs : Cells} {l : List Nat} {P : D → Cells → Prop} {X : KX} : RP (isiD "str" cs (.str l)) P X = P (.bl true) cs := isi_str
def Good (l : List Nat) : Prop := 1 ≤ l.length ∧ l.length ≤ 150 ∧ (∀ c ∈ l, c < 128) ∧ ∃ c ∈ l, isA (lo c) = true
theorem title_ok {l : List Nat} (g : Good l) {cs : Cells} {P : D → Cells → Prop} {X : KX} (k : P (.bl true) cs) : RP (m_is_title [.str l] cs) P X := by
  obtain ⟨g1, g2, g3, c0, g4, g5⟩ := g
  have hl : l.length ≤ sizeLine := by rw [sizeLine_eq]; omega
  unfold m_is_title mb_is_title
  simp only [rp_def, List.map_cons, List.map_nil, List.length_cons, List.length_nil, Nat.reduceAdd, Nat.reduceSub, List.replicate_zero, List.replicate_succ, List.append_nil, List.cons_append, List.nil_append,
    sp_ret, sp_seq, sp_if, sp_nx, SP_brS, rap_cons, rap_nil, rp_bi, rp_c, rp_op2, rp_op1, rp_not, rp_or, rp_varM, List.getElem?_cons_zero, List.getElem?_cons_succ, isi_str, rp_notD, RP_br, RP_ok, Bool.not_true, cond_false, rp_chain, rp_lenS hl, rp_le, RP_bind, rp_lc, wp_seq]
  have a1 : decide ((1 : Int) ≤ (l.length : Int)) = true := by simp; omega
  have a2 : decide ((l.length : Int) ≤ 150) = true := by simp; omega
  simp only [a1, a2, cond_true, Bool.not_true, Bool.false_eq_true, if_false]
  rw [lc_map (g := fun d => match d with | .str [c] => .bl (decide (c ∈ SM) || (decide (c ∈ LG) || decide (c ∈ FG))) | _ => .non) trivial ?_]
  · have e1 : (List.map (fun d => match d with | D.str [c] => D.bl (decide (c ∈ SM) || (decide (c ∈ LG) || decide (c ∈ FG))) | x => D.non) (List.map (fun ch => D.str [ch]) l)) = (l.map fun c => (decide (c ∈ SM) || (decide (c ∈ LG) || decide (c ∈ FG)))).map D.bl := by
      rw [List.map_map, List.map_map]; rfl
    rw [e1]
    show RP (mkL false cs _) _ _
    rw [rp_mkLf (by rw [List.length_map, List.length_map]; exact hl), rp_anyL]
    have : ((l.map fun c => (decide (c ∈ SM) || (decide (c ∈ LG) || decide (c ∈ FG)))).any _root_.id) = true := by
      rw [List.any_map, List.any_eq_true]
      exact ⟨c0, g4, by
        show (decide (c0 ∈ SM) || (decide (c0 ∈ LG) || decide (c0 ∈ FG))) = true
        rw [kind_tab c0 (g3 c0 g4)]; exact g5⟩
    rw [this]
    exact k
  · intro d hd
    obtain ⟨c, hc, rfl⟩ := List.mem_map.mp hd
    refine ⟨_, rfl, rfl, ?_⟩
    have i1 : ∀ (S : List Nat) (q : Nat) (env : L3.Env), env[1]? = some (some (.str [c])) → op2 inD (eVar 1) (eC (.str S)) env cs = .ok (.bl (decide (c ∈ S))) cs := fun S q env h => by
      unfold op2 eVar; rw [h]; rfl
    unfold eOr
    rw [i1 SM 0 _ rfl, R.bind_ok]
    cases h1 : decide (c ∈ SM) with
    | true => simp only [brD_true, h1, Bool.true_or]
    | false =>
      simp only [brD_false, h1, Bool.false_or]
      rw [i1 LG 0 _ rfl, R.bind_ok]
      cases h2 : decide (c ∈ LG) with
      | true => simp only [brD_true, h2, Bool.true_or]
      | false =>
        simp only [brD_false, h2, Bool.false_or]
        refine i1 FG 0 _ ?_
        rfl
theorem need_ok {l : List Nat} (g : Good l) {cs : Cells} {P : D → Cells → Prop} {X : KX} (k : P .non cs) : RP (m_need_title [.str l] cs) P X := by
  unfold m_need_title mb_need_title
  simp only [rp_def, List.map_cons, List.map_nil, List.length_cons, List.length_nil, Nat.reduceAdd, Nat.reduceSub, List.replicate_zero, List.replicate_succ, List.append_nil, List.cons_append, List.nil_append,
    sp_if, rp_not, rp_call, rap_cons, rap_nil, rp_varM, List.getElem?_cons_zero]
  refine title_ok g ?_
  rw [rp_notD]
  simp only [Bool.not_true, SP_brS, Bool.false_eq_true, if_false, sp_nx]
  exact k
theorem sign_eq {c : Nat} (h : c < 128) (cs : Cells) : m_sign_of [.str [c]] cs = .ok (.str [sgn c]) cs := by
  have hs := sgn_tab c h
  suffices q : RP (m_sign_of [.str [c]] cs) (fun d c' => d = .str [sgn c] ∧ c' = cs) noX by
    obtain ⟨d, c', e, rfl, rfl⟩ := q.get
    exact e
  unfold m_sign_of mb_sign_of
  simp only [rp_def, List.map_cons, List.map_nil, List.length_cons, List.length_nil, Nat.reduceAdd, Nat.reduceSub, List.replicate_zero, List.replicate_succ, List.append_nil, List.cons_append, List.nil_append,
    sp_seq, sp_if, sp_ret, sp_nx, rp_op2, rp_c, rp_varM, List.getElem?_cons_zero, rp_inS, SP_brS, decide_eq_true_eq]
  by_cases h1 : c ∈ LG
  · rw [if_pos h1] at hs ⊢
    simp only [rp_m1, rp_c, rp_varM, List.getElem?_cons_zero]
    rw [rp_six h1]
    have hi : LG.idxOf c < SM.length := by have := List.idxOf_lt_length_of_mem h1; exact this
    have ha : atI SM ((LG.idxOf c : Nat) : Int) = some (sgn c) := by
      unfold atI ixN
      rw [if_pos (by omega), if_pos (by omega)]
      simpa using hs
    rw [rp_ixS (by rw [sizeLine_eq]; decide) ha]
    exact ⟨rfl, rfl⟩
  · rw [if_neg h1] at hs ⊢
    simp only [rp_if, rp_or, rp_op2, rp_c, rp_varM, List.getElem?_cons_zero, rp_inS, RP_br, RP_ok]
    simp only [Option.some.injEq] at hs
    by_cases h2 : c ∈ SM
    · rw [if_pos (.inl h2)] at hs
      simp only [h2, decide_true, cond_true, rp_varM, List.getElem?_cons_zero]
      rw [← hs]; exact ⟨rfl, trivial⟩
    · by_cases h3 : c ∈ FG
      · rw [if_pos (.inr h3)] at hs
        simp only [h2, h3, decide_false, decide_true, cond_true, cond_false, rp_varM, List.getElem?_cons_zero, rp_op2, rp_c, rp_inS]
        rw [← hs]; exact ⟨rfl, trivial⟩
      · rw [if_neg (fun h => h.elim h2 h3)] at hs
        simp only [h2, h3, decide_false, cond_false, rp_varM, List.getElem?_cons_zero, rp_op2, rp_c, rp_inS]
        rw [← hs]; exact ⟨rfl, trivial⟩
end T_k59

namespace T_k59
open PySem L2 L3
theorem words_w (l : List Nat) : ((wordsL l).map (·.length)).sum + (wordsL l).length ≤ l.length + 1 := by
  have h := StrLaws.words_weight ⟨l.toArray⟩
  have e : (Txt.words ⟨l.toArray⟩).map TL.tl = wordsL l := TL.words_tl _
  have e2 : (⟨l.toArray⟩ : Str).length = l.length := str_len l
  rw [← e, List.map_map, List.length_map]
  have e3 : (Txt.words ⟨l.toArray⟩).map ((fun x : List Nat => x.length) ∘ TL.tl) = (Txt.words ⟨l.toArray⟩).map (·.length) := List.map_congr_left fun z _ => (TL.len_tl z).symm
  rw [e3]
  omega
theorem flat_ones (f : Nat → Nat) : ∀ l : List Nat, (l.map fun c => [f c]).flatten = l.map f
  | [] => rfl
  | c :: r => by rw [List.map_cons, List.flatten_cons, flat_ones f r]; rfl
theorem slug_rp {l : List Nat} (g : Good l) {cs : Cells} {P : D → Cells → Prop} {X : KX} (k : P (.str (dueL l)) cs) : RP (m_slug [.str l] cs) P X := by
  have g' := g
  obtain ⟨g1, g2, g3, _⟩ := g'
  unfold m_slug mb_slug
  simp only [rp_def, List.map_cons, List.map_nil, List.length_cons, List.length_nil, Nat.reduceAdd, Nat.reduceSub, List.replicate_zero, List.replicate_succ, List.append_nil, List.cons_append, List.nil_append,
    sp_seq, sp_drop, sp_ret, rp_call, rap_cons, rap_nil, rp_varM, List.getElem?_cons_zero]
  refine need_ok g ?_
  simp only [rp_m1, rp_m0, rp_c, rp_lc, wp_seq, rp_varM, List.getElem?_cons_zero]
  rw [lc_map (g := fun d => match d with | .str [c] => .str [sgn c] | _ => .non) trivial ?_]
  · have e1 : (List.map (fun d => match d with | D.str [c] => D.str [sgn c] | x => D.non) (List.map (fun ch => D.str [ch]) l)) = (l.map fun c => [sgn c]).map D.str := by
      rw [List.map_map, List.map_map]; rfl
    rw [e1]
    show RP (mkL false cs _) _ _
    have hone : ∀ z ∈ l.map (fun c => [sgn c]), z.length = 1 := fun z hz => by
      obtain ⟨c, _, rfl⟩ := List.mem_map.mp hz; rfl
    have hfl : (l.map fun c => [sgn c]).flatten = l.map sgn := flat_ones sgn l
    rw [rp_mkLf (by rw [List.length_map, List.length_map, sizeLine_eq]; omega), rp_join seq_lst (strsOf_map _) (by rw [ones_sum hone]; simp; omega), joinL_nil, hfl]
    have hw := words_w (l.map sgn)
    rw [List.length_map] at hw
    show RP (wordsD false cs _) _ _
    rw [rp_words (by rw [List.length_map, sizeLine_eq]; omega), rp_mkLf (by rw [List.length_map, sizeLine_eq]; omega), rp_join seq_lst (strsOf_map _) (by simp only [List.length_cons, List.length_nil]; omega)]
    have : TL.joinL [45] (wordsL (l.map sgn)) = dueL l := slug_due l
    rw [this]
    exact k
  · intro d hd
    obtain ⟨c, hc, rfl⟩ := List.mem_map.mp hd
    refine ⟨_, rfl, rfl, ?_⟩
    show m_sign_of [.str [c]] cs = _
    exact sign_eq (g3 c hc) cs
theorem due_rp {l : List Nat} (hl : l.length ≤ 1000) (hc : ∀ c ∈ l, c < 128) {cs : Cells} {P : D → Cells → Prop} {X : KX} (k : P (.str (dueL l)) cs) : RP (m__law_due [.str l] cs) P X := by
  unfold m__law_due mb__law_due
  simp only [rp_def, List.map_cons, List.map_nil, List.length_cons, List.length_nil, Nat.reduceAdd, Nat.reduceSub, List.replicate_zero, List.replicate_succ, List.append_nil, List.cons_append, List.nil_append, List.set_cons_zero, List.set_cons_succ,
    sp_seq, sp_asg, sp_for, sp_ret, wp_seq, rp_c, rp_varM, List.getElem?_cons_zero, List.getElem?_cons_succ]
  refine for_inv (fun i env c => ∃ e3 e4, env = [some (.str l), some (.str ((l.take i).foldl dst ([], false)).1), some (.bl ((l.take i).foldl dst ([], false)).2), e3, e4] ∧ c = cs) ⟨none, none, rfl, rfl⟩ ?_ ?_
  · rintro env c ⟨e3, e4, rfl, rfl⟩
    refine ⟨trivial, ?_⟩
    rw [List.length_map, List.take_length]
    exact k
  · rintro i d env c hi ⟨e3, e4, rfl, rfl⟩
    refine ⟨trivial, _, rfl, ?_⟩
    rw [List.getElem?_map] at hi
    cases hch : l[i]? with
    | none => rw [hch] at hi; cases hi
    | some ch =>
      rw [hch] at hi
      simp only [Option.map_some, Option.some.injEq] at hi
      subst hi
      have hm := hc ch (List.mem_of_getElem? hch)
      have ht : (l.take (i + 1)).foldl dst ([], false) = dst ((l.take i).foldl dst ([], false)) ch := by
        rw [List.take_add_one, hch, List.foldl_append]; rfl
      have hlen : ((l.take i).foldl dst ([], false)).1.length ≤ 1000 := Nat.le_trans (due_facts (l.take i)).1 (by rw [List.length_take]; omega)
      generalize (l.take i).foldl dst ([], false) = s at ht hlen
      obtain ⟨r, gp⟩ := s
      simp only at hlen
      have hA := an_tab ch hm
      simp only [sp_seq, sp_asg, sp_if, rp_m0, rp_op2, rp_c, rp_varM, List.set_cons_zero, List.set_cons_succ, List.getElem?_cons_zero, List.getElem?_cons_succ, rp_lower1 hm, rp_inS, SP_brS]
      have hlo : (if 65 ≤ ch ∧ ch ≤ 90 then ch + 32 else ch) = lo ch := rfl
      rw [hlo, hA]
      have hd2 : dst (r, gp) ch = if isA (lo ch) then (r ++ (if gp = true ∧ r ≠ [] then [45] else []) ++ [lo ch], false) else (r, true) := rfl
      rw [hd2] at ht
      by_cases ha : isA (lo ch) = true
      · rw [if_pos ha] at ht ⊢
        simp only [rp_if, rp_and, rp_op2, rp_c, rp_varM, List.getElem?_cons_zero, List.getElem?_cons_succ, RP_br, rp_neS, RP_ok]
        have fin : ∀ x : List Nat, x.length ≤ 1 → x = (if gp = true ∧ r ≠ [] then [45] else []) → ∃ e3 e4, ([some (D.str l), some (D.str (r ++ x ++ [lo ch])), some (D.bl false), some (D.str [ch]), some (D.str [lo ch])] : L3.Env) = [some (.str l), some (.str ((l.take (i + 1)).foldl dst ([], false)).1), some (.bl ((l.take (i + 1)).foldl dst ([], false)).2), e3, e4] ∧ c = c := by
          intro x _ hx
          rw [ht, hx]
          exact ⟨_, _, rfl, rfl⟩
        cases gp with
        | false =>
          simp only [cond_false]
          rw [rp_addS (by rw [sizeLine_eq]; simp; omega), rp_addS (by rw [sizeLine_eq]; simp; omega)]
          exact fin [] (by simp) (by simp)
        | true =>
          simp only [cond_true]
          by_cases hr : r = []
          · subst hr
            simp only [decide_true, Bool.not_true, cond_false]
            rw [rp_addS (by rw [sizeLine_eq]; simp), rp_addS (by rw [sizeLine_eq]; simp)]
            exact fin [] (by simp) (by simp)
          · simp only [hr, decide_false, Bool.not_false, cond_true]
            rw [rp_addS (by rw [sizeLine_eq]; simp; omega), rp_addS (by rw [sizeLine_eq]; simp; omega)]
            exact fin [45] (by simp) (by simp [hr])
      · rw [if_neg ha] at ht ⊢
        rw [ht]
        exact ⟨_, _, rfl, trivial⟩
end T_k59

namespace T_k59
open PySem L2 L3
abbrev S0 : List Nat := [97, 90, 48, 57, 32, 45, 95, 46, 47]
abbrev S1 : List Nat := [97, 98, 99, 100, 101, 102, 103, 104, 105, 106, 107, 108, 109, 110, 111, 112, 113, 114, 115, 116, 117, 118, 119, 120, 121, 122, 65, 66, 67, 68, 69, 70, 71, 72, 73, 74, 75, 76, 77, 78, 79, 80, 81, 82, 83, 84, 85, 86, 87, 88, 89, 90, 48, 49, 50, 51, 52, 53, 54, 55, 56, 57]
abbrev S2 : List Nat := [32, 33, 36, 38, 39, 40, 41, 42, 43, 44, 45, 46, 47, 58, 59, 60, 61, 62, 63, 64, 91, 93, 94, 95, 96, 123, 124, 125, 126, 35, 10]
theorem S1_A : ∀ c ∈ S1, isA (lo c) = true ∧ c < 128 := by decide
theorem title_rp {n B : Nat} {cs : Cells} {P : D → Cells → Prop} {X : KX} (hb : Bx cs n B) (hB : B < 800000)
    (k : ∀ (l : List Nat) (c' : Cells), Good l → Bx c' n (B + 400) → P (.str l) c') : RP (m__law_title [.loc n] cs) P X := by
  unfold m__law_title mb__law_title
  simp only [rp_def, List.map_cons, List.map_nil, List.length_cons, List.length_nil, Nat.reduceAdd, Nat.reduceSub, List.replicate_zero, List.replicate_succ, List.append_nil, List.cons_append, List.nil_append, List.set_cons_zero, List.set_cons_succ,
    sp_seq, sp_asg, sp_ret, rp_op2, rp_list, rap_cons, rap_nil, rp_c, rp_call, rp_varM, List.getElem?_cons_zero, List.getElem?_cons_succ]
  rw [rp_mkLf (by rw [sizeLine_eq]; decide)]
  refine take_rp hb (by omega) (by decide) (by decide) fun r1 c2 q1 q1' hb _ _ => ?_
  simp only [rp_addI]
  refine take_rp hb (by omega) (by decide) (by decide) fun r2 c3 q2 q2' hb _ _ => ?_
  simp only [rp_addI]
  refine take_rp hb (by omega) (by decide) (by decide) fun r3 c4 q3 q3' hb _ _ => ?_
  simp only [rp_addI]
  rw [rp_mkLf (by rw [sizeLine_eq]; simp)]
  refine take_rp hb (by omega) (by decide) (by decide) fun r4 c5 q4 q4' hb _ _ => ?_
  have hm : ∀ d ∈ [D.int (1 + r1), D.int (140 + r2), D.int (1 + r3)], ∃ m : Int, d = .int m ∧ 1 ≤ m ∧ m ≤ 150 := by
    simp only [List.forall_mem_cons]
    exact ⟨⟨_, rfl, by omega, by omega⟩, ⟨_, rfl, by omega, by omega⟩, ⟨_, rfl, by omega, by omega⟩, fun d h => by cases h⟩
  refine rp_ixAll q4 (by simpa using q4') fun d hd => ?_
  obtain ⟨m, rfl, m1, m2⟩ := hm d hd
  simp only [sp_for, wp_r1, rp_varM, List.getElem?_cons_zero, List.getElem?_cons_succ]
  refine ⟨by unfold lim; omega, ?_⟩
  refine for_inv (fun i env c => ∃ t e4 e5, env = [some (.loc n), some (.lst [.str S0, .str S1, .str S2]), some (.int m), some (.str t), e4, e5] ∧ t.length = i ∧ (∀ c ∈ t, c < 128) ∧ Bx c n (B + 4 + 2 * i)) ⟨[], none, none, rfl, rfl, (fun _ h => by cases h), hb⟩ ?_ ?_
  · rintro env c ⟨t, e4, e5, rfl, ht, hc, hb⟩
    refine ⟨trivial, ?_⟩
    rw [rangeD_length] at ht hb
    have hts : t.length ≤ sizeLine := by rw [sizeLine_eq]; omega
    have hb := hb.le (B' := B + 304) (by omega)
    simp only [List.set_cons_zero, List.set_cons_succ, sp_seq, sp_asg, sp_ret, rp_op2, rap_cons, rap_nil, rp_c, rp_call, rp_varM, List.getElem?_cons_zero, List.getElem?_cons_succ]
    refine take_rp hb (by omega) (by omega) (by unfold big; omega) fun r5 c7 q5 q5' hb _ _ => ?_
    simp only [rp_sl, rp_varM, ro_none, ro_varM, ro_varA, rp_slS hts, List.getElem?_cons_zero, List.getElem?_cons_succ, List.set_cons_zero, List.set_cons_succ]
    rw [rp_ixL at3_1]
    refine take_rp hb (by omega) (by decide) (by decide) fun r6 c8 q6 q6' hb _ _ => ?_
    refine rp_ixSA (by rw [sizeLine_eq]; decide) q6 q6' fun ch hch => ?_
    rw [cut_to q5, cut_from (by omega)]
    have l1 : (t.take r5.toNat).length = r5.toNat := by rw [List.length_take]; omega
    have l2 : (t.drop (r5 + 1).toNat).length = t.length - (r5 + 1).toNat := by rw [List.length_drop]
    rw [rp_addS (by rw [sizeLine_eq]; simp; omega), rp_addS (by rw [sizeLine_eq]; simp; omega)]
    refine k _ c8 ⟨by simp; omega, ?_, fun c hc' => ?_, ch, by simp, (S1_A ch hch).1⟩ (hb.le (by omega))
    · simp only [List.length_append, l1, l2, List.length_cons, List.length_nil]; omega
    · rcases List.mem_append.mp hc' with hc' | hc'
      · rcases List.mem_append.mp hc' with hc' | hc'
        · exact hc c (List.mem_of_mem_take hc')
        · rw [List.mem_singleton.mp hc']; exact (S1_A ch hch).2
      · exact hc c (List.mem_of_mem_drop hc')
  · rintro i d env c hi ⟨t, e4, e5, rfl, ht, hc, hb⟩
    obtain ⟨hi, rfl⟩ := range_get hi
    refine ⟨trivial, _, rfl, ?_⟩
    simp only [List.set_cons_zero, List.set_cons_succ, sp_seq, sp_asg, rp_op2, rap_cons, rap_nil, rp_c, rp_call, rp_varM, List.getElem?_cons_zero, List.getElem?_cons_succ]
    refine take_rp hb (by omega) (by decide) (by decide) fun r5 c7 q5 q5' hb _ _ => ?_
    have hs : ∀ d ∈ [D.str S0, .str S1, .str S2], ∃ sg : List Nat, d = .str sg ∧ 0 < sg.length ∧ sg.length ≤ 100 ∧ ∀ c ∈ sg, c < 128 := by
      simp only [List.forall_mem_cons]
      exact ⟨⟨_, rfl, by decide, by decide, by decide⟩, ⟨_, rfl, by decide, by decide, by decide⟩, ⟨_, rfl, by decide, by decide, by decide⟩, fun d h => by cases h⟩
    refine rp_ixAll q5 (by simpa using q5') fun d hd => ?_
    obtain ⟨sg, rfl, s1, s2, s3⟩ := hs d hd
    have hsl : sg.length ≤ sizeLine := by rw [sizeLine_eq]; omega
    simp only [rp_bi, rap_cons, rap_nil, rp_varM, List.getElem?_cons_zero, List.getElem?_cons_succ, rp_lenS hsl]
    refine take_rp hb (by omega) (by omega) (by unfold big; omega) fun r6 c8 q6 q6' hb _ _ => ?_
    refine rp_ixSA hsl q6 q6' fun ch hch => ?_
    rw [rp_addS (by rw [sizeLine_eq]; simp; omega)]
    refine ⟨_, _, _, rfl, by simp [ht], fun c hc' => ?_, hb.le (by omega)⟩
    rcases List.mem_append.mp hc' with hc' | hc'
    · exact hc c hc'
    · rw [List.mem_singleton.mp hc']; exact s3 ch hch
end T_k59

namespace T_k59
open PySem L2 L3
theorem due_lt {l : List Nat} : ∀ c ∈ dueL l, c < 128 := fun c hc => by
  rcases (due_facts l).2.1 c hc with h | h
  · exact isA_lt h
  · omega
theorem good_due {l : List Nat} (g : Good l) : Good (dueL l) := by
  obtain ⟨g1, g2, g3, c, g4, g5⟩ := g
  obtain ⟨f1, f2, f3, _⟩ := due_facts l
  have hm := f3 c g4 g5
  exact ⟨List.length_pos_of_mem hm, by omega, due_lt, lo c, hm, by rw [lo_A g5]; exact g5⟩
theorem due_idem {l : List Nat} (g : Good l) : dueL (dueL l) = dueL l := by
  have g' := good_due g
  have h : slugL l ≠ [] := by
    rw [slug_due]
    intro e
    have := g'.1
    rw [e] at this
    simp at this
  have := slug_idem l h
  rw [slug_due (slugL l), slug_due l] at this
  exact this
theorem good_cat {a b x : List Nat} (h : dueL (a ++ b) ≠ []) (ha : ∀ c ∈ a, c < 128) (hb : ∀ c ∈ b, c < 128) (hx : ∀ c ∈ x, c < 128) (hl : a.length + x.length + b.length ≤ 150) : Good (a ++ x ++ b) := by
  obtain ⟨c, hc, hA⟩ := (due_facts (a ++ b)).2.2.2 h
  have hm : c ∈ a ++ x ++ b := by
    rcases List.mem_append.mp hc with hc | hc
    · simp [hc]
    · simp [hc]
  refine ⟨List.length_pos_of_mem hm, by simp only [List.length_append]; omega, fun d hd => ?_, c, hm, hA⟩
  rcases List.mem_append.mp hd with hd | hd
  · rcases List.mem_append.mp hd with hd | hd
    · exact ha d hd
    · exact hx d hd
  · exact hb d hd
theorem third_rp {env : L3.Env} {t x : List Nat} {cs : Cells} {P : D → Cells → Prop} {X : KX} (g : Good t) (hx : ∀ c ∈ x, c < 128) (hl : x.length ≤ 3) (h3 : env[3]? = some (some (.str t))) (h4 : env[4]? = some (some (.str (dueL t)))) (h5 : env[5]? = some (some (.str x)))
    (k : ∀ l, Good l → P (.str l) cs) : RP (eIf (eAnd (op2 ltD (eBi lenB (aCons (eVar 4) aNil)) (eC (.int 60))) (op2 neD (eCall m__law_due (aCons (op2 (addD false) (eSl false (eVar 3) oNone (oSome (eC (.int 70)))) (eSl false (eVar 3) (oSome (op1 negD (eC (.int 70)))) oNone)) aNil)) (eC (.str [])))) (op2 (addD false) (op2 (addD false) (eSl false (eVar 3) oNone (oSome (eC (.int 70)))) (eVar 5)) (eSl false (eVar 3) (oSome (op1 negD (eC (.int 70)))) oNone)) (eVar 3) env cs) P X := by
  have g2 := g.2.1
  have g3 := g.2.2.1
  have gd := (good_due g).2.1
  have hts : t.length ≤ sizeLine := by rw [sizeLine_eq]; omega
  have hds : (dueL t).length ≤ sizeLine := by rw [sizeLine_eq]; omega
  have e1 : cutL t none (some 70) = t.take 70 := cut_to (by decide)
  have e2 : cutL t (some (-70)) none = t.drop ((-70 : Int) + t.length).toNat := cut_back (by decide)
  have hl1 : (t.take 70).length ≤ 70 := by rw [List.length_take]; omega
  have hl2 : (t.drop ((-70 : Int) + t.length).toNat).length ≤ 70 := by rw [List.length_drop]; omega
  have c1 : ∀ c ∈ t.take 70, c < 128 := fun c hc => g3 c (List.mem_of_mem_take hc)
  have c2 : ∀ c ∈ t.drop ((-70 : Int) + t.length).toNat, c < 128 := fun c hc => g3 c (List.mem_of_mem_drop hc)
  rw [← e1] at hl1 c1
  rw [← e2] at hl2 c2
  clear e1 e2
  generalize ha : cutL t none (some 70) = a at hl1 c1
  generalize hb : cutL t (some (-70)) none = b at hl2 c2
  simp only [rp_if, rp_and, rp_op2, rp_c, rp_bi, rp_call, rap_cons, rap_nil, rp_varM, h3, h4, h5, rp_lenS hds, rp_lt, RP_br, RP_ok, rp_sl, ro_none, ro_c, ro_nc, rp_slS hts, ha, hb]
  by_cases h : ((dueL t).length : Int) < 60
  · simp only [h, decide_true, cond_true]
    rw [rp_addS (by rw [sizeLine_eq]; omega)]
    refine due_rp (by simp; omega) (fun c hc => ?_) ?_
    · rcases List.mem_append.mp hc with hc | hc
      · exact c1 c hc
      · exact c2 c hc
    · rw [rp_neS]
      by_cases hn : dueL (a ++ b) = []
      · simp only [hn, decide_true, Bool.not_true, RP_br, cond_false, rp_varM, h3]
        exact k t g
      · simp only [hn, decide_false, Bool.not_false, RP_br, cond_true, rp_op2, rp_sl, rp_varM, h3, h5, ro_none, ro_c, ro_nc, rp_slS hts, ha, hb]
        rw [rp_addS (by rw [sizeLine_eq]; omega), rp_addS (by rw [sizeLine_eq]; simp; omega)]
        exact k _ (good_cat hn c1 c2 hx (by omega))
  · simp only [h, decide_false, cond_false, RP_br, rp_varM, h3]
    exact k t g
theorem law_pure : ∀ ns : List Int, ns.length ≤ 63 → (∀ z ∈ ns, Builtin.Int.intBits z ≤ 1048576) → ∃ cs, m_law [.scr ns] [] = .ok (.bl true) cs := by
  intro ns hns _
  suffices h : RP (m_law [.scr ns] []) (fun d _ => d = .bl true) noX by
    obtain ⟨d, cs, e, rfl⟩ := h.get
    exact ⟨cs, e⟩
  unfold m_law mb_law
  simp only [rp_def, List.map_cons, List.map_nil, List.length_cons, List.length_nil, Nat.reduceAdd, Nat.reduceSub, List.replicate_zero, List.replicate_succ, List.append_nil, List.cons_append, List.nil_append,
    sp_seq, sp_for, wp_r1, rap_cons, rap_nil, rp_bi, rp_c, rp_varM, List.getElem?_cons_zero, rp_lenScr, rp_min, rp_max, sp_ret]
  refine ⟨by unfold lim; split <;> split <;> omega, ?_⟩
  refine for_inv (fun i env c => ∃ e1 e2 e3 e4 e5 e6 e7, env = [some (.scr ns), e1, e2, e3, e4, e5, e6, e7]) ⟨_, _, _, _, _, _, _, rfl⟩ (fun env c _ => ⟨trivial, trivial⟩) ?_
  rintro i d env c hi ⟨e1, e2, e3, e4, e5, e6, e7, rfl⟩
  obtain ⟨hi, rfl⟩ := range_get hi
  refine ⟨trivial, _, rfl, ?_⟩
  simp only [List.set_cons_zero, List.set_cons_succ, List.getElem?_cons_zero, List.getElem?_cons_succ, sp_seq, sp_asg, rp_call, rap_cons, rap_nil, rp_varM, rp_c, rp_op2, rp_list, rp_addI]
  refine cell_rp (by omega) fun z => box_rp ?_
  have hb : Bx (c ++ [.lst [.int (if z - 10 ^ 18 > 0 then z - 10 ^ 18 else 0), .int (z % 2147483629), .int 0]]) c.length 0 := Bx.new (Int.emod_nonneg _ (by decide)) (Int.lt_trans (Int.emod_lt_of_pos _ (by decide)) (by decide))
  revert hb
  generalize (c ++ [Cell.lst [.int (if z - 10 ^ 18 > 0 then z - 10 ^ 18 else 0), .int (z % 2147483629), .int 0]]) = c1
  generalize c.length = n
  intro hb
  refine title_rp hb (by decide) fun t c2 g hb => ?_
  have g2 := g.2.1
  refine due_rp (by omega) g.2.2.1 ?_
  rw [rp_mkLf (by rw [sizeLine_eq]; decide)]
  refine take_rp hb (by decide) (by decide) (by decide) fun r1 c3 q1 q1' hb _ _ => ?_
  have hs : ∀ d ∈ [D.str [45, 45], .str [46, 32], .str [95, 40, 10], .str []], ∃ x : List Nat, d = .str x ∧ x.length ≤ 3 ∧ ∀ c ∈ x, c < 128 := by
    simp only [List.forall_mem_cons]
    exact ⟨⟨_, rfl, by decide, by decide⟩, ⟨_, rfl, by decide, by decide⟩, ⟨_, rfl, by decide, by decide⟩, ⟨_, rfl, by decide, by decide⟩, fun d h => by cases h⟩
  refine rp_ixAll q1 (by simpa using q1') fun d hd => ?_
  obtain ⟨x, rfl, x1, x2⟩ := hs d hd
  simp only [sp_for, wp_seq, rp_list, rap_cons, rap_nil, rp_varM, List.getElem?_cons_zero, List.getElem?_cons_succ]
  refine third_rp g x2 x1 rfl rfl rfl fun y gy => ?_
  rw [rp_mkLf (by rw [sizeLine_eq]; simp)]
  simp only [seq_lst]
  have hall : ∀ d' ∈ [D.str t, .str (dueL t), .str y], ∃ l, d' = .str l ∧ Good l := by
    simp only [List.forall_mem_cons]
    exact ⟨⟨_, rfl, g⟩, ⟨_, rfl, good_due g⟩, ⟨_, rfl, gy⟩, fun d h => by cases h⟩
  have rep : ∀ l, Good l → ∃ z, reprC (.str (dueL l)) = some z := fun l gl => rep_str (by have := (good_due gl).2.1; omega) due_lt
  refine for_inv (fun i' env c' => ∃ f6, env = [some (D.scr ns), some (D.int (0 + ↑i)), some (D.loc n), some (D.str t), some (D.str (dueL t)), some (D.str x), f6, e7] ∧ c' = c3) ⟨_, rfl, rfl⟩ ?_ ?_
  · rintro env c' ⟨f6, rfl, rfl⟩
    refine ⟨trivial, ?_⟩
    simp only [List.set_cons_zero, List.set_cons_succ, sp_seq, sp_asg, rp_op2, rp_c, rp_call, rap_cons, rap_nil, rp_varM, List.getElem?_cons_zero, List.getElem?_cons_succ]
    refine take_rp hb (by decide) (by decide) (by decide) fun r2 c4 q2 q2' hb _ _ => ?_
    refine rp_ixSA (by rw [sizeLine_eq]; decide) q2 q2' fun ch hch => ?_
    rw [rp_addS (by rw [sizeLine_eq]; simp; omega), rp_addS (by rw [sizeLine_eq]; simp; omega)]
    have hA : isA (lo ch) = true ∧ ch < 128 := (by decide : ∀ c ∈ [97, 90, 53], isA (lo c) = true ∧ c < 128) ch hch
    have gb : Good (x ++ [ch] ++ x) := by
      refine ⟨by simp; omega, by simp; omega, fun c hc => ?_, ch, by simp, hA.1⟩
      rcases List.mem_append.mp hc with hc | hc
      · rcases List.mem_append.mp hc with hc | hc
        · exact x2 c hc
        · rw [List.mem_singleton.mp hc]; exact hA.2
      · exact x2 c hc
    obtain ⟨z1, hz1⟩ := rep _ gb
    simp only [sp_if, rp_or, rp_op2, rp_bi, rp_call, rap_cons, rap_nil, rp_varM, List.getElem?_cons_zero, List.getElem?_cons_succ]
    refine slug_rp gb ?_
    rw [rp_repr hz1]
    refine due_rp (by have := gb.2.1; omega) gb.2.2.1 ?_
    rw [rp_repr hz1, rp_neS]
    simp only [decide_true, Bool.not_true, RP_br, cond_false, rp_op2, rp_call, rap_cons, rap_nil, rp_varM, List.getElem?_cons_zero, List.getElem?_cons_succ]
    refine slug_rp (good_due g) ?_
    rw [due_idem g, rp_neS]
    simp only [decide_true, Bool.not_true, SP_brS, Bool.false_eq_true, if_false, sp_nx]
    exact ⟨_, _, _, _, _, _, _, rfl⟩
  · rintro j d' env c' hj ⟨f6, rfl, rfl⟩
    obtain ⟨l, rfl, gl⟩ := hall d' (List.mem_of_getElem? hj)
    obtain ⟨z1, hz1⟩ := rep _ gl
    refine ⟨trivial, _, rfl, ?_⟩
    simp only [List.set_cons_zero, List.set_cons_succ, sp_if, rp_op2, rp_bi, rp_call, rap_cons, rap_nil, rp_varM, List.getElem?_cons_zero, List.getElem?_cons_succ]
    refine slug_rp gl ?_
    rw [rp_repr hz1]
    refine due_rp (by have := gl.2.1; omega) gl.2.2.1 ?_
    rw [rp_repr hz1, rp_neS]
    simp only [decide_true, Bool.not_true, SP_brS, Bool.false_eq_true, if_false, sp_nx]
    exact ⟨_, rfl, trivial⟩
end T_k59

open PySem PySem.W PyProof.Rows
set_option maxRecDepth 100000 in
set_option maxHeartbeats 0 in
theorem PySem.Challenge.cw_tailnames_k59_slugs_sign_by_sign_holds : PySem.Challenge.rw_tailnames_k59_slugs_sign_by_sign.Holds := by
  w_on; o_law; k_head; (case hw => w_witness2)
  k_fill
  refine L3.law_walk (k := 4) (l := PySem.Challenge.rw_tailnames_k59_slugs_sign_by_sign) rfl rfl ⟨by decide, by decide, by decide⟩ (fun w h Y => PySem.W.kIn_of Y) ?F
  case F =>
    intro w mg fa h KX G hmg
    refine' T_k59.all_mk (l := PySem.Challenge.rw_tailnames_k59_slugs_sign_by_sign) KX G hmg ?a1 ?l1 ?c1 ?k1 ?a2 ?l2 ?c2 ?k2 ?a3 ?l3 ?c3 ?k3 ?a4 ?l4 ?c4 ?k4 ?a5 ?l5 ?c5 ?k5 ?a6 ?l6 ?c6 ?k6 ?a7 ?l7 ?c7 ?k7 ?a8 ?l8 ?c8 ?k8 ?a9 ?l9 ?c9 ?k9 ?a10 ?l10 ?c10 ?k10 ?z_any ?z_isinstance ?z_len ?z_max ?z_min ?z_range ?z_repr ?z_str ?z_FIGURES ?z_LARGE ?z_LONGEST_TITLE ?z_SMALL T_k59.law_pure
    (case a1 => k_is); (case l1 => k_is); (case c1 => k_is); (case k1 => k_is); (case a2 => k_is); (case l2 => k_is)
    (case c2 => k_is); (case k2 => k_is); (case a3 => k_is); (case l3 => k_is); (case c3 => k_is); (case k3 => k_is)
    (case a4 => k_is); (case l4 => k_is); (case c4 => k_is); (case k4 => k_is); (case a5 => k_is); (case l5 => k_is)
    (case c5 => k_is); (case k5 => k_is); (case a6 => k_is); (case l6 => k_is); (case c6 => k_is); (case k6 => k_is)
    (case a7 => k_is); (case l7 => k_is); (case c7 => k_is); (case k7 => k_is); (case a8 => k_is); (case l8 => k_is)
    (case c8 => k_is); (case k8 => k_is); (case a9 => k_is); (case l9 => k_is); (case c9 => k_is); (case k9 => k_is)
    (case a10 => k_is); (case l10 => k_is); (case c10 => k_is); (case k10 => k_is); (case z_any => k_is); (case z_isinstance => k_is)
    (case z_len => k_is); (case z_max => k_is); (case z_min => k_is); (case z_range => k_is); (case z_repr => k_is); (case z_str => k_is)
    (case z_FIGURES => k_is); (case z_LARGE => k_is); (case z_LONGEST_TITLE => k_is); (case z_SMALL => k_is)

#print axioms PySem.Challenge.cw_tailnames_k59_slugs_sign_by_sign_holds
