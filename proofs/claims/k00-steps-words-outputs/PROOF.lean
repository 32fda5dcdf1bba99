import PyProof.Rows.All
import HandS.ForMost
import PySem.Challenge.RW_rankedtongues_k00_steps_words_outputs
import Wide.All
import OpenK.AllK
import Wide.FinOn
import HandS.ForExc
import HandS.TupAny
import HandS.TupLe
import HandS.RevRange
import HandS.Conv
import HandS.Walk
import HandS.IsInst
import HandS.Deep
import HandS.Replace
import HandS.Wide
import HandS.SortInts
import HandS.Codes
import HandS.WordsExc
import KE.GoesZip
import KE.GoesMore
import KE.GoesEnum
import HandS.IterVal
import HandS.OwnIter
set_option Elab.async false
set_option linter.all false
set_option maxRecDepth 100000
set_option maxHeartbeats 4000000
/-! # Mp: an evaluator of heap-free values, and what it says of the machine -/
namespace Mp
open PySem PySem.Spec PyProof.Rows L2

/-! ## values -/
inductive PV where
  | non | bl (b : Bool) | int (i : Int) | str (s : List Nat)
  | tup (xs : List PV) | lst (xs : List PV)
  /-- an instance of the class with this number, its fields in the order of the class's list -/
  | obj (c : Nat) (fs : List PV)
  /-- the law's script -/
  | scr (ns : List Int)
  deriving Inhabited
/-- a slot of a frame: unknown; a value that nobody changes; a list or object that this slot alone holds -/
inductive Slot where | no | fz (p : PV) | ow (p : PV)
  deriving Inhabited
/-- what an expression gives: a value that nobody changes; a new list or object; what slot i holds alone -/
inductive Rv where | fz (p : PV) | ow (p : PV) | br (i : Nat)
/-- an exception: its class, its fields -/
structure PX where
  c : Nat
  fs : List PV
inductive R (α : Type) where
  | ok (a : α) (ρ : List Slot)
  | ex (e : PX) (ρ : List Slot)
  | stuck
def R.bind {α β : Type} (x : R α) (f : α → List Slot → R β) : R β :=
  match x with
  | .ok a ρ => f a ρ
  | .ex e ρ => .ex e ρ
  | .stuck => .stuck
@[simp] theorem R.bind_ok {α β : Type} (a : α) (ρ : List Slot) (f : α → List Slot → R β) : (R.ok a ρ).bind f = f a ρ := (rfl)
@[simp] theorem R.bind_ex {α β : Type} (e : PX) (ρ : List Slot) (f : α → List Slot → R β) : (R.ex e ρ : R α).bind f = .ex e ρ := (rfl)
@[simp] theorem R.bind_stuck {α β : Type} (f : α → List Slot → R β) : (R.stuck : R α).bind f = .stuck := (rfl)
/-- what a call gives -/
inductive Out where | ret (r : Rv) | ex (e : PX) | stuck

abbrev LINE : Nat := 16777216
theorem line_eq : sizeLine = LINE := sizeLine_eq

def getS : List Slot → Nat → Slot
  | [], _ => .no
  | s :: _, 0 => s
  | _ :: r, n + 1 => getS r n
@[simp] theorem getS_zero (s : Slot) (r : List Slot) : getS (s :: r) 0 = s := (rfl)
@[simp] theorem getS_succ (s : Slot) (r : List Slot) (n : Nat) : getS (s :: r) (n + 1) = getS r n := (rfl)
theorem getS_eq : ∀ (ρ : List Slot) (i : Nat), getS ρ i = (ρ[i]?).getD .no
  | [], i => by simp [getS]
  | s :: r, 0 => rfl
  | s :: r, n + 1 => by simp [getS, getS_eq r n]
def setS : List Slot → Nat → Slot → List Slot
  | [], _, _ => []
  | _ :: r, 0, c => c :: r
  | s :: r, n + 1, c => s :: setS r n c
@[simp] theorem setS_zero (s c : Slot) (r : List Slot) : setS (s :: r) 0 c = c :: r := (rfl)
@[simp] theorem setS_succ (s c : Slot) (r : List Slot) (n : Nat) : setS (s :: r) (n + 1) c = s :: setS r n c := (rfl)
theorem setS_eq : ∀ (ρ : List Slot) (i : Nat) (c : Slot), setS ρ i c = ρ.set i c
  | [], i, c => by simp [setS]
  | s :: r, 0, c => rfl
  | s :: r, n + 1, c => by simp [setS, setS_eq r n c]
def Slot.cont : Slot → Option PV
  | .no => none
  | .fz p => some p
  | .ow p => some p
def Rv.cell : Rv → Slot
  | .fz p => .fz p
  | .ow p => .ow p
  | .br _ => .no
/-- the value that is meant -/
def Rv.val (ρ : List Slot) : Rv → Option PV
  | .fz p => some p
  | .ow p => some p
  | .br i => (getS ρ i).cont
/-- handed on: nobody changes it from here on -/
def Rv.seal (ρ : List Slot) : Rv → List Slot
  | .br i => (match getS ρ i with | .ow p => setS ρ i (.fz p) | _ => ρ)
  | _ => ρ

/-- a text that the machine's == reads: not too long, every sign one -/
structure OkS (s : List Nat) : Prop where
  len : s.length ≤ LINE
  cps : ∀ c ∈ s, c < 1114112
/-! ## what stands for a value in the abstract heap -/
/-- the program's classes: where they are, their fields -/
structure Lk where
  K : PySem.W.Frag
  cls : Nat → Addr
  fld : Nat → List Str
variable (L : Lk)
mutual
def Rep (G : Hp) : PV → V → Prop
  | .non, v => v = .non
  | .bl b, v => v = .bl b
  | .int i, v => v = .int i
  | .str s, v => v = .str ⟨s.toArray⟩ ∧ OkS s
  | .tup xs, v => ∃ a ys, v = .ref a ∧ SqT L.K G a ys ∧ Reps G xs ys
  | .lst xs, v => ∃ a ys, v = .ref a ∧ G a = some (.lst ys) ∧ Reps G xs ys
  | .obj c fs, v => ∃ a dx ys, v = .ref a ∧ G a = some (.ins (L.cls c) dx ((L.fld c).zip ys)) ∧ ys.length ≤ (L.fld c).length ∧ Reps G fs ys
  | .scr ns, v => ∃ a, v = .ref a ∧ SqL L.K G a (ns.map V.int)
def Reps (G : Hp) : List PV → List V → Prop
  | [], vs => vs = []
  | p :: ps, vs => ∃ v r, vs = v :: r ∧ Rep G p v ∧ Reps G ps r
end
variable {L}
theorem Same.seqT {K : PySem.W.Frag} {H H' : Hp} {a : Addr} {xs : List V} (e : Same H H') (h : SqT K H a xs) : SqT K H' a xs := by
  rcases h with (h | ⟨o, h⟩) | h
  · exact .inl (.inl (e _ _ h))
  · exact .inl (.inr ⟨o, e _ _ h⟩)
  · exact .inr h
mutual
theorem Rep.mono {G G' : Hp} (e : Same G G') : ∀ (p : PV) (v : V), Rep L G p v → Rep L G' p v
  | .non, v, h => by simpa [Rep] using h
  | .bl b, v, h => by simpa [Rep] using h
  | .int i, v, h => by simpa [Rep] using h
  | .str s, v, h => by simpa [Rep] using h
  | .tup xs, v, h => by
    simp only [Rep] at h ⊢
    obtain ⟨a, ys, e1, h1, h2⟩ := h
    exact ⟨a, ys, e1, Same.seqT e h1, Reps.mono e xs ys h2⟩
  | .lst xs, v, h => by
    simp only [Rep] at h ⊢
    obtain ⟨a, ys, e1, h1, h2⟩ := h
    exact ⟨a, ys, e1, e _ _ h1, Reps.mono e xs ys h2⟩
  | .obj c fs, v, h => by
    simp only [Rep] at h ⊢
    obtain ⟨a, dx, ys, e1, h1, h3, h2⟩ := h
    exact ⟨a, dx, ys, e1, e _ _ h1, h3, Reps.mono e fs ys h2⟩
  | .scr ns, v, h => by
    simp only [Rep] at h ⊢
    obtain ⟨a, e1, h1⟩ := h
    exact ⟨a, e1, Same.seq e h1⟩
theorem Reps.mono {G G' : Hp} (e : Same G G') : ∀ (ps : List PV) (vs : List V), Reps L G ps vs → Reps L G' ps vs
  | [], vs, h => by simpa [Reps] using h
  | p :: ps, vs, h => by
    simp only [Reps] at h ⊢
    obtain ⟨v, r, e1, h1, h2⟩ := h
    exact ⟨v, r, e1, Rep.mono e p v h1, Reps.mono e ps r h2⟩
end
section
variable {G : Hp}
@[simp] theorem rep_non {v : V} : Rep L G .non v ↔ v = .non := by simp [Rep]
@[simp] theorem rep_bl {b : Bool} {v : V} : Rep L G (.bl b) v ↔ v = .bl b := by simp [Rep]
@[simp] theorem rep_int {i : Int} {v : V} : Rep L G (.int i) v ↔ v = .int i := by simp [Rep]
theorem rep_str {s : List Nat} {v : V} : Rep L G (.str s) v ↔ (v = .str ⟨s.toArray⟩ ∧ OkS s) := by simp [Rep]
theorem rep_tup {xs : List PV} {v : V} : Rep L G (.tup xs) v ↔ ∃ a ys, v = .ref a ∧ SqT L.K G a ys ∧ Reps L G xs ys := by simp [Rep]
theorem rep_lst {xs : List PV} {v : V} : Rep L G (.lst xs) v ↔ ∃ a ys, v = .ref a ∧ G a = some (.lst ys) ∧ Reps L G xs ys := by simp [Rep]
theorem rep_obj {c : Nat} {fs : List PV} {v : V} : Rep L G (.obj c fs) v ↔ ∃ a dx ys, v = .ref a ∧ G a = some (.ins (L.cls c) dx ((L.fld c).zip ys)) ∧ ys.length ≤ (L.fld c).length ∧ Reps L G fs ys := by simp [Rep]
theorem rep_scr {ns : List Int} {v : V} : Rep L G (.scr ns) v ↔ ∃ a, v = .ref a ∧ SqL L.K G a (ns.map V.int) := by simp [Rep]
theorem reps_nil {vs : List V} : Reps L G [] vs ↔ vs = [] := by simp [Reps]
theorem reps_cons {p : PV} {ps : List PV} {vs : List V} : Reps L G (p :: ps) vs ↔ ∃ v r, vs = v :: r ∧ Rep L G p v ∧ Reps L G ps r := by simp [Reps]
theorem Reps.length : ∀ {ps : List PV} {vs : List V}, Reps L G ps vs → ps.length = vs.length
  | [], vs, h => by rw [reps_nil] at h; subst h; rfl
  | p :: ps, vs, h => by
    obtain ⟨v, r, rfl, _, h2⟩ := reps_cons.mp h
    simp [Reps.length h2]
theorem Reps.get : ∀ {ps : List PV} {vs : List V} {i : Nat} {p : PV}, Reps L G ps vs → ps[i]? = some p → ∃ v, vs[i]? = some v ∧ Rep L G p v
  | [], vs, i, p, h, e => by simp at e
  | q :: ps, vs, 0, p, h, e => by
    obtain ⟨v, r, rfl, h1, _⟩ := reps_cons.mp h
    simp at e; subst e
    exact ⟨v, rfl, h1⟩
  | q :: ps, vs, i + 1, p, h, e => by
    obtain ⟨v, r, rfl, _, h2⟩ := reps_cons.mp h
    obtain ⟨u, h3, h4⟩ := Reps.get (i := i) h2 (by simpa using e)
    exact ⟨u, by simpa using h3, h4⟩
theorem Reps.append : ∀ {ps qs : List PV} {vs us : List V}, Reps L G ps vs → Reps L G qs us → Reps L G (ps ++ qs) (vs ++ us)
  | [], qs, vs, us, h, k => by rw [reps_nil] at h; subst h; exact k
  | p :: ps, qs, vs, us, h, k => by
    obtain ⟨v, r, rfl, h1, h2⟩ := reps_cons.mp h
    exact reps_cons.mpr ⟨v, r ++ us, rfl, h1, Reps.append h2 k⟩
theorem Reps.one {p : PV} {v : V} (h : Rep L G p v) : Reps L G [p] [v] := reps_cons.mpr ⟨v, [], rfl, h, reps_nil.mpr rfl⟩
theorem Reps.set : ∀ {ps : List PV} {vs : List V} {p : PV} {v : V} (i : Nat), Reps L G ps vs → Rep L G p v → Reps L G (ps.set i p) (vs.set i v)
  | [], vs, p, v, i, h, k => by rw [reps_nil] at h; subst h; simpa using reps_nil.mpr rfl
  | q :: ps, vs, p, v, 0, h, k => by
    obtain ⟨u, r, rfl, _, h2⟩ := reps_cons.mp h
    exact reps_cons.mpr ⟨v, r, rfl, k, h2⟩
  | q :: ps, vs, p, v, i + 1, h, k => by
    obtain ⟨u, r, rfl, h1, h2⟩ := reps_cons.mp h
    exact reps_cons.mpr ⟨u, r.set i v, rfl, h1, Reps.set i h2 k⟩
theorem Reps.take : ∀ {ps : List PV} {vs : List V} (n : Nat), Reps L G ps vs → Reps L G (ps.take n) (vs.take n)
  | ps, vs, 0, h => by simpa using reps_nil.mpr rfl
  | [], vs, n + 1, h => by rw [reps_nil] at h; subst h; simpa using reps_nil.mpr rfl
  | p :: ps, vs, n + 1, h => by
    obtain ⟨u, r, rfl, h1, h2⟩ := reps_cons.mp h
    exact reps_cons.mpr ⟨u, r.take n, rfl, h1, Reps.take n h2⟩
theorem Reps.drop : ∀ {ps : List PV} {vs : List V} (n : Nat), Reps L G ps vs → Reps L G (ps.drop n) (vs.drop n)
  | ps, vs, 0, h => by simpa using h
  | [], vs, n + 1, h => by rw [reps_nil] at h; subst h; simpa using reps_nil.mpr rfl
  | p :: ps, vs, n + 1, h => by
    obtain ⟨u, r, rfl, h1, h2⟩ := reps_cons.mp h
    exact Reps.drop n h2
theorem Reps.eraseIdx : ∀ {ps : List PV} {vs : List V} (i : Nat), Reps L G ps vs → Reps L G (ps.eraseIdx i) (vs.eraseIdx i)
  | [], vs, i, h => by rw [reps_nil] at h; subst h; simpa using reps_nil.mpr rfl
  | p :: ps, vs, 0, h => by
    obtain ⟨u, r, rfl, h1, h2⟩ := reps_cons.mp h
    simpa using h2
  | p :: ps, vs, i + 1, h => by
    obtain ⟨u, r, rfl, h1, h2⟩ := reps_cons.mp h
    exact reps_cons.mpr ⟨u, r.eraseIdx i, rfl, h1, Reps.eraseIdx i h2⟩
theorem Reps.rep {ps : List PV} {vs : List V} (h : Reps L G ps vs) : ∀ k : Nat, Reps L G (List.replicate k ps).flatten (List.replicate k vs).flatten
  | 0 => by simpa using reps_nil.mpr rfl
  | k + 1 => by simpa [List.replicate_succ] using Reps.append h (Reps.rep h k)
theorem Reps.reverse : ∀ {ps : List PV} {vs : List V}, Reps L G ps vs → Reps L G ps.reverse vs.reverse
  | [], vs, h => by rw [reps_nil] at h; subst h; simpa using reps_nil.mpr rfl
  | p :: ps, vs, h => by
    obtain ⟨u, r, rfl, h1, h2⟩ := reps_cons.mp h
    simpa using Reps.append (Reps.reverse h2) (Reps.one h1)
theorem reps_ints : ∀ {ns : List Int} {vs : List V}, Reps L G (ns.map PV.int) vs ↔ vs = ns.map V.int
  | [], vs => by simp [reps_nil]
  | n :: ns, vs => by
    simp only [List.map_cons, reps_cons, rep_int, reps_ints]
    constructor
    · rintro ⟨v, r, rfl, rfl, rfl⟩; rfl
    · rintro rfl; exact ⟨_, _, rfl, rfl, rfl⟩
theorem reps_bls : ∀ {ns : List Bool} {vs : List V}, Reps L G (ns.map PV.bl) vs ↔ vs = ns.map V.bl
  | [], vs => by simp [reps_nil]
  | n :: ns, vs => by
    simp only [List.map_cons, reps_cons, rep_bl, reps_bls]
    constructor
    · rintro ⟨v, r, rfl, rfl, rfl⟩; rfl
    · rintro rfl; exact ⟨_, _, rfl, rfl, rfl⟩
theorem reps_strs : ∀ {ns : List (List Nat)} {vs : List V}, Reps L G (ns.map PV.str) vs → vs = (ns.map fun s => (⟨s.toArray⟩ : Str)).map V.str ∧ ∀ s ∈ ns, OkS s
  | [], vs, h => by
    have e := reps_nil.mp h
    subst e
    exact ⟨rfl, fun s hs => absurd hs (by simp)⟩
  | n :: ns, vs, h => by
    obtain ⟨v, r, rfl, h1, h2⟩ := reps_cons.mp h
    obtain ⟨rfl, hz⟩ := rep_str.mp h1
    obtain ⟨rfl, hr⟩ := reps_strs h2
    exact ⟨rfl, fun s hs => by rcases List.mem_cons.mp hs with e | e; exact e ▸ hz; exact hr s e⟩
end

/-! ## what one slot alone holds -/
def OwnAt (L : Lk) (G H : Hp) (p : PV) (a : Addr) : Prop :=
  match p with
  | .lst xs => ∃ ys, H a = some (.lst ys) ∧ Reps L G xs ys
  | .obj c fs => ∃ dx ys, H a = some (.ins (L.cls c) dx ((L.fld c).zip ys)) ∧ H dx = some (.own a) ∧ G dx = none ∧ dx + 1 = a ∧ ys.length ≤ (L.fld c).length ∧ Reps L G fs ys
  | _ => False
theorem OwnAt.mono {G H G' H' : Hp} {p : PV} {a : Addr} (h : OwnAt L G H p a) (g : Same G G') (e : ∀ b o, (b = a ∨ o = .own a) → H b = some o → H' b = some o)
    (n : ∀ b, H b = some (.own a) → G b = none → G' b = none) : OwnAt L G' H' p a := by
  cases p with
  | lst xs => obtain ⟨ys, h1, h2⟩ := h; exact ⟨ys, e _ _ (.inl rfl) h1, h2.mono g⟩
  | obj c fs => obtain ⟨dx, ys, h1, h4, h5, h6, h3, h2⟩ := h; exact ⟨dx, ys, e _ _ (.inl rfl) h1, e _ _ (.inr rfl) h4, n _ h4 h5, h6, h3, h2.mono g⟩
  | _ => exact h.elim
/-- what may be held alone -/
def Ownable : HO → Prop
  | .lst _ | .ins _ _ _ | .own _ | .dK _ | .dT _ => True
  | _ => False
def isOwnHO : HO → Bool
  | .own _ => true
  | _ => false
theorem OwnAt.there {G H : Hp} {p : PV} {a : Addr} (h : OwnAt L G H p a) : ∃ o, H a = some o ∧ isOwnHO o = false := by
  cases p with
  | lst xs => obtain ⟨ys, h1, h2⟩ := h; exact ⟨_, h1, rfl⟩
  | obj c fs => obtain ⟨dx, ys, h1, _⟩ := h; exact ⟨_, h1, rfl⟩
  | _ => exact h.elim
/-- an object that nobody changes stands with its own dict; what is locked is a list -/
def Nice (G : Hp) (a : Addr) : HO → Prop
  | .ins _ dx _ => G dx = some (.own a)
  | .own x => ∃ o, G x = some o
  | .frz _ u => ∃ xs, u = .lst xs
  | _ => True
/-- G: what nobody changes; all else that is tracked may be held alone -/
structure Gd (G H : Hp) : Prop where
  sub : Same G H
  alone : ∀ b o, H b = some o → G b = none → Ownable o
  nice : ∀ b o, G b = some o → Nice G b o
theorem Nice.mono {G G' : Hp} {a : Addr} {o : HO} (h : Nice G a o) (s : Same G G') : Nice G' a o := by
  cases o with
  | ins C dx fs => exact s _ _ h
  | own x => obtain ⟨o, e⟩ := h; exact ⟨o, s _ _ e⟩
  | _ => exact h
/-- the state grows: nothing that is held alone is frozen by it -/
structure Ext (G H G' H' : Hp) : Prop where
  g : Same G G'
  h : Same H H'
  good : Gd G' H'
  new : ∀ b o, H b = some o → G b = none → G' b = none

/-! ## the state: G what nobody changes, H all that is tracked -/
def Holds (L : Lk) (G H : Hp) (c : Slot) (o : Option V) : Prop :=
  match c with
  | .no => True
  | .fz p => ∃ v, o = some v ∧ Rep L G p v
  | .ow p => ∃ a, o = some (.ref a) ∧ G a = none ∧ OwnAt L G H p a
structure Fit (L : Lk) (G H : Hp) (cs : List Slot) (os : List (Option V)) : Prop where
  good : Gd G H
  len : cs.length = os.length
  at_ : ∀ (i : Nat) (c : Slot), cs[i]? = some c → ∃ o, os[i]? = some o ∧ Holds L G H c o
  inj : ∀ (i j : Nat) (p q : PV) (a : Addr), cs[i]? = some (.ow p) → cs[j]? = some (.ow q) → os[i]? = some (some (.ref a)) → os[j]? = some (some (.ref a)) → i = j
section
variable {G H G' H' G2 H2 : Hp} {cs : List Slot} {os : List (Option V)}
theorem Ext.refl (s : Gd G H) : Ext G H G H := ⟨Same.refl _, Same.refl _, s, fun _ _ _ n => n⟩
theorem Ext.trans (a : Ext G H G' H') (b : Ext G' H' G2 H2) : Ext G H G2 H2 := ⟨a.g.trans b.g, a.h.trans b.h, b.good, fun c o e n => b.new c o (a.h c o e) (a.new c o e n)⟩
theorem OwnAt.ext {p : PV} {a : Addr} (h : OwnAt L G H p a) (x : Ext G H G' H') : OwnAt L G' H' p a := h.mono x.g (fun b o _ => x.h b o) fun b => x.new b _
theorem Holds.ext {c : Slot} {o : Option V} (h : Holds L G H c o) (x : Ext G H G' H') : Holds L G' H' c o := by
  cases c with
  | no => trivial
  | fz p => obtain ⟨v, e, r⟩ := h; exact ⟨v, e, r.mono x.g⟩
  | ow p =>
    obtain ⟨a, e, n, w⟩ := h
    obtain ⟨ob, ho, _⟩ := w.there
    exact ⟨a, e, x.new a ob ho n, w.ext x⟩
theorem Fit.ext (f : Fit L G H cs os) (x : Ext G H G' H') : Fit L G' H' cs os :=
  ⟨x.good, f.len, fun i c e => let ⟨o, e1, h⟩ := f.at_ i c e; ⟨o, e1, h.ext x⟩, f.inj⟩
theorem Fit.cons {c : Slot} {o : Option V} (f : Fit L G H cs os) (h : Holds L G H c o)
    (d : ∀ p a, c = .ow p → o = some (.ref a) → ∀ (j : Nat) (q : PV), cs[j]? = some (.ow q) → os[j]? ≠ some (some (.ref a))) : Fit L G H (c :: cs) (o :: os) := by
  refine ⟨f.good, by simp [f.len], fun i c' e => ?_, fun i j p q a e1 e2 e3 e4 => ?_⟩
  · cases i with
    | zero => simp at e; subst e; exact ⟨o, rfl, h⟩
    | succ n => simpa using f.at_ n c' (by simpa using e)
  · cases i with
    | zero =>
      cases j with
      | zero => rfl
      | succ n =>
        simp at e1 e2 e3 e4
        exact absurd e4 (d p a e1 e3 n q e2)
    | succ m =>
      cases j with
      | zero =>
        simp at e1 e2 e3 e4
        exact absurd e3 (d q a e2 e4 m p e1)
      | succ n =>
        simp at e1 e2 e3 e4
        rw [f.inj m n p q a e1 e2 e3 e4]
theorem Fit.consF {p : PV} {v : V} (f : Fit L G H cs os) (h : Rep L G p v) : Fit L G H (.fz p :: cs) (some v :: os) := f.cons ⟨v, rfl, h⟩ fun _ _ e => by cases e
theorem Fit.consN {o : Option V} (f : Fit L G H cs os) : Fit L G H (.no :: cs) (o :: os) := f.cons trivial fun _ _ e => by cases e
/-- a new one: it stands where nothing was -/
theorem Fit.consO {p : PV} {a : Addr} (f : Fit L G H cs os) (x : Ext G H G' H') (n : H a = none) (n' : G' a = none) (w : OwnAt L G' H' p a) : Fit L G' H' (.ow p :: cs) (some (.ref a) :: os) :=
  (f.ext x).cons ⟨a, rfl, n', w⟩ fun q b e1 e2 j r e3 e4 => by
    obtain ⟨o, e5, b', e6, _, w'⟩ := f.at_ j _ e3
    cases e2
    rw [e4] at e5
    cases e5
    cases e6
    obtain ⟨ob, ho, _⟩ := w'.there
    rw [n] at ho
    cases ho
theorem Fit.tail {c : Slot} {o : Option V} (f : Fit L G H (c :: cs) (o :: os)) : Fit L G H cs os :=
  ⟨f.good, by simpa using f.len, fun i c' e => by simpa using f.at_ (i + 1) c' (by simpa using e), fun i j p q a e1 e2 e3 e4 => by
    have := f.inj (i + 1) (j + 1) p q a (by simpa using e1) (by simpa using e2) (by simpa using e3) (by simpa using e4)
    omega⟩
theorem Fit.head {c : Slot} {o : Option V} (f : Fit L G H (c :: cs) (o :: os)) : Holds L G H c o := by
  obtain ⟨o', e, h⟩ := f.at_ 0 c rfl
  cases e
  exact h
/-- a cell forgotten, or weakened to what also holds and owns nothing -/
theorem Fit.setF {i : Nat} {c : Slot} {o : Option V} (f : Fit L G H cs os) (ho : os[i]? = some o) (h : Holds L G H c o) (n : ∀ p, c ≠ .ow p) : Fit L G H (cs.set i c) os := by
  refine ⟨f.good, by simp [f.len], fun j c' e => ?_, fun j k p q a e1 e2 e3 e4 => ?_⟩
  · by_cases hj : i = j
    · subst hj
      have hl : i < cs.length := by rw [f.len]; exact (List.getElem?_eq_some_iff.mp ho).1
      rw [List.getElem?_set_self hl] at e
      cases e
      exact ⟨o, ho, h⟩
    · rw [List.getElem?_set_ne hj] at e
      exact f.at_ j c' e
  · have hj : i ≠ j := fun z => by
      subst z
      have hl : i < cs.length := by
        have := (List.getElem?_eq_some_iff.mp e1).1
        simpa using this
      rw [List.getElem?_set_self hl] at e1
      cases e1
      exact n p rfl
    have hk : i ≠ k := fun z => by
      subst z
      have hl : i < cs.length := by
        have := (List.getElem?_eq_some_iff.mp e2).1
        simpa using this
      rw [List.getElem?_set_self hl] at e2
      cases e2
      exact n q rfl
    rw [List.getElem?_set_ne hj] at e1
    rw [List.getElem?_set_ne hk] at e2
    exact f.inj j k p q a e1 e2 e3 e4
theorem Fit.forget {i : Nat} (f : Fit L G H cs os) : Fit L G H (cs.set i .no) os := by
  by_cases hl : i < cs.length
  · have hl' : i < os.length := by rw [← f.len]; exact hl
    exact f.setF (o := os[i]) (by simp [hl']) trivial fun _ e => by cases e
  · rw [List.set_eq_of_length_le (by omega)]
    exact f
/-- what is held alone at a is frozen -/
theorem OwnAt.frozen {p : PV} {a : Addr} (h : OwnAt L G H p a) (n : G a = none) (gd : Gd G H) :
    ∃ G1, Same G G1 ∧ Gd G1 H ∧ Rep L G1 p (.ref a) ∧ ∀ b o, H b = some o → G b = none → b ≠ a → o ≠ .own a → G1 b = none := by
  cases p with
  | lst xs =>
    obtain ⟨ys, h1, h2⟩ := h
    have s : Same G (upd G a (.lst ys)) := fun b u q => by rw [upd_ne (ne_of_none q n)]; exact q
    refine ⟨upd G a (.lst ys), s, ⟨fun b u q => ?_, fun b o e z => ?_, fun b o e => ?_⟩, rep_lst.mpr ⟨a, ys, rfl, upd_same, h2.mono s⟩, fun b o e z hb _ => by rw [upd_ne hb]; exact z⟩
    · by_cases hb : b = a
      · subst hb; rw [upd_same] at q; cases q; exact h1
      · rw [upd_ne hb] at q; exact gd.sub b u q
    · by_cases hb : b = a
      · subst hb; rw [upd_same] at z; cases z
      · rw [upd_ne hb] at z; exact gd.alone b o e z
    · by_cases hb : b = a
      · subst hb; rw [upd_same] at e; cases e; trivial
      · rw [upd_ne hb] at e; exact (gd.nice b o e).mono s
  | obj c fs =>
    obtain ⟨dx, ys, h1, h4, h5, _, h3, h2⟩ := h
    have hne : dx ≠ a := fun z => by rw [z, h1] at h4; cases h4
    have n2 : (upd G dx (.own a)) a = none := by rw [upd_ne (Ne.symm hne)]; exact n
    have s : Same G (upd (upd G dx (.own a)) a (.ins (L.cls c) dx ((L.fld c).zip ys))) := fun b u q => by
      rw [upd_ne (ne_of_none q n), upd_ne (ne_of_none q h5)]; exact q
    refine ⟨upd (upd G dx (.own a)) a (.ins (L.cls c) dx ((L.fld c).zip ys)), s, ⟨fun b u q => ?_, fun b o e z => ?_, fun b o e => ?_⟩, rep_obj.mpr ⟨a, dx, ys, rfl, upd_same, h3, h2.mono s⟩, fun b o e z hb ho => ?_⟩
    · by_cases hb : b = a
      · subst hb; rw [upd_same] at q; cases q; exact h1
      · rw [upd_ne hb] at q
        by_cases hd : b = dx
        · subst hd; rw [upd_same] at q; cases q; exact h4
        · rw [upd_ne hd] at q; exact gd.sub b u q
    · by_cases hb : b = a
      · subst hb; rw [upd_same] at z; cases z
      · rw [upd_ne hb] at z
        by_cases hd : b = dx
        · subst hd; rw [upd_same] at z; cases z
        · rw [upd_ne hd] at z; exact gd.alone b o e z
    · by_cases hb : b = a
      · subst hb; rw [upd_same] at e; cases e
        show (upd (upd G dx (.own b)) b (.ins (L.cls c) dx ((L.fld c).zip ys))) dx = some (.own b)
        rw [upd_ne hne, upd_same]
      · rw [upd_ne hb] at e
        by_cases hd : b = dx
        · subst hd; rw [upd_same] at e; cases e; exact ⟨_, upd_same⟩
        · rw [upd_ne hd] at e; exact (gd.nice b o e).mono s
    · have hd : b ≠ dx := fun z => by rw [z, h4] at e; cases e; exact ho rfl
      rw [upd_ne hb, upd_ne hd]; exact z
  | _ => exact h.elim
/-- frozen: the cell holds it still, nobody changes it from here on -/
theorem Fit.freeze {i : Nat} {p : PV} (f : Fit L G H cs os) (e : cs[i]? = some (.ow p)) :
    ∃ v G1, os[i]? = some (some v) ∧ Same G G1 ∧ Fit L G1 H (cs.set i (.fz p)) os ∧ Rep L G1 p v := by
  obtain ⟨v, e1, a, rfl, n, w⟩ := f.at_ i _ e
  obtain ⟨G1, sg, gd, r, keep⟩ := w.frozen n f.good
  refine ⟨_, G1, e1, sg, ?_, r⟩
  have hl : i < cs.length := (List.getElem?_eq_some_iff.mp e).1
  refine ⟨gd, by simp [f.len], fun j c' ej => ?_, fun j k p' q' b e1' e2' e3' e4' => ?_⟩
  · by_cases hj : i = j
    · subst hj
      rw [List.getElem?_set_self hl] at ej
      cases ej
      exact ⟨_, e1, _, rfl, r⟩
    · rw [List.getElem?_set_ne hj] at ej
      obtain ⟨o', e2, h'⟩ := f.at_ j c' ej
      refine ⟨o', e2, ?_⟩
      cases c' with
      | no => trivial
      | fz p' => obtain ⟨v, ev, rv⟩ := h'; exact ⟨v, ev, rv.mono sg⟩
      | ow p' =>
        obtain ⟨b, eb, nb, wb⟩ := h'
        subst eb
        have hne : b ≠ a := fun z => by
          subst z
          exact hj (f.inj i j p p' b e ej e1 e2)
        obtain ⟨ob, hob, hno⟩ := wb.there
        refine ⟨b, rfl, keep b ob hob nb hne (fun z => by rw [z] at hno; cases hno), wb.mono sg (fun _ _ _ z => z) fun d hd nd => keep d _ hd nd (fun z => ?_) (fun z => ?_)⟩
        · obtain ⟨oa, hoa, hna⟩ := w.there
          rw [z, hoa] at hd
          cases hd
          cases hna
        · cases z; exact hne rfl
  · have hj : i ≠ j := fun z => by
      subst z
      rw [List.getElem?_set_self hl] at e1'
      cases e1'
    have hk : i ≠ k := fun z => by
      subst z
      rw [List.getElem?_set_self hl] at e2'
      cases e2'
    rw [List.getElem?_set_ne hj] at e1'
    rw [List.getElem?_set_ne hk] at e2'
    exact f.inj j k p' q' b e1' e2' e3' e4'
/-- what one cell alone holds is changed -/
theorem Fit.change {i : Nat} {p q : PV} {a : Addr} {o : HO} (f : Fit L G H cs os) (e : cs[i]? = some (.ow p)) (ea : os[i]? = some (some (.ref a))) (ow : Ownable o) (w : OwnAt L G (upd H a o) q a) :
    Fit L G (upd H a o) (cs.set i (.ow q)) os := by
  obtain ⟨v, e1, a', e2, n, w0⟩ := f.at_ i _ e
  rw [ea] at e1
  cases e1
  cases e2
  have hl : i < cs.length := (List.getElem?_eq_some_iff.mp e).1
  refine ⟨⟨fun b u z => by rw [upd_ne (ne_of_none z n)]; exact f.good.sub b u z, fun b u z nb => ?_, f.good.nice⟩, by simp [f.len], fun j c' ej => ?_, fun j k p' q' b e1' e2' e3' e4' => ?_⟩
  · by_cases hb : b = a
    · subst hb; rw [upd_same] at z; cases z; exact ow
    · rw [upd_ne hb] at z; exact f.good.alone b u z nb
  · by_cases hj : i = j
    · subst hj
      rw [List.getElem?_set_self hl] at ej
      cases ej
      exact ⟨_, ea, a, rfl, n, w⟩
    · rw [List.getElem?_set_ne hj] at ej
      obtain ⟨o', e2, h'⟩ := f.at_ j c' ej
      refine ⟨o', e2, ?_⟩
      cases c' with
      | no => trivial
      | fz p' => exact h'
      | ow p' =>
        obtain ⟨b, eb, nb, wb⟩ := h'
        subst eb
        have hne : b ≠ a := fun z => by
          subst z
          exact hj (f.inj i j p p' b e ej ea e2)
        obtain ⟨oa, hoa, hna⟩ := w0.there
        refine ⟨b, rfl, nb, wb.mono (Same.refl _) (fun d u hd z => ?_) fun _ _ z => z⟩
        have hda : d ≠ a := fun y => by
          rcases hd with hd | hd
          · exact hne (hd.symm.trans y)
          · rw [y, hoa, hd] at z; cases z; cases hna
        rw [upd_ne hda]; exact z
  · have key : ∀ (m : Nat) (r : PV) (b : Addr), (cs.set i (.ow q))[m]? = some (.ow r) → os[m]? = some (some (.ref b)) → ∃ r', cs[m]? = some (.ow r') := fun m r b h1 h2 => by
      by_cases hm : i = m
      · subst hm; exact ⟨p, e⟩
      · rw [List.getElem?_set_ne hm] at h1; exact ⟨r, h1⟩
    obtain ⟨r1, h1⟩ := key j p' b e1' e3'
    obtain ⟨r2, h2⟩ := key k q' b e2' e4'
    exact f.inj j k r1 r2 b h1 h2 e3' e4'
end
end Mp
set_option Elab.async false
set_option linter.all false
set_option maxRecDepth 100000
set_option maxHeartbeats 4000000
namespace Mp
open PySem PySem.Spec PyProof.Rows L2
variable {L : Lk}

/-- an operand: nobody changes it, or one slot alone holds it -/
def Arg (L : Lk) (G H : Hp) (p : PV) (v : V) : Prop := Rep L G p v ∨ ∃ a, v = .ref a ∧ G a = none ∧ OwnAt L G H p a
/-- what is wanted behind an operation that gives r -/
def RvPost (L : Lk) (G H : Hp) (r : Rv) (Q : VK) : Prop :=
  match r with
  | .fz p => ∀ v G' H', Ext G H G' H' → Rep L G' p v → Q v H'
  | .ow p => ∀ a G' H', Ext G H G' H' → H a = none → G' a = none → OwnAt L G' H' p a → Q (.ref a) H'
  | .br _ => False
section
variable {G H G' H' : Hp} {p q : PV} {v : V} {Q : VK}
theorem Arg.int {i : Int} (h : Arg L G H (.int i) v) : v = .int i := by
  rcases h with h | ⟨a, _, _, h⟩
  · exact rep_int.mp h
  · exact h.elim
theorem Arg.bl {b : Bool} (h : Arg L G H (.bl b) v) : v = .bl b := by
  rcases h with h | ⟨a, _, _, h⟩
  · exact rep_bl.mp h
  · exact h.elim
theorem Arg.non (h : Arg L G H .non v) : v = .non := by
  rcases h with h | ⟨a, _, _, h⟩
  · exact rep_non.mp h
  · exact h.elim
theorem Arg.str {s : List Nat} (h : Arg L G H (.str s) v) : v = .str ⟨s.toArray⟩ ∧ OkS s := by
  rcases h with h | ⟨a, _, _, h⟩
  · exact rep_str.mp h
  · exact h.elim
theorem Arg.tup {xs : List PV} (s : Gd G H) (h : Arg L G H (.tup xs) v) : ∃ a ys, v = .ref a ∧ SqT L.K G a ys ∧ SqT L.K H a ys ∧ Reps L G xs ys := by
  rcases h with h | ⟨a, _, _, h⟩
  · obtain ⟨a, ys, e, h1, h2⟩ := rep_tup.mp h
    exact ⟨a, ys, e, h1, Same.seqT s.sub h1, h2⟩
  · exact h.elim
theorem Arg.lst {xs : List PV} (s : Gd G H) (h : Arg L G H (.lst xs) v) : ∃ a ys, v = .ref a ∧ H a = some (.lst ys) ∧ Reps L G xs ys := by
  rcases h with h | ⟨a, rfl, _, ys, h1, h2⟩
  · obtain ⟨a, ys, e, h1, h2⟩ := rep_lst.mp h
    exact ⟨a, ys, e, s.sub _ _ h1, h2⟩
  · exact ⟨a, ys, rfl, h1, h2⟩
theorem Arg.obj {c : Nat} {fs : List PV} (s : Gd G H) (h : Arg L G H (.obj c fs) v) : ∃ a dx ys, v = .ref a ∧ H a = some (.ins (L.cls c) dx ((L.fld c).zip ys)) ∧ ys.length ≤ (L.fld c).length ∧ Reps L G fs ys := by
  rcases h with h | ⟨a, rfl, _, dx, ys, h1, _, _, _, h3, h2⟩
  · obtain ⟨a, dx, ys, e, h1, h3, h2⟩ := rep_obj.mp h
    exact ⟨a, dx, ys, e, s.sub _ _ h1, h3, h2⟩
  · exact ⟨a, dx, ys, rfl, h1, h3, h2⟩
theorem Arg.ext (h : Arg L G H p v) (x : Ext G H G' H') : Arg L G' H' p v := by
  rcases h with h | ⟨a, e, n, h⟩
  · exact .inl (h.mono x.g)
  · obtain ⟨o, ho, _⟩ := h.there
    exact .inr ⟨a, e, x.new a o ho n, h.ext x⟩
abbrev Args (L : Lk) (G H : Hp) : List PV → List V → Prop := Paired (Arg L G H)

/-! ### new objects -/
theorem same_new {a : Addr} {o : HO} (n : H a = none) : Same H (upd H a o) := fun b u e => by rw [upd_ne (ne_of_none e n)]; exact e
theorem none_sub (s : Same G H) {a : Addr} (n : H a = none) : G a = none := Same.free s n
theorem ext_alone {a : Addr} {o : HO} (s : Gd G H) (n : H a = none) (ow : Ownable o) : Ext G H G (upd H a o) :=
  ⟨Same.refl _, same_new n, ⟨s.sub.trans (same_new n), fun b u e z => by
    by_cases hb : b = a
    · subst hb; rw [upd_same] at e; cases e; exact ow
    · rw [upd_ne hb] at e; exact s.alone b u e z, s.nice⟩, fun _ _ _ z => z⟩
theorem ext_frozen {a : Addr} {o : HO} (s : Gd G H) (n : H a = none) (nc : Nice (upd G a o) a o) : Ext G H (upd G a o) (upd H a o) :=
  ⟨same_new (none_sub s.sub n), same_new n, ⟨fun b u e => by
    by_cases hb : b = a
    · subst hb; rw [upd_same] at e ⊢; exact e
    · rw [upd_ne hb] at e ⊢; exact s.sub b u e, fun b u e z => by
    by_cases hb : b = a
    · subst hb; rw [upd_same] at z; cases z
    · rw [upd_ne hb] at e z; exact s.alone b u e z, fun b u e => by
    by_cases hb : b = a
    · subst hb; rw [upd_same] at e; cases e; exact nc
    · rw [upd_ne hb] at e; exact (s.nice b u e).mono (same_new (none_sub s.sub n))⟩, fun b u e z => by rw [upd_ne (ne_of_none e n)]; exact z⟩
theorem RvPost.fzI {p : PV} (s : Gd G H) (h : RvPost L G H (.fz p) Q) {v : V} (r : Rep L G p v) : Q v H := h v G H (Ext.refl s) r
theorem RvPost.newL {xs : List PV} {ys : List V} {a : Addr} (s : Gd G H) (n : H a = none) (r : Reps L G xs ys) (h : RvPost L G H (.ow (.lst xs)) Q) : Q (.ref a) (upd H a (.lst ys)) :=
  h a G _ (ext_alone s n trivial) n (none_sub s.sub n) ⟨ys, upd_same, r⟩
theorem RvPost.newT {xs : List PV} {ys : List V} {a : Addr} (s : Gd G H) (n : H a = none) (r : Reps L G xs ys) (h : RvPost L G H (.fz (.tup xs)) Q) : Q (.ref a) (upd H a (.tup ys)) :=
  h _ _ _ (ext_frozen s n trivial) (rep_tup.mpr ⟨a, ys, rfl, SqT.of upd_same, r.mono (same_new (none_sub s.sub n))⟩)
end

theorem OkS.append {a b : List Nat} (ha : OkS a) (hb : OkS b) (h : a.length + b.length ≤ LINE) : OkS (a ++ b) :=
  ⟨by rw [List.length_append]; exact h, fun c hc => (List.mem_append.mp hc).elim (ha.cps c) (hb.cps c)⟩
theorem OkS.sub {a b : List Nat} (ha : OkS a) (hl : b.length ≤ a.length) (h : ∀ c ∈ b, c ∈ a) : OkS b := ⟨Nat.le_trans hl ha.len, fun c hc => ha.cps c (h c hc)⟩
theorem OkS.rep {a : List Nat} (ha : OkS a) {k : Nat} (h : a.length * k ≤ LINE) : OkS (List.replicate k a).flatten := by
  refine ⟨?_, fun c hc => ?_⟩
  · rw [List.length_flatten]
    simp only [List.map_replicate, List.sum_replicate_nat]
    rw [Nat.mul_comm]
    exact h
  · obtain ⟨l, hl, hc⟩ := List.mem_flatten.mp hc
    rw [(List.mem_replicate.mp hl).2] at hc
    exact ha.cps c hc
/-! ## operators -/
def mulOk (i j : Int) : Bool := decide (i.natAbs < 18446744073709551616) || decide (j.natAbs < 18446744073709551616)
def repOk (n : Nat) (k : Int) : Bool := decide (k.natAbs < 9223372036854775808) && decide (n * k.toNat ≤ LINE)
def powOk (i j : Int) : Bool := decide (0 ≤ j) && decide (j.natAbs ≤ 1000000) && decide (i.natAbs < 18446744073709551616)
def binF (o : Operator) (p q : PV) : Option Rv :=
  match p, q with
  | .int a, .int b =>
    match o with
    | .Add => some (.fz (.int (a + b)))
    | .Sub => some (.fz (.int (a - b)))
    | .Mult => if mulOk a b then some (.fz (.int (a * b))) else none
    | .FloorDiv => if decide (0 < b) && decide (b.natAbs < 1073741824) then some (.fz (.int (a / b))) else none
    | .Mod => if decide (0 < b) then some (.fz (.int (a % b))) else none
    | .Pow => if powOk a b then some (.fz (.int (a ^ b.toNat))) else none
    | .LShift => if powOk a b then some (.fz (.int (a * 2 ^ b.toNat))) else none
    | .RShift => if decide (0 ≤ b) then some (.fz (.int (a / 2 ^ b.toNat))) else none
    | .BitAnd => some (.fz (.int (Builtin.bitAnd a b)))
    | .BitOr => some (.fz (.int (Builtin.bitOr a b)))
    | _ => none
  | .str a, .str b =>
    match o with
    | .Add => if decide (a.length + b.length ≤ LINE) then some (.fz (.str (a ++ b))) else none
    | _ => none
  | .lst a, .lst b =>
    match o with
    | .Add => if decide (a.length + b.length ≤ LINE) then some (.ow (.lst (a ++ b))) else none
    | _ => none
  | .tup a, .tup b =>
    match o with
    | .Add => if decide (a.length + b.length ≤ LINE) then some (.fz (.tup (a ++ b))) else none
    | _ => none
  | .lst a, .int k =>
    match o with
    | .Mult => if repOk a.length k then some (.ow (.lst (List.replicate k.toNat a).flatten)) else none
    | _ => none
  | .str a, .int k =>
    match o with
    | .Mult => if repOk a.length k && decide (1 ≤ a.length) then some (.fz (.str (List.replicate k.toNat a).flatten)) else none
    | _ => none
  | _, _ => none

section
variable {X : Cx} {G H : Hp}
/-- what an operator's rule says -/
def rBin (L : Lk) (o : Operator) : R2 := fun x y H Q => ∃ G p q r, Gd G H ∧ Arg L G H p x ∧ Arg L G H q y ∧ binF o p q = some r ∧ RvPost L G H r Q
theorem pow64 : (2 : Int) ^ 64 = 18446744073709551616 := by decide
theorem pow63 : (2 : Int) ^ 63 = 9223372036854775808 := by decide
theorem mulOk_c {i j : Int} (h : mulOk i j = true) : CMul i j := by
  unfold mulOk at h
  unfold CMul
  rw [pow64]
  simp only [Bool.or_eq_true, decide_eq_true_eq] at h
  omega
theorem powOk_c {i j : Int} (h : powOk i j = true) : CPow i j := by
  unfold powOk at h
  unfold CPow
  simp only [Bool.and_eq_true, decide_eq_true_eq] at h
  have h2 := h.1.2
  exact ⟨h.1.1, by omega, by simpa using h.2⟩
theorem str_len (s : List Nat) : (⟨s.toArray⟩ : Str).length = s.length := by simp [Str.length]
theorem str_app (a b : List Nat) : ((⟨a.toArray⟩ : Str) ++ (⟨b.toArray⟩ : Str)) = ⟨(a ++ b).toArray⟩ := by
  show Str.append _ _ = _
  simp [Str.append]
theorem foldl_app (x : Array Nat) : ∀ (n : Nat) (acc : Array Nat), ((List.replicate n x).foldl (· ++ ·) acc) = acc ++ ((List.replicate n x.toList).flatten).toArray
  | 0, acc => by simp
  | n + 1, acc => by
    rw [List.replicate_succ, List.foldl_cons, foldl_app x n, List.replicate_succ, List.flatten_cons]
    apply Array.toList_inj.mp
    simp
theorem txt_mul (a : List Nat) (k : Int) : Txt.mul ⟨a.toArray⟩ k = ⟨((List.replicate k.toNat a).flatten).toArray⟩ := by
  unfold Txt.mul
  by_cases h1 : k < 1
  · rw [if_pos h1]
    have e : k.toNat = 0 := by omega
    rw [e]; rfl
  · rw [if_neg h1]
    by_cases h2 : ((k == 1) || ((⟨a.toArray⟩ : Str).length == 0)) = true
    · rw [if_pos h2]
      simp only [Bool.or_eq_true, beq_iff_eq] at h2
      rcases h2 with e | e
      · subst e; simp
      · rw [str_len] at e
        have : a = [] := List.eq_nil_of_length_eq_zero e
        subst this
        have z : ∀ n : Nat, (List.replicate n ([] : List Nat)).flatten = [] := fun n => by induction n <;> simp_all [List.replicate_succ]
        rw [z]
    · rw [if_neg h2]
      congr 1
      rw [foldl_app]
      simp
theorem op_mulS : OpR X (binaryOp .Mult) (fun x y H Q => ∃ (a : List Nat) (k : Int), x = .str ⟨a.toArray⟩ ∧ y = .int k ∧ repOk a.length k = true ∧ 1 ≤ a.length ∧ Q (.str ⟨((List.replicate k.toNat a).flatten).toArray⟩) H) := by
  intro pins s σ H x y v u Q I rx ry h
  obtain ⟨a, k, rfl, rfl, hk, ha, q⟩ := h
  obtain ⟨t, rfl⟩ := rx
  obtain ⟨t', rfl⟩ := ry
  unfold repOk at hk
  simp only [Bool.and_eq_true, decide_eq_true_eq] at hk
  obtain ⟨h12, h3⟩ := hk
  have h1 : -9223372036854775808 ≤ k := by omega
  have h2 : k < 9223372036854775808 := by omega
  refine PySem.SB.mul ⟨?_, fun h4 h5 => ?_, fun h4 h5 => ?_⟩ fun t'' k' => ?_
  · have a1 : ¬ k < -(2 ^ 63 : Int) := by rw [pow63]; omega
    have a2 : ¬ k ≥ (2 ^ 63 : Int) := by rw [pow63]; omega
    rw [decide_eq_false a1, decide_eq_false a2] <;> rfl
  · rw [str_len]
    have hk' : (k.toNat : Int) = k := by omega
    have h6 : (a.length : Int) * k ≤ 16777216 := by
      rw [← hk']
      have z : ((a.length * k.toNat : Nat) : Int) ≤ ((16777216 : Nat) : Int) := Int.ofNat_le.mpr h3
      rw [Int.natCast_mul] at z
      exact z
    have h7 : (1 : Int) ≤ k := by omega
    intro h8
    rw [pow63] at h8
    generalize hM : ((9223372036854775808 : Int) - 1) / k = M at h8
    have h10 : (9223372036854775808 : Int) - 1 < (M + 1) * k := by rw [← hM]; exact Int.lt_ediv_add_one_mul_self _ (by omega)
    have h11 : M + 1 ≤ a.length := by omega
    have h12 : (M + 1) * k ≤ (a.length : Int) * k := Int.mul_le_mul_of_nonneg_right h11 (by omega)
    omega
  · rw [str_len]
    unfold Builtin.Str.tooLong
    simp only [decide_eq_false_iff_not]
    rw [sizeLine_eq]
    exact Nat.not_lt.mpr h3
  · rw [txt_mul]
    exact ⟨.str _, H, I.tok _, ⟨_, rfl⟩, q⟩
theorem bin_ok (hL : L.K = X.K) (o : Operator) : OpR X (binaryOp o) (rBin L o) := by
  intro pins s σ H x y v u Q I rx ry h
  obtain ⟨G, p, q, r, sg, ax, ay, e, post⟩ := h
  have fzi : ∀ (i : Int), r = .fz (.int i) → Q (.int i) H := fun i e => by subst e; exact post.fzI sg (rep_int.mpr rfl)
  unfold binF at e
  split at e
  · obtain rfl := ax.int
    obtain rfl := ay.int
    split at e
    · cases e; exact op_add pins s σ H _ _ v u Q I rx ry ⟨_, _, rfl, rfl, fzi _ rfl⟩
    · cases e; exact op_sub pins s σ H _ _ v u Q I rx ry ⟨_, _, rfl, rfl, fzi _ rfl⟩
    · split at e
      · rename_i hm
        cases e; exact op_mul pins s σ H _ _ v u Q I rx ry ⟨_, _, rfl, rfl, mulOk_c hm, fzi _ rfl⟩
      · cases e
    · split at e
      · rename_i hm
        simp only [Bool.and_eq_true, decide_eq_true_eq] at hm
        cases e; exact op_fdiv pins s σ H _ _ v u Q I rx ry ⟨_, _, rfl, rfl, ⟨hm.1, by omega⟩, fzi _ rfl⟩
      · cases e
    · split at e
      · rename_i hm
        simp only [decide_eq_true_eq] at hm
        cases e; exact op_mod pins s σ H _ _ v u Q I rx ry ⟨_, _, rfl, rfl, hm, fzi _ rfl⟩
      · cases e
    · split at e
      · rename_i hm
        cases e; exact op_pow pins s σ H _ _ v u Q I rx ry ⟨_, _, rfl, rfl, powOk_c hm, fzi _ rfl⟩
      · cases e
    · split at e
      · rename_i hm
        cases e; exact op_shl pins s σ H _ _ v u Q I rx ry ⟨_, _, rfl, rfl, powOk_c hm, fzi _ rfl⟩
      · cases e
    · split at e
      · rename_i hm
        simp only [decide_eq_true_eq] at hm
        cases e; exact op_shr pins s σ H _ _ v u Q I rx ry ⟨_, _, rfl, rfl, hm, fzi _ rfl⟩
      · cases e
    · cases e; exact op_and pins s σ H _ _ v u Q I rx ry ⟨_, _, rfl, rfl, fzi _ rfl⟩
    · cases e; exact op_or pins s σ H _ _ v u Q I rx ry ⟨_, _, rfl, rfl, fzi _ rfl⟩
    · cases e
  · obtain ⟨rfl, h1⟩ := ax.str
    obtain ⟨rfl, h2⟩ := ay.str
    split at e
    · split at e
      · rename_i hm
        simp only [decide_eq_true_eq] at hm
        cases e
        refine op_add_str pins s σ H _ _ v u Q I rx ry ⟨_, _, rfl, rfl, by rw [str_len, str_len, sizeLine_eq]; exact hm, ?_⟩
        rw [str_app]
        exact post.fzI sg (rep_str.mpr ⟨rfl, h1.append h2 hm⟩)
      · cases e
    · cases e
  · obtain ⟨a, xs, rfl, ha, r1⟩ := ax.lst sg
    obtain ⟨b, ys, rfl, hb, r2⟩ := ay.lst sg
    split at e
    · split at e
      · rename_i hm
        simp only [decide_eq_true_eq] at hm
        cases e
        exact op_cat pins s σ H _ _ v u Q I rx ry ⟨a, b, xs, ys, rfl, rfl, ha, hb, by rw [← r1.length, ← r2.length, sizeLine_eq]; exact hm, fun p hp => post.newL sg hp (r1.append r2)⟩
      · cases e
    · cases e
  · obtain ⟨a, xs, rfl, ha, ha', r1⟩ := ax.tup sg
    obtain ⟨b, ys, rfl, hb, hb', r2⟩ := ay.tup sg
    split at e
    · split at e
      · rename_i hm
        simp only [decide_eq_true_eq] at hm
        cases e
        rw [hL] at ha hb ha' hb'
        refine op_catA pins s σ H _ _ v u Q I rx ry ⟨a, b, xs, ys, rfl, rfl, ha', hb', by rw [← r1.length, ← r2.length, sizeLine_eq]; exact hm, fun z => ?_, fun _ z => ?_, fun _ _ p hp => post.newT sg hp (r1.append r2)⟩
        · subst z
          have := List.eq_nil_of_length_eq_zero r1.length
          subst this
          exact post.fzI sg (rep_tup.mpr ⟨b, ys, rfl, by rw [hL]; exact hb, r2⟩)
        · subst z
          have := List.eq_nil_of_length_eq_zero r2.length
          subst this
          refine post.fzI sg (rep_tup.mpr ⟨a, xs, rfl, by rw [hL]; exact ha, ?_⟩)
          rw [List.append_nil]
          exact r1
      · cases e
    · cases e
  · obtain ⟨a, xs, rfl, ha, r1⟩ := ax.lst sg
    obtain rfl := ay.int
    split at e
    · split at e
      · rename_i hm
        cases e
        unfold repOk at hm
        simp only [Bool.and_eq_true, decide_eq_true_eq] at hm
        obtain ⟨h12, h3⟩ := hm
        refine op_rep pins s σ H _ _ v u Q I rx ry ⟨a, _, xs, rfl, rfl, ha, by rw [pow63]; omega, by rw [pow63]; omega, by rw [← r1.length, sizeLine_eq]; exact h3, fun p hp => post.newL sg hp (r1.rep _)⟩
      · cases e
    · cases e
  · obtain ⟨rfl, h1⟩ := ax.str
    obtain rfl := ay.int
    split at e
    · split at e
      · rename_i hm
        cases e
        simp only [Bool.and_eq_true, decide_eq_true_eq] at hm
        refine op_mulS pins s σ H _ _ v u Q I rx ry ⟨_, _, rfl, rfl, hm.1, hm.2, post.fzI sg (rep_str.mpr ⟨rfl, ?_⟩)⟩
        have h3 := hm.1
        unfold repOk at h3
        simp only [Bool.and_eq_true, decide_eq_true_eq] at h3
        exact h1.rep h3.2
      · cases e
    · cases e
  · cases e
end
end Mp
set_option Elab.async false
set_option linter.all false
set_option maxRecDepth 100000
set_option maxHeartbeats 400000
namespace Mp
open PySem PySem.Spec PyProof.Rows L2
variable {L : Lk}
/-! ## comparisons -/
mutual
def eqB : PV → PV → Bool
  | .non, q => match q with | .non => true | _ => false
  | .bl a, q => match q with | .bl b => a == b | .int j => (if a then 1 else 0) == j | _ => false
  | .int i, q => match q with | .bl b => i == (if b then 1 else 0) | .int j => i == j | _ => false
  | .str a, q => match q with | .str b => decide (a = b) | _ => false
  | .lst xs, q => match q with | .lst ys => eqBs xs ys | _ => false
  | .tup xs, q => match q with | .tup ys => eqBs xs ys | _ => false
  | .obj _ _, _ => false
  | .scr _, _ => false
def eqBs : List PV → List PV → Bool
  | [], q => match q with | [] => true | _ => false
  | x :: xs, q => match q with | [] => false | y :: ys => eqB x y && eqBs xs ys
end
mutual
def okD : Nat → PV → Bool
  | _, .non => true
  | _, .bl _ => true
  | _, .int _ => true
  | _, .str _ => true
  | n, .lst xs => decide (0 < n) && okDs (n - 1) xs
  | n, .tup xs => decide (0 < n) && okDs (n - 1) xs
  | _, .obj _ _ => false
  | _, .scr _ => false
def okDs : Nat → List PV → Bool
  | _, [] => true
  | n, x :: xs => okD n x && okDs n xs
end
mutual
def toD : PV → PyData
  | .non => .none
  | .bl b => .bool b
  | .int i => .int i
  | .str s => .str ⟨s.toArray⟩
  | .lst xs => .list (toDs xs)
  | .tup xs => .tuple (toDs xs)
  | .obj _ _ => .none
  | .scr _ => .none
def toDs : List PV → List PyData
  | [] => []
  | x :: xs => toD x :: toDs xs
end
theorem str_inj {a b : List Nat} : (⟨a.toArray⟩ : Str) = ⟨b.toArray⟩ ↔ a = b := by
  constructor
  · intro h
    injection h with h
    simpa using congrArg Array.toList h
  · rintro rfl; rfl
mutual
theorem eqv_toD : ∀ (n m : Nat) (p q : PV), okD n p = true → okD m q = true → PyData.eqv (toD p) (toD q) = eqB p q
  | n, m, .non, q, hp, hq => by cases q <;> simp_all [toD, eqB, PyData.eqv, okD]
  | n, m, .bl a, q, hp, hq => by cases q <;> simp_all [toD, eqB, PyData.eqv, okD]
  | n, m, .int a, q, hp, hq => by cases q <;> simp_all [toD, eqB, PyData.eqv, okD]
  | n, m, .str a, q, hp, hq => by
    cases q with
    | str b =>
      simp only [toD, eqB, PyData.eqv]
      rw [Bool.eq_iff_iff]
      simp [str_inj]
    | _ => simp_all [toD, eqB, PyData.eqv, okD]
  | n, m, .lst xs, q, hp, hq => by
    cases q with
    | lst ys =>
      simp only [okD, Bool.and_eq_true] at hp hq
      simp only [toD, eqB, PyData.eqv]
      exact eqv_toDs (n - 1) (m - 1) xs ys hp.2 hq.2
    | _ => simp_all [toD, eqB, PyData.eqv, okD]
  | n, m, .tup xs, q, hp, hq => by
    cases q with
    | tup ys =>
      simp only [okD, Bool.and_eq_true] at hp hq
      simp only [toD, eqB, PyData.eqv]
      exact eqv_toDs (n - 1) (m - 1) xs ys hp.2 hq.2
    | _ => simp_all [toD, eqB, PyData.eqv, okD]
  | n, m, .obj _ _, q, hp, hq => by simp [okD] at hp
  | n, m, .scr _, q, hp, hq => by simp [okD] at hp
theorem eqv_toDs : ∀ (n m : Nat) (ps qs : List PV), okDs n ps = true → okDs m qs = true → PyData.eqvAll (toDs ps) (toDs qs) = eqBs ps qs
  | n, m, [], qs, hp, hq => by cases qs <;> simp_all [toDs, eqBs, PyData.eqvAll]
  | n, m, p :: ps, qs, hp, hq => by
    cases qs with
    | nil => simp_all [toDs, eqBs, PyData.eqvAll]
    | cons q qs =>
      simp only [okDs, Bool.and_eq_true] at hp hq
      simp only [toDs, eqBs, PyData.eqvAll]
      rw [eqv_toD n m p q hp.1 hq.1, eqv_toDs n m ps qs hp.2 hq.2]
end
mutual
theorem depth_toD : ∀ (n : Nat) (p : PV), okD n p = true → (toD p).depth ≤ n
  | n, .non, h => by simp [toD, PyData.depth]
  | n, .bl _, h => by simp [toD, PyData.depth]
  | n, .int _, h => by simp [toD, PyData.depth]
  | n, .str _, h => by simp [toD, PyData.depth]
  | n, .lst xs, h => by
    simp only [okD, Bool.and_eq_true, decide_eq_true_eq] at h
    have := depth_toDs (n - 1) xs h.2
    simp only [toD, PyData.depth]
    omega
  | n, .tup xs, h => by
    simp only [okD, Bool.and_eq_true, decide_eq_true_eq] at h
    have := depth_toDs (n - 1) xs h.2
    simp only [toD, PyData.depth]
    omega
  | n, .obj _ _, h => by simp [okD] at h
  | n, .scr _, h => by simp [okD] at h
theorem depth_toDs : ∀ (n : Nat) (ps : List PV), okDs n ps = true → PyData.depthAll (toDs ps) ≤ n
  | n, [], h => by simp [toDs, PyData.depthAll]
  | n, p :: ps, h => by
    simp only [okDs, Bool.and_eq_true] at h
    have h1 := depth_toD n p h.1
    have h2 := depth_toDs n ps h.2
    simp only [toDs, PyData.depthAll]
    omega
end
section
variable {G H : Hp}
theorem strOk_of {s : List Nat} (h : OkS s) : PyData.strOk ⟨s.toArray⟩ = true := by
  unfold PyData.strOk
  simp only [Array.all_eq_true_iff_forall_mem] 
  intro x hx
  simpa using h.cps x (by simpa using hx)
mutual
theorem rep_dp (s : Same G H) : ∀ (n : Nat) (p : PV) (v : V), okD n p = true → Rep L G p v → Dp L.K H v (toD p) ∧ (toD p).canLay0 = true
  | n, .non, v, h, r => by rw [rep_non.mp r]; exact ⟨.non, by simp [toD, PyData.canLay0]⟩
  | n, .bl b, v, h, r => by rw [rep_bl.mp r]; exact ⟨.bl b, by simp [toD, PyData.canLay0]⟩
  | n, .int i, v, h, r => by rw [rep_int.mp r]; exact ⟨.int i, by simp [toD, PyData.canLay0]⟩
  | n, .str x, v, h, r => by
    obtain ⟨e, ok⟩ := rep_str.mp r
    rw [e]
    exact ⟨.str _, by simp only [toD, PyData.canLay0]; exact strOk_of ok⟩
  | n, .lst xs, v, h, r => by
    simp only [okD, Bool.and_eq_true] at h
    obtain ⟨a, ys, rfl, h1, h2⟩ := rep_lst.mp r
    obtain ⟨h3, h4⟩ := reps_dp s (n - 1) xs ys h.2 h2
    exact ⟨.lst (SqL.of (s _ _ h1)) h3, by simp only [toD, PyData.canLay0]; exact h4⟩
  | n, .tup xs, v, h, r => by
    simp only [okD, Bool.and_eq_true] at h
    obtain ⟨a, ys, rfl, h1, h2⟩ := rep_tup.mp r
    obtain ⟨h3, h4⟩ := reps_dp s (n - 1) xs ys h.2 h2
    exact ⟨.tup (Same.seqT s h1) h3, by simp only [toD, PyData.canLay0]; exact h4⟩
  | n, .obj _ _, v, h, r => by simp [okD] at h
  | n, .scr _, v, h, r => by simp [okD] at h
theorem reps_dp (s : Same G H) : ∀ (n : Nat) (ps : List PV) (vs : List V), okDs n ps = true → Reps L G ps vs → DpAll L.K H vs (toDs ps) ∧ PyData.canLayAll0 (toDs ps) = true
  | n, [], vs, h, r => by rw [reps_nil.mp r]; exact ⟨.nil, by simp [toDs, PyData.canLayAll0]⟩
  | n, p :: ps, vs, h, r => by
    simp only [okDs, Bool.and_eq_true] at h
    obtain ⟨v, us, rfl, h1, h2⟩ := reps_cons.mp r
    obtain ⟨a1, a2⟩ := rep_dp s n p v h.1 h1
    obtain ⟨b1, b2⟩ := reps_dp s n ps us h.2 h2
    exact ⟨.cons a1 b1, by simp only [toDs, PyData.canLayAll0, a2, b2]; rfl⟩
end
theorem arg_dp (s : Same G H) {n : Nat} {p : PV} {v : V} (h : okD n p = true) (r : Arg L G H p v) : Dp L.K H v (toD p) ∧ (toD p).canLay0 = true := by
  rcases r with r | ⟨a, rfl, _, r⟩
  · exact rep_dp s n p v h r
  · cases p with
    | lst xs =>
      simp only [okD, Bool.and_eq_true] at h
      obtain ⟨ys, h1, h2⟩ := r
      obtain ⟨h3, h4⟩ := reps_dp s (n - 1) xs ys h.2 h2
      exact ⟨.lst (SqL.of h1) h3, by simp only [toD, PyData.canLay0]; exact h4⟩
    | obj _ _ => simp [okD] at h
    | _ => exact r.elim
theorem shaped_of {n : Nat} {p : PV} (hn : n ≤ 64) (h : okD n p = true) (c : (toD p).canLay0 = true) : SeqAt.shaped (toD p) = true := by
  unfold SeqAt.shaped
  rw [c, decide_eq_true (Nat.le_trans (depth_toD n p h) hn)] <;> rfl
end
def ltS (a b : List Nat) : Bool := decide (a < b)
/-- the one text within the other -/
def inS (a b : List Nat) : Bool := !(Builtin.Str.occurrences ⟨b.toArray⟩ ⟨a.toArray⟩ 0 b.length 1).isEmpty
theorem inS_one (c : Nat) (b : List Nat) : inS [c] b = decide (c ∈ b) := by
  have := StrLaws.found_one ⟨b.toArray⟩ c
  unfold inS
  rw [← str_len b]
  simpa using this
def isN : PV → Bool
  | .non => true
  | _ => false
def flatP : PV → Bool
  | .non | .bl _ | .int _ | .str _ => true
  | _ => false
def inF (p q : PV) : Option Bool :=
  match q with
  | .str b => (match p with | .str a => some (inS a b) | _ => none)
  | .lst xs => if okD 63 p && okD 64 (.lst xs) then some (xs.any fun z => eqB z p) else none
  | .tup xs => if flatP p && xs.all flatP then some (xs.any fun z => eqB z p) else none
  | _ => none
def cmpF (o : CmpOp) (p q : PV) : Option Bool :=
  match o with
  | .Eq => if okD 64 p && okD 64 q then some (eqB p q) else none
  | .NotEq => if okD 64 p && okD 64 q then some (!eqB p q) else none
  | .In => inF p q
  | .NotIn => (inF p q).map (!·)
  | .Is => if isN q then some (isN p) else none
  | .IsNot => if isN q then some (!isN p) else none
  | .Lt => (match p, q with | .int a, .int b => some (decide (a < b)) | .str a, .str b => some (ltS a b) | _, _ => none)
  | .LtE => (match p, q with | .int a, .int b => some (decide (a ≤ b)) | .str a, .str b => some (!ltS b a) | _, _ => none)
  | .Gt => (match p, q with | .int a, .int b => some (decide (b < a)) | .str a, .str b => some (ltS b a) | _, _ => none)
  | .GtE => (match p, q with | .int a, .int b => some (decide (b ≤ a)) | .str a, .str b => some (!ltS a b) | _, _ => none)
section
variable {X : Cx} {G H : Hp}
def rCmp (L : Lk) (o : CmpOp) : R2 := fun x y H Q => ∃ G p q b, Gd G H ∧ Arg L G H p x ∧ Arg L G H q y ∧ cmpF o p q = some b ∧ Q (.bl b) H
theorem any_toDs (p : PV) (n m : Nat) (hp : okD n p = true) : ∀ xs : List PV, okDs m xs = true → ((toDs xs).any fun z => PyData.eqv z (toD p)) = xs.any fun z => eqB z p
  | [], _ => rfl
  | x :: xs, h => by
    simp only [okDs, Bool.and_eq_true] at h
    simp only [toDs, List.any_cons]
    rw [eqv_toD m n x p h.1 hp, any_toDs p n m hp xs h.2]
theorem flat_v {p : PV} {v : V} (h : flatP p = true) (r : Arg L G H p v) : flatV v = true ∧ ∀ q u, flatP q = true → Arg L G H q u → eqV u v = eqB q p := by
  cases p with
  | non =>
    rw [r.non]
    refine ⟨rfl, fun q u hq ru => ?_⟩
    cases q with
    | non => rw [ru.non]; rfl
    | bl b => rw [ru.bl]; rfl
    | int b => rw [ru.int]; rfl
    | str b => rw [ru.str.1]; rfl
    | _ => cases hq
  | bl a =>
    rw [r.bl]
    refine ⟨rfl, fun q u hq ru => ?_⟩
    cases q with
    | non => rw [ru.non]; rfl
    | bl b => rw [ru.bl]; rfl
    | int b => rw [ru.int]; rfl
    | str b => rw [ru.str.1]; rfl
    | _ => cases hq
  | int a =>
    rw [r.int]
    refine ⟨rfl, fun q u hq ru => ?_⟩
    cases q with
    | non => rw [ru.non]; rfl
    | bl b => rw [ru.bl]; rfl
    | int b => rw [ru.int]; rfl
    | str b => rw [ru.str.1]; rfl
    | _ => cases hq
  | str a =>
    rw [r.str.1]
    refine ⟨rfl, fun q u hq ru => ?_⟩
    cases q with
    | non => rw [ru.non]; rfl
    | bl b => rw [ru.bl]; rfl
    | int b => rw [ru.int]; rfl
    | str b =>
      rw [ru.str.1]
      show ((⟨b.toArray⟩ : Str) == ⟨a.toArray⟩) = decide (b = a)
      rw [Bool.eq_iff_iff]
      simp [str_inj]
    | _ => cases hq
  | _ => cases h
theorem flat_all {xs : List PV} : ∀ {ys : List V}, xs.all flatP = true → Reps L G xs ys → ys.all flatV = true ∧ ∀ p v, flatP p = true → Arg L G H p v → inV v ys = xs.any fun z => eqB z p := by
  induction xs with
  | nil =>
    intro ys _ r
    rw [reps_nil.mp r]
    exact ⟨rfl, fun _ _ _ _ => rfl⟩
  | cons x xs ih =>
    intro ys h r
    obtain ⟨v, us, rfl, h1, h2⟩ := reps_cons.mp r
    simp only [List.all_cons, Bool.and_eq_true] at h
    obtain ⟨i1, i2⟩ := ih h.2 h2
    have f := flat_v (H := H) h.1 (.inl h1)
    refine ⟨by simp only [List.all_cons, f.1, i1]; rfl, fun p u hp ru => ?_⟩
    have f2 := flat_v hp ru
    have i3 := i2 p u hp ru
    unfold inV at i3 ⊢
    simp only [List.any_cons]
    rw [i3, f2.2 x v h.1 (.inl h1)]
theorem cps_str (a : List Nat) : (⟨a.toArray⟩ : Str).cps.toList = a := by simp
theorem in_ok (hL : L.K = X.K) (hu : X.A.units + 65 < cLine) {p q : PV} {b : Bool} {x y : V} {H : Hp} {G : Hp} (sg : Gd G H) (ax : Arg L G H p x) (ay : Arg L G H q y) (e : inF p q = some b) {pins : List (Addr × Obj)} {s : Shared} {σ : L2.St} {v u : Value} {Q : VK}
    (I : Inv X pins σ H s) (rx : RelV x v) (ry : RelV y u) : (Q (.bl b) H → wpAny (model X.prog X.w) X.A (compareOp .In v u) (EP X pins σ Q) X.xe s) ∧ (Q (.bl (!b)) H → wpAny (model X.prog X.w) X.A (compareOp .NotIn v u) (EP X pins σ Q) X.xe s) := by
  unfold inF at e
  cases q with
  | str z =>
    cases p with
    | str w' =>
      cases e
      obtain ⟨rfl, _⟩ := ax.str
      obtain ⟨rfl, _⟩ := ay.str
      have e2 : (!(Builtin.Str.occurrences ⟨z.toArray⟩ ⟨w'.toArray⟩ 0 (⟨z.toArray⟩ : Str).length 1).isEmpty) = inS w' z := by rw [str_len]; rfl
      exact ⟨fun q => op_in_str pins s σ H _ _ v u Q I rx ry ⟨_, _, rfl, rfl, by rw [e2]; exact q⟩, fun q => op_notin_str pins s σ H _ _ v u Q I rx ry ⟨_, _, rfl, rfl, by rw [e2]; exact q⟩⟩
    | _ => cases e
  | lst xs =>
    simp only at e
    split at e
    · rename_i hk
      cases e
      simp only [Bool.and_eq_true] at hk
      obtain ⟨d1, c1⟩ := arg_dp sg.sub hk.1 ax
      obtain ⟨d2, c2⟩ := arg_dp sg.sub hk.2 ay
      rw [hL] at d1 d2
      have hk2 := hk.2
      simp only [okD, Bool.and_eq_true] at hk2
      have s1 := shaped_of (by omega) hk.1 c1
      have s2 := shaped_of (by omega) hk.2 c2
      have ea := any_toDs p 63 63 hk.1 xs hk2.2
      simp only [toD] at d2 s2
      exact ⟨fun q => op_inD hu pins s σ H _ _ v u Q I rx ry ⟨_, _, d1, d2, s1, s2, by rw [ea]; exact q⟩, fun q => op_notInD hu pins s σ H _ _ v u Q I rx ry ⟨_, _, d1, d2, s1, s2, by rw [ea]; exact q⟩⟩
    · cases e
  | tup xs =>
    simp only at e
    split at e
    · rename_i hk
      cases e
      simp only [Bool.and_eq_true] at hk
      obtain ⟨a, ys, rfl, h1, h2, h3⟩ := ay.tup sg
      rw [hL] at h2
      obtain ⟨f1, f2⟩ := flat_all (H := H) hk.2 h3
      have f3 := flat_v hk.1 ax
      have f4 := f2 p x hk.1 ax
      exact ⟨fun q => op_in_seq pins s σ H _ _ v u Q I rx ry ⟨a, ys, rfl, .inr h2, f3.1, f1, by simp only [Bool.false_eq_true, if_false]; rw [f4]; exact q⟩,
        fun q => op_notIn_seq pins s σ H _ _ v u Q I rx ry ⟨a, ys, rfl, .inr h2, f3.1, f1, by simp only [if_true]; rw [f4]; exact q⟩⟩
    · cases e
  | _ => cases e
theorem isnon {p : PV} {x : V} (ax : Arg L G H p x) : decide (x = V.non) = isN p := by
  cases p with
  | non => rw [ax.non]; rfl
  | bl b => rw [ax.bl]; rfl
  | int b => rw [ax.int]; rfl
  | str b => rw [ax.str.1]; rfl
  | tup xs =>
    rcases ax with h | ⟨a, _, _, h⟩
    · obtain ⟨a, ys, e, _⟩ := rep_tup.mp h
      rw [e]; rfl
    · exact h.elim
  | lst xs =>
    rcases ax with h | ⟨a, e, _, h⟩
    · obtain ⟨a, ys, e, _⟩ := rep_lst.mp h
      rw [e]; rfl
    · rw [e]; rfl
  | obj c fs =>
    rcases ax with h | ⟨a, e, _, h⟩
    · obtain ⟨a, dx, ys, e, _⟩ := rep_obj.mp h
      rw [e]; rfl
    · rw [e]; rfl
  | scr ns =>
    rcases ax with h | ⟨a, e, _, h⟩
    · obtain ⟨a, e, _⟩ := rep_scr.mp h
      rw [e]; rfl
    · exact h.elim
theorem cmp_ok (hL : L.K = X.K) (hu : X.A.units + 65 < cLine) (o : CmpOp) : OpR X (compareOp o) (rCmp L o) := by
  intro pins s σ H x y v u Q I rx ry h
  obtain ⟨G, p, q, b, sg, ax, ay, e, post⟩ := h
  cases o with
  | Eq =>
    simp only [cmpF] at e
    split at e
    · rename_i hk
      cases e
      simp only [Bool.and_eq_true] at hk
      obtain ⟨d1, c1⟩ := arg_dp sg.sub hk.1 ax
      obtain ⟨d2, c2⟩ := arg_dp sg.sub hk.2 ay
      rw [hL] at d1 d2
      exact op_eqD (by omega) pins s σ H _ _ v u Q I rx ry ⟨_, _, d1, d2, shaped_of (by omega) hk.1 c1, shaped_of (by omega) hk.2 c2, by rw [eqv_toD 64 64 p q hk.1 hk.2]; exact post⟩
    · cases e
  | NotEq =>
    simp only [cmpF] at e
    split at e
    · rename_i hk
      cases e
      simp only [Bool.and_eq_true] at hk
      obtain ⟨d1, c1⟩ := arg_dp sg.sub hk.1 ax
      obtain ⟨d2, c2⟩ := arg_dp sg.sub hk.2 ay
      rw [hL] at d1 d2
      exact op_neD (by omega) pins s σ H _ _ v u Q I rx ry ⟨_, _, d1, d2, shaped_of (by omega) hk.1 c1, shaped_of (by omega) hk.2 c2, by rw [eqv_toD 64 64 p q hk.1 hk.2]; exact post⟩
    · cases e
  | In => exact (in_ok hL hu sg ax ay e I rx ry).1 post
  | NotIn =>
    simp only [cmpF] at e
    cases hb : inF p q with
    | none => rw [hb] at e; cases e
    | some b' =>
      rw [hb] at e
      cases e
      exact (in_ok hL hu sg ax ay hb I rx ry).2 post
  | Is =>
    simp only [cmpF] at e
    cases q with
    | non =>
      obtain rfl := ay.non
      cases e
      exact op_isN pins s σ H _ _ v u Q I rx ry ⟨rfl, by rw [isnon ax]; exact post⟩
    | _ => cases e
  | IsNot =>
    simp only [cmpF] at e
    cases q with
    | non =>
      obtain rfl := ay.non
      cases e
      exact op_notN pins s σ H _ _ v u Q I rx ry ⟨rfl, by rw [isnon ax]; exact post⟩
    | _ => cases e
  | Lt =>
    simp only [cmpF] at e
    split at e
    · cases e
      obtain rfl := ax.int
      obtain rfl := ay.int
      exact op_lt pins s σ H _ _ v u Q I rx ry ⟨_, _, rfl, rfl, post⟩
    · cases e
      obtain ⟨rfl, _⟩ := ax.str
      obtain ⟨rfl, _⟩ := ay.str
      exact op_lt_str pins s σ H _ _ v u Q I rx ry ⟨_, _, rfl, rfl, by rw [cps_str, cps_str]; exact post⟩
    · cases e
  | LtE =>
    simp only [cmpF] at e
    split at e
    · cases e
      obtain rfl := ax.int
      obtain rfl := ay.int
      exact op_le pins s σ H _ _ v u Q I rx ry ⟨_, _, rfl, rfl, post⟩
    · cases e
      obtain ⟨rfl, _⟩ := ax.str
      obtain ⟨rfl, _⟩ := ay.str
      exact op_le_str pins s σ H _ _ v u Q I rx ry ⟨_, _, rfl, rfl, by rw [cps_str, cps_str]; exact post⟩
    · cases e
  | Gt =>
    simp only [cmpF] at e
    split at e
    · cases e
      obtain rfl := ax.int
      obtain rfl := ay.int
      exact op_gt pins s σ H _ _ v u Q I rx ry ⟨_, _, rfl, rfl, post⟩
    · cases e
      obtain ⟨rfl, _⟩ := ax.str
      obtain ⟨rfl, _⟩ := ay.str
      exact op_gt_str pins s σ H _ _ v u Q I rx ry ⟨_, _, rfl, rfl, by rw [cps_str, cps_str]; exact post⟩
    · cases e
  | GtE =>
    simp only [cmpF] at e
    split at e
    · cases e
      obtain rfl := ax.int
      obtain rfl := ay.int
      exact op_ge pins s σ H _ _ v u Q I rx ry ⟨_, _, rfl, rfl, post⟩
    · cases e
      obtain ⟨rfl, _⟩ := ax.str
      obtain ⟨rfl, _⟩ := ay.str
      exact op_ge_str pins s σ H _ _ v u Q I rx ry ⟨_, _, rfl, rfl, by rw [cps_str, cps_str]; exact post⟩
    · cases e
end
end Mp
set_option Elab.async false
set_option linter.all false
set_option maxRecDepth 100000
set_option maxHeartbeats 1000000
namespace Mp
open PySem PySem.Spec PyProof.Rows L2
/-! # sorted texts and numbers; a text parted -/
def insS (x : List Nat) : List (List Nat) → List (List Nat)
  | [] => [x]
  | y :: r => if decide (y < x) then y :: insS x r else x :: y :: r
def sortS (xs : List (List Nat)) : List (List Nat) := xs.foldr insS []
theorem insS_perm (x : List Nat) : ∀ l, (insS x l).Perm (x :: l)
  | [] => List.Perm.refl _
  | y :: r => by
    unfold insS
    split
    · exact ((insS_perm x r).cons y).trans (List.Perm.swap x y r)
    · exact List.Perm.refl _
theorem insS_pw (x : List Nat) : ∀ l, l.Pairwise (· ≤ ·) → (insS x l).Pairwise (· ≤ ·)
  | [], _ => by simp [insS]
  | y :: r, h => by
    have h' := List.pairwise_cons.mp h
    unfold insS
    split
    · rename_i hc
      rw [decide_eq_true_eq] at hc
      refine List.pairwise_cons.mpr ⟨fun z hz => ?_, insS_pw x r h'.2⟩
      rcases List.mem_cons.mp ((insS_perm x r).mem_iff.mp hz) with e | e
      · subst e; exact List.le_of_lt hc
      · exact h'.1 z e
    · rename_i hc
      rw [decide_eq_true_eq] at hc
      have hxy : x ≤ y := List.not_lt.mp hc
      refine List.pairwise_cons.mpr ⟨fun z hz => ?_, h⟩
      rcases List.mem_cons.mp hz with e | e
      · subst e; exact hxy
      · exact List.le_trans hxy (h'.1 z e)
theorem sortS_perm : ∀ xs, (sortS xs).Perm xs
  | [] => List.Perm.refl _
  | x :: r => (insS_perm x (sortS r)).trans ((sortS_perm r).cons x)
theorem sortS_pw : ∀ xs, (sortS xs).Pairwise (· ≤ ·)
  | [] => List.Pairwise.nil
  | x :: r => insS_pw x _ (sortS_pw r)
theorem sortS_len (xs : List (List Nat)) : (sortS xs).length = xs.length := (sortS_perm xs).length_eq
/-- the one list that has these texts in order -/
theorem sortS_uniq {xs ys : List (List Nat)} (p : ys.Perm xs) (h : ys.Pairwise (· ≤ ·)) : ys = sortS xs :=
  List.Perm.eq_of_pairwise (fun a b _ _ => List.le_antisymm) h (sortS_pw xs) (p.trans (sortS_perm xs).symm)
theorem rising_pw : ∀ (p : Str) (l : List Str), risingS p l = true → (p :: l).Pairwise fun a b => a.cps.toList ≤ b.cps.toList
  | p, [], _ => by simp
  | p, x :: r, h => by
    unfold risingS at h
    rw [Bool.and_eq_true] at h
    have ih := rising_pw x r h.2
    have hpx : p.cps.toList ≤ x.cps.toList := by
      refine List.not_lt.mp ?_
      have := h.1
      rw [ltCps_eq] at this
      simpa using this
    refine List.pairwise_cons.mpr ⟨fun z hz => ?_, ih⟩
    rcases List.mem_cons.mp hz with e | e
    · subst e; exact hpx
    · exact List.le_trans hpx ((List.pairwise_cons.mp ih).1 z e)
theorem sortedS_pw (l : List Str) (h : sortedS l = true) : l.Pairwise fun a b => a.cps.toList ≤ b.cps.toList := by
  cases l with
  | nil => exact List.Pairwise.nil
  | cons p r => exact rising_pw p r h
/-- what the machine gives -/
theorem sorted_strs {xs : List (List Nat)} {ys : List Str} (p : ys.Perm (xs.map fun s => (⟨s.toArray⟩ : Str))) (h : sortedS ys = true) : ys = (sortS xs).map fun s => (⟨s.toArray⟩ : Str) := by
  have back : ∀ l : List Str, (l.map fun s => s.cps.toList).map (fun s => (⟨s.toArray⟩ : Str)) = l := fun l => by
    rw [List.map_map]
    conv => rhs; rw [← List.map_id l]
    refine List.map_congr_left fun s _ => ?_
    simp
  have p' : (ys.map fun s => s.cps.toList).Perm xs := by
    have := p.map fun s : Str => s.cps.toList
    rw [List.map_map] at this
    refine this.trans (List.Perm.of_eq ?_)
    conv => rhs; rw [← List.map_id xs]
    refine List.map_congr_left fun s _ => ?_
    simp
  have h' : (ys.map fun s => s.cps.toList).Pairwise (· ≤ ·) := List.pairwise_map.mpr (sortedS_pw ys h)
  rw [← sortS_uniq p' h', back]
def insI (x : Int) : List Int → List Int
  | [] => [x]
  | y :: r => if decide (y < x) then y :: insI x r else x :: y :: r
def sortI (xs : List Int) : List Int := xs.foldr insI []
theorem insI_perm (x : Int) : ∀ l, (insI x l).Perm (x :: l)
  | [] => List.Perm.refl _
  | y :: r => by
    unfold insI
    split
    · exact ((insI_perm x r).cons y).trans (List.Perm.swap x y r)
    · exact List.Perm.refl _
theorem insI_pw (x : Int) : ∀ l, l.Pairwise (· ≤ ·) → (insI x l).Pairwise (· ≤ ·)
  | [], _ => by simp [insI]
  | y :: r, h => by
    have h' := List.pairwise_cons.mp h
    unfold insI
    split
    · rename_i hc
      rw [decide_eq_true_eq] at hc
      refine List.pairwise_cons.mpr ⟨fun z hz => ?_, insI_pw x r h'.2⟩
      rcases List.mem_cons.mp ((insI_perm x r).mem_iff.mp hz) with e | e
      · subst e; omega
      · exact h'.1 z e
    · rename_i hc
      rw [decide_eq_true_eq] at hc
      refine List.pairwise_cons.mpr ⟨fun z hz => ?_, h⟩
      rcases List.mem_cons.mp hz with e | e
      · subst e; omega
      · have := h'.1 z e; omega
theorem sortI_perm : ∀ xs, (sortI xs).Perm xs
  | [] => List.Perm.refl _
  | x :: r => (insI_perm x (sortI r)).trans ((sortI_perm r).cons x)
theorem sortI_pw : ∀ xs, (sortI xs).Pairwise (· ≤ ·)
  | [] => List.Pairwise.nil
  | x :: r => insI_pw x _ (sortI_pw r)
theorem sortI_uniq {xs ys : List Int} (p : ys.Perm xs) (h : ys.Pairwise (· ≤ ·)) : ys = sortI xs :=
  List.Perm.eq_of_pairwise (fun a b _ _ h1 h2 => Int.le_antisymm h1 h2) h (sortI_pw xs) (p.trans (sortI_perm xs).symm)
/-! ## a text parted -/
def splOk (a b : List Nat) : Bool := !b.isEmpty && b.all (fun c => decide (c < 256)) && decide (a.length + 2 ≤ LINE)
def splF (a b : List Nat) : List (List Nat) := TL.spl b 0 [] a
theorem split_is {a b : List Nat} (h : splOk a b = true) : Txt.split ⟨a.toArray⟩ ⟨b.toArray⟩ = (splF a b).map fun s => (⟨s.toArray⟩ : Str) := by
  unfold splOk at h
  simp only [Bool.and_eq_true, Bool.not_eq_true', List.isEmpty_eq_false_iff] at h
  exact SX.split_S (a := a) h.1.1 h.1.2
theorem joinL_mem' (a : List Nat) {c : Nat} : ∀ {ls : List (List Nat)} {l : List Nat}, l ∈ ls → c ∈ l → c ∈ TL.joinL a ls
  | [p], l, hl, hc => by
    rw [List.mem_singleton] at hl
    subst hl
    exact hc
  | p :: q :: r, l, hl, hc => by
    unfold TL.joinL
    rw [List.mem_append, List.mem_append]
    rcases List.mem_cons.mp hl with e | e
    · subst e; exact .inl hc
    · exact .inr (.inr (joinL_mem' a e hc))
theorem joinL_len' (a : List Nat) : ∀ {ls : List (List Nat)} {l : List Nat}, l ∈ ls → l.length ≤ (TL.joinL a ls).length
  | [p], l, hl => by
    rw [List.mem_singleton] at hl
    subst hl
    exact Nat.le_refl _
  | p :: q :: r, l, hl => by
    unfold TL.joinL
    rw [List.length_append, List.length_append]
    rcases List.mem_cons.mp hl with e | e
    · subst e; omega
    · have := joinL_len' a e
      omega
theorem split_back {a b : List Nat} (h : splOk a b = true) : TL.joinL b (splF a b) = a := by
  have e := TL.tl_join (⟨b.toArray⟩ : Str) (Txt.split ⟨a.toArray⟩ ⟨b.toArray⟩)
  rw [StrLaws.join_split, split_is h, List.map_map] at e
  have e2 : (splF a b).map (TL.tl ∘ fun s => (⟨s.toArray⟩ : Str)) = splF a b := by
    conv => rhs; rw [← List.map_id (splF a b)]
    refine List.map_congr_left fun s _ => ?_
    exact TL.tl_mk s
  rw [e2, TL.tl_mk, TL.tl_mk] at e
  exact e.symm
theorem split_ok {a b : List Nat} (h : splOk a b = true) (ok : OkS a) : ∀ l ∈ splF a b, OkS l := fun l hl => by
  have e := split_back h
  refine ⟨?_, fun c hc => ok.cps c ?_⟩
  · have := joinL_len' b hl
    rw [e] at this
    exact Nat.le_trans this ok.len
  · rw [← e]
    exact joinL_mem' b hl hc
/-- parted where it was joined -/
theorem spl_of_join {c : Nat} {parts : List (List Nat)} (hne : parts ≠ []) (h : ∀ p ∈ parts, c ∉ p) : splF (TL.joinL [c] parts) [c] = parts := SX.spl_join (sep := []) hne h
end Mp
set_option Elab.async false
set_option linter.all false
set_option maxRecDepth 100000
set_option maxHeartbeats 400000
namespace Mp
open PySem PySem.Spec PyProof.Rows L2
variable {L : Lk}
/-! ## truth, subscripts, slices -/
def truthF : PV → Option Bool
  | .non => some false
  | .bl b => some b
  | .int i => some (i != 0)
  | .str s => some (!s.isEmpty)
  | .lst xs => some (!xs.isEmpty)
  | .tup xs => some (!xs.isEmpty)
  | _ => none
section
variable {X : Cx} {G H : Hp}
theorem empty_reps {xs : List PV} {ys : List V} (r : Reps L G xs ys) : ys.isEmpty = xs.isEmpty := by
  have := r.length
  cases xs <;> cases ys <;> simp_all
theorem truth_ok (hL : L.K = X.K) (sg : Gd G H) {p : PV} {v : V} {b : Bool} (a : Arg L G H p v) (e : truthF p = some b) : TruV X.K v H b := by
  cases p with
  | non => rw [a.non]; cases e; rfl
  | bl c => rw [a.bl]; cases e; rfl
  | int i => rw [a.int]; cases e; rfl
  | str s =>
    obtain ⟨rfl, ok⟩ := a.str
    cases e
    refine ⟨by rw [str_len, sizeLine_eq]; exact ok.len, ?_⟩
    rw [str_len]
    cases s <;> simp
    omega
  | lst xs =>
    obtain ⟨l, ys, rfl, h1, h2⟩ := a.lst sg
    cases e
    exact .inl ⟨ys, SqL.of h1, by rw [empty_reps h2]⟩
  | tup xs =>
    obtain ⟨l, ys, rfl, _, h1, h2⟩ := a.tup sg
    cases e
    rw [hL] at h1
    exact .inr (.inl ⟨ys, h1, by rw [empty_reps h2]⟩)
  | _ => cases e
end
/-- the item at i -/
def ixF (p q : PV) : Option PV :=
  match q with
  | .int i =>
    match p with
    | .lst xs => atI xs i
    | .tup xs => atI xs i
    | .str s => (atI s i).map fun c => .str [c]
    | _ => none
  | _ => none
theorem atI_reps {G : Hp} {xs : List PV} {ys : List V} {i : Int} {p : PV} (r : Reps L G xs ys) (h : atI xs i = some p) : ∃ v, atI ys i = some v ∧ Rep L G p v := by
  unfold atI at h ⊢
  rw [← r.length]
  cases e : ixN xs.length i with
  | none => rw [e] at h; cases h
  | some j =>
    rw [e] at h
    exact r.get h
theorem atI_mem {α : Type} {xs : List α} {i : Int} {p : α} (h : atI xs i = some p) : p ∈ xs := by
  unfold atI at h
  cases e : ixN xs.length i with
  | none => rw [e] at h; cases h
  | some j =>
    rw [e] at h
    exact List.mem_of_getElem? h
theorem OkS.one {c : Nat} (h : c < 1114112) : OkS [c] := ⟨by show 1 ≤ 16777216; decide, fun d hd => by rw [List.mem_singleton.mp hd]; exact h⟩
section
variable {X : Cx} {G H : Hp}
def rIxP (L : Lk) : R2 := fun x y H Q => ∃ G p q r, Gd G H ∧ Arg L G H p x ∧ Arg L G H q y ∧ ixF p q = some r ∧ ∀ v, Rep L G r v → Q v H
theorem ix_ok (hL : L.K = X.K) : IxR X (rIxP L) := by
  intro value slice pins s σ H x y v u Q I rx ry h hs
  obtain ⟨G, p, q, r, sg, ax, ay, e, post⟩ := h
  refine ix_seq value slice pins s σ H x y v u Q I rx ry ?_ hs
  cases q with
  | int i =>
    obtain rfl := ay.int
    cases p with
    | lst xs =>
      obtain ⟨a, ys, rfl, h1, h2⟩ := ax.lst sg
      obtain ⟨w, e2, r2⟩ := atI_reps h2 e
      exact .inl ⟨a, ys, i, w, rfl, rfl, SqL.of h1, e2, post w r2⟩
    | tup xs =>
      obtain ⟨a, ys, rfl, _, h1, h2⟩ := ax.tup sg
      obtain ⟨w, e2, r2⟩ := atI_reps h2 e
      rw [hL] at h1
      exact .inr (.inl ⟨a, ys, i, w, rfl, rfl, h1, e2, post w r2⟩)
    | str z =>
      obtain ⟨rfl, ok⟩ := ax.str
      simp only [ixF, Option.map_eq_some_iff] at e
      obtain ⟨c, e1, e2⟩ := e
      subst e2
      refine .inr (.inr ⟨_, i, c, rfl, rfl, by rw [str_len, sizeLine_eq]; exact ok.len, by rw [cps_str]; exact e1, post _ (rep_str.mpr ⟨rfl, OkS.one (ok.cps c (atI_mem e1))⟩)⟩)
    | _ => cases e
  | _ => cases e
end
/-- xs[lo:hi] -/
def cut {α : Type} (xs : List α) (lo hi : Option Int) : List α := (xs.drop (HT.sIx xs.length 0 lo)).take (HT.sIx xs.length xs.length hi - HT.sIx xs.length 0 lo)
def slF (p : PV) (lo hi : Option Int) : Option Rv :=
  match p with
  | .lst xs => some (.ow (.lst (cut xs lo hi)))
  | .tup xs => some (.fz (.tup (cut xs lo hi)))
  | .str s => some (.fz (.str (cut s lo hi)))
  | _ => none
section
variable {X : Cx} {G H : Hp}
theorem cut_reps {xs : List PV} {ys : List V} (r : Reps L G xs ys) (lo hi : Option Int) : Reps L G (cut xs lo hi) (cutV ys lo hi) := by
  unfold cut cutV
  rw [← r.length]
  exact (r.drop _).take _
theorem cut_mem {α : Type} {xs : List α} {lo hi : Option Int} {c : α} (h : c ∈ cut xs lo hi) : c ∈ xs := List.mem_of_mem_drop (List.mem_of_mem_take h)
theorem cut_len {α : Type} (xs : List α) (lo hi : Option Int) : (cut xs lo hi).length ≤ xs.length := by
  unfold cut
  rw [List.length_take, List.length_drop]
  omega
def rSlP (L : Lk) : V → Option Int → Option Int → Hp → VK → Prop := fun x lo hi H Q => ∃ G p r, Gd G H ∧ Arg L G H p x ∧ slF p lo hi = some r ∧ RvPost L G H r Q
theorem sl_ok (hL : L.K = X.K) : SlR X (rSlP L) := by
  intro pins s σ H x v vl vu lo hi sl Q I rx hs pl pu h
  obtain ⟨G, p, r, sg, ax, e, post⟩ := h
  cases p with
  | lst xs =>
    obtain ⟨a, ys, rfl, h1, h2⟩ := ax.lst sg
    cases e
    exact sl_list pins s σ H _ v vl vu lo hi sl Q I rx hs pl pu ⟨a, ys, rfl, SqL.of h1, fun p hp => post.newL sg hp (cut_reps h2 lo hi)⟩
  | tup xs =>
    obtain ⟨a, ys, rfl, h0, h1, h2⟩ := ax.tup sg
    cases e
    rw [hL] at h1
    refine sl_tupA pins s σ H _ v vl vu lo hi sl Q I rx hs pl pu ⟨a, ys, rfl, h1, fun z => ?_, fun _ p hp => post.newT sg hp (cut_reps h2 lo hi)⟩
    have e2 : cut xs lo hi = xs := by
      unfold cut
      rw [← h2.length] at z
      rw [z.1, z.2]
      simp
    rw [e2] at post
    exact post.fzI sg (rep_tup.mpr ⟨a, ys, rfl, h0, h2⟩)
  | str z =>
    obtain ⟨rfl, ok⟩ := ax.str
    cases e
    refine sl_str pins s σ H _ v vl vu lo hi sl Q I rx hs pl pu ⟨_, rfl, by rw [str_len, sizeLine_eq]; exact ok.len, ?_⟩
    have e2 : cutS ⟨z.toArray⟩ lo hi = ⟨(cut z lo hi).toArray⟩ := by
      unfold cutS cut
      rw [str_len, cps_str]
    rw [e2]
    exact post.fzI sg (rep_str.mpr ⟨rfl, ok.sub (cut_len _ _ _) fun c hc => cut_mem hc⟩)
  | _ => cases e
end

/-! ## functions of the language -/
inductive Blt where
  | len | int | abs | sum | list | tuple | min | max | any | all | sorted
  deriving DecidableEq
def Blt.fn : Blt → Value
  | .len => .builtin "len" | .int => .type "int" | .abs => .builtin "abs" | .sum => .builtin "sum" | .list => .type "list" | .tuple => .type "tuple"
  | .min => .builtin "min" | .max => .builtin "max" | .any => .builtin "any" | .all => .builtin "all" | .sorted => .builtin "sorted"
def Blt.name : Blt → Str
  | .len => "len" | .int => "int" | .abs => "abs" | .sum => "sum" | .list => "list" | .tuple => "tuple" | .min => "min" | .max => "max" | .any => "any" | .all => "all" | .sorted => "sorted"
theorem Blt.boot (b : Blt) : bootBuiltins b.name = some b.fn := by cases b <;> decide +kernel
theorem Blt.nm (b : Blt) : b.name ≠ "__name__" := by cases b <;> decide +kernel
theorem Blt.nd (b : Blt) : (b.name == ("__debug__" : Str)) = false := by cases b <;> decide +kernel
def intsOf : List PV → Option (List Int)
  | [] => some []
  | .int i :: r => (intsOf r).map (i :: ·)
  | _ => none
def blsOf : List PV → Option (List Bool)
  | [] => some []
  | .bl i :: r => (blsOf r).map (i :: ·)
  | _ => none
theorem intsOf_eq : ∀ {ps : List PV} {ns : List Int}, intsOf ps = some ns → ps = ns.map PV.int
  | [], ns, h => by cases h; rfl
  | p :: r, ns, h => by
    cases p with
    | int i =>
      simp only [intsOf, Option.map_eq_some_iff] at h
      obtain ⟨ms, h1, rfl⟩ := h
      rw [intsOf_eq h1]; rfl
    | _ => cases h
theorem blsOf_eq : ∀ {ps : List PV} {ns : List Bool}, blsOf ps = some ns → ps = ns.map PV.bl
  | [], ns, h => by cases h; rfl
  | p :: r, ns, h => by
    cases p with
    | bl i =>
      simp only [blsOf, Option.map_eq_some_iff] at h
      obtain ⟨ms, h1, rfl⟩ := h
      rw [blsOf_eq h1]; rfl
    | _ => cases h
@[simp] theorem intsOf_ints (ns : List Int) : intsOf (ns.map PV.int) = some ns := by
  induction ns with
  | nil => rfl
  | cons n r ih => simp [intsOf, ih]
@[simp] theorem blsOf_bls (ns : List Bool) : blsOf (ns.map PV.bl) = some ns := by
  induction ns with
  | nil => rfl
  | cons n r ih => simp [blsOf, ih]
def leastI : List Int → Option Int
  | [] => none
  | [a] => some a
  | a :: r => (leastI r).map fun b => if b < a then b else a
def mostI : List Int → Option Int
  | [] => none
  | [a] => some a
  | a :: r => (mostI r).map fun b => if b > a then b else a
theorem leastI_spec : ∀ {ns : List Int} {m : Int}, leastI ns = some m → m ∈ ns ∧ ∀ y ∈ ns, m ≤ y
  | [], m, h => by cases h
  | [a], m, h => by cases h; simp
  | a :: b :: r, m, h => by
    simp only [leastI, Option.map_eq_some_iff] at h
    obtain ⟨c, h1, h2⟩ := h
    obtain ⟨h3, h4⟩ := leastI_spec h1
    split at h2
    · subst h2
      refine ⟨List.mem_cons_of_mem _ h3, fun y hy => ?_⟩
      rcases List.mem_cons.mp hy with e | e
      · omega
      · exact h4 y e
    · subst h2
      refine ⟨List.mem_cons_self, fun y hy => ?_⟩
      rcases List.mem_cons.mp hy with e | e
      · omega
      · have := h4 y e; omega
theorem mostI_spec : ∀ {ns : List Int} {m : Int}, mostI ns = some m → m ∈ ns ∧ ∀ y ∈ ns, y ≤ m
  | [], m, h => by cases h
  | [a], m, h => by cases h; simp
  | a :: b :: r, m, h => by
    simp only [mostI, Option.map_eq_some_iff] at h
    obtain ⟨c, h1, h2⟩ := h
    obtain ⟨h3, h4⟩ := mostI_spec h1
    split at h2
    · subst h2
      refine ⟨List.mem_cons_of_mem _ h3, fun y hy => ?_⟩
      rcases List.mem_cons.mp hy with e | e
      · omega
      · exact h4 y e
    · subst h2
      refine ⟨List.mem_cons_self, fun y hy => ?_⟩
      rcases List.mem_cons.mp hy with e | e
      · omega
      · have := h4 y e; omega
def strsOf : List PV → Option (List (List Nat))
  | [] => some []
  | .str i :: r => (strsOf r).map (i :: ·)
  | _ => none
theorem strsOf_eq : ∀ {ps : List PV} {ns : List (List Nat)}, strsOf ps = some ns → ps = ns.map PV.str
  | [], ns, h => by cases h; rfl
  | p :: r, ns, h => by
    cases p with
    | str i =>
      simp only [strsOf, Option.map_eq_some_iff] at h
      obtain ⟨ms, h1, rfl⟩ := h
      rw [strsOf_eq h1]; rfl
    | _ => cases h
@[simp] theorem strsOf_strs (ns : List (List Nat)) : strsOf (ns.map PV.str) = some ns := by
  induction ns with
  | nil => rfl
  | cons n r ih => simp [strsOf, ih]
/-- sorted(xs): fewer than 64 texts, or numbers -/
def sortF (xs : List PV) : Option Rv :=
  if decide (xs.length < 64) then
    match strsOf xs with
    | some ss => some (.ow (.lst ((sortS ss).map .str)))
    | none => (intsOf xs).map fun ns => .ow (.lst ((sortI ns).map .int))
  else none
def bltF (b : Blt) (ps : List PV) : Option Rv :=
  match b, ps with
  | .len, [.str s] => some (.fz (.int s.length))
  | .len, [.lst xs] => some (.fz (.int xs.length))
  | .len, [.tup xs] => some (.fz (.int xs.length))
  | .int, [.int i] => some (.fz (.int i))
  | .int, [.bl b] => some (.fz (.int (if b then 1 else 0)))
  | .abs, [.int i] => some (.fz (.int (if i < 0 then -i else i)))
  | .sum, [.lst xs] => (intsOf xs).map fun ns => .fz (.int ns.sum)
  | .min, [.lst xs] => ((intsOf xs).bind leastI).map fun m => .fz (.int m)
  | .max, [.lst xs] => ((intsOf xs).bind mostI).map fun m => .fz (.int m)
  | .any, [.lst xs] => (blsOf xs).map fun ns => .fz (.bl (ns.any id))
  | .all, [.lst xs] => (blsOf xs).map fun ns => .fz (.bl (ns.all id))
  | .list, [.lst xs] => some (.ow (.lst xs))
  | .list, [.tup xs] => some (.ow (.lst xs))
  | .list, [.str s] => some (.ow (.lst (s.map fun c => .str [c])))
  | .tuple, [.lst xs] => some (.fz (.tup xs))
  | .tuple, [.tup xs] => some (.fz (.tup xs))
  | .sorted, [.lst xs] => sortF xs
  | _, _ => none
section
variable {X : Cx} {G H : Hp}
theorem args_one {p : PV} {vs : List V} (h : Args L G H [p] vs) : ∃ v, vs = [v] ∧ Arg L G H p v := by
  cases h with
  | cons a b => cases b; exact ⟨_, rfl, a⟩
theorem args_two {p q : PV} {vs : List V} (h : Args L G H [p, q] vs) : ∃ v u, vs = [v, u] ∧ Arg L G H p v ∧ Arg L G H q u := by
  cases h with
  | cons a b =>
    cases b with
    | cons c d => cases d; exact ⟨_, _, rfl, a, c⟩
theorem args_nil {vs : List V} (h : Args L G H [] vs) : vs = [] := by cases h; rfl
theorem signs_vals {x : Str} {acc : Array Value} (h : ItemsOf (SignAt x) acc x.cps.size) : Vals (x.cps.toList.map fun c => V.str ⟨#[c]⟩) acc.toList := by
  obtain ⟨h1, h2⟩ := h
  have key : ∀ (xs : List V) (us : List Value), xs.length = us.length → (∀ (i : Nat) (v : V) (u : Value), xs[i]? = some v → us[i]? = some u → RelV v u) → Vals xs us := by
    intro xs
    induction xs with
    | nil => intro us hl _; cases us; exact .nil; cases hl
    | cons x xs ih =>
      intro us hl hi
      cases us with
      | nil => cases hl
      | cons u us => exact .cons (hi 0 x u rfl rfl) (ih us (by simpa using hl) fun i v w a b => hi (i + 1) v w (by simpa using a) (by simpa using b))
  refine key _ _ (by simp; omega) fun i v u a b => ?_
  rw [List.getElem?_map, Option.map_eq_some_iff] at a
  obtain ⟨c, a1, a2⟩ := a
  obtain ⟨c', t, e1, e2⟩ := h2 i u (by simpa using b)
  subst a2
  have : c = c' := by
    rw [← Array.getElem?_toList] at e1
    rw [a1] at e1
    exact Option.some.inj e1
  subst this
  exact ⟨t, e2⟩
theorem chars_reps {s : List Nat} (ok : OkS s) : Reps L G (s.map fun c => PV.str [c]) (s.map fun c => V.str ⟨#[c]⟩) := by
  have h : ∀ c ∈ s, c < 1114112 := ok.cps
  clear ok
  induction s with
  | nil => exact reps_nil.mpr rfl
  | cons c r ih => exact reps_cons.mpr ⟨_, _, rfl, rep_str.mpr ⟨rfl, OkS.one (h c List.mem_cons_self)⟩, ih fun d hd => h d (List.mem_cons_of_mem _ hd)⟩
theorem call_listS (hc : X.calm = true) : CallR X (.type "list") (fun xs H Q => ∃ s : List Nat, xs = [.str ⟨s.toArray⟩] ∧ s.length ≤ LINE ∧ ∀ l, H l = none → Q (.ref l) (upd H l (.lst (s.map fun c => V.str ⟨#[c]⟩)))) := by
  intro pins s σ H xs us Q I r h
  obtain ⟨z, rfl, hz, q⟩ := h
  obtain ⟨u, rfl, t, rfl⟩ := vals1 r
  refine call_list_str (I.ok.hd hc) ⟨z.toArray⟩ t (fun h' tk acc c' kp e it => ?_) (by simpa [sizeLine_eq] using hz)
  have v := signs_vals it
  rw [cps_str] at v
  refine ⟨.ref s.heap.objs.size, _, I.laid (t' := tk) (o := .lst (z.map fun c => V.str ⟨#[c]⟩)) kp (Nat.le_refl _) ⟨by simpa [sizeLine_eq] using hz, acc.toList, c', v, by simpa using e⟩, rfl, q _ (I.hok.fresh (Nat.le_refl _))⟩
theorem strs_reps : ∀ {ns : List (List Nat)}, (∀ s ∈ ns, OkS s) → Reps L G (ns.map PV.str) (ns.map (V.str ∘ fun s => (⟨s.toArray⟩ : Str)))
  | [], _ => reps_nil.mpr rfl
  | n :: ns, h => reps_cons.mpr ⟨_, _, rfl, rep_str.mpr ⟨rfl, h n List.mem_cons_self⟩, strs_reps fun s hs => h s (List.mem_cons_of_mem _ hs)⟩
def rBlt (L : Lk) (b : Blt) : List V → Hp → VK → Prop := fun xs H Q => ∃ G ps r, Gd G H ∧ Args L G H ps xs ∧ bltF b ps = some r ∧ RvPost L G H r Q
theorem blt_ok (hL : L.K = X.K) (hc : X.calm = true) (b : Blt) : CallR X b.fn (rBlt L b) := by
  intro pins s σ H xs us Q I rs h
  obtain ⟨G, ps, r, sg, as, e, post⟩ := h
  unfold bltF at e
  split at e
  · cases e
    obtain ⟨v, rfl, a⟩ := args_one as
    obtain ⟨rfl, ok⟩ := a.str
    exact call_len_str pins s σ H _ us Q I rs ⟨_, rfl, by rw [str_len, sizeLine_eq]; exact ok.len, by rw [str_len]; exact post.fzI sg (rep_int.mpr rfl)⟩
  · cases e
    obtain ⟨v, rfl, a⟩ := args_one as
    obtain ⟨l, ys, rfl, h1, h2⟩ := a.lst sg
    exact call_len_seq pins s σ H _ us Q I rs ⟨_, _, rfl, .inl (SqL.of h1), by rw [← h2.length]; exact post.fzI sg (rep_int.mpr rfl)⟩
  · cases e
    obtain ⟨v, rfl, a⟩ := args_one as
    obtain ⟨l, ys, rfl, _, h1, h2⟩ := a.tup sg
    rw [hL] at h1
    exact call_len_seq pins s σ H _ us Q I rs ⟨_, _, rfl, .inr h1, by rw [← h2.length]; exact post.fzI sg (rep_int.mpr rfl)⟩
  · cases e
    obtain ⟨v, rfl, a⟩ := args_one as
    obtain rfl := a.int
    exact call_int1 pins s σ H _ us Q I rs (.inl ⟨_, rfl, post.fzI sg (rep_int.mpr rfl)⟩)
  · cases e
    obtain ⟨v, rfl, a⟩ := args_one as
    obtain rfl := a.bl
    exact call_int1 pins s σ H _ us Q I rs (.inr ⟨_, rfl, post.fzI sg (rep_int.mpr rfl)⟩)
  · cases e
    obtain ⟨v, rfl, a⟩ := args_one as
    obtain rfl := a.int
    exact call_abs pins s σ H _ us Q I rs ⟨_, rfl, post.fzI sg (rep_int.mpr rfl)⟩
  · obtain ⟨v, rfl, a⟩ := args_one as
    rw [Option.map_eq_some_iff] at e
    obtain ⟨ns, e1, rfl⟩ := e
    have e3 := intsOf_eq e1
    subst e3
    obtain ⟨l, ys, rfl, h1, h2⟩ := a.lst sg
    rw [reps_ints] at h2
    subst h2
    exact cr_sum hc pins s σ H _ us Q I rs ⟨_, _, rfl, SqL.of h1, post.fzI sg (rep_int.mpr rfl)⟩
  · obtain ⟨v, rfl, a⟩ := args_one as
    rw [Option.map_eq_some_iff] at e
    obtain ⟨m, e1, rfl⟩ := e
    rw [Option.bind_eq_some_iff] at e1
    obtain ⟨ns, e1, e4⟩ := e1
    have e3 := intsOf_eq e1
    subst e3
    obtain ⟨l, ys, rfl, h1, h2⟩ := a.lst sg
    rw [reps_ints] at h2
    subst h2
    obtain ⟨m1, m2⟩ := leastI_spec e4
    refine cr_min hc pins s σ H _ us Q I rs ⟨_, _, rfl, SqL.of h1, List.length_pos_of_mem m1, fun k k1 k2 => ?_⟩
    have : k = m := by
      have := m2 k k1
      have := k2 m m1
      omega
    subst this
    exact post.fzI sg (rep_int.mpr rfl)
  · obtain ⟨v, rfl, a⟩ := args_one as
    rw [Option.map_eq_some_iff] at e
    obtain ⟨m, e1, rfl⟩ := e
    rw [Option.bind_eq_some_iff] at e1
    obtain ⟨ns, e1, e4⟩ := e1
    have e3 := intsOf_eq e1
    subst e3
    obtain ⟨l, ys, rfl, h1, h2⟩ := a.lst sg
    rw [reps_ints] at h2
    subst h2
    obtain ⟨m1, m2⟩ := mostI_spec e4
    refine cr_max hc pins s σ H _ us Q I rs ⟨_, _, rfl, SqL.of h1, List.length_pos_of_mem m1, fun k k1 k2 => ?_⟩
    have : k = m := by
      have := m2 k k1
      have := k2 m m1
      omega
    subst this
    exact post.fzI sg (rep_int.mpr rfl)
  · obtain ⟨v, rfl, a⟩ := args_one as
    rw [Option.map_eq_some_iff] at e
    obtain ⟨ns, e1, rfl⟩ := e
    have e3 := blsOf_eq e1
    subst e3
    obtain ⟨l, ys, rfl, h1, h2⟩ := a.lst sg
    rw [reps_bls] at h2
    subst h2
    exact cr_any hc pins s σ H _ us Q I rs ⟨_, _, rfl, SqL.of h1, post.fzI sg (rep_bl.mpr rfl)⟩
  · obtain ⟨v, rfl, a⟩ := args_one as
    rw [Option.map_eq_some_iff] at e
    obtain ⟨ns, e1, rfl⟩ := e
    have e3 := blsOf_eq e1
    subst e3
    obtain ⟨l, ys, rfl, h1, h2⟩ := a.lst sg
    rw [reps_bls] at h2
    subst h2
    exact cr_all hc pins s σ H _ us Q I rs ⟨_, _, rfl, SqL.of h1, post.fzI sg (rep_bl.mpr rfl)⟩
  · cases e
    obtain ⟨v, rfl, a⟩ := args_one as
    obtain ⟨l, ys, rfl, h1, h2⟩ := a.lst sg
    exact call_list_of pins s σ H _ us Q I rs ⟨_, _, rfl, .inl (SqL.of h1), fun p hp => post.newL sg hp h2⟩
  · cases e
    obtain ⟨v, rfl, a⟩ := args_one as
    obtain ⟨l, ys, rfl, _, h1, h2⟩ := a.tup sg
    rw [hL] at h1
    exact call_list_of pins s σ H _ us Q I rs ⟨_, _, rfl, .inr h1, fun p hp => post.newL sg hp h2⟩
  · cases e
    obtain ⟨v, rfl, a⟩ := args_one as
    obtain ⟨rfl, ok⟩ := a.str
    exact call_listS hc pins s σ H _ us Q I rs ⟨_, rfl, ok.len, fun p hp => post.newL sg hp (chars_reps ok)⟩
  · cases e
    obtain ⟨v, rfl, a⟩ := args_one as
    obtain ⟨l, ys, rfl, h1, h2⟩ := a.lst sg
    exact call_tuple_of pins s σ H _ us Q I rs ⟨_, _, rfl, .inl ⟨SqL.of h1, fun p hp => post.newT sg hp h2⟩⟩
  · cases e
    obtain ⟨v, rfl, a⟩ := args_one as
    obtain ⟨l, ys, rfl, h0, h1, h2⟩ := a.tup sg
    rw [hL] at h1
    exact call_tuple_of pins s σ H _ us Q I rs ⟨_, _, rfl, .inr ⟨h1, post.fzI sg (rep_tup.mpr ⟨l, ys, rfl, h0, h2⟩)⟩⟩
  · obtain ⟨v, rfl, a⟩ := args_one as
    obtain ⟨l, ys, rfl, h1, h2⟩ := a.lst sg
    unfold sortF at e
    split at e
    · rename_i h64
      rw [decide_eq_true_eq] at h64
      split at e
      · rename_i ss e1
        cases e
        have e3 := strsOf_eq e1
        subst e3
        obtain ⟨rfl, h3⟩ := reps_strs h2
        rw [List.length_map] at h64
        refine cr_sortedS pins s σ H _ us Q I rs ⟨l, ss.map fun s => (⟨s.toArray⟩ : Str), rfl, ?_, by rw [List.length_map]; exact h64, fun zs p pm so hp => ?_⟩
        · exact SqL.of h1
        · have e4 := sorted_strs pm so
          subst e4
          rw [List.map_map]
          exact post.newL sg hp (strs_reps fun t ht => h3 t ((sortS_perm ss).mem_iff.mp ht))
      · rw [Option.map_eq_some_iff] at e
        obtain ⟨ns, e1, rfl⟩ := e
        have e3 := intsOf_eq e1
        subst e3
        rw [reps_ints] at h2
        subst h2
        rw [List.length_map] at h64
        refine cr_sorted pins s σ H _ us Q I rs ⟨l, ns, rfl, SqL.of h1, h64, fun zs p pm so hp => ?_⟩
        have e4 := sortI_uniq pm so
        subst e4
        exact post.newL sg hp (reps_ints.mpr rfl)
    · cases e
  · cases e
end

/-! ## methods of built-in types that change nothing -/
inductive Bmt where
  | join | index | split
  deriving DecidableEq
def joinOk (a : List Nat) (ls : List (List Nat)) : Bool := decide ((ls.map List.length).sum + ls.length * a.length ≤ LINE)
/-- where b stands first in a -/
def idxS (a b : List Nat) : Option Nat := (Builtin.Str.occurrences ⟨a.toArray⟩ ⟨b.toArray⟩ 0 a.length 1).head?
def bmF (m : Bmt) (p : PV) (ps : List PV) : Option Rv :=
  match m, p, ps with
  | .join, .str a, [.lst xs] => (strsOf xs).bind fun ls => if joinOk a ls then some (.fz (.str (TL.joinL a ls))) else none
  | .index, .str a, [.str b] => (idxS a b).map fun i => .fz (.int (i : Nat))
  | .split, .str a, [.str b] => if splOk a b then some (.ow (.lst ((splF a b).map .str))) else none
  | _, _, _ => none
def Bmt.ty : Bmt → String
  | .join => "str" | .index => "str" | .split => "str"
def Bmt.nm : Bmt → Str
  | .join => "join" | .index => "index" | .split => "split"
def Bmt.id : Bmt → String
  | .join => "str.join" | .index => "str.index" | .split => "str.split"
section
variable {X : Cx} {G H : Hp}
theorem joinL_len (a : List Nat) : ∀ ls : List (List Nat), (TL.joinL a ls).length ≤ (ls.map List.length).sum + ls.length * a.length
  | [] => by simp [TL.joinL]
  | [p] => by simp [TL.joinL]
  | p :: q :: r => by
    have := joinL_len a (q :: r)
    simp only [TL.joinL, List.length_append, List.map_cons, List.sum_cons, List.length_cons] at this ⊢
    rw [Nat.succ_mul]
    omega
theorem joinL_mem (a : List Nat) {c : Nat} : ∀ {ls : List (List Nat)}, c ∈ TL.joinL a ls → c ∈ a ∨ ∃ l ∈ ls, c ∈ l
  | [], h => by simp [TL.joinL] at h
  | [p], h => .inr ⟨p, by simp, h⟩
  | p :: q :: r, h => by
    simp only [TL.joinL, List.mem_append] at h
    rcases h with h | h | h
    · exact .inr ⟨p, by simp, h⟩
    · exact .inl h
    · rcases joinL_mem a h with h | ⟨l, h1, h2⟩
      · exact .inl h
      · exact .inr ⟨l, List.mem_cons_of_mem _ h1, h2⟩
theorem map_tl : ∀ ls : List (List Nat), (ls.map fun s => (⟨s.toArray⟩ : Str)).map TL.tl = ls
  | [] => rfl
  | l :: r => by
    show TL.tl ⟨l.toArray⟩ :: _ = _
    rw [map_tl r, TL.tl_mk]
theorem txt_join (a : List Nat) (ls : List (List Nat)) : Txt.join ⟨a.toArray⟩ (ls.map fun s => (⟨s.toArray⟩ : Str)) = ⟨(TL.joinL a ls).toArray⟩ := by
  rw [TL.join_eq]
  apply TL.ext_tl
  rw [TL.tl_join, map_tl, TL.tl_mk, TL.tl_mk]
theorem vals_strs (ls : List (List Nat)) : (ls.map fun s => (⟨s.toArray⟩ : Str)).map (·.length) = ls.map List.length := by
  rw [List.map_map]
  exact List.map_congr_left fun s _ => str_len s
def rBm (L : Lk) (m : Bmt) : V → List V → Hp → VK → Prop := fun x xs H Q => ∃ G p ps r, Gd G H ∧ Arg L G H p x ∧ Args L G H ps xs ∧ bmF m p ps = some r ∧ RvPost L G H r Q
theorem bm_ok (hL : L.K = X.K) (m : Bmt) : MtR X m.id (rBm L m) := by
  intro pins s σ H x xs v us Q I rx rs h
  obtain ⟨G, p, ps, r, sg, ax, as, e, post⟩ := h
  unfold bmF at e
  split at e
  · rw [Option.bind_eq_some_iff] at e
    obtain ⟨ls, e1, e2⟩ := e
    split at e2
    · rename_i hj
      cases e2
      have e3 := strsOf_eq e1
      subst e3
      obtain ⟨rfl, ok⟩ := ax.str
      obtain ⟨u, rfl, a⟩ := args_one as
      obtain ⟨l, ys, rfl, h1, h2⟩ := a.lst sg
      obtain ⟨rfl, h3⟩ := reps_strs h2
      unfold joinOk at hj
      rw [decide_eq_true_eq] at hj
      refine mt_join pins s σ H _ _ v us Q I rx rs ⟨_, _, _, rfl, rfl, .inl (SqL.of h1), ?_, ?_⟩
      · rw [vals_strs, str_len, List.length_map]
        exact hj
      · rw [txt_join]
        refine post.fzI sg (rep_str.mpr ⟨rfl, Nat.le_trans (joinL_len _ _) hj, fun c hc => ?_⟩)
        rcases joinL_mem _ hc with hc | ⟨l, hl, hc⟩
        · exact ok.cps c hc
        · exact (h3 l hl).cps c hc
    · cases e2
  · rw [Option.map_eq_some_iff] at e
    obtain ⟨i, e1, rfl⟩ := e
    obtain ⟨rfl, ok⟩ := ax.str
    obtain ⟨u, rfl, a⟩ := args_one as
    obtain ⟨rfl, ok2⟩ := a.str
    unfold idxS at e1
    rw [← str_len] at e1
    cases e2 : Builtin.Str.occurrences ⟨(_ : List Nat).toArray⟩ ⟨(_ : List Nat).toArray⟩ 0 (⟨(_ : List Nat).toArray⟩ : Str).length 1 with
    | nil => rw [e2] at e1; cases e1
    | cons j rest =>
      rw [e2] at e1
      cases e1
      exact mt_sindex pins s σ H _ _ v us Q I rx rs ⟨_, _, _, _, rfl, rfl, e2, post.fzI sg (rep_int.mpr rfl)⟩
  · rename_i a b
    split at e
    · rename_i hs
      cases e
      obtain ⟨rfl, ok⟩ := ax.str
      obtain ⟨u, rfl, aa⟩ := args_one as
      obtain ⟨rfl, ok2⟩ := aa.str
      have hs' := hs
      unfold splOk at hs'
      simp only [Bool.and_eq_true, Bool.not_eq_true', List.isEmpty_eq_false_iff, decide_eq_true_eq] at hs'
      refine mt_split pins s σ H _ _ v us Q I rx rs ⟨_, _, rfl, rfl, ?_, by rw [str_len, sizeLine_eq]; exact hs'.2, fun p hp => ?_⟩
      · rw [str_len]
        cases b with
        | nil => exact absurd rfl hs'.1.1
        | cons _ _ => rfl
      · rw [split_is hs, List.map_map]
        exact post.newL sg hp (strs_reps (split_ok hs ok))
    · cases e
  · cases e
theorem Bmt.plain (m : Bmt) : PlainAttrs m.ty := by cases m <;> exact F.plainAttrs_str
theorem Bmt.slot (m : Bmt) : PySem.Slot m.ty m.nm m.id := by
  cases m
  · exact F.slot_str_join
  · exact F.slot_str_index
  · exact F.slot_str_split
theorem Bmt.typ (m : Bmt) : typeOf (.builtin m.id) = pure (.type "method_descriptor") := by
  cases m
  · exact F.type_str_join
  · exact F.type_str_index
  · exact F.type_str_split
theorem Bmt.tyv {m : Bmt} {p : PV} {ps : List PV} {r : Rv} {x : V} (e : bmF m p ps = some r) (a : Arg L G H p x) : tyV X.K m.ty x H := by
  unfold bmF at e
  split at e
  · obtain ⟨rfl, _⟩ := a.str; rfl
  · obtain ⟨rfl, _⟩ := a.str; rfl
  · obtain ⟨rfl, _⟩ := a.str; rfl
  · cases e
/-- the first place of one sign -/
theorem idxS_one (a : List Nat) (c : Nat) : idxS a [c] = if c ∈ a then some (a.idxOf c) else none := by
  unfold idxS
  rw [← str_len a]
  have h := StrLaws.occ_head ⟨a.toArray⟩ ⟨[c].toArray⟩ 1 (Nat.le_refl _)
  have sub : ∀ i, StrLaws.At ⟨a.toArray⟩ ⟨[c].toArray⟩ (⟨a.toArray⟩ : Str).length i ↔ a[i]? = some c := fun i => by
    have := StrLaws.subAt_one ⟨a.toArray⟩ c i
    rw [cps_str] at this
    exact this
  rcases h with ⟨h1, h2⟩ | ⟨i, r, h1, h2, h3⟩
  · rw [h1]
    have : c ∉ a := fun hc => by
      obtain ⟨i, hi⟩ := List.mem_iff_getElem?.mp hc
      exact h2 i ((sub i).mpr hi)
    rw [if_neg this]; rfl
  · rw [h1]
    have hi := (sub i).mp h2
    have hc : c ∈ a := List.mem_of_getElem? hi
    rw [if_pos hc]
    show some i = some (a.idxOf c)
    congr 1
    have hl : a.idxOf c < a.length := List.idxOf_lt_length_iff.mpr hc
    have h4 : a[a.idxOf c]? = some c := by rw [List.getElem?_eq_getElem hl, List.getElem_idxOf hl]
    have h5 : ¬ a.idxOf c < i := fun z => h3 _ z ((sub _).mpr h4)
    have h6 : ¬ i < a.idxOf c := fun z => by
      obtain ⟨hl2, e2⟩ := List.getElem?_eq_some_iff.mp hi
      have := List.not_of_lt_findIdx (p := (· == c)) (xs := a) z
      simp [e2] at this
    omega
end
end Mp
set_option Elab.async false
set_option linter.all false
set_option maxRecDepth 100000
set_option maxHeartbeats 400000
namespace Mp
open PySem PySem.Spec PyProof.Rows L2
/-! # The small language -/
/-- methods of a list that change it -/
inductive Mu where
  | append | pop | popAt | reverse | clear | extend | insert
  deriving DecidableEq
def muF (m : Mu) (xs ps : List PV) : Option (List PV × PV) :=
  match m, ps with
  | .append, [p] => if decide (xs.length < LINE) then some (xs ++ [p], .non) else none
  | .pop, [] => (xs[xs.length - 1]?).map fun p => (xs.dropLast, p)
  | .popAt, [.int i] => if decide (i.natAbs < 9223372036854775808) then (ixN xs.length i).bind fun k => (xs[k]?).map fun p => (xs.eraseIdx k, p) else none
  | .reverse, [] => some (xs.reverse, .non)
  | .clear, [] => some ([], .non)
  | _, _ => none
/-- what isinstance asks -/
inductive TyK where
  | int | bool | str | tuple | list | cls (c : Nat)
def isiF (k : TyK) (p : PV) : Option Bool :=
  match k, p with
  | .int, .int _ => some true | .int, .bl _ => some true | .int, .str _ => some false | .int, .non => some false | .int, .tup _ => some false | .int, .lst _ => some false
  | .bool, .int _ => some false | .bool, .bl _ => some true | .bool, .str _ => some false | .bool, .non => some false | .bool, .tup _ => some false | .bool, .lst _ => some false
  | .str, .int _ => some false | .str, .bl _ => some false | .str, .str _ => some true | .str, .non => some false | .str, .tup _ => some false | .str, .lst _ => some false
  | .tuple, .int _ => some false | .tuple, .bl _ => some false | .tuple, .str _ => some false | .tuple, .non => some false | .tuple, .tup _ => some true | .tuple, .lst _ => some false
  | .list, .int _ => some false | .list, .bl _ => some false | .list, .str _ => some false | .list, .non => some false | .list, .tup _ => some false | .list, .lst _ => some true
  | _, _ => none
/-- where a value is stored: a slot, or the slots of a tuple's items -/
inductive Tg where
  | nm (i : Nat) | tp (is : List Nat)
mutual
inductive Ex where
  | var (i : Nat) | cst (p : PV) | glob (g : Nat)
  | bin (o : Operator) (a b : Ex) | neg (a : Ex)
  | cmp (o : CmpOp) (a b : Ex) | cmp2 (o o' : CmpOp) (a b c : Ex)
  | band (a b : Ex) | bor (a b : Ex) | bnot (a : Ex)
  | ite (t : Te) (a b : Ex)
  | tup (es : Exs) | lst (es : Exs)
  | ix (o i : Ex) | sl (o : Ex) (lo hi : Oe)
  | fld (o : Ex) (n : Nat)
  | call (f : Nat) (es : Exs) | new (c : Nat) (es : Exs)
  | blt (b : Blt) (es : Exs) | bm (m : Bmt) (o : Ex) (es : Exs) | mu (m : Mu) (i : Nat) (es : Exs)
  | isi (e : Ex) (k : TyK)
  | lc (tg : Tg) (it : Itx) (t : Ot) (e : Ex) (vs : List Nat)
  | lc2 (tg : Tg) (it : Itx) (t : Ot) (tg1 : Tg) (it1 : Itx) (t1 : Ot) (e : Ex) (vs vs1 : List Nat)
inductive Exs where
  | nil | cons (e : Ex) (es : Exs)
/-- a bound of a slice -/
inductive Oe where
  | none | some (e : Ex)
/-- the test of a comprehension -/
inductive Ot where
  | none | some (t : Te)
/-- a test -/
inductive Te where
  | val (e : Ex) | cmp (o : CmpOp) (a b : Ex) | cmp2 (o o' : CmpOp) (a b c : Ex) | not (t : Te) | and (a b : Te) | or (a b : Te)
/-- what is walked -/
inductive Itx where
  | val (e : Ex) | range1 (a : Ex) | range2 (a b : Ex) | enum (e : Ex) | zip (a b : Ex) | revR (a : Ex)
end
inductive Sk where
  | set (tg : Tg) (e : Ex)
  | setI (i : Nat) (ix e : Ex)
  | setF (i : Nat) (n : Nat) (e : Ex)
  | expr (e : Ex)
  | ret (e : Ex) | retN
  | ifs (t : Te) (a b : List Sk)
  | for_ (tg : Tg) (it : Itx) (body : List Sk) (kill : List Nat)
  | while_ (fuel : Nat) (t : Te) (body : List Sk) (kill : List Nat)
  | brk | cont | pass
  | raise (c : Nat) (es : Exs)
  | never

/-! # The evaluator -/
/-- what an expression leans on: the program's defs, classes, constants, fields -/
structure Cal where
  fn : Nat → List PV → Out
  mkC : Nat → List PV → Out
  gv : Nat → PV
  fx : Nat → Nat → Option Nat
  /-- the field that a class's objects are walked by -/
  it : Nat → Option Nat := fun _ => none
def liftO {α : Type} (ρ : List Slot) : Option α → R α
  | none => .stuck
  | some a => .ok a ρ
/-- the values, handed on -/
def sealAll : List Rv → List Slot → Option (List PV × List Slot)
  | [], ρ => some ([], ρ)
  | r :: rs, ρ => (sealAll rs ρ).bind fun (ps, ρ1) => (r.val ρ1).map fun p => (p :: ps, r.seal ρ1)
def valAll (ρ : List Slot) : List Rv → Option (List PV)
  | [] => some []
  | r :: rs => (r.val ρ).bind fun p => (valAll ρ rs).map fun ps => p :: ps
def killS : List Nat → List Slot → List Slot
  | [], ρ => ρ
  | i :: is, ρ => setS (killS is ρ) i .no
/-- a value is stored -/
def bindT (tg : Tg) (p : PV) (ρ : List Slot) : Option (List Slot) :=
  match tg with
  | .nm i => some (setS ρ i (.fz p))
  | .tp is => match p with
    | .tup ps => if ps.length = is.length then some ((is.zip ps).foldl (fun ρ x => setS ρ x.1 (.fz x.2)) ρ) else none
    | _ => none
def outR (ρ : List Slot) : Out → R Rv
  | .ret r => .ok r ρ
  | .ex e => .ex e ρ
  | .stuck => .stuck
def items : PV → Option (List PV)
  | .lst xs => some xs
  | .tup xs => some xs
  | .str s => some (s.map fun c => .str [c])
  | .scr ns => some (ns.map .int)
  | _ => none
def itemsE : PV → Option (List PV)
  | .lst xs => some xs
  | .tup xs => some xs
  | .str s => some (s.map fun c => .str [c])
  | _ => none
def itemsT : PV → Option (List PV)
  | .lst xs => some xs
  | .tup xs => some xs
  | _ => none
def itemsC (it : Nat → Option Nat) : PV → Option (List PV)
  | .lst xs => some xs
  | .tup xs => some xs
  | .str s => some (s.map fun c => .str [c])
  | .scr ns => some (ns.map .int)
  | .obj c fs => (it c).bind fun j => (fs[j]?).bind itemsT
  | _ => none
def rangeOk (a b : Int) : Bool := decide (a.natAbs < 4611686018427387904) && decide (b.natAbs < 4611686018427387904)
def rangeP (a b : Int) : List PV := (List.range (b - a).toNat).map fun (i : Nat) => .int (a + (i : Int))
def enumFromP : Nat → List PV → List PV
  | _, [] => []
  | k, x :: xs => .tup [.int (k : Int), x] :: enumFromP (k + 1) xs
def zipP : List PV → List PV → List PV
  | x :: xs, y :: ys => .tup [x, y] :: zipP xs ys
  | _, _ => []
/-- a comprehension's turns -/
def lcLoop (bind : PV → List Slot → Option (List Slot)) (test : List Slot → R Bool) (elt : List Slot → R Rv) (vs : List Nat) : List PV → List PV → List Slot → R (List PV)
  | [], acc, ρ => .ok acc ρ
  | x :: xs, acc, ρ =>
    match bind x ρ with
    | none => .stuck
    | some ρ1 =>
      match test ρ1 with
      | .ok false ρ2 => lcLoop bind test elt vs xs acc (killS vs ρ2)
      | .ok true ρ2 =>
        (match elt ρ2 with
        | .ok r ρ3 =>
          (match r.val ρ3 with
          | some p => if decide (acc.length < LINE) then lcLoop bind test elt vs xs (acc ++ [p]) (killS vs (r.seal ρ3)) else .stuck
          | none => .stuck)
        | _ => .stuck)
      | _ => .stuck
/-- a comprehension of two walks: the outer one's turns -/
def lcOut (bind : PV → List Slot → Option (List Slot)) (test : List Slot → R Bool) (inner : List PV → List Slot → R (List PV)) (vs : List Nat) : List PV → List PV → List Slot → R (List PV)
  | [], acc, ρ => .ok acc ρ
  | x :: xs, acc, ρ =>
    match bind x ρ with
    | none => .stuck
    | some ρ1 =>
      match test ρ1 with
      | .ok false ρ2 => lcOut bind test inner vs xs acc (killS vs ρ2)
      | .ok true ρ2 =>
        (match inner acc ρ2 with
        | .ok acc1 ρ3 => lcOut bind test inner vs xs acc1 (killS vs ρ3)
        | _ => .stuck)
      | _ => .stuck
/-- .. the inner one -/
def lcIn (items : List Slot → R (List PV)) (bind : PV → List Slot → Option (List Slot)) (test : List Slot → R Bool) (elt : List Slot → R Rv) (vs1 : List Nat) (acc : List PV) (ρ : List Slot) : R (List PV) :=
  match items ρ with
  | .ok ys ρ1 => lcLoop bind test elt vs1 ys acc (killS vs1 ρ1)
  | _ => .stuck
section
variable (C : Cal)
mutual
def evE : Ex → List Slot → R Rv
  | .var i, ρ => match getS ρ i with
    | .no => .stuck
    | .fz p => .ok (.fz p) ρ
    | .ow _ => .ok (.br i) ρ
  | .cst p, ρ => .ok (.fz p) ρ
  | .glob g, ρ => .ok (.fz (C.gv g)) ρ
  | .bin o a b, ρ => (evE a ρ).bind fun ra ρ1 => (evE b ρ1).bind fun rb ρ2 => liftO ρ2 ((ra.val ρ2).bind fun p => (rb.val ρ2).bind fun q => binF o p q)
  | .neg a, ρ => (evE a ρ).bind fun ra ρ1 => liftO ρ1 ((ra.val ρ1).bind fun p => match p with | .int i => some (.fz (.int (-i))) | _ => none)
  | .cmp o a b, ρ => (evE a ρ).bind fun ra ρ1 => (evE b ρ1).bind fun rb ρ2 => liftO ρ2 ((ra.val ρ2).bind fun p => (rb.val ρ2).bind fun q => (cmpF o p q).map fun b => .fz (.bl b))
  | .cmp2 o o' a b c, ρ => (evE a ρ).bind fun ra ρ1 => (evE b ρ1).bind fun rb ρ2 => (liftO ρ2 ((ra.val ρ2).bind fun p => (rb.val ρ2).bind fun q => cmpF o p q)).bind fun t ρ2 =>
      if t then (evE c ρ2).bind fun rc ρ3 => liftO ρ3 ((rb.val ρ3).bind fun q => (rc.val ρ3).bind fun r => (cmpF o' q r).map fun b => .fz (.bl b)) else .ok (.fz (.bl false)) ρ2
  | .band a b, ρ => (evE a ρ).bind fun ra ρ1 => match ra with
    | .fz (.bl true) => evE b ρ1
    | .fz (.bl false) => .ok (.fz (.bl false)) ρ1
    | _ => .stuck
  | .bor a b, ρ => (evE a ρ).bind fun ra ρ1 => match ra with
    | .fz (.bl true) => .ok (.fz (.bl true)) ρ1
    | .fz (.bl false) => evE b ρ1
    | _ => .stuck
  | .bnot a, ρ => (evE a ρ).bind fun ra ρ1 => match ra with
    | .fz (.bl t) => .ok (.fz (.bl (!t))) ρ1
    | _ => .stuck
  | .ite t a b, ρ => (evT t ρ).bind fun c ρ1 => if c then evE a ρ1 else evE b ρ1
  | .tup es, ρ => (evEs es ρ).bind fun rs ρ1 => match sealAll rs ρ1 with
    | some (ps, ρ2) => if decide (ps.length ≤ LINE) then .ok (.fz (.tup ps)) ρ2 else .stuck
    | none => .stuck
  | .lst es, ρ => (evEs es ρ).bind fun rs ρ1 => match sealAll rs ρ1 with
    | some (ps, ρ2) => if decide (ps.length ≤ LINE) then .ok (.ow (.lst ps)) ρ2 else .stuck
    | none => .stuck
  | .ix o i, ρ => (evE o ρ).bind fun ra ρ1 => (evE i ρ1).bind fun rb ρ2 => liftO ρ2 ((ra.val ρ2).bind fun p => (rb.val ρ2).bind fun q => (ixF p q).map .fz)
  | .sl o lo hi, ρ => (evE o ρ).bind fun ra ρ1 => (evO lo ρ1).bind fun l ρ2 => (evO hi ρ2).bind fun h ρ3 => liftO ρ3 ((ra.val ρ3).bind fun p => slF p l h)
  | .fld o n, ρ => (evE o ρ).bind fun ra ρ1 => liftO ρ1 ((ra.val ρ1).bind fun p => match p with
    | .obj c fs => (C.fx c n).bind fun k => (fs[k]?).map .fz
    | _ => none)
  | .call f es, ρ => (evEs es ρ).bind fun rs ρ1 => match sealAll rs ρ1 with
    | some (ps, ρ2) => outR ρ2 (C.fn f ps)
    | none => .stuck
  | .new c es, ρ => (evEs es ρ).bind fun rs ρ1 => match sealAll rs ρ1 with
    | some (ps, ρ2) => outR ρ2 (C.mkC c ps)
    | none => .stuck
  | .blt b es, ρ => (evEs es ρ).bind fun rs ρ1 => liftO ρ1 ((valAll ρ1 rs).bind fun ps => bltF b ps)
  | .bm m o es, ρ => (evE o ρ).bind fun ra ρ1 => match ra with
    | .fz (.str a) => (evEs es ρ1).bind fun rs ρ2 => liftO ρ2 ((valAll ρ2 rs).bind fun ps => bmF m (.str a) ps)
    | _ => .stuck
  | .mu m i es, ρ => match getS ρ i with
    | .ow (.lst _) => (evEs es ρ).bind fun rs ρ1 => match sealAll rs ρ1 with
      | some (ps, ρ2) => (match getS ρ2 i with
        | .ow (.lst xs) => (match muF m xs ps with
          | some (ys, p) => .ok (.fz p) (setS ρ2 i (.ow (.lst ys)))
          | none => .stuck)
        | _ => .stuck)
      | none => .stuck
    | _ => .stuck
  | .isi e k, ρ => (evE e ρ).bind fun ra ρ1 => liftO ρ1 ((ra.val ρ1).bind fun p => (isiF k p).map fun b => .fz (.bl b))
  | .lc tg it t e vs, ρ => (evI it ρ).bind fun xs ρ1 => (lcLoop (bindT tg) (evOt t) (evE e) vs xs [] (killS vs ρ1)).bind fun ps ρ2 => .ok (.ow (.lst ps)) ρ2
  | .lc2 tg it t tg1 it1 t1 e vs vs1, ρ => (evI it ρ).bind fun xs ρ1 => (lcOut (bindT tg) (evOt t) (lcIn (evI it1) (bindT tg1) (evOt t1) (evE e) vs1) vs xs [] (killS vs ρ1)).bind fun ps ρ2 => .ok (.ow (.lst ps)) ρ2
def evEs : Exs → List Slot → R (List Rv)
  | .nil, ρ => .ok [] ρ
  | .cons e es, ρ => (evE e ρ).bind fun r ρ1 => (evEs es ρ1).bind fun rs ρ2 => .ok (r :: rs) ρ2
def evO : Oe → List Slot → R (Option Int)
  | .none, ρ => .ok none ρ
  | .some e, ρ => (evE e ρ).bind fun r ρ1 => match r with
    | .fz (.int i) => .ok (some i) ρ1
    | _ => .stuck
def evOt : Ot → List Slot → R Bool
  | .none, ρ => .ok true ρ
  | .some t, ρ => evT t ρ
def evT : Te → List Slot → R Bool
  | .val e, ρ => (evE e ρ).bind fun r ρ1 => liftO ρ1 ((r.val ρ1).bind truthF)
  | .cmp o a b, ρ => (evE a ρ).bind fun ra ρ1 => (evE b ρ1).bind fun rb ρ2 => liftO ρ2 ((ra.val ρ2).bind fun p => (rb.val ρ2).bind fun q => cmpF o p q)
  | .cmp2 o o' a b c, ρ => (evE a ρ).bind fun ra ρ1 => (evE b ρ1).bind fun rb ρ2 => (liftO ρ2 ((ra.val ρ2).bind fun p => (rb.val ρ2).bind fun q => cmpF o p q)).bind fun t ρ2 =>
      if t then (evE c ρ2).bind fun rc ρ3 => liftO ρ3 ((rb.val ρ3).bind fun q => (rc.val ρ3).bind fun r => cmpF o' q r) else .ok false ρ2
  | .not t, ρ => (evT t ρ).bind fun b ρ1 => .ok (!b) ρ1
  | .and a b, ρ => (evT a ρ).bind fun c ρ1 => if c then evT b ρ1 else .ok false ρ1
  | .or a b, ρ => (evT a ρ).bind fun c ρ1 => if c then .ok true ρ1 else evT b ρ1
def evI : Itx → List Slot → R (List PV)
  | .val e, ρ => (evE e ρ).bind fun r ρ1 => liftO (r.seal ρ1) ((r.val ρ1).bind (itemsC C.it))
  | .range1 a, ρ => (evE a ρ).bind fun r ρ1 => match r with
    | .fz (.int n) => if rangeOk 0 n then .ok (rangeP 0 n) ρ1 else .stuck
    | _ => .stuck
  | .range2 a b, ρ => (evE a ρ).bind fun r ρ1 => (evE b ρ1).bind fun q ρ2 => match r, q with
    | .fz (.int m), .fz (.int n) => if rangeOk m n then .ok (rangeP m n) ρ2 else .stuck
    | _, _ => .stuck
  | .enum e, ρ => (evE e ρ).bind fun r ρ1 => liftO (r.seal ρ1) (((r.val ρ1).bind itemsE).map (enumFromP 0))
  | .zip a b, ρ => (evE a ρ).bind fun r ρ1 => (evE b ρ1).bind fun q ρ2 => match sealAll [r, q] ρ2 with
    | some ([p1, p2], ρ3) => liftO ρ3 ((itemsE p1).bind fun xs => (itemsE p2).map fun ys => zipP xs ys)
    | _ => .stuck
  | .revR a, ρ => (evE a ρ).bind fun r ρ1 => match r with
    | .fz (.int n) => if rangeOk 0 n then .ok (rangeP 0 n).reverse ρ1 else .stuck
    | _ => .stuck
end
/-- how a statement ends -/
inductive Fl where
  | nx (ρ : List Slot) | bk (ρ : List Slot) | ct (ρ : List Slot) | rt (r : Rv) (ρ : List Slot) | ex (e : PX) (ρ : List Slot) | stuck
def Fl.ofR {α : Type} (x : R α) (f : α → List Slot → Fl) : Fl :=
  match x with
  | .ok a ρ => f a ρ
  | .ex e ρ => .ex e ρ
  | .stuck => .stuck
@[simp] theorem Fl.ofR_ok {α : Type} (a : α) (ρ : List Slot) (f : α → List Slot → Fl) : Fl.ofR (R.ok a ρ) f = f a ρ := (rfl)
def forLoop (bind : PV → List Slot → Option (List Slot)) (body : List Slot → Fl) (kill : List Nat) : List PV → List Slot → Fl
  | [], ρ => .nx ρ
  | x :: xs, ρ =>
    match bind x ρ with
    | none => .stuck
    | some ρ1 =>
      match body ρ1 with
      | .nx ρ2 => forLoop bind body kill xs (killS kill ρ2)
      | .ct ρ2 => forLoop bind body kill xs (killS kill ρ2)
      | .bk ρ2 => .nx (killS kill ρ2)
      | f => f
def whileLoop (test : List Slot → R Bool) (body : List Slot → Fl) (kill : List Nat) : Nat → List Slot → Fl
  | 0, _ => .stuck
  | n + 1, ρ =>
    match test ρ with
    | .ok false ρ1 => .nx ρ1
    | .ok true ρ1 =>
      (match body ρ1 with
      | .nx ρ2 => whileLoop test body kill n (killS kill ρ2)
      | .ct ρ2 => whileLoop test body kill n (killS kill ρ2)
      | .bk ρ2 => .nx (killS kill ρ2)
      | f => f)
    | .ex e ρ1 => .ex e ρ1
    | .stuck => .stuck
/-- stored: what is new goes into the slot alone -/
def storeT (tg : Tg) (r : Rv) (ρ : List Slot) : Fl :=
  match tg, r with
  | .nm i, .ow p => .nx (setS ρ i (.ow p))
  | _, _ => match r.val ρ with
    | some p => (match bindT tg p (r.seal ρ) with | some ρ1 => .nx ρ1 | none => .stuck)
    | none => .stuck
mutual
def exS : Sk → List Slot → Fl
  | .set tg e, ρ => Fl.ofR (evE C e ρ) fun r ρ1 => storeT tg r ρ1
  | .setI i ix e, ρ => Fl.ofR (evE C e ρ) fun r ρ1 => match getS ρ1 i with
    | .ow (.lst _) => Fl.ofR (evE C ix ρ1) fun q ρ2 => (match r.val ρ2, q with
      | some p, .fz (.int k) => (match getS (r.seal ρ2) i with
        | .ow (.lst xs) => (match ixN xs.length k with
          | some j => .nx (setS (r.seal ρ2) i (.ow (.lst (xs.set j p))))
          | none => .stuck)
        | _ => .stuck)
      | _, _ => .stuck)
    | _ => .stuck
  | .setF i n e, ρ => Fl.ofR (evE C e ρ) fun r ρ1 => match r.val ρ1, getS (r.seal ρ1) i with
    | some p, .ow (.obj c fs) => (match C.fx c n with
      | some k => if k < fs.length then .nx (setS (r.seal ρ1) i (.ow (.obj c (fs.set k p)))) else if k = fs.length then .nx (setS (r.seal ρ1) i (.ow (.obj c (fs ++ [p])))) else .stuck
      | none => .stuck)
    | _, _ => .stuck
  | .expr e, ρ => Fl.ofR (evE C e ρ) fun _ ρ1 => .nx ρ1
  | .ret e, ρ => Fl.ofR (evE C e ρ) fun r ρ1 => .rt r ρ1
  | .retN, ρ => .rt (.fz .non) ρ
  | .ifs t a b, ρ => Fl.ofR (evT C t ρ) fun c ρ1 => if c then exSs a ρ1 else exSs b ρ1
  | .for_ tg it body kill, ρ => Fl.ofR (evI C it ρ) fun xs ρ1 => forLoop (bindT tg) (exSs body) kill xs ρ1
  | .while_ fuel t body kill, ρ => whileLoop (evT C t) (exSs body) kill fuel ρ
  | .brk, ρ => .bk ρ
  | .cont, ρ => .ct ρ
  | .pass, ρ => .nx ρ
  | .raise _ _, _ => .stuck
  | .never, _ => .stuck
def exSs : List Sk → List Slot → Fl
  | [], ρ => .nx ρ
  | s :: ss, ρ => match exS s ρ with
    | .nx ρ1 => exSs ss ρ1
    | f => f
end
end
/-- a def: how many parameters, how many slots, its body -/
structure FnD where
  ps : Nat
  n : Nat
  body : List Sk
/-- the program -/
structure Prg where
  fn : Nat → Option FnD
  /-- the __init__ of a class -/
  ini : Nat → Option FnD
  gv : Nat → PV
  fx : Nat → Nat → Option Nat
  it : Nat → Option Nat := fun _ => none
/-- one call deep at least -/
def Prg.itA (P : Prg) : Nat → Nat → Option Nat
  | 0, _ => none
  | _ + 1, c => P.it c
def frame (n : Nat) (ss : List Slot) : List Slot := ss ++ List.replicate (n - ss.length) .no
/-- what comes out of a def -/
def outF : Fl → Out
  | .nx _ => .ret (.fz .non)
  | .rt r ρ => (match r with
    | .fz p => .ret (.fz p)
    | .ow p => .ret (.ow p)
    | .br i => (match getS ρ i with | .ow p => .ret (.ow p) | .fz p => .ret (.fz p) | .no => .stuck))
  | .ex e _ => .ex e
  | _ => .stuck
/-- what comes out of __init__: the object -/
def outI : Fl → Out
  | .nx ρ => (match getS ρ 0 with | .ow (.obj c fs) => .ret (.ow (.obj c fs)) | _ => .stuck)
  | .rt (.fz .non) ρ => (match getS ρ 0 with | .ow (.obj c fs) => .ret (.ow (.obj c fs)) | _ => .stuck)
  | .ex e _ => .ex e
  | _ => .stuck
mutual
def callF (P : Prg) : Nat → Nat → List PV → Out
  | 0, _, _ => .stuck
  | k + 1, f, vs => match P.fn f with
    | some d => if vs.length = d.ps then outF (exSs ⟨callF P k, callM P k, P.gv, P.fx, P.itA k⟩ d.body (frame d.n (vs.map .fz))) else .stuck
    | none => .stuck
def callM (P : Prg) : Nat → Nat → List PV → Out
  | 0, _, _ => .stuck
  | 1, _, _ => .stuck
  | k + 2, c, vs => match P.ini c with
    | some d => if vs.length + 1 = d.ps then outI (exSs ⟨callF P k, callM P k, P.gv, P.fx, P.itA k⟩ d.body (frame d.n (.ow (.obj c []) :: vs.map .fz))) else .stuck
    | none => .stuck
end
abbrev Prg.cal (P : Prg) (k : Nat) : Cal := ⟨callF P k, callM P k, P.gv, P.fx, P.itA k⟩
end Mp
set_option Elab.async false
set_option linter.all false
set_option maxRecDepth 100000
set_option maxHeartbeats 400000
namespace Mp
open PySem PySem.Spec PyProof.Rows L2
variable {L : Lk}
/-! # Calls: what is held alone is hidden from the callee -/
/-- H behind a call that has seen a part of it and left H' -/
def over (H H' : Hp) : Hp := fun b => match H' b with | some o => some o | none => H b
theorem over_some {H H' : Hp} {b : Addr} {o : HO} (h : H' b = some o) : over H H' b = some o := by unfold over; rw [h]
theorem over_none {H H' : Hp} {b : Addr} (h : H' b = none) : over H H' b = H b := by unfold over; rw [h]
theorem not_tup {xs : List V} : ¬ Ownable (.tup xs) := fun h => h
theorem Gd.keep {G H : Hp} (g : Gd G H) {b : Addr} {o : HO} (h : H b = some o) (n : ¬ Ownable o) : G b = some o := by
  cases q : G b with
  | none => exact absurd (g.alone b o h q) n
  | some u =>
    have := g.sub b u q
    rw [h] at this
    exact this.symm
section
variable {P : Program} {w : World} {H G H' : Hp} {h h' : Heap} {a : Addr} {o : HO}
theorem objOk_hide (g : Gd G H) : ∀ o, (∀ C dx fs, o = .ins C dx fs → G dx = some (.own a)) → (∀ o' u, o = .frz o' u → ∃ xs, u = .lst xs) → ObjOk P w H h a o → ObjOk P w G h a o := by
  intro o hi hf x
  cases o with
  | lst xs => exact x
  | tup xs => exact x
  | dK kvs => exact x
  | dT kvs =>
    obtain ⟨z, y, xs, r, c⟩ := x
    exact ⟨z, y, xs, Paired.mapP r fun p q z => ⟨z.1, g.keep z.2.1 not_tup, z.2.2⟩, c⟩
  | set S n => exact x
  | ins C dx fs => exact ⟨hi C dx fs rfl, x.2⟩
  | own y => exact x
  | xd fs => exact x
  | rng lo hi => exact x
  | frz ob u =>
    obtain ⟨xs, rfl⟩ := hf _ _ rfl
    exact x
  | tbl ps => exact x
  | met f y => exact x
  | ext φ => exact x
theorem HOk.hide (g : Gd G H) (x : HOk P w H h) : HOk P w G h := fun a o e => by
  refine objOk_hide g o (fun C dx fs z => ?_) (fun o' u z => ?_) (x a o (g.sub a o e))
  · subst z; exact g.nice a _ e
  · subst z; exact g.nice a _ e
end
section
variable {X : Cx} {pins : List (Addr × Obj)} {σ : L2.St} {H G : Hp} {s : Shared}
theorem none_of {G H : Hp} (g : Gd G H) {b : Addr} (n : H b = none) : G b = none := Same.free g.sub n
theorem Inv.hide (I : Inv X pins σ H s) (g : Gd G H) : Inv X pins σ G s :=
  ⟨I.ok, I.os, I.bare, ⟨fun b o e n hb hx => I.base.keep b o e n hb hx, fun b o e n hb hx => I.base.slot b o e n hb hx, fun b o e n hx => none_of g (I.base.free b o e n hx), fun b o e hx => I.base.there b o e hx,
      fun b xs e => g.keep (I.base.tups b xs e) not_tup, fun b o xs e => g.keep (I.base.frzs b o xs e) (fun z => z), fun b ps e => by
        obtain ⟨m, q⟩ := I.base.tbls b ps e
        exact ⟨m, g.keep q (fun z => z)⟩⟩, I.loc, I.cell, none_of g I.free, fun x c e => none_of g (I.freeC x c e), fun p hp => by
        obtain ⟨a, b, c⟩ := I.pin p hp
        exact ⟨a, none_of g b, c⟩, HOk.hide g I.hok, I.len⟩
/-- what was hidden is as it was -/
theorem Inv.unhide {Q : VK} {u : Value} {s' : Shared} (I : Inv X pins σ H s) (g : Gd G H)
    (c : CE X.stack X.prog X.w G s (fun v H' => (∀ b o, G b = some o → ∃ o', H' b = some o') ∧ ((∀ b o, H b = some o → G b = none → H' b = none) → Q v (over H H'))) u s') : EP X pins σ Q u s' := by
  obtain ⟨v, H', os, bare, un, hok, r, sg, q⟩ := c
  have hid : ∀ b o, H b = some o → G b = none → H' b = none := fun b o e n => by
    obtain ⟨ob, hb⟩ := objOk_get (I.hok b o e)
    exact un.free b ob hb n (by simp)
  refine ⟨v, over H H', I.call' (ch := []) os ⟨fun b o e n hb hx => un.keep b o e (none_of g n) hb hx, fun b o e n hb hx => un.slot b o e (none_of g n) hb hx, fun b o e n hx => ?_, fun b o e hx => un.there b o e hx,
    fun b xs e => ?_, fun b o xs e => ?_, fun b ps e => ?_⟩ (fun b o e => ?_) bare (fun b z => absurd z (by simp)), r, q hid⟩
  · rw [over_none (un.free b o e (none_of g n) hx)]; exact n
  · exact over_some (un.tups b xs (g.keep e not_tup))
  · exact over_some (un.frzs b o xs (g.keep e fun z => z))
  · obtain ⟨m, e2⟩ := un.tbls b ps (g.keep e fun z => z)
    exact ⟨m, over_some e2⟩
  · cases e1 : H' b with
    | some o' =>
      rw [over_some e1] at e
      cases e
      exact (hok b o e1).stay (fun c v _ q => q) (fun c q => over_some q) fun c xs q => over_some q
    | none =>
      rw [over_none e1] at e
      have gn : G b = none := by
        cases q : G b with
        | none => rfl
        | some o' =>
          obtain ⟨o2, z⟩ := sg b o' q
          rw [e1] at z
          cases z
      have nfr : ∀ c o, H c = some o → c ∉ frs X.stack := fun c o z hm => by
        rw [I.stkFree c hm] at z
        cases z
      have own : ∀ c, H c = some (.own b) → G c = none := fun c z => by
        cases q : G c with
        | none => rfl
        | some o' =>
          have z2 := g.sub c o' q
          rw [z] at z2
          cases z2
          obtain ⟨o2, z3⟩ := g.nice c _ q
          rw [gn] at z3
          cases z3
      refine (I.hok b o e).stay (fun c ob hc q => ?_) (fun c z => ?_) fun c xs z => over_some (un.tups _ _ (g.keep z not_tup))
      · rcases hc with rfl | hc
        · exact un.keep c ob q gn (nfr c o e) (by simp)
        · exact un.keep c ob q (own c hc) (nfr c _ hc) (by simp)
      · rw [over_none (hid c _ z (own c z))]
        exact z
end
/-- what a call that gives r leaves -/
def RetOk (L : Lk) (G0 : Hp) (r : Rv) (v : V) (H' : Hp) : Prop :=
  ∃ G1, Same G0 G1 ∧ Gd G1 H' ∧ match r with
    | .fz p => Rep L G1 p v
    | .ow p => ∃ a, v = .ref a ∧ G1 a = none ∧ OwnAt L G1 H' p a
    | .br _ => False
/-- an exception as it flies: its class, its fields in its own dict -/
def ExcRep (L : Lk) (G : Hp) (e : PX) (cls : Value) (d : Option Addr) : Prop :=
  cls = .ref (L.cls e.c) ∧ match e.fs with
    | [] => True
    | fs => ∃ dd ys, d = some dd ∧ G dd = some (.xd ((L.fld e.c).zip ys)) ∧ ys.length ≤ (L.fld e.c).length ∧ Reps L G fs ys
/-- what a call that raises e leaves -/
def ExcOk (L : Lk) (G0 : Hp) (e : PX) (cls : Value) (d : Option Addr) (H' : Hp) : Prop := ∃ G1, Same G0 G1 ∧ Gd G1 H' ∧ ExcRep L G1 e cls d
/-- a def's promise: it gives what the evaluator gives -/
def spF (L : Lk) (n : Nat) (g : List PV → Out) : Sp := fun vs H Q E => vs.length = n ∧ (∀ b o, H b = some o → Nice H b o) ∧ ∃ ps, Reps L H ps vs ∧
  match g ps with
  | .ret r => ∀ v H', RetOk L H r v H' → Q v H'
  | .ex e => ∀ cls d H', ExcOk L H e cls d H' → E cls d H'
  | .stuck => False
/-- behind a call -/
theorem Ext.call {G G1 H H' : Hp} (g : Gd G H) (s : Same G G1) (g1 : Gd G1 H') (hid : ∀ b o, H b = some o → G b = none → H' b = none) : Ext G H G1 (over H H') := by
  have sh : Same H (over H H') := fun b o e => by
    cases q : H' b with
    | none => rw [over_none q]; exact e
    | some o' =>
      cases z : G b with
      | none => rw [hid b o e z] at q; cases q
      | some o2 =>
        have e1 := g1.sub b o2 (s b o2 z)
        have e2 := g.sub b o2 z
        rw [e] at e2
        cases e2
        exact over_some e1
  refine ⟨s, sh, ⟨fun b o e => over_some (g1.sub b o e), fun b o e n => ?_, g1.nice⟩, fun b o e n => ?_⟩
  · cases q : H' b with
    | some o' =>
      rw [over_some q] at e
      cases e
      exact g1.alone b o q n
    | none =>
      rw [over_none q] at e
      refine g.alone b o e ?_
      cases z : G b with
      | none => rfl
      | some o2 => rw [s b o2 z] at n; cases n
  · cases z : G1 b with
    | none => rfl
    | some o2 =>
      have := g1.sub b o2 z
      rw [hid b o e n] at this
      cases this
/-- what is wanted of a result serves behind a call -/
theorem RvPost.call {G H H' : Hp} {r : Rv} {v : V} {Q : VK} (h : RvPost L G H r Q) (g : Gd G H) (x : RetOk L G r v H') (hid : ∀ b o, H b = some o → G b = none → H' b = none) : Q v (over H H') := by
  obtain ⟨G1, s, g1, m⟩ := x
  have e := Ext.call g s g1 hid
  cases r with
  | fz p => exact h v G1 _ e m
  | ow p =>
    obtain ⟨a, rfl, n, w⟩ := m
    obtain ⟨o, ho, _⟩ := w.there
    have na : H a = none := by
      cases q : H a with
      | none => rfl
      | some o' =>
        cases z : G a with
        | none => rw [hid a o' q z] at ho; cases ho
        | some o2 => rw [s a o2 z] at n; cases n
    refine h a G1 _ e na n (w.mono (Same.refl _) (fun b o _ z => over_some z) fun _ _ z => z)
  | br i => exact m.elim
section
variable {X : Cx} {pins : List (Addr × Obj)} {σ : L2.St} {H G : Hp} {s : Shared} {W : WX} {k : Nat} {f : Addr} {fd : FuncData} {ps : List Str} {n : Nat} {g : List PV → Out} {Q : VK}
theorem run_fnH {us : List Value} {vs : List V} (F : FnOk X.prog X.w X.K X.mg X.base (L2.CX X.prog X.w) k f fd ps (spF L n g)) (hr : Room k X.A) (hb : Binds X.K fd ps []) (tk : Takes X W) (I : Inv X pins σ H s) (gd : Gd G H) (r : Vals vs us)
    (h : spF L n g vs G (fun v H' => (∀ b o, G b = some o → ∃ o', H' b = some o') ∧ ((∀ b o, H b = some o → G b = none → H' b = none) → Q v (over H H'))) (WE W σ)) : wpAny (model X.prog X.w) X.A (call (.ref f) us) (EP X pins σ Q) X.xe s := by
  have IG : Inv X pins σ G s := Inv.hide I gd
  have hl : us.length = ps.length := by rw [← r.length]; exact F.len _ _ _ _ h
  have b := hb s us I.kIn (by rw [List.append_nil]; exact hl)
  rw [List.append_nil] at b
  refine wpAny_call (codeAny_mono (F.run X.A X.stack s G ⟨us, []⟩ us vs _ (WE W σ) hr IG.env0 b r h) fun r s' hq => ?_)
  cases r with
  | error e => exact passAt tk σ pins G s e s' IG hq
  | ok fl =>
    cases fl with
    | ret u => exact Inv.unhide I gd hq
    | next => exact False.elim hq
    | brk => exact False.elim hq
    | cont => exact False.elim hq
/-- f(..): the arguments stand in what nobody changes -/
def tCallH (L : Lk) (W : WX) (n : Nat) (g : List PV → Out) (t : TA) : TE := fun σ H Q => t σ H fun vs H1 => ∃ G, Gd G H1 ∧ spF L n g vs G (fun v H' => (∀ b o, G b = some o → ∃ o', H' b = some o') ∧ ((∀ b o, H1 b = some o → G b = none → H' b = none) → Q v (over H1 H'))) (WE W σ)
theorem pe_callH {x : Str} {p pos : Pos} {e : Expr} {es : List Expr} {t : TA} (F : FnOk X.prog X.w X.K X.mg X.base (L2.CX X.prog X.w) k f fd ps (spF L n g)) (hr : Room k X.A) (hg : Gl X x) (hm : X.mg x = some (.ref f)) (hk : PySem.W.keepIn X.K (.ref f) = true) (hb : Binds X.K fd ps []) (tk : Takes X W)
    (ha : PA X (e :: es) t) (hdb : (x == ("__debug__" : Str)) = false) (he : starEach (e :: es) X.env = (false, eval e X.env) :: starEach es X.env) (hpl : (backTo pos (starEach es X.env)).any (·.1) = false) :
    PE X (.Call (.Name x p) (e :: es) [] pos) (tCallH L W n g t) := by
  refine ⟨fun pins s σ H Q I h => ?_⟩
  refine wpAny_Call_Name_kw (ld_glob I hg hm ?_ hdb)
  refine PySem.W.callWith_K (h₀ := X.base) I.ok.mod.kin hk (thn (ha.run pos pins s σ H _ I h) fun us s1 ⟨vs, H1, I1, r, G, gd, q⟩ => ⟨I1.kIn, ?_⟩) he hpl
  exact run_fnH F hr hb tk I1 gd r q
theorem pe_callH0 {x : Str} {p pos : Pos} (F : FnOk X.prog X.w X.K X.mg X.base (L2.CX X.prog X.w) k f fd ps (spF L n g)) (hr : Room k X.A) (hg : Gl X x) (hm : X.mg x = some (.ref f)) (hk : PySem.W.keepIn X.K (.ref f) = true) (hb : Binds X.K fd ps []) (tk : Takes X W)
    (hdb : (x == ("__debug__" : Str)) = false) : PE X (.Call (.Name x p) [] [] pos) (tCallH L W n g tNil) := by
  refine ⟨fun pins s σ H Q I h => ?_⟩
  obtain ⟨G, gd, q⟩ := h
  refine wpAny_Call_Name_kw (ld_glob I hg hm ?_ hdb)
  exact PySem.W.callWith_K0 I.kIn hk (run_fnH (us := []) F hr hb tk I gd .nil q)
end

/-! ## an object is made -/
/-- __init__'s promise: the object that the evaluator gives -/
def spI (L : Lk) (n c : Nat) (g : List PV → Out) : Sp := fun vs H Q E => vs.length = n ∧ ∃ G x dx us ps, vs = .ref x :: us ∧ H x = some (.ins (L.cls c) dx []) ∧ H dx = some (.own x) ∧ dx + 1 = x ∧ G x = none ∧ G dx = none ∧ Gd G H ∧ Reps L G ps us ∧
  match g ps with
  | .ret (.ow (.obj c' fs)) => ∀ H', (∃ G1, Same G G1 ∧ Gd G1 H' ∧ G1 x = none ∧ OwnAt L G1 H' (.obj c' fs) x) → Q .non H'
  | .ex e => ∀ cls d H', ExcOk L G e cls d H' → E cls d H'
  | _ => False
section
variable {X : Cx} {pins : List (Addr × Obj)} {σ : L2.St} {H G : Hp} {s : Shared} {W : WX} {k : Nat} {f C : Addr} {fd : FuncData} {ps : List Str} {n c : Nat} {g : List PV → Out} {Q : VK}
theorem Gd.made {x dx : Addr} (g : Gd G H) (nx : H x = none) (nd : H dx = none) (ne : dx ≠ x) : Gd (upd (upd G dx (.own x)) x (.ins C dx [])) (upd (upd H dx (.own x)) x (.ins C dx [])) := by
  have s1 : Same G (upd (upd G dx (.own x)) x (.ins C dx [])) := fun b u q => by
    rw [upd_ne (ne_of_none q (none_of g nx)), upd_ne (ne_of_none q (none_of g nd))]; exact q
  refine ⟨fun b u q => ?_, fun b o e z => ?_, fun b o e => ?_⟩
  · by_cases hb : b = x
    · subst hb; rw [upd_same] at q ⊢; exact q
    · rw [upd_ne hb] at q ⊢
      by_cases hd : b = dx
      · subst hd; rw [upd_same] at q ⊢; exact q
      · rw [upd_ne hd] at q ⊢; exact g.sub b u q
  · by_cases hb : b = x
    · subst hb; rw [upd_same] at z; cases z
    · rw [upd_ne hb] at e z
      by_cases hd : b = dx
      · subst hd; rw [upd_same] at z; cases z
      · rw [upd_ne hd] at e z; exact g.alone b o e z
  · by_cases hb : b = x
    · subst hb; rw [upd_same] at e; cases e
      show (upd (upd G dx (.own b)) b (.ins C dx [])) dx = some (.own b)
      rw [upd_ne ne, upd_same]
    · rw [upd_ne hb] at e
      by_cases hd : b = dx
      · subst hd; rw [upd_same] at e; cases e; exact ⟨_, upd_same⟩
      · rw [upd_ne hd] at e; exact (g.nice b o e).mono s1
theorem run_makeH {us : List Value} {vs : List V} {pvs : List PV} (hC : C = L.cls c) (M : Mk X.K C f) (F : FnOk X.prog X.w X.K X.mg X.base (L2.CX X.prog X.w) k f fd ps (spI L n c g)) (hr : Room (k + 1) X.A) (hb : Binds X.K fd ps []) (tk : Takes X W) (I : Inv X pins σ H s) (gd : Gd G H) (r : Vals vs us)
    (hn : vs.length + 1 = n) (hp : Reps L G pvs vs)
    (h : match g pvs with
      | .ret (.ow (.obj c' fs)) => RvPost L G H (.ow (.obj c' fs)) Q
      | .ex e => ∀ cls d H', ExcOk L G e cls d H' → W cls d σ H'
      | _ => False) :
    wpAny (model X.prog X.w) X.A (call (.ref C) us) (EP X pins σ Q) X.xe s := by
  subst hC
  have nx : H (s.heap.objs.size + 1) = none := I.hok.fresh (Nat.le_succ _)
  have nd : H s.heap.objs.size = none := I.hok.fresh (Nat.le_refl _)
  have ne : s.heap.objs.size ≠ s.heap.objs.size + 1 := Nat.ne_of_lt (Nat.lt_succ_self _)
  have I2 := Inv.made (C := L.cls c) I
  have hxd : s.heap.objs.size + 1 = s.heap.objs.size + 1 := rfl
  generalize hx : s.heap.objs.size + 1 = x at nx ne I2 hxd
  replace hxd : s.heap.objs.size + 1 = x := hx
  generalize hd : s.heap.objs.size = dx at nd ne I2 hxd
  have gd2 := Gd.made (C := L.cls c) gd nx nd ne
  have IG := Inv.hide I2 gd2
  have sg : Same G (upd (upd G dx (.own x)) x (.ins (L.cls c) dx [])) := fun b u q => by
    rw [upd_ne (ne_of_none q (none_of gd nx)), upd_ne (ne_of_none q (none_of gd nd))]; exact q
  have gdG : Gd G (upd (upd G dx (.own x)) x (.ins (L.cls c) dx [])) := ⟨sg, (fun b o e z => by
    by_cases hb : b = x
    · subst hb; rw [upd_same] at e; cases e; trivial
    · rw [upd_ne hb] at e
      by_cases hdd : b = dx
      · subst hdd; rw [upd_same] at e; cases e; trivial
      · rw [upd_ne hdd] at e; rw [z] at e; cases e), gd.nice⟩
  have hq : spI L n c g (.ref x :: vs) (upd (upd G dx (.own x)) x (.ins (L.cls c) dx []))
      (fun v H' => (∀ b o, (upd (upd G dx (.own x)) x (.ins (L.cls c) dx [])) b = some o → ∃ o', H' b = some o') ∧ ((∀ b o, (upd (upd H dx (.own x)) x (.ins (L.cls c) dx [])) b = some o → (upd (upd G dx (.own x)) x (.ins (L.cls c) dx [])) b = none → H' b = none) →
        v = .non ∧ Q (.ref x) (over (upd (upd H dx (.own x)) x (.ins (L.cls c) dx [])) H'))) (WE W σ) := by
    refine ⟨by simpa using hn, G, x, dx, vs, pvs, rfl, upd_same, by rw [upd_ne ne, upd_same], hxd, none_of gd nx, none_of gd nd, gdG, hp, ?_⟩
    cases e : g pvs with
    | stuck => rw [e] at h; exact h
    | ex e2 => rw [e] at h; exact h
    | ret r2 =>
      rw [e] at h
      cases r2 with
      | fz p => exact h
      | br i => exact h
      | ow p =>
        cases p with
        | obj c' fs =>
        intro H' hH
        obtain ⟨G1, s1, g1, n1, w⟩ := hH
        have odx : ∃ o, H' dx = some o := by
          obtain ⟨d2, ys, _, w2, _, w4, _⟩ := w
          have : d2 = dx := Nat.succ.inj (w4.trans hxd.symm)
          rw [this] at w2
          exact ⟨_, w2⟩
        refine ⟨fun b o q => ?_, fun hid => ⟨rfl, ?_⟩⟩
        · by_cases hb : b = x
          · subst hb; obtain ⟨o, ho, _⟩ := w.there; exact ⟨o, ho⟩
          · rw [upd_ne hb] at q
            by_cases hdd : b = dx
            · subst hdd; exact odx
            · rw [upd_ne hdd] at q; exact ⟨o, g1.sub b o (s1 b o q)⟩
        · have hid2 : ∀ b o, H b = some o → G b = none → H' b = none := fun b o q z => by
            have hb : b ≠ x := ne_of_none q nx
            have hdd : b ≠ dx := ne_of_none q nd
            exact hid b o (by rw [upd_ne hb, upd_ne hdd]; exact q) (by rw [upd_ne hb, upd_ne hdd]; exact z)
          have ex := Ext.call gd s1 g1 hid2
          have eo : over (upd (upd H dx (.own x)) x (.ins (L.cls c) dx [])) H' = over H H' := by
            funext b
            cases q : H' b with
            | some o => rw [over_some q, over_some q]
            | none =>
              rw [over_none q, over_none q]
              have hb : b ≠ x := fun z => by
                subst z
                obtain ⟨o, ho, _⟩ := w.there
                rw [q] at ho; cases ho
              have hdd : b ≠ dx := fun z => by
                subst z
                obtain ⟨o, ho⟩ := odx
                rw [q] at ho; cases ho
              rw [upd_ne hb, upd_ne hdd]
          rw [eo]
          exact h x G1 _ ex nx n1 (w.mono (Same.refl _) (fun b o _ z => over_some z) fun _ _ z => z)
        | _ => exact h
  have r2 : Vals (V.ref x :: vs) (Value.ref x :: us) := .cons rfl r
  have hl : (Value.ref x :: us).length = ps.length := by
    have e := r2.length
    rw [F.len _ _ _ _ hq] at e
    exact e.symm
  have b := hb _ (Value.ref x :: us) I2.kIn (by rw [List.append_nil]; exact hl)
  rw [List.append_nil] at b
  refine wpAny_call (make_map (f := f) I.kIn M.makes M.init (beq_iff_eq.mp M.fn) ?_)
  rw [hx, hd]
  refine codeAny_mono (F.run _ X.stack _ _ ⟨Value.ref x :: us, []⟩ (Value.ref x :: us) _ _ (WE W σ) (hr.make (L.cls c) us []) (IG.env0.make (L.cls c) us []) b r2 hq) fun r s' hq' => ?_
  cases r with
  | error e => exact passAt tk σ pins _ _ e s' IG hq'
  | ok fl =>
    cases fl with
    | ret u =>
      obtain ⟨v, H', I3, rv, ev, q3⟩ := Inv.unhide (Q := fun v H2 => v = .non ∧ Q (.ref x) H2) I2 gd2 hq'
      subst ev
      exact ⟨rv, ⟨V.ref x, H', I3, rfl, q3⟩⟩
    | next => exact False.elim hq'
    | brk => exact False.elim hq'
    | cont => exact False.elim hq'
end
end Mp
set_option Elab.async false
set_option linter.all false
set_option maxRecDepth 100000
set_option maxHeartbeats 400000
namespace Mp
open PySem PySem.Spec PyProof.Rows L2
variable {L : Lk}
/-! # The checker: what is the program's own text -/
structure Chk where
  /-- slot 0 is the object that is made: nothing else goes there -/
  self : Bool := false
  /-- the names of the def's slots -/
  N : List Str
  /-- the names of the defs, classes, constants, attributes by their numbers -/
  fnN : List Str
  clN : List Str
  glN : List Str
  atN : List Str
/-- the language's own names that the program leans on: none is its own -/
def bltNames : List Str := ["len", "int", "abs", "sum", "list", "tuple", "min", "max", "any", "all", "range", "enumerate", "zip", "reversed", "isinstance", "bool", "str", "sorted"]
def visB (sc : Scope) (x : Str) : Bool := match sc.names.lookup x with
  | some .local | some .cell | some .free => true
  | _ => false
def glB (sc : Scope) (x : Str) : Bool := (sc.names.lookup x == some .globalImplicit) && !(x == ("__debug__" : Str))
def notStar : Expr → Bool
  | .Starred _ _ => false
  | _ => true
def notSet : Expr → Bool
  | .Set _ _ _ => false
  | _ => true
def notSlice : Expr → Bool
  | .Slice _ _ _ _ => false
  | _ => true
/-- as an attribute's base: no call without arguments -/
def baseB : Expr → Bool
  | .Call (.Name _ _) [] [] _ => false
  | _ => true
/-- as a test: its value's truth -/
def plainB : Expr → Bool
  | .UnaryOp .Not _ _ => false
  | .BoolOp _ _ _ => false
  | .Compare _ _ _ _ => false
  | .IfExp _ _ _ _ => false
  | _ => true
def okStr (s : List Nat) : Bool := decide (s.length ≤ LINE) && s.all fun c => decide (c < 1114112)
def okC (p : PV) (k : Const) : Bool :=
  match p, k with
  | .int i, .int j => i == j
  | .bl a, .bool b => a == b
  | .non, .none => true
  | .str s, .str z => (s == z.cps.toList) && okStr s
  | _, _ => false
def TyK.name : TyK → Str
  | .int => "int" | .bool => "bool" | .str => "str" | .tuple => "tuple" | .list => "list" | .cls _ => ""
def Tg.sub (tg : Tg) (vs : List Nat) : Bool := match tg with
  | .nm i => vs.contains i
  | .tp is => is.all vs.contains
def Tg.isTup : Tg → Bool
  | .nm _ => false
  | .tp _ => true
def TyK.ty : TyK → String
  | .int => "int" | .bool => "bool" | .str => "str" | .tuple => "tuple" | .list => "list" | .cls _ => ""
def TyK.plainK : TyK → Bool
  | .cls _ => false
  | _ => true
def Mu.id : Mu → String
  | .append => "list.append" | .popAt => "list.pop" | .pop => "list.pop" | .reverse => "list.reverse" | .clear => "list.clear" | .extend => "" | .insert => ""
def Mu.nm : Mu → Str
  | .append => "append" | .popAt => "pop" | .pop => "pop" | .reverse => "reverse" | .clear => "clear" | .extend => "" | .insert => ""
def Mu.some_ : Mu → Bool
  | .append => true | .popAt => true | _ => false
def Mu.none_ : Mu → Bool
  | .pop => true | .reverse => true | .clear => true | _ => false
def muOk (m : Mu) (x : Str) (n : Nat) : Bool := (x == m.nm) && ((m.some_ && !(n == 0)) || (m.none_ && (n == 0)))
/-- a comprehension's own names -/
def ownL (N : List Str) (vs : List Nat) : List (Str × Nat) := vs.filterMap fun i => (N[i]?).map fun x => (x, i)
section
variable (c : Chk)
def okTg (sc : Scope) : Tg → Expr → Bool
  | .nm i, .Name x _ => (c.N[i]? == some x) && (match sc.names.lookup x with | some .local | some .cell => true | _ => false)
  | .tp is, .Tuple es _ _ => (is.length == es.length) && (is.zip es).all fun (i, e) => (match e with
    | .Name x _ => (c.N[i]? == some x) && (match sc.names.lookup x with | some .local | some .cell => true | _ => false)
    | _ => false)
  | _, _ => false
mutual
def okE (sc : Scope) : Ex → Expr → Bool
  | .var i, .Name x _ => (c.N[i]? == some x) && visB sc x && !(x == ("__debug__" : Str)) && !(x == ("__classdict__" : Str))
  | .cst p, .Constant k _ _ => okC p k
  | .glob g, .Name x _ => (c.glN[g]? == some x) && glB sc x
  | .bin o a b, .BinOp l o' r _ => decide (o = o') && okE sc a l && okE sc b r
  | .neg a, .UnaryOp .USub e _ => okE sc a e
  | .cmp o a b, .Compare l [o'] [r] _ => decide (o = o') && notSet r && okE sc a l && okE sc b r
  | .cmp2 o p a b d, .Compare l [o', p'] [m, r] _ => decide (o = o') && decide (p = p') && notSet r && okE sc a l && okE sc b m && okE sc d r
  | .band a b, .BoolOp .And (l :: r :: rest) pos => okE sc a l && (match rest with | [] => okE sc b r | _ => okE sc b (.BoolOp .And (r :: rest) pos))
  | .bor a b, .BoolOp .Or (l :: r :: rest) pos => okE sc a l && (match rest with | [] => okE sc b r | _ => okE sc b (.BoolOp .Or (r :: rest) pos))
  | .bnot a, .UnaryOp .Not e _ => okE sc a e
  | .ite t a b, .IfExp e x y _ => okT sc t e && okE sc a x && okE sc b y
  | .tup es, .Tuple xs _ _ => okEs sc es xs
  | .lst es, .List xs _ => okEs sc es xs
  | .ix o i, .Subscript v s _ => notSlice s && okE sc o v && okE sc i s
  | .sl o lo hi, .Subscript v (.Slice l h none _) _ => okE sc o v && okO sc lo l && okO sc hi h
  | .fld o n, .Attribute v x _ => (c.atN[n]? == some x) && baseB v && okE sc o v
  | .call f es, .Call (.Name x _) args [] _ => (c.fnN[f]? == some x) && glB sc x && okEs sc es args
  | .new k es, .Call (.Name x _) args [] _ => (c.clN[k]? == some x) && glB sc x && !args.isEmpty && okEs sc es args
  | .blt b es, .Call (.Name x _) args [] _ => (x == b.name) && glB sc x && !args.isEmpty && okEs sc es args
  | .bm m o es, .Call (.Attribute v x apos) args [] cpos => (x == m.nm) && baseB v && !args.isEmpty && decide (args.length < 30) && (apos.endLine == cpos.line) && okE sc o v && okEs sc es args
  | .isi a k, .Call (.Name x _) [e, .Name y _] [] _ => (x == ("isinstance" : Str)) && glB sc x && (y == k.name) && glB sc y && k.plainK && notStar e && okE sc a e
  | .mu m i es, .Call (.Attribute (.Name y _) x apos) args [] cpos => muOk m x args.length &&
      (c.N[i]? == some y) && visB sc y && !(y == ("__debug__" : Str)) && !(y == ("__classdict__" : Str)) && decide (args.length < 30) && (apos.endLine == cpos.line) && okEs sc es args
  | .lc tg it t e vs, .ListComp elt [⟨tg', iter, ifs, 0⟩] scope _ => blkC c.N sc scope (ownL c.N vs) && decide ((ownL c.N vs).map (·.2) = vs) && notSet iter && okTg c scope tg tg' && tg.sub vs && okI sc tg.isTup it iter && okOt (relS scope sc) t ifs && okE (relS scope sc) e elt
  | .lc2 tg it t tg1 it1 t1 e vs vs1, .ListComp elt [⟨tg', iter, ifs, 0⟩, ⟨tg1', iter1, ifs1, 0⟩] scope _ => blkC c.N sc scope (ownL c.N vs) && decide ((ownL c.N vs).map (·.2) = vs) && vs1.all vs.contains && notSet iter && notSet iter1 && okTg c scope tg tg' && tg.sub vs && okTg c scope tg1 tg1' && tg1.sub vs1 && okI sc tg.isTup it iter && okOt (relS scope sc) t ifs && okI (relS scope sc) tg1.isTup it1 iter1 && okOt (relS scope sc) t1 ifs1 && okE (relS scope sc) e elt
  | _, _ => false
def okEs (sc : Scope) : Exs → List Expr → Bool
  | .nil, [] => true
  | .cons e es, x :: xs => notStar x && okE sc e x && okEs sc es xs
  | _, _ => false
def okO (sc : Scope) : Oe → Option Expr → Bool
  | .none, none => true
  | .some e, some x => okE sc e x
  | _, _ => false
def okOt (sc : Scope) : Ot → List Expr → Bool
  | .none, [] => true
  | .some t, [x] => okT sc t x
  | _, _ => false
def okT (sc : Scope) : Te → Expr → Bool
  | .val e, x => plainB x && okE sc e x
  | .cmp o a b, .Compare l [o'] [r] _ => decide (o = o') && notSet r && okE sc a l && okE sc b r
  | .cmp2 o p a b d, .Compare l [o', p'] [m, r] _ => decide (o = o') && decide (p = p') && notSet r && okE sc a l && okE sc b m && okE sc d r
  | .not t, .UnaryOp .Not x _ => okT sc t x
  | .and a b, .BoolOp .And (l :: r :: rest) pos => okT sc a l && (match rest with | [] => okT sc b r | _ => okT sc b (.BoolOp .And (r :: rest) pos))
  | .or a b, .BoolOp .Or (l :: r :: rest) pos => okT sc a l && (match rest with | [] => okT sc b r | _ => okT sc b (.BoolOp .Or (r :: rest) pos))
  | _, _ => false
/-- what is walked; tup: the target is a tuple -/
def okI (sc : Scope) (tup : Bool) : Itx → Expr → Bool
  | .val e, x => notSet x && notStar x && okE sc e x
  | .range1 a, .Call (.Name x _) [e] [] _ => (x == ("range" : Str)) && glB sc x && notStar e && okE sc a e
  | .range2 a b, .Call (.Name x _) [e, e2] [] _ => (x == ("range" : Str)) && glB sc x && notStar e && notStar e2 && okE sc a e && okE sc b e2
  | .enum a, .Call (.Name x _) [e] [] _ => tup && (x == ("enumerate" : Str)) && glB sc x && notStar e && okE sc a e
  | .zip a b, .Call (.Name x _) [e, e2] [] _ => tup && (x == ("zip" : Str)) && glB sc x && notStar e && notStar e2 && okE sc a e && okE sc b e2
  | .revR a, .Call (.Name x _) [.Call (.Name y _) [e] [] _] [] _ => (x == ("reversed" : Str)) && glB sc x && (y == ("range" : Str)) && glB sc y && notStar e && okE sc a e
  | _, _ => false
end
end

/-- a class whose __iter__ gives iter(self.x) -/
structure IterIs (K : PySem.W.Frag) (C fi : Addr) (x : Str) : Prop where
  it : PySem.W.findIn K (.ref C) "__iter__" = some (some (.ref fi))
  fn : PySem.W.isFn K (.ref fi) = true
  df : ∃ y qual st fd N, L2.Fun K y qual st fi fd ∧ Binds K fd ["self"] [] ∧ FnScope N ["self"] (defScope st) ∧ N[0]? = some ("self" : Str) ∧ glB (defScope st) "iter" = true ∧
    ∃ p1 p2 p3 p4 p5, defBody st = [.Return (some (.Call (.Name "iter" p1) [.Attribute (.Name "self" p2) x p3] [] p4)) p5]
/-! # What the evaluator leans on, as it stands in a context -/
structure Sup (c : Chk) (C : Cal) (k : Nat) (L : Lk) (X : Cx) (W : WX) : Prop where
  hL : L.K = X.K
  N : X.N = c.N
  nd : c.N.Nodup
  calm : X.calm = true
  room : Room k X.A
  tk : Takes X W
  blt : ∀ x ∈ bltNames, X.mg x = none
  gl : ∀ g x, c.glN[g]? = some x → ∃ u v, X.mg x = some u ∧ RelV v u ∧ Rep L (fun _ => none) (C.gv g) v
  fn : ∀ f x, c.fnN[f]? = some x → ∃ n fa fd ps, X.mg x = some (.ref fa) ∧ PySem.W.keepIn X.K (.ref fa) = true ∧ Binds X.K fd ps [] ∧ FnOk X.prog X.w X.K X.mg X.base (L2.CX X.prog X.w) k fa fd ps (spF L n (C.fn f)) ∧ ∀ vs, C.fn f vs ≠ .stuck → vs.length = n
  made : ∀ i x, c.clN[i]? = some x → ∃ n fa fd ps, X.mg x = some (.ref (L.cls i)) ∧ L2.Mk X.K (L.cls i) fa ∧ Binds X.K fd ps [] ∧ ((0 < k ∧ FnOk X.prog X.w X.K X.mg X.base (L2.CX X.prog X.w) (k - 1) fa fd ps (spI L n i (C.mkC i))) ∨ ∀ vs, C.mkC i vs = .stuck) ∧ (∀ vs, C.mkC i vs ≠ .stuck → vs.length + 1 = n) ∧ ∀ vs r, C.mkC i vs = .ret r → ∃ c fs, r = .ow (.obj c fs)
  fx : ∀ i n j, C.fx i n = some j → ∃ x, c.atN[n]? = some x ∧ (L.fld i)[j]? = some x ∧ (L.fld i).Nodup ∧ (L.fld i).length ≤ 900 ∧ Cls X.K (L.cls i) ∧ NoAttr X.K (L.cls i) x
  it : ∀ ci j, C.it ci = some j → 0 < k ∧ X.mg "iter" = none ∧ ∃ fi x, IterIs X.K (L.cls ci) fi x ∧ (L.fld ci)[j]? = some x ∧ (L.fld ci).Nodup ∧ Cls X.K (L.cls ci) ∧ NoAttr X.K (L.cls ci) x
section
variable {c : Chk} {C : Cal} {k : Nat} {X : Cx} {W : WX}
theorem Sup.units (S : Sup c C k L X W) : X.A.units + 65 < cLine := by
  have := S.room.un
  omega
theorem Sup.blk (S : Sup c C k L X W) (s : Shared) (H : Hp) (scope : Scope) (cenv : Env) (fp : List Addr) : Sup c C k L (X.blk s H scope cenv fp) (fun _ _ _ _ => False) :=
  ⟨S.hL, S.N, S.nd, S.calm, S.room, takes0, S.blt, S.gl, S.fn, S.made, S.fx, S.it⟩
theorem _root_.L2.PE.imp {e : Expr} {t t' : TE} (h : PE X e t) (i : ∀ σ H Q, t' σ H Q → t σ H Q) : PE X e t' := ⟨fun pins s σ H Q I q => h.run pins s σ H Q I (i σ H Q q)⟩
theorem _root_.L2.PT.imp {e : Expr} {t t' : TT} (h : PT X e t) (i : ∀ σ H Q, t' σ H Q → t σ H Q) : PT X e t' := ⟨fun pins s σ H Q I q => h.run pins s σ H Q I (i σ H Q q)⟩
theorem _root_.L2.PW.imp {e : Expr} {t t' : TT} (h : PW X e t) (i : ∀ σ H Q, t' σ H Q → t σ H Q) : PW X e t' := ⟨fun wh pins s σ H Q I q => h.run wh pins s σ H Q I (i σ H Q q)⟩
theorem _root_.L2.PA.imp {es : List Expr} {t t' : TA} (h : PA X es t) (i : ∀ σ H Q, t' σ H Q → t σ H Q) : PA X es t' := ⟨fun pos pins s σ H Q I q => h.run pos pins s σ H Q I (i σ H Q q)⟩
theorem _root_.L2.PO.imp {e : Option Expr} {t t' : TO} (h : PO X e t) (i : ∀ σ H Q, t' σ H Q → t σ H Q) : PO X e t' := ⟨fun pins s σ H Q I q => h.run pins s σ H Q I (i σ H Q q)⟩
end

/-! # The readings -/
def BrOk (r : Rv) (σ : L2.St) (v : V) : Prop := match r with
  | .br i => σ[i]? = some (some v)
  | _ => True
def noOw : Slot → Slot
  | .ow _ => .no
  | s => s
section
variable (L : Lk) (W : WX)
/-- what is wanted where an exception flies -/
def XPost (G : Hp) (σ : L2.St) (e : PX) (ρ : List Slot) : Prop := ∀ cls d G' H', Same G G' → Fit L G' H' (ρ.map noOw) σ → ExcRep L G' e cls d → W cls d σ H'
/-- what is wanted behind: ρ the slots, τ what is held beside them -/
def EPost (G : Hp) (τ : List Slot) (ts : List (Option V)) (σ : L2.St) (Q : VK) : R Rv → Prop
  | .ok r ρ => ∀ v G' H', Same G G' → Fit L G' H' (r.cell :: (τ ++ ρ)) (some v :: (ts ++ σ)) → BrOk r σ v → Q v H'
  | .ex e ρ => XPost L W G σ e ρ
  | .stuck => False
/-- the same of a value that is no cell: a bool, a bound, items -/
def BPost {α : Type} (G : Hp) (τ : List Slot) (ts : List (Option V)) (σ : L2.St) (Q : α → Hp → Hp → Prop) : R α → Prop
  | .ok a ρ => ∀ G' H', Same G G' → Fit L G' H' (τ ++ ρ) (ts ++ σ) → Q a G' H'
  | .ex e ρ => XPost L W G σ e ρ
  | .stuck => False
def stk : List Rv → List Slot → List Slot
  | [], τ => τ
  | r :: rs, τ => stk rs (r.cell :: τ)
def vstk : List V → List (Option V) → List (Option V)
  | [], ts => ts
  | v :: vs, ts => vstk vs (some v :: ts)
def APost (G : Hp) (τ : List Slot) (ts : List (Option V)) (σ : L2.St) (Q : List Rv → List V → Hp → Hp → Prop) : R (List Rv) → Prop
  | .ok rs ρ => ∀ vs G' H', Same G G' → Fit L G' H' (stk rs τ ++ ρ) (vstk vs ts ++ σ) → Paired (fun r v => BrOk r σ v) rs vs → Q rs vs G' H'
  | .ex e ρ => XPost L W G σ e ρ
  | .stuck => False
def tEx (C : Cal) (e : Ex) : TE := fun σ H Q => ∃ G ρ τ ts, τ.length = ts.length ∧ Fit L G H (τ ++ ρ) (ts ++ σ) ∧ EPost L W G τ ts σ Q (evE C e ρ)
def tEs (C : Cal) (es : Exs) : TA := fun σ H Q => ∃ G ρ τ ts, τ.length = ts.length ∧ Fit L G H (τ ++ ρ) (ts ++ σ) ∧ APost L W G τ ts σ (fun _ vs _ H' => Q vs H') (evEs C es ρ)
def tOe (C : Cal) (e : Oe) : TO := fun σ H Q => ∃ G ρ τ ts, τ.length = ts.length ∧ Fit L G H (τ ++ ρ) (ts ++ σ) ∧ BPost L W G τ ts σ (fun a _ H' => Q a H') (evO C e ρ)
def tTe (C : Cal) (t : Te) : TT := fun σ H Q => ∃ G ρ τ ts, τ.length = ts.length ∧ Fit L G H (τ ++ ρ) (ts ++ σ) ∧ BPost L W G τ ts σ (fun a _ H' => Q a H') (evT C t ρ)
def tOt (C : Cal) (t : Ot) : TT := fun σ H Q => ∃ G ρ τ ts, τ.length = ts.length ∧ Fit L G H (τ ++ ρ) (ts ++ σ) ∧ BPost L W G τ ts σ (fun a _ H' => Q a H') (evOt C t ρ)
end
section
variable {W : WX} {G G1 G2 H H1 H2 : Hp} {τ τ1 : List Slot} {ts ts1 : List (Option V)} {σ : L2.St} {Q Q1 : VK} {ρ ρ1 : List Slot}
theorem XPost.mono {e : PX} (h : XPost L W G σ e ρ) (s : Same G G1) : XPost L W G1 σ e ρ := fun cls d G' H' s' f x => h cls d G' H' (s.trans s') f x
theorem EPost.bind {x : R Rv} {f : Rv → List Slot → R Rv} (h : EPost L W G τ ts σ Q (x.bind f)) (s : Same G G1)
    (kk : ∀ r ρ', x = .ok r ρ' → EPost L W G τ ts σ Q (f r ρ') → ∀ v G' H', Same G1 G' → Fit L G' H' (r.cell :: (τ1 ++ ρ')) (some v :: (ts1 ++ σ)) → BrOk r σ v → Q1 v H') : EPost L W G1 τ1 ts1 σ Q1 x := by
  cases x with
  | ok r ρ' => exact kk r ρ' rfl h
  | ex e ρ' => exact XPost.mono h s
  | stuck => exact h
theorem EPost.bindB {α : Type} {x : R α} {f : α → List Slot → R Rv} {Q1 : α → Hp → Hp → Prop} (h : EPost L W G τ ts σ Q (x.bind f)) (s : Same G G1)
    (kk : ∀ r ρ', x = .ok r ρ' → EPost L W G τ ts σ Q (f r ρ') → ∀ G' H', Same G1 G' → Fit L G' H' (τ1 ++ ρ') (ts1 ++ σ) → Q1 r G' H') : BPost L W G1 τ1 ts1 σ Q1 x := by
  cases x with
  | ok r ρ' => exact kk r ρ' rfl h
  | ex e ρ' => exact XPost.mono h s
  | stuck => exact h
theorem EPost.bindA {x : R (List Rv)} {f : List Rv → List Slot → R Rv} {Q1 : List Rv → List V → Hp → Hp → Prop} (h : EPost L W G τ ts σ Q (x.bind f)) (s : Same G G1)
    (kk : ∀ r ρ', x = .ok r ρ' → EPost L W G τ ts σ Q (f r ρ') → ∀ vs G' H', Same G1 G' → Fit L G' H' (stk r τ1 ++ ρ') (vstk vs ts1 ++ σ) → Paired (fun r v => BrOk r σ v) r vs → Q1 r vs G' H') : APost L W G1 τ1 ts1 σ Q1 x := by
  cases x with
  | ok r ρ' => exact kk r ρ' rfl h
  | ex e ρ' => exact XPost.mono h s
  | stuck => exact h
theorem BPost.bind {α : Type} {Q : α → Hp → Hp → Prop} {x : R Rv} {f : Rv → List Slot → R α} (h : BPost L W G τ ts σ Q (x.bind f)) (s : Same G G1)
    (kk : ∀ r ρ', x = .ok r ρ' → BPost L W G τ ts σ Q (f r ρ') → ∀ v G' H', Same G1 G' → Fit L G' H' (r.cell :: (τ1 ++ ρ')) (some v :: (ts1 ++ σ)) → BrOk r σ v → Q1 v H') : EPost L W G1 τ1 ts1 σ Q1 x := by
  cases x with
  | ok r ρ' => exact kk r ρ' rfl h
  | ex e ρ' => exact XPost.mono h s
  | stuck => exact h
theorem BPost.bindB {α β : Type} {Q : α → Hp → Hp → Prop} {x : R β} {f : β → List Slot → R α} {Q1 : β → Hp → Hp → Prop} (h : BPost L W G τ ts σ Q (x.bind f)) (s : Same G G1)
    (kk : ∀ r ρ', x = .ok r ρ' → BPost L W G τ ts σ Q (f r ρ') → ∀ G' H', Same G1 G' → Fit L G' H' (τ1 ++ ρ') (ts1 ++ σ) → Q1 r G' H') : BPost L W G1 τ1 ts1 σ Q1 x := by
  cases x with
  | ok r ρ' => exact kk r ρ' rfl h
  | ex e ρ' => exact XPost.mono h s
  | stuck => exact h
theorem app_at {τ ρ : List Slot} (i : Nat) : (τ ++ ρ)[τ.length + i]? = ρ[i]? := by rw [List.getElem?_append_right (by omega)]; congr 1; omega
theorem app_atO {τ ρ : List (Option V)} (i : Nat) : (τ ++ ρ)[τ.length + i]? = ρ[i]? := by rw [List.getElem?_append_right (by omega)]; congr 1; omega
theorem getS_ow {i : Nat} {p : PV} (h : getS ρ i = .ow p) : ρ[i]? = some (.ow p) := by
  rw [getS_eq] at h
  cases e : ρ[i]? with
  | none => rw [e] at h; cases h
  | some c => rw [e] at h; exact congrArg some h
theorem getS_fz {i : Nat} {p : PV} (h : getS ρ i = .fz p) : ρ[i]? = some (.fz p) := by
  rw [getS_eq] at h
  cases e : ρ[i]? with
  | none => rw [e] at h; cases h
  | some c => rw [e] at h; exact congrArg some h
/-- a slot of the frame -/
theorem Fit.slot {i : Nat} {s : Slot} (hl : τ.length = ts.length) (f : Fit L G H (τ ++ ρ) (ts ++ σ)) (e : ρ[i]? = some s) : ∃ o, σ[i]? = some o ∧ Holds L G H s o := by
  obtain ⟨o, e1, h⟩ := f.at_ (τ.length + i) s (by rw [app_at]; exact e)
  rw [hl, app_atO] at e1
  exact ⟨o, e1, h⟩
theorem argOf {r : Rv} {v : V} {p : PV} (hl : τ.length = ts.length) (f : Fit L G H (τ ++ ρ) (ts ++ σ)) (hc : Holds L G H r.cell (some v)) (hb : BrOk r σ v) (e : r.val ρ = some p) : Arg L G H p v := by
  cases r with
  | fz q =>
    cases e
    obtain ⟨u, e1, h⟩ := hc
    cases e1
    exact .inl h
  | ow q =>
    cases e
    obtain ⟨a, e1, n, h⟩ := hc
    cases e1
    exact .inr ⟨a, rfl, n, h⟩
  | br i =>
    have hb : σ[i]? = some (some v) := hb
    have e : (getS ρ i).cont = some p := e
    cases q : getS ρ i with
    | no => rw [q] at e; cases e
    | fz p' =>
      rw [q] at e
      cases e
      obtain ⟨o, e1, u, e2, h⟩ := f.slot hl (getS_fz q)
      rw [hb] at e1
      cases e1
      cases e2
      exact .inl h
    | ow p' =>
      rw [q] at e
      cases e
      obtain ⟨o, e1, a, e2, n, h⟩ := f.slot hl (getS_ow q)
      rw [hb] at e1
      cases e1
      cases e2
      exact .inr ⟨a, rfl, n, h⟩
theorem Fit.hd {c : Slot} {o : Option V} (f : Fit L G H (c :: (τ ++ ρ)) (o :: (ts ++ σ))) : Holds L G H c o := f.head
theorem set_app {i : Nat} {s : Slot} : (τ ++ ρ).set (τ.length + i) s = τ ++ setS ρ i s := by
  rw [setS_eq, List.set_append_right _ _ (by omega)]
  congr 2
  omega
/-- handed on -/
theorem Fit.seal1 {r : Rv} {v : V} {p : PV} (hl : τ.length = ts.length) (f : Fit L G H (r.cell :: (τ ++ ρ)) (some v :: (ts ++ σ))) (hb : BrOk r σ v) (e : r.val ρ = some p) :
    ∃ G', Same G G' ∧ Fit L G' H (τ ++ r.seal ρ) (ts ++ σ) ∧ Rep L G' p v := by
  cases r with
  | fz q =>
    cases e
    obtain ⟨u, e1, h⟩ := f.head
    cases e1
    exact ⟨G, Same.refl _, f.tail, h⟩
  | ow q =>
    cases e
    obtain ⟨u, G', e1, s, f', h⟩ := f.freeze (i := 0) rfl
    cases e1
    exact ⟨G', s, f'.tail, h⟩
  | br i =>
    have hb : σ[i]? = some (some v) := hb
    have e : (getS ρ i).cont = some p := e
    cases q : getS ρ i with
    | no => rw [q] at e; cases e
    | fz p' =>
      rw [q] at e
      cases e
      obtain ⟨o, e1, u, e2, h⟩ := f.tail.slot hl (getS_fz q)
      rw [hb] at e1
      cases e1
      cases e2
      refine ⟨G, Same.refl _, ?_, h⟩
      have : Rv.seal ρ (.br i) = ρ := by simp only [Rv.seal, q]
      rw [this]
      exact f.tail
    | ow p' =>
      rw [q] at e
      cases e
      obtain ⟨u, G', e1, s, f', h⟩ := f.tail.freeze (i := τ.length + i) (by rw [app_at]; exact getS_ow q)
      rw [hl, app_atO, hb] at e1
      cases e1
      refine ⟨G', s, ?_, h⟩
      have : Rv.seal ρ (.br i) = setS ρ i (.fz p) := by simp only [Rv.seal, q]
      rw [this, ← set_app]
      exact f'
theorem Fit.sealAll : ∀ {rs : List Rv} {vs : List V} {ps : List PV} {τ : List Slot} {ts : List (Option V)} {ρ ρ' : List Slot}, τ.length = ts.length → Fit L G H (stk rs τ ++ ρ) (vstk vs ts ++ σ) → Paired (fun r v => BrOk r σ v) rs vs → sealAll rs ρ = some (ps, ρ') →
    ∃ G', Same G G' ∧ Fit L G' H (τ ++ ρ') (ts ++ σ) ∧ Reps L G' ps vs
  | [], vs, ps, τ, ts, ρ, ρ', hl, f, b, e => by
    cases b
    cases e
    exact ⟨G, Same.refl _, f, reps_nil.mpr rfl⟩
  | r :: rs, vs, ps, τ, ts, ρ, ρ', hl, f, b, e => by
    cases b with
    | cons b1 b2 =>
      rename_i v vs
      unfold Mp.sealAll at e
      rw [Option.bind_eq_some_iff] at e
      obtain ⟨⟨ps1, ρ1⟩, e1, e2⟩ := e
      rw [Option.map_eq_some_iff] at e2
      obtain ⟨p, e2, e3⟩ := e2
      cases e3
      obtain ⟨G1, s1, f1, h1⟩ := Fit.sealAll (τ := r.cell :: τ) (ts := some v :: ts) (by simp [hl]) f b2 e1
      obtain ⟨G2, s2, f2, h2⟩ := Fit.seal1 hl f1 b1 e2
      exact ⟨G2, s1.trans s2, f2, reps_cons.mpr ⟨v, vs, rfl, h2, h1.mono s2⟩⟩
theorem Fit.dropStk : ∀ {rs : List Rv} {vs : List V} {τ : List Slot} {ts : List (Option V)}, Fit L G H (stk rs τ ++ ρ) (vstk vs ts ++ σ) → Paired (fun r v => BrOk r σ v) rs vs → Fit L G H (τ ++ ρ) (ts ++ σ)
  | [], vs, τ, ts, f, b => by cases b; exact f
  | r :: rs, vs, τ, ts, f, b => by
    cases b with
    | cons b1 b2 =>
      rename_i v vs
      exact (Fit.dropStk (τ := r.cell :: τ) (ts := some v :: ts) f b2).tail
theorem Fit.args : ∀ {rs : List Rv} {vs : List V} {ps : List PV} {τ : List Slot} {ts : List (Option V)}, τ.length = ts.length → Fit L G H (stk rs τ ++ ρ) (vstk vs ts ++ σ) → Paired (fun r v => BrOk r σ v) rs vs → valAll ρ rs = some ps → Args L G H ps vs
  | [], vs, ps, τ, ts, hl, f, b, e => by cases b; cases e; exact .nil
  | r :: rs, vs, ps, τ, ts, hl, f, b, e => by
    cases b with
    | cons b1 b2 =>
      rename_i v vs
      unfold valAll at e
      rw [Option.bind_eq_some_iff] at e
      obtain ⟨p, e1, e2⟩ := e
      rw [Option.map_eq_some_iff] at e2
      obtain ⟨ps1, e2, rfl⟩ := e2
      have f1 := Fit.dropStk (τ := r.cell :: τ) (ts := some v :: ts) f b2
      exact .cons (argOf hl f1.tail f1.head b1 e1) (Fit.args (τ := r.cell :: τ) (ts := some v :: ts) (by simp [hl]) f b2 e2)
/-- what is wanted of a result -/
theorem EPost.give {r : Rv} (h : EPost L W G τ ts σ Q (.ok r ρ)) (s : Same G G2) (f : Fit L G2 H2 (τ ++ ρ) (ts ++ σ)) (nb : ∀ i, r ≠ .br i) : RvPost L G2 H2 r Q := by
  cases r with
  | fz p => exact fun v G' H' x q => h v G' H' (s.trans x.g) ((f.ext x).consF q) trivial
  | ow p => exact fun a G' H' x n n' w => h (.ref a) G' H' (s.trans x.g) (f.consO x n n' w) trivial
  | br i => exact absurd rfl (nb i)
theorem EPost.giveF {p : PV} {v : V} (h : EPost L W G τ ts σ Q (.ok (.fz p) ρ)) (s : Same G G2) (f : Fit L G2 H2 (τ ++ ρ) (ts ++ σ)) (r : Rep L G2 p v) : Q v H2 :=
  h v G2 H2 s (f.consF r) trivial
theorem EPost.lift {o : Option Rv} (h : EPost L W G τ ts σ Q (liftO ρ o)) : ∃ r, o = some r ∧ EPost L W G τ ts σ Q (.ok r ρ) := by
  cases o with
  | none => exact h.elim
  | some r => exact ⟨r, rfl, h⟩
theorem BPost.lift {α : Type} {Q : α → Hp → Hp → Prop} {o : Option α} (h : BPost L W G τ ts σ Q (liftO ρ o)) : ∃ r, o = some r ∧ BPost L W G τ ts σ Q (.ok r ρ) := by
  cases o with
  | none => exact h.elim
  | some r => exact ⟨r, rfl, h⟩
end
end Mp
set_option Elab.async false
set_option linter.all false
set_option maxRecDepth 100000
set_option maxHeartbeats 400000
namespace Mp
open PySem PySem.Spec PyProof.Rows L2
variable {L : Lk}
/-! # Expressions: case by case -/
theorem base_of {v : Expr} {x : Str} {env : Env} {wh : Sem Value} (h : baseB v = true) : attributeBase v x env wh = wh := by
  unfold attributeBase
  split
  · simp [baseB] at h
  · rfl
theorem star_of {e : Expr} {es : List Expr} {env : Env} (h : notStar e = true) : starEach (e :: es) env = (false, eval e env) :: starEach es env := by
  cases e <;> first | rfl | cases h
theorem ix_of {s : Expr} (h : notSlice s = true) : PlainIx s := by
  intro o i
  cases s <;> first | rfl | cases h
theorem mark_of {o : CmpOp} {b : Expr} (h : notSet b = true) : behindInMarks o b = false := by
  cases b <;> first | rfl | cases h
theorem lmark_of {o p : CmpOp} {a b : Expr} (h : notSet b = true) : lastMarks [o, p] [a, b] = false := by
  show behindInMarks p b = false
  exact mark_of h
theorem plain_of {e : Expr} {env : Env} (h : plainB e = true) (whole : Sem Bool → Sem Value) : True := trivial
theorem vis_of {sc : Scope} {x : Str} (h : visB sc x = true) : Vis sc x := by
  unfold visB at h
  split at h
  · exact .inl (by assumption)
  · exact .inr (.inl (by assumption))
  · exact .inr (.inr (by assumption))
  · cases h
section
variable {c : Chk} {C : Cal} {k : Nat} {X : Cx} {W : WX} {a b e : Ex} {l r m : Expr} {pos : Pos}
theorem gl_of {x : Str} (h : glB X.env.scope x = true) : Gl X x ∧ (x == ("__debug__" : Str)) = false := by
  unfold glB at h
  simp only [Bool.and_eq_true, Bool.not_eq_true', beq_iff_eq] at h
  exact ⟨h.1, h.2⟩
theorem c_var (S : Sup c C k L X W) {i : Nat} {x : Str} (hN : c.N[i]? = some x) (hv : visB X.env.scope x = true) (h1 : (x == ("__debug__" : Str)) = false) (h2 : (x == ("__classdict__" : Str)) = false) : PE X (.Name x pos) (tEx L W C (.var i)) := by
  refine (pe_var (i := i) (by rw [S.N]; exact hN) (vis_of hv) h1 h2).imp fun σ H Q ⟨G, ρ, τ, ts, hl, f, h⟩ => ?_
  simp only [evE] at h
  cases q : getS ρ i with
  | no => rw [q] at h; exact h.elim
  | fz p =>
    rw [q] at h
    obtain ⟨o, e1, v, e2, hv⟩ := f.slot hl (getS_fz q)
    subst e2
    exact ⟨v, e1, h.giveF (Same.refl _) f hv⟩
  | ow p =>
    rw [q] at h
    obtain ⟨o, e1, a, e2, n, hv⟩ := f.slot hl (getS_ow q)
    subst e2
    exact ⟨.ref a, e1, h (.ref a) G H (Same.refl _) f.consN e1⟩
theorem okStr_of {s : List Nat} (h : okStr s = true) : OkS s := by
  unfold okStr at h
  simp only [Bool.and_eq_true, decide_eq_true_eq, List.all_eq_true] at h
  exact ⟨h.1, h.2⟩
theorem c_cst {p : PV} {kc : Const} {j : Nat} (h : okC p kc = true) : PE X (.Constant kc j pos) (tEx L W C (.cst p)) := by
  have go : ∀ v, (∀ G, Rep L G p v) → PE X (.Constant kc j pos) (tC v) → PE X (.Constant kc j pos) (tEx L W C (.cst p)) := fun v hr hp =>
    hp.imp fun σ H Q ⟨G, ρ, τ, ts, hl, f, h⟩ => EPost.giveF (p := p) h (Same.refl _) f (hr _)
  cases p with
  | non => cases kc <;> first | exact go .non (fun _ => rep_non.mpr rfl) pe_non | cases h
  | bl b =>
    cases kc with
    | bool d =>
      have : b = d := by simpa [okC] using h
      subst this
      exact go (.bl b) (fun _ => rep_bl.mpr rfl) pe_bl
    | _ => cases h
  | int i =>
    cases kc with
    | int d =>
      have : i = d := by simpa [okC] using h
      subst this
      exact go (.int i) (fun _ => rep_int.mpr rfl) pe_int
    | _ => cases h
  | str s =>
    cases kc with
    | str z =>
      simp only [okC, Bool.and_eq_true, beq_iff_eq] at h
      obtain ⟨rfl, h2⟩ := h
      exact go (.str z) (fun _ => rep_str.mpr ⟨by simp, okStr_of h2⟩) pe_str
    | _ => cases h
  | _ => cases kc <;> cases h
theorem c_glob (S : Sup c C k L X W) {g : Nat} {x : Str} (hg : c.glN[g]? = some x) (h : glB X.env.scope x = true) : PE X (.Name x pos) (tEx L W C (.glob g)) := by
  obtain ⟨h1, h2⟩ := gl_of h
  obtain ⟨u, v, hm, r, hr⟩ := S.gl g x hg
  exact (pe_glob h1 hm r h2).imp fun σ H Q ⟨G, ρ, τ, ts, hl, f, h⟩ => EPost.giveF (p := C.gv g) h (Same.refl _) f (hr.mono (fun _ _ z => by cases z))
/-- two operands, in order -/
theorem two (σ : L2.St) (H : Hp) (Q : VK) (R2 : V → V → Hp → Prop) {f : Rv → List Slot → Rv → List Slot → R Rv}
    (h : ∃ G ρ τ ts, τ.length = ts.length ∧ Fit L G H (τ ++ ρ) (ts ++ σ) ∧ EPost L W G τ ts σ Q ((evE C a ρ).bind fun ra ρ1 => (evE C b ρ1).bind fun rb ρ2 => f ra ρ1 rb ρ2))
    (hr : ∀ G τ ts ra ρ1 rb ρ2 v1 v2 G2 H2, τ.length = ts.length → EPost L W G τ ts σ Q (f ra ρ1 rb ρ2) → Same G G2 → Fit L G2 H2 (τ ++ ρ2) (ts ++ σ) → Fit L G2 H2 (rb.cell :: ra.cell :: (τ ++ ρ2)) (some v2 :: some v1 :: (ts ++ σ)) → BrOk ra σ v1 → BrOk rb σ v2 →
      Holds L G2 H2 ra.cell (some v1) → Holds L G2 H2 rb.cell (some v2) → R2 v1 v2 H2) :
    tEx L W C a σ H fun x H1 => tEx L W C b σ H1 fun y H2 => R2 x y H2 := by
  obtain ⟨G, ρ, τ, ts, hl, f, h⟩ := h
  refine ⟨G, ρ, τ, ts, hl, f, h.bind (Same.refl _) fun ra ρ1 ea h1 v1 G1 H1 s1 f1 b1 => ⟨G1, ρ1, ra.cell :: τ, some v1 :: ts, by simp [hl], f1, h1.bind s1 fun rb ρ2 eb h2 v2 G2 H2 s2 f2 b2 => ?_⟩⟩
  exact hr G τ ts ra ρ1 rb ρ2 v1 v2 G2 H2 hl h2 (s1.trans s2) f2.tail.tail f2 b1 b2 f2.tail.head f2.head
theorem bindO {α β : Type} {o : Option α} {g : α → Option β} {r : β} (h : o.bind g = some r) : ∃ a, o = some a ∧ g a = some r := Option.bind_eq_some_iff.mp h
theorem mapO {α β : Type} {o : Option α} {g : α → β} {r : β} (h : o.map g = some r) : ∃ a, o = some a ∧ g a = r := Option.map_eq_some_iff.mp h
theorem c_bin (S : Sup c C k L X W) (o : Operator) (ha : PE X l (tEx L W C a)) (hb : PE X r (tEx L W C b)) : PE X (.BinOp l o r pos) (tEx L W C (.bin o a b)) := by
  refine (pe_op (bin_ok S.hL o) ha hb).imp fun σ H Q h => two σ H Q _ h fun G τ ts ra ρ1 rb ρ2 v1 v2 G2 H2 hl h2 s2 f2 _ b1 b2 w1 w2 => ?_
  obtain ⟨x, e, h3⟩ := h2.lift
  obtain ⟨p, e1, e⟩ := bindO e
  obtain ⟨q, e2, e⟩ := bindO e
  refine ⟨G2, p, q, x, f2.good, argOf hl f2 w1 b1 e1, argOf hl f2 w2 b2 e2, e, h3.give s2 f2 fun i z => ?_⟩
  subst z
  unfold binF at e
  repeat' split at e
  all_goals cases e
theorem c_cmp (S : Sup c C k L X W) (o : CmpOp) (hs : notSet r = true) (ha : PE X l (tEx L W C a)) (hb : PE X r (tEx L W C b)) : PE X (.Compare l [o] [r] pos) (tEx L W C (.cmp o a b)) := by
  refine (pe_cmpR (cmp_ok S.hL S.units o) ha hb (mark_of hs)).imp fun σ H Q h => two σ H Q _ h fun G τ ts ra ρ1 rb ρ2 v1 v2 G2 H2 hl h2 s2 f2 _ b1 b2 w1 w2 => ?_
  obtain ⟨x, e, h3⟩ := h2.lift
  obtain ⟨p, e1, e⟩ := bindO e
  obtain ⟨q, e2, e⟩ := bindO e
  obtain ⟨t, e3, rfl⟩ := mapO e
  exact ⟨G2, p, q, t, f2.good, argOf hl f2 w1 b1 e1, argOf hl f2 w2 b2 e2, e3, h3.giveF s2 f2 (rep_bl.mpr rfl)⟩
theorem c_neg (ha : PE X l (tEx L W C a)) : PE X (.UnaryOp .USub l pos) (tEx L W C (.neg a)) := by
  refine (pe_un un_neg ha).imp fun σ H Q ⟨G, ρ, τ, ts, hl, f, h⟩ => ⟨G, ρ, τ, ts, hl, f, h.bind (Same.refl _) fun ra ρ1 ea h1 v1 G1 H1 s1 f1 b1 => ?_⟩
  obtain ⟨x, e, h3⟩ := h1.lift
  obtain ⟨p, e1, e⟩ := bindO e
  cases p with
  | int i =>
    cases e
    obtain rfl := (argOf hl f1.tail f1.head b1 e1).int
    exact ⟨i, rfl, h3.giveF s1 f1.tail (rep_int.mpr rfl)⟩
  | _ => cases e
theorem bl_of {G H : Hp} {τ ρ : List Slot} {ts : List (Option V)} {σ : L2.St} {t : Bool} {v : V} (f : Fit L G H ((Rv.fz (.bl t)).cell :: (τ ++ ρ)) (some v :: (ts ++ σ))) : v = .bl t := by
  obtain ⟨u, e, h⟩ := f.head
  cases e
  exact rep_bl.mp h
theorem int_of {G H : Hp} {τ ρ : List Slot} {ts : List (Option V)} {σ : L2.St} {t : Int} {v : V} (f : Fit L G H ((Rv.fz (.int t)).cell :: (τ ++ ρ)) (some v :: (ts ++ σ))) : v = .int t := by
  obtain ⟨u, e, h⟩ := f.head
  cases e
  exact rep_int.mp h
theorem c_band {rest : List Expr} (ha : PE X l (tEx L W C a)) (hb : PE X (.BoolOp .And (r :: rest) pos) (tEx L W C b)) : PE X (.BoolOp .And (l :: r :: rest) pos) (tEx L W C (.band a b)) := by
  refine (pe_and ha hb).imp fun σ H Q ⟨G, ρ, τ, ts, hl, f, h⟩ => ⟨G, ρ, τ, ts, hl, f, h.bind (Same.refl _) fun ra ρ1 ea h1 v1 G1 H1 s1 f1 b1 => ?_⟩
  cases ra with
  | fz p =>
    cases p with
    | bl t =>
      obtain rfl := bl_of f1
      cases t with
      | true => exact ⟨true, rfl, by rw [if_pos rfl]; exact ⟨G1, ρ1, τ, ts, hl, f1.tail, by
          cases q : evE C b ρ1 with
          | ok r ρ2 => simp only [q] at h1; exact fun v G' H' s f b => h1 v G' H' (s1.trans s) f b
          | ex e ρ2 => simp only [q] at h1; exact XPost.mono h1 s1
          | stuck => simp only [q] at h1; exact h1⟩⟩
      | false => exact ⟨false, rfl, by rw [if_neg Bool.false_ne_true]; exact EPost.giveF (p := .bl false) h1 s1 f1.tail (rep_bl.mpr rfl)⟩
    | _ => exact h1.elim
  | _ => exact h1.elim
theorem c_bor {rest : List Expr} (ha : PE X l (tEx L W C a)) (hb : PE X (.BoolOp .Or (r :: rest) pos) (tEx L W C b)) : PE X (.BoolOp .Or (l :: r :: rest) pos) (tEx L W C (.bor a b)) := by
  refine (pe_or ha hb).imp fun σ H Q ⟨G, ρ, τ, ts, hl, f, h⟩ => ⟨G, ρ, τ, ts, hl, f, h.bind (Same.refl _) fun ra ρ1 ea h1 v1 G1 H1 s1 f1 b1 => ?_⟩
  cases ra with
  | fz p =>
    cases p with
    | bl t =>
      obtain rfl := bl_of f1
      cases t with
      | false => exact ⟨false, rfl, by rw [if_neg Bool.false_ne_true]; exact ⟨G1, ρ1, τ, ts, hl, f1.tail, by
          cases q : evE C b ρ1 with
          | ok r ρ2 => simp only [q] at h1; exact fun v G' H' s f b => h1 v G' H' (s1.trans s) f b
          | ex e ρ2 => simp only [q] at h1; exact XPost.mono h1 s1
          | stuck => simp only [q] at h1; exact h1⟩⟩
      | true => exact ⟨true, rfl, by rw [if_pos rfl]; exact EPost.giveF (p := .bl true) h1 s1 f1.tail (rep_bl.mpr rfl)⟩
    | _ => exact h1.elim
  | _ => exact h1.elim
theorem c_bnot (ha : PE X l (tEx L W C a)) : PE X (.UnaryOp .Not l pos) (tEx L W C (.bnot a)) := by
  refine (pe_not ha).imp fun σ H Q ⟨G, ρ, τ, ts, hl, f, h⟩ => ⟨G, ρ, τ, ts, hl, f, h.bind (Same.refl _) fun ra ρ1 ea h1 v1 G1 H1 s1 f1 b1 => ?_⟩
  cases ra with
  | fz p =>
    cases p with
    | bl t =>
      obtain rfl := bl_of f1
      exact ⟨t, rfl, EPost.giveF (p := .bl (!t)) h1 s1 f1.tail (rep_bl.mpr rfl)⟩
    | _ => exact h1.elim
  | _ => exact h1.elim
theorem EPost.up {G G1 : Hp} {τ : List Slot} {ts : List (Option V)} {σ : L2.St} {Q : VK} {x : R Rv} (h : EPost L W G τ ts σ Q x) (s : Same G G1) : EPost L W G1 τ ts σ Q x := by
  cases x with
  | ok r ρ => exact fun v G' H' s' f b => h v G' H' (s.trans s') f b
  | ex e ρ => exact XPost.mono h s
  | stuck => exact h
theorem BPost.up {α : Type} {G G1 : Hp} {τ : List Slot} {ts : List (Option V)} {σ : L2.St} {Q : α → Hp → Hp → Prop} {x : R α} (h : BPost L W G τ ts σ Q x) (s : Same G G1) : BPost L W G1 τ ts σ Q x := by
  cases x with
  | ok r ρ => exact fun G' H' s' f => h G' H' (s.trans s') f
  | ex e ρ => exact XPost.mono h s
  | stuck => exact h
theorem c_ite {t : Te} {ct : Expr} (ht : PT X ct (tTe L W C t)) (ha : PE X l (tEx L W C a)) (hb : PE X r (tEx L W C b)) : PE X (.IfExp ct l r pos) (tEx L W C (.ite t a b)) := by
  refine (pe_ifExp ht ha hb).imp fun σ H Q ⟨G, ρ, τ, ts, hl, f, h⟩ => ⟨G, ρ, τ, ts, hl, f, h.bindB (Same.refl _) fun d ρ1 ea h1 G1 H1 s1 f1 => ?_⟩
  cases d with
  | true => exact ⟨G1, ρ1, τ, ts, hl, f1, EPost.up h1 s1⟩
  | false => exact ⟨G1, ρ1, τ, ts, hl, f1, EPost.up h1 s1⟩
/-- arguments, handed on -/
theorem sealed (σ : L2.St) (H : Hp) (Q : VK) (Q1 : List V → Hp → Prop) {es : Exs} {g : List PV → List Slot → R Rv}
    (h : ∃ G ρ τ ts, τ.length = ts.length ∧ Fit L G H (τ ++ ρ) (ts ++ σ) ∧ EPost L W G τ ts σ Q ((evEs C es ρ).bind fun rs ρ1 => match sealAll rs ρ1 with
      | some (ps, ρ2) => g ps ρ2
      | none => .stuck))
    (hr : ∀ G τ ts ps ρ2 vs G2 H2, τ.length = ts.length → EPost L W G τ ts σ Q (g ps ρ2) → Same G G2 → Fit L G2 H2 (τ ++ ρ2) (ts ++ σ) → Reps L G2 ps vs → Q1 vs H2) :
    tEs L W C es σ H Q1 := by
  obtain ⟨G, ρ, τ, ts, hl, f, h⟩ := h
  refine ⟨G, ρ, τ, ts, hl, f, h.bindA (Same.refl _) fun rs ρ1 ea h1 vs G1 H1 s1 f1 b1 => ?_⟩
  cases q : sealAll rs ρ1 with
  | none => rw [q] at h1; exact h1.elim
  | some x =>
    obtain ⟨ps, ρ2⟩ := x
    rw [q] at h1
    obtain ⟨G2, s2, f2, r2⟩ := Fit.sealAll hl f1 b1 q
    exact hr G τ ts ps ρ2 vs G2 H1 hl h1 (s1.trans s2) f2 r2
theorem c_tup {es : Exs} {xs : List Expr} {j : Nat} (hs : PA X xs (tEs L W C es)) : PE X (.Tuple xs j pos) (tEx L W C (.tup es)) := by
  refine (pe_tup hs).imp fun σ H Q h => sealed σ H Q (fun xs H1 => xs.length ≤ sizeLine ∧ ∀ p, H1 p = none → Q (.ref p) (upd H1 p (.tup xs))) h fun G τ ts ps ρ2 vs G2 H2 hl h2 s2 f2 r2 => ?_
  split at h2
  · rename_i hz
    rw [decide_eq_true_eq] at hz
    exact ⟨by rw [← r2.length, sizeLine_eq]; exact hz, fun p hp => (h2.give s2 f2 (fun i z => by cases z)).newT f2.good hp r2⟩
  · exact h2.elim
theorem c_lst {es : Exs} {xs : List Expr} (hs : PA X xs (tEs L W C es)) : PE X (.List xs pos) (tEx L W C (.lst es)) := by
  refine (pe_lst hs).imp fun σ H Q h => sealed σ H Q (fun xs H1 => xs.length ≤ sizeLine ∧ ∀ p, H1 p = none → Q (.ref p) (upd H1 p (.lst xs))) h fun G τ ts ps ρ2 vs G2 H2 hl h2 s2 f2 r2 => ?_
  split at h2
  · rename_i hz
    rw [decide_eq_true_eq] at hz
    exact ⟨by rw [← r2.length, sizeLine_eq]; exact hz, fun p hp => (h2.give s2 f2 (fun i z => by cases z)).newL f2.good hp r2⟩
  · exact h2.elim
theorem c_ix (S : Sup c C k L X W) (hs : notSlice r = true) (ha : PE X l (tEx L W C a)) (hb : PE X r (tEx L W C b)) : PE X (.Subscript l r pos) (tEx L W C (.ix a b)) := by
  refine (pe_ix (ix_ok S.hL) ha hb (ix_of hs)).imp fun σ H Q h => two σ H Q _ h fun G τ ts ra ρ1 rb ρ2 v1 v2 G2 H2 hl h2 s2 f2 _ b1 b2 w1 w2 => ?_
  obtain ⟨x, e, h3⟩ := h2.lift
  obtain ⟨p, e1, e⟩ := bindO e
  obtain ⟨q, e2, e⟩ := bindO e
  obtain ⟨t, e3, rfl⟩ := mapO e
  exact ⟨G2, p, q, t, f2.good, argOf hl f2 w1 b1 e1, argOf hl f2 w2 b2 e2, e3, fun v hv => h3.giveF s2 f2 hv⟩
theorem c_sl (S : Sup c C k L X W) {lo hi : Oe} {xl xh : Option Expr} {p2 : Pos} (ha : PE X l (tEx L W C a)) (hlo : PO X xl (tOe L W C lo)) (hhi : PO X xh (tOe L W C hi)) : PE X (.Subscript l (.Slice xl xh none p2) pos) (tEx L W C (.sl a lo hi)) := by
  refine (pe_slice (sl_ok S.hL) ha hlo hhi).imp fun σ H Q ⟨G, ρ, τ, ts, hl, f, h⟩ => ⟨G, ρ, τ, ts, hl, f, h.bind (Same.refl _) fun ra ρ1 ea h1 v1 G1 H1 s1 f1 b1 =>
    ⟨G1, ρ1, ra.cell :: τ, some v1 :: ts, by simp [hl], f1, h1.bindB s1 fun x ρ2 _ h2 G2 H2 s2 f2 => ⟨G2, ρ2, ra.cell :: τ, some v1 :: ts, by simp [hl], f2, h2.bindB (s1.trans s2) fun y ρ3 _ h3 G3 H3 s3 f3 => ?_⟩⟩⟩
  obtain ⟨z, e, h4⟩ := h3.lift
  obtain ⟨p, e1, e⟩ := bindO e
  refine ⟨G3, p, z, f3.good, argOf hl f3.tail f3.head b1 e1, e, h4.give ((s1.trans s2).trans s3) f3.tail fun i y => ?_⟩
  subst y
  unfold slF at e
  split at e <;> cases e
theorem zip_lookup : ∀ {ns : List Str} {ys : List V} {j : Nat} {x : Str} {v : V}, ns.Nodup → ns[j]? = some x → ys[j]? = some v → (ns.zip ys).lookup x = some v
  | n :: ns, y :: ys, 0, x, v, _, e1, e2 => by
    simp at e1 e2
    subst e1 e2
    simp [List.lookup]
  | n :: ns, y :: ys, j + 1, x, v, hn, e1, e2 => by
    have h1 : ns[j]? = some x := by simpa using e1
    have h2 : x ∈ ns := List.mem_of_getElem? h1
    have h3 : (x == n) = false := by
      rw [beq_eq_false_iff_ne]
      rintro rfl
      exact (List.nodup_cons.mp hn).1 h2
    rw [List.zip_cons_cons, List.lookup_cons, h3]
    exact zip_lookup (List.nodup_cons.mp hn).2 h1 (by simpa using e2)
  | [], _, j, x, v, _, e1, _ => by simp at e1
  | _ :: _, [], j, x, v, _, _, e2 => by simp at e2
theorem c_fld (S : Sup c C k L X W) {n : Nat} {x : Str} (hn : c.atN[n]? = some x) (hb : baseB l = true) (ha : PE X l (tEx L W C a)) : PE X (.Attribute l x pos) (tEx L W C (.fld a n)) := by
  refine (pe_fld ha (base_of hb)).imp fun σ H Q ⟨G, ρ, τ, ts, hl, f, h⟩ => ⟨G, ρ, τ, ts, hl, f, h.bind (Same.refl _) fun ra ρ1 ea h1 v1 G1 H1 s1 f1 b1 => ?_⟩
  obtain ⟨z, e, h3⟩ := h1.lift
  obtain ⟨p, e1, e⟩ := bindO e
  cases p with
  | obj ci fs =>
    obtain ⟨j, e2, e⟩ := bindO e
    obtain ⟨q, e3, rfl⟩ := mapO e
    obtain ⟨y, k1, k2, k3, _, k4, k5⟩ := S.fx ci n j e2
    rw [hn] at k1
    cases k1
    obtain ⟨ad, dx, ys, rfl, m1, m2, m3⟩ := (argOf hl f1.tail f1.head b1 e1).obj f1.tail.good
    obtain ⟨v, m4, m5⟩ := m3.get e3
    exact ⟨ad, _, dx, _, v, rfl, m1, k4, k5, zip_lookup k3 k2 m4, h3.giveF s1 f1.tail m5⟩
  | _ => cases e
theorem star_any {env : Env} {p : Pos} : ∀ {xs : List Expr}, xs.all notStar = true → (backTo p (starEach xs env)).any (·.1) = false
  | [], _ => rfl
  | x :: xs, h => by
    simp only [List.all_cons, Bool.and_eq_true] at h
    rw [star_of h.1]
    have := star_any (env := env) (p := p) h.2
    unfold backTo at this ⊢
    rw [List.map_cons, List.any_cons, this]
    rfl
theorem star_all {env : Env} {p : Pos} : ∀ {xs : List Expr}, xs.all notStar = true → (backTo p (starEach xs env)).all (fun x => !x.1) = true
  | [], _ => rfl
  | x :: xs, h => by
    simp only [List.all_cons, Bool.and_eq_true] at h
    rw [star_of h.1]
    have := star_all (env := env) (p := p) h.2
    unfold backTo at this ⊢
    rw [List.map_cons, List.all_cons, this]
    rfl
theorem okEs_star {sc : Scope} : ∀ {es : Exs} {xs : List Expr}, okEs c sc es xs = true → xs.all notStar = true
  | .nil, [], _ => rfl
  | .cons e es, x :: xs, h => by
    simp only [okEs, Bool.and_eq_true] at h
    simp only [List.all_cons, Bool.and_eq_true]
    exact ⟨h.1.1, okEs_star h.2⟩
  | .nil, _ :: _, h => by simp [okEs] at h
  | .cons _ _, [], h => by simp [okEs] at h
theorem Fit.exc {G G1 H H1 : Hp} {τ ρ : List Slot} {ts : List (Option V)} {σ : L2.St} (hl : τ.length = ts.length) (f : Fit L G H (τ ++ ρ) (ts ++ σ)) (s : Same G G1) (g : Gd G1 H1) : Fit L G1 H1 (ρ.map noOw) σ := by
  refine ⟨g, ?_, fun i c' e => ?_, fun i j p q b e1 _ _ _ => ?_⟩
  · have := f.len
    simp only [List.length_append] at this
    rw [List.length_map]
    omega
  · rw [List.getElem?_map, Option.map_eq_some_iff] at e
    obtain ⟨c0, e, rfl⟩ := e
    obtain ⟨o, e1, h⟩ := f.slot hl e
    refine ⟨o, e1, ?_⟩
    cases c0 with
    | no => trivial
    | fz p => obtain ⟨v, ev, r⟩ := h; exact ⟨v, ev, r.mono s⟩
    | ow p => trivial
  · rw [List.getElem?_map, Option.map_eq_some_iff] at e1
    obtain ⟨c0, _, e⟩ := e1
    cases c0 <;> cases e
theorem XPost.go {G G1 H H1 : Hp} {τ ρ : List Slot} {ts : List (Option V)} {σ : L2.St} {e : PX} {cls : Value} {d : Option Addr} (h : XPost L W G σ e ρ) (hl : τ.length = ts.length) (s : Same G G1) (f : Fit L G1 H (τ ++ ρ) (ts ++ σ)) (x : ExcOk L G1 e cls d H1) : W cls d σ H1 := by
  obtain ⟨G3, s3, g3, x⟩ := x
  exact h cls d G3 H1 (s.trans s3) (f.exc hl s3 g3) x
theorem RetOk.nb {G0 H' : Hp} {r : Rv} {v : V} (x : RetOk L G0 r v H') : ∀ i, r ≠ .br i := by
  rintro i rfl
  obtain ⟨_, _, _, z⟩ := x
  exact z
theorem nilArgs {σ : L2.St} {H : Hp} {Q : List V → Hp → Prop} (h : tEs L W C .nil σ H Q) : Q [] H := by
  obtain ⟨G, ρ, τ, ts, hl, f, h⟩ := h
  exact h [] G H (Same.refl _) f .nil
theorem c_call (S : Sup c C k L X W) {f : Nat} {x : Str} {es : Exs} {xs : List Expr} {p : Pos} (hf : c.fnN[f]? = some x) (hg : glB X.env.scope x = true) (hst : xs.all notStar = true) (hn : xs = [] → es = .nil) (hs : PA X xs (tEs L W C es)) : PE X (.Call (.Name x p) xs [] pos) (tEx L W C (.call f es)) := by
  obtain ⟨n, fa, fd, ps, hm, hk, hb, F, hlen⟩ := S.fn f x hf
  obtain ⟨g1, g2⟩ := gl_of hg
  have key : ∀ σ H Q, tEx L W C (.call f es) σ H Q → tCallH L W n (C.fn f) (tEs L W C es) σ H Q := fun σ H Q h => by
    refine sealed σ H Q _ h fun G τ ts ps ρ2 vs G2 H2 hl h2 s2 f2 r2 => ⟨G2, f2.good, ?_⟩
    have e0 : C.fn f ps ≠ .stuck → vs.length = n := fun z => by rw [← hlen ps z]; exact r2.length.symm
    cases q : C.fn f ps with
    | stuck => rw [q] at h2; exact h2.elim
    | ex e =>
      rw [q] at h2
      refine ⟨e0 (by rw [q]; exact Out.noConfusion), f2.good.nice, ps, r2, ?_⟩
      rw [q]
      exact fun cls d H' x' => XPost.go h2 hl s2 f2 x'
    | ret r =>
      rw [q] at h2
      refine ⟨e0 (by rw [q]; exact Out.noConfusion), f2.good.nice, ps, r2, ?_⟩
      rw [q]
      intro v H' x'
      refine ⟨?_, fun hid => (h2.give s2 f2 x'.nb).call f2.good x' hid⟩
      obtain ⟨G1, s1, g1, _⟩ := x'
      exact fun b o e => ⟨o, g1.sub b o (s1 b o e)⟩
  cases xs with
  | nil =>
    refine (pe_callH0 F S.room g1 hm hk hb S.tk g2).imp fun σ H Q h => ?_
    have h2 := key σ H Q h
    obtain rfl := hn rfl
    exact nilArgs h2
  | cons e xs =>
    simp only [List.all_cons, Bool.and_eq_true] at hst
    exact (pe_callH F S.room g1 hm hk hb S.tk hs g2 (star_of hst.1) (star_any hst.2)).imp key
theorem c_new (S : Sup c C k L X W) {i : Nat} {x : Str} {es : Exs} {xs : List Expr} {p : Pos} (hf : c.clN[i]? = some x) (hg : glB X.env.scope x = true) (hst : xs.all notStar = true) (hne : xs.isEmpty = false) (hs : PA X xs (tEs L W C es)) : PE X (.Call (.Name x p) xs [] pos) (tEx L W C (.new i es)) := by
  obtain ⟨n, fa, fd, ps, hm, M, hb, hF, hlen, how⟩ := S.made i x hf
  obtain ⟨g1, g2⟩ := gl_of hg
  cases xs with
  | nil => cases hne
  | cons e xs =>
    simp only [List.all_cons, Bool.and_eq_true] at hst
    refine ⟨fun pins s σ H Q I h => ?_⟩
    refine wpAny_Call_Name_kw (ld_glob I g1 hm ?_ g2)
    have h2 := sealed σ H Q (fun vs H1 => ∃ G2 pvs, Gd G2 H1 ∧ vs.length + 1 = n ∧ Reps L G2 pvs vs ∧ match C.mkC i pvs with
      | .ret (.ow (.obj c' fs)) => RvPost L G2 H1 (.ow (.obj c' fs)) Q
      | .ex e => ∀ cls d H', ExcOk L G2 e cls d H' → W cls d σ H'
      | _ => False) h fun G τ ts ps ρ2 vs G2 H2 hl h2 s2 f2 r2 => ?_
    · refine PySem.W.callWith_K (h₀ := X.base) I.ok.mod.kin M.kp (thn (hs.run pos pins s σ H _ I h2) fun us s1 ⟨vs, H1, I1, r, G2, pvs, gd, hn, hp, q⟩ => ⟨I1.kIn, ?_⟩) (star_of hst.1) (star_any hst.2)
      rcases hF with ⟨hk, F⟩ | hst
      · have hr : Room (k - 1 + 1) X.A := by rw [Nat.sub_add_cancel hk]; exact S.room
        exact run_makeH rfl M F hr hb S.tk I1 gd r hn hp q
      · rw [hst] at q
        exact q.elim
    · have e0 : C.mkC i ps ≠ .stuck → vs.length + 1 = n := fun z => by rw [← hlen ps z, r2.length]
      refine ⟨G2, ps, f2.good, ?_, r2, ?_⟩
      · exact e0 fun z => by rw [z] at h2; exact h2.elim
      · cases q : C.mkC i ps with
        | stuck => rw [q] at h2; exact h2.elim
        | ex e =>
          rw [q] at h2
          exact fun cls d H' x' => XPost.go h2 hl s2 f2 x'
        | ret r =>
          rw [q] at h2
          obtain ⟨_, _, rfl⟩ := how ps _ q
          exact h2.give s2 f2 (fun i z => by cases z)
theorem args_of (σ : L2.St) (H : Hp) (Q : VK) (Q1 : List V → Hp → Prop) {es : Exs} {g : List PV → Option Rv}
    (h : ∃ G ρ τ ts, τ.length = ts.length ∧ Fit L G H (τ ++ ρ) (ts ++ σ) ∧ EPost L W G τ ts σ Q ((evEs C es ρ).bind fun rs ρ1 => liftO ρ1 ((valAll ρ1 rs).bind g)))
    (hr : ∀ ps r vs G2 H2, Gd G2 H2 → Args L G2 H2 ps vs → g ps = some r → ((∀ i, r ≠ .br i) → RvPost L G2 H2 r Q) → Q1 vs H2) :
    tEs L W C es σ H Q1 := by
  obtain ⟨G, ρ, τ, ts, hl, f, h⟩ := h
  refine ⟨G, ρ, τ, ts, hl, f, h.bindA (Same.refl _) fun rs ρ1 ea h1 vs G1 H1 s1 f1 b1 => ?_⟩
  obtain ⟨r, e, h2⟩ := h1.lift
  obtain ⟨ps, e1, e⟩ := bindO e
  exact hr ps r vs G1 H1 f1.good (f1.args hl b1 e1) e fun nb => h2.give s1 (f1.dropStk b1) nb
theorem blt_nb {b : Blt} {ps : List PV} {r : Rv} (e : bltF b ps = some r) : ∀ i, r ≠ .br i := by
  rintro i rfl
  unfold bltF at e
  split at e
  all_goals first
    | cases e; done
    | (rw [Option.map_eq_some_iff] at e; obtain ⟨_, _, e⟩ := e; cases e; done)
    | (unfold sortF at e; split at e; (split at e; (cases e); (rw [Option.map_eq_some_iff] at e; obtain ⟨_, _, e⟩ := e; cases e)); cases e)
theorem bm_nb {m : Bmt} {p : PV} {ps : List PV} {r : Rv} (e : bmF m p ps = some r) : ∀ i, r ≠ .br i := by
  rintro i rfl
  unfold bmF at e
  split at e
  · obtain ⟨_, _, e⟩ := bindO e
    split at e <;> cases e
  · obtain ⟨_, _, e⟩ := mapO e
    cases e
  · split at e <;> cases e
  · cases e
theorem Fit.drop2 {G H : Hp} {c1 c2 : Slot} {cs : List Slot} {o1 o2 : Option V} {os : List (Option V)} (f : Fit L G H (c1 :: c2 :: cs) (o1 :: o2 :: os)) : Fit L G H (c1 :: cs) (o1 :: os) := by
  let g : Nat → Nat := fun i => match i with | 0 => 0 | i + 1 => i + 2
  have h1 : ∀ i, (c1 :: cs)[i]? = (c1 :: c2 :: cs)[g i]? := fun i => by cases i <;> rfl
  have h2 : ∀ i, (o1 :: os)[i]? = (o1 :: o2 :: os)[g i]? := fun i => by cases i <;> rfl
  have hg : ∀ i j, g i = g j → i = j := fun i j e => by
    cases i <;> cases j <;> simp only [g] at e <;> omega
  refine ⟨f.good, by have := f.len; simpa using this, fun i c' e => ?_, fun i j p q b e1 e2 e3 e4 => hg i j (f.inj _ _ p q b (by rw [← h1]; exact e1) (by rw [← h1]; exact e2) (by rw [← h2]; exact e3) (by rw [← h2]; exact e4))⟩
  rw [h1] at e
  rw [h2]
  exact f.at_ _ _ e
theorem Blt.mem (b : Blt) : b.name ∈ bltNames := by cases b <;> decide +kernel
theorem c_blt (S : Sup c C k L X W) {b : Blt} {es : Exs} {xs : List Expr} {p : Pos} (hg : glB X.env.scope b.name = true) (hst : xs.all notStar = true) (hne : xs.isEmpty = false) (hs : PA X xs (tEs L W C es)) : PE X (.Call (.Name b.name p) xs [] pos) (tEx L W C (.blt b es)) := by
  obtain ⟨g1, g2⟩ := gl_of hg
  have hm := S.blt _ b.mem
  have ho := blt_ok (L := L) S.hL S.calm b
  have hv := b.boot
  cases xs with
  | nil => cases hne
  | cons e xs =>
    simp only [List.all_cons, Bool.and_eq_true] at hst
    have go : PE X (.Call (.Name b.name p) (e :: xs) [] pos) (tCB (rBlt L b) (tEs L W C es)) := by
      cases hf : b.fn with
      | builtin id => rw [hf] at ho hv; exact pe_callB ho g1 hm hv hs b.nm g2 (star_of hst.1) (star_any hst.2)
      | type T => rw [hf] at ho hv; exact pe_callTy ho g1 hm hv hs b.nm g2 (star_of hst.1) (star_any hst.2)
      | _ => cases b <;> cases hf
    exact go.imp fun σ H Q h => args_of σ H Q _ h fun ps r vs G2 H2 gd as e post => ⟨G2, ps, r, gd, as, e, post (blt_nb e)⟩
theorem few_of {x1 : Expr} {xs : List Expr} {cpos : Pos} (h : (x1 :: xs).all notStar = true) (hl : (x1 :: xs).length < 30) :
    ((backTo cpos (starEach (x1 :: xs) X.env)).all (fun x => !x.1) && (backToKw cpos (keywordEach [] X.env)).all (fun x => x.1.isSome) && decide ((x1 :: xs).length + ([] : List Keyword).length + (if ([] : List Keyword).isEmpty then 0 else 1) < 30)) = true := by
  rw [star_all h]
  simp only [Bool.true_and, Bool.and_eq_true, decide_eq_true_eq]
  exact ⟨rfl, by simpa using hl⟩
theorem c_bm (S : Sup c C k L X W) {m : Bmt} {o : Ex} {es : Exs} {eo : Expr} {xs : List Expr} {apos : Pos} (hb : baseB eo = true) (hst : xs.all notStar = true) (hne : xs.isEmpty = false) (h30 : xs.length < 30) (hline : (apos.endLine == pos.line) = true)
    (ho : PE X eo (tEx L W C o)) (hs : PA X xs (tEs L W C es)) : PE X (.Call (.Attribute eo m.nm apos) xs [] pos) (tEx L W C (.bm m o es)) := by
  cases xs with
  | nil => cases hne
  | cons e xs =>
    have hst' := hst
    simp only [List.all_cons, Bool.and_eq_true] at hst
    refine (pe_bm m.plain m.slot m.typ (bm_ok (L := L) S.hL m) ho hs (base_of hb) (few_of hst' h30) hline (star_of hst.1) (star_any hst.2)).imp fun σ H Q ⟨G, ρ, τ, ts, hl, f, h⟩ =>
      ⟨G, ρ, τ, ts, hl, f, h.bind (Same.refl _) fun ra ρ1 ea h1 v1 G1 H1 s1 f1 b1 => ?_⟩
    cases ra with
    | fz p =>
      cases p with
      | str a =>
        obtain ⟨u, eu, hu⟩ := f1.head
        cases eu
        have hu' := rep_str.mp hu
        obtain ⟨rfl, ok⟩ := hu'
        refine ⟨by cases m <;> rfl, ⟨G1, ρ1, τ, ts, hl, f1.tail, h1.bindA s1 fun rs ρ2 _ h2 vs G2 H2 s2 f2 b2 => ?_⟩⟩
        obtain ⟨r, e, h3⟩ := h2.lift
        obtain ⟨ps, e1, e⟩ := bindO e
        exact ⟨G2, _, ps, r, f2.good, .inl (hu.mono s2), f2.args hl b2 e1, e, h3.give (s1.trans s2) (f2.dropStk b2) (bm_nb e)⟩
      | _ => exact h1.elim
    | _ => exact h1.elim
theorem tChain_of {o p : CmpOp} {d : Ex} (σ : L2.St) (H : Hp) (Q : VK) (h : tEx L W C (.cmp2 o p a b d) σ H Q) : tChain (rCmp L o) (rCmp L p) (tEx L W C a) (tEx L W C b) (tEx L W C d) σ H Q := by
  obtain ⟨G, ρ, τ, ts, hl, f, h⟩ := h
  refine ⟨G, ρ, τ, ts, hl, f, h.bind (Same.refl _) fun ra ρ1 ea h1 v1 G1 H1 s1 f1 b1 => ⟨G1, ρ1, ra.cell :: τ, some v1 :: ts, by simp [hl], f1, h1.bind s1 fun rb ρ2 eb h2 v2 G2 H2 s2 f2 b2 => ?_⟩⟩
  cases e : ((ra.val ρ2).bind fun p => (rb.val ρ2).bind fun q => cmpF o p q) with
  | none => rw [e] at h2; exact h2.elim
  | some t =>
    rw [e] at h2
    obtain ⟨p1, e1, e⟩ := bindO e
    obtain ⟨q1, e2, e⟩ := bindO e
    have f3 := f2.tail.tail
    refine ⟨G2, p1, q1, t, f2.good, argOf hl f3 f2.tail.head b1 e1, argOf hl f3 f2.head b2 e2, e, t, rfl, ?_⟩
    cases t with
    | false => exact EPost.giveF (p := .bl false) h2 (s1.trans s2) f3 (rep_bl.mpr rfl)
    | true =>
      have f4 : Fit L G2 H2 ((rb.cell :: τ) ++ ρ2) ((some v2 :: ts) ++ σ) := f2.drop2
      refine ⟨G2, ρ2, rb.cell :: τ, some v2 :: ts, by simp [hl], f4, EPost.bind h2 (s1.trans s2) fun rc ρ3 _ h3 v3 G3 H3 s3 f5 b3 => ?_⟩
      obtain ⟨x, e5, h4⟩ := h3.lift
      obtain ⟨q2, e6, e5⟩ := bindO e5
      obtain ⟨r2, e7, e5⟩ := bindO e5
      obtain ⟨t2, e8, rfl⟩ := mapO e5
      have f6 := f5.tail.tail
      exact ⟨G3, q2, r2, t2, f5.good, argOf hl f6 f5.tail.head b2 e6, argOf hl f6 f5.head b3 e7, e8, h4.giveF ((s1.trans s2).trans s3) f6 (rep_bl.mpr rfl)⟩
theorem c_cmp2 (S : Sup c C k L X W) {o p : CmpOp} {d : Ex} (hs : notSet r = true) (ha : PE X l (tEx L W C a)) (hb : PE X m (tEx L W C b)) (hd : PE X r (tEx L W C d)) : PE X (.Compare l [o, p] [m, r] pos) (tEx L W C (.cmp2 o p a b d)) :=
  (pe_chain (cmp_ok S.hL S.units o) (cmp_ok S.hL S.units p) ha hb hd (lmark_of hs)).imp tChain_of
end
end Mp
set_option Elab.async false
set_option linter.all false
set_option maxRecDepth 100000
set_option maxHeartbeats 1000000
/-! # Iterators: a list, a tuple, a text, as they stand or counted or in pairs -/
namespace PySem
open Sem (wp)
theorem mp_meets_enum {v : Value} {o : Obj} {Hb : Heap → Prop} (bg : Begins v o Hb) : Meets (Builtin.«enumerate.__new__» ⟨[.type "enumerate", v], []⟩) (fun _ R s => Hb s.heap ∧
    R (.ok (.ret (.ref (s.heap.push o).objs.size))) { s with heap := (s.heap.push o).push { cls := .type "enumerate", data := .fields #[.none, .bool false, .ref s.heap.objs.size, rawInt 0, .none, .none] } }) := .of_wp fun prog w A R s h => by
    obtain ⟨hp, g, d, tk, os⟩ := s
    obtain ⟨h1, h⟩ := h
    have hsub := sub_enumerate
    have nx : ∀ {A' : Around} {E : Value → Shared → Prop} {Q : Value → Shared → Prop}, Q (.ref hp.objs.size) ⟨hp.push o, g, d, tk, os⟩ → wpAny (model prog w) A' (pyIter v) Q E ⟨hp, g, d, tk, os⟩ := fun q => bg.iter prog w _ _ ⟨hp, g, d, tk, os⟩ _ h1 q
    wp_walk using nx
    refine wpAny_stack_any fun st => wpAny_pure ?_
    split
    · rename_i c _ _ _ _ _
      by_cases hc : (c == Value.type "enumerate") = true
      · rw [hc]
        wp_walk using nx
        exact ⟨_, rfl, h⟩
      · rw [Bool.not_eq_true] at hc
        rw [hc]
        wp_walk using nx
        exact ⟨_, rfl, h⟩
    · wp_walk using nx
      exact ⟨_, rfl, h⟩
theorem mp_call_enum {prog : Program} {w : World} {A : Around} {E : Value → Shared → Prop} {s : Shared} {v : Value} {o : Obj} {Hb : Heap → Prop} {Q : Value → Shared → Prop} (bg : Begins v o Hb) (h1 : Hb s.heap)
    (h : ∀ h', IsEnum h' (s.heap.objs.size + 1) s.heap.objs.size 0 .none → h'.get? s.heap.objs.size = some o → (∀ b o, s.heap.get? b = some o → h'.get? b = some o) → Q (.ref (s.heap.objs.size + 1)) { s with heap := h' }) :
    wpAny (model prog w) A (call (.type "enumerate") [v]) Q E s := by
  refine callType_new F.called_enumerate (by decide) (F.typeCall_enumerate_1 _) (F.newCall_enumerate_1 _) (fun obj => F.args_object_init_2 obj _) F.entry_enumerate_new (mp_meets_enum bg) ⟨h1, ?_⟩
  have hz : (s.heap.push o).objs.size = s.heap.objs.size + 1 := Heap.size_push ..
  show _ ∧ _
  rw [hz]
  have he : IsEnum ((s.heap.push o).push { cls := .type "enumerate", data := .fields #[.none, .bool false, .ref s.heap.objs.size, rawInt 0, .none, .none] }) (s.heap.objs.size + 1) s.heap.objs.size 0 .none := by
    have q := Heap.get?_push_size (s.heap.push o) (o := { cls := .type "enumerate", data := .fields #[.none, .bool false, .ref s.heap.objs.size, rawInt 0, .none, .none] }) rfl
    rw [hz] at q
    exact q
  exact ⟨⟨_, he, rfl⟩, h _ he (Heap.get?_push_of_some _ (Heap.get?_push_size _ bg.free)) fun b o x => Heap.get?_push_of_some _ (Heap.get?_push_of_some _ x)⟩
end PySem
namespace Mp
open PySem PySem.Spec PyProof.Rows L2
variable {L : Lk}
/-- what is gone through -/
inductive Src where
  | lst (a : Addr) (xs : List V) | tup (a : Addr) (xs : List V) | txt (x : Str)
def Src.items : Src → List V
  | .lst _ xs => xs
  | .tup _ xs => xs
  | .txt x => x.cps.toList.map fun c => V.str ⟨#[c]⟩
def Src.at_ (K : PySem.W.Frag) (H : Hp) : Src → Prop
  | .lst a xs => SqL K H a xs
  | .tup a xs => SqT K H a xs
  | .txt _ => True
def Src.val : Src → V
  | .lst a _ => .ref a
  | .tup a _ => .ref a
  | .txt x => .str x
def Src.st (it : Addr) (i : Nat) (h : Heap) : Src → Prop
  | .lst a _ => h.IsListIter it a i
  | .tup a _ => h.IsTupleIter it a i
  | .txt x => ∃ t, h.IsStrIter it (strIterType x) x t i
def Src.adr : Src → List Addr
  | .lst a _ => [a]
  | .tup a _ => [a]
  | .txt _ => []
theorem Src.rec1 {S : Src} {it : Addr} {i : Nat} {h : Heap} (x : S.st it i h) : ∃ o, h.get? it = some o ∧ ∀ v, o.data ≠ .cell v := by
  cases S with
  | lst a xs => obtain ⟨o, e, c, d⟩ := (show h.IsListIter it a i from x); exact ⟨o, e, fun v z => by rw [d] at z; cases z⟩
  | tup a xs => obtain ⟨o, e, c, d⟩ := (show h.IsTupleIter it a i from x); exact ⟨o, e, fun v z => by rw [d] at z; cases z⟩
  | txt y => obtain ⟨t, o, e, c, d⟩ := (show ∃ t, h.IsStrIter it (strIterType y) y t i from x); exact ⟨o, e, fun v z => by rw [d] at z; cases z⟩
theorem Src.keep {S : Src} {it : Addr} {i : Nat} {h h' : Heap} (x : S.st it i h) (k : ∀ o, h.get? it = some o → h'.get? it = some o) : S.st it i h' := by
  cases S with
  | lst a xs => exact (show h.IsListIter it a i from x).at fun o e => k o e
  | tup a xs => exact (show h.IsTupleIter it a i from x).at fun o e => k o e
  | txt y => obtain ⟨t, o, e, r⟩ := (show ∃ t, h.IsStrIter it (strIterType y) y t i from x); exact ⟨t, o, k o e, r⟩
section
variable {X : Cx} {pins : List (Addr × Obj)} {σ : L2.St} {H : Hp} {s : Shared}
/-- the iterator's steps, where the walk stands -/
theorem Src.draw {S : Src} {it : Addr} {i : Nat} {A : Around} (hh : A.handled = none) (I : Inv X pins σ H s) (a : S.at_ X.K H) (st : S.st it i s.heap) (live : ∀ b ∈ S.adr, b ≠ it) :
    ∃ (n : Nat) (P : Nat → Value → Prop) (T : Nat → Heap → Prop), Draws X.prog X.w A it (it :: S.adr) n P T ∧ n = S.items.length ∧ (∀ i v, P i v → ∃ x, S.items[i]? = some x ∧ RelV x v) ∧ T i s.heap ∧ ∀ j h', T j h' → S.st it j h' := by
  cases S with
  | lst a xs =>
    obtain ⟨its, rv, p, _⟩ := I.list a
    refine ⟨_, _, _, Draws.list hh it _ (live _ (by simp [Src.adr])) its.toArray, ?_, fun i v e => ?_, ⟨st, p.isList⟩, fun j h' z => z.1⟩
    · exact rv.length.symm
    · have e1 : its[i]? = some v := by simpa using e
      have hl := rv.length
      have hi : i < xs.length := by rw [hl]; exact (List.getElem?_eq_some_iff.mp e1).1
      obtain ⟨u, hu, ru⟩ := rv.get (List.getElem?_eq_getElem hi)
      rw [e1] at hu
      cases hu
      exact ⟨xs[i], List.getElem?_eq_getElem hi, ru⟩
  | tup a xs =>
    obtain ⟨its, rv, p, _⟩ := I.tuple a
    refine ⟨_, _, _, Draws.tuple hh it _ (live _ (by simp [Src.adr])) its.toArray, ?_, fun i v e => ?_, ⟨st, p⟩, fun j h' z => z.1⟩
    · exact rv.length.symm
    · have e1 : its[i]? = some v := by simpa using e
      have hl := rv.length
      have hi : i < xs.length := by rw [hl]; exact (List.getElem?_eq_some_iff.mp e1).1
      obtain ⟨u, hu, ru⟩ := rv.get (List.getElem?_eq_getElem hi)
      rw [e1] at hu
      cases hu
      exact ⟨xs[i], List.getElem?_eq_getElem hi, ru⟩
  | txt x =>
    obtain ⟨t, st⟩ := st
    refine ⟨_, _, _, Draws.text hh it x t, ?_, fun i v ⟨c, u, e, ev⟩ => ?_, st, fun j h' z => ⟨t, z⟩⟩
    · simp [Src.items]
    · subst ev
      refine ⟨.str ⟨#[c]⟩, ?_, u, rfl⟩
      show (x.cps.toList.map _)[i]? = _
      rw [List.getElem?_map, Array.getElem?_toList, e]
      rfl
/-- where the walk begins -/
theorem Src.begins {S : Src} {v : Value} (I : Inv X pins σ H s) (a : S.at_ X.K H) (r : RelV S.val v) : ∃ o Hb, Begins v o Hb ∧ Hb s.heap ∧ ∀ it (h' : Heap), h'.get? it = some o → S.st it 0 h' := by
  cases S with
  | lst a xs =>
    obtain ⟨its, rv, p, _⟩ := I.list a
    cases r
    exact ⟨_, _, begins_list _ its.toArray, p.isList, fun it h' e => ⟨_, e, rfl, rfl⟩⟩
  | tup a xs =>
    obtain ⟨its, rv, p, _⟩ := I.tuple a
    cases r
    exact ⟨_, _, begins_tuple _ its.toArray, p, fun it h' e => ⟨_, e, rfl, rfl⟩⟩
  | txt x =>
    obtain ⟨t, rfl⟩ := r
    exact ⟨_, _, begins_text x t, trivial, fun it h' e => ⟨t, _, e, rfl, rfl⟩⟩
theorem Src.lt {S : Src} (I : Inv X pins σ H s) (a : S.at_ X.K H) : ∀ b ∈ S.adr, b < s.heap.objs.size := by
  intro b hb
  cases S with
  | lst p xs =>
    obtain ⟨its, rv, q, _⟩ := I.list a
    simp only [Src.adr, List.mem_singleton] at hb
    subst hb
    exact q.lt
  | tup p xs =>
    obtain ⟨its, rv, q, _⟩ := I.tuple a
    simp only [Src.adr, List.mem_singleton] at hb
    subst hb
    obtain ⟨o, e, _⟩ := id q
    exact Heap.lt_size e
  | txt x => simp [Src.adr] at hb
/-- counted: each item in a new pair -/
def Ien (K : PySem.W.Frag) (S : Src) : It where
  go i H := S.at_ K H ∧ i < S.items.length
  yld i H v H' := ∃ T x, v = .ref T ∧ H T = none ∧ H' = upd H T (.tup [.int (i : Nat), x]) ∧ S.items[i]? = some x
  stop i H := S.at_ K H ∧ i = S.items.length
theorem turn_en {P : Program} {w : World} {K : PySem.W.Frag} {elts : List Expr} {kk : Nat} {tpos : Pos} (S : Src) (e it : Addr) (hei : e ≠ it) (h1 : ∀ b ∈ S.adr, b ≠ e) (h2 : ∀ b ∈ S.adr, b ≠ it) :
    Turn P w K (.Tuple elts kk tpos) (Ien K S) [e, it] e (fun i h => (∃ old, IsEnum h e it ((i : Nat) : Int) old) ∧ S.st it i h) where
  mem := by simp
  obj := fun i h st b hb => by
    obtain ⟨⟨old, he⟩, hit⟩ := st
    rcases List.mem_cons.mp hb with z | hb
    · rw [z]; exact ⟨_, he, fun v q => nomatch q⟩
    · rw [List.mem_singleton.mp hb]; exact Src.rec1 hit
  keep := fun i h h' ⟨⟨old, he⟩, hit⟩ k => ⟨⟨old, k e (by simp) _ he⟩, Src.keep (S := S) hit fun o q => k it (by simp) o q⟩
  item := by
    intro X hP hw hK hc i pins s σ H E I hf ⟨⟨old, he⟩, hit⟩ ⟨ha, hi⟩
    subst hP hw hK
    obtain ⟨n, P, T, D, hn, hP, st, back⟩ := Src.draw (A := X.A.in1) (I.ok.hd hc) I ha hit h2
    have hel : e < s.heap.objs.size := Heap.lt_size he
    have hil : it < s.heap.objs.size := by obtain ⟨_, q⟩ := D.live _ _ st; exact Heap.lt_size q
    have hef : e ∉ it :: S.adr := fun z => by
      rcases List.mem_cons.mp z with z | z
      · exact hei z
      · exact h1 _ z rfl
    refine wpAny_pyNext_enum_itemC D he st (by rw [hn]; exact hi) hei hef fun u h' tk hu ho st' hT hsz hk => ?_
    obtain ⟨x, hx, ru⟩ := hP i u hu
    refine ⟨_, rfl, wpAny_letOwnedTupleGo_enum (s := { s with heap := h', toks := tk + 1 }) ho fun h2' he' sb => ?_⟩
    have hT2 : h2'.get? s.heap.objs.size = some { cls := .type "tuple", data := .seq #[.int i tk, u] } := (sb.2 _ (Nat.ne_of_gt hel)).trans hT
    have new : ObjOk X.prog X.w (upd H s.heap.objs.size (.tup [.int (i : Nat), x])) h2' s.heap.objs.size (.tup [.int (i : Nat), x]) := by
      refine ⟨?_, [.int i tk, u], .cons ⟨_, rfl⟩ (.cons ru .nil), ⟨_, hT2, rfl, _, rfl⟩⟩
      rw [sizeLine_eq]
      exact Nat.le_of_ble_eq_true rfl
    have I1 : Inv X pins σ (upd H s.heap.objs.size (.tup [.int (i : Nat), x])) { s with heap := h2', toks := tk + 1 } :=
      I.turnedNew (ch := [e, it]) (fun b ob hb q => (sb.2 b (fun z => hb (by simp [z]))).trans (hk b ob (fun z => hb (by simp [z])) (fun z => hb (by simp [z])) q)) hf (Nat.le_refl _) new
    refine ⟨.ref s.heap.objs.size, _, I1, rfl, ⟨_, x, rfl, I.hok.fresh (Nat.le_refl _), rfl, hx⟩, ⟨⟨u, ?_⟩, ?_⟩, fun b hb => ?_⟩
    · have e1 : ((i + 1 : Nat) : Int) = (i : Int) + 1 := by omega
      rw [e1]
      exact he'
    · exact Src.keep (S := S) (back _ _ st') fun o q => (sb.2 it (Ne.symm hei)).trans q
    · have hb' : b < s.heap.objs.size := by
        rcases List.mem_cons.mp hb with z | hb
        · rw [z]; exact hel
        · rw [List.mem_singleton.mp hb]; exact hil
      rw [upd_ne (Nat.ne_of_lt hb')]
      exact (hf b hb).1
  done := by
    intro X hP hw hK hc i pins s σ H E I hf ⟨⟨old, he⟩, hit⟩ ⟨ha, hi⟩
    subst hP hw hK
    obtain ⟨n, P, T, D, hn, hP, st, back⟩ := Src.draw (A := X.A.in1) (I.ok.hd hc) I ha hit h2
    obtain ⟨f0, f1, f2, f3, f4, f5⟩ := hf it (by simp)
    rw [hi, ← hn] at st
    exact wpAny_pyNext_enum_endD D he st fun h' eb => ⟨rfl, I.turned (t' := s.toks) (fun b o hb q => eb b o hb q) f0 f1 f3 f4 f5⟩
  self := fun A i s Q E ⟨⟨_, he⟩, _⟩ h => wpAny_pyIter_enum he h
/-- two in step: the items in new pairs -/
def Izp (K : PySem.W.Frag) (S S' : Src) : It where
  go i H := S.at_ K H ∧ S'.at_ K H ∧ i < S.items.length ∧ i < S'.items.length
  yld i H v H' := ∃ T x y, v = .ref T ∧ H T = none ∧ H' = upd H T (.tup [x, y]) ∧ S.items[i]? = some x ∧ S'.items[i]? = some y
  stop i H := S.at_ K H ∧ S'.at_ K H ∧ i ≤ S.items.length ∧ i ≤ S'.items.length ∧ (i = S.items.length ∨ i = S'.items.length)
theorem turn_zp {P : Program} {w : World} {K : PySem.W.Frag} {elts : List Expr} {kk : Nat} {tpos : Pos} (S S' : Src) {z TI TO i1 i2 : Addr} (D : ZipSep2 z TI TO i1 i2 (i1 :: S.adr) (i2 :: S'.adr)) (h1 : ∀ b ∈ S.adr, b ≠ i1) (h2 : ∀ b ∈ S'.adr, b ≠ i2) :
    Turn P w K (.Tuple elts kk tpos) (Izp K S S') [z, TI, TO, i1, i2] z (fun i h => IsZip h z TI TO .none ∧ IsTupOf2 h TI (.ref i1) (.ref i2) ∧ (∃ x y, IsTupOf2 h TO x y) ∧ S.st i1 i h ∧ S'.st i2 i h) where
  mem := by simp
  obj := fun i h st c hc => by
    obtain ⟨hz, hTI, ⟨x, y, hTO⟩, st1, st2⟩ := st
    have hc' : c = z ∨ c = TI ∨ c = TO ∨ c = i1 ∨ c = i2 := by simpa using hc
    rcases hc' with q | q | q | q | q <;> rw [q]
    · exact ⟨_, hz, fun v q => nomatch q⟩
    · exact ⟨_, hTI, fun v q => nomatch q⟩
    · exact ⟨_, hTO, fun v q => nomatch q⟩
    · exact Src.rec1 st1
    · exact Src.rec1 st2
  keep := fun i h h' ⟨hz, hTI, ⟨x, y, hTO⟩, st1, st2⟩ k =>
    ⟨k z (by simp) _ hz, k TI (by simp) _ hTI, ⟨x, y, k TO (by simp) _ hTO⟩, Src.keep (S := S) st1 fun o q => k i1 (by simp) o q, Src.keep (S := S') st2 fun o q => k i2 (by simp) o q⟩
  item := by
    intro X hP hw hK hc i pins s σ H E I hf ⟨hz, hTI, ⟨x0, y0, hTO⟩, st1, st2⟩ ⟨ha, hb, hi, hj⟩
    subst hP hw hK
    obtain ⟨n1, P1, T1, D1, hn1, hP1, t1, b1⟩ := Src.draw (A := X.A.in1) (I.ok.hd hc) I ha st1 h1
    obtain ⟨n2, P2, T2, D2, hn2, hP2, t2, b2⟩ := Src.draw (A := X.A.in1) (I.ok.hd hc) I hb st2 h2
    have hzl : z < s.heap.objs.size := Heap.lt_size hz
    refine wpAny_pyNext_zipD2_item D D1 D2 hz hTI hTO t1 t2 (by rw [hn1]; exact hi) (by rw [hn2]; exact hj) fun u u2 h' tk hu hu2 z' TO' t1' t2' hT hsz hk => ?_
    obtain ⟨x, hx, ru⟩ := hP1 i u hu
    obtain ⟨y, hy, ru2⟩ := hP2 i u2 hu2
    refine ⟨_, rfl, wpAny_letOwnedTupleGo_zip (s := { s with heap := h', toks := tk }) z' fun h2' z2 sb => ?_⟩
    have hT2 : h2'.get? s.heap.objs.size = some { cls := .type "tuple", data := .seq #[u, u2] } := (sb.2 _ (Nat.ne_of_gt hzl)).trans hT
    have new : ObjOk X.prog X.w (upd H s.heap.objs.size (.tup [x, y])) h2' s.heap.objs.size (.tup [x, y]) := by
      refine ⟨?_, [u, u2], .cons ru (.cons ru2 .nil), ⟨_, hT2, rfl, _, rfl⟩⟩
      rw [sizeLine_eq]
      exact Nat.le_of_ble_eq_true rfl
    have kk : ∀ c o, c ∉ [z, TI, TO, i1, i2] → s.heap.get? c = some o → h2'.get? c = some o := fun c o hb q =>
      (sb.2 c (fun q' => hb (by simp [q']))).trans (hk c o (fun q' => hb (by simp [q'])) (fun q' => hb (by simp [q'])) (fun q' => hb (by simp [q'])) (fun q' => hb (by simp [q'])) q)
    have I1 : Inv X pins σ (upd H s.heap.objs.size (.tup [x, y])) { s with heap := h2', toks := tk } := I.turnedNew (ch := [z, TI, TO, i1, i2]) kk hf (Nat.le_refl _) new
    refine ⟨.ref s.heap.objs.size, _, I1, rfl, ⟨_, x, y, rfl, I.hok.fresh (Nat.le_refl _), rfl, hx, hy⟩, ⟨z2, ?_, ⟨u, u2, ?_⟩, ?_, ?_⟩, fun c hcm => ?_⟩
    · exact (sb.2 _ D.TIz).trans (hk _ _ D.TIz D.TITO D.TIi1 D.TIi2 hTI)
    · exact (sb.2 _ D.TOz).trans TO'
    · exact Src.keep (S := S) (b1 _ _ t1') fun o q => (sb.2 _ D.zi1.symm).trans q
    · exact Src.keep (S := S') (b2 _ _ t2') fun o q => (sb.2 _ D.zi2.symm).trans q
    · have hlt : c < s.heap.objs.size := by
        have e' : c = z ∨ c = TI ∨ c = TO ∨ c = i1 ∨ c = i2 := by simpa using hcm
        rcases e' with q | q | q | q | q <;> rw [q]
        · exact hzl
        · exact Heap.lt_size hTI
        · exact Heap.lt_size hTO
        · obtain ⟨_, e1⟩ := D1.live _ _ t1; exact Heap.lt_size e1
        · obtain ⟨_, e2⟩ := D2.live _ _ t2; exact Heap.lt_size e2
      rw [upd_ne (Nat.ne_of_lt hlt)]
      exact (hf c hcm).1
  done := by
    intro X hP hw hK hc i pins s σ H E I hf ⟨hz, hTI, ⟨x0, y0, hTO⟩, st1, st2⟩ ⟨ha, hb, hi, hj, he⟩
    subst hP hw hK
    obtain ⟨n1, P1, T1, D1, hn1, hP1, t1, b1⟩ := Src.draw (A := X.A.in1) (I.ok.hd hc) I ha st1 h1
    obtain ⟨n2, P2, T2, D2, hn2, hP2, t2, b2⟩ := Src.draw (A := X.A.in1) (I.ok.hd hc) I hb st2 h2
    refine wpAny_pyNext_zipD2_end D D1 D2 hz hTI hTO t1 t2 (by rw [hn1]; exact hi) (by rw [hn2]; exact hj) (by rw [hn1, hn2]; exact he) fun h' tk hk => ⟨rfl, ?_⟩
    exact I.turnedL (t' := tk) (ch := [z, TI, TO, i1, i2]) (fun c o hb q => hk c o (fun q' => hb (by simp [q'])) (fun q' => hb (by simp [q'])) (fun q' => hb (by simp [q'])) (fun q' => hb (by simp [q'])) q) hf
  self := fun A i s Q E st h => wpAny_pyIter_zip st.1 h
end
end Mp
set_option Elab.async false
set_option linter.all false
set_option maxRecDepth 100000
set_option maxHeartbeats 2000000
/-! # An own object is walked: its __iter__ gives an iterator of one of its fields -/
namespace PySem
open Sem (wp)
theorem mp_call_iter {prog : Program} {w : World} {A : Around} {E : Value → Shared → Prop} {s : Shared} {v : Value} {o : Obj} {Hb : Heap → Prop} {Q : Value → Shared → Prop} (bg : Begins v o Hb) (h1 : Hb s.heap) (h : Q (.ref s.heap.objs.size) { s with heap := s.heap.push o }) :
    wpAny (model prog w) A (call (.builtin "iter") [v]) Q E s := by
  refine Calls.call_function_entry (by decide +kernel) (by decide +kernel) PySem.W.kdk_entry_iter (PySem.W.kdk_args_iter _) ?_
  unfold Builtin.«iter»
  refine wpAny_bind (m := someArgs "iter" 1 2 _) (wpAny_of_eq (a := [v]) (by first | rfl | kernel_rfl!) ?_)
  show wpAny _ _ (pyIter v >>= _) _ _ _
  exact wpAny_bind (bg.iter prog w _ _ s _ h1 (wpAny_pure ⟨_, rfl, h⟩))
end PySem
namespace Mp
open PySem PySem.Spec PyProof.Rows L2
variable {L : Lk}
def onlyOne (P : V → Hp → Prop) : List V → Hp → Prop
  | [v], H => P v H
  | _, _ => False
theorem onlyOne_of {P : V → Hp → Prop} {vs : List V} {H : Hp} (h : onlyOne P vs H) : ∃ v, vs = [v] ∧ P v H := by
  unfold onlyOne at h
  split at h
  · exact ⟨_, rfl, h⟩
  · exact h.elim
def onlyTwo (P : V → V → Hp → Prop) : List V → Hp → Prop
  | [v, w], H => P v w H
  | _, _ => False
theorem onlyTwo_of {P : V → V → Hp → Prop} {vs : List V} {H : Hp} (h : onlyTwo P vs H) : ∃ v w, vs = [v, w] ∧ P v w H := by
  unfold onlyTwo at h
  split at h
  · exact ⟨_, _, rfl, h⟩
  · exact h.elim
theorem start_get {N : List Str} {vs : List V} {i : Nat} (h : i < vs.length) : (L2.start N vs)[i]? = some (some vs[i]) := by
  unfold L2.start
  rw [List.getElem?_append_left (by simpa using h), List.getElem?_map, List.getElem?_eq_getElem h]
  rfl
/-- a def is run from one state -/
theorem fn_at {CX : CXT} {P : Program} {w : World} {K : PySem.W.Frag} {mg : Str → Option Value} {base : Heap} {k : Nat} {f : Addr} {name qual : Str} {params : Arguments} {body : List Stmt} {scope : Scope} {dV kV doc pm cdv ct oc : Value} {an od : Option Addr} {osl : Array (Option Value)} {N ps : List Str}
    (lk : K.lookup f = some ⟨oc, od, .func (PySem.W.fnOf name qual params body scope dV kV doc pm an cdv ct), osl⟩) (hcd : PySem.W.codeIn K cdv qual = true) (S : FnScope N ps scope) {A : Around} {outer : List Env} {s : Shared} {H : Hp} {us : List Value} {vs : List V} {Q : VK} {E : XK} (hl : vs.length = ps.length)
    (hb : BindsTo s (PySem.W.fnOf name qual params body scope dV kV doc pm an cdv ct) ⟨us, []⟩ (ps.zip us)) (hr : Room (k + 1) A) (e0 : Env0 P w K mg base A outer s H) (r : Vals vs us) {t : TS} (ht : PSs (cxOf CX P w K mg base N qual scope f cdv A outer s H E) body t) (hq : t { nx := fun _ H' => Q .non H', rt := Q } (L2.start N vs) H) :
    codeAny (model P w) A (.call (.ref f) ⟨us, []⟩) (CR CX outer P w H s Q E) s := by
  have KX : K.In s.heap := e0.mod.kin.keeps fun b o e => (e0.bs b o e).1
  have cells : ∀ y ∈ ps.zip us, scope.names.lookup y.1 = some .local ∨ (scope.names.lookup y.1 = some .cell ∧ ((cellsFrom (s.heap.objs.size + 1) scope.names []).lookup y.1).isSome = true) := fun ⟨n, v⟩ hy =>
    (S.par n (List.of_mem_zip hy).1).imp id fun q => ⟨q, PySem.W.cellsFrom_some _ _ _ (.inl q)⟩
  refine codeAny_call_function hr.depth (KX _ _ lk) rfl S.co S.gen rfl (PySem.W.codeRec_of KX hcd) (hb _ _ _ _ (wpAny_newFunctionEnv_cells S.kind cells fun env he s1 x => ?_))
  cases he
  refine ⟨(e0.mod.nolimit.keeps fun b o e => (e0.bs b o e).1).keeps x.toInCall.keep, codeAny_func (wpAny_mono (ht.run [] s1 (L2.start N vs) H _ (inv_start S hr.hd e0 hl r x) hq) (fun fl s' hs => ?_) fun e s' hs => hs)⟩
  cases fl with
  | ret u => obtain ⟨v, σ', H', J, rv, q⟩ := hs; exact ⟨v, H', J.os, J.bare, J.base, J.hok, rv, q⟩
  | next => obtain ⟨σ', H', J, q⟩ := hs; exact ⟨.non, H', J.os, J.bare, J.base, J.hok, rfl, q⟩
  | brk => obtain ⟨_, _, _, q⟩ := hs; exact q.elim
  | cont => obtain ⟨_, _, _, q⟩ := hs; exact q.elim
/-- the iterator of a field, tracked -/
def Src.obj (v : Value) : Src → Obj
  | .lst a _ => { cls := .type "list_iterator", data := .fields #[.ref a, .int 0 0] }
  | .tup a _ => { cls := .type "tuple_iterator", data := .fields #[.ref a, .int 0 0] }
  | .txt x => { cls := .type (strIterType x), data := .fields #[v, .int 0 0] }
def itHO (it : Addr) (o : Obj) : HO := .ext fun h => h.get? it = some o
/-- iter(e), the value a tuple or a list -/
theorem pe_iter {X : Cx} {e : Expr} {te : TE} {p pos : Pos} (hg : Gl X "iter") (hm : X.mg "iter" = none) (he : PE X e te) (hst : notStar e = true) :
    PE X (.Call (.Name "iter" p) [e] [] pos) (fun σ H Q => te σ H fun v H1 => ∃ S : Src, S.val = v ∧ S.at_ X.K H1 ∧ ∀ it o, (∀ h' : Heap, h'.get? it = some o → S.st it 0 h') → H1 it = none → X.s_0.heap.objs.size ≤ it → Q (.ref it) (upd H1 it (itHO it o))) := by
  refine ⟨fun pins s σ H Q I h => ?_⟩
  refine wpAny_Call_Name_kw (ld_blt (u := .builtin "iter") I hg hm (by first | rfl | decide +kernel) ?_ (by decide) (by decide))
  have run := (pa_cons he pa_nil (star_of hst)).run pos pins s σ H (onlyOne fun v H1 => ∃ S : Src, S.val = v ∧ S.at_ X.K H1 ∧ ∀ it o, (∀ h' : Heap, h'.get? it = some o → S.st it 0 h') → H1 it = none → X.s_0.heap.objs.size ≤ it → Q (.ref it) (upd H1 it (itHO it o))) I h
  refine PyProof.Rows.callWith_builtin1 (thn run fun us s1 ⟨vs, H1, I1, r1, q1⟩ => ?_) (star_of hst) rfl
  obtain ⟨v, rfl, Z, ez, hat, q⟩ := onlyOne_of q1
  obtain ⟨u, rfl, ru⟩ := r1.one
  obtain ⟨o, Hb, bg, hb, hit⟩ := Src.begins I1 hat (by rw [ez]; exact ru)
  refine mp_call_iter bg hb ?_
  have e1 : (s1.heap.push o).get? s1.heap.objs.size = some o := Heap.get?_push_size _ bg.free
  exact ⟨.ref s1.heap.objs.size, _, I1.laid (t' := s1.toks) (o := itHO s1.heap.objs.size o) (fun b u e => Heap.get?_push_of_some _ e) (Nat.le_refl _) (show ObjOk _ _ _ _ _ (.ext _) from ⟨e1, ⟨_, e1⟩, fun h1 h2 q k => k _ q⟩), rfl, q _ o (hit _) (I1.hok.fresh (Nat.le_refl _)) I1.sz⟩
section
variable {X : Cx} {pins : List (Addr × Obj)} {σ : L2.St} {H : Hp} {s : Shared} {k : Nat} {W : WX}
theorem call_own_iter {C fi a dx : Addr} {x : Str} {fs : List (Str × V)} {S : Src} (D : IterIs X.K C fi x) (cl : Cls X.K C) (na : NoAttr X.K C x) (hm : X.mg "iter" = none) (hr : Room (k + 1) X.A) (tk : Takes X W) (I : Inv X pins σ H s) (ha : H a = some (.ins C dx fs)) (hf : fs.lookup x = some S.val) (hS : S.at_ X.K H) :
    wpAny (model X.prog X.w) X.A (call (.ref fi) [.ref a]) (fun u s1 => ∃ it o, u = .ref it ∧ (∀ h' : Heap, h'.get? it = some o → S.st it 0 h') ∧ H it = none ∧ s.heap.objs.size ≤ it ∧ Inv X pins σ (upd H it (itHO it o)) s1) X.xe s := by
  obtain ⟨y, qual, st, fd, N, F, hb, sc, hN, hg, p1, p2, p3, p4, p5, hbody⟩ := D.df
  obtain ⟨oc, od, kV, doc, pm, an, cdv, ct, osl, rfl, lk, hcd⟩ := F.ex
  have r : Vals [V.ref a] [Value.ref a] := .cons rfl .nil
  have hbs := hb s [.ref a] I.kIn rfl
  let Q : VK := fun v H' => ∃ it o, v = .ref it ∧ (∀ h' : Heap, h'.get? it = some o → S.st it 0 h') ∧ H it = none ∧ s.heap.objs.size ≤ it ∧ H' = upd H it (itHO it o)
  let Y := cxOf (L2.CX X.prog X.w) X.prog X.w X.K X.mg X.base N qual (defScope st) fi cdv X.A X.stack s H E0
  have hgY : Gl Y "iter" := by
    unfold glB at hg
    simp only [Bool.and_eq_true, beq_iff_eq] at hg
    exact hg.1
  have hself : (defScope st).names.lookup ("self" : Str) = some .local ∨ (defScope st).names.lookup ("self" : Str) = some .cell := sc.par ("self" : Str) (by simp)
  have pv : PE Y (.Name "self" p2) (tVar 0) := pe_var (i := 0) (X := Y) hN (hself.imp id .inl) (by decide +kernel) (by decide +kernel)
  have pf : PE Y (.Attribute (.Name "self" p2) x p3) (tFld Y.K (tVar 0) x) := pe_fld pv rfl
  have ps := pss_one (ps_ret (pos := p5) (pe_iter (p := p1) (pos := p4) hgY hm pf rfl))
  rw [← hbody] at ps
  have hl : (L2.start N [V.ref a])[0]? = some (some (.ref a)) := start_get (by simp)
  refine wpAny_call (codeAny_mono (fn_at (us := [.ref a]) (vs := [.ref a]) (Q := Q) (E := E0) lk hcd sc rfl hbs hr I.env0 r ps ?_) fun res s' hq => ?_)
  · refine ⟨.ref a, hl, a, C, dx, fs, S.val, rfl, ha, cl, na, hf, S, rfl, hS, fun it o ho hn hz => ⟨it, o, rfl, ho, hn, hz, rfl⟩⟩
  · cases res with
    | error e =>
      obtain ⟨_, _, _, _, _, _, _, _, _, _, _, _, z⟩ := hq
      exact z.elim
    | ok fl =>
      cases fl with
      | ret u =>
        obtain ⟨v, H', I', rv, it, o, ev, ho, hn, hz, eH⟩ := I.after hq
        subst ev eH
        cases rv
        exact ⟨it, o, rfl, ho, hn, hz, I'⟩
      | next => exact hq.elim
      | brk => exact hq.elim
      | cont => exact hq.elim
/-- .. and walked -/
theorem own_walk {C fi a dx : Addr} {x : Str} {fs : List (Str × V)} {S : Src} {tg : Expr} {R : It → Hp → Prop} {J : It} (D : IterIs X.K C fi x) (cl : Cls X.K C) (na : NoAttr X.K C x) (hm : X.mg "iter" = none) (hr : Room (k + 1) X.A) (tk : Takes X W) (I : Inv X pins σ H s) (ha : H a = some (.ins C dx fs)) (hf : fs.lookup x = some S.val) (hS : S.at_ X.K H)
    (hst : ∀ it h, S.st it 0 h → ∃ T o, h.get? it = some o ∧ o.cls = .type T ∧ (∃ id, PySem.Slot T "__next__" id)) (T : ∀ it, ∃ tn, Turn X.prog X.w X.K tg J [it] it tn ∧ ∀ h, S.st it 0 h → tn 0 h) (q : R J H) : wpAny (model X.prog X.w) X.A (pyIter (.ref a)) (PIE X pins σ tg R) X.xe s := by
  obtain ⟨mA, J0, _⟩ := ins_get I.hok ha
  obtain ⟨od, J0, _⟩ := J0.look
  obtain ⟨m, hF⟩ := I.fr
  refine PySem.W.owit_iter hF I.ok.mod.kin J0 D.it D.fn (thn (call_own_iter D cl na hm hr tk I ha hf hS) fun u s1 ⟨it, o, eu, ho, hn, hz, I1⟩ => ?_)
  subst eu
  have e1 : s1.heap.get? it = some o := by
    have := I1.hok it _ upd_same
    exact this.1
  have st := ho _ e1
  obtain ⟨Ty, o2, e2, hc, id, sl⟩ := hst it _ st
  obtain ⟨tn, tT, t0⟩ := T it
  unfold PySem.W.OwitIt
  refine wpAny_specialOf (name := Str.ofString "__next__") (show s1.TypeIs (.ref it) Ty from ⟨o2, e2, hc⟩) sl.lookup ?_
  have hd := ItX.inv_drop I1 (show upd H it (itHO it o) it = some (.ext _) from upd_same)
  have eD : ItX.dropH (upd H it (itHO it o)) it = H := ItX.dropH_upd hn
  have fp := ItX.inv_fp I1 (show upd H it (itHO it o) it = some (itHO it o) from upd_same) (Nat.le_trans I.sz hz)
  rw [eD] at hd fp
  refine ⟨it, [it], tn, J, H, rfl, hd, tT, t0 _ st, fun b hb => ?_, q⟩
  rw [List.mem_singleton.mp hb]
  exact fp
end
end Mp
set_option Elab.async false
set_option linter.all false
set_option maxRecDepth 100000
set_option maxHeartbeats 1000000
namespace Mp
open PySem PySem.Spec PyProof.Rows L2
variable {L : Lk}
/-! # What an iterator gives, and when -/
def Feeds (L : Lk) (J : It) (xs : List PV) (G : Hp) : Prop := ∀ i H G1, Same G G1 → Gd G1 H →
  (i = xs.length → J.stop i H) ∧ ∀ p, xs[i]? = some p → J.go i H ∧ ∀ x H', J.yld i H x H' → ∃ G2, Ext G1 H G2 H' ∧ Rep L G2 p x
/-- .. where nothing is new -/
theorem Feeds.still {J : It} {xs : List PV} {vs : List V} {G : Hp} (r : Reps L G xs vs) (hs : ∀ i H G1, Same G G1 → Gd G1 H → i = vs.length → J.stop i H) (hg : ∀ i H G1 v, Same G G1 → Gd G1 H → vs[i]? = some v → J.go i H ∧ ∀ x H', J.yld i H x H' → H' = H ∧ x = v) : Feeds L J xs G := fun i H G1 s gd => by
  refine ⟨fun e => hs i H G1 s gd (by rw [e, r.length]), fun p e => ?_⟩
  obtain ⟨v, e1, h⟩ := r.get e
  obtain ⟨h1, h2⟩ := hg i H G1 v s gd e1
  refine ⟨h1, fun x H' y => ?_⟩
  obtain ⟨rfl, rfl⟩ := h2 x H' y
  exact ⟨G1, Ext.refl gd, h.mono s⟩
theorem feeds_list {G : Hp} {a : Addr} {xs : List PV} {ys : List V} (h : ∀ G1 H, Same G G1 → Gd G1 H → SqL L.K H a ys) (r : Reps L G xs ys) : Feeds L (Itl L.K a) xs G :=
  Feeds.still r (fun i H G1 s gd e => ⟨ys, h G1 H s gd, by omega⟩) fun i H G1 v s gd e => ⟨⟨ys, v, h G1 H s gd, e⟩, fun x H' ⟨e1, y⟩ => ⟨e1, by
    have := y ys (h G1 H s gd)
    rw [e] at this
    exact (Option.some.inj this).symm⟩⟩
theorem feeds_tup {G : Hp} {a : Addr} {xs : List PV} {ys : List V} (h : ∀ G1 H, Same G G1 → Gd G1 H → SqT L.K H a ys) (r : Reps L G xs ys) : Feeds L (Itt L.K a) xs G :=
  Feeds.still r (fun i H G1 s gd e => ⟨ys, h G1 H s gd, by omega⟩) fun i H G1 v s gd e => ⟨⟨ys, v, h G1 H s gd, e⟩, fun x H' ⟨e1, y⟩ => ⟨e1, by
    have := y ys (h G1 H s gd)
    rw [e] at this
    exact (Option.some.inj this).symm⟩⟩
theorem feeds_str {G : Hp} {s : List Nat} (ok : OkS s) : Feeds L (Its ⟨s.toArray⟩) (s.map fun c => .str [c]) G := by
  refine Feeds.still (chars_reps ok) (fun i H G1 s' gd e => ?_) fun i H G1 v s' gd e => ⟨?_, fun x H' ⟨e1, c, e2, e3⟩ => ⟨e1, ?_⟩⟩
  · show s.toArray.size ≤ i
    simp at e ⊢
    omega
  · rw [List.getElem?_map, Option.map_eq_some_iff] at e
    obtain ⟨c, e, _⟩ := e
    show i < s.toArray.size
    simpa using (List.getElem?_eq_some_iff.mp e).1
  · have e2 : s[i]? = some c := by simpa using e2
    rw [List.getElem?_map, e2] at e
    cases e
    exact e3
theorem rangeP_len (a b : Int) : (rangeP a b).length = (b - a).toNat := by simp [rangeP]
theorem rangeP_get (a b : Int) {i : Nat} {p : PV} (h : (rangeP a b)[i]? = some p) : i < (b - a).toNat ∧ p = .int (a + (i : Nat)) := by
  unfold rangeP at h
  rw [List.getElem?_map, Option.map_eq_some_iff] at h
  obtain ⟨j, h1, rfl⟩ := h
  obtain ⟨h2, h3⟩ := List.getElem?_eq_some_iff.mp h1
  rw [List.getElem_range] at h3
  subst h3
  exact ⟨by simpa using h2, rfl⟩
theorem feeds_range {G : Hp} (a b : Int) : Feeds L (Itr a (b - a).toNat) (rangeP a b) G := fun i H G1 s gd => by
  refine ⟨fun e => by rw [rangeP_len] at e; exact Nat.le_of_eq e.symm, fun p e => ?_⟩
  obtain ⟨h1, rfl⟩ := rangeP_get a b e
  exact ⟨h1, fun x H' ⟨e1, e2⟩ => by subst e1 e2; exact ⟨G1, Ext.refl gd, rep_int.mpr rfl⟩⟩
theorem feeds_revR {G : Hp} (b : Int) : Feeds L (Itc (0 + (((b - 0).toNat : Nat) : Int) - 1) (-1) (b - 0).toNat) (rangeP 0 b).reverse G := fun i H G1 s gd => by
  refine ⟨fun e => by rw [List.length_reverse, rangeP_len] at e; exact Nat.le_of_eq e.symm, fun p e => ?_⟩
  have hi : i < (rangeP 0 b).length := by
    have := (List.getElem?_eq_some_iff.mp e).1
    simpa using this
  rw [List.getElem?_reverse hi] at e
  obtain ⟨h1, rfl⟩ := rangeP_get 0 b e
  rw [rangeP_len] at h1 hi ⊢
  refine ⟨hi, fun x H' ⟨e1, e2⟩ => ?_⟩
  subst e1 e2
  refine ⟨G1, Ext.refl gd, rep_int.mpr ?_⟩
  congr 1
  omega
/-- a new pair -/
theorem ext_pair {G H : Hp} {T : Addr} {ps : List PV} {vs : List V} (gd : Gd G H) (n : H T = none) (r : Reps L G ps vs) : ∃ G2, Ext G H G2 (upd H T (.tup vs)) ∧ Rep L G2 (.tup ps) (.ref T) :=
  RvPost.newT (Q := fun x H' => ∃ G2, Ext G H G2 H' ∧ Rep L G2 (.tup ps) x) gd n r fun v G' H' x q => ⟨G', x, q⟩
theorem enumFromP_len : ∀ (k : Nat) (xs : List PV), (enumFromP k xs).length = xs.length
  | _, [] => rfl
  | k, x :: xs => by simp [enumFromP, enumFromP_len (k + 1) xs]
theorem enumFromP_get : ∀ (k : Nat) (xs : List PV) {i : Nat} {p : PV}, (enumFromP k xs)[i]? = some p → ∃ q, xs[i]? = some q ∧ p = .tup [.int ((k + i : Nat) : Int), q]
  | k, [], i, p, h => by simp [enumFromP] at h
  | k, x :: xs, 0, p, h => by
    simp [enumFromP] at h
    exact ⟨x, rfl, by rw [← h]; simp⟩
  | k, x :: xs, i + 1, p, h => by
    obtain ⟨q, h1, h2⟩ := enumFromP_get (k + 1) xs (i := i) (p := p) (by simpa [enumFromP] using h)
    exact ⟨q, by simpa using h1, by rw [h2, Nat.add_right_comm]; exact congrArg (fun z : Nat => PV.tup [PV.int (z : Int), q]) (Nat.add_assoc k i 1)⟩
theorem feeds_enum {G : Hp} {S : Src} {xs : List PV} (h : ∀ G1 H, Same G G1 → Gd G1 H → S.at_ L.K H) (r : Reps L G xs S.items) : Feeds L (Ien L.K S) (enumFromP 0 xs) G := fun i H G1 s gd => by
  refine ⟨fun e => ⟨h G1 H s gd, by rw [enumFromP_len] at e; rw [e, r.length]⟩, fun p e => ?_⟩
  obtain ⟨q, e1, rfl⟩ := enumFromP_get 0 xs e
  obtain ⟨v, e2, hv⟩ := r.get e1
  refine ⟨⟨h G1 H s gd, (List.getElem?_eq_some_iff.mp e2).1⟩, fun x H' ⟨T, y, ex, n, eH, ey⟩ => ?_⟩
  rw [e2] at ey
  cases ey
  subst ex eH
  exact ext_pair gd n (reps_cons.mpr ⟨_, _, rfl, rep_int.mpr (by simp), Reps.one (hv.mono s)⟩)
theorem zipP_len : ∀ (xs ys : List PV), (zipP xs ys).length = min xs.length ys.length
  | [], ys => by cases ys <;> simp [zipP]
  | x :: xs, [] => by simp [zipP]
  | x :: xs, y :: ys => by simp [zipP, zipP_len xs ys]
theorem zipP_get : ∀ (xs ys : List PV) {i : Nat} {p : PV}, (zipP xs ys)[i]? = some p → ∃ q r, xs[i]? = some q ∧ ys[i]? = some r ∧ p = .tup [q, r]
  | [], ys, i, p, h => by cases ys <;> simp [zipP] at h
  | x :: xs, [], i, p, h => by simp [zipP] at h
  | x :: xs, y :: ys, 0, p, h => by
    simp [zipP] at h
    exact ⟨x, y, rfl, rfl, h.symm⟩
  | x :: xs, y :: ys, i + 1, p, h => by
    obtain ⟨q, r, h1, h2, h3⟩ := zipP_get xs ys (i := i) (p := p) (by simpa [zipP] using h)
    exact ⟨q, r, by simpa using h1, by simpa using h2, h3⟩
theorem feeds_zip {G : Hp} {S S' : Src} {xs ys : List PV} (h : ∀ G1 H, Same G G1 → Gd G1 H → S.at_ L.K H) (h' : ∀ G1 H, Same G G1 → Gd G1 H → S'.at_ L.K H) (r : Reps L G xs S.items) (r' : Reps L G ys S'.items) : Feeds L (Izp L.K S S') (zipP xs ys) G := fun i H G1 s gd => by
  have l1 := r.length
  have l2 := r'.length
  refine ⟨fun e => ⟨h G1 H s gd, h' G1 H s gd, ?_⟩, fun p e => ?_⟩
  · rw [zipP_len] at e
    omega
  · obtain ⟨q1, q2, e1, e2, rfl⟩ := zipP_get xs ys e
    obtain ⟨v1, e3, hv1⟩ := r.get e1
    obtain ⟨v2, e4, hv2⟩ := r'.get e2
    refine ⟨⟨h G1 H s gd, h' G1 H s gd, (List.getElem?_eq_some_iff.mp e3).1, (List.getElem?_eq_some_iff.mp e4).1⟩, fun x H' ⟨T, y, z, ex, n, eH, ey, ez⟩ => ?_⟩
    rw [e3] at ey
    rw [e4] at ez
    cases ey
    cases ez
    subst ex eH
    exact ext_pair gd n (reps_cons.mpr ⟨_, _, rfl, hv1.mono s, Reps.one (hv2.mono s)⟩)
/-! # Expressions that are walked -/
def tIt (L : Lk) (W : WX) (C : Cal) (it : Itx) : TI := fun σ H R => ∃ G ρ τ ts, τ.length = ts.length ∧ Fit L G H (τ ++ ρ) (ts ++ σ) ∧ BPost L W G τ ts σ (fun xs G' H' => ∀ J, Feeds L J xs G' → R J H') (evI C it ρ)
theorem _root_.L2.PI.imp {X : Cx} {tg iter : Expr} {t t' : TI} (h : PI X tg iter t) (i : ∀ σ H R, t' σ H R → t σ H R) : PI X tg iter t' := ⟨fun pins s σ H R I q => h.run pins s σ H R I (i σ H R q)⟩
section
variable {c : Chk} {C : Cal} {k : Nat} {X : Cx} {W : WX} {a b e : Ex} {l r m tg : Expr} {pos : Pos}
theorem srcOf {G : Hp} {p : PV} {v : V} {xs : List PV} (r : Rep L G p v) (e : itemsE p = some xs) : ∃ S : Src, S.val = v ∧ (∀ G1 H, Same G G1 → Gd G1 H → S.at_ L.K H) ∧ Reps L G xs S.items := by
  unfold itemsE at e
  split at e
  · cases e
    obtain ⟨a, ys, rfl, h1, h2⟩ := rep_lst.mp r
    exact ⟨.lst a ys, rfl, fun G1 H s gd => SqL.of (gd.sub _ _ (s _ _ h1)), h2⟩
  · cases e
    obtain ⟨a, ys, rfl, h1, h2⟩ := rep_tup.mp r
    exact ⟨.tup a ys, rfl, fun G1 H s gd => Same.seqT (Same.trans s gd.sub) h1, h2⟩
  · cases e
    obtain ⟨rfl, ok⟩ := rep_str.mp r
    exact ⟨.txt _, rfl, fun _ _ _ _ => trivial, chars_reps ok⟩
  · cases e
/-- a value that is handed to an iterator -/
theorem held {it : Ex} {R : It → Hp → Prop} {g : PV → Option (List PV)} (σ : L2.St) (H : Hp)
    (h : ∃ G ρ τ ts, τ.length = ts.length ∧ Fit L G H (τ ++ ρ) (ts ++ σ) ∧ BPost L W G τ ts σ (fun xs G' H' => ∀ J, Feeds L J xs G' → R J H') ((evE C it ρ).bind fun r ρ1 => liftO (r.seal ρ1) ((r.val ρ1).bind g))) :
    tEx L W C it σ H fun v H1 => ∃ G1 p xs, Gd G1 H1 ∧ Rep L G1 p v ∧ g p = some xs ∧ ∀ J, Feeds L J xs G1 → R J H1 := by
  obtain ⟨G, ρ, τ, ts, hl, f, h⟩ := h
  refine ⟨G, ρ, τ, ts, hl, f, h.bind (Same.refl _) fun r ρ1 _ h1 v G1 H1 s1 f1 b1 => ?_⟩
  obtain ⟨xs, e, h2⟩ := h1.lift
  obtain ⟨p, e1, e2⟩ := bindO e
  obtain ⟨G2, s2, f2, r2⟩ := Fit.seal1 hl f1 b1 e1
  exact ⟨G2, p, xs, f2.good, r2, e2, h2 G2 H1 (s1.trans s2) f2⟩
theorem i_val (S : Sup c C k L X W) (ha : PE X l (tEx L W C a)) : PI X tg l (tIt L W C (.val a)) := by
  refine ⟨fun pins s σ H R I h => ?_⟩
  refine thn (ha.run pins s σ H _ I (held σ H h)) fun u s1 ⟨x, H1, I1, r1, G1, p, xs, gd, rp, e, q⟩ => ?_
  unfold itemsC at e
  split at e
  · cases e
    obtain ⟨ad, ys, rfl, h1, h2⟩ := rep_lst.mp rp
    cases r1
    have hq : SqL X.K H1 ad ys := SqL.of (gd.sub _ _ h1)
    obtain ⟨its, rv, pl, hz⟩ := I1.list hq
    have fd := feeds_list (L := L) (a := ad) (fun G2 H s g => SqL.of (g.sub _ _ (s _ _ h1))) h2
    rw [S.hL] at fd
    exact wpAny_pyIter_list pl.isList (pi_one (tk := s1.toks) I1 _ (turn_list ad _) ⟨_, Heap.get?_push_size _ rfl, rfl, rfl⟩ (q _ fd))
  · cases e
    obtain ⟨ad, ys, rfl, h1, h2⟩ := rep_tup.mp rp
    cases r1
    have fd := feeds_tup (L := L) (a := ad) (fun G2 H s g => Same.seqT (Same.trans s g.sub) h1) h2
    have hq : SqT X.K H1 ad ys := by rw [← S.hL]; exact Same.seqT gd.sub h1
    rw [S.hL] at fd
    obtain ⟨its, rv, pl, hz⟩ := I1.tuple hq
    exact wpAny_pyIter_tuple (show s1.heap.IsTuple ad its.toArray from pl) (pi_one (tk := s1.toks) I1 _ (turn_tuple ad _) ⟨_, Heap.get?_push_size _ rfl, rfl, rfl⟩ (q _ fd))
  · cases e
    obtain ⟨rfl, ok⟩ := rep_str.mp rp
    obtain ⟨t, rfl⟩ := r1
    have fd := feeds_str (L := L) (G := G1) ok
    exact wpAny_pyIter_strU (pi_one (tk := s1.toks) I1 _ (turn_str _ _ t (strIterType _) (by unfold strIterType; split; exact .inl rfl; exact .inr rfl)) ⟨_, Heap.get?_push_size _ rfl, rfl, rfl⟩ (q _ fd))
  · cases e
    obtain ⟨ad, rfl, h1⟩ := rep_scr.mp rp
    cases r1
    have fd := feeds_list (L := L) (G := G1) (a := ad) (fun G2 H s g => Same.seq (Same.trans s g.sub) h1) (reps_ints.mpr rfl)
    have hq := Same.seq gd.sub h1
    rw [S.hL] at hq
    rw [S.hL] at fd
    obtain ⟨its, rv, pl, hz⟩ := I1.list hq
    exact wpAny_pyIter_list pl.isList (pi_one (tk := s1.toks) I1 _ (turn_list ad _) ⟨_, Heap.get?_push_size _ rfl, rfl, rfl⟩ (q _ fd))
  · rename_i ci fs
    obtain ⟨j, ej, e⟩ := bindO e
    obtain ⟨p0, ep, e⟩ := bindO e
    obtain ⟨hk, hm, fi, y, D, hy, nd, cl, na⟩ := S.it ci j ej
    obtain ⟨ad, dx, ys, rfl, h1, _, h2⟩ := rep_obj.mp rp
    cases r1
    obtain ⟨v0, ev, hv⟩ := h2.get ep
    have e' : itemsE p0 = some xs := by cases p0 <;> first | exact e | cases e
    obtain ⟨Z, ez, hat, hr⟩ := srcOf hv e'
    have at1 : Z.at_ X.K H1 := by rw [← S.hL]; exact hat G1 H1 (Same.refl _) gd
    have hr1 : Room (k - 1 + 1) X.A := by rw [Nat.sub_add_cancel hk]; exact S.room
    have fin : ∀ J, Feeds L J xs G1 → (∀ it h, Z.st it 0 h → ∃ T o, h.get? it = some o ∧ o.cls = .type T ∧ (∃ id, PySem.Slot T "__next__" id)) → (∀ it, ∃ tn, Turn X.prog X.w X.K tg J [it] it tn ∧ ∀ h, Z.st it 0 h → tn 0 h) → wpAny (model X.prog X.w) X.A (pyIter (.ref ad)) (PIE X pins σ tg R) X.xe s1 := fun J fd h3 h4 =>
      own_walk D cl na hm hr1 S.tk I1 (gd.sub _ _ h1) (zip_lookup nd hy (by rw [ez]; exact ev)) at1 h3 h4 (q J fd)
    cases Z with
    | lst b zs =>
      have fd := feeds_list (L := L) (a := b) hat hr
      rw [S.hL] at fd
      exact fin _ fd (fun it h st => by obtain ⟨o, e1, e2, _⟩ := (show h.IsListIter it b 0 from st); exact ⟨_, o, e1, e2, _, slot_listiter_next⟩) fun it => ⟨_, turn_list b it, fun h st => st⟩
    | tup b zs =>
      have fd := feeds_tup (L := L) (a := b) hat hr
      rw [S.hL] at fd
      exact fin _ fd (fun it h st => by obtain ⟨o, e1, e2, _⟩ := (show h.IsTupleIter it b 0 from st); exact ⟨_, o, e1, e2, _, PySem.F.slot_tuple_iterator_next⟩) fun it => ⟨_, turn_tuple b it, fun h st => st⟩
    | txt z =>
      subst ez
      cases p0 with
      | lst _ => obtain ⟨_, _, w, _⟩ := rep_lst.mp hv; cases w
      | tup _ => obtain ⟨_, _, w, _⟩ := rep_tup.mp hv; cases w
      | _ => cases e
  · cases e
theorem star_one (h : notStar l = true) : starEach [l] X.env = [(false, eval l X.env)] := by rw [star_of h]; rfl
theorem i_enum (S : Sup c C k L X W) {elts : List Expr} {kk : Nat} {tpos p : Pos} (hg : glB X.env.scope "enumerate" = true) (hst : notStar l = true) (ha : PE X l (tEx L W C a)) : PI X (.Tuple elts kk tpos) (.Call (.Name "enumerate" p) [l] [] pos) (tIt L W C (.enum a)) := by
  obtain ⟨g1, _⟩ := gl_of hg
  have hm := S.blt "enumerate" (by decide +kernel)
  refine ⟨fun pins s σ H R I h => ?_⟩
  have h' := held (g := fun p => (itemsE p).map (enumFromP 0)) σ H (by
    obtain ⟨G, ρ, τ, ts, hl, f, h⟩ := h
    refine ⟨G, ρ, τ, ts, hl, f, ?_⟩
    unfold evI at h
    have : (fun (r : Rv) (ρ1 : List Slot) => liftO (r.seal ρ1) (((r.val ρ1).bind itemsE).map (enumFromP 0))) = fun r ρ1 => liftO (r.seal ρ1) ((r.val ρ1).bind fun p => (itemsE p).map (enumFromP 0)) := by
      funext r ρ1
      cases r.val ρ1 <;> rfl
    rw [this] at h
    exact h)
  have run := (pa_cons ha pa_nil (star_of hst)).run pos pins s σ H (onlyOne fun v H1 => ∃ G1 p xs, Gd G1 H1 ∧ Rep L G1 p v ∧ (itemsE p).map (enumFromP 0) = some xs ∧ ∀ J, Feeds L J xs G1 → R J H1) I h'
  refine Call_ (ld_blt I g1 hm boot_enumerate (PyProof.Rows.callWith_type1 (thn run fun us s1 ⟨vs, H1, I1, r1, q1⟩ => ?_) (star_one hst) rfl))
  obtain ⟨v, rfl, G1, p1, xs, gd, rp, e, q⟩ := onlyOne_of q1
  obtain ⟨u, rfl, ru⟩ := r1.one
  obtain ⟨ys, e1, rfl⟩ := mapO e
  obtain ⟨Z, ez, hat, hr⟩ := srcOf rp e1
  have at1 : Z.at_ X.K H1 := by rw [← S.hL]; exact hat G1 H1 (Same.refl _) gd
  have fd := feeds_enum hat hr
  rw [S.hL] at fd
  obtain ⟨o, Hb, bg, hb, hit⟩ := Src.begins I1 at1 (by rw [ez]; exact ru)
  have lt := Src.lt I1 at1
  refine mp_call_enum bg hb fun h' he ho hk => wpAny_pyIter_enum he ?_
  have I2 : Inv X pins σ H1 { s1 with heap := h' } := I1.kept (t' := s1.toks) hk
  refine ⟨s1.heap.objs.size + 1, [s1.heap.objs.size + 1, s1.heap.objs.size], _, _, H1, rfl, I2, turn_en Z (s1.heap.objs.size + 1) s1.heap.objs.size (Nat.succ_ne_self _) (fun b hb => Nat.ne_of_lt (Nat.lt_succ_of_lt (lt b hb))) (fun b hb => Nat.ne_of_lt (lt b hb)), ⟨⟨.none, he⟩, hit _ _ ho⟩, fun b hb => ?_, q _ fd⟩
  have hle : s1.heap.objs.size ≤ b := by
    rcases List.mem_cons.mp hb with z | hb
    · rw [z]; exact Nat.le_succ _
    · rw [List.mem_singleton.mp hb]; exact Nat.le_refl _
  exact I1.fpOk hle (I1.hok.fresh hle)
theorem i_zip (S : Sup c C k L X W) {elts : List Expr} {kk : Nat} {tpos p : Pos} (hg : glB X.env.scope "zip" = true) (hst : notStar l = true) (hst2 : notStar r = true) (ha : PE X l (tEx L W C a)) (hb : PE X r (tEx L W C b)) : PI X (.Tuple elts kk tpos) (.Call (.Name "zip" p) [l, r] [] pos) (tIt L W C (.zip a b)) := by
  obtain ⟨g1, _⟩ := gl_of hg
  have hm := S.blt "zip" (by decide +kernel)
  refine ⟨fun pins s σ H R I h => ?_⟩
  obtain ⟨G, ρ, τ, ts, hl, f, h⟩ := h
  have h' : tEx L W C a σ H fun v H1 => tEx L W C b σ H1 fun w H2 => ∃ G2 p1 p2 xs ys, Gd G2 H2 ∧ Rep L G2 p1 v ∧ Rep L G2 p2 w ∧ itemsE p1 = some xs ∧ itemsE p2 = some ys ∧ ∀ J, Feeds L J (zipP xs ys) G2 → R J H2 := by
    refine ⟨G, ρ, τ, ts, hl, f, h.bind (Same.refl _) fun ra ρ1 ea h1 v1 G1 H1 s1 f1 b1 => ⟨G1, ρ1, ra.cell :: τ, some v1 :: ts, by simp [hl], f1, h1.bind s1 fun rb ρ2 eb h2 v2 G2 H2 s2 f2 b2 => ?_⟩⟩
    split at h2
    · rename_i p1 p2 ρ3 hs
      obtain ⟨zs, e, h3⟩ := h2.lift
      obtain ⟨xs, e1, e⟩ := bindO e
      obtain ⟨ys, e2, rfl⟩ := mapO e
      have f2' : Fit L G2 H2 (stk [ra, rb] τ ++ ρ2) (vstk [v1, v2] ts ++ σ) := f2
      obtain ⟨G3, s3, f3, r3⟩ := Fit.sealAll hl f2' (.cons b1 (.cons b2 .nil)) hs
      obtain ⟨_, _, e5, r5, r6⟩ := reps_cons.mp r3
      cases e5
      obtain ⟨_, _, e5, r7, r8⟩ := reps_cons.mp r6
      cases e5
      exact ⟨G3, p1, p2, xs, ys, f3.good, r5, r7, e1, e2, h3 G3 H2 ((s1.trans s2).trans s3) f3⟩
    · exact h2.elim
  have run := (pa_cons ha (pa_cons hb pa_nil (star_of hst2)) (star_of hst)).run pos pins s σ H (onlyTwo fun v w H2 => ∃ G2 p1 p2 xs ys, Gd G2 H2 ∧ Rep L G2 p1 v ∧ Rep L G2 p2 w ∧ itemsE p1 = some xs ∧ itemsE p2 = some ys ∧ ∀ J, Feeds L J (zipP xs ys) G2 → R J H2) I h'
  have hpl : (backTo pos (starEach [r] X.env)).any (·.1) = false := star_any (by simp [hst2])
  refine Call_ (ld_blt I g1 hm boot_zip (PyProof.Rows.callWith_type1 (thn run fun us s1 ⟨vs, H1, I1, r1, q1⟩ => ?_) (star_of hst) hpl))
  obtain ⟨v, w', rfl, G2, p1, p2, xs, ys, gd, rp, rp2, e1, e2, q⟩ := onlyTwo_of q1
  obtain ⟨u, u2, rfl, ru, ru2⟩ := vals2 r1
  obtain ⟨Z, ez, hat, hr⟩ := srcOf rp e1
  obtain ⟨Z2, ez2, hat2, hr2⟩ := srcOf rp2 e2
  have at1 : Z.at_ X.K H1 := by rw [← S.hL]; exact hat G2 H1 (Same.refl _) gd
  have at2 : Z2.at_ X.K H1 := by rw [← S.hL]; exact hat2 G2 H1 (Same.refl _) gd
  have fd := feeds_zip hat hat2 hr hr2
  rw [S.hL] at fd
  obtain ⟨o, Hb, bg, hb1, hit⟩ := Src.begins I1 at1 (by rw [ez]; exact ru)
  obtain ⟨o2, Hb2, bg2, hb2, hit2⟩ := Src.begins I1 at2 (by rw [ez2]; exact ru2)
  have lt := Src.lt I1 at1
  have lt2 := Src.lt I1 at2
  refine zip_begins2 bg bg2 hb1 hb2 fun h' hz hTI hTO ho ho2 hsz hk => wpAny_pyIter_zip hz ?_
  have I2 : Inv X pins σ H1 { s1 with heap := h' } := I1.kept (t' := s1.toks) hk
  refine ⟨s1.heap.objs.size + 4, [s1.heap.objs.size + 4, s1.heap.objs.size + 2, s1.heap.objs.size + 3, s1.heap.objs.size, s1.heap.objs.size + 1], _, _, H1, rfl, I2, turn_zp Z Z2 (zip_sep2 lt lt2) (fun b hb => Nat.ne_of_lt (lt b hb)) (fun b hb => Nat.ne_of_lt (Nat.lt_succ_of_lt (lt2 b hb))), ⟨hz, hTI, ⟨_, _, hTO⟩, hit _ _ ho, hit2 _ _ ho2⟩, fun b hb => ?_, q _ fd⟩
  have hle : s1.heap.objs.size ≤ b := by
    have hb' : b = s1.heap.objs.size + 4 ∨ b = s1.heap.objs.size + 2 ∨ b = s1.heap.objs.size + 3 ∨ b = s1.heap.objs.size ∨ b = s1.heap.objs.size + 1 := by simpa using hb
    rcases hb' with z | z | z | z | z <;> rw [z] <;> first | exact Nat.le_add_right _ _ | exact Nat.le_refl _
  exact I1.fpOk hle (I1.hok.fresh hle)
theorem rangeOk_of {x y : Int} (h : rangeOk x y = true) : -(2 ^ 62) ≤ x ∧ x < 2 ^ 62 ∧ -(2 ^ 62) ≤ y ∧ y < 2 ^ 62 := by
  unfold rangeOk at h
  simp only [Bool.and_eq_true, decide_eq_true_eq] at h
  obtain ⟨h1, h2⟩ := h
  omega
theorem i_range1 (S : Sup c C k L X W) {p : Pos} (hg : glB X.env.scope "range" = true) (hst : notStar l = true) (ha : PE X l (tEx L W C a)) : PI X tg (.Call (.Name "range" p) [l] [] pos) (tIt L W C (.range1 a)) := by
  obtain ⟨g1, _⟩ := gl_of hg
  refine (pi_range1 g1 (S.blt "range" (by decide +kernel)) (pa_cons ha pa_nil (star_of hst)) (star_one hst)).imp fun σ H R ⟨G, ρ, τ, ts, hl, f, h⟩ => ⟨G, ρ, τ, ts, hl, f, h.bind (Same.refl _) fun r ρ1 _ h1 v G1 H1 s1 f1 b1 => ?_⟩
  split at h1
  · split at h1
    · rename_i n _ hr
      obtain rfl := int_of f1
      obtain ⟨k1, k2, k3, k4⟩ := rangeOk_of hr
      have fd := feeds_range (L := L) (G := G1) 0 n
      rw [Int.sub_zero] at fd
      exact ⟨n, rfl, k3, k4, h1 G1 H1 s1 f1.tail _ fd⟩
    · exact h1.elim
  · exact h1.elim
theorem i_range2 (S : Sup c C k L X W) {p : Pos} (hg : glB X.env.scope "range" = true) (hst : notStar l = true) (hst2 : notStar r = true) (ha : PE X l (tEx L W C a)) (hb : PE X r (tEx L W C b)) : PI X tg (.Call (.Name "range" p) [l, r] [] pos) (tIt L W C (.range2 a b)) := by
  obtain ⟨g1, _⟩ := gl_of hg
  refine (pi_range2 g1 (S.blt "range" (by decide +kernel)) (pa_cons ha (pa_cons hb pa_nil (star_of hst2)) (star_of hst)) (by rw [star_of hst, star_of hst2]; rfl) (star_one hst2)).imp fun σ H R ⟨G, ρ, τ, ts, hl, f, h⟩ => ⟨G, ρ, τ, ts, hl, f, h.bind (Same.refl _) fun ra ρ1 _ h1 v1 G1 H1 s1 f1 b1 => ⟨G1, ρ1, ra.cell :: τ, some v1 :: ts, by simp [hl], f1, h1.bind s1 fun rb ρ2 eb h2 v2 G2 H2 s2 f2 b2 => ?_⟩⟩
  split at h2
  · split at h2
    · rename_i m n _ hr
      obtain rfl := int_of (τ := [] ++ _) f2
      obtain rfl := int_of f2.tail
      exact ⟨m, n, rfl, rangeOk_of hr, h2 G2 H2 (s1.trans s2) f2.tail.tail _ (feeds_range m n)⟩
    · exact h2.elim
  · exact h2.elim
theorem i_revR (S : Sup c C k L X W) {p p2 pos2 : Pos} (hg : glB X.env.scope "reversed" = true) (hg2 : glB X.env.scope "range" = true) (hst : notStar l = true) (ha : PE X l (tEx L W C a)) :
    PI X tg (.Call (.Name "reversed" p) [.Call (.Name "range" p2) [l] [] pos2] [] pos) (tIt L W C (.revR a)) := by
  obtain ⟨g1, _⟩ := gl_of hg
  obtain ⟨g2, _⟩ := gl_of hg2
  refine (pi_revR g1 (S.blt "reversed" (by decide +kernel)) (prg_1 g2 (S.blt "range" (by decide +kernel)) ha (star_of hst)) rfl).imp fun σ H R ⟨G, ρ, τ, ts, hl, f, h⟩ => ⟨G, ρ, τ, ts, hl, f, h.bind (Same.refl _) fun r ρ1 _ h1 v G1 H1 s1 f1 b1 => ?_⟩
  split at h1
  · split at h1
    · rename_i n _ hr
      obtain rfl := int_of f1
      obtain ⟨k1, k2, k3, k4⟩ := rangeOk_of hr
      exact ⟨n, rfl, k1, k2, k3, k4, h1 G1 H1 s1 f1.tail _ (feeds_revR n)⟩
    · exact h1.elim
  · exact h1.elim
end
end Mp
set_option Elab.async false
set_option linter.all false
set_option maxRecDepth 100000
set_option maxHeartbeats 1000000
namespace Mp
open PySem PySem.Spec PyProof.Rows L2
variable {L : Lk}
section
variable {c : Chk} {C : Cal} {k : Nat} {X : Cx} {W : WX} {a b e : Ex} {l r m tg : Expr} {pos : Pos}
/-! ## isinstance -/
theorem TyK.boot (q : TyK) (h : q.plainK = true) : bootBuiltins q.name = some (.type q.ty) ∧ q.name ≠ "__name__" ∧ (q.name == ("__debug__" : Str)) = false ∧ q.name ∈ bltNames := by
  cases q <;> first | exact ⟨by decide +kernel, by decide +kernel, by decide +kernel, by decide +kernel⟩ | cases h
theorem isi_ok (hL : L.K = X.K) {G H : Hp} {q : TyK} {p : PV} {v : V} {t : Bool} (gd : Gd G H) (ar : Arg L G H p v) (e : isiF q p = some t) :
    ∃ ty : Value, TyX X.K H v ty ∧ PySem.W.kitOne X.K ty (.type q.ty) = some t := by
  cases p with
  | non => rw [ar.non]; refine ⟨_, .base .non, kit_ty ?_⟩; cases q <;> cases e <;> decide +kernel
  | bl y => rw [ar.bl]; refine ⟨_, .base (.bl _), kit_ty ?_⟩; cases q <;> cases e <;> decide +kernel
  | int y => rw [ar.int]; refine ⟨_, .base (.int _), kit_ty ?_⟩; cases q <;> cases e <;> decide +kernel
  | str y => obtain ⟨rfl, _⟩ := ar.str; refine ⟨_, .base (.str _), kit_ty ?_⟩; cases q <;> cases e <;> decide +kernel
  | tup y =>
    obtain ⟨ad, ys, rfl, _, h, _⟩ := ar.tup gd
    rw [hL] at h
    have kk : PySem.W.kitOne X.K (.type "tuple") (.type q.ty) = some t := by
      refine kit_ty ?_
      cases q <;> cases e <;> decide +kernel
    rcases h with (h | ⟨o, h⟩) | ⟨o, its, n, h1, h2, _⟩
    · exact ⟨_, .base (.tup h), kk⟩
    · exact ⟨_, .fTuple h, kk⟩
    · exact ⟨_, .kTuple h1 h2, kk⟩
  | lst y =>
    obtain ⟨ad, ys, rfl, h, _⟩ := ar.lst gd
    refine ⟨_, .base (.lst h), kit_ty ?_⟩
    cases q <;> cases e <;> decide +kernel
  | obj y z => cases q <;> cases e
  | scr y => cases q <;> cases e
theorem c_isi (S : Sup c C k L X W) {q : TyK} {p py : Pos} (hg : glB X.env.scope "isinstance" = true) (hq : q.plainK = true) (hg2 : glB X.env.scope q.name = true) (hst : notStar l = true) (ha : PE X l (tEx L W C a)) :
    PE X (.Call (.Name "isinstance" p) [l, .Name q.name py] [] pos) (tEx L W C (.isi a q)) := by
  obtain ⟨g1, n1⟩ := gl_of hg
  obtain ⟨g2, n2⟩ := gl_of hg2
  obtain ⟨b1, b2, b3, b4⟩ := q.boot hq
  have hty := pe_bltn (pos := py) (v := .ty q.ty) g2 (S.blt _ b4) b1 rfl b2 b3
  refine (pe_callB call_isi g1 (S.blt "isinstance" (by decide +kernel)) (by decide +kernel) (pa_cons ha (pa_cons hty pa_nil rfl) (star_of hst)) (by decide +kernel) n1 (star_of hst) rfl).imp fun σ H Q ⟨G, ρ, τ, ts, hl, f, h⟩ =>
    ⟨G, ρ, τ, ts, hl, f, h.bind (Same.refl _) fun ra ρ1 _ h1 v1 G1 H1 s1 f1 w1 => ?_⟩
  obtain ⟨x, e, h2⟩ := h1.lift
  obtain ⟨p, e1, e⟩ := bindO e
  obtain ⟨t, e2, rfl⟩ := mapO e
  obtain ⟨ty, t1, t2⟩ := isi_ok S.hL f1.good (argOf hl f1.tail f1.head w1 e1) e2
  exact ⟨_, _, ty, _, t, rfl, .ty _, t1, t2, h2.giveF s1 f1.tail (rep_bl.mpr rfl)⟩
/-! ## a list that is changed -/
theorem Fit.mut {G H : Hp} {τ ρ : List Slot} {ts : List (Option V)} {σ : L2.St} {i : Nat} {p q : PV} {ad : Addr} {o : HO} (hl : τ.length = ts.length) (f : Fit L G H (τ ++ ρ) (ts ++ σ)) (e : getS ρ i = .ow p) (ea : σ[i]? = some (some (.ref ad))) (w : Ownable o)
    (h : OwnAt L G (upd H ad o) q ad) : Fit L G (upd H ad o) (τ ++ setS ρ i (.ow q)) (ts ++ σ) := by
  have := f.change (i := τ.length + i) (q := q) (by rw [app_at]; exact getS_ow e) (by rw [hl, app_atO]; exact ea) w h
  rwa [set_app] at this
theorem muStart {G H : Hp} {τ ρ : List Slot} {ts : List (Option V)} {σ : L2.St} {i : Nat} {xs : List PV} (hl : τ.length = ts.length) (f : Fit L G H (τ ++ ρ) (ts ++ σ)) (e : getS ρ i = .ow (.lst xs)) : ∃ ad ys, σ[i]? = some (some (.ref ad)) ∧ H ad = some (.lst ys) ∧ Reps L G xs ys := by
  obtain ⟨o, e1, ad, e2, n, ys, h1, h2⟩ := f.slot hl (getS_ow e)
  subst e2
  exact ⟨ad, ys, e1, h1, h2⟩
theorem evE_mu (m : Mu) (i : Nat) (es : Exs) (ρ : List Slot) : evE C (.mu m i es) ρ = (match getS ρ i with
    | .ow (.lst _) => (evEs C es ρ).bind fun rs ρ1 => match sealAll rs ρ1 with
      | some (ps, ρ2) => (match getS ρ2 i with
        | .ow (.lst xs) => (match muF m xs ps with
          | some (ys, p) => .ok (.fz p) (setS ρ2 i (.ow (.lst ys)))
          | none => .stuck)
        | _ => .stuck)
      | none => .stuck
    | _ => .stuck) := rfl
theorem mu_start {mu : Mu} {i : Nat} {es : Exs} {σ : L2.St} {H : Hp} {Q : VK} (h : tEx L W C (.mu mu i es) σ H Q) : ∃ ad ys, σ[i]? = some (some (.ref ad)) ∧ H ad = some (.lst ys) := by
  obtain ⟨G, ρ, τ, ts, hl, f, h⟩ := h
  rw [evE_mu] at h
  split at h
  · rename_i xs e
    obtain ⟨ad, ys, e1, h1, _⟩ := muStart hl f e
    exact ⟨ad, ys, e1, h1⟩
  · exact h.elim
/-- behind the arguments -/
theorem mu_args {mu : Mu} {i : Nat} {es : Exs} {σ : L2.St} {H : Hp} {Q : VK} {ad : Addr} (h : tEx L W C (.mu mu i es) σ H Q) (ha : σ[i]? = some (some (.ref ad))) :
    tEs L W C es σ H fun vs H2 => ∃ G2 xs ps ys r ws, H2 ad = some (.lst ws) ∧ Reps L G2 xs ws ∧ Reps L G2 ps vs ∧ muF mu xs ps = some (ys, r) ∧ ∀ v us, Rep L G2 r v → Reps L G2 ys us → Q v (upd H2 ad (.lst us)) := by
  obtain ⟨G, ρ, τ, ts, hl, f, h⟩ := h
  rw [evE_mu] at h
  split at h
  · refine sealed σ H Q _ ⟨G, ρ, τ, ts, hl, f, h⟩ fun G τ ts ps ρ2 vs G2 H2 hl h2 s2 f2 r2 => ?_
    split at h2
    · rename_i xs e
      split at h2
      · rename_i ys r em
        obtain ⟨ad', ws, e1, h3, h4⟩ := muStart hl f2 e
        rw [ha] at e1
        cases e1
        exact ⟨G2, xs, ps, ys, r, ws, h3, h4, r2, em, fun v us hv hu => h2.giveF s2 (f2.mut hl e ha trivial ⟨us, upd_same, hu⟩) hv⟩
      · exact h2.elim
    · exact h2.elim
  · exact h.elim
theorem Reps.dropLast {G : Hp} {ps : List PV} {vs : List V} (h : Reps L G ps vs) : Reps L G ps.dropLast vs.dropLast := by
  rw [List.dropLast_eq_take, List.dropLast_eq_take, h.length]
  exact h.take _
theorem muF_append {xs ps ys : List PV} {r : PV} (h : muF .append xs ps = some (ys, r)) : ∃ p, ps = [p] ∧ xs.length < LINE ∧ ys = xs ++ [p] ∧ r = .non := by
  cases ps with
  | nil => cases h
  | cons p t =>
    cases t with
    | cons _ _ => cases h
    | nil =>
      have h : (if decide (xs.length < LINE) = true then some (xs ++ [p], PV.non) else none) = some (ys, r) := h
      split at h
      · rename_i hz
        cases h
        exact ⟨p, rfl, of_decide_eq_true hz, rfl, rfl⟩
      · cases h
theorem muF_pop {xs ps ys : List PV} {r : PV} (h : muF .pop xs ps = some (ys, r)) : ps = [] ∧ xs[xs.length - 1]? = some r ∧ ys = xs.dropLast := by
  cases ps with
  | cons _ _ => cases h
  | nil =>
    have h : (xs[xs.length - 1]?).map (fun p => (xs.dropLast, p)) = some (ys, r) := h
    obtain ⟨q, e2, e3⟩ := mapO h
    cases e3
    exact ⟨rfl, e2, rfl⟩
theorem muF_popAt {xs ps ys : List PV} {r : PV} (h : muF .popAt xs ps = some (ys, r)) : ∃ i j, ps = [.int i] ∧ -9223372036854775808 ≤ i ∧ i < 9223372036854775808 ∧ ixN xs.length i = some j ∧ xs[j]? = some r ∧ ys = xs.eraseIdx j := by
  cases ps with
  | nil => cases h
  | cons p t =>
    cases t with
    | cons _ _ => cases p <;> cases h
    | nil =>
      cases p with
      | int i =>
        have h : (if (decide (i.natAbs < 9223372036854775808)) = true then (ixN xs.length i).bind fun k => (xs[k]?).map fun p => (xs.eraseIdx k, p) else none) = some (ys, r) := h
        split at h
        · rename_i hz
          simp only [decide_eq_true_eq] at hz
          obtain ⟨j, e1, h⟩ := bindO h
          obtain ⟨q, e2, e3⟩ := mapO h
          cases e3
          exact ⟨i, j, rfl, by omega, by omega, e1, e2, rfl⟩
        · cases h
      | _ => cases h
theorem muF_reverse {xs ps ys : List PV} {r : PV} (h : muF .reverse xs ps = some (ys, r)) : ps = [] ∧ ys = xs.reverse ∧ r = .non := by
  cases ps with
  | cons _ _ => cases h
  | nil => cases h; exact ⟨rfl, rfl, rfl⟩
theorem muF_clear {xs ps ys : List PV} {r : PV} (h : muF .clear xs ps = some (ys, r)) : ps = [] ∧ ys = [] ∧ r = .non := by
  cases ps with
  | cons _ _ => cases h
  | nil => cases h; exact ⟨rfl, rfl, rfl⟩
/-- what such a method does -/
def rMu (L : Lk) (mu : Mu) : V → List V → Hp → VK → Prop := fun x vs H Q => ∃ G xs ps ys r ad ws, x = .ref ad ∧ H ad = some (.lst ws) ∧ Reps L G xs ws ∧ Reps L G ps vs ∧ muF mu xs ps = some (ys, r) ∧ ∀ v us, Rep L G r v → Reps L G ys us → Q v (upd H ad (.lst us))
theorem mu_ok (mu : Mu) (hm : mu.some_ = true ∨ mu.none_ = true) : MtM X mu.id (rMu L mu) := by
  intro pins s σ H x vs v us Q I rx rv ⟨G, xs, ps, ys, r, ad, ws, ex, a1, a2, a3, a4, a5⟩
  cases mu with
  | append =>
    obtain ⟨p, rfl, hz, rfl, rfl⟩ := muF_append a4
    obtain ⟨y, _, rfl, hy, hr⟩ := reps_cons.mp a3
    obtain rfl := reps_nil.mp hr
    exact mt_append pins s σ H x _ v us Q I rx rv ⟨ad, ws, y, ex, rfl, a1, by rw [← a2.length, sizeLine_eq]; exact hz, a5 .non _ (rep_non.mpr rfl) (a2.append a3)⟩
  | popAt =>
    obtain ⟨i, j, rfl, h1, h2, h3, h4, rfl⟩ := muF_popAt a4
    obtain ⟨y, _, rfl, hy, hr⟩ := reps_cons.mp a3
    obtain rfl := reps_nil.mp hr
    obtain rfl := rep_int.mp hy
    obtain ⟨w, e4, hw⟩ := a2.get h4
    exact mt_popAt pins s σ H x _ v us Q I rx rv ⟨ad, ws, i, j, w, ex, rfl, a1, h1, h2, by rw [← a2.length]; exact (ixN_seq h3).1, e4, a5 w _ hw (a2.eraseIdx j)⟩
  | pop =>
    obtain ⟨rfl, h1, rfl⟩ := muF_pop a4
    obtain rfl := reps_nil.mp a3
    obtain ⟨w, e4, hw⟩ := a2.get h1
    exact mt_pop pins s σ H x _ v us Q I rx rv ⟨ad, ws, w, ex, rfl, a1, by rw [← a2.length]; exact e4, a5 w _ hw a2.dropLast⟩
  | reverse =>
    obtain ⟨rfl, rfl, rfl⟩ := muF_reverse a4
    obtain rfl := reps_nil.mp a3
    exact mt_reverse pins s σ H x _ v us Q I rx rv ⟨ad, ws, ex, rfl, a1, a5 .non _ (rep_non.mpr rfl) a2.reverse⟩
  | clear =>
    obtain ⟨rfl, rfl, rfl⟩ := muF_clear a4
    obtain rfl := reps_nil.mp a3
    exact mt_clear pins s σ H x _ v us Q I rx rv ⟨ad, ws, ex, rfl, a1, a5 .non _ (rep_non.mpr rfl) (reps_nil.mpr rfl)⟩
  | extend => rcases hm with h | h <;> cases h
  | insert => rcases hm with h | h <;> cases h
theorem Mu.slot (mu : Mu) (hm : mu.some_ = true ∨ mu.none_ = true) : PySem.Slot "list" mu.nm mu.id ∧ typeOf (.builtin mu.id) = pure (.type "method_descriptor") := by
  cases mu with
  | append => exact ⟨F.slot_list_append, F.type_list_append⟩
  | popAt => exact ⟨F.slot_list_pop, F.type_list_pop⟩
  | pop => exact ⟨F.slot_list_pop, F.type_list_pop⟩
  | reverse => exact ⟨F.slot_list_reverse, F.type_list_reverse⟩
  | clear => exact ⟨F.slot_list_clear, F.type_list_clear⟩
  | extend => rcases hm with h | h <;> cases h
  | insert => rcases hm with h | h <;> cases h
theorem c_mu (S : Sup c C k L X W) {mu : Mu} {i : Nat} {es : Exs} {y x : Str} {xs : List Expr} {apos p : Pos} (hN : c.N[i]? = some y) (hv : visB X.env.scope y = true) (h1 : (y == ("__debug__" : Str)) = false) (h2 : (y == ("__classdict__" : Str)) = false)
    (hk : muOk mu x xs.length = true) (hst : xs.all notStar = true) (h30 : xs.length < 30) (hn : xs = [] → es = .nil) (hline : (apos.endLine == pos.line) = true) (hs : PA X xs (tEs L W C es)) : PE X (.Call (.Attribute (.Name y p) x apos) xs [] pos) (tEx L W C (.mu mu i es)) := by
  have ho := pe_var (i := i) (pos := p) (X := X) (by rw [S.N]; exact hN) (vis_of hv) h1 h2
  unfold muOk at hk
  simp only [Bool.and_eq_true, Bool.or_eq_true, beq_iff_eq] at hk
  obtain ⟨rfl, hk⟩ := hk
  have hm : mu.some_ = true ∨ mu.none_ = true := hk.imp And.left And.left
  obtain ⟨sl, ty⟩ := Mu.slot mu hm
  have mt := mu_ok (L := L) (X := X) mu hm
  cases xs with
  | nil =>
    obtain rfl := hn rfl
    refine (pe_bm0 F.plainAttrs_list sl ty mt ho rfl hline).imp fun σ H Q h => ?_
    obtain ⟨ad, ys, e1, e2⟩ := mu_start h
    obtain ⟨G2, xs0, ps, ys0, r0, ws, a1, a2, a3, a4, a5⟩ := nilArgs (mu_args h e1)
    exact ⟨.ref ad, e1, .inl ⟨rfl, ys, SqL.of e2⟩, G2, xs0, ps, ys0, r0, ad, ws, rfl, a1, a2, a3, a4, a5⟩
  | cons x1 xs =>
    have hst' := hst
    simp only [List.all_cons, Bool.and_eq_true] at hst
    refine (pe_bm F.plainAttrs_list sl ty mt ho hs rfl (few_of hst' h30) hline (star_of hst.1) (star_any hst.2)).imp fun σ H Q h => ?_
    obtain ⟨ad, ys, e1, e2⟩ := mu_start h
    refine ⟨.ref ad, e1, .inl ⟨rfl, ys, SqL.of e2⟩, ?_⟩
    obtain ⟨G, ρ, τ, ts, hl, f, h⟩ := mu_args h e1
    refine ⟨G, ρ, τ, ts, hl, f, ?_⟩
    cases q : evEs C es ρ with
    | ok rs ρ1 =>
      rw [q] at h
      exact fun vs G' H' s f b => by
        obtain ⟨G2, xs0, ps, ys0, r0, ws, a1, a2, a3, a4, a5⟩ := h vs G' H' s f b
        exact ⟨G2, xs0, ps, ys0, r0, ad, ws, rfl, a1, a2, a3, a4, a5⟩
    | ex e ρ1 => rw [q] at h; exact h
    | stuck => rw [q] at h; exact h
end
end Mp
set_option Elab.async false
set_option linter.all false
set_option maxRecDepth 100000
set_option maxHeartbeats 1000000
namespace Mp
open PySem PySem.Spec PyProof.Rows L2
variable {L : Lk}
/-! ## slots that are dropped -/
theorem killS_in : ∀ {vs : List Nat} {ρ : List Slot} {i : Nat} {c : Slot}, i ∈ vs → (killS vs ρ)[i]? = some c → c = .no
  | [], _, _, _, h, _ => by cases h
  | v :: vs, ρ, i, c, h, e => by
    unfold killS at e
    rw [setS_eq] at e
    by_cases hv : v = i
    · subst hv
      by_cases hl : v < (killS vs ρ).length
      · rw [List.getElem?_set_self hl] at e
        exact (Option.some.inj e).symm
      · rw [List.getElem?_eq_none (by simp; omega)] at e
        cases e
    · rw [List.getElem?_set_ne hv] at e
      exact killS_in ((List.mem_cons.mp h).resolve_left (fun z => hv z.symm)) e
theorem killS_out : ∀ {vs : List Nat} {ρ : List Slot} {i : Nat}, i ∉ vs → (killS vs ρ)[i]? = ρ[i]?
  | [], _, _, _ => rfl
  | v :: vs, ρ, i, h => by
    unfold killS
    rw [setS_eq, List.getElem?_set_ne (fun z => h (by simp [z])), killS_out (fun z => h (List.mem_cons_of_mem _ z))]
theorem killS_len : ∀ (vs : List Nat) (ρ : List Slot), (killS vs ρ).length = ρ.length
  | [], _ => rfl
  | v :: vs, ρ => by unfold killS; rw [setS_eq, List.length_set, killS_len vs ρ]
section
variable {G H : Hp} {τ ρ : List Slot} {ts : List (Option V)} {σ σ2 : L2.St} {vs : List Nat}
theorem Fit.kill (hl : τ.length = ts.length) (f : Fit L G H (τ ++ ρ) (ts ++ σ)) : ∀ vs : List Nat, Fit L G H (τ ++ killS vs ρ) (ts ++ σ)
  | [] => f
  | v :: vs => by
    have := (Fit.kill hl f vs).forget (i := τ.length + v)
    rwa [set_app] at this
theorem Fit.swap (hl : τ.length = ts.length) (f : Fit L G H (τ ++ ρ) (ts ++ σ)) (hz : σ2.length = σ.length) (h : ∀ (i : Nat) (c : Slot), ρ[i]? = some c → c = Slot.no ∨ σ2[i]? = σ[i]?) : Fit L G H (τ ++ ρ) (ts ++ σ2) := by
  have key : ∀ (i : Nat) (c : Slot), (τ ++ ρ)[i]? = some c → c = Slot.no ∨ (ts ++ σ2)[i]? = (ts ++ σ)[i]? := fun i c e => by
    by_cases hi : i < τ.length
    · right
      rw [List.getElem?_append_left (by omega), List.getElem?_append_left (by omega)]
    · rw [List.getElem?_append_right (by omega)] at e
      rcases h _ c e with z | z
      · exact .inl z
      · right
        rw [List.getElem?_append_right (by omega), List.getElem?_append_right (by omega), ← hl]
        exact z
  refine ⟨f.good, by rw [f.len]; simp [hz], fun i c e => ?_, fun i j p q a e1 e2 e3 e4 => ?_⟩
  · rcases key i c e with rfl | z
    · obtain ⟨o, e1, _⟩ := f.at_ i _ e
      have : i < (ts ++ σ2).length := by
        have := (List.getElem?_eq_some_iff.mp e1).1
        simp only [List.length_append] at this ⊢
        omega
      exact ⟨_, List.getElem?_eq_getElem this, trivial⟩
    · rw [z]
      exact f.at_ i c e
  · rw [(key i _ e1).resolve_left (fun z => by cases z)] at e3
    rw [(key j _ e2).resolve_left (fun z => by cases z)] at e4
    exact f.inj i j p q a e1 e2 e3 e4
theorem Fit.putTop {cs : List Slot} {os : List (Option V)} {c : Slot} {o : Option V} (f : Fit L G H (c :: cs) (o :: os)) (i : Nat) : Fit L G H (cs.set i c) (os.set i o) := by
  have hl : cs.length = os.length := by
    have := f.len
    simpa using this
  by_cases hi : i < cs.length
  · let g : Nat → Nat := fun j => if j = i then 0 else j + 1
    have gi : ∀ j l, g j = g l → j = l := fun j l e => by
      simp only [g] at e
      split at e <;> split at e <;> omega
    have hc : ∀ j, (cs.set i c)[j]? = (c :: cs)[g j]? := fun j => by
      by_cases hj : j = i
      · subst hj
        rw [List.getElem?_set_self hi]
        simp [g]
      · rw [List.getElem?_set_ne (Ne.symm hj)]
        simp [g, hj]
    have ho : ∀ j, (os.set i o)[j]? = (o :: os)[g j]? := fun j => by
      by_cases hj : j = i
      · subst hj
        rw [List.getElem?_set_self (by omega)]
        simp [g]
      · rw [List.getElem?_set_ne (Ne.symm hj)]
        simp [g, hj]
    refine ⟨f.good, by simp [hl], fun j c' e => ?_, fun j l p q a e1 e2 e3 e4 => gi j l (f.inj _ _ p q a ?_ ?_ ?_ ?_)⟩
    · rw [hc] at e
      rw [ho]
      exact f.at_ _ _ e
    · rw [← hc]; exact e1
    · rw [← hc]; exact e2
    · rw [← ho]; exact e3
    · rw [← ho]; exact e4
  · rw [List.set_eq_of_length_le (by omega), List.set_eq_of_length_le (by omega)]
    exact f.tail
theorem set_appO {i : Nat} {o : Option V} : (ts ++ σ).set (ts.length + i) o = ts ++ σ.set i o := by
  rw [List.set_append_right _ _ (by omega)]
  congr 2
  omega
theorem Fit.putR {c : Slot} {o : Option V} {i : Nat} (hl : τ.length = ts.length) (f : Fit L G H (c :: (τ ++ ρ)) (o :: (ts ++ σ))) : Fit L G H (τ ++ setS ρ i c) (ts ++ σ.set i o) := by
  have := f.putTop (τ.length + i)
  rw [set_app, hl, set_appO] at this
  exact this
theorem Fit.store {i : Nat} {p : PV} {v : V} (hl : τ.length = ts.length) (f : Fit L G H (τ ++ ρ) (ts ++ σ)) (r : Rep L G p v) : Fit L G H (τ ++ setS ρ i (.fz p)) (ts ++ σ.set i (some v)) := (f.consF r).putR hl
theorem Fit.wiped (hl : τ.length = ts.length) (f : Fit L G H (τ ++ ρ) (ts ++ σ)) (vs : List Nat) : Fit L G H (τ ++ killS vs ρ) (ts ++ wipe σ vs) :=
  (f.kill hl vs).swap hl (wipe_length σ vs) fun i c e => by
    by_cases hi : i ∈ vs
    · exact .inl (killS_in hi e)
    · exact .inr (wipe_out hi)
theorem wipe_in : ∀ {vs : List Nat} {σ : L2.St} {i : Nat}, i ∈ vs → i < σ.length → (wipe σ vs)[i]? = some none
  | [], _, _, h, _ => by cases h
  | v :: vs, σ, i, h, hl => by
    unfold wipe
    by_cases hv : v = i
    · subst hv
      rw [List.getElem?_set_self (by rw [wipe_length]; exact hl)]
    · rw [List.getElem?_set_ne hv]
      exact wipe_in ((List.mem_cons.mp h).resolve_left (fun z => hv z.symm)) hl
theorem wipe_ext (hz : σ2.length = σ.length) (h : ∀ i, i ∉ vs → σ2[i]? = σ[i]?) : wipe σ2 vs = wipe σ vs := by
  refine List.ext_getElem? fun i => ?_
  by_cases hi : i ∈ vs
  · by_cases hl : i < σ.length
    · rw [wipe_in hi hl, wipe_in hi (by omega)]
    · rw [List.getElem?_eq_none (by rw [wipe_length]; omega), List.getElem?_eq_none (by rw [wipe_length]; omega)]
  · rw [wipe_out hi, wipe_out hi, h i hi]
end
/-! ## targets -/
def gNames : List Nat → TGs
  | [] => gNil
  | i :: is => gCons (gName i) (gNames is)
def gTg (K : PySem.W.Frag) : Tg → TG
  | .nm i => gName i
  | .tp is => gTup K is.length (gNames is)
def Tg.all : Tg → List Nat
  | .nm i => [i]
  | .tp is => is
section
variable {c : Chk} {C : Cal} {k : Nat} {X : Cx} {W : WX} {sc : Scope}
/-- what a store asks of the context -/
def Stores (X : Cx) (sc : Scope) : Prop := ∀ x, (sc.names.lookup x = some .local ∨ sc.names.lookup x = some .cell) → Loc X.env.scope x ∧ (X.fn x = true ∨ X.env.scope.names.lookup x = some .local)
theorem okName {N : List Str} {i : Nat} {x : Str} (h : ((N[i]? == some x) && (match sc.names.lookup x with | some .local | some .cell => true | _ => false)) = true) : N[i]? = some x ∧ (sc.names.lookup x = some .local ∨ sc.names.lookup x = some .cell) := by
  simp only [Bool.and_eq_true, beq_iff_eq] at h
  refine ⟨h.1, ?_⟩
  have h2 := h.2
  split at h2
  · exact .inl (by assumption)
  · exact .inr (by assumption)
  · cases h2
theorem pgs_names (S : Sup c C k L X W) (hs : Stores X sc) : ∀ {is : List Nat} {es : List Expr}, is.length = es.length → ((is.zip es).all fun (i, e) => (match e with
    | .Name x _ => (c.N[i]? == some x) && (match sc.names.lookup x with | some .local | some .cell => true | _ => false)
    | _ => false)) = true → PGs X es (gNames is) ∧ (assignEach es X.env).length = is.length ∧ (assignEach es X.env).findIdx? (·.1) = none
  | [], [], _, _ => ⟨pgs_nil, rfl, rfl⟩
  | [], _ :: _, h, _ => by cases h
  | _ :: _, [], h, _ => by cases h
  | i :: is, e :: es, hl, h => by
    simp only [List.zip_cons_cons, List.all_cons, Bool.and_eq_true] at h
    obtain ⟨h1, h2⟩ := h
    obtain ⟨k1, k2, k3⟩ := pgs_names S hs (is := is) (es := es) (by simpa using hl) h2
    cases e with
    | Name x p =>
      obtain ⟨hN, hx⟩ := okName h1
      obtain ⟨q1, q2⟩ := hs x hx
      refine ⟨pgs_cons (pg_name (by rw [S.N]; exact S.nd) (by rw [S.N]; exact hN) q1 q2) k1 rfl, ?_, ?_⟩
      · show (_ :: assignEach es X.env).length = _
        rw [List.length_cons, k2]; rfl
      · show ((false, _) :: assignEach es X.env).findIdx? (·.1) = none
        rw [List.findIdx?_cons, k3]; rfl
    | _ => cases h1
theorem pg_of (S : Sup c C k L X W) (hs : Stores X sc) {tg : Tg} {e : Expr} (h : okTg c sc tg e = true) : PG X e (gTg X.K tg) := by
  cases tg with
  | nm i =>
    cases e with
    | Name x p =>
      obtain ⟨hN, hx⟩ := okName h
      obtain ⟨q1, q2⟩ := hs x hx
      exact pg_name (by rw [S.N]; exact S.nd) (by rw [S.N]; exact hN) q1 q2
    | _ => cases h
  | tp is =>
    cases e with
    | Tuple es j p =>
      unfold okTg at h
      simp only [Bool.and_eq_true, beq_iff_eq] at h
      obtain ⟨k1, k2, k3⟩ := pgs_names S hs h.1 h.2
      exact pg_tup S.calm k1 k2 k3
    | _ => cases h
theorem names_ok {G H : Hp} {τ : List Slot} {ts : List (Option V)} (hl : τ.length = ts.length) {Q : L2.St → Hp → Prop} : ∀ {is : List Nat} {ps : List PV} {vs : List V} {ρ : List Slot} {σ : L2.St}, ps.length = is.length → Reps L G ps vs → Fit L G H (τ ++ ρ) (ts ++ σ) →
    (∀ σ2, Fit L G H (τ ++ (is.zip ps).foldl (fun ρ x => setS ρ x.1 (.fz x.2)) ρ) (ts ++ σ2) → σ2.length = σ.length → (∀ i, i ∉ is → σ2[i]? = σ[i]?) → Q σ2 H) → gNames is vs σ H Q
  | [], [], vs, ρ, σ, _, r, f, kk => ⟨reps_nil.mp r, kk σ f rfl fun _ _ => rfl⟩
  | [], _ :: _, _, _, _, h, _, _, _ => by cases h
  | _ :: _, [], _, _, _, h, _, _, _ => by cases h
  | i :: is, p :: ps, vs, ρ, σ, hz, r, f, kk => by
    obtain ⟨v, us, rfl, rv, rr⟩ := reps_cons.mp r
    refine ⟨v, us, rfl, ?_⟩
    show gNames is us (σ.set i (some v)) H Q
    refine names_ok hl (ρ := setS ρ i (.fz p)) (by simpa using hz) rr (f.store hl rv) fun σ2 f2 e1 e2 => kk σ2 f2 (by rw [e1, List.length_set]) fun j hj => ?_
    rw [e2 j (fun z => hj (List.mem_cons_of_mem _ z)), List.getElem?_set_ne (fun z => hj (by simp [z]))]
theorem bind_ok (hL : L.K = X.K) {G H : Hp} {τ ρ ρ' : List Slot} {ts : List (Option V)} {σ : L2.St} (hl : τ.length = ts.length) {Q : L2.St → Hp → Prop} {tg : Tg} {p : PV} {v : V} (e : bindT tg p ρ = some ρ') (r : Rep L G p v) (f : Fit L G H (τ ++ ρ) (ts ++ σ))
    (kk : ∀ σ2, Fit L G H (τ ++ ρ') (ts ++ σ2) → σ2.length = σ.length → (∀ i, i ∉ tg.all → σ2[i]? = σ[i]?) → Q σ2 H) : gTg X.K tg v σ H Q := by
  cases tg with
  | nm i =>
    cases e
    exact kk _ (f.store hl r) (by rw [List.length_set]) fun j hj => List.getElem?_set_ne (fun z => hj (by simp [Tg.all, z]))
  | tp is =>
    cases p with
    | tup ps =>
      have e : (if ps.length = is.length then some ((is.zip ps).foldl (fun ρ x => setS ρ x.1 (.fz x.2)) ρ) else none) = some ρ' := e
      split at e
      · rename_i hz
        cases e
        obtain ⟨a, ys, rfl, h1, h2⟩ := rep_tup.mp r
        refine ⟨a, ys, rfl, ?_, by rw [← h2.length]; exact hz, names_ok hl hz h2 f kk⟩
        rw [← hL]
        exact Same.seqT f.good.sub h1
      · cases e
    | _ => cases e
end
end Mp
set_option Elab.async false
set_option linter.all false
set_option maxRecDepth 100000
set_option maxHeartbeats 1000000
namespace Mp
open PySem PySem.Spec PyProof.Rows L2
variable {L : Lk}
/-! # List comprehensions -/
abbrev noW : WX := fun _ _ _ _ => False
theorem fold_of {e : Expr} {env : Env} (h : notSet e = true) : ∀ x, foldedSetIterable e env x = pure x := by
  intro x
  cases e <;> first | rfl | cases h
section
variable {c : Chk} {C : Cal} {k : Nat} {X : Cx} {W : WX}
theorem drop_get {xs : List PV} {i : Nat} {p : PV} (h : xs[i]? = some p) : xs.drop i = p :: xs.drop (i + 1) := by
  obtain ⟨h1, h2⟩ := List.getElem?_eq_some_iff.mp h
  rw [← h2]
  exact (List.getElem_cons_drop h1).symm
theorem blk_stores {s : Shared} {H : Hp} {scope : Scope} {cl : List (Str × Addr)} {D : Addr} {fp : List Addr} : Stores (X.blk s H scope (compEnvC scope cl D X.env) fp) scope := by
  intro x hx
  have e : (X.blk s H scope (compEnvC scope cl D X.env) fp).env.scope = relS scope X.env.scope := rfl
  rw [e]
  rcases hx with h | h
  · have := lookup_relS_keep (sc := X.env.scope) (by decide : NameKind.local ≠ .free) h
    exact ⟨.inl this, .inr this⟩
  · have := lookup_relS_keep (sc := X.env.scope) (by decide : NameKind.cell ≠ .free) h
    refine ⟨.inr this, .inl ?_⟩
    show (scope.names.lookup x == some .cell) = true
    rw [h]
    rfl
theorem wipe_ext' {σ σ2 : L2.St} {vs ns : List Nat} (hz : σ2.length = (wipe σ vs).length) (h : ∀ i, i ∉ ns → σ2[i]? = (wipe σ vs)[i]?) (hs : ∀ i ∈ ns, i ∈ vs) : wipe σ2 vs = wipe σ vs :=
  wipe_ext (by rw [hz, wipe_length]) fun i hi => by rw [h i (fun z => hi (hs i z)), wipe_out hi]
theorem tgIn {tg : Tg} {vs : List Nat} (h : tg.sub vs = true) : ∀ i ∈ tg.all, i ∈ vs := by
  cases tg with
  | nm i => intro j hj; simp [Tg.all] at hj; subst hj; simpa [Tg.sub] using h
  | tp is => intro j hj; exact (by simpa [Tg.sub] using h : ∀ x ∈ is, x ∈ vs) j hj
theorem tLc_of (hL : L.K = X.K) {tg : Tg} {it : Itx} {t : Ot} {e : Ex} {vs : List Nat} (hin : tg.sub vs = true) (σ : L2.St) (H : Hp) (Q : VK) (h : tEx L W C (.lc tg it t e vs) σ H Q) : tLc (tIt L W C it) (gTg X.K tg) (tOt L noW C t) (tEx L noW C e) vs σ H Q := by
  have hin' := tgIn hin
  obtain ⟨G, ρ, τ, ts, hl, f, h⟩ := h
  refine ⟨G, ρ, τ, ts, hl, f, h.bindB (Same.refl _) fun xs ρ1 _ h1 G1 H1 s1 f1 J fd D hD => ?_⟩
  let fin : List PV → List Slot → R Rv := fun ps ρ2 => .ok (.ow (.lst ps)) ρ2
  let At : Nat → Nat → Hp → Prop := fun i m H' => ∃ G2 ρ2 acc, Same G1 G2 ∧ Fit L G2 H' (.ow (.lst acc) :: (τ ++ killS vs ρ2)) (some (.ref D) :: (ts ++ wipe σ vs)) ∧
    EPost L W G2 τ ts σ Q ((lcLoop (bindT tg) (evOt C t) (evE C e) vs (xs.drop i) acc (killS vs ρ2)).bind fin) ∧ m = xs.length - i ∧ i ≤ xs.length
  have f1' := f1.wiped hl vs
  refine ⟨At, ⟨xs.length, ?_⟩, ?_⟩
  · exact ⟨G1, ρ1, [], Same.refl _, f1'.consO (ext_alone f1.good hD trivial) hD (none_sub f1.good.sub hD) ⟨[], upd_same, reps_nil.mpr rfl⟩, h1.up s1, rfl, Nat.zero_le _⟩
  · rintro i m H2 ⟨G2, ρ2, acc, s2, f2, h2, rfl, hle⟩
    obtain ⟨fd1, fd2⟩ := fd i H2 G2 s2 f2.good
    rcases Nat.eq_or_lt_of_le hle with hi | hi
    · refine .inl ⟨fd1 hi, ?_⟩
      rw [hi, List.drop_length] at h2
      have f3 : Fit L G2 H2 (.ow (.lst acc) :: (τ ++ killS vs ρ2)) (some (.ref D) :: (ts ++ σ)) :=
        Fit.swap (τ := .ow (.lst acc) :: τ) (ts := some (.ref D) :: ts) (by simp [hl]) f2 (wipe_length σ vs).symm fun j c' ej => by
          by_cases hj : j ∈ vs
          · exact .inl (killS_in hj ej)
          · exact .inr (wipe_out hj).symm
      exact h2 (.ref D) G2 H2 (Same.refl _) f3 trivial
    · have hp : xs[i]? = some xs[i] := List.getElem?_eq_getElem hi
      obtain ⟨go, step⟩ := fd2 _ hp
      generalize xs[i] = p at hp step
      rw [drop_get hp] at h2
      refine .inr ⟨go, At (i + 1) (xs.length - (i + 1)), fun H' a => ⟨_, by omega, a⟩, fun x H' y => ?_⟩
      obtain ⟨G3, ex, rx⟩ := step x H' y
      have f3 := f2.ext ex
      unfold lcLoop at h2
      cases eb : bindT tg p (killS vs ρ2) with
      | none => rw [eb] at h2; exact h2.elim
      | some ρ3 =>
        rw [eb] at h2
        have hl2 : (Slot.ow (.lst acc) :: τ).length = (some (V.ref D) :: ts).length := by simp [hl]
        refine bind_ok (τ := .ow (.lst acc) :: τ) (ts := some (.ref D) :: ts) hL hl2 eb rx f3 fun σ2 f4 z1 z2 => ⟨wipe_ext' z1 z2 hin', G3, ρ3, .ow (.lst acc) :: τ, some (.ref D) :: ts, hl2, f4, ?_⟩
        have back : ∀ {G' H' : Hp} {ρ' : List Slot} {acc' : List PV}, Fit L G' H' (.ow (.lst acc') :: (τ ++ ρ')) (some (.ref D) :: (ts ++ σ2)) → Fit L G' H' (.ow (.lst acc') :: (τ ++ killS vs ρ')) (some (.ref D) :: (ts ++ wipe σ vs)) := fun {G' H' ρ' acc'} f =>
          Fit.swap (τ := .ow (.lst acc') :: τ) (ts := some (.ref D) :: ts) (by simp [hl]) (Fit.kill (τ := .ow (.lst acc') :: τ) (ts := some (.ref D) :: ts) (by simp [hl]) f vs) z1.symm fun j c' ej => by
            by_cases hj : j ∈ vs
            · exact .inl (killS_in hj ej)
            · exact .inr (z2 j (fun z => hj (hin' j z))).symm
        have s3 : Same G2 G3 := ex.g
        cases et : evOt C t ρ3 with
        | stuck => simp only [et] at h2; exact h2.elim
        | ex e ρ' => simp only [et] at h2; exact h2.elim
        | ok b ρ4 =>
          simp only [et] at h2
          intro G4 H4 s4 f5
          cases b with
          | false =>
            simp only [Bool.false_eq_true, if_false] at h2 ⊢
            exact ⟨G4, ρ4, acc, s2.trans (s3.trans s4), back f5, h2.up (s3.trans s4), rfl, hi⟩
          | true =>
            simp only [if_true] at h2 ⊢
            refine ⟨G4, ρ4, .ow (.lst acc) :: τ, some (.ref D) :: ts, hl2, f5, ?_⟩
            cases ee : evE C e ρ4 with
            | stuck => simp only [ee] at h2; exact h2.elim
            | ex e ρ' => simp only [ee] at h2; exact h2.elim
            | ok r ρ5 =>
              simp only [ee] at h2
              intro v G5 H5 s5 f6 b6
              cases er : r.val ρ5 with
              | none => simp only [er] at h2; exact h2.elim
              | some q =>
                simp only [er] at h2
                split at h2
                · rename_i hz
                  rw [decide_eq_true_eq] at hz
                  obtain ⟨G6, s6, f7, rq⟩ := Fit.seal1 (τ := .ow (.lst acc) :: τ) (ts := some (.ref D) :: ts) hl2 f6 b6 er
                  obtain ⟨ad, e1, n1, ys, e2, r2⟩ := f7.head
                  cases e1
                  refine ⟨ys, e2, by rw [← r2.length, sizeLine_eq]; exact hz, G6, r.seal ρ5, acc ++ [q], s2.trans (s3.trans (s4.trans (s5.trans s6))), ?_, h2.up (s3.trans (s4.trans (s5.trans s6))), rfl, hi⟩
                  exact back (f7.change (i := 0) (q := .lst (acc ++ [q])) rfl rfl trivial ⟨_, upd_same, r2.append (Reps.one rq)⟩)
                · exact h2.elim
theorem c_lc (S : Sup c C k L X W) {tg : Tg} {it : Itx} {t : Ot} {e : Ex} {vs : List Nat} {elt tg' iter : Expr} {ifs : List Expr} {scope : Scope} {pos : Pos} (hb : blkC c.N X.env.scope scope (ownL c.N vs) = true) (hv : (ownL c.N vs).map (·.2) = vs) (hset : notSet iter = true)
    (htg : okTg c scope tg tg' = true) (hin : tg.sub vs = true) (hi : PI X tg' iter (tIt L W C it))
    (ht : ∀ (s : Shared) (H : Hp) (D : Addr) (cl : List (Str × Addr)) (fp : List Addr), PTs (X.blk s H scope (compEnvC scope cl D X.env) fp) ifs (tOt L noW C t))
    (he : ∀ (s : Shared) (H : Hp) (D : Addr) (cl : List (Str × Addr)) (fp : List Addr), PE (X.blk s H scope (compEnvC scope cl D X.env) fp) elt (tEx L noW C e)) :
    PE X (.ListComp elt [⟨tg', iter, ifs, 0⟩] scope pos) (tEx L W C (.lc tg it t e vs)) := by
  have pl := pe_lc (pos := pos) (g := gTg X.K tg) S.calm (by rw [S.N]; exact S.nd) hi (by rw [S.N]; exact blkOk_by hb) (fun s H D cl fp => pg_of (S.blk s H scope _ fp) blk_stores htg) ht he (fold_of hset)
  rw [hv] at pl
  exact pl.imp (tLc_of S.hL hin)
/-- what is wanted of a list and of the slots behind it -/
def RK (Kx : List PV → List Slot → Prop) : R (List PV) → Prop
  | .ok a ρ => Kx a ρ
  | _ => False
theorem lc2_in (hL : L.K = X.K) {tg1 : Tg} {it1 : Itx} {t1 : Ot} {e : Ex} {vs vs1 : List Nat} (hin : tg1.sub vs1 = true) (hsub : ∀ i ∈ vs1, i ∈ vs) {D : Addr} {G3 H3 : Hp} {acc : List PV} {τ ρ4 : List Slot} {ts : List (Option V)} {σ σ2 : L2.St} (hl : τ.length = ts.length)
    (z1 : σ2.length = (wipe σ vs).length) (z2 : ∀ i, i ∉ vs → σ2[i]? = (wipe σ vs)[i]?) (f : Fit L G3 H3 (.ow (.lst acc) :: (τ ++ ρ4)) (some (.ref D) :: (ts ++ σ2))) (Kx : List PV → List Slot → Prop) (hK : RK Kx (lcIn (evI C it1) (bindT tg1) (evOt C t1) (evE C e) vs1 acc ρ4)) (Nx : Hp → Prop)
    (hN : ∀ acc1 ρ5 G' H', Kx acc1 ρ5 → Same G3 G' → Fit L G' H' (.ow (.lst acc1) :: (τ ++ killS vs ρ5)) (some (.ref D) :: (ts ++ wipe σ vs)) → Nx H') :
    tIt L noW C it1 σ2 H3 fun J1 H4 => ∃ W1 : Nat → Nat → Hp → Prop, (∃ m, W1 0 m H4) ∧ ∀ j k H, W1 j k H →
      (J1.stop j H ∧ Nx H) ∨ (J1.go j H ∧ ∃ Nx1 : Hp → Prop, (∀ H', Nx1 H' → ∃ k', k' < k ∧ W1 (j + 1) k' H') ∧ ∀ x H', J1.yld j H x H' → gTg X.K tg1 x (wipe σ2 vs1) H' fun σ3 H5 => wipe σ3 vs1 = wipe σ2 vs1 ∧ tOt L noW C t1 σ3 H5 fun b H6 =>
        if b = true then tEx L noW C e σ3 H6 fun y H7 => ∃ acc, H7 D = some (.lst acc) ∧ acc.length < sizeLine ∧ Nx1 (upd H7 D (.lst (acc ++ [y]))) else Nx1 H6) := by
  have hin' := tgIn hin
  have hl2 : (Slot.ow (.lst acc) :: τ).length = (some (V.ref D) :: ts).length := by simp [hl]
  refine ⟨G3, ρ4, .ow (.lst acc) :: τ, some (.ref D) :: ts, hl2, f, ?_⟩
  unfold lcIn at hK
  cases ei : evI C it1 ρ4 with
  | stuck => simp only [ei] at hK; exact hK.elim
  | ex e ρ' => simp only [ei] at hK; exact hK.elim
  | ok xs ρ5 =>
    simp only [ei] at hK
    intro G4 H4 s4 f4 J fd
    let At : Nat → Nat → Hp → Prop := fun i m H' => ∃ G2 ρ2 acc, Same G4 G2 ∧ Fit L G2 H' (.ow (.lst acc) :: (τ ++ killS vs1 ρ2)) (some (.ref D) :: (ts ++ wipe σ2 vs1)) ∧
      RK Kx (lcLoop (bindT tg1) (evOt C t1) (evE C e) vs1 (xs.drop i) acc (killS vs1 ρ2)) ∧ m = xs.length - i ∧ i ≤ xs.length
    have f4' := Fit.wiped (τ := .ow (.lst acc) :: τ) (ts := some (.ref D) :: ts) hl2 f4 vs1
    refine ⟨At, ⟨xs.length, G4, ρ5, acc, Same.refl _, f4', hK, rfl, Nat.zero_le _⟩, ?_⟩
    rintro i m H2 ⟨G2, ρ2, acc, s2, f2, h2, rfl, hle⟩
    obtain ⟨fd1, fd2⟩ := fd i H2 G2 s2 f2.good
    rcases Nat.eq_or_lt_of_le hle with hi | hi
    · refine .inl ⟨fd1 hi, ?_⟩
      rw [hi, List.drop_length] at h2
      have h2 : Kx acc (killS vs1 ρ2) := h2
      refine hN acc (killS vs1 ρ2) G2 H2 h2 (s4.trans s2) ?_
      have f3 := Fit.kill (τ := .ow (.lst acc) :: τ) (ts := some (.ref D) :: ts) (by simp [hl]) f2 vs
      exact Fit.swap (τ := .ow (.lst acc) :: τ) (ts := some (.ref D) :: ts) (by simp [hl]) f3 (by rw [wipe_length σ2 vs1]; exact z1.symm) fun j c' ej => by
        by_cases hj : j ∈ vs
        · exact .inl (killS_in hj ej)
        · exact .inr (by rw [wipe_out (fun z => hj (hsub j z))]; exact (z2 j hj).symm)
    · have hp : xs[i]? = some xs[i] := List.getElem?_eq_getElem hi
      obtain ⟨go, step⟩ := fd2 _ hp
      generalize xs[i] = p at hp step
      rw [drop_get hp] at h2
      refine .inr ⟨go, At (i + 1) (xs.length - (i + 1)), fun H' a => ⟨_, by omega, a⟩, fun x H' y => ?_⟩
      obtain ⟨G5, ex, rx⟩ := step x H' y
      have f3 := f2.ext ex
      unfold lcLoop at h2
      cases eb : bindT tg1 p (killS vs1 ρ2) with
      | none => rw [eb] at h2; exact h2.elim
      | some ρ3 =>
        rw [eb] at h2
        have hl3 : (Slot.ow (.lst acc) :: τ).length = (some (V.ref D) :: ts).length := by simp [hl]
        refine bind_ok (τ := .ow (.lst acc) :: τ) (ts := some (.ref D) :: ts) hL hl3 eb rx f3 fun σ3 f6 y1 y2 => ⟨wipe_ext' y1 y2 hin', G5, ρ3, .ow (.lst acc) :: τ, some (.ref D) :: ts, hl3, f6, ?_⟩
        have back : ∀ {G' H' : Hp} {ρ' : List Slot} {acc' : List PV}, Fit L G' H' (.ow (.lst acc') :: (τ ++ ρ')) (some (.ref D) :: (ts ++ σ3)) → Fit L G' H' (.ow (.lst acc') :: (τ ++ killS vs1 ρ')) (some (.ref D) :: (ts ++ wipe σ2 vs1)) := fun {G' H' ρ' acc'} f =>
          Fit.swap (τ := .ow (.lst acc') :: τ) (ts := some (.ref D) :: ts) (by simp [hl]) (Fit.kill (τ := .ow (.lst acc') :: τ) (ts := some (.ref D) :: ts) (by simp [hl]) f vs1) y1.symm fun j c' ej => by
            by_cases hj : j ∈ vs1
            · exact .inl (killS_in hj ej)
            · exact .inr (y2 j (fun z => hj (hin' j z))).symm
        have s3 : Same G2 G5 := ex.g
        cases et : evOt C t1 ρ3 with
        | stuck => simp only [et] at h2; exact h2.elim
        | ex e ρ' => simp only [et] at h2; exact h2.elim
        | ok b ρ6 =>
          simp only [et] at h2
          intro G6 H6 s6 f7
          cases b with
          | false =>
            simp only [Bool.false_eq_true, if_false] at h2 ⊢
            exact ⟨G6, ρ6, acc, s2.trans (s3.trans s6), back f7, h2, rfl, hi⟩
          | true =>
            simp only [if_true] at h2 ⊢
            refine ⟨G6, ρ6, .ow (.lst acc) :: τ, some (.ref D) :: ts, hl3, f7, ?_⟩
            cases ee : evE C e ρ6 with
            | stuck => simp only [ee] at h2; exact h2.elim
            | ex e ρ' => simp only [ee] at h2; exact h2.elim
            | ok r ρ7 =>
              simp only [ee] at h2
              intro v G7 H7 s7 f8 b8
              cases er : r.val ρ7 with
              | none => simp only [er] at h2; exact h2.elim
              | some q =>
                simp only [er] at h2
                split at h2
                · rename_i hz
                  rw [decide_eq_true_eq] at hz
                  obtain ⟨G8, s8, f9, rq⟩ := Fit.seal1 (τ := .ow (.lst acc) :: τ) (ts := some (.ref D) :: ts) hl3 f8 b8 er
                  obtain ⟨ad, e1, n1, ys, e2, r2⟩ := f9.head
                  cases e1
                  refine ⟨ys, e2, by rw [← r2.length, sizeLine_eq]; exact hz, G8, r.seal ρ7, acc ++ [q], s2.trans (s3.trans (s6.trans (s7.trans s8))), ?_, h2, rfl, hi⟩
                  exact back (f9.change (i := 0) (q := .lst (acc ++ [q])) rfl rfl trivial ⟨_, upd_same, r2.append (Reps.one rq)⟩)
                · exact h2.elim
theorem tLc2_of (hL : L.K = X.K) {tg tg1 : Tg} {it it1 : Itx} {t t1 : Ot} {e : Ex} {vs vs1 : List Nat} (hin : tg.sub vs = true) (hin1 : tg1.sub vs1 = true) (hsub : ∀ i ∈ vs1, i ∈ vs) (σ : L2.St) (H : Hp) (Q : VK) (h : tEx L W C (.lc2 tg it t tg1 it1 t1 e vs vs1) σ H Q) :
    tLc2 (tIt L W C it) (gTg X.K tg) (tOt L noW C t) (tIt L noW C it1) (gTg X.K tg1) (tOt L noW C t1) (tEx L noW C e) vs vs1 σ H Q := by
  have hin' := tgIn hin
  obtain ⟨G, ρ, τ, ts, hl, f, h⟩ := h
  refine ⟨G, ρ, τ, ts, hl, f, h.bindB (Same.refl _) fun xs ρ1 _ h1 G1 H1 s1 f1 J fd D hD => ?_⟩
  let fin : List PV → List Slot → R Rv := fun ps ρ2 => .ok (.ow (.lst ps)) ρ2
  let At : Nat → Nat → Hp → Prop := fun i m H' => ∃ G2 ρ2 acc, Same G1 G2 ∧ Fit L G2 H' (.ow (.lst acc) :: (τ ++ killS vs ρ2)) (some (.ref D) :: (ts ++ wipe σ vs)) ∧
    EPost L W G2 τ ts σ Q ((lcOut (bindT tg) (evOt C t) (lcIn (evI C it1) (bindT tg1) (evOt C t1) (evE C e) vs1) vs (xs.drop i) acc (killS vs ρ2)).bind fin) ∧ m = xs.length - i ∧ i ≤ xs.length
  have f1' := f1.wiped hl vs
  refine ⟨At, ⟨xs.length, ?_⟩, ?_⟩
  · exact ⟨G1, ρ1, [], Same.refl _, f1'.consO (ext_alone f1.good hD trivial) hD (none_sub f1.good.sub hD) ⟨[], upd_same, reps_nil.mpr rfl⟩, h1.up s1, rfl, Nat.zero_le _⟩
  · rintro i m H2 ⟨G2, ρ2, acc, s2, f2, h2, rfl, hle⟩
    obtain ⟨fd1, fd2⟩ := fd i H2 G2 s2 f2.good
    rcases Nat.eq_or_lt_of_le hle with hi | hi
    · refine .inl ⟨fd1 hi, ?_⟩
      rw [hi, List.drop_length] at h2
      have f3 : Fit L G2 H2 (.ow (.lst acc) :: (τ ++ killS vs ρ2)) (some (.ref D) :: (ts ++ σ)) :=
        Fit.swap (τ := .ow (.lst acc) :: τ) (ts := some (.ref D) :: ts) (by simp [hl]) f2 (wipe_length σ vs).symm fun j c' ej => by
          by_cases hj : j ∈ vs
          · exact .inl (killS_in hj ej)
          · exact .inr (wipe_out hj).symm
      exact h2 (.ref D) G2 H2 (Same.refl _) f3 trivial
    · have hp : xs[i]? = some xs[i] := List.getElem?_eq_getElem hi
      obtain ⟨go, step⟩ := fd2 _ hp
      generalize xs[i] = p at hp step
      rw [drop_get hp] at h2
      refine .inr ⟨go, At (i + 1) (xs.length - (i + 1)), fun H' a => ⟨_, by omega, a⟩, fun x H' y => ?_⟩
      obtain ⟨G3, ex, rx⟩ := step x H' y
      have f3 := f2.ext ex
      unfold lcOut at h2
      cases eb : bindT tg p (killS vs ρ2) with
      | none => rw [eb] at h2; exact h2.elim
      | some ρ3 =>
        rw [eb] at h2
        have hl2 : (Slot.ow (.lst acc) :: τ).length = (some (V.ref D) :: ts).length := by simp [hl]
        refine bind_ok (τ := .ow (.lst acc) :: τ) (ts := some (.ref D) :: ts) hL hl2 eb rx f3 fun σ2 f4 z1 z2 => ⟨wipe_ext' z1 z2 hin', G3, ρ3, .ow (.lst acc) :: τ, some (.ref D) :: ts, hl2, f4, ?_⟩
        have back : ∀ {G' H' : Hp} {ρ' : List Slot} {acc' : List PV}, Fit L G' H' (.ow (.lst acc') :: (τ ++ ρ')) (some (.ref D) :: (ts ++ σ2)) → Fit L G' H' (.ow (.lst acc') :: (τ ++ killS vs ρ')) (some (.ref D) :: (ts ++ wipe σ vs)) := fun {G' H' ρ' acc'} f =>
          Fit.swap (τ := .ow (.lst acc') :: τ) (ts := some (.ref D) :: ts) (by simp [hl]) (Fit.kill (τ := .ow (.lst acc') :: τ) (ts := some (.ref D) :: ts) (by simp [hl]) f vs) z1.symm fun j c' ej => by
            by_cases hj : j ∈ vs
            · exact .inl (killS_in hj ej)
            · exact .inr (z2 j (fun z => hj (hin' j z))).symm
        have s3 : Same G2 G3 := ex.g
        cases et : evOt C t ρ3 with
        | stuck => simp only [et] at h2; exact h2.elim
        | ex e ρ' => simp only [et] at h2; exact h2.elim
        | ok b ρ4 =>
          simp only [et] at h2
          intro G4 H4 s4 f5
          cases b with
          | false =>
            simp only [Bool.false_eq_true, if_false] at h2 ⊢
            exact ⟨G4, ρ4, acc, s2.trans (s3.trans s4), back f5, h2.up (s3.trans s4), rfl, hi⟩
          | true =>
            simp only [if_true] at h2 ⊢
            refine lc2_in hL hin1 hsub hl z1 (fun i hi => z2 i fun z => hi (hin' i z)) f5 (fun acc1 ρ5 => EPost L W G2 τ ts σ Q ((lcOut (bindT tg) (evOt C t) (lcIn (evI C it1) (bindT tg1) (evOt C t1) (evE C e) vs1) vs (xs.drop (i + 1)) acc1 (killS vs ρ5)).bind fin)) ?_ _ fun acc1 ρ5 G' H' hk s5 f6 => ⟨G', ρ5, acc1, s2.trans (s3.trans (s4.trans s5)), f6, hk.up (s3.trans (s4.trans s5)), rfl, hi⟩
            cases ei : lcIn (evI C it1) (bindT tg1) (evOt C t1) (evE C e) vs1 acc ρ4 with
            | stuck => simp only [ei] at h2; exact h2.elim
            | ex e ρ' => simp only [ei] at h2; exact h2.elim
            | ok acc1 ρ5 => simp only [ei] at h2; exact h2
theorem c_lc2 (S : Sup c C k L X W) {tg tg1 : Tg} {it it1 : Itx} {t t1 : Ot} {e : Ex} {vs vs1 : List Nat} {elt tg' iter tg1' iter1 : Expr} {ifs ifs1 : List Expr} {scope : Scope} {pos : Pos} (hb : blkC c.N X.env.scope scope (ownL c.N vs) = true) (hv : (ownL c.N vs).map (·.2) = vs) (hsub : ∀ i ∈ vs1, i ∈ vs) (hset : notSet iter = true) (hset1 : notSet iter1 = true)
    (htg : okTg c scope tg tg' = true) (hin : tg.sub vs = true) (htg1 : okTg c scope tg1 tg1' = true) (hin1 : tg1.sub vs1 = true) (hi : PI X tg' iter (tIt L W C it))
    (ht : ∀ (s : Shared) (H : Hp) (D : Addr) (cl : List (Str × Addr)) (fp : List Addr), PTs (X.blk s H scope (compEnvC scope cl D X.env) fp) ifs (tOt L noW C t))
    (hi1 : ∀ (s : Shared) (H : Hp) (D : Addr) (cl : List (Str × Addr)) (fp : List Addr), PI (X.blk s H scope (compEnvC scope cl D X.env) fp) tg1' iter1 (tIt L noW C it1))
    (ht1 : ∀ (s : Shared) (H : Hp) (D : Addr) (cl : List (Str × Addr)) (fp : List Addr), PTs (X.blk s H scope (compEnvC scope cl D X.env) fp) ifs1 (tOt L noW C t1))
    (he : ∀ (s : Shared) (H : Hp) (D : Addr) (cl : List (Str × Addr)) (fp : List Addr), PE (X.blk s H scope (compEnvC scope cl D X.env) fp) elt (tEx L noW C e)) :
    PE X (.ListComp elt [⟨tg', iter, ifs, 0⟩, ⟨tg1', iter1, ifs1, 0⟩] scope pos) (tEx L W C (.lc2 tg it t tg1 it1 t1 e vs vs1)) := by
  have pl := pe_lc2 (pos := pos) (g := gTg X.K tg) (g1 := gTg X.K tg1) (vs1 := vs1) S.calm (by rw [S.N]; exact S.nd) hi (by rw [S.N]; exact blkOk_by hb) (by rw [hv]; exact hsub) (fun s H D cl fp => pg_of (S.blk s H scope _ fp) blk_stores htg) ht hi1 (fun s H D cl fp => pg_of (S.blk s H scope _ fp) blk_stores htg1) ht1 he (fold_of hset) (fun env x => fold_of (env := env) hset1 x)
  rw [hv] at pl
  exact pl.imp (tLc2_of S.hL hin hin1 hsub)
end
end Mp
set_option Elab.async false
set_option linter.all false
set_option maxRecDepth 100000
set_option maxHeartbeats 2000000
namespace Mp
open PySem PySem.Spec PyProof.Rows L2
variable {L : Lk}
/-! # Tests -/
theorem _root_.L2.PTs.imp {X : Cx} {es : List Expr} {t t' : TT} (h : PTs X es t) (i : ∀ σ H Q, t' σ H Q → t σ H Q) : PTs X es t' := ⟨fun pins s σ H Q I q => h.run pins s σ H Q I (i σ H Q q)⟩
section
variable {c : Chk} {C : Cal} {k : Nat} {X : Cx} {W : WX} {a b e : Ex} {l r m : Expr} {pos : Pos}
theorem tOp_of (S : Sup c C k L X W) {o : CmpOp} {σ : L2.St} {H : Hp} {Q : VK} (h : tEx L W C (.cmp o a b) σ H Q) : tOp (rCmp L o) (tEx L W C a) (tEx L W C b) σ H Q :=
  two σ H Q _ h fun G τ ts ra ρ1 rb ρ2 v1 v2 G2 H2 hl h2 s2 f2 _ b1 b2 w1 w2 => by
    obtain ⟨x, e, h3⟩ := h2.lift
    obtain ⟨p, e1, e⟩ := bindO e
    obtain ⟨q, e2, e⟩ := bindO e
    obtain ⟨t, e3, rfl⟩ := mapO e
    exact ⟨G2, p, q, t, f2.good, argOf hl f2 w1 b1 e1, argOf hl f2 w2 b2 e2, e3, h3.giveF s2 f2 (rep_bl.mpr rfl)⟩
theorem R.bind_is {α β : Type} {x : R α} {f : α → List Slot → R β} {r : β} {ρ : List Slot} (h : x.bind f = .ok r ρ) : ∃ a ρ1, x = .ok a ρ1 ∧ f a ρ1 = .ok r ρ := by
  cases x with
  | ok a ρ1 => exact ⟨a, ρ1, rfl, h⟩
  | ex e ρ1 => cases h
  | stuck => cases h
theorem liftO_is {α : Type} {o : Option α} {ρ ρ' : List Slot} {r : α} (h : liftO ρ o = .ok r ρ') : o = some r ∧ ρ = ρ' := by
  cases o with
  | none => cases h
  | some x => cases h; exact ⟨rfl, rfl⟩
theorem isBl_cmp {o : CmpOp} {ρ ρ' : List Slot} {r : Rv} (h : evE C (.cmp o a b) ρ = .ok r ρ') : ∃ t, r = .fz (.bl t) := by
  obtain ⟨_, _, _, h⟩ := R.bind_is h
  obtain ⟨_, _, _, h⟩ := R.bind_is h
  obtain ⟨_, _, h⟩ := bindO (liftO_is h).1
  obtain ⟨_, _, h⟩ := bindO h
  obtain ⟨t, _, h⟩ := mapO h
  exact ⟨t, h.symm⟩
theorem isBl_cmp2 {o p : CmpOp} {d : Ex} {ρ ρ' : List Slot} {r : Rv} (h : evE C (.cmp2 o p a b d) ρ = .ok r ρ') : ∃ t, r = .fz (.bl t) := by
  obtain ⟨_, _, _, h⟩ := R.bind_is h
  obtain ⟨_, _, _, h⟩ := R.bind_is h
  obtain ⟨t, _, _, h⟩ := R.bind_is h
  cases t with
  | false => cases h; exact ⟨false, rfl⟩
  | true =>
    obtain ⟨_, _, _, h⟩ := R.bind_is (show R.bind (evE C d _) _ = _ from h)
    obtain ⟨_, _, h⟩ := bindO (liftO_is h).1
    obtain ⟨_, _, h⟩ := bindO h
    obtain ⟨t, _, h⟩ := mapO h
    exact ⟨t, h.symm⟩
theorem asTest {σ : L2.St} {H : Hp} {Q : Bool → Hp → Prop} (hb : ∀ ρ r ρ', evE C e ρ = .ok r ρ' → ∃ t, r = .fz (.bl t)) (h : tTe L W C (.val e) σ H Q) : tEx L W C e σ H fun x H' => ∃ k, x = .bl k ∧ Q k H' := by
  obtain ⟨G, ρ, τ, ts, hl, f, h⟩ := h
  refine ⟨G, ρ, τ, ts, hl, f, h.bind (Same.refl _) fun r ρ1 er h1 v G1 H1 s1 f1 b1 => ?_⟩
  obtain ⟨t, rfl⟩ := hb _ _ _ er
  exact ⟨t, bl_of f1, h1 G1 H1 s1 f1.tail⟩
theorem evT_cmp {o : CmpOp} {ρ : List Slot} : evT C (.cmp o a b) ρ = evT C (.val (.cmp o a b)) ρ := by
  simp only [evT, evE]
  cases evE C a ρ with
  | stuck => rfl
  | ex e ρ1 => rfl
  | ok r ρ1 =>
    simp only [R.bind_ok]
    cases evE C b ρ1 with
    | stuck => rfl
    | ex e ρ1 => rfl
    | ok q ρ2 =>
      simp only [R.bind_ok]
      cases r.val ρ2 with
      | none => rfl
      | some p1 =>
        cases q.val ρ2 with
        | none => rfl
        | some q1 =>
          simp only [Option.bind_some]
          cases cmpF o p1 q1 <;> rfl
theorem evT_cmp2 {o p : CmpOp} {d : Ex} {ρ : List Slot} : evT C (.cmp2 o p a b d) ρ = evT C (.val (.cmp2 o p a b d)) ρ := by
  simp only [evT, evE]
  cases evE C a ρ with
  | stuck => rfl
  | ex e ρ1 => rfl
  | ok r ρ1 =>
    simp only [R.bind_ok]
    cases evE C b ρ1 with
    | stuck => rfl
    | ex e ρ1 => rfl
    | ok q ρ2 =>
      simp only [R.bind_ok]
      cases (r.val ρ2).bind fun p => (q.val ρ2).bind fun q => cmpF o p q with
      | none => rfl
      | some t =>
        cases t with
        | false => rfl
        | true =>
          simp only [liftO, R.bind_ok, if_true]
          cases evE C d ρ2 with
          | stuck => rfl
          | ex e ρ1 => rfl
          | ok w ρ3 =>
            simp only [R.bind_ok]
            cases q.val ρ3 with
            | none => rfl
            | some p1 =>
              cases w.val ρ3 with
              | none => rfl
              | some q1 =>
                simp only [Option.bind_some]
                cases cmpF p p1 q1 <;> rfl
theorem t_cmp (S : Sup c C k L X W) {o : CmpOp} (hs : notSet r = true) (ha : PE X l (tEx L W C a)) (hb : PE X r (tEx L W C b)) : PT X (.Compare l [o] [r] pos) (tTe L W C (.cmp o a b)) :=
  (pt_cmpR (cmp_ok S.hL S.units o) ha hb (mark_of hs)).imp fun σ H Q ⟨G, ρ, τ, ts, hl, f, h⟩ => tOp_of S (asTest (fun ρ r ρ' => isBl_cmp) ⟨G, ρ, τ, ts, hl, f, by rw [← evT_cmp]; exact h⟩)
theorem t_cmp2 (S : Sup c C k L X W) {o p : CmpOp} {d : Ex} (hs : notSet r = true) (ha : PE X l (tEx L W C a)) (hb : PE X m (tEx L W C b)) (hd : PE X r (tEx L W C d)) : PT X (.Compare l [o, p] [m, r] pos) (tTe L W C (.cmp2 o p a b d)) :=
  (pt_chain (cmp_ok S.hL S.units o) (cmp_ok S.hL S.units p) ha hb hd (lmark_of hs)).imp fun σ H Q ⟨G, ρ, τ, ts, hl, f, h⟩ => tChain_of _ _ _ (asTest (fun ρ r ρ' => isBl_cmp2) ⟨G, ρ, τ, ts, hl, f, by rw [← evT_cmp2]; exact h⟩)
theorem plain_tr {x : Expr} {env : Env} (h : plainB x = true) : ∀ whole, isTrue x env whole = (do let v ← whole; standAt x.pos; holding [v] (truthy v)) := by
  intro whole
  cases x with
  | UnaryOp op x p => cases op <;> first | rfl | cases h
  | _ => first | rfl | cases h
theorem t_plain (S : Sup c C k L X W) (hp : plainB l = true) (ha : PE X l (tEx L W C a)) : PT X l (tTe L W C (.val a)) :=
  (pt_truth ha (plain_tr hp)).imp fun σ H Q ⟨G, ρ, τ, ts, hl, f, h⟩ => ⟨G, ρ, τ, ts, hl, f, h.bind (Same.refl _) fun r ρ1 er h1 v G1 H1 s1 f1 b1 => by
    obtain ⟨t, e, h2⟩ := h1.lift
    obtain ⟨p, e1, e⟩ := bindO e
    exact ⟨t, truth_ok S.hL f1.good (argOf hl f1.tail f1.head b1 e1) e, h2 G1 H1 s1 f1.tail⟩⟩
theorem t_not {t : Te} (ht : PT X l (tTe L W C t)) : PT X (.UnaryOp .Not l pos) (tTe L W C (.not t)) :=
  (pt_not ht).imp fun σ H Q ⟨G, ρ, τ, ts, hl, f, h⟩ => ⟨G, ρ, τ, ts, hl, f, h.bindB (Same.refl _) fun d ρ1 ea h1 G1 H1 s1 f1 => h1 G1 H1 s1 f1⟩
theorem tAnd_of {t u : Te} (σ : L2.St) (H : Hp) (Q : Bool → Hp → Prop) (h : tTe L W C (.and t u) σ H Q) : tAnd (tTe L W C t) (tTe L W C u) σ H Q := by
  obtain ⟨G, ρ, τ, ts, hl, f, h⟩ := h
  refine ⟨G, ρ, τ, ts, hl, f, h.bindB (Same.refl _) fun d ρ1 ea h1 G1 H1 s1 f1 => ?_⟩
  cases d with
  | true => exact ⟨G1, ρ1, τ, ts, hl, f1, h1.up s1⟩
  | false => exact h1 G1 H1 s1 f1
theorem tOr_of {t u : Te} (σ : L2.St) (H : Hp) (Q : Bool → Hp → Prop) (h : tTe L W C (.or t u) σ H Q) : tOr (tTe L W C t) (tTe L W C u) σ H Q := by
  obtain ⟨G, ρ, τ, ts, hl, f, h⟩ := h
  refine ⟨G, ρ, τ, ts, hl, f, h.bindB (Same.refl _) fun d ρ1 ea h1 G1 H1 s1 f1 => ?_⟩
  cases d with
  | true => exact h1 G1 H1 s1 f1
  | false => exact ⟨G1, ρ1, τ, ts, hl, f1, h1.up s1⟩
/-! # The checked expressions run as the evaluator says -/
theorem a_cons {es : Exs} {xs : List Expr} (hst : notStar l = true) (ha : PE X l (tEx L W C a)) (hs : PA X xs (tEs L W C es)) : PA X (l :: xs) (tEs L W C (.cons a es)) :=
  (pa_cons ha hs (star_of hst)).imp fun σ H Q ⟨G, ρ, τ, ts, hl, f, h⟩ => ⟨G, ρ, τ, ts, hl, f, by
    unfold evEs at h
    cases q : evE C a ρ with
    | stuck => rw [q] at h; exact h
    | ex e ρ1 => rw [q] at h; exact h
    | ok r ρ1 =>
      rw [q] at h
      intro v G1 H1 s1 f1 b1
      refine ⟨G1, ρ1, r.cell :: τ, some v :: ts, by simp [hl], f1, ?_⟩
      cases q2 : evEs C es ρ1 with
      | stuck => simp only [R.bind_ok, q2] at h; exact h
      | ex e ρ2 => simp only [R.bind_ok, q2] at h; exact XPost.mono h s1
      | ok rs ρ2 =>
        simp only [R.bind_ok, q2] at h
        exact fun vs G2 H2 s2 f2 b2 => h (v :: vs) G2 H2 (s1.trans s2) f2 (.cons b1 b2)⟩
theorem okEs_nil {sc : Scope} {es : Exs} (h : okEs c sc es [] = true) : es = .nil := by
  cases es with
  | nil => rfl
  | cons _ _ => cases h
theorem boolRest {op : BoolOp} {q : Expr → Bool} {rest : List Expr} (h : (match rest with | [] => q r | _ => q (.BoolOp op (r :: rest) pos)) = true) : (rest = [] ∧ q r = true) ∨ q (.BoolOp op (r :: rest) pos) = true := by
  cases rest with
  | nil => exact .inl ⟨rfl, h⟩
  | cons _ _ => exact .inr h
theorem o_some {x : Expr} (ha : PE X x (tEx L W C a)) : PO X (some x) (tOe L W C (.some a)) :=
  (po_some ha).imp fun σ H Q ⟨G, ρ, τ, ts, hl, f, h⟩ => ⟨G, ρ, τ, ts, hl, f, h.bind (Same.refl _) fun r ρ1 _ h1 v G1 H1 s1 f1 b1 => by
    split at h1
    · obtain rfl := int_of f1
      exact ⟨_, rfl, h1 G1 H1 s1 f1.tail⟩
    · exact h1.elim⟩
variable {sc : Scope} {es : Exs} {args : List Expr} {kws : List Keyword} {fe : Expr}
theorem an2 {a b : Bool} (h : (a && b) = true) : a = true ∧ b = true := by simpa using h
theorem cmp2_inv {o o2 : CmpOp} {d : Ex} {os : List CmpOp} {rs : List Expr} (h : okE c sc (.cmp2 o o2 a b d) (.Compare l os rs pos) = true) : ∃ m r, os = [o, o2] ∧ rs = [m, r] ∧ notSet r = true ∧ okE c sc a l = true ∧ okE c sc b m = true ∧ okE c sc d r = true := by
  rcases os with _ | ⟨o1, _ | ⟨o3, _ | ⟨_, _⟩⟩⟩ <;> rcases rs with _ | ⟨m, _ | ⟨r, _ | ⟨_, _⟩⟩⟩ <;> first | (cases h; done) | skip
  obtain ⟨h, h6⟩ := an2 h
  obtain ⟨h, h5⟩ := an2 h
  obtain ⟨h, h4⟩ := an2 h
  obtain ⟨h, h3⟩ := an2 h
  obtain ⟨h1, h2⟩ := an2 h
  exact ⟨m, r, by rw [of_decide_eq_true h1, of_decide_eq_true h2], rfl, h3, h4, h5, h6⟩
theorem cmp_inv {o : CmpOp} {os : List CmpOp} {rs : List Expr} (h : okE c sc (.cmp o a b) (.Compare l os rs pos) = true) : ∃ r, os = [o] ∧ rs = [r] ∧ notSet r = true ∧ okE c sc a l = true ∧ okE c sc b r = true := by
  rcases os with _ | ⟨o1, _ | ⟨_, _⟩⟩ <;> rcases rs with _ | ⟨r, _ | ⟨_, _⟩⟩ <;> first | (cases h; done) | skip
  obtain ⟨h, h4⟩ := an2 h
  obtain ⟨h, h3⟩ := an2 h
  obtain ⟨h1, h2⟩ := an2 h
  exact ⟨r, by rw [of_decide_eq_true h1], rfl, h2, h3, h4⟩
theorem tcmp2_inv {o o2 : CmpOp} {d : Ex} {os : List CmpOp} {rs : List Expr} (h : okT c sc (.cmp2 o o2 a b d) (.Compare l os rs pos) = true) : ∃ m r, os = [o, o2] ∧ rs = [m, r] ∧ notSet r = true ∧ okE c sc a l = true ∧ okE c sc b m = true ∧ okE c sc d r = true := by
  rcases os with _ | ⟨o1, _ | ⟨o3, _ | ⟨_, _⟩⟩⟩ <;> rcases rs with _ | ⟨m, _ | ⟨r, _ | ⟨_, _⟩⟩⟩ <;> first | (cases h; done) | skip
  obtain ⟨h, h6⟩ := an2 h
  obtain ⟨h, h5⟩ := an2 h
  obtain ⟨h, h4⟩ := an2 h
  obtain ⟨h, h3⟩ := an2 h
  obtain ⟨h1, h2⟩ := an2 h
  exact ⟨m, r, by rw [of_decide_eq_true h1, of_decide_eq_true h2], rfl, h3, h4, h5, h6⟩
theorem tcmp_inv {o : CmpOp} {os : List CmpOp} {rs : List Expr} (h : okT c sc (.cmp o a b) (.Compare l os rs pos) = true) : ∃ r, os = [o] ∧ rs = [r] ∧ notSet r = true ∧ okE c sc a l = true ∧ okE c sc b r = true := by
  rcases os with _ | ⟨o1, _ | ⟨_, _⟩⟩ <;> rcases rs with _ | ⟨r, _ | ⟨_, _⟩⟩ <;> first | (cases h; done) | skip
  obtain ⟨h, h4⟩ := an2 h
  obtain ⟨h, h3⟩ := an2 h
  obtain ⟨h1, h2⟩ := an2 h
  exact ⟨r, by rw [of_decide_eq_true h1], rfl, h2, h3, h4⟩
theorem band_inv {op : BoolOp} {xs : List Expr} (h : okE c sc (.band a b) (.BoolOp op xs pos) = true) : ∃ l r rest, op = .And ∧ xs = l :: r :: rest ∧ okE c sc a l = true ∧ (match rest with | [] => okE c sc b r | _ => okE c sc b (.BoolOp .And (r :: rest) pos)) = true := by
  cases op <;> rcases xs with _ | ⟨l, _ | ⟨r, rest⟩⟩ <;> first | (cases h; done) | skip
  obtain ⟨h1, h2⟩ := an2 h
  exact ⟨l, r, rest, rfl, rfl, h1, h2⟩
theorem bor_inv {op : BoolOp} {xs : List Expr} (h : okE c sc (.bor a b) (.BoolOp op xs pos) = true) : ∃ l r rest, op = .Or ∧ xs = l :: r :: rest ∧ okE c sc a l = true ∧ (match rest with | [] => okE c sc b r | _ => okE c sc b (.BoolOp .Or (r :: rest) pos)) = true := by
  cases op <;> rcases xs with _ | ⟨l, _ | ⟨r, rest⟩⟩ <;> first | (cases h; done) | skip
  obtain ⟨h1, h2⟩ := an2 h
  exact ⟨l, r, rest, rfl, rfl, h1, h2⟩
theorem tand_inv {t u : Te} {op : BoolOp} {xs : List Expr} (h : okT c sc (.and t u) (.BoolOp op xs pos) = true) : ∃ l r rest, op = .And ∧ xs = l :: r :: rest ∧ okT c sc t l = true ∧ (match rest with | [] => okT c sc u r | _ => okT c sc u (.BoolOp .And (r :: rest) pos)) = true := by
  cases op <;> rcases xs with _ | ⟨l, _ | ⟨r, rest⟩⟩ <;> first | (cases h; done) | skip
  obtain ⟨h1, h2⟩ := an2 h
  exact ⟨l, r, rest, rfl, rfl, h1, h2⟩
theorem tor_inv {t u : Te} {op : BoolOp} {xs : List Expr} (h : okT c sc (.or t u) (.BoolOp op xs pos) = true) : ∃ l r rest, op = .Or ∧ xs = l :: r :: rest ∧ okT c sc t l = true ∧ (match rest with | [] => okT c sc u r | _ => okT c sc u (.BoolOp .Or (r :: rest) pos)) = true := by
  cases op <;> rcases xs with _ | ⟨l, _ | ⟨r, rest⟩⟩ <;> first | (cases h; done) | skip
  obtain ⟨h1, h2⟩ := an2 h
  exact ⟨l, r, rest, rfl, rfl, h1, h2⟩
theorem call_inv {f : Nat} (h : okE c sc (.call f es) (.Call fe args kws pos) = true) : ∃ x p, fe = .Name x p ∧ kws = [] ∧ c.fnN[f]? = some x ∧ glB sc x = true ∧ okEs c sc es args = true := by
  cases fe <;> cases kws <;> first | (cases h; done) | skip
  obtain ⟨h, h3⟩ := an2 h
  obtain ⟨h1, h2⟩ := an2 h
  exact ⟨_, _, rfl, rfl, eq_of_beq h1, h2, h3⟩
theorem an_not {a : Bool} (h : (!a) = true) : a = false := by simpa using h
theorem new_inv {f : Nat} (h : okE c sc (.new f es) (.Call fe args kws pos) = true) : ∃ x p, fe = .Name x p ∧ kws = [] ∧ c.clN[f]? = some x ∧ glB sc x = true ∧ args.isEmpty = false ∧ okEs c sc es args = true := by
  cases fe <;> cases kws <;> first | (cases h; done) | skip
  obtain ⟨h, h4⟩ := an2 h
  obtain ⟨h, h3⟩ := an2 h
  obtain ⟨h1, h2⟩ := an2 h
  exact ⟨_, _, rfl, rfl, eq_of_beq h1, h2, an_not h3, h4⟩
theorem blt_inv {q : Blt} (h : okE c sc (.blt q es) (.Call fe args kws pos) = true) : ∃ p, fe = .Name q.name p ∧ kws = [] ∧ glB sc q.name = true ∧ args.isEmpty = false ∧ okEs c sc es args = true := by
  cases fe <;> cases kws <;> first | (cases h; done) | skip
  obtain ⟨h, h4⟩ := an2 h
  obtain ⟨h, h3⟩ := an2 h
  obtain ⟨h1, h2⟩ := an2 h
  obtain rfl := eq_of_beq h1
  exact ⟨_, rfl, rfl, h2, an_not h3, h4⟩
theorem bm_inv {q : Bmt} (h : okE c sc (.bm q a es) (.Call fe args kws pos) = true) : ∃ v p, fe = .Attribute v q.nm p ∧ kws = [] ∧ baseB v = true ∧ args.isEmpty = false ∧ args.length < 30 ∧ (p.endLine == pos.line) = true ∧ okE c sc a v = true ∧ okEs c sc es args = true := by
  cases fe <;> cases kws <;> first | (cases h; done) | skip
  obtain ⟨h, h7⟩ := an2 h
  obtain ⟨h, h6⟩ := an2 h
  obtain ⟨h, h5⟩ := an2 h
  obtain ⟨h, h4⟩ := an2 h
  obtain ⟨h, h3⟩ := an2 h
  obtain ⟨h1, h2⟩ := an2 h
  obtain rfl := eq_of_beq h1
  exact ⟨_, _, rfl, rfl, h2, an_not h3, of_decide_eq_true h4, h5, h6, h7⟩
theorem isi_inv {q : TyK} (h : okE c sc (.isi a q) (.Call fe args kws pos) = true) : ∃ px e py, fe = .Name "isinstance" px ∧ args = [e, .Name q.name py] ∧ kws = [] ∧ glB sc "isinstance" = true ∧ glB sc q.name = true ∧ q.plainK = true ∧ notStar e = true ∧ okE c sc a e = true := by
  cases fe <;> first | (cases h; done) | skip
  rcases args with _ | ⟨e, _ | ⟨y, tl⟩⟩
  · cases kws <;> cases h
  · cases kws <;> cases h
  cases y <;> cases tl <;> cases kws <;> first | (cases h; done) | skip
  obtain ⟨h, h7⟩ := an2 h
  obtain ⟨h, h6⟩ := an2 h
  obtain ⟨h, h5⟩ := an2 h
  obtain ⟨h, h4⟩ := an2 h
  obtain ⟨h, h3⟩ := an2 h
  obtain ⟨h1, h2⟩ := an2 h
  obtain rfl := eq_of_beq h1
  obtain rfl := eq_of_beq h3
  exact ⟨_, e, _, rfl, rfl, rfl, h2, h4, h5, h6, h7⟩
theorem mu_inv {mu : Mu} {i : Nat} (h : okE c sc (.mu mu i es) (.Call fe args kws pos) = true) : ∃ y p x q, fe = .Attribute (.Name y p) x q ∧ kws = [] ∧ muOk mu x args.length = true ∧ c.N[i]? = some y ∧ visB sc y = true ∧ (y == ("__debug__" : Str)) = false ∧ (y == ("__classdict__" : Str)) = false ∧ args.length < 30 ∧ (q.endLine == pos.line) = true ∧ okEs c sc es args = true := by
  cases fe <;> first | (cases h; done) | skip
  rename_i v x q
  cases v <;> cases kws <;> first | (cases h; done) | skip
  obtain ⟨h, h8⟩ := an2 h
  obtain ⟨h, h7⟩ := an2 h
  obtain ⟨h, h6⟩ := an2 h
  obtain ⟨h, h5⟩ := an2 h
  obtain ⟨h, h4⟩ := an2 h
  obtain ⟨h, h3⟩ := an2 h
  obtain ⟨h1, h2⟩ := an2 h
  exact ⟨_, _, _, _, rfl, rfl, h1, eq_of_beq h2, h3, an_not h4, an_not h5, of_decide_eq_true h6, h7, h8⟩
theorem lc_inv {tg : Tg} {it : Itx} {t : Ot} {vs : List Nat} {elt : Expr} {gs : List Comprehension} {scope : Scope} (h : okE c sc (.lc tg it t e vs) (.ListComp elt gs scope pos) = true) : ∃ tg' iter ifs, gs = [⟨tg', iter, ifs, 0⟩] ∧ blkC c.N sc scope (ownL c.N vs) = true ∧ (ownL c.N vs).map (·.2) = vs ∧ notSet iter = true ∧
    okTg c scope tg tg' = true ∧ tg.sub vs = true ∧ okI c sc tg.isTup it iter = true ∧ okOt c (relS scope sc) t ifs = true ∧ okE c (relS scope sc) e elt = true := by
  rcases gs with _ | ⟨⟨tg', iter, ifs, isa⟩, tl⟩
  · cases h
  rcases isa with (_ | isa) | isa <;> cases tl <;> first | (cases h; done) | skip
  obtain ⟨h, h8⟩ := an2 h
  obtain ⟨h, h7⟩ := an2 h
  obtain ⟨h, h6⟩ := an2 h
  obtain ⟨h, h5⟩ := an2 h
  obtain ⟨h, h4⟩ := an2 h
  obtain ⟨h, h3⟩ := an2 h
  obtain ⟨h1, h2⟩ := an2 h
  exact ⟨tg', iter, ifs, rfl, h1, of_decide_eq_true h2, h3, h4, h5, h6, h7, h8⟩
theorem lc2_inv {tg tg1 : Tg} {it it1 : Itx} {t t1 : Ot} {vs vs1 : List Nat} {elt : Expr} {gs : List Comprehension} {scope : Scope} (h : okE c sc (.lc2 tg it t tg1 it1 t1 e vs vs1) (.ListComp elt gs scope pos) = true) : ∃ tg' iter ifs tg1' iter1 ifs1, gs = [⟨tg', iter, ifs, 0⟩, ⟨tg1', iter1, ifs1, 0⟩] ∧ blkC c.N sc scope (ownL c.N vs) = true ∧ (ownL c.N vs).map (·.2) = vs ∧ (∀ i ∈ vs1, i ∈ vs) ∧ notSet iter = true ∧ notSet iter1 = true ∧
    okTg c scope tg tg' = true ∧ tg.sub vs = true ∧ okTg c scope tg1 tg1' = true ∧ tg1.sub vs1 = true ∧ okI c sc tg.isTup it iter = true ∧ okOt c (relS scope sc) t ifs = true ∧ okI c (relS scope sc) tg1.isTup it1 iter1 = true ∧ okOt c (relS scope sc) t1 ifs1 = true ∧ okE c (relS scope sc) e elt = true := by
  rcases gs with _ | ⟨⟨tg', iter, ifs, isa⟩, tl⟩
  · cases h
  rcases tl with _ | ⟨⟨tg1', iter1, ifs1, isa1⟩, tl⟩
  · rcases isa with (_ | isa) | isa <;> cases h
  rcases isa with (_ | isa) | isa <;> rcases isa1 with (_ | isa1) | isa1 <;> cases tl <;> first | (cases h; done) | skip
  obtain ⟨h, h14⟩ := an2 h
  obtain ⟨h, h13⟩ := an2 h
  obtain ⟨h, h12⟩ := an2 h
  obtain ⟨h, h11⟩ := an2 h
  obtain ⟨h, h10⟩ := an2 h
  obtain ⟨h, h9⟩ := an2 h
  obtain ⟨h, h8⟩ := an2 h
  obtain ⟨h, h7⟩ := an2 h
  obtain ⟨h, h6⟩ := an2 h
  obtain ⟨h, h5⟩ := an2 h
  obtain ⟨h, h4⟩ := an2 h
  obtain ⟨h, h3⟩ := an2 h
  obtain ⟨h1, h2⟩ := an2 h
  exact ⟨tg', iter, ifs, tg1', iter1, ifs1, rfl, h1, of_decide_eq_true h2, fun i hi => by simpa using List.all_eq_true.mp h3 i hi, h4, h5, h6, h7, h8, h9, h10, h11, h12, h13, h14⟩
theorem tup_of {tg : Tg} {x : Expr} (h : okTg c sc tg x = true) (z : tg.isTup = true) : ∃ es j p, x = .Tuple es j p := by
  cases tg with
  | nm i => cases z
  | tp is => cases x <;> first | (cases h; done) | exact ⟨_, _, _, rfl⟩
theorem range1_inv {tup : Bool} (h : okI c sc tup (.range1 a) (.Call fe args kws pos) = true) : ∃ q l, fe = .Name "range" q ∧ args = [l] ∧ kws = [] ∧ glB sc "range" = true ∧ notStar l = true ∧ okE c sc a l = true := by
  cases fe <;> cases kws <;> rcases args with _ | ⟨l, _ | ⟨_, _⟩⟩ <;> first | (cases h; done) | skip
  obtain ⟨h, h4⟩ := an2 h
  obtain ⟨h, h3⟩ := an2 h
  obtain ⟨h1, h2⟩ := an2 h
  obtain rfl := eq_of_beq h1
  exact ⟨_, l, rfl, rfl, rfl, h2, h3, h4⟩
theorem range2_inv {tup : Bool} (h : okI c sc tup (.range2 a b) (.Call fe args kws pos) = true) : ∃ q l r, fe = .Name "range" q ∧ args = [l, r] ∧ kws = [] ∧ glB sc "range" = true ∧ notStar l = true ∧ notStar r = true ∧ okE c sc a l = true ∧ okE c sc b r = true := by
  cases fe <;> cases kws <;> rcases args with _ | ⟨l, _ | ⟨r, _ | ⟨_, _⟩⟩⟩ <;> first | (cases h; done) | skip
  obtain ⟨h, h6⟩ := an2 h
  obtain ⟨h, h5⟩ := an2 h
  obtain ⟨h, h4⟩ := an2 h
  obtain ⟨h, h3⟩ := an2 h
  obtain ⟨h1, h2⟩ := an2 h
  obtain rfl := eq_of_beq h1
  exact ⟨_, l, r, rfl, rfl, rfl, h2, h3, h4, h5, h6⟩
theorem enum_inv {tup : Bool} (h : okI c sc tup (.enum a) (.Call fe args kws pos) = true) : ∃ q l, fe = .Name "enumerate" q ∧ args = [l] ∧ kws = [] ∧ tup = true ∧ glB sc "enumerate" = true ∧ notStar l = true ∧ okE c sc a l = true := by
  cases fe <;> cases kws <;> rcases args with _ | ⟨l, _ | ⟨_, _⟩⟩ <;> first | (cases h; done) | skip
  obtain ⟨h, h4⟩ := an2 h
  obtain ⟨h, h3⟩ := an2 h
  obtain ⟨h, h2⟩ := an2 h
  obtain ⟨h0, h1⟩ := an2 h
  obtain rfl := eq_of_beq h1
  exact ⟨_, l, rfl, rfl, rfl, h0, h2, h3, h4⟩
theorem zip_inv {tup : Bool} (h : okI c sc tup (.zip a b) (.Call fe args kws pos) = true) : ∃ q l r, fe = .Name "zip" q ∧ args = [l, r] ∧ kws = [] ∧ tup = true ∧ glB sc "zip" = true ∧ notStar l = true ∧ notStar r = true ∧ okE c sc a l = true ∧ okE c sc b r = true := by
  cases fe <;> cases kws <;> rcases args with _ | ⟨l, _ | ⟨r, _ | ⟨_, _⟩⟩⟩ <;> first | (cases h; done) | skip
  obtain ⟨h, h6⟩ := an2 h
  obtain ⟨h, h5⟩ := an2 h
  obtain ⟨h, h4⟩ := an2 h
  obtain ⟨h, h3⟩ := an2 h
  obtain ⟨h, h2⟩ := an2 h
  obtain ⟨h0, h1⟩ := an2 h
  obtain rfl := eq_of_beq h1
  exact ⟨_, l, r, rfl, rfl, rfl, h0, h2, h3, h4, h5, h6⟩
theorem revR_inv {tup : Bool} (h : okI c sc tup (.revR a) (.Call fe args kws pos) = true) : ∃ q l q2 p2, fe = .Name "reversed" q ∧ args = [.Call (.Name "range" q2) [l] [] p2] ∧ kws = [] ∧ glB sc "reversed" = true ∧ glB sc "range" = true ∧ notStar l = true ∧ okE c sc a l = true := by
  cases fe <;> first | (cases h; done) | skip
  rcases args with _ | ⟨y, tl⟩
  · cases kws <;> cases h
  cases y <;> first | (cases tl <;> cases kws <;> cases h; done) | skip
  rename_i fe2 as2 kw2 p2
  cases fe2 <;> rcases as2 with _ | ⟨l, _ | ⟨_, _⟩⟩ <;> cases kw2 <;> cases tl <;> cases kws <;> first | (cases h; done) | skip
  obtain ⟨h, h6⟩ := an2 h
  obtain ⟨h, h5⟩ := an2 h
  obtain ⟨h, h4⟩ := an2 h
  obtain ⟨h, h3⟩ := an2 h
  obtain ⟨h1, h2⟩ := an2 h
  obtain rfl := eq_of_beq h1
  obtain rfl := eq_of_beq h3
  exact ⟨_, l, _, _, rfl, rfl, rfl, h2, h4, h5, h6⟩
theorem plain_bool {x : Expr} (h : plainB x = true) {op : BoolOp} {es : List Expr} {p : Pos} : x ≠ .BoolOp op es p := by
  rintro rfl
  cases h
end
end Mp
set_option Elab.async false
set_option linter.all false
set_option maxRecDepth 100000
set_option maxHeartbeats 4000000
namespace Mp
open PySem PySem.Spec PyProof.Rows L2
variable {L : Lk} {c : Chk} {k : Nat}
theorem and2 {a b : Bool} (h : (a && b) = true) : a = true ∧ b = true := by simpa using h
theorem nt {a : Bool} (h : (!a) = true) : a = false := by simpa using h
/-- what the recursion gives of a test -/
def PTW (X : Cx) (x : Expr) (t : TT) : Prop := PT X x t ∧ ∀ op es pos, x = .BoolOp op es pos → PW X x t
mutual
theorem sE (C : Cal) : ∀ (e : Ex) {X : Cx} {W : WX} (S : Sup c C k L X W) (x : Expr), okE c X.env.scope e x = true → PE X x (tEx L W C e)
  | .var i, X, W, S, x, h => by
    cases x with
    | Name y p =>
      obtain ⟨h, h4⟩ := and2 h
      obtain ⟨h, h3⟩ := and2 h
      obtain ⟨h1, h2⟩ := and2 h
      exact c_var S (eq_of_beq h1) h2 (nt h3) (nt h4)
    | _ => cases h
  | .cst p, X, W, S, x, h => by
    cases x with
    | Constant kc j q => exact c_cst h
    | _ => cases h
  | .glob g, X, W, S, x, h => by
    cases x with
    | Name y p =>
      obtain ⟨h1, h2⟩ := and2 h
      exact c_glob S (eq_of_beq h1) h2
    | _ => cases h
  | .bin o a b, X, W, S, x, h => by
    cases x with
    | BinOp l o' r p =>
      obtain ⟨h, h3⟩ := and2 h
      obtain ⟨h1, h2⟩ := and2 h
      obtain rfl := of_decide_eq_true h1
      exact c_bin S o (sE C a S l h2) (sE C b S r h3)
    | _ => cases h
  | .neg a, X, W, S, x, h => by
    cases x with
    | UnaryOp op y p =>
      cases op with
      | USub => exact c_neg (sE C a S y h)
      | _ => cases h
    | _ => cases h
  | .cmp o a b, X, W, S, x, h => by
    cases x with
    | Compare l os rs p =>
      obtain ⟨r, rfl, rfl, h2, h3, h4⟩ := cmp_inv h
      exact c_cmp S o h2 (sE C a S l h3) (sE C b S r h4)
    | _ => cases h
  | .cmp2 o o2 a b d, X, W, S, x, h => by
    cases x with
    | Compare l os rs p =>
      obtain ⟨m, r, rfl, rfl, h2, h3, h4, h5⟩ := cmp2_inv h
      exact c_cmp2 S h2 (sE C a S l h3) (sE C b S m h4) (sE C d S r h5)
    | _ => cases h
  | .band a b, X, W, S, x, h => by
    cases x with
    | BoolOp op es p =>
      obtain ⟨l, r, rest, rfl, rfl, h1, h2⟩ := band_inv h
      rcases boolRest (op := .And) (q := okE c X.env.scope b) h2 with ⟨rfl, h2⟩ | h2
      · exact c_band (sE C a S l h1) (pe_one (sE C b S r h2))
      · exact c_band (sE C a S l h1) (sE C b S _ h2)
    | _ => cases h
  | .bor a b, X, W, S, x, h => by
    cases x with
    | BoolOp op es p =>
      obtain ⟨l, r, rest, rfl, rfl, h1, h2⟩ := bor_inv h
      rcases boolRest (op := .Or) (q := okE c X.env.scope b) h2 with ⟨rfl, h2⟩ | h2
      · exact c_bor (sE C a S l h1) (pe_one (sE C b S r h2))
      · exact c_bor (sE C a S l h1) (sE C b S _ h2)
    | _ => cases h
  | .bnot a, X, W, S, x, h => by
    cases x with
    | UnaryOp op y p =>
      cases op with
      | Not => exact c_bnot (sE C a S y h)
      | _ => cases h
    | _ => cases h
  | .ite t a b, X, W, S, x, h => by
    cases x with
    | IfExp ct l r p =>
      obtain ⟨h, h3⟩ := and2 h
      obtain ⟨h1, h2⟩ := and2 h
      exact c_ite (sT C t S ct h1).1 (sE C a S l h2) (sE C b S r h3)
    | _ => cases h
  | .tup es, X, W, S, x, h => by
    cases x with
    | Tuple xs j p => exact c_tup (sEs C es S xs h)
    | _ => cases h
  | .lst es, X, W, S, x, h => by
    cases x with
    | List xs p => exact c_lst (sEs C es S xs h)
    | _ => cases h
  | .ix a b, X, W, S, x, h => by
    cases x with
    | Subscript v s p =>
      obtain ⟨h, h3⟩ := and2 h
      obtain ⟨h1, h2⟩ := and2 h
      exact c_ix S h1 (sE C a S v h2) (sE C b S s h3)
    | _ => cases h
  | .sl a lo hi, X, W, S, x, h => by
    cases x with
    | Subscript v s p =>
      cases s with
      | Slice l hh st p2 =>
        cases st with
        | some _ => cases h
        | none =>
          obtain ⟨h, h3⟩ := and2 h
          obtain ⟨h1, h2⟩ := and2 h
          exact c_sl S (sE C a S v h1) (sO C lo S l h2) (sO C hi S hh h3)
      | _ => cases h
    | _ => cases h
  | .fld a n, X, W, S, x, h => by
    cases x with
    | Attribute v y p =>
      obtain ⟨h, h3⟩ := and2 h
      obtain ⟨h1, h2⟩ := and2 h
      exact c_fld S (eq_of_beq h1) h2 (sE C a S v h3)
    | _ => cases h
  | .call f es, X, W, S, x, h => by
    cases x with
    | Call fe args kws p =>
      obtain ⟨y, q, rfl, rfl, h1, h2, h3⟩ := call_inv h
      exact c_call S h1 h2 (okEs_star h3) (fun z => by subst z; exact okEs_nil h3) (sEs C es S args h3)
    | _ => cases h
  | .new i es, X, W, S, x, h => by
    cases x with
    | Call fe args kws p =>
      obtain ⟨y, q, rfl, rfl, h1, h2, h3, h4⟩ := new_inv h
      exact c_new S h1 h2 (okEs_star h4) h3 (sEs C es S args h4)
    | _ => cases h
  | .blt b es, X, W, S, x, h => by
    cases x with
    | Call fe args kws p =>
      obtain ⟨q, rfl, rfl, h2, h3, h4⟩ := blt_inv h
      exact c_blt S h2 (okEs_star h4) h3 (sEs C es S args h4)
    | _ => cases h
  | .bm m a es, X, W, S, x, h => by
    cases x with
    | Call fe args kws p =>
      obtain ⟨v, q, rfl, rfl, h1, h2, h3, h4, h5, h6⟩ := bm_inv h
      exact c_bm S h1 (okEs_star h6) h2 h3 h4 (sE C a S v h5) (sEs C es S args h6)
    | _ => cases h
  | .isi a q, X, W, S, x, h => by
    cases x with
    | Call fe args kws p =>
      obtain ⟨px, e, py, rfl, rfl, rfl, h1, h2, h3, h4, h5⟩ := isi_inv h
      exact c_isi S h1 h3 h2 h4 (sE C a S e h5)
    | _ => cases h
  | .mu m i es, X, W, S, x, h => by
    cases x with
    | Call fe args kws p =>
      obtain ⟨y, q, z, q2, rfl, rfl, h1, h2, h3, h4, h5, h6, h7, h8⟩ := mu_inv h
      exact c_mu S h2 h3 h4 h5 h1 (okEs_star h8) h6 (fun z => by subst z; exact okEs_nil h8) h7 (sEs C es S args h8)
    | _ => cases h
  | .lc tg it t e vs, X, W, S, x, h => by
    cases x with
    | ListComp elt gs scope p =>
      obtain ⟨tg', iter, ifs, rfl, h1, h2, h3, h4, h5, h6, h7, h8⟩ := lc_inv h
      exact c_lc S h1 h2 h3 h4 h5 (sI C it S iter tg' (fun z => tup_of h4 z) h6) (fun s H D cl fp => sOt C t (S.blk s H scope _ fp) ifs h7) (fun s H D cl fp => sE C e (S.blk s H scope _ fp) elt h8)
    | _ => cases h
  | .lc2 tg it t tg1 it1 t1 e vs vs1, X, W, S, x, h => by
    cases x with
    | ListComp elt gs scope p =>
      obtain ⟨tg', iter, ifs, tg1', iter1, ifs1, rfl, h1, h2, h3, h4, h5, h6, h7, h8, h9, h10, h11, h12, h13, h14⟩ := lc2_inv h
      exact c_lc2 S h1 h2 h3 h4 h5 h6 h7 h8 h9 (sI C it S iter tg' (fun z => tup_of h6 z) h10) (fun s H D cl fp => sOt C t (S.blk s H scope _ fp) ifs h11) (fun s H D cl fp => sI C it1 (S.blk s H scope _ fp) iter1 tg1' (fun z => tup_of h8 z) h12)
        (fun s H D cl fp => sOt C t1 (S.blk s H scope _ fp) ifs1 h13) (fun s H D cl fp => sE C e (S.blk s H scope _ fp) elt h14)
    | _ => cases h
theorem sEs (C : Cal) : ∀ (es : Exs) {X : Cx} {W : WX} (S : Sup c C k L X W) (xs : List Expr), okEs c X.env.scope es xs = true → PA X xs (tEs L W C es)
  | .nil, X, W, S, xs, h => by
    cases xs with
    | nil => exact pa_nil.imp fun σ H Q h => nilArgs h
    | cons _ _ => cases h
  | .cons e es, X, W, S, xs, h => by
    cases xs with
    | nil => cases h
    | cons x xs =>
      obtain ⟨h, h3⟩ := and2 h
      obtain ⟨h1, h2⟩ := and2 h
      exact a_cons h1 (sE C e S x h2) (sEs C es S xs h3)
theorem sO (C : Cal) : ∀ (o : Oe) {X : Cx} {W : WX} (S : Sup c C k L X W) (x : Option Expr), okO c X.env.scope o x = true → PO X x (tOe L W C o)
  | .none, X, W, S, x, h => by
    cases x with
    | none => exact po_none.imp fun σ H Q ⟨G, ρ, τ, ts, hl, f, h⟩ => h G H (Same.refl _) f
    | some _ => cases h
  | .some e, X, W, S, x, h => by
    cases x with
    | none => cases h
    | some y => exact o_some (sE C e S y h)
theorem sOt (C : Cal) : ∀ (t : Ot) {X : Cx} {W : WX} (S : Sup c C k L X W) (xs : List Expr), okOt c X.env.scope t xs = true → PTs X xs (tOt L W C t)
  | .none, X, W, S, xs, h => by
    cases xs with
    | nil => exact pts_nil.imp fun σ H Q ⟨G, ρ, τ, ts, hl, f, h⟩ => h G H (Same.refl _) f
    | cons _ _ => cases h
  | .some t, X, W, S, xs, h => by
    cases xs with
    | nil => cases h
    | cons x xs =>
      cases xs with
      | cons _ _ => cases h
      | nil => exact pts_one (sT C t S x h).1
theorem sT (C : Cal) : ∀ (t : Te) {X : Cx} {W : WX} (S : Sup c C k L X W) (x : Expr), okT c X.env.scope t x = true → PTW X x (tTe L W C t)
  | .cmp o a b, X, W, S, x, h => by
    cases x with
    | Compare l os rs p =>
      obtain ⟨r, rfl, rfl, h2, h3, h4⟩ := tcmp_inv h
      exact ⟨t_cmp S h2 (sE C a S l h3) (sE C b S r h4), fun _ _ _ e => by cases e⟩
    | _ => cases h
  | .cmp2 o o2 a b d, X, W, S, x, h => by
    cases x with
    | Compare l os rs p =>
      obtain ⟨m, r, rfl, rfl, h2, h3, h4, h5⟩ := tcmp2_inv h
      exact ⟨t_cmp2 S h2 (sE C a S l h3) (sE C b S m h4) (sE C d S r h5), fun _ _ _ e => by cases e⟩
    | _ => cases h
  | .val e, X, W, S, x, h => by
    obtain ⟨k1, k2⟩ := and2 h
    exact ⟨t_plain S k1 (sE C e S x k2), fun _ _ _ z => absurd z (plain_bool k1)⟩
  | .not t, X, W, S, x, h => by
    cases x with
    | UnaryOp op y p =>
      cases op with
      | Not => exact ⟨t_not (sT C t S y h).1, fun op es pos e => by cases e⟩
      | _ => cases h
    | _ => cases h
  | .and a b, X, W, S, x, h => by
    cases x with
    | BoolOp op es p =>
      obtain ⟨l, r, rest, rfl, rfl, h1, h2⟩ := tand_inv h
      have ha := (sT C a S l h1).1
      rcases boolRest (op := .And) (q := okT c X.env.scope b) h2 with ⟨rfl, h2⟩ | h2
      · have q := (pw_and ha (pw_and1 (pos := p) (sT C b S r h2).1)).imp tAnd_of
        exact ⟨q.pt, fun _ _ _ e => q⟩
      · have q := (pw_and ha ((sT C b S _ h2).2 _ _ _ rfl)).imp tAnd_of
        exact ⟨q.pt, fun _ _ _ e => q⟩
    | _ => cases h
  | .or a b, X, W, S, x, h => by
    cases x with
    | BoolOp op es p =>
      obtain ⟨l, r, rest, rfl, rfl, h1, h2⟩ := tor_inv h
      have ha := (sT C a S l h1).1
      rcases boolRest (op := .Or) (q := okT c X.env.scope b) h2 with ⟨rfl, h2⟩ | h2
      · have q := (pw_or ha (pw_or1 (pos := p) (sT C b S r h2).1)).imp tOr_of
        exact ⟨q.pt, fun _ _ _ e => q⟩
      · have q := (pw_or ha ((sT C b S _ h2).2 _ _ _ rfl)).imp tOr_of
        exact ⟨q.pt, fun _ _ _ e => q⟩
    | _ => cases h
theorem sI (C : Cal) : ∀ (it : Itx) {X : Cx} {W : WX} (S : Sup c C k L X W) (x tg : Expr) {tup : Bool} (ht : tup = true → ∃ es j p, tg = .Tuple es j p), okI c X.env.scope tup it x = true → PI X tg x (tIt L W C it)
  | .val e, X, W, S, x, tg, tup, ht, h => by
    obtain ⟨h, h3⟩ := and2 h
    exact i_val S (sE C e S x h3)
  | .range1 a, X, W, S, x, tg, tup, ht, h => by
    cases x with
    | Call fe args kws p =>
      obtain ⟨q, l, rfl, rfl, rfl, h1, h2, h3⟩ := range1_inv h
      exact i_range1 S h1 h2 (sE C a S l h3)
    | _ => cases h
  | .range2 a b, X, W, S, x, tg, tup, ht, h => by
    cases x with
    | Call fe args kws p =>
      obtain ⟨q, l, r, rfl, rfl, rfl, h1, h2, h3, h4, h5⟩ := range2_inv h
      exact i_range2 S h1 h2 h3 (sE C a S l h4) (sE C b S r h5)
    | _ => cases h
  | .enum a, X, W, S, x, tg, tup, ht, h => by
    cases x with
    | Call fe args kws p =>
      obtain ⟨q, l, rfl, rfl, rfl, h0, h1, h2, h3⟩ := enum_inv h
      obtain ⟨es, j, p, rfl⟩ := ht h0
      exact i_enum S h1 h2 (sE C a S l h3)
    | _ => cases h
  | .zip a b, X, W, S, x, tg, tup, ht, h => by
    cases x with
    | Call fe args kws p =>
      obtain ⟨q, l, r, rfl, rfl, rfl, h0, h1, h2, h3, h4, h5⟩ := zip_inv h
      obtain ⟨es, j, p, rfl⟩ := ht h0
      exact i_zip S h1 h2 h3 (sE C a S l h4) (sE C b S r h5)
    | _ => cases h
  | .revR a, X, W, S, x, tg, tup, ht, h => by
    cases x with
    | Call fe args kws p =>
      obtain ⟨q, l, q2, p2, rfl, rfl, rfl, h1, h2, h3, h4⟩ := revR_inv h
      exact i_revR S h1 h2 h3 (sE C a S l h4)
    | _ => cases h
end
end Mp
set_option Elab.async false
set_option linter.all false
set_option maxRecDepth 100000
set_option maxHeartbeats 4000000
namespace Mp
open PySem PySem.Spec PyProof.Rows L2
variable {L : Lk}
/-! # Statements: the checker -/
def Tg.free (tg : Tg) (self : Bool) : Bool := !self || !(match tg with | .nm i => i == 0 | .tp is => is.contains 0)
theorem Tg.free_of {tg : Tg} {self : Bool} (h : tg.free self = true) (hs : self = true) : 0 ∉ tg.all := by
  subst hs
  cases tg with
  | nm i => cases i with
    | zero => cases h
    | succ i => simp [Tg.all]
  | tp is => simpa [Tg.free, Tg.all] using h
def notComp : Expr → Bool
  | .ListComp _ _ _ _ => false
  | .SetComp _ _ _ _ => false
  | .DictComp _ _ _ _ _ => false
  | _ => true
def notTup : Expr → Bool
  | .Tuple _ _ _ => false
  | _ => true
/-- whether the comprehension's own names give way to the target's -/
def swB (sc : Scope) (t : Str) (tline : Nat) (scope : Scope) (vline : Nat) : Bool := (sc.names.lookup t == some .local) && (tline == vline) && !(scope.names.any fun (n, k) => n == t && (k == .local || k == .cell))
/-- how a value goes into a name -/
def okSw (sc : Scope) (t : Str) (tline : Nat) : Expr → Bool
  | .ListComp _ _ scope p => !swB sc t tline scope p.line
  | .SetComp _ _ _ _ => false
  | .DictComp _ _ _ _ _ => false
  | _ => true
section
variable (c : Chk)
mutual
def okS (sc : Scope) : Sk → Stmt → Bool
  | .set (.nm i) e, .Assign [.Name y py] v _ => okTg c sc (.nm i) (.Name y py) && (Tg.nm i).free c.self && okE c sc e v && (match e, v with
      | .lc _ _ _ _ _, .ListComp _ _ scope p => okSw sc y py.line v || swB sc y py.line scope p.line
      | .lc2 _ _ _ _ _ _ _ _ _, .ListComp _ _ scope p => okSw sc y py.line v || swB sc y py.line scope p.line
      | _, _ => okSw sc y py.line v)
  | .set (.tp is) e, .Assign [.Tuple es j p] v _ => okTg c sc (.tp is) (.Tuple es j p) && (Tg.tp is).free c.self && notTup v && okE c sc e v
  | .setI i ix e, .Assign [.Subscript (.Name y _) s _] v _ => (c.N[i]? == some y) && visB sc y && !(y == ("__debug__" : Str)) && !(y == ("__classdict__" : Str)) && notSlice s && okE c sc ix s && okE c sc e v
  | .setF i n e, .Assign [.Attribute (.Name y _) x _] v _ => (c.N[i]? == some y) && visB sc y && !(y == ("__debug__" : Str)) && !(y == ("__classdict__" : Str)) && (c.atN[n]? == some x) && okE c sc e v
  | .expr e, .Expr v _ => notComp v && okE c sc e v
  | .ret e, .Return (some v) _ => okE c sc e v
  | .retN, .Return none _ => true
  | .ifs t a b, .If x p q _ => okT c sc t x && okSs sc a p && okSs sc b q
  | .for_ tg it body kill, .For tg' iter b [] _ => notSet iter && okTg c sc tg tg' && tg.free c.self && okI c sc tg.isTup it iter && okSs sc body b
  | .while_ _ t body _, .While x b [] _ => okT c sc t x && okSs sc body b
  | .brk, .Break _ => true
  | .cont, .Continue _ => true
  | .pass, .Pass _ => true
  | .pass, .Expr (.Constant (.str _) _ _) _ => true
  | .never, _ => true
  | _, _ => false
def okSs (sc : Scope) : List Sk → List Stmt → Bool
  | [], [] => true
  | s :: ss, x :: xs => okS sc s x && okSs sc ss xs
  | _, _ => false
end
end
/-! # Readings -/
/-- what stands in slot 0 -/
abbrev Zk (z : Option (Option V)) (σ : L2.St) : Prop := ∀ o, z = some o → σ[0]? = some o
def FPost (L : Lk) (W : WX) (z : Option (Option V)) (D : Ends) (G : Hp) : Fl → Prop
  | .nx ρ => ∀ σ G' H', Same G G' → Fit L G' H' ρ σ → Zk z σ → D.nx σ H'
  | .bk ρ => ∀ σ G' H', Same G G' → Fit L G' H' ρ σ → Zk z σ → D.bk σ H'
  | .ct ρ => ∀ σ G' H', Same G G' → Fit L G' H' ρ σ → Zk z σ → D.ct σ H'
  | .rt r ρ => ∀ v σ G' H', Same G G' → Fit L G' H' (r.cell :: ρ) (some v :: σ) → BrOk r σ v → Zk z σ → D.rt v H'
  | .ex e ρ => ∀ σ, Zk z σ → XPost L W G σ e ρ
  | .stuck => False
def tSs (L : Lk) (W : WX) (z : Option (Option V)) (C : Cal) (ss : List Sk) : TS := fun D σ H => ∃ G ρ, Fit L G H ρ σ ∧ Zk z σ ∧ FPost L W z D G (exSs C ss ρ)
def tS (L : Lk) (W : WX) (z : Option (Option V)) (C : Cal) (s : Sk) : TS := fun D σ H => ∃ G ρ, Fit L G H ρ σ ∧ Zk z σ ∧ FPost L W z D G (exS C s ρ)
structure SupF (c : Chk) (C : Cal) (k : Nat) (L : Lk) (X : Cx) (W : WX) (z : Option (Option V)) : Prop extends Sup c C k L X W where
  zz : z.isSome = true → c.self = true
  pass : PassesOwn (model X.prog X.w) X.A X.env X.xe
  store : Stores X X.env.scope
  kind : X.env.scope.kind = .function
theorem _root_.L2.PS.imp {X : Cx} {s : Stmt} {t t' : TS} (h : PS X s t) (i : ∀ D σ H, t' D σ H → t D σ H) : PS X s t' := ⟨fun pins s σ H D I q => h.run pins s σ H D I (i D σ H q)⟩
theorem _root_.L2.PSs.imp {X : Cx} {s : List Stmt} {t t' : TS} (h : PSs X s t) (i : ∀ D σ H, t' D σ H → t D σ H) : PSs X s t' := ⟨fun pins s σ H D I q => h.run pins s σ H D I (i D σ H q)⟩
section
variable {W : WX} {G G1 H : Hp} {ρ : List Slot} {σ : L2.St} {D : Ends} {z : Option (Option V)}
theorem FPost.up {f : Fl} (h : FPost L W z D G f) (s : Same G G1) : FPost L W z D G1 f := by
  cases f with
  | nx ρ => exact fun σ G' H' s' f => h σ G' H' (s.trans s') f
  | bk ρ => exact fun σ G' H' s' f => h σ G' H' (s.trans s') f
  | ct ρ => exact fun σ G' H' s' f => h σ G' H' (s.trans s') f
  | rt r ρ => exact fun v σ G' H' s' f => h v σ G' H' (s.trans s') f
  | ex e ρ => exact fun σ q => XPost.mono (h σ q) s
  | stuck => exact h
/-- an expression, then the rest -/
theorem FPost.ex_ {x : R Rv} {g : Rv → List Slot → Fl} {Q : VK} (h : FPost L W z D G (Fl.ofR x g)) (hz : Zk z σ)
    (kk : ∀ r ρ', x = .ok r ρ' → FPost L W z D G (g r ρ') → ∀ v G' H', Same G G' → Fit L G' H' (r.cell :: ([] ++ ρ')) (some v :: ([] ++ σ)) → BrOk r σ v → Q v H') : EPost L W G [] [] σ Q x := by
  cases x with
  | ok r ρ' => exact kk r ρ' rfl h
  | ex e ρ' => exact h σ hz
  | stuck => exact h
theorem FPost.exB {α : Type} {x : R α} {g : α → List Slot → Fl} {Q : α → Hp → Hp → Prop} (h : FPost L W z D G (Fl.ofR x g)) (hz : Zk z σ)
    (kk : ∀ r ρ', x = .ok r ρ' → FPost L W z D G (g r ρ') → ∀ G' H', Same G G' → Fit L G' H' ([] ++ ρ') ([] ++ σ) → Q r G' H') : BPost L W G [] [] σ Q x := by
  cases x with
  | ok r ρ' => exact kk r ρ' rfl h
  | ex e ρ' => exact h σ hz
  | stuck => exact h
end
section
variable {c : Chk} {C : Cal} {k : Nat} {X : Cx} {W : WX} {pos : Pos} {z : Option (Option V)}
theorem sw_plain {v : Expr} {t : Option Expr} {l : Nat} {env : Env} (h : notComp v = true) : swapsWith v t l env = pure false := by
  cases v <;> first | rfl | cases h
theorem sw_name {v : Expr} {y : Str} {py : Pos} {l : Nat} (hk : X.env.scope.kind = .function) (h : okSw X.env.scope y py.line v = true) : swapsWith v (some (.Name y py)) l X.env = pure false := by
  cases v with
  | ListComp elt gs scope p =>
    have hb : X.env.blockKind = .function := by unfold Env.blockKind; rw [hk]; rfl
    have h : (!swB X.env.scope y py.line scope p.line) = true := h
    have e : swapsWith (.ListComp elt gs scope p) (some (.Name y py)) l X.env = pure (X.env.blockKind == .function && X.env.kindOf y == some .local && py.line == p.line && !(scope.names.any fun (n, k) => n == y && (k == .local || k == .cell))) := rfl
    rw [e, hb]
    have h2 : swB X.env.scope y py.line scope p.line = false := by simpa using h
    unfold swB at h2
    exact congrArg pure h2
  | SetComp _ _ _ _ => cases h
  | DictComp _ _ _ _ _ => cases h
  | _ => rfl
theorem sw_tup {v : Expr} {es : List Expr} {j : Nat} {p : Pos} {l : Nat} {env : Env} : swapsWithSole [.Tuple es j p] v l env = pure false := by cases v <;> rfl
theorem sw_fld {v o : Expr} {f : Str} {p : Pos} {l : Nat} {env : Env} : swapsWith v (some (.Attribute o f p)) l env = pure false := by cases v <;> rfl
theorem sw_sub {v o s : Expr} {p : Pos} {l : Nat} {env : Env} : swapsWithSole [.Subscript o s p] v l env = pure false := by cases v <;> rfl
theorem st_tup {v : Expr} {es : List Expr} {j : Nat} {p : Pos} {env : Env} (h : notTup v = true) : swappedStores [.Tuple es j p] v env = pure none := by cases v <;> first | rfl | cases h
theorem st_sub {v o s : Expr} {p : Pos} {env : Env} : swappedStores [.Subscript o s p] v env = pure none := by cases v <;> rfl
/-- a value goes into its target -/
theorem Zk.keep {σ σ2 : L2.St} {is : List Nat} (hz : Zk z σ) (h0 : z.isSome = true → 0 ∉ is) (h : ∀ i, i ∉ is → σ2[i]? = σ[i]?) : Zk z σ2 := fun o e => by
  rw [h 0 (h0 (by rw [e]; rfl))]
  exact hz o e
theorem store_ok_ (hL : L.K = X.K) {G G1 H : Hp} {ρ : List Slot} {σ : L2.St} {D : Ends} {tg : Tg} {r : Rv} {v : V} (h : FPost L W z D G (storeT tg r ρ)) (s : Same G G1) (f : Fit L G1 H (r.cell :: ([] ++ ρ)) (some v :: ([] ++ σ))) (b : BrOk r σ v) (hz : Zk z σ) (h0 : z.isSome = true → 0 ∉ tg.all) : gTg X.K tg v σ H D.nx := by
  have gen : (match r.val ρ with
    | some p => (match bindT tg p (r.seal ρ) with | some ρ1 => FPost L W z D G (.nx ρ1) | none => False)
    | none => False) → gTg X.K tg v σ H D.nx := fun h => by
    cases e : r.val ρ with
    | none => rw [e] at h; exact h.elim
    | some p =>
      rw [e] at h
      cases e2 : bindT tg p (r.seal ρ) with
      | none => simp only [e2] at h
      | some ρ1 =>
        simp only [e2] at h
        obtain ⟨G2, s2, f2, r2⟩ := Fit.seal1 (τ := []) (ts := []) rfl f b e
        exact bind_ok (τ := []) (ts := []) hL rfl e2 r2 f2 fun σ2 f3 _ z2 => h σ2 G2 H (s.trans s2) f3 (hz.keep h0 z2)
  have go : FPost L W z D G (match r.val ρ with
    | some p => (match bindT tg p (r.seal ρ) with | some ρ1 => .nx ρ1 | none => .stuck)
    | none => .stuck) → gTg X.K tg v σ H D.nx := fun h => gen (by
    cases e : r.val ρ with
    | none => rw [e] at h; exact h
    | some p =>
      rw [e] at h
      cases e2 : bindT tg p (r.seal ρ) with
      | none => simp only [e2] at h ⊢; exact h
      | some ρ1 => simp only [e2] at h ⊢; exact h)
  cases tg with
  | tp is => exact go (by unfold storeT at h; exact h)
  | nm i =>
    cases r with
    | fz p => exact go h
    | br j => exact go h
    | ow p => exact h _ G1 H s (Fit.putR (τ := []) (ts := []) rfl f) (hz.keep (is := [i]) h0 fun j hj => List.getElem?_set_ne (fun q => hj (by simp [q])))
theorem s_set (S : SupF c C k L X W z) {tg : Tg} {e : Ex} {tg' v : Expr} (hfr : tg.free c.self = true) (htg : okTg c X.env.scope tg tg' = true) (he : PE X v (tEx L W C e)) (hs : swapsWithSole [tg'] v pos.line X.env = pure false) (hw : swappedStores [tg'] v X.env = pure none)
    (h1 : (assignEach [tg'] X.env).map (·.2) = [assign tg' X.env]) : PS X (.Assign [tg'] v pos) (tS L W z C (.set tg e)) :=
  (ps_asg he (pg_of S.toSup S.store htg) hs hw h1).imp fun D σ H ⟨G, ρ, f, hz, h⟩ => ⟨G, ρ, [], [], rfl, f, h.ex_ hz fun r ρ' _ h1 v G' H' s f b => store_ok_ S.hL h1 s f b hz (fun q => Tg.free_of hfr (S.zz q))⟩
theorem s_setLc (S : SupF c C k L X W z) {i : Nat} {tg : Tg} {it : Itx} {t : Ot} {e : Ex} {vs : List Nat} {y : Str} {py p : Pos} {elt : Expr} {gs : List Comprehension} {scope : Scope} (hfr : (Tg.nm i).free c.self = true) (htg : okTg c X.env.scope (.nm i) (.Name y py) = true) (h : okE c X.env.scope (.lc tg it t e vs) (.ListComp elt gs scope p) = true)
    (hsw : swB X.env.scope y py.line scope p.line = true) : PS X (.Assign [.Name y py] (.ListComp elt gs scope p) pos) (tS L W z C (.set (.nm i) (.lc tg it t e vs))) := by
  obtain ⟨tg', iter, ifs, rfl, h1, h2, h3, h4, h5, h6, h7, h8⟩ := lc_inv h
  unfold swB at hsw
  simp only [Bool.and_eq_true, Bool.not_eq_true', beq_iff_eq] at hsw
  obtain ⟨⟨w1, w2⟩, w3⟩ := hsw
  obtain ⟨n1, _⟩ := okName htg
  have S' := S.toSup
  have pl := ps_setLc (pos := p) (py := py) (spos := pos) (g := gTg X.K tg) S.calm (by rw [S.N]; exact S.nd) (by rw [S.N]; exact n1) w1 (sw_true S.kind w1 (by rw [w2]; exact beq_self_eq_true _) w3) (sI C it S' iter tg' (fun z => tup_of h4 z) h6) (by rw [S.N]; exact blkOk_by h1) (fun s H D cl fp => pg_of (S'.blk s H scope _ fp) blk_stores h4)
    (fun s H D cl fp => sOt C t (S'.blk s H scope _ fp) ifs h7) (fun s H D cl fp => sE C e (S'.blk s H scope _ fp) elt h8) (fold_of h3)
  rw [h2] at pl
  exact pl.imp fun D σ H ⟨G, ρ, f, hz, h⟩ => tLc_of S.hL h5 σ H _ ⟨G, ρ, [], [], rfl, f, h.ex_ hz fun r ρ' _ h1 v G' H' s f b => store_ok_ (X := X) (tg := .nm i) S.hL h1 s f b hz (fun q => Tg.free_of hfr (S.zz q))⟩
theorem s_setLc2 (S : SupF c C k L X W z) {i : Nat} {tg tg1 : Tg} {it it1 : Itx} {t t1 : Ot} {e : Ex} {vs vs1 : List Nat} {y : Str} {py p : Pos} {elt : Expr} {gs : List Comprehension} {scope : Scope} (hfr : (Tg.nm i).free c.self = true) (htg : okTg c X.env.scope (.nm i) (.Name y py) = true) (h : okE c X.env.scope (.lc2 tg it t tg1 it1 t1 e vs vs1) (.ListComp elt gs scope p) = true)
    (hsw : swB X.env.scope y py.line scope p.line = true) : PS X (.Assign [.Name y py] (.ListComp elt gs scope p) pos) (tS L W z C (.set (.nm i) (.lc2 tg it t tg1 it1 t1 e vs vs1))) := by
  obtain ⟨tg', iter, ifs, tg1', iter1, ifs1, rfl, h1, h2, h3, h4, h5, h6, h7, h8, h9, h10, h11, h12, h13, h14⟩ := lc2_inv h
  unfold swB at hsw
  simp only [Bool.and_eq_true, Bool.not_eq_true', beq_iff_eq] at hsw
  obtain ⟨⟨w1, w2⟩, w3⟩ := hsw
  obtain ⟨n1, _⟩ := okName htg
  have S' := S.toSup
  have pl := ps_setLc2 (pos := p) (py := py) (spos := pos) (g := gTg X.K tg) (g1 := gTg X.K tg1) (vs1 := vs1) S.calm (by rw [S.N]; exact S.nd) (by rw [S.N]; exact n1) w1 (sw_true S.kind w1 (by rw [w2]; exact beq_self_eq_true _) w3) (sI C it S' iter tg' (fun z => tup_of h6 z) h10) (by rw [S.N]; exact blkOk_by h1) (by rw [h2]; exact h3) (fun s H D cl fp => pg_of (S'.blk s H scope _ fp) blk_stores h6)
    (fun s H D cl fp => sOt C t (S'.blk s H scope _ fp) ifs h11) (fun s H D cl fp => sI C it1 (S'.blk s H scope _ fp) iter1 tg1' (fun z => tup_of h8 z) h12) (fun s H D cl fp => pg_of (S'.blk s H scope _ fp) blk_stores h8) (fun s H D cl fp => sOt C t1 (S'.blk s H scope _ fp) ifs1 h13) (fun s H D cl fp => sE C e (S'.blk s H scope _ fp) elt h14) (fold_of h4) (fun env x => fold_of (env := env) h5 x)
  rw [h2] at pl
  exact pl.imp fun D σ H ⟨G, ρ, f, hz, h⟩ => tLc2_of S.hL h7 h9 h3 σ H _ ⟨G, ρ, [], [], rfl, f, h.ex_ hz fun r ρ' _ h1 v G' H' s f b => store_ok_ (X := X) (tg := .nm i) S.hL h1 s f b hz (fun q => Tg.free_of hfr (S.zz q))⟩
theorem s_setI (S : SupF c C k L X W z) {i : Nat} {ix e : Ex} {y : Str} {py p2 : Pos} {s v : Expr} (hN : c.N[i]? = some y) (hv : visB X.env.scope y = true) (h1 : (y == ("__debug__" : Str)) = false) (h2 : (y == ("__classdict__" : Str)) = false) (hs : notSlice s = true)
    (hi : PE X s (tEx L W C ix)) (he : PE X v (tEx L W C e)) : PS X (.Assign [.Subscript (.Name y py) s p2] v pos) (tS L W z C (.setI i ix e)) := by
  have ho := pe_var (i := i) (pos := py) (X := X) (by rw [S.N]; exact hN) (vis_of hv) h1 h2
  refine (ps_asg he (pg_sub ho hi set_list (by intro v; cases s <;> first | rfl | cases hs)) sw_sub st_sub rfl).imp fun D σ H ⟨G, ρ, f, hz, h⟩ => ⟨G, ρ, [], [], rfl, f, h.ex_ hz fun r ρ' _ h1 v G' H' s f b => ?_⟩
  split at h1
  · rename_i xs0 es0
    obtain ⟨ad, ys, e1, e2, _⟩ := muStart (τ := []) (ts := []) rfl f.tail es0
    refine ⟨.ref ad, e1, G', ρ', [r.cell], [some v], rfl, f, ?_⟩
    cases ei : evE C ix ρ' with
    | stuck => rw [ei] at h1; exact h1
    | ex e ρ2 => rw [ei] at h1; exact XPost.mono (h1 σ hz) s
    | ok q ρ2 =>
      rw [ei, Fl.ofR_ok] at h1
      intro w G2 H2 s2 f2 b2
      split at h1
      · rename_i p kk er
        split at h1
        · rename_i xs es1
          split at h1
          · rename_i j ej
            obtain rfl := int_of (τ := [r.cell]) (ts := [some v]) f2
            obtain ⟨G3, s3, f3, r3⟩ := Fit.seal1 (τ := []) (ts := []) rfl f2.tail b er
            obtain ⟨ad', ws, e3, e4, e5⟩ := muStart (τ := []) (ts := []) rfl f3 es1
            rw [e1] at e3
            cases e3
            refine ⟨ad, ws, kk, j, rfl, rfl, e4, by rw [← e5.length]; exact ej, ?_⟩
            exact h1 σ G3 _ (s.trans (s2.trans s3)) (Fit.mut (τ := []) (ts := []) rfl f3 es1 e1 trivial ⟨_, upd_same, e5.set j r3⟩) hz
          · exact h1.elim
        · exact h1.elim
      · exact h1.elim
  · exact h1.elim
theorem putF_zip : ∀ {ns : List Str} {ys : List V} {j : Nat} {x : Str} {v : V}, ns.Nodup → ns[j]? = some x → j < ys.length → putF x v (ns.zip ys) = ns.zip (ys.set j v)
  | [], _, _, _, _, _, e, _ => by simp at e
  | _ :: _, [], _, _, _, _, _, h => by simp at h
  | n :: ns, y :: ys, 0, x, v, _, e, _ => by
    simp at e
    subst e
    simp [putF]
  | n :: ns, y :: ys, j + 1, x, v, hn, e, h => by
    have h1 : ns[j]? = some x := by simpa using e
    have h2 : n ≠ x := fun z => (List.nodup_cons.mp hn).1 (z ▸ List.mem_of_getElem? h1)
    show putF x v ((n, y) :: ns.zip ys) = (n, y) :: ns.zip (ys.set j v)
    unfold putF
    rw [if_neg h2, putF_zip (List.nodup_cons.mp hn).2 h1 (by simpa using h)]
theorem putF_end : ∀ {ns : List Str} {ys : List V} {x : Str} {v : V}, ns.Nodup → ns[ys.length]? = some x → putF x v (ns.zip ys) = ns.zip (ys ++ [v])
  | [], _, _, _, _, e => by simp at e
  | n :: ns, [], x, v, _, e => by
    simp at e
    subst e
    simp [putF]
  | n :: ns, y :: ys, x, v, hn, e => by
    have h1 : ns[ys.length]? = some x := by simpa using e
    have h2 : n ≠ x := fun z => (List.nodup_cons.mp hn).1 (z ▸ List.mem_of_getElem? h1)
    show putF x v ((n, y) :: ns.zip ys) = (n, y) :: ns.zip (ys ++ [v])
    unfold putF
    rw [if_neg h2, putF_end (List.nodup_cons.mp hn).2 h1]
theorem s_setF (S : SupF c C k L X W z) {i n : Nat} {e : Ex} {y x : Str} {py p2 : Pos} {v : Expr} (hN : c.N[i]? = some y) (hv : visB X.env.scope y = true) (h1 : (y == ("__debug__" : Str)) = false) (h2 : (y == ("__classdict__" : Str)) = false) (hn : c.atN[n]? = some x)
    (he : PE X v (tEx L W C e)) : PS X (.Assign [.Attribute (.Name y py) x p2] v pos) (tS L W z C (.setF i n e)) := by
  have ho := pe_var (i := i) (pos := py) (X := X) (by rw [S.N]; exact hN) (vis_of hv) h1 h2
  refine (ps_fld ho he sw_fld).imp fun D σ H ⟨G, ρ, f, hz, h⟩ => ⟨G, ρ, [], [], rfl, f, h.ex_ hz fun r ρ' _ h1 v G' H' s f b => ?_⟩
  split at h1
  · rename_i p ci fs er es0
    obtain ⟨G3, s3, f3, r3⟩ := Fit.seal1 (τ := []) (ts := []) rfl f b er
    obtain ⟨o, e1, ad, e2, n1, dx, ys, w1, w2, w3, w6, w4, w5⟩ := Fit.slot (τ := []) (ts := []) rfl f3 (getS_ow es0)
    subst e2
    cases ef : C.fx ci n with
    | none => simp only [ef] at h1; exact h1.elim
    | some j =>
      simp only [ef] at h1
      obtain ⟨y2, k1, k2, k3, k6, k4, k5⟩ := S.fx ci n j ef
      rw [hn] at k1
      cases k1
      have hl := w5.length
      have hlen : ((L.fld ci).zip ys).length < 1000 := by rw [List.length_zip]; omega
      refine ⟨.ref ad, e1, ad, _, dx, _, rfl, w1, k4, k5, hlen, ?_⟩
      split at h1
      · rename_i hj
        rw [putF_zip k3 k2 (by omega)]
        exact h1 σ G3 _ (s.trans s3) (Fit.mut (τ := []) (ts := []) rfl f3 es0 e1 trivial ⟨dx, ys.set j v, upd_same, by rw [upd_ne (fun z => by rw [z, w1] at w2; cases w2)]; exact w2, w3, w6, by rw [List.length_set]; exact w4, w5.set j r3⟩) hz
      · split at h1
        · rename_i hj
          subst hj
          rw [hl] at k2
          rw [putF_end k3 k2]
          have hlt : ys.length < (L.fld ci).length := (List.getElem?_eq_some_iff.mp k2).1
          exact h1 σ G3 _ (s.trans s3) (Fit.mut (τ := []) (ts := []) rfl f3 es0 e1 trivial ⟨dx, ys ++ [v], upd_same, by rw [upd_ne (fun z => by rw [z, w1] at w2; cases w2)]; exact w2, w3, w6, by rw [List.length_append]; exact hlt, w5.append (Reps.one r3)⟩) hz
        · exact h1.elim
  · exact h1.elim
theorem s_expr {e : Ex} {v : Expr} (hs : notComp v = true) (he : PE X v (tEx L W C e)) : PS X (.Expr v pos) (tS L W z C (.expr e)) :=
  (ps_expr he (sw_plain hs)).imp fun D σ H ⟨G, ρ, f, hz, h⟩ => ⟨G, ρ, [], [], rfl, f, h.ex_ hz fun r ρ' _ h1 v G' H' s f b => h1 σ G' H' s f.tail hz⟩
theorem s_ret {e : Ex} {v : Expr} (he : PE X v (tEx L W C e)) : PS X (.Return (some v) pos) (tS L W z C (.ret e)) :=
  (ps_ret he).imp fun D σ H ⟨G, ρ, f, hz, h⟩ => ⟨G, ρ, [], [], rfl, f, h.ex_ hz fun r ρ' _ h1 v G' H' s f b => h1 v σ G' H' s f b hz⟩
theorem s_retN : PS X (.Return none pos) (tS L W z C .retN) :=
  ps_retN.imp fun D σ H ⟨G, ρ, f, hz, h⟩ => h .non σ G H (Same.refl _) (f.consF (rep_non.mpr rfl)) trivial hz
theorem s_if {t : Te} {a b : List Sk} {x : Expr} {p q : List Stmt} (ht : PT X x (tTe L W C t)) (ha : PSs X p (tSs L W z C a)) (hb : PSs X q (tSs L W z C b)) : PS X (.If x p q pos) (tS L W z C (.ifs t a b)) :=
  (ps_if ht ha hb).imp fun D σ H ⟨G, ρ, f, hz, h⟩ => ⟨G, ρ, [], [], rfl, f, h.exB hz fun r ρ' _ h1 G' H' s f => by
    cases r with
    | true => exact ⟨G', ρ', f, hz, h1.up s⟩
    | false => exact ⟨G', ρ', f, hz, h1.up s⟩⟩
theorem s_for (S : SupF c C k L X W z) {tg : Tg} {it : Itx} {body : List Sk} {kill : List Nat} {tg' iter : Expr} {b : List Stmt} (hfr : tg.free c.self = true) (hset : notSet iter = true) (htg : okTg c X.env.scope tg tg' = true) (hi : PI X tg' iter (tIt L W C it)) (hb : PSs X b (tSs L W z C body)) :
    PS X (.For tg' iter b [] pos) (tS L W z C (.for_ tg it body kill)) := by
  refine (ps_for S.pass S.calm hi (pg_of S.toSup S.store htg) hb (fold_of hset)).imp fun D σ H ⟨G, ρ, f, hz, h⟩ => ⟨G, ρ, [], [], rfl, f, h.exB hz fun xs ρ' _ h1 G1 H1 s1 f1 J fd => ?_⟩
  let At : Nat → Nat → L2.St → Hp → Prop := fun i m σ' H' => ∃ G2 ρ2, Same G1 G2 ∧ Fit L G2 H' ρ2 σ' ∧ Zk z σ' ∧ FPost L W z D G2 (forLoop (bindT tg) (exSs C body) kill (xs.drop i) ρ2) ∧ m = xs.length - i ∧ i ≤ xs.length
  refine ⟨At, ⟨xs.length, G1, ρ', Same.refl _, f1, hz, h1.up s1, rfl, Nat.zero_le _⟩, ?_⟩
  rintro i m σ' H' ⟨G2, ρ2, s2, f2, hz2, h2, rfl, hle⟩
  obtain ⟨fd1, fd2⟩ := fd i H' G2 s2 f2.good
  rcases Nat.eq_or_lt_of_le hle with hi | hi
  · rw [hi, List.drop_length] at h2
    exact .inl ⟨fd1 hi, h2 σ' G2 H' (Same.refl _) f2 hz2⟩
  · have hp : xs[i]? = some xs[i] := List.getElem?_eq_getElem hi
    obtain ⟨go, step⟩ := fd2 _ hp
    generalize xs[i] = p at hp step
    rw [drop_get hp] at h2
    refine .inr ⟨go, At (i + 1) (xs.length - (i + 1)), fun σ3 H3 a => ⟨_, by omega, a⟩, fun x H3 y => ?_⟩
    obtain ⟨G3, ex, rx⟩ := step x H3 y
    unfold forLoop at h2
    cases eb : bindT tg p ρ2 with
    | none => rw [eb] at h2; exact h2.elim
    | some ρ3 =>
      rw [eb] at h2
      refine bind_ok (τ := []) (ts := []) S.hL rfl eb rx (f2.ext ex) fun σ3 f3 _ z2 => ⟨G3, ρ3, f3, hz2.keep (fun q => Tg.free_of hfr (S.zz q)) z2, ?_⟩
      cases eq : exSs C body ρ3 with
      | nx ρ4 => simp only [eq] at h2; exact fun σ4 G4 H4 s4 f4 hz4 => ⟨G4, killS kill ρ4, s2.trans (ex.g.trans s4), Fit.kill (τ := []) (ts := []) rfl f4 kill, hz4, h2.up (ex.g.trans s4), rfl, hi⟩
      | ct ρ4 => simp only [eq] at h2; exact fun σ4 G4 H4 s4 f4 hz4 => ⟨G4, killS kill ρ4, s2.trans (ex.g.trans s4), Fit.kill (τ := []) (ts := []) rfl f4 kill, hz4, h2.up (ex.g.trans s4), rfl, hi⟩
      | bk ρ4 => simp only [eq] at h2; exact fun σ4 G4 H4 s4 f4 hz4 => h2 σ4 G4 H4 (ex.g.trans s4) (Fit.kill (τ := []) (ts := []) rfl f4 kill) hz4
      | rt r ρ4 => simp only [eq] at h2; exact FPost.up (f := .rt r ρ4) (D := D) h2 ex.g
      | ex e ρ4 => simp only [eq] at h2; exact FPost.up (f := .ex e ρ4) (D := D) h2 ex.g
      | stuck => simp only [eq] at h2; exact h2
theorem s_while (S : SupF c C k L X W z) {n : Nat} {t : Te} {body : List Sk} {kill : List Nat} {x : Expr} {b : List Stmt} (ht : PT X x (tTe L W C t)) (hb : PSs X b (tSs L W z C body)) : PS X (.While x b [] pos) (tS L W z C (.while_ n t body kill)) := by
  refine (ps_while S.pass ht hb).imp fun D σ H ⟨G, ρ, f, hz, h⟩ => ?_
  let At : Nat → L2.St → Hp → Prop := fun m σ' H' => ∃ G2 ρ2, Fit L G2 H' ρ2 σ' ∧ Zk z σ' ∧ FPost L W z D G2 (whileLoop (evT C t) (exSs C body) kill m ρ2)
  refine ⟨At, ⟨n, G, ρ, f, hz, h⟩, ?_⟩
  rintro m σ' H' ⟨G2, ρ2, f2, hz2, h2⟩
  cases m with
  | zero => exact h2.elim
  | succ m =>
    unfold whileLoop at h2
    refine ⟨G2, ρ2, [], [], rfl, f2, ?_⟩
    cases et : evT C t ρ2 with
    | stuck => simp only [et] at h2; exact h2
    | ex e ρ3 => simp only [et] at h2; exact h2 σ' hz2
    | ok q ρ3 =>
      simp only [et] at h2
      cases q with
      | false => exact fun G3 H3 s3 f3 => h2 σ' G3 H3 s3 f3 hz2
      | true =>
        intro G3 H3 s3 f3
        refine ⟨At m, fun σ4 H4 a => ⟨m, Nat.lt_succ_self m, a⟩, G3, ρ3, f3, hz2, ?_⟩
        cases eq : exSs C body ρ3 with
        | nx ρ4 => simp only [eq] at h2; exact fun σ4 G4 H4 s4 f4 hz4 => ⟨G4, killS kill ρ4, Fit.kill (τ := []) (ts := []) rfl f4 kill, hz4, h2.up (s3.trans s4)⟩
        | ct ρ4 => simp only [eq] at h2; exact fun σ4 G4 H4 s4 f4 hz4 => ⟨G4, killS kill ρ4, Fit.kill (τ := []) (ts := []) rfl f4 kill, hz4, h2.up (s3.trans s4)⟩
        | bk ρ4 => simp only [eq] at h2; exact fun σ4 G4 H4 s4 f4 hz4 => h2 σ4 G4 H4 (s3.trans s4) (Fit.kill (τ := []) (ts := []) rfl f4 kill) hz4
        | rt r ρ4 => simp only [eq] at h2; exact FPost.up (f := .rt r ρ4) (D := D) h2 s3
        | ex e ρ4 => simp only [eq] at h2; exact FPost.up (f := .ex e ρ4) (D := D) h2 s3
        | stuck => simp only [eq] at h2; exact h2
theorem ss_cons {s : Sk} {ss : List Sk} {st : Stmt} {sts : List Stmt} (h1 : PS X st (tS L W z C s)) (h2 : PSs X sts (tSs L W z C ss)) : PSs X (st :: sts) (tSs L W z C (s :: ss)) :=
  (pss_cons h1 h2).imp fun D σ H ⟨G, ρ, f, hz, h⟩ => ⟨G, ρ, f, hz, by
    unfold exSs at h
    cases e : exS C s ρ with
    | nx ρ1 => simp only [e] at h; exact fun σ' G' H' s f hz => ⟨G', ρ1, f, hz, h.up s⟩
    | bk ρ1 => simp only [e] at h; exact h
    | ct ρ1 => simp only [e] at h; exact h
    | rt r ρ1 => simp only [e] at h; exact h
    | ex e ρ1 => simp only [e] at h; exact h
    | stuck => simp only [e] at h; exact h⟩
theorem ss_nil : PSs X [] (tSs L W z C []) := pss_nil.imp fun D σ H ⟨G, ρ, f, hz, h⟩ => h σ G H (Same.refl _) f hz
end
end Mp
set_option Elab.async false
set_option linter.all false
set_option maxRecDepth 100000
set_option maxHeartbeats 4000000
namespace Mp
open PySem PySem.Spec PyProof.Rows L2
variable {L : Lk} {c : Chk} {k : Nat} {X : Cx} {W : WX} {z : Option (Option V)}
theorem lc_not {e : Ex} {v : Expr} {A : Bool} (h : (match e, v with
      | .lc _ _ _ _ _, .ListComp _ _ _ _ => A
      | _, _ => A) = true) : A = true := by
  split at h <;> exact h
mutual
theorem sS (C : Cal) (S : SupF c C k L X W z) : ∀ (s : Sk) (st : Stmt), okS c X.env.scope s st = true → PS X st (tS L W z C s)
  | .set tg e, st, h => by
    cases st with
    | Assign ts v p =>
      cases tg with
      | nm i =>
        rcases ts with _ | ⟨t, tl⟩
        · cases h
        cases t <;> cases tl <;> first | (cases h; done) | skip
        rename_i y py
        obtain ⟨h, h3⟩ := and2 h
        obtain ⟨h, h2⟩ := and2 h
        obtain ⟨h1, h0⟩ := and2 h
        have fin : okSw X.env.scope y py.line v = true → PS X (.Assign [.Name y py] v p) (tS L W z C (.set (.nm i) e)) := fun h3 =>
          s_set S h0 h1 (sE C e S.toSup v h2) (sw_name (l := p.line) S.kind h3) (by cases v <;> rfl) rfl
        cases e with
        | lc tg2 it t e2 vs =>
          cases v with
          | ListComp elt gs scope p2 =>
            rcases Bool.or_eq_true_iff.mp h3 with h3 | h3
            · exact fin h3
            · exact s_setLc S h0 h1 h2 h3
          | _ => cases h2
        | lc2 tg2 it t tg3 it3 t3 e2 vs vs3 =>
          cases v with
          | ListComp elt gs scope p2 =>
            rcases Bool.or_eq_true_iff.mp h3 with h3 | h3
            · exact fin h3
            · exact s_setLc2 S h0 h1 h2 h3
          | _ => cases h2
        | _ => exact fin (by cases v <;> exact h3)
      | tp is =>
        rcases ts with _ | ⟨t, tl⟩
        · cases h
        cases t <;> cases tl <;> first | (cases h; done) | skip
        obtain ⟨h, h3⟩ := and2 h
        obtain ⟨h, h2⟩ := and2 h
        obtain ⟨h1, h0⟩ := and2 h
        exact s_set S h0 h1 (sE C e S.toSup v h3) sw_tup (st_tup h2) rfl
    | _ => cases tg <;> cases h
  | .setI i ix e, st, h => by
    cases st with
    | Assign ts v p =>
      rcases ts with _ | ⟨t, tl⟩
      · cases h
      cases t <;> first | (cases h; done) | skip
      rename_i o s p2
      cases o <;> cases tl <;> first | (cases h; done) | skip
      obtain ⟨h, h7⟩ := and2 h
      obtain ⟨h, h6⟩ := and2 h
      obtain ⟨h, h5⟩ := and2 h
      obtain ⟨h, h4⟩ := and2 h
      obtain ⟨h, h3⟩ := and2 h
      obtain ⟨h1, h2⟩ := and2 h
      exact s_setI S (eq_of_beq h1) h2 (nt h3) (nt h4) h5 (sE C ix S.toSup s h6) (sE C e S.toSup v h7)
    | _ => cases h
  | .setF i n e, st, h => by
    cases st with
    | Assign ts v p =>
      rcases ts with _ | ⟨t, tl⟩
      · cases h
      cases t <;> first | (cases h; done) | skip
      rename_i o s p2
      cases o <;> cases tl <;> first | (cases h; done) | skip
      obtain ⟨h, h6⟩ := and2 h
      obtain ⟨h, h5⟩ := and2 h
      obtain ⟨h, h4⟩ := and2 h
      obtain ⟨h, h3⟩ := and2 h
      obtain ⟨h1, h2⟩ := and2 h
      exact s_setF S (eq_of_beq h1) h2 (nt h3) (nt h4) (eq_of_beq h5) (sE C e S.toSup v h6)
    | _ => cases h
  | .expr e, st, h => by
    cases st with
    | Expr v p =>
      obtain ⟨h1, h2⟩ := and2 h
      exact s_expr h1 (sE C e S.toSup v h2)
    | _ => cases h
  | .ret e, st, h => by
    cases st with
    | Return v p =>
      cases v with
      | none => cases h
      | some v => exact s_ret (sE C e S.toSup v h)
    | _ => cases h
  | .retN, st, h => by
    cases st with
    | Return v p =>
      cases v with
      | none => exact s_retN
      | some v => cases h
    | _ => cases h
  | .ifs t a b, st, h => by
    cases st with
    | If x p q pos =>
      obtain ⟨h, h3⟩ := and2 h
      obtain ⟨h1, h2⟩ := and2 h
      exact s_if (sT C t S.toSup x h1).1 (sSs C S a p h2) (sSs C S b q h3)
    | _ => cases h
  | .for_ tg it body kill, st, h => by
    cases st with
    | For tg' iter b orelse pos =>
      cases orelse with
      | cons _ _ => cases h
      | nil =>
        obtain ⟨h, h4⟩ := and2 h
        obtain ⟨h, h3⟩ := and2 h
        obtain ⟨h, h0⟩ := and2 h
        obtain ⟨h1, h2⟩ := and2 h
        exact s_for S h0 h1 h2 (sI C it S.toSup iter tg' (fun z => tup_of h2 z) h3) (sSs C S body b h4)
    | _ => cases h
  | .while_ n t body kill, st, h => by
    cases st with
    | While x b orelse pos =>
      cases orelse with
      | cons _ _ => cases h
      | nil =>
        obtain ⟨h1, h2⟩ := and2 h
        exact s_while S (sT C t S.toSup x h1).1 (sSs C S body b h2)
    | _ => cases h
  | .brk, st, h => by
    cases st with
    | Break p => exact ps_break.imp fun D σ H ⟨G, ρ, f, hz, h⟩ => h σ G H (Same.refl _) f hz
    | _ => cases h
  | .cont, st, h => by
    cases st with
    | Continue p => exact ps_continue.imp fun D σ H ⟨G, ρ, f, hz, h⟩ => h σ G H (Same.refl _) f hz
    | _ => cases h
  | .pass, st, h => by
    cases st with
    | Pass p => exact ps_pass.imp fun D σ H ⟨G, ρ, f, hz, h⟩ => h σ G H (Same.refl _) f hz
    | Expr v p =>
      cases v <;> first | (cases h; done) | skip
      rename_i kc j q
      cases kc <;> first | (cases h; done) | skip
      exact ps_doc.imp fun D σ H ⟨G, ρ, f, hz, h⟩ => h σ G H (Same.refl _) f hz
    | _ => cases h
  | .raise _ _, st, h => by cases st <;> cases h
  | .never, st, h => ps_never.imp fun D σ H ⟨G, ρ, f, hz, h⟩ => h
theorem sSs (C : Cal) (S : SupF c C k L X W z) : ∀ (ss : List Sk) (sts : List Stmt), okSs c X.env.scope ss sts = true → PSs X sts (tSs L W z C ss)
  | [], [], _ => ss_nil
  | [], _ :: _, h => by cases h
  | _ :: _, [], h => by cases h
  | s :: ss, st :: sts, h => by
    obtain ⟨h1, h2⟩ := and2 h
    exact ss_cons (sS C S s st h1) (sSs C S ss sts h2)
end
end Mp
set_option Elab.async false
set_option linter.all false
set_option maxRecDepth 100000
set_option maxHeartbeats 4000000
namespace Mp
open PySem PySem.Spec PyProof.Rows L2
variable {L : Lk}
/-! # Defs -/
/-- a def of the text and its form here -/
structure DefIs (K : PySem.W.Frag) (c : Chk) (sf : Bool) (d : FnD) (fa : Addr) (fd : FuncData) (ps : List Str) (st : Stmt) (N : List Str) : Prop where
  fn : ∃ y qual, L2.Fun K y qual st fa fd
  bd : Binds K fd ps []
  sc : FnScope N ps (defScope st)
  np : d.ps = ps.length
  nn : d.n = N.length
  le : ps.length ≤ N.length
  ok : okSs { c with N := N, self := sf } (defScope st) d.body (defBody st) = true
/-- the program, as the top has laid it -/
structure Top (c : Chk) (P : Prg) (L : Lk) (K : PySem.W.Frag) (mg : Str → Option Value) : Prop where
  hL : L.K = K
  blt : ∀ x ∈ bltNames, mg x = none
  gl : ∀ g x, c.glN[g]? = some x → ∃ u v, mg x = some u ∧ RelV v u ∧ Rep L (fun _ => none) (P.gv g) v
  fn : ∀ f x, c.fnN[f]? = some x → ∃ d fa fd ps st N, P.fn f = some d ∧ mg x = some (.ref fa) ∧ DefIs K c false d fa fd ps st N
  made : ∀ i x, c.clN[i]? = some x → ∃ d fa fd ps st N, P.ini i = some d ∧ mg x = some (.ref (L.cls i)) ∧ L2.Mk K (L.cls i) fa ∧ DefIs K c true d fa fd ps st N
  it : ∀ ci j, P.it ci = some j → mg "iter" = none ∧ ∃ fi x, IterIs K (L.cls ci) fi x ∧ (L.fld ci)[j]? = some x ∧ (L.fld ci).Nodup ∧ Cls K (L.cls ci) ∧ NoAttr K (L.cls ci) x
  fx : ∀ i n j, P.fx i n = some j → ∃ x, c.atN[n]? = some x ∧ (L.fld i)[j]? = some x ∧ (L.fld i).Nodup ∧ (L.fld i).length ≤ 900 ∧ Cls K (L.cls i) ∧ NoAttr K (L.cls i) x
section
variable {c : Chk} {P : Prg} {prog : Program} {w : World} {K : PySem.W.Frag} {mg : Str → Option Value} {base : Heap} {k : Nat}
/-- all defs keep their promises, k calls deep -/
def Lev (c : Chk) (P : Prg) (L : Lk) (prog : Program) (w : World) (K : PySem.W.Frag) (mg : Str → Option Value) (base : Heap) (k : Nat) : Prop :=
  (∀ f x, c.fnN[f]? = some x → ∃ n fa fd ps, mg x = some (.ref fa) ∧ PySem.W.keepIn K (.ref fa) = true ∧ Binds K fd ps [] ∧ FnOk prog w K mg base (L2.CX prog w) k fa fd ps (spF L n (callF P k f)) ∧ ∀ vs, callF P k f vs ≠ .stuck → vs.length = n) ∧
  ∀ i x, c.clN[i]? = some x → ∃ n fa fd ps, mg x = some (.ref (L.cls i)) ∧ L2.Mk K (L.cls i) fa ∧ Binds K fd ps [] ∧ ((0 < k ∧ FnOk prog w K mg base (L2.CX prog w) (k - 1) fa fd ps (spI L n i (callM P k i))) ∨ ∀ vs, callM P k i vs = .stuck) ∧
    (∀ vs, callM P k i vs ≠ .stuck → vs.length + 1 = n) ∧ ∀ vs r, callM P k i vs = .ret r → ∃ c fs, r = .ow (.obj c fs)
theorem outI_obj {f : Fl} {r : Rv} (h : outI f = .ret r) : ∃ c fs, r = .ow (.obj c fs) := by
  have key : ∀ ρ : List Slot, (match getS ρ 0 with | .ow (.obj c fs) => Out.ret (.ow (.obj c fs)) | _ => .stuck) = .ret r → ∃ c fs, r = .ow (.obj c fs) := fun ρ h => by
    split at h
    · cases h; exact ⟨_, _, rfl⟩
    · cases h
  unfold outI at h
  split at h
  · exact key _ h
  · exact key _ h
  · cases h
  · cases h
theorem frame_len {n : Nat} {ss : List Slot} (h : ss.length ≤ n) : (frame n ss).length = n := by
  unfold frame
  simp
  omega
/-- at the entry -/
theorem fit_start {G H : Hp} {N : List Str} {ps : List PV} {vs : List V} {cs : List Slot} (gd : Gd G H) (hl : cs.length = vs.length) (hn : vs.length ≤ N.length) (hc : ∀ (i : Nat) (c : Slot) (v : V), cs[i]? = some c → vs[i]? = some v → Holds L G H c (some v))
    (hi : ∀ (i j : Nat) (p q : PV), cs[i]? = some (Slot.ow p) → cs[j]? = some (Slot.ow q) → i = j) : Fit L G H (frame N.length cs) (L2.start N vs) := by
  have hlen : (L2.start N vs).length = N.length := by
    unfold L2.start
    rw [List.length_append, List.length_map, List.length_replicate]
    omega
  have low : ∀ i p, (frame N.length cs)[i]? = some (Slot.ow p) → cs[i]? = some (Slot.ow p) := fun i p e => by
    unfold frame at e
    by_cases h : i < cs.length
    · rwa [List.getElem?_append_left h] at e
    · rw [List.getElem?_append_right (by omega), List.getElem?_replicate] at e
      split at e <;> cases e
  refine ⟨gd, by rw [frame_len (by omega), hlen], fun i c' e => ?_, fun i j p q a e1 e2 _ _ => hi i j p q (low i p e1) (low j q e2)⟩
  by_cases h : i < cs.length
  · unfold frame at e
    rw [List.getElem?_append_left h] at e
    have hv : i < vs.length := by omega
    exact ⟨_, start_get hv, hc i c' _ e (List.getElem?_eq_getElem hv)⟩
  · unfold frame at e
    rw [List.getElem?_append_right (by omega), List.getElem?_replicate] at e
    split at e
    · cases e
      exact ⟨_, List.getElem?_eq_getElem (by rw [hlen]; omega), trivial⟩
    · cases e
theorem Top.sup (T : Top c P L K mg) (lev : Lev c P L prog w K mg base k) {N : List Str} {self : Bool} {X : Cx} {W : WX} (e1 : X.prog = prog) (e2 : X.w = w) (e3 : X.K = K) (e4 : X.mg = mg) (e5 : X.base = base) (hN : X.N = N) (nd : N.Nodup) (calm : X.calm = true) (room : Room k X.A) (tk : Takes X W) :
    Sup { c with N := N, self := self } (P.cal k) k L X W := by
  subst e1 e2 e3 e4 e5
  exact ⟨T.hL, hN, nd, calm, room, tk, T.blt, T.gl, lev.1, lev.2, T.fx, fun ci j e => by
    cases k with
    | zero => cases e
    | succ k => exact ⟨Nat.succ_pos _, T.it ci j e⟩⟩
theorem okDef (T : Top c P L K mg) (lev : Lev c P L prog w K mg base k) {self : Bool} {d : FnD} {fa : Addr} {fd : FuncData} {ps : List Str} {st : Stmt} {N : List Str} (D : DefIs K c self d fa fd ps st N) {sp : Sp} (len : ∀ vs H Q E, sp vs H Q E → vs.length = ps.length)
    (hsp : ∀ vs H Q E, sp vs H Q E → ∃ G cs z, (z.isSome = true → self = true) ∧ Zk z (L2.start N vs) ∧ Fit L G H (frame d.n cs) (L2.start N vs) ∧ FPost L (fun cls dd _ H => E cls dd H) z { nx := fun _ H' => Q .non H', rt := Q } G (exSs (P.cal k) d.body (frame d.n cs))) :
    FnOk prog w K mg base (L2.CX prog w) (k + 1) fa fd ps sp := by
  obtain ⟨y, qual, F⟩ := D.fn
  refine F.okX D.sc len fun cdv A outer s H vs Q E hr h => ?_
  obtain ⟨G, cs, z, hz, zk, f, h⟩ := hsp vs H Q E h
  have tk : Takes (cxOf (L2.CX prog w) prog w K mg base N qual (defScope st) fa cdv A outer s H E) (fun cls d _ H => E cls d H) := takes_of rfl rfl rfl rfl
  have S : SupF { c with N := N, self := self } (P.cal k) k L (cxOf (L2.CX prog w) prog w K mg base N qual (defScope st) fa cdv A outer s H E) (fun cls d _ H => E cls d H) z :=
    ⟨T.sup lev rfl rfl rfl rfl rfl rfl D.sc.nd rfl hr tk, hz, passes_of rfl, fun x hx => ⟨hx.imp id id, .inl rfl⟩, D.sc.kind⟩
  exact ⟨_, sSs (P.cal k) S d.body (defBody st) D.ok, G, frame d.n cs, f, zk, h⟩
theorem fn_step (T : Top c P L K mg) (lev : Lev c P L prog w K mg base k) {f : Nat} {d : FnD} (hf : P.fn f = some d) {fa : Addr} {fd : FuncData} {ps : List Str} {st : Stmt} {N : List Str} (D : DefIs K c false d fa fd ps st N) : FnOk prog w K mg base (L2.CX prog w) (k + 1) fa fd ps (spF L d.ps (callF P (k + 1) f)) := by
  refine okDef T lev D (fun vs H Q E h => by rw [h.1, D.np]) fun vs H Q E ⟨hl, nice, pvs, hr, h⟩ => ?_
  have e : callF P (k + 1) f pvs = outF (exSs (P.cal k) d.body (frame d.n (pvs.map .fz))) := by
    show (match P.fn f with | some d => if pvs.length = d.ps then outF (exSs (P.cal k) d.body (frame d.n (pvs.map .fz))) else .stuck | none => .stuck) = _
    rw [hf]
    exact if_pos (by rw [hr.length, hl])
  rw [e] at h
  have gd : Gd H H := ⟨Same.refl _, fun b o e n => (by rw [e] at n; cases n), nice⟩
  have hlen := hr.length
  have hdl := D.np
  have f0 : Fit L H H (frame d.n (pvs.map .fz)) (L2.start N vs) := by
    rw [D.nn]
    refine fit_start (ps := pvs) gd (by simpa using hlen) (by have := D.le; omega) (fun i c v e1 e2 => ?_) (fun i j p q e1 _ => ?_)
    · rw [List.getElem?_map, Option.map_eq_some_iff] at e1
      obtain ⟨p, e1, rfl⟩ := e1
      obtain ⟨v', e3, r⟩ := hr.get e1
      rw [e2] at e3
      cases e3
      exact ⟨v, rfl, r⟩
    · rw [List.getElem?_map, Option.map_eq_some_iff] at e1
      obtain ⟨p', _, e1⟩ := e1
      cases e1
  refine ⟨H, pvs.map .fz, none, (fun z => by cases z), (fun o z => by cases z), f0, ?_⟩
  cases q : exSs (P.cal k) d.body (frame d.n (pvs.map .fz)) with
  | stuck => rw [q] at h; exact h
  | bk ρ => rw [q] at h; exact h.elim
  | ct ρ => rw [q] at h; exact h.elim
  | nx ρ => rw [q] at h; exact fun σ G' H' s f _ => h .non H' ⟨G', s, f.good, rep_non.mpr rfl⟩
  | ex e ρ => rw [q] at h; exact fun σ _ cls dd G' H' s f x => h cls dd H' ⟨G', s, f.good, x⟩
  | rt r ρ =>
    rw [q] at h
    intro v σ G' H' s f b _
    cases r with
    | fz p =>
      obtain ⟨u, e1, hu⟩ := f.head
      cases e1
      exact h v H' ⟨G', s, f.good, hu⟩
    | ow p =>
      obtain ⟨a, e1, n, hu⟩ := f.head
      cases e1
      exact h _ H' ⟨G', s, f.good, a, rfl, n, hu⟩
    | br i =>
      have b : σ[i]? = some (some v) := b
      have ft : Fit L G' H' ([] ++ ρ) ([] ++ σ) := f.tail
      cases e1 : getS ρ i with
      | no => simp only [outF, e1] at h
      | ow p =>
        simp only [outF, e1] at h
        obtain ⟨o, e2, a, e3, n, hu⟩ := ft.slot rfl (getS_ow e1)
        subst e3
        rw [b] at e2
        cases e2
        exact h _ H' ⟨G', s, f.good, a, rfl, n, hu⟩
      | fz p =>
        simp only [outF, e1] at h
        obtain ⟨o, e2, u, e3, hu⟩ := ft.slot rfl (getS_fz e1)
        subst e3
        rw [b] at e2
        cases e2
        exact h _ H' ⟨G', s, f.good, hu⟩
theorem ini_step (T : Top c P L K mg) (lev : Lev c P L prog w K mg base k) {i : Nat} {d : FnD} (hf : P.ini i = some d) {fa : Addr} {fd : FuncData} {ps : List Str} {st : Stmt} {N : List Str} (D : DefIs K c true d fa fd ps st N) : FnOk prog w K mg base (L2.CX prog w) (k + 1) fa fd ps (spI L d.ps i (callM P (k + 2) i)) := by
  refine okDef T lev D (fun vs H Q E h => by rw [h.1, D.np]) fun vs H Q E ⟨hl, G, x, dx, us, pvs, ev, hx, hdx, hxd, nx, nd, gd, hr, h⟩ => ?_
  subst ev
  have hlen := hr.length
  have hl' : us.length + 1 = d.ps := by simpa using hl
  have e : callM P (k + 2) i pvs = outI (exSs (P.cal k) d.body (frame d.n (.ow (.obj i []) :: pvs.map .fz))) := by
    show (match P.ini i with | some d => if pvs.length + 1 = d.ps then outI (exSs (P.cal k) d.body (frame d.n (.ow (.obj i []) :: pvs.map .fz))) else .stuck | none => .stuck) = _
    rw [hf]
    exact if_pos (by omega)
  rw [e] at h
  have hdl := D.np
  have f0 : Fit L G H (frame d.n (.ow (.obj i []) :: pvs.map .fz)) (L2.start N (.ref x :: us)) := by
    rw [D.nn]
    refine fit_start (ps := pvs) gd (by simpa using hlen) (by have := D.le; simp only [List.length_cons]; omega) (fun j c v e1 e2 => ?_) (fun j l p q e1 e2 => ?_)
    · cases j with
      | zero =>
        simp at e1 e2
        subst e1 e2
        exact ⟨x, rfl, nx, dx, [], by simpa using hx, hdx, nd, hxd, Nat.zero_le _, reps_nil.mpr rfl⟩
      | succ j =>
        simp only [List.getElem?_cons_succ] at e1 e2
        rw [List.getElem?_map, Option.map_eq_some_iff] at e1
        obtain ⟨p, e1, rfl⟩ := e1
        obtain ⟨v', e3, r⟩ := hr.get e1
        rw [e2] at e3
        cases e3
        exact ⟨v, rfl, r⟩
    · have z : ∀ j p, (Slot.ow (.obj i []) :: pvs.map Slot.fz)[j]? = some (.ow p) → j = 0 := fun j p e => by
        cases j with
        | zero => rfl
        | succ j =>
          simp only [List.getElem?_cons_succ] at e
          rw [List.getElem?_map, Option.map_eq_some_iff] at e
          obtain ⟨p', _, e⟩ := e
          cases e
      rw [z j p e1, z l q e2]
  refine ⟨G, .ow (.obj i []) :: pvs.map .fz, some (some (.ref x)), (fun _ => rfl), (fun o z => by cases z; rfl), f0, ?_⟩
  have fin : ∀ {ρ : List Slot} {σ : L2.St} {G' H' : Hp}, (match (match getS ρ 0 with | .ow (.obj c fs) => Out.ret (.ow (.obj c fs)) | _ => .stuck) with
      | .ret (.ow (.obj c' fs)) => ∀ H', (∃ G1, Same G G1 ∧ Gd G1 H' ∧ G1 x = none ∧ OwnAt L G1 H' (.obj c' fs) x) → Q .non H'
      | .ex e => ∀ cls d H', ExcOk L G e cls d H' → E cls d H'
      | _ => False) → Same G G' → Fit L G' H' ([] ++ ρ) ([] ++ σ) → Zk (some (some (.ref x))) σ → Q .non H' := fun {ρ σ G' H'} h s f zk => by
    cases e1 : getS ρ 0 with
    | no => simp only [e1] at h
    | fz p => simp only [e1] at h
    | ow p =>
      cases p with
      | obj c' fs =>
        simp only [e1] at h
        obtain ⟨o, e2, a, e3, n, hu⟩ := f.slot rfl (getS_ow e1)
        subst e3
        have := zk _ rfl
        rw [e2] at this
        cases this
        exact h H' ⟨G', s, f.good, n, hu⟩
      | _ => simp only [e1] at h
  cases q : exSs (P.cal k) d.body (frame d.n (.ow (.obj i []) :: pvs.map .fz)) with
  | stuck => rw [q] at h; exact h.elim
  | bk ρ => rw [q] at h; exact h.elim
  | ct ρ => rw [q] at h; exact h.elim
  | nx ρ => rw [q] at h; exact fun σ G' H' s f zk => fin h s f zk
  | ex e ρ => rw [q] at h; exact fun σ _ cls dd G' H' s f x => h cls dd H' ⟨G', s, f.good, x⟩
  | rt r ρ =>
    rw [q] at h
    intro v σ G' H' s f b zk
    cases r with
    | fz p =>
      cases p with
      | non =>
        obtain ⟨u, e1, hu⟩ := f.head
        cases e1
        obtain rfl := rep_non.mp hu
        exact fin h s f.tail zk
      | _ => exact h.elim
    | ow p => exact h.elim
    | br j => exact h.elim
theorem FnOk.absurd {fa : Addr} {fd : FuncData} {ps : List Str} {sp : Sp} {CX : CXT} (h : ∀ vs H Q E, ¬ sp vs H Q E) : FnOk prog w K mg base CX k fa fd ps sp := ⟨fun vs H Q E x => (h vs H Q E x).elim, fun _ _ _ _ _ _ _ _ _ _ _ _ _ x => (h _ _ _ _ x).elim⟩
theorem lev_all (T : Top c P L K mg) : ∀ k, Lev c P L prog w K mg base k ∧ Lev c P L prog w K mg base (k + 1) := by
  have stk : ∀ f vs, callF P 0 f vs = .stuck := fun _ _ => rfl
  have zero : Lev c P L prog w K mg base 0 := by
    refine ⟨fun f x hx => ?_, fun i x hx => ?_⟩
    · obtain ⟨d, fa, fd, ps, st, N, h1, h2, D⟩ := T.fn f x hx
      obtain ⟨y, q, F⟩ := D.fn
      exact ⟨d.ps, fa, fd, ps, h2, F.kp, D.bd, FnOk.absurd fun vs H Q E ⟨_, _, _, _, z⟩ => z, fun vs z => (z rfl).elim⟩
    · obtain ⟨d, fa, fd, ps, st, N, h1, h2, h3, D⟩ := T.made i x hx
      exact ⟨d.ps, fa, fd, ps, h2, h3, D.bd, .inr fun _ => rfl, fun vs z => (z rfl).elim, fun vs r z => by cases z⟩
  have fnS : ∀ {k}, Lev c P L prog w K mg base k → ∀ f x, c.fnN[f]? = some x → ∃ n fa fd ps, mg x = some (.ref fa) ∧ PySem.W.keepIn K (.ref fa) = true ∧ Binds K fd ps [] ∧ FnOk prog w K mg base (L2.CX prog w) (k + 1) fa fd ps (spF L n (callF P (k + 1) f)) ∧ ∀ vs, callF P (k + 1) f vs ≠ .stuck → vs.length = n := fun {k} lev f x hx => by
    obtain ⟨d, fa, fd, ps, st, N, h1, h2, D⟩ := T.fn f x hx
    obtain ⟨y, q, F⟩ := D.fn
    refine ⟨d.ps, fa, fd, ps, h2, F.kp, D.bd, fn_step T lev h1 D, fun vs z => ?_⟩
    by_cases hl : vs.length = d.ps
    · exact hl
    · refine (z ?_).elim
      show (match P.fn f with | some d => if vs.length = d.ps then outF (exSs (P.cal k) d.body (frame d.n (vs.map .fz))) else .stuck | none => .stuck) = _
      rw [h1]
      exact if_neg hl
  have one : Lev c P L prog w K mg base 1 := by
    refine ⟨fnS zero, fun i x hx => ?_⟩
    obtain ⟨d, fa, fd, ps, st, N, h1, h2, h3, D⟩ := T.made i x hx
    exact ⟨d.ps, fa, fd, ps, h2, h3, D.bd, .inr fun _ => rfl, fun vs z => (z rfl).elim, fun vs r z => by cases z⟩
  intro k
  induction k with
  | zero => exact ⟨zero, one⟩
  | succ k ih =>
    refine ⟨ih.2, fnS ih.2, fun i x hx => ?_⟩
    obtain ⟨d, fa, fd, ps, st, N, h1, h2, h3, D⟩ := T.made i x hx
    have e : ∀ vs, callM P (k + 2) i vs = if vs.length + 1 = d.ps then outI (exSs (P.cal k) d.body (frame d.n (.ow (.obj i []) :: vs.map .fz))) else .stuck := fun vs => by
      show (match P.ini i with | some d => if vs.length + 1 = d.ps then outI (exSs (P.cal k) d.body (frame d.n (.ow (.obj i []) :: vs.map .fz))) else .stuck | none => .stuck) = _
      rw [h1]
    refine ⟨d.ps, fa, fd, ps, h2, h3, D.bd, .inl ⟨Nat.succ_pos _, ini_step T ih.1 h1 D⟩, fun vs z => ?_, fun vs r z => ?_⟩
    · rw [e] at z
      split at z
      · assumption
      · exact (z rfl).elim
    · rw [e] at z
      split at z
      · exact outI_obj z
      · cases z
end
/-! # The law -/
/-- law(script), by the evaluator -/
def spLaw (K : PySem.W.Frag) (n : Nat) : Sp := fun vs H Q _ => ∃ (a : Addr) (ns : List Int), vs = [.ref a] ∧ SqL K H a (ns.map V.int) ∧ ns.length ≤ n ∧ (∀ b o, H b = some o → Nice H b o) ∧ ∀ H', Q (.bl true) H'
theorem law_ok {c : Chk} {P : Prg} {prog : Program} {w : World} {K : PySem.W.Frag} {mg : Str → Option Value} {base : Heap} (T : Top c P L K mg) {k f m : Nat} {d : FnD} (hf : P.fn f = some d) {fa : Addr} {fd : FuncData} {ps : List Str} {st : Stmt} {N : List Str} (D : DefIs K c false d fa fd ps st N)
    (hd : d.ps = 1) (hlaw : ∀ ns : List Int, ns.length ≤ m → callF P (k + 1) f [.scr ns] = .ret (.fz (.bl true))) : FnOk prog w K mg base (L2.CX prog w) (k + 1) fa fd ps (spLaw K m) := by
  refine (fn_step T (lev_all T k).1 hf D).imp fun vs H Q E ⟨a, ns, e, hS, hl, nice, q⟩ => ?_
  subst e
  refine ⟨by rw [hd]; rfl, nice, [.scr ns], reps_cons.mpr ⟨_, _, rfl, rep_scr.mpr ⟨a, rfl, by rw [T.hL]; exact hS⟩, reps_nil.mpr rfl⟩, ?_⟩
  rw [hlaw ns hl]
  intro v H' ⟨G1, _, _, r⟩
  obtain rfl := rep_bl.mp r
  exact q H'
theorem only_nice {H : Hp} (h : Only H) : ∀ b o, H b = some o → Nice H b o := by
  intro b o e
  rcases h b with n | ⟨o', xs, n⟩
  · rw [n] at e; cases e
  · rw [n] at e
    cases e
    exact ⟨xs, rfl⟩
theorem walk {l : PySem.W.OpenLaw} {n k : Nat} {x : Str} {q : Program} {loose : List Str} {XP : (Str → Option Value) → Heap → Prop} {YP : World → Heap → Prop} {d : DefRec} {K : Params → PySem.W.Frag} (hn : l.most = some n) (hn2 : n ≤ sizeLine) (hdf : d.params.defaults = []) (hr : Room k callerA)
    (hY : ∀ (w : World) (h : Heap), YP w h → (K w.params).In h)
    (F : ∀ (w : World) (mg : Str → Option Value) (fa : Addr) (h : Heap), (K w.params).In h → h.Ns mainGlobals mg → mg d.name = some (.ref fa) →
      ∃ fd : FuncData, (∀ (s : Shared) (u : Value), BindsTo s fd ⟨[u], []⟩ [(x, u)]) ∧ ∀ base : Heap, (K w.params).In base → base.Ns mainGlobals mg → FnOk l.prog w (K w.params) mg base (L2.CX l.prog w) k fa fd [x] (spLaw (K w.params) n)) :
    PySem.W.WalkO q loose XP YP l.row.toRowW d [] (fun f vs => PySem.call f vs) :=
  L2.walk_of (n := n) (k := k) (x := x) (CX := fun w => L2.CX l.prog w) (sp := fun w => spLaw (K w.params) n) hn hn2 hdf hr hY F (fun _ _ a ns hl ho hS => ⟨a, ns, rfl, hS, hl, only_nice ho, fun _ => rfl⟩) fun _ _ _ _ _ h => by
    obtain ⟨_, _, _, _, _, _, _, _, _, _, _, _, z⟩ := h
    exact z
/-- of each of a list, by its place -/
def AllAt (P : Nat → Str → Prop) : Nat → List Str → Prop
  | _, [] => True
  | n, x :: xs => P n x ∧ AllAt P (n + 1) xs
theorem AllAt.get {P : Nat → Str → Prop} : ∀ {l : List Str} {n i : Nat} {x : Str}, AllAt P n l → l[i]? = some x → P (n + i) x
  | [], _, _, _, _, e => by simp at e
  | y :: ys, n, 0, x, h, e => by
    simp at e
    subst e
    exact h.1
  | y :: ys, n, i + 1, x, h, e => by
    have := AllAt.get h.2 (i := i) (by simpa using e)
    rwa [Nat.add_right_comm] at this
theorem AllAt.get0 {P : Nat → Str → Prop} {l : List Str} (h : AllAt P 0 l) : ∀ i x, l[i]? = some x → P i x := fun i x e => by
  have := h.get e
  rwa [Nat.zero_add] at this
theorem AllAt.mem {P : Nat → Str → Prop} {l : List Str} (h : AllAt P 0 l) {x : Str} (m : x ∈ l) : ∃ i, P i x := by
  obtain ⟨i, e⟩ := List.mem_iff_getElem?.mp m
  exact ⟨i, h.get0 i x e⟩
end Mp
set_option Elab.async false
set_option linter.all false
set_option maxRecDepth 100000
set_option maxHeartbeats 1000000
/-! # The evaluator at work: its equations, its loops -/
namespace Mp
open PySem PySem.Spec PyProof.Rows L2
/-- one after another -/
def Fl.seq : Fl → (List Slot → Fl) → Fl
  | .nx ρ, k => k ρ
  | .bk ρ, _ => .bk ρ
  | .ct ρ, _ => .ct ρ
  | .rt r ρ, _ => .rt r ρ
  | .ex e ρ, _ => .ex e ρ
  | .stuck, _ => .stuck
@[simp] theorem seq_nx (ρ : List Slot) (k : List Slot → Fl) : Fl.seq (.nx ρ) k = k ρ := (rfl)
@[simp] theorem seq_bk (ρ : List Slot) (k : List Slot → Fl) : Fl.seq (.bk ρ) k = .bk ρ := (rfl)
@[simp] theorem seq_ct (ρ : List Slot) (k : List Slot → Fl) : Fl.seq (.ct ρ) k = .ct ρ := (rfl)
@[simp] theorem seq_rt (r : Rv) (ρ : List Slot) (k : List Slot → Fl) : Fl.seq (.rt r ρ) k = .rt r ρ := (rfl)
@[simp] theorem seq_stuck (k : List Slot → Fl) : Fl.seq .stuck k = .stuck := (rfl)
section
variable {C : Cal} {ρ : List Slot}
@[simp] theorem ev_var (i : Nat) : evE C (.var i) ρ = (match getS ρ i with | .no => .stuck | .fz p => .ok (.fz p) ρ | .ow _ => .ok (.br i) ρ) := (rfl)
@[simp] theorem ev_cst (p : PV) : evE C (.cst p) ρ = .ok (.fz p) ρ := (rfl)
@[simp] theorem ev_glob (g : Nat) : evE C (.glob g) ρ = .ok (.fz (C.gv g)) ρ := (rfl)
@[simp] theorem ev_bin (o : Operator) (a b : Ex) : evE C (.bin o a b) ρ = (evE C a ρ).bind fun ra ρ1 => (evE C b ρ1).bind fun rb ρ2 => liftO ρ2 ((ra.val ρ2).bind fun p => (rb.val ρ2).bind fun q => binF o p q) := (rfl)
@[simp] theorem ev_cmp (o : CmpOp) (a b : Ex) : evE C (.cmp o a b) ρ = (evE C a ρ).bind fun ra ρ1 => (evE C b ρ1).bind fun rb ρ2 => liftO ρ2 ((ra.val ρ2).bind fun p => (rb.val ρ2).bind fun q => (cmpF o p q).map fun b => .fz (.bl b)) := (rfl)
@[simp] theorem ev_neg (a : Ex) : evE C (.neg a) ρ = (evE C a ρ).bind fun ra ρ1 => liftO ρ1 ((ra.val ρ1).bind fun p => match p with | .int i => some (.fz (.int (-i))) | _ => none) := (rfl)
@[simp] theorem ev_ite (t : Te) (a b : Ex) : evE C (.ite t a b) ρ = (evT C t ρ).bind fun c ρ1 => if c then evE C a ρ1 else evE C b ρ1 := (rfl)
@[simp] theorem ev_tup (es : Exs) : evE C (.tup es) ρ = (evEs C es ρ).bind fun rs ρ1 => match sealAll rs ρ1 with | some (ps, ρ2) => if decide (ps.length ≤ LINE) then .ok (.fz (.tup ps)) ρ2 else .stuck | none => .stuck := (rfl)
@[simp] theorem ev_lst (es : Exs) : evE C (.lst es) ρ = (evEs C es ρ).bind fun rs ρ1 => match sealAll rs ρ1 with | some (ps, ρ2) => if decide (ps.length ≤ LINE) then .ok (.ow (.lst ps)) ρ2 else .stuck | none => .stuck := (rfl)
@[simp] theorem ev_ix (o i : Ex) : evE C (.ix o i) ρ = (evE C o ρ).bind fun ra ρ1 => (evE C i ρ1).bind fun rb ρ2 => liftO ρ2 ((ra.val ρ2).bind fun p => (rb.val ρ2).bind fun q => (ixF p q).map .fz) := (rfl)
@[simp] theorem ev_sl (o : Ex) (lo hi : Oe) : evE C (.sl o lo hi) ρ = (evE C o ρ).bind fun ra ρ1 => (evO C lo ρ1).bind fun l ρ2 => (evO C hi ρ2).bind fun h ρ3 => liftO ρ3 ((ra.val ρ3).bind fun p => slF p l h) := (rfl)
@[simp] theorem ev_fld (o : Ex) (n : Nat) : evE C (.fld o n) ρ = (evE C o ρ).bind fun ra ρ1 => liftO ρ1 ((ra.val ρ1).bind fun p => match p with | .obj c fs => (C.fx c n).bind fun k => (fs[k]?).map .fz | _ => none) := (rfl)
@[simp] theorem ev_call (f : Nat) (es : Exs) : evE C (.call f es) ρ = (evEs C es ρ).bind fun rs ρ1 => match sealAll rs ρ1 with | some (ps, ρ2) => outR ρ2 (C.fn f ps) | none => .stuck := (rfl)
@[simp] theorem ev_new (f : Nat) (es : Exs) : evE C (.new f es) ρ = (evEs C es ρ).bind fun rs ρ1 => match sealAll rs ρ1 with | some (ps, ρ2) => outR ρ2 (C.mkC f ps) | none => .stuck := (rfl)
@[simp] theorem ev_blt (b : Blt) (es : Exs) : evE C (.blt b es) ρ = (evEs C es ρ).bind fun rs ρ1 => liftO ρ1 ((valAll ρ1 rs).bind fun ps => bltF b ps) := (rfl)
@[simp] theorem ev_bm (m : Bmt) (o : Ex) (es : Exs) : evE C (.bm m o es) ρ = (evE C o ρ).bind fun ra ρ1 => match ra with | .fz (.str a) => (evEs C es ρ1).bind fun rs ρ2 => liftO ρ2 ((valAll ρ2 rs).bind fun ps => bmF m (.str a) ps) | _ => .stuck := (rfl)
@[simp] theorem ev_isi (e : Ex) (k : TyK) : evE C (.isi e k) ρ = (evE C e ρ).bind fun ra ρ1 => liftO ρ1 ((ra.val ρ1).bind fun p => (isiF k p).map fun b => .fz (.bl b)) := (rfl)
@[simp] theorem ev_mu (m : Mu) (i : Nat) (es : Exs) : evE C (.mu m i es) ρ = (match getS ρ i with
    | .ow (.lst _) => (evEs C es ρ).bind fun rs ρ1 => match sealAll rs ρ1 with
      | some (ps, ρ2) => (match getS ρ2 i with
        | .ow (.lst xs) => (match muF m xs ps with
          | some (ys, p) => .ok (.fz p) (setS ρ2 i (.ow (.lst ys)))
          | none => .stuck)
        | _ => .stuck)
      | none => .stuck
    | _ => .stuck) := rfl
@[simp] theorem ev_lc (tg : Tg) (it : Itx) (t : Ot) (e : Ex) (vs : List Nat) : evE C (.lc tg it t e vs) ρ = (evI C it ρ).bind fun xs ρ1 => (lcLoop (bindT tg) (evOt C t) (evE C e) vs xs [] (killS vs ρ1)).bind fun ps ρ2 => .ok (.ow (.lst ps)) ρ2 := (rfl)
@[simp] theorem ev_nil : evEs C .nil ρ = .ok [] ρ := (rfl)
@[simp] theorem ev_cons (e : Ex) (es : Exs) : evEs C (.cons e es) ρ = (evE C e ρ).bind fun r ρ1 => (evEs C es ρ1).bind fun rs ρ2 => .ok (r :: rs) ρ2 := (rfl)
@[simp] theorem ev_onone : evO C .none ρ = .ok none ρ := (rfl)
@[simp] theorem ev_osome (e : Ex) : evO C (.some e) ρ = (evE C e ρ).bind fun r ρ1 => match r with | .fz (.int i) => .ok (some i) ρ1 | _ => .stuck := (rfl)
@[simp] theorem ev_otn : evOt C .none ρ = .ok true ρ := (rfl)
@[simp] theorem ev_ots (t : Te) : evOt C (.some t) ρ = evT C t ρ := (rfl)
@[simp] theorem ev_tval (e : Ex) : evT C (.val e) ρ = (evE C e ρ).bind fun r ρ1 => liftO ρ1 ((r.val ρ1).bind truthF) := (rfl)
@[simp] theorem ev_tcmp (o : CmpOp) (a b : Ex) : evT C (.cmp o a b) ρ = (evE C a ρ).bind fun ra ρ1 => (evE C b ρ1).bind fun rb ρ2 => liftO ρ2 ((ra.val ρ2).bind fun p => (rb.val ρ2).bind fun q => cmpF o p q) := (rfl)
@[simp] theorem ev_tcmp2 (o o' : CmpOp) (a b c : Ex) : evT C (.cmp2 o o' a b c) ρ = (evE C a ρ).bind fun ra ρ1 => (evE C b ρ1).bind fun rb ρ2 => (liftO ρ2 ((ra.val ρ2).bind fun p => (rb.val ρ2).bind fun q => cmpF o p q)).bind fun t ρ2 =>
      if t then (evE C c ρ2).bind fun rc ρ3 => liftO ρ3 ((rb.val ρ3).bind fun q => (rc.val ρ3).bind fun r => cmpF o' q r) else .ok false ρ2 := rfl
@[simp] theorem ev_tnot (t : Te) : evT C (.not t) ρ = (evT C t ρ).bind fun b ρ1 => .ok (!b) ρ1 := (rfl)
@[simp] theorem ev_tand (a b : Te) : evT C (.and a b) ρ = (evT C a ρ).bind fun c ρ1 => if c then evT C b ρ1 else .ok false ρ1 := (rfl)
@[simp] theorem ev_tor (a b : Te) : evT C (.or a b) ρ = (evT C a ρ).bind fun c ρ1 => if c then .ok true ρ1 else evT C b ρ1 := (rfl)
@[simp] theorem ev_ival (e : Ex) : evI C (.val e) ρ = (evE C e ρ).bind fun r ρ1 => liftO (r.seal ρ1) ((r.val ρ1).bind (itemsC C.it)) := (rfl)
theorem ev_range1 (a : Ex) : evI C (.range1 a) ρ = (evE C a ρ).bind fun r ρ1 => match r with | .fz (.int n) => if rangeOk 0 n then .ok (rangeP 0 n) ρ1 else .stuck | _ => .stuck := rfl
theorem ev_revR (a : Ex) : evI C (.revR a) ρ = (evE C a ρ).bind fun r ρ1 => match r with | .fz (.int n) => if rangeOk 0 n then .ok (rangeP 0 n).reverse ρ1 else .stuck | _ => .stuck := rfl
@[simp] theorem ev_enum (e : Ex) : evI C (.enum e) ρ = (evE C e ρ).bind fun r ρ1 => liftO (r.seal ρ1) (((r.val ρ1).bind itemsE).map (enumFromP 0)) := (rfl)
@[simp] theorem ev_zip (a b : Ex) : evI C (.zip a b) ρ = (evE C a ρ).bind fun r ρ1 => (evE C b ρ1).bind fun q ρ2 => match sealAll [r, q] ρ2 with | some ([p1, p2], ρ3) => liftO ρ3 ((itemsE p1).bind fun xs => (itemsE p2).map fun ys => zipP xs ys) | _ => .stuck := (rfl)
@[simp] theorem liftO_some {α : Type} (a : α) : liftO ρ (some a) = .ok a ρ := (rfl)
@[simp] theorem liftO_none {α : Type} : liftO ρ (none : Option α) = .stuck := (rfl)
@[simp] theorem outR_ret (r : Rv) : outR ρ (.ret r) = .ok r ρ := (rfl)
@[simp] theorem outR_stuck : outR ρ .stuck = .stuck := (rfl)
@[simp] theorem val_fz (p : PV) : Rv.val ρ (.fz p) = some p := (rfl)
@[simp] theorem val_ow (p : PV) : Rv.val ρ (.ow p) = some p := (rfl)
@[simp] theorem val_br (i : Nat) : Rv.val ρ (.br i) = (getS ρ i).cont := (rfl)
@[simp] theorem cont_fz (p : PV) : (Slot.fz p).cont = some p := (rfl)
@[simp] theorem cont_ow (p : PV) : (Slot.ow p).cont = some p := (rfl)
@[simp] theorem seal_fz (p : PV) : Rv.seal ρ (.fz p) = ρ := (rfl)
@[simp] theorem seal_ow (p : PV) : Rv.seal ρ (.ow p) = ρ := (rfl)
@[simp] theorem seal_br (i : Nat) : Rv.seal ρ (.br i) = (match getS ρ i with | .ow p => setS ρ i (.fz p) | _ => ρ) := (rfl)
@[simp] theorem sealAll_nil : sealAll [] ρ = some ([], ρ) := (rfl)
@[simp] theorem sealAll_cons (r : Rv) (rs : List Rv) : sealAll (r :: rs) ρ = (sealAll rs ρ).bind fun (ps, ρ1) => (r.val ρ1).map fun p => (p :: ps, r.seal ρ1) := (rfl)
@[simp] theorem valAll_nil : valAll ρ [] = some [] := (rfl)
@[simp] theorem valAll_cons (r : Rv) (rs : List Rv) : valAll ρ (r :: rs) = (r.val ρ).bind fun p => (valAll ρ rs).map fun ps => p :: ps := (rfl)
@[simp] theorem killS_nil : killS [] ρ = ρ := (rfl)
@[simp] theorem killS_cons (i : Nat) (is : List Nat) : killS (i :: is) ρ = setS (killS is ρ) i .no := (rfl)
@[simp] theorem bind_nm (i : Nat) (p : PV) : bindT (.nm i) p ρ = some (setS ρ i (.fz p)) := (rfl)
@[simp] theorem bind_tp (is : List Nat) (ps : List PV) : bindT (.tp is) (.tup ps) ρ = if ps.length = is.length then some ((is.zip ps).foldl (fun ρ x => setS ρ x.1 (.fz x.2)) ρ) else none := (rfl)
@[simp] theorem ex_set (tg : Tg) (e : Ex) : exS C (.set tg e) ρ = Fl.ofR (evE C e ρ) fun r ρ1 => storeT tg r ρ1 := (rfl)
@[simp] theorem ex_setF (i n : Nat) (e : Ex) : exS C (.setF i n e) ρ = Fl.ofR (evE C e ρ) fun r ρ1 => match r.val ρ1, getS (r.seal ρ1) i with
    | some p, .ow (.obj c fs) => (match C.fx c n with
      | some k => if k < fs.length then .nx (setS (r.seal ρ1) i (.ow (.obj c (fs.set k p)))) else if k = fs.length then .nx (setS (r.seal ρ1) i (.ow (.obj c (fs ++ [p])))) else .stuck
      | none => .stuck)
    | _, _ => .stuck := rfl
@[simp] theorem ex_setI (i : Nat) (ix e : Ex) : exS C (.setI i ix e) ρ = Fl.ofR (evE C e ρ) fun r ρ1 => match getS ρ1 i with
    | .ow (.lst _) => Fl.ofR (evE C ix ρ1) fun q ρ2 => (match r.val ρ2, q with
      | some p, .fz (.int k) => (match getS (r.seal ρ2) i with
        | .ow (.lst xs) => (match ixN xs.length k with
          | some j => .nx (setS (r.seal ρ2) i (.ow (.lst (xs.set j p))))
          | none => .stuck)
        | _ => .stuck)
      | _, _ => .stuck)
    | _ => .stuck := rfl
@[simp] theorem ex_expr (e : Ex) : exS C (.expr e) ρ = Fl.ofR (evE C e ρ) fun _ ρ1 => .nx ρ1 := (rfl)
@[simp] theorem ex_ret (e : Ex) : exS C (.ret e) ρ = Fl.ofR (evE C e ρ) fun r ρ1 => .rt r ρ1 := (rfl)
@[simp] theorem ex_retN : exS C .retN ρ = .rt (.fz .non) ρ := (rfl)
@[simp] theorem ex_ifs (t : Te) (a b : List Sk) : exS C (.ifs t a b) ρ = Fl.ofR (evT C t ρ) fun c ρ1 => if c then exSs C a ρ1 else exSs C b ρ1 := (rfl)
@[simp] theorem ex_for (tg : Tg) (it : Itx) (body : List Sk) (kill : List Nat) : exS C (.for_ tg it body kill) ρ = Fl.ofR (evI C it ρ) fun xs ρ1 => forLoop (bindT tg) (exSs C body) kill xs ρ1 := (rfl)
@[simp] theorem ex_while (n : Nat) (t : Te) (body : List Sk) (kill : List Nat) : exS C (.while_ n t body kill) ρ = whileLoop (evT C t) (exSs C body) kill n ρ := (rfl)
@[simp] theorem ex_nil : exSs C [] ρ = .nx ρ := (rfl)
@[simp] theorem ex_cons (s : Sk) (ss : List Sk) : exSs C (s :: ss) ρ = Fl.seq (exS C s ρ) (exSs C ss) := by
  show (match exS C s ρ with | .nx ρ1 => exSs C ss ρ1 | f => f) = _
  cases exS C s ρ <;> rfl
@[simp] theorem st_nmF (i : Nat) (p : PV) : storeT (.nm i) (.fz p) ρ = .nx (setS ρ i (.fz p)) := (rfl)
@[simp] theorem st_nmO (i : Nat) (p : PV) : storeT (.nm i) (.ow p) ρ = .nx (setS ρ i (.ow p)) := (rfl)
@[simp] theorem outF_fz (p : PV) : outF (.rt (.fz p) ρ) = .ret (.fz p) := (rfl)
@[simp] theorem outF_ow (p : PV) : outF (.rt (.ow p) ρ) = .ret (.ow p) := (rfl)
@[simp] theorem outF_br (i : Nat) : outF (.rt (.br i) ρ) = (match getS ρ i with | .ow p => .ret (.ow p) | .fz p => .ret (.fz p) | .no => .stuck) := (rfl)
@[simp] theorem outF_nx : outF (.nx ρ) = .ret (.fz .non) := (rfl)
end
theorem range1_of {C : Cal} {a : Ex} {n : Int} {ρ ρ1 : List Slot} (h : evE C a ρ = .ok (.fz (.int n)) ρ1) (hr : rangeOk 0 n = true) : evI C (.range1 a) ρ = .ok (rangeP 0 n) ρ1 := by
  rw [ev_range1, h]
  exact if_pos hr
theorem revR_of {C : Cal} {a : Ex} {n : Int} {ρ ρ1 : List Slot} (h : evE C a ρ = .ok (.fz (.int n)) ρ1) (hr : rangeOk 0 n = true) : evI C (.revR a) ρ = .ok (rangeP 0 n).reverse ρ1 := by
  rw [ev_revR, h]
  exact if_pos hr
theorem rangeOk_nat {n : Int} (h0 : 0 ≤ n) (h : n ≤ 1000000) : rangeOk 0 n = true := by
  unfold rangeOk
  simp only [Bool.and_eq_true, decide_eq_true_eq]
  omega
theorem call_fn {P : Prg} {k f : Nat} {d : FnD} {vs : List PV} (h : P.fn f = some d) (hl : vs.length = d.ps) : callF P (k + 1) f vs = outF (exSs (P.cal k) d.body (frame d.n (vs.map .fz))) := by
  show (match P.fn f with | some d => if vs.length = d.ps then outF (exSs (P.cal k) d.body (frame d.n (vs.map .fz))) else .stuck | none => .stuck) = _
  rw [h]
  exact if_pos hl
theorem call_mk {P : Prg} {k f : Nat} {d : FnD} {vs : List PV} (h : P.ini f = some d) (hl : vs.length + 1 = d.ps) : callM P (k + 2) f vs = outI (exSs (P.cal k) d.body (frame d.n (.ow (.obj f []) :: vs.map .fz))) := by
  show (match P.ini f with | some d => if vs.length + 1 = d.ps then outI (exSs (P.cal k) d.body (frame d.n (.ow (.obj f []) :: vs.map .fz))) else .stuck | none => .stuck) = _
  rw [h]
  exact if_pos hl
/-! ## loops -/
section
variable {B : PV → List Slot → Option (List Slot)} {body : List Slot → Fl} {kill : List Nat} {T : List Slot → R Bool} {El : List Slot → R Rv} {vs : List Nat}
/-- a loop that goes to its end: the state by a value of its own -/
theorem for_fold {α : Type} (st : α → List Slot) (g : α → PV → α) (Pv : α → Prop) : ∀ (xs : List PV) (a : α), Pv a → (∀ a x, x ∈ xs → Pv a → Pv (g a x) ∧ ∃ ρ1, B x (st a) = some ρ1 ∧ ∃ ρ2, (body ρ1 = .nx ρ2 ∨ body ρ1 = .ct ρ2) ∧ killS kill ρ2 = st (g a x)) →
    forLoop B body kill xs (st a) = .nx (st (xs.foldl g a)) ∧ Pv (xs.foldl g a)
  | [], a, ha, _ => ⟨rfl, ha⟩
  | x :: xs, a, ha, h => by
    obtain ⟨h1, ρ1, e1, ρ2, e2, e3⟩ := h a x List.mem_cons_self ha
    have ih := for_fold st g Pv xs (g a x) h1 fun a y hy => h a y (List.mem_cons_of_mem _ hy)
    rw [List.foldl_cons]
    refine ⟨?_, ih.2⟩
    unfold forLoop
    rw [e1]
    rcases e2 with e2 | e2 <;> simp only [e2, e3] <;> exact ih.1
/-- .. by the number of turns -/
theorem for_ix {α : Type} (st : α → List Slot) (Pv : Nat → α → Prop) : ∀ (xs : List PV) (n : Nat) (a : α), Pv n a → (∀ i a x, xs[i]? = some x → Pv (n + i) a → ∃ a', Pv (n + i + 1) a' ∧ ∃ ρ1, B x (st a) = some ρ1 ∧ ∃ ρ2, (body ρ1 = .nx ρ2 ∨ body ρ1 = .ct ρ2) ∧ killS kill ρ2 = st a') →
    ∃ a', Pv (n + xs.length) a' ∧ forLoop B body kill xs (st a) = .nx (st a')
  | [], n, a, ha, _ => ⟨a, ha, rfl⟩
  | x :: xs, n, a, ha, h => by
    obtain ⟨a1, h1, ρ1, e1, ρ2, e2, e3⟩ := h 0 a x rfl ha
    obtain ⟨a', h2, h3⟩ := for_ix st Pv xs (n + 1) a1 h1 fun i b y hy hb => by
      have := h (i + 1) b y (by simpa using hy) (by rw [Nat.add_right_comm] at hb; exact hb)
      rw [Nat.add_right_comm n 1 i]
      exact this
    refine ⟨a', by rw [List.length_cons, ← Nat.add_assoc, Nat.add_right_comm]; exact h2, ?_⟩
    unfold forLoop
    rw [e1]
    rcases e2 with e2 | e2 <;> simp only [e2, e3] <;> exact h3
/-- a loop that may return: the state stays -/
theorem for_search (st : List Slot) (f : PV → Option PV) : ∀ (xs : List PV), (∀ x, x ∈ xs → ∃ ρ1, B x st = some ρ1 ∧ match f x with
      | some r => ∃ ρ', body ρ1 = .rt (.fz r) ρ'
      | none => ∃ ρ2, (body ρ1 = .nx ρ2 ∨ body ρ1 = .ct ρ2) ∧ killS kill ρ2 = st) →
    match xs.findSome? f with
    | some r => ∃ ρ', forLoop B body kill xs st = .rt (.fz r) ρ'
    | none => forLoop B body kill xs st = .nx st
  | [], _ => rfl
  | x :: xs, h => by
    obtain ⟨ρ1, e1, h1⟩ := h x List.mem_cons_self
    have ih := for_search st f xs fun y hy => h y (List.mem_cons_of_mem _ hy)
    rw [List.findSome?_cons]
    cases e : f x with
    | some r =>
      rw [e] at h1
      obtain ⟨ρ', e2⟩ := h1
      refine ⟨ρ', ?_⟩
      unfold forLoop
      simp only [e1, e2]
    | none =>
      rw [e] at h1
      obtain ⟨ρ2, e2, e3⟩ := h1
      have go : forLoop B body kill (x :: xs) st = forLoop B body kill xs st := by
        conv => lhs; unfold forLoop
        rcases e2 with e2 | e2 <;> simp only [e1, e2, e3]
      simp only [go]
      exact ih
/-- a comprehension: the state stays -/
theorem lc_fm (st : List Slot) (f : PV → Option PV) : ∀ (xs acc : List PV), acc.length + xs.length ≤ LINE → (∀ x, x ∈ xs → ∃ ρ1, B x st = some ρ1 ∧ match f x with
      | some p => ∃ ρ2 r ρ3, T ρ1 = .ok true ρ2 ∧ El ρ2 = .ok r ρ3 ∧ r.val ρ3 = some p ∧ killS vs (r.seal ρ3) = st
      | none => ∃ ρ2, T ρ1 = .ok false ρ2 ∧ killS vs ρ2 = st) →
    lcLoop B T El vs xs acc st = .ok (acc ++ xs.filterMap f) st
  | [], acc, _, _ => by simp [lcLoop]
  | x :: xs, acc, hl, h => by
    obtain ⟨ρ1, e1, h1⟩ := h x List.mem_cons_self
    unfold lcLoop
    cases e : f x with
    | none =>
      rw [e] at h1
      obtain ⟨ρ2, e2, e3⟩ := h1
      simp only [e1, e2, e3]
      rw [lc_fm st f xs acc (by simp at hl; omega) fun y hy => h y (List.mem_cons_of_mem _ hy), List.filterMap_cons_none e]
    | some p =>
      rw [e] at h1
      obtain ⟨ρ2, r, ρ3, e2, e3, e4, e5⟩ := h1
      have hz : acc.length < LINE := by simp at hl; omega
      simp only [e1, e2, e3, e4, e5, hz, decide_true, if_true]
      rw [lc_fm st f xs (acc ++ [p]) (by simp at hl ⊢; omega) fun y hy => h y (List.mem_cons_of_mem _ hy), List.filterMap_cons_some e]
      simp
/-- .. without a test -/
theorem lc_map (st : List Slot) (f : PV → PV) (xs : List PV) (hl : xs.length ≤ LINE) (h : ∀ x, x ∈ xs → ∃ ρ1 ρ2 r ρ3, B x st = some ρ1 ∧ T ρ1 = .ok true ρ2 ∧ El ρ2 = .ok r ρ3 ∧ r.val ρ3 = some (f x) ∧ killS vs (r.seal ρ3) = st) :
    lcLoop B T El vs xs [] st = .ok (xs.map f) st := by
  rw [lc_fm st (fun x => some (f x)) xs [] (by simpa using hl) fun x hx => by
    obtain ⟨ρ1, ρ2, r, ρ3, h1, h2, h3, h4, h5⟩ := h x hx
    exact ⟨ρ1, h1, ρ2, r, ρ3, h2, h3, h4, h5⟩]
  simp
end
end Mp
namespace Lw
open PySem PySem.Spec PyProof.Rows L2 Mp
def top (i : Nat) : Stmt := PySem.Challenge.pw_rankedtongues_k00_steps_words_outputs.main.body.getD i (.Pass ⟨0, 0, 0, 0⟩)
/-- law(script): 0 script, 1 draws, 2 signs, 3 others, 4 first, 5 second, 6 alphabet, 7 form -/
def b1_law : List Sk := [
  .ifs (.or (.not (.val (.call 1 (.cons (.call 3 (.cons (.ix (.var 7) (.cst (.int 0))) .nil)) (.cons (.ix (.var 7) (.cst (.int 1))) .nil))))) (.not (.val (.call 1 (.cons (.call 2 (.cons (.ix (.var 7) (.cst (.int 0))) .nil)) (.cons (.ix (.var 7) (.cst (.int 2))) .nil)))))) [
    .ret (.cst (.bl false))] []]
def b2_law : List Sk := [
  .ifs (.not (.val (.call 1 (.cons (.call 6 (.cons (.var 6) .nil)) (.cons (.call 4 (.cons (.var 6) .nil)) .nil))))) [
    .ret (.cst (.bl false))] []]
def f_law : FnD := ⟨1, 8, [
  .set (.nm 1) (.call 8 (.cons (.var 0) (.cons (.cst (.int 800)) .nil))),
  .set (.nm 2) (.call 9 (.cons (.var 1) (.cons (.cst (.int 0)) (.cons (.bin .Add (.cst (.int 1)) (.call 5 (.cons (.var 1) (.cons (.cst (.int 4)) (.cons (.cst (.int 4)) .nil))))) .nil)))),
  .set (.nm 3) (.call 9 (.cons (.var 1) (.cons (.cst (.int 5)) (.cons (.bin .Add (.cst (.int 1)) (.call 5 (.cons (.var 1) (.cons (.cst (.int 9)) (.cons (.cst (.int 4)) .nil))))) .nil)))),
  .set (.nm 4) (.call 7 (.cons (.var 1) (.cons (.cst (.int 12)) (.cons (.var 2) (.cons (.call 5 (.cons (.var 1) (.cons (.cst (.int 10)) (.cons (.cst (.int 8)) .nil)))) .nil))))),
  .set (.nm 5) (.call 7 (.cons (.var 1) (.cons (.cst (.int 402)) (.cons (.var 3) (.cons (.call 5 (.cons (.var 1) (.cons (.cst (.int 11)) (.cons (.cst (.int 8)) .nil)))) .nil))))),
  .for_ (.nm 6) (.val (.lst (.cons (.var 2) (.cons (.var 3) (.cons (.var 2) .nil))))) b2_law [6],
  .for_ (.nm 7) (.val (.lst (.cons (.var 4) (.cons (.var 5) (.cons (.var 4) .nil))))) b1_law [7],
  .ret (.cst (.bl true))]⟩
/-- _law_same(actual, due): 0 actual, 1 due, 2 k -/
def b1__law_same : List Sk := [
  .ifs (.not (.val (.call 1 (.cons (.ix (.var 0) (.var 2)) (.cons (.ix (.var 1) (.var 2)) .nil))))) [
    .ret (.cst (.bl false))] []]
def f__law_same : FnD := ⟨2, 3, [
  .ifs (.cmp .Is (.var 1) (.cst .non)) [
    .ret (.cmp .Is (.var 0) (.cst .non))] [],
  .ifs (.val (.isi (.var 1) .bool)) [
    .ret (.band (.isi (.var 0) .bool) (.cmp .Eq (.var 0) (.var 1)))] [],
  .ifs (.val (.isi (.var 1) .int)) [
    .ret (.band (.isi (.var 0) .int) (.band (.bnot (.isi (.var 0) .bool)) (.cmp .Eq (.var 0) (.var 1))))] [],
  .ifs (.val (.isi (.var 1) .str)) [
    .ret (.band (.isi (.var 0) .str) (.cmp .Eq (.var 0) (.var 1)))] [],
  .ifs (.or (.not (.val (.isi (.var 0) .tuple))) (.cmp .NotEq (.blt .len (.cons (.var 0) .nil)) (.blt .len (.cons (.var 1) .nil)))) [
    .ret (.cst (.bl false))] [],
  .for_ (.nm 2) (.range1 (.blt .len (.cons (.var 1) .nil))) b1__law_same [2],
  .ret (.cst (.bl true))]⟩
/-- output_of(form): 0 form, 1 step -/
def f_output_of : FnD := ⟨1, 2, [
  .ret (.bm .join (.cst (.str [])) (.cons (.lc (.nm 1) (.val (.call 10 (.cons (.var 0) .nil))) (.some (.cmp .NotEq (.ix (.var 1) (.cst (.int 1))) (.glob 0))) (.ix (.var 1) (.cst (.int 1))) [1]) .nil))]⟩
/-- word_of(form): 0 form, 1 step -/
def f_word_of : FnD := ⟨1, 2, [
  .ret (.bm .join (.cst (.str [])) (.cons (.lc (.nm 1) (.val (.call 10 (.cons (.var 0) .nil))) (.some (.cmp .NotEq (.ix (.var 1) (.cst (.int 0))) (.glob 0))) (.ix (.var 1) (.cst (.int 0))) [1]) .nil))]⟩
/-- _law_due(signs): 0 signs, 1 told, 2 sign, 3 other -/
def b1__law_due : List Sk := [
  .expr (.mu .append 1 (.cons (.bin .Add (.var 2) (.var 3)) .nil))]
def b2__law_due : List Sk := [
  .expr (.mu .append 1 (.cons (.bin .Add (.var 2) (.cst (.str [45]))) .nil)),
  .expr (.mu .append 1 (.cons (.bin .Add (.cst (.str [45])) (.var 2)) .nil)),
  .for_ (.nm 3) (.val (.var 0)) b1__law_due [3]]
def f__law_due : FnD := ⟨1, 4, [
  .set (.nm 1) (.lst .nil),
  .for_ (.nm 2) (.val (.var 0)) b2__law_due [2, 3],
  .ret (.blt .sorted (.cons (.var 1) .nil))]⟩
/-- all_steps(signs): 0 signs, 1 parts, 2 first, 3 second -/
def f_all_steps : FnD := ⟨1, 4, [
  .set (.nm 1) (.bin .Add (.glob 0) (.var 0)),
  .ret (.blt .tuple (.cons (.lc2 (.nm 2) (.val (.var 1)) .none (.nm 3) (.val (.var 1)) (.some (.cmp .NotEq (.bin .Add (.var 2) (.var 3)) (.cst (.str [45, 45])))) (.bin .Add (.var 2) (.var 3)) [2, 3] [3]) .nil))]⟩
/-- _law_form(draws, at, signs, kind): 0 draws, 1 at, 2 signs, 3 kind, 4 count, 5 parts, 6 word, 7 output, 8 place, 9 many, 10 k, 11 sign, 12 said, 13 heard -/
def b1__law_form : List Sk := [
  .set (.nm 11) (.ix (.var 2) (.call 5 (.cons (.var 0) (.cons (.bin .Add (.bin .Add (.bin .Add (.var 1) (.cst (.int 30))) (.bin .Mult (.cst (.int 40)) (.var 8))) (.var 10)) (.cons (.blt .len (.cons (.var 2) .nil)) .nil))))),
  .expr (.mu .append 5 (.cons (.bin .Add (.cst (.str [45])) (.var 11)) .nil)),
  .set (.nm 7) (.bin .Add (.var 7) (.var 11))]
def b2__law_form : List Sk := [
  .set (.nm 9) (.call 5 (.cons (.var 0) (.cons (.bin .Add (.bin .Add (.var 1) (.cst (.int 1))) (.var 8)) (.cons (.ite (.or (.cmp .Eq (.var 3) (.cst (.int 1))) (.cmp .Eq (.var 3) (.cst (.int 3)))) (.cst (.int 40)) (.cst (.int 4))) .nil)))),
  .ifs (.or (.cmp .Eq (.var 3) (.cst (.int 0))) (.cmp .Eq (.var 3) (.cst (.int 2)))) [
    .set (.nm 9) (.cst (.int 0))] [],
  .for_ (.nm 10) (.range1 (.var 9)) b1__law_form [10, 11],
  .ifs (.cmp .Lt (.var 8) (.var 4)) [
    .set (.nm 12) (.ix (.var 2) (.call 5 (.cons (.var 0) (.cons (.bin .Add (.bin .Add (.var 1) (.cst (.int 10))) (.var 8)) (.cons (.blt .len (.cons (.var 2) .nil)) .nil))))),
    .set (.nm 13) (.ix (.bin .Add (.var 2) (.cst (.str [45]))) (.call 5 (.cons (.var 0) (.cons (.bin .Add (.bin .Add (.var 1) (.cst (.int 19))) (.var 8)) (.cons (.bin .Add (.blt .len (.cons (.var 2) .nil)) (.cst (.int 1))) .nil))))),
    .ifs (.cmp .Eq (.var 3) (.cst (.int 0))) [
    .set (.nm 13) (.cst (.str [45]))] [],
    .expr (.mu .append 5 (.cons (.bin .Add (.var 12) (.var 13)) .nil)),
    .set (.nm 6) (.bin .Add (.var 6) (.var 12)),
    .ifs (.cmp .NotEq (.var 13) (.cst (.str [45]))) [
    .set (.nm 7) (.bin .Add (.var 7) (.var 13))] []] []]
def f__law_form : FnD := ⟨4, 14, [
  .set (.nm 4) (.ite (.or (.cmp .Eq (.var 3) (.cst (.int 1))) (.cmp .Eq (.var 3) (.cst (.int 2)))) (.cst (.int 0)) (.call 5 (.cons (.var 0) (.cons (.var 1) (.cons (.cst (.int 9)) .nil))))),
  .set (.nm 5) (.lst .nil),
  .set (.nm 6) (.cst (.str [])),
  .set (.nm 7) (.cst (.str [])),
  .for_ (.nm 8) (.range1 (.bin .Add (.var 4) (.cst (.int 1)))) b2__law_form [8, 9, 10, 11, 12, 13],
  .ret (.tup (.cons (.bm .join (.cst (.str [32])) (.cons (.var 5) .nil)) (.cons (.var 6) (.cons (.var 7) .nil))))]⟩
/-- _law_pick(draws, k, many): 0 draws, 1 k, 2 many -/
def f__law_pick : FnD := ⟨3, 3, [
  .ret (.bin .Mod (.blt .int (.cons (.ix (.var 0) (.var 1)) .nil)) (.var 2))]⟩
/-- _law_signs(draws, at, count): 0 draws, 1 at, 2 count, 3 left, 4 taken, 5 k -/
def f__law_signs : FnD := ⟨3, 6, [
  .set (.nm 3) (.blt .list (.cons (.cst (.str [97, 98, 99, 100, 101, 102, 103, 104, 105, 106, 107, 108, 109, 110, 111, 112, 113, 114, 115, 116, 117, 118, 119, 120, 121, 122])) .nil)),
  .set (.nm 4) (.lc (.nm 5) (.range1 (.var 2)) .none (.mu .popAt 3 (.cons (.call 5 (.cons (.var 0) (.cons (.bin .Add (.var 1) (.var 5)) (.cons (.blt .len (.cons (.var 3) .nil)) .nil)))) .nil)) [5]),
  .ret (.bm .join (.cst (.str [])) (.cons (.blt .sorted (.cons (.var 4) .nil)) .nil))]⟩
/-- _law_draws(script, many): 0 script, 1 many, 2 told, 3 cell, 4 rest, 5 k, 6 seed -/
def b1__law_draws : List Sk := [
  .ifs (.cmp .Lt (.blt .len (.cons (.var 2) .nil)) (.var 1)) [
    .expr (.mu .append 2 (.cons (.call 14 (.cons (.var 6) (.cons (.var 5) .nil))) .nil))] []]
def b2__law_draws : List Sk := [
  .set (.nm 6) (.bin .Mod (.blt .int (.cons (.bin .Add (.bin .Mult (.var 6) (.cst (.int 31))) (.blt .abs (.cons (.var 3) .nil))) .nil)) (.cst (.int 1000003)))]
def b3__law_draws : List Sk := [
  .ifs (.and (.cmp .Gt (.var 4) (.cst (.int 0))) (.cmp .Lt (.blt .len (.cons (.var 2) .nil)) (.var 1))) [
    .expr (.mu .append 2 (.cons (.bin .Mod (.blt .int (.cons (.var 4) .nil)) (.cst (.int 997))) .nil)),
    .set (.nm 4) (.bin .FloorDiv (.var 4) (.cst (.int 997)))] []]
def b4__law_draws : List Sk := [
  .set (.nm 4) (.blt .abs (.cons (.var 3) .nil)),
  .ifs (.cmp .GtE (.var 4) (.bin .Pow (.cst (.int 10)) (.cst (.int 18)))) [
    .for_ (.nm 5) (.range1 (.cst (.int 60))) b3__law_draws [5]] []]
def f__law_draws : FnD := ⟨2, 7, [
  .set (.nm 2) (.lst .nil),
  .for_ (.nm 3) (.val (.var 0)) b4__law_draws [3, 4, 5],
  .set (.nm 6) (.cst (.int 5)),
  .for_ (.nm 3) (.val (.var 0)) b2__law_draws [3],
  .for_ (.nm 5) (.range1 (.var 1)) b1__law_draws [5],
  .ret (.var 2)]⟩
/-- steps_of(form): 0 form -/
def f_steps_of : FnD := ⟨1, 1, [
  .ifs (.cmp .Eq (.var 0) (.cst (.str []))) [
    .ret (.tup .nil)] [],
  .ret (.blt .tuple (.cons (.bm .split (.var 0) (.cons (.cst (.str [32])) .nil)) .nil))]⟩
/-- _law_mix(cell, k): 0 cell, 1 k, 2 once, 3 twice, 4 third -/
def f__law_mix : FnD := ⟨2, 5, [
  .set (.nm 2) (.bin .Mod (.blt .int (.cons (.bin .Add (.bin .Add (.bin .Mult (.var 0) (.cst (.int 48271))) (.bin .Mult (.var 1) (.cst (.int 69621)))) (.cst (.int 11))) .nil)) (.cst (.int 2147483647))),
  .set (.nm 3) (.bin .Mod (.blt .int (.cons (.bin .Add (.bin .Add (.bin .Mult (.var 2) (.var 2)) (.bin .Mult (.var 1) (.cst (.int 16807)))) (.cst (.int 7))) .nil)) (.cst (.int 2147483629))),
  .set (.nm 4) (.bin .Mod (.blt .int (.cons (.bin .Add (.bin .Add (.bin .Mult (.var 3) (.var 3)) (.bin .Mult (.var 2) (.cst (.int 31)))) (.cst (.int 3))) .nil)) (.cst (.int 2147483587))),
  .ret (.bin .FloorDiv (.var 4) (.cst (.int 64)))]⟩
def chk : Chk := { N := [], fnN := ["law", "_law_same", "output_of", "word_of", "_law_due", "_law_pick", "all_steps", "_law_form", "_law_draws", "_law_signs", "steps_of", "law", "law", "law", "_law_mix"], clN := [], glN := ["NOTHING"], atN := [] }
def flds : Nat → List Str
  | _ => []
def prg : Prg where
  fn := fun f => match f with
    | 0 => some f_law
    | 1 => some f__law_same
    | 2 => some f_output_of
    | 3 => some f_word_of
    | 4 => some f__law_due
    | 5 => some f__law_pick
    | 6 => some f_all_steps
    | 7 => some f__law_form
    | 8 => some f__law_draws
    | 9 => some f__law_signs
    | 10 => some f_steps_of
    | 11 => some f_law
    | 12 => some f_law
    | 13 => some f_law
    | 14 => some f__law_mix
    | _ => none
  ini := fun f => match f with
    | _ => none
  gv := fun g => match g with
    | 0 => .str [45]
    | _ => .non
  fx := fun c n => match c, n with
    | _, _ => none
end Lw
namespace Lw
open PySem PySem.Spec PyProof.Rows L2 Mp
abbrev sf_law : Stmt := top 14
theorem scf_law : FnScope ["script", "draws", "signs", "others", "first", "second", "alphabet", "form"] ["script"] (defScope sf_law) := ⟨rfl, rfl, rfl, by decide +kernel, rfl, by decide +kernel, by decide +kernel⟩
theorem okf_law : okSs { chk with N := ["script", "draws", "signs", "others", "first", "second", "alphabet", "form"], self := false } (defScope sf_law) f_law.body (defBody sf_law) = true := by decide +kernel
abbrev sf__law_same : Stmt := top 10
theorem scf__law_same : FnScope ["actual", "due", "k"] ["actual", "due"] (defScope sf__law_same) := ⟨rfl, rfl, rfl, by decide +kernel, rfl, by decide +kernel, by decide +kernel⟩
theorem okf__law_same : okSs { chk with N := ["actual", "due", "k"], self := false } (defScope sf__law_same) f__law_same.body (defBody sf__law_same) = true := by decide +kernel
abbrev sf_output_of : Stmt := top 5
theorem scf_output_of : FnScope ["form", "step"] ["form"] (defScope sf_output_of) := ⟨rfl, rfl, rfl, by decide +kernel, rfl, by decide +kernel, by decide +kernel⟩
theorem okf_output_of : okSs { chk with N := ["form", "step"], self := false } (defScope sf_output_of) f_output_of.body (defBody sf_output_of) = true := by decide +kernel
abbrev sf_word_of : Stmt := top 4
theorem scf_word_of : FnScope ["form", "step"] ["form"] (defScope sf_word_of) := ⟨rfl, rfl, rfl, by decide +kernel, rfl, by decide +kernel, by decide +kernel⟩
theorem okf_word_of : okSs { chk with N := ["form", "step"], self := false } (defScope sf_word_of) f_word_of.body (defBody sf_word_of) = true := by decide +kernel
abbrev sf__law_due : Stmt := top 12
theorem scf__law_due : FnScope ["signs", "told", "sign", "other"] ["signs"] (defScope sf__law_due) := ⟨rfl, rfl, rfl, by decide +kernel, rfl, by decide +kernel, by decide +kernel⟩
theorem okf__law_due : okSs { chk with N := ["signs", "told", "sign", "other"], self := false } (defScope sf__law_due) f__law_due.body (defBody sf__law_due) = true := by decide +kernel
abbrev sf_all_steps : Stmt := top 2
theorem scf_all_steps : FnScope ["signs", "parts", "first", "second"] ["signs"] (defScope sf_all_steps) := ⟨rfl, rfl, rfl, by decide +kernel, rfl, by decide +kernel, by decide +kernel⟩
theorem okf_all_steps : okSs { chk with N := ["signs", "parts", "first", "second"], self := false } (defScope sf_all_steps) f_all_steps.body (defBody sf_all_steps) = true := by decide +kernel
abbrev sf__law_form : Stmt := top 13
theorem scf__law_form : FnScope ["draws", "at", "signs", "kind", "count", "parts", "word", "output", "place", "many", "k", "sign", "said", "heard"] ["draws", "at", "signs", "kind"] (defScope sf__law_form) := ⟨rfl, rfl, rfl, by decide +kernel, rfl, by decide +kernel, by decide +kernel⟩
theorem okf__law_form : okSs { chk with N := ["draws", "at", "signs", "kind", "count", "parts", "word", "output", "place", "many", "k", "sign", "said", "heard"], self := false } (defScope sf__law_form) f__law_form.body (defBody sf__law_form) = true := by decide +kernel
abbrev sf__law_pick : Stmt := top 9
theorem scf__law_pick : FnScope ["draws", "k", "many"] ["draws", "k", "many"] (defScope sf__law_pick) := ⟨rfl, rfl, rfl, by decide +kernel, rfl, by decide +kernel, by decide +kernel⟩
theorem okf__law_pick : okSs { chk with N := ["draws", "k", "many"], self := false } (defScope sf__law_pick) f__law_pick.body (defBody sf__law_pick) = true := by decide +kernel
abbrev sf__law_signs : Stmt := top 11
theorem scf__law_signs : FnScope ["draws", "at", "count", "left", "taken", "k"] ["draws", "at", "count"] (defScope sf__law_signs) := ⟨rfl, rfl, rfl, by decide +kernel, rfl, by decide +kernel, by decide +kernel⟩
theorem okf__law_signs : okSs { chk with N := ["draws", "at", "count", "left", "taken", "k"], self := false } (defScope sf__law_signs) f__law_signs.body (defBody sf__law_signs) = true := by decide +kernel
abbrev sf__law_draws : Stmt := top 8
theorem scf__law_draws : FnScope ["script", "many", "told", "cell", "rest", "k", "seed"] ["script", "many"] (defScope sf__law_draws) := ⟨rfl, rfl, rfl, by decide +kernel, rfl, by decide +kernel, by decide +kernel⟩
theorem okf__law_draws : okSs { chk with N := ["script", "many", "told", "cell", "rest", "k", "seed"], self := false } (defScope sf__law_draws) f__law_draws.body (defBody sf__law_draws) = true := by decide +kernel
abbrev sf_steps_of : Stmt := top 3
theorem scf_steps_of : FnScope ["form"] ["form"] (defScope sf_steps_of) := ⟨rfl, rfl, rfl, by decide +kernel, rfl, by decide +kernel, by decide +kernel⟩
theorem okf_steps_of : okSs { chk with N := ["form"], self := false } (defScope sf_steps_of) f_steps_of.body (defBody sf_steps_of) = true := by decide +kernel
abbrev sf__law_mix : Stmt := top 7
theorem scf__law_mix : FnScope ["cell", "k", "once", "twice", "third"] ["cell", "k"] (defScope sf__law_mix) := ⟨rfl, rfl, rfl, by decide +kernel, rfl, by decide +kernel, by decide +kernel⟩
theorem okf__law_mix : okSs { chk with N := ["cell", "k", "once", "twice", "third"], self := false } (defScope sf__law_mix) f__law_mix.body (defBody sf__law_mix) = true := by decide +kernel
end Lw
set_option Elab.async false
set_option linter.all false
set_option maxRecDepth 100000
set_option maxHeartbeats 1000000
namespace Lw
open PySem PySem.Spec PyProof.Rows L2 Mp
theorem atI_nat {α : Type} {xs : List α} {i : Nat} {a : α} (h : xs[i]? = some a) : atI xs (i : Int) = some a := by
  have hl := (List.getElem?_eq_some_iff.mp h).1
  unfold atI ixN
  rw [if_pos (Int.natCast_nonneg i), if_pos (by omega)]
  simpa using h
theorem small {n : Nat} (h : n ≤ 1000000) : n ≤ LINE := Nat.le_trans h (Nat.le_of_ble_eq_true rfl)
theorem eqB_str (a b : List Nat) : eqB (.str a) (.str b) = decide (a = b) := by
  simp [eqB]
theorem joinL_one (f : Nat → Nat) : ∀ l : List Nat, TL.joinL [] (l.map fun c => [f c]) = l.map f
  | [] => rfl
  | [c] => rfl
  | c :: d :: r => by
    have := joinL_one f (d :: r)
    simp only [List.map_cons] at this ⊢
    simp only [TL.joinL, this, List.nil_append, List.cons_append]
theorem bm_join {a : List Nat} {ls : List (List Nat)} {xs : List PV} (e : xs = ls.map .str) (h : joinOk a ls = true) : bmF .join (.str a) [.lst xs] = some (.fz (.str (TL.joinL a ls))) := by
  subst e
  simp [bmF, h]
theorem joinOk_one (f : Nat → Nat) {l : List Nat} (h : l.length ≤ 1000) : joinOk [] (l.map fun c => [f c]) = true := by
  unfold joinOk
  have : ((l.map fun c => [f c]).map List.length).sum = l.length := by
    clear h
    induction l with
    | nil => rfl
    | cons c r ih => simp at ih ⊢; omega
  rw [this, List.length_nil, Nat.mul_zero, Nat.add_zero]
  exact decide_eq_true (small (by omega))
/-- draws[k] % many -/
theorem pick_ok {k : Nat} {ds : List Int} {i : Nat} {m : Int} (hi : i < ds.length) (hm : 0 < m) : callF prg (k + 1) 5 [.lst (ds.map .int), .int i, .int m] = .ret (.fz (.int (ds[i] % m))) := by
  rw [call_fn (d := f__law_pick) rfl rfl]
  have e : atI (ds.map PV.int) (i : Int) = some (.int ds[i]) := atI_nat (by simp [hi])
  simp [f__law_pick, frame, ixF, e, bltF, binF, hm]
theorem mulOk_r {i j : Int} (h1 : -18446744073709551616 < j) (h2 : j < 18446744073709551616) : mulOk i j = true := by
  unfold mulOk
  rw [decide_eq_true (by omega : j.natAbs < 18446744073709551616), Bool.or_true]
theorem mix_ok {k : Nat} (s j : Int) : ∃ v, callF prg (k + 1) 14 [.int s, .int j] = .ret (.fz (.int v)) := by
  rw [call_fn (d := f__law_mix) rfl rfl]
  have m1 : mulOk s 48271 = true := mulOk_r (by decide) (by decide)
  have m2 : mulOk j 69621 = true := mulOk_r (by decide) (by decide)
  have m4 : mulOk j 16807 = true := mulOk_r (by decide) (by decide)
  obtain ⟨o, ho⟩ : ∃ o, (s * 48271 + j * 69621 + 11) % 2147483647 = o := ⟨_, rfl⟩
  have h1 : 0 ≤ o := by rw [← ho]; exact Int.emod_nonneg _ (by decide)
  have h2 : o < 2147483647 := by rw [← ho]; exact Int.emod_lt_of_pos _ (by decide)
  have m3 : mulOk o o = true := mulOk_r (by omega) (by omega)
  obtain ⟨t, ht⟩ : ∃ t, (o * o + j * 16807 + 7) % 2147483629 = t := ⟨_, rfl⟩
  have h3 : 0 ≤ t := by rw [← ht]; exact Int.emod_nonneg _ (by decide)
  have h4 : t < 2147483629 := by rw [← ht]; exact Int.emod_lt_of_pos _ (by decide)
  have m5 : mulOk t t = true := mulOk_r (by omega) (by omega)
  have m6 : mulOk o 31 = true := mulOk_r (by decide) (by decide)
  exact ⟨_, by simp [f__law_mix, frame, bltF, binF, m1, m2, ho, m3, m4, ht, m5, m6]; rfl⟩
theorem muF_app {xs : List PV} {p : PV} (h : xs.length < LINE) : muF .append xs [p] = some (xs ++ [p], .non) := by
  show (if decide (xs.length < LINE) = true then some (xs ++ [p], PV.non) else none) = _
  rw [decide_eq_true h]
  rfl
theorem b3_draws (C : Cal) {N : Nat} (hN : N ≤ 10000) (a : PV) (ds : List Int) (c x z : Slot) (r : Int) (hd : ds.length ≤ N) : ∃ (ds' : List Int) (r' : Int), ds'.length ≤ N ∧
    exSs C b3__law_draws [.fz a, .fz (.int (N : Int)), .ow (.lst (ds.map .int)), c, .fz (.int r), x, z] = .nx [.fz a, .fz (.int (N : Int)), .ow (.lst (ds'.map .int)), c, .fz (.int r'), x, z] := by
  have hz : (ds.map PV.int).length < LINE := Nat.lt_of_lt_of_le (by rw [List.length_map]; omega : (ds.map PV.int).length < 20000) (Nat.le_of_ble_eq_true rfl)
  by_cases h1 : 0 < r
  · by_cases h2 : ds.length < N
    · refine ⟨ds ++ [r % 997], r / 997, by simp; omega, ?_⟩
      have h2' : (ds.length : Int) < (N : Int) := by omega
      simp [b3__law_draws, bltF, binF, cmpF, h1, h2, h2', muF_app hz]
    · have h2' : ¬ (ds.length : Int) < (N : Int) := by omega
      exact ⟨ds, r, hd, by simp [b3__law_draws, bltF, binF, cmpF, h1, h2, h2']⟩
  · exact ⟨ds, r, hd, by simp [b3__law_draws, bltF, binF, cmpF, h1]⟩
theorem in_draws (C : Cal) {N : Nat} (hN : N ≤ 10000) (a z : PV) (ds : List Int) (c k : Slot) (r : Int) (xs : List PV) (hd : ds.length ≤ N) : ∃ (ds' : List Int) (r' : Int), ds'.length ≤ N ∧
    forLoop (bindT (.nm 5)) (exSs C b3__law_draws) [5] xs [.fz a, .fz (.int (N : Int)), .ow (.lst (ds.map .int)), c, .fz (.int r), .no, k] = .nx [.fz a, .fz (.int (N : Int)), .ow (.lst (ds'.map .int)), c, .fz (.int r'), .no, k] := by
  obtain ⟨⟨ds', r'⟩, h1, h2⟩ := for_ix (B := bindT (.nm 5)) (body := exSs C b3__law_draws) (kill := [5]) (fun b : List Int × Int => [.fz a, .fz (.int (N : Int)), .ow (.lst (b.1.map .int)), c, .fz (.int b.2), .no, k]) (fun _ b => b.1.length ≤ N) xs 0 (ds, r) hd fun i b x hx hb => by
    obtain ⟨ds', r', h1, h2⟩ := b3_draws C hN a b.1 c (.fz x) k b.2 hb
    exact ⟨(ds', r'), h1, _, rfl, _, .inl h2, rfl⟩
  exact ⟨ds', r', h1, h2⟩
theorem b4_draws (C : Cal) {N : Nat} (hN : N ≤ 10000) (a : PV) (ds : List Int) (k : Slot) (v : Int) (hd : ds.length ≤ N) : ∃ (ds' : List Int) (r : Slot), ds'.length ≤ N ∧
    exSs C b4__law_draws [.fz a, .fz (.int (N : Int)), .ow (.lst (ds.map .int)), .fz (.int v), .no, .no, k] = .nx [.fz a, .fz (.int (N : Int)), .ow (.lst (ds'.map .int)), .fz (.int v), r, .no, k] := by
  have hp : powOk 10 18 = true := by decide
  obtain ⟨r, hr⟩ : ∃ r, (if v < 0 then -v else v) = r := ⟨_, rfl⟩
  by_cases h : (1000000000000000000 : Int) ≤ r
  · obtain ⟨ds', r', h1, h2⟩ := in_draws C hN a .non ds (.fz (.int v)) k r (rangeP 0 60) hd
    have hI : ∀ ρ, evI C (.range1 (.cst (.int 60))) ρ = .ok (rangeP 0 60) ρ := fun ρ => range1_of rfl (by decide)
    refine ⟨ds', .fz (.int r'), h1, ?_⟩
    simp [b4__law_draws, bltF, binF, cmpF, hp, hr, h, hI, h2]
  · refine ⟨ds, .fz (.int r), hd, ?_⟩
    simp [b4__law_draws, bltF, binF, cmpF, hp, hr, h]
theorem b2_draws (C : Cal) {N : Nat} (hN : N ≤ 10000) (a : PV) (m t : Slot) (u w : Slot) (s v : Int) (h0 : 0 ≤ s) (h1 : s < 1000003) : ∃ s' : Int, 0 ≤ s' ∧ s' < 1000003 ∧
    exSs C b2__law_draws [.fz a, m, t, .fz (.int v), u, w, .fz (.int s)] = .nx [.fz a, m, t, .fz (.int v), u, w, .fz (.int s')] := by
  have hm : mulOk s 31 = true := mulOk_r (by decide) (by decide)
  exact ⟨_, Int.emod_nonneg _ (by decide), Int.emod_lt_of_pos _ (by decide), by simp [b2__law_draws, bltF, binF, hm]; rfl⟩
theorem b1_draws {k : Nat} {N : Nat} (hN : N ≤ 10000) (a : PV) (ds : List Int) (c u : Slot) (s j : Int) (n : Nat) (hn : n ≤ ds.length) (hd : ds.length ≤ N) : ∃ ds' : List Int, ds'.length ≤ N ∧ (n + 1 ≤ ds'.length ∨ ds'.length = N) ∧
    exSs (prg.cal (k + 1)) b1__law_draws [.fz a, .fz (.int (N : Int)), .ow (.lst (ds.map .int)), c, u, .fz (.int j), .fz (.int s)] = .nx [.fz a, .fz (.int (N : Int)), .ow (.lst (ds'.map .int)), c, u, .fz (.int j), .fz (.int s)] := by
  have hz : (ds.map PV.int).length < LINE := Nat.lt_of_lt_of_le (by rw [List.length_map]; omega : (ds.map PV.int).length < 20000) (Nat.le_of_ble_eq_true rfl)
  obtain ⟨v, hv⟩ := mix_ok (k := k) s j
  by_cases h2 : ds.length < N
  · have h2' : (ds.length : Int) < (N : Int) := by omega
    exact ⟨ds ++ [v], by simp; omega, .inl (by simp; omega), by simp [b1__law_draws, bltF, cmpF, h2, h2', hv, muF_app hz]⟩
  · have h2' : ¬ (ds.length : Int) < (N : Int) := by omega
    exact ⟨ds, hd, .inr (by omega), by simp [b1__law_draws, bltF, cmpF, h2, h2']⟩
theorem f_draws (C : Cal) {N : Nat} (ns : List Int) (xs : List PV) (d1 d2 : List PV) (s : Int) (hI : evI C (.range1 (.var 1)) [.fz (.scr ns), .fz (.int (N : Int)), .ow (.lst d1), .no, .no, .no, .fz (.int s)] = .ok xs [.fz (.scr ns), .fz (.int (N : Int)), .ow (.lst d1), .no, .no, .no, .fz (.int s)])
    (h1 : forLoop (bindT (.nm 3)) (exSs C b4__law_draws) [3, 4, 5] (ns.map .int) [.fz (.scr ns), .fz (.int (N : Int)), .ow (.lst []), .no, .no, .no, .no] = .nx [.fz (.scr ns), .fz (.int (N : Int)), .ow (.lst d1), .no, .no, .no, .no])
    (h2 : forLoop (bindT (.nm 3)) (exSs C b2__law_draws) [3] (ns.map .int) [.fz (.scr ns), .fz (.int (N : Int)), .ow (.lst d1), .no, .no, .no, .fz (.int 5)] = .nx [.fz (.scr ns), .fz (.int (N : Int)), .ow (.lst d1), .no, .no, .no, .fz (.int s)])
    (h3 : forLoop (bindT (.nm 5)) (exSs C b1__law_draws) [5] xs [.fz (.scr ns), .fz (.int (N : Int)), .ow (.lst d1), .no, .no, .no, .fz (.int s)] = .nx [.fz (.scr ns), .fz (.int (N : Int)), .ow (.lst d2), .no, .no, .no, .fz (.int s)]) :
    outF (exSs C f__law_draws.body [.fz (.scr ns), .fz (.int (N : Int)), .no, .no, .no, .no, .no]) = .ret (.ow (.lst d2)) := by
  unfold f__law_draws
  simp [hI, h1, h2, h3, itemsC]
theorem draws_ok {k : Nat} {N : Nat} (hN : N ≤ 10000) (ns : List Int) : ∃ ds : List Int, ds.length = N ∧ callF prg (k + 2) 8 [.scr ns, .int (N : Int)] = .ret (.ow (.lst (ds.map .int))) := by
  rw [call_fn (d := f__law_draws) rfl rfl]
  obtain ⟨d1, q1, h1⟩ := for_ix (B := bindT (.nm 3)) (body := exSs (prg.cal (k + 1)) b4__law_draws) (kill := [3, 4, 5]) (fun b : List Int => [.fz (.scr ns), .fz (.int (N : Int)), .ow (.lst (b.map .int)), .no, .no, .no, .no]) (fun _ b => b.length ≤ N) (ns.map .int) 0 [] (by simp) fun i b x hx hb => by
    rw [List.getElem?_map, Option.map_eq_some_iff] at hx
    obtain ⟨v, _, rfl⟩ := hx
    obtain ⟨ds', r, w1, w2⟩ := b4_draws (prg.cal (k + 1)) hN (.scr ns) b .no v hb
    exact ⟨ds', w1, _, rfl, _, .inl w2, rfl⟩
  obtain ⟨s, ⟨q2, q3⟩, h2⟩ := for_ix (B := bindT (.nm 3)) (body := exSs (prg.cal (k + 1)) b2__law_draws) (kill := [3]) (fun s : Int => [.fz (.scr ns), .fz (.int (N : Int)), .ow (.lst (d1.map .int)), .no, .no, .no, .fz (.int s)]) (fun _ s => 0 ≤ s ∧ s < 1000003) (ns.map .int) 0 5 ⟨by decide, by decide⟩ fun i b x hx ⟨w0, w1⟩ => by
    rw [List.getElem?_map, Option.map_eq_some_iff] at hx
    obtain ⟨v, _, rfl⟩ := hx
    obtain ⟨s', w2, w3, w4⟩ := b2_draws (prg.cal (k + 1)) hN (.scr ns) (.fz (.int (N : Int))) (.ow (.lst (d1.map .int))) .no .no b v w0 w1
    exact ⟨s', ⟨w2, w3⟩, _, rfl, _, .inl w4, rfl⟩
  obtain ⟨d2, ⟨q4, q5⟩, h3⟩ := for_ix (B := bindT (.nm 5)) (body := exSs (prg.cal (k + 1)) b1__law_draws) (kill := [5]) (fun b : List Int => [.fz (.scr ns), .fz (.int (N : Int)), .ow (.lst (b.map .int)), .no, .no, .no, .fz (.int s)]) (fun i b => b.length ≤ N ∧ (i ≤ b.length ∨ b.length = N)) (rangeP 0 (N : Int)) 0 d1 ⟨q1, .inl (Nat.zero_le _)⟩ fun i b x hx ⟨w0, w1⟩ => by
    obtain ⟨wi, rfl⟩ := rangeP_get 0 (N : Int) hx
    have wi' : i < N := by omega
    obtain ⟨ds', v1, v2, v3⟩ := b1_draws (k := k) hN (.scr ns) b .no .no s (0 + (i : Int)) i (by omega) w0
    exact ⟨ds', ⟨v1, by omega⟩, _, rfl, _, .inl v3, rfl⟩
  rw [rangeP_len] at q5
  refine ⟨d2, by omega, ?_⟩
  exact f_draws (prg.cal (k + 1)) ns (rangeP 0 (N : Int)) (d1.map .int) (d2.map .int) s (range1_of rfl (rangeOk_nat (by omega) (by omega))) h1 h2 h3
abbrev chr (c : Nat) : PV := .str [c]
theorem map_erase {α β : Type} (f : α → β) : ∀ (l : List α) (i : Nat), (l.map f).eraseIdx i = (l.eraseIdx i).map f
  | [], _ => rfl
  | _ :: _, 0 => rfl
  | x :: l, i + 1 => congrArg (f x :: ·) (map_erase f l i)
theorem join_chr {l : List Nat} (hl : l.length ≤ 1000) : bmF .join (.str []) [.lst (l.map chr)] = some (.fz (.str l)) := by
  rw [bm_join (ls := l.map fun c => [c]) (by simp) (joinOk_one id hl)]
  have := joinL_one id l
  simp only [id] at this
  rw [this]
  simp
theorem ixN_nat' {n j : Nat} (hj : j < n) : ixN n (j : Int) = some j := by
  unfold ixN
  rw [if_pos (by omega), if_pos (by omega)]
  simp
section
variable {B : PV → List Slot → Option (List Slot)} {T : List Slot → R Bool} {El : List Slot → R Rv} {vs : List Nat}
theorem lc_T' {α : Type} (st : List Slot) (h : α → PV) (c : α → Bool) (g : α → PV) : ∀ (l : List α) (acc : List PV), acc.length + l.length ≤ LINE → (∀ x ∈ l, ∃ ρ1, B (h x) st = some ρ1 ∧ (c x = true → ∃ ρ2 r ρ3, T ρ1 = .ok true ρ2 ∧ El ρ2 = .ok r ρ3 ∧ r.val ρ3 = some (g x) ∧ killS vs (r.seal ρ3) = st) ∧ (c x = false → ∃ ρ2, T ρ1 = .ok false ρ2 ∧ killS vs ρ2 = st)) →
    lcLoop B T El vs (l.map h) acc st = .ok (acc ++ (l.filter c).map g) st
  | [], acc, _, _ => by simp [lcLoop]
  | x :: l, acc, hl, H => by
    obtain ⟨ρ1, e1, h1, h2⟩ := H x List.mem_cons_self
    rw [List.map_cons]
    unfold lcLoop
    cases e : c x with
    | false =>
      obtain ⟨ρ2, e2, e3⟩ := h2 e
      simp only [e1, e2, e3]
      rw [lc_T' st h c g l acc (by simp at hl; omega) fun y hy => H y (List.mem_cons_of_mem _ hy), List.filter_cons_of_neg (by simp [e])]
    | true =>
      obtain ⟨ρ2, r, ρ3, e2, e3, e4, e5⟩ := h1 e
      have hz : acc.length < LINE := by simp at hl; omega
      simp only [e1, e2, e3, e4, e5, hz, decide_true, if_true]
      rw [lc_T' st h c g l (acc ++ [g x]) (by simp at hl ⊢; omega) fun y hy => H y (List.mem_cons_of_mem _ hy), List.filter_cons_of_pos e]
      simp
/-- a comprehension over a list of one kind -/
theorem lc_T {α : Type} (st : List Slot) (h : α → PV) (c : α → Bool) (g : α → PV) (l : List α) (hl : l.length ≤ LINE) (H : ∀ x ∈ l, ∃ ρ1, B (h x) st = some ρ1 ∧ (c x = true → ∃ ρ2 r ρ3, T ρ1 = .ok true ρ2 ∧ El ρ2 = .ok r ρ3 ∧ r.val ρ3 = some (g x) ∧ killS vs (r.seal ρ3) = st) ∧ (c x = false → ∃ ρ2, T ρ1 = .ok false ρ2 ∧ killS vs ρ2 = st)) :
    lcLoop B T El vs (l.map h) [] st = .ok ((l.filter c).map g) st := by
  rw [lc_T' st h c g l [] (by simpa using hl) H, List.nil_append]
end
theorem lc_eval {C : Cal} {tg : Tg} {it : Itx} {t : Ot} {e : Ex} {vs : List Nat} {ρ ρ1 ρ2 : List Slot} {xs ps : List PV} (hI : evI C it ρ = .ok xs ρ1) (hL : lcLoop (bindT tg) (evOt C t) (evE C e) vs xs [] (killS vs ρ1) = .ok ps ρ2) : evE C (.lc tg it t e vs) ρ = .ok (.ow (.lst ps)) ρ2 := by
  rw [ev_lc, hI, R.bind_ok, hL]
  rfl
theorem rangeP_nat (m : Nat) : rangeP 0 (m : Int) = (List.range m).map fun (i : Nat) => PV.int (i : Int) := by
  unfold rangeP
  simp
theorem seq_step {C : Cal} {s : Sk} {ss : List Sk} {ρ ρ1 : List Slot} {F : Fl} (h : exS C s ρ = .nx ρ1) (h2 : exSs C ss ρ1 = F) : exSs C (s :: ss) ρ = F := by
  rw [ex_cons, h, seq_nx, h2]
theorem add_lst {a b : List PV} (h : a.length + b.length ≤ LINE) : binF .Add (.lst a) (.lst b) = some (.ow (.lst (a ++ b))) := by simp [binF, h]
theorem lst_of {C : Cal} {es : Exs} {ρ ρ1 ρ2 : List Slot} {rs : List Rv} {ps : List PV} (h : evEs C es ρ = .ok rs ρ1) (h2 : sealAll rs ρ1 = some (ps, ρ2)) (h3 : ps.length ≤ 1000) : evE C (.lst es) ρ = .ok (.ow (.lst ps)) ρ2 := by
  rw [ev_lst, h, R.bind_ok, h2]
  exact if_pos (decide_eq_true (small (by omega)))
theorem tup_of {C : Cal} {es : Exs} {ρ ρ1 ρ2 : List Slot} {rs : List Rv} {ps : List PV} (h : evEs C es ρ = .ok rs ρ1) (h2 : sealAll rs ρ1 = some (ps, ρ2)) (h3 : ps.length ≤ 1000) : evE C (.tup es) ρ = .ok (.fz (.tup ps)) ρ2 := by
  rw [ev_tup, h, R.bind_ok, h2]
  exact if_pos (decide_eq_true (small (by omega)))
theorem cf {P : Prg} {k f : Nat} {vs : List PV} {o : Out} (h : callF P k f vs = o) : (P.cal k).fn f vs = o := h
theorem cm {P : Prg} {k f : Nat} {vs : List PV} {o : Out} (h : callM P k f vs = o) : (P.cal k).mkC f vs = o := h
theorem setI_of {C : Cal} {i : Nat} {ix e : Ex} {ρ ρ1 ρ2 : List Slot} {r : Rv} {p : PV} {k : Int} {j : Nat} {xs xs' : List PV} (he : evE C e ρ = .ok r ρ1) (g1 : getS ρ1 i = .ow (.lst xs')) (hi : evE C ix ρ1 = .ok (.fz (.int k)) ρ2) (hr : r.val ρ2 = some p) (g2 : getS (r.seal ρ2) i = .ow (.lst xs)) (hk : ixN xs.length k = some j) :
    exS C (.setI i ix e) ρ = .nx (setS (r.seal ρ2) i (.ow (.lst (xs.set j p)))) := by
  simp only [ex_setI, he, Fl.ofR_ok, g1, hi, hr, g2, hk]
def natP (g : Nat) : PV := .int (g : Int)
theorem natP0 : PV.int 0 = natP 0 := congrArg PV.int (by decide : (0 : Int) = ((0 : Nat) : Int))
theorem natP1 : PV.int 1 = natP 1 := congrArg PV.int (by decide : (1 : Int) = ((1 : Nat) : Int))
theorem rangeP_natP (m : Nat) : rangeP 0 (m : Int) = (List.range m).map natP := rangeP_nat m
/-- a loop that asks each item: the first one that fails ends it -/
theorem for_all {B : PV → List Slot → Option (List Slot)} {body : List Slot → Fl} {kill : List Nat} {α : Type} (st : List Slot) (h : α → PV) (q : α → Bool) (r : Rv) : ∀ xs : List α, (∀ x ∈ xs, ∃ ρ1, B (h x) st = some ρ1 ∧ (q x = true → ∃ ρ2, (body ρ1 = .nx ρ2 ∨ body ρ1 = .ct ρ2) ∧ killS kill ρ2 = st) ∧ (q x = false → ∃ ρ', body ρ1 = .rt r ρ')) →
    (xs.all q = true → forLoop B body kill (xs.map h) st = .nx st) ∧ (xs.all q = false → ∃ ρ', forLoop B body kill (xs.map h) st = .rt r ρ')
  | [], _ => ⟨fun _ => rfl, fun e => by cases e⟩
  | x :: xs, H => by
    obtain ⟨ρ1, e1, h1, h2⟩ := H x List.mem_cons_self
    have ih := for_all st h q r xs fun y hy => H y (List.mem_cons_of_mem _ hy)
    rw [List.map_cons, List.all_cons]
    cases e : q x with
    | true =>
      obtain ⟨ρ2, e2, e3⟩ := h1 e
      have go : forLoop B body kill (h x :: xs.map h) st = forLoop B body kill (xs.map h) st := by
        conv => lhs; unfold forLoop
        rcases e2 with e2 | e2 <;> simp only [e1, e2, e3]
      rw [go, Bool.true_and]
      exact ih
    | false =>
      obtain ⟨ρ', e2⟩ := h2 e
      refine ⟨fun z => (by cases z), fun _ => ⟨ρ', ?_⟩⟩
      unfold forLoop
      simp only [e1, e2]
theorem fdiv_nat {a b : Nat} (h0 : 0 < b) (h : b ≤ 1000) : binF .FloorDiv (natP a) (natP b) = some (.fz (natP (a / b))) := by
  have e : (decide (0 < (b : Int)) && decide ((b : Int).natAbs < 1073741824)) = true := by
    rw [Bool.and_eq_true, decide_eq_true_eq, decide_eq_true_eq]
    omega
  show (if (decide (0 < (b : Int)) && decide ((b : Int).natAbs < 1073741824)) = true then some (Rv.fz (.int ((a : Int) / (b : Int)))) else none) = _
  rw [if_pos e]
  rfl
theorem cmp_nat (a : Nat) (j : Int) (b : Bool) (h : ((a : Int) == j) = b) : cmpF .Eq (natP a) (.int j) = some b := by
  rw [← h]
  rfl
theorem cmp_chr (c d : Nat) : cmpF .Eq (.str [c]) (.str [d]) = some (decide (c = d)) := by
  simp [cmpF, okD, eqB_str]
theorem add_natP (a b : Nat) : binF .Add (natP a) (natP b) = some (.fz (natP (a + b))) := by
  show some (Rv.fz (.int ((a : Int) + (b : Int)))) = some (Rv.fz (.int ((a + b : Nat) : Int)))
  rw [Int.natCast_add]
theorem sub_natP {a b : Nat} (h : b ≤ a) : binF .Sub (natP a) (natP b) = some (.fz (natP (a - b))) := by
  show some (Rv.fz (.int ((a : Int) - (b : Int)))) = some (Rv.fz (.int ((a - b : Nat) : Int)))
  rw [Int.natCast_sub h]
theorem ixF_lst {xs : List PV} {i : Nat} {p : PV} (h : xs[i]? = some p) : ixF (.lst xs) (natP i) = some p := atI_nat h
theorem app_ok {xs : List PV} {p : PV} (h : xs.length ≤ 1000) : muF .append xs [p] = some (xs ++ [p], .non) := muF_app (Nat.lt_of_lt_of_le (by omega : xs.length < 2000) (Nat.le_of_ble_eq_true rfl))
theorem mul_natP (a b : Nat) (h : a ≤ 1000) : binF .Mult (natP a) (natP b) = some (.fz (natP (a * b))) := by
  have e : mulOk (a : Int) (b : Int) = true := by
    unfold mulOk
    rw [decide_eq_true (by omega : (a : Int).natAbs < 18446744073709551616), Bool.true_or]
  show (if mulOk (a : Int) (b : Int) = true then some (Rv.fz (.int ((a : Int) * (b : Int)))) else none) = some (Rv.fz (.int ((a * b : Nat) : Int)))
  rw [if_pos e, Int.natCast_mul]
theorem gt_zero (a : Nat) : cmpF .Gt (natP a) (.int 0) = some (decide (0 < a)) := by
  show some (decide ((0 : Int) < (a : Int))) = _
  congr 1
  rw [Bool.eq_iff_iff, decide_eq_true_eq, decide_eq_true_eq]
  omega
theorem eq_natP (a b : Nat) : cmpF .Eq (natP a) (natP b) = some (decide (a = b)) := by
  refine cmp_nat a b _ ?_
  rw [Bool.eq_iff_iff, beq_iff_eq, decide_eq_true_eq]
  omega
section
variable {C : Cal} {D : PV} {m : Nat} {o : List Nat} {pk : Nat → Nat → Nat}
theorem cut_map {α β : Type} (f : α → β) (xs : List α) (lo hi : Option Int) : cut (xs.map f) lo hi = (cut xs lo hi).map f := by
  unfold cut
  rw [List.length_map, List.map_take, List.map_drop]
end
theorem natP_get {n i : Nat} {x : PV} (h : ((List.range n).map natP)[i]? = some x) : i < n ∧ x = natP i := by
  rw [List.getElem?_map, Option.map_eq_some_iff] at h
  obtain ⟨p, hp, rfl⟩ := h
  obtain ⟨hp1, hp2⟩ := List.getElem?_eq_some_iff.mp hp
  rw [List.getElem_range] at hp2
  subst hp2
  exact ⟨by simpa using hp1, rfl⟩
theorem range_natP {C : Cal} {a : Ex} {n : Nat} {ρ ρ1 : List Slot} (h : evE C a ρ = .ok (.fz (natP n)) ρ1) (hn : n ≤ 1000) : evI C (.range1 a) ρ = .ok ((List.range n).map natP) ρ1 := by
  rw [range1_of (n := (n : Int)) h (rangeOk_nat (by omega) (by omega)), rangeP_natP]
def pkD (ds : List Int) (j c : Nat) : Nat := ((ds[j]?).getD 0 % (c : Int)).toNat
theorem pick_nat {k : Nat} {ds : List Int} {j c : Nat} (hj : j < ds.length) (hc : 0 < c) : pkD ds j c < c ∧ callF prg (k + 1) 5 [.lst (ds.map .int), natP j, natP c] = .ret (.fz (natP (pkD ds j c))) := by
  have e : (ds[j]?).getD 0 = ds[j] := by rw [List.getElem?_eq_getElem hj]; rfl
  have h1 := Int.emod_nonneg ds[j] (b := (c : Int)) (by omega)
  have h2 := Int.emod_lt_of_pos ds[j] (b := (c : Int)) (by omega)
  have h3 := pick_ok (k := k) (i := j) (m := (c : Int)) hj (by omega)
  unfold pkD
  rw [e]
  refine ⟨by omega, ?_⟩
  refine Eq.trans h3 ?_
  congr 2
  show PV.int _ = PV.int (((ds[j] % (c : Int)).toNat : Nat) : Int)
  congr 1
  omega
theorem okDs_str (n : Nat) : ∀ ls : List (List Nat), okDs n (ls.map .str) = true
  | [] => by simp [okDs]
  | x :: l => by
    have := okDs_str n l
    simp [okDs, this, okD]
theorem eqBs_str : ∀ ls : List (List Nat), eqBs (ls.map .str) (ls.map .str) = true
  | [] => by simp [eqBs]
  | x :: l => by
    have := eqBs_str l
    simp [eqBs, this, eqB_str]
end Lw
set_option Elab.async false
set_option linter.all false
set_option maxRecDepth 100000
set_option maxHeartbeats 1000000
namespace Lw
open PySem PySem.Spec PyProof.Rows L2 Mp
/-! # k00 -/
section
variable {B : PV → List Slot → Option (List Slot)} {T : List Slot → R Bool} {El : List Slot → R Rv} {vs : List Nat}
/-- a comprehension whose turns change the state -/
theorem lc_ix {α : Type} (st : α → List Slot) (Pv : Nat → α → List PV → Prop) : ∀ (xs : List PV) (n : Nat) (a : α) (acc : List PV), Pv n a acc → (∀ i a acc x, xs[i]? = some x → Pv (n + i) a acc → ∃ a' p, acc.length < LINE ∧ Pv (n + i + 1) a' (acc ++ [p]) ∧ ∃ ρ1 ρ2 r ρ3, B x (st a) = some ρ1 ∧ T ρ1 = .ok true ρ2 ∧ El ρ2 = .ok r ρ3 ∧ r.val ρ3 = some p ∧ killS vs (r.seal ρ3) = st a') →
    ∃ a' acc', Pv (n + xs.length) a' acc' ∧ lcLoop B T El vs xs acc (st a) = .ok acc' (st a')
  | [], n, a, acc, h, _ => ⟨a, acc, h, rfl⟩
  | x :: xs, n, a, acc, h, H => by
    obtain ⟨a1, p, hz, h1, ρ1, ρ2, r, ρ3, e1, e2, e3, e4, e5⟩ := H 0 a acc x rfl h
    obtain ⟨a', acc', h2, h3⟩ := lc_ix st Pv xs (n + 1) a1 (acc ++ [p]) h1 fun i b bcc y hy hb => by
      have := H (i + 1) b bcc y (by simpa using hy) (by rw [Nat.add_right_comm] at hb; exact hb)
      rw [Nat.add_right_comm n 1 i]
      exact this
    refine ⟨a', acc', by rw [List.length_cons, ← Nat.add_assoc, Nat.add_right_comm]; exact h2, ?_⟩
    unfold lcLoop
    simp only [e1, e2, e3, e4, e5, hz, decide_true, if_true]
    exact h3
/-- a comprehension of two walks: the state stays -/
theorem lc2_T {α : Type} {inner : List PV → List Slot → R (List PV)} (st : List Slot) (h : α → PV) (g : α → List PV) : ∀ (l : List α) (acc : List PV), (∀ x ∈ l, ∃ ρ1, B (h x) st = some ρ1 ∧ T ρ1 = .ok true ρ1 ∧ ∀ bcc, bcc.length ≤ acc.length + (l.map fun x => (g x).length).sum → ∃ ρ3, inner bcc ρ1 = .ok (bcc ++ g x) ρ3 ∧ killS vs ρ3 = st) →
    lcOut B T inner vs (l.map h) acc st = .ok (acc ++ l.flatMap g) st
  | [], acc, _ => by simp [lcOut]
  | x :: l, acc, H => by
    obtain ⟨ρ1, e1, e2, e3⟩ := H x List.mem_cons_self
    obtain ⟨ρ3, e3, e4⟩ := e3 acc (by omega)
    rw [List.map_cons]
    unfold lcOut
    simp only [e1, e2, e3, e4]
    rw [lc2_T st h g l (acc ++ g x) fun y hy => by
      obtain ⟨ρ1, f1, f2, f3⟩ := H y (List.mem_cons_of_mem _ hy)
      refine ⟨ρ1, f1, f2, fun bcc hb => f3 bcc ?_⟩
      rw [List.length_append] at hb
      rw [List.map_cons, List.sum_cons]
      omega]
    rw [List.flatMap_cons, List.append_assoc]
end
/-! ## sorted letters -/
def one (c : Nat) : List Nat := [c]
theorem one_le {a b : Nat} (h : [a] ≤ [b]) : a ≤ b := by
  apply Classical.byContradiction
  intro q
  have : [b] < [a] := List.Lex.rel (by omega)
  exact h this
theorem sort_ones (tk : List Nat) (hn : tk.Nodup) : ∃ u : List Nat, u.Perm tk ∧ u.Pairwise (· < ·) ∧ sortS (tk.map one) = u.map one := by
  have p := sortS_perm (tk.map one)
  have hs : ∀ x ∈ sortS (tk.map one), one (x.headD 0) = x := fun x hx => by
    obtain ⟨c, _, rfl⟩ := List.mem_map.mp (p.mem_iff.mp hx)
    rfl
  refine ⟨(sortS (tk.map one)).map (·.headD 0), ?_, ?_, ?_⟩
  · have := p.map (·.headD 0)
    rw [List.map_map] at this
    refine this.trans (List.Perm.of_eq ?_)
    conv => rhs; rw [← List.map_id tk]
    exact List.map_congr_left fun _ _ => rfl
  · have e : ((sortS (tk.map one)).map (·.headD 0)).map one = sortS (tk.map one) := by
      rw [List.map_map]
      conv => rhs; rw [← List.map_id (sortS (tk.map one))]
      exact List.map_congr_left fun x hx => hs x hx
    have pw := sortS_pw (tk.map one)
    rw [← e, List.pairwise_map] at pw
    have nd : ((sortS (tk.map one)).map (·.headD 0)).Nodup := by
      have q := p.map (·.headD 0)
      rw [List.map_map] at q
      have : tk.map ((·.headD 0) ∘ one) = tk := by
        conv => rhs; rw [← List.map_id tk]
        exact List.map_congr_left fun _ _ => rfl
      rw [this] at q
      exact q.nodup_iff.mpr hn
    refine (pw.and nd).imp fun {a b} h => ?_
    have := one_le h.1
    have := h.2
    omega
  · rw [List.map_map]
    conv => lhs; rw [← List.map_id (sortS (tk.map one))]
    exact List.map_congr_left fun x hx => (hs x hx).symm
abbrev ALPH : List Nat := [97, 98, 99, 100, 101, 102, 103, 104, 105, 106, 107, 108, 109, 110, 111, 112, 113, 114, 115, 116, 117, 118, 119, 120, 121, 122]
theorem alph_range : ∀ c ∈ ALPH, 97 ≤ c ∧ c ≤ 122 := by decide
theorem alph_nodup : ALPH.Nodup := by decide
structure Sg (u : List Nat) : Prop where
  pw : u.Pairwise (· < ·)
  lo : ∀ c ∈ u, 97 ≤ c
  hi : ∀ c ∈ u, c ≤ 122
  len : u.length ≤ 4
  pos : 0 < u.length
def PickOk (C : Cal) (D : PV) (pk : Nat → Nat → Nat) : Prop := ∀ j < 800, ∀ c, 0 < c → pk j c < c ∧ C.fn 5 [D, natP j, natP c] = .ret (.fz (natP (pk j c)))
theorem erase_perm {α : Type} : ∀ {l : List α} {i : Nat} (h : i < l.length), (l[i] :: l.eraseIdx i).Perm l
  | a :: l, 0, _ => List.Perm.refl _
  | a :: l, i + 1, h => by
    have := erase_perm (l := l) (i := i) (by simpa using h)
    exact (List.Perm.swap _ _ _).trans (this.cons a)
theorem pop_nat {ls : List Nat} {j : Nat} (hj : j < ls.length) (hl : ls.length ≤ 100) : muF .popAt (ls.map chr) [natP j] = some ((ls.eraseIdx j).map chr, chr ls[j]) := by
  show (if decide ((j : Int).natAbs < 9223372036854775808) = true then (ixN (ls.map chr).length (j : Int)).bind fun k => ((ls.map chr)[k]?).map fun p => ((ls.map chr).eraseIdx k, p) else none) = _
  rw [if_pos (by simp only [decide_eq_true_eq]; omega), ixN_nat' (by rw [List.length_map]; exact hj), Option.bind_some, List.getElem?_map, List.getElem?_eq_getElem hj, Option.map_some, Option.map_some, map_erase]
theorem strsOf_chr (l : List Nat) : strsOf (l.map chr) = some (l.map one) := by
  have := strsOf_strs (l.map one)
  rw [List.map_map] at this
  exact this
theorem sorted_chr {tk u : List Nat} (h : tk.length < 64) (e : sortS (tk.map one) = u.map one) : bltF .sorted [.lst (tk.map chr)] = some (.ow (.lst (u.map chr))) := by
  show sortF (tk.map chr) = _
  unfold sortF
  rw [if_pos (by rw [List.length_map]; exact decide_eq_true h), strsOf_chr]
  show some (Rv.ow (.lst ((sortS (tk.map one)).map .str))) = _
  rw [e, List.map_map]
  rfl
theorem signs_ok (C : Cal) (D : PV) (pk : Nat → Nat → Nat) (P : PickOk C D pk) (at_ n : Nat) (ha : at_ ≤ 100) (h0 : 0 < n) (hn : n ≤ 4) : ∃ u, Sg u ∧ outF (exSs C f__law_signs.body [.fz D, .fz (natP at_), .fz (natP n), .no, .no, .no]) = .ret (.fz (.str u)) := by
  obtain ⟨left, acc, ⟨tk, rfl, q1, q2⟩, h⟩ := lc_ix (B := bindT (.nm 5)) (T := evOt C .none) (El := evE C (.mu .popAt 3 (.cons (.call 5 (.cons (.var 0) (.cons (.bin .Add (.var 1) (.var 5)) (.cons (.blt .len (.cons (.var 3) .nil)) .nil)))) .nil))) (vs := [5])
    (fun left : List Nat => [.fz D, .fz (natP at_), .fz (natP n), .ow (.lst (left.map chr)), .no, .no]) (fun i left acc => ∃ tk : List Nat, acc = tk.map chr ∧ tk.length = i ∧ (left ++ tk).Perm ALPH) ((List.range n).map natP) 0 ALPH [] ⟨[], rfl, rfl, by rw [List.append_nil]⟩ fun i left acc x hx ⟨tk, e, q1, q2⟩ => by
      obtain ⟨hi, rfl⟩ := natP_get hx
      subst e
      have hl := q2.length_eq
      rw [List.length_append] at hl
      have hl : left.length + tk.length = 26 := hl
      obtain ⟨u1, u2⟩ := P (at_ + i) (by omega) left.length (by omega)
      have e1 := add_natP at_ i
      have e2 : bltF .len [.lst (left.map chr)] = some (.fz (natP left.length)) := by
        show some (Rv.fz (.int (((left.map chr).length : Nat) : Int))) = _
        rw [List.length_map]
        rfl
      have e3 := pop_nat u1 (by omega)
      refine ⟨left.eraseIdx (pk (at_ + i) left.length), chr left[pk (at_ + i) left.length], Nat.lt_of_lt_of_le (by rw [List.length_map]; omega : (tk.map chr).length < 100) (Nat.le_of_ble_eq_true rfl), ⟨tk ++ [left[pk (at_ + i) left.length]], by rw [List.map_append]; rfl, by rw [List.length_append, List.length_singleton]; omega, ?_⟩, ?_⟩
      · refine List.Perm.trans ?_ q2
        have p := erase_perm u1
        refine List.Perm.trans ?_ (p.append_right tk)
        rw [← List.append_assoc]
        exact List.perm_append_singleton _ _
      · refine ⟨_, _, .fz (chr left[pk (at_ + i) left.length]), [.fz D, .fz (natP at_), .fz (natP n), .ow (.lst ((left.eraseIdx (pk (at_ + i) left.length)).map chr)), .no, .fz (natP i)], rfl, rfl, ?_, rfl, rfl⟩
        simp only [ev_mu, ev_call, ev_cons, ev_nil, ev_bin, ev_blt, ev_var, getS_zero, getS_succ, R.bind_ok, val_fz, val_br, cont_ow, seal_fz, Option.bind_some, Option.map_some, sealAll_cons, sealAll_nil, valAll_cons, valAll_nil, e1, e2, liftO_some, u2, outR_ret, e3, setS_zero, setS_succ]
  rw [List.length_map, List.length_range, Nat.zero_add] at q1
  have nd : (left ++ tk).Nodup := q2.nodup_iff.mpr alph_nodup
  have ndt : tk.Nodup := (List.nodup_append.mp nd).2.1
  obtain ⟨u, p1, p2, p3⟩ := sort_ones tk ndt
  have hr : ∀ c ∈ u, 97 ≤ c ∧ c ≤ 122 := fun c hc => alph_range c (q2.mem_iff.mp (List.mem_append_right _ (p1.mem_iff.mp hc)))
  have hul : u.length = n := by rw [p1.length_eq, q1]
  refine ⟨u, ⟨p2, fun c hc => (hr c hc).1, fun c hc => (hr c hc).2, by omega, by omega⟩, ?_⟩
  have b1 := sorted_chr (tk := tk) (u := u) (by omega) p3
  have b2 := join_chr (l := u) (by omega)
  have hL : evE C (.lc (.nm 5) (.range1 (.var 2)) .none (.mu .popAt 3 (.cons (.call 5 (.cons (.var 0) (.cons (.bin .Add (.var 1) (.var 5)) (.cons (.blt .len (.cons (.var 3) .nil)) .nil)))) .nil)) [5]) [.fz D, .fz (natP at_), .fz (natP n), .ow (.lst (ALPH.map chr)), .no, .no] = .ok (.ow (.lst (tk.map chr))) [.fz D, .fz (natP at_), .fz (natP n), .ow (.lst (left.map chr)), .no, .no] :=
    lc_eval (range_natP (n := n) rfl (by omega)) h
  have e : exSs C f__law_signs.body [.fz D, .fz (natP at_), .fz (natP n), .no, .no, .no] = .rt (.fz (.str u)) [.fz D, .fz (natP at_), .fz (natP n), .ow (.lst (left.map chr)), .ow (.lst (tk.map chr)), .no] := by
    unfold f__law_signs
    refine seq_step (ρ1 := [.fz D, .fz (natP at_), .fz (natP n), .ow (.lst (ALPH.map chr)), .no, .no]) rfl (seq_step (ρ1 := [.fz D, .fz (natP at_), .fz (natP n), .ow (.lst (left.map chr)), .ow (.lst (tk.map chr)), .no]) (by rw [ex_set, hL, Fl.ofR_ok]; rfl) ?_)
    simp only [ex_cons, ex_ret, ev_bm, ev_blt, ev_cst, ev_cons, ev_nil, ev_var, getS_zero, getS_succ, R.bind_ok, val_br, val_ow, cont_ow, Option.bind_some, Option.map_some, valAll_cons, valAll_nil, b1, liftO_some, b2, Fl.ofR_ok, seq_rt]
  rw [e]
  rfl
end Lw
set_option Elab.async false
set_option linter.all false
set_option maxRecDepth 100000
set_option maxHeartbeats 1000000
namespace Lw
open PySem PySem.Spec PyProof.Rows L2 Mp
/-! ## the steps over an alphabet -/
def stepsF (u : List Nat) : List (List Nat) := (45 :: u).flatMap fun a => ((45 :: u).filter fun b => !decide ([a, b] = [45, 45])).map fun b => [a, b]
def dueF (u : List Nat) : List (List Nat) := u.flatMap fun a => [a, 45] :: [45, a] :: u.map fun b => [a, b]
theorem perm_in (f : Nat → List Nat) (g : Nat → List Nat) (h : Nat → List (List Nat)) : ∀ l : List Nat, (l.map f ++ l.flatMap fun a => g a :: h a).Perm (l.flatMap fun a => g a :: f a :: h a)
  | [] => List.Perm.refl _
  | a :: l => by
    have ih := perm_in f g h l
    rw [List.perm_iff_count]
    intro x
    have := ih.count_eq x
    simp only [List.map_cons, List.flatMap_cons, List.count_append, List.count_cons, List.cons_append] at this ⊢
    omega
theorem steps_split {u : List Nat} (h : ∀ c ∈ u, 97 ≤ c) : stepsF u = (u.map fun b => [45, b]) ++ u.flatMap fun a => [a, 45] :: u.map fun b => [a, b] := by
  unfold stepsF
  rw [List.flatMap_cons]
  congr 1
  · congr 1
    rw [List.filter_cons_of_neg (by simp)]
    refine List.filter_eq_self.mpr fun b hb => ?_
    have := h b hb
    have : b ≠ 45 := by omega
    simp [this]
  · have e : ∀ a ∈ u, (((45 :: u).filter fun b => !decide ([a, b] = [45, 45])).map fun b => [a, b]) = [a, 45] :: u.map fun b => [a, b] := fun a ha => by
      have h1 := h a ha
      have : a ≠ 45 := by omega
      rw [List.filter_eq_self.mpr fun b _ => by simp [this]]
      rfl
    have key : ∀ l : List Nat, (∀ a ∈ l, a ∈ u) → (l.flatMap fun a => ((45 :: u).filter fun b => !decide ([a, b] = [45, 45])).map fun b => [a, b]) = l.flatMap fun a => [a, 45] :: u.map fun b => [a, b] := fun l => by
      induction l with
      | nil => intro _; rfl
      | cons x r ih =>
        intro hr
        rw [List.flatMap_cons, List.flatMap_cons, e x (hr x List.mem_cons_self), ih fun a ha => hr a (List.mem_cons_of_mem _ ha)]
    exact key u fun _ h => h
theorem pair_le {a b c d : Nat} (h : a < c ∨ (a = c ∧ b < d)) : [a, b] ≤ [c, d] := by
  refine List.le_of_lt ?_
  rcases h with h | ⟨rfl, h⟩
  · exact List.Lex.rel h
  · exact List.Lex.cons (List.Lex.rel h)
theorem steps_pw {u : List Nat} (S : Sg u) : (stepsF u).Pairwise (· ≤ ·) := by
  have hp : (45 :: u).Pairwise (· < ·) := List.pairwise_cons.mpr ⟨fun c hc => by have := S.lo c hc; omega, S.pw⟩
  unfold stepsF
  rw [List.pairwise_flatMap]
  refine ⟨fun a _ => ?_, hp.imp fun {a c} hac x hx y hy => ?_⟩
  · rw [List.pairwise_map]
    exact (hp.filter _).imp fun {b d} h => pair_le (.inr ⟨rfl, h⟩)
  · obtain ⟨b, _, rfl⟩ := List.mem_map.mp hx
    obtain ⟨d, _, rfl⟩ := List.mem_map.mp hy
    exact pair_le (.inl hac)
theorem due_sorted {u : List Nat} (S : Sg u) : sortS (dueF u) = stepsF u := by
  refine (sortS_uniq ?_ (steps_pw S)).symm
  rw [steps_split S.lo]
  exact perm_in (fun b => [45, b]) (fun a => [a, 45]) (fun a => u.map fun b => [a, b]) u
theorem flat_len {u : List Nat} (f : Nat → List (List Nat)) (k : Nat) : ∀ l : List Nat, (∀ a ∈ l, (f a).length = k) → (l.flatMap f).length = l.length * k
  | [], _ => by simp
  | a :: l, h => by
    rw [List.flatMap_cons, List.length_append, h a List.mem_cons_self, flat_len (u := u) f k l fun b hb => h b (List.mem_cons_of_mem _ hb), List.length_cons, Nat.succ_mul]
    omega
theorem due_len {u : List Nat} (S : Sg u) : (dueF u).length < 64 := by
  have := flat_len (u := u) (fun a => [a, 45] :: [45, a] :: u.map fun b => [a, b]) (u.length + 2) u fun a _ => by simp
  have e : (dueF u).length = u.length * (u.length + 2) := this
  have h := S.len
  have : u.length * (u.length + 2) ≤ 4 * (u.length + 2) := Nat.mul_le_mul_right _ h
  omega
/-! ### all_steps -/
theorem add_str {a b : List Nat} (h : a.length + b.length ≤ 1000) : binF .Add (.str a) (.str b) = some (.fz (.str (a ++ b))) := by
  have : decide (a.length + b.length ≤ LINE) = true := decide_eq_true (small (by omega))
  show (if decide (a.length + b.length ≤ LINE) = true then some (Rv.fz (.str (a ++ b))) else none) = _
  rw [if_pos this]
theorem ne_str (a b : List Nat) : cmpF .NotEq (.str a) (.str b) = some (!decide (a = b)) := by
  simp [cmpF, okD, eqB_str]
theorem eq_str (a b : List Nat) : cmpF .Eq (.str a) (.str b) = some (decide (a = b)) := by
  simp [cmpF, okD, eqB_str]
theorem steps_len {u : List Nat} (S : Sg u) : (stepsF u).length < 64 := by
  rw [← due_sorted S, sortS_len]
  exact due_len S
theorem steps_ok (C : Cal) (g : C.gv 0 = .str [45]) {u : List Nat} (S : Sg u) : outF (exSs C f_all_steps.body [.fz (.str u), .no, .no, .no]) = .ret (.fz (.tup ((stepsF u).map .str))) := by
  have hS := S.len
  have a1 : binF .Add (.str [45]) (.str u) = some (.fz (.str (45 :: u))) := add_str (a := [45]) (by simp; omega)
  have hI : ∀ s2 s3, evI C (.val (.var 1)) [.fz (.str u), .fz (.str (45 :: u)), s2, s3] = .ok ((45 :: u).map chr) [.fz (.str u), .fz (.str (45 :: u)), s2, s3] := fun _ _ => rfl
  have hin : ∀ a, ∀ acc : List PV, acc.length ≤ 1000 → lcIn (evI C (.val (.var 1))) (bindT (.nm 3)) (evOt C (.some (.cmp .NotEq (.bin .Add (.var 2) (.var 3)) (.cst (.str [45, 45]))))) (evE C (.bin .Add (.var 2) (.var 3))) [3] acc [.fz (.str u), .fz (.str (45 :: u)), .fz (chr a), .no] =
      .ok (acc ++ ((45 :: u).filter fun b => !decide ([a, b] = [45, 45])).map fun b => .str [a, b]) [.fz (.str u), .fz (.str (45 :: u)), .fz (chr a), .no] := fun a acc ha => by
    unfold lcIn
    rw [hI]
    show lcLoop _ _ _ [3] ((45 :: u).map chr) acc [.fz (.str u), .fz (.str (45 :: u)), .fz (chr a), .no] = _
    refine lc_T' [.fz (.str u), .fz (.str (45 :: u)), .fz (chr a), .no] chr (fun b => !decide ([a, b] = [45, 45])) (fun b => .str [a, b]) (45 :: u) acc (small (by simp; omega)) fun b _ => ?_
    have b1 : binF .Add (chr a) (chr b) = some (.fz (.str [a, b])) := add_str (a := [a]) (b := [b]) (by simp)
    have b2 := ne_str [a, b] [45, 45]
    refine ⟨[.fz (.str u), .fz (.str (45 :: u)), .fz (chr a), .fz (chr b)], rfl, fun e => ?_, fun e => ?_⟩
    · rw [e] at b2
      exact ⟨[.fz (.str u), .fz (.str (45 :: u)), .fz (chr a), .fz (chr b)], .fz (.str [a, b]), [.fz (.str u), .fz (.str (45 :: u)), .fz (chr a), .fz (chr b)], by simp only [ev_ots, ev_tcmp, ev_bin, ev_var, ev_cst, getS_zero, getS_succ, R.bind_ok, val_fz, Option.bind_some, b1, b2, liftO_some], by simp only [ev_bin, ev_var, getS_zero, getS_succ, R.bind_ok, val_fz, Option.bind_some, b1, liftO_some], rfl, rfl⟩
    · rw [e] at b2
      exact ⟨[.fz (.str u), .fz (.str (45 :: u)), .fz (chr a), .fz (chr b)], by simp only [ev_ots, ev_tcmp, ev_bin, ev_var, ev_cst, getS_zero, getS_succ, R.bind_ok, val_fz, Option.bind_some, b1, b2, liftO_some], rfl⟩
  have hlen := steps_len S
  have hsum : (((45 :: u).map fun a => (((45 :: u).filter fun b => !decide ([a, b] = [45, 45])).map fun b => PV.str [a, b]).length)).sum ≤ 1000 := by
    have : ∀ l : List Nat, ((l.map fun a => (((45 :: u).filter fun b => !decide ([a, b] = [45, 45])).map fun b => PV.str [a, b]).length)).sum ≤ l.length * (u.length + 1) := fun l => by
      induction l with
      | nil => simp
      | cons a r ih =>
        rw [List.map_cons, List.sum_cons, List.length_cons, Nat.succ_mul]
        have : (((45 :: u).filter fun b => !decide ([a, b] = [45, 45])).map fun b => PV.str [a, b]).length ≤ u.length + 1 := by
          rw [List.length_map]
          exact Nat.le_trans (List.length_filter_le _ _) (by simp)
        omega
    have h1 := this (45 :: u)
    have h2 : (45 :: u).length * (u.length + 1) ≤ 5 * (u.length + 1) := Nat.mul_le_mul_right _ (by simp; omega)
    omega
  have hO := lc2_T (B := bindT (.nm 2)) (T := evOt C .none) (vs := [2, 3]) (inner := lcIn (evI C (.val (.var 1))) (bindT (.nm 3)) (evOt C (.some (.cmp .NotEq (.bin .Add (.var 2) (.var 3)) (.cst (.str [45, 45]))))) (evE C (.bin .Add (.var 2) (.var 3))) [3]) [.fz (.str u), .fz (.str (45 :: u)), .no, .no] chr (fun a => ((45 :: u).filter fun b => !decide ([a, b] = [45, 45])).map fun b => PV.str [a, b]) (45 :: u) [] fun a _ =>
    ⟨[.fz (.str u), .fz (.str (45 :: u)), .fz (chr a), .no], rfl, rfl, fun bcc hb => ⟨_, hin a bcc (by rw [List.length_nil, Nat.zero_add] at hb; omega), rfl⟩⟩
  have hM : ((45 :: u).flatMap fun a => ((45 :: u).filter fun b => !decide ([a, b] = [45, 45])).map fun b => PV.str [a, b]) = (stepsF u).map .str := by
    unfold stepsF
    rw [List.map_flatMap]
    congr 1
    funext a
    rw [List.map_map]
    rfl
  rw [List.nil_append, hM] at hO
  have hE : evE C (.lc2 (.nm 2) (.val (.var 1)) .none (.nm 3) (.val (.var 1)) (.some (.cmp .NotEq (.bin .Add (.var 2) (.var 3)) (.cst (.str [45, 45])))) (.bin .Add (.var 2) (.var 3)) [2, 3] [3]) [.fz (.str u), .fz (.str (45 :: u)), .no, .no] = .ok (.ow (.lst ((stepsF u).map .str))) [.fz (.str u), .fz (.str (45 :: u)), .no, .no] := by
    show (evI C (.val (.var 1)) _).bind _ = _
    rw [hI, R.bind_ok]
    show R.bind (lcOut _ _ _ [2, 3] _ [] [.fz (.str u), .fz (.str (45 :: u)), .no, .no]) _ = _
    rw [hO]
    rfl
  have b3 : bltF .tuple [.lst ((stepsF u).map .str)] = some (.fz (.tup ((stepsF u).map .str))) := rfl
  have e : exSs C f_all_steps.body [.fz (.str u), .no, .no, .no] = .rt (.fz (.tup ((stepsF u).map .str))) [.fz (.str u), .fz (.str (45 :: u)), .no, .no] := by
    unfold f_all_steps
    refine seq_step (ρ1 := [.fz (.str u), .fz (.str (45 :: u)), .no, .no]) ?_ ?_
    · simp only [ex_set, ev_bin, ev_glob, g, ev_var, getS_zero, getS_succ, R.bind_ok, val_fz, Option.bind_some, a1, liftO_some, Fl.ofR_ok, st_nmF, setS_zero, setS_succ]
    · simp only [ex_cons, ex_ret, ev_blt, ev_cons, ev_nil, hE, R.bind_ok, val_ow, Option.bind_some, Option.map_some, valAll_cons, valAll_nil, b3, liftO_some, Fl.ofR_ok, seq_rt]
  rw [e]
  rfl
/-! ### the law's own list -/
theorem in_due (C : Cal) (U a : PV) (x : Nat) : ∀ (l : List Nat) (acc : List (List Nat)), acc.length + l.length ≤ 1000 → forLoop (bindT (.nm 3)) (exSs C b1__law_due) [3] (l.map chr) [.fz U, .ow (.lst (acc.map .str)), .fz (chr x), .no] = .nx [.fz U, .ow (.lst ((acc ++ l.map fun b => [x, b]).map .str)), .fz (chr x), .no]
  | [], acc, _ => by rw [List.map_nil, List.map_nil, List.append_nil]; rfl
  | b :: l, acc, h => by
    rw [List.length_cons] at h
    have b1 : binF .Add (chr x) (chr b) = some (.fz (.str [x, b])) := add_str (a := [x]) (b := [b]) (by simp)
    have b2 : muF .append (acc.map PV.str) [.str [x, b]] = some ((acc ++ [[x, b]]).map PV.str, .non) := by
      rw [app_ok (by rw [List.length_map]; omega), List.map_append]
      rfl
    have e : exSs C b1__law_due [.fz U, .ow (.lst (acc.map .str)), .fz (chr x), .fz (chr b)] = .nx [.fz U, .ow (.lst ((acc ++ [[x, b]]).map .str)), .fz (chr x), .fz (chr b)] := by
      simp only [b1__law_due, ex_cons, ex_expr, ev_mu, ev_cons, ev_nil, ev_bin, ev_var, getS_zero, getS_succ, R.bind_ok, val_fz, seal_fz, Option.bind_some, Option.map_some, sealAll_cons, sealAll_nil, b1, liftO_some, b2, setS_zero, setS_succ, Fl.ofR_ok, seq_nx, ex_nil]
    rw [List.map_cons]
    unfold forLoop
    rw [show bindT (.nm 3) (chr b) [.fz U, .ow (.lst (acc.map .str)), .fz (chr x), .no] = some [.fz U, .ow (.lst (acc.map .str)), .fz (chr x), .fz (chr b)] from rfl]
    simp only [e]
    have ih := in_due C U a x l (acc ++ [[x, b]]) (by rw [List.length_append, List.length_singleton]; omega)
    rw [List.append_assoc] at ih
    exact ih
theorem out_due (C : Cal) {u : List Nat} (S : Sg u) : ∀ (l : List Nat) (acc : List (List Nat)), acc.length + l.length * (u.length + 2) ≤ 900 → forLoop (bindT (.nm 2)) (exSs C b2__law_due) [2, 3] (l.map chr) [.fz (.str u), .ow (.lst (acc.map .str)), .no, .no] = .nx [.fz (.str u), .ow (.lst ((acc ++ l.flatMap fun a => [a, 45] :: [45, a] :: u.map fun b => [a, b]).map .str)), .no, .no]
  | [], acc, _ => by rw [List.flatMap_nil, List.append_nil]; rfl
  | x :: l, acc, h => by
    rw [List.length_cons, Nat.succ_mul] at h
    have b1 : binF .Add (chr x) (.str [45]) = some (.fz (.str [x, 45])) := add_str (a := [x]) (b := [45]) (by simp)
    have b2 : binF .Add (.str [45]) (chr x) = some (.fz (.str [45, x])) := add_str (a := [45]) (b := [x]) (by simp)
    have b3 : muF .append (acc.map PV.str) [.str [x, 45]] = some ((acc ++ [[x, 45]]).map PV.str, .non) := by
      rw [app_ok (by rw [List.length_map]; omega), List.map_append]
      rfl
    have b4 : muF .append ((acc ++ [[x, 45]]).map PV.str) [.str [45, x]] = some ((acc ++ [[x, 45]] ++ [[45, x]]).map PV.str, .non) := by
      rw [app_ok (by rw [List.length_map, List.length_append, List.length_singleton]; omega), List.map_append (l₁ := acc ++ [[x, 45]])]
      rfl
    have hin := in_due C (.str u) .non x u (acc ++ [[x, 45]] ++ [[45, x]]) (by simp; omega)
    have e : exSs C b2__law_due [.fz (.str u), .ow (.lst (acc.map .str)), .fz (chr x), .no] = .nx [.fz (.str u), .ow (.lst ((acc ++ [[x, 45]] ++ [[45, x]] ++ u.map fun b => [x, b]).map .str)), .fz (chr x), .no] := by
      unfold b2__law_due
      refine seq_step (ρ1 := [.fz (.str u), .ow (.lst ((acc ++ [[x, 45]]).map .str)), .fz (chr x), .no]) ?_ (seq_step (ρ1 := [.fz (.str u), .ow (.lst ((acc ++ [[x, 45]] ++ [[45, x]]).map .str)), .fz (chr x), .no]) ?_ (seq_step hin (ex_nil (C := C))))
      · simp only [ex_expr, ev_mu, ev_cons, ev_nil, ev_bin, ev_var, ev_cst, getS_zero, getS_succ, R.bind_ok, val_fz, seal_fz, Option.bind_some, Option.map_some, sealAll_cons, sealAll_nil, b1, liftO_some, b3, setS_zero, setS_succ, Fl.ofR_ok]
      · simp only [ex_expr, ev_mu, ev_cons, ev_nil, ev_bin, ev_var, ev_cst, getS_zero, getS_succ, R.bind_ok, val_fz, seal_fz, Option.bind_some, Option.map_some, sealAll_cons, sealAll_nil, b2, liftO_some, b4, setS_zero, setS_succ, Fl.ofR_ok]
    rw [List.map_cons]
    unfold forLoop
    rw [show bindT (.nm 2) (chr x) [.fz (.str u), .ow (.lst (acc.map .str)), .no, .no] = some [.fz (.str u), .ow (.lst (acc.map .str)), .fz (chr x), .no] from rfl]
    simp only [e]
    have ih := out_due C S l (acc ++ [[x, 45]] ++ [[45, x]] ++ u.map fun b => [x, b]) (by simp; omega)
    rw [List.flatMap_cons]
    have ea : acc ++ [[x, 45]] ++ [[45, x]] ++ (u.map fun b => [x, b]) ++ (l.flatMap fun a => [a, 45] :: [45, a] :: u.map fun b => [a, b]) = acc ++ (([x, 45] :: [45, x] :: u.map fun b => [x, b]) ++ l.flatMap fun a => [a, 45] :: [45, a] :: u.map fun b => [a, b]) := by simp
    rw [ea] at ih
    exact ih
theorem due_ok (C : Cal) {u : List Nat} (S : Sg u) : outF (exSs C f__law_due.body [.fz (.str u), .no, .no, .no]) = .ret (.ow (.lst ((stepsF u).map .str))) := by
  have hS := S.len
  have h := out_due C S u [] (by
    have : u.length * (u.length + 2) ≤ 4 * (u.length + 2) := Nat.mul_le_mul_right _ hS
    rw [List.length_nil]
    omega)
  rw [List.nil_append] at h
  have b1 : bltF .sorted [.lst ((dueF u).map .str)] = some (.ow (.lst ((stepsF u).map .str))) := by
    show sortF ((dueF u).map .str) = _
    unfold sortF
    rw [if_pos (by rw [List.length_map]; exact decide_eq_true (due_len S)), strsOf_strs]
    show some (Rv.ow (.lst ((sortS (dueF u)).map .str))) = _
    rw [due_sorted S]
  have e : exSs C f__law_due.body [.fz (.str u), .no, .no, .no] = .rt (.ow (.lst ((stepsF u).map .str))) [.fz (.str u), .ow (.lst ((dueF u).map .str)), .no, .no] := by
    unfold f__law_due
    refine seq_step (ρ1 := [.fz (.str u), .ow (.lst []), .no, .no]) ?_ (seq_step (ρ1 := [.fz (.str u), .ow (.lst ((dueF u).map .str)), .no, .no]) ?_ ?_)
    · rw [ex_set, lst_of (rs := []) (ps := []) (ρ2 := [.fz (.str u), .no, .no, .no]) rfl rfl (Nat.zero_le _)]
      rfl
    · exact h
    · simp only [ex_cons, ex_ret, ev_blt, ev_cons, ev_nil, ev_var, getS_zero, getS_succ, R.bind_ok, val_br, cont_ow, Option.bind_some, Option.map_some, valAll_cons, valAll_nil, b1, liftO_some, Fl.ofR_ok, seq_rt]
  rw [e]
  rfl
end Lw
set_option Elab.async false
set_option linter.all false
set_option maxRecDepth 100000
set_option maxHeartbeats 1000000
namespace Lw
open PySem PySem.Spec PyProof.Rows L2 Mp
theorem ev_band {C : Cal} {ρ : List Slot} (a b : Ex) : evE C (.band a b) ρ = (evE C a ρ).bind fun ra ρ1 => match ra with
    | .fz (.bl true) => evE C b ρ1
    | .fz (.bl false) => .ok (.fz (.bl false)) ρ1
    | _ => .stuck := rfl
/-! ## what is told is what is due -/
theorem same_str (C : Cal) (a b : List Nat) : outF (exSs C f__law_same.body [.fz (.str a), .fz (.str b), .no]) = .ret (.fz (.bl (decide (a = b)))) := by
  have n1 : cmpF .Is (.str b) .non = some false := rfl
  have i1 : isiF .bool (.str b) = some false := rfl
  have i2 : isiF .int (.str b) = some false := rfl
  have i3 : isiF .str (.str b) = some true := rfl
  have i4 : isiF .str (.str a) = some true := rfl
  have e1 := eq_str a b
  have tf : truthF (.bl false) = some false := rfl
  have tt : truthF (.bl true) = some true := rfl
  have e : exSs C f__law_same.body [.fz (.str a), .fz (.str b), .no] = .rt (.fz (.bl (decide (a = b)))) [.fz (.str a), .fz (.str b), .no] := by
    unfold f__law_same
    simp only [ex_cons, ex_ifs, ex_ret, ev_tcmp, ev_tval, ev_isi, ev_band, ev_cmp, ev_var, ev_cst, getS_zero, getS_succ, R.bind_ok, val_fz, Option.bind_some, Option.map_some, n1, i1, i2, i3, i4, e1, tf, tt, liftO_some, Fl.ofR_ok, Bool.false_eq_true, if_false, if_true, ex_nil, seq_nx, seq_rt]
  rw [e]
  rfl
theorem same_list (C : Cal) (l : List (List Nat)) (hl : l.length ≤ 1000) (hs : ∀ a, C.fn 1 [.str a, .str a] = .ret (.fz (.bl true))) : outF (exSs C f__law_same.body [.fz (.tup (l.map .str)), .fz (.lst (l.map .str)), .no]) = .ret (.fz (.bl true)) := by
  have n1 : cmpF .Is (.lst (l.map .str)) .non = some false := rfl
  have i1 : isiF .bool (.lst (l.map .str)) = some false := rfl
  have i2 : isiF .int (.lst (l.map .str)) = some false := rfl
  have i3 : isiF .str (.lst (l.map .str)) = some false := rfl
  have i4 : isiF .tuple (.tup (l.map .str)) = some true := rfl
  have b1 : bltF .len [.tup (l.map .str)] = some (.fz (natP l.length)) := by
    show some (Rv.fz (.int (((l.map PV.str).length : Nat) : Int))) = _
    rw [List.length_map]
    rfl
  have b2 : bltF .len [.lst (l.map .str)] = some (.fz (natP l.length)) := by
    show some (Rv.fz (.int (((l.map PV.str).length : Nat) : Int))) = _
    rw [List.length_map]
    rfl
  have tf : truthF (.bl false) = some false := rfl
  have tt : truthF (.bl true) = some true := rfl
  have q1 : cmpF .NotEq (natP l.length) (natP l.length) = some false := by
    have h := eq_natP l.length l.length
    rw [decide_eq_true rfl] at h
    have o1 : okD 64 (natP l.length) = true := rfl
    have e1 : cmpF .Eq (natP l.length) (natP l.length) = if (okD 64 (natP l.length) && okD 64 (natP l.length)) = true then some (eqB (natP l.length) (natP l.length)) else none := rfl
    have e2 : cmpF .NotEq (natP l.length) (natP l.length) = if (okD 64 (natP l.length) && okD 64 (natP l.length)) = true then some (!eqB (natP l.length) (natP l.length)) else none := rfl
    rw [o1] at e1 e2
    rw [e1] at h
    rw [e2]
    have h : some (eqB (natP l.length) (natP l.length)) = some true := h
    rw [Option.some.inj h]
    rfl
  have H := for_all (B := bindT (.nm 2)) (body := exSs C b1__law_same) (kill := [2]) [.fz (.tup (l.map .str)), .fz (.lst (l.map .str)), .no] natP (fun _ => true) (.fz (.bl false)) (List.range l.length) fun k hk => by
    have hk := List.mem_range.mp hk
    have x1 : ixF (.tup (l.map .str)) (natP k) = some (.str l[k]) := atI_nat (by rw [List.getElem?_map, List.getElem?_eq_getElem hk]; rfl)
    have x2 : ixF (.lst (l.map .str)) (natP k) = some (.str l[k]) := atI_nat (by rw [List.getElem?_map, List.getElem?_eq_getElem hk]; rfl)
    have h1 := hs l[k]
    refine ⟨[.fz (.tup (l.map .str)), .fz (.lst (l.map .str)), .fz (natP k)], rfl, fun _ => ⟨[.fz (.tup (l.map .str)), .fz (.lst (l.map .str)), .fz (natP k)], .inl ?_, rfl⟩, fun e => by cases e⟩
    simp only [b1__law_same, ex_cons, ex_ifs, ev_tnot, ev_tval, ev_call, ev_cons, ev_nil, ev_ix, ev_var, getS_zero, getS_succ, R.bind_ok, val_fz, seal_fz, Option.bind_some, Option.map_some, sealAll_cons, sealAll_nil, x1, x2, liftO_some, h1, outR_ret, tt, Bool.not_true, Bool.false_eq_true, if_false, Fl.ofR_ok, ex_nil, seq_nx]
  have H1 := H.1 (by simp)
  have e : exSs C f__law_same.body [.fz (.tup (l.map .str)), .fz (.lst (l.map .str)), .no] = .rt (.fz (.bl true)) [.fz (.tup (l.map .str)), .fz (.lst (l.map .str)), .no] := by
    unfold f__law_same
    have hI : evI C (.range1 (.blt .len (.cons (.var 1) .nil))) [.fz (.tup (l.map .str)), .fz (.lst (l.map .str)), .no] = .ok ((List.range l.length).map natP) [.fz (.tup (l.map .str)), .fz (.lst (l.map .str)), .no] := by
      refine range_natP ?_ hl
      simp only [ev_blt, ev_cons, ev_nil, ev_var, getS_zero, getS_succ, R.bind_ok, val_fz, Option.bind_some, Option.map_some, valAll_cons, valAll_nil, b2, liftO_some]
    simp only [ex_cons, ex_ifs, ex_ret, ex_for, hI, ev_tor, ev_tnot, ev_tcmp, ev_tval, ev_isi, ev_blt, ev_cons, ev_nil, ev_cmp, ev_var, ev_cst, getS_zero, getS_succ, R.bind_ok, val_fz, Option.bind_some, Option.map_some, valAll_cons, valAll_nil, n1, i1, i2, i3, i4, b1, b2, q1, tf, tt, liftO_some, Fl.ofR_ok, Bool.not_true, Bool.false_eq_true, if_false, if_true, ex_nil, seq_nx, seq_rt, H1]
  rw [e]
  rfl
/-! ## forms -/
def two (x : Nat × Nat) : List Nat := [x.1, x.2]
def formT (P : List (Nat × Nat)) : List Nat := TL.joinL [32] (P.map two)
def wordF (P : List (Nat × Nat)) : List Nat := (P.filter fun x => !decide ([x.1] = [45])).map (·.1)
def outP (P : List (Nat × Nat)) : List Nat := (P.filter fun x => !decide ([x.2] = [45])).map (·.2)
def Gp (P : List (Nat × Nat)) : Prop := ∀ x ∈ P, x.1 ≠ 32 ∧ x.2 ≠ 32
theorem sum_two : ∀ P : List (Nat × Nat), ((P.map two).map List.length).sum = 2 * P.length
  | [] => rfl
  | x :: P => by
    have := sum_two P
    simp only [List.map_cons, List.sum_cons, List.length_cons] at this ⊢
    rw [this]
    show 2 + _ = _
    omega
theorem formT_len (P : List (Nat × Nat)) : (formT P).length ≤ 3 * P.length := by
  have := joinL_len [32] (P.map two)
  rw [sum_two, List.length_map, List.length_singleton] at this
  unfold formT
  omega
theorem formT_ne {P : List (Nat × Nat)} (h : P ≠ []) : formT P ≠ [] := by
  cases P with
  | nil => exact absurd rfl h
  | cons x r =>
    cases r with
    | nil => intro e; cases e
    | cons y r => intro e; cases e
theorem steps_of_ok (C : Cal) {P : List (Nat × Nat)} (g : Gp P) (hl : P.length ≤ 1000) : outF (exSs C f_steps_of.body [.fz (.str (formT P))]) = .ret (.fz (.tup ((P.map two).map .str))) := by
  have e1 := eq_str (formT P) []
  by_cases h : P = []
  · subst h
    have e1 : cmpF .Eq (.str (formT [])) (.str []) = some true := e1
    have hT : ∀ ρ, evE C (.tup .nil) ρ = .ok (.fz (.tup [])) ρ := fun ρ => tup_of (rs := []) rfl rfl (Nat.zero_le _)
    have e : exSs C f_steps_of.body [.fz (.str (formT []))] = .rt (.fz (.tup [])) [.fz (.str (formT []))] := by
      unfold f_steps_of
      simp only [ex_cons, ex_ifs, ex_ret, ev_tcmp, ev_var, ev_cst, getS_zero, R.bind_ok, val_fz, Option.bind_some, e1, liftO_some, Fl.ofR_ok, if_true, hT, seq_rt]
    rw [e]
    rfl
  · rw [decide_eq_false (formT_ne h)] at e1
    have hs : splOk (formT P) [32] = true := by
      unfold splOk
      have := formT_len P
      simp only [Bool.and_eq_true, decide_eq_true_eq]
      exact ⟨⟨rfl, rfl⟩, Nat.le_trans (by omega : (formT P).length + 2 ≤ 10000) (Nat.le_of_ble_eq_true rfl)⟩
    have b1 : bmF .split (.str (formT P)) [.str [32]] = some (.ow (.lst ((P.map two).map .str))) := by
      show (if splOk (formT P) [32] = true then some (Rv.ow (.lst ((splF (formT P) [32]).map .str))) else none) = _
      rw [if_pos hs]
      have : splF (formT P) [32] = P.map two := spl_of_join (by simpa using h) fun p hp => by
        obtain ⟨x, hx, rfl⟩ := List.mem_map.mp hp
        have := g x hx
        simp [two]
        exact ⟨fun z => this.1 z.symm, fun z => this.2 z.symm⟩
      rw [this]
    have b2 : bltF .tuple [.lst ((P.map two).map .str)] = some (.fz (.tup ((P.map two).map .str))) := rfl
    have e : exSs C f_steps_of.body [.fz (.str (formT P))] = .rt (.fz (.tup ((P.map two).map .str))) [.fz (.str (formT P))] := by
      unfold f_steps_of
      simp only [ex_cons, ex_ifs, ex_ret, ev_tcmp, ev_blt, ev_bm, ev_cons, ev_nil, ev_var, ev_cst, getS_zero, R.bind_ok, val_fz, val_ow, Option.bind_some, Option.map_some, valAll_cons, valAll_nil, e1, liftO_some, Fl.ofR_ok, Bool.false_eq_true, if_false, ex_nil, seq_nx, b1, b2, seq_rt]
    rw [e]
    rfl
theorem word_ok (C : Cal) (g : C.gv 0 = .str [45]) {P : List (Nat × Nat)} (hl : P.length ≤ 1000) (hs : C.fn 10 [.str (formT P)] = .ret (.fz (.tup ((P.map two).map .str)))) : outF (exSs C f_word_of.body [.fz (.str (formT P)), .no]) = .ret (.fz (.str (wordF P))) := by
  have hI : evI C (.val (.call 10 (.cons (.var 0) .nil))) [.fz (.str (formT P)), .no] = .ok (P.map fun x => .str (two x)) [.fz (.str (formT P)), .no] := by
    rw [ev_ival]
    simp only [ev_call, ev_cons, ev_nil, ev_var, getS_zero, R.bind_ok, val_fz, seal_fz, Option.bind_some, Option.map_some, sealAll_cons, sealAll_nil, hs, outR_ret, itemsC, liftO_some]
    rw [List.map_map]
    rfl
  have hL := lc_T (B := bindT (.nm 1)) (T := evOt C (.some (.cmp .NotEq (.ix (.var 1) (.cst (.int 0))) (.glob 0)))) (El := evE C (.ix (.var 1) (.cst (.int 0)))) (vs := [1]) [.fz (.str (formT P)), .no] (fun x => PV.str (two x)) (fun x => !decide ([x.1] = [45])) (fun x => chr x.1) P (small (by omega)) fun x _ => by
    have x1 : ixF (.str (two x)) (.int 0) = some (chr x.1) := rfl
    have x2 := ne_str [x.1] [45]
    refine ⟨[.fz (.str (formT P)), .fz (.str (two x))], rfl, fun e => ⟨[.fz (.str (formT P)), .fz (.str (two x))], .fz (chr x.1), [.fz (.str (formT P)), .fz (.str (two x))], ?_, ?_, rfl, rfl⟩, fun e => ⟨[.fz (.str (formT P)), .fz (.str (two x))], ?_, rfl⟩⟩
    · rw [e] at x2
      simp only [ev_ots, ev_tcmp, ev_ix, ev_var, ev_cst, ev_glob, g, getS_zero, getS_succ, R.bind_ok, val_fz, Option.bind_some, Option.map_some, x1, x2, liftO_some]
    · simp only [ev_ix, ev_var, ev_cst, getS_zero, getS_succ, R.bind_ok, val_fz, Option.bind_some, Option.map_some, x1, liftO_some]
    · rw [e] at x2
      simp only [ev_ots, ev_tcmp, ev_ix, ev_var, ev_cst, ev_glob, g, getS_zero, getS_succ, R.bind_ok, val_fz, Option.bind_some, Option.map_some, x1, x2, liftO_some]
  have hm : ((P.filter fun x => !decide ([x.1] = [45])).map fun x => chr x.1) = (wordF P).map chr := by
    unfold wordF
    rw [List.map_map]
    rfl
  rw [hm] at hL
  have hE := lc_eval hI hL
  have hj := join_chr (l := wordF P) (by unfold wordF; rw [List.length_map]; exact Nat.le_trans (List.length_filter_le _ _) hl)
  have e : exSs C f_word_of.body [.fz (.str (formT P)), .no] = .rt (.fz (.str (wordF P))) [.fz (.str (formT P)), .no] := by
    unfold f_word_of
    simp only [ex_cons, ex_ret, ev_bm, ev_cst, ev_cons, ev_nil, hE, R.bind_ok, val_ow, Option.bind_some, Option.map_some, valAll_cons, valAll_nil, hj, liftO_some, Fl.ofR_ok, seq_rt]
  rw [e]
  rfl
theorem output_ok (C : Cal) (g : C.gv 0 = .str [45]) {P : List (Nat × Nat)} (hl : P.length ≤ 1000) (hs : C.fn 10 [.str (formT P)] = .ret (.fz (.tup ((P.map two).map .str)))) : outF (exSs C f_output_of.body [.fz (.str (formT P)), .no]) = .ret (.fz (.str (outP P))) := by
  have hI : evI C (.val (.call 10 (.cons (.var 0) .nil))) [.fz (.str (formT P)), .no] = .ok (P.map fun x => .str (two x)) [.fz (.str (formT P)), .no] := by
    rw [ev_ival]
    simp only [ev_call, ev_cons, ev_nil, ev_var, getS_zero, R.bind_ok, val_fz, seal_fz, Option.bind_some, Option.map_some, sealAll_cons, sealAll_nil, hs, outR_ret, itemsC, liftO_some]
    rw [List.map_map]
    rfl
  have hL := lc_T (B := bindT (.nm 1)) (T := evOt C (.some (.cmp .NotEq (.ix (.var 1) (.cst (.int 1))) (.glob 0)))) (El := evE C (.ix (.var 1) (.cst (.int 1)))) (vs := [1]) [.fz (.str (formT P)), .no] (fun x => PV.str (two x)) (fun x => !decide ([x.2] = [45])) (fun x => chr x.2) P (small (by omega)) fun x _ => by
    have x1 : ixF (.str (two x)) (.int 1) = some (chr x.2) := rfl
    have x2 := ne_str [x.2] [45]
    refine ⟨[.fz (.str (formT P)), .fz (.str (two x))], rfl, fun e => ⟨[.fz (.str (formT P)), .fz (.str (two x))], .fz (chr x.2), [.fz (.str (formT P)), .fz (.str (two x))], ?_, ?_, rfl, rfl⟩, fun e => ⟨[.fz (.str (formT P)), .fz (.str (two x))], ?_, rfl⟩⟩
    · rw [e] at x2
      simp only [ev_ots, ev_tcmp, ev_ix, ev_var, ev_cst, ev_glob, g, getS_zero, getS_succ, R.bind_ok, val_fz, Option.bind_some, Option.map_some, x1, x2, liftO_some]
    · simp only [ev_ix, ev_var, ev_cst, getS_zero, getS_succ, R.bind_ok, val_fz, Option.bind_some, Option.map_some, x1, liftO_some]
    · rw [e] at x2
      simp only [ev_ots, ev_tcmp, ev_ix, ev_var, ev_cst, ev_glob, g, getS_zero, getS_succ, R.bind_ok, val_fz, Option.bind_some, Option.map_some, x1, x2, liftO_some]
  have hm : ((P.filter fun x => !decide ([x.2] = [45])).map fun x => chr x.2) = (outP P).map chr := by
    unfold outP
    rw [List.map_map]
    rfl
  rw [hm] at hL
  have hE := lc_eval hI hL
  have hj := join_chr (l := outP P) (by unfold outP; rw [List.length_map]; exact Nat.le_trans (List.length_filter_le _ _) hl)
  have e : exSs C f_output_of.body [.fz (.str (formT P)), .no] = .rt (.fz (.str (outP P))) [.fz (.str (formT P)), .no] := by
    unfold f_output_of
    simp only [ex_cons, ex_ret, ev_bm, ev_cst, ev_cons, ev_nil, hE, R.bind_ok, val_ow, Option.bind_some, Option.map_some, valAll_cons, valAll_nil, hj, liftO_some, Fl.ofR_ok, seq_rt]
  rw [e]
  rfl
end Lw
set_option Elab.async false
set_option linter.all false
set_option maxRecDepth 100000
set_option maxHeartbeats 1000000
namespace Lw
open PySem PySem.Spec PyProof.Rows L2 Mp
theorem wordF_in (P : List (Nat × Nat)) (c : Nat) : wordF (P ++ [(45, c)]) = wordF P := by
  unfold wordF
  rw [List.filter_append, List.filter_cons_of_neg (by simp)]
  simp
theorem outP_in (P : List (Nat × Nat)) {a c : Nat} (h : c ≠ 45) : outP (P ++ [(a, c)]) = outP P ++ [c] := by
  unfold outP
  rw [List.filter_append, List.filter_cons_of_pos (by simp [h])]
  simp
theorem outP_no (P : List (Nat × Nat)) (a : Nat) : outP (P ++ [(a, 45)]) = outP P := by
  unfold outP
  rw [List.filter_append, List.filter_cons_of_neg (by simp)]
  simp
theorem wordF_add (P : List (Nat × Nat)) {a : Nat} (c : Nat) (h : a ≠ 45) : wordF (P ++ [(a, c)]) = wordF P ++ [a] := by
  unfold wordF
  rw [List.filter_append, List.filter_cons_of_pos (by simp [h])]
  simp
theorem Gp_add {P : List (Nat × Nat)} (g : Gp P) {a c : Nat} (h1 : a ≠ 32) (h2 : c ≠ 32) : Gp (P ++ [(a, c)]) := fun x hx => by
  rcases List.mem_append.mp hx with h | h
  · exact g x h
  · rw [List.mem_singleton.mp h]; exact ⟨h1, h2⟩
theorem word_len (P : List (Nat × Nat)) : (wordF P).length ≤ P.length := by
  unfold wordF
  rw [List.length_map]
  exact List.length_filter_le _ _
theorem out_len (P : List (Nat × Nat)) : (outP P).length ≤ P.length := by
  unfold outP
  rw [List.length_map]
  exact List.length_filter_le _ _
abbrev partsP (P : List (Nat × Nat)) : PV := .lst ((P.map two).map .str)
theorem app_part {P : List (Nat × Nat)} (h : P.length ≤ 900) (x : Nat × Nat) : muF .append ((P.map two).map PV.str) [.str [x.1, x.2]] = some (((P ++ [x]).map two).map PV.str, .non) := by
  rw [app_ok (by rw [List.length_map, List.length_map]; omega), List.map_append, List.map_append]
  rfl
theorem let_of {u : List Nat} (S : Sg u) {j : Nat} (hj : j < u.length) : ∃ c, c ∈ u ∧ c ≠ 45 ∧ c ≠ 32 ∧ ixF (.str u) (natP j) = some (chr c) := by
  have hm := List.getElem_mem hj
  have := S.lo _ hm
  refine ⟨u[j], hm, by omega, by omega, ?_⟩
  show (atI u (j : Int)).map (fun c => PV.str [c]) = _
  rw [atI_nat (List.getElem?_eq_getElem hj)]
  rfl
theorem len_str (u : List Nat) : bltF .len [.str u] = some (.fz (natP u.length)) := rfl
section
variable {C : Cal} {D : PV} {pk : Nat → Nat → Nat} {u : List Nat}
theorem b1_form (K : PickOk C D pk) (S : Sg u) {at_ pl k : Nat} (ha : at_ ≤ 402) (hp : pl ≤ 8) (hk : k < 40) (P : List (Nat × Nat)) (hP : P.length ≤ 900) (s3 s4 s6 s9 : Slot) : ∃ c, c ≠ 45 ∧ c ≠ 32 ∧
    exSs C b1__law_form [.fz D, .fz (natP at_), .fz (.str u), s3, s4, .ow (partsP P), s6, .fz (.str (outP P)), .fz (natP pl), s9, .fz (natP k), .no, .no, .no] =
      .nx [.fz D, .fz (natP at_), .fz (.str u), s3, s4, .ow (partsP (P ++ [(45, c)])), s6, .fz (.str (outP (P ++ [(45, c)]))), .fz (natP pl), s9, .fz (natP k), .fz (chr c), .no, .no] := by
  have a1 : binF .Add (natP at_) (.int 30) = some (.fz (natP (at_ + 30))) := add_natP at_ 30
  have a2 : binF .Mult (.int 40) (natP pl) = some (.fz (natP (40 * pl))) := mul_natP 40 pl (by omega)
  have a3 := add_natP (at_ + 30) (40 * pl)
  have a4 := add_natP (at_ + 30 + 40 * pl) k
  obtain ⟨u1, u2⟩ := K (at_ + 30 + 40 * pl + k) (by omega) u.length S.pos
  have a5 := len_str u
  obtain ⟨c, c0, c1, c2, c3⟩ := let_of S u1
  have a6 : binF .Add (.str [45]) (chr c) = some (.fz (.str [45, c])) := add_str (a := [45]) (b := [c]) (by simp)
  have a7 := app_part hP (45, c)
  have ho := out_len P
  have a8 : binF .Add (.str (outP P)) (chr c) = some (.fz (.str (outP P ++ [c]))) := add_str (b := [c]) (by rw [List.length_singleton]; omega)
  refine ⟨c, c1, c2, ?_⟩
  rw [outP_in P c1]
  unfold b1__law_form
  simp only [ex_cons, ex_set, ex_expr, ev_mu, ev_call, ev_cons, ev_nil, ev_bin, ev_ix, ev_blt, ev_var, ev_cst, getS_zero, getS_succ, R.bind_ok, val_fz, seal_fz, Option.bind_some, Option.map_some, sealAll_cons, sealAll_nil, valAll_cons, valAll_nil, a1, a2, a3, a4, a5, liftO_some, u2, outR_ret, c3, Fl.ofR_ok, st_nmF, setS_zero, setS_succ, seq_nx, a6, a7, a8, ex_nil]
theorem in_form (K : PickOk C D pk) (S : Sg u) {at_ pl many : Nat} (ha : at_ ≤ 402) (hp : pl ≤ 8) (hm : many ≤ 40) (P : List (Nat × Nat)) (g : Gp P) (hP : P.length ≤ 800) (s3 s4 s9 : Slot) : ∃ P', Gp P' ∧ P'.length = P.length + many ∧
    forLoop (bindT (.nm 10)) (exSs C b1__law_form) [10, 11] ((List.range many).map natP) [.fz D, .fz (natP at_), .fz (.str u), s3, s4, .ow (partsP P), .fz (.str (wordF P)), .fz (.str (outP P)), .fz (natP pl), s9, .no, .no, .no, .no] =
      .nx [.fz D, .fz (natP at_), .fz (.str u), s3, s4, .ow (partsP P'), .fz (.str (wordF P')), .fz (.str (outP P')), .fz (natP pl), s9, .no, .no, .no, .no] := by
  obtain ⟨P', ⟨h1, h2⟩, h3⟩ := for_ix (B := bindT (.nm 10)) (body := exSs C b1__law_form) (kill := [10, 11]) (fun P : List (Nat × Nat) => [.fz D, .fz (natP at_), .fz (.str u), s3, s4, .ow (partsP P), .fz (.str (wordF P)), .fz (.str (outP P)), .fz (natP pl), s9, .no, .no, .no, .no])
    (fun i Q => Gp Q ∧ Q.length = P.length + i) ((List.range many).map natP) 0 P ⟨g, rfl⟩ fun i Q x hx ⟨w1, w2⟩ => by
      obtain ⟨hi, rfl⟩ := natP_get hx
      obtain ⟨c, c1, c2, c3⟩ := b1_form K S ha hp (by omega : i < 40) Q (by omega) s3 s4 (.fz (.str (wordF Q))) s9
      refine ⟨Q ++ [(45, c)], ⟨Gp_add w1 (by omega) c2, by rw [List.length_append, List.length_singleton]; omega⟩, _, rfl, _, .inl c3, ?_⟩
      rw [wordF_in]
      rfl
  rw [List.length_map, List.length_range, Nat.zero_add] at h2
  exact ⟨P', h1, h2, h3⟩
theorem eq_lit (a : Nat) (j : Nat) : cmpF .Eq (natP a) (.int (j : Int)) = some (decide (a = j)) := eq_natP a j
theorem ev_or (C : Cal) (ρ : List Slot) (kd a b : Nat) (ia ib : Int) (ha : ia = (a : Int)) (hb : ib = (b : Int)) (h : getS ρ 3 = .fz (natP kd)) : evT C (.or (.cmp .Eq (.var 3) (.cst (.int ia))) (.cmp .Eq (.var 3) (.cst (.int ib)))) ρ = .ok (decide (kd = a) || decide (kd = b)) ρ := by
  subst ha hb
  have e1 := eq_lit kd a
  have e2 := eq_lit kd b
  rw [ev_tor, ev_tcmp, ev_var, h]
  cases q : decide (kd = a) with
  | true =>
    rw [q] at e1
    simp only [R.bind_ok, ev_cst, val_fz, Option.bind_some, e1, liftO_some, if_true, Bool.true_or]
  | false =>
    rw [q] at e1
    simp only [R.bind_ok, ev_cst, val_fz, Option.bind_some, e1, liftO_some, Bool.false_eq_true, if_false, ev_tcmp, ev_var, h, e2, Bool.false_or]
/-- one place of a form -/
theorem b2_form (K : PickOk C D pk) (S : Sg u) {at_ pl n kd : Nat} (ha : at_ ≤ 402) (hp : pl ≤ n) (hn : n ≤ 8) (P : List (Nat × Nat)) (g : Gp P) (hP : P.length ≤ 700) : ∃ P' s9 s12 s13, Gp P' ∧ P'.length ≤ P.length + 41 ∧
    exSs C b2__law_form [.fz D, .fz (natP at_), .fz (.str u), .fz (natP kd), .fz (natP n), .ow (partsP P), .fz (.str (wordF P)), .fz (.str (outP P)), .fz (natP pl), .no, .no, .no, .no, .no] =
      .nx [.fz D, .fz (natP at_), .fz (.str u), .fz (natP kd), .fz (natP n), .ow (partsP P'), .fz (.str (wordF P')), .fz (.str (outP P')), .fz (natP pl), s9, .no, .no, s12, s13] := by
  have a1 : binF .Add (natP at_) (.int 1) = some (.fz (natP (at_ + 1))) := add_natP at_ 1
  have a2 := add_natP (at_ + 1) pl
  have s1 : ∃ m0, m0 < 40 ∧ exS C (.set (.nm 9) (.call 5 (.cons (.var 0) (.cons (.bin .Add (.bin .Add (.var 1) (.cst (.int 1))) (.var 8)) (.cons (.ite (.or (.cmp .Eq (.var 3) (.cst (.int 1))) (.cmp .Eq (.var 3) (.cst (.int 3)))) (.cst (.int 40)) (.cst (.int 4))) .nil))))) [.fz D, .fz (natP at_), .fz (.str u), .fz (natP kd), .fz (natP n), .ow (partsP P), .fz (.str (wordF P)), .fz (.str (outP P)), .fz (natP pl), .no, .no, .no, .no, .no] =
      .nx [.fz D, .fz (natP at_), .fz (.str u), .fz (natP kd), .fz (natP n), .ow (partsP P), .fz (.str (wordF P)), .fz (.str (outP P)), .fz (natP pl), .fz (natP m0), .no, .no, .no, .no] := by
    have ho := ev_or C [.fz D, .fz (natP at_), .fz (.str u), .fz (natP kd), .fz (natP n), .ow (partsP P), .fz (.str (wordF P)), .fz (.str (outP P)), .fz (natP pl), .no, .no, .no, .no, .no] kd 1 3 1 3 rfl rfl rfl
    cases q : (decide (kd = 1) || decide (kd = 3)) with
    | true =>
      obtain ⟨u1, u2⟩ := K (at_ + 1 + pl) (by omega) 40 (by omega)
      have u2 : C.fn 5 [D, natP (at_ + 1 + pl), .int 40] = .ret (.fz (natP (pk (at_ + 1 + pl) 40))) := u2
      rw [q] at ho
      refine ⟨_, u1, ?_⟩
      simp only [ex_set, ev_call, ev_cons, ev_nil, ev_bin, ev_ite, ho, ev_var, ev_cst, getS_zero, getS_succ, R.bind_ok, val_fz, seal_fz, Option.bind_some, Option.map_some, sealAll_cons, sealAll_nil, a1, a2, liftO_some, if_true, u2, outR_ret, Fl.ofR_ok, st_nmF, setS_zero, setS_succ]
    | false =>
      obtain ⟨u1, u2⟩ := K (at_ + 1 + pl) (by omega) 4 (by omega)
      have u2 : C.fn 5 [D, natP (at_ + 1 + pl), .int 4] = .ret (.fz (natP (pk (at_ + 1 + pl) 4))) := u2
      rw [q] at ho
      refine ⟨_, Nat.lt_of_lt_of_le u1 (by omega), ?_⟩
      simp only [ex_set, ev_call, ev_cons, ev_nil, ev_bin, ev_ite, ho, ev_var, ev_cst, getS_zero, getS_succ, R.bind_ok, val_fz, seal_fz, Option.bind_some, Option.map_some, sealAll_cons, sealAll_nil, a1, a2, liftO_some, Bool.false_eq_true, if_false, u2, outR_ret, Fl.ofR_ok, st_nmF, setS_zero, setS_succ]
  obtain ⟨m0, hm0, s1⟩ := s1
  have s2 : ∃ m1, m1 < 40 ∧ exS C (.ifs (.or (.cmp .Eq (.var 3) (.cst (.int 0))) (.cmp .Eq (.var 3) (.cst (.int 2)))) [.set (.nm 9) (.cst (.int 0))] []) [.fz D, .fz (natP at_), .fz (.str u), .fz (natP kd), .fz (natP n), .ow (partsP P), .fz (.str (wordF P)), .fz (.str (outP P)), .fz (natP pl), .fz (natP m0), .no, .no, .no, .no] =
      .nx [.fz D, .fz (natP at_), .fz (.str u), .fz (natP kd), .fz (natP n), .ow (partsP P), .fz (.str (wordF P)), .fz (.str (outP P)), .fz (natP pl), .fz (natP m1), .no, .no, .no, .no] := by
    have ho := ev_or C [.fz D, .fz (natP at_), .fz (.str u), .fz (natP kd), .fz (natP n), .ow (partsP P), .fz (.str (wordF P)), .fz (.str (outP P)), .fz (natP pl), .fz (natP m0), .no, .no, .no, .no] kd 0 2 0 2 rfl rfl rfl
    rw [ex_ifs, ho, Fl.ofR_ok]
    cases q : (decide (kd = 0) || decide (kd = 2)) with
    | true => exact ⟨0, by omega, rfl⟩
    | false => exact ⟨m0, hm0, rfl⟩
  obtain ⟨m1, hm1, s2⟩ := s2
  obtain ⟨P1, g1, l1, s3⟩ := in_form K S (at_ := at_) (pl := pl) (many := m1) ha (by omega) (by omega) P g (by omega) (.fz (natP kd)) (.fz (natP n)) (.fz (natP m1))
  have s3' : exS C (.for_ (.nm 10) (.range1 (.var 9)) b1__law_form [10, 11]) [.fz D, .fz (natP at_), .fz (.str u), .fz (natP kd), .fz (natP n), .ow (partsP P), .fz (.str (wordF P)), .fz (.str (outP P)), .fz (natP pl), .fz (natP m1), .no, .no, .no, .no] =
      .nx [.fz D, .fz (natP at_), .fz (.str u), .fz (natP kd), .fz (natP n), .ow (partsP P1), .fz (.str (wordF P1)), .fz (.str (outP P1)), .fz (natP pl), .fz (natP m1), .no, .no, .no, .no] := by
    rw [ex_for, range_natP (n := m1) (ρ1 := [.fz D, .fz (natP at_), .fz (.str u), .fz (natP kd), .fz (natP n), .ow (partsP P), .fz (.str (wordF P)), .fz (.str (outP P)), .fz (natP pl), .fz (natP m1), .no, .no, .no, .no]) rfl (by omega), Fl.ofR_ok]
    exact s3
  have lt : cmpF .Lt (natP pl) (natP n) = some (decide (pl < n)) := by
    show some (decide ((pl : Int) < (n : Int))) = _
    congr 1
    rw [Bool.eq_iff_iff, decide_eq_true_eq, decide_eq_true_eq]
    omega
  by_cases hlt : pl < n
  · rw [decide_eq_true hlt] at lt
    -- the kept sign
    have c1 : binF .Add (natP at_) (.int 10) = some (.fz (natP (at_ + 10))) := add_natP at_ 10
    have c2 := add_natP (at_ + 10) pl
    obtain ⟨u1, u2⟩ := K (at_ + 10 + pl) (by omega) u.length S.pos
    have c3 := len_str u
    obtain ⟨a, a0, a1', a2', a3'⟩ := let_of S u1
    have d1 : binF .Add (natP at_) (.int 19) = some (.fz (natP (at_ + 19))) := add_natP at_ 19
    have d2 := add_natP (at_ + 19) pl
    have d3 : binF .Add (natP u.length) (.int 1) = some (.fz (natP (u.length + 1))) := add_natP u.length 1
    obtain ⟨v1, v2⟩ := K (at_ + 19 + pl) (by omega) (u.length + 1) (by omega)
    have d4 : binF .Add (.str u) (.str [45]) = some (.fz (.str (u ++ [45]))) := add_str (b := [45]) (by have := S.len; rw [List.length_singleton]; omega)
    obtain ⟨b, hb, d5⟩ : ∃ b, b ≠ 32 ∧ ixF (.str (u ++ [45])) (natP (pk (at_ + 19 + pl) (u.length + 1))) = some (chr b) := by
      have hlen : pk (at_ + 19 + pl) (u.length + 1) < (u ++ [45]).length := by rw [List.length_append, List.length_singleton]; exact v1
      refine ⟨(u ++ [45])[pk (at_ + 19 + pl) (u.length + 1)], ?_, ?_⟩
      · have hm := List.getElem_mem hlen
        rcases List.mem_append.mp hm with h | h
        · have := S.lo _ h
          omega
        · rw [List.mem_singleton.mp h]; omega
      · show (atI (u ++ [45]) ((pk (at_ + 19 + pl) (u.length + 1) : Nat) : Int)).map (fun c => PV.str [c]) = _
        rw [atI_nat (List.getElem?_eq_getElem hlen)]
        rfl
    have k1 := eq_lit kd 0
    obtain ⟨b', hb', s4⟩ : ∃ b', b' ≠ 32 ∧ exS C (.ifs (.cmp .Eq (.var 3) (.cst (.int 0))) [.set (.nm 13) (.cst (.str [45]))] []) [.fz D, .fz (natP at_), .fz (.str u), .fz (natP kd), .fz (natP n), .ow (partsP P1), .fz (.str (wordF P1)), .fz (.str (outP P1)), .fz (natP pl), .fz (natP m1), .no, .no, .fz (chr a), .fz (chr b)] =
        .nx [.fz D, .fz (natP at_), .fz (.str u), .fz (natP kd), .fz (natP n), .ow (partsP P1), .fz (.str (wordF P1)), .fz (.str (outP P1)), .fz (natP pl), .fz (natP m1), .no, .no, .fz (chr a), .fz (chr b')] := by
      have k1 : cmpF .Eq (natP kd) (.int 0) = some (decide (kd = 0)) := k1
      cases q : decide (kd = 0) with
      | true =>
        rw [q] at k1
        refine ⟨45, by omega, ?_⟩
        simp only [ex_ifs, ev_tcmp, ev_var, ev_cst, getS_zero, getS_succ, R.bind_ok, val_fz, Option.bind_some, k1, liftO_some, Fl.ofR_ok, if_true, ex_cons, ex_set, st_nmF, setS_zero, setS_succ, seq_nx, ex_nil]
      | false =>
        rw [q] at k1
        refine ⟨b, hb, ?_⟩
        simp only [ex_ifs, ev_tcmp, ev_var, ev_cst, getS_zero, getS_succ, R.bind_ok, val_fz, Option.bind_some, k1, liftO_some, Fl.ofR_ok, Bool.false_eq_true, if_false, ex_nil]
    have f1 : binF .Add (chr a) (chr b') = some (.fz (.str [a, b'])) := add_str (a := [a]) (b := [b']) (by simp)
    have f2 := app_part (P := P1) (by omega) (a, b')
    have hw := word_len P1
    have ho := out_len P1
    have f3 : binF .Add (.str (wordF P1)) (chr a) = some (.fz (.str (wordF P1 ++ [a]))) := add_str (b := [a]) (by rw [List.length_singleton]; omega)
    have f4 := ne_str [b'] [45]
    have f5 : binF .Add (.str (outP P1)) (chr b') = some (.fz (.str (outP P1 ++ [b']))) := add_str (b := [b']) (by rw [List.length_singleton]; omega)
    have s5 : exS C (.ifs (.cmp .NotEq (.var 13) (.cst (.str [45]))) [.set (.nm 7) (.bin .Add (.var 7) (.var 13))] []) [.fz D, .fz (natP at_), .fz (.str u), .fz (natP kd), .fz (natP n), .ow (partsP (P1 ++ [(a, b')])), .fz (.str (wordF (P1 ++ [(a, b')]))), .fz (.str (outP P1)), .fz (natP pl), .fz (natP m1), .no, .no, .fz (chr a), .fz (chr b')] =
        .nx [.fz D, .fz (natP at_), .fz (.str u), .fz (natP kd), .fz (natP n), .ow (partsP (P1 ++ [(a, b')])), .fz (.str (wordF (P1 ++ [(a, b')]))), .fz (.str (outP (P1 ++ [(a, b')]))), .fz (natP pl), .fz (natP m1), .no, .no, .fz (chr a), .fz (chr b')] := by
      by_cases q : b' = 45
      · subst q
        have f4 : cmpF .NotEq (chr 45) (.str [45]) = some false := f4
        rw [outP_no]
        simp only [ex_ifs, ev_tcmp, ev_var, ev_cst, getS_zero, getS_succ, R.bind_ok, val_fz, Option.bind_some, f4, liftO_some, Fl.ofR_ok, Bool.false_eq_true, if_false, ex_nil]
      · have f4 : cmpF .NotEq (chr b') (.str [45]) = some true := f4.trans (by simp [q])
        rw [outP_in P1 q]
        simp only [ex_ifs, ev_tcmp, ev_bin, ev_var, ev_cst, getS_zero, getS_succ, R.bind_ok, val_fz, Option.bind_some, f4, f5, liftO_some, Fl.ofR_ok, if_true, ex_cons, ex_set, st_nmF, setS_zero, setS_succ, seq_nx, ex_nil]
    refine ⟨P1 ++ [(a, b')], .fz (natP m1), .fz (chr a), .fz (chr b'), Gp_add g1 a2' hb', by rw [List.length_append, List.length_singleton]; omega, ?_⟩
    unfold b2__law_form
    refine seq_step s1 (seq_step s2 (seq_step s3' (seq_step ?_ (ex_nil (C := C)))))
    rw [ex_ifs]
    simp only [ev_tcmp, ev_var, getS_zero, getS_succ, R.bind_ok, val_fz, Option.bind_some, lt, liftO_some, Fl.ofR_ok, if_true]
    refine seq_step (ρ1 := [.fz D, .fz (natP at_), .fz (.str u), .fz (natP kd), .fz (natP n), .ow (partsP P1), .fz (.str (wordF P1)), .fz (.str (outP P1)), .fz (natP pl), .fz (natP m1), .no, .no, .fz (chr a), .no]) ?_ (seq_step (ρ1 := [.fz D, .fz (natP at_), .fz (.str u), .fz (natP kd), .fz (natP n), .ow (partsP P1), .fz (.str (wordF P1)), .fz (.str (outP P1)), .fz (natP pl), .fz (natP m1), .no, .no, .fz (chr a), .fz (chr b)]) ?_ (seq_step s4 (seq_step (ρ1 := [.fz D, .fz (natP at_), .fz (.str u), .fz (natP kd), .fz (natP n), .ow (partsP (P1 ++ [(a, b')])), .fz (.str (wordF P1)), .fz (.str (outP P1)), .fz (natP pl), .fz (natP m1), .no, .no, .fz (chr a), .fz (chr b')]) ?_ (seq_step (ρ1 := [.fz D, .fz (natP at_), .fz (.str u), .fz (natP kd), .fz (natP n), .ow (partsP (P1 ++ [(a, b')])), .fz (.str (wordF (P1 ++ [(a, b')]))), .fz (.str (outP P1)), .fz (natP pl), .fz (natP m1), .no, .no, .fz (chr a), .fz (chr b')]) ?_ (seq_step s5 (ex_nil (C := C)))))))
    · simp only [ex_set, ev_call, ev_cons, ev_nil, ev_bin, ev_ix, ev_blt, ev_var, ev_cst, getS_zero, getS_succ, R.bind_ok, val_fz, seal_fz, Option.bind_some, Option.map_some, sealAll_cons, sealAll_nil, valAll_cons, valAll_nil, c1, c2, c3, liftO_some, u2, outR_ret, a3', Fl.ofR_ok, st_nmF, setS_zero, setS_succ]
    · simp only [ex_set, ev_call, ev_cons, ev_nil, ev_bin, ev_ix, ev_blt, ev_var, ev_cst, getS_zero, getS_succ, R.bind_ok, val_fz, seal_fz, Option.bind_some, Option.map_some, sealAll_cons, sealAll_nil, valAll_cons, valAll_nil, c3, d1, d2, d3, d4, d5, liftO_some, v2, outR_ret, Fl.ofR_ok, st_nmF, setS_zero, setS_succ]
    · simp only [ex_expr, ev_mu, ev_cons, ev_nil, ev_bin, ev_var, getS_zero, getS_succ, R.bind_ok, val_fz, seal_fz, Option.bind_some, Option.map_some, sealAll_cons, sealAll_nil, f1, liftO_some, f2, setS_zero, setS_succ, Fl.ofR_ok]
    · rw [wordF_add P1 b' a1']
      simp only [ex_set, ev_bin, ev_var, getS_zero, getS_succ, R.bind_ok, val_fz, Option.bind_some, f3, liftO_some, Fl.ofR_ok, st_nmF, setS_zero, setS_succ]
  · rw [decide_eq_false hlt] at lt
    refine ⟨P1, .fz (natP m1), .no, .no, g1, by omega, ?_⟩
    unfold b2__law_form
    refine seq_step s1 (seq_step s2 (seq_step s3' (seq_step ?_ (ex_nil (C := C)))))
    rw [ex_ifs]
    simp only [ev_tcmp, ev_var, getS_zero, getS_succ, R.bind_ok, val_fz, Option.bind_some, lt, liftO_some, Fl.ofR_ok, Bool.false_eq_true, if_false, ex_nil]
abbrev formP (P : List (Nat × Nat)) : PV := .tup [.str (formT P), .str (wordF P), .str (outP P)]
theorem form_ok (K : PickOk C D pk) (S : Sg u) {at_ kd : Nat} (ha : at_ ≤ 402) : ∃ P, Gp P ∧ P.length ≤ 700 ∧ outF (exSs C f__law_form.body [.fz D, .fz (natP at_), .fz (.str u), .fz (natP kd), .no, .no, .no, .no, .no, .no, .no, .no, .no, .no]) = .ret (.fz (formP P)) := by
  have s1 : ∃ n, n ≤ 8 ∧ exS C (.set (.nm 4) (.ite (.or (.cmp .Eq (.var 3) (.cst (.int 1))) (.cmp .Eq (.var 3) (.cst (.int 2)))) (.cst (.int 0)) (.call 5 (.cons (.var 0) (.cons (.var 1) (.cons (.cst (.int 9)) .nil)))))) [.fz D, .fz (natP at_), .fz (.str u), .fz (natP kd), .no, .no, .no, .no, .no, .no, .no, .no, .no, .no] =
      .nx [.fz D, .fz (natP at_), .fz (.str u), .fz (natP kd), .fz (natP n), .no, .no, .no, .no, .no, .no, .no, .no, .no] := by
    have ho := ev_or C [.fz D, .fz (natP at_), .fz (.str u), .fz (natP kd), .no, .no, .no, .no, .no, .no, .no, .no, .no, .no] kd 1 2 1 2 rfl rfl rfl
    obtain ⟨u1, u2⟩ := K at_ (by omega) 9 (by omega)
    have u2 : C.fn 5 [D, natP at_, .int 9] = .ret (.fz (natP (pk at_ 9))) := u2
    cases q : (decide (kd = 1) || decide (kd = 2)) with
    | true =>
      rw [q] at ho
      refine ⟨0, by omega, ?_⟩
      simp only [ex_set, ev_ite, ho, R.bind_ok, if_true, ev_cst, Fl.ofR_ok, st_nmF, setS_zero, setS_succ]
      rfl
    | false =>
      rw [q] at ho
      refine ⟨pk at_ 9, by omega, ?_⟩
      simp only [ex_set, ev_ite, ho, R.bind_ok, Bool.false_eq_true, if_false, ev_call, ev_cons, ev_nil, ev_var, ev_cst, getS_zero, getS_succ, val_fz, seal_fz, Option.bind_some, Option.map_some, sealAll_cons, sealAll_nil, u2, outR_ret, Fl.ofR_ok, st_nmF, setS_zero, setS_succ]
  obtain ⟨n, hn, s1⟩ := s1
  obtain ⟨P, ⟨h1, h2⟩, h3⟩ := for_ix (B := bindT (.nm 8)) (body := exSs C b2__law_form) (kill := [8, 9, 10, 11, 12, 13]) (fun P : List (Nat × Nat) => [.fz D, .fz (natP at_), .fz (.str u), .fz (natP kd), .fz (natP n), .ow (partsP P), .fz (.str (wordF P)), .fz (.str (outP P)), .no, .no, .no, .no, .no, .no])
    (fun i P => Gp P ∧ P.length ≤ 41 * i) ((List.range (n + 1)).map natP) 0 [] ⟨fun x hx => absurd hx (by simp), Nat.zero_le _⟩ fun i Q x hx ⟨w1, w2⟩ => by
      obtain ⟨hi, rfl⟩ := natP_get hx
      rw [Nat.zero_add] at w2 ⊢
      obtain ⟨P', s9, s12, s13, g', l', e'⟩ := b2_form K S (at_ := at_) (pl := i) (n := n) (kd := kd) ha (by omega) hn Q w1 (by omega)
      exact ⟨P', ⟨g', by omega⟩, _, rfl, _, .inl e', rfl⟩
  rw [List.length_map, List.length_range, Nat.zero_add] at h2
  refine ⟨P, h1, by omega, ?_⟩
  have a1 : binF .Add (natP n) (.int 1) = some (.fz (natP (n + 1))) := add_natP n 1
  have hj : bmF .join (.str [32]) [partsP P] = some (.fz (.str (formT P))) := by
    have := formT_len P
    refine bm_join (ls := P.map two) rfl ?_
    unfold joinOk
    rw [sum_two, List.length_map, List.length_singleton]
    exact decide_eq_true (small (by omega))
  have nil : ∀ ρ, evE C (.lst .nil) ρ = .ok (.ow (.lst [])) ρ := fun ρ => lst_of (rs := []) rfl rfl (Nat.zero_le _)
  have e : exSs C f__law_form.body [.fz D, .fz (natP at_), .fz (.str u), .fz (natP kd), .no, .no, .no, .no, .no, .no, .no, .no, .no, .no] = .rt (.fz (formP P)) [.fz D, .fz (natP at_), .fz (.str u), .fz (natP kd), .fz (natP n), .ow (partsP P), .fz (.str (wordF P)), .fz (.str (outP P)), .no, .no, .no, .no, .no, .no] := by
    unfold f__law_form
    refine seq_step s1 (seq_step (ρ1 := [.fz D, .fz (natP at_), .fz (.str u), .fz (natP kd), .fz (natP n), .ow (.lst []), .no, .no, .no, .no, .no, .no, .no, .no]) (by rw [ex_set, nil]; rfl) (seq_step (ρ1 := [.fz D, .fz (natP at_), .fz (.str u), .fz (natP kd), .fz (natP n), .ow (.lst []), .fz (.str []), .no, .no, .no, .no, .no, .no, .no]) rfl (seq_step (ρ1 := [.fz D, .fz (natP at_), .fz (.str u), .fz (natP kd), .fz (natP n), .ow (.lst []), .fz (.str []), .fz (.str []), .no, .no, .no, .no, .no, .no]) rfl (seq_step (ρ1 := [.fz D, .fz (natP at_), .fz (.str u), .fz (natP kd), .fz (natP n), .ow (partsP P), .fz (.str (wordF P)), .fz (.str (outP P)), .no, .no, .no, .no, .no, .no]) ?_ ?_))))
    · have i1 : evE C (.bin .Add (.var 4) (.cst (.int 1))) [.fz D, .fz (natP at_), .fz (.str u), .fz (natP kd), .fz (natP n), .ow (.lst []), .fz (.str []), .fz (.str []), .no, .no, .no, .no, .no, .no] = .ok (.fz (natP (n + 1))) [.fz D, .fz (natP at_), .fz (.str u), .fz (natP kd), .fz (natP n), .ow (.lst []), .fz (.str []), .fz (.str []), .no, .no, .no, .no, .no, .no] := by
        simp only [ev_bin, ev_var, ev_cst, getS_zero, getS_succ, R.bind_ok, val_fz, Option.bind_some, a1, liftO_some]
      rw [ex_for, range_natP i1 (by omega), Fl.ofR_ok]
      exact h3
    · have hT : evE C (.tup (.cons (.bm .join (.cst (.str [32])) (.cons (.var 5) .nil)) (.cons (.var 6) (.cons (.var 7) .nil)))) [.fz D, .fz (natP at_), .fz (.str u), .fz (natP kd), .fz (natP n), .ow (partsP P), .fz (.str (wordF P)), .fz (.str (outP P)), .no, .no, .no, .no, .no, .no] = .ok (.fz (formP P)) [.fz D, .fz (natP at_), .fz (.str u), .fz (natP kd), .fz (natP n), .ow (partsP P), .fz (.str (wordF P)), .fz (.str (outP P)), .no, .no, .no, .no, .no, .no] := by
        refine tup_of (rs := [.fz (.str (formT P)), .fz (.str (wordF P)), .fz (.str (outP P))]) ?_ rfl (Nat.le_of_ble_eq_true rfl)
        simp only [ev_bm, ev_cons, ev_nil, ev_var, ev_cst, getS_zero, getS_succ, R.bind_ok, val_br, cont_ow, Option.bind_some, Option.map_some, valAll_cons, valAll_nil, hj, liftO_some]
      simp only [ex_cons, ex_ret, hT, Fl.ofR_ok, seq_rt]
  rw [e]
  rfl
end
end Lw
set_option Elab.async false
set_option linter.all false
set_option maxRecDepth 100000
set_option maxHeartbeats 1000000
namespace Lw
open PySem PySem.Spec PyProof.Rows L2 Mp
structure LawFns (C : Cal) (ns : List Int) (D : PV) (pk : Nat → Nat → Nat) : Prop where
  fD : C.fn 8 [.scr ns, .int 800] = .ret (.ow D)
  K : PickOk C D pk
  sg : ∀ at_ n, at_ ≤ 100 → 0 < n → n ≤ 4 → ∃ u, Sg u ∧ C.fn 9 [D, natP at_, natP n] = .ret (.fz (.str u))
  fm : ∀ u, Sg u → ∀ at_ kd, at_ ≤ 402 → ∃ P, Gp P ∧ P.length ≤ 700 ∧ C.fn 7 [D, natP at_, .str u, natP kd] = .ret (.fz (formP P))
  st : ∀ u, Sg u → C.fn 6 [.str u] = .ret (.fz (.tup ((stepsF u).map .str)))
  du : ∀ u, Sg u → C.fn 4 [.str u] = .ret (.ow (.lst ((stepsF u).map .str)))
  sl : ∀ l : List (List Nat), l.length ≤ 1000 → C.fn 1 [.tup (l.map .str), .lst (l.map .str)] = .ret (.fz (.bl true))
  ss : ∀ a, C.fn 1 [.str a, .str a] = .ret (.fz (.bl true))
  wd : ∀ P, Gp P → P.length ≤ 1000 → C.fn 3 [.str (formT P)] = .ret (.fz (.str (wordF P)))
  op : ∀ P, Gp P → P.length ≤ 1000 → C.fn 2 [.str (formT P)] = .ret (.fz (.str (outP P)))
section
variable {C : Cal} {ns : List Int} {D : PV} {pk : Nat → Nat → Nat}
theorem b2_law_ok (F : LawFns C ns D pk) {u : List Nat} (S : Sg u) (s0 s1 s2 s3 s4 s5 s7 : Slot) : exSs C b2_law [s0, s1, s2, s3, s4, s5, .fz (.str u), s7] = .nx [s0, s1, s2, s3, s4, s5, .fz (.str u), s7] := by
  have a1 := F.st u S
  have a2 := F.du u S
  have a3 := F.sl (stepsF u) (by have := steps_len S; omega)
  have tt : truthF (.bl true) = some true := rfl
  simp only [b2_law, ex_cons, ex_ifs, ev_tnot, ev_tval, ev_call, ev_cons, ev_nil, ev_var, getS_zero, getS_succ, R.bind_ok, val_fz, val_ow, seal_fz, seal_ow, Option.bind_some, Option.map_some, sealAll_cons, sealAll_nil, a1, a2, a3, outR_ret, tt, liftO_some, Bool.not_true, Bool.false_eq_true, if_false, Fl.ofR_ok, ex_nil, seq_nx]
theorem b1_law_ok (F : LawFns C ns D pk) {P : List (Nat × Nat)} (g : Gp P) (hl : P.length ≤ 700) (s0 s1 s2 s3 s4 s5 s6 : Slot) : exSs C b1_law [s0, s1, s2, s3, s4, s5, s6, .fz (formP P)] = .nx [s0, s1, s2, s3, s4, s5, s6, .fz (formP P)] := by
  have a1 := F.wd P g (by omega)
  have a2 := F.op P g (by omega)
  have a3 := F.ss (wordF P)
  have a4 := F.ss (outP P)
  have x0 : ixF (formP P) (.int 0) = some (.str (formT P)) := rfl
  have x1 : ixF (formP P) (.int 1) = some (.str (wordF P)) := rfl
  have x2 : ixF (formP P) (.int 2) = some (.str (outP P)) := rfl
  have tt : truthF (.bl true) = some true := rfl
  generalize formP P = q at x0 x1 x2 ⊢
  simp only [b1_law, ex_cons, ex_ifs, ev_tor, ev_tnot, ev_tval, ev_call, ev_cons, ev_nil, ev_ix, ev_var, ev_cst, getS_zero, getS_succ, R.bind_ok, val_fz, seal_fz, Option.bind_some, Option.map_some, sealAll_cons, sealAll_nil, x0, x1, x2, liftO_some, a1, a2, a3, a4, outR_ret, tt, Bool.not_true, Bool.false_eq_true, if_false, Fl.ofR_ok, ex_nil, seq_nx]
theorem f_law_true (F : LawFns C ns D pk) : outF (exSs C f_law.body [.fz (.scr ns), .no, .no, .no, .no, .no, .no, .no]) = .ret (.fz (.bl true)) := by
  have fD := F.fD
  obtain ⟨a1, a2⟩ := F.K 4 (by omega) 4 (by omega)
  have a2 : C.fn 5 [D, .int 4, .int 4] = .ret (.fz (natP (pk 4 4))) := a2
  have a3 : binF .Add (.int 1) (natP (pk 4 4)) = some (.fz (natP (1 + pk 4 4))) := add_natP 1 _
  obtain ⟨u, S, a4⟩ := F.sg 0 (1 + pk 4 4) (by omega) (by omega) (by omega)
  have a4 : C.fn 9 [D, .int 0, natP (1 + pk 4 4)] = .ret (.fz (.str u)) := a4
  obtain ⟨b1, b2⟩ := F.K 9 (by omega) 4 (by omega)
  have b2 : C.fn 5 [D, .int 9, .int 4] = .ret (.fz (natP (pk 9 4))) := b2
  have b3 : binF .Add (.int 1) (natP (pk 9 4)) = some (.fz (natP (1 + pk 9 4))) := add_natP 1 _
  obtain ⟨v, Sv, b4⟩ := F.sg 5 (1 + pk 9 4) (by omega) (by omega) (by omega)
  have b4 : C.fn 9 [D, .int 5, natP (1 + pk 9 4)] = .ret (.fz (.str v)) := b4
  obtain ⟨c1, c2⟩ := F.K 10 (by omega) 8 (by omega)
  have c2 : C.fn 5 [D, .int 10, .int 8] = .ret (.fz (natP (pk 10 8))) := c2
  obtain ⟨P, gP, lP, c3⟩ := F.fm u S 12 (pk 10 8) (by omega)
  have c3 : C.fn 7 [D, .int 12, .str u, natP (pk 10 8)] = .ret (.fz (formP P)) := c3
  obtain ⟨d1, d2⟩ := F.K 11 (by omega) 8 (by omega)
  have d2 : C.fn 5 [D, .int 11, .int 8] = .ret (.fz (natP (pk 11 8))) := d2
  obtain ⟨Q, gQ, lQ, d3⟩ := F.fm v Sv 402 (pk 11 8) (by omega)
  have d3 : C.fn 7 [D, .int 402, .str v, natP (pk 11 8)] = .ret (.fz (formP Q)) := d3
  have L1 := (for_all (B := bindT (.nm 6)) (body := exSs C b2_law) (kill := [6]) [.fz (.scr ns), .fz D, .fz (.str u), .fz (.str v), .fz (formP P), .fz (formP Q), .no, .no] PV.str (fun _ => true) (.fz (.bl false)) [u, v, u] fun x hx => by
    have Sx : Sg x := by
      rcases List.mem_cons.mp hx with e | hx
      · rw [e]; exact S
      · rcases List.mem_cons.mp hx with e | hx
        · rw [e]; exact Sv
        · rw [List.mem_singleton.mp hx]; exact S
    exact ⟨_, rfl, fun _ => ⟨_, .inl (b2_law_ok F Sx _ _ _ _ _ _ _), rfl⟩, fun e => by cases e⟩).1 rfl
  have L2 := (for_all (B := bindT (.nm 7)) (body := exSs C b1_law) (kill := [7]) [.fz (.scr ns), .fz D, .fz (.str u), .fz (.str v), .fz (formP P), .fz (formP Q), .no, .no] formP (fun _ => true) (.fz (.bl false)) [P, Q, P] fun x hx => by
    have gx : Gp x ∧ x.length ≤ 700 := by
      rcases List.mem_cons.mp hx with e | hx
      · rw [e]; exact ⟨gP, lP⟩
      · rcases List.mem_cons.mp hx with e | hx
        · rw [e]; exact ⟨gQ, lQ⟩
        · rw [List.mem_singleton.mp hx]; exact ⟨gP, lP⟩
    exact ⟨_, rfl, fun _ => ⟨_, .inl (b1_law_ok F gx.1 gx.2 _ _ _ _ _ _ _), rfl⟩, fun e => by cases e⟩).1 rfl
  have I1 : evI C (.val (.lst (.cons (.var 2) (.cons (.var 3) (.cons (.var 2) .nil))))) [.fz (.scr ns), .fz D, .fz (.str u), .fz (.str v), .fz (formP P), .fz (formP Q), .no, .no] = .ok ([u, v, u].map .str) [.fz (.scr ns), .fz D, .fz (.str u), .fz (.str v), .fz (formP P), .fz (formP Q), .no, .no] := by
    have h := lst_of (C := C) (es := .cons (.var 2) (.cons (.var 3) (.cons (.var 2) .nil))) (ρ := [.fz (.scr ns), .fz D, .fz (.str u), .fz (.str v), .fz (formP P), .fz (formP Q), .no, .no]) (rs := [.fz (.str u), .fz (.str v), .fz (.str u)]) rfl rfl (Nat.le_of_ble_eq_true rfl)
    rw [ev_ival, h]
    rfl
  have I2 : evI C (.val (.lst (.cons (.var 4) (.cons (.var 5) (.cons (.var 4) .nil))))) [.fz (.scr ns), .fz D, .fz (.str u), .fz (.str v), .fz (formP P), .fz (formP Q), .no, .no] = .ok ([P, Q, P].map formP) [.fz (.scr ns), .fz D, .fz (.str u), .fz (.str v), .fz (formP P), .fz (formP Q), .no, .no] := by
    have h := lst_of (C := C) (es := .cons (.var 4) (.cons (.var 5) (.cons (.var 4) .nil))) (ρ := [.fz (.scr ns), .fz D, .fz (.str u), .fz (.str v), .fz (formP P), .fz (formP Q), .no, .no]) (rs := [.fz (formP P), .fz (formP Q), .fz (formP P)]) rfl rfl (Nat.le_of_ble_eq_true rfl)
    rw [ev_ival, h]
    rfl
  have e : exSs C f_law.body [.fz (.scr ns), .no, .no, .no, .no, .no, .no, .no] = .rt (.fz (.bl true)) [.fz (.scr ns), .fz D, .fz (.str u), .fz (.str v), .fz (formP P), .fz (formP Q), .no, .no] := by
    unfold f_law
    refine seq_step (ρ1 := [.fz (.scr ns), .ow D, .no, .no, .no, .no, .no, .no]) ?_ ?_
    · simp only [ex_set, ev_call, ev_cons, ev_nil, ev_var, ev_cst, getS_zero, getS_succ, R.bind_ok, val_fz, seal_fz, Option.bind_some, Option.map_some, sealAll_cons, sealAll_nil, fD, outR_ret, Fl.ofR_ok, st_nmO, setS_zero, setS_succ]
    refine seq_step (ρ1 := [.fz (.scr ns), .fz D, .fz (.str u), .no, .no, .no, .no, .no]) ?_ ?_
    · simp only [ex_set, ev_call, ev_cons, ev_nil, ev_bin, ev_var, ev_cst, getS_zero, getS_succ, R.bind_ok, val_fz, val_br, cont_ow, cont_fz, seal_fz, seal_br, Option.bind_some, Option.map_some, sealAll_cons, sealAll_nil, a2, a3, a4, liftO_some, outR_ret, Fl.ofR_ok, st_nmF, setS_zero, setS_succ]
    refine seq_step (ρ1 := [.fz (.scr ns), .fz D, .fz (.str u), .fz (.str v), .no, .no, .no, .no]) ?_ ?_
    · simp only [ex_set, ev_call, ev_cons, ev_nil, ev_bin, ev_var, ev_cst, getS_zero, getS_succ, R.bind_ok, val_fz, seal_fz, Option.bind_some, Option.map_some, sealAll_cons, sealAll_nil, b2, b3, b4, liftO_some, outR_ret, Fl.ofR_ok, st_nmF, setS_zero, setS_succ]
    refine seq_step (ρ1 := [.fz (.scr ns), .fz D, .fz (.str u), .fz (.str v), .fz (formP P), .no, .no, .no]) ?_ ?_
    · simp only [ex_set, ev_call, ev_cons, ev_nil, ev_var, ev_cst, getS_zero, getS_succ, R.bind_ok, val_fz, seal_fz, Option.bind_some, Option.map_some, sealAll_cons, sealAll_nil, c2, c3, outR_ret, Fl.ofR_ok, st_nmF, setS_zero, setS_succ]
    refine seq_step (ρ1 := [.fz (.scr ns), .fz D, .fz (.str u), .fz (.str v), .fz (formP P), .fz (formP Q), .no, .no]) ?_ ?_
    · simp only [ex_set, ev_call, ev_cons, ev_nil, ev_var, ev_cst, getS_zero, getS_succ, R.bind_ok, val_fz, seal_fz, Option.bind_some, Option.map_some, sealAll_cons, sealAll_nil, d2, d3, outR_ret, Fl.ofR_ok, st_nmF, setS_zero, setS_succ]
    refine seq_step (ρ1 := [.fz (.scr ns), .fz D, .fz (.str u), .fz (.str v), .fz (formP P), .fz (formP Q), .no, .no]) ?_ ?_
    · rw [ex_for, I1, Fl.ofR_ok]
      exact L1
    refine seq_step (ρ1 := [.fz (.scr ns), .fz D, .fz (.str u), .fz (.str v), .fz (formP P), .fz (formP Q), .no, .no]) ?_ ?_
    · rw [ex_for, I2, Fl.ofR_ok]
      exact L2
    rfl
  rw [e]
  rfl
end
theorem pick_all {k : Nat} {ds : List Int} (hd : ds.length = 800) : PickOk (prg.cal (k + 1)) (.lst (ds.map .int)) (pkD ds) := fun j hj c hc => ⟨(pick_nat (k := k) (by omega) hc).1, cf (pick_nat (k := k) (by omega) hc).2⟩
theorem steps_of_fn {k : Nat} {P : List (Nat × Nat)} (g : Gp P) (hl : P.length ≤ 1000) : callF prg (k + 1) 10 [.str (formT P)] = .ret (.fz (.tup ((P.map two).map .str))) := by
  rw [call_fn (d := f_steps_of) rfl rfl]
  exact steps_of_ok (prg.cal k) g hl
theorem same_fn {k : Nat} (a : List Nat) : callF prg (k + 1) 1 [.str a, .str a] = .ret (.fz (.bl true)) := by
  rw [call_fn (d := f__law_same) rfl rfl]
  exact (same_str (prg.cal k) a a).trans (by rw [decide_eq_true rfl])
theorem law_true (ns : List Int) (_ : ns.length ≤ 63) : callF prg 8 0 [.scr ns] = .ret (.fz (.bl true)) := by
  obtain ⟨ds, hd, fD⟩ := draws_ok (k := 5) (N := 800) (by omega) ns
  rw [call_fn (k := 7) (d := f_law) rfl rfl]
  refine f_law_true (C := prg.cal 7) (D := .lst (ds.map .int)) (pk := pkD ds) ⟨cf fD, pick_all (k := 6) hd, fun at_ n h1 h2 h3 => ?_, fun u S at_ kd h => ?_, fun u S => ?_, fun u S => ?_, fun l hl => ?_, fun a => cf (same_fn (k := 6) a), fun P g h => ?_, fun P g h => ?_⟩
  · obtain ⟨u, S, e⟩ := signs_ok (prg.cal 6) (.lst (ds.map .int)) (pkD ds) (pick_all (k := 5) hd) at_ n h1 h2 h3
    exact ⟨u, S, cf ((call_fn (k := 6) (d := f__law_signs) rfl rfl).trans e)⟩
  · obtain ⟨P, g, l, e⟩ := form_ok (C := prg.cal 6) (pick_all (k := 5) hd) S (kd := kd) h
    exact ⟨P, g, l, cf ((call_fn (k := 6) (d := f__law_form) rfl rfl).trans e)⟩
  · exact cf ((call_fn (k := 6) (d := f_all_steps) rfl rfl).trans (steps_ok (prg.cal 6) rfl S))
  · exact cf ((call_fn (k := 6) (d := f__law_due) rfl rfl).trans (due_ok (prg.cal 6) S))
  · exact cf ((call_fn (k := 6) (d := f__law_same) rfl rfl).trans (same_list (prg.cal 6) l hl fun a => cf (same_fn (k := 5) a)))
  · exact cf ((call_fn (k := 6) (d := f_word_of) rfl rfl).trans (word_ok (prg.cal 6) rfl h (cf (steps_of_fn (k := 5) g h))))
  · exact cf ((call_fn (k := 6) (d := f_output_of) rfl rfl).trans (output_ok (prg.cal 6) rfl h (cf (steps_of_fn (k := 5) g h))))
end Lw
namespace Lw
open PySem PySem.Spec PyProof.Rows L2 Mp
def clsA (cs : List Addr) : Nat → Addr := fun i => cs.getD i 0
theorem all_mk {l : PySem.W.OpenLaw} {w : World} {K : PySem.W.Frag} {h : Heap} {mg : Str → Option Value} {fa : Addr} (X : K.In h) (G : h.Ns mainGlobals mg) (hfa : mg "law" = some (.ref fa))
    (hlaw : ∀ ns : List Int, ns.length ≤ 63 → callF prg 8 0 [.scr ns] = .ret (.fz (.bl true)))
    {f0 : Addr} {od0 an0 : Option Addr} {sl0 : Array (Option Value)} {oc0 kV0 dc0 pm0 cd0 ct0 : Value} {f1 : Addr} {od1 an1 : Option Addr} {sl1 : Array (Option Value)} {oc1 kV1 dc1 pm1 cd1 ct1 : Value} {f2 : Addr} {od2 an2 : Option Addr} {sl2 : Array (Option Value)} {oc2 kV2 dc2 pm2 cd2 ct2 : Value} {f3 : Addr} {od3 an3 : Option Addr} {sl3 : Array (Option Value)} {oc3 kV3 dc3 pm3 cd3 ct3 : Value} {f4 : Addr} {od4 an4 : Option Addr} {sl4 : Array (Option Value)} {oc4 kV4 dc4 pm4 cd4 ct4 : Value} {f5 : Addr} {od5 an5 : Option Addr} {sl5 : Array (Option Value)} {oc5 kV5 dc5 pm5 cd5 ct5 : Value} {f6 : Addr} {od6 an6 : Option Addr} {sl6 : Array (Option Value)} {oc6 kV6 dc6 pm6 cd6 ct6 : Value} {f7 : Addr} {od7 an7 : Option Addr} {sl7 : Array (Option Value)} {oc7 kV7 dc7 pm7 cd7 ct7 : Value} {f8 : Addr} {od8 an8 : Option Addr} {sl8 : Array (Option Value)} {oc8 kV8 dc8 pm8 cd8 ct8 : Value} {f9 : Addr} {od9 an9 : Option Addr} {sl9 : Array (Option Value)} {oc9 kV9 dc9 pm9 cd9 ct9 : Value} {f10 : Addr} {od10 an10 : Option Addr} {sl10 : Array (Option Value)} {oc10 kV10 dc10 pm10 cd10 ct10 : Value} {f14 : Addr} {od14 an14 : Option Addr} {sl14 : Array (Option Value)} {oc14 kV14 dc14 pm14 cd14 ct14 : Value} {t0 : Tok}
    (a0 : PySem.W.nsIn K mainGlobals "law" = some (some (.ref f0)))
    (l0 : K.lookup f0 = some ⟨oc0, od0, .func (PySem.W.fnOf "law" "law" (defArgs sf_law) (defBody sf_law) (defScope sf_law) .none kV0 dc0 pm0 an0 cd0 ct0), sl0⟩)
    (c0 : PySem.W.codeIn K cd0 "law" = true)
    (k0 : PySem.W.keepIn K (.ref f0) = true)
    (a1 : PySem.W.nsIn K mainGlobals "_law_same" = some (some (.ref f1)))
    (l1 : K.lookup f1 = some ⟨oc1, od1, .func (PySem.W.fnOf "_law_same" "_law_same" (defArgs sf__law_same) (defBody sf__law_same) (defScope sf__law_same) .none kV1 dc1 pm1 an1 cd1 ct1), sl1⟩)
    (c1 : PySem.W.codeIn K cd1 "_law_same" = true)
    (k1 : PySem.W.keepIn K (.ref f1) = true)
    (a2 : PySem.W.nsIn K mainGlobals "output_of" = some (some (.ref f2)))
    (l2 : K.lookup f2 = some ⟨oc2, od2, .func (PySem.W.fnOf "output_of" "output_of" (defArgs sf_output_of) (defBody sf_output_of) (defScope sf_output_of) .none kV2 dc2 pm2 an2 cd2 ct2), sl2⟩)
    (c2 : PySem.W.codeIn K cd2 "output_of" = true)
    (k2 : PySem.W.keepIn K (.ref f2) = true)
    (a3 : PySem.W.nsIn K mainGlobals "word_of" = some (some (.ref f3)))
    (l3 : K.lookup f3 = some ⟨oc3, od3, .func (PySem.W.fnOf "word_of" "word_of" (defArgs sf_word_of) (defBody sf_word_of) (defScope sf_word_of) .none kV3 dc3 pm3 an3 cd3 ct3), sl3⟩)
    (c3 : PySem.W.codeIn K cd3 "word_of" = true)
    (k3 : PySem.W.keepIn K (.ref f3) = true)
    (a4 : PySem.W.nsIn K mainGlobals "_law_due" = some (some (.ref f4)))
    (l4 : K.lookup f4 = some ⟨oc4, od4, .func (PySem.W.fnOf "_law_due" "_law_due" (defArgs sf__law_due) (defBody sf__law_due) (defScope sf__law_due) .none kV4 dc4 pm4 an4 cd4 ct4), sl4⟩)
    (c4 : PySem.W.codeIn K cd4 "_law_due" = true)
    (k4 : PySem.W.keepIn K (.ref f4) = true)
    (a5 : PySem.W.nsIn K mainGlobals "_law_pick" = some (some (.ref f5)))
    (l5 : K.lookup f5 = some ⟨oc5, od5, .func (PySem.W.fnOf "_law_pick" "_law_pick" (defArgs sf__law_pick) (defBody sf__law_pick) (defScope sf__law_pick) .none kV5 dc5 pm5 an5 cd5 ct5), sl5⟩)
    (c5 : PySem.W.codeIn K cd5 "_law_pick" = true)
    (k5 : PySem.W.keepIn K (.ref f5) = true)
    (a6 : PySem.W.nsIn K mainGlobals "all_steps" = some (some (.ref f6)))
    (l6 : K.lookup f6 = some ⟨oc6, od6, .func (PySem.W.fnOf "all_steps" "all_steps" (defArgs sf_all_steps) (defBody sf_all_steps) (defScope sf_all_steps) .none kV6 dc6 pm6 an6 cd6 ct6), sl6⟩)
    (c6 : PySem.W.codeIn K cd6 "all_steps" = true)
    (k6 : PySem.W.keepIn K (.ref f6) = true)
    (a7 : PySem.W.nsIn K mainGlobals "_law_form" = some (some (.ref f7)))
    (l7 : K.lookup f7 = some ⟨oc7, od7, .func (PySem.W.fnOf "_law_form" "_law_form" (defArgs sf__law_form) (defBody sf__law_form) (defScope sf__law_form) .none kV7 dc7 pm7 an7 cd7 ct7), sl7⟩)
    (c7 : PySem.W.codeIn K cd7 "_law_form" = true)
    (k7 : PySem.W.keepIn K (.ref f7) = true)
    (a8 : PySem.W.nsIn K mainGlobals "_law_draws" = some (some (.ref f8)))
    (l8 : K.lookup f8 = some ⟨oc8, od8, .func (PySem.W.fnOf "_law_draws" "_law_draws" (defArgs sf__law_draws) (defBody sf__law_draws) (defScope sf__law_draws) .none kV8 dc8 pm8 an8 cd8 ct8), sl8⟩)
    (c8 : PySem.W.codeIn K cd8 "_law_draws" = true)
    (k8 : PySem.W.keepIn K (.ref f8) = true)
    (a9 : PySem.W.nsIn K mainGlobals "_law_signs" = some (some (.ref f9)))
    (l9 : K.lookup f9 = some ⟨oc9, od9, .func (PySem.W.fnOf "_law_signs" "_law_signs" (defArgs sf__law_signs) (defBody sf__law_signs) (defScope sf__law_signs) .none kV9 dc9 pm9 an9 cd9 ct9), sl9⟩)
    (c9 : PySem.W.codeIn K cd9 "_law_signs" = true)
    (k9 : PySem.W.keepIn K (.ref f9) = true)
    (a10 : PySem.W.nsIn K mainGlobals "steps_of" = some (some (.ref f10)))
    (l10 : K.lookup f10 = some ⟨oc10, od10, .func (PySem.W.fnOf "steps_of" "steps_of" (defArgs sf_steps_of) (defBody sf_steps_of) (defScope sf_steps_of) .none kV10 dc10 pm10 an10 cd10 ct10), sl10⟩)
    (c10 : PySem.W.codeIn K cd10 "steps_of" = true)
    (k10 : PySem.W.keepIn K (.ref f10) = true)
    (a14 : PySem.W.nsIn K mainGlobals "_law_mix" = some (some (.ref f14)))
    (l14 : K.lookup f14 = some ⟨oc14, od14, .func (PySem.W.fnOf "_law_mix" "_law_mix" (defArgs sf__law_mix) (defBody sf__law_mix) (defScope sf__law_mix) .none kV14 dc14 pm14 an14 cd14 ct14), sl14⟩)
    (c14 : PySem.W.codeIn K cd14 "_law_mix" = true)
    (k14 : PySem.W.keepIn K (.ref f14) = true)
    (gc0 : PySem.W.nsIn K mainGlobals "NOTHING" = some (some (.str ⟨#[45]⟩ t0)))
    (z0 : PySem.W.nsIn K mainGlobals "len" = some none)
    (z1 : PySem.W.nsIn K mainGlobals "int" = some none)
    (z2 : PySem.W.nsIn K mainGlobals "abs" = some none)
    (z3 : PySem.W.nsIn K mainGlobals "sum" = some none)
    (z4 : PySem.W.nsIn K mainGlobals "list" = some none)
    (z5 : PySem.W.nsIn K mainGlobals "tuple" = some none)
    (z6 : PySem.W.nsIn K mainGlobals "min" = some none)
    (z7 : PySem.W.nsIn K mainGlobals "max" = some none)
    (z8 : PySem.W.nsIn K mainGlobals "any" = some none)
    (z9 : PySem.W.nsIn K mainGlobals "all" = some none)
    (z10 : PySem.W.nsIn K mainGlobals "range" = some none)
    (z11 : PySem.W.nsIn K mainGlobals "enumerate" = some none)
    (z12 : PySem.W.nsIn K mainGlobals "zip" = some none)
    (z13 : PySem.W.nsIn K mainGlobals "reversed" = some none)
    (z14 : PySem.W.nsIn K mainGlobals "isinstance" = some none)
    (z15 : PySem.W.nsIn K mainGlobals "bool" = some none)
    (z16 : PySem.W.nsIn K mainGlobals "str" = some none)
    (z17 : PySem.W.nsIn K mainGlobals "sorted" = some none)
    : ∃ fd : FuncData, (∀ (s : Shared) (v : Value), BindsTo s fd ⟨[v], []⟩ [("script", v)]) ∧ ∀ base : Heap, K.In base → base.Ns mainGlobals mg → FnOk l.prog w K mg base (L2.CX l.prog w) 8 fa fd ["script"] (spLaw K 63) := by
  have e := hfa.symm.trans (PySem.W.mg_of X G a0)
  cases e
  have F0 := fun_mk (st := sf_law) l0 c0 k0
  have D0 : DefIs K chk false f_law _ _ ["script"] sf_law ["script", "draws", "signs", "others", "first", "second", "alphabet", "form"] := ⟨⟨_, _, F0⟩, F0.binds (ps := ["script"]) fun _ _ _ _ _ _ us hl => match us, hl with | [_], _ => rfl, scf_law, rfl, rfl, by decide, okf_law⟩
  have F1 := fun_mk (st := sf__law_same) l1 c1 k1
  have D1 : DefIs K chk false f__law_same _ _ ["actual", "due"] sf__law_same ["actual", "due", "k"] := ⟨⟨_, _, F1⟩, F1.binds (ps := ["actual", "due"]) fun _ _ _ _ _ _ us hl => match us, hl with | [_, _], _ => rfl, scf__law_same, rfl, rfl, by decide, okf__law_same⟩
  have F2 := fun_mk (st := sf_output_of) l2 c2 k2
  have D2 : DefIs K chk false f_output_of _ _ ["form"] sf_output_of ["form", "step"] := ⟨⟨_, _, F2⟩, F2.binds (ps := ["form"]) fun _ _ _ _ _ _ us hl => match us, hl with | [_], _ => rfl, scf_output_of, rfl, rfl, by decide, okf_output_of⟩
  have F3 := fun_mk (st := sf_word_of) l3 c3 k3
  have D3 : DefIs K chk false f_word_of _ _ ["form"] sf_word_of ["form", "step"] := ⟨⟨_, _, F3⟩, F3.binds (ps := ["form"]) fun _ _ _ _ _ _ us hl => match us, hl with | [_], _ => rfl, scf_word_of, rfl, rfl, by decide, okf_word_of⟩
  have F4 := fun_mk (st := sf__law_due) l4 c4 k4
  have D4 : DefIs K chk false f__law_due _ _ ["signs"] sf__law_due ["signs", "told", "sign", "other"] := ⟨⟨_, _, F4⟩, F4.binds (ps := ["signs"]) fun _ _ _ _ _ _ us hl => match us, hl with | [_], _ => rfl, scf__law_due, rfl, rfl, by decide, okf__law_due⟩
  have F5 := fun_mk (st := sf__law_pick) l5 c5 k5
  have D5 : DefIs K chk false f__law_pick _ _ ["draws", "k", "many"] sf__law_pick ["draws", "k", "many"] := ⟨⟨_, _, F5⟩, F5.binds (ps := ["draws", "k", "many"]) fun _ _ _ _ _ _ us hl => match us, hl with | [_, _, _], _ => rfl, scf__law_pick, rfl, rfl, by decide, okf__law_pick⟩
  have F6 := fun_mk (st := sf_all_steps) l6 c6 k6
  have D6 : DefIs K chk false f_all_steps _ _ ["signs"] sf_all_steps ["signs", "parts", "first", "second"] := ⟨⟨_, _, F6⟩, F6.binds (ps := ["signs"]) fun _ _ _ _ _ _ us hl => match us, hl with | [_], _ => rfl, scf_all_steps, rfl, rfl, by decide, okf_all_steps⟩
  have F7 := fun_mk (st := sf__law_form) l7 c7 k7
  have D7 : DefIs K chk false f__law_form _ _ ["draws", "at", "signs", "kind"] sf__law_form ["draws", "at", "signs", "kind", "count", "parts", "word", "output", "place", "many", "k", "sign", "said", "heard"] := ⟨⟨_, _, F7⟩, F7.binds (ps := ["draws", "at", "signs", "kind"]) fun _ _ _ _ _ _ us hl => match us, hl with | [_, _, _, _], _ => rfl, scf__law_form, rfl, rfl, by decide, okf__law_form⟩
  have F8 := fun_mk (st := sf__law_draws) l8 c8 k8
  have D8 : DefIs K chk false f__law_draws _ _ ["script", "many"] sf__law_draws ["script", "many", "told", "cell", "rest", "k", "seed"] := ⟨⟨_, _, F8⟩, F8.binds (ps := ["script", "many"]) fun _ _ _ _ _ _ us hl => match us, hl with | [_, _], _ => rfl, scf__law_draws, rfl, rfl, by decide, okf__law_draws⟩
  have F9 := fun_mk (st := sf__law_signs) l9 c9 k9
  have D9 : DefIs K chk false f__law_signs _ _ ["draws", "at", "count"] sf__law_signs ["draws", "at", "count", "left", "taken", "k"] := ⟨⟨_, _, F9⟩, F9.binds (ps := ["draws", "at", "count"]) fun _ _ _ _ _ _ us hl => match us, hl with | [_, _, _], _ => rfl, scf__law_signs, rfl, rfl, by decide, okf__law_signs⟩
  have F10 := fun_mk (st := sf_steps_of) l10 c10 k10
  have D10 : DefIs K chk false f_steps_of _ _ ["form"] sf_steps_of ["form"] := ⟨⟨_, _, F10⟩, F10.binds (ps := ["form"]) fun _ _ _ _ _ _ us hl => match us, hl with | [_], _ => rfl, scf_steps_of, rfl, rfl, by decide, okf_steps_of⟩
  have F14 := fun_mk (st := sf__law_mix) l14 c14 k14
  have D14 : DefIs K chk false f__law_mix _ _ ["cell", "k"] sf__law_mix ["cell", "k", "once", "twice", "third"] := ⟨⟨_, _, F14⟩, F14.binds (ps := ["cell", "k"]) fun _ _ _ _ _ _ us hl => match us, hl with | [_, _], _ => rfl, scf__law_mix, rfl, rfl, by decide, okf__law_mix⟩
  have fx : ∀ i n j, prg.fx i n = some j → ∃ x, chk.atN[n]? = some x ∧ (flds i)[j]? = some x ∧ (flds i).Nodup ∧ (flds i).length ≤ 900 ∧ Cls K (clsA [] i) ∧ NoAttr K (clsA [] i) x := by
    intro i n j e
    · cases e
  have T : Top chk prg ⟨K, clsA [], flds⟩ K mg := by
    refine ⟨rfl, ?_, AllAt.get0 ?_, AllAt.get0 ?_, AllAt.get0 ?_, ?_, fx⟩
    · intro x hx
      have A : AllAt (fun _ x => mg x = none) 0 bltNames := ⟨PySem.W.mg_none_of X G z0, PySem.W.mg_none_of X G z1, PySem.W.mg_none_of X G z2, PySem.W.mg_none_of X G z3, PySem.W.mg_none_of X G z4, PySem.W.mg_none_of X G z5, PySem.W.mg_none_of X G z6, PySem.W.mg_none_of X G z7, PySem.W.mg_none_of X G z8, PySem.W.mg_none_of X G z9, PySem.W.mg_none_of X G z10, PySem.W.mg_none_of X G z11, PySem.W.mg_none_of X G z12, PySem.W.mg_none_of X G z13, PySem.W.mg_none_of X G z14, PySem.W.mg_none_of X G z15, PySem.W.mg_none_of X G z16, PySem.W.mg_none_of X G z17, trivial⟩
      exact (A.mem hx).choose_spec
    · exact ⟨⟨_, .str ⟨#[45]⟩, PySem.W.mg_of X G gc0, ⟨_, rfl⟩, rep_str.mpr ⟨rfl, okStr_of (by decide +kernel)⟩⟩, trivial⟩
    · exact ⟨⟨f_law, _, _, _, _, _, rfl, PySem.W.mg_of X G a0, D0⟩,
        ⟨f__law_same, _, _, _, _, _, rfl, PySem.W.mg_of X G a1, D1⟩,
        ⟨f_output_of, _, _, _, _, _, rfl, PySem.W.mg_of X G a2, D2⟩,
        ⟨f_word_of, _, _, _, _, _, rfl, PySem.W.mg_of X G a3, D3⟩,
        ⟨f__law_due, _, _, _, _, _, rfl, PySem.W.mg_of X G a4, D4⟩,
        ⟨f__law_pick, _, _, _, _, _, rfl, PySem.W.mg_of X G a5, D5⟩,
        ⟨f_all_steps, _, _, _, _, _, rfl, PySem.W.mg_of X G a6, D6⟩,
        ⟨f__law_form, _, _, _, _, _, rfl, PySem.W.mg_of X G a7, D7⟩,
        ⟨f__law_draws, _, _, _, _, _, rfl, PySem.W.mg_of X G a8, D8⟩,
        ⟨f__law_signs, _, _, _, _, _, rfl, PySem.W.mg_of X G a9, D9⟩,
        ⟨f_steps_of, _, _, _, _, _, rfl, PySem.W.mg_of X G a10, D10⟩,
        ⟨f_law, _, _, _, _, _, rfl, PySem.W.mg_of X G a0, D0⟩,
        ⟨f_law, _, _, _, _, _, rfl, PySem.W.mg_of X G a0, D0⟩,
        ⟨f_law, _, _, _, _, _, rfl, PySem.W.mg_of X G a0, D0⟩,
        ⟨f__law_mix, _, _, _, _, _, rfl, PySem.W.mg_of X G a14, D14⟩,
        trivial⟩
    · trivial
    · intro ci j e
      cases e
  exact ⟨_, fun s v => .of_eq rfl, fun base _ _ => law_ok T rfl D0 rfl hlaw⟩
end Lw
open PySem PySem.W PyProof.Rows
set_option maxRecDepth 100000 in
set_option maxHeartbeats 0 in
theorem PySem.Challenge.cw_rankedtongues_k00_steps_words_outputs_holds : PySem.Challenge.rw_rankedtongues_k00_steps_words_outputs.Holds := by
  w_on; o_law; k_head; (case hw => w_witness2)
  k_fill
  refine Mp.walk (l := PySem.Challenge.rw_rankedtongues_k00_steps_words_outputs) (n := 63) (k := 8) (x := "script") rfl (by decide) rfl ⟨rfl, by decide, by decide⟩ (fun w h Y => PySem.W.kIn_of Y) ?F
  case F =>
    intro w mg fa h KX G hmg
    refine' Lw.all_mk KX G hmg Lw.law_true ?a0 ?l0 ?c0 ?k0 ?a1 ?l1 ?c1 ?k1 ?a2 ?l2 ?c2 ?k2 ?a3 ?l3 ?c3 ?k3 ?a4 ?l4 ?c4 ?k4 ?a5 ?l5 ?c5 ?k5 ?a6 ?l6 ?c6 ?k6 ?a7 ?l7 ?c7 ?k7 ?a8 ?l8 ?c8 ?k8 ?a9 ?l9 ?c9 ?k9 ?a10 ?l10 ?c10 ?k10 ?a14 ?l14 ?c14 ?k14 ?gc0 ?z0 ?z1 ?z2 ?z3 ?z4 ?z5 ?z6 ?z7 ?z8 ?z9 ?z10 ?z11 ?z12 ?z13 ?z14 ?z15 ?z16 ?z17
    (case a0 => k_is); (case l0 => k_is); (case c0 => k_is); (case k0 => k_is); (case a1 => k_is); (case l1 => k_is)
    (case c1 => k_is); (case k1 => k_is); (case a2 => k_is); (case l2 => k_is); (case c2 => k_is); (case k2 => k_is)
    (case a3 => k_is); (case l3 => k_is); (case c3 => k_is); (case k3 => k_is); (case a4 => k_is); (case l4 => k_is)
    (case c4 => k_is); (case k4 => k_is); (case a5 => k_is); (case l5 => k_is); (case c5 => k_is); (case k5 => k_is)
    (case a6 => k_is); (case l6 => k_is); (case c6 => k_is); (case k6 => k_is); (case a7 => k_is); (case l7 => k_is)
    (case c7 => k_is); (case k7 => k_is); (case a8 => k_is); (case l8 => k_is); (case c8 => k_is); (case k8 => k_is)
    (case a9 => k_is); (case l9 => k_is); (case c9 => k_is); (case k9 => k_is); (case a10 => k_is); (case l10 => k_is)
    (case c10 => k_is); (case k10 => k_is); (case a14 => k_is); (case l14 => k_is); (case c14 => k_is); (case k14 => k_is)
    (case gc0 => k_is); (case z0 => k_is); (case z1 => k_is); (case z2 => k_is); (case z3 => k_is); (case z4 => k_is)
    (case z5 => k_is); (case z6 => k_is); (case z7 => k_is); (case z8 => k_is); (case z9 => k_is); (case z10 => k_is)
    (case z11 => k_is); (case z12 => k_is); (case z13 => k_is); (case z14 => k_is); (case z15 => k_is); (case z16 => k_is)
    (case z17 => k_is)
