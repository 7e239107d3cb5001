import PyProof.Rows.All
import Wide.All
import OpenK.AllK
import Wide.FinOn
import HandS.ForMost
import HandS.ForExc
import HandS.Wide
import HandS.Style
import HandS.Strs
import HandS.StrMore
import HandS.Deep
import PyProof.Rows.StrRev
import HandS.CallSlots
import HandS.WordsExc
import HandS.Words
import HandS.Small
import HandS.Replace
import HandS.RaiseMore
import HandS.IsInst
import HandS.ExcInit
import HandS.ExcField
import HandS.ExcIs
import KE.KExcSuper
import KE.KSuper
import HandS.HotCalls
import KE.DataMinMax
import KE.DatumOrd
import HandS.Defaults
import HandS.HeadHook2
import KE.KStateDown
import HandS.Head0
import HandS.Head1
import HandS.Head2
import HandS.HeadEnd
import HandS.EndBits
import PySem.Challenge.RW_leapcard_k01_turns_and_mirrors
section
set_option Elab.async false
set_option linter.all false
set_option maxRecDepth 100000
set_option maxHeartbeats 1000000
namespace Lc
open PySem L2

/-- how a container node is held: own cell | frozen for good | borrowed for this activation -/
inductive Fl where
  | own | frz | bor
  deriving DecidableEq

/-- the kinds of containers -/
inductive Kd where
  | lst
  | scr
  | dct (ks : List Key)
  | dcT (ks : List (List Key))
  | obj (c : Nat) (ns : List Str)

/-- tree values -/
inductive D where
  | non | bl (b : Bool) | int (i : Int) | str (s : List Nat) | ty (n : String)
  | tup (xs : List D)
  | nd (k : Kd) (f : Fl) (xs : List D)
  | exn (c : Nat) (n : Str) (x : D)

def leH (A B : Hp) : Prop := ∀ a o, A a = some o → B a = some o
def noH : Hp := fun _ => none
theorem leH.refl (A : Hp) : leH A A := fun _ _ h => h
theorem leH.trans {A B C : Hp} (a : leH A B) (b : leH B C) : leH A C := fun x o h => b x o (a x o h)
theorem noH_le (A : Hp) : leH noH A := fun _ _ h => by cases h

/-- the static part: the written fragment, where the classes stand, what an exception is -/
structure Gs where
  K : PySem.W.Frag
  G : Nat → Addr
  ex : Nat → Addr → Addr → Prop

/-- a cell of a kind that may be read in A -/
def Cell (g : Gs) (A : Hp) : Kd → Addr → List V → Prop
  | .lst, p, vs => A p = some (.lst vs)
  | .scr, p, vs => SqL g.K A p vs
  | .dct ks, p, vs => ks.length = vs.length ∧ Rd A p (.dK (ks.zip vs))
  | .dcT ks, p, vs => ks.length = vs.length ∧ Rd A p (.dT (ks.zip vs))
  | .obj c ns, p, vs => ns.length = vs.length ∧ ∃ dx, A p = some (.ins (g.G c) dx (ns.zip vs))
/-- a cell of a kind that stands in H by itself -/
def OwnC (g : Gs) (H : Hp) : Kd → Addr → List V → Prop
  | .lst, p, vs => H p = some (.lst vs)
  | .scr, p, vs => False
  | .dct ks, p, vs => ks.length = vs.length ∧ H p = some (.dK (ks.zip vs))
  | .dcT ks, p, vs => ks.length = vs.length ∧ H p = some (.dT (ks.zip vs))
  | .obj c ns, p, vs => ns.length = vs.length ∧ ∃ dx, H p = some (.ins (g.G c) dx (ns.zip vs))

theorem leH.rd {A A' : Hp} {p : Addr} {u : HO} (h : leH A A') (x : Rd A p u) : Rd A' p u := by
  rcases x with x | ⟨o, x⟩
  · exact .inl (h _ _ x)
  · exact .inr ⟨o, h _ _ x⟩
theorem leH.sqL {K : PySem.W.Frag} {A A' : Hp} {p : Addr} {vs : List V} (h : leH A A') (x : SqL K A p vs) : SqL K A' p vs := by
  rcases x with x | x
  · exact .inl (h.rd x)
  · exact .inr x
theorem leH.sqT {K : PySem.W.Frag} {A A' : Hp} {p : Addr} {vs : List V} (h : leH A A') (x : SqT K A p vs) : SqT K A' p vs := by
  rcases x with x | x
  · exact .inl (h.rd x)
  · exact .inr x
theorem Cell.mono {g : Gs} {A A' : Hp} (h : leH A A') : ∀ {k : Kd} {p : Addr} {vs : List V}, Cell g A k p vs → Cell g A' k p vs
  | .lst, _, _, x => h _ _ x
  | .scr, _, _, x => h.sqL x
  | .dct _, _, _, x => ⟨x.1, h.rd x.2⟩
  | .dcT _, _, _, x => ⟨x.1, h.rd x.2⟩
  | .obj _ _, _, _, x => by
    obtain ⟨e, dx, x⟩ := x
    exact ⟨e, dx, h _ _ x⟩
theorem OwnC.cell {g : Gs} {A : Hp} : ∀ {k : Kd} {p : Addr} {vs : List V}, OwnC g A k p vs → Cell g A k p vs
  | .lst, _, _, x => x
  | .scr, _, _, x => x.elim
  | .dct _, _, _, x => ⟨x.1, .inl x.2⟩
  | .dcT _, _, _, x => ⟨x.1, .inl x.2⟩
  | .obj _ _, _, _, x => x
theorem OwnC.some {g : Gs} {A : Hp} : ∀ {k : Kd} {p : Addr} {vs : List V}, OwnC g A k p vs → ∃ o, A p = some o
  | .lst, _, _, x => ⟨_, x⟩
  | .scr, _, _, x => x.elim
  | .dct _, _, _, x => ⟨_, x.2⟩
  | .dcT _, _, _, x => ⟨_, x.2⟩
  | .obj _ _, _, _, x => by
    obtain ⟨e, dx, x⟩ := x
    exact ⟨_, x⟩
theorem OwnC.at {g : Gs} {A A' : Hp} {p : Addr} (h : A' p = A p) : ∀ {k : Kd} {vs : List V}, OwnC g A k p vs → OwnC g A' k p vs
  | .lst, _, x => h.trans x
  | .scr, _, x => x.elim
  | .dct _, _, x => ⟨x.1, h.trans x.2⟩
  | .dcT _, _, x => ⟨x.1, h.trans x.2⟩
  | .obj _ _, _, x => by
    obtain ⟨e, dx, x⟩ := x
    exact ⟨e, dx, h.trans x⟩

/-- a tuple: made here, or (without own cells) any that may be read -/
def TupC (g : Gs) (I : Hp) (p : Addr) (vs : List V) (fp : List Addr) : Prop := I p = some (.tup vs) ∨ (fp = [] ∧ SqT g.K I p vs)
theorem TupC.mono {g : Gs} {I I' : Hp} {p : Addr} {vs : List V} {fp : List Addr} (i : leH I I') (h : TupC g I p vs fp) : TupC g I' p vs fp := by
  rcases h with h | ⟨e, h⟩
  · exact .inl (i _ _ h)
  · exact .inr ⟨e, i.sqT h⟩
theorem TupC.sq {g : Gs} {I : Hp} {p : Addr} {vs : List V} {fp : List Addr} (h : TupC g I p vs fp) : SqT g.K I p vs := by
  rcases h with h | ⟨e, h⟩
  · exact .inl (.inl h)
  · exact h
theorem TupC.nil {g : Gs} {I : Hp} {p : Addr} {vs : List V} {fp : List Addr} (h : TupC g I p vs fp) : TupC g I p vs [] := .inr ⟨rfl, h.sq⟩

mutual
/-- the value v stands for the tree d; I: frozen cells, B: borrowed cells, H: the heap; fp: the own cells of the tree -/
def R (g : Gs) (I B H : Hp) : D → V → List Addr → Prop
  | .non, v, fp => v = .non ∧ fp = []
  | .bl b, v, fp => v = .bl b ∧ fp = []
  | .int i, v, fp => v = .int i ∧ fp = []
  | .str s, v, fp => v = .str ⟨s.toArray⟩ ∧ fp = []
  | .ty n, v, fp => v = .ty n ∧ fp = []
  | .tup xs, v, fp => ∃ p vs, v = .ref p ∧ TupC g I p vs fp ∧ RL g I B H xs vs fp
  | .nd k .own xs, v, fp => ∃ p vs fq, v = .ref p ∧ fp = p :: fq ∧ OwnC g H k p vs ∧ RL g I B H xs vs fq
  | .nd k .frz xs, v, fp => ∃ p vs, v = .ref p ∧ fp = [] ∧ Cell g I k p vs ∧ RL g I noH noH xs vs []
  | .nd k .bor xs, v, fp => ∃ p vs, v = .ref p ∧ fp = [] ∧ Cell g B k p vs ∧ RL g I B noH xs vs []
  | .exn c n x, v, fp => ∃ a d w, v = .ref a ∧ fp = [] ∧ g.ex c a d ∧ I d = some (.xd [(n, w)]) ∧ R g I noH noH x w []
def RL (g : Gs) (I B H : Hp) : List D → List V → List Addr → Prop
  | [], vs, fp => vs = [] ∧ fp = []
  | x :: xs, vs, fp => ∃ v vr f1 f2, vs = v :: vr ∧ fp = f1 ++ f2 ∧ R g I B H x v f1 ∧ RL g I B H xs vr f2
end

theorem RL.length {g : Gs} {I B H : Hp} : ∀ {xs : List D} {vs : List V} {fp : List Addr}, RL g I B H xs vs fp → vs.length = xs.length
  | [], vs, fp, h => by
    rw [RL] at h
    rw [h.1]
    rfl
  | x :: xs, vs, fp, h => by
    rw [RL] at h
    obtain ⟨v, vr, f1, f2, rfl, _, _, h⟩ := h
    rw [List.length_cons, List.length_cons, h.length]

mutual
/-- the tree's own cells stand in H -/
theorem R.there {g : Gs} {I B H : Hp} : ∀ (d : D) {v : V} {fp : List Addr}, R g I B H d v fp → ∀ a ∈ fp, ∃ o, H a = some o
  | .non, _, _, h, a, ha => by rw [R] at h; rw [h.2] at ha; cases ha
  | .bl _, _, _, h, a, ha => by rw [R] at h; rw [h.2] at ha; cases ha
  | .int _, _, _, h, a, ha => by rw [R] at h; rw [h.2] at ha; cases ha
  | .str _, _, _, h, a, ha => by rw [R] at h; rw [h.2] at ha; cases ha
  | .ty _, _, _, h, a, ha => by rw [R] at h; rw [h.2] at ha; cases ha
  | .tup xs, _, _, h, a, ha => by
    rw [R] at h
    obtain ⟨p, vs, _, _, h⟩ := h
    exact RL.there xs h a ha
  | .nd k .own xs, _, _, h, a, ha => by
    rw [R] at h
    obtain ⟨p, vs, fq, _, rfl, c, h⟩ := h
    rcases List.mem_cons.mp ha with rfl | ha
    · exact c.some
    · exact RL.there xs h a ha
  | .nd k .frz xs, _, _, h, a, ha => by
    rw [R] at h
    obtain ⟨p, vs, _, rfl, _⟩ := h
    cases ha
  | .nd k .bor xs, _, _, h, a, ha => by
    rw [R] at h
    obtain ⟨p, vs, _, rfl, _⟩ := h
    cases ha
  | .exn c n x, _, _, h, a, ha => by
    rw [R] at h
    obtain ⟨p, d, w, _, rfl, _⟩ := h
    cases ha
theorem RL.there {g : Gs} {I B H : Hp} : ∀ (xs : List D) {vs : List V} {fp : List Addr}, RL g I B H xs vs fp → ∀ a ∈ fp, ∃ o, H a = some o
  | [], _, _, h, a, ha => by rw [RL] at h; rw [h.2] at ha; cases ha
  | x :: xs, _, _, h, a, ha => by
    rw [RL] at h
    obtain ⟨v, vr, f1, f2, _, rfl, h1, h2⟩ := h
    rcases List.mem_append.mp ha with ha | ha
    · exact R.there x h1 a ha
    · exact RL.there xs h2 a ha
end

mutual
/-- the tree stays: what is frozen and borrowed grows, the own cells are as they were -/
theorem R.keep {g : Gs} : ∀ (d : D) {I B H I' B' H' : Hp} {v : V} {fp : List Addr}, R g I B H d v fp → leH I I' → leH B B' → (∀ a ∈ fp, H' a = H a) → R g I' B' H' d v fp
  | .non, _, _, _, _, _, _, _, _, h, _, _, _ => by rw [R] at h ⊢; exact h
  | .bl _, _, _, _, _, _, _, _, _, h, _, _, _ => by rw [R] at h ⊢; exact h
  | .int _, _, _, _, _, _, _, _, _, h, _, _, _ => by rw [R] at h ⊢; exact h
  | .str _, _, _, _, _, _, _, _, _, h, _, _, _ => by rw [R] at h ⊢; exact h
  | .ty _, _, _, _, _, _, _, _, _, h, _, _, _ => by rw [R] at h ⊢; exact h
  | .tup xs, _, _, _, _, _, _, _, _, h, i, b, k => by
    rw [R] at h ⊢
    obtain ⟨p, vs, e, t, h⟩ := h
    exact ⟨p, vs, e, t.mono i, RL.keep xs h i b k⟩
  | .nd kd .own xs, _, _, _, _, _, _, _, _, h, i, b, k => by
    rw [R] at h ⊢
    obtain ⟨p, vs, fq, e, rfl, c, h⟩ := h
    exact ⟨p, vs, fq, e, rfl, c.at (k p (List.mem_cons_self ..)), RL.keep xs h i b fun a ha => k a (List.mem_cons_of_mem _ ha)⟩
  | .nd kd .frz xs, _, _, _, _, _, _, _, _, h, i, b, k => by
    rw [R] at h ⊢
    obtain ⟨p, vs, e, e2, c, h⟩ := h
    exact ⟨p, vs, e, e2, c.mono i, RL.keep xs h i (leH.refl _) fun a ha => by cases ha⟩
  | .nd kd .bor xs, _, _, _, _, _, _, _, _, h, i, b, k => by
    rw [R] at h ⊢
    obtain ⟨p, vs, e, e2, c, h⟩ := h
    exact ⟨p, vs, e, e2, c.mono b, RL.keep xs h i b fun a ha => by cases ha⟩
  | .exn c n x, _, _, _, _, _, _, _, _, h, i, b, k => by
    rw [R] at h ⊢
    obtain ⟨p, d, w, e, e2, h1, h2, h3⟩ := h
    exact ⟨p, d, w, e, e2, h1, i _ _ h2, R.keep x h3 i (leH.refl _) fun a ha => by cases ha⟩
theorem RL.keep {g : Gs} : ∀ (xs : List D) {I B H I' B' H' : Hp} {vs : List V} {fp : List Addr}, RL g I B H xs vs fp → leH I I' → leH B B' → (∀ a ∈ fp, H' a = H a) → RL g I' B' H' xs vs fp
  | [], _, _, _, _, _, _, _, _, h, _, _, _ => by rw [RL] at h ⊢; exact h
  | x :: xs, _, _, _, _, _, _, _, _, h, i, b, k => by
    rw [RL] at h ⊢
    obtain ⟨v, vr, f1, f2, e, rfl, h1, h2⟩ := h
    exact ⟨v, vr, f1, f2, e, rfl, R.keep x h1 i b fun a ha => k a (List.mem_append_left _ ha), RL.keep xs h2 i b fun a ha => k a (List.mem_append_right _ ha)⟩
end

/-! ### flags -/
mutual
/-- as an argument is seen by the callee -/
def bor : D → D
  | .tup xs => .tup (borL xs)
  | .nd (.obj c ns) .own xs => .nd (.obj c ns) .bor (borL xs)
  | .nd (.obj c ns) .frz xs => .nd (.obj c ns) .frz xs
  | .nd (.obj c ns) .bor xs => .nd (.obj c ns) .bor xs
  | .nd k _ xs => .nd k .bor (borL xs)
  | .non => .non | .bl b => .bl b | .int i => .int i | .str s => .str s | .ty n => .ty n | .exn c n x => .exn c n x
def borL : List D → List D
  | [] => []
  | x :: xs => bor x :: borL xs
end
mutual
/-- frozen for good -/
def frz : D → D
  | .tup xs => .tup (frzL xs)
  | .nd k .own xs => .nd k .frz (frzL xs)
  | .nd k .frz xs => .nd k .frz xs
  | .nd k .bor xs => .nd k .bor xs
  | .non => .non | .bl b => .bl b | .int i => .int i | .str s => .str s | .ty n => .ty n | .exn c n x => .exn c n x
def frzL : List D → List D
  | [] => []
  | x :: xs => frz x :: frzL xs
end
mutual
/-- nothing borrowed is in it -/
def noBor : D → Bool
  | .tup xs => noBorL xs
  | .nd _ .own xs => noBorL xs
  | .nd _ .frz _ => true
  | .nd _ .bor _ => false
  | .non => true | .bl _ => true | .int _ => true | .str _ => true | .ty _ => true | .exn _ _ _ => true
def noBorL : List D → Bool
  | [] => true
  | x :: xs => noBor x && noBorL xs
end
mutual
/-- nothing own is in it -/
def noOwn : D → Bool
  | .tup xs => noOwnL xs
  | .nd _ .own _ => false
  | .nd _ .frz _ => true
  | .nd _ .bor _ => true
  | .non => true | .bl _ => true | .int _ => true | .str _ => true | .ty _ => true | .exn _ _ _ => true
def noOwnL : List D → Bool
  | [] => true
  | x :: xs => noOwn x && noOwnL xs
end

theorem borL_map : ∀ xs : List D, borL xs = xs.map bor
  | [] => rfl
  | x :: xs => by rw [borL, List.map_cons, borL_map xs]
theorem frzL_map : ∀ xs : List D, frzL xs = xs.map frz
  | [] => rfl
  | x :: xs => by rw [frzL, List.map_cons, frzL_map xs]
theorem noBorL_all : ∀ xs : List D, noBorL xs = xs.all noBor
  | [] => rfl
  | x :: xs => by rw [noBorL, List.all_cons, noBorL_all xs]
theorem noOwnL_all : ∀ xs : List D, noOwnL xs = xs.all noOwn
  | [] => rfl
  | x :: xs => by rw [noOwnL, List.all_cons, noOwnL_all xs]

mutual
theorem R.noOwn {g : Gs} : ∀ (d : D) {I B H : Hp} {v : V} {fp : List Addr}, R g I B H d v fp → noOwn d = true → fp = []
  | .non, _, _, _, _, _, h, _ => by rw [R] at h; exact h.2
  | .bl _, _, _, _, _, _, h, _ => by rw [R] at h; exact h.2
  | .int _, _, _, _, _, _, h, _ => by rw [R] at h; exact h.2
  | .str _, _, _, _, _, _, h, _ => by rw [R] at h; exact h.2
  | .ty _, _, _, _, _, _, h, _ => by rw [R] at h; exact h.2
  | .tup xs, _, _, _, _, _, h, e => by
    rw [R] at h
    rw [Lc.noOwn] at e
    obtain ⟨p, vs, _, _, h⟩ := h
    exact RL.noOwn xs h e
  | .nd k .own xs, _, _, _, _, _, _, e => by rw [Lc.noOwn] at e; cases e
  | .nd k .frz xs, _, _, _, _, _, h, _ => by
    rw [R] at h
    obtain ⟨p, vs, _, e, _⟩ := h
    exact e
  | .nd k .bor xs, _, _, _, _, _, h, _ => by
    rw [R] at h
    obtain ⟨p, vs, _, e, _⟩ := h
    exact e
  | .exn c n x, _, _, _, _, _, h, _ => by
    rw [R] at h
    obtain ⟨p, d, w, _, e, _⟩ := h
    exact e
theorem RL.noOwn {g : Gs} : ∀ (xs : List D) {I B H : Hp} {vs : List V} {fp : List Addr}, RL g I B H xs vs fp → noOwnL xs = true → fp = []
  | [], _, _, _, _, _, h, _ => by rw [RL] at h; exact h.2
  | x :: xs, _, _, _, _, _, h, e => by
    rw [RL] at h
    rw [noOwnL, Bool.and_eq_true] at e
    obtain ⟨v, vr, f1, f2, _, rfl, h1, h2⟩ := h
    rw [R.noOwn x h1 e.1, RL.noOwn xs h2 e.2]
    rfl
end

mutual
theorem R.bor {g : Gs} : ∀ (d : D) {I B H B' H' : Hp} {v : V} {fp : List Addr}, R g I B H d v fp → leH I B' → leH B B' → (∀ a ∈ fp, B' a = H a) → R g I B' H' (bor d) v []
  | .non, _, _, _, _, _, _, _, h, _, _, _ => by rw [R] at h; rw [Lc.bor, R]; exact ⟨h.1, rfl⟩
  | .bl _, _, _, _, _, _, _, _, h, _, _, _ => by rw [R] at h; rw [Lc.bor, R]; exact ⟨h.1, rfl⟩
  | .int _, _, _, _, _, _, _, _, h, _, _, _ => by rw [R] at h; rw [Lc.bor, R]; exact ⟨h.1, rfl⟩
  | .str _, _, _, _, _, _, _, _, h, _, _, _ => by rw [R] at h; rw [Lc.bor, R]; exact ⟨h.1, rfl⟩
  | .ty _, _, _, _, _, _, _, _, h, _, _, _ => by rw [R] at h; rw [Lc.bor, R]; exact ⟨h.1, rfl⟩
  | .tup xs, _, _, _, _, _, _, _, h, i, b, k => by
    rw [R] at h
    rw [Lc.bor, R]
    obtain ⟨p, vs, e, t, h⟩ := h
    exact ⟨p, vs, e, t.nil, RL.bor xs h i b k⟩
  | .nd kd .own xs, _, _, _, _, _, _, _, h, i, b, k => by
    rw [R] at h
    obtain ⟨p, vs, fq, e, rfl, c, h⟩ := h
    have c2 := (c.at (k p (List.mem_cons_self ..))).cell
    have h2 := RL.bor (H' := noH) xs h i b fun a ha => k a (List.mem_cons_of_mem _ ha)
    cases kd with
    | obj c ns => rw [Lc.bor, R]; exact ⟨p, vs, e, rfl, c2, h2⟩
    | scr => rw [Lc.bor, R] <;> first | exact ⟨p, vs, e, rfl, c2, h2⟩ | (intros; contradiction)
    | lst => rw [Lc.bor, R] <;> first | exact ⟨p, vs, e, rfl, c2, h2⟩ | (intros; contradiction)
    | dct ks => rw [Lc.bor, R] <;> first | exact ⟨p, vs, e, rfl, c2, h2⟩ | (intros; contradiction)
    | dcT ks => rw [Lc.bor, R] <;> first | exact ⟨p, vs, e, rfl, c2, h2⟩ | (intros; contradiction)
  | .nd kd .frz xs, I, _, _, B', H', _, _, h, i, b, k => by
    have h0 := h
    rw [R] at h
    obtain ⟨p, vs, e, rfl, c, h⟩ := h
    have c2 := c.mono i
    have h2 := RL.bor (B' := B') (H' := noH) xs h i (noH_le _) fun a ha => by cases ha
    cases kd with
    | obj c ns => rw [Lc.bor, R]; exact ⟨p, vs, e, rfl, c, h⟩
    | scr => rw [Lc.bor, R] <;> first | exact ⟨p, vs, e, rfl, c2, h2⟩ | (intros; contradiction)
    | lst => rw [Lc.bor, R] <;> first | exact ⟨p, vs, e, rfl, c2, h2⟩ | (intros; contradiction)
    | dct ks => rw [Lc.bor, R] <;> first | exact ⟨p, vs, e, rfl, c2, h2⟩ | (intros; contradiction)
    | dcT ks => rw [Lc.bor, R] <;> first | exact ⟨p, vs, e, rfl, c2, h2⟩ | (intros; contradiction)
  | .nd kd .bor xs, I, B, _, B', H', _, _, h, i, b, k => by
    rw [R] at h
    obtain ⟨p, vs, e, rfl, c, h⟩ := h
    have c2 := c.mono b
    have h2 := RL.bor (B' := B') (H' := noH) xs h i b fun a ha => by cases ha
    cases kd with
    | obj c ns => rw [Lc.bor, R]; exact ⟨p, vs, e, rfl, c2, RL.keep xs h (leH.refl _) b fun a ha => by cases ha⟩
    | scr => rw [Lc.bor, R] <;> first | exact ⟨p, vs, e, rfl, c2, h2⟩ | (intros; contradiction)
    | lst => rw [Lc.bor, R] <;> first | exact ⟨p, vs, e, rfl, c2, h2⟩ | (intros; contradiction)
    | dct ks => rw [Lc.bor, R] <;> first | exact ⟨p, vs, e, rfl, c2, h2⟩ | (intros; contradiction)
    | dcT ks => rw [Lc.bor, R] <;> first | exact ⟨p, vs, e, rfl, c2, h2⟩ | (intros; contradiction)
  | .exn c n x, _, _, _, _, _, _, _, h, i, b, k => by
    rw [R] at h
    rw [Lc.bor, R]
    obtain ⟨a, d, w, e, _, h1, h2, h3⟩ := h
    exact ⟨a, d, w, e, rfl, h1, h2, h3⟩
theorem RL.bor {g : Gs} : ∀ (xs : List D) {I B H B' H' : Hp} {vs : List V} {fp : List Addr}, RL g I B H xs vs fp → leH I B' → leH B B' → (∀ a ∈ fp, B' a = H a) → RL g I B' H' (borL xs) vs []
  | [], _, _, _, _, _, _, _, h, _, _, _ => by rw [RL] at h; rw [borL, RL]; exact ⟨h.1, rfl⟩
  | x :: xs, _, _, _, _, _, _, _, h, i, b, k => by
    rw [RL] at h
    rw [borL, RL]
    obtain ⟨v, vr, f1, f2, e, rfl, h1, h2⟩ := h
    exact ⟨v, vr, [], [], e, rfl, R.bor x h1 i b fun a ha => k a (List.mem_append_left _ ha), RL.bor xs h2 i b fun a ha => k a (List.mem_append_right _ ha)⟩
end

mutual
theorem R.frz {g : Gs} : ∀ (d : D) {I B H I' B' H' : Hp} {v : V} {fp : List Addr}, R g I B H d v fp → noBor d = true → leH I I' → (∀ a ∈ fp, I' a = H a) → R g I' B' H' (frz d) v []
  | .non, _, _, _, _, _, _, _, _, h, _, _, _ => by rw [R] at h; rw [Lc.frz, R]; exact ⟨h.1, rfl⟩
  | .bl _, _, _, _, _, _, _, _, _, h, _, _, _ => by rw [R] at h; rw [Lc.frz, R]; exact ⟨h.1, rfl⟩
  | .int _, _, _, _, _, _, _, _, _, h, _, _, _ => by rw [R] at h; rw [Lc.frz, R]; exact ⟨h.1, rfl⟩
  | .str _, _, _, _, _, _, _, _, _, h, _, _, _ => by rw [R] at h; rw [Lc.frz, R]; exact ⟨h.1, rfl⟩
  | .ty _, _, _, _, _, _, _, _, _, h, _, _, _ => by rw [R] at h; rw [Lc.frz, R]; exact ⟨h.1, rfl⟩
  | .tup xs, _, _, _, _, _, _, _, _, h, n, i, k => by
    rw [R] at h
    rw [noBor] at n
    rw [Lc.frz, R]
    obtain ⟨p, vs, e, t, h⟩ := h
    exact ⟨p, vs, e, (t.mono i).nil, RL.frz xs h n i k⟩
  | .nd kd .own xs, _, _, _, _, _, _, _, _, h, n, i, k => by
    rw [R] at h
    rw [noBor] at n
    rw [Lc.frz, R]
    obtain ⟨p, vs, fq, e, rfl, c, h⟩ := h
    exact ⟨p, vs, e, rfl, (c.at (k p (List.mem_cons_self ..))).cell, RL.frz xs h n i fun a ha => k a (List.mem_cons_of_mem _ ha)⟩
  | .nd kd .frz xs, _, _, _, _, _, _, _, _, h, n, i, k => by
    rw [R] at h
    rw [Lc.frz, R]
    obtain ⟨p, vs, e, _, c, h⟩ := h
    exact ⟨p, vs, e, rfl, c.mono i, RL.keep xs h i (leH.refl _) fun a ha => by cases ha⟩
  | .nd kd .bor xs, _, _, _, _, _, _, _, _, h, n, i, k => by rw [noBor] at n; cases n
  | .exn c n x, _, _, _, _, _, _, _, _, h, _, i, k => by
    rw [R] at h
    rw [Lc.frz, R]
    obtain ⟨a, d, w, e, _, h1, h2, h3⟩ := h
    exact ⟨a, d, w, e, rfl, h1, i _ _ h2, R.keep x h3 i (leH.refl _) fun a ha => by cases ha⟩
theorem RL.frz {g : Gs} : ∀ (xs : List D) {I B H I' B' H' : Hp} {vs : List V} {fp : List Addr}, RL g I B H xs vs fp → noBorL xs = true → leH I I' → (∀ a ∈ fp, I' a = H a) → RL g I' B' H' (frzL xs) vs []
  | [], _, _, _, _, _, _, _, _, h, _, _, _ => by rw [RL] at h; rw [frzL, RL]; exact ⟨h.1, rfl⟩
  | x :: xs, _, _, _, _, _, _, _, _, h, n, i, k => by
    rw [RL] at h
    rw [noBorL, Bool.and_eq_true] at n
    rw [frzL, RL]
    obtain ⟨v, vr, f1, f2, e, rfl, h1, h2⟩ := h
    exact ⟨v, vr, [], [], e, rfl, R.frz x h1 n.1 i fun a ha => k a (List.mem_append_left _ ha), RL.frz xs h2 n.2 i fun a ha => k a (List.mem_append_right _ ha)⟩
end
end Lc
end
section
set_option Elab.async false
set_option linter.all false
set_option maxRecDepth 100000
set_option maxHeartbeats 1000000
namespace Lc
open PySem L2

/-! ### places within a tree: through tuples and own nodes -/
def kids : D → List D
  | .tup xs => xs
  | .nd _ _ xs => xs
  | _ => []
def getP : D → List Nat → Option D
  | d, [] => some d
  | .tup xs, n :: p => match xs[n]? with
    | some x => getP x p
    | none => none
  | .nd _ .own xs, n :: p => match xs[n]? with
    | some x => getP x p
    | none => none
  | _, _ :: _ => none
def setP : D → List Nat → D → D
  | _, [], e => e
  | .tup xs, n :: p, e => match xs[n]? with
    | some x => .tup (xs.set n (setP x p e))
    | none => .tup xs
  | .nd k .own xs, n :: p, e => match xs[n]? with
    | some x => .nd k .own (xs.set n (setP x p e))
    | none => .nd k .own xs
  | d, _ :: _, _ => d

/-- the value at a place of the tree; S: the own cells that the way may use -/
def VAt (g : Gs) (I H : Hp) (S : Addr → Prop) : V → List Nat → V → Prop
  | v, [], w => w = v
  | v, n :: p, w => ∃ q vs v1, v = .ref q ∧ (I q = some (.tup vs) ∨ (S q ∧ ∃ k, OwnC g H k q vs)) ∧ vs[n]? = some v1 ∧ VAt g I H S v1 p w
theorem VAt.keep {g : Gs} {I I' H H' : Hp} {S S' : Addr → Prop} (i : leH I I') (k : ∀ a, S a → H' a = H a) (hs : ∀ a, S a → S' a) : ∀ {p : List Nat} {v w : V}, VAt g I H S v p w → VAt g I' H' S' v p w
  | [], _, _, a => a
  | n :: p, v, w, a => by
    obtain ⟨q, vs, v1, e1, h1, g1, a⟩ := a
    refine ⟨q, vs, v1, e1, ?_, g1, VAt.keep i k hs a⟩
    rcases h1 with h1 | ⟨s, kd, h1⟩
    · exact .inl (i _ _ h1)
    · exact .inr ⟨hs _ s, kd, h1.at (k q s)⟩

theorem OwnC.inj {g : Gs} {A : Hp} {p : Addr} : ∀ {k k' : Kd} {vs vs' : List V}, OwnC g A k p vs → OwnC g A k' p vs' → vs = vs'
  | .scr, _, _, _, h, _ => h.elim
  | .lst, .scr, _, _, _, h => h.elim
  | .dct _, .scr, _, _, _, h => h.elim
  | .dcT _, .scr, _, _, _, h => h.elim
  | .obj _ _, .scr, _, _, _, h => h.elim
  | .lst, .lst, _, _, h, h' => by
    have e := h.symm.trans h'
    cases e
    rfl
  | .lst, .dct _, _, _, h, h' => by cases h.symm.trans h'.2
  | .lst, .dcT _, _, _, h, h' => by cases h.symm.trans h'.2
  | .lst, .obj _ _, _, _, h, h' => by
    obtain ⟨_, _, h'⟩ := h'
    cases h.symm.trans h'
  | .dct _, .lst, _, _, h, h' => by cases h'.symm.trans h.2
  | .dct _, .dct _, _, _, ⟨l, h⟩, ⟨l', h'⟩ => by
    have e := h.symm.trans h'
    simp only [Option.some.injEq, HO.dK.injEq] at e
    have := congrArg (List.map Prod.snd) e
    rwa [List.map_snd_zip (Nat.le_of_eq l.symm), List.map_snd_zip (Nat.le_of_eq l'.symm)] at this
  | .dct _, .dcT _, _, _, h, h' => by cases h.2.symm.trans h'.2
  | .dct _, .obj _ _, _, _, h, h' => by
    obtain ⟨_, _, h'⟩ := h'
    cases h.2.symm.trans h'
  | .dcT _, .lst, _, _, h, h' => by cases h'.symm.trans h.2
  | .dcT _, .dct _, _, _, h, h' => by cases h.2.symm.trans h'.2
  | .dcT _, .dcT _, _, _, ⟨l, h⟩, ⟨l', h'⟩ => by
    have e := h.symm.trans h'
    simp only [Option.some.injEq, HO.dT.injEq] at e
    have := congrArg (List.map Prod.snd) e
    rwa [List.map_snd_zip (Nat.le_of_eq l.symm), List.map_snd_zip (Nat.le_of_eq l'.symm)] at this
  | .dcT _, .obj _ _, _, _, h, h' => by
    obtain ⟨_, _, h'⟩ := h'
    cases h.2.symm.trans h'
  | .obj _ _, .lst, _, _, h, h' => by
    obtain ⟨_, _, h⟩ := h
    cases h'.symm.trans h
  | .obj _ _, .dct _, _, _, h, h' => by
    obtain ⟨_, _, h⟩ := h
    cases h'.2.symm.trans h
  | .obj _ _, .dcT _, _, _, h, h' => by
    obtain ⟨_, _, h⟩ := h
    cases h'.2.symm.trans h
  | .obj _ _, .obj _ _, _, _, ⟨l, dx, h⟩, ⟨l', dx', h'⟩ => by
    have e := h.symm.trans h'
    simp only [Option.some.injEq, HO.ins.injEq] at e
    have := congrArg (List.map Prod.snd) e.2.2
    rwa [List.map_snd_zip (Nat.le_of_eq l.symm), List.map_snd_zip (Nat.le_of_eq l'.symm)] at this
theorem RL.at {g : Gs} {I B H : Hp} : ∀ {xs : List D} {vs : List V} {fp : List Addr} {n : Nat} {x : D}, RL g I B H xs vs fp → xs[n]? = some x →
    ∃ v fa fn fb, vs[n]? = some v ∧ fp = fa ++ fn ++ fb ∧ R g I B H x v fn ∧
      ∀ {I' H' : Hp} {x' : D} {v' : V} {fn' : List Addr}, leH I I' → R g I' B H' x' v' fn' → (∀ a ∈ fa ++ fb, H' a = H a) → RL g I' B H' (xs.set n x') (vs.set n v') (fa ++ fn' ++ fb)
  | [], _, _, _, _, _, e => by simp at e
  | y :: ys, vs, fp, 0, x, h, e => by
    rw [RL] at h
    obtain ⟨v, vr, f1, f2, rfl, rfl, h1, h2⟩ := h
    have e : y = x := by simpa using e
    subst e
    refine ⟨v, [], f1, f2, rfl, by simp, h1, fun {I' H' x' v' fn'} i h' k => ?_⟩
    rw [List.set_cons_zero, List.set_cons_zero, RL]
    exact ⟨v', vr, fn', f2, rfl, by simp, h', RL.keep ys h2 i (leH.refl _) fun a ha => k a (by simpa using ha)⟩
  | y :: ys, vs, fp, n + 1, x, h, e => by
    rw [RL] at h
    obtain ⟨v, vr, f1, f2, rfl, rfl, h1, h2⟩ := h
    have e : ys[n]? = some x := by simpa using e
    obtain ⟨w, fa, fn, fb, e1, rfl, r, up⟩ := RL.at h2 e
    refine ⟨w, f1 ++ fa, fn, fb, by simpa using e1, by simp, r, fun {I' H' x' v' fn'} i h' k => ?_⟩
    rw [List.set_cons_succ, List.set_cons_succ, RL]
    refine ⟨v, vr.set n v', f1, fa ++ fn' ++ fb, rfl, by simp, R.keep y h1 i (leH.refl _) fun a ha => k a (by simp [ha]), up i h' fun a ha => k a ?_⟩
    rcases List.mem_append.mp ha with ha | ha <;> simp [ha]

theorem TupC.own {g : Gs} {I : Hp} {p : Addr} {vs : List V} {fp : List Addr} (h : TupC g I p vs fp) (n : fp ≠ []) : I p = some (.tup vs) := by
  rcases h with h | ⟨e, h⟩
  · exact h
  · exact absurd e n

mutual
theorem R.isNil {g : Gs} : ∀ (d : D) {I B H : Hp} {v : V} {fp : List Addr}, R g I B H d v fp → fp = [] → Lc.noOwn d = true
  | .non, _, _, _, _, _, _, _ => by rw [Lc.noOwn]
  | .bl _, _, _, _, _, _, _, _ => by rw [Lc.noOwn]
  | .int _, _, _, _, _, _, _, _ => by rw [Lc.noOwn]
  | .str _, _, _, _, _, _, _, _ => by rw [Lc.noOwn]
  | .ty _, _, _, _, _, _, _, _ => by rw [Lc.noOwn]
  | .exn _ _ _, _, _, _, _, _, _, _ => by rw [Lc.noOwn]
  | .tup xs, _, _, _, _, _, h, e => by
    rw [R] at h
    obtain ⟨q, vs, _, _, h⟩ := h
    rw [Lc.noOwn, RL.isNil xs h e]
  | .nd k .own xs, _, _, _, _, _, h, e => by
    rw [R] at h
    obtain ⟨q, vs, fq, _, e2, _⟩ := h
    rw [e] at e2
    cases e2
  | .nd k .frz xs, _, _, _, _, _, _, _ => by rw [Lc.noOwn]
  | .nd k .bor xs, _, _, _, _, _, _, _ => by rw [Lc.noOwn]
theorem RL.isNil {g : Gs} : ∀ (xs : List D) {I B H : Hp} {vs : List V} {fp : List Addr}, RL g I B H xs vs fp → fp = [] → noOwnL xs = true
  | [], _, _, _, _, _, _, _ => by rw [noOwnL]
  | x :: xs, _, _, _, _, _, h, e => by
    rw [RL] at h
    obtain ⟨v, vr, f1, f2, _, e2, h1, h2⟩ := h
    rw [e2, List.append_eq_nil_iff] at e
    rw [noOwnL, R.isNil x h1 e.1, RL.isNil xs h2 e.2]
    rfl
end
/-- down to a place where an own cell is -/
theorem R.place {g : Gs} {I B H : Hp} : ∀ (p : List Nat) {d d' : D} {v : V} {fp : List Addr}, R g I B H d v fp → getP d p = some d' → Lc.noOwn d' = false →
    ∃ w fa fn fb, fp = fa ++ fn ++ fb ∧ VAt g I H (fun a => a ∈ fp) v p w ∧ R g I B H d' w fn ∧ fn ≠ [] ∧
      ∀ {I' H' : Hp} {e : D} {fn' : List Addr}, leH I I' → R g I' B H' e w fn' → (∀ a ∈ fa ++ fb, H' a = H a) → R g I' B H' (setP d p e) v (fa ++ fn' ++ fb)
  | [], d, d', v, fp, h, e, n => by
    rw [getP] at e
    cases e
    refine ⟨v, [], fp, [], by simp, rfl, h, fun z => ?_, fun {I' H' e fn'} i h' k => ?_⟩
    · rw [R.isNil d h z] at n
      cases n
    · rw [setP]
      simpa using h'
  | n :: p, .tup xs, d', v, fp, h, e, no => by
    rw [getP] at e
    cases hx : xs[n]? with
    | none =>
      rw [hx] at e
      cases e
    | some x =>
      rw [hx] at e
      rw [R] at h
      obtain ⟨q, vs, e1, t, h⟩ := h
      obtain ⟨v1, ga, gn, gb, hv, rfl, r, up⟩ := RL.at h hx
      obtain ⟨w, fa, fn, fb, rfl, va, rw', ne, up2⟩ := R.place p r (show getP x p = some d' from e) no
      have tt := t.own (by simp [ne])
      refine ⟨w, ga ++ fa, fn, fb ++ gb, by simp, ⟨q, vs, v1, e1, .inl tt, hv, va.keep (leH.refl _) (fun _ _ => rfl) fun a ha => by simp only [List.mem_append] at ha ⊢; rcases ha with (ha | ha) | ha <;> simp [ha]⟩, rw', ne, fun {I' H' e' fn'} i h' k => ?_⟩
      have u := up i (up2 i h' fun a ha => k a (by
        rcases List.mem_append.mp ha with ha | ha <;> simp [ha])) fun a ha => k a (by
        rcases List.mem_append.mp ha with ha | ha <;> simp [ha])
      rw [setP, hx]
      dsimp only
      rw [R]
      refine ⟨q, vs, e1, .inl (i _ _ tt), ?_⟩
      have ev : vs.set n v1 = vs := by
        obtain ⟨hl, hv⟩ := List.getElem?_eq_some_iff.mp hv
        rw [← hv, List.set_getElem_self]
      rw [ev] at u
      simpa using u
  | n :: p, .nd kd .own xs, d', v, fp, h, e, no => by
    rw [getP] at e
    cases hx : xs[n]? with
    | none =>
      rw [hx] at e
      cases e
    | some x =>
      rw [hx] at e
      rw [R] at h
      obtain ⟨q, vs, fq, e1, rfl, t, h⟩ := h
      obtain ⟨v1, ga, gn, gb, hv, rfl, r, up⟩ := RL.at h hx
      obtain ⟨w, fa, fn, fb, rfl, va, rw', ne, up2⟩ := R.place p r (show getP x p = some d' from e) no
      refine ⟨w, q :: (ga ++ fa), fn, fb ++ gb, by simp, ⟨q, vs, v1, e1, .inr ⟨by simp, kd, t⟩, hv, va.keep (leH.refl _) (fun _ _ => rfl) fun a ha => by simp only [List.mem_append, List.mem_cons] at ha ⊢; rcases ha with (ha | ha) | ha <;> simp [ha]⟩, rw', ne, fun {I' H' e' fn'} i h' k => ?_⟩
      have u := up i (up2 i h' fun a ha => k a (by
        rcases List.mem_append.mp ha with ha | ha <;> simp [ha])) fun a ha => k a (by
        rcases List.mem_append.mp ha with ha | ha <;> simp [ha])
      rw [setP, hx]
      dsimp only
      rw [R]
      refine ⟨q, vs, ga ++ (fa ++ fn' ++ fb) ++ gb, e1, by simp, t.at (k q (by simp)), ?_⟩
      have ev : vs.set n v1 = vs := by
        obtain ⟨hl, hv⟩ := List.getElem?_eq_some_iff.mp hv
        rw [← hv, List.set_getElem_self]
      rw [ev] at u
      exact u
  | n :: p, .nd kd .frz xs, d', v, fp, h, e, no => by rw [getP] at e <;> first | cases e | (intros; contradiction)
  | n :: p, .nd kd .bor xs, d', v, fp, h, e, no => by rw [getP] at e <;> first | cases e | (intros; contradiction)
  | n :: p, .non, d', v, fp, h, e, no => by rw [getP] at e <;> first | cases e | (intros; contradiction)
  | n :: p, .bl _, d', v, fp, h, e, no => by rw [getP] at e <;> first | cases e | (intros; contradiction)
  | n :: p, .int _, d', v, fp, h, e, no => by rw [getP] at e <;> first | cases e | (intros; contradiction)
  | n :: p, .str _, d', v, fp, h, e, no => by rw [getP] at e <;> first | cases e | (intros; contradiction)
  | n :: p, .ty _, d', v, fp, h, e, no => by rw [getP] at e <;> first | cases e | (intros; contradiction)
  | n :: p, .exn _ _ _, d', v, fp, h, e, no => by rw [getP] at e <;> first | cases e | (intros; contradiction)
theorem VAt.inj {g : Gs} {I H : Hp} {S S' : Addr → Prop} (hd : ∀ q vs k ws, I q = some (.tup vs) → OwnC g H k q ws → False) : ∀ {p : List Nat} {v w w' : V}, VAt g I H S v p w → VAt g I H S' v p w' → w = w'
  | [], _, _, _, a, b => by
    have a : _ = _ := a
    have b : _ = _ := b
    rw [a, b]
  | n :: p, v, w, w', a, b => by
    obtain ⟨q, vs, v1, e1, h1, g1, a⟩ := a
    obtain ⟨q', vs', v1', e1', h1', g1', b⟩ := b
    rw [e1] at e1'
    cases e1'
    have e : vs = vs' := by
      rcases h1 with h1 | ⟨_, k, h1⟩ <;> rcases h1' with h1' | ⟨_, k', h1'⟩
      · have e := h1.symm.trans h1'
        cases e
        rfl
      · exact (hd _ _ _ _ h1 h1').elim
      · exact (hd _ _ _ _ h1' h1).elim
      · exact h1.inj h1'
    subst e
    rw [g1] at g1'
    cases g1'
    exact VAt.inj hd a b
end Lc
end
section
set_option Elab.async false
set_option linter.all false
set_option maxRecDepth 100000
set_option maxHeartbeats 1000000
namespace Lc
open PySem L2

/-! ### the store of a def's body -/
inductive Sl where
  | no | v (d : D) | al (r : Nat) (p : List Nat)
structure Ctx where
  s : List Sl
  k : List (Nat × List Nat)
/-- the locked roots -/
def Ctx.kr (c : Ctx) : List Nat := c.k.map (·.1)
/-- what owns a cell: a slot, a temporary -/
abbrev Ow := Nat ⊕ Nat
/-- what stands still through an activation: the borrowed heap, what was frozen at its start -/
structure Act where
  g : Gs
  B : Hp
  I0 : Hp

/-- the value at a place of slot r -/
def PV (A : Act) (I H : Hp) (σ : St) (c : Ctx) (O : Addr → Option Ow) (r : Nat) (p : List Nat) (v : V) : Prop :=
  ∃ d v0 d', c.s[r]? = some (.v d) ∧ σ[r]? = some (some v0) ∧ getP d p = some d' ∧ Lc.noOwn d' = false ∧ VAt A.g I H (fun a => O a = some (.inl r)) v0 p v

/-- a tree at a value, its own cells labelled w -/
def RO (A : Act) (I H : Hp) (O : Addr → Option Ow) (w : Ow) (d : D) (v : V) : Prop := ∃ fp, R A.g I A.B H d v fp ∧ fp.Nodup ∧ ∀ a ∈ fp, O a = some w

structure Sat (A : Act) (I H : Hp) (σ : St) (c : Ctx) (ts : List (D × V)) (O : Addr → Option Ow) (lk : List (Nat × List Nat × V)) : Prop where
  ih : leH I H
  bh : leH A.B H
  i0 : leH A.I0 I
  ib : ∀ a o, I a = some o → A.I0 a = some o ∨ A.B a = none
  len : σ.length = c.s.length
  vals : ∀ (i : Nat) (d : D), c.s[i]? = some (.v d) → ∃ v, σ[i]? = some (some v) ∧ RO A I H O (.inl i) d v
  als : ∀ (i r : Nat) (p : List Nat), c.s[i]? = some (.al r p) → ∃ w, σ[i]? = some (some w) ∧ PV A I H σ c O r p w
  tmps : ∀ (j : Nat) (d : D) (v : V), ts[j]? = some (d, v) → RO A I H O (.inr j) d v
  lks : ∀ (r : Nat) (p : List Nat) (v : V), (r, p, v) ∈ lk → PV A I H σ c O r p v
  lke : lk.map (fun x => (x.1, x.2.1)) = c.k
  fr : ∀ a w, O a = some w → I a = none ∧ A.B a = none ∧ ∃ o, H a = some o

section
variable {A : Act} {I H I' H' : Hp} {σ σ' : St} {c c' : Ctx} {ts xs : List (D × V)} {O O' : Addr → Option Ow} {lk : List (Nat × List Nat × V)} {d : D} {v : V} {w : Ow} {r : Nat} {p : List Nat}

theorem Sat.lkr (S : Sat A I H σ c ts O lk) : lk.map (·.1) = c.kr := by
  rw [Ctx.kr, ← S.lke, List.map_map]
  rfl
theorem RO.keep (h : RO A I H O w d v) (i : leH I I') (k : ∀ a, O a = some w → H' a = H a) (ho : ∀ a, O a = some w → O' a = some w) : RO A I' H' O' w d v := by
  obtain ⟨fp, r, n, l⟩ := h
  exact ⟨fp, R.keep d r i (leH.refl _) fun a ha => k a (l a ha), n, fun a ha => ho a (l a ha)⟩
theorem PV.keep (h : PV A I H σ c O r p v) (i : leH I I') (k : ∀ a, O a = some (.inl r) → H' a = H a) (ho : ∀ a, O a = some (.inl r) → O' a = some (.inl r)) (hc : c'.s[r]? = c.s[r]?) (hs : σ'[r]? = σ[r]?) : PV A I' H' σ' c' O' r p v := by
  obtain ⟨d, v0, d', e1, e2, e3, e4, va⟩ := h
  exact ⟨d, v0, d', hc.trans e1, hs.trans e2, e3, e4, va.keep i k ho⟩
theorem RO.leaf (h : R A.g I A.B H d v []) : RO A I H O w d v := ⟨[], h, List.nodup_nil, fun a ha => by cases ha⟩
theorem RO.nil (h : RO A I H O w d v) (n : Lc.noOwn d = true) : R A.g I A.B H d v [] := by
  obtain ⟨fp, r, _, _⟩ := h
  have e := R.noOwn d r n
  subst e
  exact r

/-- cells are laid; nothing that is held changes -/
theorem Sat.frame (S : Sat A I H σ c ts O lk) (hI : leH I I') (hIH : leH I' H') (hB : leH A.B H') (hib : ∀ a o, I' a = some o → I a = some o ∨ A.B a = none) (hk : ∀ a w, O a = some w → H' a = H a)
    (hO : ∀ a w, O a = some w → O' a = some w) (hfr : ∀ a w, O' a = some w → I' a = none ∧ A.B a = none ∧ ∃ o, H' a = some o) : Sat A I' H' σ c ts O' lk where
  ih := hIH
  bh := hB
  i0 := S.i0.trans hI
  ib := fun a o e => by
    rcases hib a o e with h | h
    · exact S.ib a o h
    · exact .inr h
  len := S.len
  vals := fun i d e => by
    obtain ⟨v, e1, h⟩ := S.vals i d e
    exact ⟨v, e1, h.keep hI (fun a => hk a _) fun a => hO a _⟩
  als := fun i r p e => by
    obtain ⟨w, e1, h⟩ := S.als i r p e
    exact ⟨w, e1, h.keep hI (fun a => hk a _) (fun a => hO a _) rfl rfl⟩
  tmps := fun j d v e => (S.tmps j d v e).keep hI (fun a => hk a _) fun a => hO a _
  lks := fun r p v e => (S.lks r p v e).keep hI (fun a => hk a _) (fun a => hO a _) rfl rfl
  lke := S.lke
  fr := hfr

theorem Sat.new (S : Sat A I H σ c ts O lk) {a : Addr} (n : H a = none) : O a = none ∧ I a = none ∧ A.B a = none := by
  refine ⟨?_, ?_, ?_⟩
  · cases e : O a with
    | none => rfl
    | some w =>
      obtain ⟨_, _, o, z⟩ := S.fr a w e
      rw [n] at z
      cases z
  · cases e : I a with
    | none => rfl
    | some o =>
      rw [S.ih a o e] at n
      cases n
  · cases e : A.B a with
    | none => rfl
    | some o =>
      rw [S.bh a o e] at n
      cases n

theorem leH.upd {A : Hp} {a : Addr} {o : HO} (n : A a = none) : leH A (upd A a o) := fun b x e => by
  rw [upd_ne (ne_of_none e n)]
  exact e
theorem leH.upd2 {A B : Hp} {a : Addr} {o : HO} (h : leH A B) (n : A a = none) : leH A (L2.upd B a o) := fun b x e => by
  rw [upd_ne (ne_of_none e n)]
  exact h b x e
theorem leH.upd3 {A B : Hp} {a : Addr} {o : HO} (h : leH A B) : leH (L2.upd A a o) (L2.upd B a o) := fun b x e => by
  by_cases hb : b = a
  · subst hb
    rw [upd_same] at e ⊢
    exact e
  · rw [upd_ne hb] at e ⊢
    exact h b x e

/-- a new cell, held by nobody yet -/
theorem Sat.alloc (S : Sat A I H σ c ts O lk) {a : Addr} {o : HO} (n : H a = none) : Sat A I (upd H a o) σ c ts O lk := by
  obtain ⟨n1, n2, n3⟩ := S.new n
  refine S.frame (leH.refl _) (S.ih.upd2 n2) (S.bh.upd2 n3) (fun _ _ e => .inl e) (fun b w e => upd_ne fun z => ?_) (fun _ _ e => e) fun b w e => ?_
  · rw [z, n1] at e
    cases e
  · obtain ⟨x, y, u, z⟩ := S.fr b w e
    refine ⟨x, y, u, ?_⟩
    rw [upd_ne (ne_of_none z n)]
    exact z
/-- a new cell that is frozen at once -/
theorem Sat.allocI (S : Sat A I H σ c ts O lk) {a : Addr} {o : HO} (n : H a = none) : Sat A (upd I a o) (upd H a o) σ c ts O lk := by
  obtain ⟨n1, n2, n3⟩ := S.new n
  refine S.frame (leH.upd n2) S.ih.upd3 (S.bh.upd2 n3) (fun b u e => ?_) (fun b w e => upd_ne fun z => ?_) (fun _ _ e => e) fun b w e => ?_
  · by_cases hb : b = a
    · subst hb
      exact .inr n3
    · rw [upd_ne hb] at e
      exact .inl e
  · rw [z, n1] at e
    cases e
  · obtain ⟨x, y, u, z⟩ := S.fr b w e
    have hb := ne_of_none z n
    refine ⟨?_, y, u, ?_⟩
    · rw [upd_ne hb]
      exact x
    · rw [upd_ne hb]
      exact z
theorem Sat.pop (S : Sat A I H σ c (ts ++ xs) O lk) : Sat A I H σ c ts O lk :=
  ⟨S.ih, S.bh, S.i0, S.ib, S.len, S.vals, S.als, fun j d v e => S.tmps j d v (by
    rw [List.getElem?_append_left (List.getElem?_eq_some_iff.mp e).1]
    exact e), S.lks, S.lke, S.fr⟩
theorem Sat.last (S : Sat A I H σ c (ts ++ [(d, v)]) O lk) : RO A I H O (.inr ts.length) d v := S.tmps _ _ _ (by simp)
theorem Sat.push (S : Sat A I H σ c ts O lk) (h : R A.g I A.B H d v []) : Sat A I H σ c (ts ++ [(d, v)]) O lk :=
  ⟨S.ih, S.bh, S.i0, S.ib, S.len, S.vals, S.als, fun j d' v' e => by
    by_cases hj : j < ts.length
    · rw [List.getElem?_append_left hj] at e
      exact S.tmps j d' v' e
    · rw [List.getElem?_append_right (Nat.le_of_not_lt hj)] at e
      have : j - ts.length = 0 := by
        have := (List.getElem?_eq_some_iff.mp e).1
        simp at this
        omega
      rw [this] at e
      cases e
      exact RO.leaf h, S.lks, S.lke, S.fr⟩
/-- the last temporaries become one -/
theorem Sat.join {fp : List Addr} (S : Sat A I H σ c (ts ++ xs) O lk) (h : R A.g I A.B H d v fp) (nd : fp.Nodup)
    (ho : ∀ a ∈ fp, (∃ j, O a = some (.inr j) ∧ ts.length ≤ j) ∨ (O a = none ∧ I a = none ∧ A.B a = none ∧ ∃ o, H a = some o)) :
    ∃ O', Sat A I H σ c (ts ++ [(d, v)]) O' lk := by
  classical
  refine ⟨fun a => if a ∈ fp then some (.inr ts.length) else O a, ?_⟩
  have kp : ∀ a i, O a = some (.inl i) → (if a ∈ fp then some (Sum.inr ts.length) else O a) = some (.inl i) := fun a i e => by
    rw [if_neg fun ha => ?_, e]
    rcases ho a ha with ⟨j, e2, _⟩ | ⟨e2, _⟩
    · rw [e] at e2
      cases e2
    · rw [e] at e2
      cases e2
  refine ⟨S.ih, S.bh, S.i0, S.ib, S.len, fun i d' e => ?_, fun i r p e => ?_, fun j d' v' e => ?_, fun r p v' e => ?_, S.lke, fun a w e => ?_⟩
  · obtain ⟨v', e1, h⟩ := S.vals i d' e
    exact ⟨v', e1, h.keep (leH.refl _) (fun _ _ => rfl) fun a => kp a _⟩
  · obtain ⟨v', e1, h⟩ := S.als i r p e
    exact ⟨v', e1, h.keep (leH.refl _) (fun _ _ => rfl) (fun a => kp a _) rfl rfl⟩
  · by_cases hj : j < ts.length
    · rw [List.getElem?_append_left hj] at e
      refine (S.tmps j d' v' (by rw [List.getElem?_append_left hj]; exact e)).keep (leH.refl _) (fun _ _ => rfl) fun a e2 => ?_
      rw [if_neg fun ha => ?_, e2]
      rcases ho a ha with ⟨j', e3, l⟩ | ⟨e3, _⟩
      · rw [e2] at e3
        cases e3
        omega
      · rw [e2] at e3
        cases e3
    · rw [List.getElem?_append_right (Nat.le_of_not_lt hj)] at e
      have z : j - ts.length = 0 := by
        have := (List.getElem?_eq_some_iff.mp e).1
        simp at this
        omega
      have z2 : j = ts.length := by omega
      rw [z] at e
      cases e
      subst z2
      exact ⟨fp, h, nd, fun a ha => if_pos ha⟩
  · exact (S.lks r p v' e).keep (leH.refl _) (fun _ _ => rfl) (fun a => kp a _) rfl rfl
  · by_cases ha : a ∈ fp
    · rcases ho a ha with ⟨j, e2, _⟩ | ⟨_, e2⟩
      · exact S.fr a _ e2
      · exact e2
    · rw [if_neg ha] at e
      exact S.fr a w e
/-- the subtree at a place -/
theorem Sat.at (S : Sat A I H σ c ts O lk) (h : PV A I H σ c O r p v) : ∃ d v0 d' fa fn fb, c.s[r]? = some (.v d) ∧ σ[r]? = some (some v0) ∧ getP d p = some d' ∧ R A.g I A.B H d v0 (fa ++ fn ++ fb) ∧ (fa ++ fn ++ fb).Nodup ∧
    (∀ a ∈ fa ++ fn ++ fb, O a = some (.inl r)) ∧ R A.g I A.B H d' v fn ∧ fn ≠ [] ∧
      ∀ {I' H' : Hp} {e : D} {fn' : List Addr}, leH I I' → R A.g I' A.B H' e v fn' → (∀ a ∈ fa ++ fb, H' a = H a) → R A.g I' A.B H' (setP d p e) v0 (fa ++ fn' ++ fb) := by
  obtain ⟨d, v0, d', e1, e2, e3, e4, va⟩ := h
  obtain ⟨v1, e5, fp, rr, nd, l⟩ := S.vals r d e1
  rw [e2] at e5
  cases e5
  obtain ⟨w, fa, fn, fb, rfl, va', rn, ne, up⟩ := R.place p rr e3 e4
  have ew : w = v := va'.inj (fun q vs k ws hi ho => by
    have := S.ih _ _ hi
    cases k with
    | lst => cases this.symm.trans ho
    | scr => exact ho.elim
    | dct ks => cases this.symm.trans ho.2
    | dcT ks => cases this.symm.trans ho.2
    | obj cc ns =>
      obtain ⟨_, dx, ho⟩ := ho
      cases this.symm.trans ho) va
  subst ew
  exact ⟨d, v0, d', fa, fn, fb, e1, e2, e3, rr, nd, l, rn, ne, up⟩
end

/-! ### outcomes -/
inductive EV where
  | t (d : D) | pl (r : Nat) (p : List Nat)
/-- of an expression: a value | an exception of class c with its one field | nothing is said -/
inductive ER where
  | ok (e : EV) (c : Ctx)
  | exc (k : Nat) (n : Str) (x : D) (c : Ctx)
  | bad
inductive TR where
  | ok (b : Bool) (c : Ctx)
  | exc (k : Nat) (n : Str) (x : D) (c : Ctx)
  | bad
inductive AR where
  | ok (es : List EV) (c : Ctx)
  | exc (k : Nat) (n : Str) (x : D) (c : Ctx)
  | bad
inductive SR where
  | nx (c : Ctx) | rt (d : D) (c : Ctx) | bk (c : Ctx) | ct (c : Ctx)
  | exc (k : Nat) (n : Str) (x : D) (c : Ctx)
  | bad

abbrev Wx := Value → Option Addr → St → Hp → Prop
/-- an exception leaves -/
def XP (A : Act) (W : Wx) (σ : St) (ts : List (D × V)) (lk : List (Nat × List Nat × V)) (k : Nat) (n : Str) (x : D) (c : Ctx) : Prop :=
  ∀ (d : Addr) (v : V) (I H : Hp) (O : Addr → Option Ow), Sat A I H σ c ts O lk → I d = some (.xd [(n, v)]) → R A.g I noH noH x v [] → W (.ref (A.g.G k)) (some d) σ H

def tE (A : Act) (W : Wx) (m : Ctx → ER) : TE := fun σ H Q => ∃ I c ts O lk, Sat A I H σ c ts O lk ∧ match m c with
  | .ok (.t d) c' => ∀ v I' H' O', Sat A I' H' σ c' (ts ++ [(d, v)]) O' lk → Q v H'
  | .ok (.pl r p) c' => ∀ v I' H' O', Sat A I' H' σ c' ts O' lk → PV A I' H' σ c' O' r p v → Q v H'
  | .exc k n x c' => XP A W σ ts lk k n x c'
  | .bad => False
def tT (A : Act) (W : Wx) (m : Ctx → TR) : TT := fun σ H Q => ∃ I c ts O lk, Sat A I H σ c ts O lk ∧ match m c with
  | .ok b c' => ∀ I' H' O', Sat A I' H' σ c' ts O' lk → Q b H'
  | .exc k n x c' => XP A W σ ts lk k n x c'
  | .bad => False

theorem PE.imp {X : Cx} {e : Expr} {t t' : TE} (h : PE X e t) (q : ∀ σ H Q, t' σ H Q → t σ H Q) : PE X e t' := ⟨fun pins s σ H Q I x => h.run pins s σ H Q I (q σ H Q x)⟩
theorem PT.imp {X : Cx} {e : Expr} {t t' : TT} (h : PT X e t) (q : ∀ σ H Q, t' σ H Q → t σ H Q) : PT X e t' := ⟨fun pins s σ H Q I x => h.run pins s σ H Q I (q σ H Q x)⟩
theorem PS.imp {X : Cx} {e : Stmt} {t t' : TS} (h : PS X e t) (q : ∀ D σ H, t' D σ H → t D σ H) : PS X e t' := ⟨fun pins s σ H D I x => h.run pins s σ H D I (q D σ H x)⟩
theorem PSs.imp {X : Cx} {e : List Stmt} {t t' : TS} (h : PSs X e t) (q : ∀ D σ H, t' D σ H → t D σ H) : PSs X e t' := ⟨fun pins s σ H D I x => h.run pins s σ H D I (q D σ H x)⟩
theorem PA.imp {X : Cx} {e : List Expr} {t t' : TA} (h : PA X e t) (q : ∀ σ H Q, t' σ H Q → t σ H Q) : PA X e t' := ⟨fun pos pins s σ H Q I x => h.run pos pins s σ H Q I (q σ H Q x)⟩
end Lc
end
section
set_option Elab.async false
set_option linter.all false
set_option maxRecDepth 100000
set_option maxHeartbeats 1000000
namespace Lc
open PySem L2

/-! ### operands: temporaries, locked places -/
def lockE : EV → Ctx → Ctx
  | .t _, c => c
  | .pl r p, c => { c with k := (r, p) :: c.k }
def unlockE : EV → Ctx → Ctx
  | .t _, c => c
  | .pl _ _, c => { c with k := c.k.drop 1 }
def unlocks : List EV → Ctx → Ctx
  | [], c => c
  | e :: es, c => unlockE e (unlocks es c)
def tmpsOf : List EV → List V → List (D × V)
  | .t d :: es, v :: vs => (d, v) :: tmpsOf es vs
  | .pl _ _ :: es, _ :: vs => tmpsOf es vs
  | _, _ => []
def lksOf : List EV → List V → List (Nat × List Nat × V)
  | .t _ :: es, _ :: vs => lksOf es vs
  | .pl r p :: es, v :: vs => lksOf es vs ++ [(r, p, v)]
  | _, _ => []
def val (c : Ctx) : EV → Option D
  | .t d => some d
  | .pl r p => match c.s[r]? with
    | some (.v d) => getP d p
    | _ => none
def valsOf (c : Ctx) : List EV → Option (List D)
  | [] => some []
  | e :: es => match val c e, valsOf c es with
    | some d, some ds => some (d :: ds)
    | _, _ => none

def eArgs : List (Ctx → ER) → Ctx → AR
  | [], c => .ok [] c
  | m :: ms, c => match m c with
    | .ok e c1 => match eArgs ms (lockE e c1) with
      | .ok es c2 => .ok (e :: es) c2
      | .exc k n x c2 => .exc k n x (unlockE e c2)
      | .bad => .bad
    | .exc k n x c1 => .exc k n x c1
    | .bad => .bad

def tA' (A : Act) (W : Wx) (m : Ctx → AR) : TA := fun σ H Q => ∃ I c ts O lk, Sat A I H σ c ts O lk ∧ match m c with
  | .ok es c' => ∀ vs I' H' O', vs.length = es.length → Sat A I' H' σ c' (ts ++ tmpsOf es vs) O' (lksOf es vs ++ lk) → Q vs H'
  | .exc k n x c' => XP A W σ ts lk k n x c'
  | .bad => False

section
variable {A : Act} {W : Wx} {I H I' H' : Hp} {σ : St} {c c' : Ctx} {ts xs : List (D × V)} {O O' : Addr → Option Ow} {lk l2 : List (Nat × List Nat × V)} {d : D} {v : V} {r : Nat} {p : List Nat}

theorem PV.ctx (h : PV A I H σ c O r p v) (e : c'.s = c.s) : PV A I H σ c' O r p v := h.keep (leH.refl _) (fun _ _ => rfl) (fun _ e => e) (by rw [e]) rfl
theorem Sat.locked (S : Sat A I H σ c ts O lk) (h : PV A I H σ c O r p v) : Sat A I H σ { c with k := (r, p) :: c.k } ts O ((r, p, v) :: lk) where
  ih := S.ih
  bh := S.bh
  i0 := S.i0
  ib := S.ib
  len := S.len
  vals := S.vals
  als := fun i r p e => by
    obtain ⟨w, e1, h⟩ := S.als i r p e
    exact ⟨w, e1, h.ctx rfl⟩
  tmps := S.tmps
  lks := fun r' p' v' e => by
    rcases List.mem_cons.mp e with e | e
    · cases e
      exact h.ctx rfl
    · exact (S.lks r' p' v' e).ctx rfl
  lke := by rw [List.map_cons, S.lke]
  fr := S.fr
theorem Sat.unlocked (S : Sat A I H σ c ts O ((r, p, v) :: lk)) : Sat A I H σ { c with k := c.k.drop 1 } ts O lk ∧ PV A I H σ { c with k := c.k.drop 1 } O r p v := by
  refine ⟨⟨S.ih, S.bh, S.i0, S.ib, S.len, S.vals, fun i r p e => ?_, S.tmps, fun r' p' v' e => ?_, ?_, S.fr⟩, (S.lks r p v (by simp)).ctx rfl⟩
  · obtain ⟨w, e1, h⟩ := S.als i r p e
    exact ⟨w, e1, h.ctx rfl⟩
  · exact (S.lks r' p' v' (List.mem_cons_of_mem _ e)).ctx rfl
  · show lk.map _ = c.k.drop 1
    rw [← S.lke]
    rfl
theorem Sat.unlockL : ∀ {es : List EV} {vs : List V} {c : Ctx} {lk : List (Nat × List Nat × V)}, vs.length = es.length → Sat A I H σ c ts O (lksOf es vs ++ lk) → Sat A I H σ (unlocks es c) ts O lk
  | [], vs, c, lk, hl, S => by
    cases vs with
    | nil => exact S
    | cons _ _ => cases hl
  | .t d :: es, v :: vs, c, lk, hl, S => by
    have hl : vs.length = es.length := by simpa using hl
    exact Sat.unlockL (es := es) (vs := vs) hl S
  | .pl r p :: es, v :: vs, c, lk, hl, S => by
    have hl : vs.length = es.length := by simpa using hl
    have S2 : Sat A I H σ c ts O (lksOf es vs ++ ((r, p, v) :: lk)) := by
      have : lksOf (.pl r p :: es) (v :: vs) ++ lk = lksOf es vs ++ ((r, p, v) :: lk) := by
        show (lksOf es vs ++ [(r, p, v)]) ++ lk = _
        rw [List.append_assoc, List.singleton_append]
      rw [← this]
      exact S
    exact (Sat.unlockL (es := es) (vs := vs) hl S2).unlocked.1
  | _ :: _, [], _, _, hl, _ => by cases hl

/-- a value's tree, by value -/
def EAt (A : Act) (I H : Hp) (d : D) (v : V) : Prop := ∃ fp, R A.g I A.B H d v fp
theorem Sat.valsOf : ∀ {es : List EV} {vs : List V} {ds : List D} {ts : List (D × V)} {lk : List (Nat × List Nat × V)}, vs.length = es.length → Lc.valsOf c es = some ds → Sat A I H σ c (ts ++ tmpsOf es vs) O (lksOf es vs ++ lk) → Paired (EAt A I H) ds vs
  | [], vs, ds, ts, lk, hl, e, S => by
    cases vs with
    | nil =>
      rw [Lc.valsOf] at e
      cases e
      exact .nil
    | cons _ _ => cases hl
  | x :: es, v :: vs, ds, ts, lk, hl, e, S => by
    have hl2 : vs.length = es.length := by simpa using hl
    rw [Lc.valsOf] at e
    cases e1 : val c x with
    | none => rw [e1] at e; cases e
    | some d =>
      cases e2 : Lc.valsOf c es with
      | none => rw [e1, e2] at e; cases e
      | some ds' =>
        rw [e1, e2] at e
        cases e
        cases x with
        | t d' =>
          rw [val] at e1
          cases e1
          have hz : (ts ++ (d, v) :: tmpsOf es vs)[ts.length]? = some (d, v) := by simp
          obtain ⟨fp, rr, _⟩ := S.tmps _ _ _ hz
          refine .cons ⟨fp, rr⟩ (Sat.valsOf (es := es) (vs := vs) (ts := ts ++ [(d, v)]) (lk := lk) hl2 e2 ?_)
          have : ts ++ [(d, v)] ++ tmpsOf es vs = ts ++ tmpsOf (.t d :: es) (v :: vs) := by
            rw [tmpsOf, List.append_assoc, List.singleton_append]
          rw [this]
          exact S
        | pl r p =>
          have hm : (r, p, v) ∈ lksOf (.pl r p :: es) (v :: vs) ++ lk := by simp [lksOf]
          obtain ⟨d0, v0, d', fa, fn, fb, q1, q2, q3, _, _, _, rn, _, _⟩ := S.at (S.lks r p v hm)
          have : d' = d := by
            rw [val, q1] at e1
            dsimp only at e1
            rw [q3] at e1
            cases e1
            rfl
          subst this
          refine .cons ⟨fn, rn⟩ (Sat.valsOf (es := es) (vs := vs) (ts := ts) (lk := (r, p, v) :: lk) hl2 e2 ?_)
          have : lksOf es vs ++ ((r, p, v) :: lk) = lksOf (.pl r p :: es) (v :: vs) ++ lk := by
            show _ = (lksOf es vs ++ [(r, p, v)]) ++ lk
            rw [List.append_assoc, List.singleton_append]
          rw [this]
          exact S
  | _ :: _, [], _, _, _, hl, _, _ => by cases hl

theorem tA_nil : ∀ σ H Q, tA' A W (eArgs []) σ H Q → tNil σ H Q := fun σ H Q ⟨I, c, ts, O, lk, S, h⟩ => h [] I H O rfl (by
  have e : ts ++ tmpsOf [] [] = ts := by simp [tmpsOf]
  rw [e]
  exact S)
theorem XP.unlock {k : Nat} {n : Str} {x : D} {e : EV} (h : XP A W σ ts lk k n x (unlockE e c)) : XP A W σ (ts ++ tmpsOf [e] [v]) (lksOf [e] [v] ++ lk) k n x c := fun d w I H O S i rx => by
  cases e with
  | t d0 => exact h d w I H O S.pop i rx
  | pl r p => exact h d w I H O (by
      have S2 : Sat A I H σ c (ts ++ []) O ((r, p, v) :: lk) := S
      rw [List.append_nil] at S2
      exact S2.unlocked.1) i rx
theorem tA_cons {m : Ctx → ER} {ms : List (Ctx → ER)} : ∀ σ H Q, tA' A W (eArgs (m :: ms)) σ H Q → tCons (tE A W m) (tA' A W (eArgs ms)) σ H Q := fun σ H Q ⟨I, c, ts, O, lk, S, h⟩ => by
  refine ⟨I, c, ts, O, lk, S, ?_⟩
  rw [eArgs] at h
  cases e : m c with
  | bad => rw [e] at h; exact h
  | exc k n x c1 => rw [e] at h; exact h
  | ok ev c1 =>
    rw [e] at h
    cases ev with
    | t d =>
      intro v I1 H1 O1 S1
      refine ⟨I1, c1, _, O1, lk, S1, ?_⟩
      dsimp only at h
      rw [lockE] at h
      cases e2 : eArgs ms c1 with
      | bad => rw [e2] at h; exact h
      | exc k n x c2 =>
        rw [e2] at h
        have := XP.unlock (v := v) (e := .t d) h
        exact this
      | ok es c2 =>
        rw [e2] at h
        intro vs I2 H2 O2 hl S2
        refine h (v :: vs) I2 H2 O2 (by simp [hl]) ?_
        have : ts ++ tmpsOf (.t d :: es) (v :: vs) = ts ++ [(d, v)] ++ tmpsOf es vs := by
          rw [tmpsOf, List.append_assoc, List.singleton_append]
        rw [this]
        exact S2
    | pl r p =>
      intro v I1 H1 O1 S1 pv
      refine ⟨I1, lockE (.pl r p) c1, ts, O1, (r, p, v) :: lk, S1.locked pv, ?_⟩
      dsimp only at h
      cases e2 : eArgs ms (lockE (.pl r p) c1) with
      | bad => rw [e2] at h; exact h
      | exc k n x c2 =>
        rw [e2] at h
        have := XP.unlock (v := v) (e := .pl r p) h
        rw [tmpsOf, tmpsOf, List.append_nil] at this
        · exact this
        · intros; contradiction
        · intros; contradiction
      | ok es c2 =>
        rw [e2] at h
        intro vs I2 H2 O2 hl S2
        refine h (v :: vs) I2 H2 O2 (by simp [hl]) ?_
        have : lksOf (.pl r p :: es) (v :: vs) ++ lk = lksOf es vs ++ ((r, p, v) :: lk) := by
          show (lksOf es vs ++ [(r, p, v)]) ++ lk = _
          rw [List.append_assoc, List.singleton_append]
        rw [this]
        exact S2

/-! ### operations on values -/
/-- what an operation may leave -/
inductive Res (A : Act) (I : Hp) : Hp → D → V → Hp → Hp → Prop where
  | leaf {H : Hp} {d : D} {v : V} : R A.g I A.B H d v [] → Res A I H d v I H
  | list {H : Hp} {xs : List D} {vs : List V} {p : Addr} : RL A.g I A.B H xs vs [] → H p = none → Res A I H (.nd .lst .own xs) (.ref p) I (upd H p (.lst vs))
  | dict {H : Hp} {ks : List Key} {xs : List D} {vs : List V} {p : Addr} : RL A.g I A.B H xs vs [] → ks.length = vs.length → H p = none → Res A I H (.nd (.dct ks) .own xs) (.ref p) I (upd H p (.dK (ks.zip vs)))
  | dictT {H : Hp} {ks : List (List Key)} {xs : List D} {vs : List V} {p : Addr} : RL A.g I A.B H xs vs [] → ks.length = vs.length → H p = none → Res A I H (.nd (.dcT ks) .own xs) (.ref p) I (upd H p (.dT (ks.zip vs)))
  | tup {H : Hp} {xs : List D} {vs : List V} {p : Addr} : RL A.g I A.B H xs vs [] → H p = none → Res A I H (.tup xs) (.ref p) (upd I p (.tup vs)) (upd H p (.tup vs))
  | more {H : Hp} {d : D} {v : V} {p : Addr} {o : HO} {I' H' : Hp} : H p = none → Res A I (upd H p o) d v I' H' → Res A I H d v I' H'

theorem RL.any {g : Gs} {I B H H' : Hp} {xs : List D} {vs : List V} (h : RL g I B H xs vs []) : RL g I B H' xs vs [] := RL.keep xs h (leH.refl _) (leH.refl _) fun a ha => by cases ha
theorem R.any {g : Gs} {I B H H' : Hp} {d : D} {v : V} (h : R g I B H d v []) : R g I B H' d v [] := R.keep d h (leH.refl _) (leH.refl _) fun a ha => by cases ha

theorem Res.sat {d : D} {v : V} (h : Res A I H d v I' H') : ∀ {O : Addr → Option Ow}, Sat A I H σ c (ts ++ xs) O lk → ∃ O', Sat A I' H' σ c (ts ++ [(d, v)]) O' lk := by
  induction h with
  | leaf h =>
    intro O S
    exact ⟨O, S.pop.push h⟩
  | @list H ys vs p h n =>
    intro O S
    obtain ⟨n1, n2, n3⟩ := S.new n
    have S1 := S.alloc (o := .lst vs) n
    refine S1.join (d := .nd .lst .own ys) (v := .ref p) (fp := [p]) ?_ (by simp) fun a ha => ?_
    · rw [R]
      exact ⟨p, vs, [], rfl, rfl, upd_same, h.any⟩
    · have e : a = p := by simpa using ha
      subst e
      exact .inr ⟨n1, n2, n3, _, upd_same⟩
  | @dict H ks ys vs p h hl n =>
    intro O S
    obtain ⟨n1, n2, n3⟩ := S.new n
    have S1 := S.alloc (o := .dK (ks.zip vs)) n
    refine S1.join (d := .nd (.dct ks) .own ys) (v := .ref p) (fp := [p]) ?_ (by simp) fun a ha => ?_
    · rw [R]
      exact ⟨p, vs, [], rfl, rfl, ⟨hl, upd_same⟩, h.any⟩
    · have e : a = p := by simpa using ha
      subst e
      exact .inr ⟨n1, n2, n3, _, upd_same⟩
  | @dictT H ks ys vs p h hl n =>
    intro O S
    obtain ⟨n1, n2, n3⟩ := S.new n
    have S1 := S.alloc (o := .dT (ks.zip vs)) n
    refine S1.join (d := .nd (.dcT ks) .own ys) (v := .ref p) (fp := [p]) ?_ (by simp) fun a ha => ?_
    · rw [R]
      exact ⟨p, vs, [], rfl, rfl, ⟨hl, upd_same⟩, h.any⟩
    · have e : a = p := by simpa using ha
      subst e
      exact .inr ⟨n1, n2, n3, _, upd_same⟩
  | @tup H ys vs p h n =>
    intro O S
    obtain ⟨n1, n2, n3⟩ := S.new n
    have S1 := S.pop.allocI (o := .tup vs) n
    refine ⟨O, S1.push ?_⟩
    rw [R]
    exact ⟨p, vs, rfl, .inl upd_same, RL.keep ys h (leH.upd n2) (leH.refl _) fun a ha => by cases ha⟩
  | @more H d v p o I' H' n h ih =>
    intro O S
    exact ih (S.alloc n)

/-- an operation: r asks of the values what f tells of the trees -/
def OpS (A : Act) (f : List D → Option D) (r : List V → Hp → VK → Prop) : Prop := ∀ (I H : Hp) (ds : List D) (vs : List V) (Q : VK) (d : D), leH I H → leH A.B H → Paired (EAt A I H) ds vs → f ds = some d →
  (∀ v I' H', Res A I H d v I' H' → Q v H') → r vs H Q

def eOp (f : List D → Option D) (ms : List (Ctx → ER)) : Ctx → ER := fun c => match eArgs ms c with
  | .ok es c2 => match valsOf c2 es with
    | some ds => match f ds with
      | some d => .ok (.t d) (unlocks es c2)
      | none => .bad
    | none => .bad
  | .exc k n x c2 => .exc k n x c2
  | .bad => .bad
theorem tE_op {f : List D → Option D} {ms : List (Ctx → ER)} {r : List V → Hp → VK → Prop} (o : OpS A f r) : ∀ σ H Q, tE A W (eOp f ms) σ H Q → tA' A W (eArgs ms) σ H (fun vs H2 => r vs H2 Q) := fun σ H Q ⟨I, c, ts, O, lk, S, h⟩ => by
  refine ⟨I, c, ts, O, lk, S, ?_⟩
  rw [eOp] at h
  cases e : eArgs ms c with
  | bad => rw [e] at h; exact h
  | exc k n x c1 => rw [e] at h; exact h
  | ok es c2 =>
    rw [e] at h
    dsimp only at h
    intro vs I2 H2 O2 hl S2
    cases e2 : valsOf c2 es with
    | none => rw [e2] at h; exact h.elim
    | some ds =>
      rw [e2] at h
      dsimp only at h
      cases e3 : f ds with
      | none => rw [e3] at h; exact h.elim
      | some d =>
        rw [e3] at h
        dsimp only at h
        refine o I2 H2 ds vs Q d S2.ih S2.bh (Sat.valsOf hl e2 S2) e3 fun v I3 H3 rs => ?_
        obtain ⟨O3, S3⟩ := rs.sat (Sat.unlockL hl S2)
        exact h v I3 H3 O3 S3
end
end Lc
end
section
set_option Elab.async false
set_option linter.all false
set_option maxRecDepth 100000
set_option maxHeartbeats 1000000
namespace Lc
open PySem L2

section
variable {A : Act} {W : Wx} {X : Cx}

theorem tE.mono {m : Ctx → ER} {σ : St} {H : Hp} {Q Q' : VK} (h : tE A W m σ H Q) (q : ∀ v H', Q v H' → Q' v H') : tE A W m σ H Q' := by
  obtain ⟨I, c, ts, O, lk, S, h⟩ := h
  refine ⟨I, c, ts, O, lk, S, ?_⟩
  cases e : m c with
  | bad => rw [e] at h; exact h
  | exc k n x c1 => rw [e] at h; exact h
  | ok ev c1 =>
    rw [e] at h
    cases ev with
    | t d => exact fun v I' H' O' S' => q _ _ (h v I' H' O' S')
    | pl r p => exact fun v I' H' O' S' pv => q _ _ (h v I' H' O' S' pv)

/-- an argument list of these terms -/
theorem PA_nil : PA X [] (tA' A W (eArgs [])) := PA.imp pa_nil tA_nil
theorem PA_cons {e : Expr} {es : List Expr} {m : Ctx → ER} {ms : List (Ctx → ER)} (h : PE X e (tE A W m)) (hr : PA X es (tA' A W (eArgs ms))) (hs : starEach (e :: es) X.env = (false, eval e X.env) :: starEach es X.env := by rfl) :
    PA X (e :: es) (tA' A W (eArgs (m :: ms))) := PA.imp (pa_cons h hr hs) tA_cons
theorem tA_two {ma mb : Ctx → ER} {σ : St} {H : Hp} {Q : List V → Hp → Prop} (h : tA' A W (eArgs [ma, mb]) σ H Q) : tE A W ma σ H fun x H1 => tE A W mb σ H1 fun y H2 => Q [x, y] H2 :=
  tE.mono (tA_cons _ _ _ h) fun x H1 h1 => tE.mono (tA_cons _ _ _ h1) fun y H2 h2 => tA_nil (A := A) (W := W) σ H2 _ h2
theorem tA_one {ma : Ctx → ER} {σ : St} {H : Hp} {Q : List V → Hp → Prop} (h : tA' A W (eArgs [ma]) σ H Q) : tE A W ma σ H fun x H1 => Q [x] H1 :=
  tE.mono (tA_cons _ _ _ h) fun x H1 h1 => tA_nil (A := A) (W := W) σ H1 _ h1

/-! ### constants, names -/
def eC (d : D) : Ctx → ER := fun c => .ok (.t d) c
def eN (i : Nat) : Ctx → ER := fun c => match c.s[i]? with
  | some (.v d) => if Lc.noOwn d then .ok (.t d) c else .ok (.pl i []) c
  | some (.al r p) => .ok (.pl r p) c
  | _ => .bad
theorem PE_c {e : Expr} {v : V} {d : D} (h : PE X e (tC v)) (r : ∀ I B H, R A.g I B H d v []) : PE X e (tE A W (eC d)) := PE.imp h fun σ H Q ⟨I, c, ts, O, lk, S, h⟩ => h v I H O (S.push (r _ _ _))
theorem PE_int {i j pos} : PE X (.Constant (.int i) j pos) (tE A W (eC (.int i))) := PE_c pe_int fun _ _ _ => by rw [R]; exact ⟨rfl, rfl⟩
theorem PE_bl {b j pos} : PE X (.Constant (.bool b) j pos) (tE A W (eC (.bl b))) := PE_c pe_bl fun _ _ _ => by rw [R]; exact ⟨rfl, rfl⟩
theorem PE_non {j pos} : PE X (.Constant .none j pos) (tE A W (eC .non)) := PE_c pe_non fun _ _ _ => by rw [R]; exact ⟨rfl, rfl⟩
theorem PE_str {x : Str} {l : List Nat} {j pos} (h : x.cps = l.toArray) : PE X (.Constant (.str x) j pos) (tE A W (eC (.str l))) := PE_c pe_str fun _ _ _ => by
  obtain ⟨a⟩ := x
  have h : a = l.toArray := h
  subst h
  rw [R]
  exact ⟨rfl, rfl⟩
theorem PE_n {i : Nat} {x : Str} {pos : Pos} (h : PE X (.Name x pos) (tVar i)) : PE X (.Name x pos) (tE A W (eN i)) := PE.imp h fun σ H Q ⟨I, c, ts, O, lk, S, h⟩ => by
  rw [eN] at h
  cases e : c.s[i]? with
  | none => rw [e] at h; exact h.elim
  | some z =>
    rw [e] at h
    cases z with
    | no => exact h.elim
    | v d =>
      obtain ⟨v, e1, ro⟩ := S.vals i d e
      refine ⟨v, e1, ?_⟩
      dsimp only at h
      cases n : Lc.noOwn d with
      | true =>
        rw [n] at h
        exact h v I H O (S.push (ro.nil n))
      | false =>
        rw [n] at h
        exact h v I H O S ⟨d, v, d, e, e1, by rw [getP], n, rfl⟩
    | al r p =>
      obtain ⟨w, e1, pv⟩ := S.als i r p e
      exact ⟨w, e1, h w I H O S pv⟩

/-! ### operators on values -/
def r1 (r : V → Hp → VK → Prop) : List V → Hp → VK → Prop := fun vs H Q => ∃ x, vs = [x] ∧ r x H Q
def r2 (r : R2) : List V → Hp → VK → Prop := fun vs H Q => ∃ x y, vs = [x, y] ∧ r x y H Q
theorem tOp_of {f : List D → Option D} {r : R2} {ma mb : Ctx → ER} (os : OpS A f (r2 r)) : ∀ σ H Q, tE A W (eOp f [ma, mb]) σ H Q → tOp r (tE A W ma) (tE A W mb) σ H Q := fun σ H Q h =>
  tE.mono (tA_two (tE_op os σ H Q h)) fun x H1 h1 => tE.mono h1 fun y H2 h2 => by
    obtain ⟨x', y', e, h2⟩ := h2
    cases e
    exact h2
theorem PE_bin {op : Operator} {f : List D → Option D} {r : R2} {a b : Expr} {ma mb : Ctx → ER} {pos : Pos} (ho : OpR X (binaryOp op) r) (os : OpS A f (r2 r)) (ha : PE X a (tE A W ma)) (hb : PE X b (tE A W mb)) : PE X (.BinOp a op b pos) (tE A W (eOp f [ma, mb])) :=
  PE.imp (pe_op ho ha hb) (tOp_of os)
theorem PE_cmp {op : CmpOp} {f : List D → Option D} {r : R2} {a b : Expr} {ma mb : Ctx → ER} {pos : Pos} (ho : OpR X (compareOp op) r) (os : OpS A f (r2 r)) (ha : PE X a (tE A W ma)) (hb : PE X b (tE A W mb)) (hm : behindInMarks op b = false) :
    PE X (.Compare a [op] [b] pos) (tE A W (eOp f [ma, mb])) := PE.imp (pe_cmpR ho ha hb hm) (tOp_of os)
theorem PE_ix {f : List D → Option D} {r : R2} {a b : Expr} {ma mb : Ctx → ER} {pos : Pos} (ho : IxR X r) (os : OpS A f (r2 r)) (ha : PE X a (tE A W ma)) (hb : PE X b (tE A W mb)) (hs : PlainIx b) : PE X (.Subscript a b pos) (tE A W (eOp f [ma, mb])) :=
  PE.imp (pe_ix ho ha hb hs) (tOp_of os)
theorem PE_un {op : UnaryOp} {f : List D → Option D} {r : V → Hp → VK → Prop} {a : Expr} {ma : Ctx → ER} {pos : Pos} (ho : UnR X (unaryOp op) r) (os : OpS A f (r1 r)) (ha : PE X a (tE A W ma)) : PE X (.UnaryOp op a pos) (tE A W (eOp f [ma])) :=
  PE.imp (pe_un ho ha) fun σ H Q h => tE.mono (tA_one (tE_op os σ H Q h)) fun x H1 h1 => by
    obtain ⟨x', e, h1⟩ := h1
    cases e
    exact h1
theorem PE_callB {id : String} {f : List D → Option D} {r : List V → Hp → VK → Prop} {x : Str} {p pos : Pos} {e : Expr} {es : List Expr} {ms : List (Ctx → ER)} (hc : CallR X (.builtin id) r) (os : OpS A f r) (hg : Gl X x) (hm : X.mg x = none) (hv : bootBuiltins x = some (.builtin id))
    (ha : PA X (e :: es) (tA' A W (eArgs ms))) (hn : x ≠ "__name__" := by decide) (hdb : (x == ("__debug__" : Str)) = false := by decide)
    (he : starEach (e :: es) X.env = (false, eval e X.env) :: starEach es X.env := by rfl) (hpl : (backTo pos (starEach es X.env)).any (·.1) = false := by rfl) : PE X (.Call (.Name x p) (e :: es) [] pos) (tE A W (eOp f ms)) :=
  PE.imp (pe_callB hc hg hm hv ha hn hdb he hpl) fun σ H Q h => tE_op os σ H Q h
theorem PE_callTy {T : String} {f : List D → Option D} {r : List V → Hp → VK → Prop} {x : Str} {p pos : Pos} {e : Expr} {es : List Expr} {ms : List (Ctx → ER)} (hc : CallR X (.type T) r) (os : OpS A f r) (hg : Gl X x) (hm : X.mg x = none) (hv : bootBuiltins x = some (.type T))
    (ha : PA X (e :: es) (tA' A W (eArgs ms))) (hn : x ≠ "__name__" := by decide) (hdb : (x == ("__debug__" : Str)) = false := by decide)
    (he : starEach (e :: es) X.env = (false, eval e X.env) :: starEach es X.env := by rfl) (hpl : (backTo pos (starEach es X.env)).any (·.1) = false := by rfl) : PE X (.Call (.Name x p) (e :: es) [] pos) (tE A W (eOp f ms)) :=
  PE.imp (pe_callTy hc hg hm hv ha hn hdb he hpl) fun σ H Q h => tE_op os σ H Q h

/-! ### reading trees back -/
theorem EAt.int {I H : Hp} {i : Int} {v : V} (h : EAt A I H (.int i) v) : v = .int i := by
  obtain ⟨fp, h⟩ := h
  rw [R] at h
  exact h.1
theorem EAt.bl {I H : Hp} {i : Bool} {v : V} (h : EAt A I H (.bl i) v) : v = .bl i := by
  obtain ⟨fp, h⟩ := h
  rw [R] at h
  exact h.1
theorem EAt.non {I H : Hp} {v : V} (h : EAt A I H .non v) : v = .non := by
  obtain ⟨fp, h⟩ := h
  rw [R] at h
  exact h.1
theorem EAt.str {I H : Hp} {s : List Nat} {v : V} (h : EAt A I H (.str s) v) : v = .str ⟨s.toArray⟩ := by
  obtain ⟨fp, h⟩ := h
  rw [R] at h
  exact h.1
theorem Res.int {I H : Hp} {i : Int} : Res A I H (.int i) (.int i) I H := .leaf (by rw [R]; exact ⟨rfl, rfl⟩)
theorem Res.bl {I H : Hp} {i : Bool} : Res A I H (.bl i) (.bl i) I H := .leaf (by rw [R]; exact ⟨rfl, rfl⟩)
theorem Res.non {I H : Hp} : Res A I H .non .non I H := .leaf (by rw [R]; exact ⟨rfl, rfl⟩)
theorem Res.str {I H : Hp} {s : List Nat} : Res A I H (.str s) (.str ⟨s.toArray⟩) I H := .leaf (by rw [R]; exact ⟨rfl, rfl⟩)
theorem EAt.lst {I H : Hp} {f : Fl} {xs : List D} {v : V} (ih : leH I H) (bh : leH A.B H) (h : EAt A I H (.nd .lst f xs) v) : ∃ p vs, v = .ref p ∧ H p = some (.lst vs) ∧ ∃ fp, RL A.g I A.B H xs vs fp := by
  obtain ⟨fp, h⟩ := h
  cases f with
  | own =>
    rw [R] at h
    obtain ⟨p, vs, fq, e, _, c, h⟩ := h
    exact ⟨p, vs, e, c, fq, h⟩
  | frz =>
    rw [R] at h
    obtain ⟨p, vs, e, _, c, h⟩ := h
    exact ⟨p, vs, e, ih _ _ c, [], RL.keep xs h (leH.refl _) (noH_le _) fun a ha => by cases ha⟩
  | bor =>
    rw [R] at h
    obtain ⟨p, vs, e, _, c, h⟩ := h
    exact ⟨p, vs, e, bh _ _ c, [], RL.keep xs h (leH.refl _) (leH.refl _) fun a ha => by cases ha⟩
theorem EAt.scr {I H : Hp} {f : Fl} {xs : List D} {v : V} (ih : leH I H) (bh : leH A.B H) (h : EAt A I H (.nd .scr f xs) v) : ∃ p vs, v = .ref p ∧ SqL A.g.K H p vs ∧ ∃ fp, RL A.g I A.B H xs vs fp := by
  obtain ⟨fp, h⟩ := h
  cases f with
  | own =>
    rw [R] at h
    obtain ⟨p, vs, fq, e, _, c, h⟩ := h
    exact c.elim
  | frz =>
    rw [R] at h
    obtain ⟨p, vs, e, _, c, h⟩ := h
    exact ⟨p, vs, e, ih.sqL c, [], RL.keep xs h (leH.refl _) (noH_le _) fun a ha => by cases ha⟩
  | bor =>
    rw [R] at h
    obtain ⟨p, vs, e, _, c, h⟩ := h
    exact ⟨p, vs, e, bh.sqL c, [], RL.keep xs h (leH.refl _) (leH.refl _) fun a ha => by cases ha⟩
theorem EAt.tup {I H : Hp} {xs : List D} {v : V} (ih : leH I H) (h : EAt A I H (.tup xs) v) : ∃ p vs, v = .ref p ∧ SqT A.g.K H p vs ∧ ∃ fp, RL A.g I A.B H xs vs fp := by
  obtain ⟨fp, h⟩ := h
  rw [R] at h
  obtain ⟨p, vs, e, c, h⟩ := h
  exact ⟨p, vs, e, ih.sqT c.sq, fp, h⟩
theorem Paired.one {α β : Type} {F : α → β → Prop} {a : α} {ys : List β} (h : Paired F [a] ys) : ∃ b, ys = [b] ∧ F a b := by
  cases h with
  | cons r t => cases t; exact ⟨_, rfl, r⟩
theorem Paired.two {α β : Type} {F : α → β → Prop} {a b : α} {ys : List β} (h : Paired F [a, b] ys) : ∃ x y, ys = [x, y] ∧ F a x ∧ F b y := by
  cases h with
  | cons r t =>
    cases t with
    | cons r' t => cases t; exact ⟨_, _, rfl, r, r'⟩

/-! ### ints -/
def okMul (i j : Int) : Bool := decide (-(2 ^ 64) < i ∧ i < 2 ^ 64) || decide (-(2 ^ 64) < j ∧ j < 2 ^ 64) || decide (i.natAbs.log2 + j.natAbs.log2 < 1000000)
def okDiv (j : Int) : Bool := decide (0 < j) && decide (j.natAbs.log2 < 9000)
def okPow (i j : Int) : Bool := decide (0 ≤ j ∧ j ≤ 1000000 ∧ i.natAbs < 2 ^ 64)
def fII (g : Int → Int → Option D) : List D → Option D
  | [.int i, .int j] => g i j
  | _ => none
theorem fII_some {g : Int → Int → Option D} {ds : List D} {d : D} (h : fII g ds = some d) : ∃ i j, ds = [.int i, .int j] ∧ g i j = some d := by
  unfold fII at h
  split at h
  · exact ⟨_, _, rfl, h⟩
  · cases h
theorem os_II {g : Int → Int → Option D} {r : R2} (h : ∀ i j d, g i j = some d → ∀ (Q : VK) (I H : Hp), (∀ v I' H', Res A I H d v I' H' → Q v H') → r (.int i) (.int j) H Q) : OpS A (fII g) (r2 r) := fun I H ds vs Q d _ _ P e q => by
  obtain ⟨i, j, rfl, e⟩ := fII_some e
  obtain ⟨x, y, rfl, h1, h2⟩ := Paired.two P
  rw [h1.int, h2.int]
  exact ⟨_, _, rfl, h i j d e Q I H q⟩
def gAdd (i j : Int) : Option D := some (.int (i + j))
def gSub (i j : Int) : Option D := some (.int (i - j))
def gMul (i j : Int) : Option D := if okMul i j then some (.int (i * j)) else none
def gDiv (i j : Int) : Option D := if okDiv j then some (.int (i / j)) else none
def gMod (i j : Int) : Option D := if 0 < j then some (.int (i % j)) else none
def gPow (i j : Int) : Option D := if okPow i j then some (.int (i ^ j.toNat)) else none
theorem os_add : OpS A (fII gAdd) (r2 (rI0 fun i j => .int (i + j))) := os_II fun i j d e Q I H q => by cases e; exact ⟨_, _, rfl, rfl, q _ _ _ .int⟩
theorem os_sub : OpS A (fII gSub) (r2 (rI0 fun i j => .int (i - j))) := os_II fun i j d e Q I H q => by cases e; exact ⟨_, _, rfl, rfl, q _ _ _ .int⟩
def CMulU (i j : Int) : Prop := CMul i j ∨ CMulW i j
theorem op_mulU : OpR X (binaryOp .Mult) (rI CMulU fun i j => .int (i * j)) := opI fun i j _ _ _ _ _ hc q => by
  rcases hc with hc | hc
  · exact PyProof.Rows.mul_int q hc.ok
  · exact PyProof.Rows.mul_int q hc.ok
theorem os_mul : OpS A (fII gMul) (r2 (rI CMulU fun i j => .int (i * j))) := os_II fun i j d e Q I H q => by
  unfold gMul at e
  split at e
  · rename_i hc
    cases e
    refine ⟨_, _, rfl, rfl, ?_, q _ _ _ .int⟩
    unfold okMul at hc
    simp only [Bool.or_eq_true, decide_eq_true_eq] at hc
    rcases hc with (hc | hc) | hc
    · exact .inl (.inl hc)
    · exact .inl (.inr hc)
    · exact .inr hc
  · cases e
theorem os_div : OpS A (fII gDiv) (r2 (rI CDivW fun i j => .int (i / j))) := os_II fun i j d e Q I H q => by
  unfold gDiv at e
  split at e
  · rename_i hc
    cases e
    unfold okDiv at hc
    simp only [Bool.and_eq_true, decide_eq_true_eq] at hc
    exact ⟨_, _, rfl, rfl, hc, q _ _ _ .int⟩
  · cases e
theorem os_mod : OpS A (fII gMod) (r2 (rI (fun _ j => 0 < j) fun i j => .int (i % j))) := os_II fun i j d e Q I H q => by
  unfold gMod at e
  split at e
  · rename_i hc
    cases e
    exact ⟨_, _, rfl, rfl, hc, q _ _ _ .int⟩
  · cases e
theorem os_pow : OpS A (fII gPow) (r2 (rI CPow fun i j => .int (i ^ j.toNat))) := os_II fun i j d e Q I H q => by
  unfold gPow at e
  split at e
  · rename_i hc
    cases e
    unfold okPow at hc
    exact ⟨_, _, rfl, rfl, show (_ ∧ _ ∧ _) from of_decide_eq_true hc, q _ _ _ .int⟩
  · cases e
def gB (p : Int → Int → Bool) (i j : Int) : Option D := some (.bl (p i j))
theorem os_cmp {p : Int → Int → Bool} : OpS A (fII (gB p)) (r2 (rI0 fun i j => .bl (p i j))) := os_II fun i j d e Q I H q => by cases e; exact ⟨_, _, rfl, rfl, q _ _ _ .bl⟩
def fNeg : List D → Option D
  | [.int i] => some (.int (-i))
  | _ => none
theorem os_neg : OpS A fNeg (r1 (rU fun i => .int (-i))) := fun I H ds vs Q d _ _ P e q => by
  unfold fNeg at e
  split at e
  · cases e
    obtain ⟨x, rfl, h1⟩ := Paired.one P
    rw [h1.int]
    exact ⟨_, rfl, _, rfl, q _ _ _ .int⟩
  · cases e
end
end Lc
end
section
set_option Elab.async false
set_option linter.all false
set_option maxRecDepth 100000
set_option maxHeartbeats 1000000
namespace Lc
open PySem L2

/-! ### alternatives -/
def fOr (f g : List D → Option D) : List D → Option D := fun ds => match f ds with
  | some d => some d
  | none => g ds
theorem OpS.or {A : Act} {f g : List D → Option D} {r r' : List V → Hp → VK → Prop} (h : OpS A f r) (h' : OpS A g r') : OpS A (fOr f g) (fun vs H Q => r vs H Q ∨ r' vs H Q) := fun I H ds vs Q d ih bh P e q => by
  unfold fOr at e
  split at e
  · rename_i d' e'
    cases e
    exact .inl (h I H ds vs Q d ih bh P e' q)
  · exact .inr (h' I H ds vs Q d ih bh P e q)
theorem OpS.or2 {A : Act} {f g : List D → Option D} {r r' : R2} (h : OpS A f (r2 r)) (h' : OpS A g (r2 r')) : OpS A (fOr f g) (r2 fun x y H Q => r x y H Q ∨ r' x y H Q) := fun I H ds vs Q d ih bh P e q => by
  rcases OpS.or h h' I H ds vs Q d ih bh P e q with ⟨x, y, e, h⟩ | ⟨x, y, e, h⟩
  · exact ⟨x, y, e, .inl h⟩
  · exact ⟨x, y, e, .inr h⟩
theorem CallR.or {X : Cx} {f : Value} {r r' : List V → Hp → VK → Prop} (h : CallR X f r) (h' : CallR X f r') : CallR X f (fun vs H Q => r vs H Q ∨ r' vs H Q) := by
  intro pins s σ H xs us Q I rx q
  rcases q with q | q
  · exact h pins s σ H xs us Q I rx q
  · exact h' pins s σ H xs us Q I rx q
theorem OpS.to {A : Act} {f : List D → Option D} {r r' : List V → Hp → VK → Prop} (h : OpS A f r) (i : ∀ vs H Q, r vs H Q → r' vs H Q) : OpS A f r' := fun I H ds vs Q d ih bh P e q => i _ _ _ (h I H ds vs Q d ih bh P e q)

section
variable {A : Act} {W : Wx} {X : Cx}

theorem RL.leaf {g : Gs} {I B H : Hp} : ∀ {xs : List D} {vs : List V} {fp : List Addr}, RL g I B H xs vs fp → noOwnL xs = true → RL g I B H xs vs [] := fun {xs vs fp} h n => by
  have e := RL.noOwn xs h n
  subst e
  exact h
theorem Str.len (s : List Nat) : (⟨s.toArray⟩ : Str).length = s.length := by
  show s.toArray.size = _
  simp

/-! ### + -/
def line : Nat := 16777216
theorem line_eq : line = sizeLine := by rw [sizeLine_eq]; rfl
def fCatS : List D → Option D
  | [.str s, .str t] => if s.length + t.length ≤ 16777216 then some (.str (s ++ t)) else none
  | _ => none
theorem os_catS : OpS A fCatS (r2 (fun x y H Q => ∃ i j, x = .str i ∧ y = .str j ∧ i.length + j.length ≤ sizeLine ∧ Q (.str (i ++ j)) H)) := fun I H ds vs Q d ih bh P e q => by
  unfold fCatS at e
  split at e
  · split at e
    · rename_i s t hl
      cases e
      obtain ⟨x, y, rfl, h1, h2⟩ := Paired.two P
      rw [h1.str, h2.str]
      refine ⟨_, _, rfl, _, _, rfl, rfl, by rw [Str.len, Str.len, sizeLine_eq]; exact hl, ?_⟩
      have : (⟨s.toArray⟩ ++ ⟨t.toArray⟩ : Str) = ⟨(s ++ t).toArray⟩ := by
        show (⟨s.toArray ++ t.toArray⟩ : Str) = _
        simp
      rw [this]
      exact q _ _ _ .str
    · cases e
  · cases e
def fCatL : List D → Option D
  | [.nd .lst f xs, .nd .lst f' ys] => if xs.length + ys.length ≤ 16777216 && noOwnL xs && noOwnL ys then some (.nd .lst .own (xs ++ ys)) else none
  | _ => none
theorem RL.append {g : Gs} {I B H : Hp} : ∀ {xs ys : List D} {vs ws : List V}, RL g I B H xs vs [] → RL g I B H ys ws [] → RL g I B H (xs ++ ys) (vs ++ ws) []
  | [], ys, vs, ws, h, h' => by
    rw [RL] at h
    rw [h.1]
    exact h'
  | x :: xs, ys, vs, ws, h, h' => by
    rw [RL] at h
    obtain ⟨v, vr, f1, f2, rfl, e, h1, h2⟩ := h
    obtain ⟨rfl, rfl⟩ := List.append_eq_nil_iff.mp e.symm
    show RL g I B H (x :: (xs ++ ys)) (v :: (vr ++ ws)) []
    rw [RL]
    exact ⟨v, vr ++ ws, [], [], rfl, rfl, h1, RL.append h2 h'⟩
theorem os_catL : OpS A fCatL (r2 rCat) := fun I H ds vs Q d ih bh P e q => by
  unfold fCatL at e
  split at e
  · split at e
    · rename_i f xs f' ys hl
      cases e
      simp only [Bool.and_eq_true, decide_eq_true_eq] at hl
      obtain ⟨x, y, rfl, h1, h2⟩ := Paired.two P
      obtain ⟨p, vs, rfl, hp, f1, l1⟩ := h1.lst ih bh
      obtain ⟨p', vs', rfl, hp', f2, l2⟩ := h2.lst ih bh
      have l1 := l1.leaf hl.1.2
      have l2 := l2.leaf hl.2
      refine ⟨_, _, rfl, p, p', vs, vs', rfl, rfl, hp, hp', ?_, fun u hu => q _ _ _ (.list (RL.append l1 l2) hu)⟩
      rw [l1.length, l2.length, sizeLine_eq]
      exact hl.1.1
    · cases e
  · cases e
abbrev fAdd : List D → Option D := fOr (fII gAdd) (fOr fCatS fCatL)
theorem PE_add {a b : Expr} {ma mb : Ctx → ER} {pos : Pos} (ha : PE X a (tE A W ma)) (hb : PE X b (tE A W mb)) : PE X (.BinOp a .Add b pos) (tE A W (eOp fAdd [ma, mb])) :=
  PE_bin (OpR.or op_add (OpR.or op_add_str op_cat)) (OpS.or2 os_add (OpS.or2 os_catS os_catL)) ha hb
theorem PE_sub {a b : Expr} {ma mb : Ctx → ER} {pos : Pos} (ha : PE X a (tE A W ma)) (hb : PE X b (tE A W mb)) : PE X (.BinOp a .Sub b pos) (tE A W (eOp (fII gSub) [ma, mb])) := PE_bin op_sub os_sub ha hb
theorem PE_div {a b : Expr} {ma mb : Ctx → ER} {pos : Pos} (ha : PE X a (tE A W ma)) (hb : PE X b (tE A W mb)) : PE X (.BinOp a .FloorDiv b pos) (tE A W (eOp (fII gDiv) [ma, mb])) := PE_bin op_fdivW os_div ha hb
theorem PE_mod {a b : Expr} {ma mb : Ctx → ER} {pos : Pos} (ha : PE X a (tE A W ma)) (hb : PE X b (tE A W mb)) : PE X (.BinOp a .Mod b pos) (tE A W (eOp (fII gMod) [ma, mb])) := PE_bin op_mod os_mod ha hb
theorem PE_pow {a b : Expr} {ma mb : Ctx → ER} {pos : Pos} (ha : PE X a (tE A W ma)) (hb : PE X b (tE A W mb)) : PE X (.BinOp a .Pow b pos) (tE A W (eOp (fII gPow) [ma, mb])) := PE_bin op_pow os_pow ha hb
theorem PE_neg {a : Expr} {ma : Ctx → ER} {pos : Pos} (ha : PE X a (tE A W ma)) : PE X (.UnaryOp .USub a pos) (tE A W (eOp fNeg [ma])) := PE_un un_neg os_neg ha

/-! ### * -/
def fRepL : List D → Option D
  | [.nd .lst f xs, .int k] => if decide (-(2 ^ 63) ≤ k ∧ k < 2 ^ 63) && decide (xs.length * k.toNat ≤ 16777216) && noOwnL xs then some (.nd .lst .own (List.replicate k.toNat xs).flatten) else none
  | _ => none
theorem RL.rep {g : Gs} {I B H : Hp} {xs : List D} {vs : List V} (h : RL g I B H xs vs []) : ∀ n : Nat, RL g I B H (List.replicate n xs).flatten (List.replicate n vs).flatten []
  | 0 => by
    show RL g I B H [] [] []
    rw [RL]
    exact ⟨rfl, rfl⟩
  | n + 1 => by
    rw [List.replicate_succ, List.replicate_succ, List.flatten_cons, List.flatten_cons]
    exact RL.append h (RL.rep h n)
theorem os_repL : OpS A fRepL (r2 rRep) := fun I H ds vs Q d ih bh P e q => by
  unfold fRepL at e
  split at e
  · split at e
    · rename_i f xs k hl
      cases e
      simp only [Bool.and_eq_true, decide_eq_true_eq] at hl
      obtain ⟨x, y, rfl, h1, h2⟩ := Paired.two P
      obtain ⟨p, vs, rfl, hp, f1, l1⟩ := h1.lst ih bh
      rw [h2.int]
      have l1 := l1.leaf hl.2
      refine ⟨_, _, rfl, p, k, vs, rfl, rfl, hp, hl.1.1.1, hl.1.1.2, ?_, fun u hu => q _ _ _ (.list (RL.rep l1 _) hu)⟩
      rw [l1.length, sizeLine_eq]
      exact hl.1.2
    · cases e
  · cases e
abbrev fMul : List D → Option D := fOr (fII gMul) fRepL
theorem PE_mul {a b : Expr} {ma mb : Ctx → ER} {pos : Pos} (ha : PE X a (tE A W ma)) (hb : PE X b (tE A W mb)) : PE X (.BinOp a .Mult b pos) (tE A W (eOp fMul [ma, mb])) :=
  PE_bin (OpR.or op_mulU op_rep) (OpS.or2 os_mul os_repL) ha hb

/-! ### len -/
def fLen : List D → Option D
  | [.str s] => if s.length ≤ 16777216 then some (.int s.length) else none
  | [.tup xs] => some (.int xs.length)
  | [.nd .lst _ xs] => some (.int xs.length)
  | [.nd .scr _ xs] => some (.int xs.length)
  | _ => none
theorem os_len (hK : A.g.K = X.K) : OpS A fLen (fun xs H Q => ∃ x n, xs = [x] ∧ LenV X.K x H n ∧ Q (.int n) H) := fun I H ds vs Q d ih bh P e q => by
  unfold fLen at e
  split at e
  · split at e
    · rename_i s hl
      cases e
      obtain ⟨x, rfl, h1⟩ := Paired.one P
      rw [h1.str]
      exact ⟨_, s.length, rfl, ⟨by rw [Str.len, sizeLine_eq]; exact hl, (Str.len s).symm⟩, q _ _ _ .int⟩
    · cases e
  · cases e
    obtain ⟨x, rfl, h1⟩ := Paired.one P
    obtain ⟨p, ws, rfl, hp, f1, l1⟩ := h1.tup ih
    exact ⟨_, ws.length, rfl, .inr ⟨ws, hK ▸ hp, rfl⟩, by rw [l1.length]; exact q _ _ _ .int⟩
  · cases e
    obtain ⟨x, rfl, h1⟩ := Paired.one P
    obtain ⟨p, ws, rfl, hp, f1, l1⟩ := h1.lst ih bh
    exact ⟨_, ws.length, rfl, .inl ⟨ws, .inl (.inl hp), rfl⟩, by rw [l1.length]; exact q _ _ _ .int⟩
  · cases e
    obtain ⟨x, rfl, h1⟩ := Paired.one P
    obtain ⟨p, ws, rfl, hp, f1, l1⟩ := h1.scr ih bh
    exact ⟨_, ws.length, rfl, .inl ⟨ws, hK ▸ hp, rfl⟩, by rw [l1.length]; exact q _ _ _ .int⟩
  · cases e

/-! ### == -/
def eqS : D → D → Option Bool
  | .int i, .int j => some (decide (i = j))
  | .str i, .str j => some (decide (i = j))
  | .bl i, .bl j => some (decide (i = j))
  | .non, .non => some true
  | .non, .int _ => some false
  | .non, .str _ => some false
  | .int _, .non => some false
  | .str _, .non => some false
  | .int _, .str _ => some false
  | .str _, .int _ => some false
  | _, _ => none
def fB2 (p : D → D → Option Bool) : List D → Option D
  | [a, b] => match p a b with
    | some k => some (.bl k)
    | none => none
  | _ => none
def pNot (p : D → D → Option Bool) (a b : D) : Option Bool := match p a b with
  | some k => some (!k)
  | none => none
theorem fB2_some {p : D → D → Option Bool} {ds : List D} {d : D} (h : fB2 p ds = some d) : ∃ a b k, ds = [a, b] ∧ p a b = some k ∧ d = .bl k := by
  unfold fB2 at h
  split at h
  · split at h
    · rename_i k e
      cases h
      exact ⟨_, _, k, rfl, e, rfl⟩
    · cases h
  · cases h
theorem pNot_some {p : D → D → Option Bool} {a b : D} {k : Bool} (h : pNot p a b = some k) : ∃ k', p a b = some k' ∧ k = !k' := by
  unfold pNot at h
  split at h
  · rename_i k' e
    cases h
    exact ⟨k', e, rfl⟩
  · cases h
theorem Str.dec (s t : List Nat) : decide (V.str ⟨s.toArray⟩ = V.str ⟨t.toArray⟩) = decide (s = t) := by
  by_cases h : s = t
  · subst h
    simp
  · rw [decide_eq_false h, decide_eq_false]
    intro e
    injection e with e
    injection e with e
    exact h (by simpa using congrArg Array.toList e)
theorem eqS_ok {I H : Hp} {a b : D} {k : Bool} {x y : V} (h : eqS a b = some k) (h1 : EAt A I H a x) (h2 : EAt A I H b y) : scal x y = true ∧ decide (x = y) = k := by
  unfold eqS at h
  split at h
  all_goals (try cases h)
  · rw [h1.int, h2.int]
    exact ⟨rfl, by simp⟩
  · rw [h1.str, h2.str]
    exact ⟨rfl, Str.dec _ _⟩
  · rw [h1.bl, h2.bl]
    exact ⟨rfl, by simp⟩
  · rw [h1.non, h2.non]; exact ⟨rfl, rfl⟩
  · rw [h1.non, h2.int]; exact ⟨rfl, rfl⟩
  · rw [h1.non, h2.str]; exact ⟨rfl, rfl⟩
  · rw [h1.int, h2.non]; exact ⟨rfl, rfl⟩
  · rw [h1.str, h2.non]; exact ⟨rfl, rfl⟩
  · rw [h1.int, h2.str]; exact ⟨rfl, rfl⟩
  · rw [h1.str, h2.int]; exact ⟨rfl, rfl⟩
theorem os_eqS : OpS A (fB2 eqS) (r2 rEq) := fun I H ds vs Q d ih bh P e q => by
  obtain ⟨a, b, k, rfl, e1, rfl⟩ := fB2_some e
  obtain ⟨x, y, rfl, h1, h2⟩ := Paired.two P
  obtain ⟨s, z⟩ := eqS_ok e1 h1 h2
  exact ⟨_, _, rfl, s, by rw [z]; exact q _ _ _ .bl⟩
theorem os_neS : OpS A (fB2 (pNot eqS)) (r2 rNe) := fun I H ds vs Q d ih bh P e q => by
  obtain ⟨a, b, k, rfl, e1, rfl⟩ := fB2_some e
  obtain ⟨k', e2, rfl⟩ := pNot_some e1
  obtain ⟨x, y, rfl, h1, h2⟩ := Paired.two P
  obtain ⟨s, z⟩ := eqS_ok e2 h1 h2
  exact ⟨_, _, rfl, s, by rw [z]; exact q _ _ _ .bl⟩

mutual
def toPy : D → Option PyData
  | .non => some .none
  | .bl b => some (.bool b)
  | .int i => some (.int i)
  | .str s => some (.str ⟨s.toArray⟩)
  | .tup xs => (toPyL xs).map .tuple
  | .nd .lst _ xs => (toPyL xs).map .list
  | .nd .scr _ _ => none
  | .nd (.dct _) _ _ => none
  | .nd (.dcT _) _ _ => none
  | .nd (.obj _ _) _ _ => none
  | .ty _ => none
  | .exn _ _ _ => none
def toPyL : List D → Option (List PyData)
  | [] => some []
  | x :: xs => match toPy x, toPyL xs with
    | some d, some ds => some (d :: ds)
    | _, _ => none
end
mutual
theorem R.py {g : Gs} : ∀ (d : D) {I B H : Hp} {v : V} {fp : List Addr} {e : PyData}, R g I B H d v fp → toPy d = some e → leH I H → leH B H → Dp g.K H v e
  | .non, _, _, _, _, _, _, h, t, _, _ => by rw [R] at h; rw [toPy] at t; cases t; rw [h.1]; exact .non
  | .bl b, _, _, _, _, _, _, h, t, _, _ => by rw [R] at h; rw [toPy] at t; cases t; rw [h.1]; exact .bl b
  | .int i, _, _, _, _, _, _, h, t, _, _ => by rw [R] at h; rw [toPy] at t; cases t; rw [h.1]; exact .int i
  | .str s, _, _, _, _, _, _, h, t, _, _ => by rw [R] at h; rw [toPy] at t; cases t; rw [h.1]; exact .str _
  | .ty n, _, _, _, _, _, _, h, t, _, _ => by rw [toPy] at t; cases t
  | .exn _ _ _, _, _, _, _, _, _, h, t, _, _ => by rw [toPy] at t; cases t
  | .tup xs, _, _, _, _, _, _, h, t, ih, bh => by
    rw [R] at h
    rw [toPy] at t
    obtain ⟨ds, e1, rfl⟩ := Option.map_eq_some_iff.mp t
    obtain ⟨p, vs, rfl, c, h⟩ := h
    exact .tup (ih.sqT c.sq) (RL.py xs h e1 ih bh)
  | .nd .lst .own xs, _, _, _, _, _, _, h, t, ih, bh => by
    rw [R] at h
    rw [toPy] at t
    obtain ⟨ds, e1, rfl⟩ := Option.map_eq_some_iff.mp t
    obtain ⟨p, vs, fq, rfl, _, c, h⟩ := h
    exact .lst (.inl (.inl c)) (RL.py xs h e1 ih bh)
  | .nd .lst .frz xs, I, B, H, _, _, _, h, t, ih, bh => by
    rw [R] at h
    rw [toPy] at t
    obtain ⟨ds, e1, rfl⟩ := Option.map_eq_some_iff.mp t
    obtain ⟨p, vs, rfl, _, c, h⟩ := h
    exact .lst (.inl (.inl (ih _ _ c))) (RL.py (H := H) xs (RL.keep xs h (leH.refl _) (noH_le B) fun a ha => by cases ha) e1 ih bh)
  | .nd .lst .bor xs, I, B, H, _, _, _, h, t, ih, bh => by
    rw [R] at h
    rw [toPy] at t
    obtain ⟨ds, e1, rfl⟩ := Option.map_eq_some_iff.mp t
    obtain ⟨p, vs, rfl, _, c, h⟩ := h
    exact .lst (.inl (.inl (bh _ _ c))) (RL.py (H := H) xs (RL.keep xs h (leH.refl _) (leH.refl B) fun a ha => by cases ha) e1 ih bh)
  | .nd .scr _ xs, _, _, _, _, _, _, h, t, _, _ => by rw [toPy] at t; cases t
  | .nd (.dct _) _ xs, _, _, _, _, _, _, h, t, _, _ => by rw [toPy] at t; cases t
  | .nd (.dcT _) _ xs, _, _, _, _, _, _, h, t, _, _ => by rw [toPy] at t; cases t
  | .nd (.obj _ _) _ xs, _, _, _, _, _, _, h, t, _, _ => by rw [toPy] at t; cases t
theorem RL.py {g : Gs} : ∀ (xs : List D) {I B H : Hp} {vs : List V} {fp : List Addr} {es : List PyData}, RL g I B H xs vs fp → toPyL xs = some es → leH I H → leH B H → DpAll g.K H vs es
  | [], _, _, _, _, _, _, h, t, _, _ => by rw [RL] at h; rw [toPyL] at t; cases t; rw [h.1]; exact .nil
  | x :: xs, _, _, _, _, _, _, h, t, ih, bh => by
    rw [RL] at h
    rw [toPyL] at t
    obtain ⟨v, vr, f1, f2, rfl, _, h1, h2⟩ := h
    cases e1 : toPy x with
    | none => rw [e1] at t; cases t
    | some d =>
      cases e2 : toPyL xs with
      | none => rw [e1, e2] at t; cases t
      | some ds =>
        rw [e1, e2] at t
        cases t
        exact .cons (R.py x h1 e1 ih bh) (RL.py xs h2 e2 ih bh)
end
def eqD (a b : D) : Option Bool := match toPy a, toPy b with
  | some d, some e => if SeqAt.shaped d && SeqAt.shaped e then some (PyData.eqv d e) else none
  | _, _ => none
theorem eqD_ok {I H : Hp} {a b : D} {k : Bool} {x y : V} (ih : leH I H) (bh : leH A.B H) (h : eqD a b = some k) (h1 : EAt A I H a x) (h2 : EAt A I H b y) : ∃ d e, Dp A.g.K H x d ∧ Dp A.g.K H y e ∧ SeqAt.shaped d = true ∧ SeqAt.shaped e = true ∧ PyData.eqv d e = k := by
  unfold eqD at h
  split at h
  · split at h
    · rename_i d e e1 e2 hs
      cases h
      obtain ⟨f1, h1⟩ := h1
      obtain ⟨f2, h2⟩ := h2
      rw [Bool.and_eq_true] at hs
      exact ⟨_, _, R.py _ h1 e1 ih bh, R.py _ h2 e2 ih bh, hs.1, hs.2, rfl⟩
    · cases h
  · cases h
theorem os_eqD (hK : A.g.K = X.K) : OpS A (fB2 eqD) (r2 (rEqD X.K)) := fun I H ds vs Q d ih bh P e q => by
  obtain ⟨a, b, k, rfl, e1, rfl⟩ := fB2_some e
  obtain ⟨x, y, rfl, h1, h2⟩ := Paired.two P
  obtain ⟨p1, p2, d1, d2, s1, s2, rfl⟩ := eqD_ok ih bh e1 h1 h2
  exact ⟨_, _, rfl, p1, p2, hK ▸ d1, hK ▸ d2, s1, s2, q _ _ _ .bl⟩
theorem os_neD (hK : A.g.K = X.K) : OpS A (fB2 (pNot eqD)) (r2 (rNeD X.K)) := fun I H ds vs Q d ih bh P e q => by
  obtain ⟨a, b, k, rfl, e1, rfl⟩ := fB2_some e
  obtain ⟨k', e2, rfl⟩ := pNot_some e1
  obtain ⟨x, y, rfl, h1, h2⟩ := Paired.two P
  obtain ⟨p1, p2, d1, d2, s1, s2, rfl⟩ := eqD_ok ih bh e2 h1 h2
  exact ⟨_, _, rfl, p1, p2, hK ▸ d1, hK ▸ d2, s1, s2, q _ _ _ .bl⟩
abbrev fEq : List D → Option D := fOr (fB2 eqS) (fB2 eqD)
abbrev fNe : List D → Option D := fOr (fB2 (pNot eqS)) (fB2 (pNot eqD))

/-! ### in -/
def inS : D → D → Option Bool
  | .str [c], .str t => some (decide (c ∈ t))
  | _, _ => none
theorem os_inS : OpS A (fB2 inS) (r2 (fun x y H Q => ∃ (c : Nat) (z : Str), x = .str ⟨#[c]⟩ ∧ y = .str z ∧ Q (.bl (decide (c ∈ z.cps.toList))) H)) := fun I H ds vs Q d ih bh P e q => by
  obtain ⟨a, b, k, rfl, e1, rfl⟩ := fB2_some e
  obtain ⟨x, y, rfl, h1, h2⟩ := Paired.two P
  unfold inS at e1
  split at e1
  · cases e1
    rw [h1.str, h2.str]
    exact ⟨_, _, rfl, _, _, rfl, rfl, q _ _ _ .bl⟩
  · cases e1
theorem os_nInS : OpS A (fB2 (pNot inS)) (r2 (fun x y H Q => ∃ (c : Nat) (z : Str), x = .str ⟨#[c]⟩ ∧ y = .str z ∧ Q (.bl (!decide (c ∈ z.cps.toList))) H)) := fun I H ds vs Q d ih bh P e q => by
  obtain ⟨a, b, k, rfl, e1, rfl⟩ := fB2_some e
  obtain ⟨k', e2, rfl⟩ := pNot_some e1
  obtain ⟨x, y, rfl, h1, h2⟩ := Paired.two P
  unfold inS at e2
  split at e2
  · cases e2
    rw [h1.str, h2.str]
    exact ⟨_, _, rfl, _, _, rfl, rfl, q _ _ _ .bl⟩
  · cases e2
/-- any text in a text -/
def inSS : D → D → Option Bool
  | .str s, .str t => some (!(Builtin.Str.occurrences ⟨t.toArray⟩ ⟨s.toArray⟩ 0 (⟨t.toArray⟩ : Str).length 1).isEmpty)
  | _, _ => none
theorem os_inSS : OpS A (fB2 inSS) (r2 (fun x y H Q => ∃ i j, x = .str i ∧ y = .str j ∧ Q (.bl (!(Builtin.Str.occurrences j i 0 j.length 1).isEmpty)) H)) := fun I H ds vs Q d ih bh P e q => by
  obtain ⟨a, b, k, rfl, e1, rfl⟩ := fB2_some e
  obtain ⟨x, y, rfl, h1, h2⟩ := Paired.two P
  unfold inSS at e1
  split at e1
  · cases e1
    rw [h1.str, h2.str]
    exact ⟨_, _, rfl, _, _, rfl, rfl, q _ _ _ .bl⟩
  · cases e1
theorem os_nInSS : OpS A (fB2 (pNot inSS)) (r2 (fun x y H Q => ∃ i j, x = .str i ∧ y = .str j ∧ Q (.bl (!(!(Builtin.Str.occurrences j i 0 j.length 1).isEmpty))) H)) := fun I H ds vs Q d ih bh P e q => by
  obtain ⟨a, b, k, rfl, e1, rfl⟩ := fB2_some e
  obtain ⟨k', e2, rfl⟩ := pNot_some e1
  obtain ⟨x, y, rfl, h1, h2⟩ := Paired.two P
  unfold inSS at e2
  split at e2
  · cases e2
    rw [h1.str, h2.str]
    exact ⟨_, _, rfl, _, _, rfl, rfl, q _ _ _ .bl⟩
  · cases e2
/-- a flat item in a list or tuple of flat items -/
def flat : D → Option V
  | .non => some .non
  | .bl b => some (.bl b)
  | .int i => some (.int i)
  | .str s => some (.str ⟨s.toArray⟩)
  | _ => none
def flats : List D → Option (List V)
  | [] => some []
  | x :: xs => match flat x, flats xs with
    | some v, some vs => some (v :: vs)
    | _, _ => none
theorem EAt.flat {I H : Hp} {d : D} {v w : V} (h : EAt A I H d v) (e : Lc.flat d = some w) : v = w ∧ flatV w = true := by
  unfold Lc.flat at e
  split at e <;> cases e
  · exact ⟨h.non, rfl⟩
  · exact ⟨h.bl, rfl⟩
  · exact ⟨h.int, rfl⟩
  · exact ⟨h.str, rfl⟩
theorem RL.flats {I H : Hp} : ∀ {xs : List D} {vs ws : List V} {fp : List Addr}, RL A.g I A.B H xs vs fp → Lc.flats xs = some ws → vs = ws ∧ ws.all flatV = true
  | [], vs, ws, fp, h, e => by
    rw [RL] at h
    rw [Lc.flats] at e
    cases e
    exact ⟨h.1, rfl⟩
  | x :: xs, vs, ws, fp, h, e => by
    rw [RL] at h
    rw [Lc.flats] at e
    obtain ⟨v, vr, f1, f2, rfl, _, h1, h2⟩ := h
    cases e1 : Lc.flat x with
    | none => rw [e1] at e; cases e
    | some w =>
      cases e2 : Lc.flats xs with
      | none => rw [e1, e2] at e; cases e
      | some wr =>
        rw [e1, e2] at e
        cases e
        obtain ⟨rfl, q1⟩ := EAt.flat ⟨f1, h1⟩ e1
        obtain ⟨rfl, q2⟩ := RL.flats h2 e2
        exact ⟨rfl, by rw [List.all_cons, q1, q2]; rfl⟩
/-- the items of a list, a tuple -/
def items : D → Option (List D)
  | .tup xs => some xs
  | .nd .lst _ xs => some xs
  | .nd .scr _ xs => some xs
  | _ => none
theorem EAt.items {I H : Hp} {d : D} {xs : List D} {v : V} (ih : leH I H) (bh : leH A.B H) (h : EAt A I H d v) (e : Lc.items d = some xs) : ∃ p vs fp, v = .ref p ∧ (SqL A.g.K H p vs ∨ SqT A.g.K H p vs) ∧ RL A.g I A.B H xs vs fp := by
  unfold Lc.items at e
  split at e <;> cases e
  · obtain ⟨p, vs, rfl, hp, fp, l⟩ := h.tup ih
    exact ⟨p, vs, fp, rfl, .inr hp, l⟩
  · obtain ⟨p, vs, rfl, hp, fp, l⟩ := h.lst ih bh
    exact ⟨p, vs, fp, rfl, .inl (.inl (.inl hp)), l⟩
  · obtain ⟨p, vs, rfl, hp, fp, l⟩ := h.scr ih bh
    exact ⟨p, vs, fp, rfl, .inl hp, l⟩
def inF (a b : D) : Option Bool := match items b with
  | some xs => match flat a, flats xs with
    | some v, some vs => some (inV v vs)
    | _, _ => none
  | none => none
theorem inF_ok {I H : Hp} {a b : D} {k : Bool} {x y : V} (ih : leH I H) (bh : leH A.B H) (h : inF a b = some k) (h1 : EAt A I H a x) (h2 : EAt A I H b y) : ∃ p xs, y = .ref p ∧ (SqL A.g.K H p xs ∨ SqT A.g.K H p xs) ∧ flatV x = true ∧ xs.all flatV = true ∧ inV x xs = k := by
  unfold inF at h
  split at h
  · split at h
    · rename_i xs e1 _ _ v vs e2 e3
      cases h
      obtain ⟨p, ws, fp, rfl, hp, l⟩ := h2.items ih bh e1
      obtain ⟨rfl, q1⟩ := h1.flat e2
      obtain ⟨rfl, q2⟩ := RL.flats l e3
      exact ⟨p, _, rfl, hp, q1, q2, rfl⟩
    · cases h
  · cases h
theorem os_inF (hK : A.g.K = X.K) : OpS A (fB2 inF) (r2 (rIn X.K false)) := fun I H ds vs Q d ih bh P e q => by
  obtain ⟨a, b, k, rfl, e1, rfl⟩ := fB2_some e
  obtain ⟨x, y, rfl, h1, h2⟩ := Paired.two P
  obtain ⟨p, xs, rfl, hp, q1, q2, rfl⟩ := inF_ok ih bh e1 h1 h2
  exact ⟨_, _, rfl, p, xs, rfl, hK ▸ hp, q1, q2, q _ _ _ .bl⟩
theorem os_nInF (hK : A.g.K = X.K) : OpS A (fB2 (pNot inF)) (r2 (rIn X.K true)) := fun I H ds vs Q d ih bh P e q => by
  obtain ⟨a, b, k, rfl, e1, rfl⟩ := fB2_some e
  obtain ⟨k', e2, rfl⟩ := pNot_some e1
  obtain ⟨x, y, rfl, h1, h2⟩ := Paired.two P
  obtain ⟨p, xs, rfl, hp, q1, q2, rfl⟩ := inF_ok ih bh e2 h1 h2
  exact ⟨_, _, rfl, p, xs, rfl, hK ▸ hp, q1, q2, q _ _ _ .bl⟩
/-- data in a list of data -/
def inD (a b : D) : Option Bool := match toPy a, toPy b with
  | some d, some (.list ds) => if SeqAt.shaped d && SeqAt.shaped (.list ds) then some (ds.any fun z => PyData.eqv z d) else none
  | _, _ => none
theorem inD_ok {I H : Hp} {a b : D} {k : Bool} {x y : V} (ih : leH I H) (bh : leH A.B H) (h : inD a b = some k) (h1 : EAt A I H a x) (h2 : EAt A I H b y) :
    ∃ d ds, Dp A.g.K H x d ∧ Dp A.g.K H y (.list ds) ∧ SeqAt.shaped d = true ∧ SeqAt.shaped (.list ds) = true ∧ (ds.any fun z => PyData.eqv z d) = k := by
  unfold inD at h
  split at h
  · split at h
    · rename_i d ds e1 e2 hs
      cases h
      obtain ⟨f1, h1⟩ := h1
      obtain ⟨f2, h2⟩ := h2
      rw [Bool.and_eq_true] at hs
      exact ⟨_, _, R.py _ h1 e1 ih bh, R.py _ h2 e2 ih bh, hs.1, hs.2, rfl⟩
    · cases h
  · cases h
theorem os_inD (hK : A.g.K = X.K) : OpS A (fB2 inD) (r2 (rInD X.K)) := fun I H ds vs Q d ih bh P e q => by
  obtain ⟨a, b, k, rfl, e1, rfl⟩ := fB2_some e
  obtain ⟨x, y, rfl, h1, h2⟩ := Paired.two P
  obtain ⟨p1, p2, d1, d2, s1, s2, rfl⟩ := inD_ok ih bh e1 h1 h2
  exact ⟨_, _, rfl, p1, p2, hK ▸ d1, hK ▸ d2, s1, s2, q _ _ _ .bl⟩
theorem os_nInD (hK : A.g.K = X.K) : OpS A (fB2 (pNot inD)) (r2 (rNotInD X.K)) := fun I H ds vs Q d ih bh P e q => by
  obtain ⟨a, b, k, rfl, e1, rfl⟩ := fB2_some e
  obtain ⟨k', e2, rfl⟩ := pNot_some e1
  obtain ⟨x, y, rfl, h1, h2⟩ := Paired.two P
  obtain ⟨p1, p2, d1, d2, s1, s2, rfl⟩ := inD_ok ih bh e2 h1 h2
  exact ⟨_, _, rfl, p1, p2, hK ▸ d1, hK ▸ d2, s1, s2, q _ _ _ .bl⟩
abbrev fIn : List D → Option D := fOr (fB2 inS) (fOr (fB2 inSS) (fOr (fB2 inF) (fB2 inD)))
abbrev fNin : List D → Option D := fOr (fB2 (pNot inS)) (fOr (fB2 (pNot inSS)) (fOr (fB2 (pNot inF)) (fB2 (pNot inD))))
end

/-! ### what a body's context must bear -/
structure On (X : Cx) (g : Gs) : Prop where
  k : g.K = X.K
  u : X.A.units + 65 < cLine

section
variable {A : Act} {W : Wx} {X : Cx} {a b : Expr} {ma mb : Ctx → ER} {pos : Pos}
theorem On.u0 (o : On X A.g) : X.A.units + 64 < cLine := by have := o.u; omega
theorem PE_eq (o : On X A.g) (ha : PE X a (tE A W ma)) (hb : PE X b (tE A W mb)) : PE X (.Compare a [.Eq] [b] pos) (tE A W (eOp fEq [ma, mb])) := PE_cmp (OpR.or op_eq (op_eqD o.u0)) (OpS.or2 os_eqS (os_eqD o.k)) ha hb (nomark _)
theorem PE_ne (o : On X A.g) (ha : PE X a (tE A W ma)) (hb : PE X b (tE A W mb)) : PE X (.Compare a [.NotEq] [b] pos) (tE A W (eOp fNe [ma, mb])) := PE_cmp (OpR.or op_ne (op_neD o.u0)) (OpS.or2 os_neS (os_neD o.k)) ha hb (nomark _)
theorem PE_in (o : On X A.g) (ha : PE X a (tE A W ma)) (hb : PE X b (tE A W mb)) (hm : behindInMarks .In b = false := by rfl) : PE X (.Compare a [.In] [b] pos) (tE A W (eOp fIn [ma, mb])) :=
  PE_cmp (OpR.or op_in_sign (OpR.or op_in_str (OpR.or op_in_seq (op_inD o.u)))) (OpS.or2 os_inS (OpS.or2 os_inSS (OpS.or2 (os_inF o.k) (os_inD o.k)))) ha hb hm
theorem PE_nin (o : On X A.g) (ha : PE X a (tE A W ma)) (hb : PE X b (tE A W mb)) (hm : behindInMarks .NotIn b = false := by rfl) : PE X (.Compare a [.NotIn] [b] pos) (tE A W (eOp fNin [ma, mb])) :=
  PE_cmp (OpR.or op_notIn_sign (OpR.or op_notin_str (OpR.or op_notIn_seq (op_notInD o.u)))) (OpS.or2 os_nInS (OpS.or2 os_nInSS (OpS.or2 (os_nInF o.k) (os_nInD o.k)))) ha hb hm
/-- <, <=, >, >= -/
def ltS (p : List Nat → List Nat → Bool) : D → D → Option Bool
  | .str s, .str t => some (p s t)
  | _, _ => none
theorem os_ltS {p : List Nat → List Nat → Bool} {r : R2} (h : ∀ (s t : List Nat) (Q : VK) (H : Hp), Q (.bl (p s t)) H → r (.str ⟨s.toArray⟩) (.str ⟨t.toArray⟩) H Q) : OpS A (fB2 (ltS p)) (r2 r) := fun I H ds vs Q d ih bh P e q => by
  obtain ⟨a, b, k, rfl, e1, rfl⟩ := fB2_some e
  obtain ⟨x, y, rfl, h1, h2⟩ := Paired.two P
  unfold ltS at e1
  split at e1
  · cases e1
    rw [h1.str, h2.str]
    exact ⟨_, _, rfl, h _ _ _ _ (q _ _ _ .bl)⟩
  · cases e1
abbrev fLt : List D → Option D := fOr (fII (gB fun i j => decide (i < j))) (fB2 (ltS fun s t => decide (s < t)))
abbrev fLe : List D → Option D := fOr (fII (gB fun i j => decide (i ≤ j))) (fB2 (ltS fun s t => !decide (t < s)))
abbrev fGt : List D → Option D := fOr (fII (gB fun i j => decide (j < i))) (fB2 (ltS fun s t => decide (t < s)))
abbrev fGe : List D → Option D := fOr (fII (gB fun i j => decide (j ≤ i))) (fB2 (ltS fun s t => !decide (s < t)))
theorem osr_lt : OpS A fLt (r2 fun x y H Q => rI0 (fun i j => .bl (decide (i < j))) x y H Q ∨ ∃ i j, x = .str i ∧ y = .str j ∧ Q (.bl (decide (i.cps.toList < j.cps.toList))) H) := OpS.or2 os_cmp (os_ltS fun s t Q H q => ⟨_, _, rfl, rfl, q⟩)
theorem osr_le : OpS A fLe (r2 fun x y H Q => rI0 (fun i j => .bl (decide (i ≤ j))) x y H Q ∨ ∃ i j, x = .str i ∧ y = .str j ∧ Q (.bl (!decide (j.cps.toList < i.cps.toList))) H) := OpS.or2 os_cmp (os_ltS fun s t Q H q => ⟨_, _, rfl, rfl, q⟩)
theorem osr_gt : OpS A fGt (r2 fun x y H Q => rI0 (fun i j => .bl (decide (j < i))) x y H Q ∨ ∃ i j, x = .str i ∧ y = .str j ∧ Q (.bl (decide (j.cps.toList < i.cps.toList))) H) := OpS.or2 os_cmp (os_ltS fun s t Q H q => ⟨_, _, rfl, rfl, q⟩)
theorem osr_ge : OpS A fGe (r2 fun x y H Q => rI0 (fun i j => .bl (decide (j ≤ i))) x y H Q ∨ ∃ i j, x = .str i ∧ y = .str j ∧ Q (.bl (!decide (i.cps.toList < j.cps.toList))) H) := OpS.or2 os_cmp (os_ltS fun s t Q H q => ⟨_, _, rfl, rfl, q⟩)
theorem PE_lt (ha : PE X a (tE A W ma)) (hb : PE X b (tE A W mb)) : PE X (.Compare a [.Lt] [b] pos) (tE A W (eOp fLt [ma, mb])) := PE_cmp (OpR.or op_lt op_lt_str) osr_lt ha hb (nomark _)
theorem PE_le (ha : PE X a (tE A W ma)) (hb : PE X b (tE A W mb)) : PE X (.Compare a [.LtE] [b] pos) (tE A W (eOp fLe [ma, mb])) := PE_cmp (OpR.or op_le op_le_str) osr_le ha hb (nomark _)
theorem PE_gt (ha : PE X a (tE A W ma)) (hb : PE X b (tE A W mb)) : PE X (.Compare a [.Gt] [b] pos) (tE A W (eOp fGt [ma, mb])) := PE_cmp (OpR.or op_gt op_gt_str) osr_gt ha hb (nomark _)
theorem PE_ge (ha : PE X a (tE A W ma)) (hb : PE X b (tE A W mb)) : PE X (.Compare a [.GtE] [b] pos) (tE A W (eOp fGe [ma, mb])) := PE_cmp (OpR.or op_ge op_ge_str) osr_ge ha hb (nomark _)
/-- is None, is not None -/
def fIsN : List D → Option D
  | [.non] => some (.bl true)
  | [.int _] => some (.bl false)
  | [.bl _] => some (.bl false)
  | [.str _] => some (.bl false)
  | [.tup _] => some (.bl false)
  | [.nd _ _ _] => some (.bl false)
  | _ => none
end
end Lc
end
section
set_option Elab.async false
set_option linter.all false
set_option maxRecDepth 100000
set_option maxHeartbeats 1000000
namespace Lc
open PySem L2

section
variable {A : Act} {W : Wx} {X : Cx}

/-! ### tests -/
def tOfE (m : Ctx → ER) : Ctx → TR := fun c => match m c with
  | .ok (.t (.bl b)) c' => .ok b c'
  | .exc k n x c' => .exc k n x c'
  | _ => .bad
theorem tT_of {m : Ctx → ER} {σ : St} {H : Hp} {Q : Bool → Hp → Prop} (h : tT A W (tOfE m) σ H Q) : tE A W m σ H (fun x H1 => ∃ k, x = .bl k ∧ Q k H1) := by
  obtain ⟨I, c, ts, O, lk, S, h⟩ := h
  refine ⟨I, c, ts, O, lk, S, ?_⟩
  rw [tOfE] at h
  cases e : m c with
  | bad => rw [e] at h; exact h.elim
  | exc k n x c1 => rw [e] at h; exact h
  | ok ev c1 =>
    rw [e] at h
    cases ev with
    | pl r p => exact h.elim
    | t d =>
      cases d with
      | bl b =>
        intro v I1 H1 O1 S1
        obtain ⟨fp, r, _⟩ := S1.last
        rw [R] at r
        exact ⟨b, r.1, h I1 H1 O1 S1.pop⟩
      | _ => exact h.elim
theorem tT.mono {m : Ctx → TR} {σ : St} {H : Hp} {Q Q' : Bool → Hp → Prop} (h : tT A W m σ H Q) (q : ∀ b H', Q b H' → Q' b H') : tT A W m σ H Q' := by
  obtain ⟨I, c, ts, O, lk, S, h⟩ := h
  refine ⟨I, c, ts, O, lk, S, ?_⟩
  cases e : m c with
  | bad => rw [e] at h; exact h
  | exc k n x c1 => rw [e] at h; exact h
  | ok b c1 =>
    rw [e] at h
    exact fun I' H' O' S' => q _ _ (h I' H' O' S')
theorem PT_val {e : Expr} {m : Ctx → ER} (h : PE X e (tE A W m)) (he : ∀ whole, isTrue e X.env whole = (do let v ← whole; standAt e.pos; holding [v] (truthy v)) := by intro _; rfl) : PT X e (tT A W (tOfE m)) :=
  PT.imp (pt_val h he) fun σ H Q q => tT_of q
theorem PT_cmp {op : CmpOp} {f : List D → Option D} {r : R2} {a b : Expr} {ma mb : Ctx → ER} {pos : Pos} (ho : OpR X (compareOp op) r) (os : OpS A f (r2 r)) (ha : PE X a (tE A W ma)) (hb : PE X b (tE A W mb)) (hm : behindInMarks op b = false) :
    PT X (.Compare a [op] [b] pos) (tT A W (tOfE (eOp f [ma, mb]))) := PT.imp (pt_cmpR ho ha hb hm) fun σ H Q q => tOp_of os _ _ _ (tT_of q)

def tAndT (a b : Ctx → TR) : Ctx → TR := fun c => match a c with
  | .ok true c1 => b c1
  | .ok false c1 => .ok false c1
  | .exc k n x c1 => .exc k n x c1
  | .bad => .bad
def tOrT (a b : Ctx → TR) : Ctx → TR := fun c => match a c with
  | .ok true c1 => .ok true c1
  | .ok false c1 => b c1
  | .exc k n x c1 => .exc k n x c1
  | .bad => .bad
def tNotT (a : Ctx → TR) : Ctx → TR := fun c => match a c with
  | .ok b c1 => .ok (!b) c1
  | .exc k n x c1 => .exc k n x c1
  | .bad => .bad
theorem PW_one {op : BoolOp} {a : Expr} {ma : Ctx → TR} {pos : Pos} (ha : PT X a (tT A W ma)) : PW X (.BoolOp op [a] pos) (tT A W ma) := by
  cases op with
  | And => exact pw_and1 ha
  | Or => exact pw_or1 ha
theorem PW.imp {X : Cx} {e : Expr} {t t' : TT} (h : PW X e t) (q : ∀ σ H Q, t' σ H Q → t σ H Q) : PW X e t' := ⟨fun wh pins s σ H Q I x => h.run wh pins s σ H Q I (q σ H Q x)⟩
theorem PW_and {a b : Expr} {rest : List Expr} {ma mb : Ctx → TR} {pos : Pos} (ha : PT X a (tT A W ma)) (hb : PW X (.BoolOp .And (b :: rest) pos) (tT A W mb)) : PW X (.BoolOp .And (a :: b :: rest) pos) (tT A W (tAndT ma mb)) :=
  PW.imp (pw_and ha hb) fun σ H Q ⟨I, c, ts, O, lk, S, h⟩ => by
    refine ⟨I, c, ts, O, lk, S, ?_⟩
    rw [tAndT] at h
    cases e : ma c with
    | bad => rw [e] at h; exact h
    | exc k n x c1 => rw [e] at h; exact h
    | ok k c1 =>
      rw [e] at h
      intro I1 H1 O1 S1
      cases k with
      | true => exact iteT ⟨I1, c1, ts, O1, lk, S1, h⟩
      | false => exact iteF (h I1 H1 O1 S1)
theorem PW_or {a b : Expr} {rest : List Expr} {ma mb : Ctx → TR} {pos : Pos} (ha : PT X a (tT A W ma)) (hb : PW X (.BoolOp .Or (b :: rest) pos) (tT A W mb)) : PW X (.BoolOp .Or (a :: b :: rest) pos) (tT A W (tOrT ma mb)) :=
  PW.imp (pw_or ha hb) fun σ H Q ⟨I, c, ts, O, lk, S, h⟩ => by
    refine ⟨I, c, ts, O, lk, S, ?_⟩
    rw [tOrT] at h
    cases e : ma c with
    | bad => rw [e] at h; exact h
    | exc k n x c1 => rw [e] at h; exact h
    | ok k c1 =>
      rw [e] at h
      intro I1 H1 O1 S1
      cases k with
      | true => exact iteT (h I1 H1 O1 S1)
      | false => exact iteF ⟨I1, c1, ts, O1, lk, S1, h⟩
theorem PT_not {a : Expr} {ma : Ctx → TR} {pos : Pos} (ha : PT X a (tT A W ma)) : PT X (.UnaryOp .Not a pos) (tT A W (tNotT ma)) :=
  PT.imp (pt_not ha) fun σ H Q ⟨I, c, ts, O, lk, S, h⟩ => by
    refine ⟨I, c, ts, O, lk, S, ?_⟩
    rw [tNotT] at h
    cases e : ma c with
    | bad => rw [e] at h; exact h
    | exc k n x c1 => rw [e] at h; exact h
    | ok k c1 => rw [e] at h; exact h

/-- truth of any value -/
def truth : D → Option Bool
  | .non => some false
  | .bl b => some b
  | .int i => some (i != 0)
  | .str s => if s.length ≤ 16777216 then some (!s.isEmpty) else none
  | .tup xs => some (!xs.isEmpty)
  | .nd .lst _ xs => some (!xs.isEmpty)
  | .nd .scr _ xs => some (!xs.isEmpty)
  | .nd (.dct _) .own xs => some (!xs.isEmpty)
  | _ => none
theorem isEmpty_len {α β : Type} {xs : List α} {ys : List β} (h : xs.length = ys.length) : xs.isEmpty = ys.isEmpty := by
  cases xs <;> cases ys <;> simp_all
theorem truth_ok {I H : Hp} {d : D} {v : V} {k : Bool} (hK : A.g.K = X.K) (ih : leH I H) (bh : leH A.B H) (h : EAt A I H d v) (e : truth d = some k) : TruV X.K v H k := by
  unfold truth at e
  split at e
  · cases e; rw [h.non]; rfl
  · cases e; rw [h.bl]; rfl
  · cases e; rw [h.int]; rfl
  · split at e
    · rename_i s hl
      cases e
      rw [h.str]
      refine ⟨by rw [Str.len, sizeLine_eq]; exact hl, ?_⟩
      rw [Str.len]
      cases s <;> simp
      omega
    · cases e
  · cases e
    obtain ⟨p, vs, rfl, hp, fp, l⟩ := h.tup ih
    exact .inr (.inl ⟨vs, hK ▸ hp, by rw [isEmpty_len l.length]⟩)
  · cases e
    obtain ⟨p, vs, rfl, hp, fp, l⟩ := h.lst ih bh
    exact .inl ⟨vs, .inl (.inl hp), by rw [isEmpty_len l.length]⟩
  · cases e
    obtain ⟨p, vs, rfl, hp, fp, l⟩ := h.scr ih bh
    exact .inl ⟨vs, hK ▸ hp, by rw [isEmpty_len l.length]⟩
  · cases e
    obtain ⟨fp, h⟩ := h
    rw [R] at h
    obtain ⟨p, vs, fq, rfl, _, ⟨hl, hp⟩, l⟩ := h
    refine .inr (.inr ⟨_, hp, ?_⟩)
    rw [← isEmpty_len l.length]
    congr 1
    exact (isEmpty_len (by rw [List.length_zip, hl, Nat.min_self])).symm
  · cases e
def tTru (m : Ctx → ER) : Ctx → TR := fun c => match m c with
  | .ok e c' => match val c' e with
    | some d => match truth d with
      | some b => .ok b c'
      | none => .bad
    | none => .bad
  | .exc k n x c' => .exc k n x c'
  | .bad => .bad
theorem PT_tru {e : Expr} {m : Ctx → ER} (hK : A.g.K = X.K) (h : PE X e (tE A W m)) (he : ∀ whole, isTrue e X.env whole = (do let v ← whole; standAt e.pos; holding [v] (truthy v)) := by intro _; rfl) : PT X e (tT A W (tTru m)) :=
  PT.imp (pt_truth h he) fun σ H Q ⟨I, c, ts, O, lk, S, h⟩ => by
    refine ⟨I, c, ts, O, lk, S, ?_⟩
    rw [tTru] at h
    cases e : m c with
    | bad => rw [e] at h; exact h.elim
    | exc k n x c1 => rw [e] at h; exact h
    | ok ev c1 =>
      rw [e] at h
      dsimp only at h
      cases e2 : val c1 ev with
      | none => rw [e2] at h; exact h.elim
      | some d =>
        rw [e2] at h
        dsimp only at h
        cases e3 : truth d with
        | none => rw [e3] at h; exact h.elim
        | some k =>
          rw [e3] at h
          dsimp only at h
          cases ev with
          | t d' =>
            rw [val] at e2
            cases e2
            intro v I1 H1 O1 S1
            obtain ⟨fp, r, _⟩ := S1.last
            exact ⟨k, truth_ok hK S1.ih S1.bh ⟨fp, r⟩ e3, h I1 H1 O1 S1.pop⟩
          | pl r p =>
            intro v I1 H1 O1 S1 pv
            obtain ⟨d0, v0, d', fa, fn, fb, q1, q2, q3, _, _, _, rn, _, _⟩ := S1.at pv
            have : d' = d := by
              rw [val, q1] at e2
              dsimp only at e2
              rw [q3] at e2
              cases e2
              rfl
            subst this
            exact ⟨k, truth_ok hK S1.ih S1.bh ⟨fn, rn⟩ e3, h I1 H1 O1 S1⟩

/-! ### and, or, not, if-else as values; chains -/
def eT (t : Ctx → TR) : Ctx → ER := fun c => match t c with
  | .ok b c' => .ok (.t (.bl b)) c'
  | .exc k n x c' => .exc k n x c'
  | .bad => .bad
def eIf (t : Ctx → TR) (a b : Ctx → ER) : Ctx → ER := fun c => match t c with
  | .ok true c1 => a c1
  | .ok false c1 => b c1
  | .exc k n x c1 => .exc k n x c1
  | .bad => .bad
def eAnd (a b : Ctx → ER) : Ctx → ER := fun c => match a c with
  | .ok (.t (.bl true)) c1 => b c1
  | .ok (.t (.bl false)) c1 => .ok (.t (.bl false)) c1
  | .exc k n x c1 => .exc k n x c1
  | _ => .bad
def eOr (a b : Ctx → ER) : Ctx → ER := fun c => match a c with
  | .ok (.t (.bl true)) c1 => .ok (.t (.bl true)) c1
  | .ok (.t (.bl false)) c1 => b c1
  | .exc k n x c1 => .exc k n x c1
  | _ => .bad
def eNot (a : Ctx → ER) : Ctx → ER := fun c => match a c with
  | .ok (.t (.bl b)) c1 => .ok (.t (.bl (!b))) c1
  | .exc k n x c1 => .exc k n x c1
  | _ => .bad
theorem R.bl {g : Gs} {I B H : Hp} {b : Bool} : R g I B H (.bl b) (.bl b) [] := by rw [R]; exact ⟨rfl, rfl⟩
theorem bl_of {I H : Hp} {O : Addr → Option Ow} {w : Ow} {b : Bool} {v : V} (h : RO A I H O w (.bl b) v) : v = .bl b := by
  obtain ⟨fp, r, _⟩ := h
  rw [R] at r
  exact r.1
theorem PE_if {t a b : Expr} {mt : Ctx → TR} {ma mb : Ctx → ER} {pos : Pos} (ht : PT X t (tT A W mt)) (ha : PE X a (tE A W ma)) (hb : PE X b (tE A W mb)) : PE X (.IfExp t a b pos) (tE A W (eIf mt ma mb)) :=
  PE.imp (pe_ifExp ht ha hb) fun σ H Q ⟨I, c, ts, O, lk, S, h⟩ => by
    refine ⟨I, c, ts, O, lk, S, ?_⟩
    rw [eIf] at h
    cases e : mt c with
    | bad => rw [e] at h; exact h
    | exc k n x c1 => rw [e] at h; exact h
    | ok k c1 =>
      rw [e] at h
      intro I1 H1 O1 S1
      cases k with
      | true => exact iteT ⟨I1, c1, ts, O1, lk, S1, h⟩
      | false => exact iteF ⟨I1, c1, ts, O1, lk, S1, h⟩
theorem PE_one {op : BoolOp} {a : Expr} {ma : Ctx → ER} {pos : Pos} (ha : PE X a (tE A W ma)) : PE X (.BoolOp op [a] pos) (tE A W ma) := pe_one ha
theorem PE_and {a b : Expr} {rest : List Expr} {ma mb : Ctx → ER} {pos : Pos} (ha : PE X a (tE A W ma)) (hb : PE X (.BoolOp .And (b :: rest) pos) (tE A W mb)) : PE X (.BoolOp .And (a :: b :: rest) pos) (tE A W (eAnd ma mb)) :=
  PE.imp (pe_and ha hb) fun σ H Q ⟨I, c, ts, O, lk, S, h⟩ => by
    refine ⟨I, c, ts, O, lk, S, ?_⟩
    rw [eAnd] at h
    cases e : ma c with
    | bad => rw [e] at h; exact h.elim
    | exc k n x c1 => rw [e] at h; exact h
    | ok ev c1 =>
      rw [e] at h
      cases ev with
      | pl r p => exact h.elim
      | t d =>
        cases d with
        | bl k =>
          intro v I1 H1 O1 S1
          refine ⟨k, bl_of S1.last, ?_⟩
          cases k with
          | true => exact iteT ⟨I1, c1, ts, O1, lk, S1.pop, h⟩
          | false => exact iteF (h (.bl false) I1 H1 O1 (S1.pop.push R.bl))
        | _ => exact h.elim
theorem PE_or {a b : Expr} {rest : List Expr} {ma mb : Ctx → ER} {pos : Pos} (ha : PE X a (tE A W ma)) (hb : PE X (.BoolOp .Or (b :: rest) pos) (tE A W mb)) : PE X (.BoolOp .Or (a :: b :: rest) pos) (tE A W (eOr ma mb)) :=
  PE.imp (pe_or ha hb) fun σ H Q ⟨I, c, ts, O, lk, S, h⟩ => by
    refine ⟨I, c, ts, O, lk, S, ?_⟩
    rw [eOr] at h
    cases e : ma c with
    | bad => rw [e] at h; exact h.elim
    | exc k n x c1 => rw [e] at h; exact h
    | ok ev c1 =>
      rw [e] at h
      cases ev with
      | pl r p => exact h.elim
      | t d =>
        cases d with
        | bl k =>
          intro v I1 H1 O1 S1
          refine ⟨k, bl_of S1.last, ?_⟩
          cases k with
          | true => exact iteT (h (.bl true) I1 H1 O1 (S1.pop.push R.bl))
          | false => exact iteF ⟨I1, c1, ts, O1, lk, S1.pop, h⟩
        | _ => exact h.elim
/-- not a, as a value: a gives a bool -/
theorem PE_not {a : Expr} {ma : Ctx → ER} {pos : Pos} (ha : PE X a (tE A W ma)) : PE X (.UnaryOp .Not a pos) (tE A W (eNot ma)) :=
  PE.imp (pe_not ha) fun σ H Q ⟨I, c, ts, O, lk, S, h⟩ => by
    refine ⟨I, c, ts, O, lk, S, ?_⟩
    rw [eNot] at h
    cases e : ma c with
    | bad => rw [e] at h; exact h.elim
    | exc k n x c1 => rw [e] at h; exact h
    | ok ev c1 =>
      rw [e] at h
      cases ev with
      | pl r p => exact h.elim
      | t d =>
        cases d with
        | bl k =>
          intro v I1 H1 O1 S1
          exact ⟨k, bl_of S1.last, h (.bl (!k)) I1 H1 O1 (S1.pop.push R.bl)⟩
        | _ => exact h.elim
/-- a p b p' c of ints -/
def eChain (p p' : Int → Int → Bool) (ma mb mc : Ctx → ER) : Ctx → ER := fun c => match ma c with
  | .ok (.t (.int i)) c1 => match mb c1 with
    | .ok (.t (.int j)) c2 => if p i j then match mc c2 with
        | .ok (.t (.int k)) c3 => .ok (.t (.bl (p' j k))) c3
        | .exc k n x c3 => .exc k n x c3
        | _ => .bad
      else .ok (.t (.bl false)) c2
    | .exc k n x c2 => .exc k n x c2
    | _ => .bad
  | .exc k n x c1 => .exc k n x c1
  | _ => .bad
theorem int_of {I H : Hp} {O : Addr → Option Ow} {w : Ow} {i : Int} {v : V} (h : RO A I H O w (.int i) v) : v = .int i := by
  obtain ⟨fp, r, _⟩ := h
  rw [R] at r
  exact r.1
theorem tChain_of {p p' : Int → Int → Bool} {ma mb mc : Ctx → ER} {σ : St} {H : Hp} {Q : VK} (h : tE A W (eChain p p' ma mb mc) σ H Q) : tChain (rI0 fun i j => .bl (p i j)) (rI0 fun i j => .bl (p' i j)) (tE A W ma) (tE A W mb) (tE A W mc) σ H Q := by
  obtain ⟨I, c, ts, O, lk, S, h⟩ := h
  refine ⟨I, c, ts, O, lk, S, ?_⟩
  rw [eChain] at h
  cases e : ma c with
  | bad => rw [e] at h; exact h.elim
  | exc k n x c1 => rw [e] at h; exact h
  | ok ev c1 =>
    rw [e] at h
    cases ev with
    | pl r p => exact h.elim
    | t d =>
      cases d with
      | int i =>
        intro v I1 H1 O1 S1
        rw [int_of S1.last]
        refine ⟨I1, c1, ts, O1, lk, S1.pop, ?_⟩
        dsimp only at h
        cases e : mb c1 with
        | bad => rw [e] at h; exact h.elim
        | exc k n x c2 => rw [e] at h; exact h
        | ok ev c2 =>
          rw [e] at h
          cases ev with
          | pl r p => exact h.elim
          | t d =>
            cases d with
            | int j =>
              intro v I2 H2 O2 S2
              rw [int_of S2.last]
              refine ⟨i, j, rfl, rfl, p i j, rfl, ?_⟩
              dsimp only at h
              cases hp : p i j with
              | false =>
                rw [hp] at h
                exact iteF (h (.bl false) I2 H2 O2 (S2.pop.push R.bl))
              | true =>
                rw [hp, if_pos rfl] at h
                refine iteT ⟨I2, c2, ts, O2, lk, S2.pop, ?_⟩
                cases e : mc c2 with
                | bad => rw [e] at h; exact h.elim
                | exc k n x c3 => rw [e] at h; exact h
                | ok ev c3 =>
                  rw [e] at h
                  cases ev with
                  | pl r p => exact h.elim
                  | t d =>
                    cases d with
                    | int k =>
                      intro v I3 H3 O3 S3
                      rw [int_of S3.last]
                      exact ⟨j, k, rfl, rfl, h _ I3 H3 O3 (S3.pop.push R.bl)⟩
                    | _ => exact h.elim
            | _ => exact h.elim
      | _ => exact h.elim
theorem PE_chain {op op' : CmpOp} {p p' : Int → Int → Bool} {a b d : Expr} {ma mb mc : Ctx → ER} {pos : Pos} (ho : OpR X (compareOp op) (rI0 fun i j => .bl (p i j))) (ho' : OpR X (compareOp op') (rI0 fun i j => .bl (p' i j))) (ha : PE X a (tE A W ma)) (hb : PE X b (tE A W mb)) (hc : PE X d (tE A W mc))
    (hm : lastMarks [op, op'] [b, d] = false := by with_unfolding_all rfl) : PE X (.Compare a [op, op'] [b, d] pos) (tE A W (eChain p p' ma mb mc)) := PE.imp (pe_chain ho ho' ha hb hc hm) fun σ H Q h => tChain_of h
theorem PT_chain {op op' : CmpOp} {p p' : Int → Int → Bool} {a b d : Expr} {ma mb mc : Ctx → ER} {pos : Pos} (ho : OpR X (compareOp op) (rI0 fun i j => .bl (p i j))) (ho' : OpR X (compareOp op') (rI0 fun i j => .bl (p' i j))) (ha : PE X a (tE A W ma)) (hb : PE X b (tE A W mb)) (hc : PE X d (tE A W mc))
    (hm : lastMarks [op, op'] [b, d] = false := by with_unfolding_all rfl) : PT X (.Compare a [op, op'] [b, d] pos) (tT A W (tOfE (eChain p p' ma mb mc))) := PT.imp (pt_chain ho ho' ha hb hc hm) fun σ H Q h => tChain_of (tT_of h)
end
end Lc
end
section
set_option Elab.async false
set_option linter.all false
set_option maxRecDepth 100000
set_option maxHeartbeats 1000000
namespace Lc
open PySem L2

section
variable {A : Act} {W : Wx} {X : Cx}

/-! ### an item -/
/-- the item of a container at a key, its place among the children -/
def ixAt : D → D → Option (D × Nat)
  | .str s, .int i => if s.length ≤ 16777216 then (atI s i).map fun c => (.str [c], 0) else none
  | .tup xs, .int i => (ixN xs.length i).bind fun n => (xs[n]?).map fun x => (x, n)
  | .nd .lst _ xs, .int i => (ixN xs.length i).bind fun n => (xs[n]?).map fun x => (x, n)
  | .nd .scr _ xs, .int i => (ixN xs.length i).bind fun n => (xs[n]?).map fun x => (x, n)
  | _, _ => none
def eIx (ma mb : Ctx → ER) : Ctx → ER := fun c => match eArgs [ma, mb] c with
  | .ok [e1, e2] c2 => match val c2 e1, val c2 e2 with
    | some d, some k => match ixAt d k with
      | some (x, n) => if Lc.noOwn x then .ok (.t x) (unlocks [e1, e2] c2) else match e1 with
        | .pl r p => .ok (.pl r (p ++ [n])) (unlocks [e1, e2] c2)
        | .t _ => .bad
      | none => .bad
    | _, _ => .bad
  | .exc k n x c2 => .exc k n x c2
  | _ => .bad

theorem getP_snoc : ∀ (p : List Nat) {d d' x : D} {n : Nat}, getP d p = some d' → getP d' [n] = some x → getP d (p ++ [n]) = some x
  | [], d, d', x, n, h, e => by
    rw [getP] at h
    cases h
    exact e
  | m :: p, .tup xs, d', x, n, h, e => by
    rw [List.cons_append]
    rw [getP] at h ⊢
    cases hx : xs[m]? with
    | none => rw [hx] at h; cases h
    | some y =>
      rw [hx] at h
      exact getP_snoc p h e
  | m :: p, .nd kd .own xs, d', x, n, h, e => by
    rw [List.cons_append]
    rw [getP] at h ⊢
    cases hx : xs[m]? with
    | none => rw [hx] at h; cases h
    | some y =>
      rw [hx] at h
      exact getP_snoc p h e
  | m :: p, .nd kd .frz xs, d', x, n, h, e => by rw [getP] at h <;> first | cases h | (intros; contradiction)
  | m :: p, .nd kd .bor xs, d', x, n, h, e => by rw [getP] at h <;> first | cases h | (intros; contradiction)
  | m :: p, .non, d', x, n, h, e => by rw [getP] at h <;> first | cases h | (intros; contradiction)
  | m :: p, .bl _, d', x, n, h, e => by rw [getP] at h <;> first | cases h | (intros; contradiction)
  | m :: p, .int _, d', x, n, h, e => by rw [getP] at h <;> first | cases h | (intros; contradiction)
  | m :: p, .str _, d', x, n, h, e => by rw [getP] at h <;> first | cases h | (intros; contradiction)
  | m :: p, .ty _, d', x, n, h, e => by rw [getP] at h <;> first | cases h | (intros; contradiction)
  | m :: p, .exn _ _ _, d', x, n, h, e => by rw [getP] at h <;> first | cases h | (intros; contradiction)
theorem VAt.snoc {g : Gs} {I H : Hp} {S : Addr → Prop} {n : Nat} {w : V} : ∀ {p : List Nat} {v u : V}, VAt g I H S v p u → VAt g I H S u [n] w → VAt g I H S v (p ++ [n]) w
  | [], v, u, h, e => by
    have h : u = v := h
    subst h
    exact e
  | m :: p, v, u, h, e => by
    obtain ⟨q, vs, v1, e1, h1, g1, h⟩ := h
    exact ⟨q, vs, v1, e1, h1, g1, VAt.snoc h e⟩
theorem noOwn_get : ∀ {xs : List D} {n : Nat} {x : D}, xs[n]? = some x → Lc.noOwn x = false → noOwnL xs = false
  | [], n, x, h, _ => by simp at h
  | y :: ys, 0, x, h, e => by
    have h : y = x := by simpa using h
    subst h
    rw [noOwnL, e]
    rfl
  | y :: ys, n + 1, x, h, e => by
    have h : ys[n]? = some x := by simpa using h
    rw [noOwnL, noOwn_get h e, Bool.and_false]

/-- the child of a place -/
theorem PV.child {I H : Hp} {σ : St} {c : Ctx} {ts : List (D × V)} {O : Addr → Option Ow} {lk : List (Nat × List Nat × V)} {r n : Nat} {p : List Nat} {v : V} {d x : D} (S : Sat A I H σ c ts O lk) (h : PV A I H σ c O r p v) (e : val c (.pl r p) = some d) (hx : getP d [n] = some x) (no : Lc.noOwn x = false) :
    ∃ q vs w, v = .ref q ∧ ((∃ xs, d = .tup xs ∧ I q = some (.tup vs) ∧ vs.length = xs.length) ∨ ∃ k xs, d = .nd k .own xs ∧ OwnC A.g H k q vs ∧ vs.length = xs.length) ∧ vs[n]? = some w ∧ PV A I H σ c O r (p ++ [n]) w := by
  obtain ⟨d0, v0, d', fa, fn, fb, q1, q2, q3, _, _, ow, rn, _, _⟩ := S.at h
  have ed : d' = d := by
    rw [val, q1] at e
    dsimp only at e
    rw [q3] at e
    cases e
    rfl
  subst ed
  obtain ⟨d2, v2, d3, a1, a2, a3, a4, va0⟩ := h
  rw [q2] at a2
  cases a2
  have fin : ∀ {q : Addr} {vs : List V} {w : V}, v = .ref q → (I q = some (.tup vs) ∨ (O q = some (.inl r) ∧ ∃ k, OwnC A.g H k q vs)) → vs[n]? = some w → PV A I H σ c O r (p ++ [n]) w := fun {q vs w} e1 h1 g1 =>
    ⟨d0, v0, x, q1, q2, getP_snoc p q3 hx, no, VAt.snoc va0 ⟨q, vs, w, e1, h1, g1, rfl⟩⟩
  cases d' with
  | tup xs =>
    rw [getP] at hx
    cases hy : xs[n]? with
    | none => rw [hy] at hx; cases hx
    | some y =>
      rw [hy] at hx
      dsimp only at hx
      rw [getP] at hx
      cases hx
      rw [R] at rn
      obtain ⟨q, vs, e1, tc, l⟩ := rn
      obtain ⟨w, fa', fn', fb', g1, ef, rr, _⟩ := RL.at l hy
      have t1 := tc.own fun z => by
        rw [z] at l
        have := RL.isNil xs l rfl
        rw [noOwn_get hy no] at this
        cases this
      exact ⟨q, vs, w, e1, .inl ⟨xs, rfl, t1, l.length⟩, g1, fin e1 (.inl t1) g1⟩
  | nd k f xs =>
    cases f with
    | own =>
      rw [getP] at hx
      cases hy : xs[n]? with
      | none => rw [hy] at hx; cases hx
      | some y =>
        rw [hy] at hx
        dsimp only at hx
        rw [getP] at hx
        cases hx
        rw [R] at rn
        obtain ⟨q, vs, fq, e1, ef0, oc, l⟩ := rn
        obtain ⟨w, fa', fn', fb', g1, ef, rr, _⟩ := RL.at l hy
        exact ⟨q, vs, w, e1, .inr ⟨k, xs, rfl, oc, l.length⟩, g1, fin e1 (.inr ⟨ow q (by simp [ef0]), k, oc⟩) g1⟩
    | frz => rw [getP] at hx <;> first | cases hx | (intros; contradiction)
    | bor => rw [getP] at hx <;> first | cases hx | (intros; contradiction)
  | _ => rw [getP] at hx <;> first | cases hx | (intros; contradiction)

theorem ixN_lt {n : Nat} {i : Int} {j : Nat} (h : ixN n i = some j) : j < n := (ixN_seq h).2.1
theorem RL.get {g : Gs} {I B H : Hp} {xs : List D} {vs : List V} {fp : List Addr} {n : Nat} {x : D} (h : RL g I B H xs vs fp) (e : xs[n]? = some x) : ∃ v fn, vs[n]? = some v ∧ R g I B H x v fn := by
  obtain ⟨v, fa, fn, fb, e1, _, r, _⟩ := RL.at h e
  exact ⟨v, fn, e1, r⟩
theorem atI_of {α : Type} {xs : List α} {i : Int} {n : Nat} {x : α} {m : Nat} (hm : xs.length = m) (h : ixN m i = some n) (e : xs[n]? = some x) : atI xs i = some x := by
  unfold atI
  rw [hm, h]
  exact e
def rIxDct : R2 := fun x y H Q => ∃ a v, x = .ref a ∧ DGet H a y (some v) ∧ Q v H
theorem ix_leaf {I H : Hp} {d k x : D} {n : Nat} {u y : V} {Q : VK} (hK : A.g.K = X.K) (ih : leH I H) (bh : leH A.B H) (h1 : EAt A I H d u) (h2 : EAt A I H k y) (e : ixAt d k = some (x, n)) (no : Lc.noOwn x = true) (q : ∀ w, R A.g I A.B H x w [] → Q w H) : rIx X.K u y H Q := by
  have nil : ∀ {w : V} {fn : List Addr}, R A.g I A.B H x w fn → R A.g I A.B H x w [] := fun {w fn} r => by
    have := R.noOwn x r no
    subst this
    exact r
  unfold ixAt at e
  split at e
  · split at e
    · rename_i s i hl
      obtain ⟨c, e1, e2⟩ := Option.map_eq_some_iff.mp e
      cases e2
      rw [h1.str, h2.int]
      exact .inr (.inr ⟨_, _, c, rfl, rfl, by rw [Str.len, sizeLine_eq]; exact hl, by simpa using e1, q _ (by rw [R]; exact ⟨rfl, rfl⟩)⟩)
    · cases e
  · rename_i xs i
    obtain ⟨j, e1, e2⟩ := Option.bind_eq_some_iff.mp e
    obtain ⟨x', e3, e4⟩ := Option.map_eq_some_iff.mp e2
    cases e4
    rw [h2.int]
    obtain ⟨p, vs, rfl, hp, fp, l⟩ := h1.tup ih
    obtain ⟨v, fn, e5, rr⟩ := RL.get l e3
    exact .inr (.inl ⟨p, vs, i, v, rfl, rfl, hK ▸ hp, atI_of l.length e1 e5, q v (nil rr)⟩)
  · rename_i f xs i
    obtain ⟨j, e1, e2⟩ := Option.bind_eq_some_iff.mp e
    obtain ⟨x', e3, e4⟩ := Option.map_eq_some_iff.mp e2
    cases e4
    rw [h2.int]
    obtain ⟨p, vs, rfl, hp, fp, l⟩ := h1.lst ih bh
    obtain ⟨v, fn, e5, rr⟩ := RL.get l e3
    exact .inl ⟨p, vs, i, v, rfl, rfl, .inl (.inl hp), atI_of l.length e1 e5, q v (nil rr)⟩
  · rename_i f xs i
    obtain ⟨j, e1, e2⟩ := Option.bind_eq_some_iff.mp e
    obtain ⟨x', e3, e4⟩ := Option.map_eq_some_iff.mp e2
    cases e4
    rw [h2.int]
    obtain ⟨p, vs, rfl, hp, fp, l⟩ := h1.scr ih bh
    obtain ⟨v, fn, e5, rr⟩ := RL.get l e3
    exact .inl ⟨p, vs, i, v, rfl, rfl, hK ▸ hp, atI_of l.length e1 e5, q v (nil rr)⟩
  · cases e
theorem ix_own {I H : Hp} {σ : St} {c : Ctx} {ts : List (D × V)} {O : Addr → Option Ow} {lk : List (Nat × List Nat × V)} {r n : Nat} {p : List Nat} {u y : V} {d k x : D} {Q : VK} (hK : A.g.K = X.K) (S : Sat A I H σ c ts O lk) (h : PV A I H σ c O r p u) (ev : val c (.pl r p) = some d) (h2 : EAt A I H k y) (e : ixAt d k = some (x, n))
    (no : Lc.noOwn x = false) (q : ∀ w, PV A I H σ c O r (p ++ [n]) w → Q w H) : rIx X.K u y H Q := by
  have gx : getP d [n] = some x := by
    obtain ⟨d0, v0, d', fa, fn, fb, q1, q2, q3, _, _, ow, rn, ne, _⟩ := S.at h
    have ed : d' = d := by
      rw [val, q1] at ev
      dsimp only at ev
      rw [q3] at ev
      cases ev
      rfl
    subst ed
    unfold ixAt at e
    split at e
    · split at e
      · obtain ⟨c, e1, e2⟩ := Option.map_eq_some_iff.mp e
        cases e2
        rw [Lc.noOwn] at no
        cases no
      · cases e
    · obtain ⟨j, e1, e2⟩ := Option.bind_eq_some_iff.mp e
      obtain ⟨x', e3, e4⟩ := Option.map_eq_some_iff.mp e2
      cases e4
      rw [getP, e3]
      dsimp only
      rw [getP]
    · rename_i f xs i
      obtain ⟨j, e1, e2⟩ := Option.bind_eq_some_iff.mp e
      obtain ⟨x', e3, e4⟩ := Option.map_eq_some_iff.mp e2
      cases e4
      have : f = .own := by
        cases f with
        | own => rfl
        | frz =>
          rw [R] at rn
          obtain ⟨_, _, _, z, _⟩ := rn
          exact absurd z ne
        | bor =>
          rw [R] at rn
          obtain ⟨_, _, _, z, _⟩ := rn
          exact absurd z ne
      subst this
      rw [getP, e3]
      dsimp only
      rw [getP]
    · rename_i f xs i
      have : f = .own := by
        cases f with
        | own => rfl
        | frz =>
          rw [R] at rn
          obtain ⟨_, _, _, z, _⟩ := rn
          exact absurd z ne
        | bor =>
          rw [R] at rn
          obtain ⟨_, _, _, z, _⟩ := rn
          exact absurd z ne
      subst this
      rw [R] at rn
      obtain ⟨_, _, _, _, _, z, _⟩ := rn
      exact z.elim
    · cases e
  obtain ⟨q', vs, w, eq, h1, g1, pv⟩ := PV.child S h ev gx no
  subst eq
  unfold ixAt at e
  split at e
  · split at e
    · rename_i s i hl
      obtain ⟨c, e1, e2⟩ := Option.map_eq_some_iff.mp e
      cases e2
      rw [Lc.noOwn] at no
      cases no
    · cases e
  · rename_i xs i
    obtain ⟨j, e1, e2⟩ := Option.bind_eq_some_iff.mp e
    obtain ⟨x', e3, e4⟩ := Option.map_eq_some_iff.mp e2
    cases e4
    rw [h2.int]
    rcases h1 with ⟨ys, z, h1, hl⟩ | ⟨k, ys, z, h1, hl⟩
    · cases z
      exact .inr (.inl ⟨q', vs, i, w, rfl, rfl, .inl (.inl (S.ih _ _ h1)), atI_of hl e1 g1, q w pv⟩)
    · cases z
  · rename_i f xs i
    obtain ⟨j, e1, e2⟩ := Option.bind_eq_some_iff.mp e
    obtain ⟨x', e3, e4⟩ := Option.map_eq_some_iff.mp e2
    cases e4
    rw [h2.int]
    rcases h1 with ⟨ys, z, h1, hl⟩ | ⟨k, ys, z, h1, hl⟩
    · cases z
    · cases z
      exact .inl ⟨q', vs, i, w, rfl, rfl, .inl (.inl h1), atI_of hl e1 g1, q w pv⟩
  · rename_i f xs i
    rcases h1 with ⟨ys, z, h1, hl⟩ | ⟨k, ys, z, h1, hl⟩
    · cases z
    · cases z
      exact h1.elim
  · cases e

theorem Paired.len {α β : Type} {F : α → β → Prop} : ∀ {xs : List α} {ys : List β}, Paired F xs ys → ys.length = xs.length
  | _, _, .nil => rfl
  | _, _, .cons _ t => by rw [List.length_cons, List.length_cons, Paired.len t]
theorem PE_ix2 {a b : Expr} {ma mb : Ctx → ER} {pos : Pos} (hK : A.g.K = X.K) (ha : PE X a (tE A W ma)) (hb : PE X b (tE A W mb)) (hs : PlainIx b := by exact fun _ _ => rfl) : PE X (.Subscript a b pos) (tE A W (eIx ma mb)) :=
  PE.imp (pe_ix ix_seq ha hb hs) fun σ H Q ⟨I, c, ts, O, lk, S, h⟩ => by
    have key : tA' A W (eArgs [ma, mb]) σ H fun vs H2 => ∃ x y, vs = [x, y] ∧ rIx X.K x y H2 Q := by
      refine ⟨I, c, ts, O, lk, S, ?_⟩
      rw [eIx] at h
      cases e : eArgs [ma, mb] c with
      | bad => rw [e] at h; exact h.elim
      | exc k n x c1 => rw [e] at h; exact h
      | ok es c2 =>
        rw [e] at h
        match es, h with
        | [], h => exact h.elim
        | [_], h => exact h.elim
        | _ :: _ :: _ :: _, h => exact h.elim
        | [e1, e2], h =>
          dsimp only at h
          intro vs I2 H2 O2 hl S2
          match vs, hl with
          | [u, y], _ =>
            refine ⟨u, y, rfl, ?_⟩
            cases v1 : val c2 e1 with
            | none => rw [v1] at h; exact h.elim
            | some d =>
              cases v2 : val c2 e2 with
              | none => rw [v1, v2] at h; exact h.elim
              | some k =>
                rw [v1, v2] at h
                dsimp only at h
                have ev : valsOf c2 [e1, e2] = some [d, k] := by
                  rw [valsOf, valsOf, valsOf, v1, v2]
                obtain ⟨_, _, z, ed, ek⟩ := Paired.two (Sat.valsOf (es := [e1, e2]) (vs := [u, y]) rfl ev S2)
                cases z
                cases e3 : ixAt d k with
                | none => rw [e3] at h; exact h.elim
                | some xn =>
                  obtain ⟨x, n⟩ := xn
                  rw [e3] at h
                  dsimp only at h
                  cases no : Lc.noOwn x with
                  | true =>
                    rw [no, if_pos rfl] at h
                    refine ix_leaf hK S2.ih S2.bh ed ek e3 no fun w rw' => ?_
                    have S3 := Sat.unlockL (es := [e1, e2]) (vs := [u, y]) rfl S2
                    exact h w I2 H2 O2 (S3.pop.push rw')
                  | false =>
                    rw [no, if_neg Bool.false_ne_true] at h
                    cases e1 with
                    | t d1 => exact h.elim
                    | pl r p =>
                      dsimp only at h
                      have hm : (r, p, u) ∈ lksOf [.pl r p, e2] [u, y] ++ lk := by simp [lksOf]
                      refine ix_own hK S2 (S2.lks _ _ _ hm) v1 ek e3 no fun w pv => ?_
                      have S3 := Sat.unlockL (es := [.pl r p, e2]) (vs := [u, y]) rfl S2
                      refine h w I2 H2 O2 S3.pop (pv.ctx ?_)
                      cases e2 <;> rfl
    exact tE.mono (tA_two key) fun x H1 h1 => tE.mono h1 fun y H2 ⟨x', y', z, h2⟩ => by
      cases z
      exact h2
end
end Lc
end
section
set_option Elab.async false
set_option linter.all false
set_option maxRecDepth 100000
set_option maxHeartbeats 1000000
namespace Lc
open PySem L2

/-! ### slices -/
def cut {α : Type} (xs : List α) (lo hi : Option Int) : List α := (xs.drop (HT.sIx xs.length 0 lo)).take (HT.sIx xs.length xs.length hi - HT.sIx xs.length 0 lo)
def slD (lo hi : Option Int) : D → Option D
  | .str s => if s.length ≤ 16777216 then some (.str (cut s lo hi)) else none
  | .nd .lst _ xs => if noOwnL xs then some (.nd .lst .own (cut xs lo hi)) else none
  | .nd .scr _ xs => if noOwnL xs then some (.nd .lst .own (cut xs lo hi)) else none
  | _ => none
def fSl0 : List D → Option D
  | [x] => slD none none x
  | _ => none
def fSlL : List D → Option D
  | [x, .int i] => slD (some i) none x
  | _ => none
def fSlR : List D → Option D
  | [x, .int j] => slD none (some j) x
  | _ => none
def fSlB : List D → Option D
  | [x, .int i, .int j] => slD (some i) (some j) x
  | _ => none
theorem noOwnL_drop : ∀ {xs : List D} (n : Nat), noOwnL xs = true → noOwnL (xs.drop n) = true
  | xs, 0, h => h
  | [], n + 1, h => h
  | x :: xs, n + 1, h => by
    rw [noOwnL, Bool.and_eq_true] at h
    exact noOwnL_drop n h.2
theorem RL.drop {g : Gs} {I B H : Hp} : ∀ {xs : List D} {vs : List V} (n : Nat), RL g I B H xs vs [] → RL g I B H (xs.drop n) (vs.drop n) []
  | xs, vs, 0, h => h
  | [], vs, n + 1, h => by
    rw [RL] at h
    rw [h.1]
    show RL g I B H [] [] []
    rw [RL]
    exact ⟨rfl, rfl⟩
  | x :: xs, vs, n + 1, h => by
    rw [RL] at h
    obtain ⟨v, vr, f1, f2, rfl, e, h1, h2⟩ := h
    obtain ⟨rfl, rfl⟩ := List.append_eq_nil_iff.mp e.symm
    exact RL.drop n h2
theorem RL.take {g : Gs} {I B H : Hp} : ∀ {xs : List D} {vs : List V} (n : Nat), RL g I B H xs vs [] → RL g I B H (xs.take n) (vs.take n) []
  | xs, vs, 0, h => by
    rw [List.take_zero, List.take_zero, RL]
    exact ⟨rfl, rfl⟩
  | [], vs, n + 1, h => by
    rw [RL] at h
    rw [h.1]
    show RL g I B H [] [] []
    rw [RL]
    exact ⟨rfl, rfl⟩
  | x :: xs, vs, n + 1, h => by
    rw [RL] at h
    obtain ⟨v, vr, f1, f2, rfl, e, h1, h2⟩ := h
    obtain ⟨rfl, rfl⟩ := List.append_eq_nil_iff.mp e.symm
    rw [List.take_succ_cons, List.take_succ_cons, RL]
    exact ⟨v, vr.take n, [], [], rfl, rfl, h1, RL.take n h2⟩
theorem RL.cut {g : Gs} {I B H : Hp} {xs : List D} {vs : List V} (lo hi : Option Int) (h : RL g I B H xs vs []) : RL g I B H (Lc.cut xs lo hi) (cutV vs lo hi) [] := by
  unfold Lc.cut cutV
  rw [h.length]
  exact RL.take _ (RL.drop _ h)
def rSlU (K : PySem.W.Frag) : V → Option Int → Option Int → Hp → VK → Prop := fun x lo hi H Q => rSlL K x lo hi H Q ∨ rSlS x lo hi H Q

section
variable {A : Act} {W : Wx} {X : Cx}
theorem sl_ok {I H : Hp} {lo hi : Option Int} {x d : D} {v : V} {Q : VK} (hK : A.g.K = X.K) (ih : leH I H) (bh : leH A.B H) (h : EAt A I H x v) (e : slD lo hi x = some d) (q : ∀ v I' H', Res A I H d v I' H' → Q v H') : rSlU X.K v lo hi H Q := by
  unfold slD at e
  split at e
  · split at e
    · rename_i s hl
      cases e
      rw [h.str]
      refine .inr ⟨_, rfl, by rw [Str.len, sizeLine_eq]; exact hl, ?_⟩
      have : cutS ⟨s.toArray⟩ lo hi = ⟨(cut s lo hi).toArray⟩ := by
        unfold cutS cut
        rw [Str.len]
      rw [this]
      exact q _ _ _ .str
    · cases e
  · split at e
    · rename_i f xs hl
      cases e
      obtain ⟨p, vs, rfl, hp, fp, l⟩ := h.lst ih bh
      exact .inl ⟨p, vs, rfl, .inl (.inl hp), fun u hu => q _ _ _ (.list (RL.cut lo hi (l.leaf hl)) hu)⟩
    · cases e
  · split at e
    · rename_i f xs hl
      cases e
      obtain ⟨p, vs, rfl, hp, fp, l⟩ := h.scr ih bh
      exact .inl ⟨p, vs, rfl, hK ▸ hp, fun u hu => q _ _ _ (.list (RL.cut lo hi (l.leaf hl)) hu)⟩
    · cases e
  · cases e
theorem sl_U : SlR X (rSlU X.K) := SlR.or sl_list sl_str
variable {a b e : Expr} {ma mb me : Ctx → ER} {p2 pos : Pos}
theorem tA_three {mc : Ctx → ER} {σ : St} {H : Hp} {Q : List V → Hp → Prop} (h : tA' A W (eArgs [ma, mb, mc]) σ H Q) : tE A W ma σ H fun x H1 => tE A W mb σ H1 fun y H2 => tE A W mc σ H2 fun z H3 => Q [x, y, z] H3 :=
  tE.mono (tA_cons _ _ _ h) fun x H1 h1 => tE.mono (tA_cons _ _ _ h1) fun y H2 h2 => tE.mono (tA_cons _ _ _ h2) fun z H3 h3 => tA_nil (A := A) (W := W) σ H3 _ h3
theorem Paired.three {α β : Type} {F : α → β → Prop} {a b c : α} {ys : List β} (h : Paired F [a, b, c] ys) : ∃ x y z, ys = [x, y, z] ∧ F a x ∧ F b y ∧ F c z := by
  cases h with
  | cons r t =>
    obtain ⟨y, z, rfl, h1, h2⟩ := Paired.two t
    exact ⟨_, _, _, rfl, r, h1, h2⟩
theorem os_sl0 (hK : A.g.K = X.K) : OpS A fSl0 (fun vs H Q => ∃ x, vs = [x] ∧ rSlU X.K x none none H Q) := fun I H ds vs Q d ih bh P e q => by
  unfold fSl0 at e
  split at e
  · obtain ⟨x, rfl, h1⟩ := Paired.one P
    exact ⟨_, rfl, sl_ok hK ih bh h1 e q⟩
  · cases e
theorem os_slL (hK : A.g.K = X.K) : OpS A fSlL (fun vs H Q => ∃ x i, vs = [x, .int i] ∧ rSlU X.K x (some i) none H Q) := fun I H ds vs Q d ih bh P e q => by
  unfold fSlL at e
  split at e
  · obtain ⟨x, y, rfl, h1, h2⟩ := Paired.two P
    rw [h2.int]
    exact ⟨_, _, rfl, sl_ok hK ih bh h1 e q⟩
  · cases e
theorem os_slR (hK : A.g.K = X.K) : OpS A fSlR (fun vs H Q => ∃ x i, vs = [x, .int i] ∧ rSlU X.K x none (some i) H Q) := fun I H ds vs Q d ih bh P e q => by
  unfold fSlR at e
  split at e
  · obtain ⟨x, y, rfl, h1, h2⟩ := Paired.two P
    rw [h2.int]
    exact ⟨_, _, rfl, sl_ok hK ih bh h1 e q⟩
  · cases e
theorem os_slB (hK : A.g.K = X.K) : OpS A fSlB (fun vs H Q => ∃ x i j, vs = [x, .int i, .int j] ∧ rSlU X.K x (some i) (some j) H Q) := fun I H ds vs Q d ih bh P e q => by
  unfold fSlB at e
  split at e
  · obtain ⟨x, y, z, rfl, h1, h2, h3⟩ := Paired.three P
    rw [h2.int, h3.int]
    exact ⟨_, _, _, rfl, sl_ok hK ih bh h1 e q⟩
  · cases e
theorem PE_sl0 (hK : A.g.K = X.K) (he : PE X e (tE A W me)) : PE X (.Subscript e (.Slice none none none p2) pos) (tE A W (eOp fSl0 [me])) := PE.imp (pe_slice sl_U he po_none po_none) fun σ H Q h =>
  tE.mono (tA_one (tE_op (os_sl0 hK) σ H Q h)) fun x H1 ⟨_, z, h1⟩ => by cases z; exact h1
theorem PE_slL (hK : A.g.K = X.K) (he : PE X e (tE A W me)) (ha : PE X a (tE A W ma)) : PE X (.Subscript e (.Slice (some a) none none p2) pos) (tE A W (eOp fSlL [me, ma])) := PE.imp (pe_slice sl_U he (po_some ha) po_none) fun σ H Q h =>
  tE.mono (tA_two (tE_op (os_slL hK) σ H Q h)) fun x H1 h1 => tE.mono h1 fun y H2 ⟨_, i, z, h2⟩ => by cases z; exact ⟨i, rfl, h2⟩
theorem PE_slR (hK : A.g.K = X.K) (he : PE X e (tE A W me)) (hb : PE X b (tE A W mb)) : PE X (.Subscript e (.Slice none (some b) none p2) pos) (tE A W (eOp fSlR [me, mb])) := PE.imp (pe_slice sl_U he po_none (po_some hb)) fun σ H Q h =>
  tE.mono (tA_two (tE_op (os_slR hK) σ H Q h)) fun x H1 h1 => tE.mono h1 fun y H2 ⟨_, i, z, h2⟩ => by cases z; exact ⟨i, rfl, h2⟩
def eInt (m : Ctx → ER) : Ctx → ER := fun c => match m c with
  | .ok (.t (.int i)) c' => .ok (.t (.int i)) c'
  | .exc k n x c' => .exc k n x c'
  | _ => .bad
theorem tE_int {m : Ctx → ER} {σ : St} {H : Hp} {Q : VK} (h : tE A W (eInt m) σ H Q) : tE A W m σ H fun y H' => ∃ i, y = .int i ∧ Q y H' := by
  obtain ⟨I, c, ts, O, lk, S, h⟩ := h
  refine ⟨I, c, ts, O, lk, S, ?_⟩
  rw [eInt] at h
  cases e : m c with
  | bad => rw [e] at h; exact h.elim
  | exc k n x c1 => rw [e] at h; exact h
  | ok ev c1 =>
    rw [e] at h
    cases ev with
    | pl r p => exact h.elim
    | t d =>
      cases d with
      | int i =>
        intro v I1 H1 O1 S1
        exact ⟨i, int_of S1.last, h v I1 H1 O1 S1⟩
      | _ => exact h.elim
theorem PE_slB (hK : A.g.K = X.K) (he : PE X e (tE A W me)) (ha : PE X a (tE A W ma)) (hb : PE X b (tE A W mb)) : PE X (.Subscript e (.Slice (some a) (some b) none p2) pos) (tE A W (eOp fSlB [me, eInt ma, mb])) := PE.imp (pe_slice sl_U he (po_some ha) (po_some hb)) fun σ H Q h =>
  tE.mono (tA_three (tE_op (os_slB hK) σ H Q h)) fun x H1 h1 => tE.mono (tE_int h1) fun y H2 ⟨i, ey, h2⟩ => ⟨i, ey, tE.mono h2 fun w H3 h3 => by
    obtain ⟨_, i, j, z, h3⟩ := h3
    cases z
    cases ey
    exact ⟨j, rfl, h3⟩⟩

/-! ### [::-1] -/
def tRevU (K : PySem.W.Frag) (te : TE) : TE := fun σ H Q => te σ H fun x H1 => (∃ a xs, x = .ref a ∧ SqL K H1 a xs ∧ ∀ p, H1 p = none → Q (.ref p) (upd H1 p (.lst xs.reverse))) ∨
  ∃ s : List Nat, x = .str ⟨s.toArray⟩ ∧ s.length ≤ 16777216 ∧ Q (.str ⟨s.reverse.toArray⟩) H1
theorem rev_pick (s : List Nat) : (Builtin.Str.strSliceIndices none none (-1) s.length).filterMap (fun i => s.toArray[i]?) = s.reverse := by
  rw [PyProof.Rows.picked_rev, List.filterMap_map]
  have : ∀ k ∈ List.range s.length, ((fun i => s.toArray[i]?) ∘ fun k => s.length - 1 - k) k = some (s.reverse.getD k 0) := fun k hk => by
    have hk : k < s.length := List.mem_range.mp hk
    show s.toArray[s.length - 1 - k]? = _
    rw [List.getElem?_toArray, List.getD_eq_getElem?_getD, List.getElem?_reverse hk]
    have h2 : s.length - 1 - k < s.length := by omega
    rw [List.getElem?_eq_getElem h2]
    rfl
  have key : ∀ {l : List Nat} {f : Nat → Option Nat} {g : Nat → Nat}, (∀ k ∈ l, f k = some (g k)) → l.filterMap f = l.map g := fun {l f g} h => by
    induction l with
    | nil => rfl
    | cons x xs ih =>
      rw [List.filterMap_cons, h x (List.mem_cons_self ..), List.map_cons, ih fun k hk => h k (List.mem_cons_of_mem _ hk)]
  rw [key this]
  refine List.ext_getElem? fun i => ?_
  rw [List.getElem?_map]
  by_cases hi : i < s.length
  · rw [List.getElem?_range hi]
    show some (s.reverse.getD i 0) = _
    rw [List.getD_eq_getElem?_getD]
    have : i < s.reverse.length := by rw [List.length_reverse]; exact hi
    rw [List.getElem?_eq_getElem this]
    rfl
  · rw [List.getElem?_eq_none (by simp; omega), List.getElem?_eq_none (by simp; omega)]
    rfl
theorem pe_revU {e : Expr} {te : TE} {k : Nat} {p1 p2 p3 pos : Pos} (he : PE X e te) : PE X (.Subscript e (.Slice none none (some (.UnaryOp .USub (.Constant (.int 1) k p1) p2)) p3) pos) (tRevU X.K te) := by
  refine ⟨fun pins s σ H Q I h => ?_⟩
  refine PyProof.Rows.Subscript_ (thn (he.run pins s σ H _ I h) fun v s1 ⟨x, H1, I1, rx, q1⟩ => ?_)
  have step : PO X (some (.UnaryOp .USub (.Constant (.int 1) k p1) p2)) (tPart (tUn (rU fun i => .int (-i)) (tC (.int 1)))) := po_some (pe_un un_neg pe_int)
  refine wpAny_Slice (thn (po_none.run pins s1 σ H1 (fun o G => o = none ∧ G = H1) I1 ⟨rfl, rfl⟩) fun vl s2 ⟨l, H2, I2, pl, el, e2⟩ => ?_)
  subst el e2
  refine thn (po_none.run pins s2 σ H2 (fun o G => o = none ∧ G = H2) I2 ⟨rfl, rfl⟩) fun vu s3 ⟨u, H3, I3, pu, eu, e3⟩ => ?_
  subst eu e3
  refine thn (step.run pins s3 σ H3 (fun o G => o = some (-1) ∧ G = H3) I3 ⟨1, rfl, -1, rfl, rfl, rfl⟩) fun vs s4 ⟨o, H4, I4, ps, eo, e4⟩ => ?_
  subst eo e4
  have I5 : Inv X pins σ H4 { s4 with heap := s4.heap.push { cls := .type "slice", data := .fields #[vl, vu, vs] } } := I4.kept (t' := s4.toks) fun b ob q => Heap.get?_push_of_some _ q
  rcases q1 with ⟨a, xs, ex, hx, q⟩ | ⟨z, ex, hz, q⟩
  · subst ex
    cases rx
    obtain ⟨its, r, ht, hz⟩ := I5.list hx
    have hlen := r.length
    refine PyProof.Rows.tail_any (ops := [.ref a, .ref s4.heap.objs.size]) ht.isList.typeIs (PySem.slot_list_getitem.lookup) ?_ (by with_unfolding_all rfl)
    refine wpAny_getItem_list_slice ht.isList (Heap.IsSliceOf.new _ vl vu vs) pl pu ps (by decide) ?_ (by rw [List.size_toArray]; omega)
    rw [PySem.W.krv_pick]
    have nw := I5.hok.fresh (Nat.le_refl _)
    exact ⟨.ref _, _, I5.laid (t' := s4.toks) (o := .lst xs.reverse) (fun b ob q => Heap.get?_push_of_some _ q) (Nat.le_refl _) ⟨by rw [List.length_reverse]; exact hz, _, 0, r.reverse, Heap.get?_push_size _ rfl⟩, rfl, q _ nw⟩
  · subst ex
    obtain ⟨t, rfl⟩ := rx
    refine PyProof.Rows.tail_any (ops := [.str ⟨z.toArray⟩ t, .ref s4.heap.objs.size]) (typeIs_str _ _ _) (F.slot_str_getitem.lookup) ?_ (by with_unfolding_all rfl)
    obtain ⟨l1, rfl, el⟩ := IsPart.raw pl
    obtain ⟨u1, rfl, eu⟩ := IsPart.raw pu
    obtain ⟨t1, rfl, et⟩ := IsPart.raw ps
    obtain ⟨os, hos, hcs, hds⟩ := Heap.IsSliceOf.new s4.heap (partValue l1) (partValue u1) (partValue t1)
    have en : l1 = none := by cases l1 <;> first | rfl | cases el
    have eu' : u1 = none := by cases u1 <;> first | rfl | cases eu
    subst en eu'
    cases t1 with
    | none => cases et
    | some t1 =>
      obtain ⟨n1, t1⟩ := t1
      have en1 : n1 = -1 := by simpa using et
      subst en1
      refine wpAny_getItem_str_slice (l := none) (u := none) (st := some (-1, t1)) ⟨os, hos, hcs, hds⟩ rfl ?_
      have hs : (⟨z.toArray⟩ : Str).length = z.length := Str.len z
      have hp : (Builtin.Str.strSliceIndices none none (-1) (⟨z.toArray⟩ : Str).length).filterMap ((⟨z.toArray⟩ : Str).cps[·]?) = z.reverse := by
        rw [hs]
        exact rev_pick z
      show Made.post (if ((-1 : Int) == 1 && _) = true then Made.val (.str ⟨z.toArray⟩ t)
        else Made.str ⟨((Builtin.Str.strSliceIndices none none (-1) (⟨z.toArray⟩ : Str).length).filterMap ((⟨z.toArray⟩ : Str).cps[·]?)).toArray⟩) (EP X pins σ Q) _
      rw [hp, if_neg (by simp)]
      refine ⟨?_, .str _, _, I5.tok _, ⟨_, rfl⟩, q⟩
      show (⟨z.reverse.toArray⟩ : Str).length ≤ sizeLine
      rw [Str.len, List.length_reverse, sizeLine_eq]
      exact hz
def fRev : List D → Option D
  | [.str s] => if s.length ≤ 16777216 then some (.str s.reverse) else none
  | [.nd .lst _ xs] => if noOwnL xs then some (.nd .lst .own xs.reverse) else none
  | _ => none
theorem RL.rev {g : Gs} {I B H : Hp} : ∀ {xs : List D} {vs : List V}, RL g I B H xs vs [] → RL g I B H xs.reverse vs.reverse []
  | [], vs, h => by
    rw [RL] at h
    rw [h.1]
    show RL g I B H [] [] []
    rw [RL]
    exact ⟨rfl, rfl⟩
  | x :: xs, vs, h => by
    rw [RL] at h
    obtain ⟨v, vr, f1, f2, rfl, e, h1, h2⟩ := h
    obtain ⟨rfl, rfl⟩ := List.append_eq_nil_iff.mp e.symm
    rw [List.reverse_cons, List.reverse_cons]
    refine RL.append (RL.rev h2) ?_
    rw [RL]
    refine ⟨v, [], [], [], rfl, rfl, h1, ?_⟩
    rw [RL]
    exact ⟨rfl, rfl⟩
theorem PE_rev {k : Nat} {p1 p2 p3 pos : Pos} (he : PE X e (tE A W me)) : PE X (.Subscript e (.Slice none none (some (.UnaryOp .USub (.Constant (.int 1) k p1) p2)) p3) pos) (tE A W (eOp fRev [me])) := PE.imp (pe_revU he) fun σ H Q h => by
  have os : OpS A fRev (fun vs H1 Q => ∃ x, vs = [x] ∧ ((∃ a xs, x = .ref a ∧ SqL X.K H1 a xs ∧ ∀ p, H1 p = none → Q (.ref p) (upd H1 p (.lst xs.reverse))) ∨ ∃ s : List Nat, x = .str ⟨s.toArray⟩ ∧ s.length ≤ 16777216 ∧ Q (.str ⟨s.reverse.toArray⟩) H1)) := fun I H ds vs Q d ih bh P e q => by
    unfold fRev at e
    split at e
    · split at e
      · rename_i s hl
        cases e
        obtain ⟨x, rfl, h1⟩ := Paired.one P
        rw [h1.str]
        exact ⟨_, rfl, .inr ⟨s, rfl, hl, q _ _ _ .str⟩⟩
      · cases e
    · split at e
      · rename_i f xs hl
        cases e
        obtain ⟨x, rfl, h1⟩ := Paired.one P
        obtain ⟨p, vs, rfl, hp, fp, l⟩ := h1.lst ih bh
        exact ⟨_, rfl, .inl ⟨p, vs, rfl, .inl (.inl hp), fun u hu => q _ _ _ (.list (RL.rev (l.leaf hl)) hu)⟩⟩
      · cases e
    · cases e
  exact tE.mono (tA_one (tE_op os σ H Q h)) fun x H1 ⟨_, z, h1⟩ => by cases z; exact h1
end
end Lc
end
section
set_option Elab.async false
set_option linter.all false
set_option maxRecDepth 100000
set_option maxHeartbeats 1000000
namespace Lc
open PySem L2

/-- f at the places fn, g elsewhere -/
def sel {α : Type} (fn : List Addr) (f g : Addr → α) : Addr → α := fun a => if a ∈ fn then f a else g a
theorem sel_in {α : Type} {fn : List Addr} {f g : Addr → α} {a : Addr} (h : a ∈ fn) : sel fn f g a = f a := if_pos h
theorem sel_out {α : Type} {fn : List Addr} {f g : Addr → α} {a : Addr} (h : a ∉ fn) : sel fn f g a = g a := if_neg h

/-! ### slots -/
/-- no alias into slot r -/
def dropAl (r : Nat) : List Sl → List Sl
  | [] => []
  | .al r' p :: s => (if r' = r then .no else .al r' p) :: dropAl r s
  | x :: s => x :: dropAl r s
theorem dropAl_len (r : Nat) : ∀ s : List Sl, (dropAl r s).length = s.length
  | [] => rfl
  | .al r' p :: s => by rw [dropAl, List.length_cons, dropAl_len r s]; rfl
  | .no :: s => by rw [dropAl, List.length_cons, dropAl_len r s]; rfl; intros; contradiction
  | .v d :: s => by rw [dropAl, List.length_cons, dropAl_len r s]; rfl; intros; contradiction
theorem dropAl_v {r : Nat} : ∀ {s : List Sl} {i : Nat} {d : D}, (dropAl r s)[i]? = some (.v d) ↔ s[i]? = some (.v d)
  | [], i, d => by rw [dropAl]
  | .al r' p :: s, 0, d => by
    rw [dropAl]
    by_cases h : r' = r
    · rw [if_pos h]; simp
    · rw [if_neg h]
      simp
  | .no :: s, 0, d => by rw [dropAl]; simp; intros; contradiction
  | .v e :: s, 0, d => by rw [dropAl]; simp; intros; contradiction
  | .al r' p :: s, i + 1, d => by rw [dropAl]; simpa using dropAl_v (s := s)
  | .no :: s, i + 1, d => by rw [dropAl]; simpa using dropAl_v (s := s); intros; contradiction
  | .v e :: s, i + 1, d => by rw [dropAl]; simpa using dropAl_v (s := s); intros; contradiction
theorem dropAl_al {r : Nat} : ∀ {s : List Sl} {i r' : Nat} {p : List Nat}, (dropAl r s)[i]? = some (.al r' p) → s[i]? = some (.al r' p) ∧ r' ≠ r
  | [], i, r', p, h => by rw [dropAl] at h; simp at h
  | .al r1 p1 :: s, 0, r', p, h => by
    rw [dropAl] at h
    by_cases e : r1 = r
    · rw [if_pos e] at h; simp at h
    · rw [if_neg e] at h
      have h : r1 = r' ∧ p1 = p := by simpa using h
      obtain ⟨rfl, rfl⟩ := h
      exact ⟨rfl, e⟩
  | .no :: s, 0, r', p, h => by rw [dropAl] at h; simp at h; intros; contradiction
  | .v e :: s, 0, r', p, h => by rw [dropAl] at h; simp at h; intros; contradiction
  | .al r1 p1 :: s, i + 1, r', p, h => by
    rw [dropAl] at h
    exact dropAl_al (s := s) (by simpa using h)
  | .no :: s, i + 1, r', p, h => by
    rw [dropAl] at h
    · exact dropAl_al (s := s) (by simpa using h)
    · intros; contradiction
  | .v e :: s, i + 1, r', p, h => by
    rw [dropAl] at h
    · exact dropAl_al (s := s) (by simpa using h)
    · intros; contradiction

section
variable {A : Act} {W : Wx} {X : Cx} {I H I' H' : Hp} {σ : St} {c : Ctx} {ts xs : List (D × V)} {O O' : Addr → Option Ow} {lk : List (Nat × List Nat × V)}

theorem set_cases {α : Type} {s : List α} {i j : Nat} {x y : α} (h : (s.set i x)[j]? = some y) : (j = i ∧ x = y ∧ i < s.length) ∨ (j ≠ i ∧ s[j]? = some y) := by
  by_cases e : i = j
  · subst e
    by_cases hl : i < s.length
    · rw [List.getElem?_set_self hl] at h
      cases h
      exact .inl ⟨rfl, rfl, hl⟩
    · rw [List.getElem?_eq_none (by simpa using hl)] at h
      cases h
  · rw [List.getElem?_set_ne e] at h
    exact .inr ⟨Ne.symm e, h⟩

/-- the labels that are in use, but slot i's -/
def Live (i n : Nat) : Ow → Prop
  | .inl j => j ≠ i
  | .inr j => j < n
/-- slot i gets a new tree (or none); the value at σ too -/
theorem Sat.setSlot {i : Nat} {sl : Sl} {σ' : St} (S : Sat A I H σ c ts O lk) (nk : i ∉ c.kr) (hI : leH I I') (hIH : leH I' H') (hB : leH A.B H') (hib : ∀ a o, I' a = some o → I a = some o ∨ A.B a = none)
    (hk : ∀ a w, O a = some w → Live i ts.length w → H' a = H a) (hO : ∀ a w, O a = some w → Live i ts.length w → O' a = some w) (hfr : ∀ a w, O' a = some w → I' a = none ∧ A.B a = none ∧ ∃ o, H' a = some o)
    (hl : σ'.length = σ.length) (hσ : ∀ j, j ≠ i → σ'[j]? = σ[j]?) (hal : ∀ r p, sl ≠ .al r p) (hv : ∀ d, sl = .v d → ∃ v, σ'[i]? = some (some v) ∧ RO A I' H' O' (.inl i) d v) :
    Sat A I' H' σ' { c with s := (dropAl i c.s).set i sl } ts O' lk := by
  have pvk : ∀ {r : Nat} {p : List Nat} {v : V}, r ≠ i → PV A I H σ c O r p v → PV A I' H' σ' { c with s := (dropAl i c.s).set i sl } O' r p v := fun {r p v} hr pv => by
    obtain ⟨d, v0, d', e1, e2, e3, e4, va⟩ := pv
    refine ⟨d, v0, d', ?_, (hσ r hr).trans e2, e3, e4, va.keep hI (fun a ha => hk a (.inl r) ha hr) fun a ha => hO a (.inl r) ha hr⟩
    show ((dropAl i c.s).set i sl)[r]? = _
    rw [List.getElem?_set_ne (Ne.symm hr)]
    exact dropAl_v.mpr e1
  refine ⟨hIH, hB, S.i0.trans hI, fun a o e => ?_, ?_, fun j d e => ?_, fun j r p e => ?_, fun j d v e => ?_, fun r p v e => ?_, S.lke, hfr⟩
  · rcases hib a o e with h | h
    · exact S.ib a o h
    · exact .inr h
  · show σ'.length = ((dropAl i c.s).set i sl).length
    rw [List.length_set, dropAl_len, hl, S.len]
  · rcases set_cases (show ((dropAl i c.s).set i sl)[j]? = _ from e) with ⟨rfl, z, _⟩ | ⟨hj, e⟩
    · exact hv d z
    · obtain ⟨v, e1, h⟩ := S.vals j d (dropAl_v.mp e)
      exact ⟨v, (hσ j hj).trans e1, h.keep hI (fun a ha => hk a _ ha hj) fun a ha => hO a _ ha hj⟩
  · rcases set_cases (show ((dropAl i c.s).set i sl)[j]? = _ from e) with ⟨_, z, _⟩ | ⟨hj, e⟩
    · exact absurd z (hal r p)
    · obtain ⟨e, hr⟩ := dropAl_al e
      obtain ⟨w, e1, h⟩ := S.als j r p e
      exact ⟨w, (hσ j hj).trans e1, pvk hr h⟩
  · have hj : j < ts.length := (List.getElem?_eq_some_iff.mp e).1
    exact (S.tmps j d v e).keep hI (fun a ha => hk a _ ha hj) fun a ha => hO a _ ha hj
  · refine pvk (fun z => ?_) (S.lks r p v e)
    apply nk
    rw [← S.lkr]
    exact List.mem_map.mpr ⟨(r, p, v), e, z⟩

/-- the last temporary goes to slot i -/
theorem Sat.store {i : Nat} {d : D} {v : V} (S : Sat A I H σ c (ts ++ [(d, v)]) O lk) (nk : i ∉ c.kr) (hi : i < c.s.length) : ∃ O', Sat A I H (σ.set i (some v)) { c with s := (dropAl i c.s).set i (.v d) } ts O' lk := by
  obtain ⟨fp, rr, nd, l⟩ := S.last
  refine ⟨fun a => if a ∈ fp then some (.inl i) else O a, S.pop.setSlot nk (leH.refl _) S.ih S.bh (fun _ _ e => .inl e) (fun _ _ _ _ => rfl) (fun a w e hw => ?_) (fun a w e => ?_) (List.length_set ..) (fun j hj => List.getElem?_set_ne (Ne.symm hj)) (fun _ _ z => by cases z) fun d' z => ?_⟩
  · by_cases ha : a ∈ fp
    · have z := l a ha
      rw [e] at z
      cases z
      exact absurd hw (Nat.lt_irrefl _)
    · rw [if_neg ha, e]
  · by_cases ha : a ∈ fp
    · exact S.fr a _ (l a ha)
    · rw [if_neg ha] at e
      exact S.fr a w e
  · cases z
    refine ⟨v, List.getElem?_set_self (by rw [S.len]; exact hi), fp, rr, nd, fun a ha => if_pos ha⟩
/-- slot i is forgotten -/
theorem Sat.forget {i : Nat} (S : Sat A I H σ c ts O lk) (nk : i ∉ c.kr) : Sat A I H σ { c with s := (dropAl i c.s).set i .no } ts O lk :=
  S.setSlot nk (leH.refl _) S.ih S.bh (fun _ _ e => .inl e) (fun _ _ _ _ => rfl) (fun _ _ e _ => e) S.fr rfl (fun _ _ => rfl) (fun _ _ z => by cases z) fun d z => by cases z

/-! ### freezing a place, moving a slot's tree out -/
def eFz (m : Ctx → ER) : Ctx → ER := fun c => match m c with
  | .ok (.t d) c1 => .ok (.t d) c1
  | .ok (.pl r p) c1 => match c1.s[r]? with
    | some (.v d0) => match getP d0 p with
      | some d => if noBor d && !(c1.kr.contains r) then .ok (.t (frz d)) { c1 with s := (dropAl r c1.s).set r (.v (setP d0 p (frz d))) } else .bad
      | none => .bad
    | _ => .bad
  | .exc k n x c1 => .exc k n x c1
  | .bad => .bad
theorem PE_fz {e : Expr} {m : Ctx → ER} (h : PE X e (tE A W m)) : PE X e (tE A W (eFz m)) := PE.imp h fun σ H Q ⟨I, c, ts, O, lk, S, h⟩ => by
  refine ⟨I, c, ts, O, lk, S, ?_⟩
  rw [eFz] at h
  cases e : m c with
  | bad => rw [e] at h; exact h
  | exc k n x c1 => rw [e] at h; exact h
  | ok ev c1 =>
    rw [e] at h
    cases ev with
    | t d => exact h
    | pl r p =>
      intro v I1 H1 O1 S1 pv
      obtain ⟨d0, v0, d, fa, fn, fb, q1, q2, q3, rr, nd, ow, rn, ne, up⟩ := S1.at pv
      dsimp only at h
      rw [q1] at h
      dsimp only at h
      rw [q3] at h
      dsimp only at h
      cases hb : (noBor d && !(c1.kr.contains r)) with
      | false => rw [hb] at h; exact h.elim
      | true =>
        rw [hb, if_pos rfl] at h
        simp only [Bool.and_eq_true, Bool.not_eq_true', List.contains_eq_mem, decide_eq_false_iff_not] at hb
        obtain ⟨nb, nk⟩ := hb
        have own : ∀ a ∈ fn, O1 a = some (.inl r) := fun a ha => ow a (by simp [ha])
        have hI : leH I1 (sel fn H1 I1) := fun a o e => by
          have : a ∉ fn := fun ha => by
            have := (S1.fr a _ (own a ha)).1
            rw [e] at this
            cases this
          rw [sel_out this]
          exact e
        have rf : R A.g (sel fn H1 I1) A.B H1 (frz d) v [] := R.frz d rn nb hI fun a ha => sel_in ha
        have dis : ∀ a ∈ fa ++ fb, a ∉ fn := fun a ha hn => by
          rcases List.mem_append.mp ha with ha | ha
          · have := List.nodup_append.mp nd
            have h2 := (List.nodup_append.mp this.1).2.2
            exact h2 a ha a hn rfl
          · have := List.nodup_append.mp nd
            exact this.2.2 a (by simp [hn]) a ha rfl
        have S2 := S1.setSlot (i := r) (sl := .v (setP d0 p (frz d))) (σ' := σ) (I' := sel fn H1 I1) (H' := H1) (O' := sel fn (fun _ => none) O1) nk hI (fun a o e => by
            by_cases ha : a ∈ fn
            · rw [sel_in ha] at e
              exact e
            · rw [sel_out ha] at e
              exact S1.ih a o e) S1.bh (fun a o e => by
            by_cases ha : a ∈ fn
            · exact .inr (S1.fr a _ (own a ha)).2.1
            · rw [sel_out ha] at e
              exact .inl e) (fun _ _ _ _ => rfl) (fun a w e hw => by
            have : a ∉ fn := fun ha => by
              rw [own a ha] at e
              cases e
              exact hw rfl
            rw [sel_out this]
            exact e) (fun a w e => by
            by_cases ha : a ∈ fn
            · rw [sel_in ha] at e
              cases e
            · rw [sel_out ha] at e
              obtain ⟨z1, z2, z3⟩ := S1.fr a w e
              exact ⟨by rw [sel_out ha]; exact z1, z2, z3⟩) rfl (fun _ _ => rfl) (fun _ _ z => by cases z) (fun d' z => by
            cases z
            have u := up hI rf fun a ha => rfl
            refine ⟨v0, q2, fa ++ [] ++ fb, u, ?_, fun a ha => ?_⟩
            · rw [List.append_nil]
              have h1 := List.nodup_append.mp nd
              have h2 := List.nodup_append.mp h1.1
              refine List.nodup_append.mpr ⟨h2.1, h1.2.1, fun a ha b hb => h1.2.2 a (by simp [ha]) b hb⟩
            · have ha : a ∈ fa ++ fb := by simpa using ha
              rw [sel_out (dis a ha)]
              refine ow a ?_
              rcases List.mem_append.mp ha with ha | ha <;> simp [ha])
        exact h v _ _ _ (S2.push rf)
/-- the slot's tree is taken out (the name is not read again) -/
def eMv (i : Nat) : Ctx → ER := fun c => match c.s[i]? with
  | some (.v d) => if Lc.noOwn d then .ok (.t d) c else if c.kr.contains i then .bad else .ok (.t d) { c with s := (dropAl i c.s).set i .no }
  | _ => .bad
theorem PE_mv {i : Nat} {x : Str} {pos : Pos} (h : PE X (.Name x pos) (tVar i)) : PE X (.Name x pos) (tE A W (eMv i)) := PE.imp h fun σ H Q ⟨I, c, ts, O, lk, S, h⟩ => by
  rw [eMv] at h
  cases e : c.s[i]? with
  | none => rw [e] at h; exact h.elim
  | some z =>
    rw [e] at h
    cases z with
    | no => exact h.elim
    | al r p => exact h.elim
    | v d =>
      obtain ⟨v, e1, ro⟩ := S.vals i d e
      refine ⟨v, e1, ?_⟩
      dsimp only at h
      cases n : Lc.noOwn d with
      | true =>
        rw [n] at h
        exact h v I H O (S.push (ro.nil n))
      | false =>
        rw [n, if_neg Bool.false_ne_true] at h
        cases nk : c.kr.contains i with
        | true => rw [nk] at h; exact h.elim
        | false =>
          rw [nk, if_neg Bool.false_ne_true] at h
          have nk : i ∉ c.kr := by simpa using nk
          obtain ⟨fp, rr, nd, l⟩ := ro
          -- its cells go to the new temporary
          have S3 : Sat A I H σ { c with s := (dropAl i c.s).set i .no } ts (sel fp (fun _ => some (.inr ts.length)) O) lk := S.setSlot nk (leH.refl _) S.ih S.bh (fun _ _ e => .inl e) (fun _ _ _ _ => rfl) (fun a w e hw => by
              rw [sel_out fun ha => ?_, e]
              rw [l a ha] at e
              cases e
              exact hw rfl) (fun a w e => by
              by_cases ha : a ∈ fp
              · exact S.fr a _ (l a ha)
              · rw [sel_out ha] at e
                exact S.fr a w e) rfl (fun _ _ => rfl) (fun _ _ z => by cases z) fun d z => by cases z
          refine h v I H (sel fp (fun _ => some (.inr ts.length)) O) ⟨S3.ih, S3.bh, S3.i0, S3.ib, S3.len, S3.vals, S3.als, fun j d' v' e => ?_, S3.lks, S3.lke, S3.fr⟩
          by_cases hj : j < ts.length
          · rw [List.getElem?_append_left hj] at e
            exact S3.tmps j d' v' e
          · rw [List.getElem?_append_right (Nat.le_of_not_lt hj)] at e
            have z : j - ts.length = 0 := by
              have := (List.getElem?_eq_some_iff.mp e).1
              simp at this
              omega
            have z2 : j = ts.length := by omega
            rw [z] at e
            cases e
            subst z2
            exact ⟨fp, rr, nd, fun a ha => sel_in ha⟩

/-! ### displays -/
def allT : List EV → Option (List D)
  | [] => some []
  | .t d :: es => match allT es with
    | some ds => some (d :: ds)
    | none => none
  | .pl _ _ :: _ => none
theorem allT_unlock : ∀ {es : List EV} {ds : List D}, allT es = some ds → unlocks es c = c
  | [], _, _ => rfl
  | .t d :: es, ds, h => by
    rw [allT] at h
    cases e : allT es with
    | none => rw [e] at h; cases h
    | some ds' =>
      rw [unlocks, allT_unlock e]
      rfl
  | .pl _ _ :: es, ds, h => by cases h
theorem allT_lks : ∀ {es : List EV} {ds : List D} {vs : List V}, allT es = some ds → lksOf es vs = []
  | [], _, _, _ => by rw [lksOf] <;> intros <;> contradiction
  | .t d :: es, ds, vs, h => by
    rw [allT] at h
    cases e : allT es with
    | none => rw [e] at h; cases h
    | some ds' =>
      cases vs with
      | nil => rw [lksOf] <;> intros <;> contradiction
      | cons v vs => rw [lksOf, allT_lks e]
  | .pl _ _ :: es, ds, vs, h => by cases h
/-- the last temporaries as a list of trees -/
theorem tmps_RL : ∀ {es : List EV} {vs : List V} {ds : List D} {ts : List (D × V)}, vs.length = es.length → allT es = some ds → Sat A I H σ c (ts ++ tmpsOf es vs) O lk →
    ∃ fp, RL A.g I A.B H ds vs fp ∧ fp.Nodup ∧ (∀ a ∈ fp, ∃ j, O a = some (.inr j) ∧ ts.length ≤ j)
  | [], vs, ds, ts, hl, e, S => by
    rw [allT] at e
    cases e
    cases vs with
    | nil => exact ⟨[], by rw [RL]; exact ⟨rfl, rfl⟩, List.nodup_nil, fun a ha => by cases ha⟩
    | cons _ _ => cases hl
  | .pl _ _ :: es, _, _, _, _, e, _ => by cases e
  | .t d :: es, [], ds, ts, hl, e, S => by cases hl
  | .t d :: es, v :: vs, ds, ts, hl, e, S => by
    have hl2 : vs.length = es.length := by simpa using hl
    rw [allT] at e
    cases e1 : allT es with
    | none => rw [e1] at e; cases e
    | some ds' =>
      rw [e1] at e
      cases e
      have et : ts ++ tmpsOf (.t d :: es) (v :: vs) = ts ++ [(d, v)] ++ tmpsOf es vs := by
        rw [tmpsOf, List.append_assoc, List.singleton_append]
      obtain ⟨f1, r1, n1, l1⟩ := S.tmps ts.length d v (by rw [et]; simp)
      obtain ⟨f2, r2, n2, l2⟩ := tmps_RL (es := es) (vs := vs) (ts := ts ++ [(d, v)]) hl2 e1 (by rw [← et]; exact S)
      refine ⟨f1 ++ f2, by rw [RL]; exact ⟨v, vs, f1, f2, rfl, rfl, r1, r2⟩, List.nodup_append.mpr ⟨n1, n2, fun a ha b hb z => ?_⟩, fun a ha => ?_⟩
      · subst z
        obtain ⟨j, e2, hj⟩ := l2 a hb
        rw [l1 a ha] at e2
        cases e2
        simp at hj
        omega
      · rcases List.mem_append.mp ha with ha | ha
        · exact ⟨_, l1 a ha, Nat.le_refl _⟩
        · obtain ⟨j, e2, hj⟩ := l2 a ha
          refine ⟨j, e2, ?_⟩
          simp at hj
          omega
def eLst (ms : List (Ctx → ER)) : Ctx → ER := fun c => match eArgs ms c with
  | .ok es c2 => match allT es with
    | some ds => if ds.length ≤ 16777216 then .ok (.t (.nd .lst .own ds)) c2 else .bad
    | none => .bad
  | .exc k n x c2 => .exc k n x c2
  | .bad => .bad
def eTup (ms : List (Ctx → ER)) : Ctx → ER := fun c => match eArgs ms c with
  | .ok es c2 => match allT es with
    | some ds => if ds.length ≤ 16777216 then .ok (.t (.tup ds)) c2 else .bad
    | none => .bad
  | .exc k n x c2 => .exc k n x c2
  | .bad => .bad
theorem allT_len : ∀ {es : List EV} {ds : List D}, allT es = some ds → ds.length = es.length
  | [], _, h => by rw [allT] at h; cases h; rfl
  | .t d :: es, ds, h => by
    rw [allT] at h
    cases e : allT es with
    | none => rw [e] at h; cases h
    | some ds' =>
      rw [e] at h
      cases h
      rw [List.length_cons, List.length_cons, allT_len e]
  | .pl _ _ :: es, ds, h => by cases h
theorem PE_lst {es : List Expr} {ms : List (Ctx → ER)} {pos : Pos} (h : PA X es (tA' A W (eArgs ms))) : PE X (.List es pos) (tE A W (eLst ms)) := PE.imp (pe_lst h) fun σ H Q ⟨I, c, ts, O, lk, S, h⟩ => by
  refine ⟨I, c, ts, O, lk, S, ?_⟩
  rw [eLst] at h
  cases e : eArgs ms c with
  | bad => rw [e] at h; exact h
  | exc k n x c1 => rw [e] at h; exact h
  | ok es c1 =>
    rw [e] at h
    dsimp only at h
    intro vs I1 H1 O1 hl S1
    cases e1 : allT es with
    | none => rw [e1] at h; exact h.elim
    | some ds =>
      rw [e1] at h
      dsimp only at h
      by_cases hz : ds.length ≤ 16777216
      · rw [if_pos hz] at h
        refine ⟨by rw [hl, ← allT_len e1, sizeLine_eq]; exact hz, fun p np => ?_⟩
        have S2 := Sat.unlockL hl S1
        rw [allT_unlock e1] at S2
        obtain ⟨fp, rl, nd, l⟩ := tmps_RL hl e1 S2
        obtain ⟨n1, n2, n3⟩ := S2.new np
        have nf : p ∉ fp := fun hp => by
          obtain ⟨o, z⟩ := RL.there ds rl p hp
          rw [np] at z
          cases z
        have S3 := S2.alloc (o := .lst vs) np
        obtain ⟨O4, S4⟩ := S3.join (ts := ts) (d := .nd .lst .own ds) (v := .ref p) (fp := p :: fp) (by
            rw [R]
            exact ⟨p, vs, fp, rfl, rfl, upd_same, RL.keep ds rl (leH.refl _) (leH.refl _) fun a ha => upd_ne fun z => nf (z ▸ ha)⟩) (List.nodup_cons.mpr ⟨nf, nd⟩) fun a ha => by
            rcases List.mem_cons.mp ha with rfl | ha
            · exact .inr ⟨n1, n2, n3, _, upd_same⟩
            · exact .inl (l a ha)
        exact h (.ref p) _ _ O4 S4
      · rw [if_neg hz] at h
        exact h.elim
theorem PE_tup {es : List Expr} {ms : List (Ctx → ER)} {x1} {pos : Pos} (h : PA X es (tA' A W (eArgs ms))) : PE X (.Tuple es x1 pos) (tE A W (eTup ms)) := PE.imp (pe_tup h) fun σ H Q ⟨I, c, ts, O, lk, S, h⟩ => by
  refine ⟨I, c, ts, O, lk, S, ?_⟩
  rw [eTup] at h
  cases e : eArgs ms c with
  | bad => rw [e] at h; exact h
  | exc k n x c1 => rw [e] at h; exact h
  | ok es c1 =>
    rw [e] at h
    dsimp only at h
    intro vs I1 H1 O1 hl S1
    cases e1 : allT es with
    | none => rw [e1] at h; exact h.elim
    | some ds =>
      rw [e1] at h
      dsimp only at h
      by_cases hz : ds.length ≤ 16777216
      · rw [if_pos hz] at h
        refine ⟨by rw [hl, ← allT_len e1, sizeLine_eq]; exact hz, fun p np => ?_⟩
        have S2 := Sat.unlockL hl S1
        rw [allT_unlock e1] at S2
        obtain ⟨fp, rl, nd, l⟩ := tmps_RL hl e1 S2
        obtain ⟨n1, n2, n3⟩ := S2.new np
        have nf : p ∉ fp := fun hp => by
          obtain ⟨o, z⟩ := RL.there ds rl p hp
          rw [np] at z
          cases z
        have S3 := S2.allocI (o := .tup vs) np
        obtain ⟨O4, S4⟩ := S3.join (ts := ts) (d := .tup ds) (v := .ref p) (fp := fp) (by
            rw [R]
            exact ⟨p, vs, rfl, .inl upd_same, RL.keep ds rl (leH.upd n2) (leH.refl _) fun a ha => upd_ne fun z => nf (z ▸ ha)⟩) nd fun a ha => .inl (l a ha)
        exact h (.ref p) _ _ O4 S4
      · rw [if_neg hz] at h
        exact h.elim
end
end Lc
end
section
set_option Elab.async false
set_option linter.all false
set_option maxRecDepth 100000
set_option maxHeartbeats 1000000
namespace Lc
open PySem L2

/-! ### what is walked -/
structure Walk (A : Act) (Ib : Hp) (J : It) (xs : List D) : Prop where
  no : ∀ (i : Nat) (x : D), xs[i]? = some x → Lc.noOwn x = true
  go : ∀ (i : Nat) (x : D) (I H : Hp), xs[i]? = some x → leH Ib I → leH I H → leH A.B H → J.go i H ∧ ∀ v H', J.yld i H v H' → ∃ I', Res A I H x v I' H'
  stop : ∀ I H : Hp, leH Ib I → leH I H → leH A.B H → J.stop xs.length H
inductive IR where
  | ok (xs : List D) (c : Ctx)
  | exc (k : Nat) (n : Str) (x : D) (c : Ctx)
  | bad
def tI (A : Act) (W : Wx) (m : Ctx → IR) : TI := fun σ H R => ∃ I c ts O lk, Sat A I H σ c ts O lk ∧ match m c with
  | .ok xs c' => ∀ J I' H' O', Sat A I' H' σ c' ts O' lk → Walk A I' J xs → R J H'
  | .exc k n x c' => XP A W σ ts lk k n x c'
  | .bad => False
theorem PI.imp {X : Cx} {tg e : Expr} {t t' : TI} (h : PI X tg e t) (q : ∀ σ H R, t' σ H R → t σ H R) : PI X tg e t' := ⟨fun pins s σ H R I x => h.run pins s σ H R I (q σ H R x)⟩
def itemsOf : D → Option (List D)
  | .str s => some (s.map fun c => .str [c])
  | .tup xs => if noOwnL xs then some xs else none
  | .nd .lst .frz xs => if noOwnL xs then some xs else none
  | .nd .lst .bor xs => if noOwnL xs then some xs else none
  | .nd .scr .bor xs => if noOwnL xs then some xs else none
  | _ => none
def itE (m : Ctx → ER) : Ctx → IR := fun c => match m c with
  | .ok (.t d) c' => match itemsOf d with
    | some xs => .ok xs c'
    | none => .bad
  | .exc k n x c' => .exc k n x c'
  | _ => .bad
theorem noOwnL_get : ∀ {xs : List D} {i : Nat} {x : D}, noOwnL xs = true → xs[i]? = some x → Lc.noOwn x = true
  | [], _, _, _, h => by simp at h
  | y :: ys, 0, x, n, h => by
    rw [noOwnL, Bool.and_eq_true] at n
    have h : y = x := by simpa using h
    rw [← h]
    exact n.1
  | y :: ys, i + 1, x, n, h => by
    rw [noOwnL, Bool.and_eq_true] at n
    exact noOwnL_get n.2 (by simpa using h)

section
variable {A : Act} {W : Wx} {X : Cx} {I H I' H' : Hp} {σ : St} {c : Ctx} {ts : List (D × V)} {O O' : Addr → Option Ow} {lk : List (Nat × List Nat × V)}
theorem walk_list {K : PySem.W.Frag} {a : Addr} {xs : List D} {vs : List V} (hs : ∀ I H : Hp, leH I' I → leH I H → leH A.B H → SqL K H a vs) (l : RL A.g I' A.B H' xs vs []) (n : noOwnL xs = true) : Walk A I' (Itl K a) xs where
  no := fun i x e => noOwnL_get n e
  go := fun i x I H e hi ih bh => by
    obtain ⟨v, fn, e1, r⟩ := RL.get l e
    have r := R.keep (H' := H) x r hi (leH.refl _) fun a ha => by
      rw [R.noOwn x r (noOwnL_get n e)] at ha
      cases ha
    have := R.noOwn x r (noOwnL_get n e)
    subst this
    refine ⟨⟨vs, v, hs I H hi ih bh, e1⟩, fun w G y => ?_⟩
    obtain ⟨rfl, y⟩ := y
    have := y vs (hs I G hi ih bh)
    rw [e1] at this
    cases this
    exact ⟨I, .leaf r⟩
  stop := fun I H hi ih bh => ⟨vs, hs I H hi ih bh, by rw [l.length]; exact Nat.le_refl _⟩
theorem walk_tup {K : PySem.W.Frag} {a : Addr} {xs : List D} {vs : List V} (hs : ∀ I H : Hp, leH I' I → leH I H → leH A.B H → SqT K H a vs) (l : RL A.g I' A.B H' xs vs []) (n : noOwnL xs = true) : Walk A I' (Itt K a) xs where
  no := fun i x e => noOwnL_get n e
  go := fun i x I H e hi ih bh => by
    obtain ⟨v, fn, e1, r⟩ := RL.get l e
    have r := R.keep (H' := H) x r hi (leH.refl _) fun a ha => by
      rw [R.noOwn x r (noOwnL_get n e)] at ha
      cases ha
    have := R.noOwn x r (noOwnL_get n e)
    subst this
    refine ⟨⟨vs, v, hs I H hi ih bh, e1⟩, fun w G y => ?_⟩
    obtain ⟨rfl, y⟩ := y
    have := y vs (hs I G hi ih bh)
    rw [e1] at this
    cases this
    exact ⟨I, .leaf r⟩
  stop := fun I H hi ih bh => ⟨vs, hs I H hi ih bh, by rw [l.length]; exact Nat.le_refl _⟩
theorem walk_str {s : List Nat} : Walk A I' (Its ⟨s.toArray⟩) (s.map fun c => .str [c]) where
  no := fun i x e => by
    rw [List.getElem?_map] at e
    obtain ⟨c, _, rfl⟩ := Option.map_eq_some_iff.mp e
    rw [Lc.noOwn]
  go := fun i x I H e hi ih bh => by
    rw [List.getElem?_map] at e
    obtain ⟨c, e1, rfl⟩ := Option.map_eq_some_iff.mp e
    have hl := (List.getElem?_eq_some_iff.mp e1).1
    refine ⟨by show i < s.toArray.size; simpa using hl, fun w G y => ?_⟩
    obtain ⟨rfl, c', e2, rfl⟩ := y
    have e2 : s[i]? = some c' := by simpa using e2
    rw [e1] at e2
    cases e2
    exact ⟨I, .str⟩
  stop := fun I H hi ih bh => by show s.toArray.size ≤ _; simp
theorem walk_range {lo : Int} {n : Nat} : Walk A I' (Itr lo n) ((List.range n).map fun (k : Nat) => .int (lo + k)) where
  no := fun i x e => by
    rw [List.getElem?_map] at e
    obtain ⟨c, _, rfl⟩ := Option.map_eq_some_iff.mp e
    rw [Lc.noOwn]
  go := fun i x I H e hi ih bh => by
    rw [List.getElem?_map] at e
    obtain ⟨c, e1, rfl⟩ := Option.map_eq_some_iff.mp e
    obtain ⟨hl, e1⟩ := List.getElem?_eq_some_iff.mp e1
    rw [List.getElem_range] at e1
    subst e1
    have hl : i < n := by simpa using hl
    refine ⟨hl, fun w G y => ?_⟩
    obtain ⟨rfl, rfl⟩ := y
    exact ⟨I, .int⟩
  stop := fun I H hi ih bh => by show n ≤ _; simp
theorem walk_rangeC {lo st : Int} {n : Nat} : Walk A I' (Itc lo st n) ((List.range n).map fun (k : Nat) => .int (lo + k * st)) where
  no := fun i x e => by
    rw [List.getElem?_map] at e
    obtain ⟨c, _, rfl⟩ := Option.map_eq_some_iff.mp e
    rw [Lc.noOwn]
  go := fun i x I H e hi ih bh => by
    rw [List.getElem?_map] at e
    obtain ⟨c, e1, rfl⟩ := Option.map_eq_some_iff.mp e
    obtain ⟨hl, e1⟩ := List.getElem?_eq_some_iff.mp e1
    rw [List.getElem_range] at e1
    subst e1
    have hl : i < n := by simpa using hl
    refine ⟨hl, fun w G y => ?_⟩
    obtain ⟨rfl, rfl⟩ := y
    exact ⟨I, .int⟩
  stop := fun I H hi ih bh => by show n ≤ _; simp

theorem tI_e {m : Ctx → ER} {R' : It → Hp → Prop} (hK : A.g.K = X.K) (h : tI A W (itE m) σ H R') :
    (iList X.K (tE A W m) σ H R') ∨ (iTup X.K (tE A W m) σ H R') ∨ (iStr (tE A W m) σ H R') := by
  obtain ⟨I, c, ts, O, lk, S, h⟩ := h
  rw [itE] at h
  cases e : m c with
  | bad => rw [e] at h; exact h.elim
  | exc k n x c1 => rw [e] at h; exact .inl ⟨I, c, ts, O, lk, S, by rw [e]; exact h⟩
  | ok ev c1 =>
    rw [e] at h
    cases ev with
    | pl r p => exact h.elim
    | t d =>
      dsimp only at h
      cases e1 : itemsOf d with
      | none => rw [e1] at h; exact h.elim
      | some xs =>
        rw [e1] at h
        dsimp only at h
        unfold itemsOf at e1
        split at e1
        · cases e1
          refine .inr (.inr ⟨I, c, ts, O, lk, S, ?_⟩)
          rw [e]
          intro v I1 H1 O1 S1
          obtain ⟨fp, r, _⟩ := S1.last
          rw [R] at r
          exact ⟨_, r.1, h _ I1 H1 O1 S1.pop walk_str⟩
        · split at e1
          · rename_i ys hn
            cases e1
            refine .inr (.inl ⟨I, c, ts, O, lk, S, ?_⟩)
            rw [e]
            intro v I1 H1 O1 S1
            obtain ⟨fp, r, _⟩ := S1.last
            rw [R] at r
            obtain ⟨p, vs, e2, tc, l⟩ := r
            have hs : ∀ I H : Hp, leH I1 I → leH I H → leH A.B H → SqT X.K H p vs := fun I H i ih _ => hK ▸ (i.trans ih).sqT tc.sq
            exact ⟨p, e2, ⟨vs, hs _ _ (leH.refl _) S1.ih S1.bh⟩, h _ I1 H1 O1 S1.pop (walk_tup hs (l.leaf hn) hn)⟩
          · cases e1
        · split at e1
          · rename_i ys hn
            cases e1
            refine .inl ⟨I, c, ts, O, lk, S, ?_⟩
            rw [e]
            intro v I1 H1 O1 S1
            obtain ⟨fp, r, _⟩ := S1.last
            rw [R] at r
            obtain ⟨p, vs, e2, _, tc, l⟩ := r
            have hs : ∀ I H : Hp, leH I1 I → leH I H → leH A.B H → SqL X.K H p vs := fun I H i ih _ => .inl (.inl (ih _ _ (i _ _ tc)))
            exact ⟨p, e2, ⟨vs, hs _ _ (leH.refl _) S1.ih S1.bh⟩, h _ I1 H1 O1 S1.pop (walk_list hs (RL.keep (H' := H1) _ l (leH.refl _) (noH_le _) fun a ha => by cases ha) hn)⟩
          · cases e1
        · split at e1
          · rename_i ys hn
            cases e1
            refine .inl ⟨I, c, ts, O, lk, S, ?_⟩
            rw [e]
            intro v I1 H1 O1 S1
            obtain ⟨fp, r, _⟩ := S1.last
            rw [R] at r
            obtain ⟨p, vs, e2, _, tc, l⟩ := r
            have hs : ∀ I H : Hp, leH I1 I → leH I H → leH A.B H → SqL X.K H p vs := fun I H i ih bh => .inl (.inl (bh _ _ tc))
            exact ⟨p, e2, ⟨vs, hs _ _ (leH.refl _) S1.ih S1.bh⟩, h _ I1 H1 O1 S1.pop (walk_list hs (RL.keep (H' := H1) _ l (leH.refl _) (leH.refl _) fun a ha => by cases ha) hn)⟩
          · cases e1
        · split at e1
          · rename_i ys hn
            cases e1
            refine .inl ⟨I, c, ts, O, lk, S, ?_⟩
            rw [e]
            intro v I1 H1 O1 S1
            obtain ⟨fp, r, _⟩ := S1.last
            rw [R] at r
            obtain ⟨p, vs, e2, _, tc, l⟩ := r
            have hs : ∀ I H : Hp, leH I1 I → leH I H → leH A.B H → SqL X.K H p vs := fun I H i ih bh => hK ▸ bh.sqL tc
            exact ⟨p, e2, ⟨vs, hs _ _ (leH.refl _) S1.ih S1.bh⟩, h _ I1 H1 O1 S1.pop (walk_list hs (RL.keep (H' := H1) _ l (leH.refl _) (leH.refl _) fun a ha => by cases ha) hn)⟩
          · cases e1
        · cases e1
theorem PI_e {tg e : Expr} {m : Ctx → ER} (hK : A.g.K = X.K) (h : PE X e (tE A W m)) : PI X tg e (tI A W (itE m)) := ⟨fun pins s σ H R I x => by
  rcases tI_e hK x with x | x | x
  · exact (pi_list h).run pins s σ H R I x
  · exact (pi_tup h).run pins s σ H R I x
  · exact (pi_str h).run pins s σ H R I x⟩

/-- over ints told by the arguments -/
def itA (f : List D → Option (List D)) (ms : List (Ctx → ER)) : Ctx → IR := fun c => match eArgs ms c with
  | .ok es c2 => match valsOf c2 es with
    | some ds => match f ds with
      | some xs => .ok xs (unlocks es c2)
      | none => .bad
    | none => .bad
  | .exc k n x c2 => .exc k n x c2
  | .bad => .bad
/-- what an iterator's maker asks of values, by trees: nothing is laid -/
def ItS (A : Act) (f : List D → Option (List D)) (r : List V → Hp → (It → Hp → Prop) → Prop) : Prop := ∀ (I H : Hp) (ds : List D) (vs : List V) (R : It → Hp → Prop) (xs : List D), leH I H → leH A.B H → Paired (EAt A I H) ds vs → f ds = some xs → (∀ J, Walk A I J xs → R J H) → r vs H R
theorem tI_a {f : List D → Option (List D)} {ms : List (Ctx → ER)} {r : List V → Hp → (It → Hp → Prop) → Prop} {R' : It → Hp → Prop} (o : ItS A f r) (h : tI A W (itA f ms) σ H R') : tA' A W (eArgs ms) σ H (fun vs H2 => r vs H2 R') := by
  obtain ⟨I, c, ts, O, lk, S, h⟩ := h
  refine ⟨I, c, ts, O, lk, S, ?_⟩
  rw [itA] at h
  cases e : eArgs ms c with
  | bad => rw [e] at h; exact h
  | exc k n x c1 => rw [e] at h; exact h
  | ok es c2 =>
    rw [e] at h
    dsimp only at h
    intro vs I2 H2 O2 hl S2
    cases e2 : valsOf c2 es with
    | none => rw [e2] at h; exact h.elim
    | some ds =>
      rw [e2] at h
      dsimp only at h
      cases e3 : f ds with
      | none => rw [e3] at h; exact h.elim
      | some xs =>
        rw [e3] at h
        dsimp only at h
        exact o I2 H2 ds vs R' xs S2.ih S2.bh (Sat.valsOf hl e2 S2) e3 fun J wk => h J I2 H2 O2 (Sat.unlockL hl S2).pop wk
def okR (i : Int) : Bool := decide (-(2 ^ 62) ≤ i ∧ i < 2 ^ 62)
def fR1 : List D → Option (List D)
  | [.int j] => if okR j then some ((List.range j.toNat).map fun (k : Nat) => .int (0 + k)) else none
  | _ => none
def fR2 : List D → Option (List D)
  | [.int i, .int j] => if okR i && okR j then some ((List.range (j - i).toNat).map fun (k : Nat) => .int (i + k)) else none
  | _ => none
def fR3 : List D → Option (List D)
  | [.int i, .int j, .int c] => if okR i && okR j && decide (c = -1) then some ((List.range (i - j).toNat).map fun (k : Nat) => .int (i + k * c)) else none
  | _ => none
theorem is_R1 : ItS A fR1 (fun vs H R => ∃ j : Int, vs = [.int j] ∧ -(2 ^ 62) ≤ j ∧ j < 2 ^ 62 ∧ R (Itr 0 j.toNat) H) := fun I H ds vs R xs ih bh P e q => by
  unfold fR1 at e
  split at e
  · split at e
    · rename_i j hj
      cases e
      obtain ⟨x, rfl, h1⟩ := Paired.one P
      rw [h1.int]
      have hj := of_decide_eq_true hj
      exact ⟨j, rfl, hj.1, hj.2, q _ walk_range⟩
    · cases e
  · cases e
theorem is_R2 : ItS A fR2 (fun vs H R => ∃ i j : Int, vs = [.int i, .int j] ∧ (-(2 ^ 62) ≤ i ∧ i < 2 ^ 62 ∧ -(2 ^ 62) ≤ j ∧ j < 2 ^ 62) ∧ R (Itr i (j - i).toNat) H) := fun I H ds vs R xs ih bh P e q => by
  unfold fR2 at e
  split at e
  · split at e
    · rename_i i j hj
      cases e
      obtain ⟨x, y, rfl, h1, h2⟩ := Paired.two P
      rw [h1.int, h2.int]
      rw [Bool.and_eq_true] at hj
      have h1 := of_decide_eq_true hj.1
      have h2 := of_decide_eq_true hj.2
      exact ⟨i, j, rfl, ⟨h1.1, h1.2, h2.1, h2.2⟩, q _ walk_range⟩
    · cases e
  · cases e
theorem is_R3 : ItS A fR3 (fun vs H R => ∃ (i j c : Int) (n : Nat), vs = [.int i, .int j, .int c] ∧ RgC i j c n ∧ R (Itc i c n) H) := fun I H ds vs R xs ih bh P e q => by
  unfold fR3 at e
  split at e
  · split at e
    · rename_i i j c hj
      cases e
      obtain ⟨x, y, z, rfl, h1, h2, h3⟩ := Paired.three P
      rw [h1.int, h2.int, h3.int]
      simp only [Bool.and_eq_true] at hj
      have h1 := of_decide_eq_true hj.1.1
      have h2 := of_decide_eq_true hj.1.2
      have h3 := of_decide_eq_true hj.2
      subst h3
      exact ⟨i, j, -1, _, rfl, RgC.neg h1.1 h1.2 h2.1 h2.2, q _ walk_rangeC⟩
    · cases e
  · cases e
variable {tg : Expr}
theorem PI_r1 {a : Expr} {ms : List (Ctx → ER)} {p pos : Pos} (hg : Gl X "range") (hm : X.mg "range" = none) (ha : PA X [a] (tA' A W (eArgs ms))) (hs : starEach [a] X.env = [(false, eval a X.env)] := by rfl) : PI X tg (.Call (.Name "range" p) [a] [] pos) (tI A W (itA fR1 ms)) :=
  PI.imp (pi_range1 hg hm ha hs) fun σ H R h => tI_a is_R1 h
theorem PI_r2 {a b : Expr} {ms : List (Ctx → ER)} {p pos : Pos} (hg : Gl X "range") (hm : X.mg "range" = none) (ha : PA X [a, b] (tA' A W (eArgs ms))) (hs : starEach [a, b] X.env = [(false, eval a X.env), (false, eval b X.env)] := by rfl) (hs2 : starEach [b] X.env = [(false, eval b X.env)] := by rfl) :
    PI X tg (.Call (.Name "range" p) [a, b] [] pos) (tI A W (itA fR2 ms)) := PI.imp (pi_range2 hg hm ha hs hs2) fun σ H R h => tI_a is_R2 h
theorem PI_r3 {a b d : Expr} {ms : List (Ctx → ER)} {p pos : Pos} (hg : Gl X "range") (hm : X.mg "range" = none) (ha : PA X [a, b, d] (tA' A W (eArgs ms)))
    (hs : starEach [a, b, d] X.env = (false, eval a X.env) :: starEach [b, d] X.env := by rfl) (hpl : (backTo pos (starEach [b, d] X.env)).any (·.1) = false := by rfl) :
    PI X tg (.Call (.Name "range" p) [a, b, d] [] pos) (tI A W (itA fR3 ms)) := PI.imp (pi_range3 hg hm ha hs hpl) fun σ H R h => tI_a is_R3 h

/-! ### targets -/
inductive Tg where
  | n (i : Nat) | t (ts : List Tg)
mutual
def bindT : Tg → D → Ctx → Option Ctx
  | .n i, d, c => if c.kr.contains i || !decide (i < c.s.length) || !Lc.noOwn d then none else some { c with s := (dropAl i c.s).set i (.v d) }
  | .t ts, .tup xs, c => bindTs ts xs c
  | .t _, _, _ => none
def bindTs : List Tg → List D → Ctx → Option Ctx
  | [], [], c => some c
  | t :: ts, x :: xs, c => match bindT t x c with
    | some c' => bindTs ts xs c'
    | none => none
  | _, _, _ => none
end
mutual
def slotsT : Tg → List Nat
  | .n i => [i]
  | .t us => slotsTs us
def slotsTs : List Tg → List Nat
  | [] => []
  | u :: us => slotsT u ++ slotsTs us
end
def DiffS (is : List Nat) (σ σ' : St) : Prop := σ'.length = σ.length ∧ ∀ j, j ∉ is → σ'[j]? = σ[j]?
theorem DiffS.refl (is : List Nat) (σ : St) : DiffS is σ σ := ⟨rfl, fun _ _ => rfl⟩
theorem DiffS.trans {is js : List Nat} {σ σ1 σ2 : St} (a : DiffS is σ σ1) (b : DiffS js σ1 σ2) : DiffS (is ++ js) σ σ2 := ⟨b.1.trans a.1, fun j h => (b.2 j fun z => h (by simp [z])).trans (a.2 j fun z => h (by simp [z]))⟩
/-- the target's rule: from a tree without own cells -/
def tG (A : Act) (t : Tg) : TG := fun v σ H Q => ∃ I c ts O lk d c', Sat A I H σ c ts O lk ∧ R A.g I A.B H d v [] ∧ bindT t d c = some c' ∧ ∀ σ' O', Sat A I H σ' c' ts O' lk → DiffS (slotsT t) σ σ' → Q σ' H
def tGs (A : Act) (t : List Tg) : TGs := fun vs σ H Q => ∃ I c ts O lk ds c', Sat A I H σ c ts O lk ∧ RL A.g I A.B H ds vs [] ∧ bindTs t ds c = some c' ∧ ∀ σ' O', Sat A I H σ' c' ts O' lk → DiffS (slotsTs t) σ σ' → Q σ' H
theorem PG.imp {X : Cx} {tg : Expr} {t t' : TG} (h : PG X tg t) (q : ∀ v σ H Q, t' v σ H Q → t v σ H Q) : PG X tg t' := ⟨fun pins s σ H v u Q I r x => h.run pins s σ H v u Q I r (q v σ H Q x)⟩
theorem PGs.imp {X : Cx} {tg : List Expr} {t t' : TGs} (h : PGs X tg t) (q : ∀ v σ H Q, t' v σ H Q → t v σ H Q) : PGs X tg t' := ⟨fun pins s σ H v u Q I r x => h.run pins s σ H v u Q I r (q v σ H Q x)⟩
theorem Sat.bind1 {i : Nat} {d : D} {v : V} (S : Sat A I H σ c ts O lk) (h : R A.g I A.B H d v []) (nk : i ∉ c.kr) (hi : i < c.s.length) : Sat A I H (σ.set i (some v)) { c with s := (dropAl i c.s).set i (.v d) } ts O lk :=
  S.setSlot nk (leH.refl _) S.ih S.bh (fun _ _ e => .inl e) (fun _ _ _ _ => rfl) (fun _ _ e _ => e) S.fr (List.length_set ..) (fun j hj => List.getElem?_set_ne (Ne.symm hj)) (fun _ _ z => by cases z) fun d' z => by
    cases z
    exact ⟨v, List.getElem?_set_self (by rw [S.len]; exact hi), RO.leaf h⟩
theorem PG_n {i : Nat} {x : Str} {pos : Pos} (h : PG X (.Name x pos) (gName i)) : PG X (.Name x pos) (tG A (.n i)) := PG.imp h fun v σ H Q ⟨I, c, ts, O, lk, d, c', S, r, e, q⟩ => by
  rw [bindT] at e
  split at e
  · cases e
  · rename_i hn
    cases e
    simp only [Bool.or_eq_true, not_or, Bool.not_eq_true, Bool.not_eq_false', decide_eq_true_eq, List.contains_eq_mem, decide_eq_false_iff_not] at hn
    refine q _ _ (S.bind1 r hn.1.1 hn.1.2) ⟨List.length_set .., fun j hj => List.getElem?_set_ne fun z => hj ?_⟩
    rw [slotsT, z]
    exact List.mem_singleton.mpr rfl
theorem PGs_nil : PGs X [] (tGs A []) := PGs.imp pgs_nil fun vs σ H Q ⟨I, c, ts, O, lk, ds, c', S, r, e, q⟩ => by
  cases ds with
  | nil =>
    rw [RL] at r
    rw [bindTs] at e
    cases e
    exact ⟨r.1, q _ _ S (DiffS.refl _ _)⟩
  | cons _ _ => rw [bindTs] at e <;> first | cases e | (intros; contradiction)
theorem PGs_cons {e : Expr} {es : List Expr} {t : Tg} {u : List Tg} (h1 : PG X e (tG A t)) (h2 : PGs X es (tGs A u)) (hs : (assignEach (e :: es) X.env).map (·.2) = assign e X.env :: (assignEach es X.env).map (·.2) := by rfl) : PGs X (e :: es) (tGs A (t :: u)) :=
  PGs.imp (pgs_cons h1 h2 hs) fun vs σ H Q ⟨I, c, ts, O, lk, ds, c', S, r, e, q⟩ => by
    cases ds with
    | nil => rw [bindTs] at e <;> first | cases e | (intros; contradiction)
    | cons x xs =>
      rw [RL] at r
      rw [bindTs] at e
      obtain ⟨v, vr, f1, f2, rfl, ef, r1, r2⟩ := r
      obtain ⟨rfl, rfl⟩ := List.append_eq_nil_iff.mp ef.symm
      cases e1 : bindT t x c with
      | none => rw [e1] at e; cases e
      | some c1 =>
        rw [e1] at e
        exact ⟨v, vr, rfl, I, c, ts, O, lk, x, c1, S, r1, e1, fun σ' O' S' df => ⟨I, c1, ts, O', lk, xs, c', S', r2, e, fun σ2 O2 S2 df2 => q σ2 O2 S2 (by
          rw [slotsTs]
          exact df.trans df2)⟩⟩
theorem PG_t {es : List Expr} {k : Nat} {u : List Tg} {n : Nat} {pos : Pos} (hc : X.calm = true) (hK : A.g.K = X.K) (h : PGs X es (tGs A u)) (hu : u.length = es.length) (hn : (assignEach es X.env).length = n := by rfl) (hst : (assignEach es X.env).findIdx? (·.1) = none := by rfl) (hnn : n = es.length := by rfl) : PG X (.Tuple es k pos) (tG A (.t u)) :=
  PG.imp (pg_tup hc h hn hst) fun v σ H Q ⟨I, c, ts, O, lk, d, c', S, r, e, q⟩ => by
    have len : ∀ {u : List Tg} {xs : List D} {c c' : Ctx}, bindTs u xs c = some c' → xs.length = u.length := by
      intro u
      induction u with
      | nil =>
        intro xs c c' e
        cases xs with
        | nil => rfl
        | cons _ _ => rw [bindTs] at e <;> first | cases e | (intros; contradiction)
      | cons t u ih =>
        intro xs c c' e
        cases xs with
        | nil => rw [bindTs] at e <;> first | cases e | (intros; contradiction)
        | cons x xs =>
          rw [bindTs] at e
          cases e1 : bindT t x c with
          | none => rw [e1] at e; cases e
          | some c1 =>
            rw [e1] at e
            rw [List.length_cons, List.length_cons, ih e]
    cases d with
    | tup xs =>
      rw [bindT] at e
      rw [R] at r
      obtain ⟨p, vs, e1, tc, l⟩ := r
      exact ⟨p, vs, e1, hK ▸ S.ih.sqT tc.sq, by rw [l.length, len e, hu, hnn], I, c, ts, O, lk, xs, c', S, l, e, fun σ' O' S' df => q σ' O' S' (by
        rw [slotsT]
        exact df)⟩
    | _ => rw [bindT] at e <;> first | cases e | (intros; contradiction)
end
end Lc
end
section
set_option Elab.async false
set_option linter.all false
set_option maxRecDepth 100000
set_option maxHeartbeats 1000000
namespace Lc
open PySem L2

/-! ### comprehensions -/
/-- forget slots -/
def wipeC : List Nat → Ctx → Ctx
  | [], c => c
  | i :: is, c => { (wipeC is c) with s := (dropAl i (wipeC is c).s).set i .no }
def freeC (is : List Nat) (c : Ctx) : Bool := is.all fun i => !(c.kr.contains i)
/-- the turns: the items, what is made so far -/
def cmpLoop (own : List Nat) (t : Tg) (test : Ctx → TR) (elt : Ctx → ER) : List D → List D → Ctx → ER
  | [], acc, c => .ok (.t (.nd .lst .own acc)) c
  | x :: xs, acc, c => match bindT t x c with
    | none => .bad
    | some c1 => match test c1 with
      | .ok false c2 => if freeC own c2 then cmpLoop own t test elt xs acc (wipeC own c2) else .bad
      | .ok true c2 => match elt c2 with
        | .ok (.t d) c3 => if freeC own c3 && decide (acc.length < 16777216) then cmpLoop own t test elt xs (acc ++ [d]) (wipeC own c3) else .bad
        | _ => .bad
      | _ => .bad
def eCmp (own : List Nat) (it : Ctx → IR) (t : Tg) (test : Ctx → TR) (elt : Ctx → ER) : Ctx → ER := fun c => match it c with
  | .ok xs c1 => if freeC own c1 then cmpLoop own t test elt xs [] (wipeC own c1) else .bad
  | .exc k n x c1 => .exc k n x c1
  | .bad => .bad
def W0 : Wx := fun _ _ _ _ => False

section
variable {A : Act} {W : Wx} {X : Cx} {I H I' H' : Hp} {σ : St} {c : Ctx} {ts : List (D × V)} {O O' : Addr → Option Ow} {lk : List (Nat × List Nat × V)}
theorem wipeC_k : ∀ (is : List Nat) (c : Ctx), (wipeC is c).k = c.k
  | [], c => rfl
  | i :: is, c => wipeC_k is c
theorem Sat.weakσ {σ' : St} (S : Sat A I H σ c ts O lk) (hl : σ'.length = σ.length) (hv : ∀ (i : Nat) (d : D), c.s[i]? = some (.v d) → σ'[i]? = σ[i]?) (ha : ∀ (i r : Nat) (p : List Nat), c.s[i]? = some (.al r p) → σ'[i]? = σ[i]?) : Sat A I H σ' c ts O lk := by
  have pvk : ∀ {r : Nat} {p : List Nat} {v : V}, PV A I H σ c O r p v → PV A I H σ' c O r p v := fun {r p v} ⟨d, v0, d', e1, e2, e3, e4, va⟩ => ⟨d, v0, d', e1, (hv _ _ e1).trans e2, e3, e4, va⟩
  refine ⟨S.ih, S.bh, S.i0, S.ib, hl.trans S.len, fun i d e => ?_, fun i r p e => ?_, S.tmps, fun r p v e => pvk (S.lks r p v e), S.lke, S.fr⟩
  · obtain ⟨v, e1, h⟩ := S.vals i d e
    exact ⟨v, (hv i d e).trans e1, h⟩
  · obtain ⟨w, e1, h⟩ := S.als i r p e
    exact ⟨w, (ha i r p e).trans e1, pvk h⟩
theorem Sat.wipe : ∀ (is : List Nat) {σ : St} {c : Ctx}, Sat A I H σ c ts O lk → freeC is c = true → Sat A I H σ (wipeC is c) ts O lk
  | [], _, _, S, _ => S
  | i :: is, σ, c, S, h => by
    unfold freeC at h
    rw [List.all_cons, Bool.and_eq_true] at h
    have S1 := Sat.wipe is S h.2
    refine S1.forget (i := i) ?_
    rw [Ctx.kr, wipeC_k, ← Ctx.kr]
    simpa using h.1
theorem wipeC_get : ∀ (is : List Nat) {c : Ctx} {i : Nat}, i ∈ is → (∀ d : D, (wipeC is c).s[i]? ≠ some (.v d)) ∧ (∀ (r : Nat) (p : List Nat), (wipeC is c).s[i]? ≠ some (.al r p))
  | j :: is, c, i, h => by
    by_cases e : i = j
    · subst e
      have key : ∀ x, (wipeC (i :: is) c).s[i]? = some x → x = .no := fun x h => by
        rcases set_cases (show ((dropAl i (wipeC is c).s).set i .no)[i]? = _ from h) with ⟨_, z, _⟩ | ⟨z, _⟩
        · exact z.symm
        · exact absurd rfl z
      exact ⟨fun d h => (by cases key _ h), fun r p h => (by cases key _ h)⟩
    · have h : i ∈ is := by
        rcases List.mem_cons.mp h with h | h
        · exact absurd h e
        · exact h
      obtain ⟨h1, h2⟩ := wipeC_get is (c := c) h
      refine ⟨fun d q => ?_, fun r p q => ?_⟩
      · rcases set_cases (show ((dropAl j (wipeC is c).s).set j .no)[i]? = _ from q) with ⟨z, _, _⟩ | ⟨_, z⟩
        · exact e z
        · exact h1 d (dropAl_v.mp z)
      · rcases set_cases (show ((dropAl j (wipeC is c).s).set j .no)[i]? = _ from q) with ⟨z, _, _⟩ | ⟨_, z⟩
        · exact e z
        · exact h2 r p (dropAl_al z).1
theorem wipe_get : ∀ (is : List Nat) {σ : St} {i : Nat}, i ∉ is → (L2.wipe σ is)[i]? = σ[i]?
  | [], _, _, _ => rfl
  | j :: is, σ, i, h => by
    rw [L2.wipe, List.getElem?_set_ne (fun e => h (by simp [e])), wipe_get is fun z => h (List.mem_cons_of_mem _ z)]
/-- into the block: the slots wiped on both sides -/
theorem Sat.enter (is : List Nat) (S : Sat A I H σ c ts O lk) (h : freeC is c = true) : Sat A I H (L2.wipe σ is) (wipeC is c) ts O lk :=
  (S.wipe is h).weakσ (wipe_length σ is) (fun i d e => wipe_get is fun hm => (wipeC_get is hm).1 d e) fun i r p e => wipe_get is fun hm => (wipeC_get is hm).2 r p e
/-- back: any values at the wiped slots -/
theorem Sat.back (is : List Nat) {σ0 : St} (S : Sat A I H σ0 (wipeC is c) ts O lk) (h : L2.wipe σ0 is = L2.wipe σ is) : Sat A I H σ (wipeC is c) ts O lk :=
  S.weakσ (by rw [← wipe_length σ is, ← h, wipe_length]) (fun i d e => by
    have hm : i ∉ is := fun hm => (wipeC_get is hm).1 d e
    rw [← wipe_get is hm, ← h, wipe_get is hm]) fun i r p e => by
    have hm : i ∉ is := fun hm => (wipeC_get is hm).2 r p e
    rw [← wipe_get is hm, ← h, wipe_get is hm]

theorem RL.snoc {g : Gs} {I B H : Hp} : ∀ {xs : List D} {vs : List V} {f1 f2 : List Addr} {x : D} {v : V}, RL g I B H xs vs f1 → R g I B H x v f2 → RL g I B H (xs ++ [x]) (vs ++ [v]) (f1 ++ f2)
  | [], vs, f1, f2, x, v, h, r => by
    rw [RL] at h
    obtain ⟨rfl, rfl⟩ := h
    show RL g I B H [x] [v] f2
    rw [RL]
    refine ⟨v, [], f2, [], rfl, by simp, r, ?_⟩
    rw [RL]
    exact ⟨rfl, rfl⟩
  | y :: ys, vs, f1, f2, x, v, h, r => by
    rw [RL] at h
    obtain ⟨w, vr, g1, g2, rfl, rfl, h1, h2⟩ := h
    rw [List.cons_append, RL]
    exact ⟨w, vr ++ [v], g1, g2 ++ f2, rfl, by simp, h1, RL.snoc h2 r⟩
/-- the list that is being made grows by the last temporary -/
theorem Sat.grow {acc : List D} {L : Addr} {d : D} {v : V} (S : Sat A I H σ c (ts ++ [(.nd .lst .own acc, .ref L)] ++ [(d, v)]) O lk) : ∃ vs, H L = some (.lst vs) ∧ vs.length = acc.length ∧ ∃ O', Sat A I (upd H L (.lst (vs ++ [v]))) σ c (ts ++ [(.nd .lst .own (acc ++ [d]), .ref L)]) O' lk := by
  obtain ⟨f1, r1, n1, l1⟩ := S.tmps ts.length (.nd .lst .own acc) (.ref L) (by simp)
  obtain ⟨f2, r2, n2, l2⟩ := S.last
  have hlen : (ts ++ [(D.nd .lst .own acc, V.ref L)]).length = ts.length + 1 := by simp
  rw [hlen] at l2
  have r0 := r1
  rw [R] at r1
  obtain ⟨p, vs, fq, e, rfl, oc, l⟩ := r1
  cases e
  have oc : H L = some (.lst vs) := oc
  have dj : ∀ a ∈ f2, a ∉ L :: fq := fun a ha hb => by
    have := l2 a ha
    rw [l1 a hb] at this
    injection this with this
    injection this with this
    omega
  refine ⟨vs, oc, l.length, ?_⟩
  have kp : ∀ a, a ≠ L → upd H L (.lst (vs ++ [v])) a = H a := fun a h => upd_ne h
  have nL : ∀ a w, O a = some w → w ≠ .inr ts.length → a ≠ L := fun a w e hw z => by
    subst z
    rw [l1 a (List.mem_cons_self ..)] at e
    cases e
    exact hw rfl
  -- first without the two temporaries
  have S0 : Sat A I (upd H L (.lst (vs ++ [v]))) σ c ts O lk := by
    have S1 : Sat A I H σ c ts O lk := (Sat.pop (xs := [(d, v)]) S).pop
    have fL := S.fr L _ (l1 L (List.mem_cons_self ..))
    refine ⟨fun a o e => ?_, fun a o e => ?_, S1.i0, S1.ib, S1.len, fun i d e => ?_, fun i r p e => ?_, fun j d v e => ?_, fun r p v e => ?_, S1.lke, fun a w e => ?_⟩
    · rw [kp a (ne_of_none e fL.1)]
      exact S1.ih a o e
    · rw [kp a (ne_of_none e fL.2.1)]
      exact S1.bh a o e
    · obtain ⟨v, e1, h⟩ := S1.vals i d e
      exact ⟨v, e1, h.keep (leH.refl _) (fun a ha => kp a (nL a _ ha (by intro z; cases z))) fun _ h => h⟩
    · obtain ⟨v, e1, h⟩ := S1.als i r p e
      exact ⟨v, e1, h.keep (leH.refl _) (fun a ha => kp a (nL a _ ha (by intro z; cases z))) (fun _ h => h) rfl rfl⟩
    · exact (S1.tmps j d v e).keep (leH.refl _) (fun a ha => kp a (nL a _ ha (by
        intro z
        cases z
        have := (List.getElem?_eq_some_iff.mp e).1
        omega))) fun _ h => h
    · exact (S1.lks r p v e).keep (leH.refl _) (fun a ha => kp a (nL a _ ha (by intro z; cases z))) (fun _ h => h) rfl rfl
    · obtain ⟨x, y, o, z⟩ := S1.fr a w e
      refine ⟨x, y, ?_⟩
      by_cases hb : a = L
      · exact ⟨_, by rw [hb]; exact upd_same⟩
      · exact ⟨o, by rw [kp a hb]; exact z⟩
  have nq : L ∉ fq := (List.nodup_cons.mp n1).1
  refine Sat.join (xs := []) (fp := L :: (fq ++ f2)) (by rw [List.append_nil]; exact S0) ?_ ?_ fun a ha => ?_
  · rw [R]
    refine ⟨L, vs ++ [v], fq ++ f2, rfl, rfl, upd_same, RL.snoc (RL.keep _ l (leH.refl _) (leH.refl _) fun a ha => kp a fun z => nq (z ▸ ha)) (R.keep _ r2 (leH.refl _) (leH.refl _) fun a ha => kp a fun z => dj a ha (by simp [z]))⟩
  · refine List.nodup_cons.mpr ⟨fun h => ?_, List.nodup_append.mpr ⟨(List.nodup_cons.mp n1).2, n2, fun a ha b hb z => dj b hb (by simp [← z, ha])⟩⟩
    rcases List.mem_append.mp h with h | h
    · exact nq h
    · exact dj L h (by simp)
  · rcases List.mem_cons.mp ha with rfl | ha
    · exact .inl ⟨_, l1 _ (List.mem_cons_self ..), Nat.le_refl _⟩
    · rcases List.mem_append.mp ha with ha | ha
      · exact .inl ⟨_, l1 a (List.mem_cons_of_mem _ ha), Nat.le_refl _⟩
      · exact .inl ⟨_, l2 a ha, Nat.le_succ _⟩

/-- the target's rule at a walked item -/
theorem tG_of {t : Tg} {d : D} {v : V} {c' : Ctx} {Q : St → Hp → Prop} (S : Sat A I H σ c ts O lk) (h : R A.g I A.B H d v []) (e : bindT t d c = some c') (q : ∀ σ' O', Sat A I H σ' c' ts O' lk → DiffS (slotsT t) σ σ' → Q σ' H) : tG A t v σ H Q := ⟨I, c, ts, O, lk, d, c', S, h, e, q⟩
end

/-! ### a later base -/
abbrev Act.at (A : Act) (J : Hp) : Act := ⟨A.g, A.B, J⟩
section
variable {A : Act} {W : Wx} {X : Cx} {I H I' H' : Hp} {σ σ' : St} {c c' : Ctx} {ts ts' : List (D × V)} {O O' : Addr → Option Ow} {lk lk' : List (Nat × List Nat × V)}
theorem Sat.inn (S : Sat A I H σ c ts O lk) : Sat (A.at I) I H σ c ts O lk := ⟨S.ih, S.bh, leH.refl _, fun a o e => .inl e, S.len, S.vals, S.als, S.tmps, S.lks, S.lke, S.fr⟩
theorem Sat.out (S0 : Sat A I H σ c ts O lk) (S : Sat (A.at I) I' H' σ' c' ts' O' lk') : Sat A I' H' σ' c' ts' O' lk' := ⟨S.ih, S.bh, S0.i0.trans S.i0, fun a o e => by
    rcases S.ib a o e with h | h
    · exact S0.ib a _ h
    · exact .inr h, S.len, S.vals, S.als, S.tmps, S.lks, S.lke, S.fr⟩
theorem Res.at {d : D} {v : V} {J : Hp} (h : Res A I H d v I' H') : Res (A.at J) I H d v I' H' := by
  induction h with
  | leaf h => exact .leaf h
  | list h n => exact .list h n
  | dict h l n => exact .dict h l n
  | dictT h l n => exact .dictT h l n
  | tup h n => exact .tup h n
  | more n h ih => exact .more n ih
def tEx (A : Act) (W : Wx) (m : Ctx → ER) : TE := fun σ H Q => ∃ J, tE (A.at J) W m σ H Q
def tTx (A : Act) (W : Wx) (m : Ctx → TR) : TT := fun σ H Q => ∃ J, tT (A.at J) W m σ H Q
def tGx (A : Act) (t : Tg) : TG := fun v σ H Q => ∃ J, tG (A.at J) t v σ H Q
theorem PE_ex {e : Expr} {m : Ctx → ER} (h : ∀ J, PE X e (tE (A.at J) W m)) : PE X e (tEx A W m) := ⟨fun pins s σ H Q I ⟨J, x⟩ => (h J).run pins s σ H Q I x⟩
theorem PG_ex {e : Expr} {t : Tg} (h : ∀ J, PG X e (tG (A.at J) t)) : PG X e (tGx A t) := ⟨fun pins s σ H v u Q I r ⟨J, x⟩ => (h J).run pins s σ H v u Q I r x⟩
/-- the tests of a comprehension -/
theorem PTs_nil : PTs X [] (tTx A W fun c => .ok true c) := by
  have h := pts_nil (X := X)
  refine ⟨fun pins s σ H Q I ⟨J, J1, c, ts, O, lk, S, x⟩ => ?_⟩
  exact h.run pins s σ H Q I (x J1 H O S)
theorem PTs_one {t : Expr} {m : Ctx → TR} (h : ∀ J, PT X t (tT (A.at J) W m)) : PTs X [t] (tTx A W m) := by
  have h' : PT X t (tTx A W m) := ⟨fun pins s σ H Q I ⟨J, x⟩ => (h J).run pins s σ H Q I x⟩
  exact pts_one h'

theorem wipe_at : ∀ (is : List Nat) {σ : St} {i : Nat}, i ∈ is → i < σ.length → (L2.wipe σ is)[i]? = some none
  | j :: is, σ, i, h, hl => by
    rw [L2.wipe]
    by_cases e : j = i
    · subst e
      rw [List.getElem?_set_self (by rw [wipe_length]; exact hl)]
    · rw [List.getElem?_set_ne e]
      rcases List.mem_cons.mp h with h | h
      · exact absurd h.symm e
      · exact wipe_at is h hl
theorem wipe_same {is : List Nat} {σ σ' : St} (h : DiffS is σ σ') : L2.wipe σ' is = L2.wipe σ is := by
  refine List.ext_getElem? fun i => ?_
  by_cases hl : i < σ.length
  · by_cases hi : i ∈ is
    · rw [wipe_at is hi hl, wipe_at is hi (by rw [h.1]; exact hl)]
    · rw [wipe_get is hi, wipe_get is hi, h.2 i hi]
  · rw [List.getElem?_eq_none (by rw [wipe_length, h.1]; omega), List.getElem?_eq_none (by rw [wipe_length]; omega)]
theorem wipe_wipe (σ : St) (is : List Nat) : L2.wipe (L2.wipe σ is) is = L2.wipe σ is := wipe_same ⟨wipe_length σ is, fun j hj => wipe_get is hj⟩

theorem tLc_of {own : List Nat} {it : Ctx → IR} {t : Tg} {test : Ctx → TR} {elt : Ctx → ER} {Q : VK} (ht : slotsT t = own) (h : tE A W (eCmp own it t test elt) σ H Q) : tLc (tI A W it) (tGx A t) (tTx A W0 test) (tEx A W0 elt) own σ H Q := by
  obtain ⟨I, c, ts, O, lk, S, h⟩ := h
  refine ⟨I, c, ts, O, lk, S, ?_⟩
  rw [eCmp] at h
  cases e : it c with
  | bad => rw [e] at h; exact h
  | exc k n x c1 => rw [e] at h; exact h
  | ok xs c1 =>
    rw [e] at h
    dsimp only at h
    intro J I1 H1 O1 S1 wk L nL
    cases hf : freeC own c1 with
    | false => rw [hf] at h; exact h.elim
    | true =>
      rw [hf, if_pos rfl] at h
      -- what is left, from a state of a turn
      let Left : List D → List D → Ctx → Prop := fun ys acc c2 => match cmpLoop own t test elt ys acc c2 with
        | .ok (.t d) c' => ∀ v I' H' O', Sat A I' H' σ c' (ts ++ [(d, v)]) O' lk → Q v H'
        | _ => False
      have left0 : Left xs [] (wipeC own c1) := by
        show (match cmpLoop own t test elt xs [] (wipeC own c1) with | .ok (.t d) c' => _ | _ => False)
        cases e2 : cmpLoop own t test elt xs [] (wipeC own c1) with
        | bad => rw [e2] at h; exact h
        | exc k n x c2 =>
          exfalso
          have key : ∀ (ys acc : List D) (c : Ctx) (k : Nat) (n : Str) (x : D) (c' : Ctx), cmpLoop own t test elt ys acc c ≠ .exc k n x c' := by
            intro ys
            induction ys with
            | nil =>
              intro acc c k n x c' z
              rw [cmpLoop] at z
              cases z
            | cons y ys ih =>
              intro acc c k n x c' z
              rw [cmpLoop] at z
              split at z
              · cases z
              · split at z
                · split at z
                  · exact ih _ _ _ _ _ _ z
                  · cases z
                · split at z
                  · split at z
                    · exact ih _ _ _ _ _ _ z
                    · cases z
                  · cases z
                · cases z
          exact key _ _ _ _ _ _ _ e2
        | ok ev c2 =>
          rw [e2] at h
          cases ev with
          | t d => exact h
          | pl r p =>
            exfalso
            have key : ∀ (ys acc : List D) (c : Ctx) (r : Nat) (p : List Nat) (c' : Ctx), cmpLoop own t test elt ys acc c ≠ .ok (.pl r p) c' := by
              intro ys
              induction ys with
              | nil =>
                intro acc c r p c' z
                rw [cmpLoop] at z
                cases z
              | cons y ys ih =>
                intro acc c r p c' z
                rw [cmpLoop] at z
                split at z
                · cases z
                · split at z
                  · split at z
                    · exact ih _ _ _ _ _ z
                    · cases z
                  · split at z
                    · split at z
                      · exact ih _ _ _ _ _ z
                      · cases z
                    · cases z
                  · cases z
            exact key _ _ _ _ _ _ e2
      have S1n := S1
      refine ⟨fun i m H2 => m = xs.length - i ∧ i ≤ xs.length ∧ ∃ I2 c2 O2 acc, Sat (A.at I1) I2 H2 (L2.wipe σ own) (wipeC own c2) (ts ++ [(.nd .lst .own acc, .ref L)]) O2 lk ∧ Left (xs.drop i) acc (wipeC own c2),
        ⟨xs.length, rfl, Nat.zero_le _, ?_⟩, ?_⟩
      · obtain ⟨n1, n2, n3⟩ := S1.new nL
        have S2 := (S1.inn.enter own hf).alloc (o := .lst []) nL
        obtain ⟨O3, S3⟩ := Sat.join (xs := []) (d := .nd .lst .own []) (v := .ref L) (fp := [L]) (by rw [List.append_nil]; exact S2) (by
          rw [R]
          refine ⟨L, [], [], rfl, rfl, upd_same, ?_⟩
          rw [RL]
          exact ⟨rfl, rfl⟩) (by simp) fun a ha => by
            have e : a = L := by simpa using ha
            subst e
            exact .inr ⟨n1, n2, n3, _, upd_same⟩
        exact ⟨I1, c1, O3, [], S3, left0⟩
      · rintro i m H2 ⟨rfl, hi, I2, c2, O2, acc, S2, lf⟩
        by_cases hlt : i < xs.length
        · right
          have hx : xs[i]? = some xs[i] := List.getElem?_eq_getElem hlt
          have hd : xs.drop i = xs[i] :: xs.drop (i + 1) := List.drop_eq_getElem_cons hlt
          rw [hd] at lf
          have lf : (match cmpLoop own t test elt (xs[i] :: xs.drop (i + 1)) acc (wipeC own c2) with | .ok (.t d) c' => ∀ v I' H' O', Sat A I' H' σ c' (ts ++ [(d, v)]) O' lk → Q v H' | _ => False) := lf
          rw [cmpLoop] at lf
          obtain ⟨go, yld⟩ := wk.go i xs[i] I2 H2 hx S2.i0 S2.ih S2.bh
          refine ⟨go, fun H3 => ∃ I3 c3 O3 acc3, Sat (A.at I1) I3 H3 (L2.wipe σ own) (wipeC own c3) (ts ++ [(.nd .lst .own acc3, .ref L)]) O3 lk ∧ Left (xs.drop (i + 1)) acc3 (wipeC own c3), fun H3 hn => ⟨xs.length - (i + 1), by omega, rfl, hlt, hn⟩, fun v H3 hy => ?_⟩
          obtain ⟨I3, rs⟩ := yld v H3 hy
          obtain ⟨O3, S3⟩ := (rs.at (J := I1)).sat (ts := ts ++ [(.nd .lst .own acc, .ref L)]) (xs := []) (by rw [List.append_nil]; exact S2)
          have rx : R A.g I3 A.B H3 xs[i] v [] := S3.last.nil (wk.no i _ hx)
          cases eb : bindT t xs[i] (wipeC own c2) with
          | none => rw [eb] at lf; exact lf.elim
          | some c4 =>
            rw [eb] at lf
            dsimp only at lf
            refine ⟨I1, tG_of S3.pop rx eb fun σ4 O4 S4 df => ?_⟩
            have ws : L2.wipe σ4 own = L2.wipe σ own := by
              rw [ht] at df
              rw [wipe_same df, wipe_wipe]
            refine ⟨ws, I1, I3, c4, _, O4, lk, S4, ?_⟩
            cases et : test c4 with
            | bad => rw [et] at lf; exact lf.elim
            | exc k n x c5 => rw [et] at lf; exact lf.elim
            | ok b c5 =>
              rw [et] at lf
              intro I5 H5 O5 S5
              cases b with
              | false =>
                dsimp only at lf
                refine iteF ?_
                cases hf5 : freeC own c5 with
                | false => rw [hf5] at lf; exact lf.elim
                | true =>
                  rw [hf5, if_pos rfl] at lf
                  have S6 := S5.enter own hf5
                  rw [ws] at S6
                  exact ⟨I5, c5, O5, acc, S6, lf⟩
              | true =>
                dsimp only at lf
                refine iteT ⟨I1, I5, c5, _, O5, lk, S5, ?_⟩
                cases ee : elt c5 with
                | bad => rw [ee] at lf; exact lf.elim
                | exc k n x c6 => rw [ee] at lf; exact lf.elim
                | ok ev c6 =>
                  rw [ee] at lf
                  cases ev with
                  | pl r p => exact lf.elim
                  | t d =>
                    dsimp only at lf
                    intro w I6 H6 O6 S6
                    cases hf6 : (freeC own c6 && decide (acc.length < 16777216)) with
                    | false => rw [hf6] at lf; exact lf.elim
                    | true =>
                      rw [hf6, if_pos rfl] at lf
                      rw [Bool.and_eq_true, decide_eq_true_eq] at hf6
                      obtain ⟨vs, hv, hl, O7, S7⟩ := S6.grow
                      refine ⟨vs, hv, by rw [hl, sizeLine_eq]; exact hf6.2, ?_⟩
                      have S8 := S7.enter own hf6.1
                      rw [ws] at S8
                      exact ⟨I6, c6, O7, acc ++ [d], S8, lf⟩
        · left
          have e3 : i = xs.length := by omega
          subst e3
          refine ⟨wk.stop I2 H2 S2.i0 S2.ih S2.bh, ?_⟩
          rw [List.drop_length] at lf
          have lf : (match cmpLoop own t test elt [] acc (wipeC own c2) with | .ok (.t d) c' => ∀ v I' H' O', Sat A I' H' σ c' (ts ++ [(d, v)]) O' lk → Q v H' | _ => False) := lf
          rw [cmpLoop] at lf
          exact lf _ I2 H2 O2 (S1.out (S2.back own (wipe_wipe σ own)))
/-- [elt for target in iter if test] -/
theorem PE_cmp_ {elt tg iter : Expr} {ifs : List Expr} {scope : Scope} {own : List (Str × Nat)} {pos : Pos} {it : Ctx → IR} {t : Tg} {test : Ctx → TR} {me : Ctx → ER} (hc : X.calm = true) (hN : X.N.Nodup) (ht : slotsT t = own.map (·.2)) (hi : PI X tg iter (tI A W it)) (ok : BlkOk X.N X.env.scope scope own)
    (hg : ∀ (s : Shared) (H : Hp) (C : Addr) (cl : List (Str × Addr)) (fp : List Addr) (J : Hp), PG (X.blk s H scope (compEnvC scope cl C X.env) fp) tg (tG (A.at J) t))
    (htt : ∀ (s : Shared) (H : Hp) (C : Addr) (cl : List (Str × Addr)) (fp : List Addr), PTs (X.blk s H scope (compEnvC scope cl C X.env) fp) ifs (tTx A W0 test))
    (he : ∀ (s : Shared) (H : Hp) (C : Addr) (cl : List (Str × Addr)) (fp : List Addr) (J : Hp), PE (X.blk s H scope (compEnvC scope cl C X.env) fp) elt (tE (A.at J) W0 me)) (hs : ∀ x, foldedSetIterable iter X.env x = pure x := by intro _; rfl) :
    PE X (.ListComp elt [⟨tg, iter, ifs, 0⟩] scope pos) (tE A W (eCmp (own.map (·.2)) it t test me)) :=
  PE.imp (pe_lc hc hN hi ok (fun s H C cl fp => PG_ex (hg s H C cl fp)) htt (fun s H C cl fp => PE_ex (he s H C cl fp)) hs) fun σ H Q h => tLc_of ht h
end
end Lc
end
section
set_option Elab.async false
set_option linter.all false
set_option maxRecDepth 100000
set_option maxHeartbeats 1000000
namespace Lc
open PySem L2

/-! ### statements -/
def tS (A : Act) (W : Wx) (m : Ctx → SR) : TS := fun D σ H => ∃ I c O lk, Sat A I H σ c [] O lk ∧ match m c with
  | .nx c' => ∀ σ' I' H' O', Sat A I' H' σ' c' [] O' lk → D.nx σ' H'
  | .bk c' => ∀ σ' I' H' O', Sat A I' H' σ' c' [] O' lk → D.bk σ' H'
  | .ct c' => ∀ σ' I' H' O', Sat A I' H' σ' c' [] O' lk → D.ct σ' H'
  | .rt d c' => ∀ v σ' I' H' O', Sat A I' H' σ' c' [(d, v)] O' lk → D.rt v H'
  | .exc k n x c' => ∀ σ', XP A W σ' [] lk k n x c'
  | .bad => False
def sNx : Ctx → SR := fun c => .nx c
def sSeq (a b : Ctx → SR) : Ctx → SR := fun c => match a c with
  | .nx c' => b c'
  | r => r
def sIf (t : Ctx → TR) (a b : Ctx → SR) : Ctx → SR := fun c => match t c with
  | .ok true c' => a c'
  | .ok false c' => b c'
  | .exc k n x c' => .exc k n x c'
  | .bad => .bad
def sExpr (m : Ctx → ER) : Ctx → SR := fun c => match m c with
  | .ok _ c' => .nx c'
  | .exc k n x c' => .exc k n x c'
  | .bad => .bad
def sRet (m : Ctx → ER) : Ctx → SR := fun c => match m c with
  | .ok (.t d) c' => .rt d c'
  | .exc k n x c' => .exc k n x c'
  | _ => .bad
def sRetN : Ctx → SR := fun c => .rt .non c
def sBk : Ctx → SR := fun c => .bk c
def sCt : Ctx → SR := fun c => .ct c
/-- name = e: a temporary is stored; a place makes an alias -/
def sSet (i : Nat) (m : Ctx → ER) : Ctx → SR := fun c => match m c with
  | .ok (.t d) c' => if c'.kr.contains i || !decide (i < c'.s.length) then .bad else .nx { c' with s := (dropAl i c'.s).set i (.v d) }
  | .ok (.pl r p) c' => if c'.kr.contains i || !decide (i < c'.s.length) || r == i then .bad else .nx { c' with s := (dropAl i c'.s).set i (.al r p) }
  | .exc k n x c' => .exc k n x c'
  | .bad => .bad

section
variable {A : Act} {W : Wx} {X : Cx} {I H I' H' : Hp} {σ σ' : St} {c c' : Ctx} {ts ts' : List (D × V)} {O O' : Addr → Option Ow} {lk lk' : List (Nat × List Nat × V)} {pos : Pos}
theorem tS.mono {m : Ctx → SR} {D D' : Ends} (h : tS A W m D σ H) (hn : ∀ σ H, D.nx σ H → D'.nx σ H) (hb : ∀ σ H, D.bk σ H → D'.bk σ H) (hc : ∀ σ H, D.ct σ H → D'.ct σ H) (hr : ∀ v H, D.rt v H → D'.rt v H) : tS A W m D' σ H := by
  obtain ⟨I, c, O, lk, S, h⟩ := h
  refine ⟨I, c, O, lk, S, ?_⟩
  cases e : m c with
  | bad => rw [e] at h; exact h
  | exc k n x c1 => rw [e] at h; exact h
  | nx c1 => rw [e] at h; exact fun σ' I' H' O' S' => hn _ _ (h σ' I' H' O' S')
  | bk c1 => rw [e] at h; exact fun σ' I' H' O' S' => hb _ _ (h σ' I' H' O' S')
  | ct c1 => rw [e] at h; exact fun σ' I' H' O' S' => hc _ _ (h σ' I' H' O' S')
  | rt d c1 => rw [e] at h; exact fun v σ' I' H' O' S' => hr _ _ (h v σ' I' H' O' S')
theorem PSs_nil : PSs X [] (tS A W sNx) := PSs.imp pss_nil fun D σ H ⟨I, c, O, lk, S, h⟩ => h σ I H O S
theorem PSs_cons {s : Stmt} {ss : List Stmt} {a b : Ctx → SR} (h1 : PS X s (tS A W a)) (h2 : PSs X ss (tS A W b)) : PSs X (s :: ss) (tS A W (sSeq a b)) := PSs.imp (pss_cons h1 h2) fun D σ H ⟨I, c, O, lk, S, h⟩ => by
  refine ⟨I, c, O, lk, S, ?_⟩
  rw [sSeq] at h
  cases e : a c with
  | nx c1 =>
    rw [e] at h
    exact fun σ' I' H' O' S' => ⟨I', c1, O', lk, S', h⟩
  | bad => rw [e] at h; exact h
  | exc k n x c1 => rw [e] at h; exact h
  | bk c1 => rw [e] at h; exact h
  | ct c1 => rw [e] at h; exact h
  | rt d c1 => rw [e] at h; exact h
theorem PSs_one {s : Stmt} {a : Ctx → SR} (h1 : PS X s (tS A W a)) : PSs X [s] (tS A W a) := pss_one h1
theorem PS_if {t : Expr} {sa sb : List Stmt} {mt : Ctx → TR} {a b : Ctx → SR} (ht : PT X t (tT A W mt)) (ha : PSs X sa (tS A W a)) (hb : PSs X sb (tS A W b)) : PS X (.If t sa sb pos) (tS A W (sIf mt a b)) := PS.imp (ps_if ht ha hb) fun D σ H ⟨I, c, O, lk, S, h⟩ => by
  refine ⟨I, c, [], O, lk, S, ?_⟩
  rw [sIf] at h
  cases e : mt c with
  | bad => rw [e] at h; exact h
  | exc k n x c1 => rw [e] at h; exact h σ
  | ok k c1 =>
    rw [e] at h
    intro I1 H1 O1 S1
    cases k with
    | true => exact iteT ⟨I1, c1, O1, lk, S1, h⟩
    | false => exact iteF ⟨I1, c1, O1, lk, S1, h⟩
theorem PS_expr {e : Expr} {m : Ctx → ER} (h : PE X e (tE A W m)) (hs : swapsWith e none pos.line X.env = pure false := by rfl) : PS X (.Expr e pos) (tS A W (sExpr m)) := PS.imp (ps_expr h hs) fun D σ H ⟨I, c, O, lk, S, h⟩ => by
  refine ⟨I, c, [], O, lk, S, ?_⟩
  rw [sExpr] at h
  cases e : m c with
  | bad => rw [e] at h; exact h
  | exc k n x c1 => rw [e] at h; exact h σ
  | ok ev c1 =>
    rw [e] at h
    cases ev with
    | t d => exact fun v I1 H1 O1 S1 => h σ I1 H1 O1 S1.pop
    | pl r p => exact fun v I1 H1 O1 S1 _ => h σ I1 H1 O1 S1
theorem PS_doc {x j p q} : PS X (.Expr (.Constant (.str x) j p) q) (tS A W sNx) := PS.imp ps_doc fun D σ H ⟨I, c, O, lk, S, h⟩ => h σ I H O S
theorem PS_pass : PS X (.Pass pos) (tS A W sNx) := PS.imp ps_pass fun D σ H ⟨I, c, O, lk, S, h⟩ => h σ I H O S
theorem PS_bk : PS X (.Break pos) (tS A W sBk) := PS.imp ps_break fun D σ H ⟨I, c, O, lk, S, h⟩ => h σ I H O S
theorem PS_ct : PS X (.Continue pos) (tS A W sCt) := PS.imp ps_continue fun D σ H ⟨I, c, O, lk, S, h⟩ => h σ I H O S
theorem PS_ret {e : Expr} {m : Ctx → ER} (h : PE X e (tE A W m)) : PS X (.Return (some e) pos) (tS A W (sRet m)) := PS.imp (ps_ret h) fun D σ H ⟨I, c, O, lk, S, h⟩ => by
  refine ⟨I, c, [], O, lk, S, ?_⟩
  rw [sRet] at h
  cases e : m c with
  | bad => rw [e] at h; exact h.elim
  | exc k n x c1 => rw [e] at h; exact h σ
  | ok ev c1 =>
    rw [e] at h
    cases ev with
    | t d => exact fun v I1 H1 O1 S1 => h v σ I1 H1 O1 S1
    | pl r p => exact h.elim
theorem PS_retN : PS X (.Return none pos) (tS A W sRetN) := PS.imp ps_retN fun D σ H ⟨I, c, O, lk, S, h⟩ => h .non σ I H O (S.push (by rw [R]; exact ⟨rfl, rfl⟩))

/-- an alias is laid at slot i -/
theorem Sat.alias {i r : Nat} {p : List Nat} {v : V} (S : Sat A I H σ c ts O lk) (pv : PV A I H σ c O r p v) (nk : i ∉ c.kr) (hi : i < c.s.length) (ne : r ≠ i) : Sat A I H (σ.set i (some v)) { c with s := (dropAl i c.s).set i (.al r p) } ts O lk := by
  have S1 := S.forget (i := i) nk
  have S2 : Sat A I H (σ.set i (some v)) { c with s := (dropAl i c.s).set i .no } ts O lk := S1.weakσ (List.length_set ..) (fun j d e => by
      rcases set_cases (show ((dropAl i c.s).set i .no)[j]? = _ from e) with ⟨_, z, _⟩ | ⟨hj, _⟩
      · cases z
      · exact List.getElem?_set_ne (Ne.symm hj)) fun j r p e => by
      rcases set_cases (show ((dropAl i c.s).set i .no)[j]? = _ from e) with ⟨_, z, _⟩ | ⟨hj, _⟩
      · cases z
      · exact List.getElem?_set_ne (Ne.symm hj)
  have pv2 : ∀ {r : Nat} {p : List Nat} {v' : V} {sl : Sl}, r ≠ i → PV A I H (σ.set i (some v)) { c with s := (dropAl i c.s).set i .no } O r p v' → PV A I H (σ.set i (some v)) { c with s := (dropAl i c.s).set i sl } O r p v' := fun {r p v' sl} hr pv => pv.keep (leH.refl _) (fun _ _ => rfl) (fun _ e => e) (by
      show ((dropAl i c.s).set i sl)[r]? = ((dropAl i c.s).set i .no)[r]?
      rw [List.getElem?_set_ne (Ne.symm hr), List.getElem?_set_ne (Ne.symm hr)]) rfl
  have neR : ∀ {r : Nat} {p : List Nat} {v' : V}, PV A I H (σ.set i (some v)) { c with s := (dropAl i c.s).set i .no } O r p v' → r ≠ i := fun {r p v'} ⟨d, _, _, e1, _⟩ z => by
    subst z
    rcases set_cases (show ((dropAl r c.s).set r .no)[r]? = _ from e1) with ⟨_, z, _⟩ | ⟨z, _⟩
    · cases z
    · exact z rfl
  refine ⟨S2.ih, S2.bh, S2.i0, S2.ib, ?_, fun j d e => ?_, fun j r' p' e => ?_, S2.tmps, fun r' p' v' e => ?_, S2.lke, S2.fr⟩
  · rw [S2.len]
    show ((dropAl i c.s).set i .no).length = ((dropAl i c.s).set i (.al r p)).length
    rw [List.length_set, List.length_set]
  · rcases set_cases (show ((dropAl i c.s).set i (.al r p))[j]? = _ from e) with ⟨_, z, _⟩ | ⟨hj, e⟩
    · cases z
    · exact S2.vals j d (by
        show ((dropAl i c.s).set i .no)[j]? = _
        rw [List.getElem?_set_ne (Ne.symm hj)]
        exact e)
  · rcases set_cases (show ((dropAl i c.s).set i (.al r p))[j]? = _ from e) with ⟨rfl, z, _⟩ | ⟨hj, e⟩
    · cases z
      refine ⟨v, List.getElem?_set_self (by rw [S.len]; exact hi), ?_⟩
      obtain ⟨d, v0, d', e1, e2, e3, e4, va⟩ := pv
      refine ⟨d, v0, d', ?_, (List.getElem?_set_ne (Ne.symm ne)).trans e2, e3, e4, va⟩
      show ((dropAl j c.s).set j (.al r p))[r]? = _
      rw [List.getElem?_set_ne (Ne.symm ne)]
      exact dropAl_v.mpr e1
    · obtain ⟨w, e1, h⟩ := S2.als j r' p' (by
        show ((dropAl i c.s).set i .no)[j]? = _
        rw [List.getElem?_set_ne (Ne.symm hj)]
        exact e)
      exact ⟨w, e1, pv2 (neR h) h⟩
  · have h := S2.lks r' p' v' e
    exact pv2 (neR h) h
theorem tAsg_of {i : Nat} {m : Ctx → ER} {D : Ends} (h : tS A W (sSet i m) D σ H) : tAsg (tE A W m) (gName i) D σ H := by
  obtain ⟨I, c, O, lk, S, h⟩ := h
  refine ⟨I, c, [], O, lk, S, ?_⟩
  rw [sSet] at h
  cases e : m c with
  | bad => rw [e] at h; exact h.elim
  | exc k n x c1 => rw [e] at h; exact h σ
  | ok ev c1 =>
    rw [e] at h
    cases ev with
    | t d =>
      dsimp only at h
      intro v I1 H1 O1 S1
      by_cases hn : (c1.kr.contains i || !decide (i < c1.s.length)) = true
      · rw [if_pos hn] at h
        exact h.elim
      · rw [if_neg hn] at h
        simp only [Bool.or_eq_true, not_or, Bool.not_eq_true, Bool.not_eq_false', decide_eq_true_eq, List.contains_eq_mem, decide_eq_false_iff_not] at hn
        obtain ⟨O2, S2⟩ := S1.store (i := i) hn.1 hn.2
        exact h _ I1 H1 O2 S2
    | pl r p =>
      dsimp only at h
      intro v I1 H1 O1 S1 pv
      by_cases hn : (c1.kr.contains i || !decide (i < c1.s.length) || r == i) = true
      · rw [if_pos hn] at h
        exact h.elim
      · rw [if_neg hn] at h
        simp only [Bool.or_eq_true, not_or, Bool.not_eq_true, Bool.not_eq_false', decide_eq_true_eq, List.contains_eq_mem, decide_eq_false_iff_not, beq_eq_false_iff_ne] at hn
        exact h _ I1 H1 O1 (S1.alias pv hn.1.1 hn.1.2 hn.2)
theorem PS_set {i : Nat} {x : Str} {e : Expr} {m : Ctx → ER} {pos' : Pos} (hN : X.N.Nodup) (hi : X.N[i]? = some x) (hx : Loc X.env.scope x) (he : PE X e (tE A W m)) (hs : swapsWith e (some (.Name x pos')) pos.line X.env = pure false := by rfl) (hf : X.fn x = true ∨ X.env.scope.names.lookup x = some .local := by first | exact .inl rfl | exact .inr rfl | assumption) :
    PS X (.Assign [.Name x pos'] e pos) (tS A W (sSet i m)) := PS.imp (ps_set hN hi hx he hs hf) fun D σ H h => tAsg_of h
/-- name = [..], the stores exchanged -/
theorem PS_setCmp {i : Nat} {y : Str} {py : Pos} {elt tg iter : Expr} {ifs : List Expr} {scope : Scope} {own : List (Str × Nat)} {p2 : Pos} {it : Ctx → IR} {t : Tg} {test : Ctx → TR} {me : Ctx → ER} (hc : X.calm = true) (hN : X.N.Nodup) (hy : X.N[i]? = some y) (hyl : X.env.scope.names.lookup y = some .local)
    (hsw : swapsWith (.ListComp elt [⟨tg, iter, ifs, 0⟩] scope p2) (some (.Name y py)) pos.line X.env = pure true) (ht : slotsT t = own.map (·.2)) (hi : PI X tg iter (tI A W it)) (ok : BlkOk X.N X.env.scope scope own)
    (hg : ∀ (s : Shared) (H : Hp) (C : Addr) (cl : List (Str × Addr)) (fp : List Addr) (J : Hp), PG (X.blk s H scope (compEnvC scope cl C X.env) fp) tg (tG (A.at J) t))
    (htt : ∀ (s : Shared) (H : Hp) (C : Addr) (cl : List (Str × Addr)) (fp : List Addr), PTs (X.blk s H scope (compEnvC scope cl C X.env) fp) ifs (tTx A W0 test))
    (he : ∀ (s : Shared) (H : Hp) (C : Addr) (cl : List (Str × Addr)) (fp : List Addr) (J : Hp), PE (X.blk s H scope (compEnvC scope cl C X.env) fp) elt (tE (A.at J) W0 me)) (hs : ∀ x, foldedSetIterable iter X.env x = pure x := by intro _; rfl) :
    PS X (.Assign [.Name y py] (.ListComp elt [⟨tg, iter, ifs, 0⟩] scope p2) pos) (tS A W (sSet i (eCmp (own.map (·.2)) it t test me))) :=
  PS.imp (ps_setLc hc hN hy hyl hsw hi ok (fun s H C cl fp => PG_ex (hg s H C cl fp)) htt (fun s H C cl fp => PE_ex (he s H C cl fp)) hs) fun D σ H h => by
    have h2 := tAsg_of h
    exact tLc_of ht h2

/-! ### for, while -/
def forLoop (t : Tg) (body : Ctx → SR) : List D → Ctx → SR
  | [], c => .nx c
  | x :: xs, c => match bindT t x c with
    | none => .bad
    | some c1 => match body c1 with
      | .nx c2 => forLoop t body xs c2
      | .ct c2 => forLoop t body xs c2
      | .bk c2 => .nx c2
      | r => r
def sFor (it : Ctx → IR) (t : Tg) (body : Ctx → SR) : Ctx → SR := fun c => match it c with
  | .ok xs c1 => forLoop t body xs c1
  | .exc k n x c1 => .exc k n x c1
  | .bad => .bad
def tSx (A : Act) (W : Wx) (m : Ctx → SR) : TS := fun D σ H => ∃ J, tS (A.at J) W m D σ H
theorem PSs_ex {ss : List Stmt} {m : Ctx → SR} (h : ∀ J, PSs X ss (tS (A.at J) W m)) : PSs X ss (tSx A W m) := ⟨fun pins s σ H D I ⟨J, x⟩ => (h J).run pins s σ H D I x⟩
theorem XP.at {J : Hp} {k : Nat} {n : Str} {x : D} (S0 : Sat A J H σ c ts O lk) (h : XP A W σ' ts' lk' k n x c') : XP (A.at J) W σ' ts' lk' k n x c' := fun d v I1 H1 O1 S i r => h d v I1 H1 O1 (S0.out S) i r
/-- what is wanted behind an outcome -/
def SPost (A : Act) (W : Wx) (lk : List (Nat × List Nat × V)) (D : Ends) : SR → Prop
  | .nx c' => ∀ σ' I' H' O', Sat A I' H' σ' c' [] O' lk → D.nx σ' H'
  | .bk c' => ∀ σ' I' H' O', Sat A I' H' σ' c' [] O' lk → D.bk σ' H'
  | .ct c' => ∀ σ' I' H' O', Sat A I' H' σ' c' [] O' lk → D.ct σ' H'
  | .rt d c' => ∀ v σ' I' H' O', Sat A I' H' σ' c' [(d, v)] O' lk → D.rt v H'
  | .exc k n x c' => ∀ σ', XP A W σ' [] lk k n x c'
  | .bad => False
theorem tS_iff {m : Ctx → SR} {D : Ends} : tS A W m D σ H ↔ ∃ I c O lk, Sat A I H σ c [] O lk ∧ SPost A W lk D (m c) := by
  constructor
  · rintro ⟨I, c, O, lk, S, h⟩
    refine ⟨I, c, O, lk, S, ?_⟩
    cases e : m c <;> rw [e] at h <;> exact h
  · rintro ⟨I, c, O, lk, S, h⟩
    refine ⟨I, c, O, lk, S, ?_⟩
    cases e : m c <;> rw [e] at h <;> exact h
theorem SPost.at {J : Hp} {D : Ends} {r : SR} (S0 : Sat A J H σ c ts O lk) (h : SPost A W lk D r) : SPost (A.at J) W lk D r := by
  cases r with
  | nx c1 => exact fun σ' I' H' O' S' => h σ' I' H' O' (S0.out S')
  | bk c1 => exact fun σ' I' H' O' S' => h σ' I' H' O' (S0.out S')
  | ct c1 => exact fun σ' I' H' O' S' => h σ' I' H' O' (S0.out S')
  | rt d c1 => exact fun v σ' I' H' O' S' => h v σ' I' H' O' (S0.out S')
  | exc k n x c1 => exact fun σ' => XP.at S0 (h σ')
  | bad => exact h
theorem tFor_of {it : Ctx → IR} {t : Tg} {body : Ctx → SR} {D : Ends} (h : tS A W (sFor it t body) D σ H) : tFor (tI A W it) (tGx A t) (tSx A W body) D σ H := by
  obtain ⟨I, c, O, lk, S, h⟩ := tS_iff.mp h
  refine ⟨I, c, [], O, lk, S, ?_⟩
  rw [sFor] at h
  cases e : it c with
  | bad => rw [e] at h; exact h
  | exc k n x c1 => rw [e] at h; exact h σ
  | ok xs c1 =>
    rw [e] at h
    dsimp only at h
    intro J I1 H1 O1 S1 wk
    refine ⟨fun i m σ2 H2 => m = xs.length - i ∧ i ≤ xs.length ∧ ∃ I2 c2 O2, Sat (A.at I1) I2 H2 σ2 c2 [] O2 lk ∧ SPost A W lk D (forLoop t body (xs.drop i) c2), ⟨xs.length, rfl, Nat.zero_le _, I1, c1, O1, S1.inn, h⟩, ?_⟩
    rintro i m σ2 H2 ⟨rfl, hi, I2, c2, O2, S2, lf⟩
    by_cases hlt : i < xs.length
    · right
      have hx : xs[i]? = some xs[i] := List.getElem?_eq_getElem hlt
      rw [List.drop_eq_getElem_cons hlt, forLoop] at lf
      obtain ⟨go, yld⟩ := wk.go i xs[i] I2 H2 hx S2.i0 S2.ih S2.bh
      refine ⟨go, fun σ3 H3 => ∃ I3 c3 O3, Sat (A.at I1) I3 H3 σ3 c3 [] O3 lk ∧ SPost A W lk D (forLoop t body (xs.drop (i + 1)) c3), fun σ3 H3 hn => ⟨xs.length - (i + 1), by omega, rfl, hlt, hn⟩, fun v H3 hy => ?_⟩
      obtain ⟨I3, rs⟩ := yld v H3 hy
      obtain ⟨O3, S3⟩ := (rs.at (J := I1)).sat (ts := []) (xs := []) S2
      have rx : R A.g I3 A.B H3 xs[i] v [] := S3.last.nil (wk.no i _ hx)
      cases eb : bindT t xs[i] c2 with
      | none => rw [eb] at lf; exact lf.elim
      | some c4 =>
        rw [eb] at lf
        dsimp only at lf
        refine ⟨I1, tG_of (ts := []) (Sat.pop (ts := []) (xs := [(xs[i], v)]) S3) rx eb fun σ4 O4 S4 df => ⟨I1, tS_iff.mpr ⟨I3, c4, O4, lk, S4, ?_⟩⟩⟩
        cases e2 : body c4 with
        | nx c5 => rw [e2] at lf; exact fun σ' I' H' O' S' => ⟨I', c5, O', S', lf⟩
        | ct c5 => rw [e2] at lf; exact fun σ' I' H' O' S' => ⟨I', c5, O', S', lf⟩
        | bk c5 => rw [e2] at lf; exact fun σ' I' H' O' S' => lf σ' I' H' O' (S1.out S')
        | rt d c5 => rw [e2] at lf; exact SPost.at (r := .rt d c5) S1 lf
        | exc k n x c5 => rw [e2] at lf; exact SPost.at (r := .exc k n x c5) S1 lf
        | bad => rw [e2] at lf; exact lf
    · left
      have e3 : i = xs.length := by omega
      subst e3
      rw [List.drop_length, forLoop] at lf
      exact ⟨wk.stop I2 H2 S2.i0 S2.ih S2.bh, lf σ2 I2 H2 O2 (S1.out S2)⟩
theorem PS_for {tg iter : Expr} {sb : List Stmt} {it : Ctx → IR} {t : Tg} {body : Ctx → SR} (hp : PassesOwn (model X.prog X.w) X.A X.env X.xe) (hc : X.calm = true) (hi : PI X tg iter (tI A W it)) (hg : ∀ J, PG X tg (tG (A.at J) t)) (hb : ∀ J, PSs X sb (tS (A.at J) W body))
    (hs : ∀ x, foldedSetIterable iter X.env x = pure x := by intro _; rfl) : PS X (.For tg iter sb [] pos) (tS A W (sFor it t body)) := PS.imp (ps_for hp hc hi (PG_ex hg) (PSs_ex hb) hs) fun D σ H h => tFor_of h

/-- while, at most n turns -/
def whileN (t : Ctx → TR) (body : Ctx → SR) : Nat → Ctx → SR
  | 0, _ => .bad
  | n + 1, c => match t c with
    | .ok true c1 => match body c1 with
      | .nx c2 => whileN t body n c2
      | .ct c2 => whileN t body n c2
      | .bk c2 => .nx c2
      | r => r
    | .ok false c1 => .nx c1
    | .exc k n x c1 => .exc k n x c1
    | .bad => .bad
def fuel : Nat := 10 ^ 18
def sWhile (t : Ctx → TR) (body : Ctx → SR) : Ctx → SR := whileN t body fuel
theorem tWhile_of {t : Ctx → TR} {body : Ctx → SR} {D : Ends} (h : tS A W (sWhile t body) D σ H) : tWhile (tT A W t) (tS A W body) D σ H := by
  obtain ⟨I, c, O, lk, S, h⟩ := tS_iff.mp h
  refine ⟨fun m σ2 H2 => ∃ I2 c2 O2, Sat A I2 H2 σ2 c2 [] O2 lk ∧ SPost A W lk D (whileN t body m c2), ⟨fuel, I, c, O, S, h⟩, ?_⟩
  rintro m σ2 H2 ⟨I2, c2, O2, S2, lf⟩
  cases m with
  | zero => rw [whileN] at lf; exact lf.elim
  | succ m =>
    rw [whileN] at lf
    refine ⟨I2, c2, [], O2, lk, S2, ?_⟩
    cases e : t c2 with
    | bad => rw [e] at lf; exact lf
    | exc k n x c1 => rw [e] at lf; exact lf σ2
    | ok b c3 =>
      rw [e] at lf
      intro I3 H3 O3 S3
      cases b with
      | false => exact iteF (lf σ2 I3 H3 O3 S3)
      | true =>
        dsimp only at lf
        refine iteT ⟨fun σ' H' => ∃ I2 c2 O2, Sat A I2 H' σ' c2 [] O2 lk ∧ SPost A W lk D (whileN t body m c2), fun σ' H' q => ⟨m, Nat.lt_succ_self _, q⟩, tS_iff.mpr ⟨I3, c3, O3, lk, S3, ?_⟩⟩
        cases e2 : body c3 with
        | nx c5 => rw [e2] at lf; exact fun σ' I' H' O' S' => ⟨I', c5, O', S', lf⟩
        | ct c5 => rw [e2] at lf; exact fun σ' I' H' O' S' => ⟨I', c5, O', S', lf⟩
        | bk c5 => rw [e2] at lf; exact lf
        | rt d c5 => rw [e2] at lf; exact lf
        | exc k n x c5 => rw [e2] at lf; exact lf
        | bad => rw [e2] at lf; exact lf
theorem PS_while {e : Expr} {sb : List Stmt} {t : Ctx → TR} {body : Ctx → SR} (hp : PassesOwn (model X.prog X.w) X.A X.env X.xe) (ht : PT X e (tT A W t)) (hb : PSs X sb (tS A W body)) : PS X (.While e sb [] pos) (tS A W (sWhile t body)) := PS.imp (ps_while hp ht hb) fun D σ H h => tWhile_of h
end
end Lc
end
section
set_option Elab.async false
set_option linter.all false
set_option maxRecDepth 100000
set_option maxHeartbeats 1000000
namespace Lc
open PySem L2

/-! ### a place is changed -/
/-- what is left of a way behind another one -/
def strip : List Nat → List Nat → Option (List Nat)
  | [], q => some q
  | n :: p, m :: q => if n = m then strip p q else none
  | _ :: _, [] => none

theorem tup_own {g : Gs} {H : Hp} {q : Addr} {vs ws : List V} {k : Kd} (hi : H q = some (.tup vs)) (ho : OwnC g H k q ws) : False := by
  cases k with
  | lst => cases hi.symm.trans ho
  | scr => exact ho.elim
  | dct ks => cases hi.symm.trans ho.2
  | dcT ks => cases hi.symm.trans ho.2
  | obj cc ns =>
    obtain ⟨_, dx, ho⟩ := ho
    cases hi.symm.trans ho
theorem RL.get2 {g : Gs} {I B H : Hp} : ∀ {xs : List D} {vs : List V} {fp : List Addr} {n : Nat} {x : D}, RL g I B H xs vs fp → xs[n]? = some x → ∃ v fm, vs[n]? = some v ∧ R g I B H x v fm ∧ ∀ a ∈ fm, a ∈ fp
  | [], _, _, _, _, _, e => by simp at e
  | y :: ys, vs, fp, 0, x, h, e => by
    rw [RL] at h
    obtain ⟨v, vr, f1, f2, rfl, rfl, h1, h2⟩ := h
    have e : y = x := by simpa using e
    subst e
    exact ⟨v, f1, rfl, h1, fun a ha => by simp [ha]⟩
  | y :: ys, vs, fp, n + 1, x, h, e => by
    rw [RL] at h
    obtain ⟨v, vr, f1, f2, rfl, rfl, h1, h2⟩ := h
    have e : ys[n]? = some x := by simpa using e
    obtain ⟨w, fm, e1, r, s⟩ := RL.get2 h2 e
    exact ⟨w, fm, by simpa using e1, r, fun a ha => by simp [s a ha]⟩
/-- RL.at, and the other ones lie outside -/
theorem RL.at2 {g : Gs} {I B H : Hp} : ∀ {xs : List D} {vs : List V} {fp : List Addr} {n : Nat} {x : D}, RL g I B H xs vs fp → xs[n]? = some x →
    ∃ v fa fn fb, vs[n]? = some v ∧ fp = fa ++ fn ++ fb ∧ R g I B H x v fn ∧
      (∀ {I' H' : Hp} {x' : D} {v' : V} {fn' : List Addr}, leH I I' → R g I' B H' x' v' fn' → (∀ a ∈ fa ++ fb, H' a = H a) → RL g I' B H' (xs.set n x') (vs.set n v') (fa ++ fn' ++ fb)) ∧
      ∀ (m : Nat) (y : D), m ≠ n → xs[m]? = some y → ∃ w fm, vs[m]? = some w ∧ R g I B H y w fm ∧ ∀ a ∈ fm, a ∈ fa ++ fb
  | [], _, _, _, _, _, e => by simp at e
  | y :: ys, vs, fp, 0, x, h, e => by
    rw [RL] at h
    obtain ⟨v, vr, f1, f2, rfl, rfl, h1, h2⟩ := h
    have e : y = x := by simpa using e
    subst e
    refine ⟨v, [], f1, f2, rfl, by simp, h1, fun {I' H' x' v' fn'} i h' k => ?_, fun m z hm hz => ?_⟩
    · rw [List.set_cons_zero, List.set_cons_zero, RL]
      exact ⟨v', vr, fn', f2, rfl, by simp, h', RL.keep ys h2 i (leH.refl _) fun a ha => k a (by simpa using ha)⟩
    · cases m with
      | zero => exact absurd rfl hm
      | succ m =>
        obtain ⟨w, fm, e1, r, s⟩ := RL.get2 h2 (show ys[m]? = some z by simpa using hz)
        exact ⟨w, fm, by simpa using e1, r, fun a ha => by simp [s a ha]⟩
  | y :: ys, vs, fp, n + 1, x, h, e => by
    rw [RL] at h
    obtain ⟨v, vr, f1, f2, rfl, rfl, h1, h2⟩ := h
    have e : ys[n]? = some x := by simpa using e
    obtain ⟨w, fa, fn, fb, e1, rfl, r, up, oth⟩ := RL.at2 h2 e
    refine ⟨w, f1 ++ fa, fn, fb, by simpa using e1, by simp, r, fun {I' H' x' v' fn'} i h' k => ?_, fun m z hm hz => ?_⟩
    · rw [List.set_cons_succ, List.set_cons_succ, RL]
      refine ⟨v, vr.set n v', f1, fa ++ fn' ++ fb, rfl, by simp, R.keep y h1 i (leH.refl _) fun a ha => k a (by simp [ha]), up i h' fun a ha => k a ?_⟩
      rcases List.mem_append.mp ha with ha | ha <;> simp [ha]
    · cases m with
      | zero =>
        have hz : y = z := by simpa using hz
        subst hz
        exact ⟨v, f1, rfl, h1, fun a ha => by simp [ha]⟩
      | succ m =>
        obtain ⟨w2, fm, e2, r2, s⟩ := oth m z (fun z => hm (by rw [z])) (by simpa using hz)
        refine ⟨w2, fm, by simpa using e2, r2, fun a ha => ?_⟩
        rcases List.mem_append.mp (s a ha) with ha | ha <;> simp [ha]

theorem noOwn_setP : ∀ (p : List Nat) {d d0 e : D}, getP d p = some d0 → Lc.noOwn e = false → Lc.noOwn (setP d p e) = false
  | [], d, d0, e, _, n => by
    rw [setP]
    exact n
  | n :: p, .tup xs, d0, e, h, no => by
    rw [getP] at h
    cases hx : xs[n]? with
    | none =>
      rw [hx] at h
      cases h
    | some x =>
      rw [hx] at h
      rw [setP, hx]
      dsimp only
      rw [Lc.noOwn]
      have := noOwn_setP p (show getP x p = some d0 from h) no
      cases q : noOwnL (xs.set n (setP x p e)) with
      | false => rfl
      | true =>
        have hl := (List.getElem?_eq_some_iff.mp hx).1
        have z := noOwnL_get q (show (xs.set n (setP x p e))[n]? = some (setP x p e) from List.getElem?_set_self hl)
        rw [this] at z
        cases z
  | n :: p, .nd kd .own xs, d0, e, h, no => by
    rw [getP] at h
    cases hx : xs[n]? with
    | none =>
      rw [hx] at h
      cases h
    | some x =>
      rw [hx] at h
      rw [setP, hx]
      dsimp only
      rw [Lc.noOwn]
  | n :: p, .nd kd .frz xs, d', e, h, no => by rw [getP] at h <;> first | cases h | (intros; contradiction)
  | n :: p, .nd kd .bor xs, d', e, h, no => by rw [getP] at h <;> first | cases h | (intros; contradiction)
  | n :: p, .non, d', e, h, no => by rw [getP] at h <;> first | cases h | (intros; contradiction)
  | n :: p, .bl _, d', e, h, no => by rw [getP] at h <;> first | cases h | (intros; contradiction)
  | n :: p, .int _, d', e, h, no => by rw [getP] at h <;> first | cases h | (intros; contradiction)
  | n :: p, .str _, d', e, h, no => by rw [getP] at h <;> first | cases h | (intros; contradiction)
  | n :: p, .ty _, d', e, h, no => by rw [getP] at h <;> first | cases h | (intros; contradiction)
  | n :: p, .exn _ _ _, d', e, h, no => by rw [getP] at h <;> first | cases h | (intros; contradiction)

/-- a way that a change leaves -/
def Surv (g : Gs) (I H I' H' : Hp) (S S' : Addr → Prop) (v : V) (d e : D) (q : List Nat) : Prop :=
  ∀ w x, getP d q = some x → Lc.noOwn x = false → VAt g I H S v q w → VAt g I' H' S' v q w ∧ ∃ x', getP e q = some x' ∧ Lc.noOwn x' = false

/-- R.place, and the ways that a change at the place leaves -/
theorem R.place2 {g : Gs} {I B H : Hp} (ih : leH I H) : ∀ (p : List Nat) {d d' : D} {v : V} {fp : List Addr}, R g I B H d v fp → getP d p = some d' → Lc.noOwn d' = false →
    ∃ w fa fn fb, fp = fa ++ fn ++ fb ∧ VAt g I H (fun a => a ∈ fp) v p w ∧ R g I B H d' w fn ∧ fn ≠ [] ∧
      ∀ {I' H' : Hp} {e : D} {fn' : List Addr}, leH I I' → R g I' B H' e w fn' → (∀ a ∈ fa ++ fb, H' a = H a) → R g I' B H' (setP d p e) v (fa ++ fn' ++ fb) ∧
        ∀ (S S' : Addr → Prop) (q : List Nat), Lc.noOwn e = false → (∀ a ∈ fa ++ fb, S' a) → (∀ q1, strip p q = some q1 → Surv g I H I' H' S S' w d' e q1) → Surv g I H I' H' S S' v d (setP d p e) q
  | [], d, d', v, fp, h, e, n => by
    rw [getP] at e
    cases e
    refine ⟨v, [], fp, [], by simp, rfl, h, fun z => ?_, fun {I' H' e fn'} i h' k => ⟨?_, fun S S' q _ _ su => ?_⟩⟩
    · rw [R.isNil d h z] at n
      cases n
    · rw [setP]
      simpa using h'
    · rw [setP]
      exact su q rfl
  | n :: p, .tup xs, d', v, fp, h, e, no => by
    rw [getP] at e
    cases hx : xs[n]? with
    | none =>
      rw [hx] at e
      cases e
    | some x =>
      rw [hx] at e
      rw [R] at h
      obtain ⟨q, vs, e1, t, h⟩ := h
      obtain ⟨v1, ga, gn, gb, hv, rfl, r, up, oth⟩ := RL.at2 h hx
      obtain ⟨w, fa, fn, fb, rfl, va, rw', ne, up2⟩ := R.place2 ih p r (show getP x p = some d' from e) no
      have tt := t.own (by simp [ne])
      refine ⟨w, ga ++ fa, fn, fb ++ gb, by simp, ⟨q, vs, v1, e1, .inl tt, hv, va.keep (leH.refl _) (fun _ _ => rfl) fun a ha => by simp only [List.mem_append] at ha ⊢; rcases ha with (ha | ha) | ha <;> simp [ha]⟩, rw', ne, fun {I' H' e' fn'} i h' k => ?_⟩
      have u2 := up2 i h' fun a ha => k a (by
        rcases List.mem_append.mp ha with ha | ha <;> simp [ha])
      have u := up i u2.1 fun a ha => k a (by
        rcases List.mem_append.mp ha with ha | ha <;> simp [ha])
      refine ⟨?_, fun S S' q2 nE hS su => ?_⟩
      · rw [setP, hx]
        dsimp only
        rw [R]
        refine ⟨q, vs, e1, .inl (i _ _ tt), ?_⟩
        have ev : vs.set n v1 = vs := by
          obtain ⟨hl, hv⟩ := List.getElem?_eq_some_iff.mp hv
          rw [← hv, List.set_getElem_self]
        rw [ev] at u
        simpa using u
      · intro w2 x2 g2 n2 va2
        have hl := (List.getElem?_eq_some_iff.mp hx).1
        cases q2 with
        | nil => exact ⟨va2, _, rfl, noOwn_setP (n :: p) (show getP (.tup xs) (n :: p) = some d' by rw [getP, hx]; exact e) nE⟩
        | cons m q3 =>
          obtain ⟨q', vs', v2, e1', h1', g1', va3⟩ := va2
          rw [e1] at e1'
          cases e1'
          have hvs : vs = vs' := by
            rcases h1' with h1' | ⟨_, k', h1'⟩
            · cases tt.symm.trans h1'
              rfl
            · exact (tup_own (ih _ _ tt) h1').elim
          subst hvs
          rw [getP] at g2
          by_cases hm : m = n
          · subst hm
            rw [hx] at g2
            rw [hv] at g1'
            cases g1'
            obtain ⟨va4, x', g4, n4⟩ := u2.2 S S' q3 nE (fun a ha => hS a (by rcases List.mem_append.mp ha with ha | ha <;> simp [ha])) (fun q1 hq1 => su q1 (by rw [strip, if_pos rfl]; exact hq1)) w2 x2 g2 n2 va3
            refine ⟨⟨q, vs, v1, e1, .inl (i _ _ tt), hv, va4⟩, x', ?_, n4⟩
            rw [setP, hx]
            dsimp only
            rw [getP, List.getElem?_set_self hl]
            exact g4
          · cases hx2 : xs[m]? with
            | none =>
              rw [hx2] at g2
              cases g2
            | some y =>
              rw [hx2] at g2
              obtain ⟨wm, fm, hwm, rm, sub⟩ := oth m y hm hx2
              rw [hwm] at g1'
              cases g1'
              obtain ⟨w3, _, _, _, _, va5, _⟩ := R.place q3 rm (show getP y q3 = some x2 from g2) n2
              have ew : w3 = w2 := va5.inj (fun q vs k ws hi ho => tup_own (ih _ _ hi) ho) va3
              subst ew
              refine ⟨⟨q, vs, _, e1, .inl (i _ _ tt), hwm, va5.keep i (fun a ha => k a ?_) fun a ha => hS a ?_⟩, x2, ?_, n2⟩
              · rcases List.mem_append.mp (sub a ha) with ha | ha <;> simp [ha]
              · rcases List.mem_append.mp (sub a ha) with ha | ha <;> simp [ha]
              · rw [setP, hx]
                dsimp only
                rw [getP, List.getElem?_set_ne (Ne.symm hm), hx2]
                exact g2
  | n :: p, .nd kd .own xs, d', v, fp, h, e, no => by
    rw [getP] at e
    cases hx : xs[n]? with
    | none =>
      rw [hx] at e
      cases e
    | some x =>
      rw [hx] at e
      rw [R] at h
      obtain ⟨q, vs, fq, e1, rfl, t, h⟩ := h
      obtain ⟨v1, ga, gn, gb, hv, rfl, r, up, oth⟩ := RL.at2 h hx
      obtain ⟨w, fa, fn, fb, rfl, va, rw', ne, up2⟩ := R.place2 ih p r (show getP x p = some d' from e) no
      refine ⟨w, q :: (ga ++ fa), fn, fb ++ gb, by simp, ⟨q, vs, v1, e1, .inr ⟨by simp, kd, t⟩, hv, va.keep (leH.refl _) (fun _ _ => rfl) fun a ha => by simp only [List.mem_append, List.mem_cons] at ha ⊢; rcases ha with (ha | ha) | ha <;> simp [ha]⟩, rw', ne, fun {I' H' e' fn'} i h' k => ?_⟩
      have u2 := up2 i h' fun a ha => k a (by
        rcases List.mem_append.mp ha with ha | ha <;> simp [ha])
      have u := up i u2.1 fun a ha => k a (by
        rcases List.mem_append.mp ha with ha | ha <;> simp [ha])
      have tq := t.at (k q (by simp))
      refine ⟨?_, fun S S' q2 nE hS su => ?_⟩
      · rw [setP, hx]
        dsimp only
        rw [R]
        refine ⟨q, vs, ga ++ (fa ++ fn' ++ fb) ++ gb, e1, by simp, tq, ?_⟩
        have ev : vs.set n v1 = vs := by
          obtain ⟨hl, hv⟩ := List.getElem?_eq_some_iff.mp hv
          rw [← hv, List.set_getElem_self]
        rw [ev] at u
        exact u
      · intro w2 x2 g2 n2 va2
        have hl := (List.getElem?_eq_some_iff.mp hx).1
        cases q2 with
        | nil => exact ⟨va2, _, rfl, noOwn_setP (n :: p) (show getP (.nd kd .own xs) (n :: p) = some d' by rw [getP, hx]; exact e) nE⟩
        | cons m q3 =>
          obtain ⟨q', vs', v2, e1', h1', g1', va3⟩ := va2
          rw [e1] at e1'
          cases e1'
          have hvs : vs = vs' := by
            rcases h1' with h1' | ⟨_, k', h1'⟩
            · exact (tup_own (ih _ _ h1') t).elim
            · exact t.inj h1'
          subst hvs
          rw [getP] at g2
          by_cases hm : m = n
          · subst hm
            rw [hx] at g2
            rw [hv] at g1'
            cases g1'
            obtain ⟨va4, x', g4, n4⟩ := u2.2 S S' q3 nE (fun a ha => hS a (by rcases List.mem_append.mp ha with ha | ha <;> simp [ha])) (fun q1 hq1 => su q1 (by rw [strip, if_pos rfl]; exact hq1)) w2 x2 g2 n2 va3
            refine ⟨⟨q, vs, v1, e1, .inr ⟨hS q (by simp), kd, tq⟩, hv, va4⟩, x', ?_, n4⟩
            rw [setP, hx]
            dsimp only
            rw [getP, List.getElem?_set_self hl]
            exact g4
          · cases hx2 : xs[m]? with
            | none =>
              rw [hx2] at g2
              cases g2
            | some y =>
              rw [hx2] at g2
              obtain ⟨wm, fm, hwm, rm, sub⟩ := oth m y hm hx2
              rw [hwm] at g1'
              cases g1'
              obtain ⟨w3, _, _, _, _, va5, _⟩ := R.place q3 rm (show getP y q3 = some x2 from g2) n2
              have ew : w3 = w2 := va5.inj (fun q vs k ws hi ho => tup_own (ih _ _ hi) ho) va3
              subst ew
              refine ⟨⟨q, vs, _, e1, .inr ⟨hS q (by simp), kd, tq⟩, hwm, va5.keep i (fun a ha => k a ?_) fun a ha => hS a ?_⟩, x2, ?_, n2⟩
              · rcases List.mem_append.mp (sub a ha) with ha | ha <;> simp [ha]
              · rcases List.mem_append.mp (sub a ha) with ha | ha <;> simp [ha]
              · rw [setP, hx]
                dsimp only
                rw [getP, List.getElem?_set_ne (Ne.symm hm), hx2]
                exact g2
  | n :: p, .nd kd .frz xs, d', v, fp, h, e, no => by rw [getP] at e <;> first | cases e | (intros; contradiction)
  | n :: p, .nd kd .bor xs, d', v, fp, h, e, no => by rw [getP] at e <;> first | cases e | (intros; contradiction)
  | n :: p, .non, d', v, fp, h, e, no => by rw [getP] at e <;> first | cases e | (intros; contradiction)
  | n :: p, .bl _, d', v, fp, h, e, no => by rw [getP] at e <;> first | cases e | (intros; contradiction)
  | n :: p, .int _, d', v, fp, h, e, no => by rw [getP] at e <;> first | cases e | (intros; contradiction)
  | n :: p, .str _, d', v, fp, h, e, no => by rw [getP] at e <;> first | cases e | (intros; contradiction)
  | n :: p, .ty _, d', v, fp, h, e, no => by rw [getP] at e <;> first | cases e | (intros; contradiction)
  | n :: p, .exn _ _ _, d', v, fp, h, e, no => by rw [getP] at e <;> first | cases e | (intros; contradiction)
end Lc
end
section
set_option Elab.async false
set_option linter.all false
set_option maxRecDepth 100000
set_option maxHeartbeats 1000000
namespace Lc
open PySem L2

/-! ### places of the store change -/
/-- a change: the slot, the place, the ways behind it that stay, the new tree -/
structure Chg where
  r : Nat
  p : List Nat
  keep : List Nat → Bool
  e : D
def Chg.dead (g : Chg) (q : List Nat) : Bool := match strip g.p q with
  | some q1 => !(g.keep q1)
  | none => false
def chgOf : List Chg → Nat → Option Chg
  | [], _ => none
  | g :: L, r => if g.r = r then some g else chgOf L r
def updS (L : List Chg) : Nat → List Sl → List Sl
  | _, [] => []
  | i, .v d :: s => (match chgOf L i with | some g => .v (setP d g.p g.e) | none => .v d) :: updS L (i + 1) s
  | i, .al r q :: s => (match chgOf L r with | some g => if g.dead q then .no else .al r q | none => .al r q) :: updS L (i + 1) s
  | i, .no :: s => .no :: updS L (i + 1) s
def lkOk (L : List Chg) (k : List (Nat × List Nat)) : Bool := k.all fun x => match chgOf L x.1 with | some g => !(g.dead x.2) | none => true
def updC (L : List Chg) (c : Ctx) : Ctx := { c with s := updS L 0 c.s }

theorem updS_len (L : List Chg) : ∀ (i : Nat) (s : List Sl), (updS L i s).length = s.length
  | _, [] => rfl
  | i, .v d :: s => by rw [updS, List.length_cons, List.length_cons, updS_len]
  | i, .al r q :: s => by rw [updS, List.length_cons, List.length_cons, updS_len]
  | i, .no :: s => by rw [updS, List.length_cons, List.length_cons, updS_len]
theorem updS_v {L : List Chg} : ∀ {s : List Sl} {i j : Nat} {d : D}, (updS L i s)[j]? = some (.v d) → ∃ d0, s[j]? = some (.v d0) ∧ ((chgOf L (i + j) = none ∧ d = d0) ∨ ∃ g, chgOf L (i + j) = some g ∧ d = setP d0 g.p g.e)
  | [], _, _, _, e => by simp [updS] at e
  | x :: s, i, j + 1, d, e => by
    have e2 : (updS L (i + 1) s)[j]? = some (.v d) := by
      cases x <;> simpa [updS] using e
    obtain ⟨d0, h1, h2⟩ := updS_v e2
    refine ⟨d0, by simpa using h1, ?_⟩
    have : i + (j + 1) = i + 1 + j := by omega
    rw [this]
    exact h2
  | .v d1 :: s, i, 0, d, e => by
    refine ⟨d1, rfl, ?_⟩
    rw [Nat.add_zero]
    rw [updS] at e
    cases q : chgOf L i with
    | none =>
      rw [q] at e
      simp only [List.getElem?_cons_zero, Option.some.injEq, Sl.v.injEq] at e
      exact .inl ⟨rfl, e.symm⟩
    | some g =>
      rw [q] at e
      simp only [List.getElem?_cons_zero, Option.some.injEq, Sl.v.injEq] at e
      exact .inr ⟨g, rfl, e.symm⟩
  | .al r1 q1 :: s, i, 0, d, e => by
    rw [updS] at e
    cases q : chgOf L r1 with
    | none =>
      rw [q] at e
      simp at e
    | some g =>
      rw [q] at e
      dsimp only at e
      by_cases z : g.dead q1 = true
      · rw [if_pos z] at e
        simp at e
      · rw [if_neg z] at e
        simp at e
  | .no :: s, i, 0, d, e => by
    rw [updS] at e
    simp at e
theorem updS_v2 {L : List Chg} : ∀ {s : List Sl} {i j : Nat} {d0 : D}, s[j]? = some (.v d0) → (updS L i s)[j]? = some (match chgOf L (i + j) with | some g => .v (setP d0 g.p g.e) | none => .v d0)
  | [], _, _, _, e => by simp at e
  | x :: s, i, j + 1, d, e => by
    have e2 : s[j]? = some (.v d) := by simpa using e
    have := updS_v2 (L := L) (i := i + 1) e2
    have hh : i + (j + 1) = i + 1 + j := by omega
    rw [hh, ← this]
    cases x <;> simp [updS]
  | .v d1 :: s, i, 0, d, e => by
    have e : d1 = d := by simpa using e
    subst e
    rw [updS, Nat.add_zero]
    rfl
  | .al r1 q1 :: s, i, 0, d, e => by simp at e
  | .no :: s, i, 0, d, e => by simp at e
theorem updS_al {L : List Chg} : ∀ {s : List Sl} {i j r : Nat} {q : List Nat}, (updS L i s)[j]? = some (.al r q) → s[j]? = some (.al r q) ∧ ∀ g, chgOf L r = some g → g.dead q = false
  | [], _, _, _, _, e => by simp [updS] at e
  | x :: s, i, j + 1, r, q, e => by
    have e2 : (updS L (i + 1) s)[j]? = some (.al r q) := by
      cases x <;> simpa [updS] using e
    obtain ⟨h1, h2⟩ := updS_al e2
    exact ⟨by simpa using h1, h2⟩
  | .v d1 :: s, i, 0, r, q, e => by
    rw [updS] at e
    cases z : chgOf L i with
    | none =>
      rw [z] at e
      simp at e
    | some g =>
      rw [z] at e
      simp at e
  | .al r1 q1 :: s, i, 0, r, q, e => by
    rw [updS] at e
    cases z : chgOf L r1 with
    | none =>
      rw [z] at e
      simp only [List.getElem?_cons_zero, Option.some.injEq, Sl.al.injEq] at e
      obtain ⟨rfl, rfl⟩ := e
      exact ⟨rfl, fun g hg => by rw [z] at hg; cases hg⟩
    | some g =>
      rw [z] at e
      dsimp only at e
      by_cases y : g.dead q1 = true
      · rw [if_pos y] at e
        simp at e
      · rw [if_neg y] at e
        simp only [List.getElem?_cons_zero, Option.some.injEq, Sl.al.injEq] at e
        obtain ⟨rfl, rfl⟩ := e
        refine ⟨rfl, fun g' hg => ?_⟩
        rw [z] at hg
        cases hg
        simpa using y
  | .no :: s, i, 0, r, q, e => by
    rw [updS] at e
    simp at e

section
variable {A : Act} {I H I' H' : Hp} {σ σ' : St} {c c' : Ctx} {ts xs : List (D × V)} {O O' : Addr → Option Ow} {lk : List (Nat × List Nat × V)} {d : D} {v : V} {w : Ow} {r : Nat} {p : List Nat}

/-- a place of the store, opened: the slot's tree d at v0, the tree d' at v, its cells fn, the others' fa, fb -/
structure Opn (A : Act) (I H : Hp) (σ : St) (c : Ctx) (O : Addr → Option Ow) (r : Nat) (p : List Nat) (v : V) (d d' : D) (v0 : V) (fa fn fb : List Addr) : Prop where
  slot : c.s[r]? = some (.v d)
  at0 : σ[r]? = some (some v0)
  get : getP d p = some d'
  no : Lc.noOwn d' = false
  va : VAt A.g I H (fun a => O a = some (.inl r)) v0 p v
  nd : (fa ++ fn ++ fb).Nodup
  lab : ∀ a ∈ fa ++ fn ++ fb, O a = some (.inl r)
  rel : R A.g I A.B H d' v fn
  ne : fn ≠ []
  put : ∀ {I' H' : Hp} {e : D} {fn' : List Addr}, leH I I' → R A.g I' A.B H' e v fn' → (∀ a ∈ fa ++ fb, H' a = H a) → R A.g I' A.B H' (setP d p e) v0 (fa ++ fn' ++ fb) ∧
        ∀ (S S' : Addr → Prop) (q : List Nat), Lc.noOwn e = false → (∀ a ∈ fa ++ fb, S' a) → (∀ q1, strip p q = some q1 → Surv A.g I H I' H' S S' v d' e q1) → Surv A.g I H I' H' S S' v0 d (setP d p e) q
theorem Sat.opn (S : Sat A I H σ c ts O lk) (h : PV A I H σ c O r p v) : ∃ d d' v0 fa fn fb, Opn A I H σ c O r p v d d' v0 fa fn fb := by
  obtain ⟨d, v0, d', e1, e2, e3, e4, va⟩ := h
  obtain ⟨v1, e5, fp, rr, nd, l⟩ := S.vals r d e1
  rw [e2] at e5
  cases e5
  obtain ⟨w, fa, fn, fb, rfl, va', rn, ne, up⟩ := R.place2 S.ih p rr e3 e4
  have ew : w = v := va'.inj (fun q vs k ws hi ho => tup_own (S.ih _ _ hi) ho) va
  subst ew
  exact ⟨d, d', v0, fa, fn, fb, e1, e2, e3, e4, va, nd, l, rn, ne, fun i h k => up i h k⟩

/-- a change that the heap has made -/
def Made (A : Act) (I H I' H' : Hp) (σ : St) (c : Ctx) (O O' : Addr → Option Ow) (g : Chg) : Prop :=
  ∃ v d d' v0 fa fn fb fn', Opn A I H σ c O g.r g.p v d d' v0 fa fn fb ∧ R A.g I' A.B H' g.e v fn' ∧ Lc.noOwn g.e = false ∧ (fa ++ fn' ++ fb).Nodup ∧ (∀ a ∈ fa ++ fb, H' a = H a) ∧ (∀ a ∈ fa ++ fn' ++ fb, O' a = some (.inl g.r)) ∧
    ∀ q1, g.keep q1 = true → Surv A.g I H I' H' (fun a => O a = some (.inl g.r)) (fun a => O' a = some (.inl g.r)) v d' g.e q1
theorem chgOf_r : ∀ {L : List Chg} {r : Nat} {g : Chg}, chgOf L r = some g → g.r = r
  | [], _, _, e => by cases e
  | g0 :: L, r, g, e => by
    rw [chgOf] at e
    by_cases h : g0.r = r
    · rw [if_pos h] at e
      cases e
      exact h
    · rw [if_neg h] at e
      exact chgOf_r e
theorem Sat.upd {L : List Chg} (S : Sat A I H σ c (ts ++ xs) O lk) (hI : leH I I') (hIH : leH I' H') (hB : leH A.B H') (hib : ∀ a o, I' a = some o → I a = some o ∨ A.B a = none)
    (un : ∀ a r, O a = some (.inl r) → chgOf L r = none → H' a = H a ∧ O' a = some (.inl r))
    (ut : ∀ a j, O a = some (.inr j) → j < ts.length → H' a = H a ∧ O' a = some (.inr j))
    (ch : ∀ r g, chgOf L r = some g → Made A I H I' H' σ c O O' g) (hk : lkOk L c.k = true)
    (hfr : ∀ a w, O' a = some w → I' a = none ∧ A.B a = none ∧ ∃ o, H' a = some o) : Sat A I' H' σ (updC L c) ts O' lk := by
  have pv : ∀ {r : Nat} {p : List Nat} {v : V}, PV A I H σ c O r p v → (∀ g, chgOf L r = some g → g.dead p = false) → PV A I' H' σ (updC L c) O' r p v := fun {r p v} h nd => by
    cases e : chgOf L r with
    | none =>
      obtain ⟨d, v0, d', e1, e2, e3, e4, va⟩ := h
      refine ⟨d, v0, d', ?_, e2, e3, e4, va.keep hI (fun a ha => (un a r ha e).1) fun a ha => (un a r ha e).2⟩
      show (updS L 0 c.s)[r]? = _
      rw [updS_v2 e1, Nat.zero_add, e]
    | some g =>
      obtain ⟨v1, d, d1, v0, fa, fn, fb, fn', op, rr, nE, hnd, hk, ho, su⟩ := ch r g e
      have er := chgOf_r e
      rw [er] at op ho su
      obtain ⟨d2, v02, d', e1, e2, e3, e4, va⟩ := h
      rw [op.slot] at e1
      cases e1
      rw [op.at0] at e2
      cases e2
      have key := (op.put hI rr hk).2 (fun a => O a = some (.inl r)) (fun a => O' a = some (.inl r)) p nE (fun a ha => ho a (by rcases List.mem_append.mp ha with ha | ha <;> simp [ha])) (fun q1 hq => su q1 (by
        have := nd g e
        rw [Chg.dead, hq] at this
        simpa using this))
      obtain ⟨va2, x', g2, n2⟩ := key v d' e3 e4 va
      refine ⟨_, v0, x', ?_, op.at0, g2, n2, va2⟩
      show (updS L 0 c.s)[r]? = _
      rw [updS_v2 op.slot, Nat.zero_add, e]
  refine ⟨hIH, hB, S.i0.trans hI, fun a o e => ?_, ?_, fun i d e => ?_, fun i r p e => ?_, fun j d v e => ?_, fun r p v e => ?_, S.lke, hfr⟩
  · rcases hib a o e with h | h
    · exact S.ib a o h
    · exact .inr h
  · show σ.length = (updS L 0 c.s).length
    rw [updS_len]
    exact S.len
  · obtain ⟨d0, e0, h⟩ := updS_v (show (updS L 0 c.s)[i]? = some (.v d) from e)
    rw [Nat.zero_add] at h
    rcases h with ⟨h, rfl⟩ | ⟨g, h, rfl⟩
    · obtain ⟨v, e1, ro⟩ := S.vals i _ e0
      exact ⟨v, e1, ro.keep hI (fun a ha => (un a i ha h).1) fun a ha => (un a i ha h).2⟩
    · obtain ⟨v1, d, d1, v0, fa, fn, fb, fn', op, rr, nE, hnd, hk, ho, su⟩ := ch i g h
      have er := chgOf_r h
      rw [er] at op ho
      rw [op.slot] at e0
      cases e0
      exact ⟨v0, op.at0, _, (op.put hI rr hk).1, hnd, ho⟩
  · obtain ⟨e0, h⟩ := updS_al (show (updS L 0 c.s)[i]? = some (.al r p) from e)
    obtain ⟨w, e1, h1⟩ := S.als i r p e0
    exact ⟨w, e1, pv h1 h⟩
  · have hj : j < ts.length := (List.getElem?_eq_some_iff.mp e).1
    exact (S.tmps j d v (by rw [List.getElem?_append_left hj]; exact e)).keep hI (fun a ha => (ut a j ha hj).1) fun a ha => (ut a j ha hj).2
  · refine pv (S.lks r p v e) fun g hg => ?_
    have hm : (r, p) ∈ c.k := by
      rw [← S.lke]
      exact List.mem_map.mpr ⟨(r, p, v), e, rfl⟩
    have := List.all_eq_true.mp hk (r, p) hm
    dsimp only at this
    rw [hg] at this
    simpa using this
end
end Lc
end
section
set_option Elab.async false
set_option linter.all false
set_option maxRecDepth 100000
set_option maxHeartbeats 1000000
namespace Lc
open PySem L2

/-! ### defs: what a call comes to -/
inductive FR where
  | ret (d : D) (os : List D)
  | exc (k : Nat) (n : Str) (x : D) (os : List D)
  | bad
/-- the slots of the parameters: true: the caller's own place, false: read only -/
def inits : List Bool → List D → List Sl
  | true :: ms, d :: ds => .v d :: inits ms ds
  | false :: ms, d :: ds => .v (bor d) :: inits ms ds
  | _, _ => []
def locks : Nat → List Bool → List (Nat × List Nat)
  | _, [] => []
  | i, true :: ms => (i, []) :: locks (i + 1) ms
  | i, false :: ms => locks (i + 1) ms
def lkV : Nat → List Bool → List V → List (Nat × List Nat × V)
  | i, true :: ms, v :: vs => (i, [], v) :: lkV (i + 1) ms vs
  | i, false :: ms, _ :: vs => lkV (i + 1) ms vs
  | _, _, _ => []
def outs : List Bool → List Sl → Option (List D)
  | [], _ => some []
  | true :: ms, .v d :: s => if noBor d then (outs ms s).map (d :: ·) else none
  | false :: ms, _ :: s => outs ms s
  | _, _ => none
def initC (ms : List Bool) (nl : Nat) (ds : List D) : Ctx := ⟨inits ms ds ++ List.replicate nl .no, locks 0 ms⟩
def runF (ms : List Bool) (nl : Nat) (body : Ctx → SR) (ds : List D) : FR :=
  if ds.length = ms.length then match body (initC ms nl ds) with
    | .rt d c => match outs ms c.s with
      | some os => if noBor d then .ret d os else .bad
      | none => .bad
    | .nx c => match outs ms c.s with
      | some os => .ret .non os
      | none => .bad
    | .exc k n x c => match outs ms c.s with
      | some os => .exc k n x os
      | none => .bad
    | _ => .bad
  else .bad

/-- the promise of a def with such a body -/
def spF (G : Nat → Addr) (K : PySem.W.Frag) (ms : List Bool) (nl : Nat) (body : Ctx → SR) : Sp := fun vs H Q E => vs.length = ms.length ∧ ∃ (A : Act) (I : Hp) (O : Addr → Option Ow) (ds : List D), A.g.G = G ∧ A.g.K = K ∧ ds.length = ms.length ∧
  Sat A I H (vs.map some ++ List.replicate nl none) (initC ms nl ds) [] O (lkV 0 ms vs) ∧ match body (initC ms nl ds) with
  | .rt d c' => ∀ v σ' I' H' O', Sat A I' H' σ' c' [(d, v)] O' (lkV 0 ms vs) → Q v H'
  | .nx c' => ∀ σ' I' H' O', Sat A I' H' σ' c' [] O' (lkV 0 ms vs) → Q .non H'
  | .exc k n x c' => ∀ σ', XP A (fun cls d _ H => E cls d H) σ' [] (lkV 0 ms vs) k n x c'
  | _ => False

/-- the changes that a call has made -/
def chgs : List Bool → List EV → List D → List Chg
  | true :: ms, .pl r p :: es, o :: os => ⟨r, p, fun q => q.isEmpty, o⟩ :: chgs ms es os
  | true :: ms, .t _ :: es, _ :: os => chgs ms es os
  | false :: ms, _ :: es, os => chgs ms es os
  | _, _, _ => []
def rootsM : List Bool → List EV → List Nat
  | true :: ms, .pl r _ :: es => r :: rootsM ms es
  | _ :: ms, _ :: es => rootsM ms es
  | _, _ => []
/-- handed over: own places of different slots; what is read lies elsewhere -/
def okM : List Bool → List EV → Bool
  | [], [] => true
  | true :: ms, .pl r _ :: es => !((rootsM ms es).contains r) && okM ms es
  | true :: ms, .t d :: es => !(Lc.noOwn d) && okM ms es
  | false :: ms, _ :: es => okM ms es
  | _, _ => false
def okB (rs : List Nat) : List Bool → List EV → Bool
  | false :: ms, .pl r _ :: es => !(rs.contains r) && okB rs ms es
  | _ :: ms, _ :: es => okB rs ms es
  | _, _ => true
/-- a call -/
def eCall (ms : List Bool) (Φ : List D → FR) (args : List (Ctx → ER)) (dvs : List D) : Ctx → ER := fun c => match eArgs args c with
  | .ok es c2 => match valsOf c2 es with
    | some ds => if okM ms (es ++ dvs.map .t) && okB (rootsM ms (es ++ dvs.map .t)) ms (es ++ dvs.map .t) then match Φ (ds ++ dvs) with
        | .ret d os => if lkOk (chgs ms (es ++ dvs.map .t) os) (unlocks es c2).k then .ok (.t d) (updC (chgs ms (es ++ dvs.map .t) os) (unlocks es c2)) else .bad
        | .exc k n x os => if lkOk (chgs ms (es ++ dvs.map .t) os) (unlocks es c2).k then .exc k n x (updC (chgs ms (es ++ dvs.map .t) os) (unlocks es c2)) else .bad
        | .bad => .bad
      else .bad
    | none => .bad
  | .exc k n x c2 => .exc k n x c2
  | .bad => .bad

section
variable {A : Act} {W : Wx} {I H I' H' : Hp} {σ σ' : St} {c c' : Ctx} {ts xs : List (D × V)} {O O' : Addr → Option Ow} {lk : List (Nat × List Nat × V)} {d : D} {v : V} {w : Ow} {r : Nat} {p : List Nat}

/-- an argument as it lies -/
def ArgAt (A : Act) (I H : Hp) (σ : St) (c : Ctx) (O : Addr → Option Ow) (n : Nat) (e : EV) (v : V) (d : D) : Prop := match e with
  | .t d0 => d0 = d ∧ RO A I H O (.inr n) d v
  | .pl r p => PV A I H σ c O r p v ∧ ∃ d0, c.s[r]? = some (.v d0) ∧ getP d0 p = some d
/-- which of the values just made an argument is -/
def tix : List EV → Nat → Nat
  | .t _ :: es, i + 1 => tix es i + 1
  | .pl _ _ :: es, i + 1 => tix es i
  | _, _ => 0
theorem tix_lt : ∀ {es : List EV} {i j : Nat} {d : D}, i < j → es[i]? = some (.t d) → tix es i < tix es j
  | .t _ :: es, 0, j + 1, d, _, _ => Nat.succ_pos _
  | .t _ :: es, i + 1, j + 1, d, h, e => Nat.succ_lt_succ (tix_lt (Nat.lt_of_succ_lt_succ h) (by simpa using e))
  | .pl _ _ :: es, 0, j + 1, d, _, e => by simp at e
  | .pl _ _ :: es, i + 1, j + 1, d, h, e => tix_lt (es := es) (i := i) (j := j) (Nat.lt_of_succ_lt_succ h) (by simpa using e)
  | [], _, _, _, _, e => by simp at e
  | _ :: _, _, 0, _, h, _ => absurd h (Nat.not_lt_zero _)
theorem tix_ne {es : List EV} {i j : Nat} {d d' : D} (h1 : es[i]? = some (.t d)) (h2 : es[j]? = some (.t d')) (h : tix es i = tix es j) : i = j := by
  rcases Nat.lt_trichotomy i j with g | g | g
  · have := tix_lt g h1; omega
  · exact g
  · have := tix_lt g h2; omega
theorem tix_app : ∀ {es fs : List EV} {i : Nat}, i < es.length → tix (es ++ fs) i = tix es i
  | .t _ :: es, fs, 0, _ => rfl
  | .pl _ _ :: es, fs, 0, _ => rfl
  | .t _ :: es, fs, i + 1, h => by
    rw [List.cons_append, tix, tix, tix_app (by simpa using h)]
  | .pl _ _ :: es, fs, i + 1, h => by
    rw [List.cons_append, tix, tix, tix_app (by simpa using h)]
  | [], _, _, h => absurd h (Nat.not_lt_zero _)
theorem Sat.args : ∀ {es : List EV} {vs : List V} {ds : List D} {ts : List (D × V)} {lk : List (Nat × List Nat × V)} {i : Nat} {e : EV} {v : V} {d : D}, vs.length = es.length → Lc.valsOf c es = some ds → Sat A I H σ c (ts ++ tmpsOf es vs) O (lksOf es vs ++ lk) →
    es[i]? = some e → vs[i]? = some v → ds[i]? = some d → ArgAt A I H σ c O (ts.length + tix es i) e v d
  | [], vs, ds, ts, lk, i, e, v, d, hl, ev, S, e1, e2, e3 => by simp at e1
  | x :: es, v0 :: vs, ds, ts, lk, i, e, v, d, hl, ev, S, e1, e2, e3 => by
    have hl2 : vs.length = es.length := by simpa using hl
    rw [Lc.valsOf] at ev
    cases q1 : val c x with
    | none => rw [q1] at ev; cases ev
    | some d1 =>
      cases q2 : Lc.valsOf c es with
      | none => rw [q1, q2] at ev; cases ev
      | some ds' =>
        rw [q1, q2] at ev
        cases ev
        cases i with
        | zero =>
          have e1 : x = e := by simpa using e1
          have e2 : v0 = v := by simpa using e2
          have e3 : d1 = d := by simpa using e3
          subst e1 e2 e3
          cases x with
          | t d' =>
            rw [val] at q1
            cases q1
            have hz : (ts ++ (d1, v0) :: tmpsOf es vs)[ts.length]? = some (d1, v0) := by simp
            exact ⟨rfl, S.tmps _ _ _ hz⟩
          | pl r p =>
            have hm : (r, p, v0) ∈ lksOf (.pl r p :: es) (v0 :: vs) ++ lk := by simp [lksOf]
            have pv := S.lks r p v0 hm
            refine ⟨pv, ?_⟩
            obtain ⟨d0, _, d', z1, _, z3, _⟩ := pv
            rw [val, z1] at q1
            exact ⟨d0, z1, q1⟩
        | succ i =>
          have e1 : es[i]? = some e := by simpa using e1
          have e2 : vs[i]? = some v := by simpa using e2
          have e3 : ds'[i]? = some d := by simpa using e3
          cases x with
          | t d' =>
            rw [tix, show ts.length + (tix es i + 1) = (ts ++ [(d', v0)]).length + tix es i by rw [List.length_append]; show _ = ts.length + 1 + _; omega]
            have := Sat.args (es := es) (vs := vs) (ts := ts ++ [(d', v0)]) (lk := lk) hl2 q2 (by
              have : ts ++ [(d', v0)] ++ tmpsOf es vs = ts ++ tmpsOf (.t d' :: es) (v0 :: vs) := by
                rw [tmpsOf, List.append_assoc, List.singleton_append]
              rw [this]
              exact S) e1 e2 e3
            exact this
          | pl r p =>
            rw [tix]
            refine Sat.args (es := es) (vs := vs) (ts := ts) (lk := (r, p, v0) :: lk) hl2 q2 ?_ e1 e2 e3
            have : lksOf es vs ++ ((r, p, v0) :: lk) = lksOf (.pl r p :: es) (v0 :: vs) ++ lk := by
              show _ = (lksOf es vs ++ [(r, p, v0)]) ++ lk
              rw [List.append_assoc, List.singleton_append]
            rw [this]
            exact S
  | _ :: _, [], _, _, _, _, _, _, _, hl, _, _, _, _, _ => by cases hl

theorem inits_len : ∀ {ms : List Bool} {ds : List D}, ds.length = ms.length → (inits ms ds).length = ms.length
  | [], [], _ => rfl
  | true :: ms, d :: ds, h => by
    rw [inits, List.length_cons, List.length_cons, inits_len (by simpa using h)]
  | false :: ms, d :: ds, h => by
    rw [inits, List.length_cons, List.length_cons, inits_len (by simpa using h)]
theorem inits_get : ∀ {ms : List Bool} {ds : List D} {i : Nat} {sl : Sl}, (inits ms ds)[i]? = some sl → ∃ m d, ms[i]? = some m ∧ ds[i]? = some d ∧ sl = .v (if m then d else bor d)
  | true :: ms, d :: ds, 0, sl, h => ⟨true, d, rfl, rfl, by simpa [inits] using h.symm⟩
  | false :: ms, d :: ds, 0, sl, h => ⟨false, d, rfl, rfl, by simpa [inits] using h.symm⟩
  | true :: ms, d :: ds, i + 1, sl, h => by
    obtain ⟨m, e, h1, h2, h3⟩ := inits_get (ms := ms) (ds := ds) (i := i) (sl := sl) (by simpa [inits] using h)
    exact ⟨m, e, by simpa using h1, by simpa using h2, h3⟩
  | false :: ms, d :: ds, i + 1, sl, h => by
    obtain ⟨m, e, h1, h2, h3⟩ := inits_get (ms := ms) (ds := ds) (i := i) (sl := sl) (by simpa [inits] using h)
    exact ⟨m, e, by simpa using h1, by simpa using h2, h3⟩
  | [], _, _, _, h => by simp [inits] at h
  | true :: ms, [], _, _, h => by simp [inits] at h
  | false :: ms, [], _, _, h => by simp [inits] at h
theorem inits_at : ∀ {ms : List Bool} {ds : List D} {i : Nat} {m : Bool} {d : D}, ms[i]? = some m → ds[i]? = some d → (inits ms ds)[i]? = some (.v (if m then d else bor d))
  | true :: ms, d :: ds, 0, m, e, h1, h2 => by
    have h1 : true = m := by simpa using h1
    have h2 : d = e := by simpa using h2
    subst h1 h2
    rfl
  | false :: ms, d :: ds, 0, m, e, h1, h2 => by
    have h1 : false = m := by simpa using h1
    have h2 : d = e := by simpa using h2
    subst h1 h2
    rfl
  | true :: ms, d :: ds, i + 1, m, e, h1, h2 => by
    have := inits_at (ms := ms) (ds := ds) (i := i) (by simpa using h1) (by simpa using h2)
    simpa [inits] using this
  | false :: ms, d :: ds, i + 1, m, e, h1, h2 => by
    have := inits_at (ms := ms) (ds := ds) (i := i) (by simpa using h1) (by simpa using h2)
    simpa [inits] using this
  | [], _, _, _, _, h, _ => by simp at h
  | _ :: _, [], _, _, _, _, h => by simp at h
theorem lkV_map : ∀ {i : Nat} {ms : List Bool} {vs : List V}, vs.length = ms.length → (lkV i ms vs).map (fun x => (x.1, x.2.1)) = locks i ms
  | _, [], [], _ => rfl
  | i, true :: ms, v :: vs, h => by
    rw [lkV, locks, List.map_cons, lkV_map (by simpa using h)]
  | i, false :: ms, v :: vs, h => by
    rw [lkV, locks, lkV_map (by simpa using h)]
theorem lkV_mem : ∀ {i : Nat} {ms : List Bool} {vs : List V} {r : Nat} {p : List Nat} {v : V}, (r, p, v) ∈ lkV i ms vs → p = [] ∧ ∃ j, r = i + j ∧ ms[j]? = some true ∧ vs[j]? = some v
  | i, true :: ms, v0 :: vs, r, p, v, h => by
    rw [lkV] at h
    rcases List.mem_cons.mp h with h | h
    · cases h
      exact ⟨rfl, 0, rfl, rfl, rfl⟩
    · obtain ⟨hp, j, hr, h1, h2⟩ := lkV_mem h
      exact ⟨hp, j + 1, by omega, by simpa using h1, by simpa using h2⟩
  | i, false :: ms, v0 :: vs, r, p, v, h => by
    rw [lkV] at h
    obtain ⟨hp, j, hr, h1, h2⟩ := lkV_mem h
    exact ⟨hp, j + 1, by omega, by simpa using h1, by simpa using h2⟩
  | _, [], _, _, _, _, h => by simp [lkV] at h
  | _, true :: _, [], _, _, _, h => by simp [lkV] at h
  | _, false :: _, [], _, _, _, h => by simp [lkV] at h
theorem lkV_in : ∀ {i : Nat} {ms : List Bool} {vs : List V} {j : Nat} {v : V}, ms[j]? = some true → vs[j]? = some v → (i + j, [], v) ∈ lkV i ms vs
  | i, m :: ms, v0 :: vs, 0, v, h1, h2 => by
    have h1 : m = true := by simpa using h1
    have h2 : v0 = v := by simpa using h2
    subst h1 h2
    rw [lkV]
    exact List.mem_cons_self ..
  | i, m :: ms, v0 :: vs, j + 1, v, h1, h2 => by
    have h := lkV_in (i := i + 1) (ms := ms) (vs := vs) (j := j) (v := v) (by simpa using h1) (by simpa using h2)
    have e : i + (j + 1) = i + 1 + j := by omega
    rw [e]
    cases m with
    | true =>
      rw [lkV]
      exact List.mem_cons_of_mem _ h
    | false =>
      rw [lkV]
      exact h
  | _, [], _, _, _, h, _ => by simp at h
  | _, _ :: _, [], _, _, _, h => by simp at h
theorem outs_get : ∀ {ms : List Bool} {s : List Sl} {os : List D}, outs ms s = some os → ∀ {es : List EV} {r : Nat} {g : Chg}, okM ms es = true → chgOf (chgs ms es os) r = some g →
    ∃ (i : Nat) (p : List Nat), ms[i]? = some true ∧ es[i]? = some (EV.pl r p) ∧ s[i]? = some (Sl.v g.e) ∧ noBor g.e = true ∧ g.p = p ∧ g.keep = fun q => q.isEmpty
  | [], _, os, h, es, r, g, _, e => by
    cases es <;> simp [chgs, chgOf] at e
  | true :: ms, .v d :: s, os, h, .pl r0 p0 :: es, r, g, ok, e => by
    rw [outs] at h
    cases nb : noBor d with
    | false => rw [nb] at h; simp at h
    | true =>
      rw [nb] at h
      cases ho : outs ms s with
      | none => rw [ho] at h; simp at h
      | some os' =>
        rw [ho] at h
        simp only [if_true, Option.map_some, Option.some.injEq] at h
        subst h
        rw [chgs, chgOf] at e
        dsimp only at e
        by_cases hr : r0 = r
        · rw [if_pos hr] at e
          cases e
          subst hr
          exact ⟨0, p0, rfl, rfl, rfl, nb, rfl, rfl⟩
        · rw [if_neg hr] at e
          rw [okM, Bool.and_eq_true] at ok
          obtain ⟨i, p, h1, h2, h3, h4⟩ := outs_get ho ok.2 e
          exact ⟨i + 1, p, by simpa using h1, by simpa using h2, by simpa using h3, h4⟩
  | false :: ms, x :: s, os, h, y :: es, r, g, ok, e => by
    rw [outs] at h
    · rw [chgs] at e
      rw [okM] at ok
      obtain ⟨i, p, h1, h2, h3, h4⟩ := outs_get h ok e
      exact ⟨i + 1, p, by simpa using h1, by simpa using h2, by simpa using h3, h4⟩
  | true :: ms, .v d :: s, os, h, .t _ :: es, r, g, ok, e => by
    rw [outs] at h
    cases nb : noBor d with
    | false => rw [nb] at h; simp at h
    | true =>
      rw [nb] at h
      cases ho : outs ms s with
      | none => rw [ho] at h; simp at h
      | some os' =>
        rw [ho] at h
        simp only [if_true, Option.map_some, Option.some.injEq] at h
        subst h
        rw [chgs] at e
        rw [okM, Bool.and_eq_true] at ok
        obtain ⟨i, p, h1, h2, h3, h4⟩ := outs_get ho ok.2 e
        exact ⟨i + 1, p, by simpa using h1, by simpa using h2, by simpa using h3, h4⟩
  | _ :: ms, _, os, h, [], r, g, ok, e => by simp [okM] at ok
  | true :: _, [], _, h, _, _, _, _, _ => by simp [outs] at h
  | false :: _, [], _, h, _, _, _, _, _ => by simp [outs] at h
  | true :: _, .no :: _, _, h, _, _, _, _, _ => by simp [outs] at h
  | true :: _, .al _ _ :: _, _, h, _, _, _, _, _ => by simp [outs] at h
theorem outs_root : ∀ {ms : List Bool} {s : List Sl} {os : List D}, outs ms s = some os → ∀ {es : List EV} {r i : Nat} {p : List Nat}, okM ms es = true → ms[i]? = some true → es[i]? = some (.pl r p) → ∃ g, chgOf (chgs ms es os) r = some g
  | [], _, os, h, es, r, i, p, _, e, _ => by simp at e
  | true :: ms, .v d :: s, os, h, .pl r0 p0 :: es, r, i, p, ok, e1, e2 => by
    rw [outs] at h
    cases nb : noBor d with
    | false => rw [nb] at h; simp at h
    | true =>
      rw [nb] at h
      cases ho : outs ms s with
      | none => rw [ho] at h; simp at h
      | some os' =>
        rw [ho] at h
        simp only [if_true, Option.map_some, Option.some.injEq] at h
        subst h
        rw [chgs, chgOf]
        dsimp only
        by_cases hr : r0 = r
        · rw [if_pos hr]
          exact ⟨_, rfl⟩
        · rw [if_neg hr]
          rw [okM, Bool.and_eq_true] at ok
          cases i with
          | zero =>
            simp only [List.getElem?_cons_zero, Option.some.injEq, EV.pl.injEq] at e2
            exact absurd e2.1 hr
          | succ i => exact outs_root ho ok.2 (by simpa using e1) (by simpa using e2)
  | false :: ms, x :: s, os, h, y :: es, r, i, p, ok, e1, e2 => by
    rw [outs] at h
    · rw [chgs]
      rw [okM] at ok
      cases i with
      | zero => simp at e1
      | succ i => exact outs_root h ok (by simpa using e1) (by simpa using e2)
  | true :: ms, .v d :: s, os, h, .t _ :: es, r, i, p, ok, e1, e2 => by
    rw [outs] at h
    cases nb : noBor d with
    | false => rw [nb] at h; simp at h
    | true =>
      rw [nb] at h
      cases ho : outs ms s with
      | none => rw [ho] at h; simp at h
      | some os' =>
        rw [ho] at h
        simp only [if_true, Option.map_some, Option.some.injEq] at h
        subst h
        rw [chgs]
        rw [okM, Bool.and_eq_true] at ok
        cases i with
        | zero => simp at e2
        | succ i => exact outs_root ho ok.2 (by simpa using e1) (by simpa using e2)
  | _ :: ms, _, os, h, [], r, i, p, ok, e1, e2 => by simp [okM] at ok
  | true :: _, [], _, h, _, _, _, _, _, _, _ => by simp [outs] at h
  | false :: _, [], _, h, _, _, _, _, _, _, _ => by simp [outs] at h
  | true :: _, .no :: _, _, h, _, _, _, _, _, _, _ => by simp [outs] at h
  | true :: _, .al _ _ :: _, _, h, _, _, _, _, _, _, _ => by simp [outs] at h
theorem rootsM_mem : ∀ {ms : List Bool} {es : List EV} {i r : Nat} {p : List Nat}, ms[i]? = some true → es[i]? = some (.pl r p) → r ∈ rootsM ms es
  | m :: ms, e :: es, 0, r, p, h1, h2 => by
    have h1 : m = true := by simpa using h1
    have h2 : e = .pl r p := by simpa using h2
    subst h1 h2
    rw [rootsM]
    exact List.mem_cons_self ..
  | m :: ms, e :: es, i + 1, r, p, h1, h2 => by
    have := rootsM_mem (ms := ms) (es := es) (i := i) (by simpa using h1) (by simpa using h2)
    cases m <;> cases e <;> rw [rootsM] <;> first | exact this | exact List.mem_cons_of_mem _ this | (intros; contradiction)
  | [], _, _, _, _, h, _ => by simp at h
  | _ :: _, [], _, _, _, _, h => by simp at h
theorem okM_ne : ∀ {ms : List Bool} {es : List EV} {i j r r' : Nat} {p p' : List Nat}, okM ms es = true → ms[i]? = some true → ms[j]? = some true → es[i]? = some (.pl r p) → es[j]? = some (.pl r' p') → r = r' → i = j
  | true :: ms, .pl r0 p0 :: es, 0, 0, r, r', p, p', _, _, _, _, _, _ => rfl
  | true :: ms, .pl r0 p0 :: es, 0, j + 1, r, r', p, p', ok, h1, h2, h3, h4, hr => by
    rw [okM, Bool.and_eq_true] at ok
    have := rootsM_mem (ms := ms) (es := es) (i := j) (r := r') (p := p') (by simpa using h2) (by simpa using h4)
    simp only [List.getElem?_cons_zero, Option.some.injEq, EV.pl.injEq] at h3
    rw [h3.1, hr] at ok
    simp [this] at ok
  | true :: ms, .pl r0 p0 :: es, i + 1, 0, r, r', p, p', ok, h1, h2, h3, h4, hr => by
    rw [okM, Bool.and_eq_true] at ok
    have := rootsM_mem (ms := ms) (es := es) (i := i) (r := r) (p := p) (by simpa using h1) (by simpa using h3)
    simp only [List.getElem?_cons_zero, Option.some.injEq, EV.pl.injEq] at h4
    rw [h4.1, ← hr] at ok
    simp [this] at ok
  | true :: ms, .pl r0 p0 :: es, i + 1, j + 1, r, r', p, p', ok, h1, h2, h3, h4, hr => by
    rw [okM, Bool.and_eq_true] at ok
    rw [okM_ne (i := i) (j := j) ok.2 (by simpa using h1) (by simpa using h2) (by simpa using h3) (by simpa using h4) hr]
  | false :: ms, e :: es, i, j, r, r', p, p', ok, h1, h2, h3, h4, hr => by
    rw [okM] at ok
    cases i with
    | zero => simp at h1
    | succ i =>
      cases j with
      | zero => simp at h2
      | succ j => rw [okM_ne (i := i) (j := j) ok (by simpa using h1) (by simpa using h2) (by simpa using h3) (by simpa using h4) hr]
  | true :: ms, .t _ :: es, 0, _, _, _, _, _, ok, _, _, h3, _, _ => by simp at h3
  | true :: ms, .t _ :: es, _ + 1, 0, _, _, _, _, ok, _, _, _, h4, _ => by simp at h4
  | true :: ms, .t _ :: es, i + 1, j + 1, r, r', p, p', ok, h1, h2, h3, h4, hr => by
    rw [okM, Bool.and_eq_true] at ok
    rw [okM_ne (i := i) (j := j) ok.2 (by simpa using h1) (by simpa using h2) (by simpa using h3) (by simpa using h4) hr]
  | _ :: ms, [], _, _, _, _, _, _, ok, _, _, _, _, _ => by simp [okM] at ok
  | [], _, _, _, _, _, _, _, _, h, _, _, _, _ => by simp at h
theorem okM_pl : ∀ {ms : List Bool} {es : List EV} {i : Nat}, okM ms es = true → ms[i]? = some true → (∃ r p, es[i]? = some (.pl r p)) ∨ ∃ d, es[i]? = some (.t d) ∧ Lc.noOwn d = false
  | true :: ms, .pl r0 p0 :: es, 0, _, _ => .inl ⟨r0, p0, rfl⟩
  | true :: ms, .t d :: es, 0, ok, _ => by
    rw [okM, Bool.and_eq_true] at ok
    exact .inr ⟨d, rfl, by simpa using ok.1⟩
  | true :: ms, .pl r0 p0 :: es, i + 1, ok, h => by
    rw [okM, Bool.and_eq_true] at ok
    rcases okM_pl (i := i) ok.2 (by simpa using h) with ⟨r, p, e⟩ | ⟨d, e, n⟩
    · exact .inl ⟨r, p, by simpa using e⟩
    · exact .inr ⟨d, by simpa using e, n⟩
  | true :: ms, .t _ :: es, i + 1, ok, h => by
    rw [okM, Bool.and_eq_true] at ok
    rcases okM_pl (i := i) ok.2 (by simpa using h) with ⟨r, p, e⟩ | ⟨d, e, n⟩
    · exact .inl ⟨r, p, by simpa using e⟩
    · exact .inr ⟨d, by simpa using e, n⟩
  | false :: ms, e :: es, 0, _, h => by simp at h
  | false :: ms, e :: es, i + 1, ok, h => by
    rw [okM] at ok
    rcases okM_pl (i := i) ok (by simpa using h) with ⟨r, p, e⟩ | ⟨d, e, n⟩
    · exact .inl ⟨r, p, by simpa using e⟩
    · exact .inr ⟨d, by simpa using e, n⟩
  | _ :: ms, [], _, ok, _ => by simp [okM] at ok
  | [], _, _, _, h => by simp at h
theorem okB_ne {rs : List Nat} : ∀ {ms : List Bool} {es : List EV} {i r : Nat} {p : List Nat}, okB rs ms es = true → ms[i]? = some false → es[i]? = some (.pl r p) → r ∉ rs
  | m :: ms, e :: es, 0, r, p, ok, h1, h2 => by
    have h1 : m = false := by simpa using h1
    have h2 : e = .pl r p := by simpa using h2
    subst h1 h2
    rw [okB, Bool.and_eq_true] at ok
    simpa using ok.1
  | m :: ms, e :: es, i + 1, r, p, ok, h1, h2 => by
    have : okB rs ms es = true := by
      cases m <;> cases e <;> rw [okB] at ok <;> first | exact ok | (rw [Bool.and_eq_true] at ok; exact ok.2) | (intros; contradiction)
    exact okB_ne (i := i) this (by simpa using h1) (by simpa using h2)
  | [], _, _, _, _, _, h, _ => by simp at h
  | _ :: _, [], _, _, _, _, _, h => by simp at h
end
end Lc
end
section
set_option Elab.async false
set_option linter.all false
set_option maxRecDepth 100000
set_option maxHeartbeats 1000000
namespace Lc
open PySem L2

section
variable {A : Act} {W : Wx} {I H I' H' : Hp} {σ σ' : St} {c c' : Ctx} {ts xs : List (D × V)} {O O' : Addr → Option Ow} {lk : List (Nat × List Nat × V)} {d : D} {v : V} {w : Ow} {r : Nat} {p : List Nat}

mutual
theorem R.noBor {g : Gs} : ∀ (d : D) {I B H B' : Hp} {v : V} {fp : List Addr}, R g I B H d v fp → Lc.noBor d = true → R g I B' H d v fp
  | .non, _, _, _, _, _, _, h, _ => by rw [R] at h ⊢; exact h
  | .bl _, _, _, _, _, _, _, h, _ => by rw [R] at h ⊢; exact h
  | .int _, _, _, _, _, _, _, h, _ => by rw [R] at h ⊢; exact h
  | .str _, _, _, _, _, _, _, h, _ => by rw [R] at h ⊢; exact h
  | .ty _, _, _, _, _, _, _, h, _ => by rw [R] at h ⊢; exact h
  | .exn _ _ _, _, _, _, _, _, _, h, _ => by rw [R] at h ⊢; exact h
  | .tup xs, _, _, _, _, _, _, h, n => by
    rw [R] at h ⊢
    obtain ⟨p, vs, e, t, h⟩ := h
    exact ⟨p, vs, e, t, RL.noBor xs h (by rw [Lc.noBor] at n; exact n)⟩
  | .nd k .own xs, _, _, _, _, _, _, h, n => by
    rw [R] at h ⊢
    obtain ⟨p, vs, fq, e, e2, t, h⟩ := h
    exact ⟨p, vs, fq, e, e2, t, RL.noBor xs h (by rw [Lc.noBor] at n; exact n)⟩
  | .nd k .frz xs, _, _, _, _, _, _, h, n => by rw [R] at h ⊢; exact h
  | .nd k .bor xs, _, _, _, _, _, _, h, n => by rw [Lc.noBor] at n; cases n
theorem RL.noBor {g : Gs} : ∀ (xs : List D) {I B H B' : Hp} {vs : List V} {fp : List Addr}, RL g I B H xs vs fp → noBorL xs = true → RL g I B' H xs vs fp
  | [], _, _, _, _, _, _, h, _ => by rw [RL] at h ⊢; exact h
  | x :: xs, _, _, _, _, _, _, h, n => by
    rw [noBorL, Bool.and_eq_true] at n
    rw [RL] at h ⊢
    obtain ⟨v, vr, f1, f2, e1, e2, h1, h2⟩ := h
    exact ⟨v, vr, f1, f2, e1, e2, R.noBor x h1 n.1, RL.noBor xs h2 n.2⟩
end
theorem call_core {ms : List Bool} {nl : Nat} {es : List EV} {vs : List V} {ds : List D} (S : Sat A I H σ c (ts ++ xs) O lk) (hv : vs.length = ms.length) (hd : ds.length = ms.length)
    (ha : ∀ (i : Nat) (e : EV) (v : V) (d : D), es[i]? = some e → vs[i]? = some v → ds[i]? = some d → ArgAt A I H σ c O (ts.length + tix es i) e v d) (hes : es.length = ms.length)
    (ok : okM ms es = true) (okb : okB (rootsM ms es) ms es = true) :
    ∃ (A' : Act) (O0 : Addr → Option Ow), A'.g = A.g ∧ Sat A' I H (vs.map some ++ List.replicate nl none) (initC ms nl ds) [] O0 (lkV 0 ms vs) ∧
      ∀ (ys : List (D × V)) (σ' : St) (I' H' : Hp) (O2 : Addr → Option Ow) (c' : Ctx) (os : List D), Sat A' I' H' σ' c' ys O2 (lkV 0 ms vs) → outs ms c'.s = some os → ys.length ≤ 1 → (∀ x ∈ ys, noBor x.1 = true) → lkOk (chgs ms es os) c.k = true →
        ∃ O', Sat A I' H' σ (updC (chgs ms es os) c) (ts ++ ys) O' lk := by
  classical
  -- the handed places, opened
  have hop : ∀ i : Nat, ∃ fn : List Addr, ms[i]? = some true → ∃ (v : V) (d' : D), vs[i]? = some v ∧ ds[i]? = some d' ∧ ((∃ (r : Nat) (p : List Nat) (d : D) (v0 : V) (fa fb : List Addr), es[i]? = some (EV.pl r p) ∧ Opn A I H σ c O r p v d d' v0 fa fn fb) ∨ (es[i]? = some (EV.t d') ∧ Lc.noOwn d' = false ∧ R A.g I A.B H d' v fn ∧ fn.Nodup ∧ ∀ a ∈ fn, O a = some (.inr (ts.length + tix es i)))) := fun i => by
    by_cases hm : ms[i]? = some true
    · rcases okM_pl ok hm with ⟨r, p, e⟩ | ⟨d0, e, n0⟩
      rotate_left
      · have hi : i < ms.length := (List.getElem?_eq_some_iff.mp hm).1
        have e2 : vs[i]? = some vs[i] := List.getElem?_eq_getElem (by omega)
        have e3 : ds[i]? = some ds[i] := List.getElem?_eq_getElem (by omega)
        obtain ⟨x, fp, rr, nd, l⟩ := ha i _ _ _ e e2 e3
        subst x
        exact ⟨fp, fun _ => ⟨_, _, e2, e3, .inr ⟨e, n0, rr, nd, l⟩⟩⟩
      have hi : i < ms.length := (List.getElem?_eq_some_iff.mp hm).1
      have e2 : vs[i]? = some vs[i] := List.getElem?_eq_getElem (by omega)
      have e3 : ds[i]? = some ds[i] := List.getElem?_eq_getElem (by omega)
      obtain ⟨pv, d0, g1, g2⟩ := ha i _ _ _ e e2 e3
      obtain ⟨d, d', v0, fa, fn, fb, op⟩ := S.opn pv
      have : d' = ds[i] := by
        have z := op.slot
        rw [g1] at z
        cases z
        have z := op.get
        rw [g2] at z
        cases z
        rfl
      subst this
      exact ⟨fn, fun _ => ⟨_, _, e2, e3, .inl ⟨r, p, d, v0, fa, fb, e, op⟩⟩⟩
    · exact ⟨[], fun z => absurd z hm⟩
  obtain ⟨fn, hfn⟩ := Classical.axiomOfChoice hop
  -- who holds a cell in the callee
  have hO0 : ∃ O0 : Addr → Option Ow, ∀ a w, O0 a = some w ↔ ∃ i, w = .inl i ∧ ms[i]? = some true ∧ a ∈ fn i := by
    refine ⟨fun a => if h : ∃ i, ms[i]? = some true ∧ a ∈ fn i then some (.inl h.choose) else none, fun a w => ?_⟩
    have uniq : ∀ i j, ms[i]? = some true → a ∈ fn i → ms[j]? = some true → a ∈ fn j → i = j := fun i j h1 h2 h3 h4 => by
      obtain ⟨_, _, _, _, x1⟩ := hfn i h1
      obtain ⟨_, _, _, _, x2⟩ := hfn j h3
      rcases x1 with ⟨r, p, _, _, _, _, e1, op1⟩ | ⟨e1, _, _, _, l1⟩ <;> rcases x2 with ⟨r', p', _, _, _, _, e2, op2⟩ | ⟨e2, _, _, _, l2⟩
      · have l1 := op1.lab a (by simp [h2])
        have l2 := op2.lab a (by simp [h4])
        rw [l1] at l2
        cases l2
        exact okM_ne ok h1 h3 e1 e2 rfl
      · have l1 := op1.lab a (by simp [h2])
        have l2 := l2 a h4
        rw [l1] at l2
        cases l2
      · have l2 := op2.lab a (by simp [h4])
        rw [l1 a h2] at l2
        cases l2
      · have := (l1 a h2).symm.trans (l2 a h4)
        simp only [Option.some.injEq, Sum.inr.injEq] at this
        exact tix_ne e1 e2 (by omega)
    constructor
    · intro h
      dsimp only at h
      by_cases q : ∃ i, ms[i]? = some true ∧ a ∈ fn i
      · rw [dif_pos q] at h
        cases h
        exact ⟨_, rfl, q.choose_spec⟩
      · rw [dif_neg q] at h
        cases h
    · rintro ⟨i, rfl, h1, h2⟩
      have q : ∃ i, ms[i]? = some true ∧ a ∈ fn i := ⟨i, h1, h2⟩
      dsimp only
      rw [dif_pos q, uniq q.choose i q.choose_spec.1 q.choose_spec.2 h1 h2]
  obtain ⟨O0, hO0⟩ := hO0
  -- the label of such a cell here
  have lab0 : ∀ a i, O0 a = some (.inl i) → ms[i]? = some true ∧ a ∈ fn i ∧ ((∃ r p, es[i]? = some (.pl r p) ∧ O a = some (.inl r)) ∨ ∃ d, es[i]? = some (.t d) ∧ O a = some (.inr (ts.length + tix es i))) := fun a i h => by
    obtain ⟨j, e, h1, h2⟩ := (hO0 a _).mp h
    cases e
    obtain ⟨_, _, _, _, x⟩ := hfn _ h1
    rcases x with ⟨r, p, _, _, _, _, e1, op⟩ | ⟨e1, _, _, _, l⟩
    · exact ⟨h1, h2, .inl ⟨r, p, e1, op.lab a (by simp [h2])⟩⟩
    · exact ⟨h1, h2, .inr ⟨_, e1, l a h2⟩⟩
  have inl0 : ∀ a w, O0 a = some w → ∃ i, w = .inl i := fun a w h => by
    obtain ⟨i, e, _⟩ := (hO0 a w).mp h
    exact ⟨i, e⟩
  obtain ⟨B', hB'⟩ : ∃ B' : Hp, ∀ a, B' a = if O0 a = none then H a else none := ⟨_, fun _ => rfl⟩
  have b0 : ∀ a, O0 a = none → B' a = H a := fun a h => by rw [hB', if_pos h]
  have b1 : ∀ a w, O0 a = some w → B' a = none := fun a w h => by rw [hB', if_neg (by rw [h]; simp)]
  have bH : leH B' H := fun a o e => by
    rw [hB'] at e
    by_cases h : O0 a = none
    · rw [if_pos h] at e
      exact e
    · rw [if_neg h] at e
      cases e
  have free0 : ∀ a w, O0 a = some w → I a = none ∧ A.B a = none ∧ ∃ o, H a = some o := fun a w h => by
    obtain ⟨i, rfl⟩ := inl0 a w h
    obtain ⟨_, _, ⟨r, p, _, l⟩ | ⟨d, _, l⟩⟩ := lab0 a i h
    · exact S.fr a _ l
    · exact S.fr a _ l
  have bB : leH A.B B' := fun a o e => by
    cases h : O0 a with
    | none =>
      rw [b0 a h]
      exact S.bh a o e
    | some w =>
      obtain ⟨_, z, _⟩ := free0 a w h
      rw [e] at z
      cases z
  have iB : leH I B' := fun a o e => by
    cases h : O0 a with
    | none =>
      rw [b0 a h]
      exact S.ih a o e
    | some w =>
      obtain ⟨z, _⟩ := free0 a w h
      rw [e] at z
      cases z
  -- a read argument's cells
  have rd : ∀ (i : Nat) (v : V) (d : D), ms[i]? = some false → vs[i]? = some v → ds[i]? = some d → R A.g I B' H (bor d) v [] := fun i v d hm h1 h2 => by
    have hi : i < ms.length := (List.getElem?_eq_some_iff.mp hm).1
    have e : es[i]? = some es[i] := List.getElem?_eq_getElem (by omega)
    have x := ha i _ v d e h1 h2
    cases q : es[i] with
    | t d0 =>
      rw [q] at x
      obtain ⟨_, fp, rr, _, l⟩ := x
      refine R.bor d rr iB bB fun a ha => b0 a ?_
      cases z : O0 a with
      | none => rfl
      | some w =>
        obtain ⟨i', rfl⟩ := inl0 a w z
        obtain ⟨hm2, _, ⟨r, p, _, l2⟩ | ⟨d2, e2, l2⟩⟩ := lab0 a i' z
        · rw [l a ha] at l2
          cases l2
        · have := (l a ha).symm.trans l2
          simp only [Option.some.injEq, Sum.inr.injEq] at this
          rw [q] at e
          have := tix_ne e e2 (by omega)
          subst this
          rw [hm] at hm2
          cases hm2
    | pl r p =>
      rw [q] at x e
      obtain ⟨pv, d0, g1, g2⟩ := x
      obtain ⟨d1, d', v0, fa, fm, fb, op⟩ := S.opn pv
      have : d' = d := by
        have z := op.slot
        rw [g1] at z
        cases z
        have z := op.get
        rw [g2] at z
        cases z
        rfl
      subst this
      refine R.bor _ op.rel iB bB fun a ha => b0 a ?_
      cases z : O0 a with
      | none => rfl
      | some w =>
        obtain ⟨i', rfl⟩ := inl0 a w z
        obtain ⟨h1, _, ⟨r', p', h2, l2⟩ | ⟨d2, e2, l2⟩⟩ := lab0 a i' z
        · rw [op.lab a (by simp [ha])] at l2
          cases l2
          exact absurd (rootsM_mem h1 h2) (okB_ne okb hm e)
        · rw [op.lab a (by simp [ha])] at l2
          cases l2
  refine ⟨⟨A.g, B', I⟩, O0, rfl, ⟨S.ih, bH, leH.refl _, fun a o e => .inl e, ?_, fun i d e => ?_, fun i r p e => ?_, fun j d v e => ?_, fun r p v e => ?_, lkV_map hv, fun a w e => ?_⟩, ?_⟩
  · rw [initC, List.length_append, List.length_append, List.length_map, List.length_replicate, List.length_replicate, inits_len hd, hv]
  · -- slots
    have e : (inits ms ds ++ List.replicate nl Sl.no)[i]? = some (.v d) := e
    by_cases hi : i < (inits ms ds).length
    · rw [List.getElem?_append_left hi] at e
      obtain ⟨m, d1, h1, h2, h3⟩ := inits_get e
      have hi2 : i < vs.length := by rw [inits_len hd] at hi; omega
      have e2 : vs[i]? = some vs[i] := List.getElem?_eq_getElem hi2
      refine ⟨vs[i], ?_, ?_⟩
      · rw [List.getElem?_append_left (by rw [List.length_map]; exact hi2), List.getElem?_map, e2]
        rfl
      · cases m with
        | true =>
          obtain ⟨v', d', g2, g3, x⟩ := hfn i h1
          rw [g2] at e2
          cases e2
          rw [h2] at g3
          cases g3
          cases h3
          rcases x with ⟨r, p, dd, v0, fa, fb, g1, op⟩ | ⟨_, _, rr, nd, _⟩
          · refine ⟨fn i, R.keep _ op.rel (leH.refl _) bB fun _ _ => rfl, ?_, fun a ha => (hO0 a _).mpr ⟨i, rfl, h1, ha⟩⟩
            have := op.nd
            rw [List.append_assoc] at this
            exact (List.nodup_append.mp (List.nodup_append.mp this).2.1).1
          · exact ⟨fn i, R.keep _ rr (leH.refl _) bB fun _ _ => rfl, nd, fun a ha => (hO0 a _).mpr ⟨i, rfl, h1, ha⟩⟩
        | false =>
          cases h3
          exact RO.leaf (rd i _ d1 h1 e2 h2)
    · rw [List.getElem?_append_right (Nat.le_of_not_lt hi)] at e
      have := List.getElem?_replicate (n := nl) (a := Sl.no) (i := i - (inits ms ds).length)
      rw [e] at this
      split at this <;> cases this
  · have e : (inits ms ds ++ List.replicate nl Sl.no)[i]? = some (.al r p) := e
    by_cases hi : i < (inits ms ds).length
    · rw [List.getElem?_append_left hi] at e
      obtain ⟨m, d1, h1, h2, h3⟩ := inits_get e
      cases h3
    · rw [List.getElem?_append_right (Nat.le_of_not_lt hi)] at e
      have := List.getElem?_replicate (n := nl) (a := Sl.no) (i := i - (inits ms ds).length)
      rw [e] at this
      split at this <;> cases this
  · simp at e
  · obtain ⟨rfl, j, rfl, h1, h2⟩ := lkV_mem e
    obtain ⟨v', d', g2, g3, x⟩ := hfn j h1
    rw [h2] at g2
    cases g2
    have hj : j < ms.length := (List.getElem?_eq_some_iff.mp h1).1
    have := inits_at h1 g3
    have hno : Lc.noOwn d' = false := by
      rcases x with ⟨r, p, dd, v0, fa, fb, g1, op⟩ | ⟨_, n, _⟩
      · exact op.no
      · exact n
    refine ⟨d', v, d', ?_, ?_, rfl, hno, rfl⟩
    · show (inits ms ds ++ List.replicate nl Sl.no)[0 + j]? = _
      rw [Nat.zero_add, List.getElem?_append_left (by rw [inits_len hd]; exact hj), this]
      rfl
    · rw [Nat.zero_add, List.getElem?_append_left (by rw [List.length_map]; omega), List.getElem?_map, h2]
      rfl
  · obtain ⟨x, y, z⟩ := free0 a w e
    exact ⟨x, b1 a w e, z⟩
  · -- behind the call
    intro ys σ' I' H' O2 c' os S2 ho hys hnb hk
    have i2 : leH I I' := S2.i0
    have bH2 : leH B' H' := S2.bh
    have key : ∀ a, O0 a = none → ∀ o, H a = some o → H' a = some o ∧ O2 a = none := fun a h o e => by
      have z : B' a = some o := by rw [b0 a h]; exact e
      refine ⟨bH2 a o z, ?_⟩
      cases q : O2 a with
      | none => rfl
      | some w =>
        obtain ⟨_, z2, _⟩ := S2.fr a w q
        have z2 : B' a = none := z2
        rw [z] at z2
        cases z2
    have same : ∀ a w, O a = some w → O0 a = none → H' a = H a ∧ O2 a = none := fun a w h h0 => by
      obtain ⟨_, _, o, e⟩ := S.fr a w h
      obtain ⟨k1, k2⟩ := key a h0 o e
      rw [e]
      exact ⟨k1, k2⟩
    obtain ⟨O', hO'⟩ : ∃ O' : Addr → Option Ow, ∀ a, O' a = match O2 a with
        | some (.inl i) => if ms[i]? = some true then (match es[i]? with | some (.pl r _) => some (.inl r) | _ => none) else none
        | some (.inr j) => if j < ys.length then some (.inr (ts.length + j)) else none
        | none => if O0 a = none then (match O a with | some (.inr j) => if j < ts.length then some (.inr j) else none | o => o) else none := ⟨_, fun _ => rfl⟩
    have made : ∀ r g, chgOf (chgs ms es os) r = some g → Made A I H I' H' σ c O O' g := fun r g hg => by
      obtain ⟨i, p, h1, h2, h3, h4, h5, h6⟩ := outs_get ho ok hg
      obtain ⟨v', d', g2, g3, x⟩ := hfn i h1
      obtain ⟨r', p', dd, v0, fa, fb, g1, op⟩ : ∃ (r : Nat) (p : List Nat) (d : D) (v0 : V) (fa fb : List Addr), es[i]? = some (EV.pl r p) ∧ Opn A I H σ c O r p v' d d' v0 fa (fn i) fb := by
        rcases x with x | ⟨x, _⟩
        · exact x
        · rw [h2] at x
          cases x
      rw [h2] at g1
      cases g1
      have er := chgOf_r hg
      obtain ⟨dc, vc, dc', q1, q2, q3, q4, q5⟩ := S2.lks i [] v' (by have := lkV_in (i := 0) h1 g2; rwa [Nat.zero_add] at this)
      rw [h3] at q1
      cases q1
      rw [getP] at q3
      cases q3
      have q5 : v' = vc := q5
      subst q5
      obtain ⟨vc2, q6, fp, rr, nd, l⟩ := S2.vals i _ h3
      rw [q2] at q6
      cases q6
      have out : ∀ a ∈ fa ++ fb, O0 a = none := fun a ha => by
        cases z : O0 a with
        | none => rfl
        | some w =>
          obtain ⟨j, rfl⟩ := inl0 a w z
          have l2 := op.lab a (by rcases List.mem_append.mp ha with ha | ha <;> simp [ha])
          obtain ⟨k1, k3, ⟨r2, p2, k2, k4⟩ | ⟨_, _, k4⟩⟩ := lab0 a j z
          rotate_left
          · rw [k4] at l2
            cases l2
          rw [k4] at l2
          cases l2
          have := okM_ne ok k1 h1 k2 h2 rfl
          subst this
          have nd2 := op.nd
          rw [List.append_assoc, List.nodup_append] at nd2
          obtain ⟨_, nd3, nd4⟩ := nd2
          rw [List.nodup_append] at nd3
          rcases List.mem_append.mp ha with ha | ha
          · exact absurd rfl (nd4 a ha a (by simp [k3]))
          · exact absurd rfl (nd3.2.2 a k3 a ha)
      have outL : ∀ a ∈ fa ++ fb, O a = some (.inl r) := fun a ha => op.lab a (by rcases List.mem_append.mp ha with ha | ha <;> simp [ha])
      have l2 : ∀ a ∈ fa ++ fb, O2 a = none := fun a ha => (same a _ (outL a ha) (out a ha)).2
      rw [← er] at op
      refine ⟨v', dd, d', v0, fa, fn i, fb, fp, by rw [h5]; exact op, ?_, q4, ?_, fun a ha => (same a _ (outL a ha) (out a ha)).1, fun a ha => ?_, fun q1 hq => ?_⟩
      · exact R.noBor _ rr h4
      · have nd2 := op.nd
        rw [List.append_assoc, List.nodup_append] at nd2 ⊢
        obtain ⟨n1, n2, n3⟩ := nd2
        rw [List.nodup_append] at n2 ⊢
        obtain ⟨n4, n5, n6⟩ := n2
        refine ⟨n1, ⟨nd, n5, fun a ha b hb e => ?_⟩, fun a ha b hb e => ?_⟩
        · subst e
          have := l a ha
          rw [l2 a (by simp [hb])] at this
          cases this
        · subst e
          rcases List.mem_append.mp hb with hb | hb
          · have := l a hb
            rw [l2 a (by simp [ha])] at this
            cases this
          · exact n3 a ha a (by simp [hb]) rfl
      · rw [hO', er]
        by_cases hf : a ∈ fp
        · rw [l a hf]
          dsimp only
          rw [if_pos h1, h2]
        · have ha2 : a ∈ fa ++ fb := by
            simp only [List.mem_append] at ha ⊢
            rcases ha with (ha | ha) | ha
            · exact .inl ha
            · exact absurd ha hf
            · exact .inr ha
          rw [l2 a ha2]
          dsimp only
          rw [if_pos (out a ha2), outL a ha2]
      · rw [h6] at hq
        have hq : q1 = [] := by simpa using hq
        subst hq
        intro w x gx nx va
        exact ⟨va, g.e, rfl, q4⟩
    have S3 : Sat A I' H' σ (updC (chgs ms es os) c) ts O' lk := by
      refine S.upd (xs := xs) i2 S2.ih (fun a o e => bH2 a o (bB a o e)) (fun a o e => ?_) (fun a r h h2 => ?_) (fun a j h h2 => ?_) made hk fun a w h => ?_
      · rcases S2.ib a o e with z | z
        · exact .inl z
        · refine .inr ?_
          cases q : A.B a with
          | none => rfl
          | some u =>
            have z : B' a = none := z
            rw [bB a u q] at z
            cases z
      · have h0 : O0 a = none := by
          cases z : O0 a with
          | none => rfl
          | some w =>
            obtain ⟨i, rfl⟩ := inl0 a w z
            obtain ⟨k1, k3, ⟨r2, p2, k2, k4⟩ | ⟨_, _, k4⟩⟩ := lab0 a i z
            rotate_left
            · rw [h] at k4
              cases k4
            rw [h] at k4
            cases k4
            obtain ⟨g, hg⟩ := outs_root ho ok k1 k2
            rw [h2] at hg
            cases hg
        obtain ⟨s1, s2⟩ := same a _ h h0
        refine ⟨s1, ?_⟩
        rw [hO', s2]
        dsimp only
        rw [if_pos h0, h]
      · have h0 : O0 a = none := by
          cases z : O0 a with
          | none => rfl
          | some w =>
            obtain ⟨i, rfl⟩ := inl0 a w z
            obtain ⟨k1, k3, ⟨r2, p2, k2, k4⟩ | ⟨_, _, k4⟩⟩ := lab0 a i z
            · rw [h] at k4
              cases k4
            · rw [h] at k4
              simp only [Option.some.injEq, Sum.inr.injEq] at k4
              omega
        obtain ⟨s1, s2⟩ := same a _ h h0
        refine ⟨s1, ?_⟩
        rw [hO', s2]
        dsimp only
        rw [if_pos h0, h]
        dsimp only
        rw [if_pos h2]
      · rw [hO'] at h
        cases q : O2 a with
        | some w2 =>
          obtain ⟨f1, f2, f3⟩ := S2.fr a w2 q
          refine ⟨f1, ?_, f3⟩
          cases z : A.B a with
          | none => rfl
          | some u =>
            have f2 : B' a = none := f2
            rw [bB a u z] at f2
            cases f2
        | none =>
          rw [q] at h
          dsimp only at h
          by_cases h0 : O0 a = none
          · rw [if_pos h0] at h
            have : ∃ w, O a = some w := by
              cases z : O a with
              | none => rw [z] at h; cases h
              | some w => exact ⟨w, rfl⟩
            obtain ⟨w2, hw⟩ := this
            obtain ⟨f1, f2, o, f3⟩ := S.fr a w2 hw
            obtain ⟨k1, k2⟩ := key a h0 o f3
            refine ⟨?_, f2, o, k1⟩
            cases z : I' a with
            | none => rfl
            | some u =>
              rcases S2.ib a u z with y | y
              · have y : I a = some u := y
                rw [f1] at y
                cases y
              · have y : B' a = none := y
                rw [b0 a h0, f3] at y
                cases y
          · rw [if_neg h0] at h
            cases h
    refine ⟨O', S3.ih, S3.bh, S3.i0, S3.ib, S3.len, S3.vals, S3.als, fun j d v e => ?_, S3.lks, S3.lke, S3.fr⟩
    by_cases hj : j < ts.length
    · rw [List.getElem?_append_left hj] at e
      exact S3.tmps j d v e
    · rw [List.getElem?_append_right (Nat.le_of_not_lt hj)] at e
      obtain ⟨fp, rr, nd, l⟩ := S2.tmps _ d v e
      have hl := (List.getElem?_eq_some_iff.mp e).1
      refine ⟨fp, R.noBor _ rr (hnb (d, v) (List.mem_of_getElem? e)), nd, fun a ha => ?_⟩
      rw [hO', l a ha]
      dsimp only
      rw [if_pos hl]
      have : ts.length + (j - ts.length) = j := by omega
      rw [this]
end
end Lc
end
section
set_option Elab.async false
set_option linter.all false
set_option maxRecDepth 100000
set_option maxHeartbeats 1000000
namespace Lc
open PySem L2
open PyProof.Rows (envOfC)

theorem unlocks_s : ∀ (es : List EV) (c : Ctx), (unlocks es c).s = c.s
  | [], c => rfl
  | .t _ :: es, c => unlocks_s es c
  | .pl _ _ :: es, c => unlocks_s es c
theorem tmpsOf_t : ∀ {es : List EV} {vs : List V} {ds : List D} {ws : List V}, vs.length = es.length → ws.length = ds.length → tmpsOf (es ++ ds.map EV.t) (vs ++ ws) = tmpsOf es vs ++ ds.zip ws
  | [], [], ds, ws, _, h => by
    have : ∀ {ds : List D} {ws : List V}, ws.length = ds.length → tmpsOf (ds.map EV.t) ws = ds.zip ws := fun {ds} => by
      induction ds with
      | nil =>
        intro ws h
        cases ws with
        | nil => rfl
        | cons _ _ => cases h
      | cons d ds ih =>
        intro ws h
        cases ws with
        | nil => cases h
        | cons w ws =>
          rw [List.map_cons, tmpsOf, List.zip_cons_cons, ih (by simpa using h)]
    exact this h
  | .t d :: es, v :: vs, ds, ws, h, h2 => by
    have h : vs.length = es.length := by simpa using h
    show (d, v) :: tmpsOf (es ++ ds.map EV.t) (vs ++ ws) = _
    rw [tmpsOf_t h h2]
    rfl
  | .pl r p :: es, v :: vs, ds, ws, h, h2 => by
    have h : vs.length = es.length := by simpa using h
    show tmpsOf (es ++ ds.map EV.t) (vs ++ ws) = _
    rw [tmpsOf_t h h2]
    rfl
  | _ :: _, [], _, _, h, _ => by cases h
  | [], _ :: _, _, _, h, _ => by cases h

section
variable {A : Act} {W : Wx} {X : Cx} {I H I' H' : Hp} {σ σ' : St} {c c' : Ctx} {ts xs : List (D × V)} {O O' : Addr → Option Ow} {lk : List (Nat × List Nat × V)} {d : D} {v : V} {w : Ow} {r : Nat} {p : List Nat}
theorem ArgAt.ctx {n : Nat} {e : EV} (h : ArgAt A I H σ c O n e v d) (hs : c'.s = c.s) : ArgAt A I H σ c' O n e v d := by
  cases e with
  | t _ => exact h
  | pl r p =>
    obtain ⟨pv, d0, e1, e2⟩ := h
    exact ⟨pv.ctx hs, d0, by rw [hs]; exact e1, e2⟩

/-- constants that a def's defaults are -/
def Dv (g : Gs) : List D → List V → Prop := Paired fun d v => ∀ I B H, R g I B H d v []
theorem Dv.get {g : Gs} : ∀ {ds : List D} {vs : List V} {i : Nat} {d : D} {v : V}, Dv g ds vs → ds[i]? = some d → vs[i]? = some v → ∀ I B H, R g I B H d v []
  | _, _, 0, d, v, .cons h _, e1, e2 => by
    have e1 := Option.some.inj e1
    have e2 := Option.some.inj e2
    subst e1 e2
    exact h
  | _, _, i + 1, d, v, .cons _ t, e1, e2 => Dv.get (i := i) t (by simpa using e1) (by simpa using e2)
  | _, _, _, _, _, .nil, e1, _ => by simp at e1

theorem tE_call {ms : List Bool} {nl : Nat} {body : Ctx → SR} {args : List (Ctx → ER)} {dds : List D} {dvs : List V} (hdv : Dv A.g dds dvs) : ∀ σ H Q, tE A W (eCall ms (runF ms nl body) args dds) σ H Q →
    tCallSD (spF A.g.G A.g.K ms nl body) dvs (WE W) (tA' A W (eArgs args)) σ H Q := fun σ H Q ⟨I, c, ts, O, lk, S, h⟩ => by
  refine ⟨I, c, ts, O, lk, S, ?_⟩
  rw [eCall] at h
  cases e : eArgs args c with
  | bad => rw [e] at h; exact h
  | exc k n x c1 => rw [e] at h; exact h
  | ok es c2 =>
    rw [e] at h
    dsimp only at h
    intro vs I2 H2 O2 hl S2
    cases e2 : valsOf c2 es with
    | none => rw [e2] at h; exact h.elim
    | some ds =>
      rw [e2] at h
      dsimp only at h
      have hdl : ds.length = es.length := by
        have := (Sat.valsOf hl e2 S2).length
        omega
      have hdw : dvs.length = dds.length := hdv.length.symm
      by_cases ok : (okM ms (es ++ dds.map .t) && okB (rootsM ms (es ++ dds.map .t)) ms (es ++ dds.map .t)) = true
      · rw [if_pos ok] at h
        rw [Bool.and_eq_true] at ok
        by_cases hml : (ds ++ dds).length = ms.length
        · have S3 := Sat.unlockL hl S2
          have hes : (es ++ dds.map EV.t).length = ms.length := by
            rw [← hml, List.length_append, List.length_append, List.length_map, hdl]
          have hvl : (vs ++ dvs).length = ms.length := by
            rw [← hml, List.length_append, List.length_append, hdw, hl, hdl]
          have hargs : ∀ (i : Nat) (e : EV) (v : V) (d : D), (es ++ dds.map EV.t)[i]? = some e → (vs ++ dvs)[i]? = some v → (ds ++ dds)[i]? = some d → ArgAt A I2 H2 σ (unlocks es c2) O2 (ts.length + tix (es ++ dds.map EV.t) i) e v d := fun i e v d g1 g2 g3 => by
            by_cases hi : i < es.length
            · rw [List.getElem?_append_left hi] at g1
              rw [List.getElem?_append_left (by omega)] at g2 g3
              rw [tix_app hi]
              exact (Sat.args hl e2 S2 g1 g2 g3).ctx (unlocks_s es c2)
            · rw [List.getElem?_append_right (by omega)] at g1 g2 g3
              rw [hl] at g2
              rw [hdl] at g3
              rw [List.getElem?_map] at g1
              rw [g3] at g1
              cases g1
              exact ⟨rfl, RO.leaf (hdv.get g3 g2 _ _ _)⟩
          obtain ⟨A', O0, hg, Sc, back⟩ := call_core (nl := nl) (ds := ds ++ dds) (vs := vs ++ dvs) (es := es ++ dds.map EV.t) S3 hvl hml hargs hes ok.1 ok.2
          refine ⟨hvl, A', I2, O0, ds ++ dds, by rw [hg], by rw [hg], hml, Sc, ?_⟩
          rw [runF, if_pos hml] at h
          cases e3 : body (initC ms nl (ds ++ dds)) with
          | bad => rw [e3] at h; exact h.elim
          | bk c3 => rw [e3] at h; exact h.elim
          | ct c3 => rw [e3] at h; exact h.elim
          | nx c3 =>
            rw [e3] at h
            dsimp only at h ⊢
            cases e4 : outs ms c3.s with
            | none => rw [e4] at h; exact h.elim
            | some os =>
              rw [e4] at h
              dsimp only at h
              by_cases hk : lkOk (chgs ms (es ++ dds.map .t) os) (unlocks es c2).k = true
              · rw [if_pos hk] at h
                intro σ' I' H' O3 S4
                obtain ⟨O4, S5⟩ := back [] σ' I' H' O3 c3 os S4 e4 (by simp) (by simp) hk
                rw [List.append_nil] at S5
                exact h .non I' H' O4 (S5.push (by rw [R]; exact ⟨rfl, rfl⟩))
              · rw [if_neg hk] at h
                exact h.elim
          | rt d c3 =>
            rw [e3] at h
            dsimp only at h ⊢
            cases e4 : outs ms c3.s with
            | none => rw [e4] at h; exact h.elim
            | some os =>
              rw [e4] at h
              dsimp only at h
              by_cases hb : noBor d = true
              · rw [if_pos hb] at h
                dsimp only at h
                by_cases hk : lkOk (chgs ms (es ++ dds.map .t) os) (unlocks es c2).k = true
                · rw [if_pos hk] at h
                  intro v σ' I' H' O3 S4
                  obtain ⟨O4, S5⟩ := back [(d, v)] σ' I' H' O3 c3 os S4 e4 (by simp) (by simpa using hb) hk
                  exact h v I' H' O4 S5
                · rw [if_neg hk] at h
                  exact h.elim
              · rw [if_neg hb] at h
                exact h.elim
          | exc k n x c3 =>
            rw [e3] at h
            dsimp only at h ⊢
            cases e4 : outs ms c3.s with
            | none => rw [e4] at h; exact h.elim
            | some os =>
              rw [e4] at h
              dsimp only at h
              by_cases hk : lkOk (chgs ms (es ++ dds.map .t) os) (unlocks es c2).k = true
              · rw [if_pos hk] at h
                intro σ' dd v I' H' O3 S4 i rx
                obtain ⟨O4, S5⟩ := back [] σ' I' H' O3 c3 os S4 e4 (by simp) (by simp) hk
                rw [List.append_nil] at S5
                have := h dd v I' H' O4 S5 i (by rw [← hg]; exact rx)
                rw [hg]
                exact this
              · rw [if_neg hk] at h
                exact h.elim
        · rw [runF, if_neg hml] at h
          exact h.elim
      · rw [if_neg ok] at h
        exact h.elim

variable {G : Nat → Addr} {f : Addr} {fd : FuncData} {ps : List Str} {ms : List Bool} {nl k : Nat} {body : Ctx → SR} {Φ : List D → FR} {x : Str} {pos pos' : Pos} {e : Expr} {es : List Expr} {args : List (Ctx → ER)} {dds : List D} {dvs : List V} {dvals : List Value}
theorem PE_call (F : FnOk X.prog X.w X.K X.mg X.base (L2.CX X.prog X.w) k f fd ps (spF G X.K ms nl body)) (o : On X A.g) (hG : A.g.G = G) (hΦ : Φ = runF ms nl body) (hr : Room k X.A) (hg : Gl X x) (hm : X.mg x = some (.ref f)) (hk : PySem.W.keepIn X.K (.ref f) = true) (hb : Binds X.K fd ps dvals) (hd : Vals dvs dvals) (hdv : Dv A.g dds dvs)
    (tk : Takes X W) (ha : PA X (e :: es) (tA' A W (eArgs args))) (hdb : (x == ("__debug__" : Str)) = false := by decide) (he : starEach (e :: es) X.env = (false, eval e X.env) :: starEach es X.env := by rfl) (hpl : (backTo pos (starEach es X.env)).any (·.1) = false := by rfl) :
    PE X (.Call (.Name x pos') (e :: es) [] pos) (tE A W (eCall ms Φ args dds)) := by
  subst hΦ
  subst hG
  have F : FnOk X.prog X.w X.K X.mg X.base (L2.CX X.prog X.w) k f fd ps (spF A.g.G A.g.K ms nl body) := by
    rw [o.k]
    exact F
  exact PE.imp (pe_callSD F hr hg hm hk hb hd (passAt tk) ha hdb he hpl) (tE_call hdv)
end

section
variable {P : Program} {w : World} {K : PySem.W.Frag} {mg : Str → Option Value} {base : Heap} {G : Nat → Addr}
/-- a def keeps its promise -/
theorem fn_ok {x qual : Str} {st : Stmt} {f : Addr} {fd : FuncData} {N ps : List Str} {k nl : Nat} {ms : List Bool} {body : Ctx → SR} (F : Fun K x qual st f fd) (S : FnScope N ps (defScope st)) (hm : ms.length = ps.length) (hn : N.length = ps.length + nl)
    (hb : ∀ (cdv : Value) (A : Around) (outer : List Env) (s : Shared) (H : Hp) (E : XK), Room k (A.deeper (envOfC qual (defScope st) s.heap.objs.size f cdv)) → ∀ Ac : Act, Ac.g.G = G → Ac.g.K = K →
      PSs (cxOf (L2.CX P w) P w K mg base N qual (defScope st) f cdv A outer s H E) (defBody st) (tS Ac (fun cls d _ H => E cls d H) body)) : FnOk P w K mg base (L2.CX P w) (k + 1) f fd ps (spF G K ms nl body) := by
  refine F.okX S (fun vs H Q E h => h.1.trans hm) fun cdv A outer s H vs Q E hr h => ?_
  obtain ⟨hl, Ac, I, O, ds, hg, hg2, hd, Sa, h⟩ := h
  refine ⟨_, hb cdv A outer s H E hr Ac hg hg2, ?_⟩
  have hst : L2.start N vs = vs.map some ++ List.replicate nl none := by
    rw [L2.start]
    congr 2
    omega
  rw [hst]
  refine ⟨I, initC ms nl ds, O, _, Sa, ?_⟩
  cases e : body (initC ms nl ds) with
  | bad => rw [e] at h; exact h
  | bk c3 => rw [e] at h; exact h.elim
  | ct c3 => rw [e] at h; exact h.elim
  | nx c3 => rw [e] at h; exact h
  | rt d c3 => rw [e] at h; exact h
  | exc k n x c3 => rw [e] at h; exact h
end
end Lc
end
section
set_option Elab.async false
set_option linter.all false
set_option maxRecDepth 100000
set_option maxHeartbeats 1000000
namespace Lc
open PySem L2

/-! ### a container is changed: its kids are old kids and arguments -/
def pick {α : Type} : List Nat → List α → List α
  | [], _ => []
  | j :: js, zs => match zs[j]? with
    | some z => z :: pick js zs
    | none => pick js zs

/-- the cells of each item -/
inductive RLs (g : Gs) (I B H : Hp) : List D → List V → List (List Addr) → Prop where
  | nil : RLs g I B H [] [] []
  | cons {d : D} {v : V} {f : List Addr} {ds : List D} {vs : List V} {fs : List (List Addr)} : R g I B H d v f → RLs g I B H ds vs fs → RLs g I B H (d :: ds) (v :: vs) (f :: fs)
theorem RL.split {g : Gs} {I B H : Hp} : ∀ {xs : List D} {vs : List V} {fp : List Addr}, RL g I B H xs vs fp → ∃ fs, fp = fs.flatten ∧ RLs g I B H xs vs fs
  | [], vs, fp, h => by
    rw [RL] at h
    obtain ⟨rfl, rfl⟩ := h
    exact ⟨[], rfl, .nil⟩
  | x :: xs, vs, fp, h => by
    rw [RL] at h
    obtain ⟨v, vr, f1, f2, rfl, rfl, h1, h2⟩ := h
    obtain ⟨fs, rfl, r⟩ := RL.split h2
    exact ⟨f1 :: fs, by simp, .cons h1 r⟩
theorem RLs.join {g : Gs} {I B H : Hp} {xs : List D} {vs : List V} {fs : List (List Addr)} (h : RLs g I B H xs vs fs) : RL g I B H xs vs fs.flatten := by
  induction h with
  | nil =>
    rw [RL]
    exact ⟨rfl, rfl⟩
  | @cons d v f ds vs fs h r ih =>
    rw [RL]
    exact ⟨v, vs, f, fs.flatten, rfl, by simp, h, ih⟩
theorem RLs.append {g : Gs} {I B H : Hp} {xs ys : List D} {vs ws : List V} {fs gs : List (List Addr)} (h : RLs g I B H xs vs fs) (h2 : RLs g I B H ys ws gs) : RLs g I B H (xs ++ ys) (vs ++ ws) (fs ++ gs) := by
  induction h with
  | nil => exact h2
  | cons r _ ih => exact .cons r ih
theorem RLs.get {g : Gs} {I B H : Hp} {xs : List D} {vs : List V} {fs : List (List Addr)} (h : RLs g I B H xs vs fs) : ∀ j : Nat, (xs[j]? = none ∧ vs[j]? = none ∧ fs[j]? = none) ∨ ∃ d v f, xs[j]? = some d ∧ vs[j]? = some v ∧ fs[j]? = some f ∧ R g I B H d v f := by
  induction h with
  | nil => exact fun j => .inl ⟨by simp, by simp, by simp⟩
  | @cons d v f ds vs fs r _ ih =>
    intro j
    cases j with
    | zero => exact .inr ⟨d, v, f, rfl, rfl, rfl, r⟩
    | succ j => simpa using ih j
theorem RLs.pick {g : Gs} {I B H : Hp} {xs : List D} {vs : List V} {fs : List (List Addr)} (h : RLs g I B H xs vs fs) : ∀ js : List Nat, RLs g I B H (Lc.pick js xs) (Lc.pick js vs) (Lc.pick js fs)
  | [] => .nil
  | j :: js => by
    rw [Lc.pick, Lc.pick, Lc.pick]
    rcases h.get j with ⟨e1, e2, e3⟩ | ⟨d, v, f, e1, e2, e3, r⟩
    · rw [e1, e2, e3]
      exact h.pick js
    · rw [e1, e2, e3]
      exact .cons r (h.pick js)
theorem RLs.len {g : Gs} {I B H : Hp} {xs : List D} {vs : List V} {fs : List (List Addr)} (h : RLs g I B H xs vs fs) : vs.length = xs.length ∧ fs.length = xs.length := by
  induction h with
  | nil => exact ⟨rfl, rfl⟩
  | cons _ _ ih => exact ⟨by rw [List.length_cons, List.length_cons, ih.1], by rw [List.length_cons, List.length_cons, ih.2]⟩

theorem flat_dis : ∀ {fs : List (List Addr)} {i j : Nat} {f1 f2 : List Addr} {a : Addr}, fs.flatten.Nodup → fs[i]? = some f1 → fs[j]? = some f2 → a ∈ f1 → a ∈ f2 → i = j
  | f :: fs, 0, 0, _, _, _, _, _, _, _, _ => rfl
  | f :: fs, 0, j + 1, f1, f2, a, n, e1, e2, h1, h2 => by
    have e1 : f = f1 := by simpa using e1
    have e2 : fs[j]? = some f2 := by simpa using e2
    subst e1
    rw [List.flatten_cons, List.nodup_append] at n
    exact absurd rfl (n.2.2 a h1 a (List.mem_flatten.mpr ⟨f2, List.mem_of_getElem? e2, h2⟩))
  | f :: fs, i + 1, 0, f1, f2, a, n, e1, e2, h1, h2 => by
    have e2 : f = f2 := by simpa using e2
    have e1 : fs[i]? = some f1 := by simpa using e1
    subst e2
    rw [List.flatten_cons, List.nodup_append] at n
    exact absurd rfl (n.2.2 a h2 a (List.mem_flatten.mpr ⟨f1, List.mem_of_getElem? e1, h1⟩))
  | f :: fs, i + 1, j + 1, f1, f2, a, n, e1, e2, h1, h2 => by
    rw [List.flatten_cons, List.nodup_append] at n
    have e1 : fs[i]? = some f1 := by simpa using e1
    have e2 : fs[j]? = some f2 := by simpa using e2
    exact congrArg (· + 1) (flat_dis n.2.1 e1 e2 h1 h2)
  | [], _, _, _, _, _, _, e, _, _, _ => by simp at e
theorem flat_one : ∀ {fs : List (List Addr)} {f : List Addr}, fs.flatten.Nodup → f ∈ fs → f.Nodup
  | f0 :: fs, f, n, h => by
    rw [List.flatten_cons, List.nodup_append] at n
    cases h with
    | head => exact n.1
    | tail _ h => exact flat_one n.2.1 h
  | [], _, _, h => by cases h
theorem pick_mem {α : Type} : ∀ {js : List Nat} {zs : List α} {z : α}, z ∈ pick js zs → ∃ j, j ∈ js ∧ zs[j]? = some z
  | [], _, _, h => by cases h
  | j :: js, zs, z, h => by
    rw [pick] at h
    cases e : zs[j]? with
    | none =>
      rw [e] at h
      obtain ⟨i, h1, h2⟩ := pick_mem h
      exact ⟨i, List.mem_cons_of_mem _ h1, h2⟩
    | some y =>
      rw [e] at h
      rcases List.mem_cons.mp h with h | h
      · subst h
        exact ⟨j, List.mem_cons_self .., e⟩
      · obtain ⟨i, h1, h2⟩ := pick_mem h
        exact ⟨i, List.mem_cons_of_mem _ h1, h2⟩
theorem pick_nodup {fs : List (List Addr)} (n : fs.flatten.Nodup) : ∀ {js : List Nat}, js.Nodup → (pick js fs).flatten.Nodup
  | [], _ => List.nodup_nil
  | j :: js, h => by
    rw [List.nodup_cons] at h
    rw [pick]
    cases e : fs[j]? with
    | none => exact pick_nodup n h.2
    | some f =>
      dsimp only
      rw [List.flatten_cons, List.nodup_append]
      refine ⟨flat_one n (List.mem_of_getElem? e), pick_nodup n h.2, fun a ha b hb z => ?_⟩
      subst z
      obtain ⟨f2, h1, h2⟩ := List.mem_flatten.mp hb
      obtain ⟨i, h3, h4⟩ := pick_mem h1
      have := flat_dis n e h4 ha h2
      subst this
      exact h.1 h3
theorem pick_get {α : Type} : ∀ {js : List Nat} {zs : List α} {i j : Nat} , (∀ j ∈ js, j < zs.length) → js[i]? = some j → (pick js zs)[i]? = zs[j]?
  | j0 :: js, zs, 0, j, h, e => by
    have e : j0 = j := by simpa using e
    subst e
    have hj := h j0 (List.mem_cons_self ..)
    rw [pick, List.getElem?_eq_getElem hj]
    rfl
  | j0 :: js, zs, i + 1, j, h, e => by
    have hj := h j0 (List.mem_cons_self ..)
    rw [pick, List.getElem?_eq_getElem hj]
    exact pick_get (fun j hj => h j (List.mem_cons_of_mem _ hj)) (by simpa using e)
  | [], _, _, _, _, e => by simp at e
theorem pick_len {α : Type} : ∀ {js : List Nat} {zs : List α}, (∀ j ∈ js, j < zs.length) → (pick js zs).length = js.length
  | [], _, _ => rfl
  | j :: js, zs, h => by
    rw [pick, List.getElem?_eq_getElem (h j (List.mem_cons_self ..))]
    show _ + 1 = _ + 1
    rw [pick_len fun j hj => h j (List.mem_cons_of_mem _ hj)]

/-- what a change does: the new kind, the new kids (by place among the old kids and the arguments), the result: one of them | a constant -/
structure Mut where
  k : Kd
  js : List Nat
  res : Sum Nat D
def Mut.ok (m : Mut) (n : Nat) : Bool := m.js.all (fun j => decide (j < n)) && decide m.js.Nodup && (match m.res with | .inl j => decide (j < n) && !(m.js.contains j) | .inr d => noBor d && Lc.noOwn d)
def keepJ (js : List Nat) (q : List Nat) : Bool := match q with
  | [] => true
  | i :: _ => js[i]? == some i

section
variable {A : Act} {W : Wx} {I H I' H' : Hp} {σ σ' : St} {c c' : Ctx} {ts xs : List (D × V)} {O O' : Addr → Option Ow} {lk : List (Nat × List Nat × V)} {d : D} {v : V} {w : Ow} {r : Nat} {p : List Nat}

/-- the value of the result -/
def ResV (A : Act) (I H : Hp) (m : Mut) (us : List V) (zs : List D) (d : D) (v : V) : Prop := match m.res with
  | .inl j => us[j]? = some v ∧ zs[j]? = some d
  | .inr d0 => d = d0 ∧ R A.g I A.B H d0 v []

theorem mut_core {l : Addr} {k : Kd} {kxs ds : List D} {kvs ws : List V} {m : Mut} {o' : HO} {fa : List Addr} (S : Sat A I H σ c (ts ++ xs) O lk) (pv : PV A I H σ c O r p v) (hd : ∃ d0, c.s[r]? = some (.v d0) ∧ getP d0 p = some (.nd k .own kxs)) (hv : v = .ref l) (ho : OwnC A.g H k l kvs)
    (ra : RL A.g I A.B H ds ws fa) (nd : fa.Nodup) (la : ∀ a ∈ fa, ∃ j, O a = some (.inr j) ∧ ts.length ≤ j) (ok : m.ok (kxs ++ ds).length = true)
    (hn : OwnC A.g (upd H l o') m.k l (pick m.js (kvs ++ ws))) {w' : V} (rv : ResV A I (upd H l o') m (kvs ++ ws) (kxs ++ ds) d w')
    (hk : lkOk [⟨r, p, keepJ m.js, .nd m.k .own (pick m.js (kxs ++ ds))⟩] c.k = true) :
    ∃ O', Sat A I (upd H l o') σ (updC [⟨r, p, keepJ m.js, .nd m.k .own (pick m.js (kxs ++ ds))⟩] c) (ts ++ [(d, w')]) O' lk := by
  classical
  subst hv
  obtain ⟨d1, d', v0, ga, fn, gb, op⟩ := S.opn pv
  obtain ⟨d0, h1, h2⟩ := hd
  have e1 := op.slot
  rw [h1] at e1
  cases e1
  have e2 := op.get
  rw [h2] at e2
  cases e2
  have rel := op.rel
  rw [R] at rel
  obtain ⟨l', vs', fq, e3, rfl, hoc, rk⟩ := rel
  cases e3
  have ev := hoc.inj ho
  subst ev
  -- the cells
  obtain ⟨fs1, rfl, s1⟩ := rk.split
  obtain ⟨fs2, rfl, s2⟩ := ra.split
  have sall := s1.append s2
  have ndl := op.nd
  rw [List.append_assoc, List.nodup_append] at ndl
  obtain ⟨n1, n2, n3⟩ := ndl
  rw [List.nodup_append] at n2
  obtain ⟨n4, n5, n6⟩ := n2
  rw [List.nodup_cons] at n4
  have labK : ∀ a ∈ fs1.flatten, O a = some (.inl r) := fun a ha => op.lab a (by simp [ha])
  have labL : O l = some (.inl r) := op.lab l (by simp)
  have ndA : (fs1 ++ fs2).flatten.Nodup := by
    rw [List.flatten_append, List.nodup_append]
    refine ⟨n4.2, nd, fun a ha b hb z => ?_⟩
    subst z
    obtain ⟨j, e, _⟩ := la a hb
    rw [labK a ha] at e
    cases e
  have nl : ∀ f ∈ fs1 ++ fs2, l ∉ f := fun f hf hl => by
    rcases List.mem_append.mp hf with hf | hf
    · exact n4.1 (List.mem_flatten.mpr ⟨f, hf, hl⟩)
    · obtain ⟨j, e, _⟩ := la l (List.mem_flatten.mpr ⟨f, hf, hl⟩)
      rw [labL] at e
      cases e
  rw [Mut.ok, Bool.and_eq_true, Bool.and_eq_true] at ok
  obtain ⟨⟨ok1, ok2⟩, ok3⟩ := ok
  have okj : ∀ j ∈ m.js, j < (kxs ++ ds).length := fun j hj => by simpa using List.all_eq_true.mp ok1 j hj
  have ok2 : m.js.Nodup := by simpa using ok2
  have lenV : (vs' ++ ws).length = (kxs ++ ds).length := sall.len.1
  have lenF : (fs1 ++ fs2).length = (kxs ++ ds).length := sall.len.2
  have mv : ∀ {d : D} {v : V} {f : List Addr}, f ∈ fs1 ++ fs2 → R A.g I A.B H d v f → R A.g I A.B (upd H l o') d v f := fun {d v f} hf h => R.keep d h (leH.refl _) (leH.refl _) fun a ha => upd_ne fun z => nl f hf (z ▸ ha)
  have pk := sall.pick m.js
  have pkm : RLs A.g I A.B (upd H l o') (pick m.js (kxs ++ ds)) (pick m.js (vs' ++ ws)) (pick m.js (fs1 ++ fs2)) := by
    have : ∀ {a : List D} {b : List V} {f : List (List Addr)}, RLs A.g I A.B H a b f → (∀ x ∈ f, x ∈ fs1 ++ fs2) → RLs A.g I A.B (upd H l o') a b f := fun {a b f} h => by
      induction h with
      | nil => exact fun _ => .nil
      | cons h _ ih => exact fun q => .cons (mv (q _ (List.mem_cons_self ..)) h) (ih fun x hx => q x (List.mem_cons_of_mem _ hx))
    refine this pk fun x hx => ?_
    obtain ⟨j, _, e⟩ := pick_mem hx
    exact List.mem_of_getElem? e
  -- the result
  have rres : ∃ fr, R A.g I A.B (upd H l o') d w' fr ∧ fr.Nodup ∧ (fr = [] ∨ ∃ j, j < (kxs ++ ds).length ∧ j ∉ m.js ∧ (fs1 ++ fs2)[j]? = some fr) := by
    unfold ResV at rv
    cases em : m.res with
    | inr dd =>
      rw [em] at rv
      obtain ⟨rfl, rv⟩ := rv
      exact ⟨[], rv, List.nodup_nil, .inl rfl⟩
    | inl j =>
      rw [em] at rv ok3
      dsimp only at rv ok3
      rw [Bool.and_eq_true] at ok3
      rcases sall.get j with ⟨z, _⟩ | ⟨dd, vv, f, z1, z2, z3, rr⟩
      · rw [z] at rv
        cases rv.2
      · rw [z1, z2] at rv
        cases rv.1
        cases rv.2
        exact ⟨f, mv (List.mem_of_getElem? z3) rr, flat_one ndA (List.mem_of_getElem? z3), .inr ⟨j, by simpa using ok3.1, by simpa using ok3.2, z3⟩⟩
  obtain ⟨fr, rr, ndr, hfr⟩ := rres
  -- the labels
  have labA : ∀ f ∈ fs1 ++ fs2, ∀ a ∈ f, O a = some (.inl r) ∨ ∃ j, O a = some (.inr j) ∧ ts.length ≤ j := fun f hf a ha => by
    rcases List.mem_append.mp hf with hf | hf
    · exact .inl (labK a (List.mem_flatten.mpr ⟨f, hf, ha⟩))
    · exact .inr (la a (List.mem_flatten.mpr ⟨f, hf, ha⟩))
  obtain ⟨fp', hfp⟩ : ∃ fp', fp' = (pick m.js (fs1 ++ fs2)).flatten := ⟨_, rfl⟩
  have fpm : ∀ a ∈ fp', ∃ j f, j ∈ m.js ∧ (fs1 ++ fs2)[j]? = some f ∧ a ∈ f := fun a ha => by
    rw [hfp] at ha
    obtain ⟨f, h1, h2⟩ := List.mem_flatten.mp ha
    obtain ⟨j, h3, h4⟩ := pick_mem h1
    exact ⟨j, f, h3, h4, h2⟩
  have frm : ∀ a ∈ fr, ∃ j f, j ∉ m.js ∧ (fs1 ++ fs2)[j]? = some f ∧ a ∈ f := fun a ha => by
    rcases hfr with e | ⟨j, _, h1, h2⟩
    · rw [e] at ha
      cases ha
    · exact ⟨j, fr, h1, h2, ha⟩
  have disR : ∀ a ∈ fp', a ∉ fr := fun a ha hb => by
    obtain ⟨j, f, h1, h2, h3⟩ := fpm a ha
    obtain ⟨i, f2, h4, h5, h6⟩ := frm a hb
    have := flat_dis ndA h2 h5 h3 h6
    subst this
    exact h4 h1
  have lNe : ∀ a ∈ fr, a ≠ l := fun a ha z => by
    obtain ⟨j, f, _, h2, h3⟩ := frm a ha
    exact nl f (List.mem_of_getElem? h2) (z ▸ h3)
  have lNp : ∀ a ∈ fp', a ≠ l := fun a ha z => by
    obtain ⟨j, f, _, h2, h3⟩ := fpm a ha
    exact nl f (List.mem_of_getElem? h2) (z ▸ h3)
  have outside : ∀ a ∈ ga ++ gb, a ∉ fr ∧ a ∉ fp' ∧ a ≠ l := fun a ha => by
    have lo : O a = some (.inl r) := op.lab a (by rcases List.mem_append.mp ha with ha | ha <;> simp [ha])
    have notIn : ∀ f ∈ fs1 ++ fs2, a ∉ f := fun f hf hb => by
      rcases List.mem_append.mp hf with hf | hf
      · have hb2 : a ∈ fs1.flatten := List.mem_flatten.mpr ⟨f, hf, hb⟩
        rcases List.mem_append.mp ha with ha | ha
        · exact n3 a ha a (by simp [hb2]) rfl
        · exact n6 a (by simp [hb2]) a ha rfl
      · obtain ⟨j, e, _⟩ := la a (List.mem_flatten.mpr ⟨f, hf, hb⟩)
        rw [lo] at e
        cases e
    refine ⟨fun hb => ?_, fun hb => ?_, fun z => ?_⟩
    · obtain ⟨j, f, _, h2, h3⟩ := frm a hb
      exact notIn f (List.mem_of_getElem? h2) h3
    · obtain ⟨j, f, _, h2, h3⟩ := fpm a hb
      exact notIn f (List.mem_of_getElem? h2) h3
    · subst z
      rcases List.mem_append.mp ha with ha | ha
      · exact n3 a ha a (by simp) rfl
      · exact n6 a (by simp) a ha rfl
  obtain ⟨O', hO'⟩ : ∃ O' : Addr → Option Ow, ∀ a, O' a = if a ∈ fr then some (.inr ts.length) else if a ∈ fp' then some (.inl r) else match O a with | some (.inr j) => if j < ts.length then some (.inr j) else none | o => o := ⟨_, fun _ => rfl⟩
  obtain ⟨f1, f2, f3⟩ := S.fr l _ labL
  have S3 : Sat A I (upd H l o') σ (updC [⟨r, p, keepJ m.js, .nd m.k .own (pick m.js (kxs ++ ds))⟩] c) ts O' lk := by
    refine S.upd (xs := xs) (leH.refl _) (fun a o e => ?_) (fun a o e => ?_) (fun a o e => .inl e) (fun a r' h h2 => ?_) (fun a j h h2 => ?_) (fun r' g hg => ?_) hk fun a w h => ?_
    · rw [upd_ne (fun z => by rw [z, f1] at e; cases e)]
      exact S.ih a o e
    · rw [upd_ne (fun z => by rw [z, f2] at e; cases e)]
      exact S.bh a o e
    · have hne : r' ≠ r := fun z => by
        subst z
        rw [chgOf] at h2
        simp at h2
      have na : a ≠ l := fun z => by
        rw [z, labL] at h
        cases h
        exact hne rfl
      refine ⟨upd_ne na, ?_⟩
      have nf : a ∉ fr := fun hb => by
        obtain ⟨j, f, _, z1, z2⟩ := frm a hb
        rcases labA f (List.mem_of_getElem? z1) a z2 with z | ⟨_, z, _⟩ <;> rw [h] at z <;> cases z
        exact hne rfl
      have np : a ∉ fp' := fun hb => by
        obtain ⟨j, f, _, z1, z2⟩ := fpm a hb
        rcases labA f (List.mem_of_getElem? z1) a z2 with z | ⟨_, z, _⟩ <;> rw [h] at z <;> cases z
        exact hne rfl
      rw [hO', if_neg nf, if_neg np, h]
    · have na : a ≠ l := fun z => by
        rw [z, labL] at h
        cases h
      refine ⟨upd_ne na, ?_⟩
      have nf : a ∉ fr := fun hb => by
        obtain ⟨j, f, _, z1, z2⟩ := frm a hb
        rcases labA f (List.mem_of_getElem? z1) a z2 with z | ⟨_, z, _⟩ <;> rw [h] at z <;> cases z
        omega
      have np : a ∉ fp' := fun hb => by
        obtain ⟨j, f, _, z1, z2⟩ := fpm a hb
        rcases labA f (List.mem_of_getElem? z1) a z2 with z | ⟨_, z, _⟩ <;> rw [h] at z <;> cases z
        omega
      rw [hO', if_neg nf, if_neg np, h]
      dsimp only
      rw [if_pos h2]
    · rw [chgOf] at hg
      dsimp only at hg
      by_cases hr : r = r'
      · rw [if_pos hr] at hg
        cases hg
        refine ⟨.ref l, _, _, v0, ga, l :: fs1.flatten, gb, l :: fp', op, ?_, by rw [Lc.noOwn], ?_, fun a ha => upd_ne (outside a ha).2.2, fun a ha => ?_, fun q1 hq => ?_⟩
        · rw [R]
          exact ⟨l, _, fp', rfl, rfl, hn, by rw [hfp]; exact pkm.join⟩
        · rw [List.append_assoc, List.nodup_append]
          refine ⟨n1, ?_, fun a ha b hb z => ?_⟩
          · rw [List.nodup_append]
            refine ⟨?_, n5, fun a ha b hb z => ?_⟩
            · rw [List.nodup_cons]
              refine ⟨fun z => lNp l z rfl, ?_⟩
              rw [hfp]
              exact pick_nodup ndA ok2
            · subst z
              obtain ⟨_, z1, z2⟩ := outside a (by simp [hb])
              rcases List.mem_cons.mp ha with ha | ha
              · exact z2 ha
              · exact z1 ha
          · subst z
            obtain ⟨_, z1, z2⟩ := outside a (by simp [ha])
            rcases List.mem_append.mp hb with hb | hb
            · rcases List.mem_cons.mp hb with hb | hb
              · exact z2 hb
              · exact z1 hb
            · exact n3 a ha a (by simp [hb]) rfl
        · have nf : a ∉ fr := fun hb => by
            rcases List.mem_append.mp ha with ha | ha
            · rcases List.mem_append.mp ha with ha | ha
              · exact (outside a (by simp [ha])).1 hb
              · rcases List.mem_cons.mp ha with ha | ha
                · exact lNe a hb ha
                · exact disR a ha hb
            · exact (outside a (by simp [ha])).1 hb
          rw [hO', if_neg nf]
          by_cases hp : a ∈ fp'
          · rw [if_pos hp]
          · rw [if_neg hp]
            have : O a = some (.inl r) := by
              rcases List.mem_append.mp ha with ha | ha
              · rcases List.mem_append.mp ha with ha | ha
                · exact op.lab a (by simp [ha])
                · rcases List.mem_cons.mp ha with ha | ha
                  · rw [ha]
                    exact labL
                  · exact absurd ha hp
              · exact op.lab a (by simp [ha])
            rw [this]
        · intro w x gx nx va
          cases q1 with
          | nil => exact ⟨va, _, rfl, by rw [Lc.noOwn]⟩
          | cons i q2 =>
            have hq : m.js[i]? = some i := by simpa [keepJ] using hq
            have hlt := okj i (List.mem_of_getElem? hq)
            obtain ⟨l2, vs2, v1, z1, z2, z3, z4⟩ := va
            cases z1
            have : vs' = vs2 := by
              rcases z2 with z2 | ⟨_, k2, z2⟩
              · exact (tup_own (S.ih _ _ z2) ho).elim
              · exact ho.inj z2
            subst this
            have hi : i < vs'.length := (List.getElem?_eq_some_iff.mp z3).1
            rw [getP] at gx
            have gV : (pick m.js (vs' ++ ws))[i]? = some v1 := by
              rw [pick_get (fun j hj => by rw [lenV]; exact okj j hj) hq, List.getElem?_append_left hi]
              exact z3
            have gD : (pick m.js (kxs ++ ds))[i]? = kxs[i]? := by
              rw [pick_get okj hq, List.getElem?_append_left (by rw [← s1.len.1]; exact hi)]
            cases hx : kxs[i]? with
            | none =>
              rw [hx] at gx
              cases gx
            | some y =>
              rw [hx] at gx
              -- the kid's cells
              rcases s1.get i with ⟨z, _⟩ | ⟨dd, vv, f, y1, y2, y3, rr2⟩
              · rw [hx] at z
                cases z
              · rw [hx] at y1
                cases y1
                rw [z3] at y2
                cases y2
                obtain ⟨w2, _, _, _, _, va5, _⟩ := R.place q2 rr2 (show getP y q2 = some x from gx) nx
                have ew : w2 = w := va5.inj (fun q vs k ws hi ho => tup_own (S.ih _ _ hi) ho) z4
                subst ew
                have fin : ∀ a ∈ f, a ∈ fp' := fun a ha => by
                  rw [hfp]
                  refine List.mem_flatten.mpr ⟨f, ?_, ha⟩
                  have : (pick m.js (fs1 ++ fs2))[i]? = some f := by
                    rw [pick_get (fun j hj => by rw [lenF]; exact okj j hj) hq, List.getElem?_append_left (by rw [s1.len.2, ← s1.len.1]; exact hi)]
                    exact y3
                  exact List.mem_of_getElem? this
                refine ⟨⟨l, _, v1, rfl, .inr ⟨?_, m.k, hn⟩, gV, va5.keep (leH.refl _) (fun a ha => upd_ne (lNp a (fin a ha))) fun a ha => ?_⟩, x, ?_, nx⟩
                · show O' l = some (.inl r)
                  rw [hO', if_neg (fun z => lNe l z rfl), if_neg (fun z => lNp l z rfl), labL]
                · show O' a = some (.inl r)
                  rw [hO', if_neg (disR a (fin a ha)), if_pos (fin a ha)]
                · rw [getP, gD, hx]
                  exact gx
      · rw [if_neg hr] at hg
        cases hg
    · rw [hO'] at h
      have src : ∃ w2, O a = some w2 := by
        by_cases hf : a ∈ fr
        · obtain ⟨j, f, _, z1, z2⟩ := frm a hf
          rcases labA f (List.mem_of_getElem? z1) a z2 with z | ⟨_, z, _⟩ <;> exact ⟨_, z⟩
        · by_cases hp : a ∈ fp'
          · obtain ⟨j, f, _, z1, z2⟩ := fpm a hp
            rcases labA f (List.mem_of_getElem? z1) a z2 with z | ⟨_, z, _⟩ <;> exact ⟨_, z⟩
          · rw [if_neg hf, if_neg hp] at h
            cases z : O a with
            | none => rw [z] at h; cases h
            | some w => exact ⟨w, rfl⟩
      obtain ⟨w2, hw⟩ := src
      obtain ⟨g1, g2, o, g3⟩ := S.fr a w2 hw
      refine ⟨g1, g2, ?_⟩
      by_cases z : a = l
      · subst z
        exact ⟨o', upd_same⟩
      · exact ⟨o, by rw [upd_ne z]; exact g3⟩
  refine ⟨O', S3.ih, S3.bh, S3.i0, S3.ib, S3.len, S3.vals, S3.als, fun j d2 v2 e => ?_, S3.lks, S3.lke, S3.fr⟩
  by_cases hj : j < ts.length
  · rw [List.getElem?_append_left hj] at e
    exact S3.tmps j d2 v2 e
  · rw [List.getElem?_append_right (Nat.le_of_not_lt hj)] at e
    have hl := (List.getElem?_eq_some_iff.mp e).1
    have hz : j - ts.length = 0 := by
      simp at hl
      omega
    rw [hz] at e
    cases e
    have : j = ts.length := by omega
    subst this
    refine ⟨fr, rr, ndr, fun a ha => ?_⟩
    rw [hO', if_pos ha]
end
end Lc
end
section
set_option Elab.async false
set_option linter.all false
set_option maxRecDepth 100000
set_option maxHeartbeats 1000000
namespace Lc
open PySem L2

def isT : EV → Bool
  | .t _ => true
  | _ => false
/-- what a change makes of a place -/
def mutAt (m : Mut) (r : Nat) (p : List Nat) (zs : List D) (c : Ctx) : Option (D × Ctx) :=
  match (match m.res with | .inl j => zs[j]? | .inr d => some d) with
  | some d => if m.ok zs.length && lkOk [⟨r, p, keepJ m.js, .nd m.k .own (pick m.js zs)⟩] c.k then some (d, updC [⟨r, p, keepJ m.js, .nd m.k .own (pick m.js zs)⟩] c) else none
  | none => none
/-- the own container at a place -/
def nodeAt (c : Ctx) (r : Nat) (p : List Nat) : Option (Kd × List D) := match c.s[r]? with
  | some (.v d) => match getP d p with
    | some (.nd k .own xs) => some (k, xs)
    | _ => none
  | _ => none
/-- o.m(..), changing o -/
def eMth (T : Kd → Bool) (f : Kd → List D → List D → Option Mut) (mo : Ctx → ER) (ms : List (Ctx → ER)) : Ctx → ER := fun c => match mo c with
  | .ok (.pl r p) c1 => match nodeAt c1 r p with
    | some (k0, _) => if T k0 then match eArgs ms (lockE (.pl r p) c1) with
      | .ok es c2 => match valsOf c2 es, nodeAt c2 r p with
        | some ds, some (k, xs) => if es.all isT then match f k xs ds with
          | some m => match mutAt m r p (xs ++ ds) (unlockE (.pl r p) c2) with
            | some (d, c3) => .ok (.t d) c3
            | none => .bad
          | none => .bad
          else .bad
        | _, _ => .bad
      | .exc k n x c2 => .exc k n x (unlockE (.pl r p) c2)
      | .bad => .bad
      else .bad
    | none => .bad
  | .ok (.t _) _ => .bad
  | .exc k n x c1 => .exc k n x c1
  | .bad => .bad

/-- what the change asks of the values -/
def MutS (A : Act) (f : Kd → List D → List D → Option Mut) (r : V → List V → Hp → VK → Prop) : Prop := ∀ (I H : Hp) (l : Addr) (k : Kd) (kxs : List D) (kvs : List V) (ds : List D) (ws : List V) (Q : VK) (m : Mut), leH I H → leH A.B H → OwnC A.g H k l kvs →
  Paired (EAt A I H) kxs kvs → Paired (EAt A I H) ds ws → f k kxs ds = some m →
  (∀ o' d v, OwnC A.g (upd H l o') m.k l (pick m.js (kvs ++ ws)) → ResV A I (upd H l o') m (kvs ++ ws) (kxs ++ ds) d v → Q v (upd H l o')) → r (.ref l) ws H Q

section
variable {A : Act} {W : Wx} {X : Cx} {I H I' H' : Hp} {σ σ' : St} {c c' : Ctx} {ts xs : List (D × V)} {O O' : Addr → Option Ow} {lk : List (Nat × List Nat × V)} {d : D} {v : V} {w : Ow} {r : Nat} {p : List Nat}

theorem RL.paired : ∀ {xs : List D} {vs : List V} {fp : List Addr}, RL A.g I A.B H xs vs fp → Paired (EAt A I H) xs vs
  | [], vs, fp, h => by
    rw [RL] at h
    obtain ⟨rfl, _⟩ := h
    exact .nil
  | x :: xs, vs, fp, h => by
    rw [RL] at h
    obtain ⟨v, vr, f1, f2, rfl, _, h1, h2⟩ := h
    exact .cons ⟨f1, h1⟩ (RL.paired h2)
/-- arguments that are all temporaries -/
theorem Sat.tmpRL : ∀ {es : List EV} {vs : List V} {ds : List D} {ts : List (D × V)}, es.all isT = true → vs.length = es.length → Lc.valsOf c es = some ds → Sat A I H σ c (ts ++ tmpsOf es vs) O lk →
    ∃ fa, RL A.g I A.B H ds vs fa ∧ fa.Nodup ∧ ∀ a ∈ fa, ∃ j, O a = some (.inr j) ∧ ts.length ≤ j
  | [], vs, ds, ts, _, hl, e, S => by
    cases vs with
    | nil =>
      rw [Lc.valsOf] at e
      cases e
      exact ⟨[], by rw [RL]; exact ⟨rfl, rfl⟩, List.nodup_nil, fun a ha => by cases ha⟩
    | cons _ _ => cases hl
  | .t d :: es, v :: vs, ds, ts, ht, hl, e, S => by
    have hl2 : vs.length = es.length := by simpa using hl
    rw [Lc.valsOf] at e
    cases e2 : Lc.valsOf c es with
    | none => rw [e2] at e; simp [val] at e
    | some ds' =>
      rw [e2] at e
      simp only [val, Option.some.injEq] at e
      subst e
      have S2 : Sat A I H σ c (ts ++ [(d, v)] ++ tmpsOf es vs) O lk := by
        have : ts ++ [(d, v)] ++ tmpsOf es vs = ts ++ tmpsOf (.t d :: es) (v :: vs) := by
          rw [tmpsOf, List.append_assoc, List.singleton_append]
        rw [this]
        exact S
      obtain ⟨fa, ra, nd, la⟩ := Sat.tmpRL (ts := ts ++ [(d, v)]) (by simpa [isT] using ht) hl2 e2 S2
      obtain ⟨f1, r1, n1, l1⟩ := S2.tmps ts.length d v (by simp)
      refine ⟨f1 ++ fa, ?_, ?_, fun a ha => ?_⟩
      · rw [RL]
        exact ⟨v, vs, f1, fa, rfl, rfl, r1, ra⟩
      · rw [List.nodup_append]
        refine ⟨n1, nd, fun a ha b hb z => ?_⟩
        subst z
        obtain ⟨j, e3, hj⟩ := la a hb
        rw [l1 a ha] at e3
        cases e3
        simp at hj
        omega
      · rcases List.mem_append.mp ha with ha | ha
        · exact ⟨ts.length, l1 a ha, Nat.le_refl _⟩
        · obtain ⟨j, e3, hj⟩ := la a ha
          exact ⟨j, e3, by simp at hj; omega⟩
  | .pl _ _ :: es, _, _, _, ht, _, _, _ => by simp [isT] at ht
  | .t _ :: _, [], _, _, _, hl, _, _ => by cases hl

theorem nodeAt_some {k : Kd} {ys : List D} (h : nodeAt c r p = some (k, ys)) : ∃ d0, c.s[r]? = some (.v d0) ∧ getP d0 p = some (.nd k .own ys) := by
  unfold nodeAt at h
  cases e : c.s[r]? with
  | none => rw [e] at h; cases h
  | some z =>
    rw [e] at h
    cases z with
    | no => cases h
    | al _ _ => cases h
    | v d0 =>
      refine ⟨d0, rfl, ?_⟩
      dsimp only at h
      cases e2 : getP d0 p with
      | none => rw [e2] at h; cases h
      | some q =>
        rw [e2] at h
        cases q with
        | nd k2 f2 ys2 =>
          cases f2 with
          | own =>
            simp only [Option.some.injEq, Prod.mk.injEq] at h
            obtain ⟨rfl, rfl⟩ := h
            rfl
          | frz => cases h
          | bor => cases h
        | _ => cases h
/-- the node's cell -/
theorem Sat.node {k : Kd} {ys : List D} (S : Sat A I H σ c ts O lk) (pv : PV A I H σ c O r p v) (h : nodeAt c r p = some (k, ys)) : ∃ l vs, v = .ref l ∧ OwnC A.g H k l vs ∧ Paired (EAt A I H) ys vs := by
  obtain ⟨d0, h1, h2⟩ := nodeAt_some h
  obtain ⟨d, d', v0, fa, fn, fb, op⟩ := S.opn pv
  have z := op.slot
  rw [h1] at z
  cases z
  have z := op.get
  rw [h2] at z
  cases z
  have rel := op.rel
  rw [R] at rel
  obtain ⟨l, vs, fq, e, _, ho, rk⟩ := rel
  exact ⟨l, vs, e, ho, RL.paired rk⟩
/-- a change at a place, done -/
theorem Sat.mutAt {f : Kd → List D → List D → Option Mut} {rr : V → List V → Hp → VK → Prop} {k : Kd} {ys ds : List D} {ws : List V} {m : Mut} {d2 : D} {c3 : Ctx} {Q : VK} {fa : List Addr} (ms : MutS A f rr) (S : Sat A I H σ c (ts ++ xs) O lk) (pv : PV A I H σ c O r p v) (hn : nodeAt c r p = some (k, ys))
    (ra : RL A.g I A.B H ds ws fa) (nd : fa.Nodup) (la : ∀ a ∈ fa, ∃ j, O a = some (.inr j) ∧ ts.length ≤ j) (hf : f k ys ds = some m) (hm : Lc.mutAt m r p (ys ++ ds) c = some (d2, c3))
    (q : ∀ v' H' O', Sat A I H' σ c3 (ts ++ [(d2, v')]) O' lk → Q v' H') : rr v ws H Q := by
  obtain ⟨l, vs, rfl, ho, pk⟩ := S.node pv hn
  unfold Lc.mutAt at hm
  cases er : (match m.res with | .inl j => (ys ++ ds)[j]? | .inr d => some d) with
  | none => rw [er] at hm; cases hm
  | some dr =>
    rw [er] at hm
    dsimp only at hm
    by_cases hk : (m.ok (ys ++ ds).length && lkOk [⟨r, p, keepJ m.js, .nd m.k .own (pick m.js (ys ++ ds))⟩] c.k) = true
    · rw [if_pos hk] at hm
      rw [Bool.and_eq_true] at hk
      simp only [Option.some.injEq, Prod.mk.injEq] at hm
      obtain ⟨rfl, rfl⟩ := hm
      refine ms I H l k ys vs ds ws Q m S.ih S.bh ho pk (RL.paired ra) hf fun o' d v' hn' rv => ?_
      have ed : d = dr := by
        unfold ResV at rv
        cases em : m.res with
        | inl j =>
          rw [em] at rv er
          dsimp only at rv er
          rw [er] at rv
          exact (Option.some.inj rv.2).symm
        | inr dd =>
          rw [em] at rv er
          dsimp only at rv er
          rw [rv.1]
          exact Option.some.inj er
      subst ed
      obtain ⟨O', S'⟩ := mut_core S pv (nodeAt_some hn) rfl ho ra nd la hk.1 hn' rv hk.2
      exact q v' _ O' S'
    · rw [if_neg hk] at hm
      cases hm

variable {T : String} {id : String} {name : Str} {apos cpos : Pos} {o e : Expr} {es : List Expr} {mo : Ctx → ER} {ms : List (Ctx → ER)} {f : Kd → List D → List D → Option Mut} {rr : V → List V → Hp → VK → Prop} {Tk : Kd → Bool}
/-- the kinds of a built-in type -/
def TyK (A : Act) (T : String) (Tk : Kd → Bool) : Prop := ∀ (H : Hp) (k : Kd) (l : Addr) (vs : List V), Tk k = true → OwnC A.g H k l vs → tyV A.g.K T (.ref l) H
theorem nodeAt_s (h : c'.s = c.s) : nodeAt c' r p = nodeAt c r p := by
  unfold nodeAt
  rw [h]
theorem tE_mth (ty : TyK A T Tk) (mS : MutS A f rr) : ∀ σ H Q, tE A W (eMth Tk f mo ms) σ H Q → tBM A.g.K T rr (tE A W mo) (tA' A W (eArgs ms)) σ H Q := fun σ H Q ⟨I, c, ts, O, lk, S, h⟩ => by
  refine ⟨I, c, ts, O, lk, S, ?_⟩
  rw [eMth] at h
  cases e1 : mo c with
  | bad => rw [e1] at h; exact h
  | exc k n x c1 => rw [e1] at h; exact h
  | ok ev c1 =>
    rw [e1] at h
    cases ev with
    | t d => exact h.elim
    | pl r p =>
      dsimp only at h
      intro v I1 H1 O1 S1 pv1
      cases e2 : nodeAt c1 r p with
      | none => rw [e2] at h; exact h.elim
      | some kk =>
        obtain ⟨k0, ys0⟩ := kk
        rw [e2] at h
        dsimp only at h
        by_cases ht : Tk k0 = true
        · rw [if_pos ht] at h
          obtain ⟨l, vs, rfl, ho, _⟩ := S1.node pv1 e2
          refine ⟨ty H1 k0 l vs ht ho, I1, lockE (.pl r p) c1, ts, O1, (r, p, .ref l) :: lk, S1.locked pv1, ?_⟩
          cases e3 : eArgs ms (lockE (.pl r p) c1) with
          | bad => rw [e3] at h; exact h.elim
          | exc k n x c2 =>
            rw [e3] at h
            have := XP.unlock (v := .ref l) (e := .pl r p) h
            rw [tmpsOf, tmpsOf, List.append_nil] at this
            · exact this
            · intros; contradiction
            · intros; contradiction
          | ok es c2 =>
            rw [e3] at h
            dsimp only at h
            intro ws I2 H2 O2 hl S2
            cases e4 : valsOf c2 es with
            | none => rw [e4] at h; exact h.elim
            | some ds =>
              cases e5 : nodeAt c2 r p with
              | none => rw [e4, e5] at h; exact h.elim
              | some kk =>
                obtain ⟨k, ys⟩ := kk
                rw [e4, e5] at h
                dsimp only at h
                by_cases hT : es.all isT = true
                · rw [if_pos hT] at h
                  cases e6 : f k ys ds with
                  | none => rw [e6] at h; exact h.elim
                  | some m =>
                    rw [e6] at h
                    dsimp only at h
                    cases e7 : mutAt m r p (ys ++ ds) (unlockE (.pl r p) c2) with
                    | none => rw [e7] at h; exact h.elim
                    | some dc =>
                      obtain ⟨d2, c3⟩ := dc
                      rw [e7] at h
                      dsimp only at h
                      have hlk : ∀ {es : List EV} {vs : List V}, es.all isT = true → lksOf es vs = [] := fun {es} => by
                        induction es with
                        | nil => intro vs _; rfl
                        | cons e es ih =>
                          intro vs hh
                          cases e with
                          | pl _ _ => simp [isT] at hh
                          | t d =>
                            cases vs with
                            | nil => rfl
                            | cons v vs => exact ih (by simpa [isT] using hh)
                      rw [hlk hT, List.nil_append] at S2
                      obtain ⟨S3, pv3⟩ := S2.unlocked
                      obtain ⟨fa, ra, nd, la⟩ := Sat.tmpRL hT hl e4 S2
                      exact Sat.mutAt mS S3 pv3 ((nodeAt_s rfl).trans e5) ra nd la e6 e7 fun v' H' O' S' => h v' I2 H' O' S'
                · rw [if_neg hT] at h
                  exact h.elim
        · rw [if_neg ht] at h
          exact h.elim
theorem PE_mth (ty : TyK A T Tk) (mS : MutS A f rr) (o' : On X A.g) (pa : PlainAttrs T) (slot : Slot T name id) (hty : typeOf (.builtin id) = pure (.type "method_descriptor")) (hm : MtR X id rr) (ho : PE X o (tE A W mo)) (ha : PA X (e :: es) (tA' A W (eArgs ms)))
    (hbase : attributeBase o name X.env (eval o X.env) = eval o X.env := by rfl)
    (hfew : ((backTo cpos (starEach (e :: es) X.env)).all (fun x => !x.1) && (backToKw cpos (keywordEach [] X.env)).all (fun x => x.1.isSome)
      && decide ((e :: es).length + ([] : List Keyword).length + (if ([] : List Keyword).isEmpty then 0 else 1) < 30)) = true := by rfl)
    (hline : (apos.endLine == cpos.line) = true := by rfl) (hs : starEach (e :: es) X.env = (false, eval e X.env) :: starEach es X.env := by rfl) (hplain : (backTo cpos (starEach es X.env)).any (·.1) = false := by rfl) :
    PE X (.Call (.Attribute o name apos) (e :: es) [] cpos) (tE A W (eMth Tk f mo ms)) := PE.imp (pe_bm pa slot hty hm ho ha hbase hfew hline hs hplain) (o'.k ▸ tE_mth ty mS)
end
end Lc
end
section
set_option Elab.async false
set_option linter.all false
set_option maxRecDepth 100000
set_option maxHeartbeats 1000000
namespace Lc
open PySem L2

theorem pick_range' {α : Type} : ∀ (pre zs : List α), pick (List.range' pre.length zs.length) (pre ++ zs) = zs
  | pre, [] => rfl
  | pre, z :: zs => by
    rw [List.length_cons, List.range'_succ, pick]
    have : (pre ++ z :: zs)[pre.length]? = some z := by simp
    rw [this]
    have h := pick_range' (pre ++ [z]) zs
    rw [List.append_assoc, List.length_append] at h
    exact congrArg (z :: ·) h
theorem pick_range {α : Type} (zs : List α) : pick (List.range zs.length) zs = zs := by
  have := pick_range' [] zs
  rw [List.range_eq_range']
  exact this
theorem pick_take {α : Type} : ∀ (n : Nat) (zs : List α), n ≤ zs.length → pick (List.range n) zs = zs.take n := fun n zs h => by
  have : ∀ (n : Nat) (pre zs : List α), n ≤ zs.length → pick (List.range' pre.length n) (pre ++ zs) = zs.take n := fun n => by
    induction n with
    | zero =>
      intro pre zs _
      rfl
    | succ n ih =>
      intro pre zs h
      cases zs with
      | nil => simp at h
      | cons z zs =>
        rw [List.range'_succ, pick]
        have e : (pre ++ z :: zs)[pre.length]? = some z := by simp
        rw [e]
        have h := ih (pre ++ [z]) zs (by simpa using h)
        rw [List.append_assoc, List.length_append] at h
        exact congrArg (z :: ·) h
  have q := this n [] zs h
  rw [List.range_eq_range']
  exact q
/-- all but j, there n -/
def setJs (m j n : Nat) : List Nat := (List.range m).set j n
theorem pick_set {α : Type} (xs : List α) (zs : List α) (j n : Nat) (z : α) (hz : (xs ++ zs)[n]? = some z) : pick (setJs xs.length j n) (xs ++ zs) = xs.set j z := by
  have hlen : (setJs xs.length j n).length = xs.length := by
    unfold setJs
    rw [List.length_set, List.length_range]
  have hn : n < (xs ++ zs).length := (List.getElem?_eq_some_iff.mp hz).1
  have hb : ∀ i ∈ setJs xs.length j n, i < (xs ++ zs).length := fun i hi => by
    unfold setJs at hi
    rcases List.mem_or_eq_of_mem_set hi with h | h
    · have := List.mem_range.mp h
      rw [List.length_append]
      omega
    · rw [h]
      exact hn
  refine List.ext_getElem? fun i => ?_
  by_cases hi : i < xs.length
  · have e : (setJs xs.length j n)[i]? = some (if i = j then n else i) := by
      unfold setJs
      by_cases hij : i = j
      · subst hij
        rw [if_pos rfl, List.getElem?_set_self (by rw [List.length_range]; exact hi)]
      · rw [if_neg hij, List.getElem?_set_ne (Ne.symm hij), List.getElem?_range hi]
    rw [pick_get hb e]
    by_cases hij : i = j
    · subst hij
      rw [if_pos rfl, hz, List.getElem?_set_self hi]
    · rw [if_neg hij, List.getElem?_append_left hi, List.getElem?_set_ne (Ne.symm hij)]
  · rw [List.getElem?_eq_none (by rw [pick_len hb, hlen]; omega), List.getElem?_eq_none (by rw [List.length_set]; omega)]

section
variable {A : Act} {W : Wx} {X : Cx}
/-! ### lists -/
def fAppend : Kd → List D → List D → Option Mut
  | .lst, xs, [_] => if xs.length < 16777216 then some ⟨.lst, List.range (xs.length + 1), .inr .non⟩ else none
  | _, _, _ => none
theorem sizeLine_is : sizeLine = 16777216 := sizeLine_eq
theorem resNon {I H : Hp} {k : Kd} {js : List Nat} {us : List V} {zs : List D} : ResV A I H ⟨k, js, .inr .non⟩ us zs .non .non := ⟨rfl, by rw [R]; exact ⟨rfl, rfl⟩⟩
theorem ms_append : MutS A fAppend rAppend := fun I H l k kxs kvs ds ws Q m ih bh ho pk pd e q => by
  unfold fAppend at e
  split at e
  · rename_i xs d
    have hl : H l = some (.lst kvs) := ho
    cases pd with
    | cons hd pn =>
      cases pn
      rename_i wv
      have hlen := pk.length
      by_cases hz : kxs.length < 16777216
      · rw [if_pos hz] at e
        cases e
        refine ⟨l, kvs, wv, rfl, rfl, hl, by rw [sizeLine_is]; omega, q (.lst (kvs ++ [wv])) .non .non ?_ resNon⟩
        have hlen : kxs.length + 1 = (kvs ++ [wv]).length := by rw [List.length_append, hlen]; rfl
        rw [hlen, pick_range]
        exact upd_same
      · rw [if_neg hz] at e
        cases e
  · cases e
def fPop : Kd → List D → List D → Option Mut
  | .lst, xs, [] => if 0 < xs.length then some ⟨.lst, List.range (xs.length - 1), .inl (xs.length - 1)⟩ else none
  | _, _, _ => none
theorem pairGet {α β : Type} {P : α → β → Prop} : ∀ {xs : List α} {ys : List β} {n : Nat} {x : α}, Paired P xs ys → xs[n]? = some x → ∃ y, ys[n]? = some y ∧ P x y
  | _, _, 0, x, .cons h _, e => by
    have e := Option.some.inj e
    subst e
    exact ⟨_, rfl, h⟩
  | _, _, n + 1, x, .cons _ t, e => by
    obtain ⟨y, e1, h⟩ := pairGet (n := n) t (by simpa using e)
    exact ⟨y, by simpa using e1, h⟩
  | _, _, _, _, .nil, e => by simp at e
theorem ms_pop : MutS A fPop rPop := fun I H l k kxs kvs ds ws Q m ih bh ho pk pd e q => by
  unfold fPop at e
  split at e
  · rename_i xs
    have hl : H l = some (.lst kvs) := ho
    cases pd
    have hlen := pk.length
    by_cases hz : 0 < kxs.length
    · rw [if_pos hz] at e
      cases e
      have e1 : kxs[kxs.length - 1]? = some kxs[kxs.length - 1] := List.getElem?_eq_getElem (by omega)
      obtain ⟨y, e2, _⟩ := pairGet pk e1
      refine ⟨l, kvs, y, rfl, rfl, hl, by rw [← hlen]; exact e2, q _ kxs[kxs.length - 1] y ?_ ?_⟩
      · rw [List.append_nil, pick_take _ _ (by omega), hlen, ← List.dropLast_eq_take]
        exact upd_same
      · exact ⟨by rw [List.append_nil]; exact e2, by rw [List.append_nil]; exact e1⟩
    · rw [if_neg hz] at e
      cases e
  · cases e
def isL : Kd → Bool
  | .lst => true
  | _ => false
theorem ty_lst : TyK A "list" isL := fun H k l vs h ho => by
  cases k with
  | lst => exact .inl ⟨rfl, vs, .inl (.inl ho)⟩
  | _ => cases h

/-! ### o[i] = e -/
def rOfSet (t : TSet) : V → List V → Hp → VK → Prop := fun x ws H Q => ∃ i v, ws = [i, v] ∧ t x i v H (fun H' => Q .non H')
def fSetL : Kd → List D → List D → Option Mut
  | .lst, xs, [.int i, _] => (ixN xs.length i).map fun j => ⟨.lst, setJs xs.length j (xs.length + 1), .inr .non⟩
  | _, _, _ => none
theorem ms_setL : MutS A fSetL (rOfSet rSetL) := fun I H l k kxs kvs ds ws Q m ih bh ho pk pd e q => by
  unfold fSetL at e
  split at e
  · rename_i xs i d
    have hl : H l = some (.lst kvs) := ho
    cases pd with
    | cons hi pd =>
      cases pd with
      | cons hd pn =>
        cases pn
        rename_i iv wv
        have ei := hi.int
        subst ei
        have hlen := pk.length
        cases ej : ixN kxs.length i with
        | none => rw [ej] at e; cases e
        | some j =>
          rw [ej] at e
          cases e
          refine ⟨.int i, wv, rfl, l, kvs, i, j, rfl, rfl, hl, by rw [← hlen]; exact ej, q _ .non .non ?_ resNon⟩
          have : (kvs ++ [V.int i, wv])[kxs.length + 1]? = some wv := by
            rw [List.getElem?_append_right (by omega)]
            have : kxs.length + 1 - kvs.length = 1 := by omega
            rw [this]
            rfl
          dsimp only
          rw [hlen] at this ⊢
          rw [pick_set _ _ _ _ _ this]
          exact upd_same
  · cases e

def sSetI (f : Kd → List D → List D → Option Mut) (mv mo mi : Ctx → ER) : Ctx → SR := fun c => match mv c with
  | .ok (.t d) c1 => match mo c1 with
    | .ok (.pl r p) c2 => match mi (lockE (.pl r p) c2) with
      | .ok (.t di) c3 => match nodeAt c3 r p with
        | some (k, ys) => match f k ys [di, d] with
          | some m => match mutAt m r p (ys ++ [di, d]) (unlockE (.pl r p) c3) with
            | some (_, c4) => .nx c4
            | none => .bad
          | none => .bad
        | none => .bad
      | .exc k n x c3 => .exc k n x (unlockE (.pl r p) c3)
      | _ => .bad
    | .exc k n x c2 => .exc k n x c2
    | _ => .bad
  | .exc k n x c1 => .exc k n x c1
  | _ => .bad
variable {I H I' H' : Hp} {σ σ' : St} {c c' : Ctx} {ts xs : List (D × V)} {O O' : Addr → Option Ow} {lk : List (Nat × List Nat × V)} {d : D} {v : V} {w : Ow} {r : Nat} {p : List Nat}
theorem XP.more {k : Nat} {n : Str} {x : D} (h : XP A W σ ts lk k n x c) : XP A W σ (ts ++ xs) lk k n x c := fun d v I H O S i r => h d v I H O S.pop i r
theorem tSetI_of {f : Kd → List D → List D → Option Mut} {t : TSet} {mv mo mi : Ctx → ER} {D' : Ends} (mS : MutS A f (rOfSet t)) (h : tS A W (sSetI f mv mo mi) D' σ H) : tAsg (tE A W mv) (L2.gSub (tE A W mo) (tE A W mi) t) D' σ H := by
  obtain ⟨I, c, O, lk, S, h⟩ := h
  refine ⟨I, c, [], O, lk, S, ?_⟩
  rw [sSetI] at h
  cases e1 : mv c with
  | bad => rw [e1] at h; exact h.elim
  | exc k n x c1 => rw [e1] at h; exact h σ
  | ok ev c1 =>
    rw [e1] at h
    cases ev with
    | pl r p => exact h.elim
    | t d =>
      dsimp only at h
      intro v I1 H1 O1 S1
      refine ⟨I1, c1, [(d, v)], O1, lk, S1, ?_⟩
      cases e2 : mo c1 with
      | bad => rw [e2] at h; exact h.elim
      | exc k n x c2 =>
        rw [e2] at h
        exact XP.more (ts := []) (h σ)
      | ok ev2 c2 =>
        rw [e2] at h
        cases ev2 with
        | t _ => exact h.elim
        | pl r p =>
          dsimp only at h
          intro vo I2 H2 O2 S2 pv2
          refine ⟨I2, lockE (.pl r p) c2, [(d, v)], O2, (r, p, vo) :: lk, S2.locked pv2, ?_⟩
          cases e3 : mi (lockE (.pl r p) c2) with
          | bad => rw [e3] at h; exact h.elim
          | exc k n x c3 =>
            rw [e3] at h
            have := XP.unlock (v := vo) (e := .pl r p) (XP.more (ts := []) (xs := [(d, v)]) (h σ))
            rw [tmpsOf, tmpsOf, List.append_nil] at this
            · exact this
            · intros; contradiction
            · intros; contradiction
          | ok ev3 c3 =>
            rw [e3] at h
            cases ev3 with
            | pl _ _ => exact h.elim
            | t di =>
              dsimp only at h
              intro vi I3 H3 O3 S3
              cases e4 : nodeAt c3 r p with
              | none => rw [e4] at h; exact h.elim
              | some kk =>
                obtain ⟨k, ys⟩ := kk
                rw [e4] at h
                dsimp only at h
                cases e5 : f k ys [di, d] with
                | none => rw [e5] at h; exact h.elim
                | some m =>
                  rw [e5] at h
                  dsimp only at h
                  cases e6 : mutAt m r p (ys ++ [di, d]) (unlockE (.pl r p) c3) with
                  | none => rw [e6] at h; exact h.elim
                  | some dc =>
                    obtain ⟨d2, c4⟩ := dc
                    rw [e6] at h
                    dsimp only at h
                    obtain ⟨f1, r1, n1, l1⟩ := S3.tmps 0 d v (by simp)
                    obtain ⟨f2, r2, n2, l2⟩ := S3.tmps 1 di vi (by simp)
                    obtain ⟨S4, pv4⟩ := S3.unlocked
                    obtain ⟨i, v', ew, q⟩ := Sat.mutAt (ts := []) (xs := [(d, v)] ++ [(di, vi)]) (ws := [vi, v]) (fa := f2 ++ (f1 ++ [])) (Q := fun _ H' => D'.nx σ H') mS (by simpa using S4) pv4 ((nodeAt_s rfl).trans e4) (by
                      rw [RL]
                      refine ⟨vi, [v], f2, f1 ++ [], rfl, rfl, r2, ?_⟩
                      rw [RL]
                      exact ⟨v, [], f1, [], rfl, rfl, r1, by rw [RL]; exact ⟨rfl, rfl⟩⟩) (by
                      rw [List.append_nil, List.nodup_append]
                      refine ⟨n2, n1, fun a ha b hb z => ?_⟩
                      subst z
                      have := l2 a ha
                      rw [l1 a hb] at this
                      cases this) (fun a ha => by
                      rw [List.append_nil] at ha
                      rcases List.mem_append.mp ha with ha | ha
                      · exact ⟨1, l2 a ha, Nat.zero_le _⟩
                      · exact ⟨0, l1 a ha, Nat.zero_le _⟩) e5 e6 fun v' H' O' S' => h σ I3 H' O' (Sat.pop (ts := []) (xs := [(d2, v')]) S')
                    cases ew
                    exact q
theorem PS_setI {o i e : Expr} {f : Kd → List D → List D → Option Mut} {t : TSet} {mv mo mi : Ctx → ER} {pos pos' : Pos} (mS : MutS A f (rOfSet t)) (hP : PSet X t) (hv : PE X e (tE A W mv)) (ho : PE X o (tE A W mo)) (hi : PE X i (tE A W mi))
    (ha : ∀ v, assign (.Subscript o i pos') X.env v = (do
      let ov ← holding [v] (eval o X.env)
      let iv ← holding [v, ov] (eval i X.env)
      standAt pos'
      holding [v, ov, iv] (setItem ov iv v)
      release [v, ov, iv] []) := by intro _; rfl)
    (hs : swapsWithSole [.Subscript o i pos'] e pos.line X.env = pure false := by rfl) (hw : swappedStores [.Subscript o i pos'] e X.env = pure none := by rfl)
    (h1 : (assignEach [.Subscript o i pos'] X.env).map (·.2) = [assign (.Subscript o i pos') X.env] := by rfl) : PS X (.Assign [.Subscript o i pos'] e pos) (tS A W (sSetI f mv mo mi)) :=
  PS.imp (ps_asg hv (pg_sub ho hi hP ha) hs hw h1) fun D' σ H h => tSetI_of mS h
end
end Lc
end
section
set_option Elab.async false
set_option linter.all false
set_option maxRecDepth 100000
set_option maxHeartbeats 1000000
namespace Lc
open PySem L2

section
variable {A : Act} {W : Wx} {X : Cx}

/-! ### calls of builtins -/
def fInt1 : List D → Option D
  | [.int i] => some (.int i)
  | [.bl k] => some (.int (if k then 1 else 0))
  | _ => none
theorem os_int1 : OpS A fInt1 (fun xs H Q => (∃ i, xs = [.int i] ∧ Q (.int i) H) ∨ ∃ k, xs = [.bl k] ∧ Q (.int (if k then 1 else 0)) H) := fun I H ds vs Q d ih bh P e q => by
  unfold fInt1 at e
  split at e
  · cases e
    obtain ⟨x, rfl, h1⟩ := Paired.one P
    rw [h1.int]
    exact .inl ⟨_, rfl, q _ _ _ .int⟩
  · cases e
    obtain ⟨x, rfl, h1⟩ := Paired.one P
    rw [h1.bl]
    exact .inr ⟨_, rfl, q _ _ _ .int⟩
  · cases e
def fMin2 : List D → Option D
  | [.int i, .int j] => some (.int (if j < i then j else i))
  | _ => none
theorem os_min2 : OpS A fMin2 (fun xs H Q => ∃ i j, xs = [.int i, .int j] ∧ Q (.int (if j < i then j else i)) H) := fun I H ds vs Q d ih bh P e q => by
  unfold fMin2 at e
  split at e
  · cases e
    obtain ⟨x, y, rfl, h1, h2⟩ := Paired.two P
    rw [h1.int, h2.int]
    exact ⟨_, _, rfl, q _ _ _ .int⟩
  · cases e
def fMax2 : List D → Option D
  | [.int i, .int j] => some (.int (if j > i then j else i))
  | _ => none
theorem os_max2 : OpS A fMax2 (fun xs H Q => ∃ i j, xs = [.int i, .int j] ∧ Q (.int (if j > i then j else i)) H) := fun I H ds vs Q d ih bh P e q => by
  unfold fMax2 at e
  split at e
  · cases e
    obtain ⟨x, y, rfl, h1, h2⟩ := Paired.two P
    rw [h1.int, h2.int]
    exact ⟨_, _, rfl, q _ _ _ .int⟩
  · cases e
/-- a list of ints -/
def intsOf : List D → Option (List Int)
  | [] => some []
  | .int i :: xs => (intsOf xs).map (i :: ·)
  | _ => none
def listOf : D → Option (List D)
  | .nd .lst _ xs => some xs
  | .nd .scr _ xs => some xs
  | _ => none
theorem EAt.list {I H : Hp} {d : D} {xs : List D} {v : V} (ih : leH I H) (bh : leH A.B H) (h : EAt A I H d v) (e : listOf d = some xs) : ∃ p vs, v = .ref p ∧ SqL A.g.K H p vs ∧ ∃ fp, RL A.g I A.B H xs vs fp := by
  unfold listOf at e
  split at e
  · cases e
    obtain ⟨p, vs, rfl, h1, h2⟩ := h.lst ih bh
    exact ⟨p, vs, rfl, .inl (.inl h1), h2⟩
  · cases e
    exact h.scr ih bh
  · cases e
theorem intsOf_vs {I H : Hp} : ∀ {xs : List D} {ns : List Int} {vs : List V} {fp : List Addr}, intsOf xs = some ns → RL A.g I A.B H xs vs fp → vs = ns.map V.int ∧ ns.length = xs.length
  | [], ns, vs, fp, e, h => by
    rw [intsOf] at e
    cases e
    rw [RL] at h
    exact ⟨h.1, rfl⟩
  | .int i :: xs, ns, vs, fp, e, h => by
    rw [intsOf] at e
    cases e2 : intsOf xs with
    | none => rw [e2] at e; cases e
    | some ms =>
      rw [e2] at e
      cases e
      rw [RL] at h
      obtain ⟨v, vr, f1, f2, rfl, _, h1, h2⟩ := h
      rw [R] at h1
      obtain ⟨rfl, hl⟩ := intsOf_vs e2 h2
      rw [h1.1]
      exact ⟨rfl, by rw [List.length_cons, List.length_cons, hl]⟩
  | .non :: _, _, _, _, e, _ => by simp [intsOf] at e
  | .bl _ :: _, _, _, _, e, _ => by simp [intsOf] at e
  | .str _ :: _, _, _, _, e, _ => by simp [intsOf] at e
  | .ty _ :: _, _, _, _, e, _ => by simp [intsOf] at e
  | .tup _ :: _, _, _, _, e, _ => by simp [intsOf] at e
  | .nd _ _ _ :: _, _, _, _, e, _ => by simp [intsOf] at e
  | .exn _ _ _ :: _, _, _, _, e, _ => by simp [intsOf] at e
def fSum : List D → Option D
  | [d] => match listOf d with
    | some xs => (intsOf xs).map fun ns => .int ns.sum
    | none => none
  | _ => none
theorem os_sum : OpS A fSum (rSum A.g.K) := fun I H ds vs Q d ih bh P e q => by
  unfold fSum at e
  split at e
  · rename_i d0
    obtain ⟨x, rfl, h1⟩ := Paired.one P
    cases e1 : listOf d0 with
    | none => rw [e1] at e; cases e
    | some xs =>
      rw [e1] at e
      dsimp only at e
      cases e2 : intsOf xs with
      | none => rw [e2] at e; cases e
      | some ns =>
        rw [e2] at e
        cases e
        obtain ⟨p, us, rfl, hp, fp, hr⟩ := h1.list ih bh e1
        obtain ⟨rfl, _⟩ := intsOf_vs e2 hr
        exact ⟨p, ns, rfl, hp, q _ _ _ .int⟩
  · cases e
def minI : List Int → Int
  | [] => 0
  | [x] => x
  | x :: y :: r => min x (minI (y :: r))
def maxI : List Int → Int
  | [] => 0
  | [x] => x
  | x :: y :: r => max x (maxI (y :: r))
theorem minI_is : ∀ {ns : List Int} {m : Int}, m ∈ ns → (∀ y ∈ ns, m ≤ y) → m = minI ns
  | [], _, h, _ => by cases h
  | [x], m, h, _ => by simpa [minI] using h
  | x :: y :: r, m, h, hl => by
    rw [minI]
    have h1 : m ≤ x := hl x (by simp)
    rcases List.mem_cons.mp h with h | h
    · subst h
      have key : ∀ {l : List Int}, l ≠ [] → (∀ z ∈ l, m ≤ z) → m ≤ minI l := fun {l} => by
        induction l with
        | nil => intro z; exact absurd rfl z
        | cons a l ih =>
          intro _ hz
          cases l with
          | nil => exact hz a (by simp)
          | cons b l =>
            rw [minI]
            have q1 := hz a (by simp)
            have q2 := ih (by simp) fun z hz' => hz z (List.mem_cons_of_mem _ hz')
            omega
      have := key (l := y :: r) (by simp) fun z hz => hl z (List.mem_cons_of_mem _ hz)
      omega
    · have := minI_is h fun z hz => hl z (List.mem_cons_of_mem _ hz)
      rw [← this]
      omega
theorem maxI_is : ∀ {ns : List Int} {m : Int}, m ∈ ns → (∀ y ∈ ns, y ≤ m) → m = maxI ns
  | [], _, h, _ => by cases h
  | [x], m, h, _ => by simpa [maxI] using h
  | x :: y :: r, m, h, hl => by
    rw [maxI]
    have h1 : x ≤ m := hl x (by simp)
    rcases List.mem_cons.mp h with h | h
    · subst h
      have key : ∀ {l : List Int}, l ≠ [] → (∀ z ∈ l, z ≤ m) → maxI l ≤ m := fun {l} => by
        induction l with
        | nil => intro z; exact absurd rfl z
        | cons a l ih =>
          intro _ hz
          cases l with
          | nil => exact hz a (by simp)
          | cons b l =>
            rw [maxI]
            have q1 := hz a (by simp)
            have q2 := ih (by simp) fun z hz' => hz z (List.mem_cons_of_mem _ hz')
            omega
      have := key (l := y :: r) (by simp) fun z hz => hl z (List.mem_cons_of_mem _ hz)
      omega
    · have := maxI_is h fun z hz => hl z (List.mem_cons_of_mem _ hz)
      rw [← this]
      omega
def fMinL : List D → Option D
  | [d] => match listOf d with
    | some xs => (intsOf xs).bind fun ns => if 0 < ns.length then some (.int (minI ns)) else none
    | none => none
  | _ => none
theorem os_minL : OpS A fMinL (rMin A.g.K) := fun I H ds vs Q d ih bh P e q => by
  unfold fMinL at e
  split at e
  · rename_i d0
    obtain ⟨x, rfl, h1⟩ := Paired.one P
    cases e1 : listOf d0 with
    | none => rw [e1] at e; cases e
    | some xs =>
      rw [e1] at e
      dsimp only at e
      cases e2 : intsOf xs with
      | none => rw [e2] at e; cases e
      | some ns =>
        rw [e2, Option.bind_some] at e
        by_cases hz : 0 < ns.length
        · rw [if_pos hz] at e
          cases e
          obtain ⟨p, us, rfl, hp, fp, hr⟩ := h1.list ih bh e1
          obtain ⟨rfl, _⟩ := intsOf_vs e2 hr
          refine ⟨p, ns, rfl, hp, hz, fun m h1 h2 => ?_⟩
          rw [minI_is h1 h2]
          exact q _ _ _ .int
        · rw [if_neg hz] at e
          cases e
  · cases e
def fMaxL : List D → Option D
  | [d] => match listOf d with
    | some xs => (intsOf xs).bind fun ns => if 0 < ns.length then some (.int (maxI ns)) else none
    | none => none
  | _ => none
theorem os_maxL : OpS A fMaxL (rMax A.g.K) := fun I H ds vs Q d ih bh P e q => by
  unfold fMaxL at e
  split at e
  · rename_i d0
    obtain ⟨x, rfl, h1⟩ := Paired.one P
    cases e1 : listOf d0 with
    | none => rw [e1] at e; cases e
    | some xs =>
      rw [e1] at e
      dsimp only at e
      cases e2 : intsOf xs with
      | none => rw [e2] at e; cases e
      | some ns =>
        rw [e2, Option.bind_some] at e
        by_cases hz : 0 < ns.length
        · rw [if_pos hz] at e
          cases e
          obtain ⟨p, us, rfl, hp, fp, hr⟩ := h1.list ih bh e1
          obtain ⟨rfl, _⟩ := intsOf_vs e2 hr
          refine ⟨p, ns, rfl, hp, hz, fun m h1 h2 => ?_⟩
          rw [maxI_is h1 h2]
          exact q _ _ _ .int
        · rw [if_neg hz] at e
          cases e
  · cases e
theorem CallR.imp {X : Cx} {v : Value} {r r' : List V → Hp → VK → Prop} (h : CallR X v r) (i : ∀ vs H Q, r' vs H Q → r vs H Q) : CallR X v r' := fun pins s σ H vs us Q I rv q => h pins s σ H vs us Q I rv (i _ _ _ q)

/-! ### isinstance of a built-in type -/
def tyName : D → Option String
  | .non => some "NoneType" | .bl _ => some "bool" | .int _ => some "int" | .str _ => some "str" | .tup _ => some "tuple"
  | .nd .lst _ _ => some "list" | .nd .scr _ _ => some "list" | .nd (.dct _) _ _ => some "dict"
  | _ => none
theorem SqL.tyX {K : PySem.W.Frag} {H : Hp} {p : Addr} {vs : List V} (h : SqL K H p vs) : TyX K H (.ref p) (.type "list") := by
  rcases h with (h | ⟨o, h⟩) | ⟨o, its, n, h, h2, _⟩
  · exact .base (.lst h)
  · exact .base (.frz h)
  · exact .kList h h2
theorem SqT.tyX {K : PySem.W.Frag} {H : Hp} {p : Addr} {vs : List V} (h : SqT K H p vs) : TyX K H (.ref p) (.type "tuple") := by
  rcases h with (h | ⟨o, h⟩) | ⟨o, its, n, h, h2, _⟩
  · exact .base (.tup h)
  · exact .fTuple h
  · exact .kTuple h h2
end
end Lc
end
section
set_option Elab.async false
set_option linter.all false
set_option maxRecDepth 100000
set_option maxHeartbeats 1000000
namespace Lc
open PySem L2

section
variable {A : Act} {W : Wx} {X : Cx}
theorem PE_blt {n : String} {x : Str} {pos : Pos} (hg : Gl X x) (hm : X.mg x = none) (hv : bootBuiltins x = some (.type n)) (hn : x ≠ "__name__" := by decide) (hd : (x == ("__debug__" : Str)) = false := by decide) : PE X (.Name x pos) (tE A W (eC (.ty n))) :=
  PE_c (v := .ty n) (pe_bltn hg hm hv rfl hn hd) fun _ _ _ => by rw [R]; exact ⟨rfl, rfl⟩
/-- a module's constant -/
theorem PE_glob {x : Str} {v : V} {u : Value} {d : D} {pos : Pos} (hg : Gl X x) (hm : X.mg x = some u) (r : RelV v u) (h : ∀ I B H, R A.g I B H d v []) (hd : (x == ("__debug__" : Str)) = false := by decide) : PE X (.Name x pos) (tE A W (eC d)) := PE_c (pe_glob hg hm r hd) h

def fIsi : List D → Option D
  | [d, .ty n] => match tyName d with
    | some t => (kitB t n).map .bl
    | none => none
  | _ => none
theorem EAt.tyX {I H : Hp} {d : D} {v : V} {t : String} (ih : leH I H) (bh : leH A.B H) (h : EAt A I H d v) (e : tyName d = some t) : TyX A.g.K H v (.type t) := by
  unfold tyName at e
  split at e
  · cases e
    rw [h.non]
    exact .base .non
  · cases e
    rw [h.bl]
    exact .base (.bl _)
  · cases e
    rw [h.int]
    exact .base (.int _)
  · cases e
    rw [h.str]
    exact .base (.str _)
  · cases e
    obtain ⟨p, vs, rfl, h1, _⟩ := h.tup ih
    exact SqT.tyX h1
  · cases e
    obtain ⟨p, vs, rfl, h1, _⟩ := h.lst ih bh
    exact .base (.lst h1)
  · cases e
    obtain ⟨p, vs, rfl, h1, _⟩ := h.scr ih bh
    exact SqL.tyX h1
  · rename_i ks f xs
    cases e
    obtain ⟨fp, h⟩ := h
    have key : ∀ {p : Addr} {kvs : List (Key × V)}, Rd H p (.dK kvs) → TyX A.g.K H (.ref p) (.type "dict") := fun {p kvs} h => by
      rcases h with h | ⟨o, h⟩
      · exact .base (.dK h)
      · exact .fDict h
    cases f with
    | own =>
      rw [R] at h
      obtain ⟨p, vs, fq, rfl, _, c, _⟩ := h
      exact key (.inl c.2)
    | frz =>
      rw [R] at h
      obtain ⟨p, vs, rfl, _, c, _⟩ := h
      exact key (ih.rd c.2)
    | bor =>
      rw [R] at h
      obtain ⟨p, vs, rfl, _, c, _⟩ := h
      exact key (bh.rd c.2)
  · cases e
theorem EAt.ty {I H : Hp} {n : String} {v : V} (h : EAt A I H (.ty n) v) : v = .ty n := by
  obtain ⟨fp, h⟩ := h
  rw [R] at h
  exact h.1
theorem os_isi (hK : A.g.K = X.K) : OpS A fIsi (rIsi X.K) := fun I H ds vs Q d ih bh P e q => by
  unfold fIsi at e
  split at e
  · rename_i d0 n
    obtain ⟨x, y, rfl, h1, h2⟩ := Paired.two P
    rw [h2.ty]
    cases e1 : tyName d0 with
    | none => rw [e1] at e; cases e
    | some t =>
      rw [e1] at e
      dsimp only at e
      cases e2 : kitB t n with
      | none => rw [e2] at e; cases e
      | some b =>
        rw [e2] at e
        cases e
        have := h1.tyX ih bh e1
        rw [hK] at this
        exact ⟨x, .ty n, .type t, .type n, b, rfl, .ty n, this, kit_ty e2, q _ _ _ .bl⟩
  · cases e

/-! ### methods of texts -/
def eSM (f : List Nat → List D → Option D) (mo : Ctx → ER) (ms : List (Ctx → ER)) : Ctx → ER := fun c => match mo c with
  | .ok (.t (.str s)) c1 => match eArgs ms c1 with
    | .ok es c2 => match valsOf c2 es with
      | some ds => match f s ds with
        | some d => .ok (.t d) (unlocks es c2)
        | none => .bad
      | none => .bad
    | .exc k n x c2 => .exc k n x c2
    | .bad => .bad
  | .ok _ _ => .bad
  | .exc k n x c1 => .exc k n x c1
  | .bad => .bad
def OpM (A : Act) (f : List Nat → List D → Option D) (r : V → List V → Hp → VK → Prop) : Prop := ∀ (I H : Hp) (s : List Nat) (ds : List D) (vs : List V) (Q : VK) (d : D), leH I H → leH A.B H → Paired (EAt A I H) ds vs → f s ds = some d →
  (∀ v I' H', Res A I H d v I' H' → Q v H') → r (.str ⟨s.toArray⟩) vs H Q
theorem tE_sm {f : List Nat → List D → Option D} {r : V → List V → Hp → VK → Prop} {mo : Ctx → ER} {ms : List (Ctx → ER)} (om : OpM A f r) : ∀ σ H Q, tE A W (eSM f mo ms) σ H Q → tBM A.g.K "str" r (tE A W mo) (tA' A W (eArgs ms)) σ H Q := fun σ H Q ⟨I, c, ts, O, lk, S, h⟩ => by
  refine ⟨I, c, ts, O, lk, S, ?_⟩
  rw [eSM] at h
  cases e1 : mo c with
  | bad => rw [e1] at h; exact h
  | exc k n x c1 => rw [e1] at h; exact h
  | ok ev c1 =>
    rw [e1] at h
    cases ev with
    | pl r p => exact h.elim
    | t d =>
      cases d with
      | str s =>
        dsimp only at h ⊢
        intro v I1 H1 O1 S1
        have rv := S1.last.nil (by rw [Lc.noOwn])
        rw [R] at rv
        obtain ⟨rfl, _⟩ := rv
        refine ⟨rfl, I1, c1, _, O1, lk, S1, ?_⟩
        cases e2 : eArgs ms c1 with
        | bad => rw [e2] at h; exact h
        | exc k n x c2 =>
          rw [e2] at h
          exact XP.more h
        | ok es c2 =>
          rw [e2] at h
          dsimp only at h ⊢
          intro vs I2 H2 O2 hl S2
          cases e3 : valsOf c2 es with
          | none => rw [e3] at h; exact h.elim
          | some ds =>
            rw [e3] at h
            dsimp only at h
            cases e4 : f s ds with
            | none => rw [e4] at h; exact h.elim
            | some d =>
              rw [e4] at h
              dsimp only at h
              refine om I2 H2 s ds vs Q d S2.ih S2.bh (Sat.valsOf hl e3 S2) e4 fun v I3 H3 rs => ?_
              have S3 := Sat.unlockL hl S2
              rw [List.append_assoc] at S3
              obtain ⟨O3, S4⟩ := rs.sat S3
              exact h v I3 H3 O3 S4
      | _ => exact h.elim
theorem PE_sm {id : String} {name : Str} {apos cpos : Pos} {o e : Expr} {es : List Expr} {f : List Nat → List D → Option D} {r : V → List V → Hp → VK → Prop} {mo : Ctx → ER} {ms : List (Ctx → ER)} (o' : On X A.g) (om : OpM A f r) (slot : Slot "str" name id) (hty : typeOf (.builtin id) = pure (.type "method_descriptor")) (hm : MtR X id r)
    (ho : PE X o (tE A W mo)) (ha : PA X (e :: es) (tA' A W (eArgs ms)))
    (hbase : attributeBase o name X.env (eval o X.env) = eval o X.env := by rfl)
    (hfew : ((backTo cpos (starEach (e :: es) X.env)).all (fun x => !x.1) && (backToKw cpos (keywordEach [] X.env)).all (fun x => x.1.isSome)
      && decide ((e :: es).length + ([] : List Keyword).length + (if ([] : List Keyword).isEmpty then 0 else 1) < 30)) = true := by rfl)
    (hline : (apos.endLine == cpos.line) = true := by rfl) (hs : starEach (e :: es) X.env = (false, eval e X.env) :: starEach es X.env := by rfl) (hplain : (backTo cpos (starEach es X.env)).any (·.1) = false := by rfl) :
    PE X (.Call (.Attribute o name apos) (e :: es) [] cpos) (tE A W (eSM f mo ms)) := PE.imp (pe_bm F.plainAttrs_str slot hty hm ho ha hbase hfew hline hs hplain) (o'.k ▸ tE_sm om)

/-! ### join, index, find -/
def strsOf : List D → Option (List (List Nat))
  | [] => some []
  | .str s :: xs => (strsOf xs).map (s :: ·)
  | _ => none
def joinL (a : List Nat) : List (List Nat) → List Nat
  | [] => []
  | [s] => s
  | s :: t :: r => s ++ a ++ joinL a (t :: r)
def seqOf : D → Option (List D)
  | .nd .lst _ xs => some xs
  | .nd .scr _ xs => some xs
  | .tup xs => some xs
  | _ => none
theorem EAt.seq {I H : Hp} {d : D} {xs : List D} {v : V} (ih : leH I H) (bh : leH A.B H) (h : EAt A I H d v) (e : seqOf d = some xs) : ∃ p vs, v = .ref p ∧ (SqL A.g.K H p vs ∨ SqT A.g.K H p vs) ∧ ∃ fp, RL A.g I A.B H xs vs fp := by
  unfold seqOf at e
  split at e
  · cases e
    obtain ⟨p, vs, rfl, h1, h2⟩ := h.lst ih bh
    exact ⟨p, vs, rfl, .inl (.inl (.inl h1)), h2⟩
  · cases e
    obtain ⟨p, vs, rfl, h1, h2⟩ := h.scr ih bh
    exact ⟨p, vs, rfl, .inl h1, h2⟩
  · cases e
    obtain ⟨p, vs, rfl, h1, h2⟩ := h.tup ih
    exact ⟨p, vs, rfl, .inr h1, h2⟩
  · cases e
def strL (s : List Nat) : Str := ⟨s.toArray⟩
theorem strsOf_vs {I H : Hp} : ∀ {xs : List D} {ss : List (List Nat)} {vs : List V} {fp : List Addr}, strsOf xs = some ss → RL A.g I A.B H xs vs fp → vs = (ss.map strL).map V.str ∧ ss.length = xs.length
  | [], ns, vs, fp, e, h => by
    rw [strsOf] at e
    cases e
    rw [RL] at h
    exact ⟨h.1, rfl⟩
  | .str i :: xs, ns, vs, fp, e, h => by
    rw [strsOf] at e
    cases e2 : strsOf xs with
    | none => rw [e2] at e; cases e
    | some ms =>
      rw [e2] at e
      cases e
      rw [RL] at h
      obtain ⟨v, vr, f1, f2, rfl, _, h1, h2⟩ := h
      rw [R] at h1
      obtain ⟨rfl, hl⟩ := strsOf_vs e2 h2
      rw [h1.1]
      exact ⟨rfl, by rw [List.length_cons, List.length_cons, hl]⟩
  | .non :: _, _, _, _, e, _ => by simp [strsOf] at e
  | .bl _ :: _, _, _, _, e, _ => by simp [strsOf] at e
  | .int _ :: _, _, _, _, e, _ => by simp [strsOf] at e
  | .ty _ :: _, _, _, _, e, _ => by simp [strsOf] at e
  | .tup _ :: _, _, _, _, e, _ => by simp [strsOf] at e
  | .nd _ _ _ :: _, _, _, _, e, _ => by simp [strsOf] at e
  | .exn _ _ _ :: _, _, _, _, e, _ => by simp [strsOf] at e
theorem strL_app (s t : List Nat) : strL s ++ strL t = strL (s ++ t) := by
  show (⟨s.toArray ++ t.toArray⟩ : Str) = ⟨(s ++ t).toArray⟩
  simp
theorem join_is (a : List Nat) : ∀ ss : List (List Nat), Str.join (strL a) (ss.map strL) = strL (joinL a ss)
  | [] => rfl
  | [_] => rfl
  | s :: t :: r => by
    show strL s ++ strL a ++ Str.join (strL a) ((t :: r).map strL) = _
    rw [join_is a (t :: r), strL_app, strL_app, joinL]
def fJoin : List Nat → List D → Option D
  | a, [d] => match seqOf d with
    | some xs => (strsOf xs).bind fun ss => if (ss.map (·.length)).sum + ss.length * a.length ≤ 16777216 then some (.str (joinL a ss)) else none
    | none => none
  | _, _ => none
theorem strL_len (s : List Nat) : (strL s).length = s.length := Str.len s
theorem om_join : OpM A fJoin (fun x xs H Q => ∃ a p, ∃ ys : List Str, x = .str a ∧ xs = [.ref p] ∧ (SqL A.g.K H p (ys.map V.str) ∨ SqT A.g.K H p (ys.map V.str)) ∧
    (ys.map (·.length)).sum + ys.length * a.length ≤ 16777216 ∧ Q (.str (Txt.join a ys)) H) := fun I H s ds vs Q d ih bh P e q => by
  unfold fJoin at e
  split at e
  · rename_i d0
    obtain ⟨x, rfl, h1⟩ := Paired.one P
    cases e1 : seqOf d0 with
    | none => rw [e1] at e; cases e
    | some xs =>
      rw [e1] at e
      dsimp only at e
      cases e2 : strsOf xs with
      | none => rw [e2] at e; cases e
      | some ss =>
        rw [e2, Option.bind_some] at e
        by_cases hz : (ss.map (·.length)).sum + ss.length * s.length ≤ 16777216
        · rw [if_pos hz] at e
          cases e
          obtain ⟨p, us, rfl, hp, fp, hr⟩ := h1.seq ih bh e1
          obtain ⟨rfl, _⟩ := strsOf_vs e2 hr
          refine ⟨strL s, p, ss.map strL, rfl, rfl, hp, ?_, ?_⟩
          · rw [List.map_map, List.length_map, strL_len]
            have : ((fun x => Str.length x) ∘ strL) = fun x : List Nat => x.length := by
              funext x
              exact strL_len x
            rw [this]
            exact hz
          · have : Txt.join (strL s) (ss.map strL) = strL (joinL s ss) := (TL.join_eq _ _).trans (join_is s ss)
            rw [this]
            exact q _ _ _ .str
        · rw [if_neg hz] at e
          cases e
  · cases e
def occ (s t : List Nat) : List Nat := Builtin.Str.occurrences (strL s) (strL t) 0 (strL s).length 1
def fIndex : List Nat → List D → Option D
  | s, [.str t] => match occ s t with
    | i :: _ => some (.int (i : Nat))
    | [] => none
  | _, _ => none
theorem om_index : OpM A fIndex (fun x xs H Q => ∃ a b i rest, x = .str a ∧ xs = [.str b] ∧ Builtin.Str.occurrences a b 0 a.length 1 = i :: rest ∧ Q (.int (i : Nat)) H) := fun I H s ds vs Q d ih bh P e q => by
  unfold fIndex at e
  split at e
  · rename_i t
    obtain ⟨x, rfl, h1⟩ := Paired.one P
    rw [h1.str]
    cases e1 : occ s t with
    | nil => rw [e1] at e; cases e
    | cons i r =>
      rw [e1] at e
      cases e
      exact ⟨strL s, strL t, i, r, rfl, rfl, e1, q _ _ _ .int⟩
  · cases e
def fFind : List Nat → List D → Option D
  | s, [.str t] => some (.int (Txt.find (strL s) (strL t)))
  | _, _ => none
theorem om_find : OpM A fFind (fun x xs H Q => ∃ a b, x = .str a ∧ xs = [.str b] ∧ Q (.int (Txt.find a b)) H) := fun I H s ds vs Q d ih bh P e q => by
  unfold fFind at e
  split at e
  · rename_i t
    obtain ⟨x, rfl, h1⟩ := Paired.one P
    rw [h1.str]
    cases e
    exact ⟨strL s, strL t, rfl, rfl, q _ _ _ .int⟩
  · cases e
end
end Lc
end
section
set_option Elab.async false
set_option linter.all false
set_option maxRecDepth 100000
set_option maxHeartbeats 4000000
namespace PySem
namespace XS
open PySem.W PySem.Calls PyProof.Rows PySem.HandSPX

/-- the body of such an __init__: super().__init__(msg); self.f = f -/
def xBody (f : Str) (msg : Expr) (p0 p1 p2 p3 p4 q1 q2 q3 q4 : Pos) : List Stmt :=
  [.Expr (.Call (.Attribute (.Call (.Name "super" p0) [] [] p1) "__init__" p2) [msg] [] p3) p4, .Assign [.Attribute (.Name "self" q1) f q2] (.Name f q3) q4]
def xScope (f : Str) : Scope := { kind := .function, names := [(PySem.Str.ofString "self", .local), (f, .local), (PySem.Str.ofString "super", .globalImplicit), (PySem.Str.ofString "__class__", .free)], isGenerator := false, isCoroutine := false, more := [] }

/-- what is asked of the message: a text (or int); nothing is told of it -/
def MsgOk (M : Model) (env : Env) (f : Str) (msg : Expr) (L : Addr) (v : Value) : Prop := ∀ (A : Around) (E : Value → Shared → Prop) (s : Shared) (m : Str → Option Value) (Q : Value → Shared → Prop), s.heap.Ns L m → m f = some v →
  (∀ u t', Q u { s with toks := t' }) → wpAny M A (eval msg env) Q E s

structure InitEnd (h h' : Heap) (x C dx t1 : Addr) (f : Str) (v : Value) : Prop where
  keep : ∀ b o, b ≠ x → h.get? b = some o → h'.get? b = some o
  obj : h'.get? x = some { cls := .ref C, dict := some dx, data := .fields #[.ref t1, .none, .none, .none, .bool false, .none] }
  dbig : h.objs.size ≤ dx
  dne : dx ≠ x
  ns : h'.Ns1 dx (fun y => if y = f then some v else none)

section
variable {prog : Program} {w : World} {A : Around} {E : Value → Shared → Prop} {R : Result → Shared → Prop} {s : Shared} {K : Frag} {mg mb : Str → Option Value} {C fI cc cda : Addr} {f : Str}
/-- the bound wrapper, called -/
theorem call_mw {h : Heap} {g : Array GenState} {d : Drawn} {t : Nat} {os : OsState} {u e t0 : Addr} {rest : List Value} {nm q : Str} {N : Addr} {bs bm : List Value} {sn : List Str} {sub : List Value} {ab : Bool} {col : Option Bool} {dd : Option Addr} {k0 k1 k2 k3 k5 : Option Value} {Q : Value → Shared → Prop}
    (hC : h.get? C = some (excClassObj nm q C N bs bm true sn sub ab col dd k0 k1 k2 k3 k5 "ValueError.__new__")) (he : h.get? e = some (excO C t0)) (hu : h.get? u = some (kxs_mw "ValueError.__init__" e)) (hrest : rest.length ≤ sizeLine)
    (hq : ∀ h' t1, (∀ b o, b ≠ e → h.get? b = some o → h'.get? b = some o) → h'.get? e = some (excO C t1) → Q .none ⟨h', g, d, t, os⟩) :
    wpAny (model prog w) A (call (.ref u) rest) Q E ⟨h, g, d, t, os⟩ := by
  refine wpAny_call (codeAny_of_tree ?_)
  show wpAny _ A.in1 (callAny (.ref u) ⟨rest, []⟩) _ _ _
  simp only [callAny]
  refine wpAny_bind (wpAny_load hu ?_)
  simp only [kxs_mw, show (Value.type "method-wrapper" == Value.type "method" || Value.type "method-wrapper" == Value.type "builtin_function_or_method" || Value.type "method-wrapper" == Value.type "method-wrapper") = true by decide, if_true]
  refine W.KFB.if_so (by decide) ?_
  refine wpAny_bind (check_bound_init PySem.F.excBase_ValueError.toExcCallFacts hC he rfl ?_)
  refine wpAny_bind (wpAny_pure (wpAny_pure ?_))
  refine ⟨plainId_quiet PySem.F.excBase_ValueError.init.plain _, codeAny_builtin PySem.F.excBase_ValueError.initEntry ?_⟩
  exact exc_init_tree (cls := .ref C) (t0 := t0) (dv := none) (c2 := .none) (c3 := .none) (b4 := .bool false) he hrest fun h' k e' _ => hq h' h.objs.size k e'

theorem ldF {M : Model} {s : Shared} {fd : FuncData} {L a : Addr} {m : Str → Option Value} {x : Str} {pos : Pos} {v : Value} {Q : Value → Shared → Prop} {A : Around} {E : Value → Shared → Prop} (hn : s.heap.Ns L m) (hv : m x = some v) (h : Q v s)
    (hk : fd.scope.kind = .function) (hl : fd.scope.names.lookup x = some .local) (hd : (x == ("__debug__" : Str)) = false) : wpAny M A (eval (.Name x pos) (callEnv fd L a)) Q E s := wpAny_Name (wpAny_loadName_local hk hl hn hv h) hd

theorem x_init {qual : Str} {params : Arguments} {scope : Scope} {msg : Expr} {p0 p1 p2 p3 p4 q1 q2 q3 q4 : Pos} {dV kV doc pm ct oc ccl cl v : Value} {an od cdd cld dd : Option Addr} {osl ccs csl : Array (Option Value)} {vs : Array Value} {file : Str} {tf : Tok} {ar : Arg} {x t0 N : Addr} {nm q : Str} {bs bm : List Value} {sn : List Str} {sub : List Value} {ab : Bool} {col : Option Bool} {k0 k1 k2 k3 k5 : Option Value}
    (X : K.In s.heap) (hlim : s.heap.NoLimit) (hg : s.heap.Ns mainGlobals mg) (hgs : mg "super" = none) (hb : s.heap.Ns builtinsNs mb) (hbs : mb "super" = some (.type "super"))
    (ho : K.lookup fI = some ⟨oc, od, .func (fnX "__init__" qual params (xBody f msg p0 p1 p2 p3 p4 q1 q2 q3 q4) scope [(("__class__" : Str), cc)] dV kV doc pm an (.ref cda) ct), osl⟩) (hcd : codeIn K (.ref cda) qual = true)
    (har : (params.posonlyargs ++ params.args).head? = some ar) (harg : ar.arg = "self")
    (hcell : K.lookup cc = some ⟨cl, cld, .cell (some (.ref C)), csl⟩) (hcode : K.lookup cda = some ⟨ccl, cdd, .fields vs, ccs⟩) (hvs : vs[2]? = some (.str file tf)) (hfile : ((prog.main.file : Str) == file) = true) (htop : (prog.main.scope.names.lookup ("super" : Str)).isSome = false)
    (hC : K.lookup C = some (excClassObj nm q C N bs bm true sn sub ab col dd k0 k1 k2 k3 k5 "ValueError.__new__")) (hbm : refsVE bm = true) (sa : findIn K (.ref C) "__setattr__" = some (some (.builtin "object.__setattr__"))) (noN : findIn K (.ref C) f = some none)
    (hsup : alongIn K "__init__" (((Value.ref C :: bm).dropWhile (· != .ref C)).drop 1) = some (some (.builtin "ValueError.__init__"))) (hno : nsIn K cStatics "thirdparty.any" = some none) (hmro : mroIn K C (.ref C) = some true) (hsubB : subIn K (.ref C) (.type "ValueError") = some true)
    (hx : s.heap.get? x = some (excO C t0)) (hnx : K.lookup x = none) (hroom : A.depth < recursionLimit)
    (hbind : BindsTo s (fnX "__init__" qual params (xBody f msg p0 p1 p2 p3 p4 q1 q2 q3 q4) scope [(("__class__" : Str), cc)] dV kV doc pm an (.ref cda) ct) ⟨[.ref x, v], []⟩ [("self", .ref x), (f, v)])
    (hk : scope.kind = .function) (hco : scope.isCoroutine = false) (hgen : scope.isGenerator = false) (hncell : ∀ y ∈ scope.names, y.2 ≠ .cell) (hls : scope.names.lookup ("self" : Str) = some .local) (hlf : scope.names.lookup f = some .local) (hks : scope.names.lookup ("super" : Str) = some .globalImplicit) (hkc : scope.names.lookup ("__class__" : Str) = some .free)
    (hfs : f ≠ ("self" : Str)) (hfd : (f == ("__debug__" : Str)) = false)
    (hmsg : MsgOk (model prog w) (callEnv (fnX "__init__" qual params (xBody f msg p0 p1 p2 p3 p4 q1 q2 q3 q4) scope [(("__class__" : Str), cc)] dV kV doc pm an (.ref cda) ct) s.heap.objs.size fI) f msg s.heap.objs.size v)
    (pl : Env → Sem Bool) (hev : ∀ env : Env, eval (.Call (.Attribute (.Call (.Name "super" p0) [] [] p1) "__init__" p2) [msg] [] p3) env = (do
      let ov ← attributeBase (.Call (.Name "super" p0) [] [] p1) "__init__" env (eval (.Call (.Name "super" p0) [] [] p1) env)
      standAt p2.atName
      let (f, first) ← holding [ov] (getMethod ov "__init__" (pl env))
      callWith p3 f first (backTo p3 (starEach [msg] env)) []))
    (hst : ∀ env : Env, starEach [msg] env = (false, eval msg env) :: starEach [] env) (hsw : ∀ env : Env, swapsWith (.Call (.Attribute (.Call (.Name "super" p0) [] [] p1) "__init__" p2) [msg] [] p3) none p4.line env = pure false)
    (hq : ∀ h' tk dx t1, InitEnd s.heap h' x C dx t1 f v → R (.ok (.ret .none)) { s with heap := h', toks := tk }) :
    codeAny (model prog w) A (.call (.ref fI) ⟨[.ref x, v], []⟩) R s := by
  obtain ⟨hp, g, d, t, os⟩ := s
  generalize hfdD : fnX "__init__" qual params (xBody f msg p0 p1 p2 p3 p4 q1 q2 q3 q4) scope [(("__class__" : Str), cc)] dV kV doc pm an (.ref cda) ct = fd at *
  have e1 : fd.body = .stmts (xBody f msg p0 p1 p2 p3 p4 q1 q2 q3 q4) := by rw [← hfdD]
  have e2 : fd.scope = scope := by rw [← hfdD]
  have e3 : fd.code = .ref cda := by rw [← hfdD]
  have e4 : fd.qualname = qual := by rw [← hfdD]
  have e5 : fd.params = params := by rw [← hfdD]
  have e6 : fd.closure = [(("__class__" : Str), cc)] := by rw [← hfdD]
  have e7 : fd.globals = mainGlobals := by rw [← hfdD]
  have e8 : fd.builtins = builtinsNs := by rw [← hfdD]
  have hcl : clsIn K C = some { name := nm, bases := bs, mro := .ref C :: bm, ns := N, qualname := q, hasDict := true, slotNames := sn, subclasses := sub, abstract := ab, collection := col, hasDel := false } := by unfold clsIn; rw [hC] <;> rfl
  refine ks_codeAny_call_defAt (fd := fd) (binds := [("self", .ref x), (f, v)]) hroom (X _ _ ho) rfl hlim (by rw [e3, e4]; exact codeRec_of X hcd) e1 hbind (by rw [e2]; exact hncell) (fun y hy => ?_) (fun h₀ hns k => ?_) (by rw [e2]; exact hco) (by rw [e2]; exact hgen) (by rw [e2]; exact hk)
  · rw [e2]
    rcases List.mem_cons.mp hy with rfl | hy
    · exact hls
    · rcases List.mem_cons.mp hy with rfl | hy
      · exact hlf
      · cases hy
  have X0 : K.In h₀ := X.keeps k
  have hx0 := k _ _ hx
  have mself : (fun y : Str => ([((PySem.Str.ofString "self"), Value.ref x), (f, v)] : List (Str × Value)).reverse.lookup y) "self" = some (.ref x) := by
    have : ((PySem.Str.ofString "self") == f) = false := by
      have z : ¬ (PySem.Str.ofString "self") = f := fun z => hfs z.symm
      simpa using z
    show List.lookup (PySem.Str.ofString "self") [(f, v), ((PySem.Str.ofString "self"), Value.ref x)] = _
    rw [List.lookup, this]
    simp [List.lookup]
  have mf : (fun y : Str => ([((PySem.Str.ofString "self"), Value.ref x), (f, v)] : List (Str × Value)).reverse.lookup y) f = some v := by
    show List.lookup f [(f, v), ((PySem.Str.ofString "self"), Value.ref x)] = _
    simp [List.lookup]
  have kSup : (callEnv fd hp.objs.size fI).kindOf "super" = some .globalImplicit := by
    show fd.scope.names.lookup _ = _
    rw [e2]
    exact hks
  have kCls : (callEnv fd hp.objs.size fI).kindOf "__class__" = some .free := by
    show fd.scope.names.lookup _ = _
    rw [e2]
    exact hkc
  have kSelf : (callEnv fd hp.objs.size fI).kindOf "self" = some .local := by
    show fd.scope.names.lookup _ = _
    rw [e2]
    exact hls
  have hkE : (callEnv fd hp.objs.size fI).scope.kind = .function := by
    show fd.scope.kind = _
    rw [e2]
    exact hk
  refine ks_wpAt_execs_cons (ks_wpAt_Expr_any (ks_wpAt_MethodCall ?_ (hev _)) (by unfold interactive; rw [hkE]; rfl) (hsw _))
  refine ks_wpAt_super_base (env := callEnv fd hp.objs.size fI) (ar := ar) kSup kCls (by decide) rfl (X0 _ _ ho) rfl (by rw [e5]; exact har) (show fd.code = _ from e3) (X0 _ _ hcode) rfl hvs hfile htop ?_
  refine ks_loadName_global hkE kSup (loadGlobal_builtin (env := callEnv fd hp.objs.size fI) (by show h₀.Ns fd.globals mg; rw [e7]; exact hg.keeps k) hgs (by show h₀.Ns fd.builtins mb; rw [e8]; exact hb.keeps k) hbs ⟨rfl, ?_⟩)
  refine wpAny_loadName_free hkE kCls (c := cc) (by show fd.closure.lookup _ = _; rw [e6]; rfl) ⟨_, X0 _ _ hcell, rfl⟩ ?_
  rw [harg]
  refine wpAny_loadName_local hkE kSelf hns mself ?_
  refine ks_wpAny_isType_cls (X0 _ _ hC) rfl ⟨rfl, ?_⟩
  refine ks_wpAny_call_super (X0 _ _ hC) rfl hx0 rfl (fun c e => by cases e) (looks_mroIn X0 hmro) (fun h1 hso k1 => ?_)
  have X1 : K.In h1 := X0.keeps k1
  have hx1 := k1 _ _ hx0
  have hI1 : W.Looks (model prog w) h1 (isInstance (.ref x) (.type "ValueError")) true := (InstAt.type (od := none) (ox := excO C t0) (C := C) ⟨hx1, rfl, rfl, trivial⟩).andThen (looks_subIn X1 hsubB)
  have hxC : x ≠ C := fun z => by
    have y := X1 _ _ hC
    rw [← z, hx1] at y
    cases y
  refine kxs_getMethod kxs_ValueError hso (looks_opaque X1 hno) (l₀ := .ref C :: bm) ((looks_clsIn X1 hcl).andThen .now) rfl X1 hsup hI1 hxC (by decide) ?_
  have k2 : ∀ b o, h1.get? b = some o → (h1.push (kxs_mw "ValueError.__init__" x)).get? b = some o := fun b o e => Heap.get?_push_of_some _ e
  have hmw : (h1.push (kxs_mw "ValueError.__init__" x)).get? h1.objs.size = some (kxs_mw "ValueError.__init__" x) := Heap.get?_push_size _ rfl
  have hns2 : (h1.push (kxs_mw "ValueError.__init__" x)).Ns hp.objs.size (fun y : Str => ([((PySem.Str.ofString "self"), Value.ref x), (f, v)] : List (Str × Value)).reverse.lookup y) := (hns.keeps k1).keeps k2
  dsimp only
  rw [hst]
  refine kxs_callWith (i := "ValueError.__init__") (x := x) rfl (evalArgs_plain (Calls.spliced_cons (hmsg _ _ _ _ _ hns2 mf fun u t' => Calls.spliced_nil ⟨hmw, ?_⟩)))
  refine call_mw (X1.keeps k2 _ _ hC) (k2 _ _ hx1) hmw (by rw [sizeLine_eq]; exact (by decide : 1 ≤ 16777216)) fun h3 t1 k3 hx3 => ?_
  have X3 : K.In h3 := fun b o e => k3 b o (fun z => by rw [z, hnx] at e; cases e) (k2 _ _ (X1 b o e))
  have kall : ∀ b o, b ≠ x → hp.get? b = some o → h3.get? b = some o := fun b o hb e => k3 b o hb (k2 _ _ (k1 _ _ (k b o e)))
  have hns3 : h3.Ns hp.objs.size (fun y : Str => ([((PySem.Str.ofString "self"), Value.ref x), (f, v)] : List (Str × Value)).reverse.lookup y) := by
    obtain ⟨o, es, ep, e, dd, r⟩ := hns2
    refine ⟨o, es, ep, k3 _ _ (fun z => ?_) e, dd, r⟩
    have := Heap.lt_size hx
    rw [← z] at this
    exact absurd this (Nat.lt_irrefl _)
  have szle : hp.objs.size ≤ h3.objs.size := Nat.le_of_lt hns3.lt
  -- self.f = f
  show wpAt _ _ _ (execs [_] _) _ _ _
  refine wpAt_of_wpAny (wpAny_execs_cons (plainObj_wpAny_Assign_Attribute ?_))
  refine ldF (v := v) hns3 mf ?_ hkE (by rw [e2]; exact hlf) hfd
  refine ldF (v := .ref x) hns3 mself ?_ hkE (by rw [e2]; exact hls) (by decide)
  refine set_plain X3 (ox := excO C t1) (od := none) ⟨hx3, rfl, rfl, trivial⟩ sa ?_
  refine exc_osa X3 hx3 hcl (show refsVE (.ref C :: bm) = true from hbm) rfl noN (fun h4 tk4 dx k4 dn dne hx4 hn4 => ?_)
  refine wpAny_execs_nil (hq h4 tk4 dx t1 ⟨fun b o hb e => k4 b o hb (kall b o hb e), hx4, Nat.le_trans szle dn, dne, hn4⟩)
end
end XS
end PySem
end
section
set_option Elab.async false
set_option linter.all false
set_option maxRecDepth 100000
set_option maxHeartbeats 4000000
namespace PySem
namespace XS
open PySem.W PySem.Calls PyProof.Rows PySem.HandSPX

/-- what the written part says of such a class, at C, and of its __init__, at fI -/
structure XTxt (prog : Program) (K : Frag) (C fI : Addr) (f : Str) (Ok : Value → Prop) : Prop where
  sa : findIn K (.ref C) "__setattr__" = some (some (.builtin "object.__setattr__"))
  noN : findIn K (.ref C) f = some none
  iC : findIn K (.ref C) "__init__" = some (some (.ref fI))
  tC : typeIn K (.ref fI) = some (.type "function")
  kC : keepIn K (.ref C) = true
  exC : subIn K (.ref C) (.type "BaseException") = some true
  tyC : typeIn K (.ref C) = some (.type "type")
  hno : nsIn K cStatics "thirdparty.any" = some none
  hmro : mroIn K C (.ref C) = some true
  hsubB : subIn K (.ref C) (.type "ValueError") = some true
  htop : (prog.main.scope.names.lookup ("super" : Str)).isSome = false
  hfs : f ≠ ("self" : Str)
  hfd : (f == ("__debug__" : Str)) = false
  fn : ∃ (qual : Str) (params : Arguments) (scope : Scope) (msg : Expr) (p0 p1 p2 p3 p4 q1 q2 q3 q4 : Pos) (dV kV doc pm ct oc ccl cl : Value) (an od cdd cld dd : Option Addr) (osl ccs csl : Array (Option Value)) (vs : Array Value) (file : Str) (tf : Tok) (ar : Arg) (N cc cda : Addr) (nm q : Str) (bs bm : List Value) (sn : List Str) (sub : List Value) (ab : Bool) (col : Option Bool) (k0 k1 k2 k3 k5 : Option Value) (pl : Env → Sem Bool) (fd : FuncData),
    fd = fnX "__init__" qual params (xBody f msg p0 p1 p2 p3 p4 q1 q2 q3 q4) scope [(("__class__" : Str), cc)] dV kV doc pm an (.ref cda) ct ∧
    K.lookup fI = some ⟨oc, od, .func fd, osl⟩ ∧ codeIn K (.ref cda) qual = true ∧
    (params.posonlyargs ++ params.args).head? = some ar ∧ ar.arg = "self" ∧ K.lookup cc = some ⟨cl, cld, .cell (some (.ref C)), csl⟩ ∧ K.lookup cda = some ⟨ccl, cdd, .fields vs, ccs⟩ ∧ vs[2]? = some (.str file tf) ∧ ((prog.main.file : Str) == file) = true ∧
    K.lookup C = some (excClassObj nm q C N bs bm true sn sub ab col dd k0 k1 k2 k3 k5 "ValueError.__new__") ∧ refsVE bm = true ∧
    alongIn K "__init__" (((Value.ref C :: bm).dropWhile (· != .ref C)).drop 1) = some (some (.builtin "ValueError.__init__")) ∧
    (∀ (s : Shared) (x : Addr) (v : Value), BindsTo s fd ⟨[.ref x, v], []⟩ [("self", .ref x), (f, v)]) ∧
    scope.kind = .function ∧ scope.isCoroutine = false ∧ scope.isGenerator = false ∧ (∀ y ∈ scope.names, y.2 ≠ .cell) ∧ scope.names.lookup ("self" : Str) = some .local ∧ scope.names.lookup f = some .local ∧ scope.names.lookup ("super" : Str) = some .globalImplicit ∧ scope.names.lookup ("__class__" : Str) = some .free ∧
    (∀ (w : World) (L : Addr) (v : Value), Ok v → MsgOk (model prog w) (callEnv fd L fI) f msg L v) ∧
    (∀ env : Env, eval (.Call (.Attribute (.Call (.Name "super" p0) [] [] p1) "__init__" p2) [msg] [] p3) env = (do
      let ov ← attributeBase (.Call (.Name "super" p0) [] [] p1) "__init__" env (eval (.Call (.Name "super" p0) [] [] p1) env)
      standAt p2.atName
      let (f, first) ← holding [ov] (getMethod ov "__init__" (pl env))
      callWith p3 f first (backTo p3 (starEach [msg] env)) [])) ∧
    (∀ env : Env, starEach [msg] env = (false, eval msg env) :: starEach [] env) ∧
    ∀ env : Env, swapsWith (.Call (.Attribute (.Call (.Name "super" p0) [] [] p1) "__init__" p2) [msg] [] p3) none p4.line env = pure false

/-- a made exception -/
structure OwnMade (h h' : Heap) (e C d : Addr) (f : Str) (v : Value) : Prop where
  keep : ∀ b o, h.get? b = some o → h'.get? b = some o
  new : h.objs.size ≤ e
  obj : ∃ oe vs, h'.get? e = some oe ∧ oe.cls = .ref C ∧ oe.dict = some d ∧ oe.data = .fields vs ∧ vs[1]? = some .none
  dbig : h.objs.size ≤ d
  dne : d ≠ e
  ns : h'.Ns1 d (fun y => if y = f then some v else none)
section
variable {prog : Program} {w : World} {A : Around} {E : Value → Shared → Prop} {R : Result → Shared → Prop} {s : Shared} {K : Frag} {mg mb : Str → Option Value} {C fI : Addr} {f : Str} {Ok : Value → Prop}
theorem x_made (T : XTxt prog K C fI f Ok) {v : Value} (X : K.In s.heap) (hlim : s.heap.NoLimit) (hg : s.heap.Ns mainGlobals mg) (hgs : mg "super" = none) (hb : s.heap.Ns builtinsNs mb) (hbs : mb "super" = some (.type "super")) (hroom : A.depth + 1 < recursionLimit) (hv : Ok v)
    (hq : ∀ h' tk e d, OwnMade s.heap h' e C d f v → R (.ok (.ret (.ref e))) { s with heap := h', toks := tk }) :
    codeAny (model prog w) A (.call (.ref C) ⟨[v], []⟩) R s := by
  obtain ⟨qual, params, scope, msg, p0, p1, p2, p3, p4, q1, q2, q3, q4, dV, kV, doc, pm, ct, oc, ccl, cl, an, od, cdd, cld, dd, osl, ccs, csl, vs, file, tf, ar, N, cc, cda, nm, q, bs, bm, sn, sub, ab, col, k0, k1, k2, k3, k5, pl, fd, rfl, ho, hcd, har, harg, hcell, hcode, hvs, hfile, hC, hbm, hsup, hbind, hk, hco, hgen, hncell, hls, hlf, hks, hkc, hmsg, hev, hst, hsw⟩ := T.fn
  obtain ⟨hp, g, dr, tk, os⟩ := s
  have k : ∀ b o, hp.get? b = some o → ((hp.push (kdv_tup [v])).push (excO C hp.objs.size)).get? b = some o := fun b o e => Heap.get?_push_of_some _ (Heap.get?_push_of_some _ e)
  have hget : ((hp.push (kdv_tup [v])).push (excO C hp.objs.size)).get? (hp.objs.size + 1) = some (excO C hp.objs.size) := by heap_get
  have hnx : K.lookup (hp.objs.size + 1) = none := by
    cases e : K.lookup (hp.objs.size + 1) with
    | none => rfl
    | some o =>
      have z : hp.get? (hp.objs.size + 1) = some o := X _ _ e
      exact absurd (Nat.lt_of_succ_lt (Heap.lt_size z)) (Nat.lt_irrefl _)
  refine call_own F.excBase_ValueError (fun X => refsVE_contains X bm hbm) (X _ _ hC) (looks_findIn X T.iC) (fun self => bind_fn X self T.tC) (by rw [sizeLine_eq]; exact (by decide : 1 ≤ 16777216)) ?_
  refine x_init (s := ⟨(hp.push (kdv_tup [v])).push (excO C hp.objs.size), g, dr, tk, os⟩) (X.keeps k) (hlim.keeps k) (hg.keeps k) hgs (hb.keeps k) hbs ho hcd har harg hcell hcode hvs hfile T.htop hC hbm T.sa T.noN hsup T.hno T.hmro T.hsubB hget hnx ?_ (hbind _ _ _) hk hco hgen hncell hls hlf hks hkc T.hfs T.hfd (hmsg w _ v hv) pl hev hst hsw fun h' tk' dx t1 ⟨k', hx, dn, dne, hns⟩ => ?_
  · show A.depth + 1 < recursionLimit
    exact hroom
  · have old : ∀ b o, hp.get? b = some o → h'.get? b = some o := fun b o e => k' b o (Nat.ne_of_lt (Nat.lt_succ_of_lt (Heap.lt_size e))) (k b o e)
    have z : hp.objs.size + 1 + 1 ≤ dx := by
      first
        | (simpa only [Heap.size_push] using dn)
        | exact dn
        | (have q := dn; rw [Heap.size_push, Heap.size_push] at q; exact q)
    exact ⟨rfl, hq h' tk' (hp.objs.size + 1) dx ⟨old, Nat.le_succ _, ⟨_, _, hx, rfl, rfl, rfl, rfl⟩, Nat.le_trans (Nat.le_trans (Nat.le_succ _) (Nat.le_succ _)) z, dne, hns⟩⟩
end

/-! ### messages -/
theorem msg_str {M : Model} {env : Env} {f : Str} {y : Str} {j : Nat} {pos : Pos} {L : Addr} {v : Value} : MsgOk M env f (.Constant (.str y) j pos) L v := fun A E s m Q _ _ h => Calls.Constant_str (h _ _)
theorem msg_repr {prog : Program} {w : World} {fd : FuncData} {fI : Addr} {f : Str} {y : Str} {j : Nat} {c0 c1 p0 p1 : Pos} {L : Addr} {x : Str} {tk : Tok} (hk : fd.scope.kind = .function) (hl : fd.scope.names.lookup f = some .local) (hd : (f == ("__debug__" : Str)) = false) (hx : y.length + (reprText x).length ≤ sizeLine) :
    MsgOk (model prog w) (callEnv fd L fI) f (.JoinedStr [.Constant (.str y) j c0, .FormattedValue (.Name f c1) 114 none p0] p1) L (.str x tk) := fun A E s m Q hn hm h => by
  have hx2 : (reprText x).length ≤ sizeLine := by omega
  have hy : (Str.empty ++ y).length ≤ sizeLine := by
    have : (Str.empty ++ y).length = y.length := by
      show (#[] ++ y.cps).size = y.cps.size
      simp
    omega
  have hz : (Str.empty ++ y ++ reprText x).length ≤ sizeLine := by
    have : (Str.empty ++ y ++ reprText x).length = y.length + (reprText x).length := by
      show (#[] ++ y.cps ++ (reprText x).cps).size = y.cps.size + (reprText x).cps.size
      simp
    omega
  refine wpAny_JoinedStr (Q := Q) ?_
  have e0 : evalEach [.Constant (.str y) j c0, .FormattedValue (.Name f c1) 114 none p0] (callEnv fd L fI) = [eval (.Constant (.str y) j c0) (callEnv fd L fI), eval (.FormattedValue (.Name f c1) 114 none p0) (callEnv fd L fI)] := by first | rfl | simp [evalEach]
  rw [e0]
  refine Calls.Constant_str ⟨y, _, rfl, hy, ?_⟩
  refine wpAny_FormattedValue_repr (ldF (v := .str x tk) hn hm ?_ hk hl hd)
  exact pyReprObj_str (wpAny_formatField_str ⟨reprText x, _, rfl, hz, hz, h _ _⟩ ⟨reprText x, _, rfl, hz, hz, h _ _⟩ hx2) hx2
end XS
end PySem
end
section
set_option Elab.async false
set_option linter.all false
set_option maxRecDepth 100000
set_option maxHeartbeats 1000000
namespace Lc
open PySem L2

theorem relO_one {f : Str} {v : V} {v' : Value} (r : RelV v v') (g : Str) : RelO (List.lookup g [(f, v)]) (if g = f then some v' else none) := by
  by_cases hw : g = f
  · subst hw
    rw [if_pos rfl]
    have q : List.lookup g [(g, v)] = some v := by simp [List.lookup]
    rw [q]
    exact r
  · rw [if_neg hw]
    have qw : (g == f) = false := by simpa using hw
    have q2 : List.lookup g [(f, v)] = none := by simp [List.lookup, qw]
    rw [q2]
    trivial
section
variable {X : Cx} {C fI : Addr} {f : Str} {Ok : Value → Prop}
/-- C(e) -/
def tMkX (C : Addr) (f : Str) (Ok : Value → Prop) (ta : TA) : L2.St → Hp → XK → Prop := fun σ H Q => ta σ H fun vs H1 => ∃ v, vs = [v] ∧ (∀ u, RelV v u → Ok u) ∧ ∀ d, H1 d = none → Q (.ref C) (some d) (upd H1 d (.xd [(f, v)]))
theorem pmk_x {x : Str} {a : Expr} {ta : TA} {p pos : Pos} {k : Nat} (T : PySem.XS.XTxt X.prog X.K C fI f Ok) (gC : X.mg x = some (.ref C)) (hs : X.mg "super" = none) (hr : Room k X.A) (ha : PA X [a] ta) (hg : Gl X x) (hdb : (x == ("__debug__" : Str)) = false := by decide)
    (he : starEach (a :: []) X.env = (false, eval a X.env) :: starEach [] X.env := by rfl) (hpl : (backTo pos (starEach [] X.env)).any (·.1) = false := by rfl) :
    PMk X (.Call (.Name x p) [a] [] pos) (tMkX C f Ok ta) := by
  intro pins s σ H Q I h
  refine wpAny_Call_Name_kw (ld_glob I hg gC ?_ hdb)
  refine PySem.W.callWith_K (h₀ := X.base) I.ok.mod.kin T.kC (thn (ha.run pos pins s σ H _ I h) fun us s1 hh => ?_) he hpl
  obtain ⟨vs, H1, I1, r1, v, ev, hok, q1⟩ := hh
  subst ev
  refine ⟨I1.kIn, ?_⟩
  cases r1 with
  | cons rv rn =>
    rename_i v' us'
    cases rn
    show wpAny _ _ (call (.ref C) [v']) _ _ _
    have hlim := I1.nolimit
    obtain ⟨mb, b1, b2⟩ := I1.mod.blt
    have hglob := I1.mod.glob.keeps I1.bk
    have hblt := b1.keeps I1.bk
    obtain ⟨hp, g, dr, tk, os⟩ := s1
    refine wpAny_call (PySem.XS.x_made T I1.kIn hlim hglob hs hblt ((b2 "super" (by decide)).trans (by decide +kernel)) (by have := hr.dp; omega) (hok _ rv) fun h' tk' e d M => ?_)
    show MkP X pins σ Q (.ref e) ⟨h', g, dr, tk', os⟩
    obtain ⟨oe, fv, hoe, hc, hd, hdat, h1⟩ := M.obj
    have hns := M.ns
    obtain ⟨G', g1, g2⟩ := restrict h' fun b => decide (b ≠ e)
    have gk : ∀ b, b ≠ e → G'.get? b = h'.get? b := fun b hb => g1 b (decide_eq_true hb)
    have ge : G'.get? e = none := g2 e (by simp)
    have old : ∀ b o, hp.get? b = some o → G'.get? b = some o := fun b o q => (gk b (Nat.ne_of_lt (Nat.lt_of_lt_of_le (Heap.lt_size q) M.new))).trans (M.keep b o q)
    have ob : ObjOk X.prog X.w (upd H1 d (.xd [(f, v)])) G' d (.xd [(f, v)]) :=
      ⟨_, hns.at (fun o q => (gk d M.dne).trans q), fun y => relO_one rv y⟩
    have J : Inv X pins σ (upd H1 d (.xd [(f, v)])) ⟨G', g, dr, tk', os⟩ := I1.laid (t' := tk') old M.dbig ob
    refine ⟨e, oe, fv, ⟨G', g, dr, tk', os⟩, _, .ref C, some d, rfl, J, fun b o q => ?_, ge, hoe, ⟨hc, hd⟩, hdat, h1, ?_, rfl, I1.bare, raises_own T.exC T.tyC, q1 d (I1.hok.fresh M.dbig)⟩
    · by_cases hb : b = e
      · have q' : G'.get? b = some o := q
        rw [hb, ge] at q'; cases q'
      · exact (gk b hb).symm.trans q
    · rw [upd_ne (Ne.symm M.dne)]
      exact I1.hok.fresh M.new
end

/-! ### raise -/
def sRaise (k : Nat) (n : Str) (ok : D → Bool) (m : Ctx → ER) : Ctx → SR := fun c => match m c with
  | .ok (.t d) c1 => if ok d && noBor d && Lc.noOwn d then .exc k n d c1 else .bad
  | .ok (.pl _ _) _ => .bad
  | .exc k n x c1 => .exc k n x c1
  | .bad => .bad
section
variable {A : Act} {W : Wx} {X : Cx} {C fI : Addr} {f : Str} {Ok : Value → Prop}
theorem R.noH {g : Gs} {I B H : Hp} {d : D} {v : V} (h : R g I B H d v []) (nb : Lc.noBor d = true) : R g I Lc.noH Lc.noH d v [] := R.keep d (R.noBor (B' := Lc.noH) d h nb) (leH.refl _) (leH.refl _) fun a ha => by cases ha
theorem PS_raise {x : Str} {e : Expr} {p pos pos2 : Pos} {k j : Nat} {ok : D → Bool} {m : Ctx → ER} (hcalm : X.calm = true) (T : PySem.XS.XTxt X.prog X.K C fI f Ok) (hG : A.g.G k = C) (gC : X.mg x = some (.ref C)) (hs : X.mg "super" = none) (hr : Room j X.A) (tk : Takes X W)
    (hok : ∀ (I B H : Hp) (d : D) (v : V) (u : Value), ok d = true → R A.g I B H d v [] → RelV v u → Ok u) (he : PE X e (tE A W m)) (hg : Gl X x) (hdb : (x == ("__debug__" : Str)) = false := by decide)
    (hst : starEach (e :: []) X.env = (false, eval e X.env) :: starEach [] X.env := by rfl) (hpl : (backTo pos (starEach [] X.env)).any (·.1) = false := by rfl) :
    PS X (.Raise (some (.Call (.Name x p) [e] [] pos)) none pos2) (tS A W (sRaise k f ok m)) :=
  PS.imp (ps_raise hcalm tk (pmk_x T gC hs hr (pa_cons he pa_nil hst) hg hdb hst hpl)) fun D' σ H ⟨I, c, O, lk, S, h⟩ => by
    refine ⟨I, c, [], O, lk, S, ?_⟩
    rw [sRaise] at h
    cases e1 : m c with
    | bad => rw [e1] at h; exact h
    | exc k n x c1 => rw [e1] at h; exact h σ
    | ok ev c1 =>
      rw [e1] at h
      cases ev with
      | pl r p => exact h.elim
      | t d =>
        dsimp only at h ⊢
        intro v I1 H1 O1 S1
        by_cases hc : (ok d && noBor d && Lc.noOwn d) = true
        · rw [if_pos hc] at h
          rw [Bool.and_eq_true, Bool.and_eq_true] at hc
          obtain ⟨⟨c1', c2⟩, c3⟩ := hc
          have rv : R A.g I1 A.B H1 d v [] := S1.last.nil c3
          refine ⟨v, rfl, fun u ru => hok _ _ _ d v u c1' rv ru, fun dd hd => ?_⟩
          have S2 := (Sat.pop (ts := []) (xs := [(d, v)]) S1).allocI (o := .xd [(f, v)]) hd
          have := h σ dd v _ _ O1 S2 upd_same (R.keep d (R.noH rv c2) (leH.upd (S1.new hd).2.1) (leH.refl _) fun a ha => by cases ha)
          rw [hG] at this
          exact this
        · rw [if_neg hc] at h
          exact h.elim
end
end Lc
end
section
set_option Elab.async false
set_option linter.all false
set_option maxRecDepth 100000
set_option maxHeartbeats 1000000
namespace Lc
open PySem L2

/-! ### caught exceptions: what is meant by them changes with the suite -/
mutual
def noEx : D → Bool
  | .tup xs => noExL xs
  | .nd _ _ xs => noExL xs
  | .exn _ _ _ => false
  | .non => true | .bl _ => true | .int _ => true | .str _ => true | .ty _ => true
def noExL : List D → Bool
  | [] => true
  | x :: xs => noEx x && noExL xs
end
def Act.ex (A : Act) (e : Nat → Addr → Addr → Prop) : Act := { A with g := { A.g with ex := e } }
theorem OwnC.ex {g : Gs} {e : Nat → Addr → Addr → Prop} {H : Hp} {k : Kd} {p : Addr} {vs : List V} (h : OwnC g H k p vs) : OwnC { g with ex := e } H k p vs := by
  cases k <;> exact h
theorem Cell.ex {g : Gs} {e : Nat → Addr → Addr → Prop} {H : Hp} {k : Kd} {p : Addr} {vs : List V} (h : Cell g H k p vs) : Cell { g with ex := e } H k p vs := by
  cases k <;> exact h
mutual
theorem R.ex {g : Gs} {e : Nat → Addr → Addr → Prop} : ∀ (d : D) {I B H : Hp} {v : V} {fp : List Addr}, R g I B H d v fp → noEx d = true → R { g with ex := e } I B H d v fp
  | .non, _, _, _, _, _, h, _ => by rw [R] at h ⊢; exact h
  | .bl _, _, _, _, _, _, h, _ => by rw [R] at h ⊢; exact h
  | .int _, _, _, _, _, _, h, _ => by rw [R] at h ⊢; exact h
  | .str _, _, _, _, _, _, h, _ => by rw [R] at h ⊢; exact h
  | .ty _, _, _, _, _, _, h, _ => by rw [R] at h ⊢; exact h
  | .exn _ _ _, _, _, _, _, _, h, n => by rw [noEx] at n; cases n
  | .tup xs, _, _, _, _, _, h, n => by
    rw [noEx] at n
    rw [R] at h ⊢
    obtain ⟨p, vs, e, t, h⟩ := h
    exact ⟨p, vs, e, t, RL.ex xs h n⟩
  | .nd k .own xs, _, _, _, _, _, h, n => by
    rw [noEx] at n
    rw [R] at h ⊢
    obtain ⟨p, vs, fq, e, e2, t, h⟩ := h
    exact ⟨p, vs, fq, e, e2, t.ex, RL.ex xs h n⟩
  | .nd k .frz xs, _, _, _, _, _, h, n => by
    rw [noEx] at n
    rw [R] at h ⊢
    obtain ⟨p, vs, e, e2, t, h⟩ := h
    exact ⟨p, vs, e, e2, t.ex, RL.ex xs h n⟩
  | .nd k .bor xs, _, _, _, _, _, h, n => by
    rw [noEx] at n
    rw [R] at h ⊢
    obtain ⟨p, vs, e, e2, t, h⟩ := h
    exact ⟨p, vs, e, e2, t.ex, RL.ex xs h n⟩
theorem RL.ex {g : Gs} {e : Nat → Addr → Addr → Prop} : ∀ (xs : List D) {I B H : Hp} {vs : List V} {fp : List Addr}, RL g I B H xs vs fp → noExL xs = true → RL { g with ex := e } I B H xs vs fp
  | [], _, _, _, _, _, h, _ => by rw [RL] at h ⊢; exact h
  | x :: xs, _, _, _, _, _, h, n => by
    rw [noExL, Bool.and_eq_true] at n
    rw [RL] at h ⊢
    obtain ⟨v, vr, f1, f2, e1, e2, h1, h2⟩ := h
    exact ⟨v, vr, f1, f2, e1, e2, R.ex x h1 n.1, RL.ex xs h2 n.2⟩
end
theorem VAt.ex {g : Gs} {e : Nat → Addr → Addr → Prop} {I H : Hp} {S : Addr → Prop} : ∀ {p : List Nat} {v w : V}, VAt g I H S v p w → VAt { g with ex := e } I H S v p w
  | [], _, _, a => a
  | n :: p, v, w, ⟨q, vs, v1, e1, h1, g1, a⟩ => by
    refine ⟨q, vs, v1, e1, ?_, g1, VAt.ex a⟩
    rcases h1 with h1 | ⟨s, k, h1⟩
    · exact .inl h1
    · exact .inr ⟨s, k, h1.ex⟩
def noExS : Sl → Bool
  | .v d => noEx d
  | _ => true
def noExC (c : Ctx) : Bool := c.s.all noExS
section
variable {A : Act} {W : Wx} {X : Cx} {I H I' H' : Hp} {σ σ' : L2.St} {c c' : Ctx} {ts xs : List (D × V)} {O O' : Addr → Option Ow} {lk : List (Nat × List Nat × V)} {d : D} {v : V} {w : Ow} {r : Nat} {p : List Nat}
theorem PV.ex {e : Nat → Addr → Addr → Prop} (h : PV A I H σ c O r p v) : PV (A.ex e) I H σ c O r p v := by
  obtain ⟨d, v0, d', e1, e2, e3, e4, va⟩ := h
  exact ⟨d, v0, d', e1, e2, e3, e4, va.ex⟩
theorem Sat.ex {e : Nat → Addr → Addr → Prop} (S : Sat A I H σ c ts O lk) (n : noExC c = true) (nt : ts.all (fun x => noEx x.1) = true) : Sat (A.ex e) I H σ c ts O lk where
  ih := S.ih
  bh := S.bh
  i0 := S.i0
  ib := S.ib
  len := S.len
  vals := fun i d h => by
    obtain ⟨v, e1, fp, r, nd, l⟩ := S.vals i d h
    exact ⟨v, e1, fp, R.ex d r (List.all_eq_true.mp n _ (List.mem_of_getElem? h)), nd, l⟩
  als := fun i r p h => by
    obtain ⟨w, e1, pv⟩ := S.als i r p h
    exact ⟨w, e1, pv.ex⟩
  tmps := fun j d v h => by
    obtain ⟨fp, r, nd, l⟩ := S.tmps j d v h
    exact ⟨fp, R.ex d r (List.all_eq_true.mp nt _ (List.mem_of_getElem? h)), nd, l⟩
  lks := fun r p v h => (S.lks r p v h).ex
  lke := S.lke
  fr := S.fr

/-! ### try: body, except C as name: suite -/
/-- the slot of the caught one is cleared; no exception stays behind -/
def clr (i : Nat) (c : Ctx) : Option Ctx := if !(c.kr.contains i) && noExC { c with s := (dropAl i c.s).set i .no } then some { c with s := (dropAl i c.s).set i .no } else none
def suiteOut (i : Nat) : SR → SR
  | .nx c => match clr i c with | some c1 => .nx c1 | none => .bad
  | .bk c => match clr i c with | some c1 => .bk c1 | none => .bad
  | .ct c => match clr i c with | some c1 => .ct c1 | none => .bad
  | .rt d c => match clr i c with | some c1 => if noEx d then .rt d c1 else .bad | none => .bad
  | _ => .bad
def sTry (i : Nat) (mt : Nat → Option Bool) (body : Ctx → SR) (suite : Ctx → SR) : Ctx → SR := fun c => match body c with
  | .exc k n x c1 => match mt k with
    | some true => if !(c1.kr.contains i) && decide (i < c1.s.length) && noExC { c1 with s := (dropAl i c1.s).set i .no } && noEx x then suiteOut i (suite { c1 with s := (dropAl i ((dropAl i c1.s).set i .no)).set i (.v (.exn k n x)) }) else .bad
    | some false => .exc k n x c1
    | none => .bad
  | r => r
def exAt (k : Nat) (a d : Addr) : Nat → Addr → Addr → Prop := fun k' a' d' => k' = k ∧ a' = a ∧ d' = d
theorem clr_ok {i : Nat} {c1 : Ctx} {e : Nat → Addr → Addr → Prop} (S : Sat (A.ex e) I H σ c ts O lk) (h : clr i c = some c1) (nt : ts.all (fun x => noEx x.1) = true) : Sat A I H (σ.set i none) c1 ts O lk := by
  unfold clr at h
  by_cases q : (!(c.kr.contains i) && noExC { c with s := (dropAl i c.s).set i .no }) = true
  · rw [if_pos q] at h
    cases h
    rw [Bool.and_eq_true] at q
    have S1 := S.forget (i := i) (by simpa using q.1)
    have S2 := S1.ex (e := A.g.ex) q.2 nt
    refine Sat.weakσ (A := A) (σ := σ) S2 (List.length_set ..) (fun j d e => ?_) fun j r p e => ?_
    · rcases set_cases (show ((dropAl i c.s).set i .no)[j]? = _ from e) with ⟨_, z, _⟩ | ⟨hj, _⟩
      · cases z
      · exact List.getElem?_set_ne (Ne.symm hj)
    · rcases set_cases (show ((dropAl i c.s).set i .no)[j]? = _ from e) with ⟨_, z, _⟩ | ⟨hj, _⟩
      · cases z
      · exact List.getElem?_set_ne (Ne.symm hj)
  · rw [if_neg q] at h
    cases h
/-- the suite's reading -/
def tSuite (A : Act) (suite : Ctx → SR) : Addr → Value → Option Addr → TS := fun a cls d D σ H => ∃ k dd, cls = .ref (A.g.G k) ∧ d = some dd ∧ tS (A.ex (exAt k a dd)) W0 suite D σ H
theorem tTry_of {i : Nat} {mt : Nat → Option Bool} {body suite : Ctx → SR} {cv : Value} {D' : Ends} (hm : ∀ k b, mt k = some b → PySem.W.exmOne X.K (.ref (A.g.G k)) cv = some b) (h : tS A W (sTry i mt body suite) D' σ H) :
    tS A (wAs X.K cv i (tSuite A suite) W D') body D' σ H := by
  obtain ⟨I, c, O, lk, S, h⟩ := h
  refine ⟨I, c, O, lk, S, ?_⟩
  rw [sTry] at h
  cases e : body c with
  | bad => rw [e] at h; exact h
  | nx c1 => rw [e] at h; exact h
  | bk c1 => rw [e] at h; exact h
  | ct c1 => rw [e] at h; exact h
  | rt d c1 => rw [e] at h; exact h
  | exc k n x c1 =>
    rw [e] at h
    dsimp only at h ⊢
    intro σ' dd v I1 H1 O1 S1 i1 rx
    cases e1 : mt k with
    | none => rw [e1] at h; exact h.elim
    | some b =>
      rw [e1] at h
      refine ⟨b, hm k b e1, fun hb a hna => ?_, fun hb => ?_⟩
      · subst hb
        dsimp only at h
        by_cases q : (!(c1.kr.contains i) && decide (i < c1.s.length) && noExC { c1 with s := (dropAl i c1.s).set i .no } && noEx x) = true
        · rw [if_pos q] at h
          rw [Bool.and_eq_true, Bool.and_eq_true, Bool.and_eq_true] at q
          obtain ⟨⟨⟨q1, q2⟩, q3⟩, q4⟩ := q
          have nk : i ∉ c1.kr := by simpa using q1
          have hi : i < c1.s.length := by simpa using q2
          refine ⟨k, dd, rfl, rfl, ?_⟩
          have S2 := (S1.forget (i := i) nk).ex (e := exAt k a dd) q3 (by rfl)
          have hi2 : i < ((dropAl i c1.s).set i .no).length := by rw [List.length_set, dropAl_len]; exact hi
          have rexn : R (A.ex (exAt k a dd)).g I1 (A.ex (exAt k a dd)).B H1 (.exn k n x) (.ref a) [] := by
            rw [R]
            exact ⟨a, dd, v, rfl, rfl, ⟨rfl, rfl, rfl⟩, i1, R.ex x rx q4⟩
          have S3 := S2.bind1 (v := .ref a) rexn (show i ∉ Ctx.kr { c1 with s := (dropAl i c1.s).set i .no } from nk) hi2
          refine ⟨I1, _, O1, lk, S3, ?_⟩
          cases e2 : suite { c1 with s := (dropAl i ((dropAl i c1.s).set i .no)).set i (.v (.exn k n x)) } with
          | bad => rw [e2] at h; exact h.elim
          | exc k2 n2 x2 c2 => rw [e2] at h; exact h.elim
          | nx c2 =>
            rw [e2] at h
            unfold suiteOut at h
            dsimp only at h ⊢
            intro σ2 I2 H2 O2 S5
            cases e3 : clr i c2 with
            | none => rw [e3] at h; exact h.elim
            | some c3 =>
              rw [e3] at h
              exact h _ I2 H2 O2 (clr_ok S5 e3 (by rfl))
          | bk c2 =>
            rw [e2] at h
            unfold suiteOut at h
            dsimp only at h ⊢
            intro σ2 I2 H2 O2 S5
            cases e3 : clr i c2 with
            | none => rw [e3] at h; exact h.elim
            | some c3 =>
              rw [e3] at h
              exact h _ I2 H2 O2 (clr_ok S5 e3 (by rfl))
          | ct c2 =>
            rw [e2] at h
            unfold suiteOut at h
            dsimp only at h ⊢
            intro σ2 I2 H2 O2 S5
            cases e3 : clr i c2 with
            | none => rw [e3] at h; exact h.elim
            | some c3 =>
              rw [e3] at h
              exact h _ I2 H2 O2 (clr_ok S5 e3 (by rfl))
          | rt d c2 =>
            rw [e2] at h
            unfold suiteOut at h
            dsimp only at h ⊢
            intro v2 σ2 I2 H2 O2 S5
            cases e3 : clr i c2 with
            | none => rw [e3] at h; exact h.elim
            | some c3 =>
              rw [e3] at h
              dsimp only at h
              by_cases nd : noEx d = true
              · rw [if_pos nd] at h
                exact h v2 _ I2 H2 O2 (clr_ok S5 e3 (by simpa using nd))
              · rw [if_neg nd] at h
                exact h.elim
        · rw [if_neg q] at h
          exact h.elim
      · subst hb
        exact h σ' dd v I1 H1 O1 S1 i1 rx
theorem PS_try {i : Nat} {x n : Str} {cv : Value} {mt : Nat → Option Bool} {body suite : List Stmt} {b₀ : Stmt} {np pos pos' : Pos} {mb ms : Ctx → SR} (hs : X.stack = X.env :: X.outer) (hf : X.env.frame = some X.env.locals) (hN : X.N.Nodup) (hi : X.N[i]? = some n) (hln : X.env.kindOf n = some .local) (hc : Names X x cv) (tk : Takes X W)
    (hm : ∀ k b, mt k = some b → PySem.W.exmOne X.K (.ref (A.g.G k)) cv = some b)
    (hb : ∀ (W : WX) (pn : List (Addr × Obj)) (xe : Value → Shared → Prop), Takes (X.tr pn xe) W → PassesOwn (model X.prog X.w) X.A X.env xe → PSs (X.tr pn xe) body (tS A W mb))
    (hsu : ∀ (a : Addr) (oe : Obj) (k : Nat) (dd : Addr) (pn : List (Addr × Obj)), Zc (.ref (A.g.G k)) (some dd) oe → (∃ vs, oe.data = .fields vs) → PSs (X.suite a ((a, oe) :: pn)) (b₀ :: suite) (tS (A.ex (exAt k a dd)) W0 ms)) :
    PS X (.Try body [.ExceptHandler (some (.Name x np)) (some n) (b₀ :: suite) pos'] [] [] pos) (tS A W (sTry i mt mb ms)) :=
  PS.imp (ps_try_as (ts := tSuite A ms) hs hf hN hi hln hc tk hb fun a oe cls d pn hz hv => ⟨fun pins s σ H D I ⟨k, dd, e1, e2, h⟩ => by
    subst e1 e2
    exact (hsu a oe k dd pn hz hv).run pins s σ H D I h⟩) fun D' σ H h => tTry_of hm h
end
end Lc
end
section
set_option Elab.async false
set_option linter.all false
set_option maxRecDepth 100000
set_option maxHeartbeats 4000000
namespace PySem.W
open PySem PySem.Spec PySem.Calls PyProof.Rows
section
variable {prog : Program} {w : World} {A : Around} {E : Value → Shared → Prop} {s : Shared} {K : Frag} {x D : Addr} {ox : Obj} {od : Option Obj}
/-- the descriptor of the class is taken, whatever stands in the dict -/
theorem lc_descr {C : Addr} {name : Str} {a g : Value} (hc : (clsIn K C).isSome = true) (ha : findIn K (.ref C) name = some (some a)) (hg : specialIn K a "__get__" = some (some g)) (ht : takesIn K a = some true) : findObj K C od name = some (.bind g a) := by
  cases h : clsIn K C with
  | none => rw [h] at hc; cases hc
  | some cd =>
    unfold findObj
    rw [h, Option.bind_some, ha, Option.bind_some]
    simp [hg, ht]
theorem lc_class {Q : Option Value → Shared → Prop} (T : L2.ExcC K D) (X : K.In s.heap) (I : InstAt s.heap x ox D od) (h : Q (some (.ref D)) { s with toks := s.toks + 1 }) : wpAny (model prog w) A (getAttr? (.ref x) "__class__") Q E s := by
  have hf : findObj K D od "__class__" = some (.bind (.builtin "getset_descriptor.__get__") (.builtin "object.__class__")) := lc_descr (by obtain ⟨cd, hc, _⟩ := any_some T.hd; rw [hc]; rfl) T.ha T.hn T.ht
  obtain ⟨hp, g, d, t, os⟩ := s
  have l0 := I.type (M := model prog w)
  have l1 := looks_findIn (M := model prog w) X T.hg
  have l2 := looks_findIn (M := model prog w) X T.hk
  have l3 := looks_find (M := model prog w) X I hf
  have sb : Looks (model prog w) hp (isInstance (.ref x) (.type "BaseException")) true := l0.andThen (looks_subIn X T.hs)
  have n0 : (false && onTheHeap (Value.builtin "BaseException.__getattribute__")) = false := rfl
  have n2 : (Value.builtin "BaseException.__getattribute__" == Value.builtin "object.__getattribute__") = false := by decide +kernel
  have n1 : (onTheHeap (Value.ref D) && Value.builtin "BaseException.__getattribute__" == Value.builtin "object.__getattribute__") = false := by rw [n2]; rfl
  unfold getAttr? getAttrBy? getAttrBy
  refine wpAny_bind (wpAny_mkText (wpAny_bind (wpAny_attempt (wpAny_holding (wpAny_bind (l0.at (wpAny_bind (l1.at ?_))))))))
  show wpAny _ _ (if (onTheHeap (Value.ref D) && Value.builtin "BaseException.__getattribute__" == Value.builtin "object.__getattribute__") = true then _ else _) _ _ _
  rw [n1, if_neg Bool.false_ne_true]
  unfold getAttrByItsOwn hookBefore
  refine wpAny_bind ?_
  rw [if_pos (show onTheHeap (Value.ref D) = true from rfl)]
  refine l2.at ?_
  refine wpAny_bind (wpAny_attempt (wpAny_holding ?_))
  unfold callGetattribute
  rw [n0, if_neg Bool.false_ne_true]
  unfold boundAndCalled
  rw [PySem.F.excAttr_ValueError.ga.bind (.ref x)]
  refine wpAny_bind (wpAny_pure ?_)
  show wpAny _ _ (call (.builtin "BaseException.__getattribute__") [.ref x, .str "__class__" t]) _ _ _
  refine wpAny_call (codeAny_call_builtin PySem.F.excAttr_ValueError.ga.plain PySem.F.entry_bexc_ga ?_)
  refine @check_slot (model prog w) _ _ ⟨hp, g, d, t + 1, os⟩ "BaseException.__getattribute__" "BaseException" "__getattribute__" (.ref x) [.str "__class__" t] [] _ (by decide +kernel) (by decide +kernel) sb (PySem.F.args_bexc_ga (.ref x) (.str "__class__" t)) ?_
  unfold Builtin.«object.__getattribute__»
  refine wpAny_bind (wpAny_of_eq (a := ((Value.ref x : Value), [Value.str "__class__" t])) (by first | rfl | (simp only [slotArgs]; rfl)) ?_)
  refine wpAny_bind (wpAny_pure (wpAny_bind (l0.at (wpAny_bind (l3.at ?_)))))
  show wpAny _ _ (holding [Value.builtin "object.__class__"] (call (.builtin "getset_descriptor.__get__") [.builtin "object.__class__", .ref x, .ref D]) >>= ret) _ _ _
  refine wpAny_bind (wpAny_holding (wpAny_call (class_get (s := ⟨hp, g, d, t + 1, os⟩) (ox := ox) (od := od) X I T.hm ?_)))
  refine wpAny_pure ?_
  show wpAny _ _ (handedOut (.ref D)) _ _ _
  rw [handedOut_of (v := .ref D) rfl]
  first
    | exact wpAny_pure h
    | exact wpAny_pure (wpAny_pure h)
    | exact wpAny_pure (wpAny_bind (wpAny_pure (wpAny_pure h)))
theorem lc_kitx (T : L2.ExcC K D) : KitX K (.ref x) (.ref D) (fun h => InstAt h x ox D od) where
  ty := fun _ _ _ I => I.type
  it := fun _ _ X _ => by
    obtain ⟨cd, h1, _⟩ := any_some T.hd
    unfold clsIn at h1
    split at h1
    · rename_i ho
      intro A' Q' E' s' k q
      unfold isType loadHead
      exact wpAny_bind (wpAny_loadPart (k _ _ (X _ _ ho)) (wpAny_pure q))
    · cases h1
  ne := fun h tp dd its n sl X htp => by
    obtain ⟨cd, h1, _⟩ := any_some T.hd
    refine Bool.eq_false_iff.mpr fun q => ?_
    have e : D = tp := Value.ref.inj (beq_iff_eq.mp q)
    subst e
    unfold clsIn at h1
    split at h1
    · rename_i ho
      have z := (X _ _ ho).symm.trans htp
      cases z
    · cases h1
  ca := fun X I k => lc_class T X I k
end
end PySem.W
namespace Lc
open PySem L2
/-- isinstance of the caught one, its dict there -/
theorem call_isX {X : Cx} {a D dd : Addr} {oe : Obj} {pn : List (Addr × Obj)} (T : ExcC X.K D) (hz : Zc (.ref D) (some dd) oe) (hf : ∃ vs, oe.data = .fields vs) :
    CallR (X.suite a ((a, oe) :: pn)) (.builtin "isinstance") (fun xs H Q => ∃ (c : V) (cv : Value) (b : Bool) (fs : List (Str × V)), xs = [.ref a, c] ∧ (∀ u, RelV c u → u = cv) ∧ H dd = some (.xd fs) ∧ PySem.W.kitOne X.K (.ref D) cv = some b ∧ Q (.bl b) H) := by
  intro pins s σ H xs us Q I r h
  obtain ⟨c, cv, b, fs, rfl, hcv, hx, e, q⟩ := h
  cases r with
  | cons rx rr =>
    cases rr with
    | cons rt rr =>
      cases rr
      cases rx
      have ec := hcv _ rt
      subst ec
      obtain ⟨hget, _⟩ := I.pin (a, oe) (List.mem_append.mpr (.inl List.mem_cons_self))
      obtain ⟨vs, hv⟩ := hf
      have ho : ObjOk X.prog X.w H s.heap dd (.xd fs) := I.hok dd _ hx
      obtain ⟨mA, hns, _⟩ := ho
      obtain ⟨od, hod, _⟩ := lookIn_ns hns
      have J : PySem.W.InstAt s.heap a oe D (some od) := ⟨hget, hz.1, by unfold PySem.W.notCls; rw [hv] <;> rfl, by rw [hz.2]; exact hod⟩
      exact PySem.W.kia_one (PySem.W.lc_kitx T) I.kIn J e (fun z => nomatch z) fun tk => ⟨.bl b, H, I.kept (t' := tk) fun _ _ z => z, rfl, q⟩

section
variable {A : Act} {W : Wx} {X : Cx} {a dd : Addr} {oe : Obj} {k : Nat} {pn : List (Addr × Obj)}
/-- the field of the caught one -/
def eXf (ok : Nat → Bool) (f : Str) (m : Ctx → ER) : Ctx → ER := fun c => match m c with
  | .ok (.t (.exn k n x)) c1 => if ok k && n == f && noBor x && Lc.noOwn x then .ok (.t x) c1 else .bad
  | .ok _ _ => .bad
  | .exc k n x c1 => .exc k n x c1
  | .bad => .bad
theorem PE_xf {e : Expr} {f : Str} {ok : Nat → Bool} {m : Ctx → ER} {pos : Pos} (hA : A.g.ex = exAt k a dd) (hz : Zc (.ref (A.g.G k)) (some dd) oe) (hf : ∃ vs, oe.data = .fields vs)
    (hok : ok k = true → XfC X.K (A.g.G k) ∧ PySem.W.findIn X.K (.ref (A.g.G k)) f = some none)
    (he : PE (X.suite a ((a, oe) :: pn)) e (tE A W m)) (hb : attributeBase e f X.env (eval e X.env) = eval e X.env := by rfl) : PE (X.suite a ((a, oe) :: pn)) (.Attribute e f pos) (tE A W (eXf ok f m)) := by
  by_cases hk : ok k = true
  · obtain ⟨T, hno⟩ := hok hk
    refine PE.imp (pe_xf (cls := .ref (A.g.G k)) (d := some dd) T hno hz hf he hb) fun σ H Q ⟨I, c, ts, O, lk, S, h⟩ => ?_
    refine ⟨I, c, ts, O, lk, S, ?_⟩
    rw [eXf] at h
    cases e1 : m c with
    | bad => rw [e1] at h; exact h
    | exc k n x c1 => rw [e1] at h; exact h
    | ok ev c1 =>
      rw [e1] at h
      cases ev with
      | pl r p => exact h.elim
      | t d =>
        cases d with
        | exn k' n x =>
          dsimp only at h ⊢
          intro v I1 H1 O1 S1
          by_cases hc : (ok k' && n == f && noBor x && Lc.noOwn x) = true
          · rw [if_pos hc] at h
            rw [Bool.and_eq_true, Bool.and_eq_true, Bool.and_eq_true] at hc
            obtain ⟨⟨⟨c1', c2⟩, c3⟩, c4⟩ := hc
            have rv := S1.last.nil (by rw [Lc.noOwn])
            rw [R, hA] at rv
            obtain ⟨a', d', w, rfl, _, ⟨rfl, rfl, rfl⟩, i1, rx⟩ := rv
            have en : n = f := by simpa using c2
            subst en
            refine ⟨rfl, rfl, d', [(n, w)], w, rfl, S1.ih _ _ i1, by simp [List.lookup], ?_⟩
            have S2 := Sat.pop (xs := [(D.exn k' n x, V.ref a')]) S1
            exact h w I1 H1 O1 (S2.push (R.keep x rx (leH.refl _) (noH_le _) fun a ha => by cases ha))
          · rw [if_neg hc] at h
            exact h.elim
        | _ => exact h.elim
  · -- never well
    refine ⟨fun pins s σ H Q I ⟨I0, c, ts, O, lk, S, h⟩ => ?_⟩
    refine attr_of hb (thn (he.run pins s σ H (fun _ _ => False) I ⟨I0, c, ts, O, lk, S, ?_⟩) fun u s1 ⟨x, H1, I1, rx, q⟩ => q.elim)
    rw [eXf] at h
    cases e1 : m c with
    | bad => rw [e1] at h; exact h
    | exc k n x c1 => rw [e1] at h; exact h
    | ok ev c1 =>
      rw [e1] at h
      cases ev with
      | pl r p => exact h.elim
      | t d =>
        cases d with
        | exn k' n x =>
          dsimp only at h ⊢
          intro v I1 H1 O1 S1
          have rv := S1.last.nil (by rw [Lc.noOwn])
          rw [R, hA] at rv
          obtain ⟨a', d', w, _, _, ⟨rfl, _, _⟩, _⟩ := rv
          have : ok k' = false := by simpa using hk
          rw [this] at h
          exact h.elim
        | _ => exact h.elim
/-- isinstance(e, C), e the caught one -/
def eXi (tab : Nat → Option Bool) (m : Ctx → ER) : Ctx → ER := fun c => match m c with
  | .ok (.t (.exn k _ _)) c1 => match tab k with
    | some b => .ok (.t (.bl b)) c1
    | none => .bad
  | .ok _ _ => .bad
  | .exc k n x c1 => .exc k n x c1
  | .bad => .bad
theorem PE_xi {e ce : Expr} {tab : Nat → Option Bool} {m : Ctx → ER} {cx : V} {cv : Value} {p pos : Pos} (hA : A.g.ex = exAt k a dd) (hz : Zc (.ref (A.g.G k)) (some dd) oe) (hf : ∃ vs, oe.data = .fields vs)
    (hT : ∀ b, tab k = some b → ExcC X.K (A.g.G k) ∧ PySem.W.kitOne X.K (.ref (A.g.G k)) cv = some b) (hcx : ∀ u, RelV cx u → u = cv) (he : PE (X.suite a ((a, oe) :: pn)) e (tE A W m)) (hce : PE (X.suite a ((a, oe) :: pn)) ce (tC cx))
    (hg : Gl X "isinstance") (hm : X.mg "isinstance" = none) (hs1 : starEach (e :: [ce]) X.env = (false, eval e X.env) :: starEach [ce] X.env := by rfl) (hs2 : starEach (ce :: []) X.env = (false, eval ce X.env) :: starEach [] X.env := by rfl) (hpl : (backTo pos (starEach [ce] X.env)).any (·.1) = false := by rfl) :
    PE (X.suite a ((a, oe) :: pn)) (.Call (.Name "isinstance" p) [e, ce] [] pos) (tE A W (eXi tab m)) := by
  have ha : PA (X.suite a ((a, oe) :: pn)) [e, ce] (tCons (tE A W m) (tCons (tC cx) tNil)) := pa_cons he (pa_cons hce pa_nil hs2) hs1
  cases hk : tab k with
  | some b =>
    obtain ⟨T, hkit⟩ := hT b hk
    refine PE.imp (pe_callB (X := X.suite a ((a, oe) :: pn)) (call_isX T hz hf) hg hm (by decide +kernel) ha (he := hs1) (hpl := hpl)) fun σ H Q ⟨I, c, ts, O, lk, S, h⟩ => ?_
    refine ⟨I, c, ts, O, lk, S, ?_⟩
    rw [eXi] at h
    cases e1 : m c with
    | bad => rw [e1] at h; exact h
    | exc k n x c1 => rw [e1] at h; exact h
    | ok ev c1 =>
      rw [e1] at h
      cases ev with
      | pl r p => exact h.elim
      | t d =>
        cases d with
        | exn k' n x =>
          dsimp only at h ⊢
          intro v I1 H1 O1 S1
          have rv := S1.last.nil (by rw [Lc.noOwn])
          rw [R, hA] at rv
          obtain ⟨a', d', w, rfl, _, ⟨rfl, rfl, rfl⟩, i1, rx⟩ := rv
          rw [hk] at h
          have S2 := Sat.pop (xs := [(D.exn k' n x, V.ref a')]) S1
          exact ⟨cx, cv, b, [(n, w)], rfl, hcx, S1.ih _ _ i1, hkit, h _ I1 H1 O1 (S2.push (by rw [R]; exact ⟨rfl, rfl⟩))⟩
        | _ => exact h.elim
  | none =>
    refine PE.imp (pe_callB (X := X.suite a ((a, oe) :: pn)) (id := "isinstance") (r := fun _ _ _ => False) (fun pins s σ H xs us Q I r h => h.elim) hg hm (by decide +kernel) ha (he := hs1) (hpl := hpl)) fun σ H Q ⟨I, c, ts, O, lk, S, h⟩ => ?_
    refine ⟨I, c, ts, O, lk, S, ?_⟩
    rw [eXi] at h
    cases e1 : m c with
    | bad => rw [e1] at h; exact h
    | exc k n x c1 => rw [e1] at h; exact h
    | ok ev c1 =>
      rw [e1] at h
      cases ev with
      | pl r p => exact h.elim
      | t d =>
        cases d with
        | exn k' n x =>
          dsimp only at h ⊢
          intro v I1 H1 O1 S1
          have rv := S1.last.nil (by rw [Lc.noOwn])
          rw [R, hA] at rv
          obtain ⟨a', d', w, _, _, ⟨rfl, _, _⟩, _⟩ := rv
          rw [hk] at h
          exact h.elim
        | _ => exact h.elim
end
end Lc
end
section
set_option Elab.async false
set_option linter.all false
set_option maxRecDepth 100000
set_option maxHeartbeats 1000000
namespace Lc
open PySem L2
open PyProof.Rows (envOfC)

/-! ### defs that may be called where an exception is handled, too -/
structure FnW (P : Program) (w : World) (K : PySem.W.Frag) (mg : Str → Option Value) (base : Heap) (cx : CXT) (k : Nat) (f : Addr) (fd : FuncData) (ps : List Str) (sp : Sp) : Prop where
  len : ∀ vs H Q E, sp vs H Q E → vs.length = ps.length
  run : ∀ (A : Around) (out : List Env) (s : Shared) (H : Hp) (args : Args) (us : List Value) (vs : List V) (Q : VK) (E : XK), L2H.RoomH k A → Env0 P w K mg base A out s H → BindsTo s fd args (ps.zip us) → Vals vs us → sp vs H Q E →
    codeAny (model P w) A (.call (.ref f) args) (CR cx out P w H s Q E) s
theorem FnW.ok {P : Program} {w : World} {K : PySem.W.Frag} {mg : Str → Option Value} {base : Heap} {cx : CXT} {k : Nat} {f : Addr} {fd : FuncData} {ps : List Str} {sp : Sp} (F : FnW P w K mg base cx k f fd ps sp) : FnOk P w K mg base cx k f fd ps sp :=
  ⟨F.len, fun A out s H args us vs Q E hr => F.run A out s H args us vs Q E ⟨hr.dp, hr.un⟩⟩
theorem fnW_of {cx : CXT} {P : Program} {w : World} {K : PySem.W.Frag} {mg : Str → Option Value} {base : Heap} {k : Nat} {f : Addr} {name qual : Str} {params : Arguments} {body : List Stmt} {scope : Scope} {dV kV doc pm cdv ct oc : Value} {an od : Option Addr}
    {osl : Array (Option Value)} {N ps : List Str} {sp : Sp} (lk : K.lookup f = some ⟨oc, od, .func (PySem.W.fnOf name qual params body scope dV kV doc pm an cdv ct), osl⟩) (cd : PySem.W.codeIn K cdv qual = true) (S : FnScope N ps scope)
    (len : ∀ vs H Q E, sp vs H Q E → vs.length = ps.length)
    (hb : ∀ (A : Around) (out : List Env) (s : Shared) (H : Hp) (vs : List V) (Q : VK) (E : XK) (p : Addr × Obj), L2H.RoomH k (A.deeper (envOfC qual scope s.heap.objs.size f cdv)) → sp vs H Q E →
      ∃ t, PSs (L2H.cxH cx P w K mg base N qual scope f cdv A out s H E p) body t ∧ t { nx := fun _ H' => Q .non H', rt := Q } (L2.start N vs) H) :
    FnW P w K mg base cx (k + 1) f (PySem.W.fnOf name qual params body scope dV kV doc pm an cdv ct) ps sp := by
  refine ⟨len, fun A out s H args us vs Q E hr e0 bt r q0 => ?_⟩
  have n1 := len _ _ _ _ q0
  have kb : K.In s.heap := e0.mod.kin.keeps fun b o e => (e0.bs b o e).1
  have nl : s.heap.NoLimit := e0.mod.nolimit.keeps fun b o e => (e0.bs b o e).1
  have kd : ∀ y ∈ ps.zip us, scope.names.lookup y.1 = some .local ∨ (scope.names.lookup y.1 = some .cell ∧ ((cellsFrom (s.heap.objs.size + 1) scope.names []).lookup y.1).isSome = true) := fun y hy => by
    rcases S.par y.1 (List.of_mem_zip hy).1 with q | q
    · exact .inl q
    · exact .inr ⟨q, PySem.W.cellsFrom_some _ _ _ (.inl q)⟩
  have fb := e0.mod.kin _ _ lk
  obtain ⟨fg, fn⟩ := e0.bs _ _ fb
  have pin : L2H.PinOk out H s (f, ⟨oc, od, .func (PySem.W.fnOf name qual params body scope dV kV doc pm an cdv ct), osl⟩) := ⟨fg, fn, fun hm => (by
    have := (e0.funs.mem hm).1
    rw [fb] at this
    cases this), fun v z => by cases z⟩
  refine codeAny_call_function hr.depth (kb _ _ lk) rfl S.co S.gen rfl (PySem.W.codeRec_of kb cd) (bt _ _ _ _ ?_)
  refine wpAny_newFunctionEnv_cells S.kind kd fun env he s1 x => ?_
  subst he
  refine ⟨nl.keeps x.toInCall.keep, codeAny_func ?_⟩
  obtain ⟨t, ht, hq⟩ := hb A out s H vs Q E _ (hr.deeper _) q0
  have I := L2H.inv_startH (CX := cx) (E := E) S pin e0 n1 r x
  refine wpAny_mono (ht.run [] s1 (L2.start N vs) H _ I hq) (fun fl s' hs => ?_) fun e s' hs => hs
  cases fl with
  | ret u =>
    obtain ⟨v, σ', H', J, rv, q⟩ := hs
    exact ⟨v, H', J.os, J.bare, J.base, J.hok, rv, q⟩
  | next =>
    obtain ⟨σ', H', J, q⟩ := hs
    exact ⟨.non, H', J.os, J.bare, J.base, J.hok, rfl, q⟩
  | brk =>
    obtain ⟨_, _, _, q⟩ := hs
    exact False.elim q
  | cont =>
    obtain ⟨_, _, _, q⟩ := hs
    exact False.elim q
section
variable {P : Program} {w : World} {K : PySem.W.Frag} {mg : Str → Option Value} {base : Heap} {G : Nat → Addr}
/-- a def keeps its promise wherever it is called -/
theorem fnw_ok {x qual : Str} {st : Stmt} {f : Addr} {fd : FuncData} {N ps : List Str} {k nl : Nat} {ms : List Bool} {body : Ctx → SR} (F : Fun K x qual st f fd) (S : FnScope N ps (defScope st)) (hm : ms.length = ps.length) (hn : N.length = ps.length + nl)
    (hb : ∀ (cdv : Value) (A : Around) (outer : List Env) (s : Shared) (H : Hp) (E : XK) (p : Addr × Obj), L2H.RoomH k (A.deeper (envOfC qual (defScope st) s.heap.objs.size f cdv)) → ∀ Ac : Act, Ac.g.G = G → Ac.g.K = K →
      PSs (L2H.cxH (L2.CX P w) P w K mg base N qual (defScope st) f cdv A outer s H E p) (defBody st) (tS Ac (fun cls d _ H => E cls d H) body)) : FnW P w K mg base (L2.CX P w) (k + 1) f fd ps (spF G K ms nl body) := by
  obtain ⟨oc, od, kV, doc, pm, an, cdv, ct, osl, rfl, lk, hcd⟩ := F.ex
  refine fnW_of lk hcd S (fun vs H Q E h => h.1.trans hm) fun A outer s H vs Q E p hr h => ?_
  obtain ⟨hl, Ac, I, O, ds, hg, hg2, hd, Sa, h⟩ := h
  refine ⟨_, hb cdv A outer s H E p hr Ac hg hg2, ?_⟩
  have hst : L2.start N vs = vs.map some ++ List.replicate nl none := by
    rw [L2.start]
    congr 2
    omega
  rw [hst]
  refine ⟨I, initC ms nl ds, O, _, Sa, ?_⟩
  cases e : body (initC ms nl ds) with
  | bad => rw [e] at h; exact h
  | bk c3 => rw [e] at h; exact h.elim
  | ct c3 => rw [e] at h; exact h.elim
  | nx c3 => rw [e] at h; exact h
  | rt d c3 => rw [e] at h; exact h
  | exc k n x c3 => rw [e] at h; exact h
end
section
variable {A : Act} {W : Wx} {X : Cx}
variable {G : Nat → Addr} {f : Addr} {fd : FuncData} {ps : List Str} {ms : List Bool} {nl k : Nat} {body : Ctx → SR} {Φ : List D → FR} {x : Str} {pos pos' : Pos} {e : Expr} {es : List Expr} {args : List (Ctx → ER)} {dds : List D} {dvs : List V} {dvals : List Value}
theorem run_fnW {sp : Sp} {E : L2.St → XK} {σ : L2.St} {H : Hp} {s : Shared} {Q : VK} {pins : List (Addr × Obj)} {us : List Value} {vs : List V} (F : FnW X.prog X.w X.K X.mg X.base (L2.CX X.prog X.w) k f fd ps sp) (hr : L2H.RoomH k X.A) (hb : Binds X.K fd ps dvals) (hd : Vals dvs dvals) (hx : PassesAt (L2.CX X.prog X.w) X σ (E σ))
    (I : Inv X pins σ H s) (r : Vals vs us) (h : sp (vs ++ dvs) H Q (E σ)) : wpAny (model X.prog X.w) X.A (call (.ref f) us) (EP X pins σ Q) X.xe s := by
  have r2 := r.append hd
  have hl : (us ++ dvals).length = ps.length := by rw [← r2.length]; exact F.len _ _ _ _ h
  refine wpAny_call (codeAny_mono (F.run X.A X.stack s H ⟨us, []⟩ (us ++ dvals) (vs ++ dvs) Q (E σ) hr I.env0 (hb s us I.kIn hl) r2 h) fun r s' hq => ?_)
  cases r with
  | error er => exact hx pins H s er s' I hq
  | ok fl =>
    cases fl with
    | ret u => exact I.after hq
    | next => exact hq.elim
    | brk => exact hq.elim
    | cont => exact hq.elim
theorem PE_callW (F : FnW X.prog X.w X.K X.mg X.base (L2.CX X.prog X.w) k f fd ps (spF G X.K ms nl body)) (o : On X A.g) (hG : A.g.G = G) (hΦ : Φ = runF ms nl body) (hr : L2H.RoomH k X.A) (hg : Gl X x) (hm : X.mg x = some (.ref f)) (hk : PySem.W.keepIn X.K (.ref f) = true) (hb : Binds X.K fd ps dvals) (hd : Vals dvs dvals) (hdv : Dv A.g dds dvs)
    (tk : Takes X W) (ha : PA X (e :: es) (tA' A W (eArgs args))) (hdb : (x == ("__debug__" : Str)) = false := by decide) (he : starEach (e :: es) X.env = (false, eval e X.env) :: starEach es X.env := by rfl) (hpl : (backTo pos (starEach es X.env)).any (·.1) = false := by rfl) :
    PE X (.Call (.Name x pos') (e :: es) [] pos) (tE A W (eCall ms Φ args dds)) := by
  subst hΦ
  subst hG
  have F : FnW X.prog X.w X.K X.mg X.base (L2.CX X.prog X.w) k f fd ps (spF A.g.G A.g.K ms nl body) := by
    rw [o.k]
    exact F
  refine PE.imp (t := tCallSD (spF A.g.G A.g.K ms nl body) dvs (WE W) (tA' A W (eArgs args))) ⟨fun pins s σ H Q I h => ?_⟩ (tE_call hdv)
  refine wpAny_Call_Name_kw (ld_glob I hg hm ?_ hdb)
  refine PySem.W.callWith_K (h₀ := X.base) I.ok.mod.kin hk (thn (ha.run pos pins s σ H _ I h) fun us s1 ⟨vs, H1, I1, r, q⟩ => ⟨I1.kIn, ?_⟩) he hpl
  exact run_fnW F hr hb hd (passAt tk σ) I1 r q
end
end Lc
end
section
set_option Elab.async false
set_option linter.all false
set_option maxRecDepth 100000
set_option maxHeartbeats 1000000
namespace Lc
open PySem L2

/-! ### the end: the law's def at the script -/
def scrD (ns : List Int) : D := .nd .scr .bor (ns.map D.int)
theorem borL_ints : ∀ ns : List Int, borL (ns.map D.int) = ns.map D.int
  | [] => by rw [List.map_nil, borL]
  | n :: ns => by rw [List.map_cons, borL, borL_ints ns, bor]
theorem RL_ints {g : Gs} {I B H : Hp} : ∀ ns : List Int, RL g I B H (ns.map D.int) (ns.map V.int) []
  | [] => by rw [List.map_nil, List.map_nil, RL]; exact ⟨rfl, rfl⟩
  | n :: ns => by
    rw [List.map_cons, List.map_cons, RL]
    exact ⟨.int n, ns.map V.int, [], [], rfl, rfl, by rw [R]; exact ⟨rfl, rfl⟩, RL_ints ns⟩
theorem law_sp {G : Nat → Addr} {K : PySem.W.Frag} {nl : Nat} {body : Ctx → SR} {ns : List Int} {H : Hp} {a : Addr} {os : List D} (h : runF [false] nl body [scrD ns] = .ret (.bl true) os) (hs : SqL K H a (ns.map V.int)) :
    spF G K [false] nl body [.ref a] H (fun v _ => v = .bl true) fun _ _ _ => False := by
  refine ⟨rfl, ⟨⟨K, G, fun _ _ _ => False⟩, H, noH⟩, noH, fun _ => none, [scrD ns], rfl, rfl, rfl, ?_, ?_⟩
  · refine ⟨noH_le _, leH.refl _, leH.refl _, fun a o e => (by cases e), by simp [initC, inits], fun i d e => ?_, fun i r p e => ?_, fun j d v e => by simp at e, fun r p v e => by simp [lkV] at e, rfl, fun a w e => by cases e⟩
    · cases i with
      | zero =>
        have e : Sl.v (bor (scrD ns)) = .v d := by simpa [initC, inits] using e
        cases e
        have eb : bor (scrD ns) = scrD ns := by
          unfold scrD
          rw [bor]
          · rw [borL_ints]
          all_goals (intro _ _ z; cases z)
        refine ⟨.ref a, rfl, RO.leaf ?_⟩
        rw [eb, scrD, R]
        exact ⟨a, ns.map V.int, rfl, rfl, hs, RL_ints ns⟩
      | succ i =>
        have e : (List.replicate nl Sl.no)[i]? = some (.v d) := by simpa [initC, inits] using e
        have := List.mem_of_getElem? e
        rw [List.mem_replicate] at this
        cases this.2
    · cases i with
      | zero => simp [initC, inits] at e
      | succ i =>
        have e : (List.replicate nl Sl.no)[i]? = some (.al r p) := by simpa [initC, inits] using e
        have := List.mem_of_getElem? e
        rw [List.mem_replicate] at this
        cases this.2
  · rw [runF, if_pos (show [scrD ns].length = [false].length from rfl)] at h
    cases e : body (initC [false] nl [scrD ns]) with
    | bad => rw [e] at h; cases h
    | bk c => rw [e] at h; cases h
    | ct c => rw [e] at h; cases h
    | nx c =>
      rw [e] at h
      dsimp only at h
      split at h <;> cases h
    | exc k n x c =>
      rw [e] at h
      dsimp only at h
      split at h <;> cases h
    | rt d c =>
      rw [e] at h
      dsimp only at h ⊢
      intro v σ' I' H' O' S
      have ed : d = .bl true := by
        cases eo : outs [false] c.s with
        | none => rw [eo] at h; cases h
        | some o2 =>
          rw [eo] at h
          dsimp only at h
          by_cases nb : noBor d = true
          · rw [if_pos nb] at h
            exact (FR.ret.inj h).1
          · rw [if_neg nb] at h
            cases h
      subst ed
      obtain ⟨fp, rr, _⟩ := S.tmps 0 (.bl true) v (by simp)
      rw [R] at rr
      exact rr.1
end Lc
end
section
set_option Elab.async false
set_option linter.all false
set_option maxRecDepth 100000
set_option maxHeartbeats 1000000
namespace Lc
open PySem L2
open PySem.W (dataLt_str minD dataLt min_list_data AlikeAll)

/-! ### min(xs), a list of texts -/
def minS (x : List Nat) (xs : List (List Nat)) : List Nat := xs.foldl (fun a y => if y < a then y else a) x
theorem minD_strs : ∀ (xs : List (List Nat)) (x : List Nat), minD (.str (strL x)) (xs.map fun y => .str (strL y)) = .str (strL (minS x xs))
  | [], _ => rfl
  | y :: ys, x => by
    have e : dataLt (.str (strL y)) (.str (strL x)) = decide (y < x) := by
      rw [dataLt_str]
      exact decide_eq_decide.mpr (by simp only [strL])
    have step : minD (.str (strL x)) ((y :: ys).map fun y => .str (strL y)) = minD (if dataLt (.str (strL y)) (.str (strL x)) then .str (strL y) else .str (strL x)) (ys.map fun y => .str (strL y)) := rfl
    rw [step, e]
    have step2 : minS x (y :: ys) = minS (if y < x then y else x) ys := rfl
    rw [step2]
    by_cases h : y < x
    · rw [decide_eq_true h, if_pos rfl, if_pos h]
      exact minD_strs ys y
    · rw [decide_eq_false h, if_neg (by decide), if_neg h]
      exact minD_strs ys x
theorem reads_strs {h : Heap} : ∀ {ss : List (List Nat)} {us : List Value}, Vals ((ss.map strL).map V.str) us → ReadsAll h us (ss.map fun y => PyData.str (strL y)) []
  | [], us, r => by
    cases r
    exact .nil
  | s :: ss, us, r => by
    cases r with
    | cons r1 r2 =>
      obtain ⟨t, rfl⟩ := r1
      exact .cons (.str _ t) (reads_strs r2)
theorem depth_strs : ∀ ss : List (List Nat), PyData.depthAll (ss.map fun y => PyData.str (strL y)) ≤ 1
  | [] => by simp [PyData.depthAll]
  | s :: ss => by
    have := depth_strs ss
    simp only [List.map_cons, PyData.depthAll, PyData.depth]
    omega
def rMinS (K : PySem.W.Frag) : List V → Hp → VK → Prop := fun vs H Q => ∃ (a : Addr) (s : List Nat) (ss : List (List Nat)), vs = [V.ref a] ∧ SqL K H a (((s :: ss).map strL).map V.str) ∧ Q (.str (strL (minS s ss))) H
theorem cr_minS {X : Cx} (hc : X.calm = true) (hu : X.A.units + 64 < cLine) : CallR X (.builtin "min") (rMinS X.K) := by
  intro pins st σ H vs us Q I r h
  obtain ⟨a, s, ss, rfl, hs, q⟩ := h
  obtain ⟨its, rv, hl, _⟩ := I.list hs
  rw [Vals.ref1 r]
  have hr := reads_strs (h := st.heap) rv
  refine min_list_data (xs := ss.map fun y => PyData.str (strL y)) (I.ok.hd hc) hl.isList (by rw [List.toList_toArray]; exact hr) ⟨fun x hx y hy => ?_, fun x hx z => ?_⟩ ?_ fun i v h' tk bs hv rd k => ?_
  · obtain ⟨x', _, rfl⟩ := List.mem_map.mp (show x ∈ (s :: ss).map (fun y => PyData.str (strL y)) from hx)
    obtain ⟨y', _, rfl⟩ := List.mem_map.mp (show y ∈ (s :: ss).map (fun y => PyData.str (strL y)) from hy)
    rfl
  · obtain ⟨x', _, rfl⟩ := List.mem_map.mp (show x ∈ (s :: ss).map (fun y => PyData.str (strL y)) from hx)
    cases z
  · have := depth_strs (s :: ss)
    have this : PyData.depthAll ((fun y => PyData.str (strL y)) s :: List.map (fun y => PyData.str (strL y)) ss) ≤ 1 := this
    omega
  · rw [minD_strs] at rd
    cases rd with
    | str x t => exact ⟨.str _, H, I.kept k, ⟨t, rfl⟩, q⟩
section
variable {A : Act} {W : Wx} {X : Cx}
def fMinS : List D → Option D
  | [d] => match listOf d with
    | some xs => match strsOf xs with
      | some (s :: ss) => some (.str (minS s ss))
      | _ => none
    | none => none
  | _ => none
theorem os_minS : OpS A fMinS (rMinS A.g.K) := fun I H ds vs Q d ih bh P e q => by
  unfold fMinS at e
  split at e
  · rename_i d0
    obtain ⟨x, rfl, h1⟩ := Paired.one P
    cases e1 : listOf d0 with
    | none => rw [e1] at e; cases e
    | some xs =>
      rw [e1] at e
      dsimp only at e
      cases e2 : strsOf xs with
      | none => rw [e2] at e; cases e
      | some ss =>
        rw [e2] at e
        cases ss with
        | nil => cases e
        | cons s ss =>
          cases e
          obtain ⟨p, us, rfl, hp, fp, hr⟩ := h1.list ih bh e1
          obtain ⟨rfl, _⟩ := strsOf_vs e2 hr
          exact ⟨p, s, ss, rfl, hp, q _ _ _ .str⟩
  · cases e
/-- the rules of min and max together -/
abbrev fMin : List D → Option D := fOr fMin2 (fOr fMinL fMinS)
abbrev fMax : List D → Option D := fOr fMax2 fMaxL
theorem PE_min {p pos : Pos} {e : Expr} {es : List Expr} {ms : List (Ctx → ER)} (o : On X A.g) (hc : X.calm = true) (hg : Gl X "min") (hm : X.mg "min" = none) (ha : PA X (e :: es) (tA' A W (eArgs ms)))
    (he : starEach (e :: es) X.env = (false, eval e X.env) :: starEach es X.env := by rfl) (hpl : (backTo pos (starEach es X.env)).any (·.1) = false := by rfl) : PE X (.Call (.Name "min" p) (e :: es) [] pos) (tE A W (eOp fMin ms)) :=
  PE_callB (id := "min") (CallR.or (call_min2 hc) (CallR.or (o.k ▸ cr_min hc) (o.k ▸ cr_minS hc o.u0))) (OpS.or os_min2 (OpS.or os_minL os_minS)) hg hm (by decide +kernel) ha (he := he) (hpl := hpl)
theorem PE_max {p pos : Pos} {e : Expr} {es : List Expr} {ms : List (Ctx → ER)} (o : On X A.g) (hc : X.calm = true) (hg : Gl X "max") (hm : X.mg "max" = none) (ha : PA X (e :: es) (tA' A W (eArgs ms)))
    (he : starEach (e :: es) X.env = (false, eval e X.env) :: starEach es X.env := by rfl) (hpl : (backTo pos (starEach es X.env)).any (·.1) = false := by rfl) : PE X (.Call (.Name "max" p) (e :: es) [] pos) (tE A W (eOp fMax ms)) :=
  PE_callB (id := "max") (CallR.or (call_max2 hc) (o.k ▸ cr_max hc)) (OpS.or os_max2 os_maxL) hg hm (by decide +kernel) ha (he := he) (hpl := hpl)
theorem PE_sum {p pos : Pos} {e : Expr} {es : List Expr} {ms : List (Ctx → ER)} (o : On X A.g) (hc : X.calm = true) (hg : Gl X "sum") (hm : X.mg "sum" = none) (ha : PA X (e :: es) (tA' A W (eArgs ms)))
    (he : starEach (e :: es) X.env = (false, eval e X.env) :: starEach es X.env := by rfl) (hpl : (backTo pos (starEach es X.env)).any (·.1) = false := by rfl) : PE X (.Call (.Name "sum" p) (e :: es) [] pos) (tE A W (eOp fSum ms)) :=
  PE_callB (id := "sum") (o.k ▸ cr_sum hc) os_sum hg hm (by decide +kernel) ha (he := he) (hpl := hpl)
theorem PE_int' {p pos : Pos} {e : Expr} {es : List Expr} {ms : List (Ctx → ER)} (hg : Gl X "int") (hm : X.mg "int" = none) (ha : PA X (e :: es) (tA' A W (eArgs ms)))
    (he : starEach (e :: es) X.env = (false, eval e X.env) :: starEach es X.env := by rfl) (hpl : (backTo pos (starEach es X.env)).any (·.1) = false := by rfl) : PE X (.Call (.Name "int" p) (e :: es) [] pos) (tE A W (eOp fInt1 ms)) :=
  PE_callTy (T := "int") call_int1 os_int1 hg hm (by decide +kernel) ha (he := he) (hpl := hpl)
theorem PE_isi {p pos : Pos} {e : Expr} {es : List Expr} {ms : List (Ctx → ER)} (o : On X A.g) (hg : Gl X "isinstance") (hm : X.mg "isinstance" = none) (ha : PA X (e :: es) (tA' A W (eArgs ms)))
    (he : starEach (e :: es) X.env = (false, eval e X.env) :: starEach es X.env := by rfl) (hpl : (backTo pos (starEach es X.env)).any (·.1) = false := by rfl) : PE X (.Call (.Name "isinstance" p) (e :: es) [] pos) (tE A W (eOp fIsi ms)) :=
  PE_callB (id := "isinstance") call_isi (os_isi o.k) hg hm (by decide +kernel) ha (he := he) (hpl := hpl)
theorem PE_join {o e : Expr} {apos cpos : Pos} {mo me : Ctx → ER} (o' : On X A.g) (ho : PE X o (tE A W mo)) (ha : PA X [e] (tA' A W (eArgs [me])))
    (hbase : attributeBase o "join" X.env (eval o X.env) = eval o X.env := by rfl)
    (hfew : ((backTo cpos (starEach [e] X.env)).all (fun x => !x.1) && (backToKw cpos (keywordEach [] X.env)).all (fun x => x.1.isSome) && decide ([e].length + ([] : List Keyword).length + (if ([] : List Keyword).isEmpty then 0 else 1) < 30)) = true := by rfl)
    (hline : (apos.endLine == cpos.line) = true := by rfl) (hs : starEach [e] X.env = (false, eval e X.env) :: starEach [] X.env := by rfl) (hplain : (backTo cpos (starEach [] X.env)).any (·.1) = false := by rfl) :
    PE X (.Call (.Attribute o "join" apos) [e] [] cpos) (tE A W (eSM fJoin mo [me])) := PE_sm o' om_join F.slot_str_join F.type_str_join (o'.k ▸ mt_join) ho ha hbase hfew hline hs hplain
theorem PE_index {o e : Expr} {apos cpos : Pos} {mo me : Ctx → ER} (o' : On X A.g) (ho : PE X o (tE A W mo)) (ha : PA X [e] (tA' A W (eArgs [me])))
    (hbase : attributeBase o "index" X.env (eval o X.env) = eval o X.env := by rfl)
    (hfew : ((backTo cpos (starEach [e] X.env)).all (fun x => !x.1) && (backToKw cpos (keywordEach [] X.env)).all (fun x => x.1.isSome) && decide ([e].length + ([] : List Keyword).length + (if ([] : List Keyword).isEmpty then 0 else 1) < 30)) = true := by rfl)
    (hline : (apos.endLine == cpos.line) = true := by rfl) (hs : starEach [e] X.env = (false, eval e X.env) :: starEach [] X.env := by rfl) (hplain : (backTo cpos (starEach [] X.env)).any (·.1) = false := by rfl) :
    PE X (.Call (.Attribute o "index" apos) [e] [] cpos) (tE A W (eSM fIndex mo [me])) := PE_sm o' om_index F.slot_str_index F.type_str_index mt_sindex ho ha hbase hfew hline hs hplain
theorem PE_find {o e : Expr} {apos cpos : Pos} {mo me : Ctx → ER} (o' : On X A.g) (ho : PE X o (tE A W mo)) (ha : PA X [e] (tA' A W (eArgs [me])))
    (hbase : attributeBase o "find" X.env (eval o X.env) = eval o X.env := by rfl)
    (hfew : ((backTo cpos (starEach [e] X.env)).all (fun x => !x.1) && (backToKw cpos (keywordEach [] X.env)).all (fun x => x.1.isSome) && decide ([e].length + ([] : List Keyword).length + (if ([] : List Keyword).isEmpty then 0 else 1) < 30)) = true := by rfl)
    (hline : (apos.endLine == cpos.line) = true := by rfl) (hs : starEach [e] X.env = (false, eval e X.env) :: starEach [] X.env := by rfl) (hplain : (backTo cpos (starEach [] X.env)).any (·.1) = false := by rfl) :
    PE X (.Call (.Attribute o "find" apos) [e] [] cpos) (tE A W (eSM fFind mo [me])) := PE_sm o' om_find F.slot_str_find F.type_str_find mt_find ho ha hbase hfew hline hs hplain
end
end Lc
end
section
set_option Elab.async false
set_option linter.all false
set_option maxRecDepth 100000
set_option maxHeartbeats 1000000
namespace Lc
open PySem L2
open PyProof.Rows (envOfC)

/-! ### defs by name -/
section
variable {P : Program} {w : World} {K : PySem.W.Frag} {mg : Str → Option Value} {base : Heap} {G : Nat → Addr} {x qual : Str} {params : Arguments} {bd : List Stmt} {scope : Scope} {dvs : List V} {kws : List (Str × V)} {f : Addr} {fd : FuncData} {N ps : List Str} {k nl : Nat} {ms : List Bool} {body : Ctx → SR}
theorem start_eq {N ps : List Str} {vs : List V} (hl : vs.length = ps.length) (hn : N.length = ps.length + nl) : L2.start N vs = vs.map some ++ List.replicate nl none := by
  rw [L2.start]
  congr 2
  omega
theorem sp_run {Ac : Act} {I H : Hp} {O : Addr → Option Ow} {ds : List D} {vs : List V} {Q : VK} {E : XK} (Sa : Sat Ac I H (vs.map some ++ List.replicate nl none) (initC ms nl ds) [] O (lkV 0 ms vs))
    (h : match body (initC ms nl ds) with
      | .rt d c' => ∀ v σ' I' H' O', Sat Ac I' H' σ' c' [(d, v)] O' (lkV 0 ms vs) → Q v H'
      | .nx c' => ∀ σ' I' H' O', Sat Ac I' H' σ' c' [] O' (lkV 0 ms vs) → Q .non H'
      | .exc k n x c' => ∀ σ', XP Ac (fun cls d _ H => E cls d H) σ' [] (lkV 0 ms vs) k n x c'
      | _ => False) : tS Ac (fun cls d _ H => E cls d H) body { nx := fun _ H' => Q .non H', rt := Q } (vs.map some ++ List.replicate nl none) H := by
  refine ⟨I, initC ms nl ds, O, _, Sa, ?_⟩
  cases e : body (initC ms nl ds) with
  | bad => rw [e] at h; exact h
  | bk c3 => rw [e] at h; exact h.elim
  | ct c3 => rw [e] at h; exact h.elim
  | nx c3 => rw [e] at h; exact h
  | rt d c3 => rw [e] at h; exact h
  | exc k n x c3 => rw [e] at h; exact h
theorem fnD_ok (F : FunD K x qual params bd scope dvs kws f fd) (S : FnScope N ps scope) (hm : ms.length = ps.length) (hn : N.length = ps.length + nl)
    (hb : ∀ (cdv : Value) (A : Around) (outer : List Env) (s : Shared) (H : Hp) (E : XK), Room k (A.deeper (envOfC qual scope s.heap.objs.size f cdv)) → ∀ Ac : Act, Ac.g.G = G → Ac.g.K = K →
      PSs (cxOf (L2.CX P w) P w K mg base N qual scope f cdv A outer s H E) bd (tS Ac (fun cls d _ H => E cls d H) body)) : FnOk P w K mg base (L2.CX P w) (k + 1) f fd ps (spF G K ms nl body) := by
  refine F.ok S (fun vs H Q E h => h.1.trans hm) fun cdv A outer s H vs Q E hr h => ?_
  obtain ⟨hl, Ac, I, O, ds, hg, hg2, hd, Sa, h⟩ := h
  refine ⟨_, hb cdv A outer s H E hr Ac hg hg2, ?_⟩
  rw [start_eq (hl.trans hm) hn]
  exact sp_run Sa h
theorem fnDW_ok (F : FunD K x qual params bd scope dvs kws f fd) (S : FnScope N ps scope) (hm : ms.length = ps.length) (hn : N.length = ps.length + nl)
    (hb : ∀ (cdv : Value) (A : Around) (outer : List Env) (s : Shared) (H : Hp) (E : XK) (p : Addr × Obj), L2H.RoomH k (A.deeper (envOfC qual scope s.heap.objs.size f cdv)) → ∀ Ac : Act, Ac.g.G = G → Ac.g.K = K →
      PSs (L2H.cxH (L2.CX P w) P w K mg base N qual scope f cdv A outer s H E p) bd (tS Ac (fun cls d _ H => E cls d H) body)) : FnW P w K mg base (L2.CX P w) (k + 1) f fd ps (spF G K ms nl body) := by
  obtain ⟨oc, od, dV, kV, doc, pm, an, cdv, ct, osl, rfl, lk, hcd, _, _⟩ := F.ex
  refine fnW_of lk hcd S (fun vs H Q E h => h.1.trans hm) fun A outer s H vs Q E p hr h => ?_
  obtain ⟨hl, Ac, I, O, ds, hg, hg2, hd, Sa, h⟩ := h
  refine ⟨_, hb cdv A outer s H E p hr Ac hg hg2, ?_⟩
  rw [start_eq (hl.trans hm) hn]
  exact sp_run Sa h
/-- what a call by name needs -/
def Cal (P : Program) (w : World) (K : PySem.W.Frag) (mg : Str → Option Value) (base : Heap) (G : Nat → Addr) (x : Str) (k : Nat) (ps : List Str) (ms : List Bool) (nl : Nat) (body : Ctx → SR) : Prop :=
  ∃ (f : Addr) (fd : FuncData), mg x = some (.ref f) ∧ FnOk P w K mg base (L2.CX P w) k f fd ps (spF G K ms nl body) ∧ PySem.W.keepIn K (.ref f) = true ∧ Binds K fd ps []
def CalW (P : Program) (w : World) (K : PySem.W.Frag) (mg : Str → Option Value) (base : Heap) (G : Nat → Addr) (x : Str) (k : Nat) (ps : List Str) (ms : List Bool) (nl : Nat) (body : Ctx → SR) : Prop :=
  ∃ (f : Addr) (fd : FuncData), mg x = some (.ref f) ∧ FnW P w K mg base (L2.CX P w) k f fd ps (spF G K ms nl body) ∧ PySem.W.keepIn K (.ref f) = true ∧ Binds K fd ps []
theorem CalW.cal (C : CalW P w K mg base G x k ps ms nl body) : Cal P w K mg base G x k ps ms nl body := by
  obtain ⟨f, fd, h1, h2, h3⟩ := C
  exact ⟨f, fd, h1, h2.ok, h3⟩
end
section
variable {A : Act} {W : Wx} {X : Cx} {G : Nat → Addr} {ps : List Str} {ms : List Bool} {nl k j : Nat} {body : Ctx → SR} {Φ : List D → FR} {x : Str} {pos pos' : Pos} {e : Expr} {es : List Expr} {args : List (Ctx → ER)}
theorem PE_cal (C : Cal X.prog X.w X.K X.mg X.base G x k ps ms nl body) (o : On X A.g) (hG : A.g.G = G) (hr : Room j X.A) (tk : Takes X W) (hΦ : Φ = runF ms nl body) (hk : k ≤ j) (hg : Gl X x) (ha : PA X (e :: es) (tA' A W (eArgs args)))
    (hdb : (x == ("__debug__" : Str)) = false := by decide) (he : starEach (e :: es) X.env = (false, eval e X.env) :: starEach es X.env := by rfl) (hpl : (backTo pos (starEach es X.env)).any (·.1) = false := by rfl) :
    PE X (.Call (.Name x pos') (e :: es) [] pos) (tE A W (eCall ms Φ args [])) := by
  obtain ⟨f, fd, h1, h2, h3, h4⟩ := C
  exact PE_call (dvs := []) (dvals := []) h2 o hG hΦ (hr.mono hk) hg h1 h3 h4 .nil .nil tk ha hdb he hpl
theorem PE_calW (C : CalW X.prog X.w X.K X.mg X.base G x k ps ms nl body) (o : On X A.g) (hG : A.g.G = G) (hr : L2H.RoomH j X.A) (tk : Takes X W) (hΦ : Φ = runF ms nl body) (hk : k ≤ j) (hg : Gl X x) (ha : PA X (e :: es) (tA' A W (eArgs args)))
    (hdb : (x == ("__debug__" : Str)) = false := by decide) (he : starEach (e :: es) X.env = (false, eval e X.env) :: starEach es X.env := by rfl) (hpl : (backTo pos (starEach es X.env)).any (·.1) = false := by rfl) :
    PE X (.Call (.Name x pos') (e :: es) [] pos) (tE A W (eCall ms Φ args [])) := by
  obtain ⟨f, fd, h1, h2, h3, h4⟩ := C
  exact PE_callW (dvs := []) (dvals := []) h2 o hG hΦ (hr.mono hk) hg h1 h3 h4 .nil .nil tk ha hdb he hpl
theorem PE_len {p : Pos} {ms : List (Ctx → ER)} (o : On X A.g) (hg : Gl X "len") (hm : X.mg "len" = none) (ha : PA X (e :: es) (tA' A W (eArgs ms)))
    (he : starEach (e :: es) X.env = (false, eval e X.env) :: starEach es X.env := by rfl) (hpl : (backTo pos (starEach es X.env)).any (·.1) = false := by rfl) : PE X (.Call (.Name "len" p) (e :: es) [] pos) (tE A W (eOp fLen ms)) :=
  PE_callB (id := "len") call_len (os_len o.k) hg hm PySem.boot_len ha (he := he) (hpl := hpl)
/-- a module's text -/
theorem PE_gs {z : Str} {l : List Nat} (h : ∃ t, X.mg x = some (.str z t)) (hz : z.cps = l.toArray) (hg : Gl X x) (hd : (x == ("__debug__" : Str)) = false := by decide) : PE X (.Name x pos) (tE A W (eC (.str l))) := by
  obtain ⟨t, h⟩ := h
  obtain ⟨a⟩ := z
  have hz : a = l.toArray := hz
  subst hz
  exact PE_glob (v := .str ⟨l.toArray⟩) hg h ⟨t, rfl⟩ (fun _ _ _ => by rw [R]; exact ⟨rfl, rfl⟩) hd
theorem On.of {P : Program} {w : World} {K : PySem.W.Frag} {mg : Str → Option Value} {base : Heap} {N : List Str} {qual : Str} {scope : Scope} {f : Addr} {cdv : Value} {B : Around} {outer : List Env} {s : Shared} {H : Hp} {E : XK} {k : Nat} (h : A.g.K = K) (hr : Room k (B.deeper (envOfC qual scope s.heap.objs.size f cdv))) :
    On (cxOf (L2.CX P w) P w K mg base N qual scope f cdv B outer s H E) A.g := ⟨h, by have := hr.un; show (B.deeper _).units + 65 < _; omega⟩
theorem On.ofH {P : Program} {w : World} {K : PySem.W.Frag} {mg : Str → Option Value} {base : Heap} {N : List Str} {qual : Str} {scope : Scope} {f : Addr} {cdv : Value} {B : Around} {outer : List Env} {s : Shared} {H : Hp} {E : XK} {p : Addr × Obj} {k : Nat} (h : A.g.K = K) (hr : L2H.RoomH k (B.deeper (envOfC qual scope s.heap.objs.size f cdv))) :
    On (L2H.cxH (L2.CX P w) P w K mg base N qual scope f cdv B outer s H E p) A.g := ⟨h, by have := hr.un; show (B.deeper _).units + 65 < _; omega⟩
end
section
variable {A : Act} {W : Wx} {X : Cx} {a b : Expr} {ma mb : Ctx → ER} {pos : Pos}
theorem PT_eq (o : On X A.g) (ha : PE X a (tE A W ma)) (hb : PE X b (tE A W mb)) : PT X (.Compare a [.Eq] [b] pos) (tT A W (tOfE (eOp fEq [ma, mb]))) := PT_cmp (OpR.or op_eq (op_eqD o.u0)) (OpS.or2 os_eqS (os_eqD o.k)) ha hb (nomark _)
theorem PT_ne (o : On X A.g) (ha : PE X a (tE A W ma)) (hb : PE X b (tE A W mb)) : PT X (.Compare a [.NotEq] [b] pos) (tT A W (tOfE (eOp fNe [ma, mb]))) := PT_cmp (OpR.or op_ne (op_neD o.u0)) (OpS.or2 os_neS (os_neD o.k)) ha hb (nomark _)
theorem PT_in (o : On X A.g) (ha : PE X a (tE A W ma)) (hb : PE X b (tE A W mb)) (hm : behindInMarks .In b = false := by rfl) : PT X (.Compare a [.In] [b] pos) (tT A W (tOfE (eOp fIn [ma, mb]))) := PT_cmp (OpR.or op_in_sign (OpR.or op_in_str (OpR.or op_in_seq (op_inD o.u)))) (OpS.or2 os_inS (OpS.or2 os_inSS (OpS.or2 (os_inF o.k) (os_inD o.k)))) ha hb hm
theorem PT_nin (o : On X A.g) (ha : PE X a (tE A W ma)) (hb : PE X b (tE A W mb)) (hm : behindInMarks .NotIn b = false := by rfl) : PT X (.Compare a [.NotIn] [b] pos) (tT A W (tOfE (eOp fNin [ma, mb]))) := PT_cmp (OpR.or op_notIn_sign (OpR.or op_notin_str (OpR.or op_notIn_seq (op_notInD o.u)))) (OpS.or2 os_nInS (OpS.or2 os_nInSS (OpS.or2 (os_nInF o.k) (os_nInD o.k)))) ha hb hm
theorem PT_lt (ha : PE X a (tE A W ma)) (hb : PE X b (tE A W mb)) : PT X (.Compare a [.Lt] [b] pos) (tT A W (tOfE (eOp fLt [ma, mb]))) := PT_cmp (OpR.or op_lt op_lt_str) osr_lt ha hb (nomark _)
theorem PT_le (ha : PE X a (tE A W ma)) (hb : PE X b (tE A W mb)) : PT X (.Compare a [.LtE] [b] pos) (tT A W (tOfE (eOp fLe [ma, mb]))) := PT_cmp (OpR.or op_le op_le_str) osr_le ha hb (nomark _)
theorem PT_gt (ha : PE X a (tE A W ma)) (hb : PE X b (tE A W mb)) : PT X (.Compare a [.Gt] [b] pos) (tT A W (tOfE (eOp fGt [ma, mb]))) := PT_cmp (OpR.or op_gt op_gt_str) osr_gt ha hb (nomark _)
theorem PT_ge (ha : PE X a (tE A W ma)) (hb : PE X b (tE A W mb)) : PT X (.Compare a [.GtE] [b] pos) (tT A W (tOfE (eOp fGe [ma, mb]))) := PT_cmp (OpR.or op_ge op_ge_str) osr_ge ha hb (nomark _)
end
theorem roomS {X : Cx} {k : Nat} {a : Addr} {pn : List (Addr × Obj)} (h : Room k X.A) : L2H.RoomH k (X.suite a pn).A := ⟨h.dp, h.un⟩
end Lc
end
section
set_option Elab.async false
set_option linter.all false
set_option maxRecDepth 100000
set_option maxHeartbeats 4000000
namespace PySem
namespace XS
open PySem.W PySem.Calls PyProof.Rows PySem.HandSPX He

/-- what is seen of a class's __init__ -/
abbrev XV : Type := Option (Str × Str × Arguments × FuncBody × Scope × Addr × List Str × Value × Addr)
def xv (K : Frag) (x : Str) : XV := match K.lookup (ma K (ga K x) "__init__") with
  | some ⟨_, _, .func fd, _⟩ => some (fd.name, fd.qualname, fd.params, fd.body, fd.scope, fd.globals, fd.closure.map (·.1), fd.defaults, fd.builtins)
  | _ => none
def xcell (K : Frag) (x : Str) : Bool := match K.lookup (ma K (ga K x) "__init__") with
  | some ⟨_, _, .func fd, _⟩ => (match fd.closure with
    | (_, cc) :: _ => (match K.lookup cc with
      | some ⟨_, _, .cell (some (.ref C)), _⟩ => C == ga K x
      | _ => false)
    | _ => false)
  | _ => false
def xcode (K : Frag) (prog : Program) (x q : Str) : Bool := match K.lookup (ma K (ga K x) "__init__") with
  | some ⟨_, _, .func fd, _⟩ => codeIn K fd.code q && (match fd.code with
    | .ref cda => (match K.lookup cda with
      | some ⟨_, _, .fields vs, _⟩ => (match (vs[2]? : Option Value) with
        | some (Value.str file _) => ((prog.main.file : Str) == file)
        | _ => false)
      | _ => false)
    | _ => false)
  | _ => false
def xcls (K : Frag) (x : Str) : Bool := match K.lookup (ga K x) with
  | some ⟨.type t, _, .cls cd, sl⟩ => (t == "type") && ((cd.hasDict && !cd.hasDel) && ((match cd.mro with
      | .ref C :: bm => (C == ga K x) && (refsVE bm && decide (alongIn K "__init__" (((Value.ref C :: bm).dropWhile (· != .ref C)).drop 1) = some (some (.builtin "ValueError.__init__"))))
      | _ => false) && (match sl.toList with
      | [_, _, _, _, some (.builtin n), _] => n == "ValueError.__new__"
      | _ => false)))
  | _ => false
def xfacts (K : Frag) (x f : Str) : Bool :=
  eqO (findIn K (.ref (ga K x)) "__setattr__") (some (some (.builtin "object.__setattr__"))) && (eqO (findIn K (.ref (ga K x)) f) (some none) && (eqO (findIn K (.ref (ga K x)) "__init__") (some (some (.ref (ma K (ga K x) "__init__")))) &&
    (decide (typeIn K (.ref (ma K (ga K x) "__init__")) = some (.type "function")) && (keepIn K (.ref (ga K x)) && (decide (subIn K (.ref (ga K x)) (.type "BaseException") = some true) && (decide (typeIn K (.ref (ga K x)) = some (.type "type")) &&
      (eqO (nsIn K cStatics "thirdparty.any") (some none) && (decide (mroIn K (ga K x) (.ref (ga K x)) = some true) && decide (subIn K (.ref (ga K x)) (.type "ValueError") = some true)))))))))
def xB (K : Frag) (prog : Program) (x f q : Str) : Bool := xcell K x && (xcode K prog x q && (xcls K x && xfacts K x f))
theorem cls_of {K : Frag} {x : Str} (h : xcls K x = true) : ∃ nm q N bs bm sn sub ab col dd k0 k1 k2 k3 k5, K.lookup (ga K x) = some (excClassObj nm q (ga K x) N bs bm true sn sub ab col dd k0 k1 k2 k3 k5 "ValueError.__new__") ∧ refsVE bm = true ∧
    alongIn K "__init__" (((Value.ref (ga K x) :: bm).dropWhile (· != .ref (ga K x))).drop 1) = some (some (.builtin "ValueError.__init__")) := by
  unfold xcls at h
  split at h
  · rename_i t dd cd sl ho
    simp only [Bool.and_eq_true, Bool.not_eq_true'] at h
    obtain ⟨h1, ⟨h2, h3⟩, h4, h5⟩ := h
    have ht : t = "type" := by simpa using h1
    subst ht
    split at h4
    · rename_i C bm hm
      simp only [Bool.and_eq_true, decide_eq_true_eq] at h4
      obtain ⟨c1, c2, c3⟩ := h4
      have hC : C = ga K x := by simpa using c1
      subst hC
      split at h5
      · rename_i k0 k1 k2 k3 n k5 hs
        have hn : n = "ValueError.__new__" := by simpa using h5
        subst hn
        obtain ⟨nm, bs, mro, ns, qn, hd, sn, sub, ab, col, del⟩ := cd
        dsimp only at hm h2 h3
        subst hm h2 h3
        have hsl : sl = #[k0, k1, k2, k3, some (.builtin "ValueError.__new__"), k5] := by
          obtain ⟨l⟩ := sl
          simp only at hs
          rw [hs]
        subst hsl
        exact ⟨nm, qn, ns, bs, bm, sn, sub, ab, col, dd, k0, k1, k2, k3, k5, ho, c2, c3⟩
      · cases h5
    · cases h4
  · cases h
theorem xtxt_ok {prog : Program} {K : Frag} {x f qual : Str} {params : Arguments} {bd : List Stmt} {scope : Scope} {msg : Expr} {p0 p1 p2 p3 p4 q1 q2 q3 q4 : Pos} {ar : Arg} {Ok : Value → Prop} {pl : Env → Sem Bool} (e : xv K x = (some (("__init__" : Str), qual, params, FuncBody.stmts bd, scope, mainGlobals, [("__class__" : Str)], Value.none, builtinsNs) : XV)) (c : xB K prog x f qual = true)
    (hb : bd = xBody f msg p0 p1 p2 p3 p4 q1 q2 q3 q4) (htop : (prog.main.scope.names.lookup ("super" : Str)).isSome = false) (hfs : f ≠ ("self" : Str)) (hfd : (f == ("__debug__" : Str)) = false) (har : (params.posonlyargs ++ params.args).head? = some ar) (harg : ar.arg = "self")
    (hbind : ∀ (kV doc pm ct cdv : Value) (an : Option Addr) (cc : Addr) (s : Shared) (y : Addr) (v : Value), BindsTo s (fnX "__init__" qual params bd scope [(("__class__" : Str), cc)] .none kV doc pm an cdv ct) ⟨[.ref y, v], []⟩ [("self", .ref y), (f, v)])
    (hk : scope.kind = .function) (hco : scope.isCoroutine = false) (hgen : scope.isGenerator = false) (hnc : ∀ y ∈ scope.names, y.2 ≠ .cell) (hls : scope.names.lookup ("self" : Str) = some .local) (hlf : scope.names.lookup f = some .local) (hks : scope.names.lookup ("super" : Str) = some .globalImplicit) (hkc : scope.names.lookup ("__class__" : Str) = some .free)
    (hmsg : ∀ (fd : FuncData) (fI : Addr), fd.scope = scope → ∀ (w : World) (L : Addr) (v : Value), Ok v → MsgOk (model prog w) (callEnv fd L fI) f msg L v)
    (hev : ∀ env : Env, eval (.Call (.Attribute (.Call (.Name "super" p0) [] [] p1) "__init__" p2) [msg] [] p3) env = (do
      let ov ← attributeBase (.Call (.Name "super" p0) [] [] p1) "__init__" env (eval (.Call (.Name "super" p0) [] [] p1) env)
      standAt p2.atName
      let (f, first) ← holding [ov] (getMethod ov "__init__" (pl env))
      callWith p3 f first (backTo p3 (starEach [msg] env)) []))
    (hst : ∀ env : Env, starEach [msg] env = (false, eval msg env) :: starEach [] env)
    (hsw : ∀ env : Env, swapsWith (.Call (.Attribute (.Call (.Name "super" p0) [] [] p1) "__init__" p2) [msg] [] p3) none p4.line env = pure false) :
    XTxt prog K (ga K x) (ma K (ga K x) "__init__") f Ok := by
  unfold xB at c
  obtain ⟨c1, c⟩ := ba c
  obtain ⟨c2, c⟩ := ba c
  obtain ⟨c3, c⟩ := ba c
  unfold xfacts at c
  obtain ⟨f1, c⟩ := ba c
  obtain ⟨f2, c⟩ := ba c
  obtain ⟨f3, c⟩ := ba c
  obtain ⟨f4, c⟩ := ba c
  obtain ⟨f5, c⟩ := ba c
  obtain ⟨f6, c⟩ := ba c
  obtain ⟨f7, c⟩ := ba c
  obtain ⟨f8, c⟩ := ba c
  obtain ⟨f9, f10⟩ := ba c
  refine ⟨eqO_ok f1, eqO_ok f2, eqO_ok f3, of_decide_eq_true f4, f5, of_decide_eq_true f6, of_decide_eq_true f7, eqO_ok f8, of_decide_eq_true f9, of_decide_eq_true f10, htop, hfs, hfd, ?_⟩
  obtain ⟨nm, q, N, bs, bm, sn, sub, ab, col, dd, k0, k1, k2, k3, k5, hC, hbm, hsup⟩ := cls_of c3
  unfold xv at e
  unfold xcell at c1
  unfold xcode at c2
  cases hq : K.lookup (ma K (ga K x) "__init__") with
  | none => rw [hq] at e; cases e
  | some o =>
    obtain ⟨oc, od, dt, osl⟩ := o
    rw [hq] at e c1 c2
    cases dt with
    | func fd =>
      obtain ⟨n1, n2, n3, n4, n5, n6, n7, n8, n9, n10, n11, n12, n13, n14, n15⟩ := fd
      have e2 : (some (n1, n2, n3, n4, n5, n6, n7.map (·.1), n8, n15) : XV) = (some (("__init__" : Str), qual, params, FuncBody.stmts bd, scope, mainGlobals, [("__class__" : Str)], Value.none, builtinsNs) : XV) := e
      simp only [Option.some.injEq, Prod.mk.injEq] at e2
      obtain ⟨h1, h2, h3, h4, h5, h6, h7, h8, h9⟩ := e2
      dsimp only at c1 c2
      obtain ⟨d1, d2⟩ := ba c2
      cases n7 with
      | nil => cases c1
      | cons cl0 rest =>
        obtain ⟨cn, cc⟩ := cl0
        simp only [List.map_cons, List.cons.injEq, List.map_eq_nil_iff] at h7
        obtain ⟨g1, g2⟩ := h7
        subst g1 g2 h1 h2 h3 h4 h5 h6 h8 h9
        dsimp only at c1
        split at c1
        · rename_i cl cld C csl hcell
          have hCC : C = ga K x := by simpa using c1
          subst hCC
          cases n13 with
          | ref cda =>
            dsimp only at d2
            split at d2
            · rename_i ccl cdd vs ccs hcode
              split at d2
              · rename_i file tf hvs
                subst hb
                exact ⟨n2, n3, n5, msg, p0, p1, p2, p3, p4, q1, q2, q3, q4, .none, n9, n10, n11, n14, oc, ccl, cl, n12, od, cdd, cld, dd, osl, ccs, csl, vs, file, tf, ar, N, cc, cda, nm, q, bs, bm, sn, sub, ab, col, k0, k1, k2, k3, k5, pl, _, rfl, rfl, d1, har, harg, hcell, hcode, hvs, d2, hC, hbm, hsup,
                  fun s y v => hbind _ _ _ _ _ _ _ s y v, hk, hco, hgen, hnc, hls, hlf, hks, hkc, hmsg _ _ rfl, hev, hst, hsw⟩
              · cases d2
            · cases d2
          | _ => cases d2
        · cases c1
    | _ => cases e
end XS
end PySem
end
section
set_option Elab.async false
set_option linter.all false
set_option maxRecDepth 100000
set_option maxHeartbeats 4000000
namespace He
open PySem PySem.Spec PyProof.Rows L2

/-! ### what the end leans on: facts, defs, own exceptions, one more test -/
abbrev AlL : Type := Bool × List FnW × List PySem.XS.XV
def obsL (fa : List Fa) (fn : List DefD) (xs : List Str) (ex : PySem.W.Frag → Bool) (K : PySem.W.Frag) : AlL := (((fa.all fun f => f.ok K) && fn.all fun d => d.ok K) && ex K, fn.map (fun d => fnW K d.at_), xs.map (PySem.XS.xv K))
def valL (fn : List DefD) (xv : List PySem.XS.XV) : AlL := (true, fn.map DefD.val, xv)
def asL (g : Addr → Option Obj) (n : Nat) : List Addr := cStatics :: asD g n
def obsLG (n : Nat) (fa : List Fa) (fn : List DefD) (xs : List Str) (ex : PySem.W.Frag → Bool) (g : Addr → Option Obj) : AlL := obsL fa fn xs ex (frG g (asL g n))
def SaysL (fa : List Fa) (fn : List DefD) (xs : List Str) (xv : List PySem.XS.XV) (ex : PySem.W.Frag → Bool) (K : PySem.W.Frag) : Prop := obsL fa fn xs ex K = valL fn xv
def hookL (n : Nat) (fa : List Fa) (fn : List DefD) (xs : List Str) (xv : List PySem.XS.XV) (ex : PySem.W.Frag → Bool) : PySem.W.Hook where
  α := AlL
  obs := fun s => obsLG n fa fn xs ex s.heap.get?
  val := fun _ => valL fn xv
  says := fun _ h => ∃ K : PySem.W.Frag, K.In h ∧ SaysL fa fn xs xv ex K
  of := fun _ _ e => ⟨_, frG_in, e⟩
  keeps := fun _ _ _ ⟨K, hK, c⟩ k => ⟨K, PySem.W.Frag.In.keeps hK k, c⟩
theorem obsLG_eq {n : Nat} {fa : List Fa} {fn : List DefD} {xs : List Str} {xv : List PySem.XS.XV} {ex : PySem.W.Frag → Bool} {g : Addr → Option Obj} {s : Shared} (h : ∀ a, g a = s.heap.get? a) : obsLG n fa fn xs ex g = (hookL n fa fn xs xv ex).obs s := by
  have e : g = s.heap.get? := funext h
  rw [e] <;> rfl
section
variable {fa : List Fa} {fn : List DefD} {xs : List Str} {xv : List PySem.XS.XV} {ex : PySem.W.Frag → Bool} {K : PySem.W.Frag}
theorem SaysL.one (c : SaysL fa fn xs xv ex K) : ((fa.all fun f => f.ok K) && fn.all fun d => d.ok K) = true ∧ ex K = true := ba (congrArg (fun z : AlL => z.1) c)
theorem SaysL.fact (c : SaysL fa fn xs xv ex K) (i : Nat) {f : Fa} (h : fa[i]? = some f := by rfl) : f.ok K = true := List.all_eq_true.mp (ba c.one.1).1 f (List.mem_of_getElem? h)
theorem SaysL.more (c : SaysL fa fn xs xv ex K) : ex K = true := c.one.2
theorem SaysL.def_ (c : SaysL fa fn xs xv ex K) (i : Nat) {d : DefD} (h : fn[i]? = some d := by rfl) : ∃ fd, FunD K d.name d.qual d.params d.body d.scope (d.dvs K) (d.kws K) (fAd K d.at_) fd := by
  have e : fn.map (fun d => fnW K d.at_) = fn.map DefD.val := congrArg (fun z : AlL => z.2.1) c
  have q : (fn.map fun d => fnW K d.at_)[i]? = (fn.map DefD.val)[i]? := by rw [e]
  rw [List.getElem?_map, List.getElem?_map, h] at q
  exact DefD.funD (Option.some.inj q) (List.all_eq_true.mp (ba c.one.1).2 d (List.mem_of_getElem? h))
theorem SaysL.xv_ (c : SaysL fa fn xs xv ex K) (i : Nat) {x : Str} {v : PySem.XS.XV} (h : xs[i]? = some x := by rfl) (hv : xv[i]? = some v := by rfl) : PySem.XS.xv K x = v := by
  have e : xs.map (PySem.XS.xv K) = xv := congrArg (fun z : AlL => z.2.2) c
  have q : (xs.map (PySem.XS.xv K))[i]? = xv[i]? := by rw [e]
  rw [List.getElem?_map, h, hv] at q
  exact Option.some.inj q
end
/-- isinstance asks such a class's instances rightly -/
def excB (K : PySem.W.Frag) (D : Addr) : Bool :=
  eqO (PySem.W.findIn K (.ref D) "__getattribute__") (some (some (.builtin "BaseException.__getattribute__"))) && (eqO (PySem.W.findIn K (.ref D) "__getattr__") (some none) && (decide (PySem.W.subIn K (.ref D) (.type "BaseException") = some true) && (PySem.W.hasDictIn K D &&
    (eqO (PySem.W.findIn K (.ref D) "__class__") (some (some (.builtin "object.__class__"))) && (eqO (PySem.W.specialIn K (.builtin "object.__class__") "__get__") (some (some (.builtin "getset_descriptor.__get__"))) && (decide (PySem.W.takesIn K (.builtin "object.__class__") = some true) && decide (PySem.W.mroIn K D (.type "object") = some true)))))))
theorem excB_ok {K : PySem.W.Frag} {D : Addr} (h : excB K D = true) : ExcC K D := by
  obtain ⟨h1, h⟩ := ba h
  obtain ⟨h2, h⟩ := ba h
  obtain ⟨h3, h⟩ := ba h
  obtain ⟨h4, h⟩ := ba h
  obtain ⟨h5, h⟩ := ba h
  obtain ⟨h6, h⟩ := ba h
  obtain ⟨h7, h8⟩ := ba h
  exact ⟨eqO_ok h1, eqO_ok h2, of_decide_eq_true h3, h4, eqO_ok h5, eqO_ok h6, of_decide_eq_true h7, of_decide_eq_true h8⟩
def kitB1 (K : PySem.W.Frag) (D : Addr) (c : Value) (b : Bool) : Bool := excB K D && decide (PySem.W.kitOne K (.ref D) c = some b)
theorem kitB1_ok {K : PySem.W.Frag} {D : Addr} {c : Value} {b : Bool} (h : kitB1 K D c b = true) : ExcC K D ∧ PySem.W.kitOne K (.ref D) c = some b := by
  obtain ⟨h1, h2⟩ := ba h
  exact ⟨excB_ok h1, of_decide_eq_true h2⟩
def xfB1 (K : PySem.W.Frag) (D : Addr) (f : Str) : Bool := xfB K D && eqO (PySem.W.findIn K (.ref D) f) (some none)
theorem xfB1_ok {K : PySem.W.Frag} {D : Addr} {f : Str} (h : xfB1 K D f = true) : XfC K D ∧ PySem.W.findIn K (.ref D) f = some none := by
  obtain ⟨h1, h2⟩ := ba h
  exact ⟨xfB_ok h1, eqO_ok h2⟩
end He
namespace Lc
open PySem L2
/-- a law's end: the script's length and bits are told -/
theorem walk_ofL {l : PySem.W.OpenLaw} {n k : Nat} {q : Program} {loose : List Str} {XP : (Str → Option Value) → Heap → Prop} {YP : World → Heap → Prop} {d : DefRec} {x : Str}
    (hn : l.most = some n) (hn2 : n ≤ sizeLine) (hdf : d.params.defaults = []) (hr : Room k callerA)
    (F : ∀ (w : World) (mg : Str → Option Value) (fa : Addr) (h : Heap), YP w h → h.Ns mainGlobals mg → mg d.name = some (.ref fa) →
      ∃ (K : PySem.W.Frag) (fd : FuncData) (sp : Sp), K.In h ∧ (∀ (s : Shared) (u : Value), BindsTo s fd ⟨[u], []⟩ [(x, u)]) ∧
        (∀ (H : Hp) (a : Addr) (ns : List Int), ns.length ≤ n → (∀ z ∈ ns, Builtin.Int.intBits z ≤ 1048576) → SqL K H a (ns.map V.int) → sp [.ref a] H (fun v _ => v = .bl true) fun _ _ _ => False) ∧
        ∀ base : Heap, K.In base → base.Ns mainGlobals mg → FnOk l.prog w K mg base (L2.CX l.prog w) k fa fd [x] sp) :
    PySem.W.WalkO q loose XP YP l.row.toRowW d [] (fun f vs => PySem.call f vs) := by
  refine Att.attach_callB hn hdf fun w s₀ s₁ mg mb fa o pm cd doc a vs ns gr Y ho hd hcd hmg hobj hints hlen hbits hg => ?_
  obtain ⟨K, fd, sp, KX, hb, hsp, hF⟩ := F w mg fa _ Y gr.T.g hmg
  exact law_call KX gr.T.g gr.T.b gr.T.builtins gr.T.nolimit hg hobj hints (Nat.le_trans hlen hn2) hr hF hb (fun H hO hS => hsp H a ns hlen hbits hS) fun H e s' ⟨_, _, _, _, _, _, _, _, _, _, _, _, z⟩ => z
end Lc
end
section
set_option Elab.async false
set_option linter.all false
set_option maxRecDepth 100000
namespace Lc
open PySem L2
section
variable {A : Act} {W : Wx} {X : Cx} {I H : Hp} {σ : St} {c : Ctx} {ts : List (D × V)} {O : Addr → Option Ow} {lk : List (Nat × List Nat × V)} {d : D} {v : V}
/-- what was just made stays as it is from here on -/
theorem Sat.frzLast (S : Sat A I H σ c (ts ++ [(d, v)]) O lk) (nb : noBor d = true) : ∃ I' O', Sat A I' H σ c (ts ++ [(frz d, v)]) O' lk := by
  obtain ⟨fp, r, n, l⟩ := S.tmps ts.length d v (by simp)
  have nI : ∀ a ∈ fp, I a = none ∧ A.B a = none := fun a ha => ⟨(S.fr a _ (l a ha)).1, (S.fr a _ (l a ha)).2.1⟩
  have hi : leH I (fun a => if a ∈ fp then H a else I a) := fun a o e => by
    by_cases ha : a ∈ fp
    · rw [(nI a ha).1] at e; cases e
    · show (if a ∈ fp then H a else I a) = _
      rw [if_neg ha]; exact e
  have ho : ∀ w, w ≠ .inr ts.length → ∀ a, O a = some w → (if a ∈ fp then none else O a) = some w := fun w hw a e => by
    by_cases ha : a ∈ fp
    · rw [l a ha] at e
      cases e
      exact (hw rfl).elim
    · rw [if_neg ha]; exact e
  refine ⟨fun a => if a ∈ fp then H a else I a, fun a => if a ∈ fp then none else O a, ?_⟩
  have pvk : ∀ {r : Nat} {p : List Nat} {v : V}, PV A I H σ c O r p v → PV A (fun a => if a ∈ fp then H a else I a) H σ c (fun a => if a ∈ fp then none else O a) r p v := fun {r p v} x => x.keep hi (fun _ _ => rfl) (ho _ (fun z => by cases z)) rfl rfl
  refine ⟨fun a o e => ?_, S.bh, S.i0.trans hi, fun a o e => ?_, S.len, fun i d e => ?_, fun i r p e => ?_, fun j d1 v1 e => ?_, fun r p v e => pvk (S.lks r p v e), S.lke, fun a w e => ?_⟩
  · by_cases ha : a ∈ fp
    · rw [if_pos ha] at e; exact e
    · rw [if_neg ha] at e; exact S.ih a o e
  · by_cases ha : a ∈ fp
    · exact .inr (nI a ha).2
    · rw [if_neg ha] at e; exact S.ib a o e
  · obtain ⟨v, e1, h⟩ := S.vals i d e
    exact ⟨v, e1, h.keep hi (fun _ _ => rfl) (ho _ (fun z => by cases z))⟩
  · obtain ⟨w, e1, h⟩ := S.als i r p e
    exact ⟨w, e1, pvk h⟩
  · by_cases hj : j < ts.length
    · rw [List.getElem?_append_left hj] at e
      have := S.tmps j d1 v1 (by rw [List.getElem?_append_left hj]; exact e)
      exact this.keep hi (fun _ _ => rfl) (ho _ (fun z => by cases z; exact Nat.lt_irrefl _ hj))
    · have hj2 : j = ts.length := by
        have := (List.getElem?_eq_some_iff.mp e).1
        rw [List.length_append] at this
        simp at this
        omega
      subst hj2
      rw [List.getElem?_append_right (Nat.le_refl _), Nat.sub_self] at e
      cases e
      exact RO.leaf (R.frz d r nb hi fun a ha => if_pos ha)
  · by_cases ha : a ∈ fp
    · rw [if_pos ha] at e; cases e
    · rw [if_neg ha] at e
      obtain ⟨h1, h2, h3⟩ := S.fr a w e
      exact ⟨(if_neg ha).trans h1, h2, h3⟩
/-- what was just made is frozen, to be walked over -/
def eFt (m : Ctx → ER) : Ctx → ER := fun c => match m c with
  | .ok (.t d) c1 => .ok (.t (if noBor d then frz d else d)) c1
  | r => r
theorem PE_ft {e : Expr} {m : Ctx → ER} (h : PE X e (tE A W m)) : PE X e (tE A W (eFt m)) := PE.imp h fun σ H Q ⟨I, c, ts, O, lk, S, h⟩ => by
  refine ⟨I, c, ts, O, lk, S, ?_⟩
  unfold eFt at h
  cases e1 : m c with
  | bad => rw [e1] at h; exact h
  | exc k n x c1 => rw [e1] at h; exact h
  | ok ev c1 =>
    rw [e1] at h
    cases ev with
    | pl r p => exact h
    | t d =>
      dsimp only at h
      intro v I1 H1 O1 S1
      by_cases nb : noBor d = true
      · rw [if_pos nb] at h
        obtain ⟨I2, O2, S2⟩ := S1.frzLast nb
        exact h v I2 H1 O2 S2
      · rw [if_neg nb] at h
        exact h v I1 H1 O1 S1
end
end Lc
end
section
set_option Elab.async false
set_option linter.all false
set_option maxRecDepth 100000
set_option maxHeartbeats 4000000
namespace Lc
namespace K01
open PySem L2
open PyProof.Rows (envOfC)
abbrev P : Program := PySem.Challenge.pw_leapcard_k01_turns_and_mirrors
def top (i : Nat) : Stmt := P.main.body.getD i (.Pass ⟨0, 0, 0, 0⟩)
def Gof (K : PySem.W.Frag) : Nat → Addr := fun k => He.ga K (match k with | 0 => "InvalidRow" | _ => "")
def okx_InvalidRow : D → Bool := fun d => match d with | .str s => decide ((reprText (strL s)).length ≤ 16000000) | _ => false
def okv_InvalidRow : Value → Prop := fun u => ∃ x t, u = .str x t ∧ 13 + (reprText x).length ≤ sizeLine
theorem ok_InvalidRow {g : Gs} : ∀ (I B H : Hp) (d : D) (v : V) (u : Value), okx_InvalidRow d = true → R g I B H d v [] → RelV v u → okv_InvalidRow u := fun I B H d v u h r rv => by
  cases d with
  | str s =>
    rw [R] at r
    obtain ⟨rfl, _⟩ := r
    obtain ⟨t, rfl⟩ := rv
    refine ⟨_, t, rfl, ?_⟩
    have h : (reprText (strL s)).length ≤ 16000000 := by simpa [okx_InvalidRow] using h
    have e : (reprText (⟨s.toArray⟩ : Str)).length = (reprText (strL s)).length := rfl
    rw [e, sizeLine_eq]
    omega
  | _ => cases h
def mt_LeapError : Nat → Option Bool := fun k => match k with | 0 => some true | _ => none
def fo_row : Nat → Bool := fun k => match k with | 0 => true | _ => false
def is_InvalidRow : Nat → Option Bool := fun k => match k with | 0 => some true | _ => none
structure Fs (K : PySem.W.Frag) (mg : Str → Option Value) : Prop where
  b_super : mg "super" = none
  x_InvalidRow : PySem.XS.XTxt P K (He.ga K "InvalidRow") (He.ma K (He.ga K "InvalidRow") "__init__") "row" okv_InvalidRow
  b_int : mg "int" = none
  b_isinstance : mg "isinstance" = none
  b_len : mg "len" = none
  b_min : mg "min" = none
  b_range : mg "range" = none
  b_str : mg "str" = none
  b_sum : mg "sum" = none
  mt_LeapError : ∀ k b, mt_LeapError k = some b → PySem.W.exmOne K (.ref (Gof K k)) (.ref (He.ga K "LeapError")) = some b
  s_SIGNS : ∃ t, mg "SIGNS" = some (.str (PySem.Str.ofString "#.:ABCDabcd") t)
  xf_row : ∀ k, fo_row k = true → XfC K (Gof K k) ∧ PySem.W.findIn K (.ref (Gof K k)) "row" = some none
  xi_InvalidRow : ∀ k b, is_InvalidRow k = some b → ExcC K (Gof K k) ∧ PySem.W.kitOne K (.ref (Gof K k)) (.ref (He.ga K "InvalidRow")) = some b
  c_InvalidRow : mg "InvalidRow" = some (.ref (He.ga K "InvalidRow"))
  c_LeapError : mg "LeapError" = some (.ref (He.ga K "LeapError"))
abbrev st__law_take : Stmt := top 12
def m__law_take : Ctx → SR := sSeq (sIf (tOfE (eOp fGt [eIx (eN 0) (eC (.int 0)), eC (.int 0)])) (sSeq (sSet 2 (eOp (fII gMod) [eOp fInt1 [eIx (eN 0) (eC (.int 0))], eN 1])) (sSeq (sSetI fSetL (eOp (fII gDiv) [eIx (eN 0) (eC (.int 0)), eN 1]) (eN 0) (eC (.int 0))) (sRet (eMv 2)))) (sNx)) (sSeq (sSetI fSetL (eOp fAdd [eIx (eN 0) (eC (.int 1)), eC (.int 1)]) (eN 0) (eC (.int 1))) (sSeq (sSet 3 (eOp (fII gMod) [eOp fInt1 [eOp fAdd [eOp fAdd [eOp fMul [eIx (eN 0) (eC (.int 2)), eC (.int 48271)], eOp fMul [eIx (eN 0) (eC (.int 1)), eC (.int 69623)]], eC (.int 12347)]], eC (.int 2147483647)])) (sSeq (sSet 3 (eOp (fII gMod) [eOp fInt1 [eOp fAdd [eOp fMul [eN 3, eN 3], eOp fMul [eIx (eN 0) (eC (.int 1)), eC (.int 40709)]]], eC (.int 2147483629)])) (sSeq (sSet 3 (eOp (fII gMod) [eOp fInt1 [eOp fAdd [eOp fAdd [eOp fMul [eN 3, eN 3], eOp fMul [eIx (eN 0) (eC (.int 2)), eC (.int 7919)]], eC (.int 31)]], eC (.int 2147483587)])) (sRet (eOp (fII gMod) [eOp fInt1 [eOp (fII gDiv) [eN 3, eC (.int 32)]], eN 1]))))))
def F__law_take : List D → FR := runF [true, false] 2 m__law_take
abbrev st__law_bent : Stmt := top 18
def m__law_bent : Ctx → SR := sSeq (sSet 2 (eC (.str [32, 33, 34, 36, 38, 39, 40, 41, 42, 43, 44, 45, 47, 48, 49, 50, 51, 52, 53, 54, 55, 56, 57, 59, 60, 61, 62, 63, 64, 69, 70, 71, 72, 73, 74, 75, 76, 77, 78, 79, 80, 81, 82, 83, 84, 85, 86, 87, 88, 89, 90, 91, 92, 93, 94, 95, 96]))) (sSeq (sSet 2 (eOp fAdd [eN 2, eC (.str [101, 102, 103, 104, 105, 106, 107, 108, 109, 110, 111, 112, 113, 114, 115, 116, 117, 118, 119, 120, 121, 122, 123, 124, 125, 126, 10, 9])])) (sSeq (sSet 3 (eIx (eN 2) (eCall [true, false] F__law_take [eN 0, eOp fLen [eN 2]] []))) (sSeq (sSet 4 (eOp fSlR [eN 1, eC (.int 59)])) (sSeq (sSet 5 (eCall [true, false] F__law_take [eN 0, eOp fAdd [eOp fLen [eN 4], eC (.int 1)]] [])) (sRet (eOp fAdd [eOp fAdd [eOp fSlR [eN 4, eN 5], eN 3], eOp fSlL [eN 4, eOp fAdd [eN 5, eCall [true, false] F__law_take [eN 0, eC (.int 2)] []]]]))))))
def F__law_bent : List D → FR := runF [true, false] 4 m__law_bent
abbrev st__law_cell : Stmt := top 10
def m__law_cell : Ctx → SR := sSeq (sIf (tOfE (eOp fLt [eN 1, eOp fMin [eC (.int 63), eOp fLen [eN 0]]])) (sRet (eIx (eN 0) (eN 1))) (sNx)) (sRet (eOp fAdd [eOp fAdd [eOp fMul [eOp (fII gMod) [eOp fInt1 [eOp fSum [eOp fSlR [eN 0, eC (.int 1)]]], eC (.int 1000003)], eC (.int 7919)], eOp fMul [eN 1, eC (.int 15485863)]], eC (.int 41)]))
def F__law_cell : List D → FR := runF [false, false] 0 m__law_cell
abbrev st__law_box : Stmt := top 11
def m__law_box : Ctx → SR := sSeq (sSet 2 (eCall [false, false] F__law_cell [eN 0, eN 1] [])) (sSeq (sSet 3 (eOp (fII gMod) [eOp fInt1 [eOp fAdd [eN 2, eOp fMul [eN 1, eC (.int 104729)]]], eC (.int 2147483647)])) (sSeq (sIf (tOfE (eOp fGe [eN 2, eOp (fII gPow) [eC (.int 10), eC (.int 18)]])) (sRet (eLst [eN 2, eC (.int 0), eN 3])) (sNx)) (sRet (eLst [eC (.int 0), eC (.int 0), eN 3]))))
def F__law_box : List D → FR := runF [false, false] 2 m__law_box
abbrev st__law_moved : Stmt := top 21
def m__law_moved : Ctx → SR := sSeq (sSet 2 (eOp fLen [eN 0])) (sRet (eSM fJoin (eC (.str [])) [eCmp [3] (itA fR1 [eN 2]) (.n 3) (fun c => .ok true c) (eIx (eN 0) (eOp (fII gMod) [eOp fInt1 [eOp fAdd [eN 3, eN 1]], eN 2]))]))
def F__law_moved : List D → FR := runF [false, false] 2 m__law_moved
abbrev st__law_text : Stmt := top 13
def m__law_text : Ctx → SR := sRet (eAnd (eOp fIsi [eN 0, eC (.ty "str")]) (eOp fEq [eN 0, eN 1]))
def F__law_text : List D → FR := runF [false, false] 0 m__law_text
abbrev st_check_row : Stmt := top 5
def m_check_row : Ctx → SR := sFor (itE (eN 0)) (.n 2) (sIf (tOfE (eOp fNin [eN 2, eN 1])) (sRaise 0 "row" okx_InvalidRow (eN 0)) (sNx))
def F_check_row : List D → FR := runF [false, false] 1 m_check_row
abbrev st_least_turn : Stmt := top 8
def m_least_turn : Ctx → SR := sSeq (sExpr (eCall [false, false] F_check_row [eN 0, eC (.str [35, 46, 58, 65, 66, 67, 68, 97, 98, 99, 100])] [])) (sSeq (sIf (tNotT (tTru (eN 0))) (sRet (eMv 0)) (sNx)) (sRet (eOp fMin [eCmp [1] (itA fR1 [eOp fLen [eN 0]]) (.n 1) (fun c => .ok true c) (eOp fAdd [eOp fSlL [eN 0, eN 1], eOp fSlR [eN 0, eN 1]])])))
def F_least_turn : List D → FR := runF [false] 1 m_least_turn
abbrev st__law_least : Stmt := top 25
def m__law_least : Ctx → SR := sSeq (sSet 3 (eN 0)) (sSeq (sFor (itA fR1 [eOp fLen [eN 0]]) (.n 4) (sSeq (sSet 5 (eCall [false, false] F__law_moved [eN 0, eN 4] [])) (sIf (tOfE (eOp fLt [eN 5, eN 3])) (sSet 3 (eN 5)) (sNx)))) (sSeq (sFor (itE (eFt (eLst [eC (.int 0), eC (.int 1), eN 1, eN 2, eOp fAdd [eN 1, eN 2]]))) (.n 4) (sIf (tNotT (tTru (eCall [false, false] F__law_text [eCall [false] F_least_turn [eCall [false, false] F__law_moved [eN 0, eN 4] []] [], eN 3] []))) (sRet (eC (.bl false))) (sNx))) (sRet (eC (.bl true)))))
def F__law_least : List D → FR := runF [false, false, false] 3 m__law_least
abbrev st__law_image : Stmt := top 22
def m__law_image : Ctx → SR := sRet (eSM fJoin (eC (.str [])) [eCmp [1] (itA fR1 [eOp fLen [eN 0]]) (.n 1) (fun c => .ok true c) (eIx (eN 0) (eOp (fII gSub) [eOp (fII gSub) [eOp fLen [eN 0], eC (.int 1)], eN 1]))])
def F__law_image : List D → FR := runF [false] 1 m__law_image
abbrev st_mirror : Stmt := top 6
def m_mirror : Ctx → SR := sSeq (sExpr (eCall [false, false] F_check_row [eN 0, eC (.str [35, 46, 58, 65, 66, 67, 68, 97, 98, 99, 100])] [])) (sRet (eOp fRev [eN 0]))
def F_mirror : List D → FR := runF [false] 0 m_mirror
abbrev st_turned : Stmt := top 7
def m_turned : Ctx → SR := sSeq (sExpr (eCall [false, false] F_check_row [eN 0, eC (.str [35, 46, 58, 65, 66, 67, 68, 97, 98, 99, 100])] [])) (sSeq (sIf (tNotT (tTru (eN 0))) (sRet (eMv 0)) (sNx)) (sSeq (sSet 2 (eOp (fII gMod) [eN 1, eOp fLen [eN 0]])) (sRet (eOp fAdd [eOp fSlL [eN 0, eN 2], eOp fSlR [eN 0, eN 2]]))))
def F_turned : List D → FR := runF [false, false] 1 m_turned
abbrev st__law_mirrors : Stmt := top 24
def m__law_mirrors : Ctx → SR := sSeq (sSet 2 (eCall [false] F_mirror [eN 0] [])) (sSeq (sIf (tOrT (tNotT (tTru (eCall [false, false] F__law_text [eN 2, eCall [false] F__law_image [eN 0] []] []))) (tNotT (tTru (eCall [false, false] F__law_text [eCall [false] F_mirror [eN 2] [], eN 0] [])))) (sRet (eC (.bl false))) (sNx)) (sSeq (sIf (tNotT (tTru (eCall [false, false] F__law_text [eCall [false] F_mirror [eCall [false, false] F_turned [eN 0, eN 1] []] [], eCall [false, false] F__law_moved [eCall [false] F__law_image [eN 0] [], eOp (fII gSub) [eC (.int 0), eN 1]] []] []))) (sRet (eC (.bl false))) (sNx)) (sRet (eCall [false, false] F__law_text [eCall [false, false] F_turned [eN 2, eOp (fII gSub) [eC (.int 0), eN 1]] [], eCall [false] F__law_image [eCall [false, false] F__law_moved [eN 0, eN 1] []] []] []))))
def F__law_mirrors : List D → FR := runF [false, false] 1 m__law_mirrors
abbrev st__law_call : Stmt := top 26
def m__law_call : Ctx → SR := sSeq (sIf (tOfE (eOp fEq [eN 0, eC (.int 0)])) (sRet (eCall [false] F_mirror [eN 1] [])) (sNx)) (sSeq (sIf (tOfE (eOp fEq [eN 0, eC (.int 1)])) (sRet (eCall [false] F_least_turn [eN 1] [])) (sNx)) (sRet (eCall [false, false] F_turned [eN 1, eN 2] [])))
def F__law_call : List D → FR := runF [false, false, false] 0 m__law_call
abbrev st__law_refuses : Stmt := top 27
def m__law_refuses : Ctx → SR := sSeq (sTry 3 mt_LeapError (sExpr (eCall [false, false, false] F__law_call [eN 0, eN 1, eN 2] [])) (sRet (eAnd (eXi is_InvalidRow (eN 3)) (eCall [false, false] F__law_text [eXf fo_row "row" (eN 3), eN 1] [])))) (sRet (eC (.bl false)))
def F__law_refuses : List D → FR := runF [false, false, false] 1 m__law_refuses
abbrev st__law_belongs : Stmt := top 14
def m__law_belongs : Ctx → SR := sSeq (sIf (tOfE (eOp fEq [eN 0, eC (.str [35])])) (sRet (eMv 2)) (sNx)) (sSeq (sIf (tOfE (eOp fEq [eN 0, eC (.str [46])])) (sRet (eC (.bl true))) (sNx)) (sSeq (sIf (tOfE (eOp fEq [eN 0, eC (.str [58])])) (sRet (eMv 3)) (sNx)) (sSeq (sIf (tOfE (eOp fIn [eN 0, eC (.str [65, 66, 67, 68])])) (sRet (eAnd (eN 3) (eOp fLt [eSM fIndex (eC (.str [65, 66, 67, 68])) [eN 0], eN 1]))) (sNx)) (sRet (eOp fLt [eSM fIndex (eC (.str [97, 98, 99, 100])) [eN 0], eN 1])))))
def F__law_belongs : List D → FR := runF [false, false, false, false] 0 m__law_belongs
abbrev st__law_string : Stmt := top 15
def m__law_string : Ctx → SR := sRet (eSM fJoin (eC (.str [])) [eCmp [3] (itE (eC (.str [35, 46, 58, 65, 66, 67, 68, 97, 98, 99, 100]))) (.n 3) (tTru (eCall [false, false, false, false] F__law_belongs [eN 3, eN 0, eN 1, eN 2] [])) (eN 3)])
def F__law_string : List D → FR := runF [false, false, false] 1 m__law_string
abbrev st__law_alphabet : Stmt := top 16
def m__law_alphabet : Ctx → SR := sSeq (sSet 1 (eCall [true, false] F__law_take [eN 0, eC (.int 4)] [])) (sSeq (sIf (tOfE (eOp fEq [eN 1, eC (.int 0)])) (sRet (eCall [false, false, false] F__law_string [eOp fAdd [eC (.int 1), eCall [true, false] F__law_take [eN 0, eC (.int 4)] []], eOp fEq [eCall [true, false] F__law_take [eN 0, eC (.int 2)] [], eC (.int 1)], eOp fEq [eCall [true, false] F__law_take [eN 0, eC (.int 2)] [], eC (.int 1)]] [])) (sNx)) (sSeq (sIf (tOfE (eOp fEq [eN 1, eC (.int 1)])) (sRet (eOp fAdd [eIx (eC (.str [35, 46, 58, 65, 66, 67, 68, 97, 98, 99, 100])) (eCall [true, false] F__law_take [eN 0, eC (.int 11)] []), eIx (eC (.str [35, 46, 58, 65, 66, 67, 68, 97, 98, 99, 100])) (eCall [true, false] F__law_take [eN 0, eC (.int 11)] [])])) (sNx)) (sRet (eC (.str [35, 46, 58, 65, 66, 67, 68, 97, 98, 99, 100])))))
def F__law_alphabet : List D → FR := runF [true] 1 m__law_alphabet
abbrev st__law_size : Stmt := top 17
def m__law_size : Ctx → SR := sSeq (sSet 1 (eCall [true, false] F__law_take [eN 0, eC (.int 6)] [])) (sSeq (sIf (tOfE (eOp fEq [eN 1, eC (.int 0)])) (sRet (eCall [true, false] F__law_take [eN 0, eC (.int 4)] [])) (sNx)) (sSeq (sIf (tOfE (eOp fEq [eN 1, eC (.int 5)])) (sRet (eCall [true, false] F__law_take [eN 0, eC (.int 61)] [])) (sNx)) (sRet (eCall [true, false] F__law_take [eN 0, eC (.int 13)] []))))
def F__law_size : List D → FR := runF [true] 1 m__law_size
abbrev st__law_row : Stmt := top 19
def m__law_row : Ctx → SR := sSeq (sSet 2 (eCall [true] F__law_alphabet [eN 1] [])) (sSeq (sSet 3 (eCall [true] F__law_size [eN 1] [])) (sSeq (sSet 4 (eN 3)) (sSeq (sIf (tOfE (eOp fEq [eCall [true, false] F__law_take [eN 1, eC (.int 2)] [], eC (.int 1)])) (sSet 4 (eOp fAdd [eC (.int 1), eCall [true, false] F__law_take [eN 1, eC (.int 6)] []])) (sNx)) (sSeq (sSet 5 (eCall [false, false] F__law_box [eN 0, eC (.int 1)] [])) (sSeq (sSet 7 (eCmp [6] (itA fR1 [eOp fMin [eN 4, eN 3]]) (.n 6) (fun c => .ok true c) (eIx (eN 2) (eCall [true, false] F__law_take [eN 5, eOp fLen [eN 2]] [])))) (sSeq (sSet 8 (eSM fJoin (eC (.str [])) [eCmp [6] (itA fR1 [eN 3]) (.n 6) (fun c => .ok true c) (eIx (eN 7) (eOp (fII gMod) [eOp fInt1 [eN 6], eN 4]))])) (sSeq (sIf (tAndT (tOfE (eOp fGt [eN 3, eC (.int 0)])) (tOfE (eOp fEq [eCall [true, false] F__law_take [eN 1, eC (.int 3)] [], eC (.int 1)]))) (sSeq (sSet 6 (eCall [true, false] F__law_take [eN 1, eN 3] [])) (sSet 8 (eOp fAdd [eOp fAdd [eOp fSlR [eN 8, eN 6], eIx (eN 2) (eCall [true, false] F__law_take [eN 1, eOp fLen [eN 2]] [])], eOp fSlL [eN 8, eOp fAdd [eN 6, eC (.int 1)]]]))) (sNx)) (sRet (eMv 8)))))))))
def F__law_row : List D → FR := runF [false, true] 7 m__law_row
abbrev st__law_shift : Stmt := top 20
def m__law_shift : Ctx → SR := sSeq (sSet 2 (eCall [true, false] F__law_take [eN 0, eC (.int 5)] [])) (sSeq (sIf (tOfE (eOp fEq [eN 2, eC (.int 0)])) (sRet (eOp (fII gSub) [eCall [true, false] F__law_take [eN 0, eC (.int 7)] [], eC (.int 3)])) (sNx)) (sSeq (sIf (tOfE (eOp fEq [eN 2, eC (.int 1)])) (sRet (eOp (fII gSub) [eOp fAdd [eOp fMul [eN 1, eOp (fII gSub) [eCall [true, false] F__law_take [eN 0, eC (.int 9)] [], eC (.int 4)]], eCall [true, false] F__law_take [eN 0, eC (.int 3)] []], eC (.int 1)])) (sNx)) (sSeq (sIf (tOfE (eOp fEq [eN 2, eC (.int 2)])) (sRet (eOp (fII gSub) [eCall [true, false] F__law_take [eN 0, eC (.int 121)] [], eC (.int 60)])) (sNx)) (sSeq (sSet 3 (eCall [true, false] F__law_take [eN 0, eOp (fII gPow) [eC (.int 10), eC (.int 29)]] [])) (sSeq (sIf (tOfE (eOp fEq [eN 2, eC (.int 3)])) (sSet 3 (eOp fAdd [eOp fAdd [eOp fMul [eCall [true, false] F__law_take [eN 0, eOp (fII gPow) [eC (.int 10), eC (.int 9)]] [], eOp (fII gPow) [eC (.int 10), eC (.int 20)]], eOp fMul [eCall [true, false] F__law_take [eN 0, eOp (fII gPow) [eC (.int 10), eC (.int 9)]] [], eOp (fII gPow) [eC (.int 10), eC (.int 10)]]], eOp (fII gMod) [eOp fInt1 [eN 3], eOp (fII gPow) [eC (.int 10), eC (.int 10)]]])) (sNx)) (sSeq (sIf (tOfE (eOp fEq [eCall [true, false] F__law_take [eN 0, eC (.int 2)] [], eC (.int 1)])) (sRet (eOp (fII gSub) [eC (.int 0), eN 3])) (sNx)) (sRet (eMv 3))))))))
def F__law_shift : List D → FR := runF [true, false] 2 m__law_shift
abbrev st__law_turns : Stmt := top 23
def m__law_turns : Ctx → SR := sSeq (sSet 3 (eCall [false, false] F_turned [eN 0, eN 1] [])) (sSeq (sIf (tNotT (tTru (eCall [false, false] F__law_text [eN 3, eCall [false, false] F__law_moved [eN 0, eN 1] []] []))) (sRet (eC (.bl false))) (sNx)) (sSeq (sIf (tNotT (tTru (eCall [false, false] F__law_text [eCall [false, false] F_turned [eN 3, eN 2] [], eCall [false, false] F__law_moved [eN 0, eOp fAdd [eN 1, eN 2]] []] []))) (sRet (eC (.bl false))) (sNx)) (sSeq (sIf (tNotT (tTru (eCall [false, false] F__law_text [eCall [false, false] F_turned [eN 0, eOp fAdd [eN 1, eN 2]] [], eCall [false, false] F__law_moved [eN 0, eOp fAdd [eN 1, eN 2]] []] []))) (sRet (eC (.bl false))) (sNx)) (sSeq (sIf (tNotT (tTru (eCall [false, false] F__law_text [eCall [false, false] F_turned [eN 3, eOp (fII gSub) [eC (.int 0), eN 1]] [], eN 0] []))) (sRet (eC (.bl false))) (sNx)) (sSeq (sFor (itE (eFt (eLst [eOp fNeg [eC (.int 2)], eOp fNeg [eC (.int 1)], eC (.int 0), eC (.int 1), eC (.int 2)]))) (.n 4) (sIf (tNotT (tTru (eCall [false, false] F__law_text [eCall [false, false] F_turned [eN 0, eOp fMul [eN 4, eOp fLen [eN 0]]] [], eN 0] []))) (sRet (eC (.bl false))) (sNx))) (sRet (eC (.bl true))))))))
def F__law_turns : List D → FR := runF [false, false, false] 2 m__law_turns
abbrev st_law : Stmt := top 28
def m_law : Ctx → SR := sSeq (sSet 1 (eCall [false, false] F__law_box [eN 0, eC (.int 0)] [])) (sSeq (sSet 2 (eCall [false, true] F__law_row [eN 0, eN 1] [])) (sSeq (sSet 3 (eCall [true, false] F__law_shift [eCall [false, false] F__law_box [eN 0, eC (.int 2)] [], eOp fLen [eN 2]] [])) (sSeq (sSet 4 (eCall [true, false] F__law_shift [eCall [false, false] F__law_box [eN 0, eC (.int 3)] [], eOp fLen [eN 2]] [])) (sSeq (sIf (tOrT (tNotT (tTru (eCall [false, false, false] F__law_turns [eN 2, eN 3, eN 4] []))) (tNotT (tTru (eCall [false, false] F__law_mirrors [eN 2, eN 3] [])))) (sRet (eC (.bl false))) (sNx)) (sSeq (sIf (tNotT (tTru (eCall [false, false, false] F__law_least [eN 2, eN 3, eN 4] []))) (sRet (eC (.bl false))) (sNx)) (sSeq (sSet 5 (eCall [true, false] F__law_bent [eN 1, eN 2] [])) (sSeq (sFor (itE (eFt (eLst [eC (.int 0), eC (.int 1), eOp fLen [eN 5], eN 3, eN 4]))) (.n 6) (sIf (tNotT (tTru (eCall [false, false, false] F__law_refuses [eC (.int 2), eN 5, eN 6] []))) (sRet (eC (.bl false))) (sNx))) (sRet (eAnd (eCall [false, false, false] F__law_refuses [eC (.int 0), eN 5, eC (.int 0)] []) (eCall [false, false, false] F__law_refuses [eC (.int 1), eN 5, eC (.int 0)] []))))))))))
def F_law : List D → FR := runF [false] 6 m_law
theorem sc__law_take : FnScope ["box", "many", "drawn", "mixed"] ["box", "many"] (defScope st__law_take) := ⟨rfl, rfl, rfl, by decide +kernel, rfl, by decide +kernel, by decide +kernel⟩
theorem d__law_take {w : World} {K : PySem.W.Frag} {mg : Str → Option Value} {base : Heap} {f : Addr} (T : Fs K mg) (cdv : Value) (A : Around) (outer : List Env) (s : Shared) (H : Hp) (E : XK) (hr : Room 0 (A.deeper (envOfC "_law_take" (defScope st__law_take) s.heap.objs.size f cdv))) (Ac : Act) (oG : Ac.g.G = Gof K) (oK : Ac.g.K = K) :
    PSs (cxOf (L2.CX P w) P w K mg base ["box", "many", "drawn", "mixed"] "_law_take" (defScope st__law_take) f cdv A outer s H E) (defBody st__law_take) (tS Ac (fun cls d _ H => E cls d H) m__law_take) := by
  obtain ⟨⟨aK, aG, aE⟩, aB, aI⟩ := Ac
  have oK : K = aK := oK.symm
  have oG : aG = Gof K := oG
  subst oK
  subst oG
  have o : On (cxOf (L2.CX P w) P w K mg base ["box", "many", "drawn", "mixed"] "_law_take" (defScope st__law_take) f cdv A outer s H E) ⟨K, Gof K, aE⟩ := On.of (A := ⟨⟨K, Gof K, aE⟩, aB, aI⟩) rfl hr
  have nd := (sc__law_take).nd
  have tk : Takes (cxOf (L2.CX P w) P w K mg base ["box", "many", "drawn", "mixed"] "_law_take" (defScope st__law_take) f cdv A outer s H E) (fun cls d _ H => E cls d H) := takes_of rfl rfl rfl rfl
  exact PSs_cons (PS_if (PT_gt (PE_ix2 o.k (PE_n (pv 0)) (PE_int)) (PE_int)) (PSs_cons (PS_set (i := 2) nd rfl (Or.inl rfl) (PE_mod (PE_int' rfl T.b_int (PA_cons (PE_ix2 o.k (PE_n (pv 0)) (PE_int)) (PA_nil))) (PE_n (pv 1)))) (PSs_cons (PS_setI ms_setL set_list (PE_div (PE_ix2 o.k (PE_n (pv 0)) (PE_int)) (PE_n (pv 1))) (PE_n (pv 0)) (PE_int)) (PSs_one (PS_ret (PE_mv (pv 2)))))) (PSs_nil)) (PSs_cons (PS_setI ms_setL set_list (PE_add (PE_ix2 o.k (PE_n (pv 0)) (PE_int)) (PE_int)) (PE_n (pv 0)) (PE_int)) (PSs_cons (PS_set (i := 3) nd rfl (Or.inl rfl) (PE_mod (PE_int' rfl T.b_int (PA_cons (PE_add (PE_add (PE_mul (PE_ix2 o.k (PE_n (pv 0)) (PE_int)) (PE_int)) (PE_mul (PE_ix2 o.k (PE_n (pv 0)) (PE_int)) (PE_int))) (PE_int)) (PA_nil))) (PE_int))) (PSs_cons (PS_set (i := 3) nd rfl (Or.inl rfl) (PE_mod (PE_int' rfl T.b_int (PA_cons (PE_add (PE_mul (PE_n (pv 3)) (PE_n (pv 3))) (PE_mul (PE_ix2 o.k (PE_n (pv 0)) (PE_int)) (PE_int))) (PA_nil))) (PE_int))) (PSs_cons (PS_set (i := 3) nd rfl (Or.inl rfl) (PE_mod (PE_int' rfl T.b_int (PA_cons (PE_add (PE_add (PE_mul (PE_n (pv 3)) (PE_n (pv 3))) (PE_mul (PE_ix2 o.k (PE_n (pv 0)) (PE_int)) (PE_int))) (PE_int)) (PA_nil))) (PE_int))) (PSs_one (PS_ret (PE_mod (PE_int' rfl T.b_int (PA_cons (PE_div (PE_n (pv 3)) (PE_int)) (PA_nil))) (PE_n (pv 1)))))))))
theorem k__law_take {w : World} {K : PySem.W.Frag} {mg : Str → Option Value} {base : Heap} {f : Addr} {fd : FuncData} (T : Fs K mg) (F : FunD K "_law_take" "_law_take" (defArgs st__law_take) (defBody st__law_take) (defScope st__law_take) [] [] f fd) (gx : mg "_law_take" = some (.ref f)) : Cal P w K mg base (Gof K) "_law_take" 1 ["box", "many"] [true, false] 2 m__law_take :=
  ⟨f, fd, gx, fnD_ok F sc__law_take rfl rfl (fun cdv A outer s H E hr Ac oG oK => d__law_take T cdv A outer s H E hr Ac oG oK), F.kp, F.bindsN fun _ _ _ _ _ _ us hl => match us, hl with | [_, _], _ => rfl⟩
theorem sc__law_bent : FnScope ["box", "row", "strange", "sign", "short", "at"] ["box", "row"] (defScope st__law_bent) := ⟨rfl, rfl, rfl, by decide +kernel, rfl, by decide +kernel, by decide +kernel⟩
theorem d__law_bent {w : World} {K : PySem.W.Frag} {mg : Str → Option Value} {base : Heap} {f : Addr} (T : Fs K mg) (c__law_take : Cal P w K mg base (Gof K) "_law_take" 1 ["box", "many"] [true, false] 2 m__law_take) (cdv : Value) (A : Around) (outer : List Env) (s : Shared) (H : Hp) (E : XK) (hr : Room 1 (A.deeper (envOfC "_law_bent" (defScope st__law_bent) s.heap.objs.size f cdv))) (Ac : Act) (oG : Ac.g.G = Gof K) (oK : Ac.g.K = K) :
    PSs (cxOf (L2.CX P w) P w K mg base ["box", "row", "strange", "sign", "short", "at"] "_law_bent" (defScope st__law_bent) f cdv A outer s H E) (defBody st__law_bent) (tS Ac (fun cls d _ H => E cls d H) m__law_bent) := by
  obtain ⟨⟨aK, aG, aE⟩, aB, aI⟩ := Ac
  have oK : K = aK := oK.symm
  have oG : aG = Gof K := oG
  subst oK
  subst oG
  have o : On (cxOf (L2.CX P w) P w K mg base ["box", "row", "strange", "sign", "short", "at"] "_law_bent" (defScope st__law_bent) f cdv A outer s H E) ⟨K, Gof K, aE⟩ := On.of (A := ⟨⟨K, Gof K, aE⟩, aB, aI⟩) rfl hr
  have nd := (sc__law_bent).nd
  have tk : Takes (cxOf (L2.CX P w) P w K mg base ["box", "row", "strange", "sign", "short", "at"] "_law_bent" (defScope st__law_bent) f cdv A outer s H E) (fun cls d _ H => E cls d H) := takes_of rfl rfl rfl rfl
  exact PSs_cons (PS_set (i := 2) nd rfl (Or.inl rfl) (PE_str rfl)) (PSs_cons (PS_set (i := 2) nd rfl (Or.inl rfl) (PE_add (PE_n (pv 2)) (PE_str rfl))) (PSs_cons (PS_set (i := 3) nd rfl (Or.inl rfl) (PE_ix2 o.k (PE_n (pv 2)) (PE_cal c__law_take o rfl hr tk rfl (by decide) rfl (PA_cons (PE_n (pv 0)) (PA_cons (PE_len o rfl T.b_len (PA_cons (PE_n (pv 2)) (PA_nil))) (PA_nil)))))) (PSs_cons (PS_set (i := 4) nd rfl (Or.inl rfl) (PE_slR o.k (PE_n (pv 1)) (PE_int))) (PSs_cons (PS_set (i := 5) nd rfl (Or.inl rfl) (PE_cal c__law_take o rfl hr tk rfl (by decide) rfl (PA_cons (PE_n (pv 0)) (PA_cons (PE_add (PE_len o rfl T.b_len (PA_cons (PE_n (pv 4)) (PA_nil))) (PE_int)) (PA_nil))))) (PSs_one (PS_ret (PE_add (PE_add (PE_slR o.k (PE_n (pv 4)) (PE_n (pv 5))) (PE_n (pv 3))) (PE_slL o.k (PE_n (pv 4)) (PE_add (PE_n (pv 5)) (PE_cal c__law_take o rfl hr tk rfl (by decide) rfl (PA_cons (PE_n (pv 0)) (PA_cons (PE_int) (PA_nil)))))))))))))
theorem k__law_bent {w : World} {K : PySem.W.Frag} {mg : Str → Option Value} {base : Heap} {f : Addr} {fd : FuncData} (T : Fs K mg) (c__law_take : Cal P w K mg base (Gof K) "_law_take" 1 ["box", "many"] [true, false] 2 m__law_take) (F : FunD K "_law_bent" "_law_bent" (defArgs st__law_bent) (defBody st__law_bent) (defScope st__law_bent) [] [] f fd) (gx : mg "_law_bent" = some (.ref f)) : Cal P w K mg base (Gof K) "_law_bent" 2 ["box", "row"] [true, false] 4 m__law_bent :=
  ⟨f, fd, gx, fnD_ok F sc__law_bent rfl rfl (fun cdv A outer s H E hr Ac oG oK => d__law_bent T c__law_take cdv A outer s H E hr Ac oG oK), F.kp, F.bindsN fun _ _ _ _ _ _ us hl => match us, hl with | [_, _], _ => rfl⟩
theorem sc__law_cell : FnScope ["script", "at"] ["script", "at"] (defScope st__law_cell) := ⟨rfl, rfl, rfl, by decide +kernel, rfl, by decide +kernel, by decide +kernel⟩
theorem d__law_cell {w : World} {K : PySem.W.Frag} {mg : Str → Option Value} {base : Heap} {f : Addr} (T : Fs K mg) (cdv : Value) (A : Around) (outer : List Env) (s : Shared) (H : Hp) (E : XK) (hr : Room 0 (A.deeper (envOfC "_law_cell" (defScope st__law_cell) s.heap.objs.size f cdv))) (Ac : Act) (oG : Ac.g.G = Gof K) (oK : Ac.g.K = K) :
    PSs (cxOf (L2.CX P w) P w K mg base ["script", "at"] "_law_cell" (defScope st__law_cell) f cdv A outer s H E) (defBody st__law_cell) (tS Ac (fun cls d _ H => E cls d H) m__law_cell) := by
  obtain ⟨⟨aK, aG, aE⟩, aB, aI⟩ := Ac
  have oK : K = aK := oK.symm
  have oG : aG = Gof K := oG
  subst oK
  subst oG
  have o : On (cxOf (L2.CX P w) P w K mg base ["script", "at"] "_law_cell" (defScope st__law_cell) f cdv A outer s H E) ⟨K, Gof K, aE⟩ := On.of (A := ⟨⟨K, Gof K, aE⟩, aB, aI⟩) rfl hr
  have nd := (sc__law_cell).nd
  have tk : Takes (cxOf (L2.CX P w) P w K mg base ["script", "at"] "_law_cell" (defScope st__law_cell) f cdv A outer s H E) (fun cls d _ H => E cls d H) := takes_of rfl rfl rfl rfl
  exact PSs_cons (PS_if (PT_lt (PE_n (pv 1)) (PE_min o rfl rfl T.b_min (PA_cons (PE_int) (PA_cons (PE_len o rfl T.b_len (PA_cons (PE_n (pv 0)) (PA_nil))) (PA_nil))))) (PSs_one (PS_ret (PE_ix2 o.k (PE_n (pv 0)) (PE_n (pv 1))))) (PSs_nil)) (PSs_one (PS_ret (PE_add (PE_add (PE_mul (PE_mod (PE_int' rfl T.b_int (PA_cons (PE_sum o rfl rfl T.b_sum (PA_cons (PE_slR o.k (PE_n (pv 0)) (PE_int)) (PA_nil))) (PA_nil))) (PE_int)) (PE_int)) (PE_mul (PE_n (pv 1)) (PE_int))) (PE_int))))
theorem k__law_cell {w : World} {K : PySem.W.Frag} {mg : Str → Option Value} {base : Heap} {f : Addr} {fd : FuncData} (T : Fs K mg) (F : FunD K "_law_cell" "_law_cell" (defArgs st__law_cell) (defBody st__law_cell) (defScope st__law_cell) [] [] f fd) (gx : mg "_law_cell" = some (.ref f)) : Cal P w K mg base (Gof K) "_law_cell" 1 ["script", "at"] [false, false] 0 m__law_cell :=
  ⟨f, fd, gx, fnD_ok F sc__law_cell rfl rfl (fun cdv A outer s H E hr Ac oG oK => d__law_cell T cdv A outer s H E hr Ac oG oK), F.kp, F.bindsN fun _ _ _ _ _ _ us hl => match us, hl with | [_, _], _ => rfl⟩
theorem sc__law_box : FnScope ["script", "at", "cell", "seed"] ["script", "at"] (defScope st__law_box) := ⟨rfl, rfl, rfl, by decide +kernel, rfl, by decide +kernel, by decide +kernel⟩
theorem d__law_box {w : World} {K : PySem.W.Frag} {mg : Str → Option Value} {base : Heap} {f : Addr} (T : Fs K mg) (c__law_cell : Cal P w K mg base (Gof K) "_law_cell" 1 ["script", "at"] [false, false] 0 m__law_cell) (cdv : Value) (A : Around) (outer : List Env) (s : Shared) (H : Hp) (E : XK) (hr : Room 1 (A.deeper (envOfC "_law_box" (defScope st__law_box) s.heap.objs.size f cdv))) (Ac : Act) (oG : Ac.g.G = Gof K) (oK : Ac.g.K = K) :
    PSs (cxOf (L2.CX P w) P w K mg base ["script", "at", "cell", "seed"] "_law_box" (defScope st__law_box) f cdv A outer s H E) (defBody st__law_box) (tS Ac (fun cls d _ H => E cls d H) m__law_box) := by
  obtain ⟨⟨aK, aG, aE⟩, aB, aI⟩ := Ac
  have oK : K = aK := oK.symm
  have oG : aG = Gof K := oG
  subst oK
  subst oG
  have o : On (cxOf (L2.CX P w) P w K mg base ["script", "at", "cell", "seed"] "_law_box" (defScope st__law_box) f cdv A outer s H E) ⟨K, Gof K, aE⟩ := On.of (A := ⟨⟨K, Gof K, aE⟩, aB, aI⟩) rfl hr
  have nd := (sc__law_box).nd
  have tk : Takes (cxOf (L2.CX P w) P w K mg base ["script", "at", "cell", "seed"] "_law_box" (defScope st__law_box) f cdv A outer s H E) (fun cls d _ H => E cls d H) := takes_of rfl rfl rfl rfl
  exact PSs_cons (PS_set (i := 2) nd rfl (Or.inl rfl) (PE_cal c__law_cell o rfl hr tk rfl (by decide) rfl (PA_cons (PE_n (pv 0)) (PA_cons (PE_n (pv 1)) (PA_nil))))) (PSs_cons (PS_set (i := 3) nd rfl (Or.inl rfl) (PE_mod (PE_int' rfl T.b_int (PA_cons (PE_add (PE_n (pv 2)) (PE_mul (PE_n (pv 1)) (PE_int))) (PA_nil))) (PE_int))) (PSs_cons (PS_if (PT_ge (PE_n (pv 2)) (PE_pow (PE_int) (PE_int))) (PSs_one (PS_ret (PE_lst (PA_cons (PE_n (pv 2)) (PA_cons (PE_int) (PA_cons (PE_n (pv 3)) (PA_nil))))))) (PSs_nil)) (PSs_one (PS_ret (PE_lst (PA_cons (PE_int) (PA_cons (PE_int) (PA_cons (PE_n (pv 3)) (PA_nil)))))))))
theorem k__law_box {w : World} {K : PySem.W.Frag} {mg : Str → Option Value} {base : Heap} {f : Addr} {fd : FuncData} (T : Fs K mg) (c__law_cell : Cal P w K mg base (Gof K) "_law_cell" 1 ["script", "at"] [false, false] 0 m__law_cell) (F : FunD K "_law_box" "_law_box" (defArgs st__law_box) (defBody st__law_box) (defScope st__law_box) [] [] f fd) (gx : mg "_law_box" = some (.ref f)) : Cal P w K mg base (Gof K) "_law_box" 2 ["script", "at"] [false, false] 2 m__law_box :=
  ⟨f, fd, gx, fnD_ok F sc__law_box rfl rfl (fun cdv A outer s H E hr Ac oG oK => d__law_box T c__law_cell cdv A outer s H E hr Ac oG oK), F.kp, F.bindsN fun _ _ _ _ _ _ us hl => match us, hl with | [_, _], _ => rfl⟩
theorem sc__law_moved : FnScope ["row", "by", "size", "at"] ["row", "by"] (defScope st__law_moved) := ⟨rfl, rfl, rfl, by decide +kernel, rfl, by decide +kernel, by decide +kernel⟩
theorem d__law_moved {w : World} {K : PySem.W.Frag} {mg : Str → Option Value} {base : Heap} {f : Addr} (T : Fs K mg) (cdv : Value) (A : Around) (outer : List Env) (s : Shared) (H : Hp) (E : XK) (hr : Room 0 (A.deeper (envOfC "_law_moved" (defScope st__law_moved) s.heap.objs.size f cdv))) (Ac : Act) (oG : Ac.g.G = Gof K) (oK : Ac.g.K = K) :
    PSs (cxOf (L2.CX P w) P w K mg base ["row", "by", "size", "at"] "_law_moved" (defScope st__law_moved) f cdv A outer s H E) (defBody st__law_moved) (tS Ac (fun cls d _ H => E cls d H) m__law_moved) := by
  obtain ⟨⟨aK, aG, aE⟩, aB, aI⟩ := Ac
  have oK : K = aK := oK.symm
  have oG : aG = Gof K := oG
  subst oK
  subst oG
  have o : On (cxOf (L2.CX P w) P w K mg base ["row", "by", "size", "at"] "_law_moved" (defScope st__law_moved) f cdv A outer s H E) ⟨K, Gof K, aE⟩ := On.of (A := ⟨⟨K, Gof K, aE⟩, aB, aI⟩) rfl hr
  have nd := (sc__law_moved).nd
  have tk : Takes (cxOf (L2.CX P w) P w K mg base ["row", "by", "size", "at"] "_law_moved" (defScope st__law_moved) f cdv A outer s H E) (fun cls d _ H => E cls d H) := takes_of rfl rfl rfl rfl
  exact PSs_cons (PS_set (i := 2) nd rfl (Or.inr rfl) (PE_len o rfl T.b_len (PA_cons (PE_n (pv 0)) (PA_nil)))) (PSs_one (PS_ret (PE_join o (PE_str rfl) (PA_cons (PE_cmp_ (own := [("at", 3)]) rfl nd rfl (PI_r1 rfl T.b_range (PA_cons (PE_n (pv 2)) (PA_nil))) (blkOk_by (N := ["row", "by", "size", "at"]) (sc := defScope st__law_moved) (by decide +kernel)) (fun _ _ _ _ _ _ => PG_n (pg_name (i := 3) nd rfl (by first | exact Or.inl rfl | exact Or.inr rfl))) (fun _ _ _ _ _ => PTs_nil) (fun _ _ _ _ _ _ => PE_ix2 (On.mk o.k o.u).k (PE_n (pv 0)) (PE_mod (PE_int' rfl T.b_int (PA_cons (PE_add (PE_n (pv 3)) (PE_n (pv 1))) (PA_nil))) (PE_n (pv 2))))) (PA_nil)))))
theorem k__law_moved {w : World} {K : PySem.W.Frag} {mg : Str → Option Value} {base : Heap} {f : Addr} {fd : FuncData} (T : Fs K mg) (F : FunD K "_law_moved" "_law_moved" (defArgs st__law_moved) (defBody st__law_moved) (defScope st__law_moved) [] [] f fd) (gx : mg "_law_moved" = some (.ref f)) : Cal P w K mg base (Gof K) "_law_moved" 1 ["row", "by"] [false, false] 2 m__law_moved :=
  ⟨f, fd, gx, fnD_ok F sc__law_moved rfl rfl (fun cdv A outer s H E hr Ac oG oK => d__law_moved T cdv A outer s H E hr Ac oG oK), F.kp, F.bindsN fun _ _ _ _ _ _ us hl => match us, hl with | [_, _], _ => rfl⟩
theorem sc__law_text : FnScope ["told", "due"] ["told", "due"] (defScope st__law_text) := ⟨rfl, rfl, rfl, by decide +kernel, rfl, by decide +kernel, by decide +kernel⟩
theorem dw__law_text {w : World} {K : PySem.W.Frag} {mg : Str → Option Value} {base : Heap} {f : Addr} (T : Fs K mg) (cdv : Value) (A : Around) (outer : List Env) (s : Shared) (H : Hp) (E : XK) (p : Addr × Obj) (hr : L2H.RoomH 0 (A.deeper (envOfC "_law_text" (defScope st__law_text) s.heap.objs.size f cdv))) (Ac : Act) (oG : Ac.g.G = Gof K) (oK : Ac.g.K = K) :
    PSs (L2H.cxH (L2.CX P w) P w K mg base ["told", "due"] "_law_text" (defScope st__law_text) f cdv A outer s H E p) (defBody st__law_text) (tS Ac (fun cls d _ H => E cls d H) m__law_text) := by
  obtain ⟨⟨aK, aG, aE⟩, aB, aI⟩ := Ac
  have oK : K = aK := oK.symm
  have oG : aG = Gof K := oG
  subst oK
  subst oG
  have o : On (L2H.cxH (L2.CX P w) P w K mg base ["told", "due"] "_law_text" (defScope st__law_text) f cdv A outer s H E p) ⟨K, Gof K, aE⟩ := On.ofH (A := ⟨⟨K, Gof K, aE⟩, aB, aI⟩) rfl hr
  have nd := (sc__law_text).nd
  exact PSs_one (PS_ret (PE_and (PE_isi o rfl T.b_isinstance (PA_cons (PE_n (pv 0)) (PA_cons (PE_blt rfl T.b_str (by decide +kernel)) (PA_nil)))) (PE_one (PE_eq o (PE_n (pv 0)) (PE_n (pv 1))))))
theorem kw__law_text {w : World} {K : PySem.W.Frag} {mg : Str → Option Value} {base : Heap} {f : Addr} {fd : FuncData} (T : Fs K mg) (F : FunD K "_law_text" "_law_text" (defArgs st__law_text) (defBody st__law_text) (defScope st__law_text) [] [] f fd) (gx : mg "_law_text" = some (.ref f)) : CalW P w K mg base (Gof K) "_law_text" 1 ["told", "due"] [false, false] 0 m__law_text :=
  ⟨f, fd, gx, fnDW_ok F sc__law_text rfl rfl (fun cdv A outer s H E p hr Ac oG oK => dw__law_text T cdv A outer s H E p hr Ac oG oK), F.kp, F.bindsN fun _ _ _ _ _ _ us hl => match us, hl with | [_, _], _ => rfl⟩
theorem d__law_text {w : World} {K : PySem.W.Frag} {mg : Str → Option Value} {base : Heap} {f : Addr} (T : Fs K mg) (cdv : Value) (A : Around) (outer : List Env) (s : Shared) (H : Hp) (E : XK) (hr : Room 0 (A.deeper (envOfC "_law_text" (defScope st__law_text) s.heap.objs.size f cdv))) (Ac : Act) (oG : Ac.g.G = Gof K) (oK : Ac.g.K = K) :
    PSs (cxOf (L2.CX P w) P w K mg base ["told", "due"] "_law_text" (defScope st__law_text) f cdv A outer s H E) (defBody st__law_text) (tS Ac (fun cls d _ H => E cls d H) m__law_text) := by
  obtain ⟨⟨aK, aG, aE⟩, aB, aI⟩ := Ac
  have oK : K = aK := oK.symm
  have oG : aG = Gof K := oG
  subst oK
  subst oG
  have o : On (cxOf (L2.CX P w) P w K mg base ["told", "due"] "_law_text" (defScope st__law_text) f cdv A outer s H E) ⟨K, Gof K, aE⟩ := On.of (A := ⟨⟨K, Gof K, aE⟩, aB, aI⟩) rfl hr
  have nd := (sc__law_text).nd
  have tk : Takes (cxOf (L2.CX P w) P w K mg base ["told", "due"] "_law_text" (defScope st__law_text) f cdv A outer s H E) (fun cls d _ H => E cls d H) := takes_of rfl rfl rfl rfl
  exact PSs_one (PS_ret (PE_and (PE_isi o rfl T.b_isinstance (PA_cons (PE_n (pv 0)) (PA_cons (PE_blt rfl T.b_str (by decide +kernel)) (PA_nil)))) (PE_one (PE_eq o (PE_n (pv 0)) (PE_n (pv 1))))))
theorem k__law_text {w : World} {K : PySem.W.Frag} {mg : Str → Option Value} {base : Heap} {f : Addr} {fd : FuncData} (T : Fs K mg) (F : FunD K "_law_text" "_law_text" (defArgs st__law_text) (defBody st__law_text) (defScope st__law_text) [] [] f fd) (gx : mg "_law_text" = some (.ref f)) : Cal P w K mg base (Gof K) "_law_text" 1 ["told", "due"] [false, false] 0 m__law_text :=
  ⟨f, fd, gx, fnD_ok F sc__law_text rfl rfl (fun cdv A outer s H E hr Ac oG oK => d__law_text T cdv A outer s H E hr Ac oG oK), F.kp, F.bindsN fun _ _ _ _ _ _ us hl => match us, hl with | [_, _], _ => rfl⟩
theorem sc_check_row : FnScope ["row", "signs", "sign"] ["row", "signs"] (defScope st_check_row) := ⟨rfl, rfl, rfl, by decide +kernel, rfl, by decide +kernel, by decide +kernel⟩
theorem d_check_row {w : World} {K : PySem.W.Frag} {mg : Str → Option Value} {base : Heap} {f : Addr} (T : Fs K mg) (cdv : Value) (A : Around) (outer : List Env) (s : Shared) (H : Hp) (E : XK) (hr : Room 1 (A.deeper (envOfC "check_row" (defScope st_check_row) s.heap.objs.size f cdv))) (Ac : Act) (oG : Ac.g.G = Gof K) (oK : Ac.g.K = K) :
    PSs (cxOf (L2.CX P w) P w K mg base ["row", "signs", "sign"] "check_row" (defScope st_check_row) f cdv A outer s H E) (defBody st_check_row) (tS Ac (fun cls d _ H => E cls d H) m_check_row) := by
  obtain ⟨⟨aK, aG, aE⟩, aB, aI⟩ := Ac
  have oK : K = aK := oK.symm
  have oG : aG = Gof K := oG
  subst oK
  subst oG
  have o : On (cxOf (L2.CX P w) P w K mg base ["row", "signs", "sign"] "check_row" (defScope st_check_row) f cdv A outer s H E) ⟨K, Gof K, aE⟩ := On.of (A := ⟨⟨K, Gof K, aE⟩, aB, aI⟩) rfl hr
  have nd := (sc_check_row).nd
  have tk : Takes (cxOf (L2.CX P w) P w K mg base ["row", "signs", "sign"] "check_row" (defScope st_check_row) f cdv A outer s H E) (fun cls d _ H => E cls d H) := takes_of rfl rfl rfl rfl
  exact PSs_one (PS_for (passes_of rfl) rfl (PI_e o.k (PE_n (pv 0))) (fun J => PG_n (pg_name (i := 2) nd rfl (by first | exact Or.inl rfl | exact Or.inr rfl))) (fun J => PSs_one (PS_if (PT_nin o (PE_n (pv 2)) (PE_n (pv 1))) (PSs_one (PS_raise rfl T.x_InvalidRow rfl T.c_InvalidRow T.b_super hr tk ok_InvalidRow (PE_n (pv 0)) rfl)) (PSs_nil))))
theorem k_check_row {w : World} {K : PySem.W.Frag} {mg : Str → Option Value} {base : Heap} {f : Addr} {fd : FuncData} (T : Fs K mg) (F : FunD K "check_row" "check_row" (defArgs st_check_row) (defBody st_check_row) (defScope st_check_row) [] [] f fd) (gx : mg "check_row" = some (.ref f)) : Cal P w K mg base (Gof K) "check_row" 2 ["row", "signs"] [false, false] 1 m_check_row :=
  ⟨f, fd, gx, fnD_ok F sc_check_row rfl rfl (fun cdv A outer s H E hr Ac oG oK => d_check_row T cdv A outer s H E hr Ac oG oK), F.kp, F.bindsN fun _ _ _ _ _ _ us hl => match us, hl with | [_, _], _ => rfl⟩
theorem sc_least_turn : FnScope ["row", "start"] ["row"] (defScope st_least_turn) := ⟨rfl, rfl, rfl, by decide +kernel, rfl, by decide +kernel, by decide +kernel⟩
theorem d_least_turn {w : World} {K : PySem.W.Frag} {mg : Str → Option Value} {base : Heap} {f : Addr} (T : Fs K mg) (c_check_row : Cal P w K mg base (Gof K) "check_row" 2 ["row", "signs"] [false, false] 1 m_check_row) (cdv : Value) (A : Around) (outer : List Env) (s : Shared) (H : Hp) (E : XK) (hr : Room 2 (A.deeper (envOfC "least_turn" (defScope st_least_turn) s.heap.objs.size f cdv))) (Ac : Act) (oG : Ac.g.G = Gof K) (oK : Ac.g.K = K) :
    PSs (cxOf (L2.CX P w) P w K mg base ["row", "start"] "least_turn" (defScope st_least_turn) f cdv A outer s H E) (defBody st_least_turn) (tS Ac (fun cls d _ H => E cls d H) m_least_turn) := by
  obtain ⟨⟨aK, aG, aE⟩, aB, aI⟩ := Ac
  have oK : K = aK := oK.symm
  have oG : aG = Gof K := oG
  subst oK
  subst oG
  have o : On (cxOf (L2.CX P w) P w K mg base ["row", "start"] "least_turn" (defScope st_least_turn) f cdv A outer s H E) ⟨K, Gof K, aE⟩ := On.of (A := ⟨⟨K, Gof K, aE⟩, aB, aI⟩) rfl hr
  have nd := (sc_least_turn).nd
  have tk : Takes (cxOf (L2.CX P w) P w K mg base ["row", "start"] "least_turn" (defScope st_least_turn) f cdv A outer s H E) (fun cls d _ H => E cls d H) := takes_of rfl rfl rfl rfl
  exact PSs_cons (PS_expr (PE_cal c_check_row o rfl hr tk rfl (by decide) rfl (PA_cons (PE_n (pv 0)) (PA_cons (PE_gs T.s_SIGNS rfl rfl) (PA_nil))))) (PSs_cons (PS_if (PT_not (PT_tru o.k (PE_n (pv 0)))) (PSs_one (PS_ret (PE_mv (pv 0)))) (PSs_nil)) (PSs_one (PS_ret (PE_min o rfl rfl T.b_min (PA_cons (PE_cmp_ (own := [("start", 1)]) rfl nd rfl (PI_r1 rfl T.b_range (PA_cons (PE_len o rfl T.b_len (PA_cons (PE_n (pv 0)) (PA_nil))) (PA_nil))) (blkOk_by (N := ["row", "start"]) (sc := defScope st_least_turn) (by decide +kernel)) (fun _ _ _ _ _ _ => PG_n (pg_name (i := 1) nd rfl (by first | exact Or.inl rfl | exact Or.inr rfl))) (fun _ _ _ _ _ => PTs_nil) (fun _ _ _ _ _ _ => PE_add (PE_slL (On.mk o.k o.u).k (PE_n (pv 0)) (PE_n (pv 1))) (PE_slR (On.mk o.k o.u).k (PE_n (pv 0)) (PE_n (pv 1))))) (PA_nil))))))
theorem k_least_turn {w : World} {K : PySem.W.Frag} {mg : Str → Option Value} {base : Heap} {f : Addr} {fd : FuncData} (T : Fs K mg) (c_check_row : Cal P w K mg base (Gof K) "check_row" 2 ["row", "signs"] [false, false] 1 m_check_row) (F : FunD K "least_turn" "least_turn" (defArgs st_least_turn) (defBody st_least_turn) (defScope st_least_turn) [] [] f fd) (gx : mg "least_turn" = some (.ref f)) : Cal P w K mg base (Gof K) "least_turn" 3 ["row"] [false] 1 m_least_turn :=
  ⟨f, fd, gx, fnD_ok F sc_least_turn rfl rfl (fun cdv A outer s H E hr Ac oG oK => d_least_turn T c_check_row cdv A outer s H E hr Ac oG oK), F.kp, F.bindsN fun _ _ _ _ _ _ us hl => match us, hl with | [_], _ => rfl⟩
theorem sc__law_least : FnScope ["row", "first", "second", "best", "by", "one"] ["row", "first", "second"] (defScope st__law_least) := ⟨rfl, rfl, rfl, by decide +kernel, rfl, by decide +kernel, by decide +kernel⟩
theorem d__law_least {w : World} {K : PySem.W.Frag} {mg : Str → Option Value} {base : Heap} {f : Addr} (T : Fs K mg) (c__law_moved : Cal P w K mg base (Gof K) "_law_moved" 1 ["row", "by"] [false, false] 2 m__law_moved) (c__law_text : Cal P w K mg base (Gof K) "_law_text" 1 ["told", "due"] [false, false] 0 m__law_text) (cw__law_text : CalW P w K mg base (Gof K) "_law_text" 1 ["told", "due"] [false, false] 0 m__law_text) (c_least_turn : Cal P w K mg base (Gof K) "least_turn" 3 ["row"] [false] 1 m_least_turn) (cdv : Value) (A : Around) (outer : List Env) (s : Shared) (H : Hp) (E : XK) (hr : Room 3 (A.deeper (envOfC "_law_least" (defScope st__law_least) s.heap.objs.size f cdv))) (Ac : Act) (oG : Ac.g.G = Gof K) (oK : Ac.g.K = K) :
    PSs (cxOf (L2.CX P w) P w K mg base ["row", "first", "second", "best", "by", "one"] "_law_least" (defScope st__law_least) f cdv A outer s H E) (defBody st__law_least) (tS Ac (fun cls d _ H => E cls d H) m__law_least) := by
  obtain ⟨⟨aK, aG, aE⟩, aB, aI⟩ := Ac
  have oK : K = aK := oK.symm
  have oG : aG = Gof K := oG
  subst oK
  subst oG
  have o : On (cxOf (L2.CX P w) P w K mg base ["row", "first", "second", "best", "by", "one"] "_law_least" (defScope st__law_least) f cdv A outer s H E) ⟨K, Gof K, aE⟩ := On.of (A := ⟨⟨K, Gof K, aE⟩, aB, aI⟩) rfl hr
  have nd := (sc__law_least).nd
  have tk : Takes (cxOf (L2.CX P w) P w K mg base ["row", "first", "second", "best", "by", "one"] "_law_least" (defScope st__law_least) f cdv A outer s H E) (fun cls d _ H => E cls d H) := takes_of rfl rfl rfl rfl
  exact PSs_cons (PS_set (i := 3) nd rfl (Or.inl rfl) (PE_n (pv 0))) (PSs_cons (PS_for (passes_of rfl) rfl (PI_r1 rfl T.b_range (PA_cons (PE_len o rfl T.b_len (PA_cons (PE_n (pv 0)) (PA_nil))) (PA_nil))) (fun J => PG_n (pg_name (i := 4) nd rfl (by first | exact Or.inl rfl | exact Or.inr rfl))) (fun J => PSs_cons (PS_set (i := 5) nd rfl (Or.inl rfl) (PE_cal c__law_moved o rfl hr tk rfl (by decide) rfl (PA_cons (PE_n (pv 0)) (PA_cons (PE_n (pv 4)) (PA_nil))))) (PSs_one (PS_if (PT_lt (PE_n (pv 5)) (PE_n (pv 3))) (PSs_one (PS_set (i := 3) nd rfl (Or.inl rfl) (PE_n (pv 5)))) (PSs_nil))))) (PSs_cons (PS_for (passes_of rfl) rfl (PI_e o.k (PE_ft (PE_lst (PA_cons (PE_int) (PA_cons (PE_int) (PA_cons (PE_n (pv 1)) (PA_cons (PE_n (pv 2)) (PA_cons (PE_add (PE_n (pv 1)) (PE_n (pv 2))) (PA_nil))))))))) (fun J => PG_n (pg_name (i := 4) nd rfl (by first | exact Or.inl rfl | exact Or.inr rfl))) (fun J => PSs_one (PS_if (PT_not (PT_tru o.k (PE_cal c__law_text o rfl hr tk rfl (by decide) rfl (PA_cons (PE_cal c_least_turn o rfl hr tk rfl (by decide) rfl (PA_cons (PE_cal c__law_moved o rfl hr tk rfl (by decide) rfl (PA_cons (PE_n (pv 0)) (PA_cons (PE_n (pv 4)) (PA_nil)))) (PA_nil))) (PA_cons (PE_n (pv 3)) (PA_nil)))))) (PSs_one (PS_ret (PE_bl))) (PSs_nil)))) (PSs_one (PS_ret (PE_bl)))))
theorem k__law_least {w : World} {K : PySem.W.Frag} {mg : Str → Option Value} {base : Heap} {f : Addr} {fd : FuncData} (T : Fs K mg) (c__law_moved : Cal P w K mg base (Gof K) "_law_moved" 1 ["row", "by"] [false, false] 2 m__law_moved) (c__law_text : Cal P w K mg base (Gof K) "_law_text" 1 ["told", "due"] [false, false] 0 m__law_text) (cw__law_text : CalW P w K mg base (Gof K) "_law_text" 1 ["told", "due"] [false, false] 0 m__law_text) (c_least_turn : Cal P w K mg base (Gof K) "least_turn" 3 ["row"] [false] 1 m_least_turn) (F : FunD K "_law_least" "_law_least" (defArgs st__law_least) (defBody st__law_least) (defScope st__law_least) [] [] f fd) (gx : mg "_law_least" = some (.ref f)) : Cal P w K mg base (Gof K) "_law_least" 4 ["row", "first", "second"] [false, false, false] 3 m__law_least :=
  ⟨f, fd, gx, fnD_ok F sc__law_least rfl rfl (fun cdv A outer s H E hr Ac oG oK => d__law_least T c__law_moved c__law_text cw__law_text c_least_turn cdv A outer s H E hr Ac oG oK), F.kp, F.bindsN fun _ _ _ _ _ _ us hl => match us, hl with | [_, _, _], _ => rfl⟩
theorem sc__law_image : FnScope ["row", "at"] ["row"] (defScope st__law_image) := ⟨rfl, rfl, rfl, by decide +kernel, rfl, by decide +kernel, by decide +kernel⟩
theorem d__law_image {w : World} {K : PySem.W.Frag} {mg : Str → Option Value} {base : Heap} {f : Addr} (T : Fs K mg) (cdv : Value) (A : Around) (outer : List Env) (s : Shared) (H : Hp) (E : XK) (hr : Room 0 (A.deeper (envOfC "_law_image" (defScope st__law_image) s.heap.objs.size f cdv))) (Ac : Act) (oG : Ac.g.G = Gof K) (oK : Ac.g.K = K) :
    PSs (cxOf (L2.CX P w) P w K mg base ["row", "at"] "_law_image" (defScope st__law_image) f cdv A outer s H E) (defBody st__law_image) (tS Ac (fun cls d _ H => E cls d H) m__law_image) := by
  obtain ⟨⟨aK, aG, aE⟩, aB, aI⟩ := Ac
  have oK : K = aK := oK.symm
  have oG : aG = Gof K := oG
  subst oK
  subst oG
  have o : On (cxOf (L2.CX P w) P w K mg base ["row", "at"] "_law_image" (defScope st__law_image) f cdv A outer s H E) ⟨K, Gof K, aE⟩ := On.of (A := ⟨⟨K, Gof K, aE⟩, aB, aI⟩) rfl hr
  have nd := (sc__law_image).nd
  have tk : Takes (cxOf (L2.CX P w) P w K mg base ["row", "at"] "_law_image" (defScope st__law_image) f cdv A outer s H E) (fun cls d _ H => E cls d H) := takes_of rfl rfl rfl rfl
  exact PSs_one (PS_ret (PE_join o (PE_str rfl) (PA_cons (PE_cmp_ (own := [("at", 1)]) rfl nd rfl (PI_r1 rfl T.b_range (PA_cons (PE_len o rfl T.b_len (PA_cons (PE_n (pv 0)) (PA_nil))) (PA_nil))) (blkOk_by (N := ["row", "at"]) (sc := defScope st__law_image) (by decide +kernel)) (fun _ _ _ _ _ _ => PG_n (pg_name (i := 1) nd rfl (by first | exact Or.inl rfl | exact Or.inr rfl))) (fun _ _ _ _ _ => PTs_nil) (fun _ _ _ _ _ _ => PE_ix2 (On.mk o.k o.u).k (PE_n (pv 0)) (PE_sub (PE_sub (PE_len (On.mk o.k o.u) rfl T.b_len (PA_cons (PE_n (pv 0)) (PA_nil))) (PE_int)) (PE_n (pv 1))))) (PA_nil))))
theorem k__law_image {w : World} {K : PySem.W.Frag} {mg : Str → Option Value} {base : Heap} {f : Addr} {fd : FuncData} (T : Fs K mg) (F : FunD K "_law_image" "_law_image" (defArgs st__law_image) (defBody st__law_image) (defScope st__law_image) [] [] f fd) (gx : mg "_law_image" = some (.ref f)) : Cal P w K mg base (Gof K) "_law_image" 1 ["row"] [false] 1 m__law_image :=
  ⟨f, fd, gx, fnD_ok F sc__law_image rfl rfl (fun cdv A outer s H E hr Ac oG oK => d__law_image T cdv A outer s H E hr Ac oG oK), F.kp, F.bindsN fun _ _ _ _ _ _ us hl => match us, hl with | [_], _ => rfl⟩
theorem sc_mirror : FnScope ["row"] ["row"] (defScope st_mirror) := ⟨rfl, rfl, rfl, by decide +kernel, rfl, by decide +kernel, by decide +kernel⟩
theorem d_mirror {w : World} {K : PySem.W.Frag} {mg : Str → Option Value} {base : Heap} {f : Addr} (T : Fs K mg) (c_check_row : Cal P w K mg base (Gof K) "check_row" 2 ["row", "signs"] [false, false] 1 m_check_row) (cdv : Value) (A : Around) (outer : List Env) (s : Shared) (H : Hp) (E : XK) (hr : Room 2 (A.deeper (envOfC "mirror" (defScope st_mirror) s.heap.objs.size f cdv))) (Ac : Act) (oG : Ac.g.G = Gof K) (oK : Ac.g.K = K) :
    PSs (cxOf (L2.CX P w) P w K mg base ["row"] "mirror" (defScope st_mirror) f cdv A outer s H E) (defBody st_mirror) (tS Ac (fun cls d _ H => E cls d H) m_mirror) := by
  obtain ⟨⟨aK, aG, aE⟩, aB, aI⟩ := Ac
  have oK : K = aK := oK.symm
  have oG : aG = Gof K := oG
  subst oK
  subst oG
  have o : On (cxOf (L2.CX P w) P w K mg base ["row"] "mirror" (defScope st_mirror) f cdv A outer s H E) ⟨K, Gof K, aE⟩ := On.of (A := ⟨⟨K, Gof K, aE⟩, aB, aI⟩) rfl hr
  have nd := (sc_mirror).nd
  have tk : Takes (cxOf (L2.CX P w) P w K mg base ["row"] "mirror" (defScope st_mirror) f cdv A outer s H E) (fun cls d _ H => E cls d H) := takes_of rfl rfl rfl rfl
  exact PSs_cons (PS_expr (PE_cal c_check_row o rfl hr tk rfl (by decide) rfl (PA_cons (PE_n (pv 0)) (PA_cons (PE_gs T.s_SIGNS rfl rfl) (PA_nil))))) (PSs_one (PS_ret (PE_rev (PE_n (pv 0)))))
theorem k_mirror {w : World} {K : PySem.W.Frag} {mg : Str → Option Value} {base : Heap} {f : Addr} {fd : FuncData} (T : Fs K mg) (c_check_row : Cal P w K mg base (Gof K) "check_row" 2 ["row", "signs"] [false, false] 1 m_check_row) (F : FunD K "mirror" "mirror" (defArgs st_mirror) (defBody st_mirror) (defScope st_mirror) [] [] f fd) (gx : mg "mirror" = some (.ref f)) : Cal P w K mg base (Gof K) "mirror" 3 ["row"] [false] 0 m_mirror :=
  ⟨f, fd, gx, fnD_ok F sc_mirror rfl rfl (fun cdv A outer s H E hr Ac oG oK => d_mirror T c_check_row cdv A outer s H E hr Ac oG oK), F.kp, F.bindsN fun _ _ _ _ _ _ us hl => match us, hl with | [_], _ => rfl⟩
theorem sc_turned : FnScope ["row", "by", "start"] ["row", "by"] (defScope st_turned) := ⟨rfl, rfl, rfl, by decide +kernel, rfl, by decide +kernel, by decide +kernel⟩
theorem d_turned {w : World} {K : PySem.W.Frag} {mg : Str → Option Value} {base : Heap} {f : Addr} (T : Fs K mg) (c_check_row : Cal P w K mg base (Gof K) "check_row" 2 ["row", "signs"] [false, false] 1 m_check_row) (cdv : Value) (A : Around) (outer : List Env) (s : Shared) (H : Hp) (E : XK) (hr : Room 2 (A.deeper (envOfC "turned" (defScope st_turned) s.heap.objs.size f cdv))) (Ac : Act) (oG : Ac.g.G = Gof K) (oK : Ac.g.K = K) :
    PSs (cxOf (L2.CX P w) P w K mg base ["row", "by", "start"] "turned" (defScope st_turned) f cdv A outer s H E) (defBody st_turned) (tS Ac (fun cls d _ H => E cls d H) m_turned) := by
  obtain ⟨⟨aK, aG, aE⟩, aB, aI⟩ := Ac
  have oK : K = aK := oK.symm
  have oG : aG = Gof K := oG
  subst oK
  subst oG
  have o : On (cxOf (L2.CX P w) P w K mg base ["row", "by", "start"] "turned" (defScope st_turned) f cdv A outer s H E) ⟨K, Gof K, aE⟩ := On.of (A := ⟨⟨K, Gof K, aE⟩, aB, aI⟩) rfl hr
  have nd := (sc_turned).nd
  have tk : Takes (cxOf (L2.CX P w) P w K mg base ["row", "by", "start"] "turned" (defScope st_turned) f cdv A outer s H E) (fun cls d _ H => E cls d H) := takes_of rfl rfl rfl rfl
  exact PSs_cons (PS_expr (PE_cal c_check_row o rfl hr tk rfl (by decide) rfl (PA_cons (PE_n (pv 0)) (PA_cons (PE_gs T.s_SIGNS rfl rfl) (PA_nil))))) (PSs_cons (PS_if (PT_not (PT_tru o.k (PE_n (pv 0)))) (PSs_one (PS_ret (PE_mv (pv 0)))) (PSs_nil)) (PSs_cons (PS_set (i := 2) nd rfl (Or.inl rfl) (PE_mod (PE_n (pv 1)) (PE_len o rfl T.b_len (PA_cons (PE_n (pv 0)) (PA_nil))))) (PSs_one (PS_ret (PE_add (PE_slL o.k (PE_n (pv 0)) (PE_n (pv 2))) (PE_slR o.k (PE_n (pv 0)) (PE_n (pv 2))))))))
theorem k_turned {w : World} {K : PySem.W.Frag} {mg : Str → Option Value} {base : Heap} {f : Addr} {fd : FuncData} (T : Fs K mg) (c_check_row : Cal P w K mg base (Gof K) "check_row" 2 ["row", "signs"] [false, false] 1 m_check_row) (F : FunD K "turned" "turned" (defArgs st_turned) (defBody st_turned) (defScope st_turned) [] [] f fd) (gx : mg "turned" = some (.ref f)) : Cal P w K mg base (Gof K) "turned" 3 ["row", "by"] [false, false] 1 m_turned :=
  ⟨f, fd, gx, fnD_ok F sc_turned rfl rfl (fun cdv A outer s H E hr Ac oG oK => d_turned T c_check_row cdv A outer s H E hr Ac oG oK), F.kp, F.bindsN fun _ _ _ _ _ _ us hl => match us, hl with | [_, _], _ => rfl⟩
theorem sc__law_mirrors : FnScope ["row", "first", "told"] ["row", "first"] (defScope st__law_mirrors) := ⟨rfl, rfl, rfl, by decide +kernel, rfl, by decide +kernel, by decide +kernel⟩
theorem d__law_mirrors {w : World} {K : PySem.W.Frag} {mg : Str → Option Value} {base : Heap} {f : Addr} (T : Fs K mg) (c__law_image : Cal P w K mg base (Gof K) "_law_image" 1 ["row"] [false] 1 m__law_image) (c__law_moved : Cal P w K mg base (Gof K) "_law_moved" 1 ["row", "by"] [false, false] 2 m__law_moved) (c__law_text : Cal P w K mg base (Gof K) "_law_text" 1 ["told", "due"] [false, false] 0 m__law_text) (cw__law_text : CalW P w K mg base (Gof K) "_law_text" 1 ["told", "due"] [false, false] 0 m__law_text) (c_mirror : Cal P w K mg base (Gof K) "mirror" 3 ["row"] [false] 0 m_mirror) (c_turned : Cal P w K mg base (Gof K) "turned" 3 ["row", "by"] [false, false] 1 m_turned) (cdv : Value) (A : Around) (outer : List Env) (s : Shared) (H : Hp) (E : XK) (hr : Room 3 (A.deeper (envOfC "_law_mirrors" (defScope st__law_mirrors) s.heap.objs.size f cdv))) (Ac : Act) (oG : Ac.g.G = Gof K) (oK : Ac.g.K = K) :
    PSs (cxOf (L2.CX P w) P w K mg base ["row", "first", "told"] "_law_mirrors" (defScope st__law_mirrors) f cdv A outer s H E) (defBody st__law_mirrors) (tS Ac (fun cls d _ H => E cls d H) m__law_mirrors) := by
  obtain ⟨⟨aK, aG, aE⟩, aB, aI⟩ := Ac
  have oK : K = aK := oK.symm
  have oG : aG = Gof K := oG
  subst oK
  subst oG
  have o : On (cxOf (L2.CX P w) P w K mg base ["row", "first", "told"] "_law_mirrors" (defScope st__law_mirrors) f cdv A outer s H E) ⟨K, Gof K, aE⟩ := On.of (A := ⟨⟨K, Gof K, aE⟩, aB, aI⟩) rfl hr
  have nd := (sc__law_mirrors).nd
  have tk : Takes (cxOf (L2.CX P w) P w K mg base ["row", "first", "told"] "_law_mirrors" (defScope st__law_mirrors) f cdv A outer s H E) (fun cls d _ H => E cls d H) := takes_of rfl rfl rfl rfl
  exact PSs_cons (PS_set (i := 2) nd rfl (Or.inl rfl) (PE_cal c_mirror o rfl hr tk rfl (by decide) rfl (PA_cons (PE_n (pv 0)) (PA_nil)))) (PSs_cons (PS_if (PW.pt (PW_or (PT_not (PT_tru o.k (PE_cal c__law_text o rfl hr tk rfl (by decide) rfl (PA_cons (PE_n (pv 2)) (PA_cons (PE_cal c__law_image o rfl hr tk rfl (by decide) rfl (PA_cons (PE_n (pv 0)) (PA_nil))) (PA_nil)))))) (PW_one (PT_not (PT_tru o.k (PE_cal c__law_text o rfl hr tk rfl (by decide) rfl (PA_cons (PE_cal c_mirror o rfl hr tk rfl (by decide) rfl (PA_cons (PE_n (pv 2)) (PA_nil))) (PA_cons (PE_n (pv 0)) (PA_nil))))))))) (PSs_one (PS_ret (PE_bl))) (PSs_nil)) (PSs_cons (PS_if (PT_not (PT_tru o.k (PE_cal c__law_text o rfl hr tk rfl (by decide) rfl (PA_cons (PE_cal c_mirror o rfl hr tk rfl (by decide) rfl (PA_cons (PE_cal c_turned o rfl hr tk rfl (by decide) rfl (PA_cons (PE_n (pv 0)) (PA_cons (PE_n (pv 1)) (PA_nil)))) (PA_nil))) (PA_cons (PE_cal c__law_moved o rfl hr tk rfl (by decide) rfl (PA_cons (PE_cal c__law_image o rfl hr tk rfl (by decide) rfl (PA_cons (PE_n (pv 0)) (PA_nil))) (PA_cons (PE_sub (PE_int) (PE_n (pv 1))) (PA_nil)))) (PA_nil)))))) (PSs_one (PS_ret (PE_bl))) (PSs_nil)) (PSs_one (PS_ret (PE_cal c__law_text o rfl hr tk rfl (by decide) rfl (PA_cons (PE_cal c_turned o rfl hr tk rfl (by decide) rfl (PA_cons (PE_n (pv 2)) (PA_cons (PE_sub (PE_int) (PE_n (pv 1))) (PA_nil)))) (PA_cons (PE_cal c__law_image o rfl hr tk rfl (by decide) rfl (PA_cons (PE_cal c__law_moved o rfl hr tk rfl (by decide) rfl (PA_cons (PE_n (pv 0)) (PA_cons (PE_n (pv 1)) (PA_nil)))) (PA_nil))) (PA_nil))))))))
theorem k__law_mirrors {w : World} {K : PySem.W.Frag} {mg : Str → Option Value} {base : Heap} {f : Addr} {fd : FuncData} (T : Fs K mg) (c__law_image : Cal P w K mg base (Gof K) "_law_image" 1 ["row"] [false] 1 m__law_image) (c__law_moved : Cal P w K mg base (Gof K) "_law_moved" 1 ["row", "by"] [false, false] 2 m__law_moved) (c__law_text : Cal P w K mg base (Gof K) "_law_text" 1 ["told", "due"] [false, false] 0 m__law_text) (cw__law_text : CalW P w K mg base (Gof K) "_law_text" 1 ["told", "due"] [false, false] 0 m__law_text) (c_mirror : Cal P w K mg base (Gof K) "mirror" 3 ["row"] [false] 0 m_mirror) (c_turned : Cal P w K mg base (Gof K) "turned" 3 ["row", "by"] [false, false] 1 m_turned) (F : FunD K "_law_mirrors" "_law_mirrors" (defArgs st__law_mirrors) (defBody st__law_mirrors) (defScope st__law_mirrors) [] [] f fd) (gx : mg "_law_mirrors" = some (.ref f)) : Cal P w K mg base (Gof K) "_law_mirrors" 4 ["row", "first"] [false, false] 1 m__law_mirrors :=
  ⟨f, fd, gx, fnD_ok F sc__law_mirrors rfl rfl (fun cdv A outer s H E hr Ac oG oK => d__law_mirrors T c__law_image c__law_moved c__law_text cw__law_text c_mirror c_turned cdv A outer s H E hr Ac oG oK), F.kp, F.bindsN fun _ _ _ _ _ _ us hl => match us, hl with | [_, _], _ => rfl⟩
theorem sc__law_call : FnScope ["which", "row", "by"] ["which", "row", "by"] (defScope st__law_call) := ⟨rfl, rfl, rfl, by decide +kernel, rfl, by decide +kernel, by decide +kernel⟩
theorem d__law_call {w : World} {K : PySem.W.Frag} {mg : Str → Option Value} {base : Heap} {f : Addr} (T : Fs K mg) (c_least_turn : Cal P w K mg base (Gof K) "least_turn" 3 ["row"] [false] 1 m_least_turn) (c_mirror : Cal P w K mg base (Gof K) "mirror" 3 ["row"] [false] 0 m_mirror) (c_turned : Cal P w K mg base (Gof K) "turned" 3 ["row", "by"] [false, false] 1 m_turned) (cdv : Value) (A : Around) (outer : List Env) (s : Shared) (H : Hp) (E : XK) (hr : Room 3 (A.deeper (envOfC "_law_call" (defScope st__law_call) s.heap.objs.size f cdv))) (Ac : Act) (oG : Ac.g.G = Gof K) (oK : Ac.g.K = K) :
    PSs (cxOf (L2.CX P w) P w K mg base ["which", "row", "by"] "_law_call" (defScope st__law_call) f cdv A outer s H E) (defBody st__law_call) (tS Ac (fun cls d _ H => E cls d H) m__law_call) := by
  obtain ⟨⟨aK, aG, aE⟩, aB, aI⟩ := Ac
  have oK : K = aK := oK.symm
  have oG : aG = Gof K := oG
  subst oK
  subst oG
  have o : On (cxOf (L2.CX P w) P w K mg base ["which", "row", "by"] "_law_call" (defScope st__law_call) f cdv A outer s H E) ⟨K, Gof K, aE⟩ := On.of (A := ⟨⟨K, Gof K, aE⟩, aB, aI⟩) rfl hr
  have nd := (sc__law_call).nd
  have tk : Takes (cxOf (L2.CX P w) P w K mg base ["which", "row", "by"] "_law_call" (defScope st__law_call) f cdv A outer s H E) (fun cls d _ H => E cls d H) := takes_of rfl rfl rfl rfl
  exact PSs_cons (PS_if (PT_eq o (PE_n (pv 0)) (PE_int)) (PSs_one (PS_ret (PE_cal c_mirror o rfl hr tk rfl (by decide) rfl (PA_cons (PE_n (pv 1)) (PA_nil))))) (PSs_nil)) (PSs_cons (PS_if (PT_eq o (PE_n (pv 0)) (PE_int)) (PSs_one (PS_ret (PE_cal c_least_turn o rfl hr tk rfl (by decide) rfl (PA_cons (PE_n (pv 1)) (PA_nil))))) (PSs_nil)) (PSs_one (PS_ret (PE_cal c_turned o rfl hr tk rfl (by decide) rfl (PA_cons (PE_n (pv 1)) (PA_cons (PE_n (pv 2)) (PA_nil)))))))
theorem k__law_call {w : World} {K : PySem.W.Frag} {mg : Str → Option Value} {base : Heap} {f : Addr} {fd : FuncData} (T : Fs K mg) (c_least_turn : Cal P w K mg base (Gof K) "least_turn" 3 ["row"] [false] 1 m_least_turn) (c_mirror : Cal P w K mg base (Gof K) "mirror" 3 ["row"] [false] 0 m_mirror) (c_turned : Cal P w K mg base (Gof K) "turned" 3 ["row", "by"] [false, false] 1 m_turned) (F : FunD K "_law_call" "_law_call" (defArgs st__law_call) (defBody st__law_call) (defScope st__law_call) [] [] f fd) (gx : mg "_law_call" = some (.ref f)) : Cal P w K mg base (Gof K) "_law_call" 4 ["which", "row", "by"] [false, false, false] 0 m__law_call :=
  ⟨f, fd, gx, fnD_ok F sc__law_call rfl rfl (fun cdv A outer s H E hr Ac oG oK => d__law_call T c_least_turn c_mirror c_turned cdv A outer s H E hr Ac oG oK), F.kp, F.bindsN fun _ _ _ _ _ _ us hl => match us, hl with | [_, _, _], _ => rfl⟩
theorem sc__law_refuses : FnScope ["which", "row", "by", "raised"] ["which", "row", "by"] (defScope st__law_refuses) := ⟨rfl, rfl, rfl, by decide +kernel, rfl, by decide +kernel, by decide +kernel⟩
theorem d__law_refuses {w : World} {K : PySem.W.Frag} {mg : Str → Option Value} {base : Heap} {f : Addr} (T : Fs K mg) (c__law_call : Cal P w K mg base (Gof K) "_law_call" 4 ["which", "row", "by"] [false, false, false] 0 m__law_call) (c__law_text : Cal P w K mg base (Gof K) "_law_text" 1 ["told", "due"] [false, false] 0 m__law_text) (cw__law_text : CalW P w K mg base (Gof K) "_law_text" 1 ["told", "due"] [false, false] 0 m__law_text) (cdv : Value) (A : Around) (outer : List Env) (s : Shared) (H : Hp) (E : XK) (hr : Room 4 (A.deeper (envOfC "_law_refuses" (defScope st__law_refuses) s.heap.objs.size f cdv))) (Ac : Act) (oG : Ac.g.G = Gof K) (oK : Ac.g.K = K) :
    PSs (cxOf (L2.CX P w) P w K mg base ["which", "row", "by", "raised"] "_law_refuses" (defScope st__law_refuses) f cdv A outer s H E) (defBody st__law_refuses) (tS Ac (fun cls d _ H => E cls d H) m__law_refuses) := by
  obtain ⟨⟨aK, aG, aE⟩, aB, aI⟩ := Ac
  have oK : K = aK := oK.symm
  have oG : aG = Gof K := oG
  subst oK
  subst oG
  have o : On (cxOf (L2.CX P w) P w K mg base ["which", "row", "by", "raised"] "_law_refuses" (defScope st__law_refuses) f cdv A outer s H E) ⟨K, Gof K, aE⟩ := On.of (A := ⟨⟨K, Gof K, aE⟩, aB, aI⟩) rfl hr
  have nd := (sc__law_refuses).nd
  have tk : Takes (cxOf (L2.CX P w) P w K mg base ["which", "row", "by", "raised"] "_law_refuses" (defScope st__law_refuses) f cdv A outer s H E) (fun cls d _ H => E cls d H) := takes_of rfl rfl rfl rfl
  exact PSs_cons (PS_try (i := 3) rfl rfl nd rfl rfl ⟨rfl, by decide, .inl T.c_LeapError⟩ tk T.mt_LeapError (fun W pnl xe tk1 pn => PSs_one (PS_expr (PE_cal c__law_call (On.mk o.k o.u) rfl hr tk1 rfl (by decide) rfl (PA_cons (PE_n (pv 0)) (PA_cons (PE_n (pv 1)) (PA_cons (PE_n (pv 2)) (PA_nil))))))) (fun a oe k dd pnl hz hf => PSs_one (PS_ret (PE_and (PE_xi (cx := .ref (He.ga K "InvalidRow")) rfl hz hf (T.xi_InvalidRow k) (fun u r => r) (PE_n (pv 3)) (pe_glob rfl T.c_InvalidRow rfl) rfl T.b_isinstance) (PE_one (PE_calW cw__law_text (On.mk o.k o.u) rfl (roomS hr) takes0 rfl (by decide) rfl (PA_cons (PE_xf rfl hz hf (T.xf_row k) (PE_n (pv 3))) (PA_cons (PE_n (pv 1)) (PA_nil))))))))) (PSs_one (PS_ret (PE_bl)))
theorem k__law_refuses {w : World} {K : PySem.W.Frag} {mg : Str → Option Value} {base : Heap} {f : Addr} {fd : FuncData} (T : Fs K mg) (c__law_call : Cal P w K mg base (Gof K) "_law_call" 4 ["which", "row", "by"] [false, false, false] 0 m__law_call) (c__law_text : Cal P w K mg base (Gof K) "_law_text" 1 ["told", "due"] [false, false] 0 m__law_text) (cw__law_text : CalW P w K mg base (Gof K) "_law_text" 1 ["told", "due"] [false, false] 0 m__law_text) (F : FunD K "_law_refuses" "_law_refuses" (defArgs st__law_refuses) (defBody st__law_refuses) (defScope st__law_refuses) [] [] f fd) (gx : mg "_law_refuses" = some (.ref f)) : Cal P w K mg base (Gof K) "_law_refuses" 5 ["which", "row", "by"] [false, false, false] 1 m__law_refuses :=
  ⟨f, fd, gx, fnD_ok F sc__law_refuses rfl rfl (fun cdv A outer s H E hr Ac oG oK => d__law_refuses T c__law_call c__law_text cw__law_text cdv A outer s H E hr Ac oG oK), F.kp, F.bindsN fun _ _ _ _ _ _ us hl => match us, hl with | [_, _, _], _ => rfl⟩
theorem sc__law_belongs : FnScope ["sign", "kinds", "walled", "dotted"] ["sign", "kinds", "walled", "dotted"] (defScope st__law_belongs) := ⟨rfl, rfl, rfl, by decide +kernel, rfl, by decide +kernel, by decide +kernel⟩
theorem d__law_belongs {w : World} {K : PySem.W.Frag} {mg : Str → Option Value} {base : Heap} {f : Addr} (T : Fs K mg) (cdv : Value) (A : Around) (outer : List Env) (s : Shared) (H : Hp) (E : XK) (hr : Room 0 (A.deeper (envOfC "_law_belongs" (defScope st__law_belongs) s.heap.objs.size f cdv))) (Ac : Act) (oG : Ac.g.G = Gof K) (oK : Ac.g.K = K) :
    PSs (cxOf (L2.CX P w) P w K mg base ["sign", "kinds", "walled", "dotted"] "_law_belongs" (defScope st__law_belongs) f cdv A outer s H E) (defBody st__law_belongs) (tS Ac (fun cls d _ H => E cls d H) m__law_belongs) := by
  obtain ⟨⟨aK, aG, aE⟩, aB, aI⟩ := Ac
  have oK : K = aK := oK.symm
  have oG : aG = Gof K := oG
  subst oK
  subst oG
  have o : On (cxOf (L2.CX P w) P w K mg base ["sign", "kinds", "walled", "dotted"] "_law_belongs" (defScope st__law_belongs) f cdv A outer s H E) ⟨K, Gof K, aE⟩ := On.of (A := ⟨⟨K, Gof K, aE⟩, aB, aI⟩) rfl hr
  have nd := (sc__law_belongs).nd
  have tk : Takes (cxOf (L2.CX P w) P w K mg base ["sign", "kinds", "walled", "dotted"] "_law_belongs" (defScope st__law_belongs) f cdv A outer s H E) (fun cls d _ H => E cls d H) := takes_of rfl rfl rfl rfl
  exact PSs_cons (PS_if (PT_eq o (PE_n (pv 0)) (PE_str rfl)) (PSs_one (PS_ret (PE_mv (pv 2)))) (PSs_nil)) (PSs_cons (PS_if (PT_eq o (PE_n (pv 0)) (PE_str rfl)) (PSs_one (PS_ret (PE_bl))) (PSs_nil)) (PSs_cons (PS_if (PT_eq o (PE_n (pv 0)) (PE_str rfl)) (PSs_one (PS_ret (PE_mv (pv 3)))) (PSs_nil)) (PSs_cons (PS_if (PT_in o (PE_n (pv 0)) (PE_str rfl)) (PSs_one (PS_ret (PE_and (PE_n (pv 3)) (PE_one (PE_lt (PE_index o (PE_str rfl) (PA_cons (PE_n (pv 0)) (PA_nil))) (PE_n (pv 1))))))) (PSs_nil)) (PSs_one (PS_ret (PE_lt (PE_index o (PE_str rfl) (PA_cons (PE_n (pv 0)) (PA_nil))) (PE_n (pv 1))))))))
theorem k__law_belongs {w : World} {K : PySem.W.Frag} {mg : Str → Option Value} {base : Heap} {f : Addr} {fd : FuncData} (T : Fs K mg) (F : FunD K "_law_belongs" "_law_belongs" (defArgs st__law_belongs) (defBody st__law_belongs) (defScope st__law_belongs) [] [] f fd) (gx : mg "_law_belongs" = some (.ref f)) : Cal P w K mg base (Gof K) "_law_belongs" 1 ["sign", "kinds", "walled", "dotted"] [false, false, false, false] 0 m__law_belongs :=
  ⟨f, fd, gx, fnD_ok F sc__law_belongs rfl rfl (fun cdv A outer s H E hr Ac oG oK => d__law_belongs T cdv A outer s H E hr Ac oG oK), F.kp, F.bindsN fun _ _ _ _ _ _ us hl => match us, hl with | [_, _, _, _], _ => rfl⟩
theorem sc__law_string : FnScope ["kinds", "walled", "dotted", "sign"] ["kinds", "walled", "dotted"] (defScope st__law_string) := ⟨rfl, rfl, rfl, by decide +kernel, rfl, by decide +kernel, by decide +kernel⟩
theorem d__law_string {w : World} {K : PySem.W.Frag} {mg : Str → Option Value} {base : Heap} {f : Addr} (T : Fs K mg) (c__law_belongs : Cal P w K mg base (Gof K) "_law_belongs" 1 ["sign", "kinds", "walled", "dotted"] [false, false, false, false] 0 m__law_belongs) (cdv : Value) (A : Around) (outer : List Env) (s : Shared) (H : Hp) (E : XK) (hr : Room 1 (A.deeper (envOfC "_law_string" (defScope st__law_string) s.heap.objs.size f cdv))) (Ac : Act) (oG : Ac.g.G = Gof K) (oK : Ac.g.K = K) :
    PSs (cxOf (L2.CX P w) P w K mg base ["kinds", "walled", "dotted", "sign"] "_law_string" (defScope st__law_string) f cdv A outer s H E) (defBody st__law_string) (tS Ac (fun cls d _ H => E cls d H) m__law_string) := by
  obtain ⟨⟨aK, aG, aE⟩, aB, aI⟩ := Ac
  have oK : K = aK := oK.symm
  have oG : aG = Gof K := oG
  subst oK
  subst oG
  have o : On (cxOf (L2.CX P w) P w K mg base ["kinds", "walled", "dotted", "sign"] "_law_string" (defScope st__law_string) f cdv A outer s H E) ⟨K, Gof K, aE⟩ := On.of (A := ⟨⟨K, Gof K, aE⟩, aB, aI⟩) rfl hr
  have nd := (sc__law_string).nd
  have tk : Takes (cxOf (L2.CX P w) P w K mg base ["kinds", "walled", "dotted", "sign"] "_law_string" (defScope st__law_string) f cdv A outer s H E) (fun cls d _ H => E cls d H) := takes_of rfl rfl rfl rfl
  exact PSs_one (PS_ret (PE_join o (PE_str rfl) (PA_cons (PE_cmp_ (own := [("sign", 3)]) rfl nd rfl (PI_e o.k (PE_str rfl)) (blkOk_by (N := ["kinds", "walled", "dotted", "sign"]) (sc := defScope st__law_string) (by decide +kernel)) (fun _ _ _ _ _ _ => PG_n (pg_name (i := 3) nd rfl (by first | exact Or.inl rfl | exact Or.inr rfl))) (fun _ _ _ _ _ => PTs_one fun J => PT_tru (On.mk o.k o.u).k (PE_cal c__law_belongs (On.mk o.k o.u) rfl hr takes0 rfl (by decide) rfl (PA_cons (PE_n (pv 3)) (PA_cons (PE_n (pv 0)) (PA_cons (PE_n (pv 1)) (PA_cons (PE_n (pv 2)) (PA_nil))))))) (fun _ _ _ _ _ _ => PE_n (pv 3))) (PA_nil))))
theorem k__law_string {w : World} {K : PySem.W.Frag} {mg : Str → Option Value} {base : Heap} {f : Addr} {fd : FuncData} (T : Fs K mg) (c__law_belongs : Cal P w K mg base (Gof K) "_law_belongs" 1 ["sign", "kinds", "walled", "dotted"] [false, false, false, false] 0 m__law_belongs) (F : FunD K "_law_string" "_law_string" (defArgs st__law_string) (defBody st__law_string) (defScope st__law_string) [] [] f fd) (gx : mg "_law_string" = some (.ref f)) : Cal P w K mg base (Gof K) "_law_string" 2 ["kinds", "walled", "dotted"] [false, false, false] 1 m__law_string :=
  ⟨f, fd, gx, fnD_ok F sc__law_string rfl rfl (fun cdv A outer s H E hr Ac oG oK => d__law_string T c__law_belongs cdv A outer s H E hr Ac oG oK), F.kp, F.bindsN fun _ _ _ _ _ _ us hl => match us, hl with | [_, _, _], _ => rfl⟩
theorem sc__law_alphabet : FnScope ["box", "mode"] ["box"] (defScope st__law_alphabet) := ⟨rfl, rfl, rfl, by decide +kernel, rfl, by decide +kernel, by decide +kernel⟩
theorem d__law_alphabet {w : World} {K : PySem.W.Frag} {mg : Str → Option Value} {base : Heap} {f : Addr} (T : Fs K mg) (c__law_string : Cal P w K mg base (Gof K) "_law_string" 2 ["kinds", "walled", "dotted"] [false, false, false] 1 m__law_string) (c__law_take : Cal P w K mg base (Gof K) "_law_take" 1 ["box", "many"] [true, false] 2 m__law_take) (cdv : Value) (A : Around) (outer : List Env) (s : Shared) (H : Hp) (E : XK) (hr : Room 2 (A.deeper (envOfC "_law_alphabet" (defScope st__law_alphabet) s.heap.objs.size f cdv))) (Ac : Act) (oG : Ac.g.G = Gof K) (oK : Ac.g.K = K) :
    PSs (cxOf (L2.CX P w) P w K mg base ["box", "mode"] "_law_alphabet" (defScope st__law_alphabet) f cdv A outer s H E) (defBody st__law_alphabet) (tS Ac (fun cls d _ H => E cls d H) m__law_alphabet) := by
  obtain ⟨⟨aK, aG, aE⟩, aB, aI⟩ := Ac
  have oK : K = aK := oK.symm
  have oG : aG = Gof K := oG
  subst oK
  subst oG
  have o : On (cxOf (L2.CX P w) P w K mg base ["box", "mode"] "_law_alphabet" (defScope st__law_alphabet) f cdv A outer s H E) ⟨K, Gof K, aE⟩ := On.of (A := ⟨⟨K, Gof K, aE⟩, aB, aI⟩) rfl hr
  have nd := (sc__law_alphabet).nd
  have tk : Takes (cxOf (L2.CX P w) P w K mg base ["box", "mode"] "_law_alphabet" (defScope st__law_alphabet) f cdv A outer s H E) (fun cls d _ H => E cls d H) := takes_of rfl rfl rfl rfl
  exact PSs_cons (PS_set (i := 1) nd rfl (Or.inl rfl) (PE_cal c__law_take o rfl hr tk rfl (by decide) rfl (PA_cons (PE_n (pv 0)) (PA_cons (PE_int) (PA_nil))))) (PSs_cons (PS_if (PT_eq o (PE_n (pv 1)) (PE_int)) (PSs_one (PS_ret (PE_cal c__law_string o rfl hr tk rfl (by decide) rfl (PA_cons (PE_add (PE_int) (PE_cal c__law_take o rfl hr tk rfl (by decide) rfl (PA_cons (PE_n (pv 0)) (PA_cons (PE_int) (PA_nil))))) (PA_cons (PE_eq o (PE_cal c__law_take o rfl hr tk rfl (by decide) rfl (PA_cons (PE_n (pv 0)) (PA_cons (PE_int) (PA_nil)))) (PE_int)) (PA_cons (PE_eq o (PE_cal c__law_take o rfl hr tk rfl (by decide) rfl (PA_cons (PE_n (pv 0)) (PA_cons (PE_int) (PA_nil)))) (PE_int)) (PA_nil))))))) (PSs_nil)) (PSs_cons (PS_if (PT_eq o (PE_n (pv 1)) (PE_int)) (PSs_one (PS_ret (PE_add (PE_ix2 o.k (PE_str rfl) (PE_cal c__law_take o rfl hr tk rfl (by decide) rfl (PA_cons (PE_n (pv 0)) (PA_cons (PE_int) (PA_nil))))) (PE_ix2 o.k (PE_str rfl) (PE_cal c__law_take o rfl hr tk rfl (by decide) rfl (PA_cons (PE_n (pv 0)) (PA_cons (PE_int) (PA_nil)))))))) (PSs_nil)) (PSs_one (PS_ret (PE_str rfl)))))
theorem k__law_alphabet {w : World} {K : PySem.W.Frag} {mg : Str → Option Value} {base : Heap} {f : Addr} {fd : FuncData} (T : Fs K mg) (c__law_string : Cal P w K mg base (Gof K) "_law_string" 2 ["kinds", "walled", "dotted"] [false, false, false] 1 m__law_string) (c__law_take : Cal P w K mg base (Gof K) "_law_take" 1 ["box", "many"] [true, false] 2 m__law_take) (F : FunD K "_law_alphabet" "_law_alphabet" (defArgs st__law_alphabet) (defBody st__law_alphabet) (defScope st__law_alphabet) [] [] f fd) (gx : mg "_law_alphabet" = some (.ref f)) : Cal P w K mg base (Gof K) "_law_alphabet" 3 ["box"] [true] 1 m__law_alphabet :=
  ⟨f, fd, gx, fnD_ok F sc__law_alphabet rfl rfl (fun cdv A outer s H E hr Ac oG oK => d__law_alphabet T c__law_string c__law_take cdv A outer s H E hr Ac oG oK), F.kp, F.bindsN fun _ _ _ _ _ _ us hl => match us, hl with | [_], _ => rfl⟩
theorem sc__law_size : FnScope ["box", "mode"] ["box"] (defScope st__law_size) := ⟨rfl, rfl, rfl, by decide +kernel, rfl, by decide +kernel, by decide +kernel⟩
theorem d__law_size {w : World} {K : PySem.W.Frag} {mg : Str → Option Value} {base : Heap} {f : Addr} (T : Fs K mg) (c__law_take : Cal P w K mg base (Gof K) "_law_take" 1 ["box", "many"] [true, false] 2 m__law_take) (cdv : Value) (A : Around) (outer : List Env) (s : Shared) (H : Hp) (E : XK) (hr : Room 1 (A.deeper (envOfC "_law_size" (defScope st__law_size) s.heap.objs.size f cdv))) (Ac : Act) (oG : Ac.g.G = Gof K) (oK : Ac.g.K = K) :
    PSs (cxOf (L2.CX P w) P w K mg base ["box", "mode"] "_law_size" (defScope st__law_size) f cdv A outer s H E) (defBody st__law_size) (tS Ac (fun cls d _ H => E cls d H) m__law_size) := by
  obtain ⟨⟨aK, aG, aE⟩, aB, aI⟩ := Ac
  have oK : K = aK := oK.symm
  have oG : aG = Gof K := oG
  subst oK
  subst oG
  have o : On (cxOf (L2.CX P w) P w K mg base ["box", "mode"] "_law_size" (defScope st__law_size) f cdv A outer s H E) ⟨K, Gof K, aE⟩ := On.of (A := ⟨⟨K, Gof K, aE⟩, aB, aI⟩) rfl hr
  have nd := (sc__law_size).nd
  have tk : Takes (cxOf (L2.CX P w) P w K mg base ["box", "mode"] "_law_size" (defScope st__law_size) f cdv A outer s H E) (fun cls d _ H => E cls d H) := takes_of rfl rfl rfl rfl
  exact PSs_cons (PS_set (i := 1) nd rfl (Or.inl rfl) (PE_cal c__law_take o rfl hr tk rfl (by decide) rfl (PA_cons (PE_n (pv 0)) (PA_cons (PE_int) (PA_nil))))) (PSs_cons (PS_if (PT_eq o (PE_n (pv 1)) (PE_int)) (PSs_one (PS_ret (PE_cal c__law_take o rfl hr tk rfl (by decide) rfl (PA_cons (PE_n (pv 0)) (PA_cons (PE_int) (PA_nil)))))) (PSs_nil)) (PSs_cons (PS_if (PT_eq o (PE_n (pv 1)) (PE_int)) (PSs_one (PS_ret (PE_cal c__law_take o rfl hr tk rfl (by decide) rfl (PA_cons (PE_n (pv 0)) (PA_cons (PE_int) (PA_nil)))))) (PSs_nil)) (PSs_one (PS_ret (PE_cal c__law_take o rfl hr tk rfl (by decide) rfl (PA_cons (PE_n (pv 0)) (PA_cons (PE_int) (PA_nil))))))))
theorem k__law_size {w : World} {K : PySem.W.Frag} {mg : Str → Option Value} {base : Heap} {f : Addr} {fd : FuncData} (T : Fs K mg) (c__law_take : Cal P w K mg base (Gof K) "_law_take" 1 ["box", "many"] [true, false] 2 m__law_take) (F : FunD K "_law_size" "_law_size" (defArgs st__law_size) (defBody st__law_size) (defScope st__law_size) [] [] f fd) (gx : mg "_law_size" = some (.ref f)) : Cal P w K mg base (Gof K) "_law_size" 2 ["box"] [true] 1 m__law_size :=
  ⟨f, fd, gx, fnD_ok F sc__law_size rfl rfl (fun cdv A outer s H E hr Ac oG oK => d__law_size T c__law_take cdv A outer s H E hr Ac oG oK), F.kp, F.bindsN fun _ _ _ _ _ _ us hl => match us, hl with | [_], _ => rfl⟩
theorem sc__law_row : FnScope ["script", "box", "alphabet", "size", "unit", "letters", "at", "part", "row"] ["script", "box"] (defScope st__law_row) := ⟨rfl, rfl, rfl, by decide +kernel, rfl, by decide +kernel, by decide +kernel⟩
theorem d__law_row {w : World} {K : PySem.W.Frag} {mg : Str → Option Value} {base : Heap} {f : Addr} (T : Fs K mg) (c__law_alphabet : Cal P w K mg base (Gof K) "_law_alphabet" 3 ["box"] [true] 1 m__law_alphabet) (c__law_box : Cal P w K mg base (Gof K) "_law_box" 2 ["script", "at"] [false, false] 2 m__law_box) (c__law_size : Cal P w K mg base (Gof K) "_law_size" 2 ["box"] [true] 1 m__law_size) (c__law_take : Cal P w K mg base (Gof K) "_law_take" 1 ["box", "many"] [true, false] 2 m__law_take) (cdv : Value) (A : Around) (outer : List Env) (s : Shared) (H : Hp) (E : XK) (hr : Room 3 (A.deeper (envOfC "_law_row" (defScope st__law_row) s.heap.objs.size f cdv))) (Ac : Act) (oG : Ac.g.G = Gof K) (oK : Ac.g.K = K) :
    PSs (cxOf (L2.CX P w) P w K mg base ["script", "box", "alphabet", "size", "unit", "letters", "at", "part", "row"] "_law_row" (defScope st__law_row) f cdv A outer s H E) (defBody st__law_row) (tS Ac (fun cls d _ H => E cls d H) m__law_row) := by
  obtain ⟨⟨aK, aG, aE⟩, aB, aI⟩ := Ac
  have oK : K = aK := oK.symm
  have oG : aG = Gof K := oG
  subst oK
  subst oG
  have o : On (cxOf (L2.CX P w) P w K mg base ["script", "box", "alphabet", "size", "unit", "letters", "at", "part", "row"] "_law_row" (defScope st__law_row) f cdv A outer s H E) ⟨K, Gof K, aE⟩ := On.of (A := ⟨⟨K, Gof K, aE⟩, aB, aI⟩) rfl hr
  have nd := (sc__law_row).nd
  have tk : Takes (cxOf (L2.CX P w) P w K mg base ["script", "box", "alphabet", "size", "unit", "letters", "at", "part", "row"] "_law_row" (defScope st__law_row) f cdv A outer s H E) (fun cls d _ H => E cls d H) := takes_of rfl rfl rfl rfl
  exact PSs_cons (PS_set (i := 2) nd rfl (Or.inr rfl) (PE_cal c__law_alphabet o rfl hr tk rfl (by decide) rfl (PA_cons (PE_n (pv 1)) (PA_nil)))) (PSs_cons (PS_set (i := 3) nd rfl (Or.inl rfl) (PE_cal c__law_size o rfl hr tk rfl (by decide) rfl (PA_cons (PE_n (pv 1)) (PA_nil)))) (PSs_cons (PS_set (i := 4) nd rfl (Or.inr rfl) (PE_n (pv 3))) (PSs_cons (PS_if (PT_eq o (PE_cal c__law_take o rfl hr tk rfl (by decide) rfl (PA_cons (PE_n (pv 1)) (PA_cons (PE_int) (PA_nil)))) (PE_int)) (PSs_one (PS_set (i := 4) nd rfl (Or.inr rfl) (PE_add (PE_int) (PE_cal c__law_take o rfl hr tk rfl (by decide) rfl (PA_cons (PE_n (pv 1)) (PA_cons (PE_int) (PA_nil))))))) (PSs_nil)) (PSs_cons (PS_set (i := 5) nd rfl (Or.inr rfl) (PE_cal c__law_box o rfl hr tk rfl (by decide) rfl (PA_cons (PE_n (pv 0)) (PA_cons (PE_int) (PA_nil))))) (PSs_cons (PS_set (i := 7) nd rfl (Or.inr rfl) (PE_cmp_ (own := [("at", 6)]) rfl nd rfl (PI_r1 rfl T.b_range (PA_cons (PE_min o rfl rfl T.b_min (PA_cons (PE_n (pv 4)) (PA_cons (PE_n (pv 3)) (PA_nil)))) (PA_nil))) (blkOk_by (N := ["script", "box", "alphabet", "size", "unit", "letters", "at", "part", "row"]) (sc := defScope st__law_row) (by decide +kernel)) (fun _ _ _ _ _ _ => PG_n (pg_name (i := 6) nd rfl (by first | exact Or.inl rfl | exact Or.inr rfl))) (fun _ _ _ _ _ => PTs_nil) (fun _ _ _ _ _ _ => PE_ix2 (On.mk o.k o.u).k (PE_n (pv 2)) (PE_cal c__law_take (On.mk o.k o.u) rfl hr takes0 rfl (by decide) rfl (PA_cons (PE_n (pv 5)) (PA_cons (PE_len (On.mk o.k o.u) rfl T.b_len (PA_cons (PE_n (pv 2)) (PA_nil))) (PA_nil))))))) (PSs_cons (PS_set (i := 8) nd rfl (Or.inl rfl) (PE_join o (PE_str rfl) (PA_cons (PE_cmp_ (own := [("at", 6)]) rfl nd rfl (PI_r1 rfl T.b_range (PA_cons (PE_n (pv 3)) (PA_nil))) (blkOk_by (N := ["script", "box", "alphabet", "size", "unit", "letters", "at", "part", "row"]) (sc := defScope st__law_row) (by decide +kernel)) (fun _ _ _ _ _ _ => PG_n (pg_name (i := 6) nd rfl (by first | exact Or.inl rfl | exact Or.inr rfl))) (fun _ _ _ _ _ => PTs_nil) (fun _ _ _ _ _ _ => PE_ix2 (On.mk o.k o.u).k (PE_n (pv 7)) (PE_mod (PE_int' rfl T.b_int (PA_cons (PE_n (pv 6)) (PA_nil))) (PE_n (pv 4))))) (PA_nil)))) (PSs_cons (PS_if (PW.pt (PW_and (PT_gt (PE_n (pv 3)) (PE_int)) (PW_one (PT_eq o (PE_cal c__law_take o rfl hr tk rfl (by decide) rfl (PA_cons (PE_n (pv 1)) (PA_cons (PE_int) (PA_nil)))) (PE_int))))) (PSs_cons (PS_set (i := 6) nd rfl (Or.inl rfl) (PE_cal c__law_take o rfl hr tk rfl (by decide) rfl (PA_cons (PE_n (pv 1)) (PA_cons (PE_n (pv 3)) (PA_nil))))) (PSs_one (PS_set (i := 8) nd rfl (Or.inl rfl) (PE_add (PE_add (PE_slR o.k (PE_n (pv 8)) (PE_n (pv 6))) (PE_ix2 o.k (PE_n (pv 2)) (PE_cal c__law_take o rfl hr tk rfl (by decide) rfl (PA_cons (PE_n (pv 1)) (PA_cons (PE_len o rfl T.b_len (PA_cons (PE_n (pv 2)) (PA_nil))) (PA_nil)))))) (PE_slL o.k (PE_n (pv 8)) (PE_add (PE_n (pv 6)) (PE_int))))))) (PSs_nil)) (PSs_one (PS_ret (PE_mv (pv 8)))))))))))
theorem k__law_row {w : World} {K : PySem.W.Frag} {mg : Str → Option Value} {base : Heap} {f : Addr} {fd : FuncData} (T : Fs K mg) (c__law_alphabet : Cal P w K mg base (Gof K) "_law_alphabet" 3 ["box"] [true] 1 m__law_alphabet) (c__law_box : Cal P w K mg base (Gof K) "_law_box" 2 ["script", "at"] [false, false] 2 m__law_box) (c__law_size : Cal P w K mg base (Gof K) "_law_size" 2 ["box"] [true] 1 m__law_size) (c__law_take : Cal P w K mg base (Gof K) "_law_take" 1 ["box", "many"] [true, false] 2 m__law_take) (F : FunD K "_law_row" "_law_row" (defArgs st__law_row) (defBody st__law_row) (defScope st__law_row) [] [] f fd) (gx : mg "_law_row" = some (.ref f)) : Cal P w K mg base (Gof K) "_law_row" 4 ["script", "box"] [false, true] 7 m__law_row :=
  ⟨f, fd, gx, fnD_ok F sc__law_row rfl rfl (fun cdv A outer s H E hr Ac oG oK => d__law_row T c__law_alphabet c__law_box c__law_size c__law_take cdv A outer s H E hr Ac oG oK), F.kp, F.bindsN fun _ _ _ _ _ _ us hl => match us, hl with | [_, _], _ => rfl⟩
theorem sc__law_shift : FnScope ["box", "size", "mode", "far"] ["box", "size"] (defScope st__law_shift) := ⟨rfl, rfl, rfl, by decide +kernel, rfl, by decide +kernel, by decide +kernel⟩
theorem d__law_shift {w : World} {K : PySem.W.Frag} {mg : Str → Option Value} {base : Heap} {f : Addr} (T : Fs K mg) (c__law_take : Cal P w K mg base (Gof K) "_law_take" 1 ["box", "many"] [true, false] 2 m__law_take) (cdv : Value) (A : Around) (outer : List Env) (s : Shared) (H : Hp) (E : XK) (hr : Room 1 (A.deeper (envOfC "_law_shift" (defScope st__law_shift) s.heap.objs.size f cdv))) (Ac : Act) (oG : Ac.g.G = Gof K) (oK : Ac.g.K = K) :
    PSs (cxOf (L2.CX P w) P w K mg base ["box", "size", "mode", "far"] "_law_shift" (defScope st__law_shift) f cdv A outer s H E) (defBody st__law_shift) (tS Ac (fun cls d _ H => E cls d H) m__law_shift) := by
  obtain ⟨⟨aK, aG, aE⟩, aB, aI⟩ := Ac
  have oK : K = aK := oK.symm
  have oG : aG = Gof K := oG
  subst oK
  subst oG
  have o : On (cxOf (L2.CX P w) P w K mg base ["box", "size", "mode", "far"] "_law_shift" (defScope st__law_shift) f cdv A outer s H E) ⟨K, Gof K, aE⟩ := On.of (A := ⟨⟨K, Gof K, aE⟩, aB, aI⟩) rfl hr
  have nd := (sc__law_shift).nd
  have tk : Takes (cxOf (L2.CX P w) P w K mg base ["box", "size", "mode", "far"] "_law_shift" (defScope st__law_shift) f cdv A outer s H E) (fun cls d _ H => E cls d H) := takes_of rfl rfl rfl rfl
  exact PSs_cons (PS_set (i := 2) nd rfl (Or.inl rfl) (PE_cal c__law_take o rfl hr tk rfl (by decide) rfl (PA_cons (PE_n (pv 0)) (PA_cons (PE_int) (PA_nil))))) (PSs_cons (PS_if (PT_eq o (PE_n (pv 2)) (PE_int)) (PSs_one (PS_ret (PE_sub (PE_cal c__law_take o rfl hr tk rfl (by decide) rfl (PA_cons (PE_n (pv 0)) (PA_cons (PE_int) (PA_nil)))) (PE_int)))) (PSs_nil)) (PSs_cons (PS_if (PT_eq o (PE_n (pv 2)) (PE_int)) (PSs_one (PS_ret (PE_sub (PE_add (PE_mul (PE_n (pv 1)) (PE_sub (PE_cal c__law_take o rfl hr tk rfl (by decide) rfl (PA_cons (PE_n (pv 0)) (PA_cons (PE_int) (PA_nil)))) (PE_int))) (PE_cal c__law_take o rfl hr tk rfl (by decide) rfl (PA_cons (PE_n (pv 0)) (PA_cons (PE_int) (PA_nil))))) (PE_int)))) (PSs_nil)) (PSs_cons (PS_if (PT_eq o (PE_n (pv 2)) (PE_int)) (PSs_one (PS_ret (PE_sub (PE_cal c__law_take o rfl hr tk rfl (by decide) rfl (PA_cons (PE_n (pv 0)) (PA_cons (PE_int) (PA_nil)))) (PE_int)))) (PSs_nil)) (PSs_cons (PS_set (i := 3) nd rfl (Or.inl rfl) (PE_cal c__law_take o rfl hr tk rfl (by decide) rfl (PA_cons (PE_n (pv 0)) (PA_cons (PE_pow (PE_int) (PE_int)) (PA_nil))))) (PSs_cons (PS_if (PT_eq o (PE_n (pv 2)) (PE_int)) (PSs_one (PS_set (i := 3) nd rfl (Or.inl rfl) (PE_add (PE_add (PE_mul (PE_cal c__law_take o rfl hr tk rfl (by decide) rfl (PA_cons (PE_n (pv 0)) (PA_cons (PE_pow (PE_int) (PE_int)) (PA_nil)))) (PE_pow (PE_int) (PE_int))) (PE_mul (PE_cal c__law_take o rfl hr tk rfl (by decide) rfl (PA_cons (PE_n (pv 0)) (PA_cons (PE_pow (PE_int) (PE_int)) (PA_nil)))) (PE_pow (PE_int) (PE_int)))) (PE_mod (PE_int' rfl T.b_int (PA_cons (PE_n (pv 3)) (PA_nil))) (PE_pow (PE_int) (PE_int)))))) (PSs_nil)) (PSs_cons (PS_if (PT_eq o (PE_cal c__law_take o rfl hr tk rfl (by decide) rfl (PA_cons (PE_n (pv 0)) (PA_cons (PE_int) (PA_nil)))) (PE_int)) (PSs_one (PS_ret (PE_sub (PE_int) (PE_n (pv 3))))) (PSs_nil)) (PSs_one (PS_ret (PE_mv (pv 3))))))))))
theorem k__law_shift {w : World} {K : PySem.W.Frag} {mg : Str → Option Value} {base : Heap} {f : Addr} {fd : FuncData} (T : Fs K mg) (c__law_take : Cal P w K mg base (Gof K) "_law_take" 1 ["box", "many"] [true, false] 2 m__law_take) (F : FunD K "_law_shift" "_law_shift" (defArgs st__law_shift) (defBody st__law_shift) (defScope st__law_shift) [] [] f fd) (gx : mg "_law_shift" = some (.ref f)) : Cal P w K mg base (Gof K) "_law_shift" 2 ["box", "size"] [true, false] 2 m__law_shift :=
  ⟨f, fd, gx, fnD_ok F sc__law_shift rfl rfl (fun cdv A outer s H E hr Ac oG oK => d__law_shift T c__law_take cdv A outer s H E hr Ac oG oK), F.kp, F.bindsN fun _ _ _ _ _ _ us hl => match us, hl with | [_, _], _ => rfl⟩
theorem sc__law_turns : FnScope ["row", "first", "second", "told", "rounds"] ["row", "first", "second"] (defScope st__law_turns) := ⟨rfl, rfl, rfl, by decide +kernel, rfl, by decide +kernel, by decide +kernel⟩
theorem d__law_turns {w : World} {K : PySem.W.Frag} {mg : Str → Option Value} {base : Heap} {f : Addr} (T : Fs K mg) (c__law_moved : Cal P w K mg base (Gof K) "_law_moved" 1 ["row", "by"] [false, false] 2 m__law_moved) (c__law_text : Cal P w K mg base (Gof K) "_law_text" 1 ["told", "due"] [false, false] 0 m__law_text) (cw__law_text : CalW P w K mg base (Gof K) "_law_text" 1 ["told", "due"] [false, false] 0 m__law_text) (c_turned : Cal P w K mg base (Gof K) "turned" 3 ["row", "by"] [false, false] 1 m_turned) (cdv : Value) (A : Around) (outer : List Env) (s : Shared) (H : Hp) (E : XK) (hr : Room 3 (A.deeper (envOfC "_law_turns" (defScope st__law_turns) s.heap.objs.size f cdv))) (Ac : Act) (oG : Ac.g.G = Gof K) (oK : Ac.g.K = K) :
    PSs (cxOf (L2.CX P w) P w K mg base ["row", "first", "second", "told", "rounds"] "_law_turns" (defScope st__law_turns) f cdv A outer s H E) (defBody st__law_turns) (tS Ac (fun cls d _ H => E cls d H) m__law_turns) := by
  obtain ⟨⟨aK, aG, aE⟩, aB, aI⟩ := Ac
  have oK : K = aK := oK.symm
  have oG : aG = Gof K := oG
  subst oK
  subst oG
  have o : On (cxOf (L2.CX P w) P w K mg base ["row", "first", "second", "told", "rounds"] "_law_turns" (defScope st__law_turns) f cdv A outer s H E) ⟨K, Gof K, aE⟩ := On.of (A := ⟨⟨K, Gof K, aE⟩, aB, aI⟩) rfl hr
  have nd := (sc__law_turns).nd
  have tk : Takes (cxOf (L2.CX P w) P w K mg base ["row", "first", "second", "told", "rounds"] "_law_turns" (defScope st__law_turns) f cdv A outer s H E) (fun cls d _ H => E cls d H) := takes_of rfl rfl rfl rfl
  exact PSs_cons (PS_set (i := 3) nd rfl (Or.inl rfl) (PE_cal c_turned o rfl hr tk rfl (by decide) rfl (PA_cons (PE_n (pv 0)) (PA_cons (PE_n (pv 1)) (PA_nil))))) (PSs_cons (PS_if (PT_not (PT_tru o.k (PE_cal c__law_text o rfl hr tk rfl (by decide) rfl (PA_cons (PE_n (pv 3)) (PA_cons (PE_cal c__law_moved o rfl hr tk rfl (by decide) rfl (PA_cons (PE_n (pv 0)) (PA_cons (PE_n (pv 1)) (PA_nil)))) (PA_nil)))))) (PSs_one (PS_ret (PE_bl))) (PSs_nil)) (PSs_cons (PS_if (PT_not (PT_tru o.k (PE_cal c__law_text o rfl hr tk rfl (by decide) rfl (PA_cons (PE_cal c_turned o rfl hr tk rfl (by decide) rfl (PA_cons (PE_n (pv 3)) (PA_cons (PE_n (pv 2)) (PA_nil)))) (PA_cons (PE_cal c__law_moved o rfl hr tk rfl (by decide) rfl (PA_cons (PE_n (pv 0)) (PA_cons (PE_add (PE_n (pv 1)) (PE_n (pv 2))) (PA_nil)))) (PA_nil)))))) (PSs_one (PS_ret (PE_bl))) (PSs_nil)) (PSs_cons (PS_if (PT_not (PT_tru o.k (PE_cal c__law_text o rfl hr tk rfl (by decide) rfl (PA_cons (PE_cal c_turned o rfl hr tk rfl (by decide) rfl (PA_cons (PE_n (pv 0)) (PA_cons (PE_add (PE_n (pv 1)) (PE_n (pv 2))) (PA_nil)))) (PA_cons (PE_cal c__law_moved o rfl hr tk rfl (by decide) rfl (PA_cons (PE_n (pv 0)) (PA_cons (PE_add (PE_n (pv 1)) (PE_n (pv 2))) (PA_nil)))) (PA_nil)))))) (PSs_one (PS_ret (PE_bl))) (PSs_nil)) (PSs_cons (PS_if (PT_not (PT_tru o.k (PE_cal c__law_text o rfl hr tk rfl (by decide) rfl (PA_cons (PE_cal c_turned o rfl hr tk rfl (by decide) rfl (PA_cons (PE_n (pv 3)) (PA_cons (PE_sub (PE_int) (PE_n (pv 1))) (PA_nil)))) (PA_cons (PE_n (pv 0)) (PA_nil)))))) (PSs_one (PS_ret (PE_bl))) (PSs_nil)) (PSs_cons (PS_for (passes_of rfl) rfl (PI_e o.k (PE_ft (PE_lst (PA_cons (PE_neg (PE_int)) (PA_cons (PE_neg (PE_int)) (PA_cons (PE_int) (PA_cons (PE_int) (PA_cons (PE_int) (PA_nil))))))))) (fun J => PG_n (pg_name (i := 4) nd rfl (by first | exact Or.inl rfl | exact Or.inr rfl))) (fun J => PSs_one (PS_if (PT_not (PT_tru o.k (PE_cal c__law_text o rfl hr tk rfl (by decide) rfl (PA_cons (PE_cal c_turned o rfl hr tk rfl (by decide) rfl (PA_cons (PE_n (pv 0)) (PA_cons (PE_mul (PE_n (pv 4)) (PE_len o rfl T.b_len (PA_cons (PE_n (pv 0)) (PA_nil)))) (PA_nil)))) (PA_cons (PE_n (pv 0)) (PA_nil)))))) (PSs_one (PS_ret (PE_bl))) (PSs_nil)))) (PSs_one (PS_ret (PE_bl))))))))
theorem k__law_turns {w : World} {K : PySem.W.Frag} {mg : Str → Option Value} {base : Heap} {f : Addr} {fd : FuncData} (T : Fs K mg) (c__law_moved : Cal P w K mg base (Gof K) "_law_moved" 1 ["row", "by"] [false, false] 2 m__law_moved) (c__law_text : Cal P w K mg base (Gof K) "_law_text" 1 ["told", "due"] [false, false] 0 m__law_text) (cw__law_text : CalW P w K mg base (Gof K) "_law_text" 1 ["told", "due"] [false, false] 0 m__law_text) (c_turned : Cal P w K mg base (Gof K) "turned" 3 ["row", "by"] [false, false] 1 m_turned) (F : FunD K "_law_turns" "_law_turns" (defArgs st__law_turns) (defBody st__law_turns) (defScope st__law_turns) [] [] f fd) (gx : mg "_law_turns" = some (.ref f)) : Cal P w K mg base (Gof K) "_law_turns" 4 ["row", "first", "second"] [false, false, false] 2 m__law_turns :=
  ⟨f, fd, gx, fnD_ok F sc__law_turns rfl rfl (fun cdv A outer s H E hr Ac oG oK => d__law_turns T c__law_moved c__law_text cw__law_text c_turned cdv A outer s H E hr Ac oG oK), F.kp, F.bindsN fun _ _ _ _ _ _ us hl => match us, hl with | [_, _, _], _ => rfl⟩
theorem sc_law : FnScope ["script", "sizes", "row", "first", "second", "bad", "by"] ["script"] (defScope st_law) := ⟨rfl, rfl, rfl, by decide +kernel, rfl, by decide +kernel, by decide +kernel⟩
theorem d_law {w : World} {K : PySem.W.Frag} {mg : Str → Option Value} {base : Heap} {f : Addr} (T : Fs K mg) (c__law_bent : Cal P w K mg base (Gof K) "_law_bent" 2 ["box", "row"] [true, false] 4 m__law_bent) (c__law_box : Cal P w K mg base (Gof K) "_law_box" 2 ["script", "at"] [false, false] 2 m__law_box) (c__law_least : Cal P w K mg base (Gof K) "_law_least" 4 ["row", "first", "second"] [false, false, false] 3 m__law_least) (c__law_mirrors : Cal P w K mg base (Gof K) "_law_mirrors" 4 ["row", "first"] [false, false] 1 m__law_mirrors) (c__law_refuses : Cal P w K mg base (Gof K) "_law_refuses" 5 ["which", "row", "by"] [false, false, false] 1 m__law_refuses) (c__law_row : Cal P w K mg base (Gof K) "_law_row" 4 ["script", "box"] [false, true] 7 m__law_row) (c__law_shift : Cal P w K mg base (Gof K) "_law_shift" 2 ["box", "size"] [true, false] 2 m__law_shift) (c__law_turns : Cal P w K mg base (Gof K) "_law_turns" 4 ["row", "first", "second"] [false, false, false] 2 m__law_turns) (cdv : Value) (A : Around) (outer : List Env) (s : Shared) (H : Hp) (E : XK) (hr : Room 5 (A.deeper (envOfC "law" (defScope st_law) s.heap.objs.size f cdv))) (Ac : Act) (oG : Ac.g.G = Gof K) (oK : Ac.g.K = K) :
    PSs (cxOf (L2.CX P w) P w K mg base ["script", "sizes", "row", "first", "second", "bad", "by"] "law" (defScope st_law) f cdv A outer s H E) (defBody st_law) (tS Ac (fun cls d _ H => E cls d H) m_law) := by
  obtain ⟨⟨aK, aG, aE⟩, aB, aI⟩ := Ac
  have oK : K = aK := oK.symm
  have oG : aG = Gof K := oG
  subst oK
  subst oG
  have o : On (cxOf (L2.CX P w) P w K mg base ["script", "sizes", "row", "first", "second", "bad", "by"] "law" (defScope st_law) f cdv A outer s H E) ⟨K, Gof K, aE⟩ := On.of (A := ⟨⟨K, Gof K, aE⟩, aB, aI⟩) rfl hr
  have nd := (sc_law).nd
  have tk : Takes (cxOf (L2.CX P w) P w K mg base ["script", "sizes", "row", "first", "second", "bad", "by"] "law" (defScope st_law) f cdv A outer s H E) (fun cls d _ H => E cls d H) := takes_of rfl rfl rfl rfl
  exact PSs_cons (PS_set (i := 1) nd rfl (Or.inl rfl) (PE_cal c__law_box o rfl hr tk rfl (by decide) rfl (PA_cons (PE_n (pv 0)) (PA_cons (PE_int) (PA_nil))))) (PSs_cons (PS_set (i := 2) nd rfl (Or.inl rfl) (PE_cal c__law_row o rfl hr tk rfl (by decide) rfl (PA_cons (PE_n (pv 0)) (PA_cons (PE_n (pv 1)) (PA_nil))))) (PSs_cons (PS_set (i := 3) nd rfl (Or.inl rfl) (PE_cal c__law_shift o rfl hr tk rfl (by decide) rfl (PA_cons (PE_cal c__law_box o rfl hr tk rfl (by decide) rfl (PA_cons (PE_n (pv 0)) (PA_cons (PE_int) (PA_nil)))) (PA_cons (PE_len o rfl T.b_len (PA_cons (PE_n (pv 2)) (PA_nil))) (PA_nil))))) (PSs_cons (PS_set (i := 4) nd rfl (Or.inl rfl) (PE_cal c__law_shift o rfl hr tk rfl (by decide) rfl (PA_cons (PE_cal c__law_box o rfl hr tk rfl (by decide) rfl (PA_cons (PE_n (pv 0)) (PA_cons (PE_int) (PA_nil)))) (PA_cons (PE_len o rfl T.b_len (PA_cons (PE_n (pv 2)) (PA_nil))) (PA_nil))))) (PSs_cons (PS_if (PW.pt (PW_or (PT_not (PT_tru o.k (PE_cal c__law_turns o rfl hr tk rfl (by decide) rfl (PA_cons (PE_n (pv 2)) (PA_cons (PE_n (pv 3)) (PA_cons (PE_n (pv 4)) (PA_nil))))))) (PW_one (PT_not (PT_tru o.k (PE_cal c__law_mirrors o rfl hr tk rfl (by decide) rfl (PA_cons (PE_n (pv 2)) (PA_cons (PE_n (pv 3)) (PA_nil))))))))) (PSs_one (PS_ret (PE_bl))) (PSs_nil)) (PSs_cons (PS_if (PT_not (PT_tru o.k (PE_cal c__law_least o rfl hr tk rfl (by decide) rfl (PA_cons (PE_n (pv 2)) (PA_cons (PE_n (pv 3)) (PA_cons (PE_n (pv 4)) (PA_nil))))))) (PSs_one (PS_ret (PE_bl))) (PSs_nil)) (PSs_cons (PS_set (i := 5) nd rfl (Or.inl rfl) (PE_cal c__law_bent o rfl hr tk rfl (by decide) rfl (PA_cons (PE_n (pv 1)) (PA_cons (PE_n (pv 2)) (PA_nil))))) (PSs_cons (PS_for (passes_of rfl) rfl (PI_e o.k (PE_ft (PE_lst (PA_cons (PE_int) (PA_cons (PE_int) (PA_cons (PE_len o rfl T.b_len (PA_cons (PE_n (pv 5)) (PA_nil))) (PA_cons (PE_n (pv 3)) (PA_cons (PE_n (pv 4)) (PA_nil))))))))) (fun J => PG_n (pg_name (i := 6) nd rfl (by first | exact Or.inl rfl | exact Or.inr rfl))) (fun J => PSs_one (PS_if (PT_not (PT_tru o.k (PE_cal c__law_refuses o rfl hr tk rfl (by decide) rfl (PA_cons (PE_int) (PA_cons (PE_n (pv 5)) (PA_cons (PE_n (pv 6)) (PA_nil))))))) (PSs_one (PS_ret (PE_bl))) (PSs_nil)))) (PSs_one (PS_ret (PE_and (PE_cal c__law_refuses o rfl hr tk rfl (by decide) rfl (PA_cons (PE_int) (PA_cons (PE_n (pv 5)) (PA_cons (PE_int) (PA_nil))))) (PE_one (PE_cal c__law_refuses o rfl hr tk rfl (by decide) rfl (PA_cons (PE_int) (PA_cons (PE_n (pv 5)) (PA_cons (PE_int) (PA_nil))))))))))))))))
theorem k_law {w : World} {K : PySem.W.Frag} {mg : Str → Option Value} {base : Heap} {f : Addr} {fd : FuncData} (T : Fs K mg) (c__law_bent : Cal P w K mg base (Gof K) "_law_bent" 2 ["box", "row"] [true, false] 4 m__law_bent) (c__law_box : Cal P w K mg base (Gof K) "_law_box" 2 ["script", "at"] [false, false] 2 m__law_box) (c__law_least : Cal P w K mg base (Gof K) "_law_least" 4 ["row", "first", "second"] [false, false, false] 3 m__law_least) (c__law_mirrors : Cal P w K mg base (Gof K) "_law_mirrors" 4 ["row", "first"] [false, false] 1 m__law_mirrors) (c__law_refuses : Cal P w K mg base (Gof K) "_law_refuses" 5 ["which", "row", "by"] [false, false, false] 1 m__law_refuses) (c__law_row : Cal P w K mg base (Gof K) "_law_row" 4 ["script", "box"] [false, true] 7 m__law_row) (c__law_shift : Cal P w K mg base (Gof K) "_law_shift" 2 ["box", "size"] [true, false] 2 m__law_shift) (c__law_turns : Cal P w K mg base (Gof K) "_law_turns" 4 ["row", "first", "second"] [false, false, false] 2 m__law_turns) (F : FunD K "law" "law" (defArgs st_law) (defBody st_law) (defScope st_law) [] [] f fd) (gx : mg "law" = some (.ref f)) : Cal P w K mg base (Gof K) "law" 6 ["script"] [false] 6 m_law :=
  ⟨f, fd, gx, fnD_ok F sc_law rfl rfl (fun cdv A outer s H E hr Ac oG oK => d_law T c__law_bent c__law_box c__law_least c__law_mirrors c__law_refuses c__law_row c__law_shift c__law_turns cdv A outer s H E hr Ac oG oK), F.kp, F.bindsN fun _ _ _ _ _ _ us hl => match us, hl with | [_], _ => rfl⟩
abbrev sx_InvalidRow : Stmt := inClass (top 2) 0
def fas : List He.Fa := [.glo "_law_take", .glo "_law_bent", .glo "_law_cell", .glo "_law_box", .glo "_law_moved", .glo "_law_text", .glo "check_row", .glo "least_turn", .glo "_law_least", .glo "_law_image", .glo "mirror", .glo "turned", .glo "_law_mirrors", .glo "_law_call", .glo "_law_refuses", .glo "_law_belongs", .glo "_law_string", .glo "_law_alphabet", .glo "_law_size", .glo "_law_row", .glo "_law_shift", .glo "_law_turns", .glo "law", .free "int", .free "isinstance", .free "len", .free "min", .free "range", .free "str", .free "sum", .str "SIGNS" "#.:ABCDabcd", .free "super", .glo "InvalidRow", .glo "LeapError", .exm "InvalidRow" "LeapError" true]
def fns : List He.DefD := [⟨("_law_take", none), "_law_take", "_law_take", defArgs st__law_take, defBody st__law_take, defScope st__law_take, [], []⟩, ⟨("_law_bent", none), "_law_bent", "_law_bent", defArgs st__law_bent, defBody st__law_bent, defScope st__law_bent, [], []⟩, ⟨("_law_cell", none), "_law_cell", "_law_cell", defArgs st__law_cell, defBody st__law_cell, defScope st__law_cell, [], []⟩, ⟨("_law_box", none), "_law_box", "_law_box", defArgs st__law_box, defBody st__law_box, defScope st__law_box, [], []⟩, ⟨("_law_moved", none), "_law_moved", "_law_moved", defArgs st__law_moved, defBody st__law_moved, defScope st__law_moved, [], []⟩, ⟨("_law_text", none), "_law_text", "_law_text", defArgs st__law_text, defBody st__law_text, defScope st__law_text, [], []⟩, ⟨("check_row", none), "check_row", "check_row", defArgs st_check_row, defBody st_check_row, defScope st_check_row, [], []⟩, ⟨("least_turn", none), "least_turn", "least_turn", defArgs st_least_turn, defBody st_least_turn, defScope st_least_turn, [], []⟩, ⟨("_law_least", none), "_law_least", "_law_least", defArgs st__law_least, defBody st__law_least, defScope st__law_least, [], []⟩, ⟨("_law_image", none), "_law_image", "_law_image", defArgs st__law_image, defBody st__law_image, defScope st__law_image, [], []⟩, ⟨("mirror", none), "mirror", "mirror", defArgs st_mirror, defBody st_mirror, defScope st_mirror, [], []⟩, ⟨("turned", none), "turned", "turned", defArgs st_turned, defBody st_turned, defScope st_turned, [], []⟩, ⟨("_law_mirrors", none), "_law_mirrors", "_law_mirrors", defArgs st__law_mirrors, defBody st__law_mirrors, defScope st__law_mirrors, [], []⟩, ⟨("_law_call", none), "_law_call", "_law_call", defArgs st__law_call, defBody st__law_call, defScope st__law_call, [], []⟩, ⟨("_law_refuses", none), "_law_refuses", "_law_refuses", defArgs st__law_refuses, defBody st__law_refuses, defScope st__law_refuses, [], []⟩, ⟨("_law_belongs", none), "_law_belongs", "_law_belongs", defArgs st__law_belongs, defBody st__law_belongs, defScope st__law_belongs, [], []⟩, ⟨("_law_string", none), "_law_string", "_law_string", defArgs st__law_string, defBody st__law_string, defScope st__law_string, [], []⟩, ⟨("_law_alphabet", none), "_law_alphabet", "_law_alphabet", defArgs st__law_alphabet, defBody st__law_alphabet, defScope st__law_alphabet, [], []⟩, ⟨("_law_size", none), "_law_size", "_law_size", defArgs st__law_size, defBody st__law_size, defScope st__law_size, [], []⟩, ⟨("_law_row", none), "_law_row", "_law_row", defArgs st__law_row, defBody st__law_row, defScope st__law_row, [], []⟩, ⟨("_law_shift", none), "_law_shift", "_law_shift", defArgs st__law_shift, defBody st__law_shift, defScope st__law_shift, [], []⟩, ⟨("_law_turns", none), "_law_turns", "_law_turns", defArgs st__law_turns, defBody st__law_turns, defScope st__law_turns, [], []⟩, ⟨("law", none), "law", "law", defArgs st_law, defBody st_law, defScope st_law, [], []⟩]
def xss : List Str := ["InvalidRow"]
def xvs : List PySem.XS.XV := [some ("__init__", "InvalidRow.__init__", defArgs sx_InvalidRow, .stmts (defBody sx_InvalidRow), defScope sx_InvalidRow, mainGlobals, ["__class__"], .none, builtinsNs)]
def exl (K : PySem.W.Frag) : List Bool := [PySem.XS.xB K P "InvalidRow" "row" "InvalidRow.__init__", He.xfB1 K (He.ga K "InvalidRow") "row", He.kitB1 K (He.ga K "InvalidRow") (.ref (He.ga K "InvalidRow")) true]
def exb (K : PySem.W.Frag) : Bool := (exl K).all id
abbrev Row : PySem.W.OpenRow := PySem.W.OpenLaw.row PySem.Challenge.rw_leapcard_k01_turns_and_mirrors
abbrev hk : PySem.W.Hook := He.hookL 6 fas fns xss xvs exb
def ob (s : PySem.W.SharedT) : He.AlL := He.obsLG 6 fas fns xss exb (HandSHeadRun.getT s)
theorem ob_eq (s : PySem.W.SharedT) : ob s = hk.obs s.abs := He.obsLG_eq (HandSHeadRun.getT_eq s)
def loose : List Str := ["LeapError", "InvalidRow", "SIGNS", "check_row", "mirror", "turned", "least_turn", "_law_cell", "_law_box", "_law_take", "_law_text", "_law_belongs", "_law_string", "_law_alphabet", "_law_size", "_law_bent", "_law_row", "_law_shift", "_law_moved", "_law_image", "_law_turns", "_law_mirrors", "_law_least", "_law_call", "_law_refuses"]
theorem run (w : World) : HandSHeadRun.RunEq Row (PySem.W.view Row.prog [28]) hk ob 4000 loose w := by
  intro os
  kernel_rfl
theorem fs_ok {K : PySem.W.Frag} {h : Heap} {mg : Str → Option Value} (X : K.In h) (G : h.Ns mainGlobals mg) (c : He.SaysL fas fns xss xvs exb K) : Fs K mg := by
  have e : ∀ i : Nat, (exl K)[i]? = none ∨ (exl K)[i]? = some true := fun i => by
    cases q : (exl K)[i]? with
    | none => exact .inl rfl
    | some b => exact .inr (congrArg some (List.all_eq_true.mp c.more b (List.mem_of_getElem? q)))
  have e : ∀ (i : Nat) {b : Bool}, (exl K)[i]? = some b → b = true := fun i b q => by rcases e i with z | z <;> rw [q] at z <;> cases z <;> rfl
  exact {
    b_int := He.free_ok X G (c.fact 23 (f := .free "int") rfl)
    b_isinstance := He.free_ok X G (c.fact 24 (f := .free "isinstance") rfl)
    b_len := He.free_ok X G (c.fact 25 (f := .free "len") rfl)
    b_min := He.free_ok X G (c.fact 26 (f := .free "min") rfl)
    b_range := He.free_ok X G (c.fact 27 (f := .free "range") rfl)
    b_str := He.free_ok X G (c.fact 28 (f := .free "str") rfl)
    b_sum := He.free_ok X G (c.fact 29 (f := .free "sum") rfl)
    s_SIGNS := He.str_ok X G (c.fact 30 (f := .str "SIGNS" "#.:ABCDabcd") rfl)
    b_super := He.free_ok X G (c.fact 31 (f := .free "super") rfl)
    c_InvalidRow := He.glo_ok X G (c.fact 32 (f := .glo "InvalidRow") rfl)
    c_LeapError := He.glo_ok X G (c.fact 33 (f := .glo "LeapError") rfl)
    mt_LeapError := fun k b h => match k, h with | 0, h => by cases h; exact He.exm_ok (c.fact 34 (f := .exm "InvalidRow" "LeapError" true) rfl) | _ + 1, h => by cases h
    xf_row := fun k h => match k, h with | 0, _ => He.xfB1_ok (e 1 rfl) | _ + 1, h => by cases h
    xi_InvalidRow := fun k b h => match k, h with | 0, h => by cases h; exact He.kitB1_ok (e 2 rfl) | _ + 1, h => by cases h
    x_InvalidRow := PySem.XS.xtxt_ok (params := defArgs sx_InvalidRow) (bd := defBody sx_InvalidRow) (scope := defScope sx_InvalidRow) (pl := _) (c.xv_ 0) (e 0 rfl) rfl rfl (by decide) (by decide) rfl rfl (fun _ _ _ _ _ _ _ s y v => BindsTo.of_eq rfl) rfl rfl rfl (by decide +kernel) rfl rfl rfl rfl (fun fd fI hs w L v ⟨y, t, e1, e2⟩ => by subst e1; exact PySem.XS.msg_repr (by rw [hs]; rfl) (by rw [hs]; rfl) (by decide) e2) (fun env => rfl) (fun env => rfl) (fun env => rfl)
  }
theorem ends {w : World} {K : PySem.W.Frag} {h : Heap} {mg : Str → Option Value} {f : Addr} (X : K.In h) (G : h.Ns mainGlobals mg) (hf : mg ("law" : Str) = some (.ref f)) (c : He.SaysL fas fns xss xvs exb K) :
    ∃ fd : FuncData, (∀ (s : Shared) (v : Value), BindsTo s fd ⟨[v], []⟩ [("script", v)]) ∧ ∀ base : Heap, K.In base → base.Ns mainGlobals mg → FnOk P w K mg base (L2.CX P w) 6 f fd ["script"] (spF (Gof K) K [false] 6 m_law) := by
  have T := fs_ok X G c
  obtain ⟨fd__law_take, D__law_take⟩ := c.def_ 0 (d := ⟨("_law_take", none), "_law_take", "_law_take", defArgs st__law_take, defBody st__law_take, defScope st__law_take, [], []⟩) rfl
  have c__law_take := fun base : Heap => k__law_take (w := w) (base := base) T D__law_take (He.glo_ok X G (c.fact 0 (f := .glo "_law_take") rfl))
  obtain ⟨fd__law_bent, D__law_bent⟩ := c.def_ 1 (d := ⟨("_law_bent", none), "_law_bent", "_law_bent", defArgs st__law_bent, defBody st__law_bent, defScope st__law_bent, [], []⟩) rfl
  have c__law_bent := fun base : Heap => k__law_bent (w := w) (base := base) T (c__law_take base) D__law_bent (He.glo_ok X G (c.fact 1 (f := .glo "_law_bent") rfl))
  obtain ⟨fd__law_cell, D__law_cell⟩ := c.def_ 2 (d := ⟨("_law_cell", none), "_law_cell", "_law_cell", defArgs st__law_cell, defBody st__law_cell, defScope st__law_cell, [], []⟩) rfl
  have c__law_cell := fun base : Heap => k__law_cell (w := w) (base := base) T D__law_cell (He.glo_ok X G (c.fact 2 (f := .glo "_law_cell") rfl))
  obtain ⟨fd__law_box, D__law_box⟩ := c.def_ 3 (d := ⟨("_law_box", none), "_law_box", "_law_box", defArgs st__law_box, defBody st__law_box, defScope st__law_box, [], []⟩) rfl
  have c__law_box := fun base : Heap => k__law_box (w := w) (base := base) T (c__law_cell base) D__law_box (He.glo_ok X G (c.fact 3 (f := .glo "_law_box") rfl))
  obtain ⟨fd__law_moved, D__law_moved⟩ := c.def_ 4 (d := ⟨("_law_moved", none), "_law_moved", "_law_moved", defArgs st__law_moved, defBody st__law_moved, defScope st__law_moved, [], []⟩) rfl
  have c__law_moved := fun base : Heap => k__law_moved (w := w) (base := base) T D__law_moved (He.glo_ok X G (c.fact 4 (f := .glo "_law_moved") rfl))
  obtain ⟨fd__law_text, D__law_text⟩ := c.def_ 5 (d := ⟨("_law_text", none), "_law_text", "_law_text", defArgs st__law_text, defBody st__law_text, defScope st__law_text, [], []⟩) rfl
  have cw__law_text := fun base : Heap => kw__law_text (w := w) (base := base) T D__law_text (He.glo_ok X G (c.fact 5 (f := .glo "_law_text") rfl))
  have c__law_text := fun base : Heap => k__law_text (w := w) (base := base) T D__law_text (He.glo_ok X G (c.fact 5 (f := .glo "_law_text") rfl))
  obtain ⟨fd_check_row, D_check_row⟩ := c.def_ 6 (d := ⟨("check_row", none), "check_row", "check_row", defArgs st_check_row, defBody st_check_row, defScope st_check_row, [], []⟩) rfl
  have c_check_row := fun base : Heap => k_check_row (w := w) (base := base) T D_check_row (He.glo_ok X G (c.fact 6 (f := .glo "check_row") rfl))
  obtain ⟨fd_least_turn, D_least_turn⟩ := c.def_ 7 (d := ⟨("least_turn", none), "least_turn", "least_turn", defArgs st_least_turn, defBody st_least_turn, defScope st_least_turn, [], []⟩) rfl
  have c_least_turn := fun base : Heap => k_least_turn (w := w) (base := base) T (c_check_row base) D_least_turn (He.glo_ok X G (c.fact 7 (f := .glo "least_turn") rfl))
  obtain ⟨fd__law_least, D__law_least⟩ := c.def_ 8 (d := ⟨("_law_least", none), "_law_least", "_law_least", defArgs st__law_least, defBody st__law_least, defScope st__law_least, [], []⟩) rfl
  have c__law_least := fun base : Heap => k__law_least (w := w) (base := base) T (c__law_moved base) (c__law_text base) (cw__law_text base) (c_least_turn base) D__law_least (He.glo_ok X G (c.fact 8 (f := .glo "_law_least") rfl))
  obtain ⟨fd__law_image, D__law_image⟩ := c.def_ 9 (d := ⟨("_law_image", none), "_law_image", "_law_image", defArgs st__law_image, defBody st__law_image, defScope st__law_image, [], []⟩) rfl
  have c__law_image := fun base : Heap => k__law_image (w := w) (base := base) T D__law_image (He.glo_ok X G (c.fact 9 (f := .glo "_law_image") rfl))
  obtain ⟨fd_mirror, D_mirror⟩ := c.def_ 10 (d := ⟨("mirror", none), "mirror", "mirror", defArgs st_mirror, defBody st_mirror, defScope st_mirror, [], []⟩) rfl
  have c_mirror := fun base : Heap => k_mirror (w := w) (base := base) T (c_check_row base) D_mirror (He.glo_ok X G (c.fact 10 (f := .glo "mirror") rfl))
  obtain ⟨fd_turned, D_turned⟩ := c.def_ 11 (d := ⟨("turned", none), "turned", "turned", defArgs st_turned, defBody st_turned, defScope st_turned, [], []⟩) rfl
  have c_turned := fun base : Heap => k_turned (w := w) (base := base) T (c_check_row base) D_turned (He.glo_ok X G (c.fact 11 (f := .glo "turned") rfl))
  obtain ⟨fd__law_mirrors, D__law_mirrors⟩ := c.def_ 12 (d := ⟨("_law_mirrors", none), "_law_mirrors", "_law_mirrors", defArgs st__law_mirrors, defBody st__law_mirrors, defScope st__law_mirrors, [], []⟩) rfl
  have c__law_mirrors := fun base : Heap => k__law_mirrors (w := w) (base := base) T (c__law_image base) (c__law_moved base) (c__law_text base) (cw__law_text base) (c_mirror base) (c_turned base) D__law_mirrors (He.glo_ok X G (c.fact 12 (f := .glo "_law_mirrors") rfl))
  obtain ⟨fd__law_call, D__law_call⟩ := c.def_ 13 (d := ⟨("_law_call", none), "_law_call", "_law_call", defArgs st__law_call, defBody st__law_call, defScope st__law_call, [], []⟩) rfl
  have c__law_call := fun base : Heap => k__law_call (w := w) (base := base) T (c_least_turn base) (c_mirror base) (c_turned base) D__law_call (He.glo_ok X G (c.fact 13 (f := .glo "_law_call") rfl))
  obtain ⟨fd__law_refuses, D__law_refuses⟩ := c.def_ 14 (d := ⟨("_law_refuses", none), "_law_refuses", "_law_refuses", defArgs st__law_refuses, defBody st__law_refuses, defScope st__law_refuses, [], []⟩) rfl
  have c__law_refuses := fun base : Heap => k__law_refuses (w := w) (base := base) T (c__law_call base) (c__law_text base) (cw__law_text base) D__law_refuses (He.glo_ok X G (c.fact 14 (f := .glo "_law_refuses") rfl))
  obtain ⟨fd__law_belongs, D__law_belongs⟩ := c.def_ 15 (d := ⟨("_law_belongs", none), "_law_belongs", "_law_belongs", defArgs st__law_belongs, defBody st__law_belongs, defScope st__law_belongs, [], []⟩) rfl
  have c__law_belongs := fun base : Heap => k__law_belongs (w := w) (base := base) T D__law_belongs (He.glo_ok X G (c.fact 15 (f := .glo "_law_belongs") rfl))
  obtain ⟨fd__law_string, D__law_string⟩ := c.def_ 16 (d := ⟨("_law_string", none), "_law_string", "_law_string", defArgs st__law_string, defBody st__law_string, defScope st__law_string, [], []⟩) rfl
  have c__law_string := fun base : Heap => k__law_string (w := w) (base := base) T (c__law_belongs base) D__law_string (He.glo_ok X G (c.fact 16 (f := .glo "_law_string") rfl))
  obtain ⟨fd__law_alphabet, D__law_alphabet⟩ := c.def_ 17 (d := ⟨("_law_alphabet", none), "_law_alphabet", "_law_alphabet", defArgs st__law_alphabet, defBody st__law_alphabet, defScope st__law_alphabet, [], []⟩) rfl
  have c__law_alphabet := fun base : Heap => k__law_alphabet (w := w) (base := base) T (c__law_string base) (c__law_take base) D__law_alphabet (He.glo_ok X G (c.fact 17 (f := .glo "_law_alphabet") rfl))
  obtain ⟨fd__law_size, D__law_size⟩ := c.def_ 18 (d := ⟨("_law_size", none), "_law_size", "_law_size", defArgs st__law_size, defBody st__law_size, defScope st__law_size, [], []⟩) rfl
  have c__law_size := fun base : Heap => k__law_size (w := w) (base := base) T (c__law_take base) D__law_size (He.glo_ok X G (c.fact 18 (f := .glo "_law_size") rfl))
  obtain ⟨fd__law_row, D__law_row⟩ := c.def_ 19 (d := ⟨("_law_row", none), "_law_row", "_law_row", defArgs st__law_row, defBody st__law_row, defScope st__law_row, [], []⟩) rfl
  have c__law_row := fun base : Heap => k__law_row (w := w) (base := base) T (c__law_alphabet base) (c__law_box base) (c__law_size base) (c__law_take base) D__law_row (He.glo_ok X G (c.fact 19 (f := .glo "_law_row") rfl))
  obtain ⟨fd__law_shift, D__law_shift⟩ := c.def_ 20 (d := ⟨("_law_shift", none), "_law_shift", "_law_shift", defArgs st__law_shift, defBody st__law_shift, defScope st__law_shift, [], []⟩) rfl
  have c__law_shift := fun base : Heap => k__law_shift (w := w) (base := base) T (c__law_take base) D__law_shift (He.glo_ok X G (c.fact 20 (f := .glo "_law_shift") rfl))
  obtain ⟨fd__law_turns, D__law_turns⟩ := c.def_ 21 (d := ⟨("_law_turns", none), "_law_turns", "_law_turns", defArgs st__law_turns, defBody st__law_turns, defScope st__law_turns, [], []⟩) rfl
  have c__law_turns := fun base : Heap => k__law_turns (w := w) (base := base) T (c__law_moved base) (c__law_text base) (cw__law_text base) (c_turned base) D__law_turns (He.glo_ok X G (c.fact 21 (f := .glo "_law_turns") rfl))
  obtain ⟨fd_law, D_law⟩ := c.def_ 22 (d := ⟨("law", none), "law", "law", defArgs st_law, defBody st_law, defScope st_law, [], []⟩) rfl
  have hq := hf.symm.trans (He.glo_ok X G (c.fact 22 (f := .glo "law") rfl))
  cases hq
  have b := FunD.bindsA (ps := ["script"]) D_law fun _ _ _ _ _ _ us hl => match us, hl with | [_], _ => rfl
  exact ⟨fd_law, fun s v => b s [v] rfl, fun base _ _ => fnD_ok D_law sc_law rfl rfl (fun cdv A outer s H E hr Ac oG oK => d_law T (c__law_bent base) (c__law_box base) (c__law_least base) (c__law_mirrors base) (c__law_refuses base) (c__law_row base) (c__law_shift base) (c__law_turns base) cdv A outer s H E hr Ac oG oK)⟩
end K01
end Lc
end
section
set_option Elab.async false
set_option linter.all false
set_option maxRecDepth 100000
set_option maxHeartbeats 4000000
namespace Lc
namespace K01
open PySem L2
/-- a box: what is drawn from -/
def boxD (a b c : Int) : D := .nd .lst .own [.int a, .int b, .int c]
theorem okMul_mod {x n j : Int} (h : 0 < n) (h2 : n < 18446744073709551616) : okMul (x % n) j = true := by
  have h3 := Int.emod_nonneg x (show n ≠ 0 by omega)
  have h4 := Int.emod_lt_of_pos x h
  have e : decide (-(2 ^ 64) < x % n ∧ x % n < 2 ^ 64) = true := decide_eq_true ⟨by omega, by omega⟩
  rw [okMul, e]
  rfl
theorem okMul_c {i j : Int} (h : -18446744073709551616 < j) (h2 : j < 18446744073709551616) : okMul i j = true := by
  have e : decide (-(2 ^ 64) < j ∧ j < 2 ^ 64) = true := decide_eq_true ⟨by omega, by omega⟩
  rw [okMul, e, Bool.or_true]
  rfl
theorem take0 (a b c m : Int) (ha : 0 < a) (hm : 0 < m) (hm2 : m.natAbs.log2 < 9000) : F__law_take [boxD a b c, .int m] = .ret (.int (a % m)) [boxD (a / m) b c] := by
  simp [F__law_take, m__law_take, ha, hm, hm2, runF, eAnd, sExpr, tNotT, chgs, initC, inits, locks, boxD, sSeq, sIf, sSetI, sSet, sRet, sExpr, tOfE, tTru, tNotT, tAndT, tOrT, truth, eOp, eArgs, eN, eC, eIx, eMv, eCall, lockE, unlockE, unlocks, valsOf, val, getP, noOwn, noOwnL, ixAt, ixN, fGt, fGe, fLt, fLe, fOr, fII, gB, gMod, gDiv, gAdd, gSub, gMul, okDiv, okMul_mod, fAdd, fMul, fCatS, fInt1, nodeAt, fSetL, mutAt, Mut.ok, setJs, lkOk, chgOf, updC, updS, setP, pick, outs, noBor, noBorL, dropAl, Ctx.kr, Chg.dead, strip, keepJ, sNx, bor, borL, List.range, List.range.loop, okM, okB, rootsM]
def mix1 (b c : Int) : Int := (c * 48271 + (b + 1) * 69623 + 12347) % 2147483647
def mix2 (b c : Int) : Int := (mix1 b c * mix1 b c + (b + 1) * 40709) % 2147483629
def mix3 (b c : Int) : Int := (mix2 b c * mix2 b c + c * 7919 + 31) % 2147483587
theorem take1 (a b c m : Int) (ha : ¬ 0 < a) (hm : 0 < m) : F__law_take [boxD a b c, .int m] = .ret (.int (mix3 b c / 32 % m)) [boxD a (b + 1) c] := by
  have hl : Nat.log2 32 < 9000 := by decide
  simp [F__law_take, m__law_take, ha, hm, mix1, mix2, mix3, okMul_c, hl, runF, eAnd, sExpr, tNotT, chgs, initC, inits, locks, boxD, sSeq, sIf, sSetI, sSet, sRet, sExpr, tOfE, tTru, tNotT, tAndT, tOrT, truth, eOp, eArgs, eN, eC, eIx, eMv, eCall, lockE, unlockE, unlocks, valsOf, val, getP, noOwn, noOwnL, ixAt, ixN, fGt, fGe, fLt, fLe, fOr, fII, gB, gMod, gDiv, gAdd, gSub, gMul, okDiv, okMul_mod, fAdd, fMul, fCatS, fInt1, nodeAt, fSetL, mutAt, Mut.ok, setJs, lkOk, chgOf, updC, updS, setP, pick, outs, noBor, noBorL, dropAl, Ctx.kr, Chg.dead, strip, keepJ, sNx, bor, borL, List.range, List.range.loop, okM, okB, rootsM]
/-- a drawn number -/
theorem take (a b c m : Int) (hm : 0 < m) (hm2 : m.natAbs.log2 < 9000) : ∃ r a' b', F__law_take [boxD a b c, .int m] = .ret (.int r) [boxD a' b' c] ∧ 0 ≤ r ∧ r < m := by
  by_cases ha : 0 < a
  · exact ⟨_, _, _, take0 a b c m ha hm hm2, Int.emod_nonneg _ (by omega), Int.emod_lt_of_pos _ hm⟩
  · exact ⟨_, _, _, take1 a b c m ha hm, Int.emod_nonneg _ (by omega), Int.emod_lt_of_pos _ hm⟩

/-! ### the program's functions on rows of signs -/
def SG : List Nat := [35, 46, 58, 65, 66, 67, 68, 97, 98, 99, 100]
def SgOk (s : List Nat) : Prop := ∀ c ∈ s, c ∈ SG
def bodyC : Ctx → SR := sIf (tOfE (eOp fNin [eN 2, eN 1])) (sRaise 0 "row" okx_InvalidRow (eN 0)) (sNx)
theorem check_step (s : List Nat) (c : Nat) : bodyC ⟨[.v (.str s), .v (.str SG), .v (.str [c])], []⟩ = if c ∈ SG then .nx ⟨[.v (.str s), .v (.str SG), .v (.str [c])], []⟩ else if okx_InvalidRow (.str s) then .exc 0 "row" (.str s) ⟨[.v (.str s), .v (.str SG), .v (.str [c])], []⟩ else .bad := by
  by_cases h : c ∈ SG
  · simp [bodyC, h, fNin, pNot, inS, fB2, runF, eAnd, sExpr, tNotT, chgs, initC, inits, locks, boxD, sSeq, sIf, sSetI, sSet, sRet, sExpr, tOfE, tTru, tNotT, tAndT, tOrT, truth, eOp, eArgs, eN, eC, eIx, eMv, eCall, lockE, unlockE, unlocks, valsOf, val, getP, noOwn, noOwnL, ixAt, ixN, fGt, fGe, fLt, fLe, fOr, fII, gB, gMod, gDiv, gAdd, gSub, gMul, okDiv, okMul_mod, fAdd, fMul, fCatS, fInt1, nodeAt, fSetL, mutAt, Mut.ok, setJs, lkOk, chgOf, updC, updS, setP, pick, outs, noBor, noBorL, dropAl, Ctx.kr, Chg.dead, strip, keepJ, sNx, bor, borL, List.range, List.range.loop, okM, okB, rootsM]
  · by_cases h2 : okx_InvalidRow (.str s) = true
    · simp [bodyC, h, h2, fNin, pNot, inS, fB2, sRaise, runF, eAnd, sExpr, tNotT, chgs, initC, inits, locks, boxD, sSeq, sIf, sSetI, sSet, sRet, sExpr, tOfE, tTru, tNotT, tAndT, tOrT, truth, eOp, eArgs, eN, eC, eIx, eMv, eCall, lockE, unlockE, unlocks, valsOf, val, getP, noOwn, noOwnL, ixAt, ixN, fGt, fGe, fLt, fLe, fOr, fII, gB, gMod, gDiv, gAdd, gSub, gMul, okDiv, okMul_mod, fAdd, fMul, fCatS, fInt1, nodeAt, fSetL, mutAt, Mut.ok, setJs, lkOk, chgOf, updC, updS, setP, pick, outs, noBor, noBorL, dropAl, Ctx.kr, Chg.dead, strip, keepJ, sNx, bor, borL, List.range, List.range.loop, okM, okB, rootsM]
    · simp [bodyC, h, h2, fNin, pNot, inS, fB2, sRaise, runF, eAnd, sExpr, tNotT, chgs, initC, inits, locks, boxD, sSeq, sIf, sSetI, sSet, sRet, sExpr, tOfE, tTru, tNotT, tAndT, tOrT, truth, eOp, eArgs, eN, eC, eIx, eMv, eCall, lockE, unlockE, unlocks, valsOf, val, getP, noOwn, noOwnL, ixAt, ixN, fGt, fGe, fLt, fLe, fOr, fII, gB, gMod, gDiv, gAdd, gSub, gMul, okDiv, okMul_mod, fAdd, fMul, fCatS, fInt1, nodeAt, fSetL, mutAt, Mut.ok, setJs, lkOk, chgOf, updC, updS, setP, pick, outs, noBor, noBorL, dropAl, Ctx.kr, Chg.dead, strip, keepJ, sNx, bor, borL, List.range, List.range.loop, okM, okB, rootsM]
theorem bind2 (a b y d : D) (hd : Lc.noOwn d = true) : bindT (.n 2) d ⟨[.v a, .v b, .v y], []⟩ = some ⟨[.v a, .v b, .v d], []⟩ := by
  simp [bindT, hd, runF, eAnd, sExpr, tNotT, chgs, initC, inits, locks, boxD, sSeq, sIf, sSetI, sSet, sRet, sExpr, tOfE, tTru, tNotT, tAndT, tOrT, truth, eOp, eArgs, eN, eC, eIx, eMv, eCall, lockE, unlockE, unlocks, valsOf, val, getP, noOwn, noOwnL, ixAt, ixN, fGt, fGe, fLt, fLe, fOr, fII, gB, gMod, gDiv, gAdd, gSub, gMul, okDiv, okMul_mod, fAdd, fMul, fCatS, fInt1, nodeAt, fSetL, mutAt, Mut.ok, setJs, lkOk, chgOf, updC, updS, setP, pick, outs, noBor, noBorL, dropAl, Ctx.kr, Chg.dead, strip, keepJ, sNx, bor, borL, List.range, List.range.loop, okM, okB, rootsM]
theorem bind2n (a b d : D) (hd : Lc.noOwn d = true) : bindT (.n 2) d ⟨[.v a, .v b, .no], []⟩ = some ⟨[.v a, .v b, .v d], []⟩ := by
  simp [bindT, hd, runF, eAnd, sExpr, tNotT, chgs, initC, inits, locks, boxD, sSeq, sIf, sSetI, sSet, sRet, sExpr, tOfE, tTru, tNotT, tAndT, tOrT, truth, eOp, eArgs, eN, eC, eIx, eMv, eCall, lockE, unlockE, unlocks, valsOf, val, getP, noOwn, noOwnL, ixAt, ixN, fGt, fGe, fLt, fLe, fOr, fII, gB, gMod, gDiv, gAdd, gSub, gMul, okDiv, okMul_mod, fAdd, fMul, fCatS, fInt1, nodeAt, fSetL, mutAt, Mut.ok, setJs, lkOk, chgOf, updC, updS, setP, pick, outs, noBor, noBorL, dropAl, Ctx.kr, Chg.dead, strip, keepJ, sNx, bor, borL, List.range, List.range.loop, okM, okB, rootsM]
theorem check_loop (s : List Nat) : ∀ (l : List Nat) (y : D), SgOk l → ∃ y', forLoop (.n 2) bodyC (l.map fun c => .str [c]) ⟨[.v (.str s), .v (.str SG), .v y], []⟩ = .nx ⟨[.v (.str s), .v (.str SG), .v y'], []⟩
  | [], y, _ => ⟨y, by simp [forLoop]⟩
  | c :: l, y, h => by
    obtain ⟨y', e⟩ := check_loop s l (.str [c]) fun x hx => h x (List.mem_cons_of_mem _ hx)
    refine ⟨y', ?_⟩
    rw [List.map_cons, forLoop, bind2 _ _ _ _ rfl]
    dsimp only
    rw [check_step, if_pos (h c (List.mem_cons_self ..))]
    exact e
theorem check_ok (s : List Nat) (h : SgOk s) : F_check_row [.str s, .str SG] = .ret .non [] := by
  have key : ∃ y, forLoop (.n 2) bodyC (s.map fun c => .str [c]) ⟨[.v (.str s), .v (.str SG), .no], []⟩ = .nx ⟨[.v (.str s), .v (.str SG), y], []⟩ := by
    cases s with
    | nil => exact ⟨.no, by simp [forLoop]⟩
    | cons c l =>
      obtain ⟨y', e⟩ := check_loop (c :: l) l (.str [c]) fun x hx => h x (List.mem_cons_of_mem _ hx)
      refine ⟨.v y', ?_⟩
      rw [List.map_cons, forLoop, bind2n _ _ _ rfl]
      dsimp only
      rw [check_step, if_pos (h c (List.mem_cons_self ..))]
      exact e
  obtain ⟨y, e⟩ := key
  have e0 : m_check_row = sFor (itE (eN 0)) (.n 2) bodyC := rfl
  simp only [F_check_row, runF, e0, sFor]
  have e1 : itE (eN 0) (initC [false, false] 1 [.str s, .str SG]) = .ok (s.map fun c => .str [c]) ⟨[.v (.str s), .v (.str SG), .no], []⟩ := by
    simp [itE, itemsOf, runF, eAnd, sExpr, tNotT, chgs, initC, inits, locks, boxD, sSeq, sIf, sSetI, sSet, sRet, sExpr, tOfE, tTru, tNotT, tAndT, tOrT, truth, eOp, eArgs, eN, eC, eIx, eMv, eCall, lockE, unlockE, unlocks, valsOf, val, getP, noOwn, noOwnL, ixAt, ixN, fGt, fGe, fLt, fLe, fOr, fII, gB, gMod, gDiv, gAdd, gSub, gMul, okDiv, okMul_mod, fAdd, fMul, fCatS, fInt1, nodeAt, fSetL, mutAt, Mut.ok, setJs, lkOk, chgOf, updC, updS, setP, pick, outs, noBor, noBorL, dropAl, Ctx.kr, Chg.dead, strip, keepJ, sNx, bor, borL, List.range, List.range.loop, okM, okB, rootsM]
  rw [e1]
  dsimp only
  rw [e]
  simp [runF, eAnd, sExpr, tNotT, chgs, initC, inits, locks, boxD, sSeq, sIf, sSetI, sSet, sRet, sExpr, tOfE, tTru, tNotT, tAndT, tOrT, truth, eOp, eArgs, eN, eC, eIx, eMv, eCall, lockE, unlockE, unlocks, valsOf, val, getP, noOwn, noOwnL, ixAt, ixN, fGt, fGe, fLt, fLe, fOr, fII, gB, gMod, gDiv, gAdd, gSub, gMul, okDiv, okMul_mod, fAdd, fMul, fCatS, fInt1, nodeAt, fSetL, mutAt, Mut.ok, setJs, lkOk, chgOf, updC, updS, setP, pick, outs, noBor, noBorL, dropAl, Ctx.kr, Chg.dead, strip, keepJ, sNx, bor, borL, List.range, List.range.loop, okM, okB, rootsM]
theorem check_badL (s : List Nat) (hk : okx_InvalidRow (.str s) = true) : ∀ (l : List Nat) (y : D), ¬ SgOk l → ∃ y', forLoop (.n 2) bodyC (l.map fun c => .str [c]) ⟨[.v (.str s), .v (.str SG), .v y], []⟩ = .exc 0 "row" (.str s) ⟨[.v (.str s), .v (.str SG), .v y'], []⟩
  | [], y, h => (h fun c hc => by cases hc).elim
  | c :: l, y, h => by
    by_cases hc : c ∈ SG
    · obtain ⟨y', e⟩ := check_badL s hk l (.str [c]) fun x => h fun z hz => by
        rcases List.mem_cons.mp hz with rfl | hz
        · exact hc
        · exact x z hz
      refine ⟨y', ?_⟩
      rw [List.map_cons, forLoop, bind2 _ _ _ _ rfl]
      dsimp only
      rw [check_step, if_pos hc]
      exact e
    · refine ⟨.str [c], ?_⟩
      rw [List.map_cons, forLoop, bind2 _ _ _ _ rfl]
      dsimp only
      rw [check_step, if_neg hc, if_pos hk]
theorem check_bad (s : List Nat) (h : ¬ SgOk s) (hk : okx_InvalidRow (.str s) = true) : F_check_row [.str s, .str SG] = .exc 0 "row" (.str s) [] := by
  have key : ∃ y, forLoop (.n 2) bodyC (s.map fun c => .str [c]) ⟨[.v (.str s), .v (.str SG), .no], []⟩ = .exc 0 "row" (.str s) ⟨[.v (.str s), .v (.str SG), y], []⟩ := by
    cases s with
    | nil => exact (h fun c hc => by cases hc).elim
    | cons c l =>
      by_cases hc : c ∈ SG
      · obtain ⟨y', e⟩ := check_badL (c :: l) hk l (.str [c]) fun x => h fun z hz => by
          rcases List.mem_cons.mp hz with rfl | hz
          · exact hc
          · exact x z hz
        refine ⟨.v y', ?_⟩
        rw [List.map_cons, forLoop, bind2n _ _ _ rfl]
        dsimp only
        rw [check_step, if_pos hc]
        exact e
      · refine ⟨.v (.str [c]), ?_⟩
        rw [List.map_cons, forLoop, bind2n _ _ _ rfl]
        dsimp only
        rw [check_step, if_neg hc, if_pos hk]
  obtain ⟨y, e⟩ := key
  have e0 : m_check_row = sFor (itE (eN 0)) (.n 2) bodyC := rfl
  simp only [F_check_row, runF, e0, sFor]
  have e1 : itE (eN 0) (initC [false, false] 1 [.str s, .str SG]) = .ok (s.map fun c => .str [c]) ⟨[.v (.str s), .v (.str SG), .no], []⟩ := by
    simp [itE, itemsOf, runF, eAnd, sExpr, tNotT, chgs, initC, inits, locks, boxD, sSeq, sIf, sSetI, sSet, sRet, sExpr, tOfE, tTru, tNotT, tAndT, tOrT, truth, eOp, eArgs, eN, eC, eIx, eMv, eCall, lockE, unlockE, unlocks, valsOf, val, getP, noOwn, noOwnL, ixAt, ixN, fGt, fGe, fLt, fLe, fOr, fII, gB, gMod, gDiv, gAdd, gSub, gMul, okDiv, okMul_mod, fAdd, fMul, fCatS, fInt1, nodeAt, fSetL, mutAt, Mut.ok, setJs, lkOk, chgOf, updC, updS, setP, pick, outs, noBor, noBorL, dropAl, Ctx.kr, Chg.dead, strip, keepJ, sNx, bor, borL, List.range, List.range.loop, okM, okB, rootsM]
  rw [e1]
  dsimp only
  rw [e]
  simp [runF, eAnd, sExpr, tNotT, chgs, initC, inits, locks, boxD, sSeq, sIf, sSetI, sSet, sRet, sExpr, tOfE, tTru, tNotT, tAndT, tOrT, truth, eOp, eArgs, eN, eC, eIx, eMv, eCall, lockE, unlockE, unlocks, valsOf, val, getP, noOwn, noOwnL, ixAt, ixN, fGt, fGe, fLt, fLe, fOr, fII, gB, gMod, gDiv, gAdd, gSub, gMul, okDiv, okMul_mod, fAdd, fMul, fCatS, fInt1, nodeAt, fSetL, mutAt, Mut.ok, setJs, lkOk, chgOf, updC, updS, setP, pick, outs, noBor, noBorL, dropAl, Ctx.kr, Chg.dead, strip, keepJ, sNx, bor, borL, List.range, List.range.loop, okM, okB, rootsM]

theorem check_okL (s : List Nat) (h : SgOk s) : F_check_row [.str s, .str [35, 46, 58, 65, 66, 67, 68, 97, 98, 99, 100]] = .ret .non [] := check_ok s h
theorem check_badX (s : List Nat) (h : ¬ SgOk s) (hk : okx_InvalidRow (.str s) = true) : F_check_row [.str s, .str [35, 46, 58, 65, 66, 67, 68, 97, 98, 99, 100]] = .exc 0 "row" (.str s) [] := check_bad s h hk
theorem cut_d (s : List Nat) (i : Int) (h : 0 ≤ i) (h2 : i ≤ s.length) : cut s (some i) none = s.drop i.toNat := by
  have : HT.sIx s.length 0 (some i) = i.toNat := by
    show (if i < 0 then (i + (s.length : Int)).toNat else min i.toNat s.length) = _
    rw [if_neg (by omega)]; omega
  rw [cut, this]
  show List.take (s.length - i.toNat) (s.drop i.toNat) = _
  exact List.take_of_length_le (by rw [List.length_drop]; omega)
theorem cut_t (s : List Nat) (i : Int) (h : 0 ≤ i) (h2 : i ≤ s.length) : cut s none (some i) = s.take i.toNat := by
  have : HT.sIx s.length s.length (some i) = i.toNat := by
    show (if i < 0 then (i + (s.length : Int)).toNat else min i.toNat s.length) = _
    rw [if_neg (by omega)]; omega
  rw [cut, this]
  show List.take (i.toNat - 0) (s.drop 0) = _
  rfl
def rotN (s : List Nat) (i : Int) : List Nat := s.drop (i % s.length).toNat ++ s.take (i % s.length).toNat
theorem rot_nil (i : Int) : rotN [] i = [] := by simp [rotN]
theorem rot_len (s : List Nat) (i : Int) : (rotN s i).length = s.length := by
  simp only [rotN, List.length_append, List.length_drop, List.length_take]
  by_cases h : s.length = 0
  · rw [h]; simp
  · have := Int.emod_lt_of_pos i (show 0 < (s.length : Int) by omega)
    have := Int.emod_nonneg i (show (s.length : Int) ≠ 0 by omega)
    omega
theorem rot_ok (s : List Nat) (i : Int) (h : SgOk s) : SgOk (rotN s i) := fun c hc => by
  rcases List.mem_append.mp hc with hc | hc
  · exact h c (List.mem_of_mem_drop hc)
  · exact h c (List.mem_of_mem_take hc)
theorem mirror_ok (s : List Nat) (h : SgOk s) (hl : s.length ≤ 100) : F_mirror [.str s] = .ret (.str s.reverse) [] := by
  have hl2 : s.length ≤ 16777216 := by omega
  simp [F_mirror, m_mirror, check_okL s h, chgs, fRev, hl2, sExpr, runF, eAnd, sExpr, tNotT, chgs, initC, inits, locks, boxD, sSeq, sIf, sSetI, sSet, sRet, sExpr, tOfE, tTru, tNotT, tAndT, tOrT, truth, eOp, eArgs, eN, eC, eIx, eMv, eCall, lockE, unlockE, unlocks, valsOf, val, getP, noOwn, noOwnL, ixAt, ixN, fGt, fGe, fLt, fLe, fOr, fII, gB, gMod, gDiv, gAdd, gSub, gMul, okDiv, okMul_mod, fAdd, fMul, fCatS, fInt1, nodeAt, fSetL, mutAt, Mut.ok, setJs, lkOk, chgOf, updC, updS, setP, pick, outs, noBor, noBorL, dropAl, Ctx.kr, Chg.dead, strip, keepJ, sNx, bor, borL, List.range, List.range.loop, okM, okB, rootsM]
theorem mirror_bad (s : List Nat) (h : ¬ SgOk s) (hk : okx_InvalidRow (.str s) = true) : F_mirror [.str s] = .exc 0 "row" (.str s) [] := by
  simp [F_mirror, m_mirror, check_badX s h hk, chgs, sExpr, runF, eAnd, sExpr, tNotT, chgs, initC, inits, locks, boxD, sSeq, sIf, sSetI, sSet, sRet, sExpr, tOfE, tTru, tNotT, tAndT, tOrT, truth, eOp, eArgs, eN, eC, eIx, eMv, eCall, lockE, unlockE, unlocks, valsOf, val, getP, noOwn, noOwnL, ixAt, ixN, fGt, fGe, fLt, fLe, fOr, fII, gB, gMod, gDiv, gAdd, gSub, gMul, okDiv, okMul_mod, fAdd, fMul, fCatS, fInt1, nodeAt, fSetL, mutAt, Mut.ok, setJs, lkOk, chgOf, updC, updS, setP, pick, outs, noBor, noBorL, dropAl, Ctx.kr, Chg.dead, strip, keepJ, sNx, bor, borL, List.range, List.range.loop, okM, okB, rootsM]
theorem turned_ok (s : List Nat) (i : Int) (h : SgOk s) (hl : s.length ≤ 100) : F_turned [.str s, .int i] = .ret (.str (rotN s i)) [] := by
  cases s with
  | nil => simp [F_turned, m_turned, check_okL [] h, chgs, sExpr, tNotT, rot_nil, runF, eAnd, sExpr, tNotT, chgs, initC, inits, locks, boxD, sSeq, sIf, sSetI, sSet, sRet, sExpr, tOfE, tTru, tNotT, tAndT, tOrT, truth, eOp, eArgs, eN, eC, eIx, eMv, eCall, lockE, unlockE, unlocks, valsOf, val, getP, noOwn, noOwnL, ixAt, ixN, fGt, fGe, fLt, fLe, fOr, fII, gB, gMod, gDiv, gAdd, gSub, gMul, okDiv, okMul_mod, fAdd, fMul, fCatS, fInt1, nodeAt, fSetL, mutAt, Mut.ok, setJs, lkOk, chgOf, updC, updS, setP, pick, outs, noBor, noBorL, dropAl, Ctx.kr, Chg.dead, strip, keepJ, sNx, bor, borL, List.range, List.range.loop, okM, okB, rootsM]
  | cons c l =>
    have hp : (0 : Int) < ((c :: l).length : Nat) := by rw [List.length_cons]; omega
    generalize e : c :: l = s at *
    have h2 : s.length ≤ 16777216 := by omega
    have h3 : ((s.length : Nat) : Int).natAbs.log2 < 9000 := by
      rw [Int.natAbs_natCast]
      have : s.length.log2 < 10 := (Nat.log2_lt (by omega)).mpr (by omega)
      omega
    have h3 : s.length.log2 < 9000 := h3
    have h4 := Int.emod_nonneg i (show (s.length : Int) ≠ 0 by omega)
    have h5 := Int.emod_lt_of_pos i hp
    have h6 : s ≠ [] := by rw [← e]; simp
    have h7 : s.isEmpty = false := by rw [← e]; rfl
    have h8 : 0 < s.length := by omega
    have hc1 := cut_d s (i % s.length) h4 (by omega)
    have hc2 := cut_t s (i % s.length) h4 (by omega)
    have h9 : s.length - (i % (s.length : Int)).toNat + min (i % (s.length : Int)).toNat s.length ≤ 16777216 := by omega
    simp [F_turned, m_turned, check_okL s h, chgs, sExpr, tNotT, fLen, h2, h3, h6, h7, h8, hp, fSlL, fSlR, slD, hc1, hc2, h9, rotN, runF, eAnd, sExpr, tNotT, chgs, initC, inits, locks, boxD, sSeq, sIf, sSetI, sSet, sRet, sExpr, tOfE, tTru, tNotT, tAndT, tOrT, truth, eOp, eArgs, eN, eC, eIx, eMv, eCall, lockE, unlockE, unlocks, valsOf, val, getP, noOwn, noOwnL, ixAt, ixN, fGt, fGe, fLt, fLe, fOr, fII, gB, gMod, gDiv, gAdd, gSub, gMul, okDiv, okMul_mod, fAdd, fMul, fCatS, fInt1, nodeAt, fSetL, mutAt, Mut.ok, setJs, lkOk, chgOf, updC, updS, setP, pick, outs, noBor, noBorL, dropAl, Ctx.kr, Chg.dead, strip, keepJ, sNx, bor, borL, List.range, List.range.loop, okM, okB, rootsM]
theorem turned_bad (s : List Nat) (i : Int) (h : ¬ SgOk s) (hk : okx_InvalidRow (.str s) = true) : F_turned [.str s, .int i] = .exc 0 "row" (.str s) [] := by
  simp [F_turned, m_turned, check_badX s h hk, chgs, sExpr, runF, eAnd, sExpr, tNotT, chgs, initC, inits, locks, boxD, sSeq, sIf, sSetI, sSet, sRet, sExpr, tOfE, tTru, tNotT, tAndT, tOrT, truth, eOp, eArgs, eN, eC, eIx, eMv, eCall, lockE, unlockE, unlocks, valsOf, val, getP, noOwn, noOwnL, ixAt, ixN, fGt, fGe, fLt, fLe, fOr, fII, gB, gMod, gDiv, gAdd, gSub, gMul, okDiv, okMul_mod, fAdd, fMul, fCatS, fInt1, nodeAt, fSetL, mutAt, Mut.ok, setJs, lkOk, chgOf, updC, updS, setP, pick, outs, noBor, noBorL, dropAl, Ctx.kr, Chg.dead, strip, keepJ, sNx, bor, borL, List.range, List.range.loop, okM, okB, rootsM]
theorem text_is (s t : List Nat) : F__law_text [.str s, .str t] = .ret (.bl (decide (s = t))) [] := by
  simp [F__law_text, m__law_text, fIsi, tyName, kitB, fEq, eqS, fB2, runF, eAnd, sExpr, tNotT, chgs, initC, inits, locks, boxD, sSeq, sIf, sSetI, sSet, sRet, sExpr, tOfE, tTru, tNotT, tAndT, tOrT, truth, eOp, eArgs, eN, eC, eIx, eMv, eCall, lockE, unlockE, unlocks, valsOf, val, getP, noOwn, noOwnL, ixAt, ixN, fGt, fGe, fLt, fLe, fOr, fII, gB, gMod, gDiv, gAdd, gSub, gMul, okDiv, okMul_mod, fAdd, fMul, fCatS, fInt1, nodeAt, fSetL, mutAt, Mut.ok, setJs, lkOk, chgOf, updC, updS, setP, pick, outs, noBor, noBorL, dropAl, Ctx.kr, Chg.dead, strip, keepJ, sNx, bor, borL, List.range, List.range.loop, okM, okB, rootsM]

theorem cmp_map {own : List Nat} {t : Tg} {test : Ctx → TR} {elt : Ctx → ER} {c : Ctx} (f : D → D) (cx : D → Ctx) : ∀ (xs acc : List D), (∀ x ∈ xs, bindT t x c = some (cx x) ∧ test (cx x) = .ok true (cx x) ∧ elt (cx x) = .ok (.t (f x)) (cx x) ∧ freeC own (cx x) = true ∧ wipeC own (cx x) = c) → acc.length + xs.length ≤ 16777216 → cmpLoop own t test elt xs acc c = .ok (.t (.nd .lst .own (acc ++ xs.map f))) c
  | [], acc, _, _ => by simp [cmpLoop]
  | x :: xs, acc, h, hl => by
    obtain ⟨h1, h2, h3, h4, h5⟩ := h x (List.mem_cons_self ..)
    rw [List.length_cons] at hl
    have h6 : decide (acc.length < 16777216) = true := decide_eq_true (by omega)
    rw [cmpLoop, h1]
    dsimp only
    rw [h2]
    dsimp only
    rw [h3]
    dsimp only
    rw [h4, h6, h5, Bool.and_self, if_pos rfl, cmp_map f cx xs (acc ++ [f x]) (fun y hy => h y (List.mem_cons_of_mem _ hy)) (by rw [List.length_append]; simp; omega)]
    simp
theorem strs_one : ∀ l : List Nat, strsOf (l.map fun c => .str [c]) = some (l.map fun c => [c])
  | [] => rfl
  | c :: l => by rw [List.map_cons, strsOf, strs_one l]; rfl
theorem joinL_one : ∀ l : List Nat, joinL [] (l.map fun c => [c]) = l
  | [] => rfl
  | [c] => rfl
  | c :: d :: l => by
    have := joinL_one (d :: l)
    simp only [List.map_cons] at this
    simp only [List.map_cons, joinL]
    rw [this]; rfl
theorem sum_one : ∀ l : List Nat, ((l.map fun c => [c]).map (·.length)).sum = l.length
  | [] => rfl
  | c :: l => by
    have := sum_one l
    simp only [List.map_cons, List.sum_cons, List.length_cons] at this ⊢
    rw [this]
    simp; omega
theorem join_one (l : List Nat) (h : l.length ≤ 16777216) : fJoin [] [.nd .lst .own (l.map fun c => .str [c])] = some (.str l) := by
  have : (l.length : Nat) + (l.map fun c => [c]).length * ([] : List Nat).length ≤ 16777216 := by simpa using h
  simp only [fJoin, seqOf, strs_one, Option.bind_some, sum_one, joinL_one]
  rw [if_pos this]
def movF (s : List Nat) (i : Int) : D → D
  | .int j => .str [s.getD ((j + i) % s.length).toNat 0]
  | _ => .non
theorem mod_wrap {a n : Int} (h : 0 < n) (h1 : n ≤ a) (h2 : a < n + n) : a % n = a - n := by
  have e : (a - n) % n = a - n := Int.emod_eq_of_lt (by omega) (by omega)
  have e2 : (a - n + n) % n = (a - n) % n := by simp
  rw [show a - n + n = a by omega] at e2
  rw [e2, e]
theorem rot_at (s : List Nat) (i : Int) (hs : 0 < s.length) (k : Nat) (hk : k < s.length) : (rotN s i)[k]? = some (s.getD (((0 : Int) + k + i) % s.length).toNat 0) := by
  have hp : (0 : Int) < s.length := by omega
  have h4 := Int.emod_nonneg i (show (s.length : Int) ≠ 0 by omega)
  have h5 := Int.emod_lt_of_pos i hp
  have e1 : ((0 : Int) + k + i) % s.length = ((k : Int) + i % s.length) % s.length := by
    rw [show (0 : Int) + k + i = k + i by omega, Int.add_emod_emod]
  rw [e1, rotN]
  generalize i % (s.length : Int) = r at *
  by_cases h : (k : Int) + r < s.length
  · rw [Int.emod_eq_of_lt (by omega) h, List.getElem?_append_left (by rw [List.length_drop]; omega), List.getElem?_drop, List.getD_eq_getElem?_getD, show ((k : Int) + r).toNat = r.toNat + k by omega, List.getElem?_eq_getElem (by omega)]
    rfl
  · rw [mod_wrap hp (by omega) (by omega), List.getElem?_append_right (by rw [List.length_drop]; omega), List.length_drop, List.getElem?_take_of_lt (by omega), List.getD_eq_getElem?_getD, show ((k : Int) + r - s.length).toNat = k - (s.length - r.toNat) by omega, List.getElem?_eq_getElem (by omega)]
    rfl
theorem rot_map (s : List Nat) (i : Int) : ((List.range s.length).map fun (k : Nat) => D.int (0 + k)).map (movF s i) = (rotN s i).map fun c => .str [c] := by
  rw [List.map_map]
  refine List.ext_getElem? fun k => ?_
  rw [List.getElem?_map, List.getElem?_map]
  by_cases hk : k < s.length
  · rw [List.getElem?_range hk, rot_at s i (by omega) k hk]
    rfl
  · rw [List.getElem?_eq_none (by simp; omega), List.getElem?_eq_none (by rw [rot_len]; omega)]
    rfl
theorem at_get (s : List Nat) (i : Int) (h : 0 ≤ i) (h2 : i < s.length) : atI s i = some (s.getD i.toNat 0) := by
  have e : ixN s.length i = some i.toNat := by rw [ixN, if_pos h, if_pos h2]
  have h3 : i.toNat < s.length := by omega
  rw [atI, e, Option.bind_some, List.getD_eq_getElem?_getD, List.getElem?_eq_getElem h3]
  rfl
theorem moved_elt (s : List Nat) (i j : Int) (hs : 0 < s.length) (hl : s.length ≤ 100) : eIx (eN 0) (eOp (fII gMod) [eOp fInt1 [eOp fAdd [eN 3, eN 1]], eN 2]) ⟨[.v (.str s), .v (.int i), .v (.int s.length), .v (.int j)], []⟩ = .ok (.t (movF s i (.int j))) ⟨[.v (.str s), .v (.int i), .v (.int s.length), .v (.int j)], []⟩ := by
  have hp : (0 : Int) < s.length := by omega
  have h2 : s.length ≤ 16777216 := by omega
  have h3 : s.length.log2 < 9000 := by
    have : s.length.log2 < 10 := (Nat.log2_lt (by omega)).mpr (by omega)
    omega
  have h4 := Int.emod_nonneg (j + i) (show (s.length : Int) ≠ 0 by omega)
  have h5 := Int.emod_lt_of_pos (j + i) hp
  have h6 := at_get s _ h4 h5
  simp [movF, h2, h3, h6, hs, runF, eAnd, sExpr, tNotT, chgs, initC, inits, locks, boxD, sSeq, sIf, sSetI, sSet, sRet, sExpr, tOfE, tTru, tNotT, tAndT, tOrT, truth, eOp, eArgs, eN, eC, eIx, eMv, eCall, lockE, unlockE, unlocks, valsOf, val, getP, noOwn, noOwnL, ixAt, ixN, fGt, fGe, fLt, fLe, fOr, fII, gB, gMod, gDiv, gAdd, gSub, gMul, okDiv, okMul_mod, fAdd, fMul, fCatS, fInt1, nodeAt, fSetL, mutAt, Mut.ok, setJs, lkOk, chgOf, updC, updS, setP, pick, outs, noBor, noBorL, dropAl, Ctx.kr, Chg.dead, strip, keepJ, sNx, bor, borL, List.range, List.range.loop, okM, okB, rootsM]
theorem okR_len {n : Nat} (h : n ≤ 100) : okR (n : Int) = true := by
  have h1 : (n : Int) ≤ 100 := by omega
  have h0 : (0 : Int) ≤ n := by omega
  have : -(2 ^ 62) ≤ (n : Int) ∧ (n : Int) < 2 ^ 62 := ⟨Int.le_trans (by decide) h0, Int.lt_of_le_of_lt h1 (by decide)⟩
  exact decide_eq_true this
theorem moved_key (s : List Nat) (i : Int) (hl : s.length ≤ 100) : cmpLoop [3] (.n 3) (fun c => .ok true c) (eIx (eN 0) (eOp (fII gMod) [eOp fInt1 [eOp fAdd [eN 3, eN 1]], eN 2])) ((List.range s.length).map fun (k : Nat) => .int (0 + k)) [] ⟨[.v (.str s), .v (.int i), .v (.int s.length), .no], []⟩ = .ok (.t (.nd .lst .own ((rotN s i).map fun c => .str [c]))) ⟨[.v (.str s), .v (.int i), .v (.int s.length), .no], []⟩ := by
  have hlen : ([] : List D).length + ((List.range s.length).map fun (k : Nat) => D.int (0 + k)).length ≤ 16777216 := by
    rw [List.length_map, List.length_range, List.length_nil]; omega
  have e := cmp_map (own := [3]) (t := .n 3) (test := fun c => .ok true c) (elt := eIx (eN 0) (eOp (fII gMod) [eOp fInt1 [eOp fAdd [eN 3, eN 1]], eN 2])) (c := ⟨[.v (.str s), .v (.int i), .v (.int s.length), .no], []⟩) (movF s i) (fun x => ⟨[.v (.str s), .v (.int i), .v (.int s.length), .v x], []⟩) ((List.range s.length).map fun (k : Nat) => .int (0 + k)) [] (fun x hx => by
      obtain ⟨k, hk, rfl⟩ := List.mem_map.mp hx
      have hk := List.mem_range.mp hk
      refine ⟨?_, rfl, moved_elt s i _ (by omega) hl, rfl, ?_⟩
      · simp [bindT, runF, eAnd, sExpr, tNotT, chgs, initC, inits, locks, boxD, sSeq, sIf, sSetI, sSet, sRet, sExpr, tOfE, tTru, tNotT, tAndT, tOrT, truth, eOp, eArgs, eN, eC, eIx, eMv, eCall, lockE, unlockE, unlocks, valsOf, val, getP, noOwn, noOwnL, ixAt, ixN, fGt, fGe, fLt, fLe, fOr, fII, gB, gMod, gDiv, gSub, gMul, okDiv, okMul_mod, fCatS, fInt1, nodeAt, fSetL, mutAt, Mut.ok, setJs, lkOk, chgOf, updC, updS, setP, pick, outs, noBor, noBorL, dropAl, Ctx.kr, Chg.dead, strip, keepJ, sNx, bor, borL, okM, okB, rootsM]
      · simp [wipeC, runF, eAnd, sExpr, tNotT, chgs, initC, inits, locks, boxD, sSeq, sIf, sSetI, sSet, sRet, sExpr, tOfE, tTru, tNotT, tAndT, tOrT, truth, eOp, eArgs, eN, eC, eIx, eMv, eCall, lockE, unlockE, unlocks, valsOf, val, getP, noOwn, noOwnL, ixAt, ixN, fGt, fGe, fLt, fLe, fOr, fII, gB, gMod, gDiv, gSub, gMul, okDiv, okMul_mod, fCatS, fInt1, nodeAt, fSetL, mutAt, Mut.ok, setJs, lkOk, chgOf, updC, updS, setP, pick, outs, noBor, noBorL, dropAl, Ctx.kr, Chg.dead, strip, keepJ, sNx, bor, borL, okM, okB, rootsM]) hlen
  rw [e, rot_map, List.nil_append]
theorem fR1_n {n : Nat} (h : n ≤ 100) : fR1 [.int n] = some ((List.range n).map fun (k : Nat) => .int (0 + k)) := by
  have e := okR_len h
  unfold fR1
  dsimp only
  generalize okR (n : Int) = b at *
  rw [e, if_pos rfl, Int.toNat_natCast]
theorem itA_is {f : List D → Option (List D)} {m : Ctx → ER} {c : Ctx} {d : D} {xs : List D} (h : eArgs [m] c = .ok [.t d] c) (e : f [d] = some xs) : itA f [m] c = .ok xs c := by
  have e1 : valsOf c [.t d] = some [d] := rfl
  unfold itA
  rw [h]
  dsimp only
  rw [e1]
  dsimp only
  rw [e]
  rfl
theorem itR1 {m : Ctx → ER} {c : Ctx} {n : Nat} (h : eArgs [m] c = .ok [.t (.int n)] c) (hl : n ≤ 100) : itA fR1 [m] c = .ok ((List.range n).map fun (k : Nat) => .int (0 + k)) c := itA_is h (fR1_n hl)
theorem eCmp_is {own : List Nat} {it : Ctx → IR} {t : Tg} {test : Ctx → TR} {elt : Ctx → ER} {c : Ctx} {xs : List D} {r : ER} (h : it c = .ok xs c) (hf : freeC own c = true) (hw : wipeC own c = c) (hr : cmpLoop own t test elt xs [] c = r) : eCmp own it t test elt c = r := by
  rw [eCmp, h]
  dsimp only
  rw [hf, hw, if_pos rfl, hr]
theorem eSM_join {m : Ctx → ER} {c c1 : Ctx} {l : List Nat} (h : m c = .ok (.t (.nd .lst .own (l.map fun c => .str [c]))) c1) (hl : l.length ≤ 16777216) : eSM fJoin (eC (.str [])) [m] c = .ok (.t (.str l)) c1 := by
  have e1 : eC (.str []) c = .ok (.t (.str [])) c := rfl
  have e2 : eArgs [m] c = .ok [.t (.nd .lst .own (l.map fun c => .str [c]))] c1 := by simp [eArgs, h, lockE]
  unfold eSM
  rw [e1]
  dsimp only
  rw [e2]
  dsimp only
  have e3 : valsOf c1 [.t (.nd .lst .own (l.map fun c => .str [c]))] = some [.nd .lst .own (l.map fun c => .str [c])] := rfl
  rw [e3]
  dsimp only
  rw [join_one l hl]
  rfl
theorem moved_is (s : List Nat) (i : Int) (hl : s.length ≤ 100) : F__law_moved [.str s, .int i] = .ret (.str (rotN s i)) [] := by
  have h2 : s.length ≤ 16777216 := by omega
  have e1 : itA fR1 [eN 2] ⟨[.v (.str s), .v (.int i), .v (.int s.length), .no], []⟩ = .ok ((List.range s.length).map fun (k : Nat) => .int (0 + k)) ⟨[.v (.str s), .v (.int i), .v (.int s.length), .no], []⟩ := itR1 (by simp [runF, eAnd, sExpr, tNotT, chgs, initC, inits, locks, boxD, sSeq, sIf, sSetI, sSet, sRet, sExpr, tOfE, tTru, tNotT, tAndT, tOrT, truth, eOp, eArgs, eN, eC, eIx, eMv, eCall, lockE, unlockE, unlocks, valsOf, val, getP, noOwn, noOwnL, ixAt, ixN, fGt, fGe, fLt, fLe, fOr, fII, gB, gMod, gDiv, gSub, gMul, okDiv, okMul_mod, fCatS, fInt1, nodeAt, fSetL, mutAt, Mut.ok, setJs, lkOk, chgOf, updC, updS, setP, pick, outs, noBor, noBorL, dropAl, Ctx.kr, Chg.dead, strip, keepJ, sNx, bor, borL, okM, okB, rootsM]) hl
  have e2 := eCmp_is e1 (own := [3]) rfl (by simp [wipeC, runF, eAnd, sExpr, tNotT, chgs, initC, inits, locks, boxD, sSeq, sIf, sSetI, sSet, sRet, sExpr, tOfE, tTru, tNotT, tAndT, tOrT, truth, eOp, eArgs, eN, eC, eIx, eMv, eCall, lockE, unlockE, unlocks, valsOf, val, getP, noOwn, noOwnL, ixAt, ixN, fGt, fGe, fLt, fLe, fOr, fII, gB, gMod, gDiv, gSub, gMul, okDiv, okMul_mod, fCatS, fInt1, nodeAt, fSetL, mutAt, Mut.ok, setJs, lkOk, chgOf, updC, updS, setP, pick, outs, noBor, noBorL, dropAl, Ctx.kr, Chg.dead, strip, keepJ, sNx, bor, borL, okM, okB, rootsM]) (moved_key s i hl)
  have e3 := eSM_join e2 (by rw [rot_len]; omega)
  have e4 : m__law_moved = sSeq (sSet 2 (eOp fLen [eN 0])) (sRet (eSM fJoin (eC (.str [])) [eCmp [3] (itA fR1 [eN 2]) (.n 3) (fun c => .ok true c) (eIx (eN 0) (eOp (fII gMod) [eOp fInt1 [eOp fAdd [eN 3, eN 1]], eN 2]))])) := rfl
  have e5 : sSet 2 (eOp fLen [eN 0]) (initC [false, false] 2 [.str s, .int i]) = .nx ⟨[.v (.str s), .v (.int i), .v (.int s.length), .no], []⟩ := by
    simp [fLen, h2, runF, eAnd, sExpr, tNotT, chgs, initC, inits, locks, boxD, sSeq, sIf, sSetI, sSet, sRet, sExpr, tOfE, tTru, tNotT, tAndT, tOrT, truth, eOp, eArgs, eN, eC, eIx, eMv, eCall, lockE, unlockE, unlocks, valsOf, val, getP, noOwn, noOwnL, ixAt, ixN, fGt, fGe, fLt, fLe, fOr, fII, gB, gMod, gDiv, gSub, gMul, okDiv, okMul_mod, fCatS, fInt1, nodeAt, fSetL, mutAt, Mut.ok, setJs, lkOk, chgOf, updC, updS, setP, pick, outs, noBor, noBorL, dropAl, Ctx.kr, Chg.dead, strip, keepJ, sNx, bor, borL, okM, okB, rootsM]
  have e6 : m__law_moved (initC [false, false] 2 [.str s, .int i]) = .rt (.str (rotN s i)) ⟨[.v (.str s), .v (.int i), .v (.int s.length), .no], []⟩ := by
    rw [e4, sSeq, e5]
    dsimp only
    rw [sRet, e3]
  unfold F__law_moved runF
  rw [e6]
  rfl
def imF (s : List Nat) : D → D
  | .int j => .str [s.getD ((s.length : Int) - 1 - j).toNat 0]
  | _ => .non
theorem im_map (s : List Nat) : ((List.range s.length).map fun (k : Nat) => D.int (0 + k)).map (imF s) = s.reverse.map fun c => .str [c] := by
  rw [List.map_map]
  refine List.ext_getElem? fun k => ?_
  rw [List.getElem?_map, List.getElem?_map]
  by_cases hk : k < s.length
  · rw [List.getElem?_range hk, List.getElem?_reverse hk, List.getElem?_eq_getElem (by omega)]
    show some (D.str [s.getD ((s.length : Int) - 1 - (0 + k)).toNat 0]) = _
    rw [show ((s.length : Int) - 1 - (0 + k)).toNat = s.length - 1 - k by omega, List.getD_eq_getElem?_getD, List.getElem?_eq_getElem (by omega)]
    rfl
  · rw [List.getElem?_eq_none (by simp; omega), List.getElem?_eq_none (by simp; omega)]
    rfl
theorem image_elt (s : List Nat) (k : Nat) (hk : k < s.length) (hl : s.length ≤ 100) : eIx (eN 0) (eOp (fII gSub) [eOp (fII gSub) [eOp fLen [eN 0], eC (.int 1)], eN 1]) ⟨[.v (.str s), .v (.int (0 + k))], []⟩ = .ok (.t (imF s (.int (0 + k)))) ⟨[.v (.str s), .v (.int (0 + k))], []⟩ := by
  have h2 : s.length ≤ 16777216 := by omega
  have h6 := at_get s ((s.length : Int) - 1 - (0 + k)) (by omega) (by omega)
  generalize (0 : Int) + k = j at *
  simp [imF, h2, h6, fLen, runF, eAnd, sExpr, tNotT, chgs, initC, inits, locks, boxD, sSeq, sIf, sSetI, sSet, sRet, sExpr, tOfE, tTru, tNotT, tAndT, tOrT, truth, eOp, eArgs, eN, eC, eIx, eMv, eCall, lockE, unlockE, unlocks, valsOf, val, getP, noOwn, noOwnL, ixAt, ixN, fGt, fGe, fLt, fLe, fOr, fII, gB, gMod, gDiv, gSub, gMul, okDiv, okMul_mod, fCatS, fInt1, nodeAt, fSetL, mutAt, Mut.ok, setJs, lkOk, chgOf, updC, updS, setP, pick, outs, noBor, noBorL, dropAl, Ctx.kr, Chg.dead, strip, keepJ, sNx, bor, borL, okM, okB, rootsM]
theorem image_key (s : List Nat) (hl : s.length ≤ 100) : cmpLoop [1] (.n 1) (fun c => .ok true c) (eIx (eN 0) (eOp (fII gSub) [eOp (fII gSub) [eOp fLen [eN 0], eC (.int 1)], eN 1])) ((List.range s.length).map fun (k : Nat) => .int (0 + k)) [] ⟨[.v (.str s), .no], []⟩ = .ok (.t (.nd .lst .own (s.reverse.map fun c => .str [c]))) ⟨[.v (.str s), .no], []⟩ := by
  have hlen : ([] : List D).length + ((List.range s.length).map fun (k : Nat) => D.int (0 + k)).length ≤ 16777216 := by
    rw [List.length_map, List.length_range, List.length_nil]; omega
  have e := cmp_map (own := [1]) (t := .n 1) (test := fun c => .ok true c) (elt := eIx (eN 0) (eOp (fII gSub) [eOp (fII gSub) [eOp fLen [eN 0], eC (.int 1)], eN 1])) (c := ⟨[.v (.str s), .no], []⟩) (imF s) (fun x => ⟨[.v (.str s), .v x], []⟩) ((List.range s.length).map fun (k : Nat) => .int (0 + k)) [] (fun x hx => by
      obtain ⟨k, hk, rfl⟩ := List.mem_map.mp hx
      have hk := List.mem_range.mp hk
      refine ⟨?_, rfl, image_elt s k hk hl, rfl, ?_⟩
      · simp [bindT, runF, eAnd, sExpr, tNotT, chgs, initC, inits, locks, boxD, sSeq, sIf, sSetI, sSet, sRet, sExpr, tOfE, tTru, tNotT, tAndT, tOrT, truth, eOp, eArgs, eN, eC, eIx, eMv, eCall, lockE, unlockE, unlocks, valsOf, val, getP, noOwn, noOwnL, ixAt, ixN, fGt, fGe, fLt, fLe, fOr, fII, gB, gMod, gDiv, gSub, gMul, okDiv, okMul_mod, fCatS, fInt1, nodeAt, fSetL, mutAt, Mut.ok, setJs, lkOk, chgOf, updC, updS, setP, pick, outs, noBor, noBorL, dropAl, Ctx.kr, Chg.dead, strip, keepJ, sNx, bor, borL, okM, okB, rootsM]
      · simp [wipeC, runF, eAnd, sExpr, tNotT, chgs, initC, inits, locks, boxD, sSeq, sIf, sSetI, sSet, sRet, sExpr, tOfE, tTru, tNotT, tAndT, tOrT, truth, eOp, eArgs, eN, eC, eIx, eMv, eCall, lockE, unlockE, unlocks, valsOf, val, getP, noOwn, noOwnL, ixAt, ixN, fGt, fGe, fLt, fLe, fOr, fII, gB, gMod, gDiv, gSub, gMul, okDiv, okMul_mod, fCatS, fInt1, nodeAt, fSetL, mutAt, Mut.ok, setJs, lkOk, chgOf, updC, updS, setP, pick, outs, noBor, noBorL, dropAl, Ctx.kr, Chg.dead, strip, keepJ, sNx, bor, borL, okM, okB, rootsM]) hlen
  rw [e, im_map, List.nil_append]
theorem image_is (s : List Nat) (hl : s.length ≤ 100) : F__law_image [.str s] = .ret (.str s.reverse) [] := by
  have h2 : s.length ≤ 16777216 := by omega
  have e1 : itA fR1 [eOp fLen [eN 0]] ⟨[.v (.str s), .no], []⟩ = .ok ((List.range s.length).map fun (k : Nat) => .int (0 + k)) ⟨[.v (.str s), .no], []⟩ := itR1 (by simp [fLen, h2, runF, eAnd, sExpr, tNotT, chgs, initC, inits, locks, boxD, sSeq, sIf, sSetI, sSet, sRet, sExpr, tOfE, tTru, tNotT, tAndT, tOrT, truth, eOp, eArgs, eN, eC, eIx, eMv, eCall, lockE, unlockE, unlocks, valsOf, val, getP, noOwn, noOwnL, ixAt, ixN, fGt, fGe, fLt, fLe, fOr, fII, gB, gMod, gDiv, gSub, gMul, okDiv, okMul_mod, fCatS, fInt1, nodeAt, fSetL, mutAt, Mut.ok, setJs, lkOk, chgOf, updC, updS, setP, pick, outs, noBor, noBorL, dropAl, Ctx.kr, Chg.dead, strip, keepJ, sNx, bor, borL, okM, okB, rootsM]) hl
  have e2 := eCmp_is e1 (own := [1]) rfl (by simp [wipeC, runF, eAnd, sExpr, tNotT, chgs, initC, inits, locks, boxD, sSeq, sIf, sSetI, sSet, sRet, sExpr, tOfE, tTru, tNotT, tAndT, tOrT, truth, eOp, eArgs, eN, eC, eIx, eMv, eCall, lockE, unlockE, unlocks, valsOf, val, getP, noOwn, noOwnL, ixAt, ixN, fGt, fGe, fLt, fLe, fOr, fII, gB, gMod, gDiv, gSub, gMul, okDiv, okMul_mod, fCatS, fInt1, nodeAt, fSetL, mutAt, Mut.ok, setJs, lkOk, chgOf, updC, updS, setP, pick, outs, noBor, noBorL, dropAl, Ctx.kr, Chg.dead, strip, keepJ, sNx, bor, borL, okM, okB, rootsM]) (image_key s hl)
  have e3 := eSM_join e2 (by rw [List.length_reverse]; omega)
  have e4 : m__law_image = sRet (eSM fJoin (eC (.str [])) [eCmp [1] (itA fR1 [eOp fLen [eN 0]]) (.n 1) (fun c => .ok true c) (eIx (eN 0) (eOp (fII gSub) [eOp (fII gSub) [eOp fLen [eN 0], eC (.int 1)], eN 1]))]) := rfl
  have e6 : m__law_image (initC [false] 1 [.str s]) = .rt (.str s.reverse) ⟨[.v (.str s), .no], []⟩ := by
    rw [e4, sRet, show initC [false] 1 [.str s] = ⟨[.v (.str s), .no], []⟩ from rfl, e3]
  unfold F__law_image runF
  rw [e6]
  rfl

/-! ### rotations, the least one -/
theorem rot_get (s : List Nat) (i : Int) (k : Nat) (hk : k < s.length) : (rotN s i).getD k 0 = s.getD (((k : Int) + i) % s.length).toNat 0 := by
  rw [List.getD_eq_getElem?_getD, rot_at s i (by omega) k hk, show (0 : Int) + k + i = k + i by omega]
  rfl
theorem rot_rot (s : List Nat) (i j : Int) : rotN (rotN s i) j = rotN s (i + j) := by
  refine List.ext_getElem? fun k => ?_
  by_cases hk : k < s.length
  · have hk' : k < (rotN s i).length := by rw [rot_len]; exact hk
    have hp : (0 : Int) < s.length := by omega
    rw [rot_at _ j (by omega) k hk', rot_at s (i + j) (by omega) k hk, rot_len]
    have h4 := Int.emod_nonneg ((0 : Int) + k + j) (show (s.length : Int) ≠ 0 by omega)
    have h5 := Int.emod_lt_of_pos ((0 : Int) + k + j) hp
    rw [rot_get s i _ (by omega), Int.toNat_of_nonneg h4, Int.emod_add_emod, show (0 : Int) + k + j + i = 0 + k + (i + j) by omega]
  · rw [List.getElem?_eq_none (by rw [rot_len, rot_len]; omega), List.getElem?_eq_none (by rw [rot_len]; omega)]
theorem rot_mod (s : List Nat) (i : Int) : rotN s (i % s.length) = rotN s i := by
  rw [rotN, rotN, Int.emod_emod_of_dvd i (Int.dvd_refl _)]
theorem rot_zero (s : List Nat) : rotN s 0 = s := by simp [rotN]
theorem rot_mul (s : List Nat) (k : Int) : rotN s (k * s.length) = s := by
  rw [← rot_mod, Int.mul_emod_left, rot_zero]
theorem lt_anti {a b : List Nat} (h1 : ¬ a < b) (h2 : ¬ b < a) : a = b := List.le_antisymm (List.not_lt.mp h2) (List.not_lt.mp h1)
theorem minS_mem : ∀ (xs : List (List Nat)) (x : List Nat), minS x xs = x ∨ minS x xs ∈ xs
  | [], x => .inl rfl
  | y :: ys, x => by
    have e : minS x (y :: ys) = minS (if y < x then y else x) ys := rfl
    rw [e]
    rcases minS_mem ys (if y < x then y else x) with h | h
    · by_cases c : y < x
      · rw [if_pos c] at h ⊢
        exact .inr (by rw [h]; exact List.mem_cons_self ..)
      · rw [if_neg c] at h ⊢
        exact .inl h
    · exact .inr (List.mem_cons_of_mem _ h)
theorem minS_le : ∀ (xs : List (List Nat)) (x : List Nat), minS x xs ≤ x ∧ ∀ y ∈ xs, minS x xs ≤ y
  | [], x => ⟨List.le_refl _, fun y h => by cases h⟩
  | y :: ys, x => by
    have e : minS x (y :: ys) = minS (if y < x then y else x) ys := rfl
    rw [e]
    obtain ⟨h1, h2⟩ := minS_le ys (if y < x then y else x)
    by_cases c : y < x
    · rw [if_pos c] at h1 h2 ⊢
      exact ⟨List.le_trans h1 (List.le_of_lt c), fun z hz => by
        rcases List.mem_cons.mp hz with rfl | hz
        · exact h1
        · exact h2 z hz⟩
    · rw [if_neg c] at h1 h2 ⊢
      exact ⟨h1, fun z hz => by
        rcases List.mem_cons.mp hz with rfl | hz
        · exact List.le_trans h1 (List.not_lt.mp c)
        · exact h2 z hz⟩
/-- the least of the turns -/
def lstT (s : List Nat) : List Nat := minS s ((List.range s.length).map fun (k : Nat) => rotN s (k : Int))
theorem lst_mem (s : List Nat) : ∃ i : Int, lstT s = rotN s i := by
  rcases minS_mem ((List.range s.length).map fun (k : Nat) => rotN s (k : Int)) s with h | h
  · exact ⟨0, h.trans (rot_zero s).symm⟩
  · obtain ⟨k, _, e⟩ := List.mem_map.mp h
    exact ⟨k, e.symm⟩
theorem lst_le (s : List Nat) (i : Int) : lstT s ≤ rotN s i := by
  cases h : s.length with
  | zero =>
    have : s = [] := List.length_eq_zero_iff.mp h
    subst this
    rw [rot_nil]
    show ([] : List Nat) ≤ []
    exact List.le_refl _
  | succ n =>
    rw [← rot_mod]
    have h4 := Int.emod_nonneg i (show (s.length : Int) ≠ 0 by omega)
    have h5 := Int.emod_lt_of_pos i (show (0 : Int) < s.length by omega)
    refine (minS_le _ s).2 _ (List.mem_map.mpr ⟨(i % s.length).toNat, List.mem_range.mpr (by omega), ?_⟩)
    rw [Int.toNat_of_nonneg h4]
theorem lst_rot (s : List Nat) (i : Int) : lstT (rotN s i) = lstT s := by
  obtain ⟨a, ha⟩ := lst_mem s
  obtain ⟨b, hb⟩ := lst_mem (rotN s i)
  refine List.le_antisymm ?_ ?_
  · have := lst_le (rotN s i) (a - i)
    rw [rot_rot, show i + (a - i) = a by omega, ← ha] at this
    exact this
  · have := lst_le s (i + b)
    rw [← rot_rot, ← hb] at this
    exact this

theorem strsOf_map : ∀ xs : List (List Nat), strsOf (xs.map .str) = some xs
  | [] => rfl
  | x :: xs => by rw [List.map_cons, strsOf, strsOf_map xs]; rfl
theorem fMin_strs (x : List Nat) (xs : List (List Nat)) : fMin [.nd .lst .own ((x :: xs).map .str)] = some (.str (minS x xs)) := by
  have h := strsOf_map (x :: xs)
  have h1 : fMin2 [.nd .lst .own ((x :: xs).map .str)] = none := rfl
  have h2 : fMinL [.nd .lst .own ((x :: xs).map .str)] = none := rfl
  have h3 : fMinS [.nd .lst .own ((x :: xs).map .str)] = some (.str (minS x xs)) := by
    rw [fMinS, listOf]
    dsimp only
    rw [h]
  rw [fMin, fOr, h1]
  dsimp only
  rw [fOr, h2]
  exact h3
def ltF (s : List Nat) : D → D
  | .int j => .str (rotN s j)
  | _ => .non
theorem least_elt (s : List Nat) (k : Nat) (hk : k < s.length) (hl : s.length ≤ 100) : eOp fAdd [eOp fSlL [eN 0, eN 1], eOp fSlR [eN 0, eN 1]] ⟨[.v (.str s), .v (.int (0 + k))], []⟩ = .ok (.t (ltF s (.int (0 + k)))) ⟨[.v (.str s), .v (.int (0 + k))], []⟩ := by
  have h2 : s.length ≤ 16777216 := by omega
  have hc1 := cut_d s (0 + k) (by omega) (by omega)
  have hc2 := cut_t s (0 + k) (by omega) (by omega)
  have hm : ((0 : Int) + k) % s.length = 0 + k := Int.emod_eq_of_lt (by omega) (by omega)
  have h9 : s.length - ((0 : Int) + k).toNat + min ((0 : Int) + k).toNat s.length ≤ 16777216 := by omega
  generalize (0 : Int) + k = j at *
  simp [ltF, rotN, fSlL, fSlR, slD, h2, hc1, hc2, hm, h9, runF, eAnd, sExpr, tNotT, chgs, initC, inits, locks, boxD, sSeq, sIf, sSetI, sSet, sRet, sExpr, tOfE, tTru, tNotT, tAndT, tOrT, truth, eOp, eArgs, eN, eC, eIx, eMv, eCall, lockE, unlockE, unlocks, valsOf, val, getP, noOwn, noOwnL, ixAt, ixN, fGt, fGe, fLt, fLe, fOr, fII, gB, gMod, gDiv, gAdd, gSub, gMul, okDiv, okMul_mod, fAdd, fMul, fCatS, fInt1, nodeAt, fSetL, mutAt, Mut.ok, setJs, lkOk, chgOf, updC, updS, setP, pick, outs, noBor, noBorL, dropAl, Ctx.kr, Chg.dead, strip, keepJ, sNx, bor, borL, List.range, List.range.loop, okM, okB, rootsM]
theorem lt_map (s : List Nat) : ((List.range s.length).map fun (k : Nat) => D.int (0 + k)).map (ltF s) = ((List.range s.length).map fun (k : Nat) => rotN s (k : Int)).map .str := by
  rw [List.map_map, List.map_map]
  refine List.map_congr_left fun k _ => ?_
  show D.str (rotN s (0 + k)) = .str (rotN s k)
  rw [show (0 : Int) + k = k by omega]
theorem least_key (s : List Nat) (hl : s.length ≤ 100) : cmpLoop [1] (.n 1) (fun c => .ok true c) (eOp fAdd [eOp fSlL [eN 0, eN 1], eOp fSlR [eN 0, eN 1]]) ((List.range s.length).map fun (k : Nat) => .int (0 + k)) [] ⟨[.v (.str s), .no], []⟩ = .ok (.t (.nd .lst .own (((List.range s.length).map fun (k : Nat) => rotN s (k : Int)).map .str))) ⟨[.v (.str s), .no], []⟩ := by
  have hlen : ([] : List D).length + ((List.range s.length).map fun (k : Nat) => D.int (0 + k)).length ≤ 16777216 := by
    rw [List.length_map, List.length_range, List.length_nil]; omega
  have e := cmp_map (own := [1]) (t := .n 1) (test := fun c => .ok true c) (elt := eOp fAdd [eOp fSlL [eN 0, eN 1], eOp fSlR [eN 0, eN 1]]) (c := ⟨[.v (.str s), .no], []⟩) (ltF s) (fun x => ⟨[.v (.str s), .v x], []⟩) ((List.range s.length).map fun (k : Nat) => .int (0 + k)) [] (fun x hx => by
      obtain ⟨k, hk, rfl⟩ := List.mem_map.mp hx
      have hk := List.mem_range.mp hk
      refine ⟨?_, rfl, least_elt s k hk hl, rfl, ?_⟩
      · simp [bindT, runF, eAnd, sExpr, tNotT, chgs, initC, inits, locks, boxD, sSeq, sIf, sSetI, sSet, sRet, sExpr, tOfE, tTru, tNotT, tAndT, tOrT, truth, eOp, eArgs, eN, eC, eIx, eMv, eCall, lockE, unlockE, unlocks, valsOf, val, getP, noOwn, noOwnL, ixAt, ixN, fGt, fGe, fLt, fLe, fOr, fII, gB, gMod, gDiv, gSub, gMul, okDiv, okMul_mod, fCatS, fInt1, nodeAt, fSetL, mutAt, Mut.ok, setJs, lkOk, chgOf, updC, updS, setP, pick, outs, noBor, noBorL, dropAl, Ctx.kr, Chg.dead, strip, keepJ, sNx, bor, borL, okM, okB, rootsM]
      · simp [wipeC, runF, eAnd, sExpr, tNotT, chgs, initC, inits, locks, boxD, sSeq, sIf, sSetI, sSet, sRet, sExpr, tOfE, tTru, tNotT, tAndT, tOrT, truth, eOp, eArgs, eN, eC, eIx, eMv, eCall, lockE, unlockE, unlocks, valsOf, val, getP, noOwn, noOwnL, ixAt, ixN, fGt, fGe, fLt, fLe, fOr, fII, gB, gMod, gDiv, gSub, gMul, okDiv, okMul_mod, fCatS, fInt1, nodeAt, fSetL, mutAt, Mut.ok, setJs, lkOk, chgOf, updC, updS, setP, pick, outs, noBor, noBorL, dropAl, Ctx.kr, Chg.dead, strip, keepJ, sNx, bor, borL, okM, okB, rootsM]) hlen
  rw [e, lt_map, List.nil_append]
theorem eOp1_is {f : List D → Option D} {m : Ctx → ER} {c c1 : Ctx} {d r : D} (h : m c = .ok (.t d) c1) (e : f [d] = some r) : eOp f [m] c = .ok (.t r) c1 := by
  have e2 : eArgs [m] c = .ok [.t d] c1 := by simp [eArgs, h, lockE]
  have e1 : valsOf c1 [.t d] = some [d] := rfl
  unfold eOp
  rw [e2]
  dsimp only
  rw [e1]
  dsimp only
  rw [e]
  rfl
theorem least_is (s : List Nat) (h : SgOk s) (hl : s.length ≤ 100) : F_least_turn [.str s] = .ret (.str (lstT s)) [] := by
  by_cases hs : s = []
  · subst hs
    simp [F_least_turn, m_least_turn, check_okL [] h, lstT, minS, runF, eAnd, sExpr, tNotT, chgs, initC, inits, locks, boxD, sSeq, sIf, sSetI, sSet, sRet, sExpr, tOfE, tTru, tNotT, tAndT, tOrT, truth, eOp, eArgs, eN, eC, eIx, eMv, eCall, lockE, unlockE, unlocks, valsOf, val, getP, noOwn, noOwnL, ixAt, ixN, fGt, fGe, fLt, fLe, fOr, fII, gB, gMod, gDiv, gSub, gMul, okDiv, okMul_mod, fCatS, fInt1, nodeAt, fSetL, mutAt, Mut.ok, setJs, lkOk, chgOf, updC, updS, setP, pick, outs, noBor, noBorL, dropAl, Ctx.kr, Chg.dead, strip, keepJ, sNx, bor, borL, okM, okB, rootsM]
  have h2 : s.length ≤ 16777216 := by omega
  have h0 : 0 < s.length := List.length_pos_iff.mpr hs
  have e1 : itA fR1 [eOp fLen [eN 0]] ⟨[.v (.str s), .no], []⟩ = .ok ((List.range s.length).map fun (k : Nat) => .int (0 + k)) ⟨[.v (.str s), .no], []⟩ := itR1 (by simp [fLen, h2, runF, eAnd, sExpr, tNotT, chgs, initC, inits, locks, boxD, sSeq, sIf, sSetI, sSet, sRet, sExpr, tOfE, tTru, tNotT, tAndT, tOrT, truth, eOp, eArgs, eN, eC, eIx, eMv, eCall, lockE, unlockE, unlocks, valsOf, val, getP, noOwn, noOwnL, ixAt, ixN, fGt, fGe, fLt, fLe, fOr, fII, gB, gMod, gDiv, gSub, gMul, okDiv, okMul_mod, fCatS, fInt1, nodeAt, fSetL, mutAt, Mut.ok, setJs, lkOk, chgOf, updC, updS, setP, pick, outs, noBor, noBorL, dropAl, Ctx.kr, Chg.dead, strip, keepJ, sNx, bor, borL, okM, okB, rootsM]) hl
  have e2 := eCmp_is e1 (own := [1]) rfl (by simp [wipeC, runF, eAnd, sExpr, tNotT, chgs, initC, inits, locks, boxD, sSeq, sIf, sSetI, sSet, sRet, sExpr, tOfE, tTru, tNotT, tAndT, tOrT, truth, eOp, eArgs, eN, eC, eIx, eMv, eCall, lockE, unlockE, unlocks, valsOf, val, getP, noOwn, noOwnL, ixAt, ixN, fGt, fGe, fLt, fLe, fOr, fII, gB, gMod, gDiv, gSub, gMul, okDiv, okMul_mod, fCatS, fInt1, nodeAt, fSetL, mutAt, Mut.ok, setJs, lkOk, chgOf, updC, updS, setP, pick, outs, noBor, noBorL, dropAl, Ctx.kr, Chg.dead, strip, keepJ, sNx, bor, borL, okM, okB, rootsM]) (least_key s hl)
  have hmin : fMin [.nd .lst .own (((List.range s.length).map fun (k : Nat) => rotN s (k : Int)).map .str)] = some (.str (lstT s)) := by
    obtain ⟨n, hn⟩ : ∃ n, s.length = n + 1 := ⟨s.length - 1, by omega⟩
    have hr : (List.range s.length).map (fun (k : Nat) => rotN s (k : Int)) = s :: (List.range n).map (fun (k : Nat) => rotN s ((k + 1 : Nat) : Int)) := by
      rw [hn, List.range_succ_eq_map, List.map_cons, List.map_map]
      show rotN s 0 :: _ = _
      rw [rot_zero]
      rfl
    rw [hr, fMin_strs, lstT, hr]
    have : minS s (s :: (List.range n).map (fun (k : Nat) => rotN s ((k + 1 : Nat) : Int))) = minS (if s < s then s else s) ((List.range n).map (fun (k : Nat) => rotN s ((k + 1 : Nat) : Int))) := rfl
    rw [this, ite_self]
  have e3 := eOp1_is e2 hmin
  have e4 : m_least_turn = sSeq (sExpr (eCall [false, false] F_check_row [eN 0, eC (.str [35, 46, 58, 65, 66, 67, 68, 97, 98, 99, 100])] [])) (sSeq (sIf (tNotT (tTru (eN 0))) (sRet (eMv 0)) (sNx)) (sRet (eOp fMin [eCmp [1] (itA fR1 [eOp fLen [eN 0]]) (.n 1) (fun c => .ok true c) (eOp fAdd [eOp fSlL [eN 0, eN 1], eOp fSlR [eN 0, eN 1]])]))) := rfl
  have e5 : sExpr (eCall [false, false] F_check_row [eN 0, eC (.str [35, 46, 58, 65, 66, 67, 68, 97, 98, 99, 100])] []) (initC [false] 1 [.str s]) = .nx ⟨[.v (.str s), .no], []⟩ := by
    simp [check_okL s h, runF, eAnd, sExpr, tNotT, chgs, initC, inits, locks, boxD, sSeq, sIf, sSetI, sSet, sRet, sExpr, tOfE, tTru, tNotT, tAndT, tOrT, truth, eOp, eArgs, eN, eC, eIx, eMv, eCall, lockE, unlockE, unlocks, valsOf, val, getP, noOwn, noOwnL, ixAt, ixN, fGt, fGe, fLt, fLe, fOr, fII, gB, gMod, gDiv, gSub, gMul, okDiv, okMul_mod, fCatS, fInt1, nodeAt, fSetL, mutAt, Mut.ok, setJs, lkOk, chgOf, updC, updS, setP, pick, outs, noBor, noBorL, dropAl, Ctx.kr, Chg.dead, strip, keepJ, sNx, bor, borL, okM, okB, rootsM]
  have e6 : sIf (tNotT (tTru (eN 0))) (sRet (eMv 0)) (sNx) ⟨[.v (.str s), .no], []⟩ = .nx ⟨[.v (.str s), .no], []⟩ := by
    have : s.isEmpty = false := by cases s <;> simp_all
    simp [this, hs, h2, runF, eAnd, sExpr, tNotT, chgs, initC, inits, locks, boxD, sSeq, sIf, sSetI, sSet, sRet, sExpr, tOfE, tTru, tNotT, tAndT, tOrT, truth, eOp, eArgs, eN, eC, eIx, eMv, eCall, lockE, unlockE, unlocks, valsOf, val, getP, noOwn, noOwnL, ixAt, ixN, fGt, fGe, fLt, fLe, fOr, fII, gB, gMod, gDiv, gSub, gMul, okDiv, okMul_mod, fCatS, fInt1, nodeAt, fSetL, mutAt, Mut.ok, setJs, lkOk, chgOf, updC, updS, setP, pick, outs, noBor, noBorL, dropAl, Ctx.kr, Chg.dead, strip, keepJ, sNx, bor, borL, okM, okB, rootsM]
  have e7 : m_least_turn (initC [false] 1 [.str s]) = .rt (.str (lstT s)) ⟨[.v (.str s), .no], []⟩ := by
    rw [e4, sSeq, e5]
    dsimp only
    rw [sSeq, e6]
    dsimp only
    rw [sRet, e3]
  unfold F_least_turn runF
  rw [e7]
  rfl
theorem least_bad (s : List Nat) (h : ¬ SgOk s) (hk : okx_InvalidRow (.str s) = true) : F_least_turn [.str s] = .exc 0 "row" (.str s) [] := by
  simp [F_least_turn, m_least_turn, check_badX s h hk, runF, eAnd, sExpr, tNotT, chgs, initC, inits, locks, boxD, sSeq, sIf, sSetI, sSet, sRet, sExpr, tOfE, tTru, tNotT, tAndT, tOrT, truth, eOp, eArgs, eN, eC, eIx, eMv, eCall, lockE, unlockE, unlocks, valsOf, val, getP, noOwn, noOwnL, ixAt, ixN, fGt, fGe, fLt, fLe, fOr, fII, gB, gMod, gDiv, gSub, gMul, okDiv, okMul_mod, fCatS, fInt1, nodeAt, fSetL, mutAt, Mut.ok, setJs, lkOk, chgOf, updC, updS, setP, pick, outs, noBor, noBorL, dropAl, Ctx.kr, Chg.dead, strip, keepJ, sNx, bor, borL, okM, okB, rootsM]

theorem okMul_len {i : Int} {n : Nat} (h : n ≤ 100) : okMul i n = true := okMul_c (by omega) (by omega)
theorem rot_p1 (s : List Nat) : rotN s s.length = s := by have := rot_mul s 1; rwa [Int.one_mul] at this
theorem rot_m1 (s : List Nat) : rotN s (-(s.length : Int)) = s := by have := rot_mul s (-1); rwa [Int.neg_one_mul] at this
theorem rot_m2 (s : List Nat) : rotN s (-(2 * (s.length : Int))) = s := by have := rot_mul s (-2); rwa [Int.neg_mul] at this
theorem rot_back (s : List Nat) (i : Int) : rotN s (i + -i) = s := by rw [show i + -i = 0 by omega, rot_zero]
theorem turns_is (s : List Nat) (a b : Int) (h : SgOk s) (hl : s.length ≤ 100) : F__law_turns [.str s, .int a, .int b] = .ret (.bl true) [] := by
  have h2 : s.length ≤ 16777216 := by omega
  have hr := rot_ok s a h
  have hl2 : (rotN s a).length ≤ 100 := by rw [rot_len]; exact hl
  have t1 := fun i => turned_ok s i h hl
  have t2 := fun i => turned_ok (rotN s a) i hr hl2
  have v1 := fun i => moved_is s i hl
  have om : ∀ i : Int, okMul i s.length = true := fun i => okMul_len hl
  simp [F__law_turns, m__law_turns, t1, t2, v1, text_is, rot_rot, rot_back, rot_p1, rot_m1, rot_m2, rot_mul, rot_zero, om, sFor, itE, eFt, eLst, allT, itemsOf, forLoop, bindT, fLen, h2, fNeg, frz, frzL, runF, eAnd, sExpr, tNotT, chgs, initC, inits, locks, boxD, sSeq, sIf, sSetI, sSet, sRet, sExpr, tOfE, tTru, tNotT, tAndT, tOrT, truth, eOp, eArgs, eN, eC, eIx, eMv, eCall, lockE, unlockE, unlocks, valsOf, val, getP, noOwn, noOwnL, ixAt, ixN, fGt, fGe, fLt, fLe, fOr, fII, gB, gMod, gDiv, gAdd, gSub, gMul, okDiv, okMul_mod, fAdd, fMul, fCatS, fInt1, nodeAt, fSetL, mutAt, Mut.ok, setJs, lkOk, chgOf, updC, updS, setP, pick, outs, noBor, noBorL, dropAl, Ctx.kr, Chg.dead, strip, keepJ, sNx, bor, borL, List.range, List.range.loop, okM, okB, rootsM]

theorem rev_rot (s : List Nat) (a : Int) : (rotN s a).reverse = rotN s.reverse (-a) := by
  refine List.ext_getElem? fun k => ?_
  by_cases hk : k < s.length
  · have hp : (0 : Int) < s.length := by omega
    rw [List.getElem?_reverse (by rw [rot_len]; exact hk), rot_len, rot_at s a (by omega) _ (by omega), rot_at s.reverse (-a) (by rw [List.length_reverse]; omega) k (by rw [List.length_reverse]; exact hk), List.length_reverse]
    have h4 := Int.emod_nonneg ((0 : Int) + k + -a) (show (s.length : Int) ≠ 0 by omega)
    have h5 := Int.emod_lt_of_pos ((0 : Int) + k + -a) hp
    have hq := Int.mul_ediv_add_emod ((0 : Int) + k + -a) s.length
    have key : ((0 : Int) + (s.length - 1 - k : Nat) + a) % s.length = s.length - 1 - ((0 : Int) + k + -a) % s.length := by
      have e : ((0 : Int) + (s.length - 1 - k : Nat) + a) = (s.length - 1 - ((0 : Int) + k + -a) % s.length) + s.length * (-(((0 : Int) + k + -a) / s.length)) := by
        rw [Int.mul_neg]
        omega
      rw [e, Int.add_mul_emod_self_left, Int.emod_eq_of_lt (by omega) (by omega)]
    rw [key]
    generalize ((0 : Int) + k + -a) % s.length = r at *
    rw [List.getD_eq_getElem?_getD, List.getD_eq_getElem?_getD, List.getElem?_reverse (by omega), show ((s.length : Int) - 1 - r).toNat = s.length - 1 - r.toNat by omega]
  · rw [List.getElem?_eq_none (by rw [List.length_reverse, rot_len]; omega), List.getElem?_eq_none (by rw [rot_len, List.length_reverse]; omega)]
theorem mirrors_is (s : List Nat) (a : Int) (h : SgOk s) (hl : s.length ≤ 100) : F__law_mirrors [.str s, .int a] = .ret (.bl true) [] := by
  have h2 : s.length ≤ 16777216 := by omega
  have hv : SgOk s.reverse := fun c hc => h c (List.mem_reverse.mp hc)
  have hv2 : s.reverse.length ≤ 100 := by rw [List.length_reverse]; exact hl
  have m1 := mirror_ok s h hl
  have m2 := mirror_ok _ hv hv2
  have m3 := mirror_ok _ (rot_ok s a h) (by rw [rot_len]; exact hl)
  have t1 := fun i => turned_ok s i h hl
  have t2 := fun i => turned_ok _ i hv hv2
  have v1 := fun i => moved_is s i hl
  have v2 := fun i => moved_is _ i hv2
  have i1 := image_is s hl
  have i2 := image_is (rotN s a) (by rw [rot_len]; exact hl)
  rw [rev_rot] at m3 i2
  simp [F__law_mirrors, m__law_mirrors, m1, m2, m3, t1, t2, v1, v2, i1, i2, text_is, rev_rot, runF, eAnd, sExpr, tNotT, chgs, initC, inits, locks, boxD, sSeq, sIf, sSetI, sSet, sRet, sExpr, tOfE, tTru, tNotT, tAndT, tOrT, truth, eOp, eArgs, eN, eC, eIx, eMv, eCall, lockE, unlockE, unlocks, valsOf, val, getP, noOwn, noOwnL, ixAt, ixN, fGt, fGe, fLt, fLe, fOr, fII, gB, gMod, gDiv, gAdd, gSub, gMul, okDiv, okMul_mod, fAdd, fMul, fCatS, fInt1, nodeAt, fSetL, mutAt, Mut.ok, setJs, lkOk, chgOf, updC, updS, setP, pick, outs, noBor, noBorL, dropAl, Ctx.kr, Chg.dead, strip, keepJ, sNx, bor, borL, List.range, List.range.loop, okM, okB, rootsM]
def sl : Option D → Sl
  | none => .no
  | some d => .v d
def bodyL : Ctx → SR := sSeq (sSet 5 (eCall [false, false] F__law_moved [eN 0, eN 4] [])) (sIf (tOfE (eOp fLt [eN 5, eN 3])) (sSet 3 (eN 5)) (sNx))
theorem least_step (s best : List Nat) (a b k : Int) (y : Option D) (hl : s.length ≤ 100) : bodyL ⟨[.v (.str s), .v (.int a), .v (.int b), .v (.str best), .v (.int k), sl y], []⟩ = .nx ⟨[.v (.str s), .v (.int a), .v (.int b), .v (.str (if rotN s k < best then rotN s k else best)), .v (.int k), .v (.str (rotN s k))], []⟩ := by
  have v1 := moved_is s k hl
  by_cases h : rotN s k < best <;> cases y <;> simp [bodyL, v1, sl, h, ltS, fB2, runF, eAnd, sExpr, tNotT, chgs, initC, inits, locks, boxD, sSeq, sIf, sSetI, sSet, sRet, sExpr, tOfE, tTru, tNotT, tAndT, tOrT, truth, eOp, eArgs, eN, eC, eIx, eMv, eCall, lockE, unlockE, unlocks, valsOf, val, getP, noOwn, noOwnL, ixAt, ixN, fGt, fGe, fLt, fLe, fOr, fII, gB, gMod, gDiv, gAdd, gSub, gMul, okDiv, okMul_mod, fAdd, fMul, fCatS, fInt1, nodeAt, fSetL, mutAt, Mut.ok, setJs, lkOk, chgOf, updC, updS, setP, pick, outs, noBor, noBorL, dropAl, Ctx.kr, Chg.dead, strip, keepJ, sNx, bor, borL, List.range, List.range.loop, okM, okB, rootsM]
theorem least_bind (s best : List Nat) (a b k : Int) (x y : Option D) : bindT (.n 4) (.int k) ⟨[.v (.str s), .v (.int a), .v (.int b), .v (.str best), sl x, sl y], []⟩ = some ⟨[.v (.str s), .v (.int a), .v (.int b), .v (.str best), .v (.int k), sl y], []⟩ := by
  cases x <;> cases y <;> simp [bindT, sl, runF, eAnd, sExpr, tNotT, chgs, initC, inits, locks, boxD, sSeq, sIf, sSetI, sSet, sRet, sExpr, tOfE, tTru, tNotT, tAndT, tOrT, truth, eOp, eArgs, eN, eC, eIx, eMv, eCall, lockE, unlockE, unlocks, valsOf, val, getP, noOwn, noOwnL, ixAt, ixN, fGt, fGe, fLt, fLe, fOr, fII, gB, gMod, gDiv, gAdd, gSub, gMul, okDiv, okMul_mod, fAdd, fMul, fCatS, fInt1, nodeAt, fSetL, mutAt, Mut.ok, setJs, lkOk, chgOf, updC, updS, setP, pick, outs, noBor, noBorL, dropAl, Ctx.kr, Chg.dead, strip, keepJ, sNx, bor, borL, List.range, List.range.loop, okM, okB, rootsM]
theorem least_loop (s : List Nat) (a b : Int) (hl : s.length ≤ 100) : ∀ (l : List Nat) (best : List Nat) (x y : Option D), ∃ x' y', forLoop (.n 4) bodyL (l.map fun (k : Nat) => .int (0 + k)) ⟨[.v (.str s), .v (.int a), .v (.int b), .v (.str best), sl x, sl y], []⟩ = .nx ⟨[.v (.str s), .v (.int a), .v (.int b), .v (.str (minS best (l.map fun (k : Nat) => rotN s (k : Int)))), sl x', sl y'], []⟩
  | [], best, x, y => ⟨x, y, rfl⟩
  | k :: l, best, x, y => by
    obtain ⟨x', y', e⟩ := least_loop s a b hl l (if rotN s ((0 : Int) + k) < best then rotN s ((0 : Int) + k) else best) (some (.int (0 + k))) (some (.str (rotN s (0 + k))))
    refine ⟨x', y', ?_⟩
    rw [List.map_cons, forLoop, least_bind]
    dsimp only
    rw [least_step _ _ _ _ _ _ hl]
    refine Eq.trans e ?_
    rw [show (0 : Int) + k = k by omega]
    rfl

def bodyM : Ctx → SR := sIf (tNotT (tTru (eCall [false, false] F__law_text [eCall [false] F_least_turn [eCall [false, false] F__law_moved [eN 0, eN 4] []] [], eN 3] []))) (sRet (eC (.bl false))) (sNx)
theorem law_least (s : List Nat) (a b : Int) (h : SgOk s) (hl : s.length ≤ 100) : F__law_least [.str s, .int a, .int b] = .ret (.bl true) [] := by
  have h2 : s.length ≤ 16777216 := by omega
  have v1 := fun i => moved_is s i hl
  have l1 := fun i => least_is (rotN s i) (rot_ok s i h) (by rw [rot_len]; exact hl)
  obtain ⟨x, y, e⟩ := least_loop s a b hl (List.range s.length) s none none
  have e1 : itA fR1 [eOp fLen [eN 0]] ⟨[.v (.str s), .v (.int a), .v (.int b), .v (.str s), .no, .no], []⟩ = .ok ((List.range s.length).map fun (k : Nat) => .int (0 + k)) ⟨[.v (.str s), .v (.int a), .v (.int b), .v (.str s), .no, .no], []⟩ := itR1 (by simp [fLen, h2, runF, eAnd, sExpr, tNotT, chgs, initC, inits, locks, boxD, sSeq, sIf, sSetI, sSet, sRet, sExpr, tOfE, tTru, tNotT, tAndT, tOrT, truth, eOp, eArgs, eN, eC, eIx, eMv, eCall, lockE, unlockE, unlocks, valsOf, val, getP, noOwn, noOwnL, ixAt, ixN, fGt, fGe, fLt, fLe, fOr, fII, gB, gMod, gDiv, gSub, gMul, okDiv, okMul_mod, fCatS, fInt1, nodeAt, fSetL, mutAt, Mut.ok, setJs, lkOk, chgOf, updC, updS, setP, pick, outs, noBor, noBorL, dropAl, Ctx.kr, Chg.dead, strip, keepJ, sNx, bor, borL, okM, okB, rootsM]) hl
  have e2 : sFor (itA fR1 [eOp fLen [eN 0]]) (.n 4) bodyL ⟨[.v (.str s), .v (.int a), .v (.int b), .v (.str s), .no, .no], []⟩ = .nx ⟨[.v (.str s), .v (.int a), .v (.int b), .v (.str (lstT s)), sl x, sl y], []⟩ := by
    rw [sFor, e1]
    exact e
  have e3 : m__law_least = sSeq (sSet 3 (eN 0)) (sSeq (sFor (itA fR1 [eOp fLen [eN 0]]) (.n 4) bodyL) (sSeq (sFor (itE (eFt (eLst [eC (.int 0), eC (.int 1), eN 1, eN 2, eOp fAdd [eN 1, eN 2]]))) (.n 4) bodyM) (sRet (eC (.bl true))))) := rfl
  have e4 : sSet 3 (eN 0) (initC [false, false, false] 3 [.str s, .int a, .int b]) = .nx ⟨[.v (.str s), .v (.int a), .v (.int b), .v (.str s), .no, .no], []⟩ := by
    simp [runF, eAnd, sExpr, tNotT, chgs, initC, inits, locks, boxD, sSeq, sIf, sSetI, sSet, sRet, sExpr, tOfE, tTru, tNotT, tAndT, tOrT, truth, eOp, eArgs, eN, eC, eIx, eMv, eCall, lockE, unlockE, unlocks, valsOf, val, getP, noOwn, noOwnL, ixAt, ixN, fGt, fGe, fLt, fLe, fOr, fII, gB, gMod, gDiv, gSub, gMul, okDiv, okMul_mod, fCatS, fInt1, nodeAt, fSetL, mutAt, Mut.ok, setJs, lkOk, chgOf, updC, updS, setP, pick, outs, noBor, noBorL, dropAl, Ctx.kr, Chg.dead, strip, keepJ, sNx, bor, borL, okM, okB, rootsM]
  have e5 : ∃ c, sFor (itE (eFt (eLst [eC (.int 0), eC (.int 1), eN 1, eN 2, eOp fAdd [eN 1, eN 2]]))) (.n 4) bodyM ⟨[.v (.str s), .v (.int a), .v (.int b), .v (.str (lstT s)), sl x, sl y], []⟩ = .nx c ∧ outs [false, false, false] c.s = some [] := by
    cases x <;> cases y <;> simp [bodyM, sl, v1, l1, lst_rot, text_is, sFor, itE, eFt, eLst, allT, itemsOf, forLoop, bindT, frz, frzL, runF, eAnd, sExpr, tNotT, chgs, initC, inits, locks, boxD, sSeq, sIf, sSetI, sSet, sRet, sExpr, tOfE, tTru, tNotT, tAndT, tOrT, truth, eOp, eArgs, eN, eC, eIx, eMv, eCall, lockE, unlockE, unlocks, valsOf, val, getP, noOwn, noOwnL, ixAt, ixN, fGt, fGe, fLt, fLe, fOr, fII, gB, gMod, gDiv, gAdd, gSub, gMul, okDiv, okMul_mod, fAdd, fMul, fCatS, fInt1, nodeAt, fSetL, mutAt, Mut.ok, setJs, lkOk, chgOf, updC, updS, setP, pick, outs, noBor, noBorL, dropAl, Ctx.kr, Chg.dead, strip, keepJ, sNx, bor, borL, List.range, List.range.loop, okM, okB, rootsM]
  obtain ⟨c, e5, e7⟩ := e5
  have e6 : m__law_least (initC [false, false, false] 3 [.str s, .int a, .int b]) = .rt (.bl true) c := by
    rw [e3, sSeq, e4]
    dsimp only
    rw [sSeq, e2]
    dsimp only
    rw [sSeq, e5]
    rfl
  unfold F__law_least runF
  rw [e6]
  dsimp only
  rw [e7]
  rfl
theorem call_bad (w : Int) (hw : w = 0 ∨ w = 1 ∨ w = 2) (s : List Nat) (i : Int) (h : ¬ SgOk s) (hk : okx_InvalidRow (.str s) = true) : F__law_call [.int w, .str s, .int i] = .exc 0 "row" (.str s) [] := by
  have b1 := mirror_bad s h hk
  have b2 := least_bad s h hk
  have b3 := turned_bad s i h hk
  rcases hw with rfl | rfl | rfl <;> simp [F__law_call, m__law_call, b1, b2, b3, fEq, eqS, fB2, runF, eAnd, sExpr, tNotT, chgs, initC, inits, locks, boxD, sSeq, sIf, sSetI, sSet, sRet, sExpr, tOfE, tTru, tNotT, tAndT, tOrT, truth, eOp, eArgs, eN, eC, eIx, eMv, eCall, lockE, unlockE, unlocks, valsOf, val, getP, noOwn, noOwnL, ixAt, ixN, fGt, fGe, fLt, fLe, fOr, fII, gB, gMod, gDiv, gAdd, gSub, gMul, okDiv, okMul_mod, fAdd, fMul, fCatS, fInt1, nodeAt, fSetL, mutAt, Mut.ok, setJs, lkOk, chgOf, updC, updS, setP, pick, outs, noBor, noBorL, dropAl, Ctx.kr, Chg.dead, strip, keepJ, sNx, bor, borL, List.range, List.range.loop, okM, okB, rootsM]
theorem refuses_is (w : Int) (hw : w = 0 ∨ w = 1 ∨ w = 2) (s : List Nat) (i : Int) (h : ¬ SgOk s) (hk : okx_InvalidRow (.str s) = true) : F__law_refuses [.int w, .str s, .int i] = .ret (.bl true) [] := by
  have b := call_bad w hw s i h hk
  simp [F__law_refuses, m__law_refuses, b, sTry, mt_LeapError, is_InvalidRow, fo_row, eXi, eXf, suiteOut, noExC, noExS, noEx, clr, text_is, runF, eAnd, sExpr, tNotT, chgs, initC, inits, locks, boxD, sSeq, sIf, sSetI, sSet, sRet, sExpr, tOfE, tTru, tNotT, tAndT, tOrT, truth, eOp, eArgs, eN, eC, eIx, eMv, eCall, lockE, unlockE, unlocks, valsOf, val, getP, noOwn, noOwnL, ixAt, ixN, fGt, fGe, fLt, fLe, fOr, fII, gB, gMod, gDiv, gAdd, gSub, gMul, okDiv, okMul_mod, fAdd, fMul, fCatS, fInt1, nodeAt, fSetL, mutAt, Mut.ok, setJs, lkOk, chgOf, updC, updS, setP, pick, outs, noBor, noBorL, dropAl, Ctx.kr, Chg.dead, strip, keepJ, sNx, bor, borL, List.range, List.range.loop, okM, okB, rootsM]

/-! ### what is drawn -/
theorem noOwn_ints : ∀ ns : List Int, noOwnL (ns.map .int) = true
  | [] => rfl
  | n :: ns => by rw [List.map_cons, noOwnL, noOwn_ints ns]; rfl

theorem ints_map : ∀ ns : List Int, intsOf (ns.map .int) = some ns
  | [] => rfl
  | n :: ns => by rw [List.map_cons, intsOf, ints_map ns]; rfl
theorem cut_ints (ns : List Int) (lo hi : Option Int) : cut (ns.map D.int) lo hi = (cut ns lo hi).map .int := by
  rw [cut, cut, List.length_map, List.map_take, List.map_drop]

theorem cell_is (ns : List Int) (i : Int) (h : ns.length ≤ 63) (h0 : 0 ≤ i) (hi : i < 4) : ∃ x, F__law_cell [scrD ns, .int i] = .ret (.int x) [] := by
  by_cases hk : i < ns.length
  · have h4 : i < (if (ns.length : Int) < 63 then (ns.length : Int) else 63) := by split <;> omega
    refine ⟨ns.getD i.toNat 0, ?_⟩
    have h5 : ns[i.toNat]? = some (ns.getD i.toNat 0) := by
      rw [List.getD_eq_getElem?_getD, List.getElem?_eq_getElem (by omega)]; rfl
    simp [F__law_cell, m__law_cell, scrD, borL_ints, fLen, fMin2, h4, hk, h0, h5, runF, eAnd, sExpr, tNotT, chgs, initC, inits, locks, boxD, sSeq, sIf, sSetI, sSet, sRet, sExpr, tOfE, tTru, tNotT, tAndT, tOrT, truth, eOp, eArgs, eN, eC, eIx, eMv, eCall, lockE, unlockE, unlocks, valsOf, val, getP, noOwn, noOwnL, ixAt, ixN, fGt, fGe, fLt, fLe, fOr, fII, gB, gMod, gDiv, gAdd, gSub, gMul, okDiv, okMul_mod, fAdd, fMul, fCatS, fInt1, nodeAt, fSetL, mutAt, Mut.ok, setJs, lkOk, chgOf, updC, updS, setP, pick, outs, noBor, noBorL, dropAl, Ctx.kr, Chg.dead, strip, keepJ, sNx, bor, borL, List.range, List.range.loop, okM, okB, rootsM]
  · have hl : Nat.log2 1000003 < 9000 := by decide
    have h4 : ¬ i < (if (ns.length : Int) < 63 then (ns.length : Int) else 63) := by split <;> omega
    refine ⟨(cut ns none (some 1)).sum % 1000003 * 7919 + i * 15485863 + 41, ?_⟩
    simp [F__law_cell, m__law_cell, scrD, borL_ints, fLen, fMin2, h4, fSlR, slD, noOwn_ints, cut_ints, fSum, listOf, ints_map, okMul_c, hl, runF, eAnd, sExpr, tNotT, chgs, initC, inits, locks, boxD, sSeq, sIf, sSetI, sSet, sRet, sExpr, tOfE, tTru, tNotT, tAndT, tOrT, truth, eOp, eArgs, eN, eC, eIx, eMv, eCall, lockE, unlockE, unlocks, valsOf, val, getP, noOwn, noOwnL, ixAt, ixN, fGt, fGe, fLt, fLe, fOr, fII, gB, gMod, gDiv, gAdd, gSub, gMul, okDiv, okMul_mod, fAdd, fMul, fCatS, fInt1, nodeAt, fSetL, mutAt, Mut.ok, setJs, lkOk, chgOf, updC, updS, setP, pick, outs, noBor, noBorL, dropAl, Ctx.kr, Chg.dead, strip, keepJ, sNx, bor, borL, List.range, List.range.loop, okM, okB, rootsM]


theorem box_is (ns : List Int) (i : Int) (h : ns.length ≤ 63) (h0 : 0 ≤ i) (hi : i < 4) : ∃ a c, F__law_box [scrD ns, .int i] = .ret (boxD a 0 c) [] := by
  obtain ⟨x, e⟩ := cell_is ns i h h0 hi
  rw [scrD] at e
  have hl : Nat.log2 2147483647 < 9000 := by decide
  by_cases hx : (1000000000000000000 : Int) ≤ x
  · refine ⟨x, (x + i * 104729) % 2147483647, ?_⟩
    simp [F__law_box, m__law_box, scrD, borL_ints, e, gPow, okPow, hx, eLst, allT, okMul_c, hl, runF, eAnd, sExpr, tNotT, chgs, initC, inits, locks, boxD, sSeq, sIf, sSetI, sSet, sRet, sExpr, tOfE, tTru, tNotT, tAndT, tOrT, truth, eOp, eArgs, eN, eC, eIx, eMv, eCall, lockE, unlockE, unlocks, valsOf, val, getP, noOwn, noOwnL, ixAt, ixN, fGt, fGe, fLt, fLe, fOr, fII, gB, gMod, gDiv, gAdd, gSub, gMul, okDiv, okMul_mod, fAdd, fMul, fCatS, fInt1, nodeAt, fSetL, mutAt, Mut.ok, setJs, lkOk, chgOf, updC, updS, setP, pick, outs, noBor, noBorL, dropAl, Ctx.kr, Chg.dead, strip, keepJ, sNx, bor, borL, List.range, List.range.loop, okM, okB, rootsM]
  · refine ⟨0, (x + i * 104729) % 2147483647, ?_⟩
    simp [F__law_box, m__law_box, scrD, borL_ints, e, gPow, okPow, hx, eLst, allT, okMul_c, hl, runF, eAnd, sExpr, tNotT, chgs, initC, inits, locks, boxD, sSeq, sIf, sSetI, sSet, sRet, sExpr, tOfE, tTru, tNotT, tAndT, tOrT, truth, eOp, eArgs, eN, eC, eIx, eMv, eCall, lockE, unlockE, unlocks, valsOf, val, getP, noOwn, noOwnL, ixAt, ixN, fGt, fGe, fLt, fLe, fOr, fII, gB, gMod, gDiv, gAdd, gSub, gMul, okDiv, okMul_mod, fAdd, fMul, fCatS, fInt1, nodeAt, fSetL, mutAt, Mut.ok, setJs, lkOk, chgOf, updC, updS, setP, pick, outs, noBor, noBorL, dropAl, Ctx.kr, Chg.dead, strip, keepJ, sNx, bor, borL, List.range, List.range.loop, okM, okB, rootsM]
end K01
end Lc
end
section
set_option Elab.async false
set_option linter.all false
set_option maxRecDepth 100000
set_option maxHeartbeats 4000000
namespace Lc
namespace K01
open PySem L2
/-! ### what is drawn, part two -/
theorem takeX (a b c m : Int) (hm : 0 < m) (hm2 : m.natAbs.log2 < 9000) : ∃ r a' b', F__law_take [(.nd .lst .own [.int a, .int b, .int c]), .int m] = .ret (.int r) [(.nd .lst .own [.int a', .int b', .int c])] ∧ 0 ≤ r ∧ r < m := take a b c m hm hm2
def bel (k : Int) (w d : Bool) (c : Nat) : Bool :=
  if c = 35 then w else if c = 46 then true else if c = 58 then d else if c < 90 then d && decide ((c : Int) - 65 < k) else decide ((c : Int) - 97 < k)
theorem oc_0 : occ [65, 66, 67, 68] [65] = [0] := by decide +kernel
theorem oc_1 : occ [65, 66, 67, 68] [66] = [1] := by decide +kernel
theorem oc_2 : occ [65, 66, 67, 68] [67] = [2] := by decide +kernel
theorem oc_3 : occ [65, 66, 67, 68] [68] = [3] := by decide +kernel
theorem oc_4 : occ [97, 98, 99, 100] [97] = [0] := by decide +kernel
theorem oc_5 : occ [97, 98, 99, 100] [98] = [1] := by decide +kernel
theorem oc_6 : occ [97, 98, 99, 100] [99] = [2] := by decide +kernel
theorem oc_7 : occ [97, 98, 99, 100] [100] = [3] := by decide +kernel
theorem belongs_is (k : Int) (w d : Bool) (c : Nat) (h : c ∈ SG) : F__law_belongs [.str [c], .int k, .bl w, .bl d] = .ret (.bl (bel k w d c)) [] := by
  simp only [SG, List.mem_cons, List.not_mem_nil, or_false] at h
  rcases h with rfl | rfl | rfl | rfl | rfl | rfl | rfl | rfl | rfl | rfl | rfl <;> cases w <;> cases d <;>
  simp [F__law_belongs, m__law_belongs, bel, fEq, eqS, fIn, inS, fB2, eSM, fIndex, oc_0, oc_1, oc_2, oc_3, oc_4, oc_5, oc_6, oc_7, runF, eAnd, sExpr, tNotT, chgs, initC, inits, locks, sSeq, sIf, sSetI, sSet, sRet, sExpr, tOfE, tTru, tNotT, tAndT, tOrT, truth, eOp, eArgs, eN, eC, eIx, eMv, eCall, lockE, unlockE, unlocks, valsOf, val, getP, noOwn, noOwnL, ixAt, ixN, fGt, fGe, fLt, fLe, fOr, fII, gB, gMod, gDiv, gAdd, gSub, gMul, okDiv, fAdd, fMul, fCatS, fInt1, nodeAt, fSetL, mutAt, Mut.ok, setJs, lkOk, chgOf, updC, updS, setP, pick, outs, noBor, noBorL, dropAl, Ctx.kr, Chg.dead, strip, keepJ, sNx, bor, borL, okM, okB, rootsM]
/-- a comprehension with a test -/
theorem cmp_fil {own : List Nat} {t : Tg} {test : Ctx → TR} {elt : Ctx → ER} {c : Ctx} (p : D → Bool) (f : D → D) (cx : D → Ctx) : ∀ (xs acc : List D), (∀ x ∈ xs, bindT t x c = some (cx x) ∧ test (cx x) = .ok (p x) (cx x) ∧ elt (cx x) = .ok (.t (f x)) (cx x) ∧ freeC own (cx x) = true ∧ wipeC own (cx x) = c) → acc.length + xs.length ≤ 16777216 → cmpLoop own t test elt xs acc c = .ok (.t (.nd .lst .own (acc ++ (xs.filter p).map f))) c
  | [], acc, _, _ => by simp [cmpLoop]
  | x :: xs, acc, h, hl => by
    obtain ⟨h1, h2, h3, h4, h5⟩ := h x (List.mem_cons_self ..)
    rw [List.length_cons] at hl
    have h6 : decide (acc.length < 16777216) = true := decide_eq_true (by omega)
    rw [cmpLoop, h1]
    dsimp only
    rw [h2]
    cases hp : p x with
    | false =>
      dsimp only
      rw [h4, h5, if_pos rfl, cmp_fil p f cx xs acc (fun y hy => h y (List.mem_cons_of_mem _ hy)) (by omega), List.filter_cons_of_neg (by rw [hp]; exact Bool.false_ne_true)]
    | true =>
      dsimp only
      rw [h3]
      dsimp only
      rw [h4, h6, h5, Bool.and_self, if_pos rfl, cmp_fil p f cx xs (acc ++ [f x]) (fun y hy => h y (List.mem_cons_of_mem _ hy)) (by rw [List.length_append]; simp; omega), List.filter_cons_of_pos hp]
      simp
def belD (k : Int) (w d : Bool) : D → Bool
  | .str [c] => bel k w d c
  | _ => false
def strL' (k : Int) (w d : Bool) : List Nat := SG.filter (bel k w d)
theorem string_is (k : Int) (w d : Bool) : F__law_string [.int k, .bl w, .bl d] = .ret (.str (strL' k w d)) [] := by
  have e1 : itE (eC (.str [35, 46, 58, 65, 66, 67, 68, 97, 98, 99, 100])) ⟨[.v (.int k), .v (.bl w), .v (.bl d), .no], []⟩ = .ok (SG.map fun c => .str [c]) ⟨[.v (.int k), .v (.bl w), .v (.bl d), .no], []⟩ := by
    simp [itE, itemsOf, SG, runF, eAnd, sExpr, tNotT, chgs, initC, inits, locks, sSeq, sIf, sSetI, sSet, sRet, sExpr, tOfE, tTru, tNotT, tAndT, tOrT, truth, eOp, eArgs, eN, eC, eIx, eMv, eCall, lockE, unlockE, unlocks, valsOf, val, getP, noOwn, noOwnL, ixAt, ixN, fGt, fGe, fLt, fLe, fOr, fII, gB, gMod, gDiv, gAdd, gSub, gMul, okDiv, fAdd, fMul, fCatS, fInt1, nodeAt, fSetL, mutAt, Mut.ok, setJs, lkOk, chgOf, updC, updS, setP, pick, outs, noBor, noBorL, dropAl, Ctx.kr, Chg.dead, strip, keepJ, sNx, bor, borL, okM, okB, rootsM]
  have e0 := cmp_fil (own := [3]) (t := .n 3) (test := tTru (eCall [false, false, false, false] F__law_belongs [eN 3, eN 0, eN 1, eN 2] [])) (elt := eN 3) (c := ⟨[.v (.int k), .v (.bl w), .v (.bl d), .no], []⟩) (belD k w d) (fun x => x) (fun x => ⟨[.v (.int k), .v (.bl w), .v (.bl d), .v x], []⟩) (SG.map fun c => .str [c]) [] (fun x hx => by
      obtain ⟨c, hc, rfl⟩ := List.mem_map.mp hx
      have hb := belongs_is k w d c hc
      refine ⟨?_, ?_, ?_, rfl, ?_⟩
      · simp [bindT, runF, eAnd, sExpr, tNotT, chgs, initC, inits, locks, sSeq, sIf, sSetI, sSet, sRet, sExpr, tOfE, tTru, tNotT, tAndT, tOrT, truth, eOp, eArgs, eN, eC, eIx, eMv, eCall, lockE, unlockE, unlocks, valsOf, val, getP, noOwn, noOwnL, ixAt, ixN, fGt, fGe, fLt, fLe, fOr, fII, gB, gMod, gDiv, gAdd, gSub, gMul, okDiv, fAdd, fMul, fCatS, fInt1, nodeAt, fSetL, mutAt, Mut.ok, setJs, lkOk, chgOf, updC, updS, setP, pick, outs, noBor, noBorL, dropAl, Ctx.kr, Chg.dead, strip, keepJ, sNx, bor, borL, okM, okB, rootsM]
      · simp [hb, belD, runF, eAnd, sExpr, tNotT, chgs, initC, inits, locks, sSeq, sIf, sSetI, sSet, sRet, sExpr, tOfE, tTru, tNotT, tAndT, tOrT, truth, eOp, eArgs, eN, eC, eIx, eMv, eCall, lockE, unlockE, unlocks, valsOf, val, getP, noOwn, noOwnL, ixAt, ixN, fGt, fGe, fLt, fLe, fOr, fII, gB, gMod, gDiv, gAdd, gSub, gMul, okDiv, fAdd, fMul, fCatS, fInt1, nodeAt, fSetL, mutAt, Mut.ok, setJs, lkOk, chgOf, updC, updS, setP, pick, outs, noBor, noBorL, dropAl, Ctx.kr, Chg.dead, strip, keepJ, sNx, bor, borL, okM, okB, rootsM]
      · simp [runF, eAnd, sExpr, tNotT, chgs, initC, inits, locks, sSeq, sIf, sSetI, sSet, sRet, sExpr, tOfE, tTru, tNotT, tAndT, tOrT, truth, eOp, eArgs, eN, eC, eIx, eMv, eCall, lockE, unlockE, unlocks, valsOf, val, getP, noOwn, noOwnL, ixAt, ixN, fGt, fGe, fLt, fLe, fOr, fII, gB, gMod, gDiv, gAdd, gSub, gMul, okDiv, fAdd, fMul, fCatS, fInt1, nodeAt, fSetL, mutAt, Mut.ok, setJs, lkOk, chgOf, updC, updS, setP, pick, outs, noBor, noBorL, dropAl, Ctx.kr, Chg.dead, strip, keepJ, sNx, bor, borL, okM, okB, rootsM]
      · simp [wipeC, runF, eAnd, sExpr, tNotT, chgs, initC, inits, locks, sSeq, sIf, sSetI, sSet, sRet, sExpr, tOfE, tTru, tNotT, tAndT, tOrT, truth, eOp, eArgs, eN, eC, eIx, eMv, eCall, lockE, unlockE, unlocks, valsOf, val, getP, noOwn, noOwnL, ixAt, ixN, fGt, fGe, fLt, fLe, fOr, fII, gB, gMod, gDiv, gAdd, gSub, gMul, okDiv, fAdd, fMul, fCatS, fInt1, nodeAt, fSetL, mutAt, Mut.ok, setJs, lkOk, chgOf, updC, updS, setP, pick, outs, noBor, noBorL, dropAl, Ctx.kr, Chg.dead, strip, keepJ, sNx, bor, borL, okM, okB, rootsM]) (by rw [List.length_map]; decide)
  have e0' : ((SG.map fun c => D.str [c]).filter (belD k w d)).map (fun x => x) = (strL' k w d).map fun c => .str [c] := by
    rw [List.map_id', List.filter_map]
    rfl
  rw [e0', List.nil_append] at e0
  have e2 := eCmp_is e1 (own := [3]) rfl (by simp [wipeC, runF, eAnd, sExpr, tNotT, chgs, initC, inits, locks, sSeq, sIf, sSetI, sSet, sRet, sExpr, tOfE, tTru, tNotT, tAndT, tOrT, truth, eOp, eArgs, eN, eC, eIx, eMv, eCall, lockE, unlockE, unlocks, valsOf, val, getP, noOwn, noOwnL, ixAt, ixN, fGt, fGe, fLt, fLe, fOr, fII, gB, gMod, gDiv, gAdd, gSub, gMul, okDiv, fAdd, fMul, fCatS, fInt1, nodeAt, fSetL, mutAt, Mut.ok, setJs, lkOk, chgOf, updC, updS, setP, pick, outs, noBor, noBorL, dropAl, Ctx.kr, Chg.dead, strip, keepJ, sNx, bor, borL, okM, okB, rootsM]) e0
  have e3 := eSM_join e2 (Nat.le_trans (List.length_filter_le ..) (by decide))
  have e4 : m__law_string = sRet (eSM fJoin (eC (.str [])) [eCmp [3] (itE (eC (.str [35, 46, 58, 65, 66, 67, 68, 97, 98, 99, 100]))) (.n 3) (tTru (eCall [false, false, false, false] F__law_belongs [eN 3, eN 0, eN 1, eN 2] [])) (eN 3)]) := rfl
  have e6 : m__law_string (initC [false, false, false] 1 [.int k, .bl w, .bl d]) = .rt (.str (strL' k w d)) ⟨[.v (.int k), .v (.bl w), .v (.bl d), .no], []⟩ := by
    rw [e4, sRet, show initC [false, false, false] 1 [.int k, .bl w, .bl d] = ⟨[.v (.int k), .v (.bl w), .v (.bl d), .no], []⟩ from rfl, e3]
  unfold F__law_string runF
  rw [e6]
  rfl
/-- a usable alphabet -/
def Alp (t : List Nat) : Prop := SgOk t ∧ 0 < t.length ∧ t.length ≤ 11
theorem alp_str (k : Int) (w d : Bool) : Alp (strL' k w d) := by
  refine ⟨fun c hc => (List.mem_filter.mp hc).1, List.length_pos_of_mem (a := 46) (List.mem_filter.mpr ⟨by decide, rfl⟩), List.length_filter_le ..⟩
theorem sg_at (s : List Nat) (h : SgOk s) (r : Int) (h0 : 0 ≤ r) (h1 : r < s.length) : ∃ x, x ∈ SG ∧ atI s r = some x := by
  refine ⟨s.getD r.toNat 0, ?_, at_get s r h0 h1⟩
  rw [List.getD_eq_getElem?_getD, List.getElem?_eq_getElem (by omega)]
  exact h _ (List.getElem_mem _)
theorem sg_sg : SgOk SG := fun c h => h
theorem alp_sg : Alp SG := ⟨sg_sg, by decide, by decide⟩
theorem alphabet_is (a b c : Int) : ∃ t a' b', F__law_alphabet [(.nd .lst .own [.int a, .int b, .int c])] = .ret (.str t) [(.nd .lst .own [.int a', .int b', .int c])] ∧ Alp t := by
  obtain ⟨r, a1, b1, e1, h1, h2⟩ := takeX a b c 4 (by omega) (by decide)
  by_cases c0 : r = 0
  · obtain ⟨r2, a2, b2, e2, _, _⟩ := takeX a1 b1 c 4 (by omega) (by decide)
    obtain ⟨r3, a3, b3, e3, _, _⟩ := takeX a2 b2 c 2 (by omega) (by decide)
    obtain ⟨r4, a4, b4, e4, _, _⟩ := takeX a3 b3 c 2 (by omega) (by decide)
    subst c0
    refine ⟨_, a4, b4, ?_, alp_str (1 + r2) (decide (r3 = 1)) (decide (r4 = 1))⟩
    simp [F__law_alphabet, m__law_alphabet, e1, e2, e3, e4, string_is, fEq, eqS, fB2, runF, eAnd, sExpr, tNotT, chgs, initC, inits, locks, sSeq, sIf, sSetI, sSet, sRet, sExpr, tOfE, tTru, tNotT, tAndT, tOrT, truth, eOp, eArgs, eN, eC, eIx, eMv, eCall, lockE, unlockE, unlocks, valsOf, val, getP, noOwn, noOwnL, ixAt, ixN, fGt, fGe, fLt, fLe, fOr, fII, gB, gMod, gDiv, gAdd, gSub, gMul, okDiv, fAdd, fMul, fCatS, fInt1, nodeAt, fSetL, mutAt, Mut.ok, setJs, lkOk, chgOf, updC, updS, setP, pick, outs, noBor, noBorL, dropAl, Ctx.kr, Chg.dead, strip, keepJ, sNx, bor, borL, okM, okB, rootsM]
  by_cases c1 : r = 1
  · obtain ⟨r2, a2, b2, e2, h3, h4⟩ := takeX a1 b1 c 11 (by omega) (by decide)
    obtain ⟨r3, a3, b3, e3, h5, h6⟩ := takeX a2 b2 c 11 (by omega) (by decide)
    obtain ⟨x, hx, ex⟩ := sg_at SG sg_sg r2 h3 h4
    obtain ⟨y, hy, ey⟩ := sg_at SG sg_sg r3 h5 h6
    rw [SG] at ex ey
    subst c1
    refine ⟨[x, y], a3, b3, ?_, ⟨fun z hz => ?_, by simp, by simp⟩⟩
    · simp [F__law_alphabet, m__law_alphabet, e1, e2, e3, ex, ey, fEq, eqS, fB2, runF, eAnd, sExpr, tNotT, chgs, initC, inits, locks, sSeq, sIf, sSetI, sSet, sRet, sExpr, tOfE, tTru, tNotT, tAndT, tOrT, truth, eOp, eArgs, eN, eC, eIx, eMv, eCall, lockE, unlockE, unlocks, valsOf, val, getP, noOwn, noOwnL, ixAt, ixN, fGt, fGe, fLt, fLe, fOr, fII, gB, gMod, gDiv, gAdd, gSub, gMul, okDiv, fAdd, fMul, fCatS, fInt1, nodeAt, fSetL, mutAt, Mut.ok, setJs, lkOk, chgOf, updC, updS, setP, pick, outs, noBor, noBorL, dropAl, Ctx.kr, Chg.dead, strip, keepJ, sNx, bor, borL, okM, okB, rootsM]
    · simp only [List.mem_cons, List.not_mem_nil, or_false] at hz
      rcases hz with rfl | rfl <;> assumption
  · refine ⟨SG, a1, b1, ?_, alp_sg⟩
    simp [F__law_alphabet, m__law_alphabet, e1, c0, c1, SG, fEq, eqS, fB2, runF, eAnd, sExpr, tNotT, chgs, initC, inits, locks, sSeq, sIf, sSetI, sSet, sRet, sExpr, tOfE, tTru, tNotT, tAndT, tOrT, truth, eOp, eArgs, eN, eC, eIx, eMv, eCall, lockE, unlockE, unlocks, valsOf, val, getP, noOwn, noOwnL, ixAt, ixN, fGt, fGe, fLt, fLe, fOr, fII, gB, gMod, gDiv, gAdd, gSub, gMul, okDiv, fAdd, fMul, fCatS, fInt1, nodeAt, fSetL, mutAt, Mut.ok, setJs, lkOk, chgOf, updC, updS, setP, pick, outs, noBor, noBorL, dropAl, Ctx.kr, Chg.dead, strip, keepJ, sNx, bor, borL, okM, okB, rootsM]
theorem size_is (a b c : Int) : ∃ r a' b', F__law_size [(.nd .lst .own [.int a, .int b, .int c])] = .ret (.int r) [(.nd .lst .own [.int a', .int b', .int c])] ∧ 0 ≤ r ∧ r ≤ 60 := by
  obtain ⟨r, a1, b1, e1, h1, h2⟩ := takeX a b c 6 (by omega) (by decide)
  by_cases c0 : r = 0
  · obtain ⟨r2, a2, b2, e2, h3, h4⟩ := takeX a1 b1 c 4 (by omega) (by decide)
    refine ⟨r2, a2, b2, ?_, h3, by omega⟩
    simp [F__law_size, m__law_size, e1, e2, c0, fEq, eqS, fB2, runF, eAnd, sExpr, tNotT, chgs, initC, inits, locks, sSeq, sIf, sSetI, sSet, sRet, sExpr, tOfE, tTru, tNotT, tAndT, tOrT, truth, eOp, eArgs, eN, eC, eIx, eMv, eCall, lockE, unlockE, unlocks, valsOf, val, getP, noOwn, noOwnL, ixAt, ixN, fGt, fGe, fLt, fLe, fOr, fII, gB, gMod, gDiv, gAdd, gSub, gMul, okDiv, fAdd, fMul, fCatS, fInt1, nodeAt, fSetL, mutAt, Mut.ok, setJs, lkOk, chgOf, updC, updS, setP, pick, outs, noBor, noBorL, dropAl, Ctx.kr, Chg.dead, strip, keepJ, sNx, bor, borL, okM, okB, rootsM]
  by_cases c1 : r = 5
  · obtain ⟨r2, a2, b2, e2, h3, h4⟩ := takeX a1 b1 c 61 (by omega) (by decide)
    refine ⟨r2, a2, b2, ?_, h3, by omega⟩
    simp [F__law_size, m__law_size, e1, e2, c1, fEq, eqS, fB2, runF, eAnd, sExpr, tNotT, chgs, initC, inits, locks, sSeq, sIf, sSetI, sSet, sRet, sExpr, tOfE, tTru, tNotT, tAndT, tOrT, truth, eOp, eArgs, eN, eC, eIx, eMv, eCall, lockE, unlockE, unlocks, valsOf, val, getP, noOwn, noOwnL, ixAt, ixN, fGt, fGe, fLt, fLe, fOr, fII, gB, gMod, gDiv, gAdd, gSub, gMul, okDiv, fAdd, fMul, fCatS, fInt1, nodeAt, fSetL, mutAt, Mut.ok, setJs, lkOk, chgOf, updC, updS, setP, pick, outs, noBor, noBorL, dropAl, Ctx.kr, Chg.dead, strip, keepJ, sNx, bor, borL, okM, okB, rootsM]
  · obtain ⟨r2, a2, b2, e2, h3, h4⟩ := takeX a1 b1 c 13 (by omega) (by decide)
    refine ⟨r2, a2, b2, ?_, h3, by omega⟩
    simp [F__law_size, m__law_size, e1, e2, c0, c1, fEq, eqS, fB2, runF, eAnd, sExpr, tNotT, chgs, initC, inits, locks, sSeq, sIf, sSetI, sSet, sRet, sExpr, tOfE, tTru, tNotT, tAndT, tOrT, truth, eOp, eArgs, eN, eC, eIx, eMv, eCall, lockE, unlockE, unlocks, valsOf, val, getP, noOwn, noOwnL, ixAt, ixN, fGt, fGe, fLt, fLe, fOr, fII, gB, gMod, gDiv, gAdd, gSub, gMul, okDiv, fAdd, fMul, fCatS, fInt1, nodeAt, fSetL, mutAt, Mut.ok, setJs, lkOk, chgOf, updC, updS, setP, pick, outs, noBor, noBorL, dropAl, Ctx.kr, Chg.dead, strip, keepJ, sNx, bor, borL, okM, okB, rootsM]
theorem okMul_a {i j : Int} (h : -18446744073709551616 < i) (h2 : i < 18446744073709551616) : okMul i j = true := by
  have e : decide (-(2 ^ 64) < i ∧ i < 2 ^ 64) = true := decide_eq_true ⟨by omega, by omega⟩
  rw [okMul, e, Bool.true_or]
  rfl
theorem shift_is (a b c z : Int) (hz : 0 ≤ z) (hz2 : z ≤ 100) : ∃ r a' b', F__law_shift [(.nd .lst .own [.int a, .int b, .int c]), .int z] = .ret (.int r) [(.nd .lst .own [.int a', .int b', .int c])] := by
  obtain ⟨r, a1, b1, e1, h1, h2⟩ := takeX a b c 5 (by omega) (by decide)
  by_cases c0 : r = 0
  · obtain ⟨r2, a2, b2, e2, h3, h4⟩ := takeX a1 b1 c 7 (by omega) (by decide)
    refine ⟨r2 - 3, a2, b2, ?_⟩
    simp [F__law_shift, m__law_shift, e1, e2, c0, fEq, eqS, fB2, runF, eAnd, sExpr, tNotT, chgs, initC, inits, locks, sSeq, sIf, sSetI, sSet, sRet, sExpr, tOfE, tTru, tNotT, tAndT, tOrT, truth, eOp, eArgs, eN, eC, eIx, eMv, eCall, lockE, unlockE, unlocks, valsOf, val, getP, noOwn, noOwnL, ixAt, ixN, fGt, fGe, fLt, fLe, fOr, fII, gB, gMod, gDiv, gAdd, gSub, gMul, okDiv, fAdd, fMul, fCatS, fInt1, nodeAt, fSetL, mutAt, Mut.ok, setJs, lkOk, chgOf, updC, updS, setP, pick, outs, noBor, noBorL, dropAl, Ctx.kr, Chg.dead, strip, keepJ, sNx, bor, borL, okM, okB, rootsM]
  by_cases c1 : r = 1
  · obtain ⟨r2, a2, b2, e2, h3, h4⟩ := takeX a1 b1 c 9 (by omega) (by decide)
    obtain ⟨r3, a3, b3, e3, h5, h6⟩ := takeX a2 b2 c 3 (by omega) (by decide)
    have hm : okMul z (r2 - 4) = true := okMul_a (by omega) (by omega)
    refine ⟨z * (r2 - 4) + r3 - 1, a3, b3, ?_⟩
    simp [F__law_shift, m__law_shift, e1, e2, e3, c1, hm, fEq, eqS, fB2, runF, eAnd, sExpr, tNotT, chgs, initC, inits, locks, sSeq, sIf, sSetI, sSet, sRet, sExpr, tOfE, tTru, tNotT, tAndT, tOrT, truth, eOp, eArgs, eN, eC, eIx, eMv, eCall, lockE, unlockE, unlocks, valsOf, val, getP, noOwn, noOwnL, ixAt, ixN, fGt, fGe, fLt, fLe, fOr, fII, gB, gMod, gDiv, gAdd, gSub, gMul, okDiv, fAdd, fMul, fCatS, fInt1, nodeAt, fSetL, mutAt, Mut.ok, setJs, lkOk, chgOf, updC, updS, setP, pick, outs, noBor, noBorL, dropAl, Ctx.kr, Chg.dead, strip, keepJ, sNx, bor, borL, okM, okB, rootsM]
  by_cases c2 : r = 2
  · obtain ⟨r2, a2, b2, e2, h3, h4⟩ := takeX a1 b1 c 121 (by omega) (by decide)
    refine ⟨r2 - 60, a2, b2, ?_⟩
    simp [F__law_shift, m__law_shift, e1, e2, c2, fEq, eqS, fB2, runF, eAnd, sExpr, tNotT, chgs, initC, inits, locks, sSeq, sIf, sSetI, sSet, sRet, sExpr, tOfE, tTru, tNotT, tAndT, tOrT, truth, eOp, eArgs, eN, eC, eIx, eMv, eCall, lockE, unlockE, unlocks, valsOf, val, getP, noOwn, noOwnL, ixAt, ixN, fGt, fGe, fLt, fLe, fOr, fII, gB, gMod, gDiv, gAdd, gSub, gMul, okDiv, fAdd, fMul, fCatS, fInt1, nodeAt, fSetL, mutAt, Mut.ok, setJs, lkOk, chgOf, updC, updS, setP, pick, outs, noBor, noBorL, dropAl, Ctx.kr, Chg.dead, strip, keepJ, sNx, bor, borL, okM, okB, rootsM]
  obtain ⟨r2, a2, b2, e2, h3, h4⟩ := takeX a1 b1 c 100000000000000000000000000000 (by omega) (by decide)
  have hl : Nat.log2 10000000000 < 9000 := by decide
  by_cases c3 : r = 3
  · obtain ⟨r3, a3, b3, e3, h5, h6⟩ := takeX a2 b2 c 1000000000 (by omega) (by decide)
    obtain ⟨r4, a4, b4, e4, h7, h8⟩ := takeX a3 b3 c 1000000000 (by omega) (by decide)
    obtain ⟨r5, a5, b5, e5, h9, h10⟩ := takeX a4 b4 c 2 (by omega) (by decide)
    have hm3 : ∀ j, okMul r3 j = true := fun j => okMul_a (by omega) (by omega)
    have hm4 : ∀ j, okMul r4 j = true := fun j => okMul_a (by omega) (by omega)
    by_cases c5 : r5 = 1
    · refine ⟨0 - (r3 * 100000000000000000000 + r4 * 10000000000 + r2 % 10000000000), a5, b5, ?_⟩
      simp [F__law_shift, m__law_shift, e1, e2, e3, e4, e5, c3, c5, hm3, hm4, hl, gPow, okPow, fEq, eqS, fB2, runF, eAnd, sExpr, tNotT, chgs, initC, inits, locks, sSeq, sIf, sSetI, sSet, sRet, sExpr, tOfE, tTru, tNotT, tAndT, tOrT, truth, eOp, eArgs, eN, eC, eIx, eMv, eCall, lockE, unlockE, unlocks, valsOf, val, getP, noOwn, noOwnL, ixAt, ixN, fGt, fGe, fLt, fLe, fOr, fII, gB, gMod, gDiv, gAdd, gSub, gMul, okDiv, fAdd, fMul, fCatS, fInt1, nodeAt, fSetL, mutAt, Mut.ok, setJs, lkOk, chgOf, updC, updS, setP, pick, outs, noBor, noBorL, dropAl, Ctx.kr, Chg.dead, strip, keepJ, sNx, bor, borL, okM, okB, rootsM]
    · refine ⟨r3 * 100000000000000000000 + r4 * 10000000000 + r2 % 10000000000, a5, b5, ?_⟩
      simp [F__law_shift, m__law_shift, e1, e2, e3, e4, e5, c3, c5, hm3, hm4, hl, gPow, okPow, fEq, eqS, fB2, runF, eAnd, sExpr, tNotT, chgs, initC, inits, locks, sSeq, sIf, sSetI, sSet, sRet, sExpr, tOfE, tTru, tNotT, tAndT, tOrT, truth, eOp, eArgs, eN, eC, eIx, eMv, eCall, lockE, unlockE, unlocks, valsOf, val, getP, noOwn, noOwnL, ixAt, ixN, fGt, fGe, fLt, fLe, fOr, fII, gB, gMod, gDiv, gAdd, gSub, gMul, okDiv, fAdd, fMul, fCatS, fInt1, nodeAt, fSetL, mutAt, Mut.ok, setJs, lkOk, chgOf, updC, updS, setP, pick, outs, noBor, noBorL, dropAl, Ctx.kr, Chg.dead, strip, keepJ, sNx, bor, borL, okM, okB, rootsM]
  · obtain ⟨r5, a5, b5, e5, h9, h10⟩ := takeX a2 b2 c 2 (by omega) (by decide)
    by_cases c5 : r5 = 1
    · refine ⟨0 - r2, a5, b5, ?_⟩
      simp [F__law_shift, m__law_shift, e1, e2, e5, c0, c1, c2, c3, c5, gPow, okPow, fEq, eqS, fB2, runF, eAnd, sExpr, tNotT, chgs, initC, inits, locks, sSeq, sIf, sSetI, sSet, sRet, sExpr, tOfE, tTru, tNotT, tAndT, tOrT, truth, eOp, eArgs, eN, eC, eIx, eMv, eCall, lockE, unlockE, unlocks, valsOf, val, getP, noOwn, noOwnL, ixAt, ixN, fGt, fGe, fLt, fLe, fOr, fII, gB, gMod, gDiv, gAdd, gSub, gMul, okDiv, fAdd, fMul, fCatS, fInt1, nodeAt, fSetL, mutAt, Mut.ok, setJs, lkOk, chgOf, updC, updS, setP, pick, outs, noBor, noBorL, dropAl, Ctx.kr, Chg.dead, strip, keepJ, sNx, bor, borL, okM, okB, rootsM]
    · refine ⟨r2, a5, b5, ?_⟩
      simp [F__law_shift, m__law_shift, e1, e2, e5, c0, c1, c2, c3, c5, gPow, okPow, fEq, eqS, fB2, runF, eAnd, sExpr, tNotT, chgs, initC, inits, locks, sSeq, sIf, sSetI, sSet, sRet, sExpr, tOfE, tTru, tNotT, tAndT, tOrT, truth, eOp, eArgs, eN, eC, eIx, eMv, eCall, lockE, unlockE, unlocks, valsOf, val, getP, noOwn, noOwnL, ixAt, ixN, fGt, fGe, fLt, fLe, fOr, fII, gB, gMod, gDiv, gAdd, gSub, gMul, okDiv, fAdd, fMul, fCatS, fInt1, nodeAt, fSetL, mutAt, Mut.ok, setJs, lkOk, chgOf, updC, updS, setP, pick, outs, noBor, noBorL, dropAl, Ctx.kr, Chg.dead, strip, keepJ, sNx, bor, borL, okM, okB, rootsM]
theorem cut_t' (s : List Nat) (i : Int) (h : 0 ≤ i) : cut s none (some i) = s.take i.toNat := by
  by_cases h2 : i ≤ s.length
  · exact cut_t s i h h2
  have : HT.sIx s.length s.length (some i) = s.length := by
    show (if i < 0 then (i + (s.length : Int)).toNat else min i.toNat s.length) = _
    rw [if_neg (by omega)]; omega
  rw [cut, this]
  show List.take (s.length - 0) (s.drop 0) = _
  rw [List.take_of_length_le (by simp), List.take_of_length_le (by omega)]
  rfl
theorem cut_d' (s : List Nat) (i : Int) (h : 0 ≤ i) : cut s (some i) none = s.drop i.toNat := by
  by_cases h2 : i ≤ s.length
  · exact cut_d s i h h2
  have : HT.sIx s.length 0 (some i) = s.length := by
    show (if i < 0 then (i + (s.length : Int)).toNat else min i.toNat s.length) = _
    rw [if_neg (by omega)]; omega
  rw [cut, this]
  show List.take (s.length - s.length) (s.drop s.length) = _
  rw [Nat.sub_self, List.take_zero, List.drop_of_length_le (by omega)]
def STR : List Nat := [32, 33, 34, 36, 38, 39, 40, 41, 42, 43, 44, 45, 47, 48, 49, 50, 51, 52, 53, 54, 55, 56, 57, 59, 60, 61, 62, 63, 64, 69, 70, 71, 72, 73, 74, 75, 76, 77, 78, 79, 80, 81, 82, 83, 84, 85, 86, 87, 88, 89, 90, 91, 92, 93, 94, 95, 96, 101, 102, 103, 104, 105, 106, 107, 108, 109, 110, 111, 112, 113, 114, 115, 116, 117, 118, 119, 120, 121, 122, 123, 124, 125, 126, 10, 9]
theorem str_sg : ∀ x ∈ STR, x ∉ SG ∧ x < 128 := by decide
theorem sg_128 : ∀ x ∈ SG, x < 128 := by decide
theorem bent_is (a b c : Int) (s : List Nat) (h : SgOk s) (hl : s.length ≤ 100) : ∃ t a' b', F__law_bent [(.nd .lst .own [.int a, .int b, .int c]), .str s] = .ret (.str t) [(.nd .lst .own [.int a', .int b', .int c])] ∧ ¬ SgOk t ∧ t.length ≤ 60 ∧ ∀ x ∈ t, x < 128 := by
  obtain ⟨r, a1, b1, e1, h1, h2⟩ := takeX a b c 85 (by omega) (by decide)
  have hx : ∃ x, x ∈ STR ∧ atI STR r = some x := by
    refine ⟨STR.getD r.toNat 0, ?_, at_get STR r h1 h2⟩
    rw [List.getD_eq_getElem?_getD, List.getElem?_eq_getElem (show r.toNat < STR.length by show r.toNat < 85; omega)]
    exact List.getElem_mem _
  obtain ⟨x, hx, ex⟩ := hx
  have hu : (s.take 59).length ≤ 59 := by rw [List.length_take]; omega
  have hus : SgOk (s.take 59) := fun c hc => h c (List.mem_of_mem_take hc)
  have ec : cut s none (some 59) = s.take 59 := cut_t' s 59 (by omega)
  generalize s.take 59 = u at *
  have hlog : ((u.length : Int) + 1).natAbs.log2 < 9000 := by
    have : ((u.length : Int) + 1).natAbs.log2 < 10 := (Nat.log2_lt (by omega)).mpr (by omega)
    omega
  obtain ⟨r2, a2, b2, e2, h3, h4⟩ := takeX a1 b1 c (u.length + 1) (by omega) hlog
  obtain ⟨r3, a3, b3, e3, h5, h6⟩ := takeX a2 b2 c 2 (by omega) (by decide)
  have ec1 := cut_t' u r2 h3
  have ec2 := cut_d' u (r2 + r3) (by omega)
  have hn : (u.take r2.toNat ++ [x] ++ u.drop (r2 + r3).toNat).length ≤ 60 := by
    simp only [List.length_append, List.length_take, List.length_drop, List.length_cons, List.length_nil]
    omega
  refine ⟨u.take r2.toNat ++ [x] ++ u.drop (r2 + r3).toNat, a3, b3, ?_, ?_, hn, ?_⟩
  · have hl1 : s.length ≤ 16777216 := by omega
    have hl2 : u.length ≤ 16777216 := by omega
    have hl3 : min r2.toNat u.length + 1 ≤ 16777216 := by omega
    have hl4 : min r2.toNat u.length + (1 + (u.length - (r2 + r3).toNat)) ≤ 16777216 := by omega
    have hl5 : min r2.toNat u.length + 1 + (u.length - (r2 + r3).toNat) ≤ 16777216 := by omega
    rw [STR] at ex
    simp [F__law_bent, m__law_bent, e1, e2, e3, ex, ec, ec1, ec2, hl1, hl2, hl3, hl4, hl5, fLen, fSlL, fSlR, slD, runF, eAnd, sExpr, tNotT, chgs, initC, inits, locks, sSeq, sIf, sSetI, sSet, sRet, sExpr, tOfE, tTru, tNotT, tAndT, tOrT, truth, eOp, eArgs, eN, eC, eIx, eMv, eCall, lockE, unlockE, unlocks, valsOf, val, getP, noOwn, noOwnL, ixAt, ixN, fGt, fGe, fLt, fLe, fOr, fII, gB, gMod, gDiv, gAdd, gSub, gMul, okDiv, fAdd, fMul, fCatS, fInt1, nodeAt, fSetL, mutAt, Mut.ok, setJs, lkOk, chgOf, updC, updS, setP, pick, outs, noBor, noBorL, dropAl, Ctx.kr, Chg.dead, strip, keepJ, sNx, bor, borL, okM, okB, rootsM]
  · intro hk
    exact (str_sg x hx).1 (hk x (by simp))
  · intro y hy
    rcases List.mem_append.mp hy with hy | hy
    · rcases List.mem_append.mp hy with hy | hy
      · exact sg_128 _ (hus _ (List.mem_of_mem_take hy))
      · rw [List.mem_singleton.mp hy]
        exact (str_sg x hx).2
    · exact sg_128 _ (hus _ (List.mem_of_mem_drop hy))
theorem okx_is (s : List Nat) (hl : s.length ≤ 60) (h : ∀ x ∈ s, x < 128) : okx_InvalidRow (.str s) = true := by
  have := StrLaws.reprText_len (strL s) (fun c hc => Nat.lt_trans (h c (by simpa [strL] using hc)) (by decide))
  have e : (strL s).length = s.length := rfl
  exact decide_eq_true (by omega)
end K01
end Lc
end
section
set_option Elab.async false
set_option linter.all false
set_option maxRecDepth 100000
set_option maxHeartbeats 4000000
namespace Lc
namespace K01
open PySem L2
/-! ### the row -/
theorem fR1_i {r : Int} (h0 : 0 ≤ r) (h : r ≤ 100) : fR1 [.int r] = some ((List.range r.toNat).map fun (k : Nat) => .int (0 + k)) := by
  obtain ⟨n, rfl⟩ : ∃ n : Nat, r = n := ⟨r.toNat, by omega⟩
  rw [fR1_n (by omega), Int.toNat_natCast]
theorem itR1i {m : Ctx → ER} {c c1 : Ctx} {r : Int} (h : eArgs [m] c = .ok [.t (.int r)] c1) (h0 : 0 ≤ r) (hl : r ≤ 100) : itA fR1 [m] c = .ok ((List.range r.toNat).map fun (k : Nat) => .int (0 + k)) c1 := by
  have e1 : valsOf c1 [.t (.int r)] = some [.int r] := rfl
  unfold itA
  rw [h]
  dsimp only
  rw [e1]
  dsimp only
  rw [fR1_i h0 hl]
  rfl
/-- a comprehension that changes the state -/
theorem cmp_inv {own : List Nat} {t : Tg} {test : Ctx → TR} {elt : Ctx → ER} (Inv : Ctx → Prop) (R : D → Prop) : ∀ (xs acc : List D) (c : Ctx), Inv c → (∀ x ∈ xs, ∀ c, Inv c → ∃ cx y c2, bindT t x c = some cx ∧ test cx = .ok true cx ∧ elt cx = .ok (.t y) c2 ∧ freeC own c2 = true ∧ Inv (wipeC own c2) ∧ R y) → acc.length + xs.length ≤ 16777216 → ∃ ys c', cmpLoop own t test elt xs acc c = .ok (.t (.nd .lst .own (acc ++ ys))) c' ∧ Inv c' ∧ ys.length = xs.length ∧ ∀ y ∈ ys, R y
  | [], acc, c, hc, _, _ => ⟨[], c, by simp [cmpLoop], hc, rfl, fun y h => by cases h⟩
  | x :: xs, acc, c, hc, h, hl => by
    obtain ⟨cx, y, c2, h1, h2, h3, h4, h5, hr⟩ := h x (List.mem_cons_self ..) c hc
    rw [List.length_cons] at hl
    have h6 : decide (acc.length < 16777216) = true := decide_eq_true (by omega)
    obtain ⟨ys, c', e, hi, hn, hy⟩ := cmp_inv Inv R xs (acc ++ [y]) (wipeC own c2) h5 (fun z hz => h z (List.mem_cons_of_mem _ hz)) (by rw [List.length_append]; simp; omega)
    refine ⟨y :: ys, c', ?_, hi, by simp [hn], fun z hz => ?_⟩
    · rw [cmpLoop, h1]
      dsimp only
      rw [h2]
      dsimp only
      rw [h3]
      dsimp only
      rw [h4, h6, Bool.and_self, if_pos rfl, e]
      simp
    · rcases List.mem_cons.mp hz with rfl | hz
      · exact hr
      · exact hy z hz
theorem one_signs : ∀ ys : List D, (∀ y ∈ ys, ∃ x ∈ SG, y = .str [x]) → ∃ l : List Nat, ys = l.map (fun c => .str [c]) ∧ SgOk l
  | [], _ => ⟨[], rfl, fun c h => by cases h⟩
  | y :: ys, h => by
    obtain ⟨x, hx, rfl⟩ := h y (List.mem_cons_self ..)
    obtain ⟨l, rfl, hl⟩ := one_signs ys fun z hz => h z (List.mem_cons_of_mem _ hz)
    refine ⟨x :: l, rfl, fun c hc => ?_⟩
    rcases List.mem_cons.mp hc with rfl | hc
    · exact hx
    · exact hl c hc
theorem noOwn_strs : ∀ l : List Nat, noOwnL (l.map fun c => D.str [c]) = true
  | [] => rfl
  | n :: ns => by rw [List.map_cons, noOwnL, noOwn_strs ns]; rfl
/-- the state in `_law_row` -/
def RC (Z : D) (a b c : Int) (t : List Nat) (z u : Int) (p q r : Int) (l6 l7 l8 : Sl) : Ctx := ⟨[.v Z, .v (.nd .lst .own [.int a, .int b, .int c]), .v (.str t), .v (.int z), .v (.int u), .v (.nd .lst .own [.int p, .int q, .int r]), l6, l7, l8], [(1, [])]⟩
theorem part_key (Z : D) (a b c : Int) (t : List Nat) (ht : Alp t) (z u : Int) (p q r : Int) (n : Nat) (hn : n ≤ 100) : ∃ l p' q', cmpLoop [6] (.n 6) (fun c => .ok true c) (eIx (eN 2) (eCall [true, false] F__law_take [eN 5, eOp fLen [eN 2]] [])) ((List.range n).map fun (k : Nat) => .int (0 + k)) [] (RC Z a b c t z u p q r .no .no .no) = .ok (.t (.nd .lst .own (l.map fun c => .str [c]))) (RC Z a b c t z u p' q' r .no .no .no) ∧ SgOk l ∧ l.length = n := by
  obtain ⟨ys, c', e, ⟨p', q', rfl⟩, hl, hy⟩ := cmp_inv (own := [6]) (t := .n 6) (test := fun c => .ok true c) (elt := eIx (eN 2) (eCall [true, false] F__law_take [eN 5, eOp fLen [eN 2]] [])) (fun C => ∃ p' q', C = RC Z a b c t z u p' q' r .no .no .no) (fun y => ∃ x ∈ SG, y = .str [x]) ((List.range n).map fun (k : Nat) => .int (0 + k)) [] (RC Z a b c t z u p q r .no .no .no) ⟨p, q, rfl⟩ (fun x hx C hC => by
    obtain ⟨p1, q1, rfl⟩ := hC
    obtain ⟨k, _, rfl⟩ := List.mem_map.mp hx
    have hp := ht.2.1
    have hq := ht.2.2
    have hl1 : t.length ≤ 16777216 := by omega
    have hlog : (t.length : Int).natAbs.log2 < 9000 := by
      have : (t.length : Int).natAbs.log2 < 10 := (Nat.log2_lt (by omega)).mpr (by omega)
      omega
    obtain ⟨r1, p2, q2, e1, h1, h2⟩ := takeX p1 q1 r t.length (by omega) hlog
    obtain ⟨x, hx, ex⟩ := sg_at t ht.1 r1 h1 h2
    refine ⟨RC Z a b c t z u p1 q1 r (.v (.int (0 + k))) .no .no, .str [x], RC Z a b c t z u p2 q2 r (.v (.int (0 + k))) .no .no, ?_, rfl, ?_, rfl, ⟨p2, q2, ?_⟩, x, hx, rfl⟩
    · simp [bindT, RC, runF, eAnd, sExpr, tNotT, chgs, initC, inits, locks, sSeq, sIf, sSetI, sSet, sRet, sExpr, tOfE, tTru, tNotT, tAndT, tOrT, truth, eOp, eArgs, eN, eC, eIx, eMv, eCall, lockE, unlockE, unlocks, valsOf, val, getP, noOwn, noOwnL, ixAt, ixN, fGt, fGe, fLt, fLe, fOr, fII, gB, gMod, gDiv, gAdd, gSub, gMul, okDiv, fAdd, fMul, fCatS, fInt1, nodeAt, fSetL, mutAt, Mut.ok, setJs, lkOk, chgOf, updC, updS, setP, pick, outs, noBor, noBorL, dropAl, Ctx.kr, Chg.dead, strip, keepJ, sNx, bor, borL, okM, okB, rootsM]
    · generalize (0 : Int) + k = j
      simp [RC, fLen, hl1, e1, ex, runF, eAnd, sExpr, tNotT, chgs, initC, inits, locks, sSeq, sIf, sSetI, sSet, sRet, sExpr, tOfE, tTru, tNotT, tAndT, tOrT, truth, eOp, eArgs, eN, eC, eIx, eMv, eCall, lockE, unlockE, unlocks, valsOf, val, getP, noOwn, noOwnL, ixAt, ixN, fGt, fGe, fLt, fLe, fOr, fII, gB, gMod, gDiv, gAdd, gSub, gMul, okDiv, fAdd, fMul, fCatS, fInt1, nodeAt, fSetL, mutAt, Mut.ok, setJs, lkOk, chgOf, updC, updS, setP, pick, outs, noBor, noBorL, dropAl, Ctx.kr, Chg.dead, strip, keepJ, sNx, bor, borL, okM, okB, rootsM]
    · simp [wipeC, RC, runF, eAnd, sExpr, tNotT, chgs, initC, inits, locks, sSeq, sIf, sSetI, sSet, sRet, sExpr, tOfE, tTru, tNotT, tAndT, tOrT, truth, eOp, eArgs, eN, eC, eIx, eMv, eCall, lockE, unlockE, unlocks, valsOf, val, getP, noOwn, noOwnL, ixAt, ixN, fGt, fGe, fLt, fLe, fOr, fII, gB, gMod, gDiv, gAdd, gSub, gMul, okDiv, fAdd, fMul, fCatS, fInt1, nodeAt, fSetL, mutAt, Mut.ok, setJs, lkOk, chgOf, updC, updS, setP, pick, outs, noBor, noBorL, dropAl, Ctx.kr, Chg.dead, strip, keepJ, sNx, bor, borL, okM, okB, rootsM]) (by simp; omega)
  obtain ⟨l, rfl, hs⟩ := one_signs ys hy
  refine ⟨l, p', q', ?_, hs, by simpa using hl⟩
  rw [e, List.nil_append]
theorem join_key (Z : D) (a b c : Int) (t : List Nat) (z u : Int) (p q r : Int) (l : List Nat) (hl : SgOk l) (n : Nat) (hn : n ≤ 100) (hu : n ≠ 0 → 0 < u ∧ u ≤ 100) (hz : z = n) (hll : l.length = (if u < z then u else z).toNat) : ∃ w, cmpLoop [6] (.n 6) (fun c => .ok true c) (eIx (eN 7) (eOp (fII gMod) [eOp fInt1 [eN 6], eN 4])) ((List.range n).map fun (k : Nat) => .int (0 + k)) [] (RC Z a b c t z u p q r .no (.v (.nd .lst .own (l.map fun c => .str [c]))) .no) = .ok (.t (.nd .lst .own (w.map fun c => .str [c]))) (RC Z a b c t z u p q r .no (.v (.nd .lst .own (l.map fun c => .str [c]))) .no) ∧ SgOk w ∧ w.length = n := by
  obtain ⟨ys, c', e, rfl, hy1, hy⟩ := cmp_inv (own := [6]) (t := .n 6) (test := fun c => .ok true c) (elt := eIx (eN 7) (eOp (fII gMod) [eOp fInt1 [eN 6], eN 4])) (fun C => C = RC Z a b c t z u p q r .no (.v (.nd .lst .own (l.map fun c => .str [c]))) .no) (fun y => ∃ x ∈ SG, y = .str [x]) ((List.range n).map fun (k : Nat) => .int (0 + k)) [] (RC Z a b c t z u p q r .no (.v (.nd .lst .own (l.map fun c => .str [c]))) .no) rfl (fun x hx C hC => by
    subst hC
    obtain ⟨k, hk, rfl⟩ := List.mem_map.mp hx
    have hk := List.mem_range.mp hk
    obtain ⟨hu0, hu1⟩ := hu (by omega)
    have g1 := Int.emod_nonneg ((0 : Int) + k) (show u ≠ 0 by omega)
    have g2 := Int.emod_lt_of_pos ((0 : Int) + k) hu0
    have g3 : ((0 : Int) + k) % u ≤ k := by
      by_cases g : (0 : Int) + k < u
      · rw [Int.emod_eq_of_lt (by omega) g]; omega
      · omega
    have g4 : (((0 : Int) + k) % u).toNat < l.length := by
      rw [hll]
      split <;> omega
    have ex : l[(((0 : Int) + k) % u).toNat]? = some l[(((0 : Int) + k) % u).toNat] := List.getElem?_eq_getElem g4
    have hx := hl _ (List.getElem_mem g4)
    generalize l[(((0 : Int) + k) % u).toNat] = x at *
    have hlog : u.natAbs.log2 < 9000 := by
      have : u.natAbs.log2 < 10 := (Nat.log2_lt (by omega)).mpr (by omega)
      omega
    refine ⟨RC Z a b c t z u p q r (.v (.int (0 + k))) (.v (.nd .lst .own (l.map fun c => .str [c]))) .no, .str [x], RC Z a b c t z u p q r (.v (.int (0 + k))) (.v (.nd .lst .own (l.map fun c => .str [c]))) .no, ?_, rfl, ?_, rfl, ?_, x, hx, rfl⟩
    · simp [bindT, RC, runF, eAnd, sExpr, tNotT, chgs, initC, inits, locks, sSeq, sIf, sSetI, sSet, sRet, sExpr, tOfE, tTru, tNotT, tAndT, tOrT, truth, eOp, eArgs, eN, eC, eIx, eMv, eCall, lockE, unlockE, unlocks, valsOf, val, getP, noOwn, noOwnL, ixAt, ixN, fGt, fGe, fLt, fLe, fOr, fII, gB, gMod, gDiv, gAdd, gSub, gMul, okDiv, fAdd, fMul, fCatS, fInt1, nodeAt, fSetL, mutAt, Mut.ok, setJs, lkOk, chgOf, updC, updS, setP, pick, outs, noBor, noBorL, dropAl, Ctx.kr, Chg.dead, strip, keepJ, sNx, bor, borL, okM, okB, rootsM]
    · have g5 : ((0 : Int) + k) % u < l.length := by omega
      generalize (0 : Int) + k = j at *
      simp [RC, hlog, hu0, g1, g2, g4, g5, ex, noOwn_strs, runF, eAnd, sExpr, tNotT, chgs, initC, inits, locks, sSeq, sIf, sSetI, sSet, sRet, sExpr, tOfE, tTru, tNotT, tAndT, tOrT, truth, eOp, eArgs, eN, eC, eIx, eMv, eCall, lockE, unlockE, unlocks, valsOf, val, getP, noOwn, noOwnL, ixAt, ixN, fGt, fGe, fLt, fLe, fOr, fII, gB, gMod, gDiv, gAdd, gSub, gMul, okDiv, fAdd, fMul, fCatS, fInt1, nodeAt, fSetL, mutAt, Mut.ok, setJs, lkOk, chgOf, updC, updS, setP, pick, outs, noBor, noBorL, dropAl, Ctx.kr, Chg.dead, strip, keepJ, sNx, bor, borL, okM, okB, rootsM]
      exact Option.some.inj ((List.getElem?_eq_getElem g4).symm.trans ex)
    · simp [wipeC, RC, runF, eAnd, sExpr, tNotT, chgs, initC, inits, locks, sSeq, sIf, sSetI, sSet, sRet, sExpr, tOfE, tTru, tNotT, tAndT, tOrT, truth, eOp, eArgs, eN, eC, eIx, eMv, eCall, lockE, unlockE, unlocks, valsOf, val, getP, noOwn, noOwnL, ixAt, ixN, fGt, fGe, fLt, fLe, fOr, fII, gB, gMod, gDiv, gAdd, gSub, gMul, okDiv, fAdd, fMul, fCatS, fInt1, nodeAt, fSetL, mutAt, Mut.ok, setJs, lkOk, chgOf, updC, updS, setP, pick, outs, noBor, noBorL, dropAl, Ctx.kr, Chg.dead, strip, keepJ, sNx, bor, borL, okM, okB, rootsM]) (by simp; omega)
  obtain ⟨w, rfl, hs⟩ := one_signs ys hy
  refine ⟨w, ?_, hs, by simpa using hy1⟩
  rw [e, List.nil_append]
theorem row_is (ns : List Int) (h : ns.length ≤ 63) (a b c : Int) : ∃ s a' b', F__law_row [scrD ns, (.nd .lst .own [.int a, .int b, .int c])] = .ret (.str s) [(.nd .lst .own [.int a', .int b', .int c])] ∧ SgOk s ∧ s.length ≤ 60 := by
  obtain ⟨t, a1, b1, e1, ht⟩ := alphabet_is a b c
  obtain ⟨z, a2, b2, e2, hz0, hz1⟩ := size_is a1 b1 c
  obtain ⟨r3, a3, b3, e3, h31, h32⟩ := takeX a2 b2 c 2 (by omega) (by decide)
  obtain ⟨p, r, e5⟩ := box_is ns 1 h (by omega) (by omega)
  rw [scrD, boxD] at e5
  have hZ : ∃ Z, Z = bor (scrD ns) ∧ eN 0 = eN 0 := ⟨_, rfl, rfl⟩
  -- the first half
  have k4 : ∃ u a4 b4, (u = z ∨ (1 ≤ u ∧ u ≤ 6)) ∧ sIf (tOfE (eOp fEq [eCall [true, false] F__law_take [eN 1, eC (.int 2)] [], eC (.int 1)])) (sSet 4 (eOp fAdd [eC (.int 1), eCall [true, false] F__law_take [eN 1, eC (.int 6)] []])) (sNx) ⟨[.v (scrD ns), .v (.nd .lst .own [.int a2, .int b2, .int c]), .v (.str t), .v (.int z), .v (.int z), .no, .no, .no, .no], [(1, [])]⟩ = .nx ⟨[.v (scrD ns), .v (.nd .lst .own [.int a4, .int b4, .int c]), .v (.str t), .v (.int z), .v (.int u), .no, .no, .no, .no], [(1, [])]⟩ := by
    by_cases c1 : r3 = 1
    · obtain ⟨r4, a4, b4, e4, h41, h42⟩ := takeX a3 b3 c 6 (by omega) (by decide)
      refine ⟨1 + r4, a4, b4, .inr ⟨by omega, by omega⟩, ?_⟩
      simp [e3, c1, e4, scrD, borL_ints, noOwn_ints, fEq, eqS, fB2, runF, eAnd, sExpr, tNotT, chgs, initC, inits, locks, sSeq, sIf, sSetI, sSet, sRet, sExpr, tOfE, tTru, tNotT, tAndT, tOrT, truth, eOp, eArgs, eN, eC, eIx, eMv, eCall, lockE, unlockE, unlocks, valsOf, val, getP, noOwn, noOwnL, ixAt, ixN, fGt, fGe, fLt, fLe, fOr, fII, gB, gMod, gDiv, gAdd, gSub, gMul, okDiv, fAdd, fMul, fCatS, fInt1, nodeAt, fSetL, mutAt, Mut.ok, setJs, lkOk, chgOf, updC, updS, setP, pick, outs, noBor, noBorL, dropAl, Ctx.kr, Chg.dead, strip, keepJ, sNx, bor, borL, okM, okB, rootsM]
    · refine ⟨z, a3, b3, .inl rfl, ?_⟩
      simp [e3, c1, scrD, borL_ints, noOwn_ints, fEq, eqS, fB2, runF, eAnd, sExpr, tNotT, chgs, initC, inits, locks, sSeq, sIf, sSetI, sSet, sRet, sExpr, tOfE, tTru, tNotT, tAndT, tOrT, truth, eOp, eArgs, eN, eC, eIx, eMv, eCall, lockE, unlockE, unlocks, valsOf, val, getP, noOwn, noOwnL, ixAt, ixN, fGt, fGe, fLt, fLe, fOr, fII, gB, gMod, gDiv, gAdd, gSub, gMul, okDiv, fAdd, fMul, fCatS, fInt1, nodeAt, fSetL, mutAt, Mut.ok, setJs, lkOk, chgOf, updC, updS, setP, pick, outs, noBor, noBorL, dropAl, Ctx.kr, Chg.dead, strip, keepJ, sNx, bor, borL, okM, okB, rootsM]
  obtain ⟨u, a4, b4, hu, k4⟩ := k4
  have k1 : sSet 2 (eCall [true] F__law_alphabet [eN 1] []) (initC [false, true] 7 [scrD ns, (.nd .lst .own [.int a, .int b, .int c])]) = .nx ⟨[.v (scrD ns), .v (.nd .lst .own [.int a1, .int b1, .int c]), .v (.str t), .no, .no, .no, .no, .no, .no], [(1, [])]⟩ := by
    simp [e1, scrD, borL_ints, noOwn_ints, runF, eAnd, sExpr, tNotT, chgs, initC, inits, locks, sSeq, sIf, sSetI, sSet, sRet, sExpr, tOfE, tTru, tNotT, tAndT, tOrT, truth, eOp, eArgs, eN, eC, eIx, eMv, eCall, lockE, unlockE, unlocks, valsOf, val, getP, noOwn, noOwnL, ixAt, ixN, fGt, fGe, fLt, fLe, fOr, fII, gB, gMod, gDiv, gAdd, gSub, gMul, okDiv, fAdd, fMul, fCatS, fInt1, nodeAt, fSetL, mutAt, Mut.ok, setJs, lkOk, chgOf, updC, updS, setP, pick, outs, noBor, noBorL, dropAl, Ctx.kr, Chg.dead, strip, keepJ, sNx, bor, borL, okM, okB, rootsM]
  have k2 : sSet 3 (eCall [true] F__law_size [eN 1] []) ⟨[.v (scrD ns), .v (.nd .lst .own [.int a1, .int b1, .int c]), .v (.str t), .no, .no, .no, .no, .no, .no], [(1, [])]⟩ = .nx ⟨[.v (scrD ns), .v (.nd .lst .own [.int a2, .int b2, .int c]), .v (.str t), .v (.int z), .no, .no, .no, .no, .no], [(1, [])]⟩ := by
    simp [e2, scrD, borL_ints, noOwn_ints, runF, eAnd, sExpr, tNotT, chgs, initC, inits, locks, sSeq, sIf, sSetI, sSet, sRet, sExpr, tOfE, tTru, tNotT, tAndT, tOrT, truth, eOp, eArgs, eN, eC, eIx, eMv, eCall, lockE, unlockE, unlocks, valsOf, val, getP, noOwn, noOwnL, ixAt, ixN, fGt, fGe, fLt, fLe, fOr, fII, gB, gMod, gDiv, gAdd, gSub, gMul, okDiv, fAdd, fMul, fCatS, fInt1, nodeAt, fSetL, mutAt, Mut.ok, setJs, lkOk, chgOf, updC, updS, setP, pick, outs, noBor, noBorL, dropAl, Ctx.kr, Chg.dead, strip, keepJ, sNx, bor, borL, okM, okB, rootsM]
  have k3 : sSet 4 (eN 3) ⟨[.v (scrD ns), .v (.nd .lst .own [.int a2, .int b2, .int c]), .v (.str t), .v (.int z), .no, .no, .no, .no, .no], [(1, [])]⟩ = .nx ⟨[.v (scrD ns), .v (.nd .lst .own [.int a2, .int b2, .int c]), .v (.str t), .v (.int z), .v (.int z), .no, .no, .no, .no], [(1, [])]⟩ := by
    simp [scrD, runF, eAnd, sExpr, tNotT, chgs, initC, inits, locks, sSeq, sIf, sSetI, sSet, sRet, sExpr, tOfE, tTru, tNotT, tAndT, tOrT, truth, eOp, eArgs, eN, eC, eIx, eMv, eCall, lockE, unlockE, unlocks, valsOf, val, getP, noOwn, noOwnL, ixAt, ixN, fGt, fGe, fLt, fLe, fOr, fII, gB, gMod, gDiv, gAdd, gSub, gMul, okDiv, fAdd, fMul, fCatS, fInt1, nodeAt, fSetL, mutAt, Mut.ok, setJs, lkOk, chgOf, updC, updS, setP, pick, outs, noBor, noBorL, dropAl, Ctx.kr, Chg.dead, strip, keepJ, sNx, bor, borL, okM, okB, rootsM]
  have k5 : sSet 5 (eCall [false, false] F__law_box [eN 0, eC (.int 1)] []) ⟨[.v (scrD ns), .v (.nd .lst .own [.int a4, .int b4, .int c]), .v (.str t), .v (.int z), .v (.int u), .no, .no, .no, .no], [(1, [])]⟩ = .nx (RC (scrD ns) a4 b4 c t z u p 0 r .no .no .no) := by
    simp [e5, RC, scrD, borL_ints, noOwn_ints, runF, eAnd, sExpr, tNotT, chgs, initC, inits, locks, sSeq, sIf, sSetI, sSet, sRet, sExpr, tOfE, tTru, tNotT, tAndT, tOrT, truth, eOp, eArgs, eN, eC, eIx, eMv, eCall, lockE, unlockE, unlocks, valsOf, val, getP, noOwn, noOwnL, ixAt, ixN, fGt, fGe, fLt, fLe, fOr, fII, gB, gMod, gDiv, gAdd, gSub, gMul, okDiv, fAdd, fMul, fCatS, fInt1, nodeAt, fSetL, mutAt, Mut.ok, setJs, lkOk, chgOf, updC, updS, setP, pick, outs, noBor, noBorL, dropAl, Ctx.kr, Chg.dead, strip, keepJ, sNx, bor, borL, okM, okB, rootsM]
  -- the part
  obtain ⟨l, p2, q2, e6, hl, hll⟩ := part_key (scrD ns) a4 b4 c t ht z u p 0 r (if u < z then u else z).toNat (by split <;> omega)
  have i6 : itA fR1 [eOp fMin [eN 4, eN 3]] (RC (scrD ns) a4 b4 c t z u p 0 r .no .no .no) = .ok ((List.range (if u < z then u else z).toNat).map fun (k : Nat) => .int (0 + k)) (RC (scrD ns) a4 b4 c t z u p 0 r .no .no .no) := by
    refine itR1i ?_ (by split <;> omega) (by split <;> omega)
    simp [RC, fMin, fMin2, runF, eAnd, sExpr, tNotT, chgs, initC, inits, locks, sSeq, sIf, sSetI, sSet, sRet, sExpr, tOfE, tTru, tNotT, tAndT, tOrT, truth, eOp, eArgs, eN, eC, eIx, eMv, eCall, lockE, unlockE, unlocks, valsOf, val, getP, noOwn, noOwnL, ixAt, ixN, fGt, fGe, fLt, fLe, fOr, fII, gB, gMod, gDiv, gAdd, gSub, gMul, okDiv, fAdd, fMul, fCatS, fInt1, nodeAt, fSetL, mutAt, Mut.ok, setJs, lkOk, chgOf, updC, updS, setP, pick, outs, noBor, noBorL, dropAl, Ctx.kr, Chg.dead, strip, keepJ, sNx, bor, borL, okM, okB, rootsM]
    split <;> split <;> omega
  have f6 := eCmp_is i6 (own := [6]) rfl (by simp [wipeC, RC, runF, eAnd, sExpr, tNotT, chgs, initC, inits, locks, sSeq, sIf, sSetI, sSet, sRet, sExpr, tOfE, tTru, tNotT, tAndT, tOrT, truth, eOp, eArgs, eN, eC, eIx, eMv, eCall, lockE, unlockE, unlocks, valsOf, val, getP, noOwn, noOwnL, ixAt, ixN, fGt, fGe, fLt, fLe, fOr, fII, gB, gMod, gDiv, gAdd, gSub, gMul, okDiv, fAdd, fMul, fCatS, fInt1, nodeAt, fSetL, mutAt, Mut.ok, setJs, lkOk, chgOf, updC, updS, setP, pick, outs, noBor, noBorL, dropAl, Ctx.kr, Chg.dead, strip, keepJ, sNx, bor, borL, okM, okB, rootsM]) e6
  have k6 : sSet 7 (eCmp [6] (itA fR1 [eOp fMin [eN 4, eN 3]]) (.n 6) (fun c => .ok true c) (eIx (eN 2) (eCall [true, false] F__law_take [eN 5, eOp fLen [eN 2]] []))) (RC (scrD ns) a4 b4 c t z u p 0 r .no .no .no) = .nx (RC (scrD ns) a4 b4 c t z u p2 q2 r .no (.v (.nd .lst .own (l.map fun c => .str [c]))) .no) := by
    rw [sSet, f6]
    simp [RC, runF, eAnd, sExpr, tNotT, chgs, initC, inits, locks, sSeq, sIf, sSetI, sSet, sRet, sExpr, tOfE, tTru, tNotT, tAndT, tOrT, truth, eOp, eArgs, eN, eC, eIx, eMv, eCall, lockE, unlockE, unlocks, valsOf, val, getP, noOwn, noOwnL, ixAt, ixN, fGt, fGe, fLt, fLe, fOr, fII, gB, gMod, gDiv, gAdd, gSub, gMul, okDiv, fAdd, fMul, fCatS, fInt1, nodeAt, fSetL, mutAt, Mut.ok, setJs, lkOk, chgOf, updC, updS, setP, pick, outs, noBor, noBorL, dropAl, Ctx.kr, Chg.dead, strip, keepJ, sNx, bor, borL, okM, okB, rootsM]
  -- the row
  obtain ⟨w, e7, hw, hwl⟩ := join_key (scrD ns) a4 b4 c t z u p2 q2 r l hl z.toNat (by omega) (by omega) (by omega) hll
  have i7 : itA fR1 [eN 3] (RC (scrD ns) a4 b4 c t z u p2 q2 r .no (.v (.nd .lst .own (l.map fun c => .str [c]))) .no) = .ok ((List.range z.toNat).map fun (k : Nat) => .int (0 + k)) (RC (scrD ns) a4 b4 c t z u p2 q2 r .no (.v (.nd .lst .own (l.map fun c => .str [c]))) .no) := by
    refine itR1i ?_ hz0 (by omega)
    simp [RC, runF, eAnd, sExpr, tNotT, chgs, initC, inits, locks, sSeq, sIf, sSetI, sSet, sRet, sExpr, tOfE, tTru, tNotT, tAndT, tOrT, truth, eOp, eArgs, eN, eC, eIx, eMv, eCall, lockE, unlockE, unlocks, valsOf, val, getP, noOwn, noOwnL, ixAt, ixN, fGt, fGe, fLt, fLe, fOr, fII, gB, gMod, gDiv, gAdd, gSub, gMul, okDiv, fAdd, fMul, fCatS, fInt1, nodeAt, fSetL, mutAt, Mut.ok, setJs, lkOk, chgOf, updC, updS, setP, pick, outs, noBor, noBorL, dropAl, Ctx.kr, Chg.dead, strip, keepJ, sNx, bor, borL, okM, okB, rootsM]
  have f7 := eSM_join (eCmp_is i7 (own := [6]) rfl (by simp [wipeC, RC, runF, eAnd, sExpr, tNotT, chgs, initC, inits, locks, sSeq, sIf, sSetI, sSet, sRet, sExpr, tOfE, tTru, tNotT, tAndT, tOrT, truth, eOp, eArgs, eN, eC, eIx, eMv, eCall, lockE, unlockE, unlocks, valsOf, val, getP, noOwn, noOwnL, ixAt, ixN, fGt, fGe, fLt, fLe, fOr, fII, gB, gMod, gDiv, gAdd, gSub, gMul, okDiv, fAdd, fMul, fCatS, fInt1, nodeAt, fSetL, mutAt, Mut.ok, setJs, lkOk, chgOf, updC, updS, setP, pick, outs, noBor, noBorL, dropAl, Ctx.kr, Chg.dead, strip, keepJ, sNx, bor, borL, okM, okB, rootsM]) e7) (by omega)
  have k7 : sSet 8 (eSM fJoin (eC (.str [])) [eCmp [6] (itA fR1 [eN 3]) (.n 6) (fun c => .ok true c) (eIx (eN 7) (eOp (fII gMod) [eOp fInt1 [eN 6], eN 4]))]) (RC (scrD ns) a4 b4 c t z u p2 q2 r .no (.v (.nd .lst .own (l.map fun c => .str [c]))) .no) = .nx (RC (scrD ns) a4 b4 c t z u p2 q2 r .no (.v (.nd .lst .own (l.map fun c => .str [c]))) (.v (.str w))) := by
    rw [sSet, f7]
    simp [RC, runF, eAnd, sExpr, tNotT, chgs, initC, inits, locks, sSeq, sIf, sSetI, sSet, sRet, sExpr, tOfE, tTru, tNotT, tAndT, tOrT, truth, eOp, eArgs, eN, eC, eIx, eMv, eCall, lockE, unlockE, unlocks, valsOf, val, getP, noOwn, noOwnL, ixAt, ixN, fGt, fGe, fLt, fLe, fOr, fII, gB, gMod, gDiv, gAdd, gSub, gMul, okDiv, fAdd, fMul, fCatS, fInt1, nodeAt, fSetL, mutAt, Mut.ok, setJs, lkOk, chgOf, updC, updS, setP, pick, outs, noBor, noBorL, dropAl, Ctx.kr, Chg.dead, strip, keepJ, sNx, bor, borL, okM, okB, rootsM]
  have k8 : ∃ a5 b5 l6 s, sIf (tAndT (tOfE (eOp fGt [eN 3, eC (.int 0)])) (tOfE (eOp fEq [eCall [true, false] F__law_take [eN 1, eC (.int 3)] [], eC (.int 1)]))) (sSeq (sSet 6 (eCall [true, false] F__law_take [eN 1, eN 3] [])) (sSet 8 (eOp fAdd [eOp fAdd [eOp fSlR [eN 8, eN 6], eIx (eN 2) (eCall [true, false] F__law_take [eN 1, eOp fLen [eN 2]] [])], eOp fSlL [eN 8, eOp fAdd [eN 6, eC (.int 1)]]]))) (sNx) (RC (scrD ns) a4 b4 c t z u p2 q2 r .no (.v (.nd .lst .own (l.map fun c => .str [c]))) (.v (.str w))) = .nx (RC (scrD ns) a5 b5 c t z u p2 q2 r l6 (.v (.nd .lst .own (l.map fun c => .str [c]))) (.v (.str s))) ∧ SgOk s ∧ s.length ≤ 60 := by
    by_cases c0 : 0 < z
    · obtain ⟨r5, a5, b5, e8, _, _⟩ := takeX a4 b4 c 3 (by omega) (by decide)
      by_cases c1 : r5 = 1
      · have hlz : z.natAbs.log2 < 9000 := by
          have : z.natAbs.log2 < 10 := (Nat.log2_lt (by omega)).mpr (by omega)
          omega
        have hlt : (t.length : Int).natAbs.log2 < 9000 := by
          have h1 := ht.2.1
          have h2 := ht.2.2
          have : (t.length : Int).natAbs.log2 < 10 := (Nat.log2_lt (by omega)).mpr (by omega)
          omega
        have ht1 := ht.2.1
        have ht2 := ht.2.2
        obtain ⟨r6, a6, b6, e9, g1, g2⟩ := takeX a5 b5 c z c0 hlz
        obtain ⟨r7, a7, b7, e10, g3, g4⟩ := takeX a6 b6 c t.length (by omega) hlt
        obtain ⟨x, hx, ex⟩ := sg_at t ht.1 r7 g3 g4
        have ec1 := cut_t' w r6 g1
        have ec2 := cut_d' w (r6 + 1) (by omega)
        have hn : (w.take r6.toNat ++ [x] ++ w.drop (r6 + 1).toNat).length ≤ 60 := by
          simp only [List.length_append, List.length_take, List.length_drop, List.length_cons, List.length_nil]
          omega
        refine ⟨a7, b7, .v (.int r6), w.take r6.toNat ++ [x] ++ w.drop (r6 + 1).toNat, ?_, fun y hy => ?_, hn⟩
        · have hl1 : t.length ≤ 16777216 := by omega
          have hl2 : w.length ≤ 16777216 := by omega
          have hl3 : min r6.toNat w.length + 1 ≤ 16777216 := by omega
          have hl4 : min r6.toNat w.length + (1 + (w.length - (r6 + 1).toNat)) ≤ 16777216 := by omega
          have hl5 : min r6.toNat w.length + 1 + (w.length - (r6 + 1).toNat) ≤ 16777216 := by omega
          simp [RC, e8, e9, e10, c0, c1, ex, ec1, ec2, hl1, hl2, hl3, hl4, hl5, fLen, fSlL, fSlR, slD, fEq, eqS, fB2, noOwn_strs, runF, eAnd, sExpr, tNotT, chgs, initC, inits, locks, sSeq, sIf, sSetI, sSet, sRet, sExpr, tOfE, tTru, tNotT, tAndT, tOrT, truth, eOp, eArgs, eN, eC, eIx, eMv, eCall, lockE, unlockE, unlocks, valsOf, val, getP, noOwn, noOwnL, ixAt, ixN, fGt, fGe, fLt, fLe, fOr, fII, gB, gMod, gDiv, gAdd, gSub, gMul, okDiv, fAdd, fMul, fCatS, fInt1, nodeAt, fSetL, mutAt, Mut.ok, setJs, lkOk, chgOf, updC, updS, setP, pick, outs, noBor, noBorL, dropAl, Ctx.kr, Chg.dead, strip, keepJ, sNx, bor, borL, okM, okB, rootsM]
        · rcases List.mem_append.mp hy with hy | hy
          · rcases List.mem_append.mp hy with hy | hy
            · exact hw _ (List.mem_of_mem_take hy)
            · rw [List.mem_singleton.mp hy]
              exact hx
          · exact hw _ (List.mem_of_mem_drop hy)
      · refine ⟨a5, b5, .no, w, ?_, hw, by omega⟩
        simp [RC, e8, c0, c1, fEq, eqS, fB2, noOwn_strs, runF, eAnd, sExpr, tNotT, chgs, initC, inits, locks, sSeq, sIf, sSetI, sSet, sRet, sExpr, tOfE, tTru, tNotT, tAndT, tOrT, truth, eOp, eArgs, eN, eC, eIx, eMv, eCall, lockE, unlockE, unlocks, valsOf, val, getP, noOwn, noOwnL, ixAt, ixN, fGt, fGe, fLt, fLe, fOr, fII, gB, gMod, gDiv, gAdd, gSub, gMul, okDiv, fAdd, fMul, fCatS, fInt1, nodeAt, fSetL, mutAt, Mut.ok, setJs, lkOk, chgOf, updC, updS, setP, pick, outs, noBor, noBorL, dropAl, Ctx.kr, Chg.dead, strip, keepJ, sNx, bor, borL, okM, okB, rootsM]
    · refine ⟨a4, b4, .no, w, ?_, hw, by omega⟩
      simp [RC, c0, fEq, eqS, fB2, noOwn_strs, runF, eAnd, sExpr, tNotT, chgs, initC, inits, locks, sSeq, sIf, sSetI, sSet, sRet, sExpr, tOfE, tTru, tNotT, tAndT, tOrT, truth, eOp, eArgs, eN, eC, eIx, eMv, eCall, lockE, unlockE, unlocks, valsOf, val, getP, noOwn, noOwnL, ixAt, ixN, fGt, fGe, fLt, fLe, fOr, fII, gB, gMod, gDiv, gAdd, gSub, gMul, okDiv, fAdd, fMul, fCatS, fInt1, nodeAt, fSetL, mutAt, Mut.ok, setJs, lkOk, chgOf, updC, updS, setP, pick, outs, noBor, noBorL, dropAl, Ctx.kr, Chg.dead, strip, keepJ, sNx, bor, borL, okM, okB, rootsM]
  obtain ⟨a5, b5, l6, s, k8, hs, hsl⟩ := k8
  refine ⟨s, a5, b5, ?_, hs, hsl⟩
  have em : m__law_row = sSeq (sSet 2 (eCall [true] F__law_alphabet [eN 1] [])) (sSeq (sSet 3 (eCall [true] F__law_size [eN 1] [])) (sSeq (sSet 4 (eN 3)) (sSeq (sIf (tOfE (eOp fEq [eCall [true, false] F__law_take [eN 1, eC (.int 2)] [], eC (.int 1)])) (sSet 4 (eOp fAdd [eC (.int 1), eCall [true, false] F__law_take [eN 1, eC (.int 6)] []])) (sNx)) (sSeq (sSet 5 (eCall [false, false] F__law_box [eN 0, eC (.int 1)] [])) (sSeq (sSet 7 (eCmp [6] (itA fR1 [eOp fMin [eN 4, eN 3]]) (.n 6) (fun c => .ok true c) (eIx (eN 2) (eCall [true, false] F__law_take [eN 5, eOp fLen [eN 2]] [])))) (sSeq (sSet 8 (eSM fJoin (eC (.str [])) [eCmp [6] (itA fR1 [eN 3]) (.n 6) (fun c => .ok true c) (eIx (eN 7) (eOp (fII gMod) [eOp fInt1 [eN 6], eN 4]))])) (sSeq (sIf (tAndT (tOfE (eOp fGt [eN 3, eC (.int 0)])) (tOfE (eOp fEq [eCall [true, false] F__law_take [eN 1, eC (.int 3)] [], eC (.int 1)]))) (sSeq (sSet 6 (eCall [true, false] F__law_take [eN 1, eN 3] [])) (sSet 8 (eOp fAdd [eOp fAdd [eOp fSlR [eN 8, eN 6], eIx (eN 2) (eCall [true, false] F__law_take [eN 1, eOp fLen [eN 2]] [])], eOp fSlL [eN 8, eOp fAdd [eN 6, eC (.int 1)]]]))) (sNx)) (sRet (eMv 8))))))))) := rfl
  have k9 : sRet (eMv 8) (RC (scrD ns) a5 b5 c t z u p2 q2 r l6 (.v (.nd .lst .own (l.map fun c => .str [c]))) (.v (.str s))) = .rt (.str s) (RC (scrD ns) a5 b5 c t z u p2 q2 r l6 (.v (.nd .lst .own (l.map fun c => .str [c]))) (.v (.str s))) := by
    simp [RC, runF, eAnd, sExpr, tNotT, chgs, initC, inits, locks, sSeq, sIf, sSetI, sSet, sRet, sExpr, tOfE, tTru, tNotT, tAndT, tOrT, truth, eOp, eArgs, eN, eC, eIx, eMv, eCall, lockE, unlockE, unlocks, valsOf, val, getP, noOwn, noOwnL, ixAt, ixN, fGt, fGe, fLt, fLe, fOr, fII, gB, gMod, gDiv, gAdd, gSub, gMul, okDiv, fAdd, fMul, fCatS, fInt1, nodeAt, fSetL, mutAt, Mut.ok, setJs, lkOk, chgOf, updC, updS, setP, pick, outs, noBor, noBorL, dropAl, Ctx.kr, Chg.dead, strip, keepJ, sNx, bor, borL, okM, okB, rootsM]
  have km : m__law_row (initC [false, true] 7 [scrD ns, (.nd .lst .own [.int a, .int b, .int c])]) = .rt (.str s) (RC (scrD ns) a5 b5 c t z u p2 q2 r l6 (.v (.nd .lst .own (l.map fun c => .str [c]))) (.v (.str s))) := by
    rw [em, sSeq, k1]
    dsimp only
    rw [sSeq, k2]
    dsimp only
    rw [sSeq, k3]
    dsimp only
    rw [sSeq, k4]
    dsimp only
    rw [sSeq, k5]
    dsimp only
    rw [sSeq, k6]
    dsimp only
    rw [sSeq, k7]
    dsimp only
    rw [sSeq, k8]
    dsimp only
    rw [k9]
  unfold F__law_row runF
  rw [km]
  simp [RC, runF, eAnd, sExpr, tNotT, chgs, initC, inits, locks, sSeq, sIf, sSetI, sSet, sRet, sExpr, tOfE, tTru, tNotT, tAndT, tOrT, truth, eOp, eArgs, eN, eC, eIx, eMv, eCall, lockE, unlockE, unlocks, valsOf, val, getP, noOwn, noOwnL, ixAt, ixN, fGt, fGe, fLt, fLe, fOr, fII, gB, gMod, gDiv, gAdd, gSub, gMul, okDiv, fAdd, fMul, fCatS, fInt1, nodeAt, fSetL, mutAt, Mut.ok, setJs, lkOk, chgOf, updC, updS, setP, pick, outs, noBor, noBorL, dropAl, Ctx.kr, Chg.dead, strip, keepJ, sNx, bor, borL, okM, okB, rootsM]
end K01
end Lc
end
section
set_option Elab.async false
set_option linter.all false
set_option maxRecDepth 100000
set_option maxHeartbeats 4000000
/-! ### the law -/
open PySem L2 Lc Lc.K01 in
theorem Lc.K01.plain (ns : List Int) (h : ns.length ≤ 63) : ∃ os, Lc.K01.F_law [Lc.scrD ns] = .ret (.bl true) os := by
  obtain ⟨p0, r0, b0⟩ := box_is ns 0 h (by omega) (by omega)
  obtain ⟨p2, r2, b2⟩ := box_is ns 2 h (by omega) (by omega)
  obtain ⟨p3, r3, b3⟩ := box_is ns 3 h (by omega) (by omega)
  obtain ⟨s, p1, q1, e1, hs, hl⟩ := row_is ns h p0 0 r0
  obtain ⟨i, _, _, e2⟩ := shift_is p2 0 r2 s.length (by omega) (by omega)
  obtain ⟨j, _, _, e3⟩ := shift_is p3 0 r3 s.length (by omega) (by omega)
  obtain ⟨t, p5, q5, e5, ht, htl, ht2⟩ := bent_is p1 q1 r0 s hs (by omega)
  have hk := okx_is t htl ht2
  have tu := turns_is s i j hs (by omega)
  have mi := mirrors_is s i hs (by omega)
  have le := law_least s i j hs (by omega)
  have rf0 := fun i => refuses_is 0 (.inl rfl) t i ht hk
  have rf1 := fun i => refuses_is 1 (.inr (.inl rfl)) t i ht hk
  have rf2 := fun i => refuses_is 2 (.inr (.inr rfl)) t i ht hk
  have hl1 : s.length ≤ 16777216 := by omega
  have hl2 : t.length ≤ 16777216 := by omega
  rw [scrD, boxD] at b0 b2 b3
  rw [scrD] at e1
  refine ⟨[], ?_⟩
  simp [F_law, m_law, scrD, borL_ints, noOwn_ints, b0, b2, b3, e1, e2, e3, e5, tu, mi, le, rf0, rf1, rf2, hl1, hl2, fLen, sFor, itE, eFt, eLst, allT, itemsOf, forLoop, bindT, frz, frzL, runF, eAnd, sExpr, tNotT, chgs, initC, inits, locks, sSeq, sIf, sSetI, sSet, sRet, sExpr, tOfE, tTru, tNotT, tAndT, tOrT, truth, eOp, eArgs, eN, eC, eIx, eMv, eCall, lockE, unlockE, unlocks, valsOf, val, getP, noOwn, noOwnL, ixAt, ixN, fGt, fGe, fLt, fLe, fOr, fII, gB, gMod, gDiv, gAdd, gSub, gMul, okDiv, fAdd, fMul, fCatS, fInt1, nodeAt, fSetL, mutAt, Mut.ok, setJs, lkOk, chgOf, updC, updS, setP, pick, outs, noBor, noBorL, dropAl, Ctx.kr, Chg.dead, strip, keepJ, sNx, bor, borL, okM, okB, rootsM]
end
section
set_option Elab.async false
set_option linter.all false
set_option maxRecDepth 100000
set_option maxHeartbeats 0
open PySem PySem.W PySem.Calls PyProof.Rows
theorem PySem.Challenge.cw_leapcard_k01_turns_and_mirrors_holds : PySem.Challenge.rw_leapcard_k01_turns_and_mirrors.Holds := by
  w_on; o_law
  refine HandSHeadRun.head_any (r := OpenLaw.row PySem.Challenge.rw_leapcard_k01_turns_and_mirrors) (q := view (OpenLaw.row PySem.Challenge.rw_leapcard_k01_turns_and_mirrors).prog [28]) (H := Lc.K01.hk) (ob := Lc.K01.ob) (M := 4000) (loose := Lc.K01.loose) (d := HandSHeadRun.topDef (OpenLaw.row PySem.Challenge.rw_leapcard_k01_turns_and_mirrors).prog 28) (kwd := []) Lc.K01.ob_eq
    (by kernel_rfl) (fun s => by kernel_rfl) Lc.K01.run (by kernel_rfl) (by kernel_rfl) (by kernel_rfl) (by rfl) (by first | assumption | decide +kernel) (by decide +kernel) ⟨rfl, rfl, rfl, rfl, rfl, by decide +kernel⟩ ?hw ?hc
  case hw => w_witness2
  case hc =>
    refine Lc.walk_ofL (l := PySem.Challenge.rw_leapcard_k01_turns_and_mirrors) (n := 63) (k := 6) (x := "script") rfl (by rw [sizeLine_eq]; decide) (by kernel_rfl) ⟨rfl, by decide, by decide⟩ ?_
    intro w mg fa h Y G hmg0
    obtain ⟨K, KX, c⟩ := Y
    have hmg : mg ("law" : PySem.Str) = some (.ref fa) := by
      have e : (HandSHeadRun.topDef (OpenLaw.row PySem.Challenge.rw_leapcard_k01_turns_and_mirrors).prog 28).name = ("law" : PySem.Str) := by kernel_rfl
      rw [← e]
      exact hmg0
    obtain ⟨fd, hb, hF⟩ := Lc.K01.ends (w := w) KX G hmg c
    refine ⟨K, fd, _, KX, hb, fun H a ns hl _ hS => ?_, hF⟩
    obtain ⟨os, e⟩ := Lc.K01.plain ns hl
    exact Lc.law_sp e hS
end
