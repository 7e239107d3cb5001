import PyProof.Rows.All
import Wide.All
import OpenK.AllK
import Wide.FinOn
import HandS.ForMost
import HandS.ForExc
import HandS.Wide
import HandS.Style
import HandS.Strs
import HandS.StrMore
import HandS.Deep
import PyProof.Rows.StrRev
import HandS.CallSlots
import HandS.WordsExc
import HandS.Words
import HandS.Small
import HandS.Replace
import HandS.RaiseMore
import HandS.IsInst
import HandS.ExcInit
import HandS.ExcField
import HandS.ExcIs
import KE.KExcSuper
import KE.KSuper
import HandS.HotCalls
import KE.DataMinMax
import KE.DatumOrd
import HandS.Defaults
import HandS.HeadHook2
import KE.KStateDown
import HandS.Head0
import HandS.Head1
import HandS.Head2
import HandS.HeadEnd
import HandS.EndBits
import HandS.HeadNt
import HandS.HeadHook3
import HandS.ClsMeth
import HandS.SlotsOwn
import KE.KCallOwn
import HandS.FStr
import HandS.MakeKw
import PySem.Challenge.RW_leapcard_k03_jumps_checked_and_written
section
set_option Elab.async false
set_option linter.all false
set_option maxRecDepth 100000
set_option maxHeartbeats 1000000
namespace Lc
open PySem L2

/-- how a container node is held: own cell | frozen for good | borrowed for this activation -/
inductive Fl where
  | own | frz | bor
  deriving DecidableEq

/-- the kinds of containers -/
inductive Kd where
  | lst
  | scr
  | dct (ks : List Key)
  | dcT (ks : List (List Key))
  | obj (c : Nat) (ns : List Str)

/-- tree values -/
inductive D where
  | non | bl (b : Bool) | int (i : Int) | str (s : List Nat) | ty (n : String)
  | tup (xs : List D)
  | nd (k : Kd) (f : Fl) (xs : List D)
  | exn (c : Nat) (n : Str) (x : D)

def leH (A B : Hp) : Prop := ∀ a o, A a = some o → B a = some o
def noH : Hp := fun _ => none
theorem leH.refl (A : Hp) : leH A A := fun _ _ h => h
theorem leH.trans {A B C : Hp} (a : leH A B) (b : leH B C) : leH A C := fun x o h => b x o (a x o h)
theorem noH_le (A : Hp) : leH noH A := fun _ _ h => by cases h

/-- the static part: the written fragment, where the classes stand, what an exception is -/
structure Gs where
  K : PySem.W.Frag
  G : Nat → Addr
  ex : Nat → Addr → Addr → Prop

/-- a cell of a kind that may be read in A -/
def Cell (g : Gs) (A : Hp) : Kd → Addr → List V → Prop
  | .lst, p, vs => A p = some (.lst vs)
  | .scr, p, vs => SqL g.K A p vs
  | .dct ks, p, vs => ks.length = vs.length ∧ Rd A p (.dK (ks.zip vs))
  | .dcT ks, p, vs => ks.length = vs.length ∧ Rd A p (.dT (ks.zip vs))
  | .obj c ns, p, vs => ns.length = vs.length ∧ ∃ dx, A p = some (.ins (g.G c) dx (ns.zip vs))
/-- a cell of a kind that stands in H by itself -/
def OwnC (g : Gs) (H : Hp) : Kd → Addr → List V → Prop
  | .lst, p, vs => H p = some (.lst vs)
  | .scr, p, vs => False
  | .dct ks, p, vs => ks.length = vs.length ∧ H p = some (.dK (ks.zip vs))
  | .dcT ks, p, vs => ks.length = vs.length ∧ H p = some (.dT (ks.zip vs))
  | .obj c ns, p, vs => ns.length = vs.length ∧ ∃ dx, H p = some (.ins (g.G c) dx (ns.zip vs))

theorem leH.rd {A A' : Hp} {p : Addr} {u : HO} (h : leH A A') (x : Rd A p u) : Rd A' p u := by
  rcases x with x | ⟨o, x⟩
  · exact .inl (h _ _ x)
  · exact .inr ⟨o, h _ _ x⟩
theorem leH.sqL {K : PySem.W.Frag} {A A' : Hp} {p : Addr} {vs : List V} (h : leH A A') (x : SqL K A p vs) : SqL K A' p vs := by
  rcases x with x | x
  · exact .inl (h.rd x)
  · exact .inr x
theorem leH.sqT {K : PySem.W.Frag} {A A' : Hp} {p : Addr} {vs : List V} (h : leH A A') (x : SqT K A p vs) : SqT K A' p vs := by
  rcases x with x | x
  · exact .inl (h.rd x)
  · exact .inr x
theorem Cell.mono {g : Gs} {A A' : Hp} (h : leH A A') : ∀ {k : Kd} {p : Addr} {vs : List V}, Cell g A k p vs → Cell g A' k p vs
  | .lst, _, _, x => h _ _ x
  | .scr, _, _, x => h.sqL x
  | .dct _, _, _, x => ⟨x.1, h.rd x.2⟩
  | .dcT _, _, _, x => ⟨x.1, h.rd x.2⟩
  | .obj _ _, _, _, x => by
    obtain ⟨e, dx, x⟩ := x
    exact ⟨e, dx, h _ _ x⟩
theorem OwnC.cell {g : Gs} {A : Hp} : ∀ {k : Kd} {p : Addr} {vs : List V}, OwnC g A k p vs → Cell g A k p vs
  | .lst, _, _, x => x
  | .scr, _, _, x => x.elim
  | .dct _, _, _, x => ⟨x.1, .inl x.2⟩
  | .dcT _, _, _, x => ⟨x.1, .inl x.2⟩
  | .obj _ _, _, _, x => x
theorem OwnC.some {g : Gs} {A : Hp} : ∀ {k : Kd} {p : Addr} {vs : List V}, OwnC g A k p vs → ∃ o, A p = some o
  | .lst, _, _, x => ⟨_, x⟩
  | .scr, _, _, x => x.elim
  | .dct _, _, _, x => ⟨_, x.2⟩
  | .dcT _, _, _, x => ⟨_, x.2⟩
  | .obj _ _, _, _, x => by
    obtain ⟨e, dx, x⟩ := x
    exact ⟨_, x⟩
theorem OwnC.at {g : Gs} {A A' : Hp} {p : Addr} (h : A' p = A p) : ∀ {k : Kd} {vs : List V}, OwnC g A k p vs → OwnC g A' k p vs
  | .lst, _, x => h.trans x
  | .scr, _, x => x.elim
  | .dct _, _, x => ⟨x.1, h.trans x.2⟩
  | .dcT _, _, x => ⟨x.1, h.trans x.2⟩
  | .obj _ _, _, x => by
    obtain ⟨e, dx, x⟩ := x
    exact ⟨e, dx, h.trans x⟩

/-- a tuple: made here, or (without own cells) any that may be read -/
def TupC (g : Gs) (I : Hp) (p : Addr) (vs : List V) (fp : List Addr) : Prop := I p = some (.tup vs) ∨ (fp = [] ∧ SqT g.K I p vs)
theorem TupC.mono {g : Gs} {I I' : Hp} {p : Addr} {vs : List V} {fp : List Addr} (i : leH I I') (h : TupC g I p vs fp) : TupC g I' p vs fp := by
  rcases h with h | ⟨e, h⟩
  · exact .inl (i _ _ h)
  · exact .inr ⟨e, i.sqT h⟩
theorem TupC.sq {g : Gs} {I : Hp} {p : Addr} {vs : List V} {fp : List Addr} (h : TupC g I p vs fp) : SqT g.K I p vs := by
  rcases h with h | ⟨e, h⟩
  · exact .inl (.inl h)
  · exact h
theorem TupC.nil {g : Gs} {I : Hp} {p : Addr} {vs : List V} {fp : List Addr} (h : TupC g I p vs fp) : TupC g I p vs [] := .inr ⟨rfl, h.sq⟩

mutual
/-- the value v stands for the tree d; I: frozen cells, B: borrowed cells, H: the heap; fp: the own cells of the tree -/
def R (g : Gs) (I B H : Hp) : D → V → List Addr → Prop
  | .non, v, fp => v = .non ∧ fp = []
  | .bl b, v, fp => v = .bl b ∧ fp = []
  | .int i, v, fp => v = .int i ∧ fp = []
  | .str s, v, fp => v = .str ⟨s.toArray⟩ ∧ fp = []
  | .ty n, v, fp => v = .ty n ∧ fp = []
  | .tup xs, v, fp => ∃ p vs, v = .ref p ∧ TupC g I p vs fp ∧ RL g I B H xs vs fp
  | .nd k .own xs, v, fp => ∃ p vs fq, v = .ref p ∧ fp = p :: fq ∧ OwnC g H k p vs ∧ RL g I B H xs vs fq
  | .nd k .frz xs, v, fp => ∃ p vs, v = .ref p ∧ fp = [] ∧ Cell g I k p vs ∧ RL g I noH noH xs vs []
  | .nd k .bor xs, v, fp => ∃ p vs, v = .ref p ∧ fp = [] ∧ Cell g B k p vs ∧ RL g I B noH xs vs []
  | .exn c n x, v, fp => ∃ a d w, v = .ref a ∧ fp = [] ∧ g.ex c a d ∧ I d = some (.xd [(n, w)]) ∧ R g I noH noH x w []
def RL (g : Gs) (I B H : Hp) : List D → List V → List Addr → Prop
  | [], vs, fp => vs = [] ∧ fp = []
  | x :: xs, vs, fp => ∃ v vr f1 f2, vs = v :: vr ∧ fp = f1 ++ f2 ∧ R g I B H x v f1 ∧ RL g I B H xs vr f2
end

theorem RL.length {g : Gs} {I B H : Hp} : ∀ {xs : List D} {vs : List V} {fp : List Addr}, RL g I B H xs vs fp → vs.length = xs.length
  | [], vs, fp, h => by
    rw [RL] at h
    rw [h.1]
    rfl
  | x :: xs, vs, fp, h => by
    rw [RL] at h
    obtain ⟨v, vr, f1, f2, rfl, _, _, h⟩ := h
    rw [List.length_cons, List.length_cons, h.length]

mutual
/-- the tree's own cells stand in H -/
theorem R.there {g : Gs} {I B H : Hp} : ∀ (d : D) {v : V} {fp : List Addr}, R g I B H d v fp → ∀ a ∈ fp, ∃ o, H a = some o
  | .non, _, _, h, a, ha => by rw [R] at h; rw [h.2] at ha; cases ha
  | .bl _, _, _, h, a, ha => by rw [R] at h; rw [h.2] at ha; cases ha
  | .int _, _, _, h, a, ha => by rw [R] at h; rw [h.2] at ha; cases ha
  | .str _, _, _, h, a, ha => by rw [R] at h; rw [h.2] at ha; cases ha
  | .ty _, _, _, h, a, ha => by rw [R] at h; rw [h.2] at ha; cases ha
  | .tup xs, _, _, h, a, ha => by
    rw [R] at h
    obtain ⟨p, vs, _, _, h⟩ := h
    exact RL.there xs h a ha
  | .nd k .own xs, _, _, h, a, ha => by
    rw [R] at h
    obtain ⟨p, vs, fq, _, rfl, c, h⟩ := h
    rcases List.mem_cons.mp ha with rfl | ha
    · exact c.some
    · exact RL.there xs h a ha
  | .nd k .frz xs, _, _, h, a, ha => by
    rw [R] at h
    obtain ⟨p, vs, _, rfl, _⟩ := h
    cases ha
  | .nd k .bor xs, _, _, h, a, ha => by
    rw [R] at h
    obtain ⟨p, vs, _, rfl, _⟩ := h
    cases ha
  | .exn c n x, _, _, h, a, ha => by
    rw [R] at h
    obtain ⟨p, d, w, _, rfl, _⟩ := h
    cases ha
theorem RL.there {g : Gs} {I B H : Hp} : ∀ (xs : List D) {vs : List V} {fp : List Addr}, RL g I B H xs vs fp → ∀ a ∈ fp, ∃ o, H a = some o
  | [], _, _, h, a, ha => by rw [RL] at h; rw [h.2] at ha; cases ha
  | x :: xs, _, _, h, a, ha => by
    rw [RL] at h
    obtain ⟨v, vr, f1, f2, _, rfl, h1, h2⟩ := h
    rcases List.mem_append.mp ha with ha | ha
    · exact R.there x h1 a ha
    · exact RL.there xs h2 a ha
end

mutual
/-- the tree stays: what is frozen and borrowed grows, the own cells are as they were -/
theorem R.keep {g : Gs} : ∀ (d : D) {I B H I' B' H' : Hp} {v : V} {fp : List Addr}, R g I B H d v fp → leH I I' → leH B B' → (∀ a ∈ fp, H' a = H a) → R g I' B' H' d v fp
  | .non, _, _, _, _, _, _, _, _, h, _, _, _ => by rw [R] at h ⊢; exact h
  | .bl _, _, _, _, _, _, _, _, _, h, _, _, _ => by rw [R] at h ⊢; exact h
  | .int _, _, _, _, _, _, _, _, _, h, _, _, _ => by rw [R] at h ⊢; exact h
  | .str _, _, _, _, _, _, _, _, _, h, _, _, _ => by rw [R] at h ⊢; exact h
  | .ty _, _, _, _, _, _, _, _, _, h, _, _, _ => by rw [R] at h ⊢; exact h
  | .tup xs, _, _, _, _, _, _, _, _, h, i, b, k => by
    rw [R] at h ⊢
    obtain ⟨p, vs, e, t, h⟩ := h
    exact ⟨p, vs, e, t.mono i, RL.keep xs h i b k⟩
  | .nd kd .own xs, _, _, _, _, _, _, _, _, h, i, b, k => by
    rw [R] at h ⊢
    obtain ⟨p, vs, fq, e, rfl, c, h⟩ := h
    exact ⟨p, vs, fq, e, rfl, c.at (k p (List.mem_cons_self ..)), RL.keep xs h i b fun a ha => k a (List.mem_cons_of_mem _ ha)⟩
  | .nd kd .frz xs, _, _, _, _, _, _, _, _, h, i, b, k => by
    rw [R] at h ⊢
    obtain ⟨p, vs, e, e2, c, h⟩ := h
    exact ⟨p, vs, e, e2, c.mono i, RL.keep xs h i (leH.refl _) fun a ha => by cases ha⟩
  | .nd kd .bor xs, _, _, _, _, _, _, _, _, h, i, b, k => by
    rw [R] at h ⊢
    obtain ⟨p, vs, e, e2, c, h⟩ := h
    exact ⟨p, vs, e, e2, c.mono b, RL.keep xs h i b fun a ha => by cases ha⟩
  | .exn c n x, _, _, _, _, _, _, _, _, h, i, b, k => by
    rw [R] at h ⊢
    obtain ⟨p, d, w, e, e2, h1, h2, h3⟩ := h
    exact ⟨p, d, w, e, e2, h1, i _ _ h2, R.keep x h3 i (leH.refl _) fun a ha => by cases ha⟩
theorem RL.keep {g : Gs} : ∀ (xs : List D) {I B H I' B' H' : Hp} {vs : List V} {fp : List Addr}, RL g I B H xs vs fp → leH I I' → leH B B' → (∀ a ∈ fp, H' a = H a) → RL g I' B' H' xs vs fp
  | [], _, _, _, _, _, _, _, _, h, _, _, _ => by rw [RL] at h ⊢; exact h
  | x :: xs, _, _, _, _, _, _, _, _, h, i, b, k => by
    rw [RL] at h ⊢
    obtain ⟨v, vr, f1, f2, e, rfl, h1, h2⟩ := h
    exact ⟨v, vr, f1, f2, e, rfl, R.keep x h1 i b fun a ha => k a (List.mem_append_left _ ha), RL.keep xs h2 i b fun a ha => k a (List.mem_append_right _ ha)⟩
end

/-! ### flags -/
mutual
/-- as an argument is seen by the callee -/
def bor : D → D
  | .tup xs => .tup (borL xs)
  | .nd (.obj c ns) .own xs => .nd (.obj c ns) .bor (borL xs)
  | .nd (.obj c ns) .frz xs => .nd (.obj c ns) .frz xs
  | .nd (.obj c ns) .bor xs => .nd (.obj c ns) .bor xs
  | .nd k _ xs => .nd k .bor (borL xs)
  | .non => .non | .bl b => .bl b | .int i => .int i | .str s => .str s | .ty n => .ty n | .exn c n x => .exn c n x
def borL : List D → List D
  | [] => []
  | x :: xs => bor x :: borL xs
end
mutual
/-- frozen for good -/
def frz : D → D
  | .tup xs => .tup (frzL xs)
  | .nd k .own xs => .nd k .frz (frzL xs)
  | .nd k .frz xs => .nd k .frz xs
  | .nd k .bor xs => .nd k .bor xs
  | .non => .non | .bl b => .bl b | .int i => .int i | .str s => .str s | .ty n => .ty n | .exn c n x => .exn c n x
def frzL : List D → List D
  | [] => []
  | x :: xs => frz x :: frzL xs
end
mutual
/-- nothing borrowed is in it -/
def noBor : D → Bool
  | .tup xs => noBorL xs
  | .nd _ .own xs => noBorL xs
  | .nd _ .frz _ => true
  | .nd _ .bor _ => false
  | .non => true | .bl _ => true | .int _ => true | .str _ => true | .ty _ => true | .exn _ _ _ => true
def noBorL : List D → Bool
  | [] => true
  | x :: xs => noBor x && noBorL xs
end
mutual
/-- nothing own is in it -/
def noOwn : D → Bool
  | .tup xs => noOwnL xs
  | .nd _ .own _ => false
  | .nd _ .frz _ => true
  | .nd _ .bor _ => true
  | .non => true | .bl _ => true | .int _ => true | .str _ => true | .ty _ => true | .exn _ _ _ => true
def noOwnL : List D → Bool
  | [] => true
  | x :: xs => noOwn x && noOwnL xs
end

theorem borL_map : ∀ xs : List D, borL xs = xs.map bor
  | [] => rfl
  | x :: xs => by rw [borL, List.map_cons, borL_map xs]
theorem frzL_map : ∀ xs : List D, frzL xs = xs.map frz
  | [] => rfl
  | x :: xs => by rw [frzL, List.map_cons, frzL_map xs]
theorem noBorL_all : ∀ xs : List D, noBorL xs = xs.all noBor
  | [] => rfl
  | x :: xs => by rw [noBorL, List.all_cons, noBorL_all xs]
theorem noOwnL_all : ∀ xs : List D, noOwnL xs = xs.all noOwn
  | [] => rfl
  | x :: xs => by rw [noOwnL, List.all_cons, noOwnL_all xs]

mutual
theorem R.noOwn {g : Gs} : ∀ (d : D) {I B H : Hp} {v : V} {fp : List Addr}, R g I B H d v fp → noOwn d = true → fp = []
  | .non, _, _, _, _, _, h, _ => by rw [R] at h; exact h.2
  | .bl _, _, _, _, _, _, h, _ => by rw [R] at h; exact h.2
  | .int _, _, _, _, _, _, h, _ => by rw [R] at h; exact h.2
  | .str _, _, _, _, _, _, h, _ => by rw [R] at h; exact h.2
  | .ty _, _, _, _, _, _, h, _ => by rw [R] at h; exact h.2
  | .tup xs, _, _, _, _, _, h, e => by
    rw [R] at h
    rw [Lc.noOwn] at e
    obtain ⟨p, vs, _, _, h⟩ := h
    exact RL.noOwn xs h e
  | .nd k .own xs, _, _, _, _, _, _, e => by rw [Lc.noOwn] at e; cases e
  | .nd k .frz xs, _, _, _, _, _, h, _ => by
    rw [R] at h
    obtain ⟨p, vs, _, e, _⟩ := h
    exact e
  | .nd k .bor xs, _, _, _, _, _, h, _ => by
    rw [R] at h
    obtain ⟨p, vs, _, e, _⟩ := h
    exact e
  | .exn c n x, _, _, _, _, _, h, _ => by
    rw [R] at h
    obtain ⟨p, d, w, _, e, _⟩ := h
    exact e
theorem RL.noOwn {g : Gs} : ∀ (xs : List D) {I B H : Hp} {vs : List V} {fp : List Addr}, RL g I B H xs vs fp → noOwnL xs = true → fp = []
  | [], _, _, _, _, _, h, _ => by rw [RL] at h; exact h.2
  | x :: xs, _, _, _, _, _, h, e => by
    rw [RL] at h
    rw [noOwnL, Bool.and_eq_true] at e
    obtain ⟨v, vr, f1, f2, _, rfl, h1, h2⟩ := h
    rw [R.noOwn x h1 e.1, RL.noOwn xs h2 e.2]
    rfl
end

mutual
theorem R.bor {g : Gs} : ∀ (d : D) {I B H B' H' : Hp} {v : V} {fp : List Addr}, R g I B H d v fp → leH I B' → leH B B' → (∀ a ∈ fp, B' a = H a) → R g I B' H' (bor d) v []
  | .non, _, _, _, _, _, _, _, h, _, _, _ => by rw [R] at h; rw [Lc.bor, R]; exact ⟨h.1, rfl⟩
  | .bl _, _, _, _, _, _, _, _, h, _, _, _ => by rw [R] at h; rw [Lc.bor, R]; exact ⟨h.1, rfl⟩
  | .int _, _, _, _, _, _, _, _, h, _, _, _ => by rw [R] at h; rw [Lc.bor, R]; exact ⟨h.1, rfl⟩
  | .str _, _, _, _, _, _, _, _, h, _, _, _ => by rw [R] at h; rw [Lc.bor, R]; exact ⟨h.1, rfl⟩
  | .ty _, _, _, _, _, _, _, _, h, _, _, _ => by rw [R] at h; rw [Lc.bor, R]; exact ⟨h.1, rfl⟩
  | .tup xs, _, _, _, _, _, _, _, h, i, b, k => by
    rw [R] at h
    rw [Lc.bor, R]
    obtain ⟨p, vs, e, t, h⟩ := h
    exact ⟨p, vs, e, t.nil, RL.bor xs h i b k⟩
  | .nd kd .own xs, _, _, _, _, _, _, _, h, i, b, k => by
    rw [R] at h
    obtain ⟨p, vs, fq, e, rfl, c, h⟩ := h
    have c2 := (c.at (k p (List.mem_cons_self ..))).cell
    have h2 := RL.bor (H' := noH) xs h i b fun a ha => k a (List.mem_cons_of_mem _ ha)
    cases kd with
    | obj c ns => rw [Lc.bor, R]; exact ⟨p, vs, e, rfl, c2, h2⟩
    | scr => rw [Lc.bor, R] <;> first | exact ⟨p, vs, e, rfl, c2, h2⟩ | (intros; contradiction)
    | lst => rw [Lc.bor, R] <;> first | exact ⟨p, vs, e, rfl, c2, h2⟩ | (intros; contradiction)
    | dct ks => rw [Lc.bor, R] <;> first | exact ⟨p, vs, e, rfl, c2, h2⟩ | (intros; contradiction)
    | dcT ks => rw [Lc.bor, R] <;> first | exact ⟨p, vs, e, rfl, c2, h2⟩ | (intros; contradiction)
  | .nd kd .frz xs, I, _, _, B', H', _, _, h, i, b, k => by
    have h0 := h
    rw [R] at h
    obtain ⟨p, vs, e, rfl, c, h⟩ := h
    have c2 := c.mono i
    have h2 := RL.bor (B' := B') (H' := noH) xs h i (noH_le _) fun a ha => by cases ha
    cases kd with
    | obj c ns => rw [Lc.bor, R]; exact ⟨p, vs, e, rfl, c, h⟩
    | scr => rw [Lc.bor, R] <;> first | exact ⟨p, vs, e, rfl, c2, h2⟩ | (intros; contradiction)
    | lst => rw [Lc.bor, R] <;> first | exact ⟨p, vs, e, rfl, c2, h2⟩ | (intros; contradiction)
    | dct ks => rw [Lc.bor, R] <;> first | exact ⟨p, vs, e, rfl, c2, h2⟩ | (intros; contradiction)
    | dcT ks => rw [Lc.bor, R] <;> first | exact ⟨p, vs, e, rfl, c2, h2⟩ | (intros; contradiction)
  | .nd kd .bor xs, I, B, _, B', H', _, _, h, i, b, k => by
    rw [R] at h
    obtain ⟨p, vs, e, rfl, c, h⟩ := h
    have c2 := c.mono b
    have h2 := RL.bor (B' := B') (H' := noH) xs h i b fun a ha => by cases ha
    cases kd with
    | obj c ns => rw [Lc.bor, R]; exact ⟨p, vs, e, rfl, c2, RL.keep xs h (leH.refl _) b fun a ha => by cases ha⟩
    | scr => rw [Lc.bor, R] <;> first | exact ⟨p, vs, e, rfl, c2, h2⟩ | (intros; contradiction)
    | lst => rw [Lc.bor, R] <;> first | exact ⟨p, vs, e, rfl, c2, h2⟩ | (intros; contradiction)
    | dct ks => rw [Lc.bor, R] <;> first | exact ⟨p, vs, e, rfl, c2, h2⟩ | (intros; contradiction)
    | dcT ks => rw [Lc.bor, R] <;> first | exact ⟨p, vs, e, rfl, c2, h2⟩ | (intros; contradiction)
  | .exn c n x, _, _, _, _, _, _, _, h, i, b, k => by
    rw [R] at h
    rw [Lc.bor, R]
    obtain ⟨a, d, w, e, _, h1, h2, h3⟩ := h
    exact ⟨a, d, w, e, rfl, h1, h2, h3⟩
theorem RL.bor {g : Gs} : ∀ (xs : List D) {I B H B' H' : Hp} {vs : List V} {fp : List Addr}, RL g I B H xs vs fp → leH I B' → leH B B' → (∀ a ∈ fp, B' a = H a) → RL g I B' H' (borL xs) vs []
  | [], _, _, _, _, _, _, _, h, _, _, _ => by rw [RL] at h; rw [borL, RL]; exact ⟨h.1, rfl⟩
  | x :: xs, _, _, _, _, _, _, _, h, i, b, k => by
    rw [RL] at h
    rw [borL, RL]
    obtain ⟨v, vr, f1, f2, e, rfl, h1, h2⟩ := h
    exact ⟨v, vr, [], [], e, rfl, R.bor x h1 i b fun a ha => k a (List.mem_append_left _ ha), RL.bor xs h2 i b fun a ha => k a (List.mem_append_right _ ha)⟩
end

mutual
theorem R.frz {g : Gs} : ∀ (d : D) {I B H I' B' H' : Hp} {v : V} {fp : List Addr}, R g I B H d v fp → noBor d = true → leH I I' → (∀ a ∈ fp, I' a = H a) → R g I' B' H' (frz d) v []
  | .non, _, _, _, _, _, _, _, _, h, _, _, _ => by rw [R] at h; rw [Lc.frz, R]; exact ⟨h.1, rfl⟩
  | .bl _, _, _, _, _, _, _, _, _, h, _, _, _ => by rw [R] at h; rw [Lc.frz, R]; exact ⟨h.1, rfl⟩
  | .int _, _, _, _, _, _, _, _, _, h, _, _, _ => by rw [R] at h; rw [Lc.frz, R]; exact ⟨h.1, rfl⟩
  | .str _, _, _, _, _, _, _, _, _, h, _, _, _ => by rw [R] at h; rw [Lc.frz, R]; exact ⟨h.1, rfl⟩
  | .ty _, _, _, _, _, _, _, _, _, h, _, _, _ => by rw [R] at h; rw [Lc.frz, R]; exact ⟨h.1, rfl⟩
  | .tup xs, _, _, _, _, _, _, _, _, h, n, i, k => by
    rw [R] at h
    rw [noBor] at n
    rw [Lc.frz, R]
    obtain ⟨p, vs, e, t, h⟩ := h
    exact ⟨p, vs, e, (t.mono i).nil, RL.frz xs h n i k⟩
  | .nd kd .own xs, _, _, _, _, _, _, _, _, h, n, i, k => by
    rw [R] at h
    rw [noBor] at n
    rw [Lc.frz, R]
    obtain ⟨p, vs, fq, e, rfl, c, h⟩ := h
    exact ⟨p, vs, e, rfl, (c.at (k p (List.mem_cons_self ..))).cell, RL.frz xs h n i fun a ha => k a (List.mem_cons_of_mem _ ha)⟩
  | .nd kd .frz xs, _, _, _, _, _, _, _, _, h, n, i, k => by
    rw [R] at h
    rw [Lc.frz, R]
    obtain ⟨p, vs, e, _, c, h⟩ := h
    exact ⟨p, vs, e, rfl, c.mono i, RL.keep xs h i (leH.refl _) fun a ha => by cases ha⟩
  | .nd kd .bor xs, _, _, _, _, _, _, _, _, h, n, i, k => by rw [noBor] at n; cases n
  | .exn c n x, _, _, _, _, _, _, _, _, h, _, i, k => by
    rw [R] at h
    rw [Lc.frz, R]
    obtain ⟨a, d, w, e, _, h1, h2, h3⟩ := h
    exact ⟨a, d, w, e, rfl, h1, i _ _ h2, R.keep x h3 i (leH.refl _) fun a ha => by cases ha⟩
theorem RL.frz {g : Gs} : ∀ (xs : List D) {I B H I' B' H' : Hp} {vs : List V} {fp : List Addr}, RL g I B H xs vs fp → noBorL xs = true → leH I I' → (∀ a ∈ fp, I' a = H a) → RL g I' B' H' (frzL xs) vs []
  | [], _, _, _, _, _, _, _, _, h, _, _, _ => by rw [RL] at h; rw [frzL, RL]; exact ⟨h.1, rfl⟩
  | x :: xs, _, _, _, _, _, _, _, _, h, n, i, k => by
    rw [RL] at h
    rw [noBorL, Bool.and_eq_true] at n
    rw [frzL, RL]
    obtain ⟨v, vr, f1, f2, e, rfl, h1, h2⟩ := h
    exact ⟨v, vr, [], [], e, rfl, R.frz x h1 n.1 i fun a ha => k a (List.mem_append_left _ ha), RL.frz xs h2 n.2 i fun a ha => k a (List.mem_append_right _ ha)⟩
end
end Lc
end
section
set_option Elab.async false
set_option linter.all false
set_option maxRecDepth 100000
set_option maxHeartbeats 1000000
namespace Lc
open PySem L2

/-! ### places within a tree: through tuples and own nodes -/
def kids : D → List D
  | .tup xs => xs
  | .nd _ _ xs => xs
  | _ => []
def getP : D → List Nat → Option D
  | d, [] => some d
  | .tup xs, n :: p => match xs[n]? with
    | some x => getP x p
    | none => none
  | .nd _ .own xs, n :: p => match xs[n]? with
    | some x => getP x p
    | none => none
  | _, _ :: _ => none
def setP : D → List Nat → D → D
  | _, [], e => e
  | .tup xs, n :: p, e => match xs[n]? with
    | some x => .tup (xs.set n (setP x p e))
    | none => .tup xs
  | .nd k .own xs, n :: p, e => match xs[n]? with
    | some x => .nd k .own (xs.set n (setP x p e))
    | none => .nd k .own xs
  | d, _ :: _, _ => d

/-- the value at a place of the tree; S: the own cells that the way may use -/
def VAt (g : Gs) (I H : Hp) (S : Addr → Prop) : V → List Nat → V → Prop
  | v, [], w => w = v
  | v, n :: p, w => ∃ q vs v1, v = .ref q ∧ (I q = some (.tup vs) ∨ (S q ∧ ∃ k, OwnC g H k q vs)) ∧ vs[n]? = some v1 ∧ VAt g I H S v1 p w
theorem VAt.keep {g : Gs} {I I' H H' : Hp} {S S' : Addr → Prop} (i : leH I I') (k : ∀ a, S a → H' a = H a) (hs : ∀ a, S a → S' a) : ∀ {p : List Nat} {v w : V}, VAt g I H S v p w → VAt g I' H' S' v p w
  | [], _, _, a => a
  | n :: p, v, w, a => by
    obtain ⟨q, vs, v1, e1, h1, g1, a⟩ := a
    refine ⟨q, vs, v1, e1, ?_, g1, VAt.keep i k hs a⟩
    rcases h1 with h1 | ⟨s, kd, h1⟩
    · exact .inl (i _ _ h1)
    · exact .inr ⟨hs _ s, kd, h1.at (k q s)⟩

theorem OwnC.inj {g : Gs} {A : Hp} {p : Addr} : ∀ {k k' : Kd} {vs vs' : List V}, OwnC g A k p vs → OwnC g A k' p vs' → vs = vs'
  | .scr, _, _, _, h, _ => h.elim
  | .lst, .scr, _, _, _, h => h.elim
  | .dct _, .scr, _, _, _, h => h.elim
  | .dcT _, .scr, _, _, _, h => h.elim
  | .obj _ _, .scr, _, _, _, h => h.elim
  | .lst, .lst, _, _, h, h' => by
    have e := h.symm.trans h'
    cases e
    rfl
  | .lst, .dct _, _, _, h, h' => by cases h.symm.trans h'.2
  | .lst, .dcT _, _, _, h, h' => by cases h.symm.trans h'.2
  | .lst, .obj _ _, _, _, h, h' => by
    obtain ⟨_, _, h'⟩ := h'
    cases h.symm.trans h'
  | .dct _, .lst, _, _, h, h' => by cases h'.symm.trans h.2
  | .dct _, .dct _, _, _, ⟨l, h⟩, ⟨l', h'⟩ => by
    have e := h.symm.trans h'
    simp only [Option.some.injEq, HO.dK.injEq] at e
    have := congrArg (List.map Prod.snd) e
    rwa [List.map_snd_zip (Nat.le_of_eq l.symm), List.map_snd_zip (Nat.le_of_eq l'.symm)] at this
  | .dct _, .dcT _, _, _, h, h' => by cases h.2.symm.trans h'.2
  | .dct _, .obj _ _, _, _, h, h' => by
    obtain ⟨_, _, h'⟩ := h'
    cases h.2.symm.trans h'
  | .dcT _, .lst, _, _, h, h' => by cases h'.symm.trans h.2
  | .dcT _, .dct _, _, _, h, h' => by cases h.2.symm.trans h'.2
  | .dcT _, .dcT _, _, _, ⟨l, h⟩, ⟨l', h'⟩ => by
    have e := h.symm.trans h'
    simp only [Option.some.injEq, HO.dT.injEq] at e
    have := congrArg (List.map Prod.snd) e
    rwa [List.map_snd_zip (Nat.le_of_eq l.symm), List.map_snd_zip (Nat.le_of_eq l'.symm)] at this
  | .dcT _, .obj _ _, _, _, h, h' => by
    obtain ⟨_, _, h'⟩ := h'
    cases h.2.symm.trans h'
  | .obj _ _, .lst, _, _, h, h' => by
    obtain ⟨_, _, h⟩ := h
    cases h'.symm.trans h
  | .obj _ _, .dct _, _, _, h, h' => by
    obtain ⟨_, _, h⟩ := h
    cases h'.2.symm.trans h
  | .obj _ _, .dcT _, _, _, h, h' => by
    obtain ⟨_, _, h⟩ := h
    cases h'.2.symm.trans h
  | .obj _ _, .obj _ _, _, _, ⟨l, dx, h⟩, ⟨l', dx', h'⟩ => by
    have e := h.symm.trans h'
    simp only [Option.some.injEq, HO.ins.injEq] at e
    have := congrArg (List.map Prod.snd) e.2.2
    rwa [List.map_snd_zip (Nat.le_of_eq l.symm), List.map_snd_zip (Nat.le_of_eq l'.symm)] at this
theorem RL.at {g : Gs} {I B H : Hp} : ∀ {xs : List D} {vs : List V} {fp : List Addr} {n : Nat} {x : D}, RL g I B H xs vs fp → xs[n]? = some x →
    ∃ v fa fn fb, vs[n]? = some v ∧ fp = fa ++ fn ++ fb ∧ R g I B H x v fn ∧
      ∀ {I' H' : Hp} {x' : D} {v' : V} {fn' : List Addr}, leH I I' → R g I' B H' x' v' fn' → (∀ a ∈ fa ++ fb, H' a = H a) → RL g I' B H' (xs.set n x') (vs.set n v') (fa ++ fn' ++ fb)
  | [], _, _, _, _, _, e => by simp at e
  | y :: ys, vs, fp, 0, x, h, e => by
    rw [RL] at h
    obtain ⟨v, vr, f1, f2, rfl, rfl, h1, h2⟩ := h
    have e : y = x := by simpa using e
    subst e
    refine ⟨v, [], f1, f2, rfl, by simp, h1, fun {I' H' x' v' fn'} i h' k => ?_⟩
    rw [List.set_cons_zero, List.set_cons_zero, RL]
    exact ⟨v', vr, fn', f2, rfl, by simp, h', RL.keep ys h2 i (leH.refl _) fun a ha => k a (by simpa using ha)⟩
  | y :: ys, vs, fp, n + 1, x, h, e => by
    rw [RL] at h
    obtain ⟨v, vr, f1, f2, rfl, rfl, h1, h2⟩ := h
    have e : ys[n]? = some x := by simpa using e
    obtain ⟨w, fa, fn, fb, e1, rfl, r, up⟩ := RL.at h2 e
    refine ⟨w, f1 ++ fa, fn, fb, by simpa using e1, by simp, r, fun {I' H' x' v' fn'} i h' k => ?_⟩
    rw [List.set_cons_succ, List.set_cons_succ, RL]
    refine ⟨v, vr.set n v', f1, fa ++ fn' ++ fb, rfl, by simp, R.keep y h1 i (leH.refl _) fun a ha => k a (by simp [ha]), up i h' fun a ha => k a ?_⟩
    rcases List.mem_append.mp ha with ha | ha <;> simp [ha]

theorem TupC.own {g : Gs} {I : Hp} {p : Addr} {vs : List V} {fp : List Addr} (h : TupC g I p vs fp) (n : fp ≠ []) : I p = some (.tup vs) := by
  rcases h with h | ⟨e, h⟩
  · exact h
  · exact absurd e n

mutual
theorem R.isNil {g : Gs} : ∀ (d : D) {I B H : Hp} {v : V} {fp : List Addr}, R g I B H d v fp → fp = [] → Lc.noOwn d = true
  | .non, _, _, _, _, _, _, _ => by rw [Lc.noOwn]
  | .bl _, _, _, _, _, _, _, _ => by rw [Lc.noOwn]
  | .int _, _, _, _, _, _, _, _ => by rw [Lc.noOwn]
  | .str _, _, _, _, _, _, _, _ => by rw [Lc.noOwn]
  | .ty _, _, _, _, _, _, _, _ => by rw [Lc.noOwn]
  | .exn _ _ _, _, _, _, _, _, _, _ => by rw [Lc.noOwn]
  | .tup xs, _, _, _, _, _, h, e => by
    rw [R] at h
    obtain ⟨q, vs, _, _, h⟩ := h
    rw [Lc.noOwn, RL.isNil xs h e]
  | .nd k .own xs, _, _, _, _, _, h, e => by
    rw [R] at h
    obtain ⟨q, vs, fq, _, e2, _⟩ := h
    rw [e] at e2
    cases e2
  | .nd k .frz xs, _, _, _, _, _, _, _ => by rw [Lc.noOwn]
  | .nd k .bor xs, _, _, _, _, _, _, _ => by rw [Lc.noOwn]
theorem RL.isNil {g : Gs} : ∀ (xs : List D) {I B H : Hp} {vs : List V} {fp : List Addr}, RL g I B H xs vs fp → fp = [] → noOwnL xs = true
  | [], _, _, _, _, _, _, _ => by rw [noOwnL]
  | x :: xs, _, _, _, _, _, h, e => by
    rw [RL] at h
    obtain ⟨v, vr, f1, f2, _, e2, h1, h2⟩ := h
    rw [e2, List.append_eq_nil_iff] at e
    rw [noOwnL, R.isNil x h1 e.1, RL.isNil xs h2 e.2]
    rfl
end
/-- down to a place where an own cell is -/
theorem R.place {g : Gs} {I B H : Hp} : ∀ (p : List Nat) {d d' : D} {v : V} {fp : List Addr}, R g I B H d v fp → getP d p = some d' → Lc.noOwn d' = false →
    ∃ w fa fn fb, fp = fa ++ fn ++ fb ∧ VAt g I H (fun a => a ∈ fp) v p w ∧ R g I B H d' w fn ∧ fn ≠ [] ∧
      ∀ {I' H' : Hp} {e : D} {fn' : List Addr}, leH I I' → R g I' B H' e w fn' → (∀ a ∈ fa ++ fb, H' a = H a) → R g I' B H' (setP d p e) v (fa ++ fn' ++ fb)
  | [], d, d', v, fp, h, e, n => by
    rw [getP] at e
    cases e
    refine ⟨v, [], fp, [], by simp, rfl, h, fun z => ?_, fun {I' H' e fn'} i h' k => ?_⟩
    · rw [R.isNil d h z] at n
      cases n
    · rw [setP]
      simpa using h'
  | n :: p, .tup xs, d', v, fp, h, e, no => by
    rw [getP] at e
    cases hx : xs[n]? with
    | none =>
      rw [hx] at e
      cases e
    | some x =>
      rw [hx] at e
      rw [R] at h
      obtain ⟨q, vs, e1, t, h⟩ := h
      obtain ⟨v1, ga, gn, gb, hv, rfl, r, up⟩ := RL.at h hx
      obtain ⟨w, fa, fn, fb, rfl, va, rw', ne, up2⟩ := R.place p r (show getP x p = some d' from e) no
      have tt := t.own (by simp [ne])
      refine ⟨w, ga ++ fa, fn, fb ++ gb, by simp, ⟨q, vs, v1, e1, .inl tt, hv, va.keep (leH.refl _) (fun _ _ => rfl) fun a ha => by simp only [List.mem_append] at ha ⊢; rcases ha with (ha | ha) | ha <;> simp [ha]⟩, rw', ne, fun {I' H' e' fn'} i h' k => ?_⟩
      have u := up i (up2 i h' fun a ha => k a (by
        rcases List.mem_append.mp ha with ha | ha <;> simp [ha])) fun a ha => k a (by
        rcases List.mem_append.mp ha with ha | ha <;> simp [ha])
      rw [setP, hx]
      dsimp only
      rw [R]
      refine ⟨q, vs, e1, .inl (i _ _ tt), ?_⟩
      have ev : vs.set n v1 = vs := by
        obtain ⟨hl, hv⟩ := List.getElem?_eq_some_iff.mp hv
        rw [← hv, List.set_getElem_self]
      rw [ev] at u
      simpa using u
  | n :: p, .nd kd .own xs, d', v, fp, h, e, no => by
    rw [getP] at e
    cases hx : xs[n]? with
    | none =>
      rw [hx] at e
      cases e
    | some x =>
      rw [hx] at e
      rw [R] at h
      obtain ⟨q, vs, fq, e1, rfl, t, h⟩ := h
      obtain ⟨v1, ga, gn, gb, hv, rfl, r, up⟩ := RL.at h hx
      obtain ⟨w, fa, fn, fb, rfl, va, rw', ne, up2⟩ := R.place p r (show getP x p = some d' from e) no
      refine ⟨w, q :: (ga ++ fa), fn, fb ++ gb, by simp, ⟨q, vs, v1, e1, .inr ⟨by simp, kd, t⟩, hv, va.keep (leH.refl _) (fun _ _ => rfl) fun a ha => by simp only [List.mem_append, List.mem_cons] at ha ⊢; rcases ha with (ha | ha) | ha <;> simp [ha]⟩, rw', ne, fun {I' H' e' fn'} i h' k => ?_⟩
      have u := up i (up2 i h' fun a ha => k a (by
        rcases List.mem_append.mp ha with ha | ha <;> simp [ha])) fun a ha => k a (by
        rcases List.mem_append.mp ha with ha | ha <;> simp [ha])
      rw [setP, hx]
      dsimp only
      rw [R]
      refine ⟨q, vs, ga ++ (fa ++ fn' ++ fb) ++ gb, e1, by simp, t.at (k q (by simp)), ?_⟩
      have ev : vs.set n v1 = vs := by
        obtain ⟨hl, hv⟩ := List.getElem?_eq_some_iff.mp hv
        rw [← hv, List.set_getElem_self]
      rw [ev] at u
      exact u
  | n :: p, .nd kd .frz xs, d', v, fp, h, e, no => by rw [getP] at e <;> first | cases e | (intros; contradiction)
  | n :: p, .nd kd .bor xs, d', v, fp, h, e, no => by rw [getP] at e <;> first | cases e | (intros; contradiction)
  | n :: p, .non, d', v, fp, h, e, no => by rw [getP] at e <;> first | cases e | (intros; contradiction)
  | n :: p, .bl _, d', v, fp, h, e, no => by rw [getP] at e <;> first | cases e | (intros; contradiction)
  | n :: p, .int _, d', v, fp, h, e, no => by rw [getP] at e <;> first | cases e | (intros; contradiction)
  | n :: p, .str _, d', v, fp, h, e, no => by rw [getP] at e <;> first | cases e | (intros; contradiction)
  | n :: p, .ty _, d', v, fp, h, e, no => by rw [getP] at e <;> first | cases e | (intros; contradiction)
  | n :: p, .exn _ _ _, d', v, fp, h, e, no => by rw [getP] at e <;> first | cases e | (intros; contradiction)
theorem VAt.inj {g : Gs} {I H : Hp} {S S' : Addr → Prop} (hd : ∀ q vs k ws, I q = some (.tup vs) → OwnC g H k q ws → False) : ∀ {p : List Nat} {v w w' : V}, VAt g I H S v p w → VAt g I H S' v p w' → w = w'
  | [], _, _, _, a, b => by
    have a : _ = _ := a
    have b : _ = _ := b
    rw [a, b]
  | n :: p, v, w, w', a, b => by
    obtain ⟨q, vs, v1, e1, h1, g1, a⟩ := a
    obtain ⟨q', vs', v1', e1', h1', g1', b⟩ := b
    rw [e1] at e1'
    cases e1'
    have e : vs = vs' := by
      rcases h1 with h1 | ⟨_, k, h1⟩ <;> rcases h1' with h1' | ⟨_, k', h1'⟩
      · have e := h1.symm.trans h1'
        cases e
        rfl
      · exact (hd _ _ _ _ h1 h1').elim
      · exact (hd _ _ _ _ h1' h1).elim
      · exact h1.inj h1'
    subst e
    rw [g1] at g1'
    cases g1'
    exact VAt.inj hd a b
end Lc
end
section
set_option Elab.async false
set_option linter.all false
set_option maxRecDepth 100000
set_option maxHeartbeats 1000000
namespace Lc
open PySem L2

/-! ### the store of a def's body -/
inductive Sl where
  | no | v (d : D) | al (r : Nat) (p : List Nat)
structure Ctx where
  s : List Sl
  k : List (Nat × List Nat)
/-- the locked roots -/
def Ctx.kr (c : Ctx) : List Nat := c.k.map (·.1)
/-- what owns a cell: a slot, a temporary -/
abbrev Ow := Nat ⊕ Nat
/-- what stands still through an activation: the borrowed heap, what was frozen at its start -/
structure Act where
  g : Gs
  B : Hp
  I0 : Hp

/-- the value at a place of slot r -/
def PV (A : Act) (I H : Hp) (σ : St) (c : Ctx) (O : Addr → Option Ow) (r : Nat) (p : List Nat) (v : V) : Prop :=
  ∃ d v0 d', c.s[r]? = some (.v d) ∧ σ[r]? = some (some v0) ∧ getP d p = some d' ∧ Lc.noOwn d' = false ∧ VAt A.g I H (fun a => O a = some (.inl r)) v0 p v

/-- a tree at a value, its own cells labelled w -/
def RO (A : Act) (I H : Hp) (O : Addr → Option Ow) (w : Ow) (d : D) (v : V) : Prop := ∃ fp, R A.g I A.B H d v fp ∧ fp.Nodup ∧ ∀ a ∈ fp, O a = some w

structure Sat (A : Act) (I H : Hp) (σ : St) (c : Ctx) (ts : List (D × V)) (O : Addr → Option Ow) (lk : List (Nat × List Nat × V)) : Prop where
  ih : leH I H
  bh : leH A.B H
  i0 : leH A.I0 I
  ib : ∀ a o, I a = some o → A.I0 a = some o ∨ A.B a = none
  len : σ.length = c.s.length
  vals : ∀ (i : Nat) (d : D), c.s[i]? = some (.v d) → ∃ v, σ[i]? = some (some v) ∧ RO A I H O (.inl i) d v
  als : ∀ (i r : Nat) (p : List Nat), c.s[i]? = some (.al r p) → ∃ w, σ[i]? = some (some w) ∧ PV A I H σ c O r p w
  tmps : ∀ (j : Nat) (d : D) (v : V), ts[j]? = some (d, v) → RO A I H O (.inr j) d v
  lks : ∀ (r : Nat) (p : List Nat) (v : V), (r, p, v) ∈ lk → PV A I H σ c O r p v
  lke : lk.map (fun x => (x.1, x.2.1)) = c.k
  fr : ∀ a w, O a = some w → I a = none ∧ A.B a = none ∧ ∃ o, H a = some o

section
variable {A : Act} {I H I' H' : Hp} {σ σ' : St} {c c' : Ctx} {ts xs : List (D × V)} {O O' : Addr → Option Ow} {lk : List (Nat × List Nat × V)} {d : D} {v : V} {w : Ow} {r : Nat} {p : List Nat}

theorem Sat.lkr (S : Sat A I H σ c ts O lk) : lk.map (·.1) = c.kr := by
  rw [Ctx.kr, ← S.lke, List.map_map]
  rfl
theorem RO.keep (h : RO A I H O w d v) (i : leH I I') (k : ∀ a, O a = some w → H' a = H a) (ho : ∀ a, O a = some w → O' a = some w) : RO A I' H' O' w d v := by
  obtain ⟨fp, r, n, l⟩ := h
  exact ⟨fp, R.keep d r i (leH.refl _) fun a ha => k a (l a ha), n, fun a ha => ho a (l a ha)⟩
theorem PV.keep (h : PV A I H σ c O r p v) (i : leH I I') (k : ∀ a, O a = some (.inl r) → H' a = H a) (ho : ∀ a, O a = some (.inl r) → O' a = some (.inl r)) (hc : c'.s[r]? = c.s[r]?) (hs : σ'[r]? = σ[r]?) : PV A I' H' σ' c' O' r p v := by
  obtain ⟨d, v0, d', e1, e2, e3, e4, va⟩ := h
  exact ⟨d, v0, d', hc.trans e1, hs.trans e2, e3, e4, va.keep i k ho⟩
theorem RO.leaf (h : R A.g I A.B H d v []) : RO A I H O w d v := ⟨[], h, List.nodup_nil, fun a ha => by cases ha⟩
theorem RO.nil (h : RO A I H O w d v) (n : Lc.noOwn d = true) : R A.g I A.B H d v [] := by
  obtain ⟨fp, r, _, _⟩ := h
  have e := R.noOwn d r n
  subst e
  exact r

/-- cells are laid; nothing that is held changes -/
theorem Sat.frame (S : Sat A I H σ c ts O lk) (hI : leH I I') (hIH : leH I' H') (hB : leH A.B H') (hib : ∀ a o, I' a = some o → I a = some o ∨ A.B a = none) (hk : ∀ a w, O a = some w → H' a = H a)
    (hO : ∀ a w, O a = some w → O' a = some w) (hfr : ∀ a w, O' a = some w → I' a = none ∧ A.B a = none ∧ ∃ o, H' a = some o) : Sat A I' H' σ c ts O' lk where
  ih := hIH
  bh := hB
  i0 := S.i0.trans hI
  ib := fun a o e => by
    rcases hib a o e with h | h
    · exact S.ib a o h
    · exact .inr h
  len := S.len
  vals := fun i d e => by
    obtain ⟨v, e1, h⟩ := S.vals i d e
    exact ⟨v, e1, h.keep hI (fun a => hk a _) fun a => hO a _⟩
  als := fun i r p e => by
    obtain ⟨w, e1, h⟩ := S.als i r p e
    exact ⟨w, e1, h.keep hI (fun a => hk a _) (fun a => hO a _) rfl rfl⟩
  tmps := fun j d v e => (S.tmps j d v e).keep hI (fun a => hk a _) fun a => hO a _
  lks := fun r p v e => (S.lks r p v e).keep hI (fun a => hk a _) (fun a => hO a _) rfl rfl
  lke := S.lke
  fr := hfr

theorem Sat.new (S : Sat A I H σ c ts O lk) {a : Addr} (n : H a = none) : O a = none ∧ I a = none ∧ A.B a = none := by
  refine ⟨?_, ?_, ?_⟩
  · cases e : O a with
    | none => rfl
    | some w =>
      obtain ⟨_, _, o, z⟩ := S.fr a w e
      rw [n] at z
      cases z
  · cases e : I a with
    | none => rfl
    | some o =>
      rw [S.ih a o e] at n
      cases n
  · cases e : A.B a with
    | none => rfl
    | some o =>
      rw [S.bh a o e] at n
      cases n

theorem leH.upd {A : Hp} {a : Addr} {o : HO} (n : A a = none) : leH A (upd A a o) := fun b x e => by
  rw [upd_ne (ne_of_none e n)]
  exact e
theorem leH.upd2 {A B : Hp} {a : Addr} {o : HO} (h : leH A B) (n : A a = none) : leH A (L2.upd B a o) := fun b x e => by
  rw [upd_ne (ne_of_none e n)]
  exact h b x e
theorem leH.upd3 {A B : Hp} {a : Addr} {o : HO} (h : leH A B) : leH (L2.upd A a o) (L2.upd B a o) := fun b x e => by
  by_cases hb : b = a
  · subst hb
    rw [upd_same] at e ⊢
    exact e
  · rw [upd_ne hb] at e ⊢
    exact h b x e

/-- a new cell, held by nobody yet -/
theorem Sat.alloc (S : Sat A I H σ c ts O lk) {a : Addr} {o : HO} (n : H a = none) : Sat A I (upd H a o) σ c ts O lk := by
  obtain ⟨n1, n2, n3⟩ := S.new n
  refine S.frame (leH.refl _) (S.ih.upd2 n2) (S.bh.upd2 n3) (fun _ _ e => .inl e) (fun b w e => upd_ne fun z => ?_) (fun _ _ e => e) fun b w e => ?_
  · rw [z, n1] at e
    cases e
  · obtain ⟨x, y, u, z⟩ := S.fr b w e
    refine ⟨x, y, u, ?_⟩
    rw [upd_ne (ne_of_none z n)]
    exact z
/-- a new cell that is frozen at once -/
theorem Sat.allocI (S : Sat A I H σ c ts O lk) {a : Addr} {o : HO} (n : H a = none) : Sat A (upd I a o) (upd H a o) σ c ts O lk := by
  obtain ⟨n1, n2, n3⟩ := S.new n
  refine S.frame (leH.upd n2) S.ih.upd3 (S.bh.upd2 n3) (fun b u e => ?_) (fun b w e => upd_ne fun z => ?_) (fun _ _ e => e) fun b w e => ?_
  · by_cases hb : b = a
    · subst hb
      exact .inr n3
    · rw [upd_ne hb] at e
      exact .inl e
  · rw [z, n1] at e
    cases e
  · obtain ⟨x, y, u, z⟩ := S.fr b w e
    have hb := ne_of_none z n
    refine ⟨?_, y, u, ?_⟩
    · rw [upd_ne hb]
      exact x
    · rw [upd_ne hb]
      exact z
theorem Sat.pop (S : Sat A I H σ c (ts ++ xs) O lk) : Sat A I H σ c ts O lk :=
  ⟨S.ih, S.bh, S.i0, S.ib, S.len, S.vals, S.als, fun j d v e => S.tmps j d v (by
    rw [List.getElem?_append_left (List.getElem?_eq_some_iff.mp e).1]
    exact e), S.lks, S.lke, S.fr⟩
theorem Sat.last (S : Sat A I H σ c (ts ++ [(d, v)]) O lk) : RO A I H O (.inr ts.length) d v := S.tmps _ _ _ (by simp)
theorem Sat.push (S : Sat A I H σ c ts O lk) (h : R A.g I A.B H d v []) : Sat A I H σ c (ts ++ [(d, v)]) O lk :=
  ⟨S.ih, S.bh, S.i0, S.ib, S.len, S.vals, S.als, fun j d' v' e => by
    by_cases hj : j < ts.length
    · rw [List.getElem?_append_left hj] at e
      exact S.tmps j d' v' e
    · rw [List.getElem?_append_right (Nat.le_of_not_lt hj)] at e
      have : j - ts.length = 0 := by
        have := (List.getElem?_eq_some_iff.mp e).1
        simp at this
        omega
      rw [this] at e
      cases e
      exact RO.leaf h, S.lks, S.lke, S.fr⟩
/-- the last temporaries become one -/
theorem Sat.join {fp : List Addr} (S : Sat A I H σ c (ts ++ xs) O lk) (h : R A.g I A.B H d v fp) (nd : fp.Nodup)
    (ho : ∀ a ∈ fp, (∃ j, O a = some (.inr j) ∧ ts.length ≤ j) ∨ (O a = none ∧ I a = none ∧ A.B a = none ∧ ∃ o, H a = some o)) :
    ∃ O', Sat A I H σ c (ts ++ [(d, v)]) O' lk := by
  classical
  refine ⟨fun a => if a ∈ fp then some (.inr ts.length) else O a, ?_⟩
  have kp : ∀ a i, O a = some (.inl i) → (if a ∈ fp then some (Sum.inr ts.length) else O a) = some (.inl i) := fun a i e => by
    rw [if_neg fun ha => ?_, e]
    rcases ho a ha with ⟨j, e2, _⟩ | ⟨e2, _⟩
    · rw [e] at e2
      cases e2
    · rw [e] at e2
      cases e2
  refine ⟨S.ih, S.bh, S.i0, S.ib, S.len, fun i d' e => ?_, fun i r p e => ?_, fun j d' v' e => ?_, fun r p v' e => ?_, S.lke, fun a w e => ?_⟩
  · obtain ⟨v', e1, h⟩ := S.vals i d' e
    exact ⟨v', e1, h.keep (leH.refl _) (fun _ _ => rfl) fun a => kp a _⟩
  · obtain ⟨v', e1, h⟩ := S.als i r p e
    exact ⟨v', e1, h.keep (leH.refl _) (fun _ _ => rfl) (fun a => kp a _) rfl rfl⟩
  · by_cases hj : j < ts.length
    · rw [List.getElem?_append_left hj] at e
      refine (S.tmps j d' v' (by rw [List.getElem?_append_left hj]; exact e)).keep (leH.refl _) (fun _ _ => rfl) fun a e2 => ?_
      rw [if_neg fun ha => ?_, e2]
      rcases ho a ha with ⟨j', e3, l⟩ | ⟨e3, _⟩
      · rw [e2] at e3
        cases e3
        omega
      · rw [e2] at e3
        cases e3
    · rw [List.getElem?_append_right (Nat.le_of_not_lt hj)] at e
      have z : j - ts.length = 0 := by
        have := (List.getElem?_eq_some_iff.mp e).1
        simp at this
        omega
      have z2 : j = ts.length := by omega
      rw [z] at e
      cases e
      subst z2
      exact ⟨fp, h, nd, fun a ha => if_pos ha⟩
  · exact (S.lks r p v' e).keep (leH.refl _) (fun _ _ => rfl) (fun a => kp a _) rfl rfl
  · by_cases ha : a ∈ fp
    · rcases ho a ha with ⟨j, e2, _⟩ | ⟨_, e2⟩
      · exact S.fr a _ e2
      · exact e2
    · rw [if_neg ha] at e
      exact S.fr a w e
/-- the subtree at a place -/
theorem Sat.at (S : Sat A I H σ c ts O lk) (h : PV A I H σ c O r p v) : ∃ d v0 d' fa fn fb, c.s[r]? = some (.v d) ∧ σ[r]? = some (some v0) ∧ getP d p = some d' ∧ R A.g I A.B H d v0 (fa ++ fn ++ fb) ∧ (fa ++ fn ++ fb).Nodup ∧
    (∀ a ∈ fa ++ fn ++ fb, O a = some (.inl r)) ∧ R A.g I A.B H d' v fn ∧ fn ≠ [] ∧
      ∀ {I' H' : Hp} {e : D} {fn' : List Addr}, leH I I' → R A.g I' A.B H' e v fn' → (∀ a ∈ fa ++ fb, H' a = H a) → R A.g I' A.B H' (setP d p e) v0 (fa ++ fn' ++ fb) := by
  obtain ⟨d, v0, d', e1, e2, e3, e4, va⟩ := h
  obtain ⟨v1, e5, fp, rr, nd, l⟩ := S.vals r d e1
  rw [e2] at e5
  cases e5
  obtain ⟨w, fa, fn, fb, rfl, va', rn, ne, up⟩ := R.place p rr e3 e4
  have ew : w = v := va'.inj (fun q vs k ws hi ho => by
    have := S.ih _ _ hi
    cases k with
    | lst => cases this.symm.trans ho
    | scr => exact ho.elim
    | dct ks => cases this.symm.trans ho.2
    | dcT ks => cases this.symm.trans ho.2
    | obj cc ns =>
      obtain ⟨_, dx, ho⟩ := ho
      cases this.symm.trans ho) va
  subst ew
  exact ⟨d, v0, d', fa, fn, fb, e1, e2, e3, rr, nd, l, rn, ne, up⟩
end

/-! ### outcomes -/
inductive EV where
  | t (d : D) | pl (r : Nat) (p : List Nat)
/-- of an expression: a value | an exception of class c with its one field | nothing is said -/
inductive ER where
  | ok (e : EV) (c : Ctx)
  | exc (k : Nat) (n : Str) (x : D) (c : Ctx)
  | bad
inductive TR where
  | ok (b : Bool) (c : Ctx)
  | exc (k : Nat) (n : Str) (x : D) (c : Ctx)
  | bad
inductive AR where
  | ok (es : List EV) (c : Ctx)
  | exc (k : Nat) (n : Str) (x : D) (c : Ctx)
  | bad
inductive SR where
  | nx (c : Ctx) | rt (d : D) (c : Ctx) | bk (c : Ctx) | ct (c : Ctx)
  | exc (k : Nat) (n : Str) (x : D) (c : Ctx)
  | bad

abbrev Wx := Value → Option Addr → St → Hp → Prop
/-- an exception leaves -/
def XP (A : Act) (W : Wx) (σ : St) (ts : List (D × V)) (lk : List (Nat × List Nat × V)) (k : Nat) (n : Str) (x : D) (c : Ctx) : Prop :=
  ∀ (d : Addr) (v : V) (I H : Hp) (O : Addr → Option Ow), Sat A I H σ c ts O lk → I d = some (.xd [(n, v)]) → R A.g I noH noH x v [] → W (.ref (A.g.G k)) (some d) σ H

def tE (A : Act) (W : Wx) (m : Ctx → ER) : TE := fun σ H Q => ∃ I c ts O lk, Sat A I H σ c ts O lk ∧ match m c with
  | .ok (.t d) c' => ∀ v I' H' O', Sat A I' H' σ c' (ts ++ [(d, v)]) O' lk → Q v H'
  | .ok (.pl r p) c' => ∀ v I' H' O', Sat A I' H' σ c' ts O' lk → PV A I' H' σ c' O' r p v → Q v H'
  | .exc k n x c' => XP A W σ ts lk k n x c'
  | .bad => False
def tT (A : Act) (W : Wx) (m : Ctx → TR) : TT := fun σ H Q => ∃ I c ts O lk, Sat A I H σ c ts O lk ∧ match m c with
  | .ok b c' => ∀ I' H' O', Sat A I' H' σ c' ts O' lk → Q b H'
  | .exc k n x c' => XP A W σ ts lk k n x c'
  | .bad => False

theorem PE.imp {X : Cx} {e : Expr} {t t' : TE} (h : PE X e t) (q : ∀ σ H Q, t' σ H Q → t σ H Q) : PE X e t' := ⟨fun pins s σ H Q I x => h.run pins s σ H Q I (q σ H Q x)⟩
theorem PT.imp {X : Cx} {e : Expr} {t t' : TT} (h : PT X e t) (q : ∀ σ H Q, t' σ H Q → t σ H Q) : PT X e t' := ⟨fun pins s σ H Q I x => h.run pins s σ H Q I (q σ H Q x)⟩
theorem PS.imp {X : Cx} {e : Stmt} {t t' : TS} (h : PS X e t) (q : ∀ D σ H, t' D σ H → t D σ H) : PS X e t' := ⟨fun pins s σ H D I x => h.run pins s σ H D I (q D σ H x)⟩
theorem PSs.imp {X : Cx} {e : List Stmt} {t t' : TS} (h : PSs X e t) (q : ∀ D σ H, t' D σ H → t D σ H) : PSs X e t' := ⟨fun pins s σ H D I x => h.run pins s σ H D I (q D σ H x)⟩
theorem PA.imp {X : Cx} {e : List Expr} {t t' : TA} (h : PA X e t) (q : ∀ σ H Q, t' σ H Q → t σ H Q) : PA X e t' := ⟨fun pos pins s σ H Q I x => h.run pos pins s σ H Q I (q σ H Q x)⟩
end Lc
end
section
set_option Elab.async false
set_option linter.all false
set_option maxRecDepth 100000
set_option maxHeartbeats 1000000
namespace Lc
open PySem L2

/-! ### operands: temporaries, locked places -/
def lockE : EV → Ctx → Ctx
  | .t _, c => c
  | .pl r p, c => { c with k := (r, p) :: c.k }
def unlockE : EV → Ctx → Ctx
  | .t _, c => c
  | .pl _ _, c => { c with k := c.k.drop 1 }
def unlocks : List EV → Ctx → Ctx
  | [], c => c
  | e :: es, c => unlockE e (unlocks es c)
def tmpsOf : List EV → List V → List (D × V)
  | .t d :: es, v :: vs => (d, v) :: tmpsOf es vs
  | .pl _ _ :: es, _ :: vs => tmpsOf es vs
  | _, _ => []
def lksOf : List EV → List V → List (Nat × List Nat × V)
  | .t _ :: es, _ :: vs => lksOf es vs
  | .pl r p :: es, v :: vs => lksOf es vs ++ [(r, p, v)]
  | _, _ => []
def val (c : Ctx) : EV → Option D
  | .t d => some d
  | .pl r p => match c.s[r]? with
    | some (.v d) => getP d p
    | _ => none
def valsOf (c : Ctx) : List EV → Option (List D)
  | [] => some []
  | e :: es => match val c e, valsOf c es with
    | some d, some ds => some (d :: ds)
    | _, _ => none

def eArgs : List (Ctx → ER) → Ctx → AR
  | [], c => .ok [] c
  | m :: ms, c => match m c with
    | .ok e c1 => match eArgs ms (lockE e c1) with
      | .ok es c2 => .ok (e :: es) c2
      | .exc k n x c2 => .exc k n x (unlockE e c2)
      | .bad => .bad
    | .exc k n x c1 => .exc k n x c1
    | .bad => .bad

def tA' (A : Act) (W : Wx) (m : Ctx → AR) : TA := fun σ H Q => ∃ I c ts O lk, Sat A I H σ c ts O lk ∧ match m c with
  | .ok es c' => ∀ vs I' H' O', vs.length = es.length → Sat A I' H' σ c' (ts ++ tmpsOf es vs) O' (lksOf es vs ++ lk) → Q vs H'
  | .exc k n x c' => XP A W σ ts lk k n x c'
  | .bad => False

section
variable {A : Act} {W : Wx} {I H I' H' : Hp} {σ : St} {c c' : Ctx} {ts xs : List (D × V)} {O O' : Addr → Option Ow} {lk l2 : List (Nat × List Nat × V)} {d : D} {v : V} {r : Nat} {p : List Nat}

theorem PV.ctx (h : PV A I H σ c O r p v) (e : c'.s = c.s) : PV A I H σ c' O r p v := h.keep (leH.refl _) (fun _ _ => rfl) (fun _ e => e) (by rw [e]) rfl
theorem Sat.locked (S : Sat A I H σ c ts O lk) (h : PV A I H σ c O r p v) : Sat A I H σ { c with k := (r, p) :: c.k } ts O ((r, p, v) :: lk) where
  ih := S.ih
  bh := S.bh
  i0 := S.i0
  ib := S.ib
  len := S.len
  vals := S.vals
  als := fun i r p e => by
    obtain ⟨w, e1, h⟩ := S.als i r p e
    exact ⟨w, e1, h.ctx rfl⟩
  tmps := S.tmps
  lks := fun r' p' v' e => by
    rcases List.mem_cons.mp e with e | e
    · cases e
      exact h.ctx rfl
    · exact (S.lks r' p' v' e).ctx rfl
  lke := by rw [List.map_cons, S.lke]
  fr := S.fr
theorem Sat.unlocked (S : Sat A I H σ c ts O ((r, p, v) :: lk)) : Sat A I H σ { c with k := c.k.drop 1 } ts O lk ∧ PV A I H σ { c with k := c.k.drop 1 } O r p v := by
  refine ⟨⟨S.ih, S.bh, S.i0, S.ib, S.len, S.vals, fun i r p e => ?_, S.tmps, fun r' p' v' e => ?_, ?_, S.fr⟩, (S.lks r p v (by simp)).ctx rfl⟩
  · obtain ⟨w, e1, h⟩ := S.als i r p e
    exact ⟨w, e1, h.ctx rfl⟩
  · exact (S.lks r' p' v' (List.mem_cons_of_mem _ e)).ctx rfl
  · show lk.map _ = c.k.drop 1
    rw [← S.lke]
    rfl
theorem Sat.unlockL : ∀ {es : List EV} {vs : List V} {c : Ctx} {lk : List (Nat × List Nat × V)}, vs.length = es.length → Sat A I H σ c ts O (lksOf es vs ++ lk) → Sat A I H σ (unlocks es c) ts O lk
  | [], vs, c, lk, hl, S => by
    cases vs with
    | nil => exact S
    | cons _ _ => cases hl
  | .t d :: es, v :: vs, c, lk, hl, S => by
    have hl : vs.length = es.length := by simpa using hl
    exact Sat.unlockL (es := es) (vs := vs) hl S
  | .pl r p :: es, v :: vs, c, lk, hl, S => by
    have hl : vs.length = es.length := by simpa using hl
    have S2 : Sat A I H σ c ts O (lksOf es vs ++ ((r, p, v) :: lk)) := by
      have : lksOf (.pl r p :: es) (v :: vs) ++ lk = lksOf es vs ++ ((r, p, v) :: lk) := by
        show (lksOf es vs ++ [(r, p, v)]) ++ lk = _
        rw [List.append_assoc, List.singleton_append]
      rw [← this]
      exact S
    exact (Sat.unlockL (es := es) (vs := vs) hl S2).unlocked.1
  | _ :: _, [], _, _, hl, _ => by cases hl

/-- a value's tree, by value -/
def EAt (A : Act) (I H : Hp) (d : D) (v : V) : Prop := ∃ fp, R A.g I A.B H d v fp
theorem Sat.valsOf : ∀ {es : List EV} {vs : List V} {ds : List D} {ts : List (D × V)} {lk : List (Nat × List Nat × V)}, vs.length = es.length → Lc.valsOf c es = some ds → Sat A I H σ c (ts ++ tmpsOf es vs) O (lksOf es vs ++ lk) → Paired (EAt A I H) ds vs
  | [], vs, ds, ts, lk, hl, e, S => by
    cases vs with
    | nil =>
      rw [Lc.valsOf] at e
      cases e
      exact .nil
    | cons _ _ => cases hl
  | x :: es, v :: vs, ds, ts, lk, hl, e, S => by
    have hl2 : vs.length = es.length := by simpa using hl
    rw [Lc.valsOf] at e
    cases e1 : val c x with
    | none => rw [e1] at e; cases e
    | some d =>
      cases e2 : Lc.valsOf c es with
      | none => rw [e1, e2] at e; cases e
      | some ds' =>
        rw [e1, e2] at e
        cases e
        cases x with
        | t d' =>
          rw [val] at e1
          cases e1
          have hz : (ts ++ (d, v) :: tmpsOf es vs)[ts.length]? = some (d, v) := by simp
          obtain ⟨fp, rr, _⟩ := S.tmps _ _ _ hz
          refine .cons ⟨fp, rr⟩ (Sat.valsOf (es := es) (vs := vs) (ts := ts ++ [(d, v)]) (lk := lk) hl2 e2 ?_)
          have : ts ++ [(d, v)] ++ tmpsOf es vs = ts ++ tmpsOf (.t d :: es) (v :: vs) := by
            rw [tmpsOf, List.append_assoc, List.singleton_append]
          rw [this]
          exact S
        | pl r p =>
          have hm : (r, p, v) ∈ lksOf (.pl r p :: es) (v :: vs) ++ lk := by simp [lksOf]
          obtain ⟨d0, v0, d', fa, fn, fb, q1, q2, q3, _, _, _, rn, _, _⟩ := S.at (S.lks r p v hm)
          have : d' = d := by
            rw [val, q1] at e1
            dsimp only at e1
            rw [q3] at e1
            cases e1
            rfl
          subst this
          refine .cons ⟨fn, rn⟩ (Sat.valsOf (es := es) (vs := vs) (ts := ts) (lk := (r, p, v) :: lk) hl2 e2 ?_)
          have : lksOf es vs ++ ((r, p, v) :: lk) = lksOf (.pl r p :: es) (v :: vs) ++ lk := by
            show _ = (lksOf es vs ++ [(r, p, v)]) ++ lk
            rw [List.append_assoc, List.singleton_append]
          rw [this]
          exact S
  | _ :: _, [], _, _, _, hl, _, _ => by cases hl

theorem tA_nil : ∀ σ H Q, tA' A W (eArgs []) σ H Q → tNil σ H Q := fun σ H Q ⟨I, c, ts, O, lk, S, h⟩ => h [] I H O rfl (by
  have e : ts ++ tmpsOf [] [] = ts := by simp [tmpsOf]
  rw [e]
  exact S)
theorem XP.unlock {k : Nat} {n : Str} {x : D} {e : EV} (h : XP A W σ ts lk k n x (unlockE e c)) : XP A W σ (ts ++ tmpsOf [e] [v]) (lksOf [e] [v] ++ lk) k n x c := fun d w I H O S i rx => by
  cases e with
  | t d0 => exact h d w I H O S.pop i rx
  | pl r p => exact h d w I H O (by
      have S2 : Sat A I H σ c (ts ++ []) O ((r, p, v) :: lk) := S
      rw [List.append_nil] at S2
      exact S2.unlocked.1) i rx
theorem tA_cons {m : Ctx → ER} {ms : List (Ctx → ER)} : ∀ σ H Q, tA' A W (eArgs (m :: ms)) σ H Q → tCons (tE A W m) (tA' A W (eArgs ms)) σ H Q := fun σ H Q ⟨I, c, ts, O, lk, S, h⟩ => by
  refine ⟨I, c, ts, O, lk, S, ?_⟩
  rw [eArgs] at h
  cases e : m c with
  | bad => rw [e] at h; exact h
  | exc k n x c1 => rw [e] at h; exact h
  | ok ev c1 =>
    rw [e] at h
    cases ev with
    | t d =>
      intro v I1 H1 O1 S1
      refine ⟨I1, c1, _, O1, lk, S1, ?_⟩
      dsimp only at h
      rw [lockE] at h
      cases e2 : eArgs ms c1 with
      | bad => rw [e2] at h; exact h
      | exc k n x c2 =>
        rw [e2] at h
        have := XP.unlock (v := v) (e := .t d) h
        exact this
      | ok es c2 =>
        rw [e2] at h
        intro vs I2 H2 O2 hl S2
        refine h (v :: vs) I2 H2 O2 (by simp [hl]) ?_
        have : ts ++ tmpsOf (.t d :: es) (v :: vs) = ts ++ [(d, v)] ++ tmpsOf es vs := by
          rw [tmpsOf, List.append_assoc, List.singleton_append]
        rw [this]
        exact S2
    | pl r p =>
      intro v I1 H1 O1 S1 pv
      refine ⟨I1, lockE (.pl r p) c1, ts, O1, (r, p, v) :: lk, S1.locked pv, ?_⟩
      dsimp only at h
      cases e2 : eArgs ms (lockE (.pl r p) c1) with
      | bad => rw [e2] at h; exact h
      | exc k n x c2 =>
        rw [e2] at h
        have := XP.unlock (v := v) (e := .pl r p) h
        rw [tmpsOf, tmpsOf, List.append_nil] at this
        · exact this
        · intros; contradiction
        · intros; contradiction
      | ok es c2 =>
        rw [e2] at h
        intro vs I2 H2 O2 hl S2
        refine h (v :: vs) I2 H2 O2 (by simp [hl]) ?_
        have : lksOf (.pl r p :: es) (v :: vs) ++ lk = lksOf es vs ++ ((r, p, v) :: lk) := by
          show (lksOf es vs ++ [(r, p, v)]) ++ lk = _
          rw [List.append_assoc, List.singleton_append]
        rw [this]
        exact S2

/-! ### operations on values -/
/-- what an operation may leave -/
inductive Res (A : Act) (I : Hp) : Hp → D → V → Hp → Hp → Prop where
  | leaf {H : Hp} {d : D} {v : V} : R A.g I A.B H d v [] → Res A I H d v I H
  | list {H : Hp} {xs : List D} {vs : List V} {p : Addr} : RL A.g I A.B H xs vs [] → H p = none → Res A I H (.nd .lst .own xs) (.ref p) I (upd H p (.lst vs))
  | dict {H : Hp} {ks : List Key} {xs : List D} {vs : List V} {p : Addr} : RL A.g I A.B H xs vs [] → ks.length = vs.length → H p = none → Res A I H (.nd (.dct ks) .own xs) (.ref p) I (upd H p (.dK (ks.zip vs)))
  | dictT {H : Hp} {ks : List (List Key)} {xs : List D} {vs : List V} {p : Addr} : RL A.g I A.B H xs vs [] → ks.length = vs.length → H p = none → Res A I H (.nd (.dcT ks) .own xs) (.ref p) I (upd H p (.dT (ks.zip vs)))
  | tup {H : Hp} {xs : List D} {vs : List V} {p : Addr} : RL A.g I A.B H xs vs [] → H p = none → Res A I H (.tup xs) (.ref p) (upd I p (.tup vs)) (upd H p (.tup vs))
  | more {H : Hp} {d : D} {v : V} {p : Addr} {o : HO} {I' H' : Hp} : H p = none → Res A I (upd H p o) d v I' H' → Res A I H d v I' H'

theorem RL.any {g : Gs} {I B H H' : Hp} {xs : List D} {vs : List V} (h : RL g I B H xs vs []) : RL g I B H' xs vs [] := RL.keep xs h (leH.refl _) (leH.refl _) fun a ha => by cases ha
theorem R.any {g : Gs} {I B H H' : Hp} {d : D} {v : V} (h : R g I B H d v []) : R g I B H' d v [] := R.keep d h (leH.refl _) (leH.refl _) fun a ha => by cases ha

theorem Res.sat {d : D} {v : V} (h : Res A I H d v I' H') : ∀ {O : Addr → Option Ow}, Sat A I H σ c (ts ++ xs) O lk → ∃ O', Sat A I' H' σ c (ts ++ [(d, v)]) O' lk := by
  induction h with
  | leaf h =>
    intro O S
    exact ⟨O, S.pop.push h⟩
  | @list H ys vs p h n =>
    intro O S
    obtain ⟨n1, n2, n3⟩ := S.new n
    have S1 := S.alloc (o := .lst vs) n
    refine S1.join (d := .nd .lst .own ys) (v := .ref p) (fp := [p]) ?_ (by simp) fun a ha => ?_
    · rw [R]
      exact ⟨p, vs, [], rfl, rfl, upd_same, h.any⟩
    · have e : a = p := by simpa using ha
      subst e
      exact .inr ⟨n1, n2, n3, _, upd_same⟩
  | @dict H ks ys vs p h hl n =>
    intro O S
    obtain ⟨n1, n2, n3⟩ := S.new n
    have S1 := S.alloc (o := .dK (ks.zip vs)) n
    refine S1.join (d := .nd (.dct ks) .own ys) (v := .ref p) (fp := [p]) ?_ (by simp) fun a ha => ?_
    · rw [R]
      exact ⟨p, vs, [], rfl, rfl, ⟨hl, upd_same⟩, h.any⟩
    · have e : a = p := by simpa using ha
      subst e
      exact .inr ⟨n1, n2, n3, _, upd_same⟩
  | @dictT H ks ys vs p h hl n =>
    intro O S
    obtain ⟨n1, n2, n3⟩ := S.new n
    have S1 := S.alloc (o := .dT (ks.zip vs)) n
    refine S1.join (d := .nd (.dcT ks) .own ys) (v := .ref p) (fp := [p]) ?_ (by simp) fun a ha => ?_
    · rw [R]
      exact ⟨p, vs, [], rfl, rfl, ⟨hl, upd_same⟩, h.any⟩
    · have e : a = p := by simpa using ha
      subst e
      exact .inr ⟨n1, n2, n3, _, upd_same⟩
  | @tup H ys vs p h n =>
    intro O S
    obtain ⟨n1, n2, n3⟩ := S.new n
    have S1 := S.pop.allocI (o := .tup vs) n
    refine ⟨O, S1.push ?_⟩
    rw [R]
    exact ⟨p, vs, rfl, .inl upd_same, RL.keep ys h (leH.upd n2) (leH.refl _) fun a ha => by cases ha⟩
  | @more H d v p o I' H' n h ih =>
    intro O S
    exact ih (S.alloc n)

/-- an operation: r asks of the values what f tells of the trees -/
def OpS (A : Act) (f : List D → Option D) (r : List V → Hp → VK → Prop) : Prop := ∀ (I H : Hp) (ds : List D) (vs : List V) (Q : VK) (d : D), leH I H → leH A.B H → Paired (EAt A I H) ds vs → f ds = some d →
  (∀ v I' H', Res A I H d v I' H' → Q v H') → r vs H Q

def eOp (f : List D → Option D) (ms : List (Ctx → ER)) : Ctx → ER := fun c => match eArgs ms c with
  | .ok es c2 => match valsOf c2 es with
    | some ds => match f ds with
      | some d => .ok (.t d) (unlocks es c2)
      | none => .bad
    | none => .bad
  | .exc k n x c2 => .exc k n x c2
  | .bad => .bad
theorem tE_op {f : List D → Option D} {ms : List (Ctx → ER)} {r : List V → Hp → VK → Prop} (o : OpS A f r) : ∀ σ H Q, tE A W (eOp f ms) σ H Q → tA' A W (eArgs ms) σ H (fun vs H2 => r vs H2 Q) := fun σ H Q ⟨I, c, ts, O, lk, S, h⟩ => by
  refine ⟨I, c, ts, O, lk, S, ?_⟩
  rw [eOp] at h
  cases e : eArgs ms c with
  | bad => rw [e] at h; exact h
  | exc k n x c1 => rw [e] at h; exact h
  | ok es c2 =>
    rw [e] at h
    dsimp only at h
    intro vs I2 H2 O2 hl S2
    cases e2 : valsOf c2 es with
    | none => rw [e2] at h; exact h.elim
    | some ds =>
      rw [e2] at h
      dsimp only at h
      cases e3 : f ds with
      | none => rw [e3] at h; exact h.elim
      | some d =>
        rw [e3] at h
        dsimp only at h
        refine o I2 H2 ds vs Q d S2.ih S2.bh (Sat.valsOf hl e2 S2) e3 fun v I3 H3 rs => ?_
        obtain ⟨O3, S3⟩ := rs.sat (Sat.unlockL hl S2)
        exact h v I3 H3 O3 S3
end
end Lc
end
section
set_option Elab.async false
set_option linter.all false
set_option maxRecDepth 100000
set_option maxHeartbeats 1000000
namespace Lc
open PySem L2

section
variable {A : Act} {W : Wx} {X : Cx}

theorem tE.mono {m : Ctx → ER} {σ : St} {H : Hp} {Q Q' : VK} (h : tE A W m σ H Q) (q : ∀ v H', Q v H' → Q' v H') : tE A W m σ H Q' := by
  obtain ⟨I, c, ts, O, lk, S, h⟩ := h
  refine ⟨I, c, ts, O, lk, S, ?_⟩
  cases e : m c with
  | bad => rw [e] at h; exact h
  | exc k n x c1 => rw [e] at h; exact h
  | ok ev c1 =>
    rw [e] at h
    cases ev with
    | t d => exact fun v I' H' O' S' => q _ _ (h v I' H' O' S')
    | pl r p => exact fun v I' H' O' S' pv => q _ _ (h v I' H' O' S' pv)

/-- an argument list of these terms -/
theorem PA_nil : PA X [] (tA' A W (eArgs [])) := PA.imp pa_nil tA_nil
theorem PA_cons {e : Expr} {es : List Expr} {m : Ctx → ER} {ms : List (Ctx → ER)} (h : PE X e (tE A W m)) (hr : PA X es (tA' A W (eArgs ms))) (hs : starEach (e :: es) X.env = (false, eval e X.env) :: starEach es X.env := by rfl) :
    PA X (e :: es) (tA' A W (eArgs (m :: ms))) := PA.imp (pa_cons h hr hs) tA_cons
theorem tA_two {ma mb : Ctx → ER} {σ : St} {H : Hp} {Q : List V → Hp → Prop} (h : tA' A W (eArgs [ma, mb]) σ H Q) : tE A W ma σ H fun x H1 => tE A W mb σ H1 fun y H2 => Q [x, y] H2 :=
  tE.mono (tA_cons _ _ _ h) fun x H1 h1 => tE.mono (tA_cons _ _ _ h1) fun y H2 h2 => tA_nil (A := A) (W := W) σ H2 _ h2
theorem tA_one {ma : Ctx → ER} {σ : St} {H : Hp} {Q : List V → Hp → Prop} (h : tA' A W (eArgs [ma]) σ H Q) : tE A W ma σ H fun x H1 => Q [x] H1 :=
  tE.mono (tA_cons _ _ _ h) fun x H1 h1 => tA_nil (A := A) (W := W) σ H1 _ h1

/-! ### constants, names -/
def eC (d : D) : Ctx → ER := fun c => .ok (.t d) c
def eN (i : Nat) : Ctx → ER := fun c => match c.s[i]? with
  | some (.v d) => if Lc.noOwn d then .ok (.t d) c else .ok (.pl i []) c
  | some (.al r p) => .ok (.pl r p) c
  | _ => .bad
theorem PE_c {e : Expr} {v : V} {d : D} (h : PE X e (tC v)) (r : ∀ I B H, R A.g I B H d v []) : PE X e (tE A W (eC d)) := PE.imp h fun σ H Q ⟨I, c, ts, O, lk, S, h⟩ => h v I H O (S.push (r _ _ _))
theorem PE_int {i j pos} : PE X (.Constant (.int i) j pos) (tE A W (eC (.int i))) := PE_c pe_int fun _ _ _ => by rw [R]; exact ⟨rfl, rfl⟩
theorem PE_bl {b j pos} : PE X (.Constant (.bool b) j pos) (tE A W (eC (.bl b))) := PE_c pe_bl fun _ _ _ => by rw [R]; exact ⟨rfl, rfl⟩
theorem PE_non {j pos} : PE X (.Constant .none j pos) (tE A W (eC .non)) := PE_c pe_non fun _ _ _ => by rw [R]; exact ⟨rfl, rfl⟩
theorem PE_str {x : Str} {l : List Nat} {j pos} (h : x.cps = l.toArray) : PE X (.Constant (.str x) j pos) (tE A W (eC (.str l))) := PE_c pe_str fun _ _ _ => by
  obtain ⟨a⟩ := x
  have h : a = l.toArray := h
  subst h
  rw [R]
  exact ⟨rfl, rfl⟩
theorem PE_n {i : Nat} {x : Str} {pos : Pos} (h : PE X (.Name x pos) (tVar i)) : PE X (.Name x pos) (tE A W (eN i)) := PE.imp h fun σ H Q ⟨I, c, ts, O, lk, S, h⟩ => by
  rw [eN] at h
  cases e : c.s[i]? with
  | none => rw [e] at h; exact h.elim
  | some z =>
    rw [e] at h
    cases z with
    | no => exact h.elim
    | v d =>
      obtain ⟨v, e1, ro⟩ := S.vals i d e
      refine ⟨v, e1, ?_⟩
      dsimp only at h
      cases n : Lc.noOwn d with
      | true =>
        rw [n] at h
        exact h v I H O (S.push (ro.nil n))
      | false =>
        rw [n] at h
        exact h v I H O S ⟨d, v, d, e, e1, by rw [getP], n, rfl⟩
    | al r p =>
      obtain ⟨w, e1, pv⟩ := S.als i r p e
      exact ⟨w, e1, h w I H O S pv⟩

/-! ### operators on values -/
def r1 (r : V → Hp → VK → Prop) : List V → Hp → VK → Prop := fun vs H Q => ∃ x, vs = [x] ∧ r x H Q
def r2 (r : R2) : List V → Hp → VK → Prop := fun vs H Q => ∃ x y, vs = [x, y] ∧ r x y H Q
theorem tOp_of {f : List D → Option D} {r : R2} {ma mb : Ctx → ER} (os : OpS A f (r2 r)) : ∀ σ H Q, tE A W (eOp f [ma, mb]) σ H Q → tOp r (tE A W ma) (tE A W mb) σ H Q := fun σ H Q h =>
  tE.mono (tA_two (tE_op os σ H Q h)) fun x H1 h1 => tE.mono h1 fun y H2 h2 => by
    obtain ⟨x', y', e, h2⟩ := h2
    cases e
    exact h2
theorem PE_bin {op : Operator} {f : List D → Option D} {r : R2} {a b : Expr} {ma mb : Ctx → ER} {pos : Pos} (ho : OpR X (binaryOp op) r) (os : OpS A f (r2 r)) (ha : PE X a (tE A W ma)) (hb : PE X b (tE A W mb)) : PE X (.BinOp a op b pos) (tE A W (eOp f [ma, mb])) :=
  PE.imp (pe_op ho ha hb) (tOp_of os)
theorem PE_cmp {op : CmpOp} {f : List D → Option D} {r : R2} {a b : Expr} {ma mb : Ctx → ER} {pos : Pos} (ho : OpR X (compareOp op) r) (os : OpS A f (r2 r)) (ha : PE X a (tE A W ma)) (hb : PE X b (tE A W mb)) (hm : behindInMarks op b = false) :
    PE X (.Compare a [op] [b] pos) (tE A W (eOp f [ma, mb])) := PE.imp (pe_cmpR ho ha hb hm) (tOp_of os)
theorem PE_ix {f : List D → Option D} {r : R2} {a b : Expr} {ma mb : Ctx → ER} {pos : Pos} (ho : IxR X r) (os : OpS A f (r2 r)) (ha : PE X a (tE A W ma)) (hb : PE X b (tE A W mb)) (hs : PlainIx b) : PE X (.Subscript a b pos) (tE A W (eOp f [ma, mb])) :=
  PE.imp (pe_ix ho ha hb hs) (tOp_of os)
theorem PE_un {op : UnaryOp} {f : List D → Option D} {r : V → Hp → VK → Prop} {a : Expr} {ma : Ctx → ER} {pos : Pos} (ho : UnR X (unaryOp op) r) (os : OpS A f (r1 r)) (ha : PE X a (tE A W ma)) : PE X (.UnaryOp op a pos) (tE A W (eOp f [ma])) :=
  PE.imp (pe_un ho ha) fun σ H Q h => tE.mono (tA_one (tE_op os σ H Q h)) fun x H1 h1 => by
    obtain ⟨x', e, h1⟩ := h1
    cases e
    exact h1
theorem PE_callB {id : String} {f : List D → Option D} {r : List V → Hp → VK → Prop} {x : Str} {p pos : Pos} {e : Expr} {es : List Expr} {ms : List (Ctx → ER)} (hc : CallR X (.builtin id) r) (os : OpS A f r) (hg : Gl X x) (hm : X.mg x = none) (hv : bootBuiltins x = some (.builtin id))
    (ha : PA X (e :: es) (tA' A W (eArgs ms))) (hn : x ≠ "__name__" := by decide) (hdb : (x == ("__debug__" : Str)) = false := by decide)
    (he : starEach (e :: es) X.env = (false, eval e X.env) :: starEach es X.env := by rfl) (hpl : (backTo pos (starEach es X.env)).any (·.1) = false := by rfl) : PE X (.Call (.Name x p) (e :: es) [] pos) (tE A W (eOp f ms)) :=
  PE.imp (pe_callB hc hg hm hv ha hn hdb he hpl) fun σ H Q h => tE_op os σ H Q h
theorem PE_callTy {T : String} {f : List D → Option D} {r : List V → Hp → VK → Prop} {x : Str} {p pos : Pos} {e : Expr} {es : List Expr} {ms : List (Ctx → ER)} (hc : CallR X (.type T) r) (os : OpS A f r) (hg : Gl X x) (hm : X.mg x = none) (hv : bootBuiltins x = some (.type T))
    (ha : PA X (e :: es) (tA' A W (eArgs ms))) (hn : x ≠ "__name__" := by decide) (hdb : (x == ("__debug__" : Str)) = false := by decide)
    (he : starEach (e :: es) X.env = (false, eval e X.env) :: starEach es X.env := by rfl) (hpl : (backTo pos (starEach es X.env)).any (·.1) = false := by rfl) : PE X (.Call (.Name x p) (e :: es) [] pos) (tE A W (eOp f ms)) :=
  PE.imp (pe_callTy hc hg hm hv ha hn hdb he hpl) fun σ H Q h => tE_op os σ H Q h

/-! ### reading trees back -/
theorem EAt.int {I H : Hp} {i : Int} {v : V} (h : EAt A I H (.int i) v) : v = .int i := by
  obtain ⟨fp, h⟩ := h
  rw [R] at h
  exact h.1
theorem EAt.bl {I H : Hp} {i : Bool} {v : V} (h : EAt A I H (.bl i) v) : v = .bl i := by
  obtain ⟨fp, h⟩ := h
  rw [R] at h
  exact h.1
theorem EAt.non {I H : Hp} {v : V} (h : EAt A I H .non v) : v = .non := by
  obtain ⟨fp, h⟩ := h
  rw [R] at h
  exact h.1
theorem EAt.str {I H : Hp} {s : List Nat} {v : V} (h : EAt A I H (.str s) v) : v = .str ⟨s.toArray⟩ := by
  obtain ⟨fp, h⟩ := h
  rw [R] at h
  exact h.1
theorem Res.int {I H : Hp} {i : Int} : Res A I H (.int i) (.int i) I H := .leaf (by rw [R]; exact ⟨rfl, rfl⟩)
theorem Res.bl {I H : Hp} {i : Bool} : Res A I H (.bl i) (.bl i) I H := .leaf (by rw [R]; exact ⟨rfl, rfl⟩)
theorem Res.non {I H : Hp} : Res A I H .non .non I H := .leaf (by rw [R]; exact ⟨rfl, rfl⟩)
theorem Res.str {I H : Hp} {s : List Nat} : Res A I H (.str s) (.str ⟨s.toArray⟩) I H := .leaf (by rw [R]; exact ⟨rfl, rfl⟩)
theorem EAt.lst {I H : Hp} {f : Fl} {xs : List D} {v : V} (ih : leH I H) (bh : leH A.B H) (h : EAt A I H (.nd .lst f xs) v) : ∃ p vs, v = .ref p ∧ H p = some (.lst vs) ∧ ∃ fp, RL A.g I A.B H xs vs fp := by
  obtain ⟨fp, h⟩ := h
  cases f with
  | own =>
    rw [R] at h
    obtain ⟨p, vs, fq, e, _, c, h⟩ := h
    exact ⟨p, vs, e, c, fq, h⟩
  | frz =>
    rw [R] at h
    obtain ⟨p, vs, e, _, c, h⟩ := h
    exact ⟨p, vs, e, ih _ _ c, [], RL.keep xs h (leH.refl _) (noH_le _) fun a ha => by cases ha⟩
  | bor =>
    rw [R] at h
    obtain ⟨p, vs, e, _, c, h⟩ := h
    exact ⟨p, vs, e, bh _ _ c, [], RL.keep xs h (leH.refl _) (leH.refl _) fun a ha => by cases ha⟩
theorem EAt.scr {I H : Hp} {f : Fl} {xs : List D} {v : V} (ih : leH I H) (bh : leH A.B H) (h : EAt A I H (.nd .scr f xs) v) : ∃ p vs, v = .ref p ∧ SqL A.g.K H p vs ∧ ∃ fp, RL A.g I A.B H xs vs fp := by
  obtain ⟨fp, h⟩ := h
  cases f with
  | own =>
    rw [R] at h
    obtain ⟨p, vs, fq, e, _, c, h⟩ := h
    exact c.elim
  | frz =>
    rw [R] at h
    obtain ⟨p, vs, e, _, c, h⟩ := h
    exact ⟨p, vs, e, ih.sqL c, [], RL.keep xs h (leH.refl _) (noH_le _) fun a ha => by cases ha⟩
  | bor =>
    rw [R] at h
    obtain ⟨p, vs, e, _, c, h⟩ := h
    exact ⟨p, vs, e, bh.sqL c, [], RL.keep xs h (leH.refl _) (leH.refl _) fun a ha => by cases ha⟩
theorem EAt.tup {I H : Hp} {xs : List D} {v : V} (ih : leH I H) (h : EAt A I H (.tup xs) v) : ∃ p vs, v = .ref p ∧ SqT A.g.K H p vs ∧ ∃ fp, RL A.g I A.B H xs vs fp := by
  obtain ⟨fp, h⟩ := h
  rw [R] at h
  obtain ⟨p, vs, e, c, h⟩ := h
  exact ⟨p, vs, e, ih.sqT c.sq, fp, h⟩
theorem Paired.one {α β : Type} {F : α → β → Prop} {a : α} {ys : List β} (h : Paired F [a] ys) : ∃ b, ys = [b] ∧ F a b := by
  cases h with
  | cons r t => cases t; exact ⟨_, rfl, r⟩
theorem Paired.two {α β : Type} {F : α → β → Prop} {a b : α} {ys : List β} (h : Paired F [a, b] ys) : ∃ x y, ys = [x, y] ∧ F a x ∧ F b y := by
  cases h with
  | cons r t =>
    cases t with
    | cons r' t => cases t; exact ⟨_, _, rfl, r, r'⟩

/-! ### ints -/
def okMul (i j : Int) : Bool := decide (-(2 ^ 64) < i ∧ i < 2 ^ 64) || decide (-(2 ^ 64) < j ∧ j < 2 ^ 64) || decide (i.natAbs.log2 + j.natAbs.log2 < 1000000)
def okDiv (j : Int) : Bool := decide (0 < j) && decide (j.natAbs.log2 < 9000)
def okPow (i j : Int) : Bool := decide (0 ≤ j ∧ j ≤ 1000000 ∧ i.natAbs < 2 ^ 64)
def fII (g : Int → Int → Option D) : List D → Option D
  | [.int i, .int j] => g i j
  | _ => none
theorem fII_some {g : Int → Int → Option D} {ds : List D} {d : D} (h : fII g ds = some d) : ∃ i j, ds = [.int i, .int j] ∧ g i j = some d := by
  unfold fII at h
  split at h
  · exact ⟨_, _, rfl, h⟩
  · cases h
theorem os_II {g : Int → Int → Option D} {r : R2} (h : ∀ i j d, g i j = some d → ∀ (Q : VK) (I H : Hp), (∀ v I' H', Res A I H d v I' H' → Q v H') → r (.int i) (.int j) H Q) : OpS A (fII g) (r2 r) := fun I H ds vs Q d _ _ P e q => by
  obtain ⟨i, j, rfl, e⟩ := fII_some e
  obtain ⟨x, y, rfl, h1, h2⟩ := Paired.two P
  rw [h1.int, h2.int]
  exact ⟨_, _, rfl, h i j d e Q I H q⟩
def gAdd (i j : Int) : Option D := some (.int (i + j))
def gSub (i j : Int) : Option D := some (.int (i - j))
def gMul (i j : Int) : Option D := if okMul i j then some (.int (i * j)) else none
def gDiv (i j : Int) : Option D := if okDiv j then some (.int (i / j)) else none
def gMod (i j : Int) : Option D := if 0 < j then some (.int (i % j)) else none
def gPow (i j : Int) : Option D := if okPow i j then some (.int (i ^ j.toNat)) else none
theorem os_add : OpS A (fII gAdd) (r2 (rI0 fun i j => .int (i + j))) := os_II fun i j d e Q I H q => by cases e; exact ⟨_, _, rfl, rfl, q _ _ _ .int⟩
theorem os_sub : OpS A (fII gSub) (r2 (rI0 fun i j => .int (i - j))) := os_II fun i j d e Q I H q => by cases e; exact ⟨_, _, rfl, rfl, q _ _ _ .int⟩
def CMulU (i j : Int) : Prop := CMul i j ∨ CMulW i j
theorem op_mulU : OpR X (binaryOp .Mult) (rI CMulU fun i j => .int (i * j)) := opI fun i j _ _ _ _ _ hc q => by
  rcases hc with hc | hc
  · exact PyProof.Rows.mul_int q hc.ok
  · exact PyProof.Rows.mul_int q hc.ok
theorem os_mul : OpS A (fII gMul) (r2 (rI CMulU fun i j => .int (i * j))) := os_II fun i j d e Q I H q => by
  unfold gMul at e
  split at e
  · rename_i hc
    cases e
    refine ⟨_, _, rfl, rfl, ?_, q _ _ _ .int⟩
    unfold okMul at hc
    simp only [Bool.or_eq_true, decide_eq_true_eq] at hc
    rcases hc with (hc | hc) | hc
    · exact .inl (.inl hc)
    · exact .inl (.inr hc)
    · exact .inr hc
  · cases e
theorem os_div : OpS A (fII gDiv) (r2 (rI CDivW fun i j => .int (i / j))) := os_II fun i j d e Q I H q => by
  unfold gDiv at e
  split at e
  · rename_i hc
    cases e
    unfold okDiv at hc
    simp only [Bool.and_eq_true, decide_eq_true_eq] at hc
    exact ⟨_, _, rfl, rfl, hc, q _ _ _ .int⟩
  · cases e
theorem os_mod : OpS A (fII gMod) (r2 (rI (fun _ j => 0 < j) fun i j => .int (i % j))) := os_II fun i j d e Q I H q => by
  unfold gMod at e
  split at e
  · rename_i hc
    cases e
    exact ⟨_, _, rfl, rfl, hc, q _ _ _ .int⟩
  · cases e
theorem os_pow : OpS A (fII gPow) (r2 (rI CPow fun i j => .int (i ^ j.toNat))) := os_II fun i j d e Q I H q => by
  unfold gPow at e
  split at e
  · rename_i hc
    cases e
    unfold okPow at hc
    exact ⟨_, _, rfl, rfl, show (_ ∧ _ ∧ _) from of_decide_eq_true hc, q _ _ _ .int⟩
  · cases e
def gB (p : Int → Int → Bool) (i j : Int) : Option D := some (.bl (p i j))
theorem os_cmp {p : Int → Int → Bool} : OpS A (fII (gB p)) (r2 (rI0 fun i j => .bl (p i j))) := os_II fun i j d e Q I H q => by cases e; exact ⟨_, _, rfl, rfl, q _ _ _ .bl⟩
def fNeg : List D → Option D
  | [.int i] => some (.int (-i))
  | _ => none
theorem os_neg : OpS A fNeg (r1 (rU fun i => .int (-i))) := fun I H ds vs Q d _ _ P e q => by
  unfold fNeg at e
  split at e
  · cases e
    obtain ⟨x, rfl, h1⟩ := Paired.one P
    rw [h1.int]
    exact ⟨_, rfl, _, rfl, q _ _ _ .int⟩
  · cases e
end
end Lc
end
section
set_option Elab.async false
set_option linter.all false
set_option maxRecDepth 100000
set_option maxHeartbeats 1000000
namespace Lc
open PySem L2

/-! ### alternatives -/
def fOr (f g : List D → Option D) : List D → Option D := fun ds => match f ds with
  | some d => some d
  | none => g ds
theorem OpS.or {A : Act} {f g : List D → Option D} {r r' : List V → Hp → VK → Prop} (h : OpS A f r) (h' : OpS A g r') : OpS A (fOr f g) (fun vs H Q => r vs H Q ∨ r' vs H Q) := fun I H ds vs Q d ih bh P e q => by
  unfold fOr at e
  split at e
  · rename_i d' e'
    cases e
    exact .inl (h I H ds vs Q d ih bh P e' q)
  · exact .inr (h' I H ds vs Q d ih bh P e q)
theorem OpS.or2 {A : Act} {f g : List D → Option D} {r r' : R2} (h : OpS A f (r2 r)) (h' : OpS A g (r2 r')) : OpS A (fOr f g) (r2 fun x y H Q => r x y H Q ∨ r' x y H Q) := fun I H ds vs Q d ih bh P e q => by
  rcases OpS.or h h' I H ds vs Q d ih bh P e q with ⟨x, y, e, h⟩ | ⟨x, y, e, h⟩
  · exact ⟨x, y, e, .inl h⟩
  · exact ⟨x, y, e, .inr h⟩
theorem CallR.or {X : Cx} {f : Value} {r r' : List V → Hp → VK → Prop} (h : CallR X f r) (h' : CallR X f r') : CallR X f (fun vs H Q => r vs H Q ∨ r' vs H Q) := by
  intro pins s σ H xs us Q I rx q
  rcases q with q | q
  · exact h pins s σ H xs us Q I rx q
  · exact h' pins s σ H xs us Q I rx q
theorem OpS.to {A : Act} {f : List D → Option D} {r r' : List V → Hp → VK → Prop} (h : OpS A f r) (i : ∀ vs H Q, r vs H Q → r' vs H Q) : OpS A f r' := fun I H ds vs Q d ih bh P e q => i _ _ _ (h I H ds vs Q d ih bh P e q)

section
variable {A : Act} {W : Wx} {X : Cx}

theorem RL.leaf {g : Gs} {I B H : Hp} : ∀ {xs : List D} {vs : List V} {fp : List Addr}, RL g I B H xs vs fp → noOwnL xs = true → RL g I B H xs vs [] := fun {xs vs fp} h n => by
  have e := RL.noOwn xs h n
  subst e
  exact h
theorem Str.len (s : List Nat) : (⟨s.toArray⟩ : Str).length = s.length := by
  show s.toArray.size = _
  simp

/-! ### + -/
def line : Nat := 16777216
theorem line_eq : line = sizeLine := by rw [sizeLine_eq]; rfl
def fCatS : List D → Option D
  | [.str s, .str t] => if s.length + t.length ≤ 16777216 then some (.str (s ++ t)) else none
  | _ => none
theorem os_catS : OpS A fCatS (r2 (fun x y H Q => ∃ i j, x = .str i ∧ y = .str j ∧ i.length + j.length ≤ sizeLine ∧ Q (.str (i ++ j)) H)) := fun I H ds vs Q d ih bh P e q => by
  unfold fCatS at e
  split at e
  · split at e
    · rename_i s t hl
      cases e
      obtain ⟨x, y, rfl, h1, h2⟩ := Paired.two P
      rw [h1.str, h2.str]
      refine ⟨_, _, rfl, _, _, rfl, rfl, by rw [Str.len, Str.len, sizeLine_eq]; exact hl, ?_⟩
      have : (⟨s.toArray⟩ ++ ⟨t.toArray⟩ : Str) = ⟨(s ++ t).toArray⟩ := by
        show (⟨s.toArray ++ t.toArray⟩ : Str) = _
        simp
      rw [this]
      exact q _ _ _ .str
    · cases e
  · cases e
def fCatL : List D → Option D
  | [.nd .lst f xs, .nd .lst f' ys] => if xs.length + ys.length ≤ 16777216 && noOwnL xs && noOwnL ys then some (.nd .lst .own (xs ++ ys)) else none
  | _ => none
theorem RL.append {g : Gs} {I B H : Hp} : ∀ {xs ys : List D} {vs ws : List V}, RL g I B H xs vs [] → RL g I B H ys ws [] → RL g I B H (xs ++ ys) (vs ++ ws) []
  | [], ys, vs, ws, h, h' => by
    rw [RL] at h
    rw [h.1]
    exact h'
  | x :: xs, ys, vs, ws, h, h' => by
    rw [RL] at h
    obtain ⟨v, vr, f1, f2, rfl, e, h1, h2⟩ := h
    obtain ⟨rfl, rfl⟩ := List.append_eq_nil_iff.mp e.symm
    show RL g I B H (x :: (xs ++ ys)) (v :: (vr ++ ws)) []
    rw [RL]
    exact ⟨v, vr ++ ws, [], [], rfl, rfl, h1, RL.append h2 h'⟩
theorem os_catL : OpS A fCatL (r2 rCat) := fun I H ds vs Q d ih bh P e q => by
  unfold fCatL at e
  split at e
  · split at e
    · rename_i f xs f' ys hl
      cases e
      simp only [Bool.and_eq_true, decide_eq_true_eq] at hl
      obtain ⟨x, y, rfl, h1, h2⟩ := Paired.two P
      obtain ⟨p, vs, rfl, hp, f1, l1⟩ := h1.lst ih bh
      obtain ⟨p', vs', rfl, hp', f2, l2⟩ := h2.lst ih bh
      have l1 := l1.leaf hl.1.2
      have l2 := l2.leaf hl.2
      refine ⟨_, _, rfl, p, p', vs, vs', rfl, rfl, hp, hp', ?_, fun u hu => q _ _ _ (.list (RL.append l1 l2) hu)⟩
      rw [l1.length, l2.length, sizeLine_eq]
      exact hl.1.1
    · cases e
  · cases e
abbrev fAdd : List D → Option D := fOr (fII gAdd) (fOr fCatS fCatL)
theorem PE_add {a b : Expr} {ma mb : Ctx → ER} {pos : Pos} (ha : PE X a (tE A W ma)) (hb : PE X b (tE A W mb)) : PE X (.BinOp a .Add b pos) (tE A W (eOp fAdd [ma, mb])) :=
  PE_bin (OpR.or op_add (OpR.or op_add_str op_cat)) (OpS.or2 os_add (OpS.or2 os_catS os_catL)) ha hb
theorem PE_sub {a b : Expr} {ma mb : Ctx → ER} {pos : Pos} (ha : PE X a (tE A W ma)) (hb : PE X b (tE A W mb)) : PE X (.BinOp a .Sub b pos) (tE A W (eOp (fII gSub) [ma, mb])) := PE_bin op_sub os_sub ha hb
theorem PE_div {a b : Expr} {ma mb : Ctx → ER} {pos : Pos} (ha : PE X a (tE A W ma)) (hb : PE X b (tE A W mb)) : PE X (.BinOp a .FloorDiv b pos) (tE A W (eOp (fII gDiv) [ma, mb])) := PE_bin op_fdivW os_div ha hb
theorem PE_mod {a b : Expr} {ma mb : Ctx → ER} {pos : Pos} (ha : PE X a (tE A W ma)) (hb : PE X b (tE A W mb)) : PE X (.BinOp a .Mod b pos) (tE A W (eOp (fII gMod) [ma, mb])) := PE_bin op_mod os_mod ha hb
theorem PE_pow {a b : Expr} {ma mb : Ctx → ER} {pos : Pos} (ha : PE X a (tE A W ma)) (hb : PE X b (tE A W mb)) : PE X (.BinOp a .Pow b pos) (tE A W (eOp (fII gPow) [ma, mb])) := PE_bin op_pow os_pow ha hb
theorem PE_neg {a : Expr} {ma : Ctx → ER} {pos : Pos} (ha : PE X a (tE A W ma)) : PE X (.UnaryOp .USub a pos) (tE A W (eOp fNeg [ma])) := PE_un un_neg os_neg ha

/-! ### * -/
def fRepL : List D → Option D
  | [.nd .lst f xs, .int k] => if decide (-(2 ^ 63) ≤ k ∧ k < 2 ^ 63) && decide (xs.length * k.toNat ≤ 16777216) && noOwnL xs then some (.nd .lst .own (List.replicate k.toNat xs).flatten) else none
  | _ => none
theorem RL.rep {g : Gs} {I B H : Hp} {xs : List D} {vs : List V} (h : RL g I B H xs vs []) : ∀ n : Nat, RL g I B H (List.replicate n xs).flatten (List.replicate n vs).flatten []
  | 0 => by
    show RL g I B H [] [] []
    rw [RL]
    exact ⟨rfl, rfl⟩
  | n + 1 => by
    rw [List.replicate_succ, List.replicate_succ, List.flatten_cons, List.flatten_cons]
    exact RL.append h (RL.rep h n)
theorem os_repL : OpS A fRepL (r2 rRep) := fun I H ds vs Q d ih bh P e q => by
  unfold fRepL at e
  split at e
  · split at e
    · rename_i f xs k hl
      cases e
      simp only [Bool.and_eq_true, decide_eq_true_eq] at hl
      obtain ⟨x, y, rfl, h1, h2⟩ := Paired.two P
      obtain ⟨p, vs, rfl, hp, f1, l1⟩ := h1.lst ih bh
      rw [h2.int]
      have l1 := l1.leaf hl.2
      refine ⟨_, _, rfl, p, k, vs, rfl, rfl, hp, hl.1.1.1, hl.1.1.2, ?_, fun u hu => q _ _ _ (.list (RL.rep l1 _) hu)⟩
      rw [l1.length, sizeLine_eq]
      exact hl.1.2
    · cases e
  · cases e
abbrev fMul : List D → Option D := fOr (fII gMul) fRepL
theorem PE_mul {a b : Expr} {ma mb : Ctx → ER} {pos : Pos} (ha : PE X a (tE A W ma)) (hb : PE X b (tE A W mb)) : PE X (.BinOp a .Mult b pos) (tE A W (eOp fMul [ma, mb])) :=
  PE_bin (OpR.or op_mulU op_rep) (OpS.or2 os_mul os_repL) ha hb

/-! ### len -/
def fLen : List D → Option D
  | [.str s] => if s.length ≤ 16777216 then some (.int s.length) else none
  | [.tup xs] => some (.int xs.length)
  | [.nd .lst _ xs] => some (.int xs.length)
  | [.nd .scr _ xs] => some (.int xs.length)
  | _ => none
theorem os_len (hK : A.g.K = X.K) : OpS A fLen (fun xs H Q => ∃ x n, xs = [x] ∧ LenV X.K x H n ∧ Q (.int n) H) := fun I H ds vs Q d ih bh P e q => by
  unfold fLen at e
  split at e
  · split at e
    · rename_i s hl
      cases e
      obtain ⟨x, rfl, h1⟩ := Paired.one P
      rw [h1.str]
      exact ⟨_, s.length, rfl, ⟨by rw [Str.len, sizeLine_eq]; exact hl, (Str.len s).symm⟩, q _ _ _ .int⟩
    · cases e
  · cases e
    obtain ⟨x, rfl, h1⟩ := Paired.one P
    obtain ⟨p, ws, rfl, hp, f1, l1⟩ := h1.tup ih
    exact ⟨_, ws.length, rfl, .inr ⟨ws, hK ▸ hp, rfl⟩, by rw [l1.length]; exact q _ _ _ .int⟩
  · cases e
    obtain ⟨x, rfl, h1⟩ := Paired.one P
    obtain ⟨p, ws, rfl, hp, f1, l1⟩ := h1.lst ih bh
    exact ⟨_, ws.length, rfl, .inl ⟨ws, .inl (.inl hp), rfl⟩, by rw [l1.length]; exact q _ _ _ .int⟩
  · cases e
    obtain ⟨x, rfl, h1⟩ := Paired.one P
    obtain ⟨p, ws, rfl, hp, f1, l1⟩ := h1.scr ih bh
    exact ⟨_, ws.length, rfl, .inl ⟨ws, hK ▸ hp, rfl⟩, by rw [l1.length]; exact q _ _ _ .int⟩
  · cases e

/-! ### == -/
def eqS : D → D → Option Bool
  | .int i, .int j => some (decide (i = j))
  | .str i, .str j => some (decide (i = j))
  | .bl i, .bl j => some (decide (i = j))
  | .non, .non => some true
  | .non, .int _ => some false
  | .non, .str _ => some false
  | .int _, .non => some false
  | .str _, .non => some false
  | .int _, .str _ => some false
  | .str _, .int _ => some false
  | _, _ => none
def fB2 (p : D → D → Option Bool) : List D → Option D
  | [a, b] => match p a b with
    | some k => some (.bl k)
    | none => none
  | _ => none
def pNot (p : D → D → Option Bool) (a b : D) : Option Bool := match p a b with
  | some k => some (!k)
  | none => none
theorem fB2_some {p : D → D → Option Bool} {ds : List D} {d : D} (h : fB2 p ds = some d) : ∃ a b k, ds = [a, b] ∧ p a b = some k ∧ d = .bl k := by
  unfold fB2 at h
  split at h
  · split at h
    · rename_i k e
      cases h
      exact ⟨_, _, k, rfl, e, rfl⟩
    · cases h
  · cases h
theorem pNot_some {p : D → D → Option Bool} {a b : D} {k : Bool} (h : pNot p a b = some k) : ∃ k', p a b = some k' ∧ k = !k' := by
  unfold pNot at h
  split at h
  · rename_i k' e
    cases h
    exact ⟨k', e, rfl⟩
  · cases h
theorem Str.dec (s t : List Nat) : decide (V.str ⟨s.toArray⟩ = V.str ⟨t.toArray⟩) = decide (s = t) := by
  by_cases h : s = t
  · subst h
    simp
  · rw [decide_eq_false h, decide_eq_false]
    intro e
    injection e with e
    injection e with e
    exact h (by simpa using congrArg Array.toList e)
theorem eqS_ok {I H : Hp} {a b : D} {k : Bool} {x y : V} (h : eqS a b = some k) (h1 : EAt A I H a x) (h2 : EAt A I H b y) : scal x y = true ∧ decide (x = y) = k := by
  unfold eqS at h
  split at h
  all_goals (try cases h)
  · rw [h1.int, h2.int]
    exact ⟨rfl, by simp⟩
  · rw [h1.str, h2.str]
    exact ⟨rfl, Str.dec _ _⟩
  · rw [h1.bl, h2.bl]
    exact ⟨rfl, by simp⟩
  · rw [h1.non, h2.non]; exact ⟨rfl, rfl⟩
  · rw [h1.non, h2.int]; exact ⟨rfl, rfl⟩
  · rw [h1.non, h2.str]; exact ⟨rfl, rfl⟩
  · rw [h1.int, h2.non]; exact ⟨rfl, rfl⟩
  · rw [h1.str, h2.non]; exact ⟨rfl, rfl⟩
  · rw [h1.int, h2.str]; exact ⟨rfl, rfl⟩
  · rw [h1.str, h2.int]; exact ⟨rfl, rfl⟩
theorem os_eqS : OpS A (fB2 eqS) (r2 rEq) := fun I H ds vs Q d ih bh P e q => by
  obtain ⟨a, b, k, rfl, e1, rfl⟩ := fB2_some e
  obtain ⟨x, y, rfl, h1, h2⟩ := Paired.two P
  obtain ⟨s, z⟩ := eqS_ok e1 h1 h2
  exact ⟨_, _, rfl, s, by rw [z]; exact q _ _ _ .bl⟩
theorem os_neS : OpS A (fB2 (pNot eqS)) (r2 rNe) := fun I H ds vs Q d ih bh P e q => by
  obtain ⟨a, b, k, rfl, e1, rfl⟩ := fB2_some e
  obtain ⟨k', e2, rfl⟩ := pNot_some e1
  obtain ⟨x, y, rfl, h1, h2⟩ := Paired.two P
  obtain ⟨s, z⟩ := eqS_ok e2 h1 h2
  exact ⟨_, _, rfl, s, by rw [z]; exact q _ _ _ .bl⟩

mutual
def toPy : D → Option PyData
  | .non => some .none
  | .bl b => some (.bool b)
  | .int i => some (.int i)
  | .str s => some (.str ⟨s.toArray⟩)
  | .tup xs => (toPyL xs).map .tuple
  | .nd .lst _ xs => (toPyL xs).map .list
  | .nd .scr _ _ => none
  | .nd (.dct _) _ _ => none
  | .nd (.dcT _) _ _ => none
  | .nd (.obj _ _) _ _ => none
  | .ty _ => none
  | .exn _ _ _ => none
def toPyL : List D → Option (List PyData)
  | [] => some []
  | x :: xs => match toPy x, toPyL xs with
    | some d, some ds => some (d :: ds)
    | _, _ => none
end
mutual
theorem R.py {g : Gs} : ∀ (d : D) {I B H : Hp} {v : V} {fp : List Addr} {e : PyData}, R g I B H d v fp → toPy d = some e → leH I H → leH B H → Dp g.K H v e
  | .non, _, _, _, _, _, _, h, t, _, _ => by rw [R] at h; rw [toPy] at t; cases t; rw [h.1]; exact .non
  | .bl b, _, _, _, _, _, _, h, t, _, _ => by rw [R] at h; rw [toPy] at t; cases t; rw [h.1]; exact .bl b
  | .int i, _, _, _, _, _, _, h, t, _, _ => by rw [R] at h; rw [toPy] at t; cases t; rw [h.1]; exact .int i
  | .str s, _, _, _, _, _, _, h, t, _, _ => by rw [R] at h; rw [toPy] at t; cases t; rw [h.1]; exact .str _
  | .ty n, _, _, _, _, _, _, h, t, _, _ => by rw [toPy] at t; cases t
  | .exn _ _ _, _, _, _, _, _, _, h, t, _, _ => by rw [toPy] at t; cases t
  | .tup xs, _, _, _, _, _, _, h, t, ih, bh => by
    rw [R] at h
    rw [toPy] at t
    obtain ⟨ds, e1, rfl⟩ := Option.map_eq_some_iff.mp t
    obtain ⟨p, vs, rfl, c, h⟩ := h
    exact .tup (ih.sqT c.sq) (RL.py xs h e1 ih bh)
  | .nd .lst .own xs, _, _, _, _, _, _, h, t, ih, bh => by
    rw [R] at h
    rw [toPy] at t
    obtain ⟨ds, e1, rfl⟩ := Option.map_eq_some_iff.mp t
    obtain ⟨p, vs, fq, rfl, _, c, h⟩ := h
    exact .lst (.inl (.inl c)) (RL.py xs h e1 ih bh)
  | .nd .lst .frz xs, I, B, H, _, _, _, h, t, ih, bh => by
    rw [R] at h
    rw [toPy] at t
    obtain ⟨ds, e1, rfl⟩ := Option.map_eq_some_iff.mp t
    obtain ⟨p, vs, rfl, _, c, h⟩ := h
    exact .lst (.inl (.inl (ih _ _ c))) (RL.py (H := H) xs (RL.keep xs h (leH.refl _) (noH_le B) fun a ha => by cases ha) e1 ih bh)
  | .nd .lst .bor xs, I, B, H, _, _, _, h, t, ih, bh => by
    rw [R] at h
    rw [toPy] at t
    obtain ⟨ds, e1, rfl⟩ := Option.map_eq_some_iff.mp t
    obtain ⟨p, vs, rfl, _, c, h⟩ := h
    exact .lst (.inl (.inl (bh _ _ c))) (RL.py (H := H) xs (RL.keep xs h (leH.refl _) (leH.refl B) fun a ha => by cases ha) e1 ih bh)
  | .nd .scr _ xs, _, _, _, _, _, _, h, t, _, _ => by rw [toPy] at t; cases t
  | .nd (.dct _) _ xs, _, _, _, _, _, _, h, t, _, _ => by rw [toPy] at t; cases t
  | .nd (.dcT _) _ xs, _, _, _, _, _, _, h, t, _, _ => by rw [toPy] at t; cases t
  | .nd (.obj _ _) _ xs, _, _, _, _, _, _, h, t, _, _ => by rw [toPy] at t; cases t
theorem RL.py {g : Gs} : ∀ (xs : List D) {I B H : Hp} {vs : List V} {fp : List Addr} {es : List PyData}, RL g I B H xs vs fp → toPyL xs = some es → leH I H → leH B H → DpAll g.K H vs es
  | [], _, _, _, _, _, _, h, t, _, _ => by rw [RL] at h; rw [toPyL] at t; cases t; rw [h.1]; exact .nil
  | x :: xs, _, _, _, _, _, _, h, t, ih, bh => by
    rw [RL] at h
    rw [toPyL] at t
    obtain ⟨v, vr, f1, f2, rfl, _, h1, h2⟩ := h
    cases e1 : toPy x with
    | none => rw [e1] at t; cases t
    | some d =>
      cases e2 : toPyL xs with
      | none => rw [e1, e2] at t; cases t
      | some ds =>
        rw [e1, e2] at t
        cases t
        exact .cons (R.py x h1 e1 ih bh) (RL.py xs h2 e2 ih bh)
end
def eqD (a b : D) : Option Bool := match toPy a, toPy b with
  | some d, some e => if SeqAt.shaped d && SeqAt.shaped e then some (PyData.eqv d e) else none
  | _, _ => none
theorem eqD_ok {I H : Hp} {a b : D} {k : Bool} {x y : V} (ih : leH I H) (bh : leH A.B H) (h : eqD a b = some k) (h1 : EAt A I H a x) (h2 : EAt A I H b y) : ∃ d e, Dp A.g.K H x d ∧ Dp A.g.K H y e ∧ SeqAt.shaped d = true ∧ SeqAt.shaped e = true ∧ PyData.eqv d e = k := by
  unfold eqD at h
  split at h
  · split at h
    · rename_i d e e1 e2 hs
      cases h
      obtain ⟨f1, h1⟩ := h1
      obtain ⟨f2, h2⟩ := h2
      rw [Bool.and_eq_true] at hs
      exact ⟨_, _, R.py _ h1 e1 ih bh, R.py _ h2 e2 ih bh, hs.1, hs.2, rfl⟩
    · cases h
  · cases h
theorem os_eqD (hK : A.g.K = X.K) : OpS A (fB2 eqD) (r2 (rEqD X.K)) := fun I H ds vs Q d ih bh P e q => by
  obtain ⟨a, b, k, rfl, e1, rfl⟩ := fB2_some e
  obtain ⟨x, y, rfl, h1, h2⟩ := Paired.two P
  obtain ⟨p1, p2, d1, d2, s1, s2, rfl⟩ := eqD_ok ih bh e1 h1 h2
  exact ⟨_, _, rfl, p1, p2, hK ▸ d1, hK ▸ d2, s1, s2, q _ _ _ .bl⟩
theorem os_neD (hK : A.g.K = X.K) : OpS A (fB2 (pNot eqD)) (r2 (rNeD X.K)) := fun I H ds vs Q d ih bh P e q => by
  obtain ⟨a, b, k, rfl, e1, rfl⟩ := fB2_some e
  obtain ⟨k', e2, rfl⟩ := pNot_some e1
  obtain ⟨x, y, rfl, h1, h2⟩ := Paired.two P
  obtain ⟨p1, p2, d1, d2, s1, s2, rfl⟩ := eqD_ok ih bh e2 h1 h2
  exact ⟨_, _, rfl, p1, p2, hK ▸ d1, hK ▸ d2, s1, s2, q _ _ _ .bl⟩
abbrev fEq : List D → Option D := fOr (fB2 eqS) (fB2 eqD)
abbrev fNe : List D → Option D := fOr (fB2 (pNot eqS)) (fB2 (pNot eqD))

/-! ### in -/
def inS : D → D → Option Bool
  | .str [c], .str t => some (decide (c ∈ t))
  | _, _ => none
theorem os_inS : OpS A (fB2 inS) (r2 (fun x y H Q => ∃ (c : Nat) (z : Str), x = .str ⟨#[c]⟩ ∧ y = .str z ∧ Q (.bl (decide (c ∈ z.cps.toList))) H)) := fun I H ds vs Q d ih bh P e q => by
  obtain ⟨a, b, k, rfl, e1, rfl⟩ := fB2_some e
  obtain ⟨x, y, rfl, h1, h2⟩ := Paired.two P
  unfold inS at e1
  split at e1
  · cases e1
    rw [h1.str, h2.str]
    exact ⟨_, _, rfl, _, _, rfl, rfl, q _ _ _ .bl⟩
  · cases e1
theorem os_nInS : OpS A (fB2 (pNot inS)) (r2 (fun x y H Q => ∃ (c : Nat) (z : Str), x = .str ⟨#[c]⟩ ∧ y = .str z ∧ Q (.bl (!decide (c ∈ z.cps.toList))) H)) := fun I H ds vs Q d ih bh P e q => by
  obtain ⟨a, b, k, rfl, e1, rfl⟩ := fB2_some e
  obtain ⟨k', e2, rfl⟩ := pNot_some e1
  obtain ⟨x, y, rfl, h1, h2⟩ := Paired.two P
  unfold inS at e2
  split at e2
  · cases e2
    rw [h1.str, h2.str]
    exact ⟨_, _, rfl, _, _, rfl, rfl, q _ _ _ .bl⟩
  · cases e2
/-- any text in a text -/
def inSS : D → D → Option Bool
  | .str s, .str t => some (!(Builtin.Str.occurrences ⟨t.toArray⟩ ⟨s.toArray⟩ 0 (⟨t.toArray⟩ : Str).length 1).isEmpty)
  | _, _ => none
theorem os_inSS : OpS A (fB2 inSS) (r2 (fun x y H Q => ∃ i j, x = .str i ∧ y = .str j ∧ Q (.bl (!(Builtin.Str.occurrences j i 0 j.length 1).isEmpty)) H)) := fun I H ds vs Q d ih bh P e q => by
  obtain ⟨a, b, k, rfl, e1, rfl⟩ := fB2_some e
  obtain ⟨x, y, rfl, h1, h2⟩ := Paired.two P
  unfold inSS at e1
  split at e1
  · cases e1
    rw [h1.str, h2.str]
    exact ⟨_, _, rfl, _, _, rfl, rfl, q _ _ _ .bl⟩
  · cases e1
theorem os_nInSS : OpS A (fB2 (pNot inSS)) (r2 (fun x y H Q => ∃ i j, x = .str i ∧ y = .str j ∧ Q (.bl (!(!(Builtin.Str.occurrences j i 0 j.length 1).isEmpty))) H)) := fun I H ds vs Q d ih bh P e q => by
  obtain ⟨a, b, k, rfl, e1, rfl⟩ := fB2_some e
  obtain ⟨k', e2, rfl⟩ := pNot_some e1
  obtain ⟨x, y, rfl, h1, h2⟩ := Paired.two P
  unfold inSS at e2
  split at e2
  · cases e2
    rw [h1.str, h2.str]
    exact ⟨_, _, rfl, _, _, rfl, rfl, q _ _ _ .bl⟩
  · cases e2
/-- a flat item in a list or tuple of flat items -/
def flat : D → Option V
  | .non => some .non
  | .bl b => some (.bl b)
  | .int i => some (.int i)
  | .str s => some (.str ⟨s.toArray⟩)
  | _ => none
def flats : List D → Option (List V)
  | [] => some []
  | x :: xs => match flat x, flats xs with
    | some v, some vs => some (v :: vs)
    | _, _ => none
theorem EAt.flat {I H : Hp} {d : D} {v w : V} (h : EAt A I H d v) (e : Lc.flat d = some w) : v = w ∧ flatV w = true := by
  unfold Lc.flat at e
  split at e <;> cases e
  · exact ⟨h.non, rfl⟩
  · exact ⟨h.bl, rfl⟩
  · exact ⟨h.int, rfl⟩
  · exact ⟨h.str, rfl⟩
theorem RL.flats {I H : Hp} : ∀ {xs : List D} {vs ws : List V} {fp : List Addr}, RL A.g I A.B H xs vs fp → Lc.flats xs = some ws → vs = ws ∧ ws.all flatV = true
  | [], vs, ws, fp, h, e => by
    rw [RL] at h
    rw [Lc.flats] at e
    cases e
    exact ⟨h.1, rfl⟩
  | x :: xs, vs, ws, fp, h, e => by
    rw [RL] at h
    rw [Lc.flats] at e
    obtain ⟨v, vr, f1, f2, rfl, _, h1, h2⟩ := h
    cases e1 : Lc.flat x with
    | none => rw [e1] at e; cases e
    | some w =>
      cases e2 : Lc.flats xs with
      | none => rw [e1, e2] at e; cases e
      | some wr =>
        rw [e1, e2] at e
        cases e
        obtain ⟨rfl, q1⟩ := EAt.flat ⟨f1, h1⟩ e1
        obtain ⟨rfl, q2⟩ := RL.flats h2 e2
        exact ⟨rfl, by rw [List.all_cons, q1, q2]; rfl⟩
/-- the items of a list, a tuple -/
def items : D → Option (List D)
  | .tup xs => some xs
  | .nd .lst _ xs => some xs
  | .nd .scr _ xs => some xs
  | _ => none
theorem EAt.items {I H : Hp} {d : D} {xs : List D} {v : V} (ih : leH I H) (bh : leH A.B H) (h : EAt A I H d v) (e : Lc.items d = some xs) : ∃ p vs fp, v = .ref p ∧ (SqL A.g.K H p vs ∨ SqT A.g.K H p vs) ∧ RL A.g I A.B H xs vs fp := by
  unfold Lc.items at e
  split at e <;> cases e
  · obtain ⟨p, vs, rfl, hp, fp, l⟩ := h.tup ih
    exact ⟨p, vs, fp, rfl, .inr hp, l⟩
  · obtain ⟨p, vs, rfl, hp, fp, l⟩ := h.lst ih bh
    exact ⟨p, vs, fp, rfl, .inl (.inl (.inl hp)), l⟩
  · obtain ⟨p, vs, rfl, hp, fp, l⟩ := h.scr ih bh
    exact ⟨p, vs, fp, rfl, .inl hp, l⟩
def inF (a b : D) : Option Bool := match items b with
  | some xs => match flat a, flats xs with
    | some v, some vs => some (inV v vs)
    | _, _ => none
  | none => none
theorem inF_ok {I H : Hp} {a b : D} {k : Bool} {x y : V} (ih : leH I H) (bh : leH A.B H) (h : inF a b = some k) (h1 : EAt A I H a x) (h2 : EAt A I H b y) : ∃ p xs, y = .ref p ∧ (SqL A.g.K H p xs ∨ SqT A.g.K H p xs) ∧ flatV x = true ∧ xs.all flatV = true ∧ inV x xs = k := by
  unfold inF at h
  split at h
  · split at h
    · rename_i xs e1 _ _ v vs e2 e3
      cases h
      obtain ⟨p, ws, fp, rfl, hp, l⟩ := h2.items ih bh e1
      obtain ⟨rfl, q1⟩ := h1.flat e2
      obtain ⟨rfl, q2⟩ := RL.flats l e3
      exact ⟨p, _, rfl, hp, q1, q2, rfl⟩
    · cases h
  · cases h
theorem os_inF (hK : A.g.K = X.K) : OpS A (fB2 inF) (r2 (rIn X.K false)) := fun I H ds vs Q d ih bh P e q => by
  obtain ⟨a, b, k, rfl, e1, rfl⟩ := fB2_some e
  obtain ⟨x, y, rfl, h1, h2⟩ := Paired.two P
  obtain ⟨p, xs, rfl, hp, q1, q2, rfl⟩ := inF_ok ih bh e1 h1 h2
  exact ⟨_, _, rfl, p, xs, rfl, hK ▸ hp, q1, q2, q _ _ _ .bl⟩
theorem os_nInF (hK : A.g.K = X.K) : OpS A (fB2 (pNot inF)) (r2 (rIn X.K true)) := fun I H ds vs Q d ih bh P e q => by
  obtain ⟨a, b, k, rfl, e1, rfl⟩ := fB2_some e
  obtain ⟨k', e2, rfl⟩ := pNot_some e1
  obtain ⟨x, y, rfl, h1, h2⟩ := Paired.two P
  obtain ⟨p, xs, rfl, hp, q1, q2, rfl⟩ := inF_ok ih bh e2 h1 h2
  exact ⟨_, _, rfl, p, xs, rfl, hK ▸ hp, q1, q2, q _ _ _ .bl⟩
/-- data in a list of data -/
def inD (a b : D) : Option Bool := match toPy a, toPy b with
  | some d, some (.list ds) => if SeqAt.shaped d && SeqAt.shaped (.list ds) then some (ds.any fun z => PyData.eqv z d) else none
  | _, _ => none
theorem inD_ok {I H : Hp} {a b : D} {k : Bool} {x y : V} (ih : leH I H) (bh : leH A.B H) (h : inD a b = some k) (h1 : EAt A I H a x) (h2 : EAt A I H b y) :
    ∃ d ds, Dp A.g.K H x d ∧ Dp A.g.K H y (.list ds) ∧ SeqAt.shaped d = true ∧ SeqAt.shaped (.list ds) = true ∧ (ds.any fun z => PyData.eqv z d) = k := by
  unfold inD at h
  split at h
  · split at h
    · rename_i d ds e1 e2 hs
      cases h
      obtain ⟨f1, h1⟩ := h1
      obtain ⟨f2, h2⟩ := h2
      rw [Bool.and_eq_true] at hs
      exact ⟨_, _, R.py _ h1 e1 ih bh, R.py _ h2 e2 ih bh, hs.1, hs.2, rfl⟩
    · cases h
  · cases h
theorem os_inD (hK : A.g.K = X.K) : OpS A (fB2 inD) (r2 (rInD X.K)) := fun I H ds vs Q d ih bh P e q => by
  obtain ⟨a, b, k, rfl, e1, rfl⟩ := fB2_some e
  obtain ⟨x, y, rfl, h1, h2⟩ := Paired.two P
  obtain ⟨p1, p2, d1, d2, s1, s2, rfl⟩ := inD_ok ih bh e1 h1 h2
  exact ⟨_, _, rfl, p1, p2, hK ▸ d1, hK ▸ d2, s1, s2, q _ _ _ .bl⟩
theorem os_nInD (hK : A.g.K = X.K) : OpS A (fB2 (pNot inD)) (r2 (rNotInD X.K)) := fun I H ds vs Q d ih bh P e q => by
  obtain ⟨a, b, k, rfl, e1, rfl⟩ := fB2_some e
  obtain ⟨k', e2, rfl⟩ := pNot_some e1
  obtain ⟨x, y, rfl, h1, h2⟩ := Paired.two P
  obtain ⟨p1, p2, d1, d2, s1, s2, rfl⟩ := inD_ok ih bh e2 h1 h2
  exact ⟨_, _, rfl, p1, p2, hK ▸ d1, hK ▸ d2, s1, s2, q _ _ _ .bl⟩
abbrev fIn : List D → Option D := fOr (fB2 inS) (fOr (fB2 inSS) (fOr (fB2 inF) (fB2 inD)))
abbrev fNin : List D → Option D := fOr (fB2 (pNot inS)) (fOr (fB2 (pNot inSS)) (fOr (fB2 (pNot inF)) (fB2 (pNot inD))))
end

/-! ### what a body's context must bear -/
structure On (X : Cx) (g : Gs) : Prop where
  k : g.K = X.K
  u : X.A.units + 65 < cLine

section
variable {A : Act} {W : Wx} {X : Cx} {a b : Expr} {ma mb : Ctx → ER} {pos : Pos}
theorem On.u0 (o : On X A.g) : X.A.units + 64 < cLine := by have := o.u; omega
theorem PE_eq (o : On X A.g) (ha : PE X a (tE A W ma)) (hb : PE X b (tE A W mb)) : PE X (.Compare a [.Eq] [b] pos) (tE A W (eOp fEq [ma, mb])) := PE_cmp (OpR.or op_eq (op_eqD o.u0)) (OpS.or2 os_eqS (os_eqD o.k)) ha hb (nomark _)
theorem PE_ne (o : On X A.g) (ha : PE X a (tE A W ma)) (hb : PE X b (tE A W mb)) : PE X (.Compare a [.NotEq] [b] pos) (tE A W (eOp fNe [ma, mb])) := PE_cmp (OpR.or op_ne (op_neD o.u0)) (OpS.or2 os_neS (os_neD o.k)) ha hb (nomark _)
theorem PE_in (o : On X A.g) (ha : PE X a (tE A W ma)) (hb : PE X b (tE A W mb)) (hm : behindInMarks .In b = false := by rfl) : PE X (.Compare a [.In] [b] pos) (tE A W (eOp fIn [ma, mb])) :=
  PE_cmp (OpR.or op_in_sign (OpR.or op_in_str (OpR.or op_in_seq (op_inD o.u)))) (OpS.or2 os_inS (OpS.or2 os_inSS (OpS.or2 (os_inF o.k) (os_inD o.k)))) ha hb hm
theorem PE_nin (o : On X A.g) (ha : PE X a (tE A W ma)) (hb : PE X b (tE A W mb)) (hm : behindInMarks .NotIn b = false := by rfl) : PE X (.Compare a [.NotIn] [b] pos) (tE A W (eOp fNin [ma, mb])) :=
  PE_cmp (OpR.or op_notIn_sign (OpR.or op_notin_str (OpR.or op_notIn_seq (op_notInD o.u)))) (OpS.or2 os_nInS (OpS.or2 os_nInSS (OpS.or2 (os_nInF o.k) (os_nInD o.k)))) ha hb hm
/-- <, <=, >, >= -/
def ltS (p : List Nat → List Nat → Bool) : D → D → Option Bool
  | .str s, .str t => some (p s t)
  | _, _ => none
theorem os_ltS {p : List Nat → List Nat → Bool} {r : R2} (h : ∀ (s t : List Nat) (Q : VK) (H : Hp), Q (.bl (p s t)) H → r (.str ⟨s.toArray⟩) (.str ⟨t.toArray⟩) H Q) : OpS A (fB2 (ltS p)) (r2 r) := fun I H ds vs Q d ih bh P e q => by
  obtain ⟨a, b, k, rfl, e1, rfl⟩ := fB2_some e
  obtain ⟨x, y, rfl, h1, h2⟩ := Paired.two P
  unfold ltS at e1
  split at e1
  · cases e1
    rw [h1.str, h2.str]
    exact ⟨_, _, rfl, h _ _ _ _ (q _ _ _ .bl)⟩
  · cases e1
abbrev fLt : List D → Option D := fOr (fII (gB fun i j => decide (i < j))) (fB2 (ltS fun s t => decide (s < t)))
abbrev fLe : List D → Option D := fOr (fII (gB fun i j => decide (i ≤ j))) (fB2 (ltS fun s t => !decide (t < s)))
abbrev fGt : List D → Option D := fOr (fII (gB fun i j => decide (j < i))) (fB2 (ltS fun s t => decide (t < s)))
abbrev fGe : List D → Option D := fOr (fII (gB fun i j => decide (j ≤ i))) (fB2 (ltS fun s t => !decide (s < t)))
theorem osr_lt : OpS A fLt (r2 fun x y H Q => rI0 (fun i j => .bl (decide (i < j))) x y H Q ∨ ∃ i j, x = .str i ∧ y = .str j ∧ Q (.bl (decide (i.cps.toList < j.cps.toList))) H) := OpS.or2 os_cmp (os_ltS fun s t Q H q => ⟨_, _, rfl, rfl, q⟩)
theorem osr_le : OpS A fLe (r2 fun x y H Q => rI0 (fun i j => .bl (decide (i ≤ j))) x y H Q ∨ ∃ i j, x = .str i ∧ y = .str j ∧ Q (.bl (!decide (j.cps.toList < i.cps.toList))) H) := OpS.or2 os_cmp (os_ltS fun s t Q H q => ⟨_, _, rfl, rfl, q⟩)
theorem osr_gt : OpS A fGt (r2 fun x y H Q => rI0 (fun i j => .bl (decide (j < i))) x y H Q ∨ ∃ i j, x = .str i ∧ y = .str j ∧ Q (.bl (decide (j.cps.toList < i.cps.toList))) H) := OpS.or2 os_cmp (os_ltS fun s t Q H q => ⟨_, _, rfl, rfl, q⟩)
theorem osr_ge : OpS A fGe (r2 fun x y H Q => rI0 (fun i j => .bl (decide (j ≤ i))) x y H Q ∨ ∃ i j, x = .str i ∧ y = .str j ∧ Q (.bl (!decide (i.cps.toList < j.cps.toList))) H) := OpS.or2 os_cmp (os_ltS fun s t Q H q => ⟨_, _, rfl, rfl, q⟩)
theorem PE_lt (ha : PE X a (tE A W ma)) (hb : PE X b (tE A W mb)) : PE X (.Compare a [.Lt] [b] pos) (tE A W (eOp fLt [ma, mb])) := PE_cmp (OpR.or op_lt op_lt_str) osr_lt ha hb (nomark _)
theorem PE_le (ha : PE X a (tE A W ma)) (hb : PE X b (tE A W mb)) : PE X (.Compare a [.LtE] [b] pos) (tE A W (eOp fLe [ma, mb])) := PE_cmp (OpR.or op_le op_le_str) osr_le ha hb (nomark _)
theorem PE_gt (ha : PE X a (tE A W ma)) (hb : PE X b (tE A W mb)) : PE X (.Compare a [.Gt] [b] pos) (tE A W (eOp fGt [ma, mb])) := PE_cmp (OpR.or op_gt op_gt_str) osr_gt ha hb (nomark _)
theorem PE_ge (ha : PE X a (tE A W ma)) (hb : PE X b (tE A W mb)) : PE X (.Compare a [.GtE] [b] pos) (tE A W (eOp fGe [ma, mb])) := PE_cmp (OpR.or op_ge op_ge_str) osr_ge ha hb (nomark _)
/-- is None, is not None -/
def fIsN : List D → Option D
  | [.non] => some (.bl true)
  | [.int _] => some (.bl false)
  | [.bl _] => some (.bl false)
  | [.str _] => some (.bl false)
  | [.tup _] => some (.bl false)
  | [.nd _ _ _] => some (.bl false)
  | _ => none
end
end Lc
end
section
set_option Elab.async false
set_option linter.all false
set_option maxRecDepth 100000
set_option maxHeartbeats 1000000
namespace Lc
open PySem L2

section
variable {A : Act} {W : Wx} {X : Cx}

/-! ### tests -/
def tOfE (m : Ctx → ER) : Ctx → TR := fun c => match m c with
  | .ok (.t (.bl b)) c' => .ok b c'
  | .exc k n x c' => .exc k n x c'
  | _ => .bad
theorem tT_of {m : Ctx → ER} {σ : St} {H : Hp} {Q : Bool → Hp → Prop} (h : tT A W (tOfE m) σ H Q) : tE A W m σ H (fun x H1 => ∃ k, x = .bl k ∧ Q k H1) := by
  obtain ⟨I, c, ts, O, lk, S, h⟩ := h
  refine ⟨I, c, ts, O, lk, S, ?_⟩
  rw [tOfE] at h
  cases e : m c with
  | bad => rw [e] at h; exact h.elim
  | exc k n x c1 => rw [e] at h; exact h
  | ok ev c1 =>
    rw [e] at h
    cases ev with
    | pl r p => exact h.elim
    | t d =>
      cases d with
      | bl b =>
        intro v I1 H1 O1 S1
        obtain ⟨fp, r, _⟩ := S1.last
        rw [R] at r
        exact ⟨b, r.1, h I1 H1 O1 S1.pop⟩
      | _ => exact h.elim
theorem tT.mono {m : Ctx → TR} {σ : St} {H : Hp} {Q Q' : Bool → Hp → Prop} (h : tT A W m σ H Q) (q : ∀ b H', Q b H' → Q' b H') : tT A W m σ H Q' := by
  obtain ⟨I, c, ts, O, lk, S, h⟩ := h
  refine ⟨I, c, ts, O, lk, S, ?_⟩
  cases e : m c with
  | bad => rw [e] at h; exact h
  | exc k n x c1 => rw [e] at h; exact h
  | ok b c1 =>
    rw [e] at h
    exact fun I' H' O' S' => q _ _ (h I' H' O' S')
theorem PT_val {e : Expr} {m : Ctx → ER} (h : PE X e (tE A W m)) (he : ∀ whole, isTrue e X.env whole = (do let v ← whole; standAt e.pos; holding [v] (truthy v)) := by intro _; rfl) : PT X e (tT A W (tOfE m)) :=
  PT.imp (pt_val h he) fun σ H Q q => tT_of q
theorem PT_cmp {op : CmpOp} {f : List D → Option D} {r : R2} {a b : Expr} {ma mb : Ctx → ER} {pos : Pos} (ho : OpR X (compareOp op) r) (os : OpS A f (r2 r)) (ha : PE X a (tE A W ma)) (hb : PE X b (tE A W mb)) (hm : behindInMarks op b = false) :
    PT X (.Compare a [op] [b] pos) (tT A W (tOfE (eOp f [ma, mb]))) := PT.imp (pt_cmpR ho ha hb hm) fun σ H Q q => tOp_of os _ _ _ (tT_of q)

def tAndT (a b : Ctx → TR) : Ctx → TR := fun c => match a c with
  | .ok true c1 => b c1
  | .ok false c1 => .ok false c1
  | .exc k n x c1 => .exc k n x c1
  | .bad => .bad
def tOrT (a b : Ctx → TR) : Ctx → TR := fun c => match a c with
  | .ok true c1 => .ok true c1
  | .ok false c1 => b c1
  | .exc k n x c1 => .exc k n x c1
  | .bad => .bad
def tNotT (a : Ctx → TR) : Ctx → TR := fun c => match a c with
  | .ok b c1 => .ok (!b) c1
  | .exc k n x c1 => .exc k n x c1
  | .bad => .bad
theorem PW_one {op : BoolOp} {a : Expr} {ma : Ctx → TR} {pos : Pos} (ha : PT X a (tT A W ma)) : PW X (.BoolOp op [a] pos) (tT A W ma) := by
  cases op with
  | And => exact pw_and1 ha
  | Or => exact pw_or1 ha
theorem PW.imp {X : Cx} {e : Expr} {t t' : TT} (h : PW X e t) (q : ∀ σ H Q, t' σ H Q → t σ H Q) : PW X e t' := ⟨fun wh pins s σ H Q I x => h.run wh pins s σ H Q I (q σ H Q x)⟩
theorem PW_and {a b : Expr} {rest : List Expr} {ma mb : Ctx → TR} {pos : Pos} (ha : PT X a (tT A W ma)) (hb : PW X (.BoolOp .And (b :: rest) pos) (tT A W mb)) : PW X (.BoolOp .And (a :: b :: rest) pos) (tT A W (tAndT ma mb)) :=
  PW.imp (pw_and ha hb) fun σ H Q ⟨I, c, ts, O, lk, S, h⟩ => by
    refine ⟨I, c, ts, O, lk, S, ?_⟩
    rw [tAndT] at h
    cases e : ma c with
    | bad => rw [e] at h; exact h
    | exc k n x c1 => rw [e] at h; exact h
    | ok k c1 =>
      rw [e] at h
      intro I1 H1 O1 S1
      cases k with
      | true => exact iteT ⟨I1, c1, ts, O1, lk, S1, h⟩
      | false => exact iteF (h I1 H1 O1 S1)
theorem PW_or {a b : Expr} {rest : List Expr} {ma mb : Ctx → TR} {pos : Pos} (ha : PT X a (tT A W ma)) (hb : PW X (.BoolOp .Or (b :: rest) pos) (tT A W mb)) : PW X (.BoolOp .Or (a :: b :: rest) pos) (tT A W (tOrT ma mb)) :=
  PW.imp (pw_or ha hb) fun σ H Q ⟨I, c, ts, O, lk, S, h⟩ => by
    refine ⟨I, c, ts, O, lk, S, ?_⟩
    rw [tOrT] at h
    cases e : ma c with
    | bad => rw [e] at h; exact h
    | exc k n x c1 => rw [e] at h; exact h
    | ok k c1 =>
      rw [e] at h
      intro I1 H1 O1 S1
      cases k with
      | true => exact iteT (h I1 H1 O1 S1)
      | false => exact iteF ⟨I1, c1, ts, O1, lk, S1, h⟩
theorem PT_not {a : Expr} {ma : Ctx → TR} {pos : Pos} (ha : PT X a (tT A W ma)) : PT X (.UnaryOp .Not a pos) (tT A W (tNotT ma)) :=
  PT.imp (pt_not ha) fun σ H Q ⟨I, c, ts, O, lk, S, h⟩ => by
    refine ⟨I, c, ts, O, lk, S, ?_⟩
    rw [tNotT] at h
    cases e : ma c with
    | bad => rw [e] at h; exact h
    | exc k n x c1 => rw [e] at h; exact h
    | ok k c1 => rw [e] at h; exact h

/-- truth of any value -/
def truth : D → Option Bool
  | .non => some false
  | .bl b => some b
  | .int i => some (i != 0)
  | .str s => if s.length ≤ 16777216 then some (!s.isEmpty) else none
  | .tup xs => some (!xs.isEmpty)
  | .nd .lst _ xs => some (!xs.isEmpty)
  | .nd .scr _ xs => some (!xs.isEmpty)
  | .nd (.dct _) .own xs => some (!xs.isEmpty)
  | _ => none
theorem isEmpty_len {α β : Type} {xs : List α} {ys : List β} (h : xs.length = ys.length) : xs.isEmpty = ys.isEmpty := by
  cases xs <;> cases ys <;> simp_all
theorem truth_ok {I H : Hp} {d : D} {v : V} {k : Bool} (hK : A.g.K = X.K) (ih : leH I H) (bh : leH A.B H) (h : EAt A I H d v) (e : truth d = some k) : TruV X.K v H k := by
  unfold truth at e
  split at e
  · cases e; rw [h.non]; rfl
  · cases e; rw [h.bl]; rfl
  · cases e; rw [h.int]; rfl
  · split at e
    · rename_i s hl
      cases e
      rw [h.str]
      refine ⟨by rw [Str.len, sizeLine_eq]; exact hl, ?_⟩
      rw [Str.len]
      cases s <;> simp
      omega
    · cases e
  · cases e
    obtain ⟨p, vs, rfl, hp, fp, l⟩ := h.tup ih
    exact .inr (.inl ⟨vs, hK ▸ hp, by rw [isEmpty_len l.length]⟩)
  · cases e
    obtain ⟨p, vs, rfl, hp, fp, l⟩ := h.lst ih bh
    exact .inl ⟨vs, .inl (.inl hp), by rw [isEmpty_len l.length]⟩
  · cases e
    obtain ⟨p, vs, rfl, hp, fp, l⟩ := h.scr ih bh
    exact .inl ⟨vs, hK ▸ hp, by rw [isEmpty_len l.length]⟩
  · cases e
    obtain ⟨fp, h⟩ := h
    rw [R] at h
    obtain ⟨p, vs, fq, rfl, _, ⟨hl, hp⟩, l⟩ := h
    refine .inr (.inr ⟨_, hp, ?_⟩)
    rw [← isEmpty_len l.length]
    congr 1
    exact (isEmpty_len (by rw [List.length_zip, hl, Nat.min_self])).symm
  · cases e
def tTru (m : Ctx → ER) : Ctx → TR := fun c => match m c with
  | .ok e c' => match val c' e with
    | some d => match truth d with
      | some b => .ok b c'
      | none => .bad
    | none => .bad
  | .exc k n x c' => .exc k n x c'
  | .bad => .bad
theorem PT_tru {e : Expr} {m : Ctx → ER} (hK : A.g.K = X.K) (h : PE X e (tE A W m)) (he : ∀ whole, isTrue e X.env whole = (do let v ← whole; standAt e.pos; holding [v] (truthy v)) := by intro _; rfl) : PT X e (tT A W (tTru m)) :=
  PT.imp (pt_truth h he) fun σ H Q ⟨I, c, ts, O, lk, S, h⟩ => by
    refine ⟨I, c, ts, O, lk, S, ?_⟩
    rw [tTru] at h
    cases e : m c with
    | bad => rw [e] at h; exact h.elim
    | exc k n x c1 => rw [e] at h; exact h
    | ok ev c1 =>
      rw [e] at h
      dsimp only at h
      cases e2 : val c1 ev with
      | none => rw [e2] at h; exact h.elim
      | some d =>
        rw [e2] at h
        dsimp only at h
        cases e3 : truth d with
        | none => rw [e3] at h; exact h.elim
        | some k =>
          rw [e3] at h
          dsimp only at h
          cases ev with
          | t d' =>
            rw [val] at e2
            cases e2
            intro v I1 H1 O1 S1
            obtain ⟨fp, r, _⟩ := S1.last
            exact ⟨k, truth_ok hK S1.ih S1.bh ⟨fp, r⟩ e3, h I1 H1 O1 S1.pop⟩
          | pl r p =>
            intro v I1 H1 O1 S1 pv
            obtain ⟨d0, v0, d', fa, fn, fb, q1, q2, q3, _, _, _, rn, _, _⟩ := S1.at pv
            have : d' = d := by
              rw [val, q1] at e2
              dsimp only at e2
              rw [q3] at e2
              cases e2
              rfl
            subst this
            exact ⟨k, truth_ok hK S1.ih S1.bh ⟨fn, rn⟩ e3, h I1 H1 O1 S1⟩

/-! ### and, or, not, if-else as values; chains -/
def eT (t : Ctx → TR) : Ctx → ER := fun c => match t c with
  | .ok b c' => .ok (.t (.bl b)) c'
  | .exc k n x c' => .exc k n x c'
  | .bad => .bad
def eIf (t : Ctx → TR) (a b : Ctx → ER) : Ctx → ER := fun c => match t c with
  | .ok true c1 => a c1
  | .ok false c1 => b c1
  | .exc k n x c1 => .exc k n x c1
  | .bad => .bad
def eAnd (a b : Ctx → ER) : Ctx → ER := fun c => match a c with
  | .ok (.t (.bl true)) c1 => b c1
  | .ok (.t (.bl false)) c1 => .ok (.t (.bl false)) c1
  | .exc k n x c1 => .exc k n x c1
  | _ => .bad
def eOr (a b : Ctx → ER) : Ctx → ER := fun c => match a c with
  | .ok (.t (.bl true)) c1 => .ok (.t (.bl true)) c1
  | .ok (.t (.bl false)) c1 => b c1
  | .exc k n x c1 => .exc k n x c1
  | _ => .bad
def eNot (a : Ctx → ER) : Ctx → ER := fun c => match a c with
  | .ok (.t (.bl b)) c1 => .ok (.t (.bl (!b))) c1
  | .exc k n x c1 => .exc k n x c1
  | _ => .bad
theorem R.bl {g : Gs} {I B H : Hp} {b : Bool} : R g I B H (.bl b) (.bl b) [] := by rw [R]; exact ⟨rfl, rfl⟩
theorem bl_of {I H : Hp} {O : Addr → Option Ow} {w : Ow} {b : Bool} {v : V} (h : RO A I H O w (.bl b) v) : v = .bl b := by
  obtain ⟨fp, r, _⟩ := h
  rw [R] at r
  exact r.1
theorem PE_if {t a b : Expr} {mt : Ctx → TR} {ma mb : Ctx → ER} {pos : Pos} (ht : PT X t (tT A W mt)) (ha : PE X a (tE A W ma)) (hb : PE X b (tE A W mb)) : PE X (.IfExp t a b pos) (tE A W (eIf mt ma mb)) :=
  PE.imp (pe_ifExp ht ha hb) fun σ H Q ⟨I, c, ts, O, lk, S, h⟩ => by
    refine ⟨I, c, ts, O, lk, S, ?_⟩
    rw [eIf] at h
    cases e : mt c with
    | bad => rw [e] at h; exact h
    | exc k n x c1 => rw [e] at h; exact h
    | ok k c1 =>
      rw [e] at h
      intro I1 H1 O1 S1
      cases k with
      | true => exact iteT ⟨I1, c1, ts, O1, lk, S1, h⟩
      | false => exact iteF ⟨I1, c1, ts, O1, lk, S1, h⟩
theorem PE_one {op : BoolOp} {a : Expr} {ma : Ctx → ER} {pos : Pos} (ha : PE X a (tE A W ma)) : PE X (.BoolOp op [a] pos) (tE A W ma) := pe_one ha
theorem PE_and {a b : Expr} {rest : List Expr} {ma mb : Ctx → ER} {pos : Pos} (ha : PE X a (tE A W ma)) (hb : PE X (.BoolOp .And (b :: rest) pos) (tE A W mb)) : PE X (.BoolOp .And (a :: b :: rest) pos) (tE A W (eAnd ma mb)) :=
  PE.imp (pe_and ha hb) fun σ H Q ⟨I, c, ts, O, lk, S, h⟩ => by
    refine ⟨I, c, ts, O, lk, S, ?_⟩
    rw [eAnd] at h
    cases e : ma c with
    | bad => rw [e] at h; exact h.elim
    | exc k n x c1 => rw [e] at h; exact h
    | ok ev c1 =>
      rw [e] at h
      cases ev with
      | pl r p => exact h.elim
      | t d =>
        cases d with
        | bl k =>
          intro v I1 H1 O1 S1
          refine ⟨k, bl_of S1.last, ?_⟩
          cases k with
          | true => exact iteT ⟨I1, c1, ts, O1, lk, S1.pop, h⟩
          | false => exact iteF (h (.bl false) I1 H1 O1 (S1.pop.push R.bl))
        | _ => exact h.elim
theorem PE_or {a b : Expr} {rest : List Expr} {ma mb : Ctx → ER} {pos : Pos} (ha : PE X a (tE A W ma)) (hb : PE X (.BoolOp .Or (b :: rest) pos) (tE A W mb)) : PE X (.BoolOp .Or (a :: b :: rest) pos) (tE A W (eOr ma mb)) :=
  PE.imp (pe_or ha hb) fun σ H Q ⟨I, c, ts, O, lk, S, h⟩ => by
    refine ⟨I, c, ts, O, lk, S, ?_⟩
    rw [eOr] at h
    cases e : ma c with
    | bad => rw [e] at h; exact h.elim
    | exc k n x c1 => rw [e] at h; exact h
    | ok ev c1 =>
      rw [e] at h
      cases ev with
      | pl r p => exact h.elim
      | t d =>
        cases d with
        | bl k =>
          intro v I1 H1 O1 S1
          refine ⟨k, bl_of S1.last, ?_⟩
          cases k with
          | true => exact iteT (h (.bl true) I1 H1 O1 (S1.pop.push R.bl))
          | false => exact iteF ⟨I1, c1, ts, O1, lk, S1.pop, h⟩
        | _ => exact h.elim
/-- not a, as a value: a gives a bool -/
theorem PE_not {a : Expr} {ma : Ctx → ER} {pos : Pos} (ha : PE X a (tE A W ma)) : PE X (.UnaryOp .Not a pos) (tE A W (eNot ma)) :=
  PE.imp (pe_not ha) fun σ H Q ⟨I, c, ts, O, lk, S, h⟩ => by
    refine ⟨I, c, ts, O, lk, S, ?_⟩
    rw [eNot] at h
    cases e : ma c with
    | bad => rw [e] at h; exact h.elim
    | exc k n x c1 => rw [e] at h; exact h
    | ok ev c1 =>
      rw [e] at h
      cases ev with
      | pl r p => exact h.elim
      | t d =>
        cases d with
        | bl k =>
          intro v I1 H1 O1 S1
          exact ⟨k, bl_of S1.last, h (.bl (!k)) I1 H1 O1 (S1.pop.push R.bl)⟩
        | _ => exact h.elim
/-- a p b p' c of ints -/
def eChain (p p' : Int → Int → Bool) (ma mb mc : Ctx → ER) : Ctx → ER := fun c => match ma c with
  | .ok (.t (.int i)) c1 => match mb c1 with
    | .ok (.t (.int j)) c2 => if p i j then match mc c2 with
        | .ok (.t (.int k)) c3 => .ok (.t (.bl (p' j k))) c3
        | .exc k n x c3 => .exc k n x c3
        | _ => .bad
      else .ok (.t (.bl false)) c2
    | .exc k n x c2 => .exc k n x c2
    | _ => .bad
  | .exc k n x c1 => .exc k n x c1
  | _ => .bad
theorem int_of {I H : Hp} {O : Addr → Option Ow} {w : Ow} {i : Int} {v : V} (h : RO A I H O w (.int i) v) : v = .int i := by
  obtain ⟨fp, r, _⟩ := h
  rw [R] at r
  exact r.1
theorem tChain_of {p p' : Int → Int → Bool} {ma mb mc : Ctx → ER} {σ : St} {H : Hp} {Q : VK} (h : tE A W (eChain p p' ma mb mc) σ H Q) : tChain (rI0 fun i j => .bl (p i j)) (rI0 fun i j => .bl (p' i j)) (tE A W ma) (tE A W mb) (tE A W mc) σ H Q := by
  obtain ⟨I, c, ts, O, lk, S, h⟩ := h
  refine ⟨I, c, ts, O, lk, S, ?_⟩
  rw [eChain] at h
  cases e : ma c with
  | bad => rw [e] at h; exact h.elim
  | exc k n x c1 => rw [e] at h; exact h
  | ok ev c1 =>
    rw [e] at h
    cases ev with
    | pl r p => exact h.elim
    | t d =>
      cases d with
      | int i =>
        intro v I1 H1 O1 S1
        rw [int_of S1.last]
        refine ⟨I1, c1, ts, O1, lk, S1.pop, ?_⟩
        dsimp only at h
        cases e : mb c1 with
        | bad => rw [e] at h; exact h.elim
        | exc k n x c2 => rw [e] at h; exact h
        | ok ev c2 =>
          rw [e] at h
          cases ev with
          | pl r p => exact h.elim
          | t d =>
            cases d with
            | int j =>
              intro v I2 H2 O2 S2
              rw [int_of S2.last]
              refine ⟨i, j, rfl, rfl, p i j, rfl, ?_⟩
              dsimp only at h
              cases hp : p i j with
              | false =>
                rw [hp] at h
                exact iteF (h (.bl false) I2 H2 O2 (S2.pop.push R.bl))
              | true =>
                rw [hp, if_pos rfl] at h
                refine iteT ⟨I2, c2, ts, O2, lk, S2.pop, ?_⟩
                cases e : mc c2 with
                | bad => rw [e] at h; exact h.elim
                | exc k n x c3 => rw [e] at h; exact h
                | ok ev c3 =>
                  rw [e] at h
                  cases ev with
                  | pl r p => exact h.elim
                  | t d =>
                    cases d with
                    | int k =>
                      intro v I3 H3 O3 S3
                      rw [int_of S3.last]
                      exact ⟨j, k, rfl, rfl, h _ I3 H3 O3 (S3.pop.push R.bl)⟩
                    | _ => exact h.elim
            | _ => exact h.elim
      | _ => exact h.elim
theorem PE_chain {op op' : CmpOp} {p p' : Int → Int → Bool} {a b d : Expr} {ma mb mc : Ctx → ER} {pos : Pos} (ho : OpR X (compareOp op) (rI0 fun i j => .bl (p i j))) (ho' : OpR X (compareOp op') (rI0 fun i j => .bl (p' i j))) (ha : PE X a (tE A W ma)) (hb : PE X b (tE A W mb)) (hc : PE X d (tE A W mc))
    (hm : lastMarks [op, op'] [b, d] = false := by with_unfolding_all rfl) : PE X (.Compare a [op, op'] [b, d] pos) (tE A W (eChain p p' ma mb mc)) := PE.imp (pe_chain ho ho' ha hb hc hm) fun σ H Q h => tChain_of h
theorem PT_chain {op op' : CmpOp} {p p' : Int → Int → Bool} {a b d : Expr} {ma mb mc : Ctx → ER} {pos : Pos} (ho : OpR X (compareOp op) (rI0 fun i j => .bl (p i j))) (ho' : OpR X (compareOp op') (rI0 fun i j => .bl (p' i j))) (ha : PE X a (tE A W ma)) (hb : PE X b (tE A W mb)) (hc : PE X d (tE A W mc))
    (hm : lastMarks [op, op'] [b, d] = false := by with_unfolding_all rfl) : PT X (.Compare a [op, op'] [b, d] pos) (tT A W (tOfE (eChain p p' ma mb mc))) := PT.imp (pt_chain ho ho' ha hb hc hm) fun σ H Q h => tChain_of (tT_of h)
end
end Lc
end
section
set_option Elab.async false
set_option linter.all false
set_option maxRecDepth 100000
set_option maxHeartbeats 1000000
namespace Lc
open PySem L2

section
variable {A : Act} {W : Wx} {X : Cx}

/-! ### an item -/
/-- the item of a container at a key, its place among the children -/
def ixAt : D → D → Option (D × Nat)
  | .str s, .int i => if s.length ≤ 16777216 then (atI s i).map fun c => (.str [c], 0) else none
  | .tup xs, .int i => (ixN xs.length i).bind fun n => (xs[n]?).map fun x => (x, n)
  | .nd .lst _ xs, .int i => (ixN xs.length i).bind fun n => (xs[n]?).map fun x => (x, n)
  | .nd .scr _ xs, .int i => (ixN xs.length i).bind fun n => (xs[n]?).map fun x => (x, n)
  | _, _ => none
def eIx (ma mb : Ctx → ER) : Ctx → ER := fun c => match eArgs [ma, mb] c with
  | .ok [e1, e2] c2 => match val c2 e1, val c2 e2 with
    | some d, some k => match ixAt d k with
      | some (x, n) => if Lc.noOwn x then .ok (.t x) (unlocks [e1, e2] c2) else match e1 with
        | .pl r p => .ok (.pl r (p ++ [n])) (unlocks [e1, e2] c2)
        | .t _ => .bad
      | none => .bad
    | _, _ => .bad
  | .exc k n x c2 => .exc k n x c2
  | _ => .bad

theorem getP_snoc : ∀ (p : List Nat) {d d' x : D} {n : Nat}, getP d p = some d' → getP d' [n] = some x → getP d (p ++ [n]) = some x
  | [], d, d', x, n, h, e => by
    rw [getP] at h
    cases h
    exact e
  | m :: p, .tup xs, d', x, n, h, e => by
    rw [List.cons_append]
    rw [getP] at h ⊢
    cases hx : xs[m]? with
    | none => rw [hx] at h; cases h
    | some y =>
      rw [hx] at h
      exact getP_snoc p h e
  | m :: p, .nd kd .own xs, d', x, n, h, e => by
    rw [List.cons_append]
    rw [getP] at h ⊢
    cases hx : xs[m]? with
    | none => rw [hx] at h; cases h
    | some y =>
      rw [hx] at h
      exact getP_snoc p h e
  | m :: p, .nd kd .frz xs, d', x, n, h, e => by rw [getP] at h <;> first | cases h | (intros; contradiction)
  | m :: p, .nd kd .bor xs, d', x, n, h, e => by rw [getP] at h <;> first | cases h | (intros; contradiction)
  | m :: p, .non, d', x, n, h, e => by rw [getP] at h <;> first | cases h | (intros; contradiction)
  | m :: p, .bl _, d', x, n, h, e => by rw [getP] at h <;> first | cases h | (intros; contradiction)
  | m :: p, .int _, d', x, n, h, e => by rw [getP] at h <;> first | cases h | (intros; contradiction)
  | m :: p, .str _, d', x, n, h, e => by rw [getP] at h <;> first | cases h | (intros; contradiction)
  | m :: p, .ty _, d', x, n, h, e => by rw [getP] at h <;> first | cases h | (intros; contradiction)
  | m :: p, .exn _ _ _, d', x, n, h, e => by rw [getP] at h <;> first | cases h | (intros; contradiction)
theorem VAt.snoc {g : Gs} {I H : Hp} {S : Addr → Prop} {n : Nat} {w : V} : ∀ {p : List Nat} {v u : V}, VAt g I H S v p u → VAt g I H S u [n] w → VAt g I H S v (p ++ [n]) w
  | [], v, u, h, e => by
    have h : u = v := h
    subst h
    exact e
  | m :: p, v, u, h, e => by
    obtain ⟨q, vs, v1, e1, h1, g1, h⟩ := h
    exact ⟨q, vs, v1, e1, h1, g1, VAt.snoc h e⟩
theorem noOwn_get : ∀ {xs : List D} {n : Nat} {x : D}, xs[n]? = some x → Lc.noOwn x = false → noOwnL xs = false
  | [], n, x, h, _ => by simp at h
  | y :: ys, 0, x, h, e => by
    have h : y = x := by simpa using h
    subst h
    rw [noOwnL, e]
    rfl
  | y :: ys, n + 1, x, h, e => by
    have h : ys[n]? = some x := by simpa using h
    rw [noOwnL, noOwn_get h e, Bool.and_false]

/-- the child of a place -/
theorem PV.child {I H : Hp} {σ : St} {c : Ctx} {ts : List (D × V)} {O : Addr → Option Ow} {lk : List (Nat × List Nat × V)} {r n : Nat} {p : List Nat} {v : V} {d x : D} (S : Sat A I H σ c ts O lk) (h : PV A I H σ c O r p v) (e : val c (.pl r p) = some d) (hx : getP d [n] = some x) (no : Lc.noOwn x = false) :
    ∃ q vs w, v = .ref q ∧ ((∃ xs, d = .tup xs ∧ I q = some (.tup vs) ∧ vs.length = xs.length) ∨ ∃ k xs, d = .nd k .own xs ∧ OwnC A.g H k q vs ∧ vs.length = xs.length) ∧ vs[n]? = some w ∧ PV A I H σ c O r (p ++ [n]) w := by
  obtain ⟨d0, v0, d', fa, fn, fb, q1, q2, q3, _, _, ow, rn, _, _⟩ := S.at h
  have ed : d' = d := by
    rw [val, q1] at e
    dsimp only at e
    rw [q3] at e
    cases e
    rfl
  subst ed
  obtain ⟨d2, v2, d3, a1, a2, a3, a4, va0⟩ := h
  rw [q2] at a2
  cases a2
  have fin : ∀ {q : Addr} {vs : List V} {w : V}, v = .ref q → (I q = some (.tup vs) ∨ (O q = some (.inl r) ∧ ∃ k, OwnC A.g H k q vs)) → vs[n]? = some w → PV A I H σ c O r (p ++ [n]) w := fun {q vs w} e1 h1 g1 =>
    ⟨d0, v0, x, q1, q2, getP_snoc p q3 hx, no, VAt.snoc va0 ⟨q, vs, w, e1, h1, g1, rfl⟩⟩
  cases d' with
  | tup xs =>
    rw [getP] at hx
    cases hy : xs[n]? with
    | none => rw [hy] at hx; cases hx
    | some y =>
      rw [hy] at hx
      dsimp only at hx
      rw [getP] at hx
      cases hx
      rw [R] at rn
      obtain ⟨q, vs, e1, tc, l⟩ := rn
      obtain ⟨w, fa', fn', fb', g1, ef, rr, _⟩ := RL.at l hy
      have t1 := tc.own fun z => by
        rw [z] at l
        have := RL.isNil xs l rfl
        rw [noOwn_get hy no] at this
        cases this
      exact ⟨q, vs, w, e1, .inl ⟨xs, rfl, t1, l.length⟩, g1, fin e1 (.inl t1) g1⟩
  | nd k f xs =>
    cases f with
    | own =>
      rw [getP] at hx
      cases hy : xs[n]? with
      | none => rw [hy] at hx; cases hx
      | some y =>
        rw [hy] at hx
        dsimp only at hx
        rw [getP] at hx
        cases hx
        rw [R] at rn
        obtain ⟨q, vs, fq, e1, ef0, oc, l⟩ := rn
        obtain ⟨w, fa', fn', fb', g1, ef, rr, _⟩ := RL.at l hy
        exact ⟨q, vs, w, e1, .inr ⟨k, xs, rfl, oc, l.length⟩, g1, fin e1 (.inr ⟨ow q (by simp [ef0]), k, oc⟩) g1⟩
    | frz => rw [getP] at hx <;> first | cases hx | (intros; contradiction)
    | bor => rw [getP] at hx <;> first | cases hx | (intros; contradiction)
  | _ => rw [getP] at hx <;> first | cases hx | (intros; contradiction)

theorem ixN_lt {n : Nat} {i : Int} {j : Nat} (h : ixN n i = some j) : j < n := (ixN_seq h).2.1
theorem RL.get {g : Gs} {I B H : Hp} {xs : List D} {vs : List V} {fp : List Addr} {n : Nat} {x : D} (h : RL g I B H xs vs fp) (e : xs[n]? = some x) : ∃ v fn, vs[n]? = some v ∧ R g I B H x v fn := by
  obtain ⟨v, fa, fn, fb, e1, _, r, _⟩ := RL.at h e
  exact ⟨v, fn, e1, r⟩
theorem atI_of {α : Type} {xs : List α} {i : Int} {n : Nat} {x : α} {m : Nat} (hm : xs.length = m) (h : ixN m i = some n) (e : xs[n]? = some x) : atI xs i = some x := by
  unfold atI
  rw [hm, h]
  exact e
def rIxDct : R2 := fun x y H Q => ∃ a v, x = .ref a ∧ DGet H a y (some v) ∧ Q v H
theorem ix_leaf {I H : Hp} {d k x : D} {n : Nat} {u y : V} {Q : VK} (hK : A.g.K = X.K) (ih : leH I H) (bh : leH A.B H) (h1 : EAt A I H d u) (h2 : EAt A I H k y) (e : ixAt d k = some (x, n)) (no : Lc.noOwn x = true) (q : ∀ w, R A.g I A.B H x w [] → Q w H) : rIx X.K u y H Q := by
  have nil : ∀ {w : V} {fn : List Addr}, R A.g I A.B H x w fn → R A.g I A.B H x w [] := fun {w fn} r => by
    have := R.noOwn x r no
    subst this
    exact r
  unfold ixAt at e
  split at e
  · split at e
    · rename_i s i hl
      obtain ⟨c, e1, e2⟩ := Option.map_eq_some_iff.mp e
      cases e2
      rw [h1.str, h2.int]
      exact .inr (.inr ⟨_, _, c, rfl, rfl, by rw [Str.len, sizeLine_eq]; exact hl, by simpa using e1, q _ (by rw [R]; exact ⟨rfl, rfl⟩)⟩)
    · cases e
  · rename_i xs i
    obtain ⟨j, e1, e2⟩ := Option.bind_eq_some_iff.mp e
    obtain ⟨x', e3, e4⟩ := Option.map_eq_some_iff.mp e2
    cases e4
    rw [h2.int]
    obtain ⟨p, vs, rfl, hp, fp, l⟩ := h1.tup ih
    obtain ⟨v, fn, e5, rr⟩ := RL.get l e3
    exact .inr (.inl ⟨p, vs, i, v, rfl, rfl, hK ▸ hp, atI_of l.length e1 e5, q v (nil rr)⟩)
  · rename_i f xs i
    obtain ⟨j, e1, e2⟩ := Option.bind_eq_some_iff.mp e
    obtain ⟨x', e3, e4⟩ := Option.map_eq_some_iff.mp e2
    cases e4
    rw [h2.int]
    obtain ⟨p, vs, rfl, hp, fp, l⟩ := h1.lst ih bh
    obtain ⟨v, fn, e5, rr⟩ := RL.get l e3
    exact .inl ⟨p, vs, i, v, rfl, rfl, .inl (.inl hp), atI_of l.length e1 e5, q v (nil rr)⟩
  · rename_i f xs i
    obtain ⟨j, e1, e2⟩ := Option.bind_eq_some_iff.mp e
    obtain ⟨x', e3, e4⟩ := Option.map_eq_some_iff.mp e2
    cases e4
    rw [h2.int]
    obtain ⟨p, vs, rfl, hp, fp, l⟩ := h1.scr ih bh
    obtain ⟨v, fn, e5, rr⟩ := RL.get l e3
    exact .inl ⟨p, vs, i, v, rfl, rfl, hK ▸ hp, atI_of l.length e1 e5, q v (nil rr)⟩
  · cases e
theorem ix_own {I H : Hp} {σ : St} {c : Ctx} {ts : List (D × V)} {O : Addr → Option Ow} {lk : List (Nat × List Nat × V)} {r n : Nat} {p : List Nat} {u y : V} {d k x : D} {Q : VK} (hK : A.g.K = X.K) (S : Sat A I H σ c ts O lk) (h : PV A I H σ c O r p u) (ev : val c (.pl r p) = some d) (h2 : EAt A I H k y) (e : ixAt d k = some (x, n))
    (no : Lc.noOwn x = false) (q : ∀ w, PV A I H σ c O r (p ++ [n]) w → Q w H) : rIx X.K u y H Q := by
  have gx : getP d [n] = some x := by
    obtain ⟨d0, v0, d', fa, fn, fb, q1, q2, q3, _, _, ow, rn, ne, _⟩ := S.at h
    have ed : d' = d := by
      rw [val, q1] at ev
      dsimp only at ev
      rw [q3] at ev
      cases ev
      rfl
    subst ed
    unfold ixAt at e
    split at e
    · split at e
      · obtain ⟨c, e1, e2⟩ := Option.map_eq_some_iff.mp e
        cases e2
        rw [Lc.noOwn] at no
        cases no
      · cases e
    · obtain ⟨j, e1, e2⟩ := Option.bind_eq_some_iff.mp e
      obtain ⟨x', e3, e4⟩ := Option.map_eq_some_iff.mp e2
      cases e4
      rw [getP, e3]
      dsimp only
      rw [getP]
    · rename_i f xs i
      obtain ⟨j, e1, e2⟩ := Option.bind_eq_some_iff.mp e
      obtain ⟨x', e3, e4⟩ := Option.map_eq_some_iff.mp e2
      cases e4
      have : f = .own := by
        cases f with
        | own => rfl
        | frz =>
          rw [R] at rn
          obtain ⟨_, _, _, z, _⟩ := rn
          exact absurd z ne
        | bor =>
          rw [R] at rn
          obtain ⟨_, _, _, z, _⟩ := rn
          exact absurd z ne
      subst this
      rw [getP, e3]
      dsimp only
      rw [getP]
    · rename_i f xs i
      have : f = .own := by
        cases f with
        | own => rfl
        | frz =>
          rw [R] at rn
          obtain ⟨_, _, _, z, _⟩ := rn
          exact absurd z ne
        | bor =>
          rw [R] at rn
          obtain ⟨_, _, _, z, _⟩ := rn
          exact absurd z ne
      subst this
      rw [R] at rn
      obtain ⟨_, _, _, _, _, z, _⟩ := rn
      exact z.elim
    · cases e
  obtain ⟨q', vs, w, eq, h1, g1, pv⟩ := PV.child S h ev gx no
  subst eq
  unfold ixAt at e
  split at e
  · split at e
    · rename_i s i hl
      obtain ⟨c, e1, e2⟩ := Option.map_eq_some_iff.mp e
      cases e2
      rw [Lc.noOwn] at no
      cases no
    · cases e
  · rename_i xs i
    obtain ⟨j, e1, e2⟩ := Option.bind_eq_some_iff.mp e
    obtain ⟨x', e3, e4⟩ := Option.map_eq_some_iff.mp e2
    cases e4
    rw [h2.int]
    rcases h1 with ⟨ys, z, h1, hl⟩ | ⟨k, ys, z, h1, hl⟩
    · cases z
      exact .inr (.inl ⟨q', vs, i, w, rfl, rfl, .inl (.inl (S.ih _ _ h1)), atI_of hl e1 g1, q w pv⟩)
    · cases z
  · rename_i f xs i
    obtain ⟨j, e1, e2⟩ := Option.bind_eq_some_iff.mp e
    obtain ⟨x', e3, e4⟩ := Option.map_eq_some_iff.mp e2
    cases e4
    rw [h2.int]
    rcases h1 with ⟨ys, z, h1, hl⟩ | ⟨k, ys, z, h1, hl⟩
    · cases z
    · cases z
      exact .inl ⟨q', vs, i, w, rfl, rfl, .inl (.inl h1), atI_of hl e1 g1, q w pv⟩
  · rename_i f xs i
    rcases h1 with ⟨ys, z, h1, hl⟩ | ⟨k, ys, z, h1, hl⟩
    · cases z
    · cases z
      exact h1.elim
  · cases e

theorem Paired.len {α β : Type} {F : α → β → Prop} : ∀ {xs : List α} {ys : List β}, Paired F xs ys → ys.length = xs.length
  | _, _, .nil => rfl
  | _, _, .cons _ t => by rw [List.length_cons, List.length_cons, Paired.len t]
theorem PE_ix2 {a b : Expr} {ma mb : Ctx → ER} {pos : Pos} (hK : A.g.K = X.K) (ha : PE X a (tE A W ma)) (hb : PE X b (tE A W mb)) (hs : PlainIx b := by exact fun _ _ => rfl) : PE X (.Subscript a b pos) (tE A W (eIx ma mb)) :=
  PE.imp (pe_ix ix_seq ha hb hs) fun σ H Q ⟨I, c, ts, O, lk, S, h⟩ => by
    have key : tA' A W (eArgs [ma, mb]) σ H fun vs H2 => ∃ x y, vs = [x, y] ∧ rIx X.K x y H2 Q := by
      refine ⟨I, c, ts, O, lk, S, ?_⟩
      rw [eIx] at h
      cases e : eArgs [ma, mb] c with
      | bad => rw [e] at h; exact h.elim
      | exc k n x c1 => rw [e] at h; exact h
      | ok es c2 =>
        rw [e] at h
        match es, h with
        | [], h => exact h.elim
        | [_], h => exact h.elim
        | _ :: _ :: _ :: _, h => exact h.elim
        | [e1, e2], h =>
          dsimp only at h
          intro vs I2 H2 O2 hl S2
          match vs, hl with
          | [u, y], _ =>
            refine ⟨u, y, rfl, ?_⟩
            cases v1 : val c2 e1 with
            | none => rw [v1] at h; exact h.elim
            | some d =>
              cases v2 : val c2 e2 with
              | none => rw [v1, v2] at h; exact h.elim
              | some k =>
                rw [v1, v2] at h
                dsimp only at h
                have ev : valsOf c2 [e1, e2] = some [d, k] := by
                  rw [valsOf, valsOf, valsOf, v1, v2]
                obtain ⟨_, _, z, ed, ek⟩ := Paired.two (Sat.valsOf (es := [e1, e2]) (vs := [u, y]) rfl ev S2)
                cases z
                cases e3 : ixAt d k with
                | none => rw [e3] at h; exact h.elim
                | some xn =>
                  obtain ⟨x, n⟩ := xn
                  rw [e3] at h
                  dsimp only at h
                  cases no : Lc.noOwn x with
                  | true =>
                    rw [no, if_pos rfl] at h
                    refine ix_leaf hK S2.ih S2.bh ed ek e3 no fun w rw' => ?_
                    have S3 := Sat.unlockL (es := [e1, e2]) (vs := [u, y]) rfl S2
                    exact h w I2 H2 O2 (S3.pop.push rw')
                  | false =>
                    rw [no, if_neg Bool.false_ne_true] at h
                    cases e1 with
                    | t d1 => exact h.elim
                    | pl r p =>
                      dsimp only at h
                      have hm : (r, p, u) ∈ lksOf [.pl r p, e2] [u, y] ++ lk := by simp [lksOf]
                      refine ix_own hK S2 (S2.lks _ _ _ hm) v1 ek e3 no fun w pv => ?_
                      have S3 := Sat.unlockL (es := [.pl r p, e2]) (vs := [u, y]) rfl S2
                      refine h w I2 H2 O2 S3.pop (pv.ctx ?_)
                      cases e2 <;> rfl
    exact tE.mono (tA_two key) fun x H1 h1 => tE.mono h1 fun y H2 ⟨x', y', z, h2⟩ => by
      cases z
      exact h2
end
end Lc
end
section
set_option Elab.async false
set_option linter.all false
set_option maxRecDepth 100000
set_option maxHeartbeats 1000000
namespace Lc
open PySem L2

/-! ### slices -/
def cut {α : Type} (xs : List α) (lo hi : Option Int) : List α := (xs.drop (HT.sIx xs.length 0 lo)).take (HT.sIx xs.length xs.length hi - HT.sIx xs.length 0 lo)
def slD (lo hi : Option Int) : D → Option D
  | .str s => if s.length ≤ 16777216 then some (.str (cut s lo hi)) else none
  | .nd .lst _ xs => if noOwnL xs then some (.nd .lst .own (cut xs lo hi)) else none
  | .nd .scr _ xs => if noOwnL xs then some (.nd .lst .own (cut xs lo hi)) else none
  | _ => none
def fSl0 : List D → Option D
  | [x] => slD none none x
  | _ => none
def fSlL : List D → Option D
  | [x, .int i] => slD (some i) none x
  | _ => none
def fSlR : List D → Option D
  | [x, .int j] => slD none (some j) x
  | _ => none
def fSlB : List D → Option D
  | [x, .int i, .int j] => slD (some i) (some j) x
  | _ => none
theorem noOwnL_drop : ∀ {xs : List D} (n : Nat), noOwnL xs = true → noOwnL (xs.drop n) = true
  | xs, 0, h => h
  | [], n + 1, h => h
  | x :: xs, n + 1, h => by
    rw [noOwnL, Bool.and_eq_true] at h
    exact noOwnL_drop n h.2
theorem RL.drop {g : Gs} {I B H : Hp} : ∀ {xs : List D} {vs : List V} (n : Nat), RL g I B H xs vs [] → RL g I B H (xs.drop n) (vs.drop n) []
  | xs, vs, 0, h => h
  | [], vs, n + 1, h => by
    rw [RL] at h
    rw [h.1]
    show RL g I B H [] [] []
    rw [RL]
    exact ⟨rfl, rfl⟩
  | x :: xs, vs, n + 1, h => by
    rw [RL] at h
    obtain ⟨v, vr, f1, f2, rfl, e, h1, h2⟩ := h
    obtain ⟨rfl, rfl⟩ := List.append_eq_nil_iff.mp e.symm
    exact RL.drop n h2
theorem RL.take {g : Gs} {I B H : Hp} : ∀ {xs : List D} {vs : List V} (n : Nat), RL g I B H xs vs [] → RL g I B H (xs.take n) (vs.take n) []
  | xs, vs, 0, h => by
    rw [List.take_zero, List.take_zero, RL]
    exact ⟨rfl, rfl⟩
  | [], vs, n + 1, h => by
    rw [RL] at h
    rw [h.1]
    show RL g I B H [] [] []
    rw [RL]
    exact ⟨rfl, rfl⟩
  | x :: xs, vs, n + 1, h => by
    rw [RL] at h
    obtain ⟨v, vr, f1, f2, rfl, e, h1, h2⟩ := h
    obtain ⟨rfl, rfl⟩ := List.append_eq_nil_iff.mp e.symm
    rw [List.take_succ_cons, List.take_succ_cons, RL]
    exact ⟨v, vr.take n, [], [], rfl, rfl, h1, RL.take n h2⟩
theorem RL.cut {g : Gs} {I B H : Hp} {xs : List D} {vs : List V} (lo hi : Option Int) (h : RL g I B H xs vs []) : RL g I B H (Lc.cut xs lo hi) (cutV vs lo hi) [] := by
  unfold Lc.cut cutV
  rw [h.length]
  exact RL.take _ (RL.drop _ h)
def rSlU (K : PySem.W.Frag) : V → Option Int → Option Int → Hp → VK → Prop := fun x lo hi H Q => rSlL K x lo hi H Q ∨ rSlS x lo hi H Q

section
variable {A : Act} {W : Wx} {X : Cx}
theorem sl_ok {I H : Hp} {lo hi : Option Int} {x d : D} {v : V} {Q : VK} (hK : A.g.K = X.K) (ih : leH I H) (bh : leH A.B H) (h : EAt A I H x v) (e : slD lo hi x = some d) (q : ∀ v I' H', Res A I H d v I' H' → Q v H') : rSlU X.K v lo hi H Q := by
  unfold slD at e
  split at e
  · split at e
    · rename_i s hl
      cases e
      rw [h.str]
      refine .inr ⟨_, rfl, by rw [Str.len, sizeLine_eq]; exact hl, ?_⟩
      have : cutS ⟨s.toArray⟩ lo hi = ⟨(cut s lo hi).toArray⟩ := by
        unfold cutS cut
        rw [Str.len]
      rw [this]
      exact q _ _ _ .str
    · cases e
  · split at e
    · rename_i f xs hl
      cases e
      obtain ⟨p, vs, rfl, hp, fp, l⟩ := h.lst ih bh
      exact .inl ⟨p, vs, rfl, .inl (.inl hp), fun u hu => q _ _ _ (.list (RL.cut lo hi (l.leaf hl)) hu)⟩
    · cases e
  · split at e
    · rename_i f xs hl
      cases e
      obtain ⟨p, vs, rfl, hp, fp, l⟩ := h.scr ih bh
      exact .inl ⟨p, vs, rfl, hK ▸ hp, fun u hu => q _ _ _ (.list (RL.cut lo hi (l.leaf hl)) hu)⟩
    · cases e
  · cases e
theorem sl_U : SlR X (rSlU X.K) := SlR.or sl_list sl_str
variable {a b e : Expr} {ma mb me : Ctx → ER} {p2 pos : Pos}
theorem tA_three {mc : Ctx → ER} {σ : St} {H : Hp} {Q : List V → Hp → Prop} (h : tA' A W (eArgs [ma, mb, mc]) σ H Q) : tE A W ma σ H fun x H1 => tE A W mb σ H1 fun y H2 => tE A W mc σ H2 fun z H3 => Q [x, y, z] H3 :=
  tE.mono (tA_cons _ _ _ h) fun x H1 h1 => tE.mono (tA_cons _ _ _ h1) fun y H2 h2 => tE.mono (tA_cons _ _ _ h2) fun z H3 h3 => tA_nil (A := A) (W := W) σ H3 _ h3
theorem Paired.three {α β : Type} {F : α → β → Prop} {a b c : α} {ys : List β} (h : Paired F [a, b, c] ys) : ∃ x y z, ys = [x, y, z] ∧ F a x ∧ F b y ∧ F c z := by
  cases h with
  | cons r t =>
    obtain ⟨y, z, rfl, h1, h2⟩ := Paired.two t
    exact ⟨_, _, _, rfl, r, h1, h2⟩
theorem os_sl0 (hK : A.g.K = X.K) : OpS A fSl0 (fun vs H Q => ∃ x, vs = [x] ∧ rSlU X.K x none none H Q) := fun I H ds vs Q d ih bh P e q => by
  unfold fSl0 at e
  split at e
  · obtain ⟨x, rfl, h1⟩ := Paired.one P
    exact ⟨_, rfl, sl_ok hK ih bh h1 e q⟩
  · cases e
theorem os_slL (hK : A.g.K = X.K) : OpS A fSlL (fun vs H Q => ∃ x i, vs = [x, .int i] ∧ rSlU X.K x (some i) none H Q) := fun I H ds vs Q d ih bh P e q => by
  unfold fSlL at e
  split at e
  · obtain ⟨x, y, rfl, h1, h2⟩ := Paired.two P
    rw [h2.int]
    exact ⟨_, _, rfl, sl_ok hK ih bh h1 e q⟩
  · cases e
theorem os_slR (hK : A.g.K = X.K) : OpS A fSlR (fun vs H Q => ∃ x i, vs = [x, .int i] ∧ rSlU X.K x none (some i) H Q) := fun I H ds vs Q d ih bh P e q => by
  unfold fSlR at e
  split at e
  · obtain ⟨x, y, rfl, h1, h2⟩ := Paired.two P
    rw [h2.int]
    exact ⟨_, _, rfl, sl_ok hK ih bh h1 e q⟩
  · cases e
theorem os_slB (hK : A.g.K = X.K) : OpS A fSlB (fun vs H Q => ∃ x i j, vs = [x, .int i, .int j] ∧ rSlU X.K x (some i) (some j) H Q) := fun I H ds vs Q d ih bh P e q => by
  unfold fSlB at e
  split at e
  · obtain ⟨x, y, z, rfl, h1, h2, h3⟩ := Paired.three P
    rw [h2.int, h3.int]
    exact ⟨_, _, _, rfl, sl_ok hK ih bh h1 e q⟩
  · cases e
theorem PE_sl0 (hK : A.g.K = X.K) (he : PE X e (tE A W me)) : PE X (.Subscript e (.Slice none none none p2) pos) (tE A W (eOp fSl0 [me])) := PE.imp (pe_slice sl_U he po_none po_none) fun σ H Q h =>
  tE.mono (tA_one (tE_op (os_sl0 hK) σ H Q h)) fun x H1 ⟨_, z, h1⟩ => by cases z; exact h1
theorem PE_slL (hK : A.g.K = X.K) (he : PE X e (tE A W me)) (ha : PE X a (tE A W ma)) : PE X (.Subscript e (.Slice (some a) none none p2) pos) (tE A W (eOp fSlL [me, ma])) := PE.imp (pe_slice sl_U he (po_some ha) po_none) fun σ H Q h =>
  tE.mono (tA_two (tE_op (os_slL hK) σ H Q h)) fun x H1 h1 => tE.mono h1 fun y H2 ⟨_, i, z, h2⟩ => by cases z; exact ⟨i, rfl, h2⟩
theorem PE_slR (hK : A.g.K = X.K) (he : PE X e (tE A W me)) (hb : PE X b (tE A W mb)) : PE X (.Subscript e (.Slice none (some b) none p2) pos) (tE A W (eOp fSlR [me, mb])) := PE.imp (pe_slice sl_U he po_none (po_some hb)) fun σ H Q h =>
  tE.mono (tA_two (tE_op (os_slR hK) σ H Q h)) fun x H1 h1 => tE.mono h1 fun y H2 ⟨_, i, z, h2⟩ => by cases z; exact ⟨i, rfl, h2⟩
def eInt (m : Ctx → ER) : Ctx → ER := fun c => match m c with
  | .ok (.t (.int i)) c' => .ok (.t (.int i)) c'
  | .exc k n x c' => .exc k n x c'
  | _ => .bad
theorem tE_int {m : Ctx → ER} {σ : St} {H : Hp} {Q : VK} (h : tE A W (eInt m) σ H Q) : tE A W m σ H fun y H' => ∃ i, y = .int i ∧ Q y H' := by
  obtain ⟨I, c, ts, O, lk, S, h⟩ := h
  refine ⟨I, c, ts, O, lk, S, ?_⟩
  rw [eInt] at h
  cases e : m c with
  | bad => rw [e] at h; exact h.elim
  | exc k n x c1 => rw [e] at h; exact h
  | ok ev c1 =>
    rw [e] at h
    cases ev with
    | pl r p => exact h.elim
    | t d =>
      cases d with
      | int i =>
        intro v I1 H1 O1 S1
        exact ⟨i, int_of S1.last, h v I1 H1 O1 S1⟩
      | _ => exact h.elim
theorem PE_slB (hK : A.g.K = X.K) (he : PE X e (tE A W me)) (ha : PE X a (tE A W ma)) (hb : PE X b (tE A W mb)) : PE X (.Subscript e (.Slice (some a) (some b) none p2) pos) (tE A W (eOp fSlB [me, eInt ma, mb])) := PE.imp (pe_slice sl_U he (po_some ha) (po_some hb)) fun σ H Q h =>
  tE.mono (tA_three (tE_op (os_slB hK) σ H Q h)) fun x H1 h1 => tE.mono (tE_int h1) fun y H2 ⟨i, ey, h2⟩ => ⟨i, ey, tE.mono h2 fun w H3 h3 => by
    obtain ⟨_, i, j, z, h3⟩ := h3
    cases z
    cases ey
    exact ⟨j, rfl, h3⟩⟩

/-! ### [::-1] -/
def tRevU (K : PySem.W.Frag) (te : TE) : TE := fun σ H Q => te σ H fun x H1 => (∃ a xs, x = .ref a ∧ SqL K H1 a xs ∧ ∀ p, H1 p = none → Q (.ref p) (upd H1 p (.lst xs.reverse))) ∨
  ∃ s : List Nat, x = .str ⟨s.toArray⟩ ∧ s.length ≤ 16777216 ∧ Q (.str ⟨s.reverse.toArray⟩) H1
theorem rev_pick (s : List Nat) : (Builtin.Str.strSliceIndices none none (-1) s.length).filterMap (fun i => s.toArray[i]?) = s.reverse := by
  rw [PyProof.Rows.picked_rev, List.filterMap_map]
  have : ∀ k ∈ List.range s.length, ((fun i => s.toArray[i]?) ∘ fun k => s.length - 1 - k) k = some (s.reverse.getD k 0) := fun k hk => by
    have hk : k < s.length := List.mem_range.mp hk
    show s.toArray[s.length - 1 - k]? = _
    rw [List.getElem?_toArray, List.getD_eq_getElem?_getD, List.getElem?_reverse hk]
    have h2 : s.length - 1 - k < s.length := by omega
    rw [List.getElem?_eq_getElem h2]
    rfl
  have key : ∀ {l : List Nat} {f : Nat → Option Nat} {g : Nat → Nat}, (∀ k ∈ l, f k = some (g k)) → l.filterMap f = l.map g := fun {l f g} h => by
    induction l with
    | nil => rfl
    | cons x xs ih =>
      rw [List.filterMap_cons, h x (List.mem_cons_self ..), List.map_cons, ih fun k hk => h k (List.mem_cons_of_mem _ hk)]
  rw [key this]
  refine List.ext_getElem? fun i => ?_
  rw [List.getElem?_map]
  by_cases hi : i < s.length
  · rw [List.getElem?_range hi]
    show some (s.reverse.getD i 0) = _
    rw [List.getD_eq_getElem?_getD]
    have : i < s.reverse.length := by rw [List.length_reverse]; exact hi
    rw [List.getElem?_eq_getElem this]
    rfl
  · rw [List.getElem?_eq_none (by simp; omega), List.getElem?_eq_none (by simp; omega)]
    rfl
theorem pe_revU {e : Expr} {te : TE} {k : Nat} {p1 p2 p3 pos : Pos} (he : PE X e te) : PE X (.Subscript e (.Slice none none (some (.UnaryOp .USub (.Constant (.int 1) k p1) p2)) p3) pos) (tRevU X.K te) := by
  refine ⟨fun pins s σ H Q I h => ?_⟩
  refine PyProof.Rows.Subscript_ (thn (he.run pins s σ H _ I h) fun v s1 ⟨x, H1, I1, rx, q1⟩ => ?_)
  have step : PO X (some (.UnaryOp .USub (.Constant (.int 1) k p1) p2)) (tPart (tUn (rU fun i => .int (-i)) (tC (.int 1)))) := po_some (pe_un un_neg pe_int)
  refine wpAny_Slice (thn (po_none.run pins s1 σ H1 (fun o G => o = none ∧ G = H1) I1 ⟨rfl, rfl⟩) fun vl s2 ⟨l, H2, I2, pl, el, e2⟩ => ?_)
  subst el e2
  refine thn (po_none.run pins s2 σ H2 (fun o G => o = none ∧ G = H2) I2 ⟨rfl, rfl⟩) fun vu s3 ⟨u, H3, I3, pu, eu, e3⟩ => ?_
  subst eu e3
  refine thn (step.run pins s3 σ H3 (fun o G => o = some (-1) ∧ G = H3) I3 ⟨1, rfl, -1, rfl, rfl, rfl⟩) fun vs s4 ⟨o, H4, I4, ps, eo, e4⟩ => ?_
  subst eo e4
  have I5 : Inv X pins σ H4 { s4 with heap := s4.heap.push { cls := .type "slice", data := .fields #[vl, vu, vs] } } := I4.kept (t' := s4.toks) fun b ob q => Heap.get?_push_of_some _ q
  rcases q1 with ⟨a, xs, ex, hx, q⟩ | ⟨z, ex, hz, q⟩
  · subst ex
    cases rx
    obtain ⟨its, r, ht, hz⟩ := I5.list hx
    have hlen := r.length
    refine PyProof.Rows.tail_any (ops := [.ref a, .ref s4.heap.objs.size]) ht.isList.typeIs (PySem.slot_list_getitem.lookup) ?_ (by with_unfolding_all rfl)
    refine wpAny_getItem_list_slice ht.isList (Heap.IsSliceOf.new _ vl vu vs) pl pu ps (by decide) ?_ (by rw [List.size_toArray]; omega)
    rw [PySem.W.krv_pick]
    have nw := I5.hok.fresh (Nat.le_refl _)
    exact ⟨.ref _, _, I5.laid (t' := s4.toks) (o := .lst xs.reverse) (fun b ob q => Heap.get?_push_of_some _ q) (Nat.le_refl _) ⟨by rw [List.length_reverse]; exact hz, _, 0, r.reverse, Heap.get?_push_size _ rfl⟩, rfl, q _ nw⟩
  · subst ex
    obtain ⟨t, rfl⟩ := rx
    refine PyProof.Rows.tail_any (ops := [.str ⟨z.toArray⟩ t, .ref s4.heap.objs.size]) (typeIs_str _ _ _) (F.slot_str_getitem.lookup) ?_ (by with_unfolding_all rfl)
    obtain ⟨l1, rfl, el⟩ := IsPart.raw pl
    obtain ⟨u1, rfl, eu⟩ := IsPart.raw pu
    obtain ⟨t1, rfl, et⟩ := IsPart.raw ps
    obtain ⟨os, hos, hcs, hds⟩ := Heap.IsSliceOf.new s4.heap (partValue l1) (partValue u1) (partValue t1)
    have en : l1 = none := by cases l1 <;> first | rfl | cases el
    have eu' : u1 = none := by cases u1 <;> first | rfl | cases eu
    subst en eu'
    cases t1 with
    | none => cases et
    | some t1 =>
      obtain ⟨n1, t1⟩ := t1
      have en1 : n1 = -1 := by simpa using et
      subst en1
      refine wpAny_getItem_str_slice (l := none) (u := none) (st := some (-1, t1)) ⟨os, hos, hcs, hds⟩ rfl ?_
      have hs : (⟨z.toArray⟩ : Str).length = z.length := Str.len z
      have hp : (Builtin.Str.strSliceIndices none none (-1) (⟨z.toArray⟩ : Str).length).filterMap ((⟨z.toArray⟩ : Str).cps[·]?) = z.reverse := by
        rw [hs]
        exact rev_pick z
      show Made.post (if ((-1 : Int) == 1 && _) = true then Made.val (.str ⟨z.toArray⟩ t)
        else Made.str ⟨((Builtin.Str.strSliceIndices none none (-1) (⟨z.toArray⟩ : Str).length).filterMap ((⟨z.toArray⟩ : Str).cps[·]?)).toArray⟩) (EP X pins σ Q) _
      rw [hp, if_neg (by simp)]
      refine ⟨?_, .str _, _, I5.tok _, ⟨_, rfl⟩, q⟩
      show (⟨z.reverse.toArray⟩ : Str).length ≤ sizeLine
      rw [Str.len, List.length_reverse, sizeLine_eq]
      exact hz
def fRev : List D → Option D
  | [.str s] => if s.length ≤ 16777216 then some (.str s.reverse) else none
  | [.nd .lst _ xs] => if noOwnL xs then some (.nd .lst .own xs.reverse) else none
  | _ => none
theorem RL.rev {g : Gs} {I B H : Hp} : ∀ {xs : List D} {vs : List V}, RL g I B H xs vs [] → RL g I B H xs.reverse vs.reverse []
  | [], vs, h => by
    rw [RL] at h
    rw [h.1]
    show RL g I B H [] [] []
    rw [RL]
    exact ⟨rfl, rfl⟩
  | x :: xs, vs, h => by
    rw [RL] at h
    obtain ⟨v, vr, f1, f2, rfl, e, h1, h2⟩ := h
    obtain ⟨rfl, rfl⟩ := List.append_eq_nil_iff.mp e.symm
    rw [List.reverse_cons, List.reverse_cons]
    refine RL.append (RL.rev h2) ?_
    rw [RL]
    refine ⟨v, [], [], [], rfl, rfl, h1, ?_⟩
    rw [RL]
    exact ⟨rfl, rfl⟩
theorem PE_rev {k : Nat} {p1 p2 p3 pos : Pos} (he : PE X e (tE A W me)) : PE X (.Subscript e (.Slice none none (some (.UnaryOp .USub (.Constant (.int 1) k p1) p2)) p3) pos) (tE A W (eOp fRev [me])) := PE.imp (pe_revU he) fun σ H Q h => by
  have os : OpS A fRev (fun vs H1 Q => ∃ x, vs = [x] ∧ ((∃ a xs, x = .ref a ∧ SqL X.K H1 a xs ∧ ∀ p, H1 p = none → Q (.ref p) (upd H1 p (.lst xs.reverse))) ∨ ∃ s : List Nat, x = .str ⟨s.toArray⟩ ∧ s.length ≤ 16777216 ∧ Q (.str ⟨s.reverse.toArray⟩) H1)) := fun I H ds vs Q d ih bh P e q => by
    unfold fRev at e
    split at e
    · split at e
      · rename_i s hl
        cases e
        obtain ⟨x, rfl, h1⟩ := Paired.one P
        rw [h1.str]
        exact ⟨_, rfl, .inr ⟨s, rfl, hl, q _ _ _ .str⟩⟩
      · cases e
    · split at e
      · rename_i f xs hl
        cases e
        obtain ⟨x, rfl, h1⟩ := Paired.one P
        obtain ⟨p, vs, rfl, hp, fp, l⟩ := h1.lst ih bh
        exact ⟨_, rfl, .inl ⟨p, vs, rfl, .inl (.inl hp), fun u hu => q _ _ _ (.list (RL.rev (l.leaf hl)) hu)⟩⟩
      · cases e
    · cases e
  exact tE.mono (tA_one (tE_op os σ H Q h)) fun x H1 ⟨_, z, h1⟩ => by cases z; exact h1
end
end Lc
end
section
set_option Elab.async false
set_option linter.all false
set_option maxRecDepth 100000
set_option maxHeartbeats 1000000
namespace Lc
open PySem L2

/-- f at the places fn, g elsewhere -/
def sel {α : Type} (fn : List Addr) (f g : Addr → α) : Addr → α := fun a => if a ∈ fn then f a else g a
theorem sel_in {α : Type} {fn : List Addr} {f g : Addr → α} {a : Addr} (h : a ∈ fn) : sel fn f g a = f a := if_pos h
theorem sel_out {α : Type} {fn : List Addr} {f g : Addr → α} {a : Addr} (h : a ∉ fn) : sel fn f g a = g a := if_neg h

/-! ### slots -/
/-- no alias into slot r -/
def dropAl (r : Nat) : List Sl → List Sl
  | [] => []
  | .al r' p :: s => (if r' = r then .no else .al r' p) :: dropAl r s
  | x :: s => x :: dropAl r s
theorem dropAl_len (r : Nat) : ∀ s : List Sl, (dropAl r s).length = s.length
  | [] => rfl
  | .al r' p :: s => by rw [dropAl, List.length_cons, dropAl_len r s]; rfl
  | .no :: s => by rw [dropAl, List.length_cons, dropAl_len r s]; rfl; intros; contradiction
  | .v d :: s => by rw [dropAl, List.length_cons, dropAl_len r s]; rfl; intros; contradiction
theorem dropAl_v {r : Nat} : ∀ {s : List Sl} {i : Nat} {d : D}, (dropAl r s)[i]? = some (.v d) ↔ s[i]? = some (.v d)
  | [], i, d => by rw [dropAl]
  | .al r' p :: s, 0, d => by
    rw [dropAl]
    by_cases h : r' = r
    · rw [if_pos h]; simp
    · rw [if_neg h]
      simp
  | .no :: s, 0, d => by rw [dropAl]; simp; intros; contradiction
  | .v e :: s, 0, d => by rw [dropAl]; simp; intros; contradiction
  | .al r' p :: s, i + 1, d => by rw [dropAl]; simpa using dropAl_v (s := s)
  | .no :: s, i + 1, d => by rw [dropAl]; simpa using dropAl_v (s := s); intros; contradiction
  | .v e :: s, i + 1, d => by rw [dropAl]; simpa using dropAl_v (s := s); intros; contradiction
theorem dropAl_al {r : Nat} : ∀ {s : List Sl} {i r' : Nat} {p : List Nat}, (dropAl r s)[i]? = some (.al r' p) → s[i]? = some (.al r' p) ∧ r' ≠ r
  | [], i, r', p, h => by rw [dropAl] at h; simp at h
  | .al r1 p1 :: s, 0, r', p, h => by
    rw [dropAl] at h
    by_cases e : r1 = r
    · rw [if_pos e] at h; simp at h
    · rw [if_neg e] at h
      have h : r1 = r' ∧ p1 = p := by simpa using h
      obtain ⟨rfl, rfl⟩ := h
      exact ⟨rfl, e⟩
  | .no :: s, 0, r', p, h => by rw [dropAl] at h; simp at h; intros; contradiction
  | .v e :: s, 0, r', p, h => by rw [dropAl] at h; simp at h; intros; contradiction
  | .al r1 p1 :: s, i + 1, r', p, h => by
    rw [dropAl] at h
    exact dropAl_al (s := s) (by simpa using h)
  | .no :: s, i + 1, r', p, h => by
    rw [dropAl] at h
    · exact dropAl_al (s := s) (by simpa using h)
    · intros; contradiction
  | .v e :: s, i + 1, r', p, h => by
    rw [dropAl] at h
    · exact dropAl_al (s := s) (by simpa using h)
    · intros; contradiction

section
variable {A : Act} {W : Wx} {X : Cx} {I H I' H' : Hp} {σ : St} {c : Ctx} {ts xs : List (D × V)} {O O' : Addr → Option Ow} {lk : List (Nat × List Nat × V)}

theorem set_cases {α : Type} {s : List α} {i j : Nat} {x y : α} (h : (s.set i x)[j]? = some y) : (j = i ∧ x = y ∧ i < s.length) ∨ (j ≠ i ∧ s[j]? = some y) := by
  by_cases e : i = j
  · subst e
    by_cases hl : i < s.length
    · rw [List.getElem?_set_self hl] at h
      cases h
      exact .inl ⟨rfl, rfl, hl⟩
    · rw [List.getElem?_eq_none (by simpa using hl)] at h
      cases h
  · rw [List.getElem?_set_ne e] at h
    exact .inr ⟨Ne.symm e, h⟩

/-- the labels that are in use, but slot i's -/
def Live (i n : Nat) : Ow → Prop
  | .inl j => j ≠ i
  | .inr j => j < n
/-- slot i gets a new tree (or none); the value at σ too -/
theorem Sat.setSlot {i : Nat} {sl : Sl} {σ' : St} (S : Sat A I H σ c ts O lk) (nk : i ∉ c.kr) (hI : leH I I') (hIH : leH I' H') (hB : leH A.B H') (hib : ∀ a o, I' a = some o → I a = some o ∨ A.B a = none)
    (hk : ∀ a w, O a = some w → Live i ts.length w → H' a = H a) (hO : ∀ a w, O a = some w → Live i ts.length w → O' a = some w) (hfr : ∀ a w, O' a = some w → I' a = none ∧ A.B a = none ∧ ∃ o, H' a = some o)
    (hl : σ'.length = σ.length) (hσ : ∀ j, j ≠ i → σ'[j]? = σ[j]?) (hal : ∀ r p, sl ≠ .al r p) (hv : ∀ d, sl = .v d → ∃ v, σ'[i]? = some (some v) ∧ RO A I' H' O' (.inl i) d v) :
    Sat A I' H' σ' { c with s := (dropAl i c.s).set i sl } ts O' lk := by
  have pvk : ∀ {r : Nat} {p : List Nat} {v : V}, r ≠ i → PV A I H σ c O r p v → PV A I' H' σ' { c with s := (dropAl i c.s).set i sl } O' r p v := fun {r p v} hr pv => by
    obtain ⟨d, v0, d', e1, e2, e3, e4, va⟩ := pv
    refine ⟨d, v0, d', ?_, (hσ r hr).trans e2, e3, e4, va.keep hI (fun a ha => hk a (.inl r) ha hr) fun a ha => hO a (.inl r) ha hr⟩
    show ((dropAl i c.s).set i sl)[r]? = _
    rw [List.getElem?_set_ne (Ne.symm hr)]
    exact dropAl_v.mpr e1
  refine ⟨hIH, hB, S.i0.trans hI, fun a o e => ?_, ?_, fun j d e => ?_, fun j r p e => ?_, fun j d v e => ?_, fun r p v e => ?_, S.lke, hfr⟩
  · rcases hib a o e with h | h
    · exact S.ib a o h
    · exact .inr h
  · show σ'.length = ((dropAl i c.s).set i sl).length
    rw [List.length_set, dropAl_len, hl, S.len]
  · rcases set_cases (show ((dropAl i c.s).set i sl)[j]? = _ from e) with ⟨rfl, z, _⟩ | ⟨hj, e⟩
    · exact hv d z
    · obtain ⟨v, e1, h⟩ := S.vals j d (dropAl_v.mp e)
      exact ⟨v, (hσ j hj).trans e1, h.keep hI (fun a ha => hk a _ ha hj) fun a ha => hO a _ ha hj⟩
  · rcases set_cases (show ((dropAl i c.s).set i sl)[j]? = _ from e) with ⟨_, z, _⟩ | ⟨hj, e⟩
    · exact absurd z (hal r p)
    · obtain ⟨e, hr⟩ := dropAl_al e
      obtain ⟨w, e1, h⟩ := S.als j r p e
      exact ⟨w, (hσ j hj).trans e1, pvk hr h⟩
  · have hj : j < ts.length := (List.getElem?_eq_some_iff.mp e).1
    exact (S.tmps j d v e).keep hI (fun a ha => hk a _ ha hj) fun a ha => hO a _ ha hj
  · refine pvk (fun z => ?_) (S.lks r p v e)
    apply nk
    rw [← S.lkr]
    exact List.mem_map.mpr ⟨(r, p, v), e, z⟩

/-- the last temporary goes to slot i -/
theorem Sat.store {i : Nat} {d : D} {v : V} (S : Sat A I H σ c (ts ++ [(d, v)]) O lk) (nk : i ∉ c.kr) (hi : i < c.s.length) : ∃ O', Sat A I H (σ.set i (some v)) { c with s := (dropAl i c.s).set i (.v d) } ts O' lk := by
  obtain ⟨fp, rr, nd, l⟩ := S.last
  refine ⟨fun a => if a ∈ fp then some (.inl i) else O a, S.pop.setSlot nk (leH.refl _) S.ih S.bh (fun _ _ e => .inl e) (fun _ _ _ _ => rfl) (fun a w e hw => ?_) (fun a w e => ?_) (List.length_set ..) (fun j hj => List.getElem?_set_ne (Ne.symm hj)) (fun _ _ z => by cases z) fun d' z => ?_⟩
  · by_cases ha : a ∈ fp
    · have z := l a ha
      rw [e] at z
      cases z
      exact absurd hw (Nat.lt_irrefl _)
    · rw [if_neg ha, e]
  · by_cases ha : a ∈ fp
    · exact S.fr a _ (l a ha)
    · rw [if_neg ha] at e
      exact S.fr a w e
  · cases z
    refine ⟨v, List.getElem?_set_self (by rw [S.len]; exact hi), fp, rr, nd, fun a ha => if_pos ha⟩
/-- slot i is forgotten -/
theorem Sat.forget {i : Nat} (S : Sat A I H σ c ts O lk) (nk : i ∉ c.kr) : Sat A I H σ { c with s := (dropAl i c.s).set i .no } ts O lk :=
  S.setSlot nk (leH.refl _) S.ih S.bh (fun _ _ e => .inl e) (fun _ _ _ _ => rfl) (fun _ _ e _ => e) S.fr rfl (fun _ _ => rfl) (fun _ _ z => by cases z) fun d z => by cases z

/-! ### freezing a place, moving a slot's tree out -/
def eFz (m : Ctx → ER) : Ctx → ER := fun c => match m c with
  | .ok (.t d) c1 => .ok (.t d) c1
  | .ok (.pl r p) c1 => match c1.s[r]? with
    | some (.v d0) => match getP d0 p with
      | some d => if noBor d && !(c1.kr.contains r) then .ok (.t (frz d)) { c1 with s := (dropAl r c1.s).set r (.v (setP d0 p (frz d))) } else .bad
      | none => .bad
    | _ => .bad
  | .exc k n x c1 => .exc k n x c1
  | .bad => .bad
theorem PE_fz {e : Expr} {m : Ctx → ER} (h : PE X e (tE A W m)) : PE X e (tE A W (eFz m)) := PE.imp h fun σ H Q ⟨I, c, ts, O, lk, S, h⟩ => by
  refine ⟨I, c, ts, O, lk, S, ?_⟩
  rw [eFz] at h
  cases e : m c with
  | bad => rw [e] at h; exact h
  | exc k n x c1 => rw [e] at h; exact h
  | ok ev c1 =>
    rw [e] at h
    cases ev with
    | t d => exact h
    | pl r p =>
      intro v I1 H1 O1 S1 pv
      obtain ⟨d0, v0, d, fa, fn, fb, q1, q2, q3, rr, nd, ow, rn, ne, up⟩ := S1.at pv
      dsimp only at h
      rw [q1] at h
      dsimp only at h
      rw [q3] at h
      dsimp only at h
      cases hb : (noBor d && !(c1.kr.contains r)) with
      | false => rw [hb] at h; exact h.elim
      | true =>
        rw [hb, if_pos rfl] at h
        simp only [Bool.and_eq_true, Bool.not_eq_true', List.contains_eq_mem, decide_eq_false_iff_not] at hb
        obtain ⟨nb, nk⟩ := hb
        have own : ∀ a ∈ fn, O1 a = some (.inl r) := fun a ha => ow a (by simp [ha])
        have hI : leH I1 (sel fn H1 I1) := fun a o e => by
          have : a ∉ fn := fun ha => by
            have := (S1.fr a _ (own a ha)).1
            rw [e] at this
            cases this
          rw [sel_out this]
          exact e
        have rf : R A.g (sel fn H1 I1) A.B H1 (frz d) v [] := R.frz d rn nb hI fun a ha => sel_in ha
        have dis : ∀ a ∈ fa ++ fb, a ∉ fn := fun a ha hn => by
          rcases List.mem_append.mp ha with ha | ha
          · have := List.nodup_append.mp nd
            have h2 := (List.nodup_append.mp this.1).2.2
            exact h2 a ha a hn rfl
          · have := List.nodup_append.mp nd
            exact this.2.2 a (by simp [hn]) a ha rfl
        have S2 := S1.setSlot (i := r) (sl := .v (setP d0 p (frz d))) (σ' := σ) (I' := sel fn H1 I1) (H' := H1) (O' := sel fn (fun _ => none) O1) nk hI (fun a o e => by
            by_cases ha : a ∈ fn
            · rw [sel_in ha] at e
              exact e
            · rw [sel_out ha] at e
              exact S1.ih a o e) S1.bh (fun a o e => by
            by_cases ha : a ∈ fn
            · exact .inr (S1.fr a _ (own a ha)).2.1
            · rw [sel_out ha] at e
              exact .inl e) (fun _ _ _ _ => rfl) (fun a w e hw => by
            have : a ∉ fn := fun ha => by
              rw [own a ha] at e
              cases e
              exact hw rfl
            rw [sel_out this]
            exact e) (fun a w e => by
            by_cases ha : a ∈ fn
            · rw [sel_in ha] at e
              cases e
            · rw [sel_out ha] at e
              obtain ⟨z1, z2, z3⟩ := S1.fr a w e
              exact ⟨by rw [sel_out ha]; exact z1, z2, z3⟩) rfl (fun _ _ => rfl) (fun _ _ z => by cases z) (fun d' z => by
            cases z
            have u := up hI rf fun a ha => rfl
            refine ⟨v0, q2, fa ++ [] ++ fb, u, ?_, fun a ha => ?_⟩
            · rw [List.append_nil]
              have h1 := List.nodup_append.mp nd
              have h2 := List.nodup_append.mp h1.1
              refine List.nodup_append.mpr ⟨h2.1, h1.2.1, fun a ha b hb => h1.2.2 a (by simp [ha]) b hb⟩
            · have ha : a ∈ fa ++ fb := by simpa using ha
              rw [sel_out (dis a ha)]
              refine ow a ?_
              rcases List.mem_append.mp ha with ha | ha <;> simp [ha])
        exact h v _ _ _ (S2.push rf)
/-- the slot's tree is taken out (the name is not read again) -/
def eMv (i : Nat) : Ctx → ER := fun c => match c.s[i]? with
  | some (.v d) => if Lc.noOwn d then .ok (.t d) c else if c.kr.contains i then .bad else .ok (.t d) { c with s := (dropAl i c.s).set i .no }
  | _ => .bad
theorem PE_mv {i : Nat} {x : Str} {pos : Pos} (h : PE X (.Name x pos) (tVar i)) : PE X (.Name x pos) (tE A W (eMv i)) := PE.imp h fun σ H Q ⟨I, c, ts, O, lk, S, h⟩ => by
  rw [eMv] at h
  cases e : c.s[i]? with
  | none => rw [e] at h; exact h.elim
  | some z =>
    rw [e] at h
    cases z with
    | no => exact h.elim
    | al r p => exact h.elim
    | v d =>
      obtain ⟨v, e1, ro⟩ := S.vals i d e
      refine ⟨v, e1, ?_⟩
      dsimp only at h
      cases n : Lc.noOwn d with
      | true =>
        rw [n] at h
        exact h v I H O (S.push (ro.nil n))
      | false =>
        rw [n, if_neg Bool.false_ne_true] at h
        cases nk : c.kr.contains i with
        | true => rw [nk] at h; exact h.elim
        | false =>
          rw [nk, if_neg Bool.false_ne_true] at h
          have nk : i ∉ c.kr := by simpa using nk
          obtain ⟨fp, rr, nd, l⟩ := ro
          -- its cells go to the new temporary
          have S3 : Sat A I H σ { c with s := (dropAl i c.s).set i .no } ts (sel fp (fun _ => some (.inr ts.length)) O) lk := S.setSlot nk (leH.refl _) S.ih S.bh (fun _ _ e => .inl e) (fun _ _ _ _ => rfl) (fun a w e hw => by
              rw [sel_out fun ha => ?_, e]
              rw [l a ha] at e
              cases e
              exact hw rfl) (fun a w e => by
              by_cases ha : a ∈ fp
              · exact S.fr a _ (l a ha)
              · rw [sel_out ha] at e
                exact S.fr a w e) rfl (fun _ _ => rfl) (fun _ _ z => by cases z) fun d z => by cases z
          refine h v I H (sel fp (fun _ => some (.inr ts.length)) O) ⟨S3.ih, S3.bh, S3.i0, S3.ib, S3.len, S3.vals, S3.als, fun j d' v' e => ?_, S3.lks, S3.lke, S3.fr⟩
          by_cases hj : j < ts.length
          · rw [List.getElem?_append_left hj] at e
            exact S3.tmps j d' v' e
          · rw [List.getElem?_append_right (Nat.le_of_not_lt hj)] at e
            have z : j - ts.length = 0 := by
              have := (List.getElem?_eq_some_iff.mp e).1
              simp at this
              omega
            have z2 : j = ts.length := by omega
            rw [z] at e
            cases e
            subst z2
            exact ⟨fp, rr, nd, fun a ha => sel_in ha⟩

/-! ### displays -/
def allT : List EV → Option (List D)
  | [] => some []
  | .t d :: es => match allT es with
    | some ds => some (d :: ds)
    | none => none
  | .pl _ _ :: _ => none
theorem allT_unlock : ∀ {es : List EV} {ds : List D}, allT es = some ds → unlocks es c = c
  | [], _, _ => rfl
  | .t d :: es, ds, h => by
    rw [allT] at h
    cases e : allT es with
    | none => rw [e] at h; cases h
    | some ds' =>
      rw [unlocks, allT_unlock e]
      rfl
  | .pl _ _ :: es, ds, h => by cases h
theorem allT_lks : ∀ {es : List EV} {ds : List D} {vs : List V}, allT es = some ds → lksOf es vs = []
  | [], _, _, _ => by rw [lksOf] <;> intros <;> contradiction
  | .t d :: es, ds, vs, h => by
    rw [allT] at h
    cases e : allT es with
    | none => rw [e] at h; cases h
    | some ds' =>
      cases vs with
      | nil => rw [lksOf] <;> intros <;> contradiction
      | cons v vs => rw [lksOf, allT_lks e]
  | .pl _ _ :: es, ds, vs, h => by cases h
/-- the last temporaries as a list of trees -/
theorem tmps_RL : ∀ {es : List EV} {vs : List V} {ds : List D} {ts : List (D × V)}, vs.length = es.length → allT es = some ds → Sat A I H σ c (ts ++ tmpsOf es vs) O lk →
    ∃ fp, RL A.g I A.B H ds vs fp ∧ fp.Nodup ∧ (∀ a ∈ fp, ∃ j, O a = some (.inr j) ∧ ts.length ≤ j)
  | [], vs, ds, ts, hl, e, S => by
    rw [allT] at e
    cases e
    cases vs with
    | nil => exact ⟨[], by rw [RL]; exact ⟨rfl, rfl⟩, List.nodup_nil, fun a ha => by cases ha⟩
    | cons _ _ => cases hl
  | .pl _ _ :: es, _, _, _, _, e, _ => by cases e
  | .t d :: es, [], ds, ts, hl, e, S => by cases hl
  | .t d :: es, v :: vs, ds, ts, hl, e, S => by
    have hl2 : vs.length = es.length := by simpa using hl
    rw [allT] at e
    cases e1 : allT es with
    | none => rw [e1] at e; cases e
    | some ds' =>
      rw [e1] at e
      cases e
      have et : ts ++ tmpsOf (.t d :: es) (v :: vs) = ts ++ [(d, v)] ++ tmpsOf es vs := by
        rw [tmpsOf, List.append_assoc, List.singleton_append]
      obtain ⟨f1, r1, n1, l1⟩ := S.tmps ts.length d v (by rw [et]; simp)
      obtain ⟨f2, r2, n2, l2⟩ := tmps_RL (es := es) (vs := vs) (ts := ts ++ [(d, v)]) hl2 e1 (by rw [← et]; exact S)
      refine ⟨f1 ++ f2, by rw [RL]; exact ⟨v, vs, f1, f2, rfl, rfl, r1, r2⟩, List.nodup_append.mpr ⟨n1, n2, fun a ha b hb z => ?_⟩, fun a ha => ?_⟩
      · subst z
        obtain ⟨j, e2, hj⟩ := l2 a hb
        rw [l1 a ha] at e2
        cases e2
        simp at hj
        omega
      · rcases List.mem_append.mp ha with ha | ha
        · exact ⟨_, l1 a ha, Nat.le_refl _⟩
        · obtain ⟨j, e2, hj⟩ := l2 a ha
          refine ⟨j, e2, ?_⟩
          simp at hj
          omega
def eLst (ms : List (Ctx → ER)) : Ctx → ER := fun c => match eArgs ms c with
  | .ok es c2 => match allT es with
    | some ds => if ds.length ≤ 16777216 then .ok (.t (.nd .lst .own ds)) c2 else .bad
    | none => .bad
  | .exc k n x c2 => .exc k n x c2
  | .bad => .bad
def eTup (ms : List (Ctx → ER)) : Ctx → ER := fun c => match eArgs ms c with
  | .ok es c2 => match allT es with
    | some ds => if ds.length ≤ 16777216 then .ok (.t (.tup ds)) c2 else .bad
    | none => .bad
  | .exc k n x c2 => .exc k n x c2
  | .bad => .bad
theorem allT_len : ∀ {es : List EV} {ds : List D}, allT es = some ds → ds.length = es.length
  | [], _, h => by rw [allT] at h; cases h; rfl
  | .t d :: es, ds, h => by
    rw [allT] at h
    cases e : allT es with
    | none => rw [e] at h; cases h
    | some ds' =>
      rw [e] at h
      cases h
      rw [List.length_cons, List.length_cons, allT_len e]
  | .pl _ _ :: es, ds, h => by cases h
theorem PE_lst {es : List Expr} {ms : List (Ctx → ER)} {pos : Pos} (h : PA X es (tA' A W (eArgs ms))) : PE X (.List es pos) (tE A W (eLst ms)) := PE.imp (pe_lst h) fun σ H Q ⟨I, c, ts, O, lk, S, h⟩ => by
  refine ⟨I, c, ts, O, lk, S, ?_⟩
  rw [eLst] at h
  cases e : eArgs ms c with
  | bad => rw [e] at h; exact h
  | exc k n x c1 => rw [e] at h; exact h
  | ok es c1 =>
    rw [e] at h
    dsimp only at h
    intro vs I1 H1 O1 hl S1
    cases e1 : allT es with
    | none => rw [e1] at h; exact h.elim
    | some ds =>
      rw [e1] at h
      dsimp only at h
      by_cases hz : ds.length ≤ 16777216
      · rw [if_pos hz] at h
        refine ⟨by rw [hl, ← allT_len e1, sizeLine_eq]; exact hz, fun p np => ?_⟩
        have S2 := Sat.unlockL hl S1
        rw [allT_unlock e1] at S2
        obtain ⟨fp, rl, nd, l⟩ := tmps_RL hl e1 S2
        obtain ⟨n1, n2, n3⟩ := S2.new np
        have nf : p ∉ fp := fun hp => by
          obtain ⟨o, z⟩ := RL.there ds rl p hp
          rw [np] at z
          cases z
        have S3 := S2.alloc (o := .lst vs) np
        obtain ⟨O4, S4⟩ := S3.join (ts := ts) (d := .nd .lst .own ds) (v := .ref p) (fp := p :: fp) (by
            rw [R]
            exact ⟨p, vs, fp, rfl, rfl, upd_same, RL.keep ds rl (leH.refl _) (leH.refl _) fun a ha => upd_ne fun z => nf (z ▸ ha)⟩) (List.nodup_cons.mpr ⟨nf, nd⟩) fun a ha => by
            rcases List.mem_cons.mp ha with rfl | ha
            · exact .inr ⟨n1, n2, n3, _, upd_same⟩
            · exact .inl (l a ha)
        exact h (.ref p) _ _ O4 S4
      · rw [if_neg hz] at h
        exact h.elim
theorem PE_tup {es : List Expr} {ms : List (Ctx → ER)} {x1} {pos : Pos} (h : PA X es (tA' A W (eArgs ms))) : PE X (.Tuple es x1 pos) (tE A W (eTup ms)) := PE.imp (pe_tup h) fun σ H Q ⟨I, c, ts, O, lk, S, h⟩ => by
  refine ⟨I, c, ts, O, lk, S, ?_⟩
  rw [eTup] at h
  cases e : eArgs ms c with
  | bad => rw [e] at h; exact h
  | exc k n x c1 => rw [e] at h; exact h
  | ok es c1 =>
    rw [e] at h
    dsimp only at h
    intro vs I1 H1 O1 hl S1
    cases e1 : allT es with
    | none => rw [e1] at h; exact h.elim
    | some ds =>
      rw [e1] at h
      dsimp only at h
      by_cases hz : ds.length ≤ 16777216
      · rw [if_pos hz] at h
        refine ⟨by rw [hl, ← allT_len e1, sizeLine_eq]; exact hz, fun p np => ?_⟩
        have S2 := Sat.unlockL hl S1
        rw [allT_unlock e1] at S2
        obtain ⟨fp, rl, nd, l⟩ := tmps_RL hl e1 S2
        obtain ⟨n1, n2, n3⟩ := S2.new np
        have nf : p ∉ fp := fun hp => by
          obtain ⟨o, z⟩ := RL.there ds rl p hp
          rw [np] at z
          cases z
        have S3 := S2.allocI (o := .tup vs) np
        obtain ⟨O4, S4⟩ := S3.join (ts := ts) (d := .tup ds) (v := .ref p) (fp := fp) (by
            rw [R]
            exact ⟨p, vs, rfl, .inl upd_same, RL.keep ds rl (leH.upd n2) (leH.refl _) fun a ha => upd_ne fun z => nf (z ▸ ha)⟩) nd fun a ha => .inl (l a ha)
        exact h (.ref p) _ _ O4 S4
      · rw [if_neg hz] at h
        exact h.elim
end
end Lc
end
section
set_option Elab.async false
set_option linter.all false
set_option maxRecDepth 100000
set_option maxHeartbeats 1000000
namespace Lc
open PySem L2

/-! ### what is walked -/
structure Walk (A : Act) (Ib : Hp) (J : It) (xs : List D) : Prop where
  no : ∀ (i : Nat) (x : D), xs[i]? = some x → Lc.noOwn x = true
  go : ∀ (i : Nat) (x : D) (I H : Hp), xs[i]? = some x → leH Ib I → leH I H → leH A.B H → J.go i H ∧ ∀ v H', J.yld i H v H' → ∃ I', Res A I H x v I' H'
  stop : ∀ I H : Hp, leH Ib I → leH I H → leH A.B H → J.stop xs.length H
inductive IR where
  | ok (xs : List D) (c : Ctx)
  | exc (k : Nat) (n : Str) (x : D) (c : Ctx)
  | bad
def tI (A : Act) (W : Wx) (m : Ctx → IR) : TI := fun σ H R => ∃ I c ts O lk, Sat A I H σ c ts O lk ∧ match m c with
  | .ok xs c' => ∀ J I' H' O', Sat A I' H' σ c' ts O' lk → Walk A I' J xs → R J H'
  | .exc k n x c' => XP A W σ ts lk k n x c'
  | .bad => False
theorem PI.imp {X : Cx} {tg e : Expr} {t t' : TI} (h : PI X tg e t) (q : ∀ σ H R, t' σ H R → t σ H R) : PI X tg e t' := ⟨fun pins s σ H R I x => h.run pins s σ H R I (q σ H R x)⟩
def itemsOf : D → Option (List D)
  | .str s => some (s.map fun c => .str [c])
  | .tup xs => if noOwnL xs then some xs else none
  | .nd .lst .frz xs => if noOwnL xs then some xs else none
  | .nd .lst .bor xs => if noOwnL xs then some xs else none
  | .nd .scr .bor xs => if noOwnL xs then some xs else none
  | _ => none
def itE (m : Ctx → ER) : Ctx → IR := fun c => match m c with
  | .ok (.t d) c' => match itemsOf d with
    | some xs => .ok xs c'
    | none => .bad
  | .exc k n x c' => .exc k n x c'
  | _ => .bad
theorem noOwnL_get : ∀ {xs : List D} {i : Nat} {x : D}, noOwnL xs = true → xs[i]? = some x → Lc.noOwn x = true
  | [], _, _, _, h => by simp at h
  | y :: ys, 0, x, n, h => by
    rw [noOwnL, Bool.and_eq_true] at n
    have h : y = x := by simpa using h
    rw [← h]
    exact n.1
  | y :: ys, i + 1, x, n, h => by
    rw [noOwnL, Bool.and_eq_true] at n
    exact noOwnL_get n.2 (by simpa using h)

section
variable {A : Act} {W : Wx} {X : Cx} {I H I' H' : Hp} {σ : St} {c : Ctx} {ts : List (D × V)} {O O' : Addr → Option Ow} {lk : List (Nat × List Nat × V)}
theorem walk_list {K : PySem.W.Frag} {a : Addr} {xs : List D} {vs : List V} (hs : ∀ I H : Hp, leH I' I → leH I H → leH A.B H → SqL K H a vs) (l : RL A.g I' A.B H' xs vs []) (n : noOwnL xs = true) : Walk A I' (Itl K a) xs where
  no := fun i x e => noOwnL_get n e
  go := fun i x I H e hi ih bh => by
    obtain ⟨v, fn, e1, r⟩ := RL.get l e
    have r := R.keep (H' := H) x r hi (leH.refl _) fun a ha => by
      rw [R.noOwn x r (noOwnL_get n e)] at ha
      cases ha
    have := R.noOwn x r (noOwnL_get n e)
    subst this
    refine ⟨⟨vs, v, hs I H hi ih bh, e1⟩, fun w G y => ?_⟩
    obtain ⟨rfl, y⟩ := y
    have := y vs (hs I G hi ih bh)
    rw [e1] at this
    cases this
    exact ⟨I, .leaf r⟩
  stop := fun I H hi ih bh => ⟨vs, hs I H hi ih bh, by rw [l.length]; exact Nat.le_refl _⟩
theorem walk_tup {K : PySem.W.Frag} {a : Addr} {xs : List D} {vs : List V} (hs : ∀ I H : Hp, leH I' I → leH I H → leH A.B H → SqT K H a vs) (l : RL A.g I' A.B H' xs vs []) (n : noOwnL xs = true) : Walk A I' (Itt K a) xs where
  no := fun i x e => noOwnL_get n e
  go := fun i x I H e hi ih bh => by
    obtain ⟨v, fn, e1, r⟩ := RL.get l e
    have r := R.keep (H' := H) x r hi (leH.refl _) fun a ha => by
      rw [R.noOwn x r (noOwnL_get n e)] at ha
      cases ha
    have := R.noOwn x r (noOwnL_get n e)
    subst this
    refine ⟨⟨vs, v, hs I H hi ih bh, e1⟩, fun w G y => ?_⟩
    obtain ⟨rfl, y⟩ := y
    have := y vs (hs I G hi ih bh)
    rw [e1] at this
    cases this
    exact ⟨I, .leaf r⟩
  stop := fun I H hi ih bh => ⟨vs, hs I H hi ih bh, by rw [l.length]; exact Nat.le_refl _⟩
theorem walk_str {s : List Nat} : Walk A I' (Its ⟨s.toArray⟩) (s.map fun c => .str [c]) where
  no := fun i x e => by
    rw [List.getElem?_map] at e
    obtain ⟨c, _, rfl⟩ := Option.map_eq_some_iff.mp e
    rw [Lc.noOwn]
  go := fun i x I H e hi ih bh => by
    rw [List.getElem?_map] at e
    obtain ⟨c, e1, rfl⟩ := Option.map_eq_some_iff.mp e
    have hl := (List.getElem?_eq_some_iff.mp e1).1
    refine ⟨by show i < s.toArray.size; simpa using hl, fun w G y => ?_⟩
    obtain ⟨rfl, c', e2, rfl⟩ := y
    have e2 : s[i]? = some c' := by simpa using e2
    rw [e1] at e2
    cases e2
    exact ⟨I, .str⟩
  stop := fun I H hi ih bh => by show s.toArray.size ≤ _; simp
theorem walk_range {lo : Int} {n : Nat} : Walk A I' (Itr lo n) ((List.range n).map fun (k : Nat) => .int (lo + k)) where
  no := fun i x e => by
    rw [List.getElem?_map] at e
    obtain ⟨c, _, rfl⟩ := Option.map_eq_some_iff.mp e
    rw [Lc.noOwn]
  go := fun i x I H e hi ih bh => by
    rw [List.getElem?_map] at e
    obtain ⟨c, e1, rfl⟩ := Option.map_eq_some_iff.mp e
    obtain ⟨hl, e1⟩ := List.getElem?_eq_some_iff.mp e1
    rw [List.getElem_range] at e1
    subst e1
    have hl : i < n := by simpa using hl
    refine ⟨hl, fun w G y => ?_⟩
    obtain ⟨rfl, rfl⟩ := y
    exact ⟨I, .int⟩
  stop := fun I H hi ih bh => by show n ≤ _; simp
theorem walk_rangeC {lo st : Int} {n : Nat} : Walk A I' (Itc lo st n) ((List.range n).map fun (k : Nat) => .int (lo + k * st)) where
  no := fun i x e => by
    rw [List.getElem?_map] at e
    obtain ⟨c, _, rfl⟩ := Option.map_eq_some_iff.mp e
    rw [Lc.noOwn]
  go := fun i x I H e hi ih bh => by
    rw [List.getElem?_map] at e
    obtain ⟨c, e1, rfl⟩ := Option.map_eq_some_iff.mp e
    obtain ⟨hl, e1⟩ := List.getElem?_eq_some_iff.mp e1
    rw [List.getElem_range] at e1
    subst e1
    have hl : i < n := by simpa using hl
    refine ⟨hl, fun w G y => ?_⟩
    obtain ⟨rfl, rfl⟩ := y
    exact ⟨I, .int⟩
  stop := fun I H hi ih bh => by show n ≤ _; simp

theorem tI_e {m : Ctx → ER} {R' : It → Hp → Prop} (hK : A.g.K = X.K) (h : tI A W (itE m) σ H R') :
    (iList X.K (tE A W m) σ H R') ∨ (iTup X.K (tE A W m) σ H R') ∨ (iStr (tE A W m) σ H R') := by
  obtain ⟨I, c, ts, O, lk, S, h⟩ := h
  rw [itE] at h
  cases e : m c with
  | bad => rw [e] at h; exact h.elim
  | exc k n x c1 => rw [e] at h; exact .inl ⟨I, c, ts, O, lk, S, by rw [e]; exact h⟩
  | ok ev c1 =>
    rw [e] at h
    cases ev with
    | pl r p => exact h.elim
    | t d =>
      dsimp only at h
      cases e1 : itemsOf d with
      | none => rw [e1] at h; exact h.elim
      | some xs =>
        rw [e1] at h
        dsimp only at h
        unfold itemsOf at e1
        split at e1
        · cases e1
          refine .inr (.inr ⟨I, c, ts, O, lk, S, ?_⟩)
          rw [e]
          intro v I1 H1 O1 S1
          obtain ⟨fp, r, _⟩ := S1.last
          rw [R] at r
          exact ⟨_, r.1, h _ I1 H1 O1 S1.pop walk_str⟩
        · split at e1
          · rename_i ys hn
            cases e1
            refine .inr (.inl ⟨I, c, ts, O, lk, S, ?_⟩)
            rw [e]
            intro v I1 H1 O1 S1
            obtain ⟨fp, r, _⟩ := S1.last
            rw [R] at r
            obtain ⟨p, vs, e2, tc, l⟩ := r
            have hs : ∀ I H : Hp, leH I1 I → leH I H → leH A.B H → SqT X.K H p vs := fun I H i ih _ => hK ▸ (i.trans ih).sqT tc.sq
            exact ⟨p, e2, ⟨vs, hs _ _ (leH.refl _) S1.ih S1.bh⟩, h _ I1 H1 O1 S1.pop (walk_tup hs (l.leaf hn) hn)⟩
          · cases e1
        · split at e1
          · rename_i ys hn
            cases e1
            refine .inl ⟨I, c, ts, O, lk, S, ?_⟩
            rw [e]
            intro v I1 H1 O1 S1
            obtain ⟨fp, r, _⟩ := S1.last
            rw [R] at r
            obtain ⟨p, vs, e2, _, tc, l⟩ := r
            have hs : ∀ I H : Hp, leH I1 I → leH I H → leH A.B H → SqL X.K H p vs := fun I H i ih _ => .inl (.inl (ih _ _ (i _ _ tc)))
            exact ⟨p, e2, ⟨vs, hs _ _ (leH.refl _) S1.ih S1.bh⟩, h _ I1 H1 O1 S1.pop (walk_list hs (RL.keep (H' := H1) _ l (leH.refl _) (noH_le _) fun a ha => by cases ha) hn)⟩
          · cases e1
        · split at e1
          · rename_i ys hn
            cases e1
            refine .inl ⟨I, c, ts, O, lk, S, ?_⟩
            rw [e]
            intro v I1 H1 O1 S1
            obtain ⟨fp, r, _⟩ := S1.last
            rw [R] at r
            obtain ⟨p, vs, e2, _, tc, l⟩ := r
            have hs : ∀ I H : Hp, leH I1 I → leH I H → leH A.B H → SqL X.K H p vs := fun I H i ih bh => .inl (.inl (bh _ _ tc))
            exact ⟨p, e2, ⟨vs, hs _ _ (leH.refl _) S1.ih S1.bh⟩, h _ I1 H1 O1 S1.pop (walk_list hs (RL.keep (H' := H1) _ l (leH.refl _) (leH.refl _) fun a ha => by cases ha) hn)⟩
          · cases e1
        · split at e1
          · rename_i ys hn
            cases e1
            refine .inl ⟨I, c, ts, O, lk, S, ?_⟩
            rw [e]
            intro v I1 H1 O1 S1
            obtain ⟨fp, r, _⟩ := S1.last
            rw [R] at r
            obtain ⟨p, vs, e2, _, tc, l⟩ := r
            have hs : ∀ I H : Hp, leH I1 I → leH I H → leH A.B H → SqL X.K H p vs := fun I H i ih bh => hK ▸ bh.sqL tc
            exact ⟨p, e2, ⟨vs, hs _ _ (leH.refl _) S1.ih S1.bh⟩, h _ I1 H1 O1 S1.pop (walk_list hs (RL.keep (H' := H1) _ l (leH.refl _) (leH.refl _) fun a ha => by cases ha) hn)⟩
          · cases e1
        · cases e1
theorem PI_e {tg e : Expr} {m : Ctx → ER} (hK : A.g.K = X.K) (h : PE X e (tE A W m)) : PI X tg e (tI A W (itE m)) := ⟨fun pins s σ H R I x => by
  rcases tI_e hK x with x | x | x
  · exact (pi_list h).run pins s σ H R I x
  · exact (pi_tup h).run pins s σ H R I x
  · exact (pi_str h).run pins s σ H R I x⟩

/-- over ints told by the arguments -/
def itA (f : List D → Option (List D)) (ms : List (Ctx → ER)) : Ctx → IR := fun c => match eArgs ms c with
  | .ok es c2 => match valsOf c2 es with
    | some ds => match f ds with
      | some xs => .ok xs (unlocks es c2)
      | none => .bad
    | none => .bad
  | .exc k n x c2 => .exc k n x c2
  | .bad => .bad
/-- what an iterator's maker asks of values, by trees: nothing is laid -/
def ItS (A : Act) (f : List D → Option (List D)) (r : List V → Hp → (It → Hp → Prop) → Prop) : Prop := ∀ (I H : Hp) (ds : List D) (vs : List V) (R : It → Hp → Prop) (xs : List D), leH I H → leH A.B H → Paired (EAt A I H) ds vs → f ds = some xs → (∀ J, Walk A I J xs → R J H) → r vs H R
theorem tI_a {f : List D → Option (List D)} {ms : List (Ctx → ER)} {r : List V → Hp → (It → Hp → Prop) → Prop} {R' : It → Hp → Prop} (o : ItS A f r) (h : tI A W (itA f ms) σ H R') : tA' A W (eArgs ms) σ H (fun vs H2 => r vs H2 R') := by
  obtain ⟨I, c, ts, O, lk, S, h⟩ := h
  refine ⟨I, c, ts, O, lk, S, ?_⟩
  rw [itA] at h
  cases e : eArgs ms c with
  | bad => rw [e] at h; exact h
  | exc k n x c1 => rw [e] at h; exact h
  | ok es c2 =>
    rw [e] at h
    dsimp only at h
    intro vs I2 H2 O2 hl S2
    cases e2 : valsOf c2 es with
    | none => rw [e2] at h; exact h.elim
    | some ds =>
      rw [e2] at h
      dsimp only at h
      cases e3 : f ds with
      | none => rw [e3] at h; exact h.elim
      | some xs =>
        rw [e3] at h
        dsimp only at h
        exact o I2 H2 ds vs R' xs S2.ih S2.bh (Sat.valsOf hl e2 S2) e3 fun J wk => h J I2 H2 O2 (Sat.unlockL hl S2).pop wk
def okR (i : Int) : Bool := decide (-(2 ^ 62) ≤ i ∧ i < 2 ^ 62)
def fR1 : List D → Option (List D)
  | [.int j] => if okR j then some ((List.range j.toNat).map fun (k : Nat) => .int (0 + k)) else none
  | _ => none
def fR2 : List D → Option (List D)
  | [.int i, .int j] => if okR i && okR j then some ((List.range (j - i).toNat).map fun (k : Nat) => .int (i + k)) else none
  | _ => none
def fR3 : List D → Option (List D)
  | [.int i, .int j, .int c] => if okR i && okR j && decide (c = -1) then some ((List.range (i - j).toNat).map fun (k : Nat) => .int (i + k * c)) else none
  | _ => none
theorem is_R1 : ItS A fR1 (fun vs H R => ∃ j : Int, vs = [.int j] ∧ -(2 ^ 62) ≤ j ∧ j < 2 ^ 62 ∧ R (Itr 0 j.toNat) H) := fun I H ds vs R xs ih bh P e q => by
  unfold fR1 at e
  split at e
  · split at e
    · rename_i j hj
      cases e
      obtain ⟨x, rfl, h1⟩ := Paired.one P
      rw [h1.int]
      have hj := of_decide_eq_true hj
      exact ⟨j, rfl, hj.1, hj.2, q _ walk_range⟩
    · cases e
  · cases e
theorem is_R2 : ItS A fR2 (fun vs H R => ∃ i j : Int, vs = [.int i, .int j] ∧ (-(2 ^ 62) ≤ i ∧ i < 2 ^ 62 ∧ -(2 ^ 62) ≤ j ∧ j < 2 ^ 62) ∧ R (Itr i (j - i).toNat) H) := fun I H ds vs R xs ih bh P e q => by
  unfold fR2 at e
  split at e
  · split at e
    · rename_i i j hj
      cases e
      obtain ⟨x, y, rfl, h1, h2⟩ := Paired.two P
      rw [h1.int, h2.int]
      rw [Bool.and_eq_true] at hj
      have h1 := of_decide_eq_true hj.1
      have h2 := of_decide_eq_true hj.2
      exact ⟨i, j, rfl, ⟨h1.1, h1.2, h2.1, h2.2⟩, q _ walk_range⟩
    · cases e
  · cases e
theorem is_R3 : ItS A fR3 (fun vs H R => ∃ (i j c : Int) (n : Nat), vs = [.int i, .int j, .int c] ∧ RgC i j c n ∧ R (Itc i c n) H) := fun I H ds vs R xs ih bh P e q => by
  unfold fR3 at e
  split at e
  · split at e
    · rename_i i j c hj
      cases e
      obtain ⟨x, y, z, rfl, h1, h2, h3⟩ := Paired.three P
      rw [h1.int, h2.int, h3.int]
      simp only [Bool.and_eq_true] at hj
      have h1 := of_decide_eq_true hj.1.1
      have h2 := of_decide_eq_true hj.1.2
      have h3 := of_decide_eq_true hj.2
      subst h3
      exact ⟨i, j, -1, _, rfl, RgC.neg h1.1 h1.2 h2.1 h2.2, q _ walk_rangeC⟩
    · cases e
  · cases e
variable {tg : Expr}
theorem PI_r1 {a : Expr} {ms : List (Ctx → ER)} {p pos : Pos} (hg : Gl X "range") (hm : X.mg "range" = none) (ha : PA X [a] (tA' A W (eArgs ms))) (hs : starEach [a] X.env = [(false, eval a X.env)] := by rfl) : PI X tg (.Call (.Name "range" p) [a] [] pos) (tI A W (itA fR1 ms)) :=
  PI.imp (pi_range1 hg hm ha hs) fun σ H R h => tI_a is_R1 h
theorem PI_r2 {a b : Expr} {ms : List (Ctx → ER)} {p pos : Pos} (hg : Gl X "range") (hm : X.mg "range" = none) (ha : PA X [a, b] (tA' A W (eArgs ms))) (hs : starEach [a, b] X.env = [(false, eval a X.env), (false, eval b X.env)] := by rfl) (hs2 : starEach [b] X.env = [(false, eval b X.env)] := by rfl) :
    PI X tg (.Call (.Name "range" p) [a, b] [] pos) (tI A W (itA fR2 ms)) := PI.imp (pi_range2 hg hm ha hs hs2) fun σ H R h => tI_a is_R2 h
theorem PI_r3 {a b d : Expr} {ms : List (Ctx → ER)} {p pos : Pos} (hg : Gl X "range") (hm : X.mg "range" = none) (ha : PA X [a, b, d] (tA' A W (eArgs ms)))
    (hs : starEach [a, b, d] X.env = (false, eval a X.env) :: starEach [b, d] X.env := by rfl) (hpl : (backTo pos (starEach [b, d] X.env)).any (·.1) = false := by rfl) :
    PI X tg (.Call (.Name "range" p) [a, b, d] [] pos) (tI A W (itA fR3 ms)) := PI.imp (pi_range3 hg hm ha hs hpl) fun σ H R h => tI_a is_R3 h

/-! ### targets -/
inductive Tg where
  | n (i : Nat) | t (ts : List Tg)
mutual
def bindT : Tg → D → Ctx → Option Ctx
  | .n i, d, c => if c.kr.contains i || !decide (i < c.s.length) || !Lc.noOwn d then none else some { c with s := (dropAl i c.s).set i (.v d) }
  | .t ts, .tup xs, c => bindTs ts xs c
  | .t _, _, _ => none
def bindTs : List Tg → List D → Ctx → Option Ctx
  | [], [], c => some c
  | t :: ts, x :: xs, c => match bindT t x c with
    | some c' => bindTs ts xs c'
    | none => none
  | _, _, _ => none
end
mutual
def slotsT : Tg → List Nat
  | .n i => [i]
  | .t us => slotsTs us
def slotsTs : List Tg → List Nat
  | [] => []
  | u :: us => slotsT u ++ slotsTs us
end
def DiffS (is : List Nat) (σ σ' : St) : Prop := σ'.length = σ.length ∧ ∀ j, j ∉ is → σ'[j]? = σ[j]?
theorem DiffS.refl (is : List Nat) (σ : St) : DiffS is σ σ := ⟨rfl, fun _ _ => rfl⟩
theorem DiffS.trans {is js : List Nat} {σ σ1 σ2 : St} (a : DiffS is σ σ1) (b : DiffS js σ1 σ2) : DiffS (is ++ js) σ σ2 := ⟨b.1.trans a.1, fun j h => (b.2 j fun z => h (by simp [z])).trans (a.2 j fun z => h (by simp [z]))⟩
/-- the target's rule: from a tree without own cells -/
def tG (A : Act) (t : Tg) : TG := fun v σ H Q => ∃ I c ts O lk d c', Sat A I H σ c ts O lk ∧ R A.g I A.B H d v [] ∧ bindT t d c = some c' ∧ ∀ σ' O', Sat A I H σ' c' ts O' lk → DiffS (slotsT t) σ σ' → Q σ' H
def tGs (A : Act) (t : List Tg) : TGs := fun vs σ H Q => ∃ I c ts O lk ds c', Sat A I H σ c ts O lk ∧ RL A.g I A.B H ds vs [] ∧ bindTs t ds c = some c' ∧ ∀ σ' O', Sat A I H σ' c' ts O' lk → DiffS (slotsTs t) σ σ' → Q σ' H
theorem PG.imp {X : Cx} {tg : Expr} {t t' : TG} (h : PG X tg t) (q : ∀ v σ H Q, t' v σ H Q → t v σ H Q) : PG X tg t' := ⟨fun pins s σ H v u Q I r x => h.run pins s σ H v u Q I r (q v σ H Q x)⟩
theorem PGs.imp {X : Cx} {tg : List Expr} {t t' : TGs} (h : PGs X tg t) (q : ∀ v σ H Q, t' v σ H Q → t v σ H Q) : PGs X tg t' := ⟨fun pins s σ H v u Q I r x => h.run pins s σ H v u Q I r (q v σ H Q x)⟩
theorem Sat.bind1 {i : Nat} {d : D} {v : V} (S : Sat A I H σ c ts O lk) (h : R A.g I A.B H d v []) (nk : i ∉ c.kr) (hi : i < c.s.length) : Sat A I H (σ.set i (some v)) { c with s := (dropAl i c.s).set i (.v d) } ts O lk :=
  S.setSlot nk (leH.refl _) S.ih S.bh (fun _ _ e => .inl e) (fun _ _ _ _ => rfl) (fun _ _ e _ => e) S.fr (List.length_set ..) (fun j hj => List.getElem?_set_ne (Ne.symm hj)) (fun _ _ z => by cases z) fun d' z => by
    cases z
    exact ⟨v, List.getElem?_set_self (by rw [S.len]; exact hi), RO.leaf h⟩
theorem PG_n {i : Nat} {x : Str} {pos : Pos} (h : PG X (.Name x pos) (gName i)) : PG X (.Name x pos) (tG A (.n i)) := PG.imp h fun v σ H Q ⟨I, c, ts, O, lk, d, c', S, r, e, q⟩ => by
  rw [bindT] at e
  split at e
  · cases e
  · rename_i hn
    cases e
    simp only [Bool.or_eq_true, not_or, Bool.not_eq_true, Bool.not_eq_false', decide_eq_true_eq, List.contains_eq_mem, decide_eq_false_iff_not] at hn
    refine q _ _ (S.bind1 r hn.1.1 hn.1.2) ⟨List.length_set .., fun j hj => List.getElem?_set_ne fun z => hj ?_⟩
    rw [slotsT, z]
    exact List.mem_singleton.mpr rfl
theorem PGs_nil : PGs X [] (tGs A []) := PGs.imp pgs_nil fun vs σ H Q ⟨I, c, ts, O, lk, ds, c', S, r, e, q⟩ => by
  cases ds with
  | nil =>
    rw [RL] at r
    rw [bindTs] at e
    cases e
    exact ⟨r.1, q _ _ S (DiffS.refl _ _)⟩
  | cons _ _ => rw [bindTs] at e <;> first | cases e | (intros; contradiction)
theorem PGs_cons {e : Expr} {es : List Expr} {t : Tg} {u : List Tg} (h1 : PG X e (tG A t)) (h2 : PGs X es (tGs A u)) (hs : (assignEach (e :: es) X.env).map (·.2) = assign e X.env :: (assignEach es X.env).map (·.2) := by rfl) : PGs X (e :: es) (tGs A (t :: u)) :=
  PGs.imp (pgs_cons h1 h2 hs) fun vs σ H Q ⟨I, c, ts, O, lk, ds, c', S, r, e, q⟩ => by
    cases ds with
    | nil => rw [bindTs] at e <;> first | cases e | (intros; contradiction)
    | cons x xs =>
      rw [RL] at r
      rw [bindTs] at e
      obtain ⟨v, vr, f1, f2, rfl, ef, r1, r2⟩ := r
      obtain ⟨rfl, rfl⟩ := List.append_eq_nil_iff.mp ef.symm
      cases e1 : bindT t x c with
      | none => rw [e1] at e; cases e
      | some c1 =>
        rw [e1] at e
        exact ⟨v, vr, rfl, I, c, ts, O, lk, x, c1, S, r1, e1, fun σ' O' S' df => ⟨I, c1, ts, O', lk, xs, c', S', r2, e, fun σ2 O2 S2 df2 => q σ2 O2 S2 (by
          rw [slotsTs]
          exact df.trans df2)⟩⟩
theorem PG_t {es : List Expr} {k : Nat} {u : List Tg} {n : Nat} {pos : Pos} (hc : X.calm = true) (hK : A.g.K = X.K) (h : PGs X es (tGs A u)) (hu : u.length = es.length) (hn : (assignEach es X.env).length = n := by rfl) (hst : (assignEach es X.env).findIdx? (·.1) = none := by rfl) (hnn : n = es.length := by rfl) : PG X (.Tuple es k pos) (tG A (.t u)) :=
  PG.imp (pg_tup hc h hn hst) fun v σ H Q ⟨I, c, ts, O, lk, d, c', S, r, e, q⟩ => by
    have len : ∀ {u : List Tg} {xs : List D} {c c' : Ctx}, bindTs u xs c = some c' → xs.length = u.length := by
      intro u
      induction u with
      | nil =>
        intro xs c c' e
        cases xs with
        | nil => rfl
        | cons _ _ => rw [bindTs] at e <;> first | cases e | (intros; contradiction)
      | cons t u ih =>
        intro xs c c' e
        cases xs with
        | nil => rw [bindTs] at e <;> first | cases e | (intros; contradiction)
        | cons x xs =>
          rw [bindTs] at e
          cases e1 : bindT t x c with
          | none => rw [e1] at e; cases e
          | some c1 =>
            rw [e1] at e
            rw [List.length_cons, List.length_cons, ih e]
    cases d with
    | tup xs =>
      rw [bindT] at e
      rw [R] at r
      obtain ⟨p, vs, e1, tc, l⟩ := r
      exact ⟨p, vs, e1, hK ▸ S.ih.sqT tc.sq, by rw [l.length, len e, hu, hnn], I, c, ts, O, lk, xs, c', S, l, e, fun σ' O' S' df => q σ' O' S' (by
        rw [slotsT]
        exact df)⟩
    | _ => rw [bindT] at e <;> first | cases e | (intros; contradiction)
end
end Lc
end
section
set_option Elab.async false
set_option linter.all false
set_option maxRecDepth 100000
set_option maxHeartbeats 1000000
namespace Lc
open PySem L2

/-! ### comprehensions -/
/-- forget slots -/
def wipeC : List Nat → Ctx → Ctx
  | [], c => c
  | i :: is, c => { (wipeC is c) with s := (dropAl i (wipeC is c).s).set i .no }
def freeC (is : List Nat) (c : Ctx) : Bool := is.all fun i => !(c.kr.contains i)
/-- the turns: the items, what is made so far -/
def cmpLoop (own : List Nat) (t : Tg) (test : Ctx → TR) (elt : Ctx → ER) : List D → List D → Ctx → ER
  | [], acc, c => .ok (.t (.nd .lst .own acc)) c
  | x :: xs, acc, c => match bindT t x c with
    | none => .bad
    | some c1 => match test c1 with
      | .ok false c2 => if freeC own c2 then cmpLoop own t test elt xs acc (wipeC own c2) else .bad
      | .ok true c2 => match elt c2 with
        | .ok (.t d) c3 => if freeC own c3 && decide (acc.length < 16777216) then cmpLoop own t test elt xs (acc ++ [d]) (wipeC own c3) else .bad
        | _ => .bad
      | _ => .bad
def eCmp (own : List Nat) (it : Ctx → IR) (t : Tg) (test : Ctx → TR) (elt : Ctx → ER) : Ctx → ER := fun c => match it c with
  | .ok xs c1 => if freeC own c1 then cmpLoop own t test elt xs [] (wipeC own c1) else .bad
  | .exc k n x c1 => .exc k n x c1
  | .bad => .bad
def W0 : Wx := fun _ _ _ _ => False

section
variable {A : Act} {W : Wx} {X : Cx} {I H I' H' : Hp} {σ : St} {c : Ctx} {ts : List (D × V)} {O O' : Addr → Option Ow} {lk : List (Nat × List Nat × V)}
theorem wipeC_k : ∀ (is : List Nat) (c : Ctx), (wipeC is c).k = c.k
  | [], c => rfl
  | i :: is, c => wipeC_k is c
theorem Sat.weakσ {σ' : St} (S : Sat A I H σ c ts O lk) (hl : σ'.length = σ.length) (hv : ∀ (i : Nat) (d : D), c.s[i]? = some (.v d) → σ'[i]? = σ[i]?) (ha : ∀ (i r : Nat) (p : List Nat), c.s[i]? = some (.al r p) → σ'[i]? = σ[i]?) : Sat A I H σ' c ts O lk := by
  have pvk : ∀ {r : Nat} {p : List Nat} {v : V}, PV A I H σ c O r p v → PV A I H σ' c O r p v := fun {r p v} ⟨d, v0, d', e1, e2, e3, e4, va⟩ => ⟨d, v0, d', e1, (hv _ _ e1).trans e2, e3, e4, va⟩
  refine ⟨S.ih, S.bh, S.i0, S.ib, hl.trans S.len, fun i d e => ?_, fun i r p e => ?_, S.tmps, fun r p v e => pvk (S.lks r p v e), S.lke, S.fr⟩
  · obtain ⟨v, e1, h⟩ := S.vals i d e
    exact ⟨v, (hv i d e).trans e1, h⟩
  · obtain ⟨w, e1, h⟩ := S.als i r p e
    exact ⟨w, (ha i r p e).trans e1, pvk h⟩
theorem Sat.wipe : ∀ (is : List Nat) {σ : St} {c : Ctx}, Sat A I H σ c ts O lk → freeC is c = true → Sat A I H σ (wipeC is c) ts O lk
  | [], _, _, S, _ => S
  | i :: is, σ, c, S, h => by
    unfold freeC at h
    rw [List.all_cons, Bool.and_eq_true] at h
    have S1 := Sat.wipe is S h.2
    refine S1.forget (i := i) ?_
    rw [Ctx.kr, wipeC_k, ← Ctx.kr]
    simpa using h.1
theorem wipeC_get : ∀ (is : List Nat) {c : Ctx} {i : Nat}, i ∈ is → (∀ d : D, (wipeC is c).s[i]? ≠ some (.v d)) ∧ (∀ (r : Nat) (p : List Nat), (wipeC is c).s[i]? ≠ some (.al r p))
  | j :: is, c, i, h => by
    by_cases e : i = j
    · subst e
      have key : ∀ x, (wipeC (i :: is) c).s[i]? = some x → x = .no := fun x h => by
        rcases set_cases (show ((dropAl i (wipeC is c).s).set i .no)[i]? = _ from h) with ⟨_, z, _⟩ | ⟨z, _⟩
        · exact z.symm
        · exact absurd rfl z
      exact ⟨fun d h => (by cases key _ h), fun r p h => (by cases key _ h)⟩
    · have h : i ∈ is := by
        rcases List.mem_cons.mp h with h | h
        · exact absurd h e
        · exact h
      obtain ⟨h1, h2⟩ := wipeC_get is (c := c) h
      refine ⟨fun d q => ?_, fun r p q => ?_⟩
      · rcases set_cases (show ((dropAl j (wipeC is c).s).set j .no)[i]? = _ from q) with ⟨z, _, _⟩ | ⟨_, z⟩
        · exact e z
        · exact h1 d (dropAl_v.mp z)
      · rcases set_cases (show ((dropAl j (wipeC is c).s).set j .no)[i]? = _ from q) with ⟨z, _, _⟩ | ⟨_, z⟩
        · exact e z
        · exact h2 r p (dropAl_al z).1
theorem wipe_get : ∀ (is : List Nat) {σ : St} {i : Nat}, i ∉ is → (L2.wipe σ is)[i]? = σ[i]?
  | [], _, _, _ => rfl
  | j :: is, σ, i, h => by
    rw [L2.wipe, List.getElem?_set_ne (fun e => h (by simp [e])), wipe_get is fun z => h (List.mem_cons_of_mem _ z)]
/-- into the block: the slots wiped on both sides -/
theorem Sat.enter (is : List Nat) (S : Sat A I H σ c ts O lk) (h : freeC is c = true) : Sat A I H (L2.wipe σ is) (wipeC is c) ts O lk :=
  (S.wipe is h).weakσ (wipe_length σ is) (fun i d e => wipe_get is fun hm => (wipeC_get is hm).1 d e) fun i r p e => wipe_get is fun hm => (wipeC_get is hm).2 r p e
/-- back: any values at the wiped slots -/
theorem Sat.back (is : List Nat) {σ0 : St} (S : Sat A I H σ0 (wipeC is c) ts O lk) (h : L2.wipe σ0 is = L2.wipe σ is) : Sat A I H σ (wipeC is c) ts O lk :=
  S.weakσ (by rw [← wipe_length σ is, ← h, wipe_length]) (fun i d e => by
    have hm : i ∉ is := fun hm => (wipeC_get is hm).1 d e
    rw [← wipe_get is hm, ← h, wipe_get is hm]) fun i r p e => by
    have hm : i ∉ is := fun hm => (wipeC_get is hm).2 r p e
    rw [← wipe_get is hm, ← h, wipe_get is hm]

theorem RL.snoc {g : Gs} {I B H : Hp} : ∀ {xs : List D} {vs : List V} {f1 f2 : List Addr} {x : D} {v : V}, RL g I B H xs vs f1 → R g I B H x v f2 → RL g I B H (xs ++ [x]) (vs ++ [v]) (f1 ++ f2)
  | [], vs, f1, f2, x, v, h, r => by
    rw [RL] at h
    obtain ⟨rfl, rfl⟩ := h
    show RL g I B H [x] [v] f2
    rw [RL]
    refine ⟨v, [], f2, [], rfl, by simp, r, ?_⟩
    rw [RL]
    exact ⟨rfl, rfl⟩
  | y :: ys, vs, f1, f2, x, v, h, r => by
    rw [RL] at h
    obtain ⟨w, vr, g1, g2, rfl, rfl, h1, h2⟩ := h
    rw [List.cons_append, RL]
    exact ⟨w, vr ++ [v], g1, g2 ++ f2, rfl, by simp, h1, RL.snoc h2 r⟩
/-- the list that is being made grows by the last temporary -/
theorem Sat.grow {acc : List D} {L : Addr} {d : D} {v : V} (S : Sat A I H σ c (ts ++ [(.nd .lst .own acc, .ref L)] ++ [(d, v)]) O lk) : ∃ vs, H L = some (.lst vs) ∧ vs.length = acc.length ∧ ∃ O', Sat A I (upd H L (.lst (vs ++ [v]))) σ c (ts ++ [(.nd .lst .own (acc ++ [d]), .ref L)]) O' lk := by
  obtain ⟨f1, r1, n1, l1⟩ := S.tmps ts.length (.nd .lst .own acc) (.ref L) (by simp)
  obtain ⟨f2, r2, n2, l2⟩ := S.last
  have hlen : (ts ++ [(D.nd .lst .own acc, V.ref L)]).length = ts.length + 1 := by simp
  rw [hlen] at l2
  have r0 := r1
  rw [R] at r1
  obtain ⟨p, vs, fq, e, rfl, oc, l⟩ := r1
  cases e
  have oc : H L = some (.lst vs) := oc
  have dj : ∀ a ∈ f2, a ∉ L :: fq := fun a ha hb => by
    have := l2 a ha
    rw [l1 a hb] at this
    injection this with this
    injection this with this
    omega
  refine ⟨vs, oc, l.length, ?_⟩
  have kp : ∀ a, a ≠ L → upd H L (.lst (vs ++ [v])) a = H a := fun a h => upd_ne h
  have nL : ∀ a w, O a = some w → w ≠ .inr ts.length → a ≠ L := fun a w e hw z => by
    subst z
    rw [l1 a (List.mem_cons_self ..)] at e
    cases e
    exact hw rfl
  -- first without the two temporaries
  have S0 : Sat A I (upd H L (.lst (vs ++ [v]))) σ c ts O lk := by
    have S1 : Sat A I H σ c ts O lk := (Sat.pop (xs := [(d, v)]) S).pop
    have fL := S.fr L _ (l1 L (List.mem_cons_self ..))
    refine ⟨fun a o e => ?_, fun a o e => ?_, S1.i0, S1.ib, S1.len, fun i d e => ?_, fun i r p e => ?_, fun j d v e => ?_, fun r p v e => ?_, S1.lke, fun a w e => ?_⟩
    · rw [kp a (ne_of_none e fL.1)]
      exact S1.ih a o e
    · rw [kp a (ne_of_none e fL.2.1)]
      exact S1.bh a o e
    · obtain ⟨v, e1, h⟩ := S1.vals i d e
      exact ⟨v, e1, h.keep (leH.refl _) (fun a ha => kp a (nL a _ ha (by intro z; cases z))) fun _ h => h⟩
    · obtain ⟨v, e1, h⟩ := S1.als i r p e
      exact ⟨v, e1, h.keep (leH.refl _) (fun a ha => kp a (nL a _ ha (by intro z; cases z))) (fun _ h => h) rfl rfl⟩
    · exact (S1.tmps j d v e).keep (leH.refl _) (fun a ha => kp a (nL a _ ha (by
        intro z
        cases z
        have := (List.getElem?_eq_some_iff.mp e).1
        omega))) fun _ h => h
    · exact (S1.lks r p v e).keep (leH.refl _) (fun a ha => kp a (nL a _ ha (by intro z; cases z))) (fun _ h => h) rfl rfl
    · obtain ⟨x, y, o, z⟩ := S1.fr a w e
      refine ⟨x, y, ?_⟩
      by_cases hb : a = L
      · exact ⟨_, by rw [hb]; exact upd_same⟩
      · exact ⟨o, by rw [kp a hb]; exact z⟩
  have nq : L ∉ fq := (List.nodup_cons.mp n1).1
  refine Sat.join (xs := []) (fp := L :: (fq ++ f2)) (by rw [List.append_nil]; exact S0) ?_ ?_ fun a ha => ?_
  · rw [R]
    refine ⟨L, vs ++ [v], fq ++ f2, rfl, rfl, upd_same, RL.snoc (RL.keep _ l (leH.refl _) (leH.refl _) fun a ha => kp a fun z => nq (z ▸ ha)) (R.keep _ r2 (leH.refl _) (leH.refl _) fun a ha => kp a fun z => dj a ha (by simp [z]))⟩
  · refine List.nodup_cons.mpr ⟨fun h => ?_, List.nodup_append.mpr ⟨(List.nodup_cons.mp n1).2, n2, fun a ha b hb z => dj b hb (by simp [← z, ha])⟩⟩
    rcases List.mem_append.mp h with h | h
    · exact nq h
    · exact dj L h (by simp)
  · rcases List.mem_cons.mp ha with rfl | ha
    · exact .inl ⟨_, l1 _ (List.mem_cons_self ..), Nat.le_refl _⟩
    · rcases List.mem_append.mp ha with ha | ha
      · exact .inl ⟨_, l1 a (List.mem_cons_of_mem _ ha), Nat.le_refl _⟩
      · exact .inl ⟨_, l2 a ha, Nat.le_succ _⟩

/-- the target's rule at a walked item -/
theorem tG_of {t : Tg} {d : D} {v : V} {c' : Ctx} {Q : St → Hp → Prop} (S : Sat A I H σ c ts O lk) (h : R A.g I A.B H d v []) (e : bindT t d c = some c') (q : ∀ σ' O', Sat A I H σ' c' ts O' lk → DiffS (slotsT t) σ σ' → Q σ' H) : tG A t v σ H Q := ⟨I, c, ts, O, lk, d, c', S, h, e, q⟩
end

/-! ### a later base -/
abbrev Act.at (A : Act) (J : Hp) : Act := ⟨A.g, A.B, J⟩
section
variable {A : Act} {W : Wx} {X : Cx} {I H I' H' : Hp} {σ σ' : St} {c c' : Ctx} {ts ts' : List (D × V)} {O O' : Addr → Option Ow} {lk lk' : List (Nat × List Nat × V)}
theorem Sat.inn (S : Sat A I H σ c ts O lk) : Sat (A.at I) I H σ c ts O lk := ⟨S.ih, S.bh, leH.refl _, fun a o e => .inl e, S.len, S.vals, S.als, S.tmps, S.lks, S.lke, S.fr⟩
theorem Sat.out (S0 : Sat A I H σ c ts O lk) (S : Sat (A.at I) I' H' σ' c' ts' O' lk') : Sat A I' H' σ' c' ts' O' lk' := ⟨S.ih, S.bh, S0.i0.trans S.i0, fun a o e => by
    rcases S.ib a o e with h | h
    · exact S0.ib a _ h
    · exact .inr h, S.len, S.vals, S.als, S.tmps, S.lks, S.lke, S.fr⟩
theorem Res.at {d : D} {v : V} {J : Hp} (h : Res A I H d v I' H') : Res (A.at J) I H d v I' H' := by
  induction h with
  | leaf h => exact .leaf h
  | list h n => exact .list h n
  | dict h l n => exact .dict h l n
  | dictT h l n => exact .dictT h l n
  | tup h n => exact .tup h n
  | more n h ih => exact .more n ih
def tEx (A : Act) (W : Wx) (m : Ctx → ER) : TE := fun σ H Q => ∃ J, tE (A.at J) W m σ H Q
def tTx (A : Act) (W : Wx) (m : Ctx → TR) : TT := fun σ H Q => ∃ J, tT (A.at J) W m σ H Q
def tGx (A : Act) (t : Tg) : TG := fun v σ H Q => ∃ J, tG (A.at J) t v σ H Q
theorem PE_ex {e : Expr} {m : Ctx → ER} (h : ∀ J, PE X e (tE (A.at J) W m)) : PE X e (tEx A W m) := ⟨fun pins s σ H Q I ⟨J, x⟩ => (h J).run pins s σ H Q I x⟩
theorem PG_ex {e : Expr} {t : Tg} (h : ∀ J, PG X e (tG (A.at J) t)) : PG X e (tGx A t) := ⟨fun pins s σ H v u Q I r ⟨J, x⟩ => (h J).run pins s σ H v u Q I r x⟩
/-- the tests of a comprehension -/
theorem PTs_nil : PTs X [] (tTx A W fun c => .ok true c) := by
  have h := pts_nil (X := X)
  refine ⟨fun pins s σ H Q I ⟨J, J1, c, ts, O, lk, S, x⟩ => ?_⟩
  exact h.run pins s σ H Q I (x J1 H O S)
theorem PTs_one {t : Expr} {m : Ctx → TR} (h : ∀ J, PT X t (tT (A.at J) W m)) : PTs X [t] (tTx A W m) := by
  have h' : PT X t (tTx A W m) := ⟨fun pins s σ H Q I ⟨J, x⟩ => (h J).run pins s σ H Q I x⟩
  exact pts_one h'

theorem wipe_at : ∀ (is : List Nat) {σ : St} {i : Nat}, i ∈ is → i < σ.length → (L2.wipe σ is)[i]? = some none
  | j :: is, σ, i, h, hl => by
    rw [L2.wipe]
    by_cases e : j = i
    · subst e
      rw [List.getElem?_set_self (by rw [wipe_length]; exact hl)]
    · rw [List.getElem?_set_ne e]
      rcases List.mem_cons.mp h with h | h
      · exact absurd h.symm e
      · exact wipe_at is h hl
theorem wipe_same {is : List Nat} {σ σ' : St} (h : DiffS is σ σ') : L2.wipe σ' is = L2.wipe σ is := by
  refine List.ext_getElem? fun i => ?_
  by_cases hl : i < σ.length
  · by_cases hi : i ∈ is
    · rw [wipe_at is hi hl, wipe_at is hi (by rw [h.1]; exact hl)]
    · rw [wipe_get is hi, wipe_get is hi, h.2 i hi]
  · rw [List.getElem?_eq_none (by rw [wipe_length, h.1]; omega), List.getElem?_eq_none (by rw [wipe_length]; omega)]
theorem wipe_wipe (σ : St) (is : List Nat) : L2.wipe (L2.wipe σ is) is = L2.wipe σ is := wipe_same ⟨wipe_length σ is, fun j hj => wipe_get is hj⟩

theorem tLc_of {own : List Nat} {it : Ctx → IR} {t : Tg} {test : Ctx → TR} {elt : Ctx → ER} {Q : VK} (ht : slotsT t = own) (h : tE A W (eCmp own it t test elt) σ H Q) : tLc (tI A W it) (tGx A t) (tTx A W0 test) (tEx A W0 elt) own σ H Q := by
  obtain ⟨I, c, ts, O, lk, S, h⟩ := h
  refine ⟨I, c, ts, O, lk, S, ?_⟩
  rw [eCmp] at h
  cases e : it c with
  | bad => rw [e] at h; exact h
  | exc k n x c1 => rw [e] at h; exact h
  | ok xs c1 =>
    rw [e] at h
    dsimp only at h
    intro J I1 H1 O1 S1 wk L nL
    cases hf : freeC own c1 with
    | false => rw [hf] at h; exact h.elim
    | true =>
      rw [hf, if_pos rfl] at h
      -- what is left, from a state of a turn
      let Left : List D → List D → Ctx → Prop := fun ys acc c2 => match cmpLoop own t test elt ys acc c2 with
        | .ok (.t d) c' => ∀ v I' H' O', Sat A I' H' σ c' (ts ++ [(d, v)]) O' lk → Q v H'
        | _ => False
      have left0 : Left xs [] (wipeC own c1) := by
        show (match cmpLoop own t test elt xs [] (wipeC own c1) with | .ok (.t d) c' => _ | _ => False)
        cases e2 : cmpLoop own t test elt xs [] (wipeC own c1) with
        | bad => rw [e2] at h; exact h
        | exc k n x c2 =>
          exfalso
          have key : ∀ (ys acc : List D) (c : Ctx) (k : Nat) (n : Str) (x : D) (c' : Ctx), cmpLoop own t test elt ys acc c ≠ .exc k n x c' := by
            intro ys
            induction ys with
            | nil =>
              intro acc c k n x c' z
              rw [cmpLoop] at z
              cases z
            | cons y ys ih =>
              intro acc c k n x c' z
              rw [cmpLoop] at z
              split at z
              · cases z
              · split at z
                · split at z
                  · exact ih _ _ _ _ _ _ z
                  · cases z
                · split at z
                  · split at z
                    · exact ih _ _ _ _ _ _ z
                    · cases z
                  · cases z
                · cases z
          exact key _ _ _ _ _ _ _ e2
        | ok ev c2 =>
          rw [e2] at h
          cases ev with
          | t d => exact h
          | pl r p =>
            exfalso
            have key : ∀ (ys acc : List D) (c : Ctx) (r : Nat) (p : List Nat) (c' : Ctx), cmpLoop own t test elt ys acc c ≠ .ok (.pl r p) c' := by
              intro ys
              induction ys with
              | nil =>
                intro acc c r p c' z
                rw [cmpLoop] at z
                cases z
              | cons y ys ih =>
                intro acc c r p c' z
                rw [cmpLoop] at z
                split at z
                · cases z
                · split at z
                  · split at z
                    · exact ih _ _ _ _ _ z
                    · cases z
                  · split at z
                    · split at z
                      · exact ih _ _ _ _ _ z
                      · cases z
                    · cases z
                  · cases z
            exact key _ _ _ _ _ _ e2
      have S1n := S1
      refine ⟨fun i m H2 => m = xs.length - i ∧ i ≤ xs.length ∧ ∃ I2 c2 O2 acc, Sat (A.at I1) I2 H2 (L2.wipe σ own) (wipeC own c2) (ts ++ [(.nd .lst .own acc, .ref L)]) O2 lk ∧ Left (xs.drop i) acc (wipeC own c2),
        ⟨xs.length, rfl, Nat.zero_le _, ?_⟩, ?_⟩
      · obtain ⟨n1, n2, n3⟩ := S1.new nL
        have S2 := (S1.inn.enter own hf).alloc (o := .lst []) nL
        obtain ⟨O3, S3⟩ := Sat.join (xs := []) (d := .nd .lst .own []) (v := .ref L) (fp := [L]) (by rw [List.append_nil]; exact S2) (by
          rw [R]
          refine ⟨L, [], [], rfl, rfl, upd_same, ?_⟩
          rw [RL]
          exact ⟨rfl, rfl⟩) (by simp) fun a ha => by
            have e : a = L := by simpa using ha
            subst e
            exact .inr ⟨n1, n2, n3, _, upd_same⟩
        exact ⟨I1, c1, O3, [], S3, left0⟩
      · rintro i m H2 ⟨rfl, hi, I2, c2, O2, acc, S2, lf⟩
        by_cases hlt : i < xs.length
        · right
          have hx : xs[i]? = some xs[i] := List.getElem?_eq_getElem hlt
          have hd : xs.drop i = xs[i] :: xs.drop (i + 1) := List.drop_eq_getElem_cons hlt
          rw [hd] at lf
          have lf : (match cmpLoop own t test elt (xs[i] :: xs.drop (i + 1)) acc (wipeC own c2) with | .ok (.t d) c' => ∀ v I' H' O', Sat A I' H' σ c' (ts ++ [(d, v)]) O' lk → Q v H' | _ => False) := lf
          rw [cmpLoop] at lf
          obtain ⟨go, yld⟩ := wk.go i xs[i] I2 H2 hx S2.i0 S2.ih S2.bh
          refine ⟨go, fun H3 => ∃ I3 c3 O3 acc3, Sat (A.at I1) I3 H3 (L2.wipe σ own) (wipeC own c3) (ts ++ [(.nd .lst .own acc3, .ref L)]) O3 lk ∧ Left (xs.drop (i + 1)) acc3 (wipeC own c3), fun H3 hn => ⟨xs.length - (i + 1), by omega, rfl, hlt, hn⟩, fun v H3 hy => ?_⟩
          obtain ⟨I3, rs⟩ := yld v H3 hy
          obtain ⟨O3, S3⟩ := (rs.at (J := I1)).sat (ts := ts ++ [(.nd .lst .own acc, .ref L)]) (xs := []) (by rw [List.append_nil]; exact S2)
          have rx : R A.g I3 A.B H3 xs[i] v [] := S3.last.nil (wk.no i _ hx)
          cases eb : bindT t xs[i] (wipeC own c2) with
          | none => rw [eb] at lf; exact lf.elim
          | some c4 =>
            rw [eb] at lf
            dsimp only at lf
            refine ⟨I1, tG_of S3.pop rx eb fun σ4 O4 S4 df => ?_⟩
            have ws : L2.wipe σ4 own = L2.wipe σ own := by
              rw [ht] at df
              rw [wipe_same df, wipe_wipe]
            refine ⟨ws, I1, I3, c4, _, O4, lk, S4, ?_⟩
            cases et : test c4 with
            | bad => rw [et] at lf; exact lf.elim
            | exc k n x c5 => rw [et] at lf; exact lf.elim
            | ok b c5 =>
              rw [et] at lf
              intro I5 H5 O5 S5
              cases b with
              | false =>
                dsimp only at lf
                refine iteF ?_
                cases hf5 : freeC own c5 with
                | false => rw [hf5] at lf; exact lf.elim
                | true =>
                  rw [hf5, if_pos rfl] at lf
                  have S6 := S5.enter own hf5
                  rw [ws] at S6
                  exact ⟨I5, c5, O5, acc, S6, lf⟩
              | true =>
                dsimp only at lf
                refine iteT ⟨I1, I5, c5, _, O5, lk, S5, ?_⟩
                cases ee : elt c5 with
                | bad => rw [ee] at lf; exact lf.elim
                | exc k n x c6 => rw [ee] at lf; exact lf.elim
                | ok ev c6 =>
                  rw [ee] at lf
                  cases ev with
                  | pl r p => exact lf.elim
                  | t d =>
                    dsimp only at lf
                    intro w I6 H6 O6 S6
                    cases hf6 : (freeC own c6 && decide (acc.length < 16777216)) with
                    | false => rw [hf6] at lf; exact lf.elim
                    | true =>
                      rw [hf6, if_pos rfl] at lf
                      rw [Bool.and_eq_true, decide_eq_true_eq] at hf6
                      obtain ⟨vs, hv, hl, O7, S7⟩ := S6.grow
                      refine ⟨vs, hv, by rw [hl, sizeLine_eq]; exact hf6.2, ?_⟩
                      have S8 := S7.enter own hf6.1
                      rw [ws] at S8
                      exact ⟨I6, c6, O7, acc ++ [d], S8, lf⟩
        · left
          have e3 : i = xs.length := by omega
          subst e3
          refine ⟨wk.stop I2 H2 S2.i0 S2.ih S2.bh, ?_⟩
          rw [List.drop_length] at lf
          have lf : (match cmpLoop own t test elt [] acc (wipeC own c2) with | .ok (.t d) c' => ∀ v I' H' O', Sat A I' H' σ c' (ts ++ [(d, v)]) O' lk → Q v H' | _ => False) := lf
          rw [cmpLoop] at lf
          exact lf _ I2 H2 O2 (S1.out (S2.back own (wipe_wipe σ own)))
/-- [elt for target in iter if test] -/
theorem PE_cmp_ {elt tg iter : Expr} {ifs : List Expr} {scope : Scope} {own : List (Str × Nat)} {pos : Pos} {it : Ctx → IR} {t : Tg} {test : Ctx → TR} {me : Ctx → ER} (hc : X.calm = true) (hN : X.N.Nodup) (ht : slotsT t = own.map (·.2)) (hi : PI X tg iter (tI A W it)) (ok : BlkOk X.N X.env.scope scope own)
    (hg : ∀ (s : Shared) (H : Hp) (C : Addr) (cl : List (Str × Addr)) (fp : List Addr) (J : Hp), PG (X.blk s H scope (compEnvC scope cl C X.env) fp) tg (tG (A.at J) t))
    (htt : ∀ (s : Shared) (H : Hp) (C : Addr) (cl : List (Str × Addr)) (fp : List Addr), PTs (X.blk s H scope (compEnvC scope cl C X.env) fp) ifs (tTx A W0 test))
    (he : ∀ (s : Shared) (H : Hp) (C : Addr) (cl : List (Str × Addr)) (fp : List Addr) (J : Hp), PE (X.blk s H scope (compEnvC scope cl C X.env) fp) elt (tE (A.at J) W0 me)) (hs : ∀ x, foldedSetIterable iter X.env x = pure x := by intro _; rfl) :
    PE X (.ListComp elt [⟨tg, iter, ifs, 0⟩] scope pos) (tE A W (eCmp (own.map (·.2)) it t test me)) :=
  PE.imp (pe_lc hc hN hi ok (fun s H C cl fp => PG_ex (hg s H C cl fp)) htt (fun s H C cl fp => PE_ex (he s H C cl fp)) hs) fun σ H Q h => tLc_of ht h
end
end Lc
end
section
set_option Elab.async false
set_option linter.all false
set_option maxRecDepth 100000
set_option maxHeartbeats 1000000
namespace Lc
open PySem L2

/-! ### statements -/
def tS (A : Act) (W : Wx) (m : Ctx → SR) : TS := fun D σ H => ∃ I c O lk, Sat A I H σ c [] O lk ∧ match m c with
  | .nx c' => ∀ σ' I' H' O', Sat A I' H' σ' c' [] O' lk → D.nx σ' H'
  | .bk c' => ∀ σ' I' H' O', Sat A I' H' σ' c' [] O' lk → D.bk σ' H'
  | .ct c' => ∀ σ' I' H' O', Sat A I' H' σ' c' [] O' lk → D.ct σ' H'
  | .rt d c' => ∀ v σ' I' H' O', Sat A I' H' σ' c' [(d, v)] O' lk → D.rt v H'
  | .exc k n x c' => ∀ σ', XP A W σ' [] lk k n x c'
  | .bad => False
def sNx : Ctx → SR := fun c => .nx c
def sSeq (a b : Ctx → SR) : Ctx → SR := fun c => match a c with
  | .nx c' => b c'
  | r => r
def sIf (t : Ctx → TR) (a b : Ctx → SR) : Ctx → SR := fun c => match t c with
  | .ok true c' => a c'
  | .ok false c' => b c'
  | .exc k n x c' => .exc k n x c'
  | .bad => .bad
def sExpr (m : Ctx → ER) : Ctx → SR := fun c => match m c with
  | .ok _ c' => .nx c'
  | .exc k n x c' => .exc k n x c'
  | .bad => .bad
def sRet (m : Ctx → ER) : Ctx → SR := fun c => match m c with
  | .ok (.t d) c' => .rt d c'
  | .exc k n x c' => .exc k n x c'
  | _ => .bad
def sRetN : Ctx → SR := fun c => .rt .non c
def sBk : Ctx → SR := fun c => .bk c
def sCt : Ctx → SR := fun c => .ct c
/-- name = e: a temporary is stored; a place makes an alias -/
def sSet (i : Nat) (m : Ctx → ER) : Ctx → SR := fun c => match m c with
  | .ok (.t d) c' => if c'.kr.contains i || !decide (i < c'.s.length) then .bad else .nx { c' with s := (dropAl i c'.s).set i (.v d) }
  | .ok (.pl r p) c' => if c'.kr.contains i || !decide (i < c'.s.length) || r == i then .bad else .nx { c' with s := (dropAl i c'.s).set i (.al r p) }
  | .exc k n x c' => .exc k n x c'
  | .bad => .bad

section
variable {A : Act} {W : Wx} {X : Cx} {I H I' H' : Hp} {σ σ' : St} {c c' : Ctx} {ts ts' : List (D × V)} {O O' : Addr → Option Ow} {lk lk' : List (Nat × List Nat × V)} {pos : Pos}
theorem tS.mono {m : Ctx → SR} {D D' : Ends} (h : tS A W m D σ H) (hn : ∀ σ H, D.nx σ H → D'.nx σ H) (hb : ∀ σ H, D.bk σ H → D'.bk σ H) (hc : ∀ σ H, D.ct σ H → D'.ct σ H) (hr : ∀ v H, D.rt v H → D'.rt v H) : tS A W m D' σ H := by
  obtain ⟨I, c, O, lk, S, h⟩ := h
  refine ⟨I, c, O, lk, S, ?_⟩
  cases e : m c with
  | bad => rw [e] at h; exact h
  | exc k n x c1 => rw [e] at h; exact h
  | nx c1 => rw [e] at h; exact fun σ' I' H' O' S' => hn _ _ (h σ' I' H' O' S')
  | bk c1 => rw [e] at h; exact fun σ' I' H' O' S' => hb _ _ (h σ' I' H' O' S')
  | ct c1 => rw [e] at h; exact fun σ' I' H' O' S' => hc _ _ (h σ' I' H' O' S')
  | rt d c1 => rw [e] at h; exact fun v σ' I' H' O' S' => hr _ _ (h v σ' I' H' O' S')
theorem PSs_nil : PSs X [] (tS A W sNx) := PSs.imp pss_nil fun D σ H ⟨I, c, O, lk, S, h⟩ => h σ I H O S
theorem PSs_cons {s : Stmt} {ss : List Stmt} {a b : Ctx → SR} (h1 : PS X s (tS A W a)) (h2 : PSs X ss (tS A W b)) : PSs X (s :: ss) (tS A W (sSeq a b)) := PSs.imp (pss_cons h1 h2) fun D σ H ⟨I, c, O, lk, S, h⟩ => by
  refine ⟨I, c, O, lk, S, ?_⟩
  rw [sSeq] at h
  cases e : a c with
  | nx c1 =>
    rw [e] at h
    exact fun σ' I' H' O' S' => ⟨I', c1, O', lk, S', h⟩
  | bad => rw [e] at h; exact h
  | exc k n x c1 => rw [e] at h; exact h
  | bk c1 => rw [e] at h; exact h
  | ct c1 => rw [e] at h; exact h
  | rt d c1 => rw [e] at h; exact h
theorem PSs_one {s : Stmt} {a : Ctx → SR} (h1 : PS X s (tS A W a)) : PSs X [s] (tS A W a) := pss_one h1
theorem PS_if {t : Expr} {sa sb : List Stmt} {mt : Ctx → TR} {a b : Ctx → SR} (ht : PT X t (tT A W mt)) (ha : PSs X sa (tS A W a)) (hb : PSs X sb (tS A W b)) : PS X (.If t sa sb pos) (tS A W (sIf mt a b)) := PS.imp (ps_if ht ha hb) fun D σ H ⟨I, c, O, lk, S, h⟩ => by
  refine ⟨I, c, [], O, lk, S, ?_⟩
  rw [sIf] at h
  cases e : mt c with
  | bad => rw [e] at h; exact h
  | exc k n x c1 => rw [e] at h; exact h σ
  | ok k c1 =>
    rw [e] at h
    intro I1 H1 O1 S1
    cases k with
    | true => exact iteT ⟨I1, c1, O1, lk, S1, h⟩
    | false => exact iteF ⟨I1, c1, O1, lk, S1, h⟩
theorem PS_expr {e : Expr} {m : Ctx → ER} (h : PE X e (tE A W m)) (hs : swapsWith e none pos.line X.env = pure false := by rfl) : PS X (.Expr e pos) (tS A W (sExpr m)) := PS.imp (ps_expr h hs) fun D σ H ⟨I, c, O, lk, S, h⟩ => by
  refine ⟨I, c, [], O, lk, S, ?_⟩
  rw [sExpr] at h
  cases e : m c with
  | bad => rw [e] at h; exact h
  | exc k n x c1 => rw [e] at h; exact h σ
  | ok ev c1 =>
    rw [e] at h
    cases ev with
    | t d => exact fun v I1 H1 O1 S1 => h σ I1 H1 O1 S1.pop
    | pl r p => exact fun v I1 H1 O1 S1 _ => h σ I1 H1 O1 S1
theorem PS_doc {x j p q} : PS X (.Expr (.Constant (.str x) j p) q) (tS A W sNx) := PS.imp ps_doc fun D σ H ⟨I, c, O, lk, S, h⟩ => h σ I H O S
theorem PS_pass : PS X (.Pass pos) (tS A W sNx) := PS.imp ps_pass fun D σ H ⟨I, c, O, lk, S, h⟩ => h σ I H O S
theorem PS_bk : PS X (.Break pos) (tS A W sBk) := PS.imp ps_break fun D σ H ⟨I, c, O, lk, S, h⟩ => h σ I H O S
theorem PS_ct : PS X (.Continue pos) (tS A W sCt) := PS.imp ps_continue fun D σ H ⟨I, c, O, lk, S, h⟩ => h σ I H O S
theorem PS_ret {e : Expr} {m : Ctx → ER} (h : PE X e (tE A W m)) : PS X (.Return (some e) pos) (tS A W (sRet m)) := PS.imp (ps_ret h) fun D σ H ⟨I, c, O, lk, S, h⟩ => by
  refine ⟨I, c, [], O, lk, S, ?_⟩
  rw [sRet] at h
  cases e : m c with
  | bad => rw [e] at h; exact h.elim
  | exc k n x c1 => rw [e] at h; exact h σ
  | ok ev c1 =>
    rw [e] at h
    cases ev with
    | t d => exact fun v I1 H1 O1 S1 => h v σ I1 H1 O1 S1
    | pl r p => exact h.elim
theorem PS_retN : PS X (.Return none pos) (tS A W sRetN) := PS.imp ps_retN fun D σ H ⟨I, c, O, lk, S, h⟩ => h .non σ I H O (S.push (by rw [R]; exact ⟨rfl, rfl⟩))

/-- an alias is laid at slot i -/
theorem Sat.alias {i r : Nat} {p : List Nat} {v : V} (S : Sat A I H σ c ts O lk) (pv : PV A I H σ c O r p v) (nk : i ∉ c.kr) (hi : i < c.s.length) (ne : r ≠ i) : Sat A I H (σ.set i (some v)) { c with s := (dropAl i c.s).set i (.al r p) } ts O lk := by
  have S1 := S.forget (i := i) nk
  have S2 : Sat A I H (σ.set i (some v)) { c with s := (dropAl i c.s).set i .no } ts O lk := S1.weakσ (List.length_set ..) (fun j d e => by
      rcases set_cases (show ((dropAl i c.s).set i .no)[j]? = _ from e) with ⟨_, z, _⟩ | ⟨hj, _⟩
      · cases z
      · exact List.getElem?_set_ne (Ne.symm hj)) fun j r p e => by
      rcases set_cases (show ((dropAl i c.s).set i .no)[j]? = _ from e) with ⟨_, z, _⟩ | ⟨hj, _⟩
      · cases z
      · exact List.getElem?_set_ne (Ne.symm hj)
  have pv2 : ∀ {r : Nat} {p : List Nat} {v' : V} {sl : Sl}, r ≠ i → PV A I H (σ.set i (some v)) { c with s := (dropAl i c.s).set i .no } O r p v' → PV A I H (σ.set i (some v)) { c with s := (dropAl i c.s).set i sl } O r p v' := fun {r p v' sl} hr pv => pv.keep (leH.refl _) (fun _ _ => rfl) (fun _ e => e) (by
      show ((dropAl i c.s).set i sl)[r]? = ((dropAl i c.s).set i .no)[r]?
      rw [List.getElem?_set_ne (Ne.symm hr), List.getElem?_set_ne (Ne.symm hr)]) rfl
  have neR : ∀ {r : Nat} {p : List Nat} {v' : V}, PV A I H (σ.set i (some v)) { c with s := (dropAl i c.s).set i .no } O r p v' → r ≠ i := fun {r p v'} ⟨d, _, _, e1, _⟩ z => by
    subst z
    rcases set_cases (show ((dropAl r c.s).set r .no)[r]? = _ from e1) with ⟨_, z, _⟩ | ⟨z, _⟩
    · cases z
    · exact z rfl
  refine ⟨S2.ih, S2.bh, S2.i0, S2.ib, ?_, fun j d e => ?_, fun j r' p' e => ?_, S2.tmps, fun r' p' v' e => ?_, S2.lke, S2.fr⟩
  · rw [S2.len]
    show ((dropAl i c.s).set i .no).length = ((dropAl i c.s).set i (.al r p)).length
    rw [List.length_set, List.length_set]
  · rcases set_cases (show ((dropAl i c.s).set i (.al r p))[j]? = _ from e) with ⟨_, z, _⟩ | ⟨hj, e⟩
    · cases z
    · exact S2.vals j d (by
        show ((dropAl i c.s).set i .no)[j]? = _
        rw [List.getElem?_set_ne (Ne.symm hj)]
        exact e)
  · rcases set_cases (show ((dropAl i c.s).set i (.al r p))[j]? = _ from e) with ⟨rfl, z, _⟩ | ⟨hj, e⟩
    · cases z
      refine ⟨v, List.getElem?_set_self (by rw [S.len]; exact hi), ?_⟩
      obtain ⟨d, v0, d', e1, e2, e3, e4, va⟩ := pv
      refine ⟨d, v0, d', ?_, (List.getElem?_set_ne (Ne.symm ne)).trans e2, e3, e4, va⟩
      show ((dropAl j c.s).set j (.al r p))[r]? = _
      rw [List.getElem?_set_ne (Ne.symm ne)]
      exact dropAl_v.mpr e1
    · obtain ⟨w, e1, h⟩ := S2.als j r' p' (by
        show ((dropAl i c.s).set i .no)[j]? = _
        rw [List.getElem?_set_ne (Ne.symm hj)]
        exact e)
      exact ⟨w, e1, pv2 (neR h) h⟩
  · have h := S2.lks r' p' v' e
    exact pv2 (neR h) h
theorem tAsg_of {i : Nat} {m : Ctx → ER} {D : Ends} (h : tS A W (sSet i m) D σ H) : tAsg (tE A W m) (gName i) D σ H := by
  obtain ⟨I, c, O, lk, S, h⟩ := h
  refine ⟨I, c, [], O, lk, S, ?_⟩
  rw [sSet] at h
  cases e : m c with
  | bad => rw [e] at h; exact h.elim
  | exc k n x c1 => rw [e] at h; exact h σ
  | ok ev c1 =>
    rw [e] at h
    cases ev with
    | t d =>
      dsimp only at h
      intro v I1 H1 O1 S1
      by_cases hn : (c1.kr.contains i || !decide (i < c1.s.length)) = true
      · rw [if_pos hn] at h
        exact h.elim
      · rw [if_neg hn] at h
        simp only [Bool.or_eq_true, not_or, Bool.not_eq_true, Bool.not_eq_false', decide_eq_true_eq, List.contains_eq_mem, decide_eq_false_iff_not] at hn
        obtain ⟨O2, S2⟩ := S1.store (i := i) hn.1 hn.2
        exact h _ I1 H1 O2 S2
    | pl r p =>
      dsimp only at h
      intro v I1 H1 O1 S1 pv
      by_cases hn : (c1.kr.contains i || !decide (i < c1.s.length) || r == i) = true
      · rw [if_pos hn] at h
        exact h.elim
      · rw [if_neg hn] at h
        simp only [Bool.or_eq_true, not_or, Bool.not_eq_true, Bool.not_eq_false', decide_eq_true_eq, List.contains_eq_mem, decide_eq_false_iff_not, beq_eq_false_iff_ne] at hn
        exact h _ I1 H1 O1 (S1.alias pv hn.1.1 hn.1.2 hn.2)
theorem PS_set {i : Nat} {x : Str} {e : Expr} {m : Ctx → ER} {pos' : Pos} (hN : X.N.Nodup) (hi : X.N[i]? = some x) (hx : Loc X.env.scope x) (he : PE X e (tE A W m)) (hs : swapsWith e (some (.Name x pos')) pos.line X.env = pure false := by rfl) (hf : X.fn x = true ∨ X.env.scope.names.lookup x = some .local := by first | exact .inl rfl | exact .inr rfl | assumption) :
    PS X (.Assign [.Name x pos'] e pos) (tS A W (sSet i m)) := PS.imp (ps_set hN hi hx he hs hf) fun D σ H h => tAsg_of h
/-- name = [..], the stores exchanged -/
theorem PS_setCmp {i : Nat} {y : Str} {py : Pos} {elt tg iter : Expr} {ifs : List Expr} {scope : Scope} {own : List (Str × Nat)} {p2 : Pos} {it : Ctx → IR} {t : Tg} {test : Ctx → TR} {me : Ctx → ER} (hc : X.calm = true) (hN : X.N.Nodup) (hy : X.N[i]? = some y) (hyl : X.env.scope.names.lookup y = some .local)
    (hsw : swapsWith (.ListComp elt [⟨tg, iter, ifs, 0⟩] scope p2) (some (.Name y py)) pos.line X.env = pure true) (ht : slotsT t = own.map (·.2)) (hi : PI X tg iter (tI A W it)) (ok : BlkOk X.N X.env.scope scope own)
    (hg : ∀ (s : Shared) (H : Hp) (C : Addr) (cl : List (Str × Addr)) (fp : List Addr) (J : Hp), PG (X.blk s H scope (compEnvC scope cl C X.env) fp) tg (tG (A.at J) t))
    (htt : ∀ (s : Shared) (H : Hp) (C : Addr) (cl : List (Str × Addr)) (fp : List Addr), PTs (X.blk s H scope (compEnvC scope cl C X.env) fp) ifs (tTx A W0 test))
    (he : ∀ (s : Shared) (H : Hp) (C : Addr) (cl : List (Str × Addr)) (fp : List Addr) (J : Hp), PE (X.blk s H scope (compEnvC scope cl C X.env) fp) elt (tE (A.at J) W0 me)) (hs : ∀ x, foldedSetIterable iter X.env x = pure x := by intro _; rfl) :
    PS X (.Assign [.Name y py] (.ListComp elt [⟨tg, iter, ifs, 0⟩] scope p2) pos) (tS A W (sSet i (eCmp (own.map (·.2)) it t test me))) :=
  PS.imp (ps_setLc hc hN hy hyl hsw hi ok (fun s H C cl fp => PG_ex (hg s H C cl fp)) htt (fun s H C cl fp => PE_ex (he s H C cl fp)) hs) fun D σ H h => by
    have h2 := tAsg_of h
    exact tLc_of ht h2

/-! ### for, while -/
def forLoop (t : Tg) (body : Ctx → SR) : List D → Ctx → SR
  | [], c => .nx c
  | x :: xs, c => match bindT t x c with
    | none => .bad
    | some c1 => match body c1 with
      | .nx c2 => forLoop t body xs c2
      | .ct c2 => forLoop t body xs c2
      | .bk c2 => .nx c2
      | r => r
def sFor (it : Ctx → IR) (t : Tg) (body : Ctx → SR) : Ctx → SR := fun c => match it c with
  | .ok xs c1 => forLoop t body xs c1
  | .exc k n x c1 => .exc k n x c1
  | .bad => .bad
def tSx (A : Act) (W : Wx) (m : Ctx → SR) : TS := fun D σ H => ∃ J, tS (A.at J) W m D σ H
theorem PSs_ex {ss : List Stmt} {m : Ctx → SR} (h : ∀ J, PSs X ss (tS (A.at J) W m)) : PSs X ss (tSx A W m) := ⟨fun pins s σ H D I ⟨J, x⟩ => (h J).run pins s σ H D I x⟩
theorem XP.at {J : Hp} {k : Nat} {n : Str} {x : D} (S0 : Sat A J H σ c ts O lk) (h : XP A W σ' ts' lk' k n x c') : XP (A.at J) W σ' ts' lk' k n x c' := fun d v I1 H1 O1 S i r => h d v I1 H1 O1 (S0.out S) i r
/-- what is wanted behind an outcome -/
def SPost (A : Act) (W : Wx) (lk : List (Nat × List Nat × V)) (D : Ends) : SR → Prop
  | .nx c' => ∀ σ' I' H' O', Sat A I' H' σ' c' [] O' lk → D.nx σ' H'
  | .bk c' => ∀ σ' I' H' O', Sat A I' H' σ' c' [] O' lk → D.bk σ' H'
  | .ct c' => ∀ σ' I' H' O', Sat A I' H' σ' c' [] O' lk → D.ct σ' H'
  | .rt d c' => ∀ v σ' I' H' O', Sat A I' H' σ' c' [(d, v)] O' lk → D.rt v H'
  | .exc k n x c' => ∀ σ', XP A W σ' [] lk k n x c'
  | .bad => False
theorem tS_iff {m : Ctx → SR} {D : Ends} : tS A W m D σ H ↔ ∃ I c O lk, Sat A I H σ c [] O lk ∧ SPost A W lk D (m c) := by
  constructor
  · rintro ⟨I, c, O, lk, S, h⟩
    refine ⟨I, c, O, lk, S, ?_⟩
    cases e : m c <;> rw [e] at h <;> exact h
  · rintro ⟨I, c, O, lk, S, h⟩
    refine ⟨I, c, O, lk, S, ?_⟩
    cases e : m c <;> rw [e] at h <;> exact h
theorem SPost.at {J : Hp} {D : Ends} {r : SR} (S0 : Sat A J H σ c ts O lk) (h : SPost A W lk D r) : SPost (A.at J) W lk D r := by
  cases r with
  | nx c1 => exact fun σ' I' H' O' S' => h σ' I' H' O' (S0.out S')
  | bk c1 => exact fun σ' I' H' O' S' => h σ' I' H' O' (S0.out S')
  | ct c1 => exact fun σ' I' H' O' S' => h σ' I' H' O' (S0.out S')
  | rt d c1 => exact fun v σ' I' H' O' S' => h v σ' I' H' O' (S0.out S')
  | exc k n x c1 => exact fun σ' => XP.at S0 (h σ')
  | bad => exact h
theorem tFor_of {it : Ctx → IR} {t : Tg} {body : Ctx → SR} {D : Ends} (h : tS A W (sFor it t body) D σ H) : tFor (tI A W it) (tGx A t) (tSx A W body) D σ H := by
  obtain ⟨I, c, O, lk, S, h⟩ := tS_iff.mp h
  refine ⟨I, c, [], O, lk, S, ?_⟩
  rw [sFor] at h
  cases e : it c with
  | bad => rw [e] at h; exact h
  | exc k n x c1 => rw [e] at h; exact h σ
  | ok xs c1 =>
    rw [e] at h
    dsimp only at h
    intro J I1 H1 O1 S1 wk
    refine ⟨fun i m σ2 H2 => m = xs.length - i ∧ i ≤ xs.length ∧ ∃ I2 c2 O2, Sat (A.at I1) I2 H2 σ2 c2 [] O2 lk ∧ SPost A W lk D (forLoop t body (xs.drop i) c2), ⟨xs.length, rfl, Nat.zero_le _, I1, c1, O1, S1.inn, h⟩, ?_⟩
    rintro i m σ2 H2 ⟨rfl, hi, I2, c2, O2, S2, lf⟩
    by_cases hlt : i < xs.length
    · right
      have hx : xs[i]? = some xs[i] := List.getElem?_eq_getElem hlt
      rw [List.drop_eq_getElem_cons hlt, forLoop] at lf
      obtain ⟨go, yld⟩ := wk.go i xs[i] I2 H2 hx S2.i0 S2.ih S2.bh
      refine ⟨go, fun σ3 H3 => ∃ I3 c3 O3, Sat (A.at I1) I3 H3 σ3 c3 [] O3 lk ∧ SPost A W lk D (forLoop t body (xs.drop (i + 1)) c3), fun σ3 H3 hn => ⟨xs.length - (i + 1), by omega, rfl, hlt, hn⟩, fun v H3 hy => ?_⟩
      obtain ⟨I3, rs⟩ := yld v H3 hy
      obtain ⟨O3, S3⟩ := (rs.at (J := I1)).sat (ts := []) (xs := []) S2
      have rx : R A.g I3 A.B H3 xs[i] v [] := S3.last.nil (wk.no i _ hx)
      cases eb : bindT t xs[i] c2 with
      | none => rw [eb] at lf; exact lf.elim
      | some c4 =>
        rw [eb] at lf
        dsimp only at lf
        refine ⟨I1, tG_of (ts := []) (Sat.pop (ts := []) (xs := [(xs[i], v)]) S3) rx eb fun σ4 O4 S4 df => ⟨I1, tS_iff.mpr ⟨I3, c4, O4, lk, S4, ?_⟩⟩⟩
        cases e2 : body c4 with
        | nx c5 => rw [e2] at lf; exact fun σ' I' H' O' S' => ⟨I', c5, O', S', lf⟩
        | ct c5 => rw [e2] at lf; exact fun σ' I' H' O' S' => ⟨I', c5, O', S', lf⟩
        | bk c5 => rw [e2] at lf; exact fun σ' I' H' O' S' => lf σ' I' H' O' (S1.out S')
        | rt d c5 => rw [e2] at lf; exact SPost.at (r := .rt d c5) S1 lf
        | exc k n x c5 => rw [e2] at lf; exact SPost.at (r := .exc k n x c5) S1 lf
        | bad => rw [e2] at lf; exact lf
    · left
      have e3 : i = xs.length := by omega
      subst e3
      rw [List.drop_length, forLoop] at lf
      exact ⟨wk.stop I2 H2 S2.i0 S2.ih S2.bh, lf σ2 I2 H2 O2 (S1.out S2)⟩
theorem PS_for {tg iter : Expr} {sb : List Stmt} {it : Ctx → IR} {t : Tg} {body : Ctx → SR} (hp : PassesOwn (model X.prog X.w) X.A X.env X.xe) (hc : X.calm = true) (hi : PI X tg iter (tI A W it)) (hg : ∀ J, PG X tg (tG (A.at J) t)) (hb : ∀ J, PSs X sb (tS (A.at J) W body))
    (hs : ∀ x, foldedSetIterable iter X.env x = pure x := by intro _; rfl) : PS X (.For tg iter sb [] pos) (tS A W (sFor it t body)) := PS.imp (ps_for hp hc hi (PG_ex hg) (PSs_ex hb) hs) fun D σ H h => tFor_of h

/-- while, at most n turns -/
def whileN (t : Ctx → TR) (body : Ctx → SR) : Nat → Ctx → SR
  | 0, _ => .bad
  | n + 1, c => match t c with
    | .ok true c1 => match body c1 with
      | .nx c2 => whileN t body n c2
      | .ct c2 => whileN t body n c2
      | .bk c2 => .nx c2
      | r => r
    | .ok false c1 => .nx c1
    | .exc k n x c1 => .exc k n x c1
    | .bad => .bad
def fuel : Nat := 10 ^ 18
def sWhile (t : Ctx → TR) (body : Ctx → SR) : Ctx → SR := whileN t body fuel
theorem tWhile_of {t : Ctx → TR} {body : Ctx → SR} {D : Ends} (h : tS A W (sWhile t body) D σ H) : tWhile (tT A W t) (tS A W body) D σ H := by
  obtain ⟨I, c, O, lk, S, h⟩ := tS_iff.mp h
  refine ⟨fun m σ2 H2 => ∃ I2 c2 O2, Sat A I2 H2 σ2 c2 [] O2 lk ∧ SPost A W lk D (whileN t body m c2), ⟨fuel, I, c, O, S, h⟩, ?_⟩
  rintro m σ2 H2 ⟨I2, c2, O2, S2, lf⟩
  cases m with
  | zero => rw [whileN] at lf; exact lf.elim
  | succ m =>
    rw [whileN] at lf
    refine ⟨I2, c2, [], O2, lk, S2, ?_⟩
    cases e : t c2 with
    | bad => rw [e] at lf; exact lf
    | exc k n x c1 => rw [e] at lf; exact lf σ2
    | ok b c3 =>
      rw [e] at lf
      intro I3 H3 O3 S3
      cases b with
      | false => exact iteF (lf σ2 I3 H3 O3 S3)
      | true =>
        dsimp only at lf
        refine iteT ⟨fun σ' H' => ∃ I2 c2 O2, Sat A I2 H' σ' c2 [] O2 lk ∧ SPost A W lk D (whileN t body m c2), fun σ' H' q => ⟨m, Nat.lt_succ_self _, q⟩, tS_iff.mpr ⟨I3, c3, O3, lk, S3, ?_⟩⟩
        cases e2 : body c3 with
        | nx c5 => rw [e2] at lf; exact fun σ' I' H' O' S' => ⟨I', c5, O', S', lf⟩
        | ct c5 => rw [e2] at lf; exact fun σ' I' H' O' S' => ⟨I', c5, O', S', lf⟩
        | bk c5 => rw [e2] at lf; exact lf
        | rt d c5 => rw [e2] at lf; exact lf
        | exc k n x c5 => rw [e2] at lf; exact lf
        | bad => rw [e2] at lf; exact lf
theorem PS_while {e : Expr} {sb : List Stmt} {t : Ctx → TR} {body : Ctx → SR} (hp : PassesOwn (model X.prog X.w) X.A X.env X.xe) (ht : PT X e (tT A W t)) (hb : PSs X sb (tS A W body)) : PS X (.While e sb [] pos) (tS A W (sWhile t body)) := PS.imp (ps_while hp ht hb) fun D σ H h => tWhile_of h
end
end Lc
end
section
set_option Elab.async false
set_option linter.all false
set_option maxRecDepth 100000
set_option maxHeartbeats 1000000
namespace Lc
open PySem L2

/-! ### a place is changed -/
/-- what is left of a way behind another one -/
def strip : List Nat → List Nat → Option (List Nat)
  | [], q => some q
  | n :: p, m :: q => if n = m then strip p q else none
  | _ :: _, [] => none

theorem tup_own {g : Gs} {H : Hp} {q : Addr} {vs ws : List V} {k : Kd} (hi : H q = some (.tup vs)) (ho : OwnC g H k q ws) : False := by
  cases k with
  | lst => cases hi.symm.trans ho
  | scr => exact ho.elim
  | dct ks => cases hi.symm.trans ho.2
  | dcT ks => cases hi.symm.trans ho.2
  | obj cc ns =>
    obtain ⟨_, dx, ho⟩ := ho
    cases hi.symm.trans ho
theorem RL.get2 {g : Gs} {I B H : Hp} : ∀ {xs : List D} {vs : List V} {fp : List Addr} {n : Nat} {x : D}, RL g I B H xs vs fp → xs[n]? = some x → ∃ v fm, vs[n]? = some v ∧ R g I B H x v fm ∧ ∀ a ∈ fm, a ∈ fp
  | [], _, _, _, _, _, e => by simp at e
  | y :: ys, vs, fp, 0, x, h, e => by
    rw [RL] at h
    obtain ⟨v, vr, f1, f2, rfl, rfl, h1, h2⟩ := h
    have e : y = x := by simpa using e
    subst e
    exact ⟨v, f1, rfl, h1, fun a ha => by simp [ha]⟩
  | y :: ys, vs, fp, n + 1, x, h, e => by
    rw [RL] at h
    obtain ⟨v, vr, f1, f2, rfl, rfl, h1, h2⟩ := h
    have e : ys[n]? = some x := by simpa using e
    obtain ⟨w, fm, e1, r, s⟩ := RL.get2 h2 e
    exact ⟨w, fm, by simpa using e1, r, fun a ha => by simp [s a ha]⟩
/-- RL.at, and the other ones lie outside -/
theorem RL.at2 {g : Gs} {I B H : Hp} : ∀ {xs : List D} {vs : List V} {fp : List Addr} {n : Nat} {x : D}, RL g I B H xs vs fp → xs[n]? = some x →
    ∃ v fa fn fb, vs[n]? = some v ∧ fp = fa ++ fn ++ fb ∧ R g I B H x v fn ∧
      (∀ {I' H' : Hp} {x' : D} {v' : V} {fn' : List Addr}, leH I I' → R g I' B H' x' v' fn' → (∀ a ∈ fa ++ fb, H' a = H a) → RL g I' B H' (xs.set n x') (vs.set n v') (fa ++ fn' ++ fb)) ∧
      ∀ (m : Nat) (y : D), m ≠ n → xs[m]? = some y → ∃ w fm, vs[m]? = some w ∧ R g I B H y w fm ∧ ∀ a ∈ fm, a ∈ fa ++ fb
  | [], _, _, _, _, _, e => by simp at e
  | y :: ys, vs, fp, 0, x, h, e => by
    rw [RL] at h
    obtain ⟨v, vr, f1, f2, rfl, rfl, h1, h2⟩ := h
    have e : y = x := by simpa using e
    subst e
    refine ⟨v, [], f1, f2, rfl, by simp, h1, fun {I' H' x' v' fn'} i h' k => ?_, fun m z hm hz => ?_⟩
    · rw [List.set_cons_zero, List.set_cons_zero, RL]
      exact ⟨v', vr, fn', f2, rfl, by simp, h', RL.keep ys h2 i (leH.refl _) fun a ha => k a (by simpa using ha)⟩
    · cases m with
      | zero => exact absurd rfl hm
      | succ m =>
        obtain ⟨w, fm, e1, r, s⟩ := RL.get2 h2 (show ys[m]? = some z by simpa using hz)
        exact ⟨w, fm, by simpa using e1, r, fun a ha => by simp [s a ha]⟩
  | y :: ys, vs, fp, n + 1, x, h, e => by
    rw [RL] at h
    obtain ⟨v, vr, f1, f2, rfl, rfl, h1, h2⟩ := h
    have e : ys[n]? = some x := by simpa using e
    obtain ⟨w, fa, fn, fb, e1, rfl, r, up, oth⟩ := RL.at2 h2 e
    refine ⟨w, f1 ++ fa, fn, fb, by simpa using e1, by simp, r, fun {I' H' x' v' fn'} i h' k => ?_, fun m z hm hz => ?_⟩
    · rw [List.set_cons_succ, List.set_cons_succ, RL]
      refine ⟨v, vr.set n v', f1, fa ++ fn' ++ fb, rfl, by simp, R.keep y h1 i (leH.refl _) fun a ha => k a (by simp [ha]), up i h' fun a ha => k a ?_⟩
      rcases List.mem_append.mp ha with ha | ha <;> simp [ha]
    · cases m with
      | zero =>
        have hz : y = z := by simpa using hz
        subst hz
        exact ⟨v, f1, rfl, h1, fun a ha => by simp [ha]⟩
      | succ m =>
        obtain ⟨w2, fm, e2, r2, s⟩ := oth m z (fun z => hm (by rw [z])) (by simpa using hz)
        refine ⟨w2, fm, by simpa using e2, r2, fun a ha => ?_⟩
        rcases List.mem_append.mp (s a ha) with ha | ha <;> simp [ha]

theorem noOwn_setP : ∀ (p : List Nat) {d d0 e : D}, getP d p = some d0 → Lc.noOwn e = false → Lc.noOwn (setP d p e) = false
  | [], d, d0, e, _, n => by
    rw [setP]
    exact n
  | n :: p, .tup xs, d0, e, h, no => by
    rw [getP] at h
    cases hx : xs[n]? with
    | none =>
      rw [hx] at h
      cases h
    | some x =>
      rw [hx] at h
      rw [setP, hx]
      dsimp only
      rw [Lc.noOwn]
      have := noOwn_setP p (show getP x p = some d0 from h) no
      cases q : noOwnL (xs.set n (setP x p e)) with
      | false => rfl
      | true =>
        have hl := (List.getElem?_eq_some_iff.mp hx).1
        have z := noOwnL_get q (show (xs.set n (setP x p e))[n]? = some (setP x p e) from List.getElem?_set_self hl)
        rw [this] at z
        cases z
  | n :: p, .nd kd .own xs, d0, e, h, no => by
    rw [getP] at h
    cases hx : xs[n]? with
    | none =>
      rw [hx] at h
      cases h
    | some x =>
      rw [hx] at h
      rw [setP, hx]
      dsimp only
      rw [Lc.noOwn]
  | n :: p, .nd kd .frz xs, d', e, h, no => by rw [getP] at h <;> first | cases h | (intros; contradiction)
  | n :: p, .nd kd .bor xs, d', e, h, no => by rw [getP] at h <;> first | cases h | (intros; contradiction)
  | n :: p, .non, d', e, h, no => by rw [getP] at h <;> first | cases h | (intros; contradiction)
  | n :: p, .bl _, d', e, h, no => by rw [getP] at h <;> first | cases h | (intros; contradiction)
  | n :: p, .int _, d', e, h, no => by rw [getP] at h <;> first | cases h | (intros; contradiction)
  | n :: p, .str _, d', e, h, no => by rw [getP] at h <;> first | cases h | (intros; contradiction)
  | n :: p, .ty _, d', e, h, no => by rw [getP] at h <;> first | cases h | (intros; contradiction)
  | n :: p, .exn _ _ _, d', e, h, no => by rw [getP] at h <;> first | cases h | (intros; contradiction)

/-- a way that a change leaves -/
def Surv (g : Gs) (I H I' H' : Hp) (S S' : Addr → Prop) (v : V) (d e : D) (q : List Nat) : Prop :=
  ∀ w x, getP d q = some x → Lc.noOwn x = false → VAt g I H S v q w → VAt g I' H' S' v q w ∧ ∃ x', getP e q = some x' ∧ Lc.noOwn x' = false

/-- R.place, and the ways that a change at the place leaves -/
theorem R.place2 {g : Gs} {I B H : Hp} (ih : leH I H) : ∀ (p : List Nat) {d d' : D} {v : V} {fp : List Addr}, R g I B H d v fp → getP d p = some d' → Lc.noOwn d' = false →
    ∃ w fa fn fb, fp = fa ++ fn ++ fb ∧ VAt g I H (fun a => a ∈ fp) v p w ∧ R g I B H d' w fn ∧ fn ≠ [] ∧
      ∀ {I' H' : Hp} {e : D} {fn' : List Addr}, leH I I' → R g I' B H' e w fn' → (∀ a ∈ fa ++ fb, H' a = H a) → R g I' B H' (setP d p e) v (fa ++ fn' ++ fb) ∧
        ∀ (S S' : Addr → Prop) (q : List Nat), Lc.noOwn e = false → (∀ a ∈ fa ++ fb, S' a) → (∀ q1, strip p q = some q1 → Surv g I H I' H' S S' w d' e q1) → Surv g I H I' H' S S' v d (setP d p e) q
  | [], d, d', v, fp, h, e, n => by
    rw [getP] at e
    cases e
    refine ⟨v, [], fp, [], by simp, rfl, h, fun z => ?_, fun {I' H' e fn'} i h' k => ⟨?_, fun S S' q _ _ su => ?_⟩⟩
    · rw [R.isNil d h z] at n
      cases n
    · rw [setP]
      simpa using h'
    · rw [setP]
      exact su q rfl
  | n :: p, .tup xs, d', v, fp, h, e, no => by
    rw [getP] at e
    cases hx : xs[n]? with
    | none =>
      rw [hx] at e
      cases e
    | some x =>
      rw [hx] at e
      rw [R] at h
      obtain ⟨q, vs, e1, t, h⟩ := h
      obtain ⟨v1, ga, gn, gb, hv, rfl, r, up, oth⟩ := RL.at2 h hx
      obtain ⟨w, fa, fn, fb, rfl, va, rw', ne, up2⟩ := R.place2 ih p r (show getP x p = some d' from e) no
      have tt := t.own (by simp [ne])
      refine ⟨w, ga ++ fa, fn, fb ++ gb, by simp, ⟨q, vs, v1, e1, .inl tt, hv, va.keep (leH.refl _) (fun _ _ => rfl) fun a ha => by simp only [List.mem_append] at ha ⊢; rcases ha with (ha | ha) | ha <;> simp [ha]⟩, rw', ne, fun {I' H' e' fn'} i h' k => ?_⟩
      have u2 := up2 i h' fun a ha => k a (by
        rcases List.mem_append.mp ha with ha | ha <;> simp [ha])
      have u := up i u2.1 fun a ha => k a (by
        rcases List.mem_append.mp ha with ha | ha <;> simp [ha])
      refine ⟨?_, fun S S' q2 nE hS su => ?_⟩
      · rw [setP, hx]
        dsimp only
        rw [R]
        refine ⟨q, vs, e1, .inl (i _ _ tt), ?_⟩
        have ev : vs.set n v1 = vs := by
          obtain ⟨hl, hv⟩ := List.getElem?_eq_some_iff.mp hv
          rw [← hv, List.set_getElem_self]
        rw [ev] at u
        simpa using u
      · intro w2 x2 g2 n2 va2
        have hl := (List.getElem?_eq_some_iff.mp hx).1
        cases q2 with
        | nil => exact ⟨va2, _, rfl, noOwn_setP (n :: p) (show getP (.tup xs) (n :: p) = some d' by rw [getP, hx]; exact e) nE⟩
        | cons m q3 =>
          obtain ⟨q', vs', v2, e1', h1', g1', va3⟩ := va2
          rw [e1] at e1'
          cases e1'
          have hvs : vs = vs' := by
            rcases h1' with h1' | ⟨_, k', h1'⟩
            · cases tt.symm.trans h1'
              rfl
            · exact (tup_own (ih _ _ tt) h1').elim
          subst hvs
          rw [getP] at g2
          by_cases hm : m = n
          · subst hm
            rw [hx] at g2
            rw [hv] at g1'
            cases g1'
            obtain ⟨va4, x', g4, n4⟩ := u2.2 S S' q3 nE (fun a ha => hS a (by rcases List.mem_append.mp ha with ha | ha <;> simp [ha])) (fun q1 hq1 => su q1 (by rw [strip, if_pos rfl]; exact hq1)) w2 x2 g2 n2 va3
            refine ⟨⟨q, vs, v1, e1, .inl (i _ _ tt), hv, va4⟩, x', ?_, n4⟩
            rw [setP, hx]
            dsimp only
            rw [getP, List.getElem?_set_self hl]
            exact g4
          · cases hx2 : xs[m]? with
            | none =>
              rw [hx2] at g2
              cases g2
            | some y =>
              rw [hx2] at g2
              obtain ⟨wm, fm, hwm, rm, sub⟩ := oth m y hm hx2
              rw [hwm] at g1'
              cases g1'
              obtain ⟨w3, _, _, _, _, va5, _⟩ := R.place q3 rm (show getP y q3 = some x2 from g2) n2
              have ew : w3 = w2 := va5.inj (fun q vs k ws hi ho => tup_own (ih _ _ hi) ho) va3
              subst ew
              refine ⟨⟨q, vs, _, e1, .inl (i _ _ tt), hwm, va5.keep i (fun a ha => k a ?_) fun a ha => hS a ?_⟩, x2, ?_, n2⟩
              · rcases List.mem_append.mp (sub a ha) with ha | ha <;> simp [ha]
              · rcases List.mem_append.mp (sub a ha) with ha | ha <;> simp [ha]
              · rw [setP, hx]
                dsimp only
                rw [getP, List.getElem?_set_ne (Ne.symm hm), hx2]
                exact g2
  | n :: p, .nd kd .own xs, d', v, fp, h, e, no => by
    rw [getP] at e
    cases hx : xs[n]? with
    | none =>
      rw [hx] at e
      cases e
    | some x =>
      rw [hx] at e
      rw [R] at h
      obtain ⟨q, vs, fq, e1, rfl, t, h⟩ := h
      obtain ⟨v1, ga, gn, gb, hv, rfl, r, up, oth⟩ := RL.at2 h hx
      obtain ⟨w, fa, fn, fb, rfl, va, rw', ne, up2⟩ := R.place2 ih p r (show getP x p = some d' from e) no
      refine ⟨w, q :: (ga ++ fa), fn, fb ++ gb, by simp, ⟨q, vs, v1, e1, .inr ⟨by simp, kd, t⟩, hv, va.keep (leH.refl _) (fun _ _ => rfl) fun a ha => by simp only [List.mem_append, List.mem_cons] at ha ⊢; rcases ha with (ha | ha) | ha <;> simp [ha]⟩, rw', ne, fun {I' H' e' fn'} i h' k => ?_⟩
      have u2 := up2 i h' fun a ha => k a (by
        rcases List.mem_append.mp ha with ha | ha <;> simp [ha])
      have u := up i u2.1 fun a ha => k a (by
        rcases List.mem_append.mp ha with ha | ha <;> simp [ha])
      have tq := t.at (k q (by simp))
      refine ⟨?_, fun S S' q2 nE hS su => ?_⟩
      · rw [setP, hx]
        dsimp only
        rw [R]
        refine ⟨q, vs, ga ++ (fa ++ fn' ++ fb) ++ gb, e1, by simp, tq, ?_⟩
        have ev : vs.set n v1 = vs := by
          obtain ⟨hl, hv⟩ := List.getElem?_eq_some_iff.mp hv
          rw [← hv, List.set_getElem_self]
        rw [ev] at u
        exact u
      · intro w2 x2 g2 n2 va2
        have hl := (List.getElem?_eq_some_iff.mp hx).1
        cases q2 with
        | nil => exact ⟨va2, _, rfl, noOwn_setP (n :: p) (show getP (.nd kd .own xs) (n :: p) = some d' by rw [getP, hx]; exact e) nE⟩
        | cons m q3 =>
          obtain ⟨q', vs', v2, e1', h1', g1', va3⟩ := va2
          rw [e1] at e1'
          cases e1'
          have hvs : vs = vs' := by
            rcases h1' with h1' | ⟨_, k', h1'⟩
            · exact (tup_own (ih _ _ h1') t).elim
            · exact t.inj h1'
          subst hvs
          rw [getP] at g2
          by_cases hm : m = n
          · subst hm
            rw [hx] at g2
            rw [hv] at g1'
            cases g1'
            obtain ⟨va4, x', g4, n4⟩ := u2.2 S S' q3 nE (fun a ha => hS a (by rcases List.mem_append.mp ha with ha | ha <;> simp [ha])) (fun q1 hq1 => su q1 (by rw [strip, if_pos rfl]; exact hq1)) w2 x2 g2 n2 va3
            refine ⟨⟨q, vs, v1, e1, .inr ⟨hS q (by simp), kd, tq⟩, hv, va4⟩, x', ?_, n4⟩
            rw [setP, hx]
            dsimp only
            rw [getP, List.getElem?_set_self hl]
            exact g4
          · cases hx2 : xs[m]? with
            | none =>
              rw [hx2] at g2
              cases g2
            | some y =>
              rw [hx2] at g2
              obtain ⟨wm, fm, hwm, rm, sub⟩ := oth m y hm hx2
              rw [hwm] at g1'
              cases g1'
              obtain ⟨w3, _, _, _, _, va5, _⟩ := R.place q3 rm (show getP y q3 = some x2 from g2) n2
              have ew : w3 = w2 := va5.inj (fun q vs k ws hi ho => tup_own (ih _ _ hi) ho) va3
              subst ew
              refine ⟨⟨q, vs, _, e1, .inr ⟨hS q (by simp), kd, tq⟩, hwm, va5.keep i (fun a ha => k a ?_) fun a ha => hS a ?_⟩, x2, ?_, n2⟩
              · rcases List.mem_append.mp (sub a ha) with ha | ha <;> simp [ha]
              · rcases List.mem_append.mp (sub a ha) with ha | ha <;> simp [ha]
              · rw [setP, hx]
                dsimp only
                rw [getP, List.getElem?_set_ne (Ne.symm hm), hx2]
                exact g2
  | n :: p, .nd kd .frz xs, d', v, fp, h, e, no => by rw [getP] at e <;> first | cases e | (intros; contradiction)
  | n :: p, .nd kd .bor xs, d', v, fp, h, e, no => by rw [getP] at e <;> first | cases e | (intros; contradiction)
  | n :: p, .non, d', v, fp, h, e, no => by rw [getP] at e <;> first | cases e | (intros; contradiction)
  | n :: p, .bl _, d', v, fp, h, e, no => by rw [getP] at e <;> first | cases e | (intros; contradiction)
  | n :: p, .int _, d', v, fp, h, e, no => by rw [getP] at e <;> first | cases e | (intros; contradiction)
  | n :: p, .str _, d', v, fp, h, e, no => by rw [getP] at e <;> first | cases e | (intros; contradiction)
  | n :: p, .ty _, d', v, fp, h, e, no => by rw [getP] at e <;> first | cases e | (intros; contradiction)
  | n :: p, .exn _ _ _, d', v, fp, h, e, no => by rw [getP] at e <;> first | cases e | (intros; contradiction)
end Lc
end
section
set_option Elab.async false
set_option linter.all false
set_option maxRecDepth 100000
set_option maxHeartbeats 1000000
namespace Lc
open PySem L2

/-! ### places of the store change -/
/-- a change: the slot, the place, the ways behind it that stay, the new tree -/
structure Chg where
  r : Nat
  p : List Nat
  keep : List Nat → Bool
  e : D
def Chg.dead (g : Chg) (q : List Nat) : Bool := match strip g.p q with
  | some q1 => !(g.keep q1)
  | none => false
def chgOf : List Chg → Nat → Option Chg
  | [], _ => none
  | g :: L, r => if g.r = r then some g else chgOf L r
def updS (L : List Chg) : Nat → List Sl → List Sl
  | _, [] => []
  | i, .v d :: s => (match chgOf L i with | some g => .v (setP d g.p g.e) | none => .v d) :: updS L (i + 1) s
  | i, .al r q :: s => (match chgOf L r with | some g => if g.dead q then .no else .al r q | none => .al r q) :: updS L (i + 1) s
  | i, .no :: s => .no :: updS L (i + 1) s
def lkOk (L : List Chg) (k : List (Nat × List Nat)) : Bool := k.all fun x => match chgOf L x.1 with | some g => !(g.dead x.2) | none => true
def updC (L : List Chg) (c : Ctx) : Ctx := { c with s := updS L 0 c.s }

theorem updS_len (L : List Chg) : ∀ (i : Nat) (s : List Sl), (updS L i s).length = s.length
  | _, [] => rfl
  | i, .v d :: s => by rw [updS, List.length_cons, List.length_cons, updS_len]
  | i, .al r q :: s => by rw [updS, List.length_cons, List.length_cons, updS_len]
  | i, .no :: s => by rw [updS, List.length_cons, List.length_cons, updS_len]
theorem updS_v {L : List Chg} : ∀ {s : List Sl} {i j : Nat} {d : D}, (updS L i s)[j]? = some (.v d) → ∃ d0, s[j]? = some (.v d0) ∧ ((chgOf L (i + j) = none ∧ d = d0) ∨ ∃ g, chgOf L (i + j) = some g ∧ d = setP d0 g.p g.e)
  | [], _, _, _, e => by simp [updS] at e
  | x :: s, i, j + 1, d, e => by
    have e2 : (updS L (i + 1) s)[j]? = some (.v d) := by
      cases x <;> simpa [updS] using e
    obtain ⟨d0, h1, h2⟩ := updS_v e2
    refine ⟨d0, by simpa using h1, ?_⟩
    have : i + (j + 1) = i + 1 + j := by omega
    rw [this]
    exact h2
  | .v d1 :: s, i, 0, d, e => by
    refine ⟨d1, rfl, ?_⟩
    rw [Nat.add_zero]
    rw [updS] at e
    cases q : chgOf L i with
    | none =>
      rw [q] at e
      simp only [List.getElem?_cons_zero, Option.some.injEq, Sl.v.injEq] at e
      exact .inl ⟨rfl, e.symm⟩
    | some g =>
      rw [q] at e
      simp only [List.getElem?_cons_zero, Option.some.injEq, Sl.v.injEq] at e
      exact .inr ⟨g, rfl, e.symm⟩
  | .al r1 q1 :: s, i, 0, d, e => by
    rw [updS] at e
    cases q : chgOf L r1 with
    | none =>
      rw [q] at e
      simp at e
    | some g =>
      rw [q] at e
      dsimp only at e
      by_cases z : g.dead q1 = true
      · rw [if_pos z] at e
        simp at e
      · rw [if_neg z] at e
        simp at e
  | .no :: s, i, 0, d, e => by
    rw [updS] at e
    simp at e
theorem updS_v2 {L : List Chg} : ∀ {s : List Sl} {i j : Nat} {d0 : D}, s[j]? = some (.v d0) → (updS L i s)[j]? = some (match chgOf L (i + j) with | some g => .v (setP d0 g.p g.e) | none => .v d0)
  | [], _, _, _, e => by simp at e
  | x :: s, i, j + 1, d, e => by
    have e2 : s[j]? = some (.v d) := by simpa using e
    have := updS_v2 (L := L) (i := i + 1) e2
    have hh : i + (j + 1) = i + 1 + j := by omega
    rw [hh, ← this]
    cases x <;> simp [updS]
  | .v d1 :: s, i, 0, d, e => by
    have e : d1 = d := by simpa using e
    subst e
    rw [updS, Nat.add_zero]
    rfl
  | .al r1 q1 :: s, i, 0, d, e => by simp at e
  | .no :: s, i, 0, d, e => by simp at e
theorem updS_al {L : List Chg} : ∀ {s : List Sl} {i j r : Nat} {q : List Nat}, (updS L i s)[j]? = some (.al r q) → s[j]? = some (.al r q) ∧ ∀ g, chgOf L r = some g → g.dead q = false
  | [], _, _, _, _, e => by simp [updS] at e
  | x :: s, i, j + 1, r, q, e => by
    have e2 : (updS L (i + 1) s)[j]? = some (.al r q) := by
      cases x <;> simpa [updS] using e
    obtain ⟨h1, h2⟩ := updS_al e2
    exact ⟨by simpa using h1, h2⟩
  | .v d1 :: s, i, 0, r, q, e => by
    rw [updS] at e
    cases z : chgOf L i with
    | none =>
      rw [z] at e
      simp at e
    | some g =>
      rw [z] at e
      simp at e
  | .al r1 q1 :: s, i, 0, r, q, e => by
    rw [updS] at e
    cases z : chgOf L r1 with
    | none =>
      rw [z] at e
      simp only [List.getElem?_cons_zero, Option.some.injEq, Sl.al.injEq] at e
      obtain ⟨rfl, rfl⟩ := e
      exact ⟨rfl, fun g hg => by rw [z] at hg; cases hg⟩
    | some g =>
      rw [z] at e
      dsimp only at e
      by_cases y : g.dead q1 = true
      · rw [if_pos y] at e
        simp at e
      · rw [if_neg y] at e
        simp only [List.getElem?_cons_zero, Option.some.injEq, Sl.al.injEq] at e
        obtain ⟨rfl, rfl⟩ := e
        refine ⟨rfl, fun g' hg => ?_⟩
        rw [z] at hg
        cases hg
        simpa using y
  | .no :: s, i, 0, r, q, e => by
    rw [updS] at e
    simp at e

section
variable {A : Act} {I H I' H' : Hp} {σ σ' : St} {c c' : Ctx} {ts xs : List (D × V)} {O O' : Addr → Option Ow} {lk : List (Nat × List Nat × V)} {d : D} {v : V} {w : Ow} {r : Nat} {p : List Nat}

/-- a place of the store, opened: the slot's tree d at v0, the tree d' at v, its cells fn, the others' fa, fb -/
structure Opn (A : Act) (I H : Hp) (σ : St) (c : Ctx) (O : Addr → Option Ow) (r : Nat) (p : List Nat) (v : V) (d d' : D) (v0 : V) (fa fn fb : List Addr) : Prop where
  slot : c.s[r]? = some (.v d)
  at0 : σ[r]? = some (some v0)
  get : getP d p = some d'
  no : Lc.noOwn d' = false
  va : VAt A.g I H (fun a => O a = some (.inl r)) v0 p v
  nd : (fa ++ fn ++ fb).Nodup
  lab : ∀ a ∈ fa ++ fn ++ fb, O a = some (.inl r)
  rel : R A.g I A.B H d' v fn
  ne : fn ≠ []
  put : ∀ {I' H' : Hp} {e : D} {fn' : List Addr}, leH I I' → R A.g I' A.B H' e v fn' → (∀ a ∈ fa ++ fb, H' a = H a) → R A.g I' A.B H' (setP d p e) v0 (fa ++ fn' ++ fb) ∧
        ∀ (S S' : Addr → Prop) (q : List Nat), Lc.noOwn e = false → (∀ a ∈ fa ++ fb, S' a) → (∀ q1, strip p q = some q1 → Surv A.g I H I' H' S S' v d' e q1) → Surv A.g I H I' H' S S' v0 d (setP d p e) q
theorem Sat.opn (S : Sat A I H σ c ts O lk) (h : PV A I H σ c O r p v) : ∃ d d' v0 fa fn fb, Opn A I H σ c O r p v d d' v0 fa fn fb := by
  obtain ⟨d, v0, d', e1, e2, e3, e4, va⟩ := h
  obtain ⟨v1, e5, fp, rr, nd, l⟩ := S.vals r d e1
  rw [e2] at e5
  cases e5
  obtain ⟨w, fa, fn, fb, rfl, va', rn, ne, up⟩ := R.place2 S.ih p rr e3 e4
  have ew : w = v := va'.inj (fun q vs k ws hi ho => tup_own (S.ih _ _ hi) ho) va
  subst ew
  exact ⟨d, d', v0, fa, fn, fb, e1, e2, e3, e4, va, nd, l, rn, ne, fun i h k => up i h k⟩

/-- a change that the heap has made -/
def Made (A : Act) (I H I' H' : Hp) (σ : St) (c : Ctx) (O O' : Addr → Option Ow) (g : Chg) : Prop :=
  ∃ v d d' v0 fa fn fb fn', Opn A I H σ c O g.r g.p v d d' v0 fa fn fb ∧ R A.g I' A.B H' g.e v fn' ∧ Lc.noOwn g.e = false ∧ (fa ++ fn' ++ fb).Nodup ∧ (∀ a ∈ fa ++ fb, H' a = H a) ∧ (∀ a ∈ fa ++ fn' ++ fb, O' a = some (.inl g.r)) ∧
    ∀ q1, g.keep q1 = true → Surv A.g I H I' H' (fun a => O a = some (.inl g.r)) (fun a => O' a = some (.inl g.r)) v d' g.e q1
theorem chgOf_r : ∀ {L : List Chg} {r : Nat} {g : Chg}, chgOf L r = some g → g.r = r
  | [], _, _, e => by cases e
  | g0 :: L, r, g, e => by
    rw [chgOf] at e
    by_cases h : g0.r = r
    · rw [if_pos h] at e
      cases e
      exact h
    · rw [if_neg h] at e
      exact chgOf_r e
theorem Sat.upd {L : List Chg} (S : Sat A I H σ c (ts ++ xs) O lk) (hI : leH I I') (hIH : leH I' H') (hB : leH A.B H') (hib : ∀ a o, I' a = some o → I a = some o ∨ A.B a = none)
    (un : ∀ a r, O a = some (.inl r) → chgOf L r = none → H' a = H a ∧ O' a = some (.inl r))
    (ut : ∀ a j, O a = some (.inr j) → j < ts.length → H' a = H a ∧ O' a = some (.inr j))
    (ch : ∀ r g, chgOf L r = some g → Made A I H I' H' σ c O O' g) (hk : lkOk L c.k = true)
    (hfr : ∀ a w, O' a = some w → I' a = none ∧ A.B a = none ∧ ∃ o, H' a = some o) : Sat A I' H' σ (updC L c) ts O' lk := by
  have pv : ∀ {r : Nat} {p : List Nat} {v : V}, PV A I H σ c O r p v → (∀ g, chgOf L r = some g → g.dead p = false) → PV A I' H' σ (updC L c) O' r p v := fun {r p v} h nd => by
    cases e : chgOf L r with
    | none =>
      obtain ⟨d, v0, d', e1, e2, e3, e4, va⟩ := h
      refine ⟨d, v0, d', ?_, e2, e3, e4, va.keep hI (fun a ha => (un a r ha e).1) fun a ha => (un a r ha e).2⟩
      show (updS L 0 c.s)[r]? = _
      rw [updS_v2 e1, Nat.zero_add, e]
    | some g =>
      obtain ⟨v1, d, d1, v0, fa, fn, fb, fn', op, rr, nE, hnd, hk, ho, su⟩ := ch r g e
      have er := chgOf_r e
      rw [er] at op ho su
      obtain ⟨d2, v02, d', e1, e2, e3, e4, va⟩ := h
      rw [op.slot] at e1
      cases e1
      rw [op.at0] at e2
      cases e2
      have key := (op.put hI rr hk).2 (fun a => O a = some (.inl r)) (fun a => O' a = some (.inl r)) p nE (fun a ha => ho a (by rcases List.mem_append.mp ha with ha | ha <;> simp [ha])) (fun q1 hq => su q1 (by
        have := nd g e
        rw [Chg.dead, hq] at this
        simpa using this))
      obtain ⟨va2, x', g2, n2⟩ := key v d' e3 e4 va
      refine ⟨_, v0, x', ?_, op.at0, g2, n2, va2⟩
      show (updS L 0 c.s)[r]? = _
      rw [updS_v2 op.slot, Nat.zero_add, e]
  refine ⟨hIH, hB, S.i0.trans hI, fun a o e => ?_, ?_, fun i d e => ?_, fun i r p e => ?_, fun j d v e => ?_, fun r p v e => ?_, S.lke, hfr⟩
  · rcases hib a o e with h | h
    · exact S.ib a o h
    · exact .inr h
  · show σ.length = (updS L 0 c.s).length
    rw [updS_len]
    exact S.len
  · obtain ⟨d0, e0, h⟩ := updS_v (show (updS L 0 c.s)[i]? = some (.v d) from e)
    rw [Nat.zero_add] at h
    rcases h with ⟨h, rfl⟩ | ⟨g, h, rfl⟩
    · obtain ⟨v, e1, ro⟩ := S.vals i _ e0
      exact ⟨v, e1, ro.keep hI (fun a ha => (un a i ha h).1) fun a ha => (un a i ha h).2⟩
    · obtain ⟨v1, d, d1, v0, fa, fn, fb, fn', op, rr, nE, hnd, hk, ho, su⟩ := ch i g h
      have er := chgOf_r h
      rw [er] at op ho
      rw [op.slot] at e0
      cases e0
      exact ⟨v0, op.at0, _, (op.put hI rr hk).1, hnd, ho⟩
  · obtain ⟨e0, h⟩ := updS_al (show (updS L 0 c.s)[i]? = some (.al r p) from e)
    obtain ⟨w, e1, h1⟩ := S.als i r p e0
    exact ⟨w, e1, pv h1 h⟩
  · have hj : j < ts.length := (List.getElem?_eq_some_iff.mp e).1
    exact (S.tmps j d v (by rw [List.getElem?_append_left hj]; exact e)).keep hI (fun a ha => (ut a j ha hj).1) fun a ha => (ut a j ha hj).2
  · refine pv (S.lks r p v e) fun g hg => ?_
    have hm : (r, p) ∈ c.k := by
      rw [← S.lke]
      exact List.mem_map.mpr ⟨(r, p, v), e, rfl⟩
    have := List.all_eq_true.mp hk (r, p) hm
    dsimp only at this
    rw [hg] at this
    simpa using this
end
end Lc
end
section
set_option Elab.async false
set_option linter.all false
set_option maxRecDepth 100000
set_option maxHeartbeats 1000000
namespace Lc
open PySem L2

/-! ### defs: what a call comes to -/
inductive FR where
  | ret (d : D) (os : List D)
  | exc (k : Nat) (n : Str) (x : D) (os : List D)
  | bad
/-- the slots of the parameters: true: the caller's own place, false: read only -/
def inits : List Bool → List D → List Sl
  | true :: ms, d :: ds => .v d :: inits ms ds
  | false :: ms, d :: ds => .v (bor d) :: inits ms ds
  | _, _ => []
def locks : Nat → List Bool → List (Nat × List Nat)
  | _, [] => []
  | i, true :: ms => (i, []) :: locks (i + 1) ms
  | i, false :: ms => locks (i + 1) ms
def lkV : Nat → List Bool → List V → List (Nat × List Nat × V)
  | i, true :: ms, v :: vs => (i, [], v) :: lkV (i + 1) ms vs
  | i, false :: ms, _ :: vs => lkV (i + 1) ms vs
  | _, _, _ => []
def outs : List Bool → List Sl → Option (List D)
  | [], _ => some []
  | true :: ms, .v d :: s => if noBor d then (outs ms s).map (d :: ·) else none
  | false :: ms, _ :: s => outs ms s
  | _, _ => none
def initC (ms : List Bool) (nl : Nat) (ds : List D) : Ctx := ⟨inits ms ds ++ List.replicate nl .no, locks 0 ms⟩
def runF (ms : List Bool) (nl : Nat) (body : Ctx → SR) (ds : List D) : FR :=
  if ds.length = ms.length then match body (initC ms nl ds) with
    | .rt d c => match outs ms c.s with
      | some os => if noBor d then .ret d os else .bad
      | none => .bad
    | .nx c => match outs ms c.s with
      | some os => .ret .non os
      | none => .bad
    | .exc k n x c => match outs ms c.s with
      | some os => .exc k n x os
      | none => .bad
    | _ => .bad
  else .bad

/-- the promise of a def with such a body -/
def spF (G : Nat → Addr) (K : PySem.W.Frag) (ms : List Bool) (nl : Nat) (body : Ctx → SR) : Sp := fun vs H Q E => vs.length = ms.length ∧ ∃ (A : Act) (I : Hp) (O : Addr → Option Ow) (ds : List D), A.g.G = G ∧ A.g.K = K ∧ ds.length = ms.length ∧
  Sat A I H (vs.map some ++ List.replicate nl none) (initC ms nl ds) [] O (lkV 0 ms vs) ∧ match body (initC ms nl ds) with
  | .rt d c' => ∀ v σ' I' H' O', Sat A I' H' σ' c' [(d, v)] O' (lkV 0 ms vs) → Q v H'
  | .nx c' => ∀ σ' I' H' O', Sat A I' H' σ' c' [] O' (lkV 0 ms vs) → Q .non H'
  | .exc k n x c' => ∀ σ', XP A (fun cls d _ H => E cls d H) σ' [] (lkV 0 ms vs) k n x c'
  | _ => False

/-- the changes that a call has made -/
def chgs : List Bool → List EV → List D → List Chg
  | true :: ms, .pl r p :: es, o :: os => ⟨r, p, fun q => q.isEmpty, o⟩ :: chgs ms es os
  | true :: ms, .t _ :: es, _ :: os => chgs ms es os
  | false :: ms, _ :: es, os => chgs ms es os
  | _, _, _ => []
def rootsM : List Bool → List EV → List Nat
  | true :: ms, .pl r _ :: es => r :: rootsM ms es
  | _ :: ms, _ :: es => rootsM ms es
  | _, _ => []
/-- handed over: own places of different slots; what is read lies elsewhere -/
def okM : List Bool → List EV → Bool
  | [], [] => true
  | true :: ms, .pl r _ :: es => !((rootsM ms es).contains r) && okM ms es
  | true :: ms, .t d :: es => !(Lc.noOwn d) && okM ms es
  | false :: ms, _ :: es => okM ms es
  | _, _ => false
def okB (rs : List Nat) : List Bool → List EV → Bool
  | false :: ms, .pl r _ :: es => !(rs.contains r) && okB rs ms es
  | _ :: ms, _ :: es => okB rs ms es
  | _, _ => true
/-- a call -/
def eCall (ms : List Bool) (Φ : List D → FR) (args : List (Ctx → ER)) (dvs : List D) : Ctx → ER := fun c => match eArgs args c with
  | .ok es c2 => match valsOf c2 es with
    | some ds => if okM ms (es ++ dvs.map .t) && okB (rootsM ms (es ++ dvs.map .t)) ms (es ++ dvs.map .t) then match Φ (ds ++ dvs) with
        | .ret d os => if lkOk (chgs ms (es ++ dvs.map .t) os) (unlocks es c2).k then .ok (.t d) (updC (chgs ms (es ++ dvs.map .t) os) (unlocks es c2)) else .bad
        | .exc k n x os => if lkOk (chgs ms (es ++ dvs.map .t) os) (unlocks es c2).k then .exc k n x (updC (chgs ms (es ++ dvs.map .t) os) (unlocks es c2)) else .bad
        | .bad => .bad
      else .bad
    | none => .bad
  | .exc k n x c2 => .exc k n x c2
  | .bad => .bad

section
variable {A : Act} {W : Wx} {I H I' H' : Hp} {σ σ' : St} {c c' : Ctx} {ts xs : List (D × V)} {O O' : Addr → Option Ow} {lk : List (Nat × List Nat × V)} {d : D} {v : V} {w : Ow} {r : Nat} {p : List Nat}

/-- an argument as it lies -/
def ArgAt (A : Act) (I H : Hp) (σ : St) (c : Ctx) (O : Addr → Option Ow) (n : Nat) (e : EV) (v : V) (d : D) : Prop := match e with
  | .t d0 => d0 = d ∧ RO A I H O (.inr n) d v
  | .pl r p => PV A I H σ c O r p v ∧ ∃ d0, c.s[r]? = some (.v d0) ∧ getP d0 p = some d
/-- which of the values just made an argument is -/
def tix : List EV → Nat → Nat
  | .t _ :: es, i + 1 => tix es i + 1
  | .pl _ _ :: es, i + 1 => tix es i
  | _, _ => 0
theorem tix_lt : ∀ {es : List EV} {i j : Nat} {d : D}, i < j → es[i]? = some (.t d) → tix es i < tix es j
  | .t _ :: es, 0, j + 1, d, _, _ => Nat.succ_pos _
  | .t _ :: es, i + 1, j + 1, d, h, e => Nat.succ_lt_succ (tix_lt (Nat.lt_of_succ_lt_succ h) (by simpa using e))
  | .pl _ _ :: es, 0, j + 1, d, _, e => by simp at e
  | .pl _ _ :: es, i + 1, j + 1, d, h, e => tix_lt (es := es) (i := i) (j := j) (Nat.lt_of_succ_lt_succ h) (by simpa using e)
  | [], _, _, _, _, e => by simp at e
  | _ :: _, _, 0, _, h, _ => absurd h (Nat.not_lt_zero _)
theorem tix_ne {es : List EV} {i j : Nat} {d d' : D} (h1 : es[i]? = some (.t d)) (h2 : es[j]? = some (.t d')) (h : tix es i = tix es j) : i = j := by
  rcases Nat.lt_trichotomy i j with g | g | g
  · have := tix_lt g h1; omega
  · exact g
  · have := tix_lt g h2; omega
theorem tix_app : ∀ {es fs : List EV} {i : Nat}, i < es.length → tix (es ++ fs) i = tix es i
  | .t _ :: es, fs, 0, _ => rfl
  | .pl _ _ :: es, fs, 0, _ => rfl
  | .t _ :: es, fs, i + 1, h => by
    rw [List.cons_append, tix, tix, tix_app (by simpa using h)]
  | .pl _ _ :: es, fs, i + 1, h => by
    rw [List.cons_append, tix, tix, tix_app (by simpa using h)]
  | [], _, _, h => absurd h (Nat.not_lt_zero _)
theorem Sat.args : ∀ {es : List EV} {vs : List V} {ds : List D} {ts : List (D × V)} {lk : List (Nat × List Nat × V)} {i : Nat} {e : EV} {v : V} {d : D}, vs.length = es.length → Lc.valsOf c es = some ds → Sat A I H σ c (ts ++ tmpsOf es vs) O (lksOf es vs ++ lk) →
    es[i]? = some e → vs[i]? = some v → ds[i]? = some d → ArgAt A I H σ c O (ts.length + tix es i) e v d
  | [], vs, ds, ts, lk, i, e, v, d, hl, ev, S, e1, e2, e3 => by simp at e1
  | x :: es, v0 :: vs, ds, ts, lk, i, e, v, d, hl, ev, S, e1, e2, e3 => by
    have hl2 : vs.length = es.length := by simpa using hl
    rw [Lc.valsOf] at ev
    cases q1 : val c x with
    | none => rw [q1] at ev; cases ev
    | some d1 =>
      cases q2 : Lc.valsOf c es with
      | none => rw [q1, q2] at ev; cases ev
      | some ds' =>
        rw [q1, q2] at ev
        cases ev
        cases i with
        | zero =>
          have e1 : x = e := by simpa using e1
          have e2 : v0 = v := by simpa using e2
          have e3 : d1 = d := by simpa using e3
          subst e1 e2 e3
          cases x with
          | t d' =>
            rw [val] at q1
            cases q1
            have hz : (ts ++ (d1, v0) :: tmpsOf es vs)[ts.length]? = some (d1, v0) := by simp
            exact ⟨rfl, S.tmps _ _ _ hz⟩
          | pl r p =>
            have hm : (r, p, v0) ∈ lksOf (.pl r p :: es) (v0 :: vs) ++ lk := by simp [lksOf]
            have pv := S.lks r p v0 hm
            refine ⟨pv, ?_⟩
            obtain ⟨d0, _, d', z1, _, z3, _⟩ := pv
            rw [val, z1] at q1
            exact ⟨d0, z1, q1⟩
        | succ i =>
          have e1 : es[i]? = some e := by simpa using e1
          have e2 : vs[i]? = some v := by simpa using e2
          have e3 : ds'[i]? = some d := by simpa using e3
          cases x with
          | t d' =>
            rw [tix, show ts.length + (tix es i + 1) = (ts ++ [(d', v0)]).length + tix es i by rw [List.length_append]; show _ = ts.length + 1 + _; omega]
            have := Sat.args (es := es) (vs := vs) (ts := ts ++ [(d', v0)]) (lk := lk) hl2 q2 (by
              have : ts ++ [(d', v0)] ++ tmpsOf es vs = ts ++ tmpsOf (.t d' :: es) (v0 :: vs) := by
                rw [tmpsOf, List.append_assoc, List.singleton_append]
              rw [this]
              exact S) e1 e2 e3
            exact this
          | pl r p =>
            rw [tix]
            refine Sat.args (es := es) (vs := vs) (ts := ts) (lk := (r, p, v0) :: lk) hl2 q2 ?_ e1 e2 e3
            have : lksOf es vs ++ ((r, p, v0) :: lk) = lksOf (.pl r p :: es) (v0 :: vs) ++ lk := by
              show _ = (lksOf es vs ++ [(r, p, v0)]) ++ lk
              rw [List.append_assoc, List.singleton_append]
            rw [this]
            exact S
  | _ :: _, [], _, _, _, _, _, _, _, hl, _, _, _, _, _ => by cases hl

theorem inits_len : ∀ {ms : List Bool} {ds : List D}, ds.length = ms.length → (inits ms ds).length = ms.length
  | [], [], _ => rfl
  | true :: ms, d :: ds, h => by
    rw [inits, List.length_cons, List.length_cons, inits_len (by simpa using h)]
  | false :: ms, d :: ds, h => by
    rw [inits, List.length_cons, List.length_cons, inits_len (by simpa using h)]
theorem inits_get : ∀ {ms : List Bool} {ds : List D} {i : Nat} {sl : Sl}, (inits ms ds)[i]? = some sl → ∃ m d, ms[i]? = some m ∧ ds[i]? = some d ∧ sl = .v (if m then d else bor d)
  | true :: ms, d :: ds, 0, sl, h => ⟨true, d, rfl, rfl, by simpa [inits] using h.symm⟩
  | false :: ms, d :: ds, 0, sl, h => ⟨false, d, rfl, rfl, by simpa [inits] using h.symm⟩
  | true :: ms, d :: ds, i + 1, sl, h => by
    obtain ⟨m, e, h1, h2, h3⟩ := inits_get (ms := ms) (ds := ds) (i := i) (sl := sl) (by simpa [inits] using h)
    exact ⟨m, e, by simpa using h1, by simpa using h2, h3⟩
  | false :: ms, d :: ds, i + 1, sl, h => by
    obtain ⟨m, e, h1, h2, h3⟩ := inits_get (ms := ms) (ds := ds) (i := i) (sl := sl) (by simpa [inits] using h)
    exact ⟨m, e, by simpa using h1, by simpa using h2, h3⟩
  | [], _, _, _, h => by simp [inits] at h
  | true :: ms, [], _, _, h => by simp [inits] at h
  | false :: ms, [], _, _, h => by simp [inits] at h
theorem inits_at : ∀ {ms : List Bool} {ds : List D} {i : Nat} {m : Bool} {d : D}, ms[i]? = some m → ds[i]? = some d → (inits ms ds)[i]? = some (.v (if m then d else bor d))
  | true :: ms, d :: ds, 0, m, e, h1, h2 => by
    have h1 : true = m := by simpa using h1
    have h2 : d = e := by simpa using h2
    subst h1 h2
    rfl
  | false :: ms, d :: ds, 0, m, e, h1, h2 => by
    have h1 : false = m := by simpa using h1
    have h2 : d = e := by simpa using h2
    subst h1 h2
    rfl
  | true :: ms, d :: ds, i + 1, m, e, h1, h2 => by
    have := inits_at (ms := ms) (ds := ds) (i := i) (by simpa using h1) (by simpa using h2)
    simpa [inits] using this
  | false :: ms, d :: ds, i + 1, m, e, h1, h2 => by
    have := inits_at (ms := ms) (ds := ds) (i := i) (by simpa using h1) (by simpa using h2)
    simpa [inits] using this
  | [], _, _, _, _, h, _ => by simp at h
  | _ :: _, [], _, _, _, _, h => by simp at h
theorem lkV_map : ∀ {i : Nat} {ms : List Bool} {vs : List V}, vs.length = ms.length → (lkV i ms vs).map (fun x => (x.1, x.2.1)) = locks i ms
  | _, [], [], _ => rfl
  | i, true :: ms, v :: vs, h => by
    rw [lkV, locks, List.map_cons, lkV_map (by simpa using h)]
  | i, false :: ms, v :: vs, h => by
    rw [lkV, locks, lkV_map (by simpa using h)]
theorem lkV_mem : ∀ {i : Nat} {ms : List Bool} {vs : List V} {r : Nat} {p : List Nat} {v : V}, (r, p, v) ∈ lkV i ms vs → p = [] ∧ ∃ j, r = i + j ∧ ms[j]? = some true ∧ vs[j]? = some v
  | i, true :: ms, v0 :: vs, r, p, v, h => by
    rw [lkV] at h
    rcases List.mem_cons.mp h with h | h
    · cases h
      exact ⟨rfl, 0, rfl, rfl, rfl⟩
    · obtain ⟨hp, j, hr, h1, h2⟩ := lkV_mem h
      exact ⟨hp, j + 1, by omega, by simpa using h1, by simpa using h2⟩
  | i, false :: ms, v0 :: vs, r, p, v, h => by
    rw [lkV] at h
    obtain ⟨hp, j, hr, h1, h2⟩ := lkV_mem h
    exact ⟨hp, j + 1, by omega, by simpa using h1, by simpa using h2⟩
  | _, [], _, _, _, _, h => by simp [lkV] at h
  | _, true :: _, [], _, _, _, h => by simp [lkV] at h
  | _, false :: _, [], _, _, _, h => by simp [lkV] at h
theorem lkV_in : ∀ {i : Nat} {ms : List Bool} {vs : List V} {j : Nat} {v : V}, ms[j]? = some true → vs[j]? = some v → (i + j, [], v) ∈ lkV i ms vs
  | i, m :: ms, v0 :: vs, 0, v, h1, h2 => by
    have h1 : m = true := by simpa using h1
    have h2 : v0 = v := by simpa using h2
    subst h1 h2
    rw [lkV]
    exact List.mem_cons_self ..
  | i, m :: ms, v0 :: vs, j + 1, v, h1, h2 => by
    have h := lkV_in (i := i + 1) (ms := ms) (vs := vs) (j := j) (v := v) (by simpa using h1) (by simpa using h2)
    have e : i + (j + 1) = i + 1 + j := by omega
    rw [e]
    cases m with
    | true =>
      rw [lkV]
      exact List.mem_cons_of_mem _ h
    | false =>
      rw [lkV]
      exact h
  | _, [], _, _, _, h, _ => by simp at h
  | _, _ :: _, [], _, _, _, h => by simp at h
theorem outs_get : ∀ {ms : List Bool} {s : List Sl} {os : List D}, outs ms s = some os → ∀ {es : List EV} {r : Nat} {g : Chg}, okM ms es = true → chgOf (chgs ms es os) r = some g →
    ∃ (i : Nat) (p : List Nat), ms[i]? = some true ∧ es[i]? = some (EV.pl r p) ∧ s[i]? = some (Sl.v g.e) ∧ noBor g.e = true ∧ g.p = p ∧ g.keep = fun q => q.isEmpty
  | [], _, os, h, es, r, g, _, e => by
    cases es <;> simp [chgs, chgOf] at e
  | true :: ms, .v d :: s, os, h, .pl r0 p0 :: es, r, g, ok, e => by
    rw [outs] at h
    cases nb : noBor d with
    | false => rw [nb] at h; simp at h
    | true =>
      rw [nb] at h
      cases ho : outs ms s with
      | none => rw [ho] at h; simp at h
      | some os' =>
        rw [ho] at h
        simp only [if_true, Option.map_some, Option.some.injEq] at h
        subst h
        rw [chgs, chgOf] at e
        dsimp only at e
        by_cases hr : r0 = r
        · rw [if_pos hr] at e
          cases e
          subst hr
          exact ⟨0, p0, rfl, rfl, rfl, nb, rfl, rfl⟩
        · rw [if_neg hr] at e
          rw [okM, Bool.and_eq_true] at ok
          obtain ⟨i, p, h1, h2, h3, h4⟩ := outs_get ho ok.2 e
          exact ⟨i + 1, p, by simpa using h1, by simpa using h2, by simpa using h3, h4⟩
  | false :: ms, x :: s, os, h, y :: es, r, g, ok, e => by
    rw [outs] at h
    · rw [chgs] at e
      rw [okM] at ok
      obtain ⟨i, p, h1, h2, h3, h4⟩ := outs_get h ok e
      exact ⟨i + 1, p, by simpa using h1, by simpa using h2, by simpa using h3, h4⟩
  | true :: ms, .v d :: s, os, h, .t _ :: es, r, g, ok, e => by
    rw [outs] at h
    cases nb : noBor d with
    | false => rw [nb] at h; simp at h
    | true =>
      rw [nb] at h
      cases ho : outs ms s with
      | none => rw [ho] at h; simp at h
      | some os' =>
        rw [ho] at h
        simp only [if_true, Option.map_some, Option.some.injEq] at h
        subst h
        rw [chgs] at e
        rw [okM, Bool.and_eq_true] at ok
        obtain ⟨i, p, h1, h2, h3, h4⟩ := outs_get ho ok.2 e
        exact ⟨i + 1, p, by simpa using h1, by simpa using h2, by simpa using h3, h4⟩
  | _ :: ms, _, os, h, [], r, g, ok, e => by simp [okM] at ok
  | true :: _, [], _, h, _, _, _, _, _ => by simp [outs] at h
  | false :: _, [], _, h, _, _, _, _, _ => by simp [outs] at h
  | true :: _, .no :: _, _, h, _, _, _, _, _ => by simp [outs] at h
  | true :: _, .al _ _ :: _, _, h, _, _, _, _, _ => by simp [outs] at h
theorem outs_root : ∀ {ms : List Bool} {s : List Sl} {os : List D}, outs ms s = some os → ∀ {es : List EV} {r i : Nat} {p : List Nat}, okM ms es = true → ms[i]? = some true → es[i]? = some (.pl r p) → ∃ g, chgOf (chgs ms es os) r = some g
  | [], _, os, h, es, r, i, p, _, e, _ => by simp at e
  | true :: ms, .v d :: s, os, h, .pl r0 p0 :: es, r, i, p, ok, e1, e2 => by
    rw [outs] at h
    cases nb : noBor d with
    | false => rw [nb] at h; simp at h
    | true =>
      rw [nb] at h
      cases ho : outs ms s with
      | none => rw [ho] at h; simp at h
      | some os' =>
        rw [ho] at h
        simp only [if_true, Option.map_some, Option.some.injEq] at h
        subst h
        rw [chgs, chgOf]
        dsimp only
        by_cases hr : r0 = r
        · rw [if_pos hr]
          exact ⟨_, rfl⟩
        · rw [if_neg hr]
          rw [okM, Bool.and_eq_true] at ok
          cases i with
          | zero =>
            simp only [List.getElem?_cons_zero, Option.some.injEq, EV.pl.injEq] at e2
            exact absurd e2.1 hr
          | succ i => exact outs_root ho ok.2 (by simpa using e1) (by simpa using e2)
  | false :: ms, x :: s, os, h, y :: es, r, i, p, ok, e1, e2 => by
    rw [outs] at h
    · rw [chgs]
      rw [okM] at ok
      cases i with
      | zero => simp at e1
      | succ i => exact outs_root h ok (by simpa using e1) (by simpa using e2)
  | true :: ms, .v d :: s, os, h, .t _ :: es, r, i, p, ok, e1, e2 => by
    rw [outs] at h
    cases nb : noBor d with
    | false => rw [nb] at h; simp at h
    | true =>
      rw [nb] at h
      cases ho : outs ms s with
      | none => rw [ho] at h; simp at h
      | some os' =>
        rw [ho] at h
        simp only [if_true, Option.map_some, Option.some.injEq] at h
        subst h
        rw [chgs]
        rw [okM, Bool.and_eq_true] at ok
        cases i with
        | zero => simp at e2
        | succ i => exact outs_root ho ok.2 (by simpa using e1) (by simpa using e2)
  | _ :: ms, _, os, h, [], r, i, p, ok, e1, e2 => by simp [okM] at ok
  | true :: _, [], _, h, _, _, _, _, _, _, _ => by simp [outs] at h
  | false :: _, [], _, h, _, _, _, _, _, _, _ => by simp [outs] at h
  | true :: _, .no :: _, _, h, _, _, _, _, _, _, _ => by simp [outs] at h
  | true :: _, .al _ _ :: _, _, h, _, _, _, _, _, _, _ => by simp [outs] at h
theorem rootsM_mem : ∀ {ms : List Bool} {es : List EV} {i r : Nat} {p : List Nat}, ms[i]? = some true → es[i]? = some (.pl r p) → r ∈ rootsM ms es
  | m :: ms, e :: es, 0, r, p, h1, h2 => by
    have h1 : m = true := by simpa using h1
    have h2 : e = .pl r p := by simpa using h2
    subst h1 h2
    rw [rootsM]
    exact List.mem_cons_self ..
  | m :: ms, e :: es, i + 1, r, p, h1, h2 => by
    have := rootsM_mem (ms := ms) (es := es) (i := i) (by simpa using h1) (by simpa using h2)
    cases m <;> cases e <;> rw [rootsM] <;> first | exact this | exact List.mem_cons_of_mem _ this | (intros; contradiction)
  | [], _, _, _, _, h, _ => by simp at h
  | _ :: _, [], _, _, _, _, h => by simp at h
theorem okM_ne : ∀ {ms : List Bool} {es : List EV} {i j r r' : Nat} {p p' : List Nat}, okM ms es = true → ms[i]? = some true → ms[j]? = some true → es[i]? = some (.pl r p) → es[j]? = some (.pl r' p') → r = r' → i = j
  | true :: ms, .pl r0 p0 :: es, 0, 0, r, r', p, p', _, _, _, _, _, _ => rfl
  | true :: ms, .pl r0 p0 :: es, 0, j + 1, r, r', p, p', ok, h1, h2, h3, h4, hr => by
    rw [okM, Bool.and_eq_true] at ok
    have := rootsM_mem (ms := ms) (es := es) (i := j) (r := r') (p := p') (by simpa using h2) (by simpa using h4)
    simp only [List.getElem?_cons_zero, Option.some.injEq, EV.pl.injEq] at h3
    rw [h3.1, hr] at ok
    simp [this] at ok
  | true :: ms, .pl r0 p0 :: es, i + 1, 0, r, r', p, p', ok, h1, h2, h3, h4, hr => by
    rw [okM, Bool.and_eq_true] at ok
    have := rootsM_mem (ms := ms) (es := es) (i := i) (r := r) (p := p) (by simpa using h1) (by simpa using h3)
    simp only [List.getElem?_cons_zero, Option.some.injEq, EV.pl.injEq] at h4
    rw [h4.1, ← hr] at ok
    simp [this] at ok
  | true :: ms, .pl r0 p0 :: es, i + 1, j + 1, r, r', p, p', ok, h1, h2, h3, h4, hr => by
    rw [okM, Bool.and_eq_true] at ok
    rw [okM_ne (i := i) (j := j) ok.2 (by simpa using h1) (by simpa using h2) (by simpa using h3) (by simpa using h4) hr]
  | false :: ms, e :: es, i, j, r, r', p, p', ok, h1, h2, h3, h4, hr => by
    rw [okM] at ok
    cases i with
    | zero => simp at h1
    | succ i =>
      cases j with
      | zero => simp at h2
      | succ j => rw [okM_ne (i := i) (j := j) ok (by simpa using h1) (by simpa using h2) (by simpa using h3) (by simpa using h4) hr]
  | true :: ms, .t _ :: es, 0, _, _, _, _, _, ok, _, _, h3, _, _ => by simp at h3
  | true :: ms, .t _ :: es, _ + 1, 0, _, _, _, _, ok, _, _, _, h4, _ => by simp at h4
  | true :: ms, .t _ :: es, i + 1, j + 1, r, r', p, p', ok, h1, h2, h3, h4, hr => by
    rw [okM, Bool.and_eq_true] at ok
    rw [okM_ne (i := i) (j := j) ok.2 (by simpa using h1) (by simpa using h2) (by simpa using h3) (by simpa using h4) hr]
  | _ :: ms, [], _, _, _, _, _, _, ok, _, _, _, _, _ => by simp [okM] at ok
  | [], _, _, _, _, _, _, _, _, h, _, _, _, _ => by simp at h
theorem okM_pl : ∀ {ms : List Bool} {es : List EV} {i : Nat}, okM ms es = true → ms[i]? = some true → (∃ r p, es[i]? = some (.pl r p)) ∨ ∃ d, es[i]? = some (.t d) ∧ Lc.noOwn d = false
  | true :: ms, .pl r0 p0 :: es, 0, _, _ => .inl ⟨r0, p0, rfl⟩
  | true :: ms, .t d :: es, 0, ok, _ => by
    rw [okM, Bool.and_eq_true] at ok
    exact .inr ⟨d, rfl, by simpa using ok.1⟩
  | true :: ms, .pl r0 p0 :: es, i + 1, ok, h => by
    rw [okM, Bool.and_eq_true] at ok
    rcases okM_pl (i := i) ok.2 (by simpa using h) with ⟨r, p, e⟩ | ⟨d, e, n⟩
    · exact .inl ⟨r, p, by simpa using e⟩
    · exact .inr ⟨d, by simpa using e, n⟩
  | true :: ms, .t _ :: es, i + 1, ok, h => by
    rw [okM, Bool.and_eq_true] at ok
    rcases okM_pl (i := i) ok.2 (by simpa using h) with ⟨r, p, e⟩ | ⟨d, e, n⟩
    · exact .inl ⟨r, p, by simpa using e⟩
    · exact .inr ⟨d, by simpa using e, n⟩
  | false :: ms, e :: es, 0, _, h => by simp at h
  | false :: ms, e :: es, i + 1, ok, h => by
    rw [okM] at ok
    rcases okM_pl (i := i) ok (by simpa using h) with ⟨r, p, e⟩ | ⟨d, e, n⟩
    · exact .inl ⟨r, p, by simpa using e⟩
    · exact .inr ⟨d, by simpa using e, n⟩
  | _ :: ms, [], _, ok, _ => by simp [okM] at ok
  | [], _, _, _, h => by simp at h
theorem okB_ne {rs : List Nat} : ∀ {ms : List Bool} {es : List EV} {i r : Nat} {p : List Nat}, okB rs ms es = true → ms[i]? = some false → es[i]? = some (.pl r p) → r ∉ rs
  | m :: ms, e :: es, 0, r, p, ok, h1, h2 => by
    have h1 : m = false := by simpa using h1
    have h2 : e = .pl r p := by simpa using h2
    subst h1 h2
    rw [okB, Bool.and_eq_true] at ok
    simpa using ok.1
  | m :: ms, e :: es, i + 1, r, p, ok, h1, h2 => by
    have : okB rs ms es = true := by
      cases m <;> cases e <;> rw [okB] at ok <;> first | exact ok | (rw [Bool.and_eq_true] at ok; exact ok.2) | (intros; contradiction)
    exact okB_ne (i := i) this (by simpa using h1) (by simpa using h2)
  | [], _, _, _, _, _, h, _ => by simp at h
  | _ :: _, [], _, _, _, _, _, h => by simp at h
end
end Lc
end
section
set_option Elab.async false
set_option linter.all false
set_option maxRecDepth 100000
set_option maxHeartbeats 1000000
namespace Lc
open PySem L2

section
variable {A : Act} {W : Wx} {I H I' H' : Hp} {σ σ' : St} {c c' : Ctx} {ts xs : List (D × V)} {O O' : Addr → Option Ow} {lk : List (Nat × List Nat × V)} {d : D} {v : V} {w : Ow} {r : Nat} {p : List Nat}

mutual
theorem R.noBor {g : Gs} : ∀ (d : D) {I B H B' : Hp} {v : V} {fp : List Addr}, R g I B H d v fp → Lc.noBor d = true → R g I B' H d v fp
  | .non, _, _, _, _, _, _, h, _ => by rw [R] at h ⊢; exact h
  | .bl _, _, _, _, _, _, _, h, _ => by rw [R] at h ⊢; exact h
  | .int _, _, _, _, _, _, _, h, _ => by rw [R] at h ⊢; exact h
  | .str _, _, _, _, _, _, _, h, _ => by rw [R] at h ⊢; exact h
  | .ty _, _, _, _, _, _, _, h, _ => by rw [R] at h ⊢; exact h
  | .exn _ _ _, _, _, _, _, _, _, h, _ => by rw [R] at h ⊢; exact h
  | .tup xs, _, _, _, _, _, _, h, n => by
    rw [R] at h ⊢
    obtain ⟨p, vs, e, t, h⟩ := h
    exact ⟨p, vs, e, t, RL.noBor xs h (by rw [Lc.noBor] at n; exact n)⟩
  | .nd k .own xs, _, _, _, _, _, _, h, n => by
    rw [R] at h ⊢
    obtain ⟨p, vs, fq, e, e2, t, h⟩ := h
    exact ⟨p, vs, fq, e, e2, t, RL.noBor xs h (by rw [Lc.noBor] at n; exact n)⟩
  | .nd k .frz xs, _, _, _, _, _, _, h, n => by rw [R] at h ⊢; exact h
  | .nd k .bor xs, _, _, _, _, _, _, h, n => by rw [Lc.noBor] at n; cases n
theorem RL.noBor {g : Gs} : ∀ (xs : List D) {I B H B' : Hp} {vs : List V} {fp : List Addr}, RL g I B H xs vs fp → noBorL xs = true → RL g I B' H xs vs fp
  | [], _, _, _, _, _, _, h, _ => by rw [RL] at h ⊢; exact h
  | x :: xs, _, _, _, _, _, _, h, n => by
    rw [noBorL, Bool.and_eq_true] at n
    rw [RL] at h ⊢
    obtain ⟨v, vr, f1, f2, e1, e2, h1, h2⟩ := h
    exact ⟨v, vr, f1, f2, e1, e2, R.noBor x h1 n.1, RL.noBor xs h2 n.2⟩
end
theorem call_core {ms : List Bool} {nl : Nat} {es : List EV} {vs : List V} {ds : List D} {jx : Nat → Nat} (hj : ∀ (i k : Nat) (d d' : D), es[i]? = some (.t d) → es[k]? = some (.t d') → jx i = jx k → i = k) (S : Sat A I H σ c (ts ++ xs) O lk) (hv : vs.length = ms.length) (hd : ds.length = ms.length)
    (ha : ∀ (i : Nat) (e : EV) (v : V) (d : D), es[i]? = some e → vs[i]? = some v → ds[i]? = some d → ArgAt A I H σ c O (ts.length + jx i) e v d) (hes : es.length = ms.length)
    (ok : okM ms es = true) (okb : okB (rootsM ms es) ms es = true) :
    ∃ (A' : Act) (O0 : Addr → Option Ow), A'.g = A.g ∧ Sat A' I H (vs.map some ++ List.replicate nl none) (initC ms nl ds) [] O0 (lkV 0 ms vs) ∧
      ∀ (ys : List (D × V)) (σ' : St) (I' H' : Hp) (O2 : Addr → Option Ow) (c' : Ctx) (os : List D), Sat A' I' H' σ' c' ys O2 (lkV 0 ms vs) → outs ms c'.s = some os → ys.length ≤ 1 → (∀ x ∈ ys, noBor x.1 = true) → lkOk (chgs ms es os) c.k = true →
        ∃ O', Sat A I' H' σ (updC (chgs ms es os) c) (ts ++ ys) O' lk ∧
          ∀ (d0 : D) (v0 : V) (o : D), es[0]? = some (.t d0) → ms[0]? = some true → vs[0]? = some v0 → c'.s[0]? = some (.v o) → noBor o = true → Sat A I' H' σ (updC (chgs ms es os) c) (ts ++ ys ++ [(o, v0)]) O' lk := by
  classical
  -- the handed places, opened
  have hop : ∀ i : Nat, ∃ fn : List Addr, ms[i]? = some true → ∃ (v : V) (d' : D), vs[i]? = some v ∧ ds[i]? = some d' ∧ ((∃ (r : Nat) (p : List Nat) (d : D) (v0 : V) (fa fb : List Addr), es[i]? = some (EV.pl r p) ∧ Opn A I H σ c O r p v d d' v0 fa fn fb) ∨ (es[i]? = some (EV.t d') ∧ Lc.noOwn d' = false ∧ R A.g I A.B H d' v fn ∧ fn.Nodup ∧ ∀ a ∈ fn, O a = some (.inr (ts.length + jx i)))) := fun i => by
    by_cases hm : ms[i]? = some true
    · rcases okM_pl ok hm with ⟨r, p, e⟩ | ⟨d0, e, n0⟩
      rotate_left
      · have hi : i < ms.length := (List.getElem?_eq_some_iff.mp hm).1
        have e2 : vs[i]? = some vs[i] := List.getElem?_eq_getElem (by omega)
        have e3 : ds[i]? = some ds[i] := List.getElem?_eq_getElem (by omega)
        obtain ⟨x, fp, rr, nd, l⟩ := ha i _ _ _ e e2 e3
        subst x
        exact ⟨fp, fun _ => ⟨_, _, e2, e3, .inr ⟨e, n0, rr, nd, l⟩⟩⟩
      have hi : i < ms.length := (List.getElem?_eq_some_iff.mp hm).1
      have e2 : vs[i]? = some vs[i] := List.getElem?_eq_getElem (by omega)
      have e3 : ds[i]? = some ds[i] := List.getElem?_eq_getElem (by omega)
      obtain ⟨pv, d0, g1, g2⟩ := ha i _ _ _ e e2 e3
      obtain ⟨d, d', v0, fa, fn, fb, op⟩ := S.opn pv
      have : d' = ds[i] := by
        have z := op.slot
        rw [g1] at z
        cases z
        have z := op.get
        rw [g2] at z
        cases z
        rfl
      subst this
      exact ⟨fn, fun _ => ⟨_, _, e2, e3, .inl ⟨r, p, d, v0, fa, fb, e, op⟩⟩⟩
    · exact ⟨[], fun z => absurd z hm⟩
  obtain ⟨fn, hfn⟩ := Classical.axiomOfChoice hop
  -- who holds a cell in the callee
  have hO0 : ∃ O0 : Addr → Option Ow, ∀ a w, O0 a = some w ↔ ∃ i, w = .inl i ∧ ms[i]? = some true ∧ a ∈ fn i := by
    refine ⟨fun a => if h : ∃ i, ms[i]? = some true ∧ a ∈ fn i then some (.inl h.choose) else none, fun a w => ?_⟩
    have uniq : ∀ i j, ms[i]? = some true → a ∈ fn i → ms[j]? = some true → a ∈ fn j → i = j := fun i j h1 h2 h3 h4 => by
      obtain ⟨_, _, _, _, x1⟩ := hfn i h1
      obtain ⟨_, _, _, _, x2⟩ := hfn j h3
      rcases x1 with ⟨r, p, _, _, _, _, e1, op1⟩ | ⟨e1, _, _, _, l1⟩ <;> rcases x2 with ⟨r', p', _, _, _, _, e2, op2⟩ | ⟨e2, _, _, _, l2⟩
      · have l1 := op1.lab a (by simp [h2])
        have l2 := op2.lab a (by simp [h4])
        rw [l1] at l2
        cases l2
        exact okM_ne ok h1 h3 e1 e2 rfl
      · have l1 := op1.lab a (by simp [h2])
        have l2 := l2 a h4
        rw [l1] at l2
        cases l2
      · have l2 := op2.lab a (by simp [h4])
        rw [l1 a h2] at l2
        cases l2
      · have := (l1 a h2).symm.trans (l2 a h4)
        simp only [Option.some.injEq, Sum.inr.injEq] at this
        exact hj _ _ _ _ e1 e2 (by omega)
    constructor
    · intro h
      dsimp only at h
      by_cases q : ∃ i, ms[i]? = some true ∧ a ∈ fn i
      · rw [dif_pos q] at h
        cases h
        exact ⟨_, rfl, q.choose_spec⟩
      · rw [dif_neg q] at h
        cases h
    · rintro ⟨i, rfl, h1, h2⟩
      have q : ∃ i, ms[i]? = some true ∧ a ∈ fn i := ⟨i, h1, h2⟩
      dsimp only
      rw [dif_pos q, uniq q.choose i q.choose_spec.1 q.choose_spec.2 h1 h2]
  obtain ⟨O0, hO0⟩ := hO0
  -- the label of such a cell here
  have lab0 : ∀ a i, O0 a = some (.inl i) → ms[i]? = some true ∧ a ∈ fn i ∧ ((∃ r p, es[i]? = some (.pl r p) ∧ O a = some (.inl r)) ∨ ∃ d, es[i]? = some (.t d) ∧ O a = some (.inr (ts.length + jx i))) := fun a i h => by
    obtain ⟨j, e, h1, h2⟩ := (hO0 a _).mp h
    cases e
    obtain ⟨_, _, _, _, x⟩ := hfn _ h1
    rcases x with ⟨r, p, _, _, _, _, e1, op⟩ | ⟨e1, _, _, _, l⟩
    · exact ⟨h1, h2, .inl ⟨r, p, e1, op.lab a (by simp [h2])⟩⟩
    · exact ⟨h1, h2, .inr ⟨_, e1, l a h2⟩⟩
  have inl0 : ∀ a w, O0 a = some w → ∃ i, w = .inl i := fun a w h => by
    obtain ⟨i, e, _⟩ := (hO0 a w).mp h
    exact ⟨i, e⟩
  obtain ⟨B', hB'⟩ : ∃ B' : Hp, ∀ a, B' a = if O0 a = none then H a else none := ⟨_, fun _ => rfl⟩
  have b0 : ∀ a, O0 a = none → B' a = H a := fun a h => by rw [hB', if_pos h]
  have b1 : ∀ a w, O0 a = some w → B' a = none := fun a w h => by rw [hB', if_neg (by rw [h]; simp)]
  have bH : leH B' H := fun a o e => by
    rw [hB'] at e
    by_cases h : O0 a = none
    · rw [if_pos h] at e
      exact e
    · rw [if_neg h] at e
      cases e
  have free0 : ∀ a w, O0 a = some w → I a = none ∧ A.B a = none ∧ ∃ o, H a = some o := fun a w h => by
    obtain ⟨i, rfl⟩ := inl0 a w h
    obtain ⟨_, _, ⟨r, p, _, l⟩ | ⟨d, _, l⟩⟩ := lab0 a i h
    · exact S.fr a _ l
    · exact S.fr a _ l
  have bB : leH A.B B' := fun a o e => by
    cases h : O0 a with
    | none =>
      rw [b0 a h]
      exact S.bh a o e
    | some w =>
      obtain ⟨_, z, _⟩ := free0 a w h
      rw [e] at z
      cases z
  have iB : leH I B' := fun a o e => by
    cases h : O0 a with
    | none =>
      rw [b0 a h]
      exact S.ih a o e
    | some w =>
      obtain ⟨z, _⟩ := free0 a w h
      rw [e] at z
      cases z
  -- a read argument's cells
  have rd : ∀ (i : Nat) (v : V) (d : D), ms[i]? = some false → vs[i]? = some v → ds[i]? = some d → R A.g I B' H (bor d) v [] := fun i v d hm h1 h2 => by
    have hi : i < ms.length := (List.getElem?_eq_some_iff.mp hm).1
    have e : es[i]? = some es[i] := List.getElem?_eq_getElem (by omega)
    have x := ha i _ v d e h1 h2
    cases q : es[i] with
    | t d0 =>
      rw [q] at x
      obtain ⟨_, fp, rr, _, l⟩ := x
      refine R.bor d rr iB bB fun a ha => b0 a ?_
      cases z : O0 a with
      | none => rfl
      | some w =>
        obtain ⟨i', rfl⟩ := inl0 a w z
        obtain ⟨hm2, _, ⟨r, p, _, l2⟩ | ⟨d2, e2, l2⟩⟩ := lab0 a i' z
        · rw [l a ha] at l2
          cases l2
        · have := (l a ha).symm.trans l2
          simp only [Option.some.injEq, Sum.inr.injEq] at this
          rw [q] at e
          have := hj _ _ _ _ e e2 (by omega)
          subst this
          rw [hm] at hm2
          cases hm2
    | pl r p =>
      rw [q] at x e
      obtain ⟨pv, d0, g1, g2⟩ := x
      obtain ⟨d1, d', v0, fa, fm, fb, op⟩ := S.opn pv
      have : d' = d := by
        have z := op.slot
        rw [g1] at z
        cases z
        have z := op.get
        rw [g2] at z
        cases z
        rfl
      subst this
      refine R.bor _ op.rel iB bB fun a ha => b0 a ?_
      cases z : O0 a with
      | none => rfl
      | some w =>
        obtain ⟨i', rfl⟩ := inl0 a w z
        obtain ⟨h1, _, ⟨r', p', h2, l2⟩ | ⟨d2, e2, l2⟩⟩ := lab0 a i' z
        · rw [op.lab a (by simp [ha])] at l2
          cases l2
          exact absurd (rootsM_mem h1 h2) (okB_ne okb hm e)
        · rw [op.lab a (by simp [ha])] at l2
          cases l2
  refine ⟨⟨A.g, B', I⟩, O0, rfl, ⟨S.ih, bH, leH.refl _, fun a o e => .inl e, ?_, fun i d e => ?_, fun i r p e => ?_, fun j d v e => ?_, fun r p v e => ?_, lkV_map hv, fun a w e => ?_⟩, ?_⟩
  · rw [initC, List.length_append, List.length_append, List.length_map, List.length_replicate, List.length_replicate, inits_len hd, hv]
  · -- slots
    have e : (inits ms ds ++ List.replicate nl Sl.no)[i]? = some (.v d) := e
    by_cases hi : i < (inits ms ds).length
    · rw [List.getElem?_append_left hi] at e
      obtain ⟨m, d1, h1, h2, h3⟩ := inits_get e
      have hi2 : i < vs.length := by rw [inits_len hd] at hi; omega
      have e2 : vs[i]? = some vs[i] := List.getElem?_eq_getElem hi2
      refine ⟨vs[i], ?_, ?_⟩
      · rw [List.getElem?_append_left (by rw [List.length_map]; exact hi2), List.getElem?_map, e2]
        rfl
      · cases m with
        | true =>
          obtain ⟨v', d', g2, g3, x⟩ := hfn i h1
          rw [g2] at e2
          cases e2
          rw [h2] at g3
          cases g3
          cases h3
          rcases x with ⟨r, p, dd, v0, fa, fb, g1, op⟩ | ⟨_, _, rr, nd, _⟩
          · refine ⟨fn i, R.keep _ op.rel (leH.refl _) bB fun _ _ => rfl, ?_, fun a ha => (hO0 a _).mpr ⟨i, rfl, h1, ha⟩⟩
            have := op.nd
            rw [List.append_assoc] at this
            exact (List.nodup_append.mp (List.nodup_append.mp this).2.1).1
          · exact ⟨fn i, R.keep _ rr (leH.refl _) bB fun _ _ => rfl, nd, fun a ha => (hO0 a _).mpr ⟨i, rfl, h1, ha⟩⟩
        | false =>
          cases h3
          exact RO.leaf (rd i _ d1 h1 e2 h2)
    · rw [List.getElem?_append_right (Nat.le_of_not_lt hi)] at e
      have := List.getElem?_replicate (n := nl) (a := Sl.no) (i := i - (inits ms ds).length)
      rw [e] at this
      split at this <;> cases this
  · have e : (inits ms ds ++ List.replicate nl Sl.no)[i]? = some (.al r p) := e
    by_cases hi : i < (inits ms ds).length
    · rw [List.getElem?_append_left hi] at e
      obtain ⟨m, d1, h1, h2, h3⟩ := inits_get e
      cases h3
    · rw [List.getElem?_append_right (Nat.le_of_not_lt hi)] at e
      have := List.getElem?_replicate (n := nl) (a := Sl.no) (i := i - (inits ms ds).length)
      rw [e] at this
      split at this <;> cases this
  · simp at e
  · obtain ⟨rfl, j, rfl, h1, h2⟩ := lkV_mem e
    obtain ⟨v', d', g2, g3, x⟩ := hfn j h1
    rw [h2] at g2
    cases g2
    have hj : j < ms.length := (List.getElem?_eq_some_iff.mp h1).1
    have := inits_at h1 g3
    have hno : Lc.noOwn d' = false := by
      rcases x with ⟨r, p, dd, v0, fa, fb, g1, op⟩ | ⟨_, n, _⟩
      · exact op.no
      · exact n
    refine ⟨d', v, d', ?_, ?_, rfl, hno, rfl⟩
    · show (inits ms ds ++ List.replicate nl Sl.no)[0 + j]? = _
      rw [Nat.zero_add, List.getElem?_append_left (by rw [inits_len hd]; exact hj), this]
      rfl
    · rw [Nat.zero_add, List.getElem?_append_left (by rw [List.length_map]; omega), List.getElem?_map, h2]
      rfl
  · obtain ⟨x, y, z⟩ := free0 a w e
    exact ⟨x, b1 a w e, z⟩
  · -- behind the call
    intro ys σ' I' H' O2 c' os S2 ho hys hnb hk
    have i2 : leH I I' := S2.i0
    have bH2 : leH B' H' := S2.bh
    have key : ∀ a, O0 a = none → ∀ o, H a = some o → H' a = some o ∧ O2 a = none := fun a h o e => by
      have z : B' a = some o := by rw [b0 a h]; exact e
      refine ⟨bH2 a o z, ?_⟩
      cases q : O2 a with
      | none => rfl
      | some w =>
        obtain ⟨_, z2, _⟩ := S2.fr a w q
        have z2 : B' a = none := z2
        rw [z] at z2
        cases z2
    have same : ∀ a w, O a = some w → O0 a = none → H' a = H a ∧ O2 a = none := fun a w h h0 => by
      obtain ⟨_, _, o, e⟩ := S.fr a w h
      obtain ⟨k1, k2⟩ := key a h0 o e
      rw [e]
      exact ⟨k1, k2⟩
    obtain ⟨O', hO'⟩ : ∃ O' : Addr → Option Ow, ∀ a, O' a = match O2 a with
        | some (.inl i) => if ms[i]? = some true then (match es[i]? with | some (.pl r _) => some (.inl r) | some (.t _) => if i = 0 then some (.inr (ts.length + ys.length)) else none | none => none) else none
        | some (.inr j) => if j < ys.length then some (.inr (ts.length + j)) else none
        | none => if O0 a = none then (match O a with | some (.inr j) => if j < ts.length then some (.inr j) else none | o => o) else none := ⟨_, fun _ => rfl⟩
    have made : ∀ r g, chgOf (chgs ms es os) r = some g → Made A I H I' H' σ c O O' g := fun r g hg => by
      obtain ⟨i, p, h1, h2, h3, h4, h5, h6⟩ := outs_get ho ok hg
      obtain ⟨v', d', g2, g3, x⟩ := hfn i h1
      obtain ⟨r', p', dd, v0, fa, fb, g1, op⟩ : ∃ (r : Nat) (p : List Nat) (d : D) (v0 : V) (fa fb : List Addr), es[i]? = some (EV.pl r p) ∧ Opn A I H σ c O r p v' d d' v0 fa (fn i) fb := by
        rcases x with x | ⟨x, _⟩
        · exact x
        · rw [h2] at x
          cases x
      rw [h2] at g1
      cases g1
      have er := chgOf_r hg
      obtain ⟨dc, vc, dc', q1, q2, q3, q4, q5⟩ := S2.lks i [] v' (by have := lkV_in (i := 0) h1 g2; rwa [Nat.zero_add] at this)
      rw [h3] at q1
      cases q1
      rw [getP] at q3
      cases q3
      have q5 : v' = vc := q5
      subst q5
      obtain ⟨vc2, q6, fp, rr, nd, l⟩ := S2.vals i _ h3
      rw [q2] at q6
      cases q6
      have out : ∀ a ∈ fa ++ fb, O0 a = none := fun a ha => by
        cases z : O0 a with
        | none => rfl
        | some w =>
          obtain ⟨j, rfl⟩ := inl0 a w z
          have l2 := op.lab a (by rcases List.mem_append.mp ha with ha | ha <;> simp [ha])
          obtain ⟨k1, k3, ⟨r2, p2, k2, k4⟩ | ⟨_, _, k4⟩⟩ := lab0 a j z
          rotate_left
          · rw [k4] at l2
            cases l2
          rw [k4] at l2
          cases l2
          have := okM_ne ok k1 h1 k2 h2 rfl
          subst this
          have nd2 := op.nd
          rw [List.append_assoc, List.nodup_append] at nd2
          obtain ⟨_, nd3, nd4⟩ := nd2
          rw [List.nodup_append] at nd3
          rcases List.mem_append.mp ha with ha | ha
          · exact absurd rfl (nd4 a ha a (by simp [k3]))
          · exact absurd rfl (nd3.2.2 a k3 a ha)
      have outL : ∀ a ∈ fa ++ fb, O a = some (.inl r) := fun a ha => op.lab a (by rcases List.mem_append.mp ha with ha | ha <;> simp [ha])
      have l2 : ∀ a ∈ fa ++ fb, O2 a = none := fun a ha => (same a _ (outL a ha) (out a ha)).2
      rw [← er] at op
      refine ⟨v', dd, d', v0, fa, fn i, fb, fp, by rw [h5]; exact op, ?_, q4, ?_, fun a ha => (same a _ (outL a ha) (out a ha)).1, fun a ha => ?_, fun q1 hq => ?_⟩
      · exact R.noBor _ rr h4
      · have nd2 := op.nd
        rw [List.append_assoc, List.nodup_append] at nd2 ⊢
        obtain ⟨n1, n2, n3⟩ := nd2
        rw [List.nodup_append] at n2 ⊢
        obtain ⟨n4, n5, n6⟩ := n2
        refine ⟨n1, ⟨nd, n5, fun a ha b hb e => ?_⟩, fun a ha b hb e => ?_⟩
        · subst e
          have := l a ha
          rw [l2 a (by simp [hb])] at this
          cases this
        · subst e
          rcases List.mem_append.mp hb with hb | hb
          · have := l a hb
            rw [l2 a (by simp [ha])] at this
            cases this
          · exact n3 a ha a (by simp [hb]) rfl
      · rw [hO', er]
        by_cases hf : a ∈ fp
        · rw [l a hf]
          dsimp only
          rw [if_pos h1, h2]
        · have ha2 : a ∈ fa ++ fb := by
            simp only [List.mem_append] at ha ⊢
            rcases ha with (ha | ha) | ha
            · exact .inl ha
            · exact absurd ha hf
            · exact .inr ha
          rw [l2 a ha2]
          dsimp only
          rw [if_pos (out a ha2), outL a ha2]
      · rw [h6] at hq
        have hq : q1 = [] := by simpa using hq
        subst hq
        intro w x gx nx va
        exact ⟨va, g.e, rfl, q4⟩
    have S3 : Sat A I' H' σ (updC (chgs ms es os) c) ts O' lk := by
      refine S.upd (xs := xs) i2 S2.ih (fun a o e => bH2 a o (bB a o e)) (fun a o e => ?_) (fun a r h h2 => ?_) (fun a j h h2 => ?_) made hk fun a w h => ?_
      · rcases S2.ib a o e with z | z
        · exact .inl z
        · refine .inr ?_
          cases q : A.B a with
          | none => rfl
          | some u =>
            have z : B' a = none := z
            rw [bB a u q] at z
            cases z
      · have h0 : O0 a = none := by
          cases z : O0 a with
          | none => rfl
          | some w =>
            obtain ⟨i, rfl⟩ := inl0 a w z
            obtain ⟨k1, k3, ⟨r2, p2, k2, k4⟩ | ⟨_, _, k4⟩⟩ := lab0 a i z
            rotate_left
            · rw [h] at k4
              cases k4
            rw [h] at k4
            cases k4
            obtain ⟨g, hg⟩ := outs_root ho ok k1 k2
            rw [h2] at hg
            cases hg
        obtain ⟨s1, s2⟩ := same a _ h h0
        refine ⟨s1, ?_⟩
        rw [hO', s2]
        dsimp only
        rw [if_pos h0, h]
      · have h0 : O0 a = none := by
          cases z : O0 a with
          | none => rfl
          | some w =>
            obtain ⟨i, rfl⟩ := inl0 a w z
            obtain ⟨k1, k3, ⟨r2, p2, k2, k4⟩ | ⟨_, _, k4⟩⟩ := lab0 a i z
            · rw [h] at k4
              cases k4
            · rw [h] at k4
              simp only [Option.some.injEq, Sum.inr.injEq] at k4
              omega
        obtain ⟨s1, s2⟩ := same a _ h h0
        refine ⟨s1, ?_⟩
        rw [hO', s2]
        dsimp only
        rw [if_pos h0, h]
        dsimp only
        rw [if_pos h2]
      · rw [hO'] at h
        cases q : O2 a with
        | some w2 =>
          obtain ⟨f1, f2, f3⟩ := S2.fr a w2 q
          refine ⟨f1, ?_, f3⟩
          cases z : A.B a with
          | none => rfl
          | some u =>
            have f2 : B' a = none := f2
            rw [bB a u z] at f2
            cases f2
        | none =>
          rw [q] at h
          dsimp only at h
          by_cases h0 : O0 a = none
          · rw [if_pos h0] at h
            have : ∃ w, O a = some w := by
              cases z : O a with
              | none => rw [z] at h; cases h
              | some w => exact ⟨w, rfl⟩
            obtain ⟨w2, hw⟩ := this
            obtain ⟨f1, f2, o, f3⟩ := S.fr a w2 hw
            obtain ⟨k1, k2⟩ := key a h0 o f3
            refine ⟨?_, f2, o, k1⟩
            cases z : I' a with
            | none => rfl
            | some u =>
              rcases S2.ib a u z with y | y
              · have y : I a = some u := y
                rw [f1] at y
                cases y
              · have y : B' a = none := y
                rw [b0 a h0, f3] at y
                cases y
          · rw [if_neg h0] at h
            cases h
    have S4 : Sat A I' H' σ (updC (chgs ms es os) c) (ts ++ ys) O' lk := by
      refine ⟨S3.ih, S3.bh, S3.i0, S3.ib, S3.len, S3.vals, S3.als, fun j d v e => ?_, S3.lks, S3.lke, S3.fr⟩
      by_cases hj : j < ts.length
      · rw [List.getElem?_append_left hj] at e
        exact S3.tmps j d v e
      · rw [List.getElem?_append_right (Nat.le_of_not_lt hj)] at e
        obtain ⟨fp, rr, nd, l⟩ := S2.tmps _ d v e
        have hl := (List.getElem?_eq_some_iff.mp e).1
        refine ⟨fp, R.noBor _ rr (hnb (d, v) (List.mem_of_getElem? e)), nd, fun a ha => ?_⟩
        rw [hO', l a ha]
        dsimp only
        rw [if_pos hl]
        have : ts.length + (j - ts.length) = j := by omega
        rw [this]
    refine ⟨O', S4, fun d0 v0 o g1 g2 g3 g4 g5 => ⟨S4.ih, S4.bh, S4.i0, S4.ib, S4.len, S4.vals, S4.als, fun j d v e => ?_, S4.lks, S4.lke, S4.fr⟩⟩
    by_cases hj : j < (ts ++ ys).length
    · rw [List.getElem?_append_left hj] at e
      exact S4.tmps j d v e
    · have hj2 : j = (ts ++ ys).length := by
        have := (List.getElem?_eq_some_iff.mp e).1
        rw [List.length_append (bs := [(o, v0)])] at this
        simp at this
        rw [List.length_append] at hj ⊢
        omega
      subst hj2
      rw [List.getElem?_append_right (Nat.le_refl _), Nat.sub_self] at e
      cases e
      obtain ⟨dc, vc, dc', q1, q2, q3, q4, q5⟩ := S2.lks 0 [] v0 (by have := lkV_in (i := 0) g2 g3; rwa [Nat.zero_add] at this)
      rw [g4] at q1
      cases q1
      have q5 : v0 = vc := q5
      subst q5
      obtain ⟨vc2, q6, fp, rr, nd, l⟩ := S2.vals 0 _ g4
      rw [q2] at q6
      cases q6
      refine ⟨fp, R.noBor _ rr g5, nd, fun a ha => ?_⟩
      rw [hO', l a ha]
      dsimp only
      rw [if_pos g2, g1]
      dsimp only
      rw [if_pos rfl, List.length_append]
end
end Lc
end
section
set_option Elab.async false
set_option linter.all false
set_option maxRecDepth 100000
set_option maxHeartbeats 1000000
namespace Lc
open PySem L2
open PyProof.Rows (envOfC)

theorem unlocks_s : ∀ (es : List EV) (c : Ctx), (unlocks es c).s = c.s
  | [], c => rfl
  | .t _ :: es, c => unlocks_s es c
  | .pl _ _ :: es, c => unlocks_s es c
theorem tmpsOf_t : ∀ {es : List EV} {vs : List V} {ds : List D} {ws : List V}, vs.length = es.length → ws.length = ds.length → tmpsOf (es ++ ds.map EV.t) (vs ++ ws) = tmpsOf es vs ++ ds.zip ws
  | [], [], ds, ws, _, h => by
    have : ∀ {ds : List D} {ws : List V}, ws.length = ds.length → tmpsOf (ds.map EV.t) ws = ds.zip ws := fun {ds} => by
      induction ds with
      | nil =>
        intro ws h
        cases ws with
        | nil => rfl
        | cons _ _ => cases h
      | cons d ds ih =>
        intro ws h
        cases ws with
        | nil => cases h
        | cons w ws =>
          rw [List.map_cons, tmpsOf, List.zip_cons_cons, ih (by simpa using h)]
    exact this h
  | .t d :: es, v :: vs, ds, ws, h, h2 => by
    have h : vs.length = es.length := by simpa using h
    show (d, v) :: tmpsOf (es ++ ds.map EV.t) (vs ++ ws) = _
    rw [tmpsOf_t h h2]
    rfl
  | .pl r p :: es, v :: vs, ds, ws, h, h2 => by
    have h : vs.length = es.length := by simpa using h
    show tmpsOf (es ++ ds.map EV.t) (vs ++ ws) = _
    rw [tmpsOf_t h h2]
    rfl
  | _ :: _, [], _, _, h, _ => by cases h
  | [], _ :: _, _, _, h, _ => by cases h

section
variable {A : Act} {W : Wx} {X : Cx} {I H I' H' : Hp} {σ σ' : St} {c c' : Ctx} {ts xs : List (D × V)} {O O' : Addr → Option Ow} {lk : List (Nat × List Nat × V)} {d : D} {v : V} {w : Ow} {r : Nat} {p : List Nat}
theorem ArgAt.ctx {n : Nat} {e : EV} (h : ArgAt A I H σ c O n e v d) (hs : c'.s = c.s) : ArgAt A I H σ c' O n e v d := by
  cases e with
  | t _ => exact h
  | pl r p =>
    obtain ⟨pv, d0, e1, e2⟩ := h
    exact ⟨pv.ctx hs, d0, by rw [hs]; exact e1, e2⟩

/-- constants that a def's defaults are -/
def Dv (g : Gs) : List D → List V → Prop := Paired fun d v => ∀ I B H, R g I B H d v []
theorem Dv.get {g : Gs} : ∀ {ds : List D} {vs : List V} {i : Nat} {d : D} {v : V}, Dv g ds vs → ds[i]? = some d → vs[i]? = some v → ∀ I B H, R g I B H d v []
  | _, _, 0, d, v, .cons h _, e1, e2 => by
    have e1 := Option.some.inj e1
    have e2 := Option.some.inj e2
    subst e1 e2
    exact h
  | _, _, i + 1, d, v, .cons _ t, e1, e2 => Dv.get (i := i) t (by simpa using e1) (by simpa using e2)
  | _, _, _, _, _, .nil, e1, _ => by simp at e1

theorem call_w {ms : List Bool} {nl : Nat} {body : Ctx → SR} {args : List (Ctx → ER)} {dds : List D} {dvs : List V} {Q : VK} (hdv : Dv A.g dds dvs) (S : Sat A I H σ c ts O lk)
    (h : match eCall ms (runF ms nl body) args dds c with
      | .ok (.t d) c' => ∀ v I' H' O', Sat A I' H' σ c' (ts ++ [(d, v)]) O' lk → Q v H'
      | .ok (.pl r p) c' => ∀ v I' H' O', Sat A I' H' σ c' ts O' lk → PV A I' H' σ c' O' r p v → Q v H'
      | .exc k n x c' => XP A W σ ts lk k n x c'
      | .bad => False) :
    match eArgs args c with
      | .ok es c' => ∀ vs I' H' O', vs.length = es.length → Sat A I' H' σ c' (ts ++ tmpsOf es vs) O' (lksOf es vs ++ lk) → spF A.g.G A.g.K ms nl body (vs ++ dvs) H' Q (WE W σ)
      | .exc k n x c' => XP A W σ ts lk k n x c'
      | .bad => False := by
  rw [eCall] at h
  cases e : eArgs args c with
  | bad => rw [e] at h; exact h
  | exc k n x c1 => rw [e] at h; exact h
  | ok es c2 =>
    rw [e] at h
    dsimp only at h
    intro vs I2 H2 O2 hl S2
    cases e2 : valsOf c2 es with
    | none => rw [e2] at h; exact h.elim
    | some ds =>
      rw [e2] at h
      dsimp only at h
      have hdl : ds.length = es.length := by
        have := (Sat.valsOf hl e2 S2).length
        omega
      have hdw : dvs.length = dds.length := hdv.length.symm
      by_cases ok : (okM ms (es ++ dds.map .t) && okB (rootsM ms (es ++ dds.map .t)) ms (es ++ dds.map .t)) = true
      · rw [if_pos ok] at h
        rw [Bool.and_eq_true] at ok
        by_cases hml : (ds ++ dds).length = ms.length
        · have S3 := Sat.unlockL hl S2
          have hes : (es ++ dds.map EV.t).length = ms.length := by
            rw [← hml, List.length_append, List.length_append, List.length_map, hdl]
          have hvl : (vs ++ dvs).length = ms.length := by
            rw [← hml, List.length_append, List.length_append, hdw, hl, hdl]
          have hargs : ∀ (i : Nat) (e : EV) (v : V) (d : D), (es ++ dds.map EV.t)[i]? = some e → (vs ++ dvs)[i]? = some v → (ds ++ dds)[i]? = some d → ArgAt A I2 H2 σ (unlocks es c2) O2 (ts.length + tix (es ++ dds.map EV.t) i) e v d := fun i e v d g1 g2 g3 => by
            by_cases hi : i < es.length
            · rw [List.getElem?_append_left hi] at g1
              rw [List.getElem?_append_left (by omega)] at g2 g3
              rw [tix_app hi]
              exact (Sat.args hl e2 S2 g1 g2 g3).ctx (unlocks_s es c2)
            · rw [List.getElem?_append_right (by omega)] at g1 g2 g3
              rw [hl] at g2
              rw [hdl] at g3
              rw [List.getElem?_map] at g1
              rw [g3] at g1
              cases g1
              exact ⟨rfl, RO.leaf (hdv.get g3 g2 _ _ _)⟩
          obtain ⟨A', O0, hg, Sc, back⟩ := call_core (nl := nl) (ds := ds ++ dds) (vs := vs ++ dvs) (es := es ++ dds.map EV.t) (jx := tix (es ++ dds.map EV.t)) (fun _ _ _ _ => tix_ne) S3 hvl hml hargs hes ok.1 ok.2
          refine ⟨hvl, A', I2, O0, ds ++ dds, by rw [hg], by rw [hg], hml, Sc, ?_⟩
          rw [runF, if_pos hml] at h
          cases e3 : body (initC ms nl (ds ++ dds)) with
          | bad => rw [e3] at h; exact h.elim
          | bk c3 => rw [e3] at h; exact h.elim
          | ct c3 => rw [e3] at h; exact h.elim
          | nx c3 =>
            rw [e3] at h
            dsimp only at h ⊢
            cases e4 : outs ms c3.s with
            | none => rw [e4] at h; exact h.elim
            | some os =>
              rw [e4] at h
              dsimp only at h
              by_cases hk : lkOk (chgs ms (es ++ dds.map .t) os) (unlocks es c2).k = true
              · rw [if_pos hk] at h
                intro σ' I' H' O3 S4
                obtain ⟨O4, S5, _⟩ := back [] σ' I' H' O3 c3 os S4 e4 (by simp) (by simp) hk
                rw [List.append_nil] at S5
                exact h .non I' H' O4 (S5.push (by rw [R]; exact ⟨rfl, rfl⟩))
              · rw [if_neg hk] at h
                exact h.elim
          | rt d c3 =>
            rw [e3] at h
            dsimp only at h ⊢
            cases e4 : outs ms c3.s with
            | none => rw [e4] at h; exact h.elim
            | some os =>
              rw [e4] at h
              dsimp only at h
              by_cases hb : noBor d = true
              · rw [if_pos hb] at h
                dsimp only at h
                by_cases hk : lkOk (chgs ms (es ++ dds.map .t) os) (unlocks es c2).k = true
                · rw [if_pos hk] at h
                  intro v σ' I' H' O3 S4
                  obtain ⟨O4, S5, _⟩ := back [(d, v)] σ' I' H' O3 c3 os S4 e4 (by simp) (by simpa using hb) hk
                  exact h v I' H' O4 S5
                · rw [if_neg hk] at h
                  exact h.elim
              · rw [if_neg hb] at h
                exact h.elim
          | exc k n x c3 =>
            rw [e3] at h
            dsimp only at h ⊢
            cases e4 : outs ms c3.s with
            | none => rw [e4] at h; exact h.elim
            | some os =>
              rw [e4] at h
              dsimp only at h
              by_cases hk : lkOk (chgs ms (es ++ dds.map .t) os) (unlocks es c2).k = true
              · rw [if_pos hk] at h
                intro σ' dd v I' H' O3 S4 i rx
                obtain ⟨O4, S5, _⟩ := back [] σ' I' H' O3 c3 os S4 e4 (by simp) (by simp) hk
                rw [List.append_nil] at S5
                have := h dd v I' H' O4 S5 i (by rw [← hg]; exact rx)
                rw [hg]
                exact this
              · rw [if_neg hk] at h
                exact h.elim
        · rw [runF, if_neg hml] at h
          exact h.elim
      · rw [if_neg ok] at h
        exact h.elim
theorem tE_call {ms : List Bool} {nl : Nat} {body : Ctx → SR} {args : List (Ctx → ER)} {dds : List D} {dvs : List V} (hdv : Dv A.g dds dvs) : ∀ σ H Q, tE A W (eCall ms (runF ms nl body) args dds) σ H Q →
    tCallSD (spF A.g.G A.g.K ms nl body) dvs (WE W) (tA' A W (eArgs args)) σ H Q := fun σ H Q ⟨I, c, ts, O, lk, S, h⟩ => ⟨I, c, ts, O, lk, S, call_w hdv S h⟩

variable {G : Nat → Addr} {f : Addr} {fd : FuncData} {ps : List Str} {ms : List Bool} {nl k : Nat} {body : Ctx → SR} {Φ : List D → FR} {x : Str} {pos pos' : Pos} {e : Expr} {es : List Expr} {args : List (Ctx → ER)} {dds : List D} {dvs : List V} {dvals : List Value}
theorem PE_call (F : FnOk X.prog X.w X.K X.mg X.base (L2.CX X.prog X.w) k f fd ps (spF G X.K ms nl body)) (o : On X A.g) (hG : A.g.G = G) (hΦ : Φ = runF ms nl body) (hr : Room k X.A) (hg : Gl X x) (hm : X.mg x = some (.ref f)) (hk : PySem.W.keepIn X.K (.ref f) = true) (hb : Binds X.K fd ps dvals) (hd : Vals dvs dvals) (hdv : Dv A.g dds dvs)
    (tk : Takes X W) (ha : PA X (e :: es) (tA' A W (eArgs args))) (hdb : (x == ("__debug__" : Str)) = false := by decide) (he : starEach (e :: es) X.env = (false, eval e X.env) :: starEach es X.env := by rfl) (hpl : (backTo pos (starEach es X.env)).any (·.1) = false := by rfl) :
    PE X (.Call (.Name x pos') (e :: es) [] pos) (tE A W (eCall ms Φ args dds)) := by
  subst hΦ
  subst hG
  have F : FnOk X.prog X.w X.K X.mg X.base (L2.CX X.prog X.w) k f fd ps (spF A.g.G A.g.K ms nl body) := by
    rw [o.k]
    exact F
  exact PE.imp (pe_callSD F hr hg hm hk hb hd (passAt tk) ha hdb he hpl) (tE_call hdv)
end

section
variable {P : Program} {w : World} {K : PySem.W.Frag} {mg : Str → Option Value} {base : Heap} {G : Nat → Addr}
/-- a def keeps its promise -/
theorem fn_ok {x qual : Str} {st : Stmt} {f : Addr} {fd : FuncData} {N ps : List Str} {k nl : Nat} {ms : List Bool} {body : Ctx → SR} (F : Fun K x qual st f fd) (S : FnScope N ps (defScope st)) (hm : ms.length = ps.length) (hn : N.length = ps.length + nl)
    (hb : ∀ (cdv : Value) (A : Around) (outer : List Env) (s : Shared) (H : Hp) (E : XK), Room k (A.deeper (envOfC qual (defScope st) s.heap.objs.size f cdv)) → ∀ Ac : Act, Ac.g.G = G → Ac.g.K = K →
      PSs (cxOf (L2.CX P w) P w K mg base N qual (defScope st) f cdv A outer s H E) (defBody st) (tS Ac (fun cls d _ H => E cls d H) body)) : FnOk P w K mg base (L2.CX P w) (k + 1) f fd ps (spF G K ms nl body) := by
  refine F.okX S (fun vs H Q E h => h.1.trans hm) fun cdv A outer s H vs Q E hr h => ?_
  obtain ⟨hl, Ac, I, O, ds, hg, hg2, hd, Sa, h⟩ := h
  refine ⟨_, hb cdv A outer s H E hr Ac hg hg2, ?_⟩
  have hst : L2.start N vs = vs.map some ++ List.replicate nl none := by
    rw [L2.start]
    congr 2
    omega
  rw [hst]
  refine ⟨I, initC ms nl ds, O, _, Sa, ?_⟩
  cases e : body (initC ms nl ds) with
  | bad => rw [e] at h; exact h
  | bk c3 => rw [e] at h; exact h.elim
  | ct c3 => rw [e] at h; exact h.elim
  | nx c3 => rw [e] at h; exact h
  | rt d c3 => rw [e] at h; exact h
  | exc k n x c3 => rw [e] at h; exact h
end
end Lc
end
section
set_option Elab.async false
set_option linter.all false
set_option maxRecDepth 100000
set_option maxHeartbeats 1000000
namespace Lc
open PySem L2

/-! ### a container is changed: its kids are old kids and arguments -/
def pick {α : Type} : List Nat → List α → List α
  | [], _ => []
  | j :: js, zs => match zs[j]? with
    | some z => z :: pick js zs
    | none => pick js zs

/-- the cells of each item -/
inductive RLs (g : Gs) (I B H : Hp) : List D → List V → List (List Addr) → Prop where
  | nil : RLs g I B H [] [] []
  | cons {d : D} {v : V} {f : List Addr} {ds : List D} {vs : List V} {fs : List (List Addr)} : R g I B H d v f → RLs g I B H ds vs fs → RLs g I B H (d :: ds) (v :: vs) (f :: fs)
theorem RL.split {g : Gs} {I B H : Hp} : ∀ {xs : List D} {vs : List V} {fp : List Addr}, RL g I B H xs vs fp → ∃ fs, fp = fs.flatten ∧ RLs g I B H xs vs fs
  | [], vs, fp, h => by
    rw [RL] at h
    obtain ⟨rfl, rfl⟩ := h
    exact ⟨[], rfl, .nil⟩
  | x :: xs, vs, fp, h => by
    rw [RL] at h
    obtain ⟨v, vr, f1, f2, rfl, rfl, h1, h2⟩ := h
    obtain ⟨fs, rfl, r⟩ := RL.split h2
    exact ⟨f1 :: fs, by simp, .cons h1 r⟩
theorem RLs.join {g : Gs} {I B H : Hp} {xs : List D} {vs : List V} {fs : List (List Addr)} (h : RLs g I B H xs vs fs) : RL g I B H xs vs fs.flatten := by
  induction h with
  | nil =>
    rw [RL]
    exact ⟨rfl, rfl⟩
  | @cons d v f ds vs fs h r ih =>
    rw [RL]
    exact ⟨v, vs, f, fs.flatten, rfl, by simp, h, ih⟩
theorem RLs.append {g : Gs} {I B H : Hp} {xs ys : List D} {vs ws : List V} {fs gs : List (List Addr)} (h : RLs g I B H xs vs fs) (h2 : RLs g I B H ys ws gs) : RLs g I B H (xs ++ ys) (vs ++ ws) (fs ++ gs) := by
  induction h with
  | nil => exact h2
  | cons r _ ih => exact .cons r ih
theorem RLs.get {g : Gs} {I B H : Hp} {xs : List D} {vs : List V} {fs : List (List Addr)} (h : RLs g I B H xs vs fs) : ∀ j : Nat, (xs[j]? = none ∧ vs[j]? = none ∧ fs[j]? = none) ∨ ∃ d v f, xs[j]? = some d ∧ vs[j]? = some v ∧ fs[j]? = some f ∧ R g I B H d v f := by
  induction h with
  | nil => exact fun j => .inl ⟨by simp, by simp, by simp⟩
  | @cons d v f ds vs fs r _ ih =>
    intro j
    cases j with
    | zero => exact .inr ⟨d, v, f, rfl, rfl, rfl, r⟩
    | succ j => simpa using ih j
theorem RLs.pick {g : Gs} {I B H : Hp} {xs : List D} {vs : List V} {fs : List (List Addr)} (h : RLs g I B H xs vs fs) : ∀ js : List Nat, RLs g I B H (Lc.pick js xs) (Lc.pick js vs) (Lc.pick js fs)
  | [] => .nil
  | j :: js => by
    rw [Lc.pick, Lc.pick, Lc.pick]
    rcases h.get j with ⟨e1, e2, e3⟩ | ⟨d, v, f, e1, e2, e3, r⟩
    · rw [e1, e2, e3]
      exact h.pick js
    · rw [e1, e2, e3]
      exact .cons r (h.pick js)
theorem RLs.len {g : Gs} {I B H : Hp} {xs : List D} {vs : List V} {fs : List (List Addr)} (h : RLs g I B H xs vs fs) : vs.length = xs.length ∧ fs.length = xs.length := by
  induction h with
  | nil => exact ⟨rfl, rfl⟩
  | cons _ _ ih => exact ⟨by rw [List.length_cons, List.length_cons, ih.1], by rw [List.length_cons, List.length_cons, ih.2]⟩

theorem flat_dis : ∀ {fs : List (List Addr)} {i j : Nat} {f1 f2 : List Addr} {a : Addr}, fs.flatten.Nodup → fs[i]? = some f1 → fs[j]? = some f2 → a ∈ f1 → a ∈ f2 → i = j
  | f :: fs, 0, 0, _, _, _, _, _, _, _, _ => rfl
  | f :: fs, 0, j + 1, f1, f2, a, n, e1, e2, h1, h2 => by
    have e1 : f = f1 := by simpa using e1
    have e2 : fs[j]? = some f2 := by simpa using e2
    subst e1
    rw [List.flatten_cons, List.nodup_append] at n
    exact absurd rfl (n.2.2 a h1 a (List.mem_flatten.mpr ⟨f2, List.mem_of_getElem? e2, h2⟩))
  | f :: fs, i + 1, 0, f1, f2, a, n, e1, e2, h1, h2 => by
    have e2 : f = f2 := by simpa using e2
    have e1 : fs[i]? = some f1 := by simpa using e1
    subst e2
    rw [List.flatten_cons, List.nodup_append] at n
    exact absurd rfl (n.2.2 a h2 a (List.mem_flatten.mpr ⟨f1, List.mem_of_getElem? e1, h1⟩))
  | f :: fs, i + 1, j + 1, f1, f2, a, n, e1, e2, h1, h2 => by
    rw [List.flatten_cons, List.nodup_append] at n
    have e1 : fs[i]? = some f1 := by simpa using e1
    have e2 : fs[j]? = some f2 := by simpa using e2
    exact congrArg (· + 1) (flat_dis n.2.1 e1 e2 h1 h2)
  | [], _, _, _, _, _, _, e, _, _, _ => by simp at e
theorem flat_one : ∀ {fs : List (List Addr)} {f : List Addr}, fs.flatten.Nodup → f ∈ fs → f.Nodup
  | f0 :: fs, f, n, h => by
    rw [List.flatten_cons, List.nodup_append] at n
    cases h with
    | head => exact n.1
    | tail _ h => exact flat_one n.2.1 h
  | [], _, _, h => by cases h
theorem pick_mem {α : Type} : ∀ {js : List Nat} {zs : List α} {z : α}, z ∈ pick js zs → ∃ j, j ∈ js ∧ zs[j]? = some z
  | [], _, _, h => by cases h
  | j :: js, zs, z, h => by
    rw [pick] at h
    cases e : zs[j]? with
    | none =>
      rw [e] at h
      obtain ⟨i, h1, h2⟩ := pick_mem h
      exact ⟨i, List.mem_cons_of_mem _ h1, h2⟩
    | some y =>
      rw [e] at h
      rcases List.mem_cons.mp h with h | h
      · subst h
        exact ⟨j, List.mem_cons_self .., e⟩
      · obtain ⟨i, h1, h2⟩ := pick_mem h
        exact ⟨i, List.mem_cons_of_mem _ h1, h2⟩
theorem pick_nodup {fs : List (List Addr)} (n : fs.flatten.Nodup) : ∀ {js : List Nat}, js.Nodup → (pick js fs).flatten.Nodup
  | [], _ => List.nodup_nil
  | j :: js, h => by
    rw [List.nodup_cons] at h
    rw [pick]
    cases e : fs[j]? with
    | none => exact pick_nodup n h.2
    | some f =>
      dsimp only
      rw [List.flatten_cons, List.nodup_append]
      refine ⟨flat_one n (List.mem_of_getElem? e), pick_nodup n h.2, fun a ha b hb z => ?_⟩
      subst z
      obtain ⟨f2, h1, h2⟩ := List.mem_flatten.mp hb
      obtain ⟨i, h3, h4⟩ := pick_mem h1
      have := flat_dis n e h4 ha h2
      subst this
      exact h.1 h3
theorem pick_get {α : Type} : ∀ {js : List Nat} {zs : List α} {i j : Nat} , (∀ j ∈ js, j < zs.length) → js[i]? = some j → (pick js zs)[i]? = zs[j]?
  | j0 :: js, zs, 0, j, h, e => by
    have e : j0 = j := by simpa using e
    subst e
    have hj := h j0 (List.mem_cons_self ..)
    rw [pick, List.getElem?_eq_getElem hj]
    rfl
  | j0 :: js, zs, i + 1, j, h, e => by
    have hj := h j0 (List.mem_cons_self ..)
    rw [pick, List.getElem?_eq_getElem hj]
    exact pick_get (fun j hj => h j (List.mem_cons_of_mem _ hj)) (by simpa using e)
  | [], _, _, _, _, e => by simp at e
theorem pick_len {α : Type} : ∀ {js : List Nat} {zs : List α}, (∀ j ∈ js, j < zs.length) → (pick js zs).length = js.length
  | [], _, _ => rfl
  | j :: js, zs, h => by
    rw [pick, List.getElem?_eq_getElem (h j (List.mem_cons_self ..))]
    show _ + 1 = _ + 1
    rw [pick_len fun j hj => h j (List.mem_cons_of_mem _ hj)]

/-- what a change does: the new kind, the new kids (by place among the old kids and the arguments), the result: one of them | a constant -/
structure Mut where
  k : Kd
  js : List Nat
  res : Sum Nat D
def Mut.ok (m : Mut) (n : Nat) : Bool := m.js.all (fun j => decide (j < n)) && decide m.js.Nodup && (match m.res with | .inl j => decide (j < n) && !(m.js.contains j) | .inr d => noBor d && Lc.noOwn d)
def keepJ (js : List Nat) (q : List Nat) : Bool := match q with
  | [] => true
  | i :: _ => js[i]? == some i

section
variable {A : Act} {W : Wx} {I H I' H' : Hp} {σ σ' : St} {c c' : Ctx} {ts xs : List (D × V)} {O O' : Addr → Option Ow} {lk : List (Nat × List Nat × V)} {d : D} {v : V} {w : Ow} {r : Nat} {p : List Nat}

/-- the value of the result -/
def ResV (A : Act) (I H : Hp) (m : Mut) (us : List V) (zs : List D) (d : D) (v : V) : Prop := match m.res with
  | .inl j => us[j]? = some v ∧ zs[j]? = some d
  | .inr d0 => d = d0 ∧ R A.g I A.B H d0 v []

theorem mut_core {l : Addr} {k : Kd} {kxs ds : List D} {kvs ws : List V} {m : Mut} {o' : HO} {fa : List Addr} (S : Sat A I H σ c (ts ++ xs) O lk) (pv : PV A I H σ c O r p v) (hd : ∃ d0, c.s[r]? = some (.v d0) ∧ getP d0 p = some (.nd k .own kxs)) (hv : v = .ref l) (ho : OwnC A.g H k l kvs)
    (ra : RL A.g I A.B H ds ws fa) (nd : fa.Nodup) (la : ∀ a ∈ fa, ∃ j, O a = some (.inr j) ∧ ts.length ≤ j) (ok : m.ok (kxs ++ ds).length = true)
    (hn : OwnC A.g (upd H l o') m.k l (pick m.js (kvs ++ ws))) {w' : V} (rv : ResV A I (upd H l o') m (kvs ++ ws) (kxs ++ ds) d w')
    (hk : lkOk [⟨r, p, keepJ m.js, .nd m.k .own (pick m.js (kxs ++ ds))⟩] c.k = true) :
    ∃ O', Sat A I (upd H l o') σ (updC [⟨r, p, keepJ m.js, .nd m.k .own (pick m.js (kxs ++ ds))⟩] c) (ts ++ [(d, w')]) O' lk := by
  classical
  subst hv
  obtain ⟨d1, d', v0, ga, fn, gb, op⟩ := S.opn pv
  obtain ⟨d0, h1, h2⟩ := hd
  have e1 := op.slot
  rw [h1] at e1
  cases e1
  have e2 := op.get
  rw [h2] at e2
  cases e2
  have rel := op.rel
  rw [R] at rel
  obtain ⟨l', vs', fq, e3, rfl, hoc, rk⟩ := rel
  cases e3
  have ev := hoc.inj ho
  subst ev
  -- the cells
  obtain ⟨fs1, rfl, s1⟩ := rk.split
  obtain ⟨fs2, rfl, s2⟩ := ra.split
  have sall := s1.append s2
  have ndl := op.nd
  rw [List.append_assoc, List.nodup_append] at ndl
  obtain ⟨n1, n2, n3⟩ := ndl
  rw [List.nodup_append] at n2
  obtain ⟨n4, n5, n6⟩ := n2
  rw [List.nodup_cons] at n4
  have labK : ∀ a ∈ fs1.flatten, O a = some (.inl r) := fun a ha => op.lab a (by simp [ha])
  have labL : O l = some (.inl r) := op.lab l (by simp)
  have ndA : (fs1 ++ fs2).flatten.Nodup := by
    rw [List.flatten_append, List.nodup_append]
    refine ⟨n4.2, nd, fun a ha b hb z => ?_⟩
    subst z
    obtain ⟨j, e, _⟩ := la a hb
    rw [labK a ha] at e
    cases e
  have nl : ∀ f ∈ fs1 ++ fs2, l ∉ f := fun f hf hl => by
    rcases List.mem_append.mp hf with hf | hf
    · exact n4.1 (List.mem_flatten.mpr ⟨f, hf, hl⟩)
    · obtain ⟨j, e, _⟩ := la l (List.mem_flatten.mpr ⟨f, hf, hl⟩)
      rw [labL] at e
      cases e
  rw [Mut.ok, Bool.and_eq_true, Bool.and_eq_true] at ok
  obtain ⟨⟨ok1, ok2⟩, ok3⟩ := ok
  have okj : ∀ j ∈ m.js, j < (kxs ++ ds).length := fun j hj => by simpa using List.all_eq_true.mp ok1 j hj
  have ok2 : m.js.Nodup := by simpa using ok2
  have lenV : (vs' ++ ws).length = (kxs ++ ds).length := sall.len.1
  have lenF : (fs1 ++ fs2).length = (kxs ++ ds).length := sall.len.2
  have mv : ∀ {d : D} {v : V} {f : List Addr}, f ∈ fs1 ++ fs2 → R A.g I A.B H d v f → R A.g I A.B (upd H l o') d v f := fun {d v f} hf h => R.keep d h (leH.refl _) (leH.refl _) fun a ha => upd_ne fun z => nl f hf (z ▸ ha)
  have pk := sall.pick m.js
  have pkm : RLs A.g I A.B (upd H l o') (pick m.js (kxs ++ ds)) (pick m.js (vs' ++ ws)) (pick m.js (fs1 ++ fs2)) := by
    have : ∀ {a : List D} {b : List V} {f : List (List Addr)}, RLs A.g I A.B H a b f → (∀ x ∈ f, x ∈ fs1 ++ fs2) → RLs A.g I A.B (upd H l o') a b f := fun {a b f} h => by
      induction h with
      | nil => exact fun _ => .nil
      | cons h _ ih => exact fun q => .cons (mv (q _ (List.mem_cons_self ..)) h) (ih fun x hx => q x (List.mem_cons_of_mem _ hx))
    refine this pk fun x hx => ?_
    obtain ⟨j, _, e⟩ := pick_mem hx
    exact List.mem_of_getElem? e
  -- the result
  have rres : ∃ fr, R A.g I A.B (upd H l o') d w' fr ∧ fr.Nodup ∧ (fr = [] ∨ ∃ j, j < (kxs ++ ds).length ∧ j ∉ m.js ∧ (fs1 ++ fs2)[j]? = some fr) := by
    unfold ResV at rv
    cases em : m.res with
    | inr dd =>
      rw [em] at rv
      obtain ⟨rfl, rv⟩ := rv
      exact ⟨[], rv, List.nodup_nil, .inl rfl⟩
    | inl j =>
      rw [em] at rv ok3
      dsimp only at rv ok3
      rw [Bool.and_eq_true] at ok3
      rcases sall.get j with ⟨z, _⟩ | ⟨dd, vv, f, z1, z2, z3, rr⟩
      · rw [z] at rv
        cases rv.2
      · rw [z1, z2] at rv
        cases rv.1
        cases rv.2
        exact ⟨f, mv (List.mem_of_getElem? z3) rr, flat_one ndA (List.mem_of_getElem? z3), .inr ⟨j, by simpa using ok3.1, by simpa using ok3.2, z3⟩⟩
  obtain ⟨fr, rr, ndr, hfr⟩ := rres
  -- the labels
  have labA : ∀ f ∈ fs1 ++ fs2, ∀ a ∈ f, O a = some (.inl r) ∨ ∃ j, O a = some (.inr j) ∧ ts.length ≤ j := fun f hf a ha => by
    rcases List.mem_append.mp hf with hf | hf
    · exact .inl (labK a (List.mem_flatten.mpr ⟨f, hf, ha⟩))
    · exact .inr (la a (List.mem_flatten.mpr ⟨f, hf, ha⟩))
  obtain ⟨fp', hfp⟩ : ∃ fp', fp' = (pick m.js (fs1 ++ fs2)).flatten := ⟨_, rfl⟩
  have fpm : ∀ a ∈ fp', ∃ j f, j ∈ m.js ∧ (fs1 ++ fs2)[j]? = some f ∧ a ∈ f := fun a ha => by
    rw [hfp] at ha
    obtain ⟨f, h1, h2⟩ := List.mem_flatten.mp ha
    obtain ⟨j, h3, h4⟩ := pick_mem h1
    exact ⟨j, f, h3, h4, h2⟩
  have frm : ∀ a ∈ fr, ∃ j f, j ∉ m.js ∧ (fs1 ++ fs2)[j]? = some f ∧ a ∈ f := fun a ha => by
    rcases hfr with e | ⟨j, _, h1, h2⟩
    · rw [e] at ha
      cases ha
    · exact ⟨j, fr, h1, h2, ha⟩
  have disR : ∀ a ∈ fp', a ∉ fr := fun a ha hb => by
    obtain ⟨j, f, h1, h2, h3⟩ := fpm a ha
    obtain ⟨i, f2, h4, h5, h6⟩ := frm a hb
    have := flat_dis ndA h2 h5 h3 h6
    subst this
    exact h4 h1
  have lNe : ∀ a ∈ fr, a ≠ l := fun a ha z => by
    obtain ⟨j, f, _, h2, h3⟩ := frm a ha
    exact nl f (List.mem_of_getElem? h2) (z ▸ h3)
  have lNp : ∀ a ∈ fp', a ≠ l := fun a ha z => by
    obtain ⟨j, f, _, h2, h3⟩ := fpm a ha
    exact nl f (List.mem_of_getElem? h2) (z ▸ h3)
  have outside : ∀ a ∈ ga ++ gb, a ∉ fr ∧ a ∉ fp' ∧ a ≠ l := fun a ha => by
    have lo : O a = some (.inl r) := op.lab a (by rcases List.mem_append.mp ha with ha | ha <;> simp [ha])
    have notIn : ∀ f ∈ fs1 ++ fs2, a ∉ f := fun f hf hb => by
      rcases List.mem_append.mp hf with hf | hf
      · have hb2 : a ∈ fs1.flatten := List.mem_flatten.mpr ⟨f, hf, hb⟩
        rcases List.mem_append.mp ha with ha | ha
        · exact n3 a ha a (by simp [hb2]) rfl
        · exact n6 a (by simp [hb2]) a ha rfl
      · obtain ⟨j, e, _⟩ := la a (List.mem_flatten.mpr ⟨f, hf, hb⟩)
        rw [lo] at e
        cases e
    refine ⟨fun hb => ?_, fun hb => ?_, fun z => ?_⟩
    · obtain ⟨j, f, _, h2, h3⟩ := frm a hb
      exact notIn f (List.mem_of_getElem? h2) h3
    · obtain ⟨j, f, _, h2, h3⟩ := fpm a hb
      exact notIn f (List.mem_of_getElem? h2) h3
    · subst z
      rcases List.mem_append.mp ha with ha | ha
      · exact n3 a ha a (by simp) rfl
      · exact n6 a (by simp) a ha rfl
  obtain ⟨O', hO'⟩ : ∃ O' : Addr → Option Ow, ∀ a, O' a = if a ∈ fr then some (.inr ts.length) else if a ∈ fp' then some (.inl r) else match O a with | some (.inr j) => if j < ts.length then some (.inr j) else none | o => o := ⟨_, fun _ => rfl⟩
  obtain ⟨f1, f2, f3⟩ := S.fr l _ labL
  have S3 : Sat A I (upd H l o') σ (updC [⟨r, p, keepJ m.js, .nd m.k .own (pick m.js (kxs ++ ds))⟩] c) ts O' lk := by
    refine S.upd (xs := xs) (leH.refl _) (fun a o e => ?_) (fun a o e => ?_) (fun a o e => .inl e) (fun a r' h h2 => ?_) (fun a j h h2 => ?_) (fun r' g hg => ?_) hk fun a w h => ?_
    · rw [upd_ne (fun z => by rw [z, f1] at e; cases e)]
      exact S.ih a o e
    · rw [upd_ne (fun z => by rw [z, f2] at e; cases e)]
      exact S.bh a o e
    · have hne : r' ≠ r := fun z => by
        subst z
        rw [chgOf] at h2
        simp at h2
      have na : a ≠ l := fun z => by
        rw [z, labL] at h
        cases h
        exact hne rfl
      refine ⟨upd_ne na, ?_⟩
      have nf : a ∉ fr := fun hb => by
        obtain ⟨j, f, _, z1, z2⟩ := frm a hb
        rcases labA f (List.mem_of_getElem? z1) a z2 with z | ⟨_, z, _⟩ <;> rw [h] at z <;> cases z
        exact hne rfl
      have np : a ∉ fp' := fun hb => by
        obtain ⟨j, f, _, z1, z2⟩ := fpm a hb
        rcases labA f (List.mem_of_getElem? z1) a z2 with z | ⟨_, z, _⟩ <;> rw [h] at z <;> cases z
        exact hne rfl
      rw [hO', if_neg nf, if_neg np, h]
    · have na : a ≠ l := fun z => by
        rw [z, labL] at h
        cases h
      refine ⟨upd_ne na, ?_⟩
      have nf : a ∉ fr := fun hb => by
        obtain ⟨j, f, _, z1, z2⟩ := frm a hb
        rcases labA f (List.mem_of_getElem? z1) a z2 with z | ⟨_, z, _⟩ <;> rw [h] at z <;> cases z
        omega
      have np : a ∉ fp' := fun hb => by
        obtain ⟨j, f, _, z1, z2⟩ := fpm a hb
        rcases labA f (List.mem_of_getElem? z1) a z2 with z | ⟨_, z, _⟩ <;> rw [h] at z <;> cases z
        omega
      rw [hO', if_neg nf, if_neg np, h]
      dsimp only
      rw [if_pos h2]
    · rw [chgOf] at hg
      dsimp only at hg
      by_cases hr : r = r'
      · rw [if_pos hr] at hg
        cases hg
        refine ⟨.ref l, _, _, v0, ga, l :: fs1.flatten, gb, l :: fp', op, ?_, by rw [Lc.noOwn], ?_, fun a ha => upd_ne (outside a ha).2.2, fun a ha => ?_, fun q1 hq => ?_⟩
        · rw [R]
          exact ⟨l, _, fp', rfl, rfl, hn, by rw [hfp]; exact pkm.join⟩
        · rw [List.append_assoc, List.nodup_append]
          refine ⟨n1, ?_, fun a ha b hb z => ?_⟩
          · rw [List.nodup_append]
            refine ⟨?_, n5, fun a ha b hb z => ?_⟩
            · rw [List.nodup_cons]
              refine ⟨fun z => lNp l z rfl, ?_⟩
              rw [hfp]
              exact pick_nodup ndA ok2
            · subst z
              obtain ⟨_, z1, z2⟩ := outside a (by simp [hb])
              rcases List.mem_cons.mp ha with ha | ha
              · exact z2 ha
              · exact z1 ha
          · subst z
            obtain ⟨_, z1, z2⟩ := outside a (by simp [ha])
            rcases List.mem_append.mp hb with hb | hb
            · rcases List.mem_cons.mp hb with hb | hb
              · exact z2 hb
              · exact z1 hb
            · exact n3 a ha a (by simp [hb]) rfl
        · have nf : a ∉ fr := fun hb => by
            rcases List.mem_append.mp ha with ha | ha
            · rcases List.mem_append.mp ha with ha | ha
              · exact (outside a (by simp [ha])).1 hb
              · rcases List.mem_cons.mp ha with ha | ha
                · exact lNe a hb ha
                · exact disR a ha hb
            · exact (outside a (by simp [ha])).1 hb
          rw [hO', if_neg nf]
          by_cases hp : a ∈ fp'
          · rw [if_pos hp]
          · rw [if_neg hp]
            have : O a = some (.inl r) := by
              rcases List.mem_append.mp ha with ha | ha
              · rcases List.mem_append.mp ha with ha | ha
                · exact op.lab a (by simp [ha])
                · rcases List.mem_cons.mp ha with ha | ha
                  · rw [ha]
                    exact labL
                  · exact absurd ha hp
              · exact op.lab a (by simp [ha])
            rw [this]
        · intro w x gx nx va
          cases q1 with
          | nil => exact ⟨va, _, rfl, by rw [Lc.noOwn]⟩
          | cons i q2 =>
            have hq : m.js[i]? = some i := by simpa [keepJ] using hq
            have hlt := okj i (List.mem_of_getElem? hq)
            obtain ⟨l2, vs2, v1, z1, z2, z3, z4⟩ := va
            cases z1
            have : vs' = vs2 := by
              rcases z2 with z2 | ⟨_, k2, z2⟩
              · exact (tup_own (S.ih _ _ z2) ho).elim
              · exact ho.inj z2
            subst this
            have hi : i < vs'.length := (List.getElem?_eq_some_iff.mp z3).1
            rw [getP] at gx
            have gV : (pick m.js (vs' ++ ws))[i]? = some v1 := by
              rw [pick_get (fun j hj => by rw [lenV]; exact okj j hj) hq, List.getElem?_append_left hi]
              exact z3
            have gD : (pick m.js (kxs ++ ds))[i]? = kxs[i]? := by
              rw [pick_get okj hq, List.getElem?_append_left (by rw [← s1.len.1]; exact hi)]
            cases hx : kxs[i]? with
            | none =>
              rw [hx] at gx
              cases gx
            | some y =>
              rw [hx] at gx
              -- the kid's cells
              rcases s1.get i with ⟨z, _⟩ | ⟨dd, vv, f, y1, y2, y3, rr2⟩
              · rw [hx] at z
                cases z
              · rw [hx] at y1
                cases y1
                rw [z3] at y2
                cases y2
                obtain ⟨w2, _, _, _, _, va5, _⟩ := R.place q2 rr2 (show getP y q2 = some x from gx) nx
                have ew : w2 = w := va5.inj (fun q vs k ws hi ho => tup_own (S.ih _ _ hi) ho) z4
                subst ew
                have fin : ∀ a ∈ f, a ∈ fp' := fun a ha => by
                  rw [hfp]
                  refine List.mem_flatten.mpr ⟨f, ?_, ha⟩
                  have : (pick m.js (fs1 ++ fs2))[i]? = some f := by
                    rw [pick_get (fun j hj => by rw [lenF]; exact okj j hj) hq, List.getElem?_append_left (by rw [s1.len.2, ← s1.len.1]; exact hi)]
                    exact y3
                  exact List.mem_of_getElem? this
                refine ⟨⟨l, _, v1, rfl, .inr ⟨?_, m.k, hn⟩, gV, va5.keep (leH.refl _) (fun a ha => upd_ne (lNp a (fin a ha))) fun a ha => ?_⟩, x, ?_, nx⟩
                · show O' l = some (.inl r)
                  rw [hO', if_neg (fun z => lNe l z rfl), if_neg (fun z => lNp l z rfl), labL]
                · show O' a = some (.inl r)
                  rw [hO', if_neg (disR a (fin a ha)), if_pos (fin a ha)]
                · rw [getP, gD, hx]
                  exact gx
      · rw [if_neg hr] at hg
        cases hg
    · rw [hO'] at h
      have src : ∃ w2, O a = some w2 := by
        by_cases hf : a ∈ fr
        · obtain ⟨j, f, _, z1, z2⟩ := frm a hf
          rcases labA f (List.mem_of_getElem? z1) a z2 with z | ⟨_, z, _⟩ <;> exact ⟨_, z⟩
        · by_cases hp : a ∈ fp'
          · obtain ⟨j, f, _, z1, z2⟩ := fpm a hp
            rcases labA f (List.mem_of_getElem? z1) a z2 with z | ⟨_, z, _⟩ <;> exact ⟨_, z⟩
          · rw [if_neg hf, if_neg hp] at h
            cases z : O a with
            | none => rw [z] at h; cases h
            | some w => exact ⟨w, rfl⟩
      obtain ⟨w2, hw⟩ := src
      obtain ⟨g1, g2, o, g3⟩ := S.fr a w2 hw
      refine ⟨g1, g2, ?_⟩
      by_cases z : a = l
      · subst z
        exact ⟨o', upd_same⟩
      · exact ⟨o, by rw [upd_ne z]; exact g3⟩
  refine ⟨O', S3.ih, S3.bh, S3.i0, S3.ib, S3.len, S3.vals, S3.als, fun j d2 v2 e => ?_, S3.lks, S3.lke, S3.fr⟩
  by_cases hj : j < ts.length
  · rw [List.getElem?_append_left hj] at e
    exact S3.tmps j d2 v2 e
  · rw [List.getElem?_append_right (Nat.le_of_not_lt hj)] at e
    have hl := (List.getElem?_eq_some_iff.mp e).1
    have hz : j - ts.length = 0 := by
      simp at hl
      omega
    rw [hz] at e
    cases e
    have : j = ts.length := by omega
    subst this
    refine ⟨fr, rr, ndr, fun a ha => ?_⟩
    rw [hO', if_pos ha]
end
end Lc
end
section
set_option Elab.async false
set_option linter.all false
set_option maxRecDepth 100000
set_option maxHeartbeats 1000000
namespace Lc
open PySem L2

def isT : EV → Bool
  | .t _ => true
  | _ => false
/-- what a change makes of a place -/
def mutAt (m : Mut) (r : Nat) (p : List Nat) (zs : List D) (c : Ctx) : Option (D × Ctx) :=
  match (match m.res with | .inl j => zs[j]? | .inr d => some d) with
  | some d => if m.ok zs.length && lkOk [⟨r, p, keepJ m.js, .nd m.k .own (pick m.js zs)⟩] c.k then some (d, updC [⟨r, p, keepJ m.js, .nd m.k .own (pick m.js zs)⟩] c) else none
  | none => none
/-- the own container at a place -/
def nodeAt (c : Ctx) (r : Nat) (p : List Nat) : Option (Kd × List D) := match c.s[r]? with
  | some (.v d) => match getP d p with
    | some (.nd k .own xs) => some (k, xs)
    | _ => none
  | _ => none
/-- o.m(..), changing o -/
def eMth (T : Kd → Bool) (f : Kd → List D → List D → Option Mut) (mo : Ctx → ER) (ms : List (Ctx → ER)) : Ctx → ER := fun c => match mo c with
  | .ok (.pl r p) c1 => match nodeAt c1 r p with
    | some (k0, _) => if T k0 then match eArgs ms (lockE (.pl r p) c1) with
      | .ok es c2 => match valsOf c2 es, nodeAt c2 r p with
        | some ds, some (k, xs) => if es.all isT then match f k xs ds with
          | some m => match mutAt m r p (xs ++ ds) (unlockE (.pl r p) c2) with
            | some (d, c3) => .ok (.t d) c3
            | none => .bad
          | none => .bad
          else .bad
        | _, _ => .bad
      | .exc k n x c2 => .exc k n x (unlockE (.pl r p) c2)
      | .bad => .bad
      else .bad
    | none => .bad
  | .ok (.t _) _ => .bad
  | .exc k n x c1 => .exc k n x c1
  | .bad => .bad

/-- what the change asks of the values -/
def MutS (A : Act) (f : Kd → List D → List D → Option Mut) (r : V → List V → Hp → VK → Prop) : Prop := ∀ (I H : Hp) (l : Addr) (k : Kd) (kxs : List D) (kvs : List V) (ds : List D) (ws : List V) (Q : VK) (m : Mut), leH I H → leH A.B H → OwnC A.g H k l kvs →
  Paired (EAt A I H) kxs kvs → Paired (EAt A I H) ds ws → f k kxs ds = some m →
  (∀ o' d v, OwnC A.g (upd H l o') m.k l (pick m.js (kvs ++ ws)) → ResV A I (upd H l o') m (kvs ++ ws) (kxs ++ ds) d v → Q v (upd H l o')) → r (.ref l) ws H Q

section
variable {A : Act} {W : Wx} {X : Cx} {I H I' H' : Hp} {σ σ' : St} {c c' : Ctx} {ts xs : List (D × V)} {O O' : Addr → Option Ow} {lk : List (Nat × List Nat × V)} {d : D} {v : V} {w : Ow} {r : Nat} {p : List Nat}

theorem RL.paired : ∀ {xs : List D} {vs : List V} {fp : List Addr}, RL A.g I A.B H xs vs fp → Paired (EAt A I H) xs vs
  | [], vs, fp, h => by
    rw [RL] at h
    obtain ⟨rfl, _⟩ := h
    exact .nil
  | x :: xs, vs, fp, h => by
    rw [RL] at h
    obtain ⟨v, vr, f1, f2, rfl, _, h1, h2⟩ := h
    exact .cons ⟨f1, h1⟩ (RL.paired h2)
/-- arguments that are all temporaries -/
theorem Sat.tmpRL : ∀ {es : List EV} {vs : List V} {ds : List D} {ts : List (D × V)}, es.all isT = true → vs.length = es.length → Lc.valsOf c es = some ds → Sat A I H σ c (ts ++ tmpsOf es vs) O lk →
    ∃ fa, RL A.g I A.B H ds vs fa ∧ fa.Nodup ∧ ∀ a ∈ fa, ∃ j, O a = some (.inr j) ∧ ts.length ≤ j
  | [], vs, ds, ts, _, hl, e, S => by
    cases vs with
    | nil =>
      rw [Lc.valsOf] at e
      cases e
      exact ⟨[], by rw [RL]; exact ⟨rfl, rfl⟩, List.nodup_nil, fun a ha => by cases ha⟩
    | cons _ _ => cases hl
  | .t d :: es, v :: vs, ds, ts, ht, hl, e, S => by
    have hl2 : vs.length = es.length := by simpa using hl
    rw [Lc.valsOf] at e
    cases e2 : Lc.valsOf c es with
    | none => rw [e2] at e; simp [val] at e
    | some ds' =>
      rw [e2] at e
      simp only [val, Option.some.injEq] at e
      subst e
      have S2 : Sat A I H σ c (ts ++ [(d, v)] ++ tmpsOf es vs) O lk := by
        have : ts ++ [(d, v)] ++ tmpsOf es vs = ts ++ tmpsOf (.t d :: es) (v :: vs) := by
          rw [tmpsOf, List.append_assoc, List.singleton_append]
        rw [this]
        exact S
      obtain ⟨fa, ra, nd, la⟩ := Sat.tmpRL (ts := ts ++ [(d, v)]) (by simpa [isT] using ht) hl2 e2 S2
      obtain ⟨f1, r1, n1, l1⟩ := S2.tmps ts.length d v (by simp)
      refine ⟨f1 ++ fa, ?_, ?_, fun a ha => ?_⟩
      · rw [RL]
        exact ⟨v, vs, f1, fa, rfl, rfl, r1, ra⟩
      · rw [List.nodup_append]
        refine ⟨n1, nd, fun a ha b hb z => ?_⟩
        subst z
        obtain ⟨j, e3, hj⟩ := la a hb
        rw [l1 a ha] at e3
        cases e3
        simp at hj
        omega
      · rcases List.mem_append.mp ha with ha | ha
        · exact ⟨ts.length, l1 a ha, Nat.le_refl _⟩
        · obtain ⟨j, e3, hj⟩ := la a ha
          exact ⟨j, e3, by simp at hj; omega⟩
  | .pl _ _ :: es, _, _, _, ht, _, _, _ => by simp [isT] at ht
  | .t _ :: _, [], _, _, _, hl, _, _ => by cases hl

theorem nodeAt_some {k : Kd} {ys : List D} (h : nodeAt c r p = some (k, ys)) : ∃ d0, c.s[r]? = some (.v d0) ∧ getP d0 p = some (.nd k .own ys) := by
  unfold nodeAt at h
  cases e : c.s[r]? with
  | none => rw [e] at h; cases h
  | some z =>
    rw [e] at h
    cases z with
    | no => cases h
    | al _ _ => cases h
    | v d0 =>
      refine ⟨d0, rfl, ?_⟩
      dsimp only at h
      cases e2 : getP d0 p with
      | none => rw [e2] at h; cases h
      | some q =>
        rw [e2] at h
        cases q with
        | nd k2 f2 ys2 =>
          cases f2 with
          | own =>
            simp only [Option.some.injEq, Prod.mk.injEq] at h
            obtain ⟨rfl, rfl⟩ := h
            rfl
          | frz => cases h
          | bor => cases h
        | _ => cases h
/-- the node's cell -/
theorem Sat.node {k : Kd} {ys : List D} (S : Sat A I H σ c ts O lk) (pv : PV A I H σ c O r p v) (h : nodeAt c r p = some (k, ys)) : ∃ l vs, v = .ref l ∧ OwnC A.g H k l vs ∧ Paired (EAt A I H) ys vs := by
  obtain ⟨d0, h1, h2⟩ := nodeAt_some h
  obtain ⟨d, d', v0, fa, fn, fb, op⟩ := S.opn pv
  have z := op.slot
  rw [h1] at z
  cases z
  have z := op.get
  rw [h2] at z
  cases z
  have rel := op.rel
  rw [R] at rel
  obtain ⟨l, vs, fq, e, _, ho, rk⟩ := rel
  exact ⟨l, vs, e, ho, RL.paired rk⟩
/-- a change at a place, done -/
theorem Sat.mutAt {f : Kd → List D → List D → Option Mut} {rr : V → List V → Hp → VK → Prop} {k : Kd} {ys ds : List D} {ws : List V} {m : Mut} {d2 : D} {c3 : Ctx} {Q : VK} {fa : List Addr} (ms : MutS A f rr) (S : Sat A I H σ c (ts ++ xs) O lk) (pv : PV A I H σ c O r p v) (hn : nodeAt c r p = some (k, ys))
    (ra : RL A.g I A.B H ds ws fa) (nd : fa.Nodup) (la : ∀ a ∈ fa, ∃ j, O a = some (.inr j) ∧ ts.length ≤ j) (hf : f k ys ds = some m) (hm : Lc.mutAt m r p (ys ++ ds) c = some (d2, c3))
    (q : ∀ v' H' O', Sat A I H' σ c3 (ts ++ [(d2, v')]) O' lk → Q v' H') : rr v ws H Q := by
  obtain ⟨l, vs, rfl, ho, pk⟩ := S.node pv hn
  unfold Lc.mutAt at hm
  cases er : (match m.res with | .inl j => (ys ++ ds)[j]? | .inr d => some d) with
  | none => rw [er] at hm; cases hm
  | some dr =>
    rw [er] at hm
    dsimp only at hm
    by_cases hk : (m.ok (ys ++ ds).length && lkOk [⟨r, p, keepJ m.js, .nd m.k .own (pick m.js (ys ++ ds))⟩] c.k) = true
    · rw [if_pos hk] at hm
      rw [Bool.and_eq_true] at hk
      simp only [Option.some.injEq, Prod.mk.injEq] at hm
      obtain ⟨rfl, rfl⟩ := hm
      refine ms I H l k ys vs ds ws Q m S.ih S.bh ho pk (RL.paired ra) hf fun o' d v' hn' rv => ?_
      have ed : d = dr := by
        unfold ResV at rv
        cases em : m.res with
        | inl j =>
          rw [em] at rv er
          dsimp only at rv er
          rw [er] at rv
          exact (Option.some.inj rv.2).symm
        | inr dd =>
          rw [em] at rv er
          dsimp only at rv er
          rw [rv.1]
          exact Option.some.inj er
      subst ed
      obtain ⟨O', S'⟩ := mut_core S pv (nodeAt_some hn) rfl ho ra nd la hk.1 hn' rv hk.2
      exact q v' _ O' S'
    · rw [if_neg hk] at hm
      cases hm

variable {T : String} {id : String} {name : Str} {apos cpos : Pos} {o e : Expr} {es : List Expr} {mo : Ctx → ER} {ms : List (Ctx → ER)} {f : Kd → List D → List D → Option Mut} {rr : V → List V → Hp → VK → Prop} {Tk : Kd → Bool}
/-- the kinds of a built-in type -/
def TyK (A : Act) (T : String) (Tk : Kd → Bool) : Prop := ∀ (H : Hp) (k : Kd) (l : Addr) (vs : List V), Tk k = true → OwnC A.g H k l vs → tyV A.g.K T (.ref l) H
theorem nodeAt_s (h : c'.s = c.s) : nodeAt c' r p = nodeAt c r p := by
  unfold nodeAt
  rw [h]
theorem tE_mth (ty : TyK A T Tk) (mS : MutS A f rr) : ∀ σ H Q, tE A W (eMth Tk f mo ms) σ H Q → tBM A.g.K T rr (tE A W mo) (tA' A W (eArgs ms)) σ H Q := fun σ H Q ⟨I, c, ts, O, lk, S, h⟩ => by
  refine ⟨I, c, ts, O, lk, S, ?_⟩
  rw [eMth] at h
  cases e1 : mo c with
  | bad => rw [e1] at h; exact h
  | exc k n x c1 => rw [e1] at h; exact h
  | ok ev c1 =>
    rw [e1] at h
    cases ev with
    | t d => exact h.elim
    | pl r p =>
      dsimp only at h
      intro v I1 H1 O1 S1 pv1
      cases e2 : nodeAt c1 r p with
      | none => rw [e2] at h; exact h.elim
      | some kk =>
        obtain ⟨k0, ys0⟩ := kk
        rw [e2] at h
        dsimp only at h
        by_cases ht : Tk k0 = true
        · rw [if_pos ht] at h
          obtain ⟨l, vs, rfl, ho, _⟩ := S1.node pv1 e2
          refine ⟨ty H1 k0 l vs ht ho, I1, lockE (.pl r p) c1, ts, O1, (r, p, .ref l) :: lk, S1.locked pv1, ?_⟩
          cases e3 : eArgs ms (lockE (.pl r p) c1) with
          | bad => rw [e3] at h; exact h.elim
          | exc k n x c2 =>
            rw [e3] at h
            have := XP.unlock (v := .ref l) (e := .pl r p) h
            rw [tmpsOf, tmpsOf, List.append_nil] at this
            · exact this
            · intros; contradiction
            · intros; contradiction
          | ok es c2 =>
            rw [e3] at h
            dsimp only at h
            intro ws I2 H2 O2 hl S2
            cases e4 : valsOf c2 es with
            | none => rw [e4] at h; exact h.elim
            | some ds =>
              cases e5 : nodeAt c2 r p with
              | none => rw [e4, e5] at h; exact h.elim
              | some kk =>
                obtain ⟨k, ys⟩ := kk
                rw [e4, e5] at h
                dsimp only at h
                by_cases hT : es.all isT = true
                · rw [if_pos hT] at h
                  cases e6 : f k ys ds with
                  | none => rw [e6] at h; exact h.elim
                  | some m =>
                    rw [e6] at h
                    dsimp only at h
                    cases e7 : mutAt m r p (ys ++ ds) (unlockE (.pl r p) c2) with
                    | none => rw [e7] at h; exact h.elim
                    | some dc =>
                      obtain ⟨d2, c3⟩ := dc
                      rw [e7] at h
                      dsimp only at h
                      have hlk : ∀ {es : List EV} {vs : List V}, es.all isT = true → lksOf es vs = [] := fun {es} => by
                        induction es with
                        | nil => intro vs _; rfl
                        | cons e es ih =>
                          intro vs hh
                          cases e with
                          | pl _ _ => simp [isT] at hh
                          | t d =>
                            cases vs with
                            | nil => rfl
                            | cons v vs => exact ih (by simpa [isT] using hh)
                      rw [hlk hT, List.nil_append] at S2
                      obtain ⟨S3, pv3⟩ := S2.unlocked
                      obtain ⟨fa, ra, nd, la⟩ := Sat.tmpRL hT hl e4 S2
                      exact Sat.mutAt mS S3 pv3 ((nodeAt_s rfl).trans e5) ra nd la e6 e7 fun v' H' O' S' => h v' I2 H' O' S'
                · rw [if_neg hT] at h
                  exact h.elim
        · rw [if_neg ht] at h
          exact h.elim
theorem PE_mth (ty : TyK A T Tk) (mS : MutS A f rr) (o' : On X A.g) (pa : PlainAttrs T) (slot : Slot T name id) (hty : typeOf (.builtin id) = pure (.type "method_descriptor")) (hm : MtR X id rr) (ho : PE X o (tE A W mo)) (ha : PA X (e :: es) (tA' A W (eArgs ms)))
    (hbase : attributeBase o name X.env (eval o X.env) = eval o X.env := by rfl)
    (hfew : ((backTo cpos (starEach (e :: es) X.env)).all (fun x => !x.1) && (backToKw cpos (keywordEach [] X.env)).all (fun x => x.1.isSome)
      && decide ((e :: es).length + ([] : List Keyword).length + (if ([] : List Keyword).isEmpty then 0 else 1) < 30)) = true := by rfl)
    (hline : (apos.endLine == cpos.line) = true := by rfl) (hs : starEach (e :: es) X.env = (false, eval e X.env) :: starEach es X.env := by rfl) (hplain : (backTo cpos (starEach es X.env)).any (·.1) = false := by rfl) :
    PE X (.Call (.Attribute o name apos) (e :: es) [] cpos) (tE A W (eMth Tk f mo ms)) := PE.imp (pe_bm pa slot hty hm ho ha hbase hfew hline hs hplain) (o'.k ▸ tE_mth ty mS)
end
end Lc
end
section
set_option Elab.async false
set_option linter.all false
set_option maxRecDepth 100000
set_option maxHeartbeats 1000000
namespace Lc
open PySem L2

theorem pick_range' {α : Type} : ∀ (pre zs : List α), pick (List.range' pre.length zs.length) (pre ++ zs) = zs
  | pre, [] => rfl
  | pre, z :: zs => by
    rw [List.length_cons, List.range'_succ, pick]
    have : (pre ++ z :: zs)[pre.length]? = some z := by simp
    rw [this]
    have h := pick_range' (pre ++ [z]) zs
    rw [List.append_assoc, List.length_append] at h
    exact congrArg (z :: ·) h
theorem pick_range {α : Type} (zs : List α) : pick (List.range zs.length) zs = zs := by
  have := pick_range' [] zs
  rw [List.range_eq_range']
  exact this
theorem pick_take {α : Type} : ∀ (n : Nat) (zs : List α), n ≤ zs.length → pick (List.range n) zs = zs.take n := fun n zs h => by
  have : ∀ (n : Nat) (pre zs : List α), n ≤ zs.length → pick (List.range' pre.length n) (pre ++ zs) = zs.take n := fun n => by
    induction n with
    | zero =>
      intro pre zs _
      rfl
    | succ n ih =>
      intro pre zs h
      cases zs with
      | nil => simp at h
      | cons z zs =>
        rw [List.range'_succ, pick]
        have e : (pre ++ z :: zs)[pre.length]? = some z := by simp
        rw [e]
        have h := ih (pre ++ [z]) zs (by simpa using h)
        rw [List.append_assoc, List.length_append] at h
        exact congrArg (z :: ·) h
  have q := this n [] zs h
  rw [List.range_eq_range']
  exact q
/-- all but j, there n -/
def setJs (m j n : Nat) : List Nat := (List.range m).set j n
theorem pick_set {α : Type} (xs : List α) (zs : List α) (j n : Nat) (z : α) (hz : (xs ++ zs)[n]? = some z) : pick (setJs xs.length j n) (xs ++ zs) = xs.set j z := by
  have hlen : (setJs xs.length j n).length = xs.length := by
    unfold setJs
    rw [List.length_set, List.length_range]
  have hn : n < (xs ++ zs).length := (List.getElem?_eq_some_iff.mp hz).1
  have hb : ∀ i ∈ setJs xs.length j n, i < (xs ++ zs).length := fun i hi => by
    unfold setJs at hi
    rcases List.mem_or_eq_of_mem_set hi with h | h
    · have := List.mem_range.mp h
      rw [List.length_append]
      omega
    · rw [h]
      exact hn
  refine List.ext_getElem? fun i => ?_
  by_cases hi : i < xs.length
  · have e : (setJs xs.length j n)[i]? = some (if i = j then n else i) := by
      unfold setJs
      by_cases hij : i = j
      · subst hij
        rw [if_pos rfl, List.getElem?_set_self (by rw [List.length_range]; exact hi)]
      · rw [if_neg hij, List.getElem?_set_ne (Ne.symm hij), List.getElem?_range hi]
    rw [pick_get hb e]
    by_cases hij : i = j
    · subst hij
      rw [if_pos rfl, hz, List.getElem?_set_self hi]
    · rw [if_neg hij, List.getElem?_append_left hi, List.getElem?_set_ne (Ne.symm hij)]
  · rw [List.getElem?_eq_none (by rw [pick_len hb, hlen]; omega), List.getElem?_eq_none (by rw [List.length_set]; omega)]

section
variable {A : Act} {W : Wx} {X : Cx}
/-! ### lists -/
def fAppend : Kd → List D → List D → Option Mut
  | .lst, xs, [_] => if xs.length < 16777216 then some ⟨.lst, List.range (xs.length + 1), .inr .non⟩ else none
  | _, _, _ => none
theorem sizeLine_is : sizeLine = 16777216 := sizeLine_eq
theorem resNon {I H : Hp} {k : Kd} {js : List Nat} {us : List V} {zs : List D} : ResV A I H ⟨k, js, .inr .non⟩ us zs .non .non := ⟨rfl, by rw [R]; exact ⟨rfl, rfl⟩⟩
theorem ms_append : MutS A fAppend rAppend := fun I H l k kxs kvs ds ws Q m ih bh ho pk pd e q => by
  unfold fAppend at e
  split at e
  · rename_i xs d
    have hl : H l = some (.lst kvs) := ho
    cases pd with
    | cons hd pn =>
      cases pn
      rename_i wv
      have hlen := pk.length
      by_cases hz : kxs.length < 16777216
      · rw [if_pos hz] at e
        cases e
        refine ⟨l, kvs, wv, rfl, rfl, hl, by rw [sizeLine_is]; omega, q (.lst (kvs ++ [wv])) .non .non ?_ resNon⟩
        have hlen : kxs.length + 1 = (kvs ++ [wv]).length := by rw [List.length_append, hlen]; rfl
        rw [hlen, pick_range]
        exact upd_same
      · rw [if_neg hz] at e
        cases e
  · cases e
def fPop : Kd → List D → List D → Option Mut
  | .lst, xs, [] => if 0 < xs.length then some ⟨.lst, List.range (xs.length - 1), .inl (xs.length - 1)⟩ else none
  | _, _, _ => none
theorem pairGet {α β : Type} {P : α → β → Prop} : ∀ {xs : List α} {ys : List β} {n : Nat} {x : α}, Paired P xs ys → xs[n]? = some x → ∃ y, ys[n]? = some y ∧ P x y
  | _, _, 0, x, .cons h _, e => by
    have e := Option.some.inj e
    subst e
    exact ⟨_, rfl, h⟩
  | _, _, n + 1, x, .cons _ t, e => by
    obtain ⟨y, e1, h⟩ := pairGet (n := n) t (by simpa using e)
    exact ⟨y, by simpa using e1, h⟩
  | _, _, _, _, .nil, e => by simp at e
theorem ms_pop : MutS A fPop rPop := fun I H l k kxs kvs ds ws Q m ih bh ho pk pd e q => by
  unfold fPop at e
  split at e
  · rename_i xs
    have hl : H l = some (.lst kvs) := ho
    cases pd
    have hlen := pk.length
    by_cases hz : 0 < kxs.length
    · rw [if_pos hz] at e
      cases e
      have e1 : kxs[kxs.length - 1]? = some kxs[kxs.length - 1] := List.getElem?_eq_getElem (by omega)
      obtain ⟨y, e2, _⟩ := pairGet pk e1
      refine ⟨l, kvs, y, rfl, rfl, hl, by rw [← hlen]; exact e2, q _ kxs[kxs.length - 1] y ?_ ?_⟩
      · rw [List.append_nil, pick_take _ _ (by omega), hlen, ← List.dropLast_eq_take]
        exact upd_same
      · exact ⟨by rw [List.append_nil]; exact e2, by rw [List.append_nil]; exact e1⟩
    · rw [if_neg hz] at e
      cases e
  · cases e
def isL : Kd → Bool
  | .lst => true
  | _ => false
theorem ty_lst : TyK A "list" isL := fun H k l vs h ho => by
  cases k with
  | lst => exact .inl ⟨rfl, vs, .inl (.inl ho)⟩
  | _ => cases h

/-! ### o[i] = e -/
def rOfSet (t : TSet) : V → List V → Hp → VK → Prop := fun x ws H Q => ∃ i v, ws = [i, v] ∧ t x i v H (fun H' => Q .non H')
def fSetL : Kd → List D → List D → Option Mut
  | .lst, xs, [.int i, _] => (ixN xs.length i).map fun j => ⟨.lst, setJs xs.length j (xs.length + 1), .inr .non⟩
  | _, _, _ => none
theorem ms_setL : MutS A fSetL (rOfSet rSetL) := fun I H l k kxs kvs ds ws Q m ih bh ho pk pd e q => by
  unfold fSetL at e
  split at e
  · rename_i xs i d
    have hl : H l = some (.lst kvs) := ho
    cases pd with
    | cons hi pd =>
      cases pd with
      | cons hd pn =>
        cases pn
        rename_i iv wv
        have ei := hi.int
        subst ei
        have hlen := pk.length
        cases ej : ixN kxs.length i with
        | none => rw [ej] at e; cases e
        | some j =>
          rw [ej] at e
          cases e
          refine ⟨.int i, wv, rfl, l, kvs, i, j, rfl, rfl, hl, by rw [← hlen]; exact ej, q _ .non .non ?_ resNon⟩
          have : (kvs ++ [V.int i, wv])[kxs.length + 1]? = some wv := by
            rw [List.getElem?_append_right (by omega)]
            have : kxs.length + 1 - kvs.length = 1 := by omega
            rw [this]
            rfl
          dsimp only
          rw [hlen] at this ⊢
          rw [pick_set _ _ _ _ _ this]
          exact upd_same
  · cases e

def sSetI (f : Kd → List D → List D → Option Mut) (mv mo mi : Ctx → ER) : Ctx → SR := fun c => match mv c with
  | .ok (.t d) c1 => match mo c1 with
    | .ok (.pl r p) c2 => match mi (lockE (.pl r p) c2) with
      | .ok (.t di) c3 => match nodeAt c3 r p with
        | some (k, ys) => match f k ys [di, d] with
          | some m => match mutAt m r p (ys ++ [di, d]) (unlockE (.pl r p) c3) with
            | some (_, c4) => .nx c4
            | none => .bad
          | none => .bad
        | none => .bad
      | .exc k n x c3 => .exc k n x (unlockE (.pl r p) c3)
      | _ => .bad
    | .exc k n x c2 => .exc k n x c2
    | _ => .bad
  | .exc k n x c1 => .exc k n x c1
  | _ => .bad
variable {I H I' H' : Hp} {σ σ' : St} {c c' : Ctx} {ts xs : List (D × V)} {O O' : Addr → Option Ow} {lk : List (Nat × List Nat × V)} {d : D} {v : V} {w : Ow} {r : Nat} {p : List Nat}
theorem XP.more {k : Nat} {n : Str} {x : D} (h : XP A W σ ts lk k n x c) : XP A W σ (ts ++ xs) lk k n x c := fun d v I H O S i r => h d v I H O S.pop i r
theorem tSetI_of {f : Kd → List D → List D → Option Mut} {t : TSet} {mv mo mi : Ctx → ER} {D' : Ends} (mS : MutS A f (rOfSet t)) (h : tS A W (sSetI f mv mo mi) D' σ H) : tAsg (tE A W mv) (L2.gSub (tE A W mo) (tE A W mi) t) D' σ H := by
  obtain ⟨I, c, O, lk, S, h⟩ := h
  refine ⟨I, c, [], O, lk, S, ?_⟩
  rw [sSetI] at h
  cases e1 : mv c with
  | bad => rw [e1] at h; exact h.elim
  | exc k n x c1 => rw [e1] at h; exact h σ
  | ok ev c1 =>
    rw [e1] at h
    cases ev with
    | pl r p => exact h.elim
    | t d =>
      dsimp only at h
      intro v I1 H1 O1 S1
      refine ⟨I1, c1, [(d, v)], O1, lk, S1, ?_⟩
      cases e2 : mo c1 with
      | bad => rw [e2] at h; exact h.elim
      | exc k n x c2 =>
        rw [e2] at h
        exact XP.more (ts := []) (h σ)
      | ok ev2 c2 =>
        rw [e2] at h
        cases ev2 with
        | t _ => exact h.elim
        | pl r p =>
          dsimp only at h
          intro vo I2 H2 O2 S2 pv2
          refine ⟨I2, lockE (.pl r p) c2, [(d, v)], O2, (r, p, vo) :: lk, S2.locked pv2, ?_⟩
          cases e3 : mi (lockE (.pl r p) c2) with
          | bad => rw [e3] at h; exact h.elim
          | exc k n x c3 =>
            rw [e3] at h
            have := XP.unlock (v := vo) (e := .pl r p) (XP.more (ts := []) (xs := [(d, v)]) (h σ))
            rw [tmpsOf, tmpsOf, List.append_nil] at this
            · exact this
            · intros; contradiction
            · intros; contradiction
          | ok ev3 c3 =>
            rw [e3] at h
            cases ev3 with
            | pl _ _ => exact h.elim
            | t di =>
              dsimp only at h
              intro vi I3 H3 O3 S3
              cases e4 : nodeAt c3 r p with
              | none => rw [e4] at h; exact h.elim
              | some kk =>
                obtain ⟨k, ys⟩ := kk
                rw [e4] at h
                dsimp only at h
                cases e5 : f k ys [di, d] with
                | none => rw [e5] at h; exact h.elim
                | some m =>
                  rw [e5] at h
                  dsimp only at h
                  cases e6 : mutAt m r p (ys ++ [di, d]) (unlockE (.pl r p) c3) with
                  | none => rw [e6] at h; exact h.elim
                  | some dc =>
                    obtain ⟨d2, c4⟩ := dc
                    rw [e6] at h
                    dsimp only at h
                    obtain ⟨f1, r1, n1, l1⟩ := S3.tmps 0 d v (by simp)
                    obtain ⟨f2, r2, n2, l2⟩ := S3.tmps 1 di vi (by simp)
                    obtain ⟨S4, pv4⟩ := S3.unlocked
                    obtain ⟨i, v', ew, q⟩ := Sat.mutAt (ts := []) (xs := [(d, v)] ++ [(di, vi)]) (ws := [vi, v]) (fa := f2 ++ (f1 ++ [])) (Q := fun _ H' => D'.nx σ H') mS (by simpa using S4) pv4 ((nodeAt_s rfl).trans e4) (by
                      rw [RL]
                      refine ⟨vi, [v], f2, f1 ++ [], rfl, rfl, r2, ?_⟩
                      rw [RL]
                      exact ⟨v, [], f1, [], rfl, rfl, r1, by rw [RL]; exact ⟨rfl, rfl⟩⟩) (by
                      rw [List.append_nil, List.nodup_append]
                      refine ⟨n2, n1, fun a ha b hb z => ?_⟩
                      subst z
                      have := l2 a ha
                      rw [l1 a hb] at this
                      cases this) (fun a ha => by
                      rw [List.append_nil] at ha
                      rcases List.mem_append.mp ha with ha | ha
                      · exact ⟨1, l2 a ha, Nat.zero_le _⟩
                      · exact ⟨0, l1 a ha, Nat.zero_le _⟩) e5 e6 fun v' H' O' S' => h σ I3 H' O' (Sat.pop (ts := []) (xs := [(d2, v')]) S')
                    cases ew
                    exact q
theorem PS_setI {o i e : Expr} {f : Kd → List D → List D → Option Mut} {t : TSet} {mv mo mi : Ctx → ER} {pos pos' : Pos} (mS : MutS A f (rOfSet t)) (hP : PSet X t) (hv : PE X e (tE A W mv)) (ho : PE X o (tE A W mo)) (hi : PE X i (tE A W mi))
    (ha : ∀ v, assign (.Subscript o i pos') X.env v = (do
      let ov ← holding [v] (eval o X.env)
      let iv ← holding [v, ov] (eval i X.env)
      standAt pos'
      holding [v, ov, iv] (setItem ov iv v)
      release [v, ov, iv] []) := by intro _; rfl)
    (hs : swapsWithSole [.Subscript o i pos'] e pos.line X.env = pure false := by rfl) (hw : swappedStores [.Subscript o i pos'] e X.env = pure none := by rfl)
    (h1 : (assignEach [.Subscript o i pos'] X.env).map (·.2) = [assign (.Subscript o i pos') X.env] := by rfl) : PS X (.Assign [.Subscript o i pos'] e pos) (tS A W (sSetI f mv mo mi)) :=
  PS.imp (ps_asg hv (pg_sub ho hi hP ha) hs hw h1) fun D' σ H h => tSetI_of mS h
end
end Lc
end
section
set_option Elab.async false
set_option linter.all false
set_option maxRecDepth 100000
set_option maxHeartbeats 1000000
namespace Lc
open PySem L2

section
variable {A : Act} {W : Wx} {X : Cx}

/-! ### calls of builtins -/
def fInt1 : List D → Option D
  | [.int i] => some (.int i)
  | [.bl k] => some (.int (if k then 1 else 0))
  | _ => none
theorem os_int1 : OpS A fInt1 (fun xs H Q => (∃ i, xs = [.int i] ∧ Q (.int i) H) ∨ ∃ k, xs = [.bl k] ∧ Q (.int (if k then 1 else 0)) H) := fun I H ds vs Q d ih bh P e q => by
  unfold fInt1 at e
  split at e
  · cases e
    obtain ⟨x, rfl, h1⟩ := Paired.one P
    rw [h1.int]
    exact .inl ⟨_, rfl, q _ _ _ .int⟩
  · cases e
    obtain ⟨x, rfl, h1⟩ := Paired.one P
    rw [h1.bl]
    exact .inr ⟨_, rfl, q _ _ _ .int⟩
  · cases e
def fMin2 : List D → Option D
  | [.int i, .int j] => some (.int (if j < i then j else i))
  | _ => none
theorem os_min2 : OpS A fMin2 (fun xs H Q => ∃ i j, xs = [.int i, .int j] ∧ Q (.int (if j < i then j else i)) H) := fun I H ds vs Q d ih bh P e q => by
  unfold fMin2 at e
  split at e
  · cases e
    obtain ⟨x, y, rfl, h1, h2⟩ := Paired.two P
    rw [h1.int, h2.int]
    exact ⟨_, _, rfl, q _ _ _ .int⟩
  · cases e
def fMax2 : List D → Option D
  | [.int i, .int j] => some (.int (if j > i then j else i))
  | _ => none
theorem os_max2 : OpS A fMax2 (fun xs H Q => ∃ i j, xs = [.int i, .int j] ∧ Q (.int (if j > i then j else i)) H) := fun I H ds vs Q d ih bh P e q => by
  unfold fMax2 at e
  split at e
  · cases e
    obtain ⟨x, y, rfl, h1, h2⟩ := Paired.two P
    rw [h1.int, h2.int]
    exact ⟨_, _, rfl, q _ _ _ .int⟩
  · cases e
/-- a list of ints -/
def intsOf : List D → Option (List Int)
  | [] => some []
  | .int i :: xs => (intsOf xs).map (i :: ·)
  | _ => none
def listOf : D → Option (List D)
  | .nd .lst _ xs => some xs
  | .nd .scr _ xs => some xs
  | _ => none
theorem EAt.list {I H : Hp} {d : D} {xs : List D} {v : V} (ih : leH I H) (bh : leH A.B H) (h : EAt A I H d v) (e : listOf d = some xs) : ∃ p vs, v = .ref p ∧ SqL A.g.K H p vs ∧ ∃ fp, RL A.g I A.B H xs vs fp := by
  unfold listOf at e
  split at e
  · cases e
    obtain ⟨p, vs, rfl, h1, h2⟩ := h.lst ih bh
    exact ⟨p, vs, rfl, .inl (.inl h1), h2⟩
  · cases e
    exact h.scr ih bh
  · cases e
theorem intsOf_vs {I H : Hp} : ∀ {xs : List D} {ns : List Int} {vs : List V} {fp : List Addr}, intsOf xs = some ns → RL A.g I A.B H xs vs fp → vs = ns.map V.int ∧ ns.length = xs.length
  | [], ns, vs, fp, e, h => by
    rw [intsOf] at e
    cases e
    rw [RL] at h
    exact ⟨h.1, rfl⟩
  | .int i :: xs, ns, vs, fp, e, h => by
    rw [intsOf] at e
    cases e2 : intsOf xs with
    | none => rw [e2] at e; cases e
    | some ms =>
      rw [e2] at e
      cases e
      rw [RL] at h
      obtain ⟨v, vr, f1, f2, rfl, _, h1, h2⟩ := h
      rw [R] at h1
      obtain ⟨rfl, hl⟩ := intsOf_vs e2 h2
      rw [h1.1]
      exact ⟨rfl, by rw [List.length_cons, List.length_cons, hl]⟩
  | .non :: _, _, _, _, e, _ => by simp [intsOf] at e
  | .bl _ :: _, _, _, _, e, _ => by simp [intsOf] at e
  | .str _ :: _, _, _, _, e, _ => by simp [intsOf] at e
  | .ty _ :: _, _, _, _, e, _ => by simp [intsOf] at e
  | .tup _ :: _, _, _, _, e, _ => by simp [intsOf] at e
  | .nd _ _ _ :: _, _, _, _, e, _ => by simp [intsOf] at e
  | .exn _ _ _ :: _, _, _, _, e, _ => by simp [intsOf] at e
def fSum : List D → Option D
  | [d] => match listOf d with
    | some xs => (intsOf xs).map fun ns => .int ns.sum
    | none => none
  | _ => none
theorem os_sum : OpS A fSum (rSum A.g.K) := fun I H ds vs Q d ih bh P e q => by
  unfold fSum at e
  split at e
  · rename_i d0
    obtain ⟨x, rfl, h1⟩ := Paired.one P
    cases e1 : listOf d0 with
    | none => rw [e1] at e; cases e
    | some xs =>
      rw [e1] at e
      dsimp only at e
      cases e2 : intsOf xs with
      | none => rw [e2] at e; cases e
      | some ns =>
        rw [e2] at e
        cases e
        obtain ⟨p, us, rfl, hp, fp, hr⟩ := h1.list ih bh e1
        obtain ⟨rfl, _⟩ := intsOf_vs e2 hr
        exact ⟨p, ns, rfl, hp, q _ _ _ .int⟩
  · cases e
def minI : List Int → Int
  | [] => 0
  | [x] => x
  | x :: y :: r => min x (minI (y :: r))
def maxI : List Int → Int
  | [] => 0
  | [x] => x
  | x :: y :: r => max x (maxI (y :: r))
theorem minI_is : ∀ {ns : List Int} {m : Int}, m ∈ ns → (∀ y ∈ ns, m ≤ y) → m = minI ns
  | [], _, h, _ => by cases h
  | [x], m, h, _ => by simpa [minI] using h
  | x :: y :: r, m, h, hl => by
    rw [minI]
    have h1 : m ≤ x := hl x (by simp)
    rcases List.mem_cons.mp h with h | h
    · subst h
      have key : ∀ {l : List Int}, l ≠ [] → (∀ z ∈ l, m ≤ z) → m ≤ minI l := fun {l} => by
        induction l with
        | nil => intro z; exact absurd rfl z
        | cons a l ih =>
          intro _ hz
          cases l with
          | nil => exact hz a (by simp)
          | cons b l =>
            rw [minI]
            have q1 := hz a (by simp)
            have q2 := ih (by simp) fun z hz' => hz z (List.mem_cons_of_mem _ hz')
            omega
      have := key (l := y :: r) (by simp) fun z hz => hl z (List.mem_cons_of_mem _ hz)
      omega
    · have := minI_is h fun z hz => hl z (List.mem_cons_of_mem _ hz)
      rw [← this]
      omega
theorem maxI_is : ∀ {ns : List Int} {m : Int}, m ∈ ns → (∀ y ∈ ns, y ≤ m) → m = maxI ns
  | [], _, h, _ => by cases h
  | [x], m, h, _ => by simpa [maxI] using h
  | x :: y :: r, m, h, hl => by
    rw [maxI]
    have h1 : x ≤ m := hl x (by simp)
    rcases List.mem_cons.mp h with h | h
    · subst h
      have key : ∀ {l : List Int}, l ≠ [] → (∀ z ∈ l, z ≤ m) → maxI l ≤ m := fun {l} => by
        induction l with
        | nil => intro z; exact absurd rfl z
        | cons a l ih =>
          intro _ hz
          cases l with
          | nil => exact hz a (by simp)
          | cons b l =>
            rw [maxI]
            have q1 := hz a (by simp)
            have q2 := ih (by simp) fun z hz' => hz z (List.mem_cons_of_mem _ hz')
            omega
      have := key (l := y :: r) (by simp) fun z hz => hl z (List.mem_cons_of_mem _ hz)
      omega
    · have := maxI_is h fun z hz => hl z (List.mem_cons_of_mem _ hz)
      rw [← this]
      omega
def fMinL : List D → Option D
  | [d] => match listOf d with
    | some xs => (intsOf xs).bind fun ns => if 0 < ns.length then some (.int (minI ns)) else none
    | none => none
  | _ => none
theorem os_minL : OpS A fMinL (rMin A.g.K) := fun I H ds vs Q d ih bh P e q => by
  unfold fMinL at e
  split at e
  · rename_i d0
    obtain ⟨x, rfl, h1⟩ := Paired.one P
    cases e1 : listOf d0 with
    | none => rw [e1] at e; cases e
    | some xs =>
      rw [e1] at e
      dsimp only at e
      cases e2 : intsOf xs with
      | none => rw [e2] at e; cases e
      | some ns =>
        rw [e2, Option.bind_some] at e
        by_cases hz : 0 < ns.length
        · rw [if_pos hz] at e
          cases e
          obtain ⟨p, us, rfl, hp, fp, hr⟩ := h1.list ih bh e1
          obtain ⟨rfl, _⟩ := intsOf_vs e2 hr
          refine ⟨p, ns, rfl, hp, hz, fun m h1 h2 => ?_⟩
          rw [minI_is h1 h2]
          exact q _ _ _ .int
        · rw [if_neg hz] at e
          cases e
  · cases e
def fMaxL : List D → Option D
  | [d] => match listOf d with
    | some xs => (intsOf xs).bind fun ns => if 0 < ns.length then some (.int (maxI ns)) else none
    | none => none
  | _ => none
theorem os_maxL : OpS A fMaxL (rMax A.g.K) := fun I H ds vs Q d ih bh P e q => by
  unfold fMaxL at e
  split at e
  · rename_i d0
    obtain ⟨x, rfl, h1⟩ := Paired.one P
    cases e1 : listOf d0 with
    | none => rw [e1] at e; cases e
    | some xs =>
      rw [e1] at e
      dsimp only at e
      cases e2 : intsOf xs with
      | none => rw [e2] at e; cases e
      | some ns =>
        rw [e2, Option.bind_some] at e
        by_cases hz : 0 < ns.length
        · rw [if_pos hz] at e
          cases e
          obtain ⟨p, us, rfl, hp, fp, hr⟩ := h1.list ih bh e1
          obtain ⟨rfl, _⟩ := intsOf_vs e2 hr
          refine ⟨p, ns, rfl, hp, hz, fun m h1 h2 => ?_⟩
          rw [maxI_is h1 h2]
          exact q _ _ _ .int
        · rw [if_neg hz] at e
          cases e
  · cases e
theorem CallR.imp {X : Cx} {v : Value} {r r' : List V → Hp → VK → Prop} (h : CallR X v r) (i : ∀ vs H Q, r' vs H Q → r vs H Q) : CallR X v r' := fun pins s σ H vs us Q I rv q => h pins s σ H vs us Q I rv (i _ _ _ q)

/-! ### isinstance of a built-in type -/
def tyName : D → Option String
  | .non => some "NoneType" | .bl _ => some "bool" | .int _ => some "int" | .str _ => some "str" | .tup _ => some "tuple"
  | .nd .lst _ _ => some "list" | .nd .scr _ _ => some "list" | .nd (.dct _) _ _ => some "dict"
  | _ => none
theorem SqL.tyX {K : PySem.W.Frag} {H : Hp} {p : Addr} {vs : List V} (h : SqL K H p vs) : TyX K H (.ref p) (.type "list") := by
  rcases h with (h | ⟨o, h⟩) | ⟨o, its, n, h, h2, _⟩
  · exact .base (.lst h)
  · exact .base (.frz h)
  · exact .kList h h2
theorem SqT.tyX {K : PySem.W.Frag} {H : Hp} {p : Addr} {vs : List V} (h : SqT K H p vs) : TyX K H (.ref p) (.type "tuple") := by
  rcases h with (h | ⟨o, h⟩) | ⟨o, its, n, h, h2, _⟩
  · exact .base (.tup h)
  · exact .fTuple h
  · exact .kTuple h h2
end
end Lc
end
section
set_option Elab.async false
set_option linter.all false
set_option maxRecDepth 100000
set_option maxHeartbeats 1000000
namespace Lc
open PySem L2

section
variable {A : Act} {W : Wx} {X : Cx}
theorem PE_blt {n : String} {x : Str} {pos : Pos} (hg : Gl X x) (hm : X.mg x = none) (hv : bootBuiltins x = some (.type n)) (hn : x ≠ "__name__" := by decide) (hd : (x == ("__debug__" : Str)) = false := by decide) : PE X (.Name x pos) (tE A W (eC (.ty n))) :=
  PE_c (v := .ty n) (pe_bltn hg hm hv rfl hn hd) fun _ _ _ => by rw [R]; exact ⟨rfl, rfl⟩
/-- a module's constant -/
theorem PE_glob {x : Str} {v : V} {u : Value} {d : D} {pos : Pos} (hg : Gl X x) (hm : X.mg x = some u) (r : RelV v u) (h : ∀ I B H, R A.g I B H d v []) (hd : (x == ("__debug__" : Str)) = false := by decide) : PE X (.Name x pos) (tE A W (eC d)) := PE_c (pe_glob hg hm r hd) h

def fIsi : List D → Option D
  | [d, .ty n] => match tyName d with
    | some t => (kitB t n).map .bl
    | none => none
  | _ => none
theorem EAt.tyX {I H : Hp} {d : D} {v : V} {t : String} (ih : leH I H) (bh : leH A.B H) (h : EAt A I H d v) (e : tyName d = some t) : TyX A.g.K H v (.type t) := by
  unfold tyName at e
  split at e
  · cases e
    rw [h.non]
    exact .base .non
  · cases e
    rw [h.bl]
    exact .base (.bl _)
  · cases e
    rw [h.int]
    exact .base (.int _)
  · cases e
    rw [h.str]
    exact .base (.str _)
  · cases e
    obtain ⟨p, vs, rfl, h1, _⟩ := h.tup ih
    exact SqT.tyX h1
  · cases e
    obtain ⟨p, vs, rfl, h1, _⟩ := h.lst ih bh
    exact .base (.lst h1)
  · cases e
    obtain ⟨p, vs, rfl, h1, _⟩ := h.scr ih bh
    exact SqL.tyX h1
  · rename_i ks f xs
    cases e
    obtain ⟨fp, h⟩ := h
    have key : ∀ {p : Addr} {kvs : List (Key × V)}, Rd H p (.dK kvs) → TyX A.g.K H (.ref p) (.type "dict") := fun {p kvs} h => by
      rcases h with h | ⟨o, h⟩
      · exact .base (.dK h)
      · exact .fDict h
    cases f with
    | own =>
      rw [R] at h
      obtain ⟨p, vs, fq, rfl, _, c, _⟩ := h
      exact key (.inl c.2)
    | frz =>
      rw [R] at h
      obtain ⟨p, vs, rfl, _, c, _⟩ := h
      exact key (ih.rd c.2)
    | bor =>
      rw [R] at h
      obtain ⟨p, vs, rfl, _, c, _⟩ := h
      exact key (bh.rd c.2)
  · cases e
theorem EAt.ty {I H : Hp} {n : String} {v : V} (h : EAt A I H (.ty n) v) : v = .ty n := by
  obtain ⟨fp, h⟩ := h
  rw [R] at h
  exact h.1
theorem os_isi (hK : A.g.K = X.K) : OpS A fIsi (rIsi X.K) := fun I H ds vs Q d ih bh P e q => by
  unfold fIsi at e
  split at e
  · rename_i d0 n
    obtain ⟨x, y, rfl, h1, h2⟩ := Paired.two P
    rw [h2.ty]
    cases e1 : tyName d0 with
    | none => rw [e1] at e; cases e
    | some t =>
      rw [e1] at e
      dsimp only at e
      cases e2 : kitB t n with
      | none => rw [e2] at e; cases e
      | some b =>
        rw [e2] at e
        cases e
        have := h1.tyX ih bh e1
        rw [hK] at this
        exact ⟨x, .ty n, .type t, .type n, b, rfl, .ty n, this, kit_ty e2, q _ _ _ .bl⟩
  · cases e

/-! ### methods of texts -/
def eSM (f : List Nat → List D → Option D) (mo : Ctx → ER) (ms : List (Ctx → ER)) : Ctx → ER := fun c => match mo c with
  | .ok (.t (.str s)) c1 => match eArgs ms c1 with
    | .ok es c2 => match valsOf c2 es with
      | some ds => match f s ds with
        | some d => .ok (.t d) (unlocks es c2)
        | none => .bad
      | none => .bad
    | .exc k n x c2 => .exc k n x c2
    | .bad => .bad
  | .ok _ _ => .bad
  | .exc k n x c1 => .exc k n x c1
  | .bad => .bad
def OpM (A : Act) (f : List Nat → List D → Option D) (r : V → List V → Hp → VK → Prop) : Prop := ∀ (I H : Hp) (s : List Nat) (ds : List D) (vs : List V) (Q : VK) (d : D), leH I H → leH A.B H → Paired (EAt A I H) ds vs → f s ds = some d →
  (∀ v I' H', Res A I H d v I' H' → Q v H') → r (.str ⟨s.toArray⟩) vs H Q
theorem tE_sm {f : List Nat → List D → Option D} {r : V → List V → Hp → VK → Prop} {mo : Ctx → ER} {ms : List (Ctx → ER)} (om : OpM A f r) : ∀ σ H Q, tE A W (eSM f mo ms) σ H Q → tBM A.g.K "str" r (tE A W mo) (tA' A W (eArgs ms)) σ H Q := fun σ H Q ⟨I, c, ts, O, lk, S, h⟩ => by
  refine ⟨I, c, ts, O, lk, S, ?_⟩
  rw [eSM] at h
  cases e1 : mo c with
  | bad => rw [e1] at h; exact h
  | exc k n x c1 => rw [e1] at h; exact h
  | ok ev c1 =>
    rw [e1] at h
    cases ev with
    | pl r p => exact h.elim
    | t d =>
      cases d with
      | str s =>
        dsimp only at h ⊢
        intro v I1 H1 O1 S1
        have rv := S1.last.nil (by rw [Lc.noOwn])
        rw [R] at rv
        obtain ⟨rfl, _⟩ := rv
        refine ⟨rfl, I1, c1, _, O1, lk, S1, ?_⟩
        cases e2 : eArgs ms c1 with
        | bad => rw [e2] at h; exact h
        | exc k n x c2 =>
          rw [e2] at h
          exact XP.more h
        | ok es c2 =>
          rw [e2] at h
          dsimp only at h ⊢
          intro vs I2 H2 O2 hl S2
          cases e3 : valsOf c2 es with
          | none => rw [e3] at h; exact h.elim
          | some ds =>
            rw [e3] at h
            dsimp only at h
            cases e4 : f s ds with
            | none => rw [e4] at h; exact h.elim
            | some d =>
              rw [e4] at h
              dsimp only at h
              refine om I2 H2 s ds vs Q d S2.ih S2.bh (Sat.valsOf hl e3 S2) e4 fun v I3 H3 rs => ?_
              have S3 := Sat.unlockL hl S2
              rw [List.append_assoc] at S3
              obtain ⟨O3, S4⟩ := rs.sat S3
              exact h v I3 H3 O3 S4
      | _ => exact h.elim
theorem PE_sm {id : String} {name : Str} {apos cpos : Pos} {o e : Expr} {es : List Expr} {f : List Nat → List D → Option D} {r : V → List V → Hp → VK → Prop} {mo : Ctx → ER} {ms : List (Ctx → ER)} (o' : On X A.g) (om : OpM A f r) (slot : Slot "str" name id) (hty : typeOf (.builtin id) = pure (.type "method_descriptor")) (hm : MtR X id r)
    (ho : PE X o (tE A W mo)) (ha : PA X (e :: es) (tA' A W (eArgs ms)))
    (hbase : attributeBase o name X.env (eval o X.env) = eval o X.env := by rfl)
    (hfew : ((backTo cpos (starEach (e :: es) X.env)).all (fun x => !x.1) && (backToKw cpos (keywordEach [] X.env)).all (fun x => x.1.isSome)
      && decide ((e :: es).length + ([] : List Keyword).length + (if ([] : List Keyword).isEmpty then 0 else 1) < 30)) = true := by rfl)
    (hline : (apos.endLine == cpos.line) = true := by rfl) (hs : starEach (e :: es) X.env = (false, eval e X.env) :: starEach es X.env := by rfl) (hplain : (backTo cpos (starEach es X.env)).any (·.1) = false := by rfl) :
    PE X (.Call (.Attribute o name apos) (e :: es) [] cpos) (tE A W (eSM f mo ms)) := PE.imp (pe_bm F.plainAttrs_str slot hty hm ho ha hbase hfew hline hs hplain) (o'.k ▸ tE_sm om)

/-! ### join, index, find -/
def strsOf : List D → Option (List (List Nat))
  | [] => some []
  | .str s :: xs => (strsOf xs).map (s :: ·)
  | _ => none
def joinL (a : List Nat) : List (List Nat) → List Nat
  | [] => []
  | [s] => s
  | s :: t :: r => s ++ a ++ joinL a (t :: r)
def seqOf : D → Option (List D)
  | .nd .lst _ xs => some xs
  | .nd .scr _ xs => some xs
  | .tup xs => some xs
  | _ => none
theorem EAt.seq {I H : Hp} {d : D} {xs : List D} {v : V} (ih : leH I H) (bh : leH A.B H) (h : EAt A I H d v) (e : seqOf d = some xs) : ∃ p vs, v = .ref p ∧ (SqL A.g.K H p vs ∨ SqT A.g.K H p vs) ∧ ∃ fp, RL A.g I A.B H xs vs fp := by
  unfold seqOf at e
  split at e
  · cases e
    obtain ⟨p, vs, rfl, h1, h2⟩ := h.lst ih bh
    exact ⟨p, vs, rfl, .inl (.inl (.inl h1)), h2⟩
  · cases e
    obtain ⟨p, vs, rfl, h1, h2⟩ := h.scr ih bh
    exact ⟨p, vs, rfl, .inl h1, h2⟩
  · cases e
    obtain ⟨p, vs, rfl, h1, h2⟩ := h.tup ih
    exact ⟨p, vs, rfl, .inr h1, h2⟩
  · cases e
def strL (s : List Nat) : Str := ⟨s.toArray⟩
theorem strsOf_vs {I H : Hp} : ∀ {xs : List D} {ss : List (List Nat)} {vs : List V} {fp : List Addr}, strsOf xs = some ss → RL A.g I A.B H xs vs fp → vs = (ss.map strL).map V.str ∧ ss.length = xs.length
  | [], ns, vs, fp, e, h => by
    rw [strsOf] at e
    cases e
    rw [RL] at h
    exact ⟨h.1, rfl⟩
  | .str i :: xs, ns, vs, fp, e, h => by
    rw [strsOf] at e
    cases e2 : strsOf xs with
    | none => rw [e2] at e; cases e
    | some ms =>
      rw [e2] at e
      cases e
      rw [RL] at h
      obtain ⟨v, vr, f1, f2, rfl, _, h1, h2⟩ := h
      rw [R] at h1
      obtain ⟨rfl, hl⟩ := strsOf_vs e2 h2
      rw [h1.1]
      exact ⟨rfl, by rw [List.length_cons, List.length_cons, hl]⟩
  | .non :: _, _, _, _, e, _ => by simp [strsOf] at e
  | .bl _ :: _, _, _, _, e, _ => by simp [strsOf] at e
  | .int _ :: _, _, _, _, e, _ => by simp [strsOf] at e
  | .ty _ :: _, _, _, _, e, _ => by simp [strsOf] at e
  | .tup _ :: _, _, _, _, e, _ => by simp [strsOf] at e
  | .nd _ _ _ :: _, _, _, _, e, _ => by simp [strsOf] at e
  | .exn _ _ _ :: _, _, _, _, e, _ => by simp [strsOf] at e
theorem strL_app (s t : List Nat) : strL s ++ strL t = strL (s ++ t) := by
  show (⟨s.toArray ++ t.toArray⟩ : Str) = ⟨(s ++ t).toArray⟩
  simp
theorem join_is (a : List Nat) : ∀ ss : List (List Nat), Str.join (strL a) (ss.map strL) = strL (joinL a ss)
  | [] => rfl
  | [_] => rfl
  | s :: t :: r => by
    show strL s ++ strL a ++ Str.join (strL a) ((t :: r).map strL) = _
    rw [join_is a (t :: r), strL_app, strL_app, joinL]
def fJoin : List Nat → List D → Option D
  | a, [d] => match seqOf d with
    | some xs => (strsOf xs).bind fun ss => if (ss.map (·.length)).sum + ss.length * a.length ≤ 16777216 then some (.str (joinL a ss)) else none
    | none => none
  | _, _ => none
theorem strL_len (s : List Nat) : (strL s).length = s.length := Str.len s
theorem om_join : OpM A fJoin (fun x xs H Q => ∃ a p, ∃ ys : List Str, x = .str a ∧ xs = [.ref p] ∧ (SqL A.g.K H p (ys.map V.str) ∨ SqT A.g.K H p (ys.map V.str)) ∧
    (ys.map (·.length)).sum + ys.length * a.length ≤ 16777216 ∧ Q (.str (Txt.join a ys)) H) := fun I H s ds vs Q d ih bh P e q => by
  unfold fJoin at e
  split at e
  · rename_i d0
    obtain ⟨x, rfl, h1⟩ := Paired.one P
    cases e1 : seqOf d0 with
    | none => rw [e1] at e; cases e
    | some xs =>
      rw [e1] at e
      dsimp only at e
      cases e2 : strsOf xs with
      | none => rw [e2] at e; cases e
      | some ss =>
        rw [e2, Option.bind_some] at e
        by_cases hz : (ss.map (·.length)).sum + ss.length * s.length ≤ 16777216
        · rw [if_pos hz] at e
          cases e
          obtain ⟨p, us, rfl, hp, fp, hr⟩ := h1.seq ih bh e1
          obtain ⟨rfl, _⟩ := strsOf_vs e2 hr
          refine ⟨strL s, p, ss.map strL, rfl, rfl, hp, ?_, ?_⟩
          · rw [List.map_map, List.length_map, strL_len]
            have : ((fun x => Str.length x) ∘ strL) = fun x : List Nat => x.length := by
              funext x
              exact strL_len x
            rw [this]
            exact hz
          · have : Txt.join (strL s) (ss.map strL) = strL (joinL s ss) := (TL.join_eq _ _).trans (join_is s ss)
            rw [this]
            exact q _ _ _ .str
        · rw [if_neg hz] at e
          cases e
  · cases e
def occ (s t : List Nat) : List Nat := Builtin.Str.occurrences (strL s) (strL t) 0 (strL s).length 1
def fIndex : List Nat → List D → Option D
  | s, [.str t] => match occ s t with
    | i :: _ => some (.int (i : Nat))
    | [] => none
  | _, _ => none
theorem om_index : OpM A fIndex (fun x xs H Q => ∃ a b i rest, x = .str a ∧ xs = [.str b] ∧ Builtin.Str.occurrences a b 0 a.length 1 = i :: rest ∧ Q (.int (i : Nat)) H) := fun I H s ds vs Q d ih bh P e q => by
  unfold fIndex at e
  split at e
  · rename_i t
    obtain ⟨x, rfl, h1⟩ := Paired.one P
    rw [h1.str]
    cases e1 : occ s t with
    | nil => rw [e1] at e; cases e
    | cons i r =>
      rw [e1] at e
      cases e
      exact ⟨strL s, strL t, i, r, rfl, rfl, e1, q _ _ _ .int⟩
  · cases e
def fFind : List Nat → List D → Option D
  | s, [.str t] => some (.int (Txt.find (strL s) (strL t)))
  | _, _ => none
theorem om_find : OpM A fFind (fun x xs H Q => ∃ a b, x = .str a ∧ xs = [.str b] ∧ Q (.int (Txt.find a b)) H) := fun I H s ds vs Q d ih bh P e q => by
  unfold fFind at e
  split at e
  · rename_i t
    obtain ⟨x, rfl, h1⟩ := Paired.one P
    rw [h1.str]
    cases e
    exact ⟨strL s, strL t, rfl, rfl, q _ _ _ .int⟩
  · cases e
end
end Lc
end
section
set_option Elab.async false
set_option linter.all false
set_option maxRecDepth 100000
set_option maxHeartbeats 4000000
namespace PySem
namespace XS
open PySem.W PySem.Calls PyProof.Rows PySem.HandSPX

/-- the body of such an __init__: super().__init__(msg); self.f = f -/
def xBody (f : Str) (msg : Expr) (p0 p1 p2 p3 p4 q1 q2 q3 q4 : Pos) : List Stmt :=
  [.Expr (.Call (.Attribute (.Call (.Name "super" p0) [] [] p1) "__init__" p2) [msg] [] p3) p4, .Assign [.Attribute (.Name "self" q1) f q2] (.Name f q3) q4]
def xScope (f : Str) : Scope := { kind := .function, names := [(PySem.Str.ofString "self", .local), (f, .local), (PySem.Str.ofString "super", .globalImplicit), (PySem.Str.ofString "__class__", .free)], isGenerator := false, isCoroutine := false, more := [] }

/-- what is asked of the message: a text (or int); nothing is told of it -/
def MsgOk (M : Model) (env : Env) (f : Str) (msg : Expr) (L : Addr) (v : Value) : Prop := ∀ (A : Around) (E : Value → Shared → Prop) (s : Shared) (m : Str → Option Value) (Q : Value → Shared → Prop), s.heap.Ns L m → m f = some v →
  (∀ u t', Q u { s with toks := t' }) → wpAny M A (eval msg env) Q E s

structure InitEnd (h h' : Heap) (x C dx t1 : Addr) (f : Str) (v : Value) : Prop where
  keep : ∀ b o, b ≠ x → h.get? b = some o → h'.get? b = some o
  obj : h'.get? x = some { cls := .ref C, dict := some dx, data := .fields #[.ref t1, .none, .none, .none, .bool false, .none] }
  dbig : h.objs.size ≤ dx
  dne : dx ≠ x
  ns : h'.Ns1 dx (fun y => if y = f then some v else none)

section
variable {prog : Program} {w : World} {A : Around} {E : Value → Shared → Prop} {R : Result → Shared → Prop} {s : Shared} {K : Frag} {mg mb : Str → Option Value} {C fI cc cda : Addr} {f : Str}
/-- the bound wrapper, called -/
theorem call_mw {h : Heap} {g : Array GenState} {d : Drawn} {t : Nat} {os : OsState} {u e t0 : Addr} {rest : List Value} {nm q : Str} {N : Addr} {bs bm : List Value} {sn : List Str} {sub : List Value} {ab : Bool} {col : Option Bool} {dd : Option Addr} {k0 k1 k2 k3 k5 : Option Value} {Q : Value → Shared → Prop}
    (hC : h.get? C = some (excClassObj nm q C N bs bm true sn sub ab col dd k0 k1 k2 k3 k5 "ValueError.__new__")) (he : h.get? e = some (excO C t0)) (hu : h.get? u = some (kxs_mw "ValueError.__init__" e)) (hrest : rest.length ≤ sizeLine)
    (hq : ∀ h' t1, (∀ b o, b ≠ e → h.get? b = some o → h'.get? b = some o) → h'.get? e = some (excO C t1) → Q .none ⟨h', g, d, t, os⟩) :
    wpAny (model prog w) A (call (.ref u) rest) Q E ⟨h, g, d, t, os⟩ := by
  refine wpAny_call (codeAny_of_tree ?_)
  show wpAny _ A.in1 (callAny (.ref u) ⟨rest, []⟩) _ _ _
  simp only [callAny]
  refine wpAny_bind (wpAny_load hu ?_)
  simp only [kxs_mw, show (Value.type "method-wrapper" == Value.type "method" || Value.type "method-wrapper" == Value.type "builtin_function_or_method" || Value.type "method-wrapper" == Value.type "method-wrapper") = true by decide, if_true]
  refine W.KFB.if_so (by decide) ?_
  refine wpAny_bind (check_bound_init PySem.F.excBase_ValueError.toExcCallFacts hC he rfl ?_)
  refine wpAny_bind (wpAny_pure (wpAny_pure ?_))
  refine ⟨plainId_quiet PySem.F.excBase_ValueError.init.plain _, codeAny_builtin PySem.F.excBase_ValueError.initEntry ?_⟩
  exact exc_init_tree (cls := .ref C) (t0 := t0) (dv := none) (c2 := .none) (c3 := .none) (b4 := .bool false) he hrest fun h' k e' _ => hq h' h.objs.size k e'

theorem ldF {M : Model} {s : Shared} {fd : FuncData} {L a : Addr} {m : Str → Option Value} {x : Str} {pos : Pos} {v : Value} {Q : Value → Shared → Prop} {A : Around} {E : Value → Shared → Prop} (hn : s.heap.Ns L m) (hv : m x = some v) (h : Q v s)
    (hk : fd.scope.kind = .function) (hl : fd.scope.names.lookup x = some .local) (hd : (x == ("__debug__" : Str)) = false) : wpAny M A (eval (.Name x pos) (callEnv fd L a)) Q E s := wpAny_Name (wpAny_loadName_local hk hl hn hv h) hd

theorem x_init {qual : Str} {params : Arguments} {scope : Scope} {msg : Expr} {p0 p1 p2 p3 p4 q1 q2 q3 q4 : Pos} {dV kV doc pm ct oc ccl cl v : Value} {an od cdd cld dd : Option Addr} {osl ccs csl : Array (Option Value)} {vs : Array Value} {file : Str} {tf : Tok} {ar : Arg} {x t0 N : Addr} {nm q : Str} {bs bm : List Value} {sn : List Str} {sub : List Value} {ab : Bool} {col : Option Bool} {k0 k1 k2 k3 k5 : Option Value}
    (X : K.In s.heap) (hlim : s.heap.NoLimit) (hg : s.heap.Ns mainGlobals mg) (hgs : mg "super" = none) (hb : s.heap.Ns builtinsNs mb) (hbs : mb "super" = some (.type "super"))
    (ho : K.lookup fI = some ⟨oc, od, .func (fnX "__init__" qual params (xBody f msg p0 p1 p2 p3 p4 q1 q2 q3 q4) scope [(("__class__" : Str), cc)] dV kV doc pm an (.ref cda) ct), osl⟩) (hcd : codeIn K (.ref cda) qual = true)
    (har : (params.posonlyargs ++ params.args).head? = some ar) (harg : ar.arg = "self")
    (hcell : K.lookup cc = some ⟨cl, cld, .cell (some (.ref C)), csl⟩) (hcode : K.lookup cda = some ⟨ccl, cdd, .fields vs, ccs⟩) (hvs : vs[2]? = some (.str file tf)) (hfile : ((prog.main.file : Str) == file) = true) (htop : (prog.main.scope.names.lookup ("super" : Str)).isSome = false)
    (hC : K.lookup C = some (excClassObj nm q C N bs bm true sn sub ab col dd k0 k1 k2 k3 k5 "ValueError.__new__")) (hbm : refsVE bm = true) (sa : findIn K (.ref C) "__setattr__" = some (some (.builtin "object.__setattr__"))) (noN : findIn K (.ref C) f = some none)
    (hsup : alongIn K "__init__" (((Value.ref C :: bm).dropWhile (· != .ref C)).drop 1) = some (some (.builtin "ValueError.__init__"))) (hno : nsIn K cStatics "thirdparty.any" = some none) (hmro : mroIn K C (.ref C) = some true) (hsubB : subIn K (.ref C) (.type "ValueError") = some true)
    (hx : s.heap.get? x = some (excO C t0)) (hnx : K.lookup x = none) (hroom : A.depth < recursionLimit)
    (hbind : BindsTo s (fnX "__init__" qual params (xBody f msg p0 p1 p2 p3 p4 q1 q2 q3 q4) scope [(("__class__" : Str), cc)] dV kV doc pm an (.ref cda) ct) ⟨[.ref x, v], []⟩ [("self", .ref x), (f, v)])
    (hk : scope.kind = .function) (hco : scope.isCoroutine = false) (hgen : scope.isGenerator = false) (hncell : ∀ y ∈ scope.names, y.2 ≠ .cell) (hls : scope.names.lookup ("self" : Str) = some .local) (hlf : scope.names.lookup f = some .local) (hks : scope.names.lookup ("super" : Str) = some .globalImplicit) (hkc : scope.names.lookup ("__class__" : Str) = some .free)
    (hfs : f ≠ ("self" : Str)) (hfd : (f == ("__debug__" : Str)) = false)
    (hmsg : MsgOk (model prog w) (callEnv (fnX "__init__" qual params (xBody f msg p0 p1 p2 p3 p4 q1 q2 q3 q4) scope [(("__class__" : Str), cc)] dV kV doc pm an (.ref cda) ct) s.heap.objs.size fI) f msg s.heap.objs.size v)
    (pl : Env → Sem Bool) (hev : ∀ env : Env, eval (.Call (.Attribute (.Call (.Name "super" p0) [] [] p1) "__init__" p2) [msg] [] p3) env = (do
      let ov ← attributeBase (.Call (.Name "super" p0) [] [] p1) "__init__" env (eval (.Call (.Name "super" p0) [] [] p1) env)
      standAt p2.atName
      let (f, first) ← holding [ov] (getMethod ov "__init__" (pl env))
      callWith p3 f first (backTo p3 (starEach [msg] env)) []))
    (hst : ∀ env : Env, starEach [msg] env = (false, eval msg env) :: starEach [] env) (hsw : ∀ env : Env, swapsWith (.Call (.Attribute (.Call (.Name "super" p0) [] [] p1) "__init__" p2) [msg] [] p3) none p4.line env = pure false)
    (hq : ∀ h' tk dx t1, InitEnd s.heap h' x C dx t1 f v → R (.ok (.ret .none)) { s with heap := h', toks := tk }) :
    codeAny (model prog w) A (.call (.ref fI) ⟨[.ref x, v], []⟩) R s := by
  obtain ⟨hp, g, d, t, os⟩ := s
  generalize hfdD : fnX "__init__" qual params (xBody f msg p0 p1 p2 p3 p4 q1 q2 q3 q4) scope [(("__class__" : Str), cc)] dV kV doc pm an (.ref cda) ct = fd at *
  have e1 : fd.body = .stmts (xBody f msg p0 p1 p2 p3 p4 q1 q2 q3 q4) := by rw [← hfdD]
  have e2 : fd.scope = scope := by rw [← hfdD]
  have e3 : fd.code = .ref cda := by rw [← hfdD]
  have e4 : fd.qualname = qual := by rw [← hfdD]
  have e5 : fd.params = params := by rw [← hfdD]
  have e6 : fd.closure = [(("__class__" : Str), cc)] := by rw [← hfdD]
  have e7 : fd.globals = mainGlobals := by rw [← hfdD]
  have e8 : fd.builtins = builtinsNs := by rw [← hfdD]
  have hcl : clsIn K C = some { name := nm, bases := bs, mro := .ref C :: bm, ns := N, qualname := q, hasDict := true, slotNames := sn, subclasses := sub, abstract := ab, collection := col, hasDel := false } := by unfold clsIn; rw [hC] <;> rfl
  refine ks_codeAny_call_defAt (fd := fd) (binds := [("self", .ref x), (f, v)]) hroom (X _ _ ho) rfl hlim (by rw [e3, e4]; exact codeRec_of X hcd) e1 hbind (by rw [e2]; exact hncell) (fun y hy => ?_) (fun h₀ hns k => ?_) (by rw [e2]; exact hco) (by rw [e2]; exact hgen) (by rw [e2]; exact hk)
  · rw [e2]
    rcases List.mem_cons.mp hy with rfl | hy
    · exact hls
    · rcases List.mem_cons.mp hy with rfl | hy
      · exact hlf
      · cases hy
  have X0 : K.In h₀ := X.keeps k
  have hx0 := k _ _ hx
  have mself : (fun y : Str => ([((PySem.Str.ofString "self"), Value.ref x), (f, v)] : List (Str × Value)).reverse.lookup y) "self" = some (.ref x) := by
    have : ((PySem.Str.ofString "self") == f) = false := by
      have z : ¬ (PySem.Str.ofString "self") = f := fun z => hfs z.symm
      simpa using z
    show List.lookup (PySem.Str.ofString "self") [(f, v), ((PySem.Str.ofString "self"), Value.ref x)] = _
    rw [List.lookup, this]
    simp [List.lookup]
  have mf : (fun y : Str => ([((PySem.Str.ofString "self"), Value.ref x), (f, v)] : List (Str × Value)).reverse.lookup y) f = some v := by
    show List.lookup f [(f, v), ((PySem.Str.ofString "self"), Value.ref x)] = _
    simp [List.lookup]
  have kSup : (callEnv fd hp.objs.size fI).kindOf "super" = some .globalImplicit := by
    show fd.scope.names.lookup _ = _
    rw [e2]
    exact hks
  have kCls : (callEnv fd hp.objs.size fI).kindOf "__class__" = some .free := by
    show fd.scope.names.lookup _ = _
    rw [e2]
    exact hkc
  have kSelf : (callEnv fd hp.objs.size fI).kindOf "self" = some .local := by
    show fd.scope.names.lookup _ = _
    rw [e2]
    exact hls
  have hkE : (callEnv fd hp.objs.size fI).scope.kind = .function := by
    show fd.scope.kind = _
    rw [e2]
    exact hk
  refine ks_wpAt_execs_cons (ks_wpAt_Expr_any (ks_wpAt_MethodCall ?_ (hev _)) (by unfold interactive; rw [hkE]; rfl) (hsw _))
  refine ks_wpAt_super_base (env := callEnv fd hp.objs.size fI) (ar := ar) kSup kCls (by decide) rfl (X0 _ _ ho) rfl (by rw [e5]; exact har) (show fd.code = _ from e3) (X0 _ _ hcode) rfl hvs hfile htop ?_
  refine ks_loadName_global hkE kSup (loadGlobal_builtin (env := callEnv fd hp.objs.size fI) (by show h₀.Ns fd.globals mg; rw [e7]; exact hg.keeps k) hgs (by show h₀.Ns fd.builtins mb; rw [e8]; exact hb.keeps k) hbs ⟨rfl, ?_⟩)
  refine wpAny_loadName_free hkE kCls (c := cc) (by show fd.closure.lookup _ = _; rw [e6]; rfl) ⟨_, X0 _ _ hcell, rfl⟩ ?_
  rw [harg]
  refine wpAny_loadName_local hkE kSelf hns mself ?_
  refine ks_wpAny_isType_cls (X0 _ _ hC) rfl ⟨rfl, ?_⟩
  refine ks_wpAny_call_super (X0 _ _ hC) rfl hx0 rfl (fun c e => by cases e) (looks_mroIn X0 hmro) (fun h1 hso k1 => ?_)
  have X1 : K.In h1 := X0.keeps k1
  have hx1 := k1 _ _ hx0
  have hI1 : W.Looks (model prog w) h1 (isInstance (.ref x) (.type "ValueError")) true := (InstAt.type (od := none) (ox := excO C t0) (C := C) ⟨hx1, rfl, rfl, trivial⟩).andThen (looks_subIn X1 hsubB)
  have hxC : x ≠ C := fun z => by
    have y := X1 _ _ hC
    rw [← z, hx1] at y
    cases y
  refine kxs_getMethod kxs_ValueError hso (looks_opaque X1 hno) (l₀ := .ref C :: bm) ((looks_clsIn X1 hcl).andThen .now) rfl X1 hsup hI1 hxC (by decide) ?_
  have k2 : ∀ b o, h1.get? b = some o → (h1.push (kxs_mw "ValueError.__init__" x)).get? b = some o := fun b o e => Heap.get?_push_of_some _ e
  have hmw : (h1.push (kxs_mw "ValueError.__init__" x)).get? h1.objs.size = some (kxs_mw "ValueError.__init__" x) := Heap.get?_push_size _ rfl
  have hns2 : (h1.push (kxs_mw "ValueError.__init__" x)).Ns hp.objs.size (fun y : Str => ([((PySem.Str.ofString "self"), Value.ref x), (f, v)] : List (Str × Value)).reverse.lookup y) := (hns.keeps k1).keeps k2
  dsimp only
  rw [hst]
  refine kxs_callWith (i := "ValueError.__init__") (x := x) rfl (evalArgs_plain (Calls.spliced_cons (hmsg _ _ _ _ _ hns2 mf fun u t' => Calls.spliced_nil ⟨hmw, ?_⟩)))
  refine call_mw (X1.keeps k2 _ _ hC) (k2 _ _ hx1) hmw (by rw [sizeLine_eq]; exact (by decide : 1 ≤ 16777216)) fun h3 t1 k3 hx3 => ?_
  have X3 : K.In h3 := fun b o e => k3 b o (fun z => by rw [z, hnx] at e; cases e) (k2 _ _ (X1 b o e))
  have kall : ∀ b o, b ≠ x → hp.get? b = some o → h3.get? b = some o := fun b o hb e => k3 b o hb (k2 _ _ (k1 _ _ (k b o e)))
  have hns3 : h3.Ns hp.objs.size (fun y : Str => ([((PySem.Str.ofString "self"), Value.ref x), (f, v)] : List (Str × Value)).reverse.lookup y) := by
    obtain ⟨o, es, ep, e, dd, r⟩ := hns2
    refine ⟨o, es, ep, k3 _ _ (fun z => ?_) e, dd, r⟩
    have := Heap.lt_size hx
    rw [← z] at this
    exact absurd this (Nat.lt_irrefl _)
  have szle : hp.objs.size ≤ h3.objs.size := Nat.le_of_lt hns3.lt
  -- self.f = f
  show wpAt _ _ _ (execs [_] _) _ _ _
  refine wpAt_of_wpAny (wpAny_execs_cons (plainObj_wpAny_Assign_Attribute ?_))
  refine ldF (v := v) hns3 mf ?_ hkE (by rw [e2]; exact hlf) hfd
  refine ldF (v := .ref x) hns3 mself ?_ hkE (by rw [e2]; exact hls) (by decide)
  refine set_plain X3 (ox := excO C t1) (od := none) ⟨hx3, rfl, rfl, trivial⟩ sa ?_
  refine exc_osa X3 hx3 hcl (show refsVE (.ref C :: bm) = true from hbm) rfl noN (fun h4 tk4 dx k4 dn dne hx4 hn4 => ?_)
  refine wpAny_execs_nil (hq h4 tk4 dx t1 ⟨fun b o hb e => k4 b o hb (kall b o hb e), hx4, Nat.le_trans szle dn, dne, hn4⟩)
end
end XS
end PySem
end
section
set_option Elab.async false
set_option linter.all false
set_option maxRecDepth 100000
set_option maxHeartbeats 4000000
namespace PySem
namespace XS
open PySem.W PySem.Calls PyProof.Rows PySem.HandSPX

/-- what the written part says of such a class, at C, and of its __init__, at fI -/
structure XTxt (prog : Program) (K : Frag) (C fI : Addr) (f : Str) (Ok : Value → Prop) : Prop where
  sa : findIn K (.ref C) "__setattr__" = some (some (.builtin "object.__setattr__"))
  noN : findIn K (.ref C) f = some none
  iC : findIn K (.ref C) "__init__" = some (some (.ref fI))
  tC : typeIn K (.ref fI) = some (.type "function")
  kC : keepIn K (.ref C) = true
  exC : subIn K (.ref C) (.type "BaseException") = some true
  tyC : typeIn K (.ref C) = some (.type "type")
  hno : nsIn K cStatics "thirdparty.any" = some none
  hmro : mroIn K C (.ref C) = some true
  hsubB : subIn K (.ref C) (.type "ValueError") = some true
  htop : (prog.main.scope.names.lookup ("super" : Str)).isSome = false
  hfs : f ≠ ("self" : Str)
  hfd : (f == ("__debug__" : Str)) = false
  fn : ∃ (qual : Str) (params : Arguments) (scope : Scope) (msg : Expr) (p0 p1 p2 p3 p4 q1 q2 q3 q4 : Pos) (dV kV doc pm ct oc ccl cl : Value) (an od cdd cld dd : Option Addr) (osl ccs csl : Array (Option Value)) (vs : Array Value) (file : Str) (tf : Tok) (ar : Arg) (N cc cda : Addr) (nm q : Str) (bs bm : List Value) (sn : List Str) (sub : List Value) (ab : Bool) (col : Option Bool) (k0 k1 k2 k3 k5 : Option Value) (pl : Env → Sem Bool) (fd : FuncData),
    fd = fnX "__init__" qual params (xBody f msg p0 p1 p2 p3 p4 q1 q2 q3 q4) scope [(("__class__" : Str), cc)] dV kV doc pm an (.ref cda) ct ∧
    K.lookup fI = some ⟨oc, od, .func fd, osl⟩ ∧ codeIn K (.ref cda) qual = true ∧
    (params.posonlyargs ++ params.args).head? = some ar ∧ ar.arg = "self" ∧ K.lookup cc = some ⟨cl, cld, .cell (some (.ref C)), csl⟩ ∧ K.lookup cda = some ⟨ccl, cdd, .fields vs, ccs⟩ ∧ vs[2]? = some (.str file tf) ∧ ((prog.main.file : Str) == file) = true ∧
    K.lookup C = some (excClassObj nm q C N bs bm true sn sub ab col dd k0 k1 k2 k3 k5 "ValueError.__new__") ∧ refsVE bm = true ∧
    alongIn K "__init__" (((Value.ref C :: bm).dropWhile (· != .ref C)).drop 1) = some (some (.builtin "ValueError.__init__")) ∧
    (∀ (s : Shared) (x : Addr) (v : Value), BindsTo s fd ⟨[.ref x, v], []⟩ [("self", .ref x), (f, v)]) ∧
    scope.kind = .function ∧ scope.isCoroutine = false ∧ scope.isGenerator = false ∧ (∀ y ∈ scope.names, y.2 ≠ .cell) ∧ scope.names.lookup ("self" : Str) = some .local ∧ scope.names.lookup f = some .local ∧ scope.names.lookup ("super" : Str) = some .globalImplicit ∧ scope.names.lookup ("__class__" : Str) = some .free ∧
    (∀ (w : World) (L : Addr) (v : Value), Ok v → MsgOk (model prog w) (callEnv fd L fI) f msg L v) ∧
    (∀ env : Env, eval (.Call (.Attribute (.Call (.Name "super" p0) [] [] p1) "__init__" p2) [msg] [] p3) env = (do
      let ov ← attributeBase (.Call (.Name "super" p0) [] [] p1) "__init__" env (eval (.Call (.Name "super" p0) [] [] p1) env)
      standAt p2.atName
      let (f, first) ← holding [ov] (getMethod ov "__init__" (pl env))
      callWith p3 f first (backTo p3 (starEach [msg] env)) [])) ∧
    (∀ env : Env, starEach [msg] env = (false, eval msg env) :: starEach [] env) ∧
    ∀ env : Env, swapsWith (.Call (.Attribute (.Call (.Name "super" p0) [] [] p1) "__init__" p2) [msg] [] p3) none p4.line env = pure false

/-- a made exception -/
structure OwnMade (h h' : Heap) (e C d : Addr) (f : Str) (v : Value) : Prop where
  keep : ∀ b o, h.get? b = some o → h'.get? b = some o
  new : h.objs.size ≤ e
  obj : ∃ oe vs, h'.get? e = some oe ∧ oe.cls = .ref C ∧ oe.dict = some d ∧ oe.data = .fields vs ∧ vs[1]? = some .none
  dbig : h.objs.size ≤ d
  dne : d ≠ e
  ns : h'.Ns1 d (fun y => if y = f then some v else none)
section
variable {prog : Program} {w : World} {A : Around} {E : Value → Shared → Prop} {R : Result → Shared → Prop} {s : Shared} {K : Frag} {mg mb : Str → Option Value} {C fI : Addr} {f : Str} {Ok : Value → Prop}
theorem x_made (T : XTxt prog K C fI f Ok) {v : Value} (X : K.In s.heap) (hlim : s.heap.NoLimit) (hg : s.heap.Ns mainGlobals mg) (hgs : mg "super" = none) (hb : s.heap.Ns builtinsNs mb) (hbs : mb "super" = some (.type "super")) (hroom : A.depth + 1 < recursionLimit) (hv : Ok v)
    (hq : ∀ h' tk e d, OwnMade s.heap h' e C d f v → R (.ok (.ret (.ref e))) { s with heap := h', toks := tk }) :
    codeAny (model prog w) A (.call (.ref C) ⟨[v], []⟩) R s := by
  obtain ⟨qual, params, scope, msg, p0, p1, p2, p3, p4, q1, q2, q3, q4, dV, kV, doc, pm, ct, oc, ccl, cl, an, od, cdd, cld, dd, osl, ccs, csl, vs, file, tf, ar, N, cc, cda, nm, q, bs, bm, sn, sub, ab, col, k0, k1, k2, k3, k5, pl, fd, rfl, ho, hcd, har, harg, hcell, hcode, hvs, hfile, hC, hbm, hsup, hbind, hk, hco, hgen, hncell, hls, hlf, hks, hkc, hmsg, hev, hst, hsw⟩ := T.fn
  obtain ⟨hp, g, dr, tk, os⟩ := s
  have k : ∀ b o, hp.get? b = some o → ((hp.push (kdv_tup [v])).push (excO C hp.objs.size)).get? b = some o := fun b o e => Heap.get?_push_of_some _ (Heap.get?_push_of_some _ e)
  have hget : ((hp.push (kdv_tup [v])).push (excO C hp.objs.size)).get? (hp.objs.size + 1) = some (excO C hp.objs.size) := by heap_get
  have hnx : K.lookup (hp.objs.size + 1) = none := by
    cases e : K.lookup (hp.objs.size + 1) with
    | none => rfl
    | some o =>
      have z : hp.get? (hp.objs.size + 1) = some o := X _ _ e
      exact absurd (Nat.lt_of_succ_lt (Heap.lt_size z)) (Nat.lt_irrefl _)
  refine call_own F.excBase_ValueError (fun X => refsVE_contains X bm hbm) (X _ _ hC) (looks_findIn X T.iC) (fun self => bind_fn X self T.tC) (by rw [sizeLine_eq]; exact (by decide : 1 ≤ 16777216)) ?_
  refine x_init (s := ⟨(hp.push (kdv_tup [v])).push (excO C hp.objs.size), g, dr, tk, os⟩) (X.keeps k) (hlim.keeps k) (hg.keeps k) hgs (hb.keeps k) hbs ho hcd har harg hcell hcode hvs hfile T.htop hC hbm T.sa T.noN hsup T.hno T.hmro T.hsubB hget hnx ?_ (hbind _ _ _) hk hco hgen hncell hls hlf hks hkc T.hfs T.hfd (hmsg w _ v hv) pl hev hst hsw fun h' tk' dx t1 ⟨k', hx, dn, dne, hns⟩ => ?_
  · show A.depth + 1 < recursionLimit
    exact hroom
  · have old : ∀ b o, hp.get? b = some o → h'.get? b = some o := fun b o e => k' b o (Nat.ne_of_lt (Nat.lt_succ_of_lt (Heap.lt_size e))) (k b o e)
    have z : hp.objs.size + 1 + 1 ≤ dx := by
      first
        | (simpa only [Heap.size_push] using dn)
        | exact dn
        | (have q := dn; rw [Heap.size_push, Heap.size_push] at q; exact q)
    exact ⟨rfl, hq h' tk' (hp.objs.size + 1) dx ⟨old, Nat.le_succ _, ⟨_, _, hx, rfl, rfl, rfl, rfl⟩, Nat.le_trans (Nat.le_trans (Nat.le_succ _) (Nat.le_succ _)) z, dne, hns⟩⟩
end

/-! ### messages -/
theorem msg_str {M : Model} {env : Env} {f : Str} {y : Str} {j : Nat} {pos : Pos} {L : Addr} {v : Value} : MsgOk M env f (.Constant (.str y) j pos) L v := fun A E s m Q _ _ h => Calls.Constant_str (h _ _)
theorem msg_repr {prog : Program} {w : World} {fd : FuncData} {fI : Addr} {f : Str} {y : Str} {j : Nat} {c0 c1 p0 p1 : Pos} {L : Addr} {x : Str} {tk : Tok} (hk : fd.scope.kind = .function) (hl : fd.scope.names.lookup f = some .local) (hd : (f == ("__debug__" : Str)) = false) (hx : y.length + (reprText x).length ≤ sizeLine) :
    MsgOk (model prog w) (callEnv fd L fI) f (.JoinedStr [.Constant (.str y) j c0, .FormattedValue (.Name f c1) 114 none p0] p1) L (.str x tk) := fun A E s m Q hn hm h => by
  have hx2 : (reprText x).length ≤ sizeLine := by omega
  have hy : (Str.empty ++ y).length ≤ sizeLine := by
    have : (Str.empty ++ y).length = y.length := by
      show (#[] ++ y.cps).size = y.cps.size
      simp
    omega
  have hz : (Str.empty ++ y ++ reprText x).length ≤ sizeLine := by
    have : (Str.empty ++ y ++ reprText x).length = y.length + (reprText x).length := by
      show (#[] ++ y.cps ++ (reprText x).cps).size = y.cps.size + (reprText x).cps.size
      simp
    omega
  refine wpAny_JoinedStr (Q := Q) ?_
  have e0 : evalEach [.Constant (.str y) j c0, .FormattedValue (.Name f c1) 114 none p0] (callEnv fd L fI) = [eval (.Constant (.str y) j c0) (callEnv fd L fI), eval (.FormattedValue (.Name f c1) 114 none p0) (callEnv fd L fI)] := by first | rfl | simp [evalEach]
  rw [e0]
  refine Calls.Constant_str ⟨y, _, rfl, hy, ?_⟩
  refine wpAny_FormattedValue_repr (ldF (v := .str x tk) hn hm ?_ hk hl hd)
  exact pyReprObj_str (wpAny_formatField_str ⟨reprText x, _, rfl, hz, hz, h _ _⟩ ⟨reprText x, _, rfl, hz, hz, h _ _⟩ hx2) hx2
end XS
end PySem
end
section
set_option Elab.async false
set_option linter.all false
set_option maxRecDepth 100000
set_option maxHeartbeats 1000000
namespace Lc
open PySem L2

theorem relO_one {f : Str} {v : V} {v' : Value} (r : RelV v v') (g : Str) : RelO (List.lookup g [(f, v)]) (if g = f then some v' else none) := by
  by_cases hw : g = f
  · subst hw
    rw [if_pos rfl]
    have q : List.lookup g [(g, v)] = some v := by simp [List.lookup]
    rw [q]
    exact r
  · rw [if_neg hw]
    have qw : (g == f) = false := by simpa using hw
    have q2 : List.lookup g [(f, v)] = none := by simp [List.lookup, qw]
    rw [q2]
    trivial
section
variable {X : Cx} {C fI : Addr} {f : Str} {Ok : Value → Prop}
/-- C(e) -/
def tMkX (C : Addr) (f : Str) (Ok : Value → Prop) (ta : TA) : L2.St → Hp → XK → Prop := fun σ H Q => ta σ H fun vs H1 => ∃ v, vs = [v] ∧ (∀ u, RelV v u → Ok u) ∧ ∀ d, H1 d = none → Q (.ref C) (some d) (upd H1 d (.xd [(f, v)]))
theorem pmk_x {x : Str} {a : Expr} {ta : TA} {p pos : Pos} {k : Nat} (T : PySem.XS.XTxt X.prog X.K C fI f Ok) (gC : X.mg x = some (.ref C)) (hs : X.mg "super" = none) (hr : Room k X.A) (ha : PA X [a] ta) (hg : Gl X x) (hdb : (x == ("__debug__" : Str)) = false := by decide)
    (he : starEach (a :: []) X.env = (false, eval a X.env) :: starEach [] X.env := by rfl) (hpl : (backTo pos (starEach [] X.env)).any (·.1) = false := by rfl) :
    PMk X (.Call (.Name x p) [a] [] pos) (tMkX C f Ok ta) := by
  intro pins s σ H Q I h
  refine wpAny_Call_Name_kw (ld_glob I hg gC ?_ hdb)
  refine PySem.W.callWith_K (h₀ := X.base) I.ok.mod.kin T.kC (thn (ha.run pos pins s σ H _ I h) fun us s1 hh => ?_) he hpl
  obtain ⟨vs, H1, I1, r1, v, ev, hok, q1⟩ := hh
  subst ev
  refine ⟨I1.kIn, ?_⟩
  cases r1 with
  | cons rv rn =>
    rename_i v' us'
    cases rn
    show wpAny _ _ (call (.ref C) [v']) _ _ _
    have hlim := I1.nolimit
    obtain ⟨mb, b1, b2⟩ := I1.mod.blt
    have hglob := I1.mod.glob.keeps I1.bk
    have hblt := b1.keeps I1.bk
    obtain ⟨hp, g, dr, tk, os⟩ := s1
    refine wpAny_call (PySem.XS.x_made T I1.kIn hlim hglob hs hblt ((b2 "super" (by decide)).trans (by decide +kernel)) (by have := hr.dp; omega) (hok _ rv) fun h' tk' e d M => ?_)
    show MkP X pins σ Q (.ref e) ⟨h', g, dr, tk', os⟩
    obtain ⟨oe, fv, hoe, hc, hd, hdat, h1⟩ := M.obj
    have hns := M.ns
    obtain ⟨G', g1, g2⟩ := restrict h' fun b => decide (b ≠ e)
    have gk : ∀ b, b ≠ e → G'.get? b = h'.get? b := fun b hb => g1 b (decide_eq_true hb)
    have ge : G'.get? e = none := g2 e (by simp)
    have old : ∀ b o, hp.get? b = some o → G'.get? b = some o := fun b o q => (gk b (Nat.ne_of_lt (Nat.lt_of_lt_of_le (Heap.lt_size q) M.new))).trans (M.keep b o q)
    have ob : ObjOk X.prog X.w (upd H1 d (.xd [(f, v)])) G' d (.xd [(f, v)]) :=
      ⟨_, hns.at (fun o q => (gk d M.dne).trans q), fun y => relO_one rv y⟩
    have J : Inv X pins σ (upd H1 d (.xd [(f, v)])) ⟨G', g, dr, tk', os⟩ := I1.laid (t' := tk') old M.dbig ob
    refine ⟨e, oe, fv, ⟨G', g, dr, tk', os⟩, _, .ref C, some d, rfl, J, fun b o q => ?_, ge, hoe, ⟨hc, hd⟩, hdat, h1, ?_, rfl, I1.bare, raises_own T.exC T.tyC, q1 d (I1.hok.fresh M.dbig)⟩
    · by_cases hb : b = e
      · have q' : G'.get? b = some o := q
        rw [hb, ge] at q'; cases q'
      · exact (gk b hb).symm.trans q
    · rw [upd_ne (Ne.symm M.dne)]
      exact I1.hok.fresh M.new
end

/-! ### raise -/
def sRaise (k : Nat) (n : Str) (ok : D → Bool) (m : Ctx → ER) : Ctx → SR := fun c => match m c with
  | .ok (.t d) c1 => if ok d && noBor d && Lc.noOwn d then .exc k n d c1 else .bad
  | .ok (.pl _ _) _ => .bad
  | .exc k n x c1 => .exc k n x c1
  | .bad => .bad
section
variable {A : Act} {W : Wx} {X : Cx} {C fI : Addr} {f : Str} {Ok : Value → Prop}
theorem R.noH {g : Gs} {I B H : Hp} {d : D} {v : V} (h : R g I B H d v []) (nb : Lc.noBor d = true) : R g I Lc.noH Lc.noH d v [] := R.keep d (R.noBor (B' := Lc.noH) d h nb) (leH.refl _) (leH.refl _) fun a ha => by cases ha
theorem PS_raise {x : Str} {e : Expr} {p pos pos2 : Pos} {k j : Nat} {ok : D → Bool} {m : Ctx → ER} (hcalm : X.calm = true) (T : PySem.XS.XTxt X.prog X.K C fI f Ok) (hG : A.g.G k = C) (gC : X.mg x = some (.ref C)) (hs : X.mg "super" = none) (hr : Room j X.A) (tk : Takes X W)
    (hok : ∀ (I B H : Hp) (d : D) (v : V) (u : Value), ok d = true → R A.g I B H d v [] → RelV v u → Ok u) (he : PE X e (tE A W m)) (hg : Gl X x) (hdb : (x == ("__debug__" : Str)) = false := by decide)
    (hst : starEach (e :: []) X.env = (false, eval e X.env) :: starEach [] X.env := by rfl) (hpl : (backTo pos (starEach [] X.env)).any (·.1) = false := by rfl) :
    PS X (.Raise (some (.Call (.Name x p) [e] [] pos)) none pos2) (tS A W (sRaise k f ok m)) :=
  PS.imp (ps_raise hcalm tk (pmk_x T gC hs hr (pa_cons he pa_nil hst) hg hdb hst hpl)) fun D' σ H ⟨I, c, O, lk, S, h⟩ => by
    refine ⟨I, c, [], O, lk, S, ?_⟩
    rw [sRaise] at h
    cases e1 : m c with
    | bad => rw [e1] at h; exact h
    | exc k n x c1 => rw [e1] at h; exact h σ
    | ok ev c1 =>
      rw [e1] at h
      cases ev with
      | pl r p => exact h.elim
      | t d =>
        dsimp only at h ⊢
        intro v I1 H1 O1 S1
        by_cases hc : (ok d && noBor d && Lc.noOwn d) = true
        · rw [if_pos hc] at h
          rw [Bool.and_eq_true, Bool.and_eq_true] at hc
          obtain ⟨⟨c1', c2⟩, c3⟩ := hc
          have rv : R A.g I1 A.B H1 d v [] := S1.last.nil c3
          refine ⟨v, rfl, fun u ru => hok _ _ _ d v u c1' rv ru, fun dd hd => ?_⟩
          have S2 := (Sat.pop (ts := []) (xs := [(d, v)]) S1).allocI (o := .xd [(f, v)]) hd
          have := h σ dd v _ _ O1 S2 upd_same (R.keep d (R.noH rv c2) (leH.upd (S1.new hd).2.1) (leH.refl _) fun a ha => by cases ha)
          rw [hG] at this
          exact this
        · rw [if_neg hc] at h
          exact h.elim
end
end Lc
end
section
set_option Elab.async false
set_option linter.all false
set_option maxRecDepth 100000
set_option maxHeartbeats 1000000
namespace Lc
open PySem L2

/-! ### caught exceptions: what is meant by them changes with the suite -/
mutual
def noEx : D → Bool
  | .tup xs => noExL xs
  | .nd _ _ xs => noExL xs
  | .exn _ _ _ => false
  | .non => true | .bl _ => true | .int _ => true | .str _ => true | .ty _ => true
def noExL : List D → Bool
  | [] => true
  | x :: xs => noEx x && noExL xs
end
def Act.ex (A : Act) (e : Nat → Addr → Addr → Prop) : Act := { A with g := { A.g with ex := e } }
theorem OwnC.ex {g : Gs} {e : Nat → Addr → Addr → Prop} {H : Hp} {k : Kd} {p : Addr} {vs : List V} (h : OwnC g H k p vs) : OwnC { g with ex := e } H k p vs := by
  cases k <;> exact h
theorem Cell.ex {g : Gs} {e : Nat → Addr → Addr → Prop} {H : Hp} {k : Kd} {p : Addr} {vs : List V} (h : Cell g H k p vs) : Cell { g with ex := e } H k p vs := by
  cases k <;> exact h
mutual
theorem R.ex {g : Gs} {e : Nat → Addr → Addr → Prop} : ∀ (d : D) {I B H : Hp} {v : V} {fp : List Addr}, R g I B H d v fp → noEx d = true → R { g with ex := e } I B H d v fp
  | .non, _, _, _, _, _, h, _ => by rw [R] at h ⊢; exact h
  | .bl _, _, _, _, _, _, h, _ => by rw [R] at h ⊢; exact h
  | .int _, _, _, _, _, _, h, _ => by rw [R] at h ⊢; exact h
  | .str _, _, _, _, _, _, h, _ => by rw [R] at h ⊢; exact h
  | .ty _, _, _, _, _, _, h, _ => by rw [R] at h ⊢; exact h
  | .exn _ _ _, _, _, _, _, _, h, n => by rw [noEx] at n; cases n
  | .tup xs, _, _, _, _, _, h, n => by
    rw [noEx] at n
    rw [R] at h ⊢
    obtain ⟨p, vs, e, t, h⟩ := h
    exact ⟨p, vs, e, t, RL.ex xs h n⟩
  | .nd k .own xs, _, _, _, _, _, h, n => by
    rw [noEx] at n
    rw [R] at h ⊢
    obtain ⟨p, vs, fq, e, e2, t, h⟩ := h
    exact ⟨p, vs, fq, e, e2, t.ex, RL.ex xs h n⟩
  | .nd k .frz xs, _, _, _, _, _, h, n => by
    rw [noEx] at n
    rw [R] at h ⊢
    obtain ⟨p, vs, e, e2, t, h⟩ := h
    exact ⟨p, vs, e, e2, t.ex, RL.ex xs h n⟩
  | .nd k .bor xs, _, _, _, _, _, h, n => by
    rw [noEx] at n
    rw [R] at h ⊢
    obtain ⟨p, vs, e, e2, t, h⟩ := h
    exact ⟨p, vs, e, e2, t.ex, RL.ex xs h n⟩
theorem RL.ex {g : Gs} {e : Nat → Addr → Addr → Prop} : ∀ (xs : List D) {I B H : Hp} {vs : List V} {fp : List Addr}, RL g I B H xs vs fp → noExL xs = true → RL { g with ex := e } I B H xs vs fp
  | [], _, _, _, _, _, h, _ => by rw [RL] at h ⊢; exact h
  | x :: xs, _, _, _, _, _, h, n => by
    rw [noExL, Bool.and_eq_true] at n
    rw [RL] at h ⊢
    obtain ⟨v, vr, f1, f2, e1, e2, h1, h2⟩ := h
    exact ⟨v, vr, f1, f2, e1, e2, R.ex x h1 n.1, RL.ex xs h2 n.2⟩
end
theorem VAt.ex {g : Gs} {e : Nat → Addr → Addr → Prop} {I H : Hp} {S : Addr → Prop} : ∀ {p : List Nat} {v w : V}, VAt g I H S v p w → VAt { g with ex := e } I H S v p w
  | [], _, _, a => a
  | n :: p, v, w, ⟨q, vs, v1, e1, h1, g1, a⟩ => by
    refine ⟨q, vs, v1, e1, ?_, g1, VAt.ex a⟩
    rcases h1 with h1 | ⟨s, k, h1⟩
    · exact .inl h1
    · exact .inr ⟨s, k, h1.ex⟩
def noExS : Sl → Bool
  | .v d => noEx d
  | _ => true
def noExC (c : Ctx) : Bool := c.s.all noExS
section
variable {A : Act} {W : Wx} {X : Cx} {I H I' H' : Hp} {σ σ' : L2.St} {c c' : Ctx} {ts xs : List (D × V)} {O O' : Addr → Option Ow} {lk : List (Nat × List Nat × V)} {d : D} {v : V} {w : Ow} {r : Nat} {p : List Nat}
theorem PV.ex {e : Nat → Addr → Addr → Prop} (h : PV A I H σ c O r p v) : PV (A.ex e) I H σ c O r p v := by
  obtain ⟨d, v0, d', e1, e2, e3, e4, va⟩ := h
  exact ⟨d, v0, d', e1, e2, e3, e4, va.ex⟩
theorem Sat.ex {e : Nat → Addr → Addr → Prop} (S : Sat A I H σ c ts O lk) (n : noExC c = true) (nt : ts.all (fun x => noEx x.1) = true) : Sat (A.ex e) I H σ c ts O lk where
  ih := S.ih
  bh := S.bh
  i0 := S.i0
  ib := S.ib
  len := S.len
  vals := fun i d h => by
    obtain ⟨v, e1, fp, r, nd, l⟩ := S.vals i d h
    exact ⟨v, e1, fp, R.ex d r (List.all_eq_true.mp n _ (List.mem_of_getElem? h)), nd, l⟩
  als := fun i r p h => by
    obtain ⟨w, e1, pv⟩ := S.als i r p h
    exact ⟨w, e1, pv.ex⟩
  tmps := fun j d v h => by
    obtain ⟨fp, r, nd, l⟩ := S.tmps j d v h
    exact ⟨fp, R.ex d r (List.all_eq_true.mp nt _ (List.mem_of_getElem? h)), nd, l⟩
  lks := fun r p v h => (S.lks r p v h).ex
  lke := S.lke
  fr := S.fr

/-! ### try: body, except C as name: suite -/
/-- the slot of the caught one is cleared; no exception stays behind -/
def clr (i : Nat) (c : Ctx) : Option Ctx := if !(c.kr.contains i) && noExC { c with s := (dropAl i c.s).set i .no } then some { c with s := (dropAl i c.s).set i .no } else none
def suiteOut (i : Nat) : SR → SR
  | .nx c => match clr i c with | some c1 => .nx c1 | none => .bad
  | .bk c => match clr i c with | some c1 => .bk c1 | none => .bad
  | .ct c => match clr i c with | some c1 => .ct c1 | none => .bad
  | .rt d c => match clr i c with | some c1 => if noEx d then .rt d c1 else .bad | none => .bad
  | _ => .bad
def sTry (i : Nat) (mt : Nat → Option Bool) (body : Ctx → SR) (suite : Ctx → SR) : Ctx → SR := fun c => match body c with
  | .exc k n x c1 => match mt k with
    | some true => if !(c1.kr.contains i) && decide (i < c1.s.length) && noExC { c1 with s := (dropAl i c1.s).set i .no } && noEx x then suiteOut i (suite { c1 with s := (dropAl i ((dropAl i c1.s).set i .no)).set i (.v (.exn k n x)) }) else .bad
    | some false => .exc k n x c1
    | none => .bad
  | r => r
def exAt (k : Nat) (a d : Addr) : Nat → Addr → Addr → Prop := fun k' a' d' => k' = k ∧ a' = a ∧ d' = d
theorem clr_ok {i : Nat} {c1 : Ctx} {e : Nat → Addr → Addr → Prop} (S : Sat (A.ex e) I H σ c ts O lk) (h : clr i c = some c1) (nt : ts.all (fun x => noEx x.1) = true) : Sat A I H (σ.set i none) c1 ts O lk := by
  unfold clr at h
  by_cases q : (!(c.kr.contains i) && noExC { c with s := (dropAl i c.s).set i .no }) = true
  · rw [if_pos q] at h
    cases h
    rw [Bool.and_eq_true] at q
    have S1 := S.forget (i := i) (by simpa using q.1)
    have S2 := S1.ex (e := A.g.ex) q.2 nt
    refine Sat.weakσ (A := A) (σ := σ) S2 (List.length_set ..) (fun j d e => ?_) fun j r p e => ?_
    · rcases set_cases (show ((dropAl i c.s).set i .no)[j]? = _ from e) with ⟨_, z, _⟩ | ⟨hj, _⟩
      · cases z
      · exact List.getElem?_set_ne (Ne.symm hj)
    · rcases set_cases (show ((dropAl i c.s).set i .no)[j]? = _ from e) with ⟨_, z, _⟩ | ⟨hj, _⟩
      · cases z
      · exact List.getElem?_set_ne (Ne.symm hj)
  · rw [if_neg q] at h
    cases h
/-- the suite's reading -/
def tSuite (A : Act) (suite : Ctx → SR) : Addr → Value → Option Addr → TS := fun a cls d D σ H => ∃ k dd, cls = .ref (A.g.G k) ∧ d = some dd ∧ tS (A.ex (exAt k a dd)) W0 suite D σ H
theorem tTry_of {i : Nat} {mt : Nat → Option Bool} {body suite : Ctx → SR} {cv : Value} {D' : Ends} (hm : ∀ k b, mt k = some b → PySem.W.exmOne X.K (.ref (A.g.G k)) cv = some b) (h : tS A W (sTry i mt body suite) D' σ H) :
    tS A (wAs X.K cv i (tSuite A suite) W D') body D' σ H := by
  obtain ⟨I, c, O, lk, S, h⟩ := h
  refine ⟨I, c, O, lk, S, ?_⟩
  rw [sTry] at h
  cases e : body c with
  | bad => rw [e] at h; exact h
  | nx c1 => rw [e] at h; exact h
  | bk c1 => rw [e] at h; exact h
  | ct c1 => rw [e] at h; exact h
  | rt d c1 => rw [e] at h; exact h
  | exc k n x c1 =>
    rw [e] at h
    dsimp only at h ⊢
    intro σ' dd v I1 H1 O1 S1 i1 rx
    cases e1 : mt k with
    | none => rw [e1] at h; exact h.elim
    | some b =>
      rw [e1] at h
      refine ⟨b, hm k b e1, fun hb a hna => ?_, fun hb => ?_⟩
      · subst hb
        dsimp only at h
        by_cases q : (!(c1.kr.contains i) && decide (i < c1.s.length) && noExC { c1 with s := (dropAl i c1.s).set i .no } && noEx x) = true
        · rw [if_pos q] at h
          rw [Bool.and_eq_true, Bool.and_eq_true, Bool.and_eq_true] at q
          obtain ⟨⟨⟨q1, q2⟩, q3⟩, q4⟩ := q
          have nk : i ∉ c1.kr := by simpa using q1
          have hi : i < c1.s.length := by simpa using q2
          refine ⟨k, dd, rfl, rfl, ?_⟩
          have S2 := (S1.forget (i := i) nk).ex (e := exAt k a dd) q3 (by rfl)
          have hi2 : i < ((dropAl i c1.s).set i .no).length := by rw [List.length_set, dropAl_len]; exact hi
          have rexn : R (A.ex (exAt k a dd)).g I1 (A.ex (exAt k a dd)).B H1 (.exn k n x) (.ref a) [] := by
            rw [R]
            exact ⟨a, dd, v, rfl, rfl, ⟨rfl, rfl, rfl⟩, i1, R.ex x rx q4⟩
          have S3 := S2.bind1 (v := .ref a) rexn (show i ∉ Ctx.kr { c1 with s := (dropAl i c1.s).set i .no } from nk) hi2
          refine ⟨I1, _, O1, lk, S3, ?_⟩
          cases e2 : suite { c1 with s := (dropAl i ((dropAl i c1.s).set i .no)).set i (.v (.exn k n x)) } with
          | bad => rw [e2] at h; exact h.elim
          | exc k2 n2 x2 c2 => rw [e2] at h; exact h.elim
          | nx c2 =>
            rw [e2] at h
            unfold suiteOut at h
            dsimp only at h ⊢
            intro σ2 I2 H2 O2 S5
            cases e3 : clr i c2 with
            | none => rw [e3] at h; exact h.elim
            | some c3 =>
              rw [e3] at h
              exact h _ I2 H2 O2 (clr_ok S5 e3 (by rfl))
          | bk c2 =>
            rw [e2] at h
            unfold suiteOut at h
            dsimp only at h ⊢
            intro σ2 I2 H2 O2 S5
            cases e3 : clr i c2 with
            | none => rw [e3] at h; exact h.elim
            | some c3 =>
              rw [e3] at h
              exact h _ I2 H2 O2 (clr_ok S5 e3 (by rfl))
          | ct c2 =>
            rw [e2] at h
            unfold suiteOut at h
            dsimp only at h ⊢
            intro σ2 I2 H2 O2 S5
            cases e3 : clr i c2 with
            | none => rw [e3] at h; exact h.elim
            | some c3 =>
              rw [e3] at h
              exact h _ I2 H2 O2 (clr_ok S5 e3 (by rfl))
          | rt d c2 =>
            rw [e2] at h
            unfold suiteOut at h
            dsimp only at h ⊢
            intro v2 σ2 I2 H2 O2 S5
            cases e3 : clr i c2 with
            | none => rw [e3] at h; exact h.elim
            | some c3 =>
              rw [e3] at h
              dsimp only at h
              by_cases nd : noEx d = true
              · rw [if_pos nd] at h
                exact h v2 _ I2 H2 O2 (clr_ok S5 e3 (by simpa using nd))
              · rw [if_neg nd] at h
                exact h.elim
        · rw [if_neg q] at h
          exact h.elim
      · subst hb
        exact h σ' dd v I1 H1 O1 S1 i1 rx
theorem PS_try {i : Nat} {x n : Str} {cv : Value} {mt : Nat → Option Bool} {body suite : List Stmt} {b₀ : Stmt} {np pos pos' : Pos} {mb ms : Ctx → SR} (hs : X.stack = X.env :: X.outer) (hf : X.env.frame = some X.env.locals) (hN : X.N.Nodup) (hi : X.N[i]? = some n) (hln : X.env.kindOf n = some .local) (hc : Names X x cv) (tk : Takes X W)
    (hm : ∀ k b, mt k = some b → PySem.W.exmOne X.K (.ref (A.g.G k)) cv = some b)
    (hb : ∀ (W : WX) (pn : List (Addr × Obj)) (xe : Value → Shared → Prop), Takes (X.tr pn xe) W → PassesOwn (model X.prog X.w) X.A X.env xe → PSs (X.tr pn xe) body (tS A W mb))
    (hsu : ∀ (a : Addr) (oe : Obj) (k : Nat) (dd : Addr) (pn : List (Addr × Obj)), Zc (.ref (A.g.G k)) (some dd) oe → (∃ vs, oe.data = .fields vs) → PSs (X.suite a ((a, oe) :: pn)) (b₀ :: suite) (tS (A.ex (exAt k a dd)) W0 ms)) :
    PS X (.Try body [.ExceptHandler (some (.Name x np)) (some n) (b₀ :: suite) pos'] [] [] pos) (tS A W (sTry i mt mb ms)) :=
  PS.imp (ps_try_as (ts := tSuite A ms) hs hf hN hi hln hc tk hb fun a oe cls d pn hz hv => ⟨fun pins s σ H D I ⟨k, dd, e1, e2, h⟩ => by
    subst e1 e2
    exact (hsu a oe k dd pn hz hv).run pins s σ H D I h⟩) fun D' σ H h => tTry_of hm h
end
end Lc
end
section
set_option Elab.async false
set_option linter.all false
set_option maxRecDepth 100000
set_option maxHeartbeats 4000000
namespace PySem.W
open PySem PySem.Spec PySem.Calls PyProof.Rows
section
variable {prog : Program} {w : World} {A : Around} {E : Value → Shared → Prop} {s : Shared} {K : Frag} {x D : Addr} {ox : Obj} {od : Option Obj}
/-- the descriptor of the class is taken, whatever stands in the dict -/
theorem lc_descr {C : Addr} {name : Str} {a g : Value} (hc : (clsIn K C).isSome = true) (ha : findIn K (.ref C) name = some (some a)) (hg : specialIn K a "__get__" = some (some g)) (ht : takesIn K a = some true) : findObj K C od name = some (.bind g a) := by
  cases h : clsIn K C with
  | none => rw [h] at hc; cases hc
  | some cd =>
    unfold findObj
    rw [h, Option.bind_some, ha, Option.bind_some]
    simp [hg, ht]
theorem lc_class {Q : Option Value → Shared → Prop} (T : L2.ExcC K D) (X : K.In s.heap) (I : InstAt s.heap x ox D od) (h : Q (some (.ref D)) { s with toks := s.toks + 1 }) : wpAny (model prog w) A (getAttr? (.ref x) "__class__") Q E s := by
  have hf : findObj K D od "__class__" = some (.bind (.builtin "getset_descriptor.__get__") (.builtin "object.__class__")) := lc_descr (by obtain ⟨cd, hc, _⟩ := any_some T.hd; rw [hc]; rfl) T.ha T.hn T.ht
  obtain ⟨hp, g, d, t, os⟩ := s
  have l0 := I.type (M := model prog w)
  have l1 := looks_findIn (M := model prog w) X T.hg
  have l2 := looks_findIn (M := model prog w) X T.hk
  have l3 := looks_find (M := model prog w) X I hf
  have sb : Looks (model prog w) hp (isInstance (.ref x) (.type "BaseException")) true := l0.andThen (looks_subIn X T.hs)
  have n0 : (false && onTheHeap (Value.builtin "BaseException.__getattribute__")) = false := rfl
  have n2 : (Value.builtin "BaseException.__getattribute__" == Value.builtin "object.__getattribute__") = false := by decide +kernel
  have n1 : (onTheHeap (Value.ref D) && Value.builtin "BaseException.__getattribute__" == Value.builtin "object.__getattribute__") = false := by rw [n2]; rfl
  unfold getAttr? getAttrBy? getAttrBy
  refine wpAny_bind (wpAny_mkText (wpAny_bind (wpAny_attempt (wpAny_holding (wpAny_bind (l0.at (wpAny_bind (l1.at ?_))))))))
  show wpAny _ _ (if (onTheHeap (Value.ref D) && Value.builtin "BaseException.__getattribute__" == Value.builtin "object.__getattribute__") = true then _ else _) _ _ _
  rw [n1, if_neg Bool.false_ne_true]
  unfold getAttrByItsOwn hookBefore
  refine wpAny_bind ?_
  rw [if_pos (show onTheHeap (Value.ref D) = true from rfl)]
  refine l2.at ?_
  refine wpAny_bind (wpAny_attempt (wpAny_holding ?_))
  unfold callGetattribute
  rw [n0, if_neg Bool.false_ne_true]
  unfold boundAndCalled
  rw [PySem.F.excAttr_ValueError.ga.bind (.ref x)]
  refine wpAny_bind (wpAny_pure ?_)
  show wpAny _ _ (call (.builtin "BaseException.__getattribute__") [.ref x, .str "__class__" t]) _ _ _
  refine wpAny_call (codeAny_call_builtin PySem.F.excAttr_ValueError.ga.plain PySem.F.entry_bexc_ga ?_)
  refine @check_slot (model prog w) _ _ ⟨hp, g, d, t + 1, os⟩ "BaseException.__getattribute__" "BaseException" "__getattribute__" (.ref x) [.str "__class__" t] [] _ (by decide +kernel) (by decide +kernel) sb (PySem.F.args_bexc_ga (.ref x) (.str "__class__" t)) ?_
  unfold Builtin.«object.__getattribute__»
  refine wpAny_bind (wpAny_of_eq (a := ((Value.ref x : Value), [Value.str "__class__" t])) (by first | rfl | (simp only [slotArgs]; rfl)) ?_)
  refine wpAny_bind (wpAny_pure (wpAny_bind (l0.at (wpAny_bind (l3.at ?_)))))
  show wpAny _ _ (holding [Value.builtin "object.__class__"] (call (.builtin "getset_descriptor.__get__") [.builtin "object.__class__", .ref x, .ref D]) >>= ret) _ _ _
  refine wpAny_bind (wpAny_holding (wpAny_call (class_get (s := ⟨hp, g, d, t + 1, os⟩) (ox := ox) (od := od) X I T.hm ?_)))
  refine wpAny_pure ?_
  show wpAny _ _ (handedOut (.ref D)) _ _ _
  rw [handedOut_of (v := .ref D) rfl]
  first
    | exact wpAny_pure h
    | exact wpAny_pure (wpAny_pure h)
    | exact wpAny_pure (wpAny_bind (wpAny_pure (wpAny_pure h)))
theorem lc_kitx (T : L2.ExcC K D) : KitX K (.ref x) (.ref D) (fun h => InstAt h x ox D od) where
  ty := fun _ _ _ I => I.type
  it := fun _ _ X _ => by
    obtain ⟨cd, h1, _⟩ := any_some T.hd
    unfold clsIn at h1
    split at h1
    · rename_i ho
      intro A' Q' E' s' k q
      unfold isType loadHead
      exact wpAny_bind (wpAny_loadPart (k _ _ (X _ _ ho)) (wpAny_pure q))
    · cases h1
  ne := fun h tp dd its n sl X htp => by
    obtain ⟨cd, h1, _⟩ := any_some T.hd
    refine Bool.eq_false_iff.mpr fun q => ?_
    have e : D = tp := Value.ref.inj (beq_iff_eq.mp q)
    subst e
    unfold clsIn at h1
    split at h1
    · rename_i ho
      have z := (X _ _ ho).symm.trans htp
      cases z
    · cases h1
  ca := fun X I k => lc_class T X I k
end
end PySem.W
namespace Lc
open PySem L2
/-- isinstance of the caught one, its dict there -/
theorem call_isX {X : Cx} {a D dd : Addr} {oe : Obj} {pn : List (Addr × Obj)} (T : ExcC X.K D) (hz : Zc (.ref D) (some dd) oe) (hf : ∃ vs, oe.data = .fields vs) :
    CallR (X.suite a ((a, oe) :: pn)) (.builtin "isinstance") (fun xs H Q => ∃ (c : V) (cv : Value) (b : Bool) (fs : List (Str × V)), xs = [.ref a, c] ∧ (∀ u, RelV c u → u = cv) ∧ H dd = some (.xd fs) ∧ PySem.W.kitOne X.K (.ref D) cv = some b ∧ Q (.bl b) H) := by
  intro pins s σ H xs us Q I r h
  obtain ⟨c, cv, b, fs, rfl, hcv, hx, e, q⟩ := h
  cases r with
  | cons rx rr =>
    cases rr with
    | cons rt rr =>
      cases rr
      cases rx
      have ec := hcv _ rt
      subst ec
      obtain ⟨hget, _⟩ := I.pin (a, oe) (List.mem_append.mpr (.inl List.mem_cons_self))
      obtain ⟨vs, hv⟩ := hf
      have ho : ObjOk X.prog X.w H s.heap dd (.xd fs) := I.hok dd _ hx
      obtain ⟨mA, hns, _⟩ := ho
      obtain ⟨od, hod, _⟩ := lookIn_ns hns
      have J : PySem.W.InstAt s.heap a oe D (some od) := ⟨hget, hz.1, by unfold PySem.W.notCls; rw [hv] <;> rfl, by rw [hz.2]; exact hod⟩
      exact PySem.W.kia_one (PySem.W.lc_kitx T) I.kIn J e (fun z => nomatch z) fun tk => ⟨.bl b, H, I.kept (t' := tk) fun _ _ z => z, rfl, q⟩

section
variable {A : Act} {W : Wx} {X : Cx} {a dd : Addr} {oe : Obj} {k : Nat} {pn : List (Addr × Obj)}
/-- the field of the caught one -/
def eXf (ok : Nat → Bool) (f : Str) (m : Ctx → ER) : Ctx → ER := fun c => match m c with
  | .ok (.t (.exn k n x)) c1 => if ok k && n == f && noBor x && Lc.noOwn x then .ok (.t x) c1 else .bad
  | .ok _ _ => .bad
  | .exc k n x c1 => .exc k n x c1
  | .bad => .bad
theorem PE_xf {e : Expr} {f : Str} {ok : Nat → Bool} {m : Ctx → ER} {pos : Pos} (hA : A.g.ex = exAt k a dd) (hz : Zc (.ref (A.g.G k)) (some dd) oe) (hf : ∃ vs, oe.data = .fields vs)
    (hok : ok k = true → XfC X.K (A.g.G k) ∧ PySem.W.findIn X.K (.ref (A.g.G k)) f = some none)
    (he : PE (X.suite a ((a, oe) :: pn)) e (tE A W m)) (hb : attributeBase e f X.env (eval e X.env) = eval e X.env := by rfl) : PE (X.suite a ((a, oe) :: pn)) (.Attribute e f pos) (tE A W (eXf ok f m)) := by
  by_cases hk : ok k = true
  · obtain ⟨T, hno⟩ := hok hk
    refine PE.imp (pe_xf (cls := .ref (A.g.G k)) (d := some dd) T hno hz hf he hb) fun σ H Q ⟨I, c, ts, O, lk, S, h⟩ => ?_
    refine ⟨I, c, ts, O, lk, S, ?_⟩
    rw [eXf] at h
    cases e1 : m c with
    | bad => rw [e1] at h; exact h
    | exc k n x c1 => rw [e1] at h; exact h
    | ok ev c1 =>
      rw [e1] at h
      cases ev with
      | pl r p => exact h.elim
      | t d =>
        cases d with
        | exn k' n x =>
          dsimp only at h ⊢
          intro v I1 H1 O1 S1
          by_cases hc : (ok k' && n == f && noBor x && Lc.noOwn x) = true
          · rw [if_pos hc] at h
            rw [Bool.and_eq_true, Bool.and_eq_true, Bool.and_eq_true] at hc
            obtain ⟨⟨⟨c1', c2⟩, c3⟩, c4⟩ := hc
            have rv := S1.last.nil (by rw [Lc.noOwn])
            rw [R, hA] at rv
            obtain ⟨a', d', w, rfl, _, ⟨rfl, rfl, rfl⟩, i1, rx⟩ := rv
            have en : n = f := by simpa using c2
            subst en
            refine ⟨rfl, rfl, d', [(n, w)], w, rfl, S1.ih _ _ i1, by simp [List.lookup], ?_⟩
            have S2 := Sat.pop (xs := [(D.exn k' n x, V.ref a')]) S1
            exact h w I1 H1 O1 (S2.push (R.keep x rx (leH.refl _) (noH_le _) fun a ha => by cases ha))
          · rw [if_neg hc] at h
            exact h.elim
        | _ => exact h.elim
  · -- never well
    refine ⟨fun pins s σ H Q I ⟨I0, c, ts, O, lk, S, h⟩ => ?_⟩
    refine attr_of hb (thn (he.run pins s σ H (fun _ _ => False) I ⟨I0, c, ts, O, lk, S, ?_⟩) fun u s1 ⟨x, H1, I1, rx, q⟩ => q.elim)
    rw [eXf] at h
    cases e1 : m c with
    | bad => rw [e1] at h; exact h
    | exc k n x c1 => rw [e1] at h; exact h
    | ok ev c1 =>
      rw [e1] at h
      cases ev with
      | pl r p => exact h.elim
      | t d =>
        cases d with
        | exn k' n x =>
          dsimp only at h ⊢
          intro v I1 H1 O1 S1
          have rv := S1.last.nil (by rw [Lc.noOwn])
          rw [R, hA] at rv
          obtain ⟨a', d', w, _, _, ⟨rfl, _, _⟩, _⟩ := rv
          have : ok k' = false := by simpa using hk
          rw [this] at h
          exact h.elim
        | _ => exact h.elim
/-- isinstance(e, C), e the caught one -/
def eXi (tab : Nat → Option Bool) (m : Ctx → ER) : Ctx → ER := fun c => match m c with
  | .ok (.t (.exn k _ _)) c1 => match tab k with
    | some b => .ok (.t (.bl b)) c1
    | none => .bad
  | .ok _ _ => .bad
  | .exc k n x c1 => .exc k n x c1
  | .bad => .bad
theorem PE_xi {e ce : Expr} {tab : Nat → Option Bool} {m : Ctx → ER} {cx : V} {cv : Value} {p pos : Pos} (hA : A.g.ex = exAt k a dd) (hz : Zc (.ref (A.g.G k)) (some dd) oe) (hf : ∃ vs, oe.data = .fields vs)
    (hT : ∀ b, tab k = some b → ExcC X.K (A.g.G k) ∧ PySem.W.kitOne X.K (.ref (A.g.G k)) cv = some b) (hcx : ∀ u, RelV cx u → u = cv) (he : PE (X.suite a ((a, oe) :: pn)) e (tE A W m)) (hce : PE (X.suite a ((a, oe) :: pn)) ce (tC cx))
    (hg : Gl X "isinstance") (hm : X.mg "isinstance" = none) (hs1 : starEach (e :: [ce]) X.env = (false, eval e X.env) :: starEach [ce] X.env := by rfl) (hs2 : starEach (ce :: []) X.env = (false, eval ce X.env) :: starEach [] X.env := by rfl) (hpl : (backTo pos (starEach [ce] X.env)).any (·.1) = false := by rfl) :
    PE (X.suite a ((a, oe) :: pn)) (.Call (.Name "isinstance" p) [e, ce] [] pos) (tE A W (eXi tab m)) := by
  have ha : PA (X.suite a ((a, oe) :: pn)) [e, ce] (tCons (tE A W m) (tCons (tC cx) tNil)) := pa_cons he (pa_cons hce pa_nil hs2) hs1
  cases hk : tab k with
  | some b =>
    obtain ⟨T, hkit⟩ := hT b hk
    refine PE.imp (pe_callB (X := X.suite a ((a, oe) :: pn)) (call_isX T hz hf) hg hm (by decide +kernel) ha (he := hs1) (hpl := hpl)) fun σ H Q ⟨I, c, ts, O, lk, S, h⟩ => ?_
    refine ⟨I, c, ts, O, lk, S, ?_⟩
    rw [eXi] at h
    cases e1 : m c with
    | bad => rw [e1] at h; exact h
    | exc k n x c1 => rw [e1] at h; exact h
    | ok ev c1 =>
      rw [e1] at h
      cases ev with
      | pl r p => exact h.elim
      | t d =>
        cases d with
        | exn k' n x =>
          dsimp only at h ⊢
          intro v I1 H1 O1 S1
          have rv := S1.last.nil (by rw [Lc.noOwn])
          rw [R, hA] at rv
          obtain ⟨a', d', w, rfl, _, ⟨rfl, rfl, rfl⟩, i1, rx⟩ := rv
          rw [hk] at h
          have S2 := Sat.pop (xs := [(D.exn k' n x, V.ref a')]) S1
          exact ⟨cx, cv, b, [(n, w)], rfl, hcx, S1.ih _ _ i1, hkit, h _ I1 H1 O1 (S2.push (by rw [R]; exact ⟨rfl, rfl⟩))⟩
        | _ => exact h.elim
  | none =>
    refine PE.imp (pe_callB (X := X.suite a ((a, oe) :: pn)) (id := "isinstance") (r := fun _ _ _ => False) (fun pins s σ H xs us Q I r h => h.elim) hg hm (by decide +kernel) ha (he := hs1) (hpl := hpl)) fun σ H Q ⟨I, c, ts, O, lk, S, h⟩ => ?_
    refine ⟨I, c, ts, O, lk, S, ?_⟩
    rw [eXi] at h
    cases e1 : m c with
    | bad => rw [e1] at h; exact h
    | exc k n x c1 => rw [e1] at h; exact h
    | ok ev c1 =>
      rw [e1] at h
      cases ev with
      | pl r p => exact h.elim
      | t d =>
        cases d with
        | exn k' n x =>
          dsimp only at h ⊢
          intro v I1 H1 O1 S1
          have rv := S1.last.nil (by rw [Lc.noOwn])
          rw [R, hA] at rv
          obtain ⟨a', d', w, _, _, ⟨rfl, _, _⟩, _⟩ := rv
          rw [hk] at h
          exact h.elim
        | _ => exact h.elim
end
end Lc
end
section
set_option Elab.async false
set_option linter.all false
set_option maxRecDepth 100000
set_option maxHeartbeats 1000000
namespace Lc
open PySem L2
open PyProof.Rows (envOfC)

/-! ### defs that may be called where an exception is handled, too -/
structure FnW (P : Program) (w : World) (K : PySem.W.Frag) (mg : Str → Option Value) (base : Heap) (cx : CXT) (k : Nat) (f : Addr) (fd : FuncData) (ps : List Str) (sp : Sp) : Prop where
  len : ∀ vs H Q E, sp vs H Q E → vs.length = ps.length
  run : ∀ (A : Around) (out : List Env) (s : Shared) (H : Hp) (args : Args) (us : List Value) (vs : List V) (Q : VK) (E : XK), L2H.RoomH k A → Env0 P w K mg base A out s H → BindsTo s fd args (ps.zip us) → Vals vs us → sp vs H Q E →
    codeAny (model P w) A (.call (.ref f) args) (CR cx out P w H s Q E) s
theorem FnW.ok {P : Program} {w : World} {K : PySem.W.Frag} {mg : Str → Option Value} {base : Heap} {cx : CXT} {k : Nat} {f : Addr} {fd : FuncData} {ps : List Str} {sp : Sp} (F : FnW P w K mg base cx k f fd ps sp) : FnOk P w K mg base cx k f fd ps sp :=
  ⟨F.len, fun A out s H args us vs Q E hr => F.run A out s H args us vs Q E ⟨hr.dp, hr.un⟩⟩
theorem fnW_of {cx : CXT} {P : Program} {w : World} {K : PySem.W.Frag} {mg : Str → Option Value} {base : Heap} {k : Nat} {f : Addr} {name qual : Str} {params : Arguments} {body : List Stmt} {scope : Scope} {dV kV doc pm cdv ct oc : Value} {an od : Option Addr}
    {osl : Array (Option Value)} {N ps : List Str} {sp : Sp} (lk : K.lookup f = some ⟨oc, od, .func (PySem.W.fnOf name qual params body scope dV kV doc pm an cdv ct), osl⟩) (cd : PySem.W.codeIn K cdv qual = true) (S : FnScope N ps scope)
    (len : ∀ vs H Q E, sp vs H Q E → vs.length = ps.length)
    (hb : ∀ (A : Around) (out : List Env) (s : Shared) (H : Hp) (vs : List V) (Q : VK) (E : XK) (p : Addr × Obj), L2H.RoomH k (A.deeper (envOfC qual scope s.heap.objs.size f cdv)) → sp vs H Q E →
      ∃ t, PSs (L2H.cxH cx P w K mg base N qual scope f cdv A out s H E p) body t ∧ t { nx := fun _ H' => Q .non H', rt := Q } (L2.start N vs) H) :
    FnW P w K mg base cx (k + 1) f (PySem.W.fnOf name qual params body scope dV kV doc pm an cdv ct) ps sp := by
  refine ⟨len, fun A out s H args us vs Q E hr e0 bt r q0 => ?_⟩
  have n1 := len _ _ _ _ q0
  have kb : K.In s.heap := e0.mod.kin.keeps fun b o e => (e0.bs b o e).1
  have nl : s.heap.NoLimit := e0.mod.nolimit.keeps fun b o e => (e0.bs b o e).1
  have kd : ∀ y ∈ ps.zip us, scope.names.lookup y.1 = some .local ∨ (scope.names.lookup y.1 = some .cell ∧ ((cellsFrom (s.heap.objs.size + 1) scope.names []).lookup y.1).isSome = true) := fun y hy => by
    rcases S.par y.1 (List.of_mem_zip hy).1 with q | q
    · exact .inl q
    · exact .inr ⟨q, PySem.W.cellsFrom_some _ _ _ (.inl q)⟩
  have fb := e0.mod.kin _ _ lk
  obtain ⟨fg, fn⟩ := e0.bs _ _ fb
  have pin : L2H.PinOk out H s (f, ⟨oc, od, .func (PySem.W.fnOf name qual params body scope dV kV doc pm an cdv ct), osl⟩) := ⟨fg, fn, fun hm => (by
    have := (e0.funs.mem hm).1
    rw [fb] at this
    cases this), fun v z => by cases z⟩
  refine codeAny_call_function hr.depth (kb _ _ lk) rfl S.co S.gen rfl (PySem.W.codeRec_of kb cd) (bt _ _ _ _ ?_)
  refine wpAny_newFunctionEnv_cells S.kind kd fun env he s1 x => ?_
  subst he
  refine ⟨nl.keeps x.toInCall.keep, codeAny_func ?_⟩
  obtain ⟨t, ht, hq⟩ := hb A out s H vs Q E _ (hr.deeper _) q0
  have I := L2H.inv_startH (CX := cx) (E := E) S pin e0 n1 r x
  refine wpAny_mono (ht.run [] s1 (L2.start N vs) H _ I hq) (fun fl s' hs => ?_) fun e s' hs => hs
  cases fl with
  | ret u =>
    obtain ⟨v, σ', H', J, rv, q⟩ := hs
    exact ⟨v, H', J.os, J.bare, J.base, J.hok, rv, q⟩
  | next =>
    obtain ⟨σ', H', J, q⟩ := hs
    exact ⟨.non, H', J.os, J.bare, J.base, J.hok, rfl, q⟩
  | brk =>
    obtain ⟨_, _, _, q⟩ := hs
    exact False.elim q
  | cont =>
    obtain ⟨_, _, _, q⟩ := hs
    exact False.elim q
section
variable {P : Program} {w : World} {K : PySem.W.Frag} {mg : Str → Option Value} {base : Heap} {G : Nat → Addr}
/-- a def keeps its promise wherever it is called -/
theorem fnw_ok {x qual : Str} {st : Stmt} {f : Addr} {fd : FuncData} {N ps : List Str} {k nl : Nat} {ms : List Bool} {body : Ctx → SR} (F : Fun K x qual st f fd) (S : FnScope N ps (defScope st)) (hm : ms.length = ps.length) (hn : N.length = ps.length + nl)
    (hb : ∀ (cdv : Value) (A : Around) (outer : List Env) (s : Shared) (H : Hp) (E : XK) (p : Addr × Obj), L2H.RoomH k (A.deeper (envOfC qual (defScope st) s.heap.objs.size f cdv)) → ∀ Ac : Act, Ac.g.G = G → Ac.g.K = K →
      PSs (L2H.cxH (L2.CX P w) P w K mg base N qual (defScope st) f cdv A outer s H E p) (defBody st) (tS Ac (fun cls d _ H => E cls d H) body)) : FnW P w K mg base (L2.CX P w) (k + 1) f fd ps (spF G K ms nl body) := by
  obtain ⟨oc, od, kV, doc, pm, an, cdv, ct, osl, rfl, lk, hcd⟩ := F.ex
  refine fnW_of lk hcd S (fun vs H Q E h => h.1.trans hm) fun A outer s H vs Q E p hr h => ?_
  obtain ⟨hl, Ac, I, O, ds, hg, hg2, hd, Sa, h⟩ := h
  refine ⟨_, hb cdv A outer s H E p hr Ac hg hg2, ?_⟩
  have hst : L2.start N vs = vs.map some ++ List.replicate nl none := by
    rw [L2.start]
    congr 2
    omega
  rw [hst]
  refine ⟨I, initC ms nl ds, O, _, Sa, ?_⟩
  cases e : body (initC ms nl ds) with
  | bad => rw [e] at h; exact h
  | bk c3 => rw [e] at h; exact h.elim
  | ct c3 => rw [e] at h; exact h.elim
  | nx c3 => rw [e] at h; exact h
  | rt d c3 => rw [e] at h; exact h
  | exc k n x c3 => rw [e] at h; exact h
end
section
variable {A : Act} {W : Wx} {X : Cx}
variable {G : Nat → Addr} {f : Addr} {fd : FuncData} {ps : List Str} {ms : List Bool} {nl k : Nat} {body : Ctx → SR} {Φ : List D → FR} {x : Str} {pos pos' : Pos} {e : Expr} {es : List Expr} {args : List (Ctx → ER)} {dds : List D} {dvs : List V} {dvals : List Value}
theorem run_fnW {sp : Sp} {E : L2.St → XK} {σ : L2.St} {H : Hp} {s : Shared} {Q : VK} {pins : List (Addr × Obj)} {us : List Value} {vs : List V} (F : FnW X.prog X.w X.K X.mg X.base (L2.CX X.prog X.w) k f fd ps sp) (hr : L2H.RoomH k X.A) (hb : Binds X.K fd ps dvals) (hd : Vals dvs dvals) (hx : PassesAt (L2.CX X.prog X.w) X σ (E σ))
    (I : Inv X pins σ H s) (r : Vals vs us) (h : sp (vs ++ dvs) H Q (E σ)) : wpAny (model X.prog X.w) X.A (call (.ref f) us) (EP X pins σ Q) X.xe s := by
  have r2 := r.append hd
  have hl : (us ++ dvals).length = ps.length := by rw [← r2.length]; exact F.len _ _ _ _ h
  refine wpAny_call (codeAny_mono (F.run X.A X.stack s H ⟨us, []⟩ (us ++ dvals) (vs ++ dvs) Q (E σ) hr I.env0 (hb s us I.kIn hl) r2 h) fun r s' hq => ?_)
  cases r with
  | error er => exact hx pins H s er s' I hq
  | ok fl =>
    cases fl with
    | ret u => exact I.after hq
    | next => exact hq.elim
    | brk => exact hq.elim
    | cont => exact hq.elim
theorem PE_callW (F : FnW X.prog X.w X.K X.mg X.base (L2.CX X.prog X.w) k f fd ps (spF G X.K ms nl body)) (o : On X A.g) (hG : A.g.G = G) (hΦ : Φ = runF ms nl body) (hr : L2H.RoomH k X.A) (hg : Gl X x) (hm : X.mg x = some (.ref f)) (hk : PySem.W.keepIn X.K (.ref f) = true) (hb : Binds X.K fd ps dvals) (hd : Vals dvs dvals) (hdv : Dv A.g dds dvs)
    (tk : Takes X W) (ha : PA X (e :: es) (tA' A W (eArgs args))) (hdb : (x == ("__debug__" : Str)) = false := by decide) (he : starEach (e :: es) X.env = (false, eval e X.env) :: starEach es X.env := by rfl) (hpl : (backTo pos (starEach es X.env)).any (·.1) = false := by rfl) :
    PE X (.Call (.Name x pos') (e :: es) [] pos) (tE A W (eCall ms Φ args dds)) := by
  subst hΦ
  subst hG
  have F : FnW X.prog X.w X.K X.mg X.base (L2.CX X.prog X.w) k f fd ps (spF A.g.G A.g.K ms nl body) := by
    rw [o.k]
    exact F
  refine PE.imp (t := tCallSD (spF A.g.G A.g.K ms nl body) dvs (WE W) (tA' A W (eArgs args))) ⟨fun pins s σ H Q I h => ?_⟩ (tE_call hdv)
  refine wpAny_Call_Name_kw (ld_glob I hg hm ?_ hdb)
  refine PySem.W.callWith_K (h₀ := X.base) I.ok.mod.kin hk (thn (ha.run pos pins s σ H _ I h) fun us s1 ⟨vs, H1, I1, r, q⟩ => ⟨I1.kIn, ?_⟩) he hpl
  exact run_fnW F hr hb hd (passAt tk σ) I1 r q
end
end Lc
end
section
set_option Elab.async false
set_option linter.all false
set_option maxRecDepth 100000
set_option maxHeartbeats 1000000
namespace Lc
open PySem L2

/-! ### the end: the law's def at the script -/
def scrD (ns : List Int) : D := .nd .scr .bor (ns.map D.int)
theorem borL_ints : ∀ ns : List Int, borL (ns.map D.int) = ns.map D.int
  | [] => by rw [List.map_nil, borL]
  | n :: ns => by rw [List.map_cons, borL, borL_ints ns, bor]
theorem RL_ints {g : Gs} {I B H : Hp} : ∀ ns : List Int, RL g I B H (ns.map D.int) (ns.map V.int) []
  | [] => by rw [List.map_nil, List.map_nil, RL]; exact ⟨rfl, rfl⟩
  | n :: ns => by
    rw [List.map_cons, List.map_cons, RL]
    exact ⟨.int n, ns.map V.int, [], [], rfl, rfl, by rw [R]; exact ⟨rfl, rfl⟩, RL_ints ns⟩
theorem law_sp {G : Nat → Addr} {K : PySem.W.Frag} {nl : Nat} {body : Ctx → SR} {ns : List Int} {H : Hp} {a : Addr} {os : List D} (h : runF [false] nl body [scrD ns] = .ret (.bl true) os) (hs : SqL K H a (ns.map V.int)) :
    spF G K [false] nl body [.ref a] H (fun v _ => v = .bl true) fun _ _ _ => False := by
  refine ⟨rfl, ⟨⟨K, G, fun _ _ _ => False⟩, H, noH⟩, noH, fun _ => none, [scrD ns], rfl, rfl, rfl, ?_, ?_⟩
  · refine ⟨noH_le _, leH.refl _, leH.refl _, fun a o e => (by cases e), by simp [initC, inits], fun i d e => ?_, fun i r p e => ?_, fun j d v e => by simp at e, fun r p v e => by simp [lkV] at e, rfl, fun a w e => by cases e⟩
    · cases i with
      | zero =>
        have e : Sl.v (bor (scrD ns)) = .v d := by simpa [initC, inits] using e
        cases e
        have eb : bor (scrD ns) = scrD ns := by
          unfold scrD
          rw [bor]
          · rw [borL_ints]
          all_goals (intro _ _ z; cases z)
        refine ⟨.ref a, rfl, RO.leaf ?_⟩
        rw [eb, scrD, R]
        exact ⟨a, ns.map V.int, rfl, rfl, hs, RL_ints ns⟩
      | succ i =>
        have e : (List.replicate nl Sl.no)[i]? = some (.v d) := by simpa [initC, inits] using e
        have := List.mem_of_getElem? e
        rw [List.mem_replicate] at this
        cases this.2
    · cases i with
      | zero => simp [initC, inits] at e
      | succ i =>
        have e : (List.replicate nl Sl.no)[i]? = some (.al r p) := by simpa [initC, inits] using e
        have := List.mem_of_getElem? e
        rw [List.mem_replicate] at this
        cases this.2
  · rw [runF, if_pos (show [scrD ns].length = [false].length from rfl)] at h
    cases e : body (initC [false] nl [scrD ns]) with
    | bad => rw [e] at h; cases h
    | bk c => rw [e] at h; cases h
    | ct c => rw [e] at h; cases h
    | nx c =>
      rw [e] at h
      dsimp only at h
      split at h <;> cases h
    | exc k n x c =>
      rw [e] at h
      dsimp only at h
      split at h <;> cases h
    | rt d c =>
      rw [e] at h
      dsimp only at h ⊢
      intro v σ' I' H' O' S
      have ed : d = .bl true := by
        cases eo : outs [false] c.s with
        | none => rw [eo] at h; cases h
        | some o2 =>
          rw [eo] at h
          dsimp only at h
          by_cases nb : noBor d = true
          · rw [if_pos nb] at h
            exact (FR.ret.inj h).1
          · rw [if_neg nb] at h
            cases h
      subst ed
      obtain ⟨fp, rr, _⟩ := S.tmps 0 (.bl true) v (by simp)
      rw [R] at rr
      exact rr.1
end Lc
end
section
set_option Elab.async false
set_option linter.all false
set_option maxRecDepth 100000
set_option maxHeartbeats 1000000
namespace Lc
open PySem L2
open PySem.W (dataLt_str minD dataLt min_list_data AlikeAll)

/-! ### min(xs), a list of texts -/
def minS (x : List Nat) (xs : List (List Nat)) : List Nat := xs.foldl (fun a y => if y < a then y else a) x
theorem minD_strs : ∀ (xs : List (List Nat)) (x : List Nat), minD (.str (strL x)) (xs.map fun y => .str (strL y)) = .str (strL (minS x xs))
  | [], _ => rfl
  | y :: ys, x => by
    have e : dataLt (.str (strL y)) (.str (strL x)) = decide (y < x) := by
      rw [dataLt_str]
      exact decide_eq_decide.mpr (by simp only [strL])
    have step : minD (.str (strL x)) ((y :: ys).map fun y => .str (strL y)) = minD (if dataLt (.str (strL y)) (.str (strL x)) then .str (strL y) else .str (strL x)) (ys.map fun y => .str (strL y)) := rfl
    rw [step, e]
    have step2 : minS x (y :: ys) = minS (if y < x then y else x) ys := rfl
    rw [step2]
    by_cases h : y < x
    · rw [decide_eq_true h, if_pos rfl, if_pos h]
      exact minD_strs ys y
    · rw [decide_eq_false h, if_neg (by decide), if_neg h]
      exact minD_strs ys x
theorem reads_strs {h : Heap} : ∀ {ss : List (List Nat)} {us : List Value}, Vals ((ss.map strL).map V.str) us → ReadsAll h us (ss.map fun y => PyData.str (strL y)) []
  | [], us, r => by
    cases r
    exact .nil
  | s :: ss, us, r => by
    cases r with
    | cons r1 r2 =>
      obtain ⟨t, rfl⟩ := r1
      exact .cons (.str _ t) (reads_strs r2)
theorem depth_strs : ∀ ss : List (List Nat), PyData.depthAll (ss.map fun y => PyData.str (strL y)) ≤ 1
  | [] => by simp [PyData.depthAll]
  | s :: ss => by
    have := depth_strs ss
    simp only [List.map_cons, PyData.depthAll, PyData.depth]
    omega
def rMinS (K : PySem.W.Frag) : List V → Hp → VK → Prop := fun vs H Q => ∃ (a : Addr) (s : List Nat) (ss : List (List Nat)), vs = [V.ref a] ∧ SqL K H a (((s :: ss).map strL).map V.str) ∧ Q (.str (strL (minS s ss))) H
theorem cr_minS {X : Cx} (hc : X.calm = true) (hu : X.A.units + 64 < cLine) : CallR X (.builtin "min") (rMinS X.K) := by
  intro pins st σ H vs us Q I r h
  obtain ⟨a, s, ss, rfl, hs, q⟩ := h
  obtain ⟨its, rv, hl, _⟩ := I.list hs
  rw [Vals.ref1 r]
  have hr := reads_strs (h := st.heap) rv
  refine min_list_data (xs := ss.map fun y => PyData.str (strL y)) (I.ok.hd hc) hl.isList (by rw [List.toList_toArray]; exact hr) ⟨fun x hx y hy => ?_, fun x hx z => ?_⟩ ?_ fun i v h' tk bs hv rd k => ?_
  · obtain ⟨x', _, rfl⟩ := List.mem_map.mp (show x ∈ (s :: ss).map (fun y => PyData.str (strL y)) from hx)
    obtain ⟨y', _, rfl⟩ := List.mem_map.mp (show y ∈ (s :: ss).map (fun y => PyData.str (strL y)) from hy)
    rfl
  · obtain ⟨x', _, rfl⟩ := List.mem_map.mp (show x ∈ (s :: ss).map (fun y => PyData.str (strL y)) from hx)
    cases z
  · have := depth_strs (s :: ss)
    have this : PyData.depthAll ((fun y => PyData.str (strL y)) s :: List.map (fun y => PyData.str (strL y)) ss) ≤ 1 := this
    omega
  · rw [minD_strs] at rd
    cases rd with
    | str x t => exact ⟨.str _, H, I.kept k, ⟨t, rfl⟩, q⟩
section
variable {A : Act} {W : Wx} {X : Cx}
def fMinS : List D → Option D
  | [d] => match listOf d with
    | some xs => match strsOf xs with
      | some (s :: ss) => some (.str (minS s ss))
      | _ => none
    | none => none
  | _ => none
theorem os_minS : OpS A fMinS (rMinS A.g.K) := fun I H ds vs Q d ih bh P e q => by
  unfold fMinS at e
  split at e
  · rename_i d0
    obtain ⟨x, rfl, h1⟩ := Paired.one P
    cases e1 : listOf d0 with
    | none => rw [e1] at e; cases e
    | some xs =>
      rw [e1] at e
      dsimp only at e
      cases e2 : strsOf xs with
      | none => rw [e2] at e; cases e
      | some ss =>
        rw [e2] at e
        cases ss with
        | nil => cases e
        | cons s ss =>
          cases e
          obtain ⟨p, us, rfl, hp, fp, hr⟩ := h1.list ih bh e1
          obtain ⟨rfl, _⟩ := strsOf_vs e2 hr
          exact ⟨p, s, ss, rfl, hp, q _ _ _ .str⟩
  · cases e
/-- the rules of min and max together -/
abbrev fMin : List D → Option D := fOr fMin2 (fOr fMinL fMinS)
abbrev fMax : List D → Option D := fOr fMax2 fMaxL
theorem PE_min {p pos : Pos} {e : Expr} {es : List Expr} {ms : List (Ctx → ER)} (o : On X A.g) (hc : X.calm = true) (hg : Gl X "min") (hm : X.mg "min" = none) (ha : PA X (e :: es) (tA' A W (eArgs ms)))
    (he : starEach (e :: es) X.env = (false, eval e X.env) :: starEach es X.env := by rfl) (hpl : (backTo pos (starEach es X.env)).any (·.1) = false := by rfl) : PE X (.Call (.Name "min" p) (e :: es) [] pos) (tE A W (eOp fMin ms)) :=
  PE_callB (id := "min") (CallR.or (call_min2 hc) (CallR.or (o.k ▸ cr_min hc) (o.k ▸ cr_minS hc o.u0))) (OpS.or os_min2 (OpS.or os_minL os_minS)) hg hm (by decide +kernel) ha (he := he) (hpl := hpl)
theorem PE_max {p pos : Pos} {e : Expr} {es : List Expr} {ms : List (Ctx → ER)} (o : On X A.g) (hc : X.calm = true) (hg : Gl X "max") (hm : X.mg "max" = none) (ha : PA X (e :: es) (tA' A W (eArgs ms)))
    (he : starEach (e :: es) X.env = (false, eval e X.env) :: starEach es X.env := by rfl) (hpl : (backTo pos (starEach es X.env)).any (·.1) = false := by rfl) : PE X (.Call (.Name "max" p) (e :: es) [] pos) (tE A W (eOp fMax ms)) :=
  PE_callB (id := "max") (CallR.or (call_max2 hc) (o.k ▸ cr_max hc)) (OpS.or os_max2 os_maxL) hg hm (by decide +kernel) ha (he := he) (hpl := hpl)
theorem PE_sum {p pos : Pos} {e : Expr} {es : List Expr} {ms : List (Ctx → ER)} (o : On X A.g) (hc : X.calm = true) (hg : Gl X "sum") (hm : X.mg "sum" = none) (ha : PA X (e :: es) (tA' A W (eArgs ms)))
    (he : starEach (e :: es) X.env = (false, eval e X.env) :: starEach es X.env := by rfl) (hpl : (backTo pos (starEach es X.env)).any (·.1) = false := by rfl) : PE X (.Call (.Name "sum" p) (e :: es) [] pos) (tE A W (eOp fSum ms)) :=
  PE_callB (id := "sum") (o.k ▸ cr_sum hc) os_sum hg hm (by decide +kernel) ha (he := he) (hpl := hpl)
theorem PE_int' {p pos : Pos} {e : Expr} {es : List Expr} {ms : List (Ctx → ER)} (hg : Gl X "int") (hm : X.mg "int" = none) (ha : PA X (e :: es) (tA' A W (eArgs ms)))
    (he : starEach (e :: es) X.env = (false, eval e X.env) :: starEach es X.env := by rfl) (hpl : (backTo pos (starEach es X.env)).any (·.1) = false := by rfl) : PE X (.Call (.Name "int" p) (e :: es) [] pos) (tE A W (eOp fInt1 ms)) :=
  PE_callTy (T := "int") call_int1 os_int1 hg hm (by decide +kernel) ha (he := he) (hpl := hpl)
theorem PE_isi {p pos : Pos} {e : Expr} {es : List Expr} {ms : List (Ctx → ER)} (o : On X A.g) (hg : Gl X "isinstance") (hm : X.mg "isinstance" = none) (ha : PA X (e :: es) (tA' A W (eArgs ms)))
    (he : starEach (e :: es) X.env = (false, eval e X.env) :: starEach es X.env := by rfl) (hpl : (backTo pos (starEach es X.env)).any (·.1) = false := by rfl) : PE X (.Call (.Name "isinstance" p) (e :: es) [] pos) (tE A W (eOp fIsi ms)) :=
  PE_callB (id := "isinstance") call_isi (os_isi o.k) hg hm (by decide +kernel) ha (he := he) (hpl := hpl)
theorem PE_join {o e : Expr} {apos cpos : Pos} {mo me : Ctx → ER} (o' : On X A.g) (ho : PE X o (tE A W mo)) (ha : PA X [e] (tA' A W (eArgs [me])))
    (hbase : attributeBase o "join" X.env (eval o X.env) = eval o X.env := by rfl)
    (hfew : ((backTo cpos (starEach [e] X.env)).all (fun x => !x.1) && (backToKw cpos (keywordEach [] X.env)).all (fun x => x.1.isSome) && decide ([e].length + ([] : List Keyword).length + (if ([] : List Keyword).isEmpty then 0 else 1) < 30)) = true := by rfl)
    (hline : (apos.endLine == cpos.line) = true := by rfl) (hs : starEach [e] X.env = (false, eval e X.env) :: starEach [] X.env := by rfl) (hplain : (backTo cpos (starEach [] X.env)).any (·.1) = false := by rfl) :
    PE X (.Call (.Attribute o "join" apos) [e] [] cpos) (tE A W (eSM fJoin mo [me])) := PE_sm o' om_join F.slot_str_join F.type_str_join (o'.k ▸ mt_join) ho ha hbase hfew hline hs hplain
theorem PE_index {o e : Expr} {apos cpos : Pos} {mo me : Ctx → ER} (o' : On X A.g) (ho : PE X o (tE A W mo)) (ha : PA X [e] (tA' A W (eArgs [me])))
    (hbase : attributeBase o "index" X.env (eval o X.env) = eval o X.env := by rfl)
    (hfew : ((backTo cpos (starEach [e] X.env)).all (fun x => !x.1) && (backToKw cpos (keywordEach [] X.env)).all (fun x => x.1.isSome) && decide ([e].length + ([] : List Keyword).length + (if ([] : List Keyword).isEmpty then 0 else 1) < 30)) = true := by rfl)
    (hline : (apos.endLine == cpos.line) = true := by rfl) (hs : starEach [e] X.env = (false, eval e X.env) :: starEach [] X.env := by rfl) (hplain : (backTo cpos (starEach [] X.env)).any (·.1) = false := by rfl) :
    PE X (.Call (.Attribute o "index" apos) [e] [] cpos) (tE A W (eSM fIndex mo [me])) := PE_sm o' om_index F.slot_str_index F.type_str_index mt_sindex ho ha hbase hfew hline hs hplain
theorem PE_find {o e : Expr} {apos cpos : Pos} {mo me : Ctx → ER} (o' : On X A.g) (ho : PE X o (tE A W mo)) (ha : PA X [e] (tA' A W (eArgs [me])))
    (hbase : attributeBase o "find" X.env (eval o X.env) = eval o X.env := by rfl)
    (hfew : ((backTo cpos (starEach [e] X.env)).all (fun x => !x.1) && (backToKw cpos (keywordEach [] X.env)).all (fun x => x.1.isSome) && decide ([e].length + ([] : List Keyword).length + (if ([] : List Keyword).isEmpty then 0 else 1) < 30)) = true := by rfl)
    (hline : (apos.endLine == cpos.line) = true := by rfl) (hs : starEach [e] X.env = (false, eval e X.env) :: starEach [] X.env := by rfl) (hplain : (backTo cpos (starEach [] X.env)).any (·.1) = false := by rfl) :
    PE X (.Call (.Attribute o "find" apos) [e] [] cpos) (tE A W (eSM fFind mo [me])) := PE_sm o' om_find F.slot_str_find F.type_str_find mt_find ho ha hbase hfew hline hs hplain
end
end Lc
end
section
set_option Elab.async false
set_option linter.all false
set_option maxRecDepth 100000
set_option maxHeartbeats 1000000
namespace Lc
open PySem L2
open PyProof.Rows (envOfC)

/-! ### defs by name -/
section
variable {P : Program} {w : World} {K : PySem.W.Frag} {mg : Str → Option Value} {base : Heap} {G : Nat → Addr} {x qual : Str} {params : Arguments} {bd : List Stmt} {scope : Scope} {dvs : List V} {kws : List (Str × V)} {f : Addr} {fd : FuncData} {N ps : List Str} {k nl : Nat} {ms : List Bool} {body : Ctx → SR}
theorem start_eq {N ps : List Str} {vs : List V} (hl : vs.length = ps.length) (hn : N.length = ps.length + nl) : L2.start N vs = vs.map some ++ List.replicate nl none := by
  rw [L2.start]
  congr 2
  omega
theorem sp_run {Ac : Act} {I H : Hp} {O : Addr → Option Ow} {ds : List D} {vs : List V} {Q : VK} {E : XK} (Sa : Sat Ac I H (vs.map some ++ List.replicate nl none) (initC ms nl ds) [] O (lkV 0 ms vs))
    (h : match body (initC ms nl ds) with
      | .rt d c' => ∀ v σ' I' H' O', Sat Ac I' H' σ' c' [(d, v)] O' (lkV 0 ms vs) → Q v H'
      | .nx c' => ∀ σ' I' H' O', Sat Ac I' H' σ' c' [] O' (lkV 0 ms vs) → Q .non H'
      | .exc k n x c' => ∀ σ', XP Ac (fun cls d _ H => E cls d H) σ' [] (lkV 0 ms vs) k n x c'
      | _ => False) : tS Ac (fun cls d _ H => E cls d H) body { nx := fun _ H' => Q .non H', rt := Q } (vs.map some ++ List.replicate nl none) H := by
  refine ⟨I, initC ms nl ds, O, _, Sa, ?_⟩
  cases e : body (initC ms nl ds) with
  | bad => rw [e] at h; exact h
  | bk c3 => rw [e] at h; exact h.elim
  | ct c3 => rw [e] at h; exact h.elim
  | nx c3 => rw [e] at h; exact h
  | rt d c3 => rw [e] at h; exact h
  | exc k n x c3 => rw [e] at h; exact h
theorem fnD_ok (F : FunD K x qual params bd scope dvs kws f fd) (S : FnScope N ps scope) (hm : ms.length = ps.length) (hn : N.length = ps.length + nl)
    (hb : ∀ (cdv : Value) (A : Around) (outer : List Env) (s : Shared) (H : Hp) (E : XK), Room k (A.deeper (envOfC qual scope s.heap.objs.size f cdv)) → ∀ Ac : Act, Ac.g.G = G → Ac.g.K = K →
      PSs (cxOf (L2.CX P w) P w K mg base N qual scope f cdv A outer s H E) bd (tS Ac (fun cls d _ H => E cls d H) body)) : FnOk P w K mg base (L2.CX P w) (k + 1) f fd ps (spF G K ms nl body) := by
  refine F.ok S (fun vs H Q E h => h.1.trans hm) fun cdv A outer s H vs Q E hr h => ?_
  obtain ⟨hl, Ac, I, O, ds, hg, hg2, hd, Sa, h⟩ := h
  refine ⟨_, hb cdv A outer s H E hr Ac hg hg2, ?_⟩
  rw [start_eq (hl.trans hm) hn]
  exact sp_run Sa h
theorem fnDW_ok (F : FunD K x qual params bd scope dvs kws f fd) (S : FnScope N ps scope) (hm : ms.length = ps.length) (hn : N.length = ps.length + nl)
    (hb : ∀ (cdv : Value) (A : Around) (outer : List Env) (s : Shared) (H : Hp) (E : XK) (p : Addr × Obj), L2H.RoomH k (A.deeper (envOfC qual scope s.heap.objs.size f cdv)) → ∀ Ac : Act, Ac.g.G = G → Ac.g.K = K →
      PSs (L2H.cxH (L2.CX P w) P w K mg base N qual scope f cdv A outer s H E p) bd (tS Ac (fun cls d _ H => E cls d H) body)) : FnW P w K mg base (L2.CX P w) (k + 1) f fd ps (spF G K ms nl body) := by
  obtain ⟨oc, od, dV, kV, doc, pm, an, cdv, ct, osl, rfl, lk, hcd, _, _⟩ := F.ex
  refine fnW_of lk hcd S (fun vs H Q E h => h.1.trans hm) fun A outer s H vs Q E p hr h => ?_
  obtain ⟨hl, Ac, I, O, ds, hg, hg2, hd, Sa, h⟩ := h
  refine ⟨_, hb cdv A outer s H E p hr Ac hg hg2, ?_⟩
  rw [start_eq (hl.trans hm) hn]
  exact sp_run Sa h
/-- what a call by name needs -/
def Cal (P : Program) (w : World) (K : PySem.W.Frag) (mg : Str → Option Value) (base : Heap) (G : Nat → Addr) (x : Str) (k : Nat) (ps : List Str) (ms : List Bool) (nl : Nat) (body : Ctx → SR) : Prop :=
  ∃ (f : Addr) (fd : FuncData), mg x = some (.ref f) ∧ FnOk P w K mg base (L2.CX P w) k f fd ps (spF G K ms nl body) ∧ PySem.W.keepIn K (.ref f) = true ∧ Binds K fd ps []
def CalW (P : Program) (w : World) (K : PySem.W.Frag) (mg : Str → Option Value) (base : Heap) (G : Nat → Addr) (x : Str) (k : Nat) (ps : List Str) (ms : List Bool) (nl : Nat) (body : Ctx → SR) : Prop :=
  ∃ (f : Addr) (fd : FuncData), mg x = some (.ref f) ∧ FnW P w K mg base (L2.CX P w) k f fd ps (spF G K ms nl body) ∧ PySem.W.keepIn K (.ref f) = true ∧ Binds K fd ps []
theorem CalW.cal (C : CalW P w K mg base G x k ps ms nl body) : Cal P w K mg base G x k ps ms nl body := by
  obtain ⟨f, fd, h1, h2, h3⟩ := C
  exact ⟨f, fd, h1, h2.ok, h3⟩
end
section
variable {A : Act} {W : Wx} {X : Cx} {G : Nat → Addr} {ps : List Str} {ms : List Bool} {nl k j : Nat} {body : Ctx → SR} {Φ : List D → FR} {x : Str} {pos pos' : Pos} {e : Expr} {es : List Expr} {args : List (Ctx → ER)}
theorem PE_cal (C : Cal X.prog X.w X.K X.mg X.base G x k ps ms nl body) (o : On X A.g) (hG : A.g.G = G) (hr : Room j X.A) (tk : Takes X W) (hΦ : Φ = runF ms nl body) (hk : k ≤ j) (hg : Gl X x) (ha : PA X (e :: es) (tA' A W (eArgs args)))
    (hdb : (x == ("__debug__" : Str)) = false := by decide) (he : starEach (e :: es) X.env = (false, eval e X.env) :: starEach es X.env := by rfl) (hpl : (backTo pos (starEach es X.env)).any (·.1) = false := by rfl) :
    PE X (.Call (.Name x pos') (e :: es) [] pos) (tE A W (eCall ms Φ args [])) := by
  obtain ⟨f, fd, h1, h2, h3, h4⟩ := C
  exact PE_call (dvs := []) (dvals := []) h2 o hG hΦ (hr.mono hk) hg h1 h3 h4 .nil .nil tk ha hdb he hpl
theorem PE_calW (C : CalW X.prog X.w X.K X.mg X.base G x k ps ms nl body) (o : On X A.g) (hG : A.g.G = G) (hr : L2H.RoomH j X.A) (tk : Takes X W) (hΦ : Φ = runF ms nl body) (hk : k ≤ j) (hg : Gl X x) (ha : PA X (e :: es) (tA' A W (eArgs args)))
    (hdb : (x == ("__debug__" : Str)) = false := by decide) (he : starEach (e :: es) X.env = (false, eval e X.env) :: starEach es X.env := by rfl) (hpl : (backTo pos (starEach es X.env)).any (·.1) = false := by rfl) :
    PE X (.Call (.Name x pos') (e :: es) [] pos) (tE A W (eCall ms Φ args [])) := by
  obtain ⟨f, fd, h1, h2, h3, h4⟩ := C
  exact PE_callW (dvs := []) (dvals := []) h2 o hG hΦ (hr.mono hk) hg h1 h3 h4 .nil .nil tk ha hdb he hpl
theorem PE_len {p : Pos} {ms : List (Ctx → ER)} (o : On X A.g) (hg : Gl X "len") (hm : X.mg "len" = none) (ha : PA X (e :: es) (tA' A W (eArgs ms)))
    (he : starEach (e :: es) X.env = (false, eval e X.env) :: starEach es X.env := by rfl) (hpl : (backTo pos (starEach es X.env)).any (·.1) = false := by rfl) : PE X (.Call (.Name "len" p) (e :: es) [] pos) (tE A W (eOp fLen ms)) :=
  PE_callB (id := "len") call_len (os_len o.k) hg hm PySem.boot_len ha (he := he) (hpl := hpl)
/-- a module's text -/
theorem PE_gs {z : Str} {l : List Nat} (h : ∃ t, X.mg x = some (.str z t)) (hz : z.cps = l.toArray) (hg : Gl X x) (hd : (x == ("__debug__" : Str)) = false := by decide) : PE X (.Name x pos) (tE A W (eC (.str l))) := by
  obtain ⟨t, h⟩ := h
  obtain ⟨a⟩ := z
  have hz : a = l.toArray := hz
  subst hz
  exact PE_glob (v := .str ⟨l.toArray⟩) hg h ⟨t, rfl⟩ (fun _ _ _ => by rw [R]; exact ⟨rfl, rfl⟩) hd
theorem On.of {P : Program} {w : World} {K : PySem.W.Frag} {mg : Str → Option Value} {base : Heap} {N : List Str} {qual : Str} {scope : Scope} {f : Addr} {cdv : Value} {B : Around} {outer : List Env} {s : Shared} {H : Hp} {E : XK} {k : Nat} (h : A.g.K = K) (hr : Room k (B.deeper (envOfC qual scope s.heap.objs.size f cdv))) :
    On (cxOf (L2.CX P w) P w K mg base N qual scope f cdv B outer s H E) A.g := ⟨h, by have := hr.un; show (B.deeper _).units + 65 < _; omega⟩
theorem On.ofH {P : Program} {w : World} {K : PySem.W.Frag} {mg : Str → Option Value} {base : Heap} {N : List Str} {qual : Str} {scope : Scope} {f : Addr} {cdv : Value} {B : Around} {outer : List Env} {s : Shared} {H : Hp} {E : XK} {p : Addr × Obj} {k : Nat} (h : A.g.K = K) (hr : L2H.RoomH k (B.deeper (envOfC qual scope s.heap.objs.size f cdv))) :
    On (L2H.cxH (L2.CX P w) P w K mg base N qual scope f cdv B outer s H E p) A.g := ⟨h, by have := hr.un; show (B.deeper _).units + 65 < _; omega⟩
end
section
variable {A : Act} {W : Wx} {X : Cx} {a b : Expr} {ma mb : Ctx → ER} {pos : Pos}
theorem PT_eq (o : On X A.g) (ha : PE X a (tE A W ma)) (hb : PE X b (tE A W mb)) : PT X (.Compare a [.Eq] [b] pos) (tT A W (tOfE (eOp fEq [ma, mb]))) := PT_cmp (OpR.or op_eq (op_eqD o.u0)) (OpS.or2 os_eqS (os_eqD o.k)) ha hb (nomark _)
theorem PT_ne (o : On X A.g) (ha : PE X a (tE A W ma)) (hb : PE X b (tE A W mb)) : PT X (.Compare a [.NotEq] [b] pos) (tT A W (tOfE (eOp fNe [ma, mb]))) := PT_cmp (OpR.or op_ne (op_neD o.u0)) (OpS.or2 os_neS (os_neD o.k)) ha hb (nomark _)
theorem PT_in (o : On X A.g) (ha : PE X a (tE A W ma)) (hb : PE X b (tE A W mb)) (hm : behindInMarks .In b = false := by rfl) : PT X (.Compare a [.In] [b] pos) (tT A W (tOfE (eOp fIn [ma, mb]))) := PT_cmp (OpR.or op_in_sign (OpR.or op_in_str (OpR.or op_in_seq (op_inD o.u)))) (OpS.or2 os_inS (OpS.or2 os_inSS (OpS.or2 (os_inF o.k) (os_inD o.k)))) ha hb hm
theorem PT_nin (o : On X A.g) (ha : PE X a (tE A W ma)) (hb : PE X b (tE A W mb)) (hm : behindInMarks .NotIn b = false := by rfl) : PT X (.Compare a [.NotIn] [b] pos) (tT A W (tOfE (eOp fNin [ma, mb]))) := PT_cmp (OpR.or op_notIn_sign (OpR.or op_notin_str (OpR.or op_notIn_seq (op_notInD o.u)))) (OpS.or2 os_nInS (OpS.or2 os_nInSS (OpS.or2 (os_nInF o.k) (os_nInD o.k)))) ha hb hm
theorem PT_lt (ha : PE X a (tE A W ma)) (hb : PE X b (tE A W mb)) : PT X (.Compare a [.Lt] [b] pos) (tT A W (tOfE (eOp fLt [ma, mb]))) := PT_cmp (OpR.or op_lt op_lt_str) osr_lt ha hb (nomark _)
theorem PT_le (ha : PE X a (tE A W ma)) (hb : PE X b (tE A W mb)) : PT X (.Compare a [.LtE] [b] pos) (tT A W (tOfE (eOp fLe [ma, mb]))) := PT_cmp (OpR.or op_le op_le_str) osr_le ha hb (nomark _)
theorem PT_gt (ha : PE X a (tE A W ma)) (hb : PE X b (tE A W mb)) : PT X (.Compare a [.Gt] [b] pos) (tT A W (tOfE (eOp fGt [ma, mb]))) := PT_cmp (OpR.or op_gt op_gt_str) osr_gt ha hb (nomark _)
theorem PT_ge (ha : PE X a (tE A W ma)) (hb : PE X b (tE A W mb)) : PT X (.Compare a [.GtE] [b] pos) (tT A W (tOfE (eOp fGe [ma, mb]))) := PT_cmp (OpR.or op_ge op_ge_str) osr_ge ha hb (nomark _)
end
theorem roomS {X : Cx} {k : Nat} {a : Addr} {pn : List (Addr × Obj)} (h : Room k X.A) : L2H.RoomH k (X.suite a pn).A := ⟨h.dp, h.un⟩
end Lc
end
section
set_option Elab.async false
set_option linter.all false
set_option maxRecDepth 100000
set_option maxHeartbeats 4000000
namespace PySem
namespace XS
open PySem.W PySem.Calls PyProof.Rows PySem.HandSPX He

/-- what is seen of a class's __init__ -/
abbrev XV : Type := Option (Str × Str × Arguments × FuncBody × Scope × Addr × List Str × Value × Addr)
def xv (K : Frag) (x : Str) : XV := match K.lookup (ma K (ga K x) "__init__") with
  | some ⟨_, _, .func fd, _⟩ => some (fd.name, fd.qualname, fd.params, fd.body, fd.scope, fd.globals, fd.closure.map (·.1), fd.defaults, fd.builtins)
  | _ => none
def xcell (K : Frag) (x : Str) : Bool := match K.lookup (ma K (ga K x) "__init__") with
  | some ⟨_, _, .func fd, _⟩ => (match fd.closure with
    | (_, cc) :: _ => (match K.lookup cc with
      | some ⟨_, _, .cell (some (.ref C)), _⟩ => C == ga K x
      | _ => false)
    | _ => false)
  | _ => false
def xcode (K : Frag) (prog : Program) (x q : Str) : Bool := match K.lookup (ma K (ga K x) "__init__") with
  | some ⟨_, _, .func fd, _⟩ => codeIn K fd.code q && (match fd.code with
    | .ref cda => (match K.lookup cda with
      | some ⟨_, _, .fields vs, _⟩ => (match (vs[2]? : Option Value) with
        | some (Value.str file _) => ((prog.main.file : Str) == file)
        | _ => false)
      | _ => false)
    | _ => false)
  | _ => false
def xcls (K : Frag) (x : Str) : Bool := match K.lookup (ga K x) with
  | some ⟨.type t, _, .cls cd, sl⟩ => (t == "type") && ((cd.hasDict && !cd.hasDel) && ((match cd.mro with
      | .ref C :: bm => (C == ga K x) && (refsVE bm && decide (alongIn K "__init__" (((Value.ref C :: bm).dropWhile (· != .ref C)).drop 1) = some (some (.builtin "ValueError.__init__"))))
      | _ => false) && (match sl.toList with
      | [_, _, _, _, some (.builtin n), _] => n == "ValueError.__new__"
      | _ => false)))
  | _ => false
def xfacts (K : Frag) (x f : Str) : Bool :=
  eqO (findIn K (.ref (ga K x)) "__setattr__") (some (some (.builtin "object.__setattr__"))) && (eqO (findIn K (.ref (ga K x)) f) (some none) && (eqO (findIn K (.ref (ga K x)) "__init__") (some (some (.ref (ma K (ga K x) "__init__")))) &&
    (decide (typeIn K (.ref (ma K (ga K x) "__init__")) = some (.type "function")) && (keepIn K (.ref (ga K x)) && (decide (subIn K (.ref (ga K x)) (.type "BaseException") = some true) && (decide (typeIn K (.ref (ga K x)) = some (.type "type")) &&
      (eqO (nsIn K cStatics "thirdparty.any") (some none) && (decide (mroIn K (ga K x) (.ref (ga K x)) = some true) && decide (subIn K (.ref (ga K x)) (.type "ValueError") = some true)))))))))
def xB (K : Frag) (prog : Program) (x f q : Str) : Bool := xcell K x && (xcode K prog x q && (xcls K x && xfacts K x f))
theorem cls_of {K : Frag} {x : Str} (h : xcls K x = true) : ∃ nm q N bs bm sn sub ab col dd k0 k1 k2 k3 k5, K.lookup (ga K x) = some (excClassObj nm q (ga K x) N bs bm true sn sub ab col dd k0 k1 k2 k3 k5 "ValueError.__new__") ∧ refsVE bm = true ∧
    alongIn K "__init__" (((Value.ref (ga K x) :: bm).dropWhile (· != .ref (ga K x))).drop 1) = some (some (.builtin "ValueError.__init__")) := by
  unfold xcls at h
  split at h
  · rename_i t dd cd sl ho
    simp only [Bool.and_eq_true, Bool.not_eq_true'] at h
    obtain ⟨h1, ⟨h2, h3⟩, h4, h5⟩ := h
    have ht : t = "type" := by simpa using h1
    subst ht
    split at h4
    · rename_i C bm hm
      simp only [Bool.and_eq_true, decide_eq_true_eq] at h4
      obtain ⟨c1, c2, c3⟩ := h4
      have hC : C = ga K x := by simpa using c1
      subst hC
      split at h5
      · rename_i k0 k1 k2 k3 n k5 hs
        have hn : n = "ValueError.__new__" := by simpa using h5
        subst hn
        obtain ⟨nm, bs, mro, ns, qn, hd, sn, sub, ab, col, del⟩ := cd
        dsimp only at hm h2 h3
        subst hm h2 h3
        have hsl : sl = #[k0, k1, k2, k3, some (.builtin "ValueError.__new__"), k5] := by
          obtain ⟨l⟩ := sl
          simp only at hs
          rw [hs]
        subst hsl
        exact ⟨nm, qn, ns, bs, bm, sn, sub, ab, col, dd, k0, k1, k2, k3, k5, ho, c2, c3⟩
      · cases h5
    · cases h4
  · cases h
theorem xtxt_ok {prog : Program} {K : Frag} {x f qual : Str} {params : Arguments} {bd : List Stmt} {scope : Scope} {msg : Expr} {p0 p1 p2 p3 p4 q1 q2 q3 q4 : Pos} {ar : Arg} {Ok : Value → Prop} {pl : Env → Sem Bool} (e : xv K x = (some (("__init__" : Str), qual, params, FuncBody.stmts bd, scope, mainGlobals, [("__class__" : Str)], Value.none, builtinsNs) : XV)) (c : xB K prog x f qual = true)
    (hb : bd = xBody f msg p0 p1 p2 p3 p4 q1 q2 q3 q4) (htop : (prog.main.scope.names.lookup ("super" : Str)).isSome = false) (hfs : f ≠ ("self" : Str)) (hfd : (f == ("__debug__" : Str)) = false) (har : (params.posonlyargs ++ params.args).head? = some ar) (harg : ar.arg = "self")
    (hbind : ∀ (kV doc pm ct cdv : Value) (an : Option Addr) (cc : Addr) (s : Shared) (y : Addr) (v : Value), BindsTo s (fnX "__init__" qual params bd scope [(("__class__" : Str), cc)] .none kV doc pm an cdv ct) ⟨[.ref y, v], []⟩ [("self", .ref y), (f, v)])
    (hk : scope.kind = .function) (hco : scope.isCoroutine = false) (hgen : scope.isGenerator = false) (hnc : ∀ y ∈ scope.names, y.2 ≠ .cell) (hls : scope.names.lookup ("self" : Str) = some .local) (hlf : scope.names.lookup f = some .local) (hks : scope.names.lookup ("super" : Str) = some .globalImplicit) (hkc : scope.names.lookup ("__class__" : Str) = some .free)
    (hmsg : ∀ (fd : FuncData) (fI : Addr), fd.scope = scope → ∀ (w : World) (L : Addr) (v : Value), Ok v → MsgOk (model prog w) (callEnv fd L fI) f msg L v)
    (hev : ∀ env : Env, eval (.Call (.Attribute (.Call (.Name "super" p0) [] [] p1) "__init__" p2) [msg] [] p3) env = (do
      let ov ← attributeBase (.Call (.Name "super" p0) [] [] p1) "__init__" env (eval (.Call (.Name "super" p0) [] [] p1) env)
      standAt p2.atName
      let (f, first) ← holding [ov] (getMethod ov "__init__" (pl env))
      callWith p3 f first (backTo p3 (starEach [msg] env)) []))
    (hst : ∀ env : Env, starEach [msg] env = (false, eval msg env) :: starEach [] env)
    (hsw : ∀ env : Env, swapsWith (.Call (.Attribute (.Call (.Name "super" p0) [] [] p1) "__init__" p2) [msg] [] p3) none p4.line env = pure false) :
    XTxt prog K (ga K x) (ma K (ga K x) "__init__") f Ok := by
  unfold xB at c
  obtain ⟨c1, c⟩ := ba c
  obtain ⟨c2, c⟩ := ba c
  obtain ⟨c3, c⟩ := ba c
  unfold xfacts at c
  obtain ⟨f1, c⟩ := ba c
  obtain ⟨f2, c⟩ := ba c
  obtain ⟨f3, c⟩ := ba c
  obtain ⟨f4, c⟩ := ba c
  obtain ⟨f5, c⟩ := ba c
  obtain ⟨f6, c⟩ := ba c
  obtain ⟨f7, c⟩ := ba c
  obtain ⟨f8, c⟩ := ba c
  obtain ⟨f9, f10⟩ := ba c
  refine ⟨eqO_ok f1, eqO_ok f2, eqO_ok f3, of_decide_eq_true f4, f5, of_decide_eq_true f6, of_decide_eq_true f7, eqO_ok f8, of_decide_eq_true f9, of_decide_eq_true f10, htop, hfs, hfd, ?_⟩
  obtain ⟨nm, q, N, bs, bm, sn, sub, ab, col, dd, k0, k1, k2, k3, k5, hC, hbm, hsup⟩ := cls_of c3
  unfold xv at e
  unfold xcell at c1
  unfold xcode at c2
  cases hq : K.lookup (ma K (ga K x) "__init__") with
  | none => rw [hq] at e; cases e
  | some o =>
    obtain ⟨oc, od, dt, osl⟩ := o
    rw [hq] at e c1 c2
    cases dt with
    | func fd =>
      obtain ⟨n1, n2, n3, n4, n5, n6, n7, n8, n9, n10, n11, n12, n13, n14, n15⟩ := fd
      have e2 : (some (n1, n2, n3, n4, n5, n6, n7.map (·.1), n8, n15) : XV) = (some (("__init__" : Str), qual, params, FuncBody.stmts bd, scope, mainGlobals, [("__class__" : Str)], Value.none, builtinsNs) : XV) := e
      simp only [Option.some.injEq, Prod.mk.injEq] at e2
      obtain ⟨h1, h2, h3, h4, h5, h6, h7, h8, h9⟩ := e2
      dsimp only at c1 c2
      obtain ⟨d1, d2⟩ := ba c2
      cases n7 with
      | nil => cases c1
      | cons cl0 rest =>
        obtain ⟨cn, cc⟩ := cl0
        simp only [List.map_cons, List.cons.injEq, List.map_eq_nil_iff] at h7
        obtain ⟨g1, g2⟩ := h7
        subst g1 g2 h1 h2 h3 h4 h5 h6 h8 h9
        dsimp only at c1
        split at c1
        · rename_i cl cld C csl hcell
          have hCC : C = ga K x := by simpa using c1
          subst hCC
          cases n13 with
          | ref cda =>
            dsimp only at d2
            split at d2
            · rename_i ccl cdd vs ccs hcode
              split at d2
              · rename_i file tf hvs
                subst hb
                exact ⟨n2, n3, n5, msg, p0, p1, p2, p3, p4, q1, q2, q3, q4, .none, n9, n10, n11, n14, oc, ccl, cl, n12, od, cdd, cld, dd, osl, ccs, csl, vs, file, tf, ar, N, cc, cda, nm, q, bs, bm, sn, sub, ab, col, k0, k1, k2, k3, k5, pl, _, rfl, rfl, d1, har, harg, hcell, hcode, hvs, d2, hC, hbm, hsup,
                  fun s y v => hbind _ _ _ _ _ _ _ s y v, hk, hco, hgen, hnc, hls, hlf, hks, hkc, hmsg _ _ rfl, hev, hst, hsw⟩
              · cases d2
            · cases d2
          | _ => cases d2
        · cases c1
    | _ => cases e
end XS
end PySem
end
section
set_option Elab.async false
set_option linter.all false
set_option maxRecDepth 100000
set_option maxHeartbeats 4000000
namespace He
open PySem PySem.Spec PyProof.Rows L2

/-! ### what the end leans on: facts, defs, own exceptions, tables, one more test -/
abbrev TabL : Type := List (Option (List (Option (Str × Int))))
abbrev AlL : Type := Bool × List FnW × List PySem.XS.XV × TabL
def obsL (fa : List Fa) (fn : List He5.DefA) (xs : List Str) (tb : List (Str × List Str)) (ex : PySem.W.Frag → Bool) (K : PySem.W.Frag) : AlL := (((fa.all fun f => f.ok K) && fn.all fun d => d.ok K) && ex K, fn.map (fun d => He5.fnA K (d.at_ K)), xs.map (PySem.XS.xv K), tb.map fun t => dicW K (ga K t.1))
def valL (fn : List He5.DefA) (xv : List PySem.XS.XV) (tb : List (Str × List Str)) (w : World) : AlL := (true, fn.map He5.DefA.val, xv, tb.map fun t => some (keysIn w.params t.2))
def asL (g : Addr → Option Obj) (n : Nat) : List Addr := cStatics :: asD g n
def obsLG (n : Nat) (fa : List Fa) (fn : List He5.DefA) (xs : List Str) (tb : List (Str × List Str)) (ex : PySem.W.Frag → Bool) (g : Addr → Option Obj) : AlL := obsL fa fn xs tb ex (frG g (asL g n))
def SaysL (fa : List Fa) (fn : List He5.DefA) (xs : List Str) (xv : List PySem.XS.XV) (tb : List (Str × List Str)) (ex : PySem.W.Frag → Bool) (w : World) (K : PySem.W.Frag) : Prop := obsL fa fn xs tb ex K = valL fn xv tb w
def hookL (n : Nat) (fa : List Fa) (fn : List He5.DefA) (xs : List Str) (xv : List PySem.XS.XV) (tb : List (Str × List Str)) (ex : PySem.W.Frag → Bool) : PySem.W.Hook where
  α := AlL
  obs := fun s => obsLG n fa fn xs tb ex s.heap.get?
  val := fun w => valL fn xv tb w
  says := fun w h => ∃ K : PySem.W.Frag, K.In h ∧ SaysL fa fn xs xv tb ex w K
  of := fun _ _ e => ⟨_, frG_in, e⟩
  keeps := fun _ _ _ ⟨K, hK, c⟩ k => ⟨K, PySem.W.Frag.In.keeps hK k, c⟩
theorem obsLG_eq {n : Nat} {fa : List Fa} {fn : List He5.DefA} {xs : List Str} {xv : List PySem.XS.XV} {tb : List (Str × List Str)} {ex : PySem.W.Frag → Bool} {g : Addr → Option Obj} {s : Shared} (h : ∀ a, g a = s.heap.get? a) : obsLG n fa fn xs tb ex g = (hookL n fa fn xs xv tb ex).obs s := by
  have e : g = s.heap.get? := funext h
  rw [e] <;> rfl
section
variable {fa : List Fa} {fn : List He5.DefA} {xs : List Str} {xv : List PySem.XS.XV} {tb : List (Str × List Str)} {ex : PySem.W.Frag → Bool} {K : PySem.W.Frag} {w : World}
theorem SaysL.one (c : SaysL fa fn xs xv tb ex w K) : ((fa.all fun f => f.ok K) && fn.all fun d => d.ok K) = true ∧ ex K = true := ba (congrArg (fun z : AlL => z.1) c)
theorem SaysL.fact (c : SaysL fa fn xs xv tb ex w K) (i : Nat) {f : Fa} (h : fa[i]? = some f := by rfl) : f.ok K = true := List.all_eq_true.mp (ba c.one.1).1 f (List.mem_of_getElem? h)
theorem SaysL.more (c : SaysL fa fn xs xv tb ex w K) : ex K = true := c.one.2
theorem SaysL.def_ (c : SaysL fa fn xs xv tb ex w K) (i : Nat) {d : He5.DefA} (h : fn[i]? = some d := by rfl) : ∃ fd, FunD K d.name d.qual d.params d.body d.scope (d.dvs K) (d.kws K) (d.at_ K) fd := by
  have e : fn.map (fun d => He5.fnA K (d.at_ K)) = fn.map He5.DefA.val := congrArg (fun z : AlL => z.2.1) c
  have q : (fn.map fun d => He5.fnA K (d.at_ K))[i]? = (fn.map He5.DefA.val)[i]? := by rw [e]
  rw [List.getElem?_map, List.getElem?_map, h] at q
  exact He5.DefA.funD (Option.some.inj q) (List.all_eq_true.mp (ba c.one.1).2 d (List.mem_of_getElem? h))
theorem SaysL.xv_ (c : SaysL fa fn xs xv tb ex w K) (i : Nat) {x : Str} {v : PySem.XS.XV} (h : xs[i]? = some x := by rfl) (hv : xv[i]? = some v := by rfl) : PySem.XS.xv K x = v := by
  have e : xs.map (PySem.XS.xv K) = xv := congrArg (fun z : AlL => z.2.2.1) c
  have q : (xs.map (PySem.XS.xv K))[i]? = xv[i]? := by rw [e]
  rw [List.getElem?_map, h, hv] at q
  exact Option.some.inj q
theorem SaysL.tab (c : SaysL fa fn xs xv tb ex w K) (i : Nat) {t : Str × List Str} (h : tb[i]? = some t := by rfl) : dicW K (ga K t.1) = some (keysIn w.params t.2) := by
  have e : tb.map (fun t => dicW K (ga K t.1)) = tb.map fun t => some (keysIn w.params t.2) := congrArg (fun z : AlL => z.2.2.2) c
  have q : (tb.map fun t => dicW K (ga K t.1))[i]? = (tb.map fun t => some (keysIn w.params t.2))[i]? := by rw [e]
  rw [List.getElem?_map, List.getElem?_map, h] at q
  exact Option.some.inj q
end
/-- isinstance asks such a class's instances rightly -/
def excB (K : PySem.W.Frag) (D : Addr) : Bool :=
  eqO (PySem.W.findIn K (.ref D) "__getattribute__") (some (some (.builtin "BaseException.__getattribute__"))) && (eqO (PySem.W.findIn K (.ref D) "__getattr__") (some none) && (decide (PySem.W.subIn K (.ref D) (.type "BaseException") = some true) && (PySem.W.hasDictIn K D &&
    (eqO (PySem.W.findIn K (.ref D) "__class__") (some (some (.builtin "object.__class__"))) && (eqO (PySem.W.specialIn K (.builtin "object.__class__") "__get__") (some (some (.builtin "getset_descriptor.__get__"))) && (decide (PySem.W.takesIn K (.builtin "object.__class__") = some true) && decide (PySem.W.mroIn K D (.type "object") = some true)))))))
theorem excB_ok {K : PySem.W.Frag} {D : Addr} (h : excB K D = true) : ExcC K D := by
  obtain ⟨h1, h⟩ := ba h
  obtain ⟨h2, h⟩ := ba h
  obtain ⟨h3, h⟩ := ba h
  obtain ⟨h4, h⟩ := ba h
  obtain ⟨h5, h⟩ := ba h
  obtain ⟨h6, h⟩ := ba h
  obtain ⟨h7, h8⟩ := ba h
  exact ⟨eqO_ok h1, eqO_ok h2, of_decide_eq_true h3, h4, eqO_ok h5, eqO_ok h6, of_decide_eq_true h7, of_decide_eq_true h8⟩
def kitB1 (K : PySem.W.Frag) (D : Addr) (c : Value) (b : Bool) : Bool := excB K D && decide (PySem.W.kitOne K (.ref D) c = some b)
theorem kitB1_ok {K : PySem.W.Frag} {D : Addr} {c : Value} {b : Bool} (h : kitB1 K D c b = true) : ExcC K D ∧ PySem.W.kitOne K (.ref D) c = some b := by
  obtain ⟨h1, h2⟩ := ba h
  exact ⟨excB_ok h1, of_decide_eq_true h2⟩
def xfB1 (K : PySem.W.Frag) (D : Addr) (f : Str) : Bool := xfB K D && eqO (PySem.W.findIn K (.ref D) f) (some none)
theorem xfB1_ok {K : PySem.W.Frag} {D : Addr} {f : Str} (h : xfB1 K D f = true) : XfC K D ∧ PySem.W.findIn K (.ref D) f = some none := by
  obtain ⟨h1, h2⟩ := ba h
  exact ⟨xfB_ok h1, eqO_ok h2⟩
end He
namespace Lc
open PySem L2
/-- a law's end: the script's length and bits are told -/
theorem walk_ofL {l : PySem.W.OpenLaw} {n k : Nat} {q : Program} {loose : List Str} {XP : (Str → Option Value) → Heap → Prop} {YP : World → Heap → Prop} {d : DefRec} {x : Str}
    (hn : l.most = some n) (hn2 : n ≤ sizeLine) (hdf : d.params.defaults = []) (hr : Room k callerA)
    (F : ∀ (w : World) (mg : Str → Option Value) (fa : Addr) (h : Heap), YP w h → h.Ns mainGlobals mg → mg d.name = some (.ref fa) →
      ∃ (K : PySem.W.Frag) (fd : FuncData) (sp : Sp), K.In h ∧ (∀ (s : Shared) (u : Value), BindsTo s fd ⟨[u], []⟩ [(x, u)]) ∧
        (∀ (H : Hp) (a : Addr) (ns : List Int), ns.length ≤ n → (∀ z ∈ ns, Builtin.Int.intBits z ≤ 1048576) → SqL K H a (ns.map V.int) → sp [.ref a] H (fun v _ => v = .bl true) fun _ _ _ => False) ∧
        ∀ base : Heap, K.In base → base.Ns mainGlobals mg → FnOk l.prog w K mg base (L2.CX l.prog w) k fa fd [x] sp) :
    PySem.W.WalkO q loose XP YP l.row.toRowW d [] (fun f vs => PySem.call f vs) := by
  refine Att.attach_callB hn hdf fun w s₀ s₁ mg mb fa o pm cd doc a vs ns gr Y ho hd hcd hmg hobj hints hlen hbits hg => ?_
  obtain ⟨K, fd, sp, KX, hb, hsp, hF⟩ := F w mg fa _ Y gr.T.g hmg
  exact law_call KX gr.T.g gr.T.b gr.T.builtins gr.T.nolimit hg hobj hints (Nat.le_trans hlen hn2) hr hF hb (fun H hO hS => hsp H a ns hlen hbits hS) fun H e s' ⟨_, _, _, _, _, _, _, _, _, _, _, _, z⟩ => z
end Lc
end
section
set_option Elab.async false
set_option linter.all false
set_option maxRecDepth 100000
namespace Lc
open PySem L2
section
variable {A : Act} {W : Wx} {X : Cx} {I H : Hp} {σ : St} {c : Ctx} {ts : List (D × V)} {O : Addr → Option Ow} {lk : List (Nat × List Nat × V)} {d : D} {v : V}
/-- what was just made stays as it is from here on -/
theorem Sat.frzLast (S : Sat A I H σ c (ts ++ [(d, v)]) O lk) (nb : noBor d = true) : ∃ I' O', Sat A I' H σ c (ts ++ [(frz d, v)]) O' lk := by
  obtain ⟨fp, r, n, l⟩ := S.tmps ts.length d v (by simp)
  have nI : ∀ a ∈ fp, I a = none ∧ A.B a = none := fun a ha => ⟨(S.fr a _ (l a ha)).1, (S.fr a _ (l a ha)).2.1⟩
  have hi : leH I (fun a => if a ∈ fp then H a else I a) := fun a o e => by
    by_cases ha : a ∈ fp
    · rw [(nI a ha).1] at e; cases e
    · show (if a ∈ fp then H a else I a) = _
      rw [if_neg ha]; exact e
  have ho : ∀ w, w ≠ .inr ts.length → ∀ a, O a = some w → (if a ∈ fp then none else O a) = some w := fun w hw a e => by
    by_cases ha : a ∈ fp
    · rw [l a ha] at e
      cases e
      exact (hw rfl).elim
    · rw [if_neg ha]; exact e
  refine ⟨fun a => if a ∈ fp then H a else I a, fun a => if a ∈ fp then none else O a, ?_⟩
  have pvk : ∀ {r : Nat} {p : List Nat} {v : V}, PV A I H σ c O r p v → PV A (fun a => if a ∈ fp then H a else I a) H σ c (fun a => if a ∈ fp then none else O a) r p v := fun {r p v} x => x.keep hi (fun _ _ => rfl) (ho _ (fun z => by cases z)) rfl rfl
  refine ⟨fun a o e => ?_, S.bh, S.i0.trans hi, fun a o e => ?_, S.len, fun i d e => ?_, fun i r p e => ?_, fun j d1 v1 e => ?_, fun r p v e => pvk (S.lks r p v e), S.lke, fun a w e => ?_⟩
  · by_cases ha : a ∈ fp
    · rw [if_pos ha] at e; exact e
    · rw [if_neg ha] at e; exact S.ih a o e
  · by_cases ha : a ∈ fp
    · exact .inr (nI a ha).2
    · rw [if_neg ha] at e; exact S.ib a o e
  · obtain ⟨v, e1, h⟩ := S.vals i d e
    exact ⟨v, e1, h.keep hi (fun _ _ => rfl) (ho _ (fun z => by cases z))⟩
  · obtain ⟨w, e1, h⟩ := S.als i r p e
    exact ⟨w, e1, pvk h⟩
  · by_cases hj : j < ts.length
    · rw [List.getElem?_append_left hj] at e
      have := S.tmps j d1 v1 (by rw [List.getElem?_append_left hj]; exact e)
      exact this.keep hi (fun _ _ => rfl) (ho _ (fun z => by cases z; exact Nat.lt_irrefl _ hj))
    · have hj2 : j = ts.length := by
        have := (List.getElem?_eq_some_iff.mp e).1
        rw [List.length_append] at this
        simp at this
        omega
      subst hj2
      rw [List.getElem?_append_right (Nat.le_refl _), Nat.sub_self] at e
      cases e
      exact RO.leaf (R.frz d r nb hi fun a ha => if_pos ha)
  · by_cases ha : a ∈ fp
    · rw [if_pos ha] at e; cases e
    · rw [if_neg ha] at e
      obtain ⟨h1, h2, h3⟩ := S.fr a w e
      exact ⟨(if_neg ha).trans h1, h2, h3⟩
/-- what was just made is frozen, to be walked over -/
def eFt (m : Ctx → ER) : Ctx → ER := fun c => match m c with
  | .ok (.t d) c1 => .ok (.t (if noBor d then frz d else d)) c1
  | r => r
theorem PE_ft {e : Expr} {m : Ctx → ER} (h : PE X e (tE A W m)) : PE X e (tE A W (eFt m)) := PE.imp h fun σ H Q ⟨I, c, ts, O, lk, S, h⟩ => by
  refine ⟨I, c, ts, O, lk, S, ?_⟩
  unfold eFt at h
  cases e1 : m c with
  | bad => rw [e1] at h; exact h
  | exc k n x c1 => rw [e1] at h; exact h
  | ok ev c1 =>
    rw [e1] at h
    cases ev with
    | pl r p => exact h
    | t d =>
      dsimp only at h
      intro v I1 H1 O1 S1
      by_cases nb : noBor d = true
      · rw [if_pos nb] at h
        obtain ⟨I2, O2, S2⟩ := S1.frzLast nb
        exact h v I2 H1 O2 S2
      · rw [if_neg nb] at h
        exact h v I1 H1 O1 S1
end
end Lc
end
section
set_option Elab.async false
set_option linter.all false
set_option maxRecDepth 100000
set_option maxHeartbeats 1000000
namespace Lc
open PySem L2

/-! ### new objects -/
/-- C(e, ..): the new object is a fresh value, its __init__ is given it as its own -/
def eMake (ci : Nat) (ms : List Bool) (Φ : List D → FR) (args : List (Ctx → ER)) (dds : List D) : Ctx → ER := fun c => match eArgs args c with
  | .ok es c2 => match valsOf c2 es with
    | some ds => if okM ms (es ++ dds.map .t) && okB (rootsM ms (es ++ dds.map .t)) ms (es ++ dds.map .t) then match Φ (.nd (.obj ci []) .own [] :: (ds ++ dds)) with
        | .ret .non (o :: os) => if lkOk (chgs ms (es ++ dds.map .t) os) (unlocks es c2).k then .ok (.t o) (updC (chgs ms (es ++ dds.map .t) os) (unlocks es c2)) else .bad
        | .exc k n x (_ :: os) => if lkOk (chgs ms (es ++ dds.map .t) os) (unlocks es c2).k then .exc k n x (updC (chgs ms (es ++ dds.map .t) os) (unlocks es c2)) else .bad
        | _ => .bad
      else .bad
    | none => .bad
  | .exc k n x c2 => .exc k n x c2
  | .bad => .bad
def tMakeSD (C : Addr) (sp : Sp) (dvs : List V) (E : L2.St → XK) (t : TA) : TE := fun σ H Q => t σ H fun vs H1 => ∀ x dx, H1 x = none → H1 dx = none → dx ≠ x → sp (.ref x :: (vs ++ dvs)) (upd (upd H1 dx (.own x)) x (.ins C dx [])) (fun v H2 => v = .non ∧ Q (.ref x) H2) (E σ)

section
variable {A : Act} {W : Wx} {X : Cx} {I H I' H' : Hp} {σ σ' : St} {c c' : Ctx} {ts xs : List (D × V)} {O O' : Addr → Option Ow} {lk : List (Nat × List Nat × V)} {d : D} {v : V} {w : Ow} {r : Nat} {p : List Nat}
theorem tix_all : ∀ {es : List EV} {vs : List V}, vs.length = es.length → tix es es.length = (tmpsOf es vs).length
  | [], [], _ => rfl
  | .t d :: es, v :: vs, h => by
    rw [List.length_cons, tix, tmpsOf, List.length_cons, tix_all (by simpa using h)]
  | .pl r p :: es, v :: vs, h => by
    rw [List.length_cons, tix, tmpsOf, tix_all (by simpa using h)]
theorem tix_n {es : List EV} {vs : List V} {i : Nat} {d : D} (h : vs.length = es.length) (e : es[i]? = some (.t d)) : tix es i < (tmpsOf es vs).length := by
  rw [← tix_all h]
  exact tix_lt (List.getElem?_eq_some_iff.mp e).1 e
theorem tE_make {ci : Nat} {ms : List Bool} {nl : Nat} {body : Ctx → SR} {args : List (Ctx → ER)} {dds : List D} {dvs : List V} (hdv : Dv A.g dds dvs) : ∀ σ H Q, tE A W (eMake ci ms (runF (true :: ms) nl body) args dds) σ H Q →
    tMakeSD (A.g.G ci) (spF A.g.G A.g.K (true :: ms) nl body) dvs (WE W) (tA' A W (eArgs args)) σ H Q := fun σ H Q ⟨I, c, ts, O, lk, S, h⟩ => by
  refine ⟨I, c, ts, O, lk, S, ?_⟩
  rw [eMake] at h
  cases e : eArgs args c with
  | bad => rw [e] at h; exact h
  | exc k n x c1 => rw [e] at h; exact h
  | ok es c2 =>
    rw [e] at h
    dsimp only at h
    intro vs I2 H2 O2 hl S2 x dx nx ndx nex
    cases e2 : valsOf c2 es with
    | none => rw [e2] at h; exact h.elim
    | some ds =>
      rw [e2] at h
      dsimp only at h
      have hdl : ds.length = es.length := by
        have := (Sat.valsOf hl e2 S2).length
        omega
      have hdw : dvs.length = dds.length := hdv.length.symm
      have nx2 : (upd H2 dx (.own x)) x = none := by rw [upd_ne (Ne.symm nex)]; exact nx
      obtain ⟨x1, x2, x3⟩ := (S2.alloc ndx).new nx2
      have Sa := (S2.alloc (o := .own x) ndx).alloc (o := .ins (A.g.G ci) dx []) nx2
      generalize hH : upd (upd H2 dx (.own x)) x (.ins (A.g.G ci) dx []) = H3 at *
      have hx3 : H3 x = some (.ins (A.g.G ci) dx []) := by rw [← hH, upd_same]
      obtain ⟨O4, Sb⟩ := Sat.join (ts := ts ++ tmpsOf es vs) (xs := []) (d := .nd (.obj ci []) .own []) (v := .ref x) (fp := [x]) (by rw [List.append_nil]; exact Sa) (by
        rw [R]
        exact ⟨x, [], [], rfl, rfl, ⟨rfl, dx, hx3⟩, by rw [RL]; exact ⟨rfl, rfl⟩⟩) (List.nodup_cons.mpr ⟨fun z => (by cases z), List.nodup_nil⟩) (fun a ha => by
        rw [List.mem_singleton.mp ha]
        exact .inr ⟨x1, x2, x3, _, hx3⟩)
      by_cases ok : (okM ms (es ++ dds.map .t) && okB (rootsM ms (es ++ dds.map .t)) ms (es ++ dds.map .t)) = true
      · rw [if_pos ok] at h
        rw [Bool.and_eq_true] at ok
        by_cases hml : (ds ++ dds).length = ms.length
        · have S3 := Sat.unlockL hl Sb
          have hes : (es ++ dds.map EV.t).length = ms.length := by
            rw [← hml, List.length_append, List.length_append, List.length_map, hdl]
          have hvl : (vs ++ dvs).length = ms.length := by
            rw [← hml, List.length_append, List.length_append, hdw, hl, hdl]
          obtain ⟨jx, j0, j1⟩ : ∃ jx : Nat → Nat, jx 0 = (tmpsOf es vs).length ∧ ∀ k, jx (k + 1) = if k < es.length then tix es k else (tmpsOf es vs).length + 1 + k := ⟨fun | 0 => (tmpsOf es vs).length | k + 1 => if k < es.length then tix es k else (tmpsOf es vs).length + 1 + k, rfl, fun _ => rfl⟩
          have hlow : ∀ (i : Nat) (d : D), (es ++ dds.map EV.t)[i]? = some (.t d) → i < es.length → jx (i + 1) = tix es i ∧ tix es i < (tmpsOf es vs).length ∧ es[i]? = some (.t d) := fun i d g hi => by
            rw [List.getElem?_append_left hi] at g
            exact ⟨by rw [j1, if_pos hi], tix_n hl g, g⟩
          have hhi : ∀ i : Nat, ¬ i < es.length → jx (i + 1) = (tmpsOf es vs).length + 1 + i := fun i hi => by rw [j1, if_neg hi]
          have hj : ∀ (i k : Nat) (d d' : D), (EV.t (.nd (.obj ci []) .own []) :: (es ++ dds.map EV.t))[i]? = some (.t d) → (EV.t (.nd (.obj ci []) .own []) :: (es ++ dds.map EV.t))[k]? = some (.t d') → jx i = jx k → i = k := fun i k d d' g1 g2 g => by
            cases i with
            | zero =>
              cases k with
              | zero => rfl
              | succ k =>
                rw [List.getElem?_cons_succ] at g2
                by_cases hk : k < es.length
                · have := hlow k d' g2 hk; omega
                · have := hhi k hk; omega
            | succ i =>
              rw [List.getElem?_cons_succ] at g1
              cases k with
              | zero =>
                by_cases hi : i < es.length
                · have := hlow i d g1 hi; omega
                · have := hhi i hi; omega
              | succ k =>
                rw [List.getElem?_cons_succ] at g2
                by_cases hi : i < es.length <;> by_cases hk : k < es.length
                · have a1 := hlow i d g1 hi
                  have a2 := hlow k d' g2 hk
                  have := tix_ne a1.2.2 a2.2.2 (by omega)
                  omega
                · have := hlow i d g1 hi
                  have := hhi k hk
                  omega
                · have := hhi i hi
                  have := hlow k d' g2 hk
                  omega
                · have := hhi i hi
                  have := hhi k hk
                  omega
          have hargs : ∀ (i : Nat) (e : EV) (v : V) (d : D), (EV.t (.nd (.obj ci []) .own []) :: (es ++ dds.map EV.t))[i]? = some e → (V.ref x :: (vs ++ dvs))[i]? = some v → (D.nd (.obj ci []) .own [] :: (ds ++ dds))[i]? = some d → ArgAt A I2 H3 σ (unlocks es c2) O4 (ts.length + jx i) e v d := fun i e v d g1 g2 g3 => by
            cases i with
            | zero =>
              cases g1
              cases g2
              cases g3
              have := S3.last
              rw [List.length_append] at this
              exact ⟨rfl, by rw [j0]; exact this⟩
            | succ i =>
              rw [List.getElem?_cons_succ] at g1 g2 g3
              by_cases hi : i < es.length
              · rw [List.getElem?_append_left hi] at g1
                rw [List.getElem?_append_left (by omega)] at g2 g3
                rw [j1, if_pos hi]
                exact (Sat.args hl e2 Sb.pop g1 g2 g3).ctx (unlocks_s es c2)
              · rw [List.getElem?_append_right (by omega)] at g1 g2 g3
                rw [hl] at g2
                rw [hdl] at g3
                rw [List.getElem?_map] at g1
                rw [g3] at g1
                cases g1
                exact ⟨rfl, RO.leaf (hdv.get g3 g2 _ _ _)⟩
          have okm : okM (true :: ms) (EV.t (.nd (.obj ci []) .own []) :: (es ++ dds.map EV.t)) = true := by
            rw [okM, ok.1]
            rfl
          have okb : okB (rootsM (true :: ms) (EV.t (.nd (.obj ci []) .own []) :: (es ++ dds.map EV.t))) (true :: ms) (EV.t (.nd (.obj ci []) .own []) :: (es ++ dds.map EV.t)) = true := ok.2
          rw [List.append_assoc] at S3
          obtain ⟨A', O0, hg, Sc, back⟩ := call_core (nl := nl) (ms := true :: ms) (ds := .nd (.obj ci []) .own [] :: (ds ++ dds)) (vs := .ref x :: (vs ++ dvs)) (es := EV.t (.nd (.obj ci []) .own []) :: (es ++ dds.map EV.t)) hj S3 (by simpa using hvl) (by simpa using hml) hargs (by simpa using hes) okm okb
          have hml2 : (D.nd (.obj ci []) .own [] :: (ds ++ dds)).length = (true :: ms).length := by simpa using hml
          refine ⟨by simpa using hvl, A', I2, O0, .nd (.obj ci []) .own [] :: (ds ++ dds), by rw [hg], by rw [hg], hml2, Sc, ?_⟩
          rw [runF, if_pos hml2] at h
          have hch : ∀ (o : D) (os : List D), chgs (true :: ms) (EV.t (.nd (.obj ci []) .own []) :: (es ++ dds.map EV.t)) (o :: os) = chgs ms (es ++ dds.map EV.t) os := fun o os => rfl
          have ho1 : ∀ {s : List Sl} {os : List D}, outs (true :: ms) s = some os → ∃ o os', os = o :: os' ∧ s[0]? = some (.v o) ∧ noBor o = true := fun {s os} q => by
            cases s with
            | nil => simp [outs] at q
            | cons sl s =>
              cases sl with
              | no => simp [outs] at q
              | al _ _ => simp [outs] at q
              | v o =>
                rw [outs] at q
                cases nb : noBor o with
                | false => rw [nb] at q; simp at q
                | true =>
                  rw [nb] at q
                  cases q2 : outs ms s with
                  | none => rw [q2] at q; simp at q
                  | some os' =>
                    rw [q2] at q
                    simp only [if_true, Option.map_some, Option.some.injEq] at q
                    exact ⟨o, os', q.symm, rfl, nb⟩
          cases e3 : body (initC (true :: ms) nl (.nd (.obj ci []) .own [] :: (ds ++ dds))) with
          | bad => rw [e3] at h; exact h.elim
          | bk c3 => rw [e3] at h; exact h.elim
          | ct c3 => rw [e3] at h; exact h.elim
          | nx c3 =>
            rw [e3] at h
            dsimp only at h ⊢
            cases e4 : outs (true :: ms) c3.s with
            | none => rw [e4] at h; exact h.elim
            | some os =>
              rw [e4] at h
              obtain ⟨o, os', rfl, h0, nb⟩ := ho1 e4
              dsimp only at h
              by_cases hk : lkOk (chgs ms (es ++ dds.map .t) os') (unlocks es c2).k = true
              · rw [if_pos hk] at h
                intro σ' I' H' O3 S4
                obtain ⟨O4, _, S5⟩ := back [] σ' I' H' O3 c3 (o :: os') S4 e4 (by simp) (by simp) hk
                have S5 := S5 _ _ o rfl rfl rfl h0 nb
                rw [List.append_nil] at S5
                exact ⟨rfl, h (.ref x) I' H' O4 S5⟩
              · rw [if_neg hk] at h
                exact h.elim
          | rt d c3 =>
            rw [e3] at h
            dsimp only at h ⊢
            cases e4 : outs (true :: ms) c3.s with
            | none => rw [e4] at h; exact h.elim
            | some os =>
              rw [e4] at h
              obtain ⟨o, os', rfl, h0, nb⟩ := ho1 e4
              dsimp only at h
              by_cases hb : noBor d = true
              · rw [if_pos hb] at h
                cases d with
                | non =>
                  dsimp only at h
                  by_cases hk : lkOk (chgs ms (es ++ dds.map .t) os') (unlocks es c2).k = true
                  · rw [if_pos hk] at h
                    intro v σ' I' H' O3 S4
                    obtain ⟨O4, _, S5⟩ := back [] σ' I' H' O3 c3 (o :: os') (Sat.pop (xs := [(.non, v)]) S4) e4 (by simp) (by simp) hk
                    have S5 := S5 _ _ o rfl rfl rfl h0 nb
                    rw [List.append_nil] at S5
                    obtain ⟨fp, rr, _⟩ := S4.tmps 0 .non v rfl
                    rw [R] at rr
                    exact ⟨rr.1, h (.ref x) I' H' O4 S5⟩
                  · rw [if_neg hk] at h
                    exact h.elim
                | _ => exact h.elim
              · rw [if_neg hb] at h
                exact h.elim
          | exc k n x' c3 =>
            rw [e3] at h
            dsimp only at h ⊢
            cases e4 : outs (true :: ms) c3.s with
            | none => rw [e4] at h; exact h.elim
            | some os =>
              rw [e4] at h
              obtain ⟨o, os', rfl, h0, nb⟩ := ho1 e4
              dsimp only at h
              by_cases hk : lkOk (chgs ms (es ++ dds.map .t) os') (unlocks es c2).k = true
              · rw [if_pos hk] at h
                intro σ' dd v I' H' O3 S4 i rx
                obtain ⟨O4, S5, _⟩ := back [] σ' I' H' O3 c3 (o :: os') S4 e4 (by simp) (by simp) hk
                rw [List.append_nil] at S5
                have := h dd v I' H' O4 S5 i (by rw [← hg]; exact rx)
                rw [hg]
                exact this
              · rw [if_neg hk] at h
                exact h.elim
        · rw [runF, if_neg (by simpa using hml)] at h
          exact h.elim
      · rw [if_neg ok] at h
        exact h.elim

variable {k : Nat} {f C : Addr} {fd : FuncData} {ps : List Str} {sp : Sp} {dvs : List V} {ds : List Value} {E : L2.St → XK} {x m : Str} {p0 pos apos : Pos} {e oe : Expr} {es : List Expr} {t : TA} {ta : TE}
theorem run_makeSD {Q : VK} {us : List Value} {vs : List V} {pins : List (Addr × Obj)} {s : Shared} {CX : CXT} (M : Mk X.K C f) (F : FnOk X.prog X.w X.K X.mg X.base CX k f fd ps sp) (hr : Room (k + 1) X.A) (hb : Binds X.K fd ps ds) (hd : Vals dvs ds)
    (hx : PassesAt CX X σ (E σ)) (J : Inv X pins σ H s) (rv : Vals vs us)
    (h : ∀ x dx, H x = none → H dx = none → dx ≠ x → sp (.ref x :: (vs ++ dvs)) (upd (upd H dx (.own x)) x (.ins C dx [])) (fun v H2 => v = .non ∧ Q (.ref x) H2) (E σ)) :
    wpAny (model X.prog X.w) X.A (call (.ref C) us) (EP X pins σ Q) X.xe s := by
  have q0 := h (s.heap.objs.size + 1) s.heap.objs.size (J.hok.fresh (Nat.le_succ _)) (J.hok.fresh (Nat.le_refl _)) (Nat.ne_of_lt (Nat.lt_succ_self _))
  have J2 := Inv.made (C := C) J
  have rw2 : Vals (V.ref (s.heap.objs.size + 1) :: (vs ++ dvs)) (Value.ref (s.heap.objs.size + 1) :: (us ++ ds)) := .cons rfl (rv.append hd)
  have hl : (Value.ref (s.heap.objs.size + 1) :: us ++ ds).length = ps.length := (F.len _ _ _ _ q0).symm.trans rw2.length |>.symm
  refine wpAny_call (make_map (f := f) J.kIn M.makes M.init (beq_iff_eq.mp M.fn) (codeAny_mono (F.run _ X.stack _ _ ⟨Value.ref (s.heap.objs.size + 1) :: us, []⟩ (Value.ref (s.heap.objs.size + 1) :: (us ++ ds)) _ _ (E σ) (hr.make C us [])
    (J2.env0.make C us []) (hb _ (Value.ref (s.heap.objs.size + 1) :: us) J2.kIn hl) rw2 q0) fun r s' hq' => ?_))
  cases r with
  | error e => exact hx pins _ _ e s' J2 hq'
  | ok fl =>
    cases fl with
    | ret u =>
      obtain ⟨v, H', J3, rv, ev, q3⟩ := J2.after hq'
      subst ev
      exact ⟨rv, ⟨V.ref (s.heap.objs.size + 1), H', J3, rfl, q3⟩⟩
    | next => exact False.elim hq'
    | brk => exact False.elim hq'
    | cont => exact False.elim hq'
theorem pe_makeSD {CX : CXT} (M : Mk X.K C f) (F : FnOk X.prog X.w X.K X.mg X.base CX k f fd ps sp) (hr : Room (k + 1) X.A) (hg : Gl X x) (hm : X.mg x = some (.ref C)) (hb : Binds X.K fd ps ds) (hd : Vals dvs ds) (hx : ∀ σ, PassesAt CX X σ (E σ))
    (ha : PA X (e :: es) t) (hdb : (x == ("__debug__" : Str)) = false := by decide) (he : starEach (e :: es) X.env = (false, eval e X.env) :: starEach es X.env := by rfl) (hpl : (backTo pos (starEach es X.env)).any (·.1) = false := by rfl) :
    PE X (.Call (.Name x p0) (e :: es) [] pos) (tMakeSD C sp dvs E t) := by
  refine ⟨fun pins s σ H Q J h => ?_⟩
  refine wpAny_Call_Name_kw (ld_glob J hg hm ?_ hdb)
  refine PySem.W.callWith_K (h₀ := X.base) J.ok.mod.kin M.kp (thn (ha.run pos pins s σ H _ J h) fun us s1 ⟨vs, H1, J1, r, q⟩ => ⟨J1.kIn, ?_⟩) he hpl
  exact run_makeSD M F hr hb hd (hx σ) J1 r q
theorem PE_make {G : Nat → Addr} {ci : Nat} {ms : List Bool} {nl : Nat} {body : Ctx → SR} {Φ : List D → FR} {args : List (Ctx → ER)} {dds : List D} (M : Mk X.K (G ci) f) (F : FnOk X.prog X.w X.K X.mg X.base (L2.CX X.prog X.w) k f fd ps (spF G X.K (true :: ms) nl body)) (o : On X A.g) (hG : A.g.G = G) (hΦ : Φ = runF (true :: ms) nl body) (hr : Room (k + 1) X.A) (hg : Gl X x) (hm : X.mg x = some (.ref (G ci))) (hb : Binds X.K fd ps ds) (hd : Vals dvs ds) (hdv : Dv A.g dds dvs)
    (tk : Takes X W) (ha : PA X (e :: es) (tA' A W (eArgs args))) (hdb : (x == ("__debug__" : Str)) = false := by decide) (he : starEach (e :: es) X.env = (false, eval e X.env) :: starEach es X.env := by rfl) (hpl : (backTo pos (starEach es X.env)).any (·.1) = false := by rfl) :
    PE X (.Call (.Name x p0) (e :: es) [] pos) (tE A W (eMake ci ms Φ args dds)) := by
  subst hΦ
  subst hG
  have F : FnOk X.prog X.w X.K X.mg X.base (L2.CX X.prog X.w) k f fd ps (spF A.g.G A.g.K (true :: ms) nl body) := by
    rw [o.k]
    exact F
  exact PE.imp (pe_makeSD M F hr hg hm hb hd (passAt tk) ha hdb he hpl) (tE_make hdv)
end
end Lc
end
section
set_option Elab.async false
set_option linter.all false
set_option maxRecDepth 100000
set_option maxHeartbeats 1000000
namespace Lc
open PySem L2

/-! ### fields -/
def ixS : List Str → Str → Option Nat
  | [], _ => none
  | g :: r, f => if g = f then some 0 else (ixS r f).map (· + 1)
theorem putF_new {f : Str} {v : V} : ∀ {ns : List Str} {vs : List V}, ns.length = vs.length → ixS ns f = none → putF f v (ns.zip vs) = (ns ++ [f]).zip (vs ++ [v])
  | [], [], _, _ => rfl
  | g :: ns, w :: vs, hl, h => by
    rw [ixS] at h
    by_cases hg : g = f
    · rw [if_pos hg] at h; cases h
    · rw [if_neg hg] at h
      have h2 : ixS ns f = none := by
        cases e : ixS ns f with
        | none => rfl
        | some j => rw [e] at h; cases h
      have ih := putF_new (v := v) (vs := vs) (by simpa using hl) h2
      simp only [List.zip_cons_cons, List.cons_append, putF, if_neg hg, ih]
theorem putF_old {f : Str} {v : V} : ∀ {ns : List Str} {vs : List V} {j : Nat}, ns.length = vs.length → ixS ns f = some j → putF f v (ns.zip vs) = ns.zip (vs.set j v)
  | [], _, _, _, h => by cases h
  | g :: ns, w :: vs, j, hl, h => by
    rw [ixS] at h
    by_cases hg : g = f
    · rw [if_pos hg] at h
      cases h
      simp only [List.zip_cons_cons, putF, if_pos hg, List.set_cons_zero]
    · rw [if_neg hg] at h
      obtain ⟨k, e, rfl⟩ := Option.map_eq_some_iff.mp h
      have ih := putF_old (v := v) (vs := vs) (by simpa using hl) e
      simp only [List.zip_cons_cons, putF, if_neg hg, ih, List.set_cons_succ]
theorem ixS_lt {f : Str} : ∀ {ns : List Str} {j : Nat}, ixS ns f = some j → j < ns.length
  | g :: ns, j, h => by
    rw [ixS] at h
    by_cases hg : g = f
    · rw [if_pos hg] at h; cases h; exact Nat.succ_pos _
    · rw [if_neg hg] at h
      obtain ⟨k, e, rfl⟩ := Option.map_eq_some_iff.mp h
      exact Nat.succ_lt_succ (ixS_lt e)
  | [], _, h => by cases h
theorem look_some {f : Str} {v : V} : ∀ {ns : List Str} {vs : List V} {j : Nat}, ixS ns f = some j → vs[j]? = some v → (ns.zip vs).lookup f = some v
  | g :: ns, w :: vs, j, h, e => by
    rw [ixS] at h
    by_cases hg : g = f
    · rw [if_pos hg] at h
      cases h
      simp only [List.getElem?_cons_zero, Option.some.injEq] at e
      subst e
      subst hg
      rw [List.zip_cons_cons, List.lookup_cons_self]
    · rw [if_neg hg] at h
      obtain ⟨k, e2, rfl⟩ := Option.map_eq_some_iff.mp h
      have hf : (f == g) = false := by
        cases q : f == g with
        | false => rfl
        | true => exact absurd (beq_iff_eq.mp q).symm hg
      rw [List.zip_cons_cons, List.lookup_cons, hf]
      exact look_some e2 (by simpa using e)
  | _ :: _, [], _, _, e => by simp at e
  | [], _, _, h, _ => by cases h
theorem look_none {f : Str} : ∀ {ns : List Str} {vs : List V}, ixS ns f = none → (ns.zip vs).lookup f = none
  | [], _, _ => rfl
  | g :: ns, [], _ => rfl
  | g :: ns, w :: vs, h => by
    rw [ixS] at h
    by_cases hg : g = f
    · rw [if_pos hg] at h; cases h
    · rw [if_neg hg] at h
      have h2 : ixS ns f = none := by
        cases e : ixS ns f with
        | none => rfl
        | some j => rw [e] at h; cases h
      have hf : (f == g) = false := by
        cases q : f == g with
        | false => rfl
        | true => exact absurd (beq_iff_eq.mp q).symm hg
      rw [List.zip_cons_cons, List.lookup_cons, hf]
      exact look_none h2

section
variable {A : Act} {W : Wx} {X : Cx} {I H I' H' : Hp} {σ σ' : St} {c c' : Ctx} {ts xs : List (D × V)} {O O' : Addr → Option Ow} {lk : List (Nat × List Nat × V)} {d : D} {v : V} {w : Ow} {r : Nat} {p : List Nat}
theorem EAt.obj {ci : Nat} {ns : List Str} {f : Fl} {ds : List D} (ih : leH I H) (bh : leH A.B H) (h : EAt A I H (.nd (.obj ci ns) f ds) v) : ∃ a dx vs, v = .ref a ∧ ns.length = vs.length ∧ H a = some (.ins (A.g.G ci) dx (ns.zip vs)) ∧ ∃ fp, RL A.g I A.B H ds vs fp := by
  obtain ⟨fp, h⟩ := h
  cases f with
  | own =>
    rw [R] at h
    obtain ⟨p, vs, fq, e, _, ⟨hl, dx, c⟩, h⟩ := h
    exact ⟨p, dx, vs, e, hl, c, fq, h⟩
  | frz =>
    rw [R] at h
    obtain ⟨p, vs, e, _, ⟨hl, dx, c⟩, h⟩ := h
    exact ⟨p, dx, vs, e, hl, ih _ _ c, [], RL.keep ds h (leH.refl _) (noH_le _) fun a ha => by cases ha⟩
  | bor =>
    rw [R] at h
    obtain ⟨p, vs, e, _, ⟨hl, dx, c⟩, h⟩ := h
    exact ⟨p, dx, vs, e, hl, bh _ _ c, [], RL.keep ds h (leH.refl _) (leH.refl _) fun a ha => by cases ha⟩
/-- the classes whose instances have f as a field of their own -/
def FldC (K : PySem.W.Frag) (G : Nat → Addr) (cs : List Nat) (f : Str) : Prop := ∀ c, cs.contains c = true → Cls K (G c) ∧ NoAttr K (G c) f
def fFld (cs : List Nat) (f : Str) : List D → Option D
  | [.nd (.obj ci ns) _ ds] => if cs.contains ci then (ixS ns f).bind fun j => (ds[j]?).bind fun x => if Lc.noOwn x then some x else none else none
  | _ => none
theorem os_fld {cs : List Nat} {f : Str} (fc : FldC A.g.K A.g.G cs f) : OpS A (fFld cs f) (r1 fun x H Q => ∃ a C dx fs v, x = .ref a ∧ H a = some (.ins C dx fs) ∧ Cls A.g.K C ∧ NoAttr A.g.K C f ∧ fs.lookup f = some v ∧ Q v H) := fun I H ds vs Q d ih bh P e q => by
  unfold fFld at e
  split at e
  · rename_i ci ns fl xs
    obtain ⟨u, rfl, h1⟩ := Paired.one P
    by_cases hc : cs.contains ci = true
    · rw [if_pos hc] at e
      obtain ⟨j, e1, e⟩ := Option.bind_eq_some_iff.mp e
      obtain ⟨x, e2, e⟩ := Option.bind_eq_some_iff.mp e
      by_cases n : Lc.noOwn x = true
      · rw [if_pos n] at e
        cases e
        obtain ⟨a, dx, ws, rfl, hl, ha, fp, l⟩ := h1.obj ih bh
        obtain ⟨w, fn, e5, rr⟩ := RL.get l e2
        obtain ⟨c1, c2⟩ := fc ci hc
        have := R.noOwn d rr n
        subst this
        exact ⟨_, rfl, a, _, dx, _, w, rfl, ha, c1, c2, look_some e1 e5, q w I H (.leaf rr)⟩
      · rw [if_neg n] at e
        cases e
    · rw [if_neg hc] at e
      cases e
  · cases e

variable {k : Nat} {f C g : Addr} {fd : FuncData} {ps : List Str} {sp : Sp} {dvs : List V} {ds : List Value} {E : L2.St → XK} {x m n : Str} {p0 pos apos : Pos} {e oe : Expr} {es : List Expr} {t : TA} {ta : TE}
theorem PE_fld {cs : List Nat} {mo : Ctx → ER} (hK : A.g.K = X.K) (fc : FldC X.K A.g.G cs n) (he : PE X oe (tE A W mo)) (hb : attributeBase oe n X.env (eval oe X.env) = eval oe X.env := by rfl) : PE X (.Attribute oe n pos) (tE A W (eOp (fFld cs n) [mo])) :=
  PE.imp (pe_fld he hb) fun σ H Q h => tE.mono (tA_one (tE_op (os_fld (hK ▸ fc)) σ H Q h)) fun x H1 h1 => by
    obtain ⟨x', e, h1⟩ := h1
    cases e
    rw [← hK]
    exact h1

/-! o.f = e -/
def fSetF (cs : List Nat) (n : Str) : Kd → List D → List D → Option Mut
  | .obj ci ns, xs, [_] => if cs.contains ci && decide (ns.length < 1000) then (match ixS ns n with
      | none => some ⟨.obj ci (ns ++ [n]), List.range (xs.length + 1), .inr .non⟩
      | some j => some ⟨.obj ci ns, setJs xs.length j xs.length, .inr .non⟩) else none
  | _, _, _ => none
def rSetF (K : PySem.W.Frag) (n : Str) : V → List V → Hp → VK → Prop := fun x ws H Q => ∃ v, ws = [v] ∧ ∃ a C dx fs, x = .ref a ∧ H a = some (.ins C dx fs) ∧ Cls K C ∧ NoAttr K C n ∧ fs.length < 1000 ∧ Q .non (upd H a (.ins C dx (putF n v fs)))
theorem ms_setF {cs : List Nat} (fc : FldC A.g.K A.g.G cs n) : MutS A (fSetF cs n) (rSetF A.g.K n) := fun I H l k kxs kvs ds ws Q m ih bh ho pk pd e q => by
  unfold fSetF at e
  split at e
  · rename_i xs ci ns d
    obtain ⟨w, rfl, hw⟩ := Paired.one pd
    by_cases hc : (cs.contains ci && decide (ns.length < 1000)) = true
    · rw [if_pos hc] at e
      rw [Bool.and_eq_true, decide_eq_true_eq] at hc
      obtain ⟨c1, c2⟩ := fc ci hc.1
      obtain ⟨hl, dx, hH⟩ : ns.length = kvs.length ∧ ∃ dx, H l = some (.ins (A.g.G ci) dx (ns.zip kvs)) := ho
      have hlen := pk.length
      refine ⟨w, rfl, l, _, dx, _, rfl, hH, c1, c2, by rw [List.length_zip]; omega, ?_⟩
      cases ej : ixS ns n with
      | none =>
        rw [ej] at e
        cases e
        rw [putF_new hl ej]
        refine q _ .non .non ?_ resNon
        have : kxs.length + 1 = (kvs ++ [w]).length := by rw [List.length_append, hlen]; rfl
        dsimp only
        rw [this, pick_range]
        exact ⟨by rw [List.length_append, List.length_append, hl]; rfl, dx, upd_same⟩
      | some j =>
        rw [ej] at e
        cases e
        rw [putF_old hl ej]
        refine q _ .non .non ?_ resNon
        have : (kvs ++ [w])[kvs.length]? = some w := by simp
        dsimp only
        rw [hlen, pick_set _ _ _ _ _ this]
        exact ⟨by rw [List.length_set]; exact hl, dx, upd_same⟩
    · rw [if_neg hc] at e
      cases e
  · cases e
def sSetF (f : Kd → List D → List D → Option Mut) (mv mo : Ctx → ER) : Ctx → SR := fun c => match mv c with
  | .ok (.t d) c1 => match mo c1 with
    | .ok (.pl r p) c2 => match nodeAt c2 r p with
      | some (k, ys) => match f k ys [d] with
        | some m => match mutAt m r p (ys ++ [d]) c2 with
          | some (_, c3) => .nx c3
          | none => .bad
        | none => .bad
      | none => .bad
    | .exc k n x c2 => .exc k n x c2
    | _ => .bad
  | .exc k n x c1 => .exc k n x c1
  | _ => .bad
theorem tSetF_of {f : Kd → List D → List D → Option Mut} {rr : V → List V → Hp → VK → Prop} {mv mo : Ctx → ER} {D' : Ends} (mS : MutS A f rr) (h : tS A W (sSetF f mv mo) D' σ H) : tE A W mv σ H fun y H1 => tE A W mo σ H1 fun x H2 => rr x [y] H2 fun _ H3 => D'.nx σ H3 := by
  obtain ⟨I, c, O, lk, S, h⟩ := h
  refine ⟨I, c, [], O, lk, S, ?_⟩
  rw [sSetF] at h
  cases e1 : mv c with
  | bad => rw [e1] at h; exact h.elim
  | exc k n x c1 => rw [e1] at h; exact h σ
  | ok ev c1 =>
    rw [e1] at h
    cases ev with
    | pl r p => exact h.elim
    | t d =>
      dsimp only at h
      intro v I1 H1 O1 S1
      refine ⟨I1, c1, [(d, v)], O1, lk, S1, ?_⟩
      cases e2 : mo c1 with
      | bad => rw [e2] at h; exact h.elim
      | exc k n x c2 =>
        rw [e2] at h
        exact XP.more (ts := []) (h σ)
      | ok ev2 c2 =>
        rw [e2] at h
        cases ev2 with
        | t _ => exact h.elim
        | pl r p =>
          dsimp only at h
          intro vo I2 H2 O2 S2 pv2
          cases e4 : nodeAt c2 r p with
          | none => rw [e4] at h; exact h.elim
          | some kk =>
            obtain ⟨k, ys⟩ := kk
            rw [e4] at h
            dsimp only at h
            cases e5 : f k ys [d] with
            | none => rw [e5] at h; exact h.elim
            | some m =>
              rw [e5] at h
              dsimp only at h
              cases e6 : mutAt m r p (ys ++ [d]) c2 with
              | none => rw [e6] at h; exact h.elim
              | some dc =>
                obtain ⟨d2, c4⟩ := dc
                rw [e6] at h
                dsimp only at h
                obtain ⟨f1, r1, n1, l1⟩ := S2.tmps 0 d v (by simp)
                exact Sat.mutAt (ts := []) (xs := [(d, v)]) (ws := [v]) (fa := f1 ++ []) (Q := fun _ H' => D'.nx σ H') mS (by simpa using S2) pv2 e4 (by
                  rw [RL]
                  exact ⟨v, [], f1, [], rfl, rfl, r1, by rw [RL]; exact ⟨rfl, rfl⟩⟩) (by rw [List.append_nil]; exact n1) (fun a ha => by
                  rw [List.append_nil] at ha
                  exact ⟨0, l1 a ha, Nat.zero_le _⟩) e5 e6 fun v' H' O' S' => h σ I2 H' O' (Sat.pop (ts := []) (xs := [(d2, v')]) S')
theorem PS_setF {cs : List Nat} {mv mo : Ctx → ER} {pos' : Pos} (hK : A.g.K = X.K) (fc : FldC X.K A.g.G cs n) (hv : PE X e (tE A W mv)) (ho : PE X oe (tE A W mo)) (hs : swapsWith e (some (.Attribute oe n pos')) pos.line X.env = pure false := by rfl) :
    PS X (.Assign [.Attribute oe n pos'] e pos) (tS A W (sSetF (fSetF cs n) mv mo)) :=
  PS.imp (ps_fld ho hv hs) fun D' σ H h => tE.mono (tSetF_of (ms_setF (hK ▸ fc)) h) fun y H1 h1 => tE.mono h1 fun x H2 h2 => by
    obtain ⟨v, ew, h2⟩ := h2
    cases ew
    rw [← hK]
    exact h2

/-! ### methods -/
/-- an instance of the class, without a field of that name -/
def isObj (ci : Nat) (n : Str) : D → Bool
  | .nd (.obj c' ns) _ _ => decide (c' = ci) && (ixS ns n).isNone
  | _ => false
theorem isObj_ok {ci : Nat} : ∀ {d : D}, isObj ci n d = true → ∃ ns f ds, d = .nd (.obj ci ns) f ds ∧ (ixS ns n).isNone = true
  | .nd (.obj c' ns) f ds, h => by
    rw [isObj, Bool.and_eq_true, decide_eq_true_eq] at h
    obtain ⟨rfl, h⟩ := h
    exact ⟨ns, f, ds, rfl, h⟩
  | .nd .lst _ _, h => by cases h
  | .nd .scr _ _, h => by cases h
  | .nd (.dct _) _ _, h => by cases h
  | .nd (.dcT _) _ _, h => by cases h
  | .non, h => by cases h
  | .bl _, h => by cases h
  | .int _, h => by cases h
  | .str _, h => by cases h
  | .ty _, h => by cases h
  | .tup _, h => by cases h
  | .exn _ _ _, h => by cases h
def eChk (ci : Nat) (n : Str) (mo : Ctx → ER) : Ctx → ER := fun c => match mo c with
  | .ok e c1 => match val c1 e with
    | some d => if isObj ci n d then .ok e c1 else .bad
    | none => .bad
  | .exc k n x c1 => .exc k n x c1
  | .bad => .bad
theorem Sat.evAt {ev : EV} {v : V} {d : D} (S : Sat A I H σ c (ts ++ tmpsOf [ev] [v]) O (lksOf [ev] [v] ++ lk)) (e : val c ev = some d) : EAt A I H d v := by
  have P := Sat.valsOf (es := [ev]) (vs := [v]) (ds := [d]) (ts := ts) (lk := lk) rfl (by rw [Lc.valsOf, e]; rfl) S
  obtain ⟨_, q, h⟩ := Paired.one P
  cases q
  exact h
theorem tE_chk {ci : Nat} {mo : Ctx → ER} {Q : VK} (h : tE A W (eChk ci n mo) σ H Q) : tE A W mo σ H fun x H1 => (∃ a dx fs, x = .ref a ∧ H1 a = some (.ins (A.g.G ci) dx fs) ∧ fs.lookup n = none) ∧ Q x H1 := by
  obtain ⟨I, c, ts, O, lk, S, h⟩ := h
  refine ⟨I, c, ts, O, lk, S, ?_⟩
  rw [eChk] at h
  have key : ∀ {I' H' : Hp} {d : D} {v : V} {ns : List Str} {f : Fl} {ds : List D}, leH I' H' → leH A.B H' → EAt A I' H' d v → d = .nd (.obj ci ns) f ds → (ixS ns n).isNone = true → ∃ a dx fs, v = .ref a ∧ H' a = some (.ins (A.g.G ci) dx fs) ∧ fs.lookup n = none := fun {I' H' d v ns f ds} ih bh h e q => by
    subst e
    obtain ⟨a, dx, vs, e, _, ha, _⟩ := h.obj ih bh
    exact ⟨a, dx, _, e, ha, look_none (Option.isNone_iff_eq_none.mp q)⟩
  cases e : mo c with
  | bad => rw [e] at h; exact h
  | exc k n x c1 => rw [e] at h; exact h
  | ok ev c1 =>
    rw [e] at h
    dsimp only at h
    cases e2 : val c1 ev with
    | none => rw [e2] at h; exact h.elim
    | some d0 =>
      rw [e2] at h
      dsimp only at h
      by_cases hi : isObj ci n d0 = true
      · rw [if_pos hi] at h
        obtain ⟨ns, f, ds, rfl, q⟩ := isObj_ok hi
        cases ev with
        | t d =>
          dsimp only at h ⊢
          intro v I' H' O' S'
          rw [val] at e2
          cases e2
          obtain ⟨fp, rr, _⟩ := S'.last
          exact ⟨key S'.ih S'.bh ⟨fp, rr⟩ rfl q, h v I' H' O' S'⟩
        | pl r p =>
          dsimp only at h ⊢
          intro v I' H' O' S' pv
          have S2 := S'.locked pv
          have := Sat.evAt (ts := ts) (ev := .pl r p) (v := v) (lk := lk) (c := { c1 with k := (r, p) :: c1.k }) (by
            simpa [tmpsOf, lksOf] using S2) (d := .nd (.obj ci ns) f ds) (by
            rw [val] at e2 ⊢
            exact e2)
          exact ⟨key S'.ih S'.bh this rfl q, h v I' H' O' S' pv⟩
      · rw [if_neg hi] at h
        exact h.elim
def tMethSD (C : Addr) (n : Str) (sp : Sp) (dvs : List V) (E : L2.St → XK) (ta : TE) (t : TA) : TE := fun σ H Q => ta σ H fun x H1 => (∃ a dx fs, x = .ref a ∧ H1 a = some (.ins C dx fs) ∧ fs.lookup n = none) ∧ t σ H1 fun vs H2 => sp (x :: (vs ++ dvs)) H2 Q (E σ)
theorem tE_meth {ci : Nat} {ms : List Bool} {nl : Nat} {body : Ctx → SR} {mo : Ctx → ER} {args : List (Ctx → ER)} {dds : List D} {dvs : List V} (hdv : Dv A.g dds dvs) : ∀ σ H Q, tE A W (eCall ms (runF ms nl body) (eChk ci n mo :: args) dds) σ H Q →
    tMethSD (A.g.G ci) n (spF A.g.G A.g.K ms nl body) dvs (WE W) (tE A W mo) (tA' A W (eArgs args)) σ H Q := fun σ H Q h =>
  tE.mono (tE_chk (tA_cons _ _ _ (tE_call hdv σ H Q h))) fun x H1 h1 => h1
variable {pl : Sem Bool}
theorem pe_methSD {CX : CXT} (he : PE X oe ta) (c : Cls X.K C) (hm : Meth X.K C n f) (F : FnOk X.prog X.w X.K X.mg X.base CX k f fd ps sp) (hr : Room k X.A) (hb : Binds X.K fd ps ds) (hd : Vals dvs ds) (hx : ∀ σ, PassesAt CX X σ (E σ)) (ha : PA X (e :: es) t)
    (hst : starEach (e :: es) X.env = (false, eval e X.env) :: starEach es X.env := by rfl) (hpl : (backTo pos (starEach es X.env)).any (·.1) = false := by rfl)
    (ht : eval (.Call (.Attribute oe n apos) (e :: es) [] pos) X.env = (do
      let ov ← eval oe X.env
      standAt apos.atName
      let (f, first) ← holding [ov] (getMethod ov n pl)
      callWith pos f first (backTo pos (starEach (e :: es) X.env)) (backToKw pos (keywordEach [] X.env))) := by rfl) :
    PE X (.Call (.Attribute oe n apos) (e :: es) [] pos) (tMethSD C n sp dvs E ta t) := by
  refine ⟨fun pins s σ H Q J h => ?_⟩
  refine PySem.W.methodCall_KW (pl := pl) (thn (he.run pins s σ H _ J h) fun u s1 ⟨x, H1, J1, rx, ⟨a, dx, fs, ex, ea, l⟩, q⟩ => ?_) ht
  subst ex
  obtain rfl : u = Value.ref a := rx
  refine getmeth_ok J1 ea c hm l ?_
  refine PySem.W.callWith_K (first := [.ref a]) (h₀ := X.base) J.ok.mod.kin hm.kp (thn (ha.run pos pins s1 σ H1 _ J1 q) fun us s2 ⟨vs, H2, J2, r, q2⟩ => ⟨J2.kIn, ?_⟩) hst hpl
  exact run_fnSD (us := .ref a :: us) (vs := .ref a :: vs) F hr hb hd (hx σ) J2 (.cons rfl r) q2
theorem pe_methSD0 {CX : CXT} (he : PE X oe ta) (c : Cls X.K C) (hm : Meth X.K C n f) (F : FnOk X.prog X.w X.K X.mg X.base CX k f fd ps sp) (hr : Room k X.A) (hb : Binds X.K fd ps ds) (hd : Vals dvs ds) (hx : ∀ σ, PassesAt CX X σ (E σ))
    (ht : eval (.Call (.Attribute oe n apos) [] [] pos) X.env = (do
      let ov ← eval oe X.env
      standAt apos.atName
      let (f, first) ← holding [ov] (getMethod ov n pl)
      callWith pos f first (backTo pos (starEach [] X.env)) (backToKw pos (keywordEach [] X.env))) := by rfl) :
    PE X (.Call (.Attribute oe n apos) [] [] pos) (tMethSD C n sp dvs E ta tNil) := by
  refine ⟨fun pins s σ H Q J h => ?_⟩
  refine PySem.W.methodCall_KW (pl := pl) (thn (he.run pins s σ H _ J h) fun u s1 ⟨x, H1, J1, rx, ⟨a, dx, fs, ex, ea, l⟩, q⟩ => ?_) ht
  subst ex
  obtain rfl : u = Value.ref a := rx
  refine getmeth_ok J1 ea c hm l ?_
  exact PySem.W.callWith_K0 (first := [.ref a]) J1.kIn hm.kp (run_fnSD (us := [.ref a]) (vs := [.ref a]) F hr hb hd (hx σ) J1 (.cons rfl .nil) q)
end
end Lc
end
section
set_option Elab.async false
set_option linter.all false
set_option maxRecDepth 100000
set_option maxHeartbeats 1000000
namespace Lc
open PySem L2

/-! ### own operators: a def that the machine calls for ==, str(..); nothing is raised there -/
def noE : XK := fun _ _ _ => False
theorem passNo {X : Cx} : Passes (L2.CX X.prog X.w) X noE := fun pins σ H s e s' J c => by
  obtain ⟨a, B, H', cls, d, _, _, _, _, _, _, _, z⟩ := c
  exact z.elim
def eOwn (chk : List D → Bool) (pst : D → Bool) (ms : List Bool) (Φ : List D → FR) (args : List (Ctx → ER)) : Ctx → ER := fun c => match eArgs args c with
  | .ok es c2 => match valsOf c2 es with
    | some ds => if chk ds then (match eCall ms Φ args [] c with
        | .ok (.t d) c3 => if pst d then .ok (.t d) c3 else .bad
        | _ => .bad) else .bad
    | none => .bad
  | .exc k n x c1 => .exc k n x c1
  | .bad => .bad
section
variable {A : Act} {W : Wx} {X : Cx} {I H I' H' : Hp} {σ σ' : St} {c c' : Ctx} {ts xs : List (D × V)} {O O' : Addr → Option Ow} {lk : List (Nat × List Nat × V)} {d : D} {v : V} {w : Ow} {r : Nat} {p : List Nat}
theorem tE_own {chk : List D → Bool} {pst : D → Bool} {ms : List Bool} {nl : Nat} {body : Ctx → SR} {args : List (Ctx → ER)} {Q : VK} (h : tE A W (eOwn chk pst ms (runF ms nl body) args) σ H Q) :
    tA' A W (eArgs args) σ H fun vs H2 => (∃ I ds, leH I H2 ∧ leH A.B H2 ∧ Paired (EAt A I H2) ds vs ∧ chk ds = true) ∧ spF A.g.G A.g.K ms nl body vs H2 (fun z H3 => (∃ I d, EAt A I H3 d z ∧ pst d = true) ∧ Q z H3) noE := by
  obtain ⟨I, c, ts, O, lk, S, h⟩ := h
  refine ⟨I, c, ts, O, lk, S, ?_⟩
  rw [eOwn] at h
  cases e : eArgs args c with
  | bad => rw [e] at h; exact h
  | exc k n x c1 => rw [e] at h; exact h
  | ok es c2 =>
    rw [e] at h
    dsimp only at h
    intro vs I2 H2 O2 hl S2
    cases e2 : valsOf c2 es with
    | none => rw [e2] at h; exact h.elim
    | some ds =>
      rw [e2] at h
      dsimp only at h
      by_cases hc : chk ds = true
      · rw [if_pos hc] at h
        refine ⟨⟨I2, ds, S2.ih, S2.bh, Sat.valsOf hl e2 S2, hc⟩, ?_⟩
        have hw := call_w (W := W0) (dds := []) (dvs := []) (ms := ms) (nl := nl) (body := body) (args := args) (Q := fun z H3 => (∃ I d, EAt A I H3 d z ∧ pst d = true) ∧ Q z H3) .nil S (by
          cases q : eCall ms (runF ms nl body) args [] c with
          | bad => rw [q] at h; exact h.elim
          | exc k n x c1 => rw [q] at h; exact h.elim
          | ok ev c3 =>
            rw [q] at h
            cases ev with
            | pl r p => exact h.elim
            | t d =>
              dsimp only at h ⊢
              by_cases hp : pst d = true
              · rw [if_pos hp] at h
                intro v I' H' O' S'
                obtain ⟨fp, rr, _⟩ := S'.last
                exact ⟨⟨I', d, ⟨fp, rr⟩, hp⟩, h v I' H' O' S'⟩
              · rw [if_neg hp] at h
                exact h.elim)
        rw [e] at hw
        have := hw vs I2 H2 O2 hl S2
        rw [List.append_nil] at this
        exact this
      · rw [if_neg hc] at h
        exact h.elim
variable {k j : Nat} {f C g : Addr} {fd : FuncData} {ps : List Str} {sp : Sp} {dvs : List V} {ds : List Value} {E : XK} {x m n : Str} {p0 pos apos : Pos} {e oe ae be : Expr} {es : List Expr} {t : TA} {ta : TE}
theorem op_eqOwn (hs : PySem.W.findIn X.K (.ref C) "__eq__" = some (some (.ref f))) (hf : PySem.W.isFn X.K (.ref f) = true) (F : FnOk X.prog X.w X.K X.mg X.base (L2.CX X.prog X.w) k f fd ps sp) (hr : Room k X.A) (hb : Binds X.K fd ps []) :
    OpR X (compareOp .Eq) (fun x y H Q => ∃ a dx fs b dy gs, x = .ref a ∧ y = .ref b ∧ H a = some (.ins C dx fs) ∧ H b = some (.ins C dy gs) ∧ sp [x, y] H Q noE) := by
  intro pins s σ H x y v u Q J rx ry h
  obtain ⟨a, dx, fs, b, dy, gs, rfl, rfl, ha, hb', q⟩ := h
  cases (show v = Value.ref a from rx)
  cases (show u = Value.ref b from ry)
  obtain ⟨mA, Oa, _⟩ := ins_get J.hok ha
  obtain ⟨mB, Ob, _⟩ := ins_get J.hok hb'
  obtain ⟨oa, Ja, _⟩ := Oa.look
  obtain ⟨ob, Jb, _⟩ := Ob.look
  obtain ⟨mm, hF⟩ := J.fr
  show wpAny _ _ (richCompare .Eq (.ref a) (.ref b)) _ _ _
  refine PySem.W.cmp_K (op := .Eq) (tb := .ref C) hr.units0 hF J.ok.mod.kin Ja Jb.type (by
    unfold PySem.W.notFirst
    simp) hs hf ?_
  refine wpAny_mono (run_fn (us := [.ref a, .ref b]) (vs := [.ref a, .ref b]) F hr hb .nil passNo J (.cons rfl (.cons rfl .nil)) (by rw [List.append_nil]; exact q)) (fun w s' z => ?_) fun _ _ x => x
  obtain ⟨z', H', J', rz, qz⟩ := z
  exact SlX.cmpback rz ⟨z', H', J', rz, qz⟩

theorem spF_imp {G : Nat → Addr} {K : PySem.W.Frag} {ms : List Bool} {nl : Nat} {body : Ctx → SR} {vs : List V} {Q Q' : VK} {E : XK} (h : spF G K ms nl body vs H Q E) (q : ∀ z H', Q z H' → Q' z H') : spF G K ms nl body vs H Q' E := by
  obtain ⟨hl, A, I, O, ds, hg, hk, hd, S, h⟩ := h
  refine ⟨hl, A, I, O, ds, hg, hk, hd, S, ?_⟩
  cases e : body (initC ms nl ds) with
  | bad => rw [e] at h; exact h
  | bk c3 => rw [e] at h; exact h
  | ct c3 => rw [e] at h; exact h
  | nx c3 => rw [e] at h; exact fun σ' I' H' O' S' => q _ _ (h σ' I' H' O' S')
  | rt d c3 => rw [e] at h; exact fun v σ' I' H' O' S' => q _ _ (h v σ' I' H' O' S')
  | exc k n x c3 => rw [e] at h; exact h

/-- x == y of two instances of the class -/
def isOb (ci : Nat) : D → Bool
  | .nd (.obj c' _) _ _ => decide (c' = ci)
  | _ => false
theorem isOb_ok {ci : Nat} : ∀ {d : D}, isOb ci d = true → ∃ ns f ds, d = .nd (.obj ci ns) f ds
  | .nd (.obj c' ns) f ds, h => by
    rw [isOb, decide_eq_true_eq] at h
    subst h
    exact ⟨ns, f, ds, rfl⟩
  | .nd .lst _ _, h => by cases h
  | .nd .scr _ _, h => by cases h
  | .nd (.dct _) _ _, h => by cases h
  | .nd (.dcT _) _ _, h => by cases h
  | .non, h => by cases h
  | .bl _, h => by cases h
  | .int _, h => by cases h
  | .str _, h => by cases h
  | .ty _, h => by cases h
  | .tup _, h => by cases h
  | .exn _ _ _, h => by cases h
def chk1 (ci : Nat) (ds : List D) : Bool := ds.all (isOb ci)
theorem obs_at {ci : Nat} : ∀ {ds : List D} {vs : List V}, leH I H → leH A.B H → Paired (EAt A I H) ds vs → chk1 ci ds = true → ∀ v ∈ vs, ∃ a dx fs, v = .ref a ∧ H a = some (.ins (A.g.G ci) dx fs)
  | _, _, _, _, .nil, _, v, hv => by cases hv
  | _, _, ih, bh, .cons h t, hc, v, hv => by
    rw [chk1, List.all_cons, Bool.and_eq_true] at hc
    rcases List.mem_cons.mp hv with rfl | hv
    · obtain ⟨ns, f, ds, rfl⟩ := isOb_ok hc.1
      obtain ⟨a, dx, vs, e, _, ha, _⟩ := h.obj ih bh
      exact ⟨a, dx, _, e, ha⟩
    · exact obs_at ih bh t hc.2 v hv
def anyD : D → Bool := fun _ => true
theorem PE_eqOwn {ci : Nat} {nl : Nat} {body : Ctx → SR} {Φ : List D → FR} {ma mb : Ctx → ER} (hs : PySem.W.findIn X.K (.ref (A.g.G ci)) "__eq__" = some (some (.ref f))) (hf : PySem.W.isFn X.K (.ref f) = true) (F : FnOk X.prog X.w X.K X.mg X.base (L2.CX X.prog X.w) k f fd ps (spF A.g.G X.K [false, false] nl body)) (hb' : Binds X.K fd ps [])
    (o : On X A.g) (hΦ : Φ = runF [false, false] nl body) (hr : Room k X.A) (ha : PE X ae (tE A W ma)) (hb : PE X be (tE A W mb)) : PE X (.Compare ae [.Eq] [be] pos) (tE A W (eOwn (chk1 ci) anyD [false, false] Φ [ma, mb])) := by
  subst hΦ
  refine PE.imp (pe_cmpR (op_eqOwn hs hf F hr hb') ha hb (nomark _)) fun σ H Q h => ?_
  refine tE.mono (tA_two (tE_own h)) fun x H1 h1 => tE.mono h1 fun y H2 h2 => ?_
  obtain ⟨⟨I, ds, ih, bh, P, hc⟩, q⟩ := h2
  have hall := obs_at ih bh P hc
  obtain ⟨a, dx, fs, e1, g1⟩ := hall x (by simp)
  obtain ⟨b, dy, gs, e2, g2⟩ := hall y (by simp)
  refine ⟨a, dx, fs, b, dy, gs, e1, e2, g1, g2, ?_⟩
  rw [o.k] at q
  exact spF_imp q fun z H3 h3 => h3.2

/-! str(x) of an instance -/
theorem call_strOwn (hs : PySem.W.findIn X.K (.ref C) "__str__" = some (some (.ref f))) (hf : PySem.W.isFn X.K (.ref f) = true) (F : FnOk X.prog X.w X.K X.mg X.base (L2.CX X.prog X.w) k f fd ps sp) (hr : Room (k + 2) X.A) (hb : Binds X.K fd ps []) :
    CallR X (.type "str") (fun xs H Q => ∃ a dx fs, xs = [.ref a] ∧ H a = some (.ins C dx fs) ∧ sp [.ref a] H (fun z H' => (∃ y, z = .str y) ∧ Q z H') noE) := by
  intro pins s σ H xs us Q J r h
  obtain ⟨a, dx, fs, rfl, ha, q⟩ := h
  obtain ⟨u, rfl, ru⟩ := r.one
  cases (show u = Value.ref a from ru)
  obtain ⟨mA, Oa, _⟩ := ins_get J.hok ha
  obtain ⟨oa, Ja, _⟩ := Oa.look
  have hr2 : Room k X.A.in1.in1 := (show Room (k + 1) X.A.in1 from Room.in1 hr).in1
  refine PySem.W.kso_call hr2.units0 J.kIn Ja hs hf (wpAny_mono (wpAny_call (SlX.run_at (us := [.ref a]) (ws := [.ref a]) (FnOk.raw F hb .nil) hr2 J.env0.in1.in1 passNo J (.cons rfl .nil) (by rw [List.append_nil]; exact q))) (fun w s' z => ?_) fun _ _ x => x)
  obtain ⟨z', H', J', rz, ⟨y, ey⟩, qz⟩ := z
  subst ey
  obtain ⟨t, e⟩ := (show ∃ t, w = Value.str y t from rz)
  cases e
  exact ⟨.str y, H', J', ⟨t, rfl⟩, qz⟩
def isStrD : D → Bool
  | .str _ => true
  | _ => false
theorem PE_strOwn {ci : Nat} {nl : Nat} {body : Ctx → SR} {Φ : List D → FR} {ma : Ctx → ER} (hs : PySem.W.findIn X.K (.ref (A.g.G ci)) "__str__" = some (some (.ref f))) (hf : PySem.W.isFn X.K (.ref f) = true) (F : FnOk X.prog X.w X.K X.mg X.base (L2.CX X.prog X.w) k f fd ps (spF A.g.G X.K [false] nl body)) (hb' : Binds X.K fd ps [])
    (o : On X A.g) (hΦ : Φ = runF [false] nl body) (hr : Room (k + 2) X.A) (hg : Gl X "str") (hm : X.mg "str" = none) (ha : PA X [e] (tA' A W (eArgs [ma])))
    (he : starEach [e] X.env = (false, eval e X.env) :: starEach [] X.env := by rfl) (hpl : (backTo pos (starEach [] X.env)).any (·.1) = false := by rfl) : PE X (.Call (.Name "str" p0) [e] [] pos) (tE A W (eOwn (chk1 ci) isStrD [false] Φ [ma])) := by
  subst hΦ
  refine PE.imp (pe_callTy (call_strOwn hs hf F hr hb') hg hm (by decide +kernel) ha (by decide) (by decide) he hpl) fun σ H Q h => ?_
  obtain ⟨I, c, ts, O, lk, S, h⟩ := tE_own h
  refine ⟨I, c, ts, O, lk, S, ?_⟩
  cases e : eArgs [ma] c with
  | bad => rw [e] at h; exact h
  | exc k n x c1 => rw [e] at h; exact h
  | ok es c2 =>
    rw [e] at h
    intro vs I2 H2 O2 hl S2
    obtain ⟨⟨I3, ds, ih, bh, P, hc⟩, q⟩ := h vs I2 H2 O2 hl S2
    have hv : vs.length = 1 := by
      have := q.1
      simpa using this
    match vs, hv with
    | [v], _ =>
      obtain ⟨a, dx, fs, e1, g1⟩ := obs_at ih bh P hc v (by simp)
      subst e1
      refine ⟨a, dx, fs, rfl, g1, ?_⟩
      rw [o.k] at q
      refine spF_imp q fun z H3 h3 => ⟨?_, h3.2⟩
      obtain ⟨I4, d, ⟨fp, rr⟩, hp⟩ := h3.1
      cases d with
      | str s =>
        rw [R] at rr
        exact ⟨_, rr.1⟩
      | _ => cases hp

/-! a static method -/
theorem pe_smethSD {mc : Value} {pp : Addr} {dvs : List V} {ds : List Value} {E : L2.St → XK} {CX : CXT} {pl : Sem Bool} (hg : Gl X x) (hm : X.mg x = some (.ref C)) (hdb : (x == ("__debug__" : Str)) = false) (rd : ClX.CRead X.K C mc) (at_ : PySem.W.findCls X.K (.ref C) mc n = some (.get (.builtin "staticmethod.__get__") (.ref pp) .none (.ref C)))
    (rc : ∃ rest, PySem.W.recIn X.K pp "staticmethod" = some (.ref f :: rest)) (kp : PySem.W.keepIn X.K (.ref f) = true) (F : FnOk X.prog X.w X.K X.mg X.base CX k f fd ps sp) (hr : Room k X.A) (hb : Binds X.K fd ps ds) (hd : Vals dvs ds) (hx : ∀ σ, PassesAt CX X σ (E σ)) (ha : PA X (e :: es) t)
    (hst : starEach (e :: es) X.env = (false, eval e X.env) :: starEach es X.env := by rfl) (hpl : (backTo pos (starEach es X.env)).any (·.1) = false := by rfl)
    (ht : eval (.Call (.Attribute (.Name x p0) n apos) (e :: es) [] pos) X.env = (do
      let ov ← eval (.Name x p0) X.env
      standAt apos.atName
      let (f, first) ← holding [ov] (getMethod ov n pl)
      callWith pos f first (backTo pos (starEach (e :: es) X.env)) (backToKw pos (keywordEach [] X.env))) := by rfl) :
    PE X (.Call (.Attribute (.Name x p0) n apos) (e :: es) [] pos) (tCallSD sp dvs E t) := by
  refine ⟨fun pins s σ H Q J h => ?_⟩
  refine PySem.W.methodCall_KW (pl := pl) (thn ((pe_glob (v := .ref C) hg hm rfl hdb).run pins s σ H (fun v H1 => v = .ref C ∧ tCallSD sp dvs E t σ H1 Q) J ⟨rfl, h⟩) fun u s1 ⟨x, H1, J1, rx, ex, q⟩ => ?_) ht
  subst ex
  obtain rfl : u = Value.ref C := rx
  obtain ⟨rest, hp⟩ := rc
  refine PySem.W.method_cls J1.kIn rd.ga (PySem.W.cls_bind J1.kIn rd.rd at_ (wpAny_call (PySem.W.sm_get (s := { s1 with toks := s1.toks + 1 }) J1.kIn hp (PySem.W.handed_on rfl ?_))))
  have J2 := J1.tok (s1.toks + 1)
  refine PySem.W.callWith_K (first := []) (h₀ := X.base) J.ok.mod.kin kp (thn (ha.run pos pins _ σ H1 _ J2 q) fun us s2 ⟨vs, H2, J3, r, q2⟩ => ⟨J3.kIn, ?_⟩) hst hpl
  exact run_fnSD (us := us) (vs := vs) F hr hb hd (hx σ) J3 r q2
end
end Lc
end
section
set_option Elab.async false
set_option linter.all false
set_option maxRecDepth 100000
set_option maxHeartbeats 1000000
namespace Lc
open PySem L2

/-! ### classes: what a call needs -/
/-- a constant's value -/
def cV : D → V
  | .bl b => .bl b
  | .int i => .int i
  | .str s => .str ⟨s.toArray⟩
  | .ty n => .ty n
  | _ => .non
def isC : D → Bool
  | .non => true
  | .bl _ => true
  | .int _ => true
  | .str _ => true
  | .ty _ => true
  | _ => false
theorem cV_R {g : Gs} : ∀ {d : D}, isC d = true → ∀ I B H, R g I B H d (cV d) []
  | .non, _, _, _, _ => by rw [R]; exact ⟨rfl, rfl⟩
  | .bl _, _, _, _, _ => by rw [R]; exact ⟨rfl, rfl⟩
  | .int _, _, _, _, _ => by rw [R]; exact ⟨rfl, rfl⟩
  | .str _, _, _, _, _ => by rw [R]; exact ⟨rfl, rfl⟩
  | .ty _, _, _, _, _ => by rw [R]; exact ⟨rfl, rfl⟩
  | .tup _, h, _, _, _ => by cases h
  | .nd _ _ _, h, _, _, _ => by cases h
  | .exn _ _ _, h, _, _, _ => by cases h
theorem cV_Dv {g : Gs} : ∀ {ds : List D}, ds.all isC = true → Dv g ds (ds.map cV)
  | [], _ => .nil
  | d :: ds, h => by
    rw [List.all_cons, Bool.and_eq_true] at h
    exact .cons (cV_R h.1) (cV_Dv h.2)
/-- C(..): the def __init__, its possible defaults -/
def CalI (P : Program) (w : World) (K : PySem.W.Frag) (mg : Str → Option Value) (base : Heap) (G : Nat → Addr) (x : Str) (ci k : Nat) (ps : List Str) (dvl : List (List D)) (ms : List Bool) (nl : Nat) (body : Ctx → SR) : Prop :=
  ∃ (f : Addr) (fd : FuncData), mg x = some (.ref (G ci)) ∧ Mk K (G ci) f ∧ FnOk P w K mg base (L2.CX P w) k f fd ps (spF G K (true :: ms) nl body) ∧ ∀ dds ∈ dvl, dds.all isC = true ∧ ∃ ds, Binds K fd ps ds ∧ Vals (dds.map cV) ds
/-- o.m(..) -/
def CalM (P : Program) (w : World) (K : PySem.W.Frag) (mg : Str → Option Value) (base : Heap) (G : Nat → Addr) (ci : Nat) (n : Str) (k : Nat) (ps : List Str) (ms : List Bool) (nl : Nat) (body : Ctx → SR) : Prop :=
  ∃ (f : Addr) (fd : FuncData), Cls K (G ci) ∧ Meth K (G ci) n f ∧ FnOk P w K mg base (L2.CX P w) k f fd ps (spF G K ms nl body) ∧ Binds K fd ps []
/-- C.m(..), m a static method -/
def CalS (P : Program) (w : World) (K : PySem.W.Frag) (mg : Str → Option Value) (base : Heap) (G : Nat → Addr) (x : Str) (ci : Nat) (n : Str) (k : Nat) (ps : List Str) (ms : List Bool) (nl : Nat) (body : Ctx → SR) : Prop :=
  ∃ (f : Addr) (fd : FuncData) (pp : Addr), mg x = some (.ref (G ci)) ∧ ClX.CRead K (G ci) (.type "type") ∧ PySem.W.findCls K (.ref (G ci)) (.type "type") n = some (.get (.builtin "staticmethod.__get__") (.ref pp) .none (.ref (G ci))) ∧
    (∃ rest, PySem.W.recIn K pp "staticmethod" = some (.ref f :: rest)) ∧ PySem.W.keepIn K (.ref f) = true ∧ FnOk P w K mg base (L2.CX P w) k f fd ps (spF G K ms nl body) ∧ Binds K fd ps []
section
variable {A : Act} {W : Wx} {X : Cx} {G : Nat → Addr} {ps : List Str} {ms : List Bool} {nl k j ci : Nat} {body : Ctx → SR} {Φ : List D → FR} {x n : Str} {pos pos' apos : Pos} {e oe ae be : Expr} {es : List Expr} {args : List (Ctx → ER)} {mo ma mb : Ctx → ER} {dvl : List (List D)} {dds : List D} {pl : Sem Bool}
theorem PE_makeC (C : CalI X.prog X.w X.K X.mg X.base G x ci k ps dvl ms nl body) (o : On X A.g) (hG : A.g.G = G) (hr : Room j X.A) (tk : Takes X W) (hΦ : Φ = runF (true :: ms) nl body) (hk : k + 1 ≤ j) (hd : dds ∈ dvl) (hg : Gl X x) (ha : PA X (e :: es) (tA' A W (eArgs args)))
    (hdb : (x == ("__debug__" : Str)) = false := by decide) (he : starEach (e :: es) X.env = (false, eval e X.env) :: starEach es X.env := by rfl) (hpl : (backTo pos (starEach es X.env)).any (·.1) = false := by rfl) :
    PE X (.Call (.Name x pos') (e :: es) [] pos) (tE A W (eMake ci ms Φ args dds)) := by
  obtain ⟨f, fd, h1, h2, h3, h4⟩ := C
  obtain ⟨hc, ds, h5, h6⟩ := h4 dds hd
  exact PE_make h2 h3 o hG hΦ (hr.mono hk) hg h1 h5 h6 (cV_Dv hc) tk ha hdb he hpl
theorem PE_methC (C : CalM X.prog X.w X.K X.mg X.base G ci n k ps ms nl body) (o : On X A.g) (hG : A.g.G = G) (hr : Room j X.A) (tk : Takes X W) (hΦ : Φ = runF ms nl body) (hk : k ≤ j) (ho : PE X oe (tE A W mo)) (ha : PA X (e :: es) (tA' A W (eArgs args)))
    (hst : starEach (e :: es) X.env = (false, eval e X.env) :: starEach es X.env := by rfl) (hpl : (backTo pos (starEach es X.env)).any (·.1) = false := by rfl)
    (ht : eval (.Call (.Attribute oe n apos) (e :: es) [] pos) X.env = (do
      let ov ← eval oe X.env
      standAt apos.atName
      let (f, first) ← holding [ov] (getMethod ov n pl)
      callWith pos f first (backTo pos (starEach (e :: es) X.env)) (backToKw pos (keywordEach [] X.env))) := by rfl) :
    PE X (.Call (.Attribute oe n apos) (e :: es) [] pos) (tE A W (eCall ms Φ (eChk ci n mo :: args) [])) := by
  obtain ⟨f, fd, h1, h2, h3, h4⟩ := C
  subst hG
  subst hΦ
  refine PE.imp (pe_methSD (dvs := []) (ds := []) ho h1 h2 h3 (hr.mono hk) h4 .nil (passAt tk) ha hst hpl ht) fun σ H Q h => ?_
  have := tE_meth (ci := ci) (n := n) (dvs := []) .nil σ H Q h
  rw [o.k] at this
  exact this
theorem PE_methC0 (C : CalM X.prog X.w X.K X.mg X.base G ci n k ps ms nl body) (o : On X A.g) (hG : A.g.G = G) (hr : Room j X.A) (tk : Takes X W) (hΦ : Φ = runF ms nl body) (hk : k ≤ j) (ho : PE X oe (tE A W mo))
    (ht : eval (.Call (.Attribute oe n apos) [] [] pos) X.env = (do
      let ov ← eval oe X.env
      standAt apos.atName
      let (f, first) ← holding [ov] (getMethod ov n pl)
      callWith pos f first (backTo pos (starEach [] X.env)) (backToKw pos (keywordEach [] X.env))) := by rfl) :
    PE X (.Call (.Attribute oe n apos) [] [] pos) (tE A W (eCall ms Φ [eChk ci n mo] [])) := by
  obtain ⟨f, fd, h1, h2, h3, h4⟩ := C
  subst hG
  subst hΦ
  refine PE.imp (pe_methSD0 (dvs := []) (ds := []) ho h1 h2 h3 (hr.mono hk) h4 .nil (passAt tk) ht) fun σ H Q h => ?_
  have := tE_meth (ci := ci) (n := n) (args := []) (dvs := []) .nil σ H Q h
  rw [o.k] at this
  exact tE.mono this fun x H1 h1 => ⟨h1.1, tA_nil (A := A) (W := W) σ H1 _ h1.2⟩
theorem PE_smethC (C : CalS X.prog X.w X.K X.mg X.base G x ci n k ps ms nl body) (o : On X A.g) (hG : A.g.G = G) (hr : Room j X.A) (tk : Takes X W) (hΦ : Φ = runF ms nl body) (hk : k ≤ j) (hg : Gl X x) (ha : PA X (e :: es) (tA' A W (eArgs args)))
    (hdb : (x == ("__debug__" : Str)) = false := by decide) (hst : starEach (e :: es) X.env = (false, eval e X.env) :: starEach es X.env := by rfl) (hpl : (backTo pos (starEach es X.env)).any (·.1) = false := by rfl)
    (ht : eval (.Call (.Attribute (.Name x pos') n apos) (e :: es) [] pos) X.env = (do
      let ov ← eval (.Name x pos') X.env
      standAt apos.atName
      let (f, first) ← holding [ov] (getMethod ov n pl)
      callWith pos f first (backTo pos (starEach (e :: es) X.env)) (backToKw pos (keywordEach [] X.env))) := by rfl) :
    PE X (.Call (.Attribute (.Name x pos') n apos) (e :: es) [] pos) (tE A W (eCall ms Φ args [])) := by
  obtain ⟨f, fd, pp, h1, h2, h3, h4, h5, h6, h7⟩ := C
  subst hG
  subst hΦ
  refine PE.imp (pe_smethSD (dvs := []) (ds := []) hg h1 hdb h2 h3 h4 h5 h6 (hr.mono hk) h7 .nil (passAt tk) ha hst hpl ht) fun σ H Q h => ?_
  have := tE_call (A := A) (W := W) (dds := []) (dvs := []) .nil σ H Q h
  rw [o.k] at this
  exact this
theorem PE_eqC (C : CalM X.prog X.w X.K X.mg X.base G ci "__eq__" k ps [false, false] nl body) (o : On X A.g) (hG : A.g.G = G) (hr : Room j X.A) (hΦ : Φ = runF [false, false] nl body) (hk : k ≤ j) (ha : PE X ae (tE A W ma)) (hb : PE X be (tE A W mb)) :
    PE X (.Compare ae [.Eq] [be] pos) (tE A W (eOwn (chk1 ci) anyD [false, false] Φ [ma, mb])) := by
  obtain ⟨f, fd, h1, h2, h3, h4⟩ := C
  subst hG
  exact PE_eqOwn h2.at_ h2.fn h3 h4 o hΦ (hr.mono hk) ha hb
theorem PE_strC (C : CalM X.prog X.w X.K X.mg X.base G ci "__str__" k ps [false] nl body) (o : On X A.g) (hG : A.g.G = G) (hr : Room j X.A) (hΦ : Φ = runF [false] nl body) (hk : k + 2 ≤ j) (hg : Gl X "str") (hm : X.mg "str" = none) (ha : PA X [e] (tA' A W (eArgs [ma])))
    (he : starEach [e] X.env = (false, eval e X.env) :: starEach [] X.env := by rfl) (hpl : (backTo pos (starEach [] X.env)).any (·.1) = false := by rfl) :
    PE X (.Call (.Name "str" pos') [e] [] pos) (tE A W (eOwn (chk1 ci) isStrD [false] Φ [ma])) := by
  obtain ⟨f, fd, h1, h2, h3, h4⟩ := C
  subst hG
  exact PE_strOwn h2.at_ h2.fn h3 h4 o hΦ (hr.mono hk) hg hm ha he hpl
end
end Lc
end
section
set_option Elab.async false
set_option linter.all false
set_option maxRecDepth 100000
set_option maxHeartbeats 1000000
namespace Lc
open PySem L2
section
variable {A : Act} {W : Wx} {X : Cx} {I H I' H' : Hp} {σ σ' : St} {c c' : Ctx} {ts xs : List (D × V)} {O O' : Addr → Option Ow} {lk : List (Nat × List Nat × V)} {d : D} {v : V} {w : Ow} {r : Nat} {p : List Nat}
variable {x m n : Str} {p0 pos apos pos' : Pos} {e oe ae be : Expr} {es : List Expr} {t : TA} {ta : TE} {ma mb me : Ctx → ER} {ms : List (Ctx → ER)}

/-! ### a, b = e -/
def sAsg (t : Tg) (m : Ctx → ER) : Ctx → SR := fun c => match m c with
  | .ok (.t d) c1 => if Lc.noOwn d then (match bindT t d c1 with
      | some c2 => .nx c2
      | none => .bad) else .bad
  | .exc k n x c1 => .exc k n x c1
  | _ => .bad
theorem PS_asgT {tg : Expr} {tt : Tg} (hv : PE X e (tE A W me)) (hg : PG X tg (tG A tt)) (hs : swapsWithSole [tg] e pos.line X.env = pure false := by rfl) (hw : swappedStores [tg] e X.env = pure none := by rfl)
    (h1 : (assignEach [tg] X.env).map (·.2) = [assign tg X.env] := by rfl) : PS X (.Assign [tg] e pos) (tS A W (sAsg tt me)) :=
  PS.imp (ps_asg hv hg hs hw h1) fun D σ H ⟨I, c, O, lk, S, h⟩ => by
    refine ⟨I, c, [], O, lk, S, ?_⟩
    rw [sAsg] at h
    cases e1 : me c with
    | bad => rw [e1] at h; exact h.elim
    | exc k n x c1 => rw [e1] at h; exact h σ
    | ok ev c1 =>
      rw [e1] at h
      cases ev with
      | pl r p => exact h.elim
      | t d =>
        dsimp only at h
        intro v I1 H1 O1 S1
        by_cases no : Lc.noOwn d = true
        · rw [if_pos no] at h
          cases e2 : bindT tt d c1 with
          | none => rw [e2] at h; exact h.elim
          | some c2 =>
            rw [e2] at h
            dsimp only at h
            have S1' : Sat A I1 H1 σ c1 ([] ++ [(d, v)]) O1 lk := S1
            have rr := RO.nil S1'.last no
            exact ⟨I1, c1, [], O1, lk, d, c2, S1'.pop, rr, e2, fun σ' O' S' _ => h σ' I1 H1 O' S'⟩
        · rw [if_neg no] at h
          exact h.elim
/-! a, b = x, y -/
def sPar (is : List Nat) (ms : List (Ctx → ER)) : Ctx → SR := fun c => match eArgs ms c with
  | .ok es c1 => match valsOf c1 es with
    | some ds => if ds.all Lc.noOwn then (match bindTs (is.map .n) ds (unlocks es c1) with
        | some c2 => .nx c2
        | none => .bad) else .bad
    | none => .bad
  | .exc k n x c1 => .exc k n x c1
  | .bad => .bad
def setAll : List Nat → List V → St → St
  | i :: is, v :: vs, σ => setAll is vs (σ.set i (some v))
  | _, _, σ => σ
theorem bindNs : ∀ {is : List Nat} {ds : List D} {vs : List V} {c c' : Ctx} {σ : St}, Sat A I H σ c ts O lk → Paired (fun d v => R A.g I A.B H d v []) ds vs → bindTs (is.map .n) ds c = some c' → is.length = vs.length ∧ Sat A I H (setAll is vs σ) c' ts O lk
  | [], _, _, c, c', σ, S, .nil, h => by
    rw [List.map_nil, bindTs] at h
    cases h
    exact ⟨rfl, S⟩
  | i :: is, _, _, c, c', σ, S, .cons r t, h => by
    rw [List.map_cons, bindTs] at h
    split at h
    · rename_i c1 hb
      rw [bindT] at hb
      split at hb
      · cases hb
      · rename_i h1
        cases hb
        simp only [Bool.or_eq_true, not_or, Bool.not_eq_true, Bool.not_eq_false', decide_eq_true_eq, List.contains_eq_mem, decide_eq_false_iff_not] at h1
        obtain ⟨l, S2⟩ := bindNs (S.bind1 r h1.1.1 h1.1.2) t h
        exact ⟨by rw [List.length_cons, List.length_cons, l], S2⟩
    · cases h
  | [], _, _, c, c', σ, S, .cons r t, h => by
    rw [List.map_nil] at h
    rw [bindTs] at h <;> first | cases h | (intros; contradiction)
  | _ :: _, _, _, c, c', σ, S, .nil, h => by
    rw [List.map_cons] at h
    rw [bindTs] at h <;> first | cases h | (intros; contradiction)
theorem leafs : ∀ {ds : List D} {vs : List V}, Paired (EAt A I H) ds vs → ds.all Lc.noOwn = true → Paired (fun d v => R A.g I A.B H d v []) ds vs
  | _, _, .nil, _ => .nil
  | _, _, .cons ⟨f, r⟩ t, h => by
    rw [List.all_cons, Bool.and_eq_true] at h
    have := R.noOwn _ r h.1
    subst this
    exact .cons r (leafs t h.2)
theorem par_of {is : List Nat} {D' : Ends} (h : tS A W (sPar is ms) D' σ H) : tA' A W (eArgs ms) σ H fun vs H1 => is.length = vs.length ∧ D'.nx (setAll is vs σ) H1 := by
  obtain ⟨I, c, O, lk, S, h⟩ := h
  refine ⟨I, c, [], O, lk, S, ?_⟩
  rw [sPar] at h
  cases e1 : eArgs ms c with
  | bad => rw [e1] at h; exact h.elim
  | exc k n x c1 => rw [e1] at h; exact h σ
  | ok es c1 =>
    rw [e1] at h
    dsimp only at h
    intro vs I1 H1 O1 hlv S1
    cases e2 : valsOf c1 es with
    | none => rw [e2] at h; exact h.elim
    | some ds =>
      rw [e2] at h
      dsimp only at h
      by_cases no : ds.all Lc.noOwn = true
      · rw [if_pos no] at h
        have P := leafs (Sat.valsOf hlv e2 S1) no
        have Su := Sat.pop (ts := []) (Sat.unlockL hlv S1)
        cases e3 : bindTs (is.map .n) ds (unlocks es c1) with
        | none => rw [e3] at h; exact h.elim
        | some c2 =>
          rw [e3] at h
          obtain ⟨l, S2⟩ := bindNs Su P e3
          exact ⟨l, h _ _ _ _ S2⟩
      · rw [if_neg no] at h
        exact h.elim
theorem PS_par2 {i j : Nat} {x y : Str} {a b : Expr} {px py pt : Pos} {kt k2 pt2} (hc : X.calm = true) (hN : X.N.Nodup) (hi : X.N[i]? = some x) (hj : X.N[j]? = some y) (hij : i ≠ j)
    (hx : X.env.scope.names.lookup x = some .local) (hy : X.env.scope.names.lookup y = some .local) (ha : PA X [a, b] (tA' A W (eArgs ms)))
    (hw : swappedStores [.Tuple [.Name x px, .Name y py] kt pt] (.Tuple [a, b] k2 pt2) X.env = pure (some [x, y]))
    (hs : swapsWithSole [.Tuple [.Name x px, .Name y py] kt pt] (.Tuple [a, b] k2 pt2) pos.line X.env = pure false := by rfl) :
    PS X (.Assign [.Tuple [.Name x px, .Name y py] kt pt] (.Tuple [a, b] k2 pt2) pos) (tS A W (sPar [i, j] ms)) :=
  PS.imp (ps_par hc hN hi hj hij hx hy ha hw hs) fun D' σ H h => by
    obtain ⟨I, c, ts, O, lk, S, h⟩ := par_of h
    refine ⟨I, c, ts, O, lk, S, ?_⟩
    cases e1 : eArgs ms c with
    | bad => rw [e1] at h; exact h
    | exc k n x c1 => rw [e1] at h; exact h
    | ok es c1 =>
      rw [e1] at h
      intro vs I1 H1 O1 hlv S1
      obtain ⟨l, q⟩ := h vs I1 H1 O1 hlv S1
      match vs, l, q with
      | [v, w], _, q => exact ⟨v, w, rfl, q⟩
theorem PS_par3 {i j l : Nat} {x y z : Str} {a b c : Expr} {px py pz pt : Pos} {kt k2 pt2} (hc : X.calm = true) (hN : X.N.Nodup) (hi : X.N[i]? = some x) (hj : X.N[j]? = some y) (hl : X.N[l]? = some z) (hij : i ≠ j) (hil : i ≠ l) (hjl : j ≠ l)
    (hx : X.env.scope.names.lookup x = some .local) (hy : X.env.scope.names.lookup y = some .local) (hz : X.env.scope.names.lookup z = some .local) (ha : PA X [a, b, c] (tA' A W (eArgs ms)))
    (hw : swappedStores [.Tuple [.Name x px, .Name y py, .Name z pz] kt pt] (.Tuple [a, b, c] k2 pt2) X.env = pure (some [x, y, z]))
    (hs : swapsWithSole [.Tuple [.Name x px, .Name y py, .Name z pz] kt pt] (.Tuple [a, b, c] k2 pt2) pos.line X.env = pure false := by rfl) :
    PS X (.Assign [.Tuple [.Name x px, .Name y py, .Name z pz] kt pt] (.Tuple [a, b, c] k2 pt2) pos) (tS A W (sPar [i, j, l] ms)) :=
  PS.imp (ps_par3 hc hN hi hj hl hij hil hjl hx hy hz ha hw hs) fun D' σ H h => by
    obtain ⟨I, c, ts, O, lk, S, h⟩ := par_of h
    refine ⟨I, c, ts, O, lk, S, ?_⟩
    cases e1 : eArgs ms c with
    | bad => rw [e1] at h; exact h
    | exc k n x c1 => rw [e1] at h; exact h
    | ok es c1 =>
      rw [e1] at h
      intro vs I1 H1 O1 hlv S1
      obtain ⟨l, q⟩ := h vs I1 H1 O1 hlv S1
      match vs, l, q with
      | [u, v, w], _, q => exact ⟨u, v, w, rfl, q⟩

/-! ### f-strings -/
/-- one part, as a text of no great length -/
def eSb (m : Ctx → ER) : Ctx → ER := fun c => match m c with
  | .ok (.t (.str s)) c' => if s.length ≤ 1000000 then .ok (.t (.str s)) c' else .bad
  | .exc k n x c' => .exc k n x c'
  | _ => .bad
theorem tE_sb {m : Ctx → ER} {Q : VK} (h : tE A W (eSb m) σ H Q) : tE A W m σ H fun y H' => (∃ z : Str, y = .str z ∧ z.length ≤ 1000000) ∧ Q y H' := by
  obtain ⟨I, c, ts, O, lk, S, h⟩ := h
  refine ⟨I, c, ts, O, lk, S, ?_⟩
  rw [eSb] at h
  cases e : m c with
  | bad => rw [e] at h; exact h.elim
  | exc k n x c1 => rw [e] at h; exact h
  | ok ev c1 =>
    rw [e] at h
    cases ev with
    | pl r p => exact h.elim
    | t d =>
      cases d with
      | str s =>
        dsimp only at h ⊢
        by_cases hs : s.length ≤ 1000000
        · rw [if_pos hs] at h
          intro v I1 H1 O1 S1
          obtain ⟨fp, rr, _⟩ := S1.last
          rw [R] at rr
          refine ⟨⟨_, rr.1, ?_⟩, h v I1 H1 O1 S1⟩
          rw [Str.len]
          exact hs
        · rw [if_neg hs] at h
          exact h.elim
      | _ => exact h.elim
/-- {x} of a text -/
def fFm : List D → Option D
  | [.str s] => if s.length ≤ 1000000 then some (.str s) else none
  | _ => none
theorem os_fm : OpS A fFm (r1 fun x H Q => ∃ y : Str, x = .str y ∧ y.length ≤ sizeLine ∧ Q (.str y) H) := fun I H ds vs Q d ih bh P e q => by
  unfold fFm at e
  split at e
  · rename_i s
    obtain ⟨u, rfl, h1⟩ := Paired.one P
    by_cases hs : s.length ≤ 1000000
    · rw [if_pos hs] at e
      cases e
      rw [h1.str]
      refine ⟨_, rfl, _, rfl, ?_, q _ _ _ (.leaf (by rw [R]; exact ⟨rfl, rfl⟩))⟩
      rw [Str.len, sizeLine_eq]
      omega
    · rw [if_neg hs] at e
      cases e
  · cases e
theorem PE_fm (he : PE X e (tE A W me)) : PE X (.FormattedValue e (-1) none pos) (tE A W (eOp fFm [me])) :=
  PE.imp (pe_fmt he) fun σ H Q h => tE.mono (tA_one (tE_op os_fm σ H Q h)) fun x H1 h1 => by
    obtain ⟨x', e, y, e2, h1⟩ := h1
    cases e
    exact .inl ⟨y, e2, h1⟩
def fJs (ds : List D) : Option D := (strsOf ds).map fun ys => .str ys.flatten
theorem str_app (a b : Str) : a ++ b = ⟨a.cps ++ b.cps⟩ := rfl
theorem js_fold : ∀ (zs : List (List Nat)) (acc : Str), (zs.map strL).foldl (· ++ ·) acc = ⟨acc.cps ++ zs.flatten.toArray⟩
  | [], acc => by
    show acc = _
    simp
  | z :: zs, acc => by
    rw [List.map_cons, List.foldl_cons, js_fold zs, str_app]
    simp [strL]
theorem strs_at : ∀ {ds : List D} {vs : List V} {zs : List (List Nat)}, Paired (EAt A I H) ds vs → strsOf ds = some zs → vs = (zs.map strL).map V.str
  | [], _, _, .nil, e => by
    rw [strsOf] at e
    cases e
    rfl
  | d :: ds, _, zs, .cons h t, e => by
    cases d with
    | str s =>
      rw [strsOf] at e
      obtain ⟨z2, e2, rfl⟩ := Option.map_eq_some_iff.mp e
      rw [strs_at t e2, h.str]
      rfl
    | _ => rw [strsOf] at e <;> first | cases e | (intros; contradiction)
theorem os_js : OpS A fJs (fun vs H Q => ∃ ys : List Str, vs = ys.map V.str ∧ Q (.str (ys.foldl (· ++ ·) Str.empty)) H) := fun I H ds vs Q d ih bh P e q => by
  unfold fJs at e
  obtain ⟨zs, e1, rfl⟩ := Option.map_eq_some_iff.mp e
  refine ⟨zs.map strL, strs_at P e1, q _ _ _ (.leaf ?_)⟩
  rw [R, js_fold]
  refine ⟨?_, rfl⟩
  have : Str.empty.cps = #[] := rfl
  rw [this]
  simp
def eJs (ms : List (Ctx → ER)) : Ctx → ER := eOp fJs (ms.map eSb)
theorem js_run {Q : Str → Hp → Prop} : ∀ {ms : List (Ctx → ER)} {acc : Str} {H : Hp}, acc.length + 1000000 * ms.length ≤ 16777216 → tA' A W (eArgs (ms.map eSb)) σ H (fun vs H2 => ∃ ys : List Str, vs = ys.map V.str ∧ Q (ys.foldl (· ++ ·) acc) H2) → tJs (ms.map (tE A W)) acc σ H Q
  | [], acc, H, hl, h => by
    obtain ⟨ys, e, q⟩ := tA_nil (A := A) (W := W) σ H _ h
    cases ys with
    | nil => exact q
    | cons y ys => cases e
  | m :: ms, acc, H, hl, h => by
    rw [List.length_cons] at hl
    refine tE.mono (tE_sb (tA_cons _ _ _ h)) fun x H1 ⟨⟨z, ez, hz⟩, h1⟩ => ?_
    subst ez
    have hz2 : (acc ++ z).length = acc.length + z.length := by
      show (acc.cps ++ z.cps).size = _
      rw [Array.size_append]
      rfl
    refine ⟨z, rfl, by rw [hz2, sizeLine_eq]; omega, js_run (by rw [hz2]; omega) ?_⟩
    obtain ⟨I, c, ts, O, lk, S, h1⟩ := h1
    refine ⟨I, c, ts, O, lk, S, ?_⟩
    cases e1 : eArgs (ms.map eSb) c with
    | bad => rw [e1] at h1; exact h1
    | exc k n x c1 => rw [e1] at h1; exact h1
    | ok es c1 =>
      rw [e1] at h1
      intro vs I1 H1 O1 hlv S1
      obtain ⟨ys, e, q⟩ := h1 vs I1 H1 O1 hlv S1
      cases ys with
      | nil => cases e
      | cons y ys =>
        rw [List.map_cons] at e
        injection e with e2 e3
        injection e2 with e2
        subst e2
        exact ⟨ys, e3, q⟩
theorem PE_js {v1 v2 : Expr} {rest : List Expr} (h : PJ X (v1 :: v2 :: rest) (ms.map (tE A W))) (hl : ms.length ≤ 16 := by decide) : PE X (.JoinedStr (v1 :: v2 :: rest) pos) (tE A W (eJs ms)) :=
  PE.imp (pe_joined h) fun σ H Q q => by
    refine js_run (Q := fun out H1 => Q (.str out) H1) ?_ (tE_op os_js σ H Q q)
    have : Str.empty.length = 0 := rfl
    rw [this]
    omega

/-! ### isinstance of an own class -/
structure InsT (K : PySem.W.Frag) (G : Nat → Addr) (C : Addr) (tbl : Nat → Option Bool) (bt : List String) : Prop where
  own : ∀ c b, tbl c = some b → Cls K (G c) ∧ PySem.W.findIn K (.ref (G c)) "__class__" = some (some (.builtin "object.__class__")) ∧ PySem.W.mroIn K (G c) (.type "object") = some true ∧ PySem.W.kitOne K (.ref (G c)) (.ref C) = some b
  dsc : PySem.W.specialIn K (.builtin "object.__class__") "__get__" = some (some (.builtin "getset_descriptor.__get__"))
  tak : PySem.W.takesIn K (.builtin "object.__class__") = some true
  blt : ∀ n ∈ bt, PySem.W.kitOne K (.type n) (.ref C) = some false
def obC : D → Option Nat
  | .nd (.obj c _) _ _ => some c
  | _ => none
def fIsC (tbl : Nat → Option Bool) (bt : List String) : List D → Option D
  | [d] => match obC d with
    | some c => (tbl c).map .bl
    | none => match tyName d with
      | some t => if bt.contains t then some (.bl false) else none
      | none => none
  | _ => none
theorem os_isC {C : Addr} {tbl : Nat → Option Bool} {bt : List String} (T : InsT A.g.K A.g.G C tbl bt) : OpS A (fIsC tbl bt) (r1 fun x H Q => rIsi A.g.K [x, .ref C] H Q) := fun I H ds vs Q d ih bh P e q => by
  unfold fIsC at e
  split at e
  · rename_i d0
    obtain ⟨x, rfl, h1⟩ := Paired.one P
    cases e1 : obC d0 with
    | some ci =>
      rw [e1] at e
      dsimp only at e
      obtain ⟨b, e2, rfl⟩ := Option.map_eq_some_iff.mp e
      obtain ⟨c1, c2, c3, c4⟩ := T.own ci b e2
      obtain ⟨ns, f, ys, rfl⟩ : ∃ ns f ys, d0 = .nd (.obj ci ns) f ys := by
        unfold obC at e1
        split at e1
        · cases e1
          exact ⟨_, _, _, rfl⟩
        · cases e1
      obtain ⟨a, dx, ws, rfl, hl, ha, _⟩ := h1.obj ih bh
      exact ⟨_, rfl, .ref a, .ref C, .ref (A.g.G ci), .ref C, b, rfl, .own C, .base (.ins ha c1 c2 T.dsc T.tak c3), c4, q _ _ _ .bl⟩
    | none =>
      rw [e1] at e
      dsimp only at e
      cases e2 : tyName d0 with
      | none => rw [e2] at e; cases e
      | some t =>
        rw [e2] at e
        dsimp only at e
        by_cases hb : bt.contains t = true
        · rw [if_pos hb] at e
          cases e
          exact ⟨_, rfl, x, .ref C, .type t, .ref C, false, rfl, .own C, h1.tyX ih bh e2, T.blt t (by simpa using hb), q _ _ _ .bl⟩
        · rw [if_neg hb] at e
          cases e
  · cases e
theorem PE_isC {C : Addr} {tbl : Nat → Option Bool} {bt : List String} {ce : Expr} {fp : Pos} (hK : A.g.K = X.K) (T : InsT X.K A.g.G C tbl bt) (h1 : PA X [e, ce] (tCons (tE A W ma) (tCons (tC (.ref C)) tNil))) (hg : Gl X "isinstance") (hm : X.mg "isinstance" = none)
    (he : starEach [e, ce] X.env = (false, eval e X.env) :: starEach [ce] X.env := by rfl) (hpl : (backTo pos (starEach [ce] X.env)).any (·.1) = false := by rfl) :
    PE X (.Call (.Name "isinstance" fp) [e, ce] [] pos) (tE A W (eOp (fIsC tbl bt) [ma])) :=
  PE.imp (pe_callB call_isi hg hm (by decide +kernel) h1 (by decide) (by decide) he hpl) fun σ H Q h => tE.mono (tA_one (tE_op (os_isC (hK ▸ T)) σ H Q h)) fun x H1 h1 => by
    obtain ⟨x', e, h1⟩ := h1
    cases e
    rw [hK] at h1
    exact h1
end
end Lc
end
section
set_option Elab.async false
set_option linter.all false
set_option maxRecDepth 100000
set_option maxHeartbeats 1000000
namespace Lc
open PySem L2

/-! ### tables of the module: texts to texts -/
structure TabOk (K : PySem.W.Frag) (w : World) (a : Addr) (tb : List (List Nat × List Nat)) : Prop where
  kd : ∃ es n, KDict K w a es n
  got : ∀ s z, tb.lookup s = some z → ∃ u, PySem.W.nsIn K a (strL s) = some (some u) ∧ RelV (.str (strL z)) u
  non : ∀ s, tb.lookup s = none → PySem.W.nsIn K a (strL s) = some none
theorem look_mem : ∀ {tb : List (List Nat × List Nat)} {s z : List Nat}, tb.lookup s = some z → (s, z) ∈ tb
  | (a, b) :: tb, s, z, h => by
    rw [List.lookup_cons] at h
    cases q : s == a with
    | true =>
      rw [q] at h
      cases h
      rw [beq_iff_eq.mp q]
      exact List.mem_cons_self ..
    | false =>
      rw [q] at h
      exact List.mem_cons_of_mem _ (look_mem h)
  | [], _, _, h => by cases h
theorem look_non : ∀ {tb : List (List Nat × List Nat)} {s : List Nat}, tb.lookup s = none → ∀ q ∈ tb, q.1 ≠ s
  | (a, b) :: tb, s, h, q, hq => by
    rw [List.lookup_cons] at h
    cases z : s == a with
    | true => rw [z] at h; cases h
    | false =>
      rw [z] at h
      rcases List.mem_cons.mp hq with rfl | hq
      · intro e
        subst e
        rw [beq_self_eq_true] at z
        cases z
      · exact look_non h q hq
  | [], _, _, q, hq => by cases hq
theorem strL_inj {a b : List Nat} (h : strL a = strL b) : a = b := by
  have := congrArg (fun x : Str => x.cps.toList) h
  exact this
theorem keysIn_mem {P : Params} : ∀ {l : List DictEntry} {ks : List Str}, l.map He.keyOf = He.keysIn P ks → ∀ e ∈ l, ∃ x t, e.key = .str x t ∧ x ∈ ks
  | [], _, _, e, he => by cases he
  | e0 :: r, [], h, e, he => by cases h
  | e0 :: r, k :: ks, h, e, he => by
    have h1 : He.keyOf e0 :: r.map He.keyOf = some (k, PyData.keyHash P k) :: He.keysIn P ks := h
    injection h1 with h2 h3
    rcases List.mem_cons.mp he with rfl | he
    · unfold He.keyOf at h2
      split at h2
      · rename_i x t q
        have h4 := Option.some.inj h2
        obtain ⟨h5, h6⟩ := Prod.mk.inj h4
        exact ⟨x, t, q, by rw [h5]; exact List.mem_cons_self ..⟩
      · cases h2
    · obtain ⟨x, t, a, b⟩ := keysIn_mem h3 e he
      exact ⟨x, t, a, List.mem_cons_of_mem _ b⟩
theorem tab_ok {K : PySem.W.Frag} {w : World} {a : Addr} {tb : List (List Nat × List Nat)} (h1 : He.dicW K a = some (He.keysIn w.params (tb.map fun q => strL q.1))) (h2 : He.valsB K a (tb.map fun q => (strL q.1, He.Dv.str (strL q.2))) = true) : TabOk K w a tb := by
  obtain ⟨es, n, kd⟩ := He.dicW_ok h1
  refine ⟨⟨es, n, kd⟩, fun s z e => ?_, fun s e => ?_⟩
  · obtain ⟨u, h3, h4⟩ := He.valsB_ok h2 (q := (strL s, .str (strL z))) (List.mem_map.mpr ⟨(s, z), look_mem e, rfl⟩)
    exact ⟨u, h3, h4⟩
  · have hk : es.toList.map He.keyOf = He.keysIn w.params (tb.map fun q => strL q.1) := by
      unfold He.dicW at h1
      rw [kd.at_] at h1
      dsimp only at h1
      have : (decide ("dict" = "dict") && ((#[] : Array (Option Value)).isEmpty && !(a == sysModules))) = true := by
        rw [kd.low]
        rfl
      rw [this] at h1
      exact Option.some.inj h1
    have hm := keysIn_mem hk
    unfold PySem.W.nsIn
    rw [kd.at_]
    dsimp only
    have f1 : es.toList.find? (·.key.isStr (strL s)) = none := List.find?_eq_none.mpr fun d hd => by
      obtain ⟨x, t, e1, e2⟩ := hm d hd
      rw [e1]
      obtain ⟨q, hq, rfl⟩ := List.mem_map.mp e2
      have := look_non e q hq
      show ¬ (strL q.1 == strL s) = true
      intro z
      exact this (strL_inj (beq_iff_eq.mp z))
    have f2 : es.toList.any (·.refKey) = false := List.any_eq_false.mpr fun d hd => by
      obtain ⟨x, t, e1, e2⟩ := hm d hd
      unfold DictEntry.refKey
      rw [e1]
      exact Bool.false_ne_true
    rw [f1, f2]
    rfl
def fTIn (tb : List (List Nat × List Nat)) : List D → Option D
  | [.str s] => some (.bl (tb.lookup s).isSome)
  | _ => none
def fTNin (tb : List (List Nat × List Nat)) : List D → Option D
  | [.str s] => some (.bl (!(tb.lookup s).isSome))
  | _ => none
def fTIx (tb : List (List Nat × List Nat)) : List D → Option D
  | [.str s] => (tb.lookup s).map .str
  | _ => none
section
variable {A : Act} {W : Wx} {X : Cx} {a : Addr} {tb : List (List Nat × List Nat)} {x : Str} {e : Expr} {me : Ctx → ER} {p0 pos : Pos}
theorem TabOk.isS {K : PySem.W.Frag} {w : World} (T : TabOk K w a tb) (s : List Nat) : ∃ r, PySem.W.nsIn K a (strL s) = some r ∧ r.isSome = (tb.lookup s).isSome := by
  cases e : tb.lookup s with
  | none => exact ⟨none, T.non s e, rfl⟩
  | some z =>
    obtain ⟨u, h, _⟩ := T.got s z e
    exact ⟨some u, h, rfl⟩
theorem os_tin (T : TabOk X.K X.w a tb) : OpS A (fTIn tb) (r1 fun x H Q => ∃ (z : Str) (r : Option Value), x = .str z ∧ PySem.W.nsIn X.K a z = some r ∧ Q (.bl r.isSome) H) := fun I H ds vs Q d ih bh P e q => by
  unfold fTIn at e
  split at e
  · rename_i s
    cases e
    obtain ⟨u, rfl, h1⟩ := Paired.one P
    obtain ⟨r, e1, e2⟩ := T.isS s
    rw [h1.str]
    exact ⟨_, rfl, _, r, rfl, e1, by rw [e2]; exact q _ _ _ .bl⟩
  · cases e
theorem os_tnin (T : TabOk X.K X.w a tb) : OpS A (fTNin tb) (r1 fun x H Q => ∃ (z : Str) (r : Option Value), x = .str z ∧ PySem.W.nsIn X.K a z = some r ∧ Q (.bl (!r.isSome)) H) := fun I H ds vs Q d ih bh P e q => by
  unfold fTNin at e
  split at e
  · rename_i s
    cases e
    obtain ⟨u, rfl, h1⟩ := Paired.one P
    obtain ⟨r, e1, e2⟩ := T.isS s
    rw [h1.str]
    exact ⟨_, rfl, _, r, rfl, e1, by rw [e2]; exact q _ _ _ .bl⟩
  · cases e
theorem os_tix (T : TabOk X.K X.w a tb) : OpS A (fTIx tb) (r1 fun y H Q => rIxD X.K X.w (.ref a) y H Q) := fun I H ds vs Q d ih bh P e q => by
  unfold fTIx at e
  split at e
  · rename_i s
    obtain ⟨z, e1, rfl⟩ := Option.map_eq_some_iff.mp e
    obtain ⟨u, rfl, h1⟩ := Paired.one P
    obtain ⟨v, e2, rv⟩ := T.got s z e1
    obtain ⟨es, n, kd⟩ := T.kd
    rw [h1.str]
    exact ⟨_, rfl, a, strL s, .str (strL z), rfl, rfl, ⟨es, n, v, kd.at_, kd.lit, e2, rv⟩, q _ _ _ (.leaf (by rw [R]; exact ⟨rfl, rfl⟩))⟩
  · cases e
theorem PE_tin (h : ∃ a, X.mg x = some (.ref a) ∧ TabOk X.K X.w a tb) (hg : Gl X x) (he : PE X e (tE A W me)) (hd : (x == ("__debug__" : Str)) = false := by decide) (hm : behindInMarks .In (.Name x p0) = false := by rfl) : PE X (.Compare e [.In] [.Name x p0] pos) (tE A W (eOp (fTIn tb) [me])) := by
  obtain ⟨a, hx, T⟩ := h
  obtain ⟨es, n, kd⟩ := T.kd
  exact PE.imp (pe_cmpR (op_in_kd kd) he (pe_glob (v := .ref a) hg hx rfl hd) hm) fun σ H Q q => tE.mono (tA_one (tE_op (os_tin T) σ H Q q)) fun y H1 ⟨y', e1, z, r, e2, e3, q⟩ => by
    cases e1
    exact ⟨z, r, e2, rfl, e3, q⟩
theorem PT_tin (h : ∃ a, X.mg x = some (.ref a) ∧ TabOk X.K X.w a tb) (hg : Gl X x) (he : PE X e (tE A W me)) (hd : (x == ("__debug__" : Str)) = false := by decide) (hm : behindInMarks .In (.Name x p0) = false := by rfl) : PT X (.Compare e [.In] [.Name x p0] pos) (tT A W (tOfE (eOp (fTIn tb) [me]))) := by
  obtain ⟨a, hx, T⟩ := h
  obtain ⟨es, n, kd⟩ := T.kd
  exact PT.imp (pt_cmpR (op_in_kd kd) he (pe_glob (v := .ref a) hg hx rfl hd) hm) fun σ H Q q => tE.mono (tA_one (tE_op (os_tin T) σ H _ (tT_of q))) fun y H1 ⟨y', e1, z, r, e2, e3, q⟩ => by
    cases e1
    exact ⟨z, r, e2, rfl, e3, q⟩
theorem PE_tnin (h : ∃ a, X.mg x = some (.ref a) ∧ TabOk X.K X.w a tb) (hg : Gl X x) (he : PE X e (tE A W me)) (hd : (x == ("__debug__" : Str)) = false := by decide) (hm : behindInMarks .NotIn (.Name x p0) = false := by rfl) : PE X (.Compare e [.NotIn] [.Name x p0] pos) (tE A W (eOp (fTNin tb) [me])) := by
  obtain ⟨a, hx, T⟩ := h
  obtain ⟨es, n, kd⟩ := T.kd
  exact PE.imp (pe_cmpR (op_notIn_kd kd) he (pe_glob (v := .ref a) hg hx rfl hd) hm) fun σ H Q q => tE.mono (tA_one (tE_op (os_tnin T) σ H Q q)) fun y H1 ⟨y', e1, z, r, e2, e3, q⟩ => by
    cases e1
    exact ⟨z, r, e2, rfl, e3, q⟩
theorem PT_tnin (h : ∃ a, X.mg x = some (.ref a) ∧ TabOk X.K X.w a tb) (hg : Gl X x) (he : PE X e (tE A W me)) (hd : (x == ("__debug__" : Str)) = false := by decide) (hm : behindInMarks .NotIn (.Name x p0) = false := by rfl) : PT X (.Compare e [.NotIn] [.Name x p0] pos) (tT A W (tOfE (eOp (fTNin tb) [me]))) := by
  obtain ⟨a, hx, T⟩ := h
  obtain ⟨es, n, kd⟩ := T.kd
  exact PT.imp (pt_cmpR (op_notIn_kd kd) he (pe_glob (v := .ref a) hg hx rfl hd) hm) fun σ H Q q => tE.mono (tA_one (tE_op (os_tnin T) σ H _ (tT_of q))) fun y H1 ⟨y', e1, z, r, e2, e3, q⟩ => by
    cases e1
    exact ⟨z, r, e2, rfl, e3, q⟩
theorem PE_tix (h : ∃ a, X.mg x = some (.ref a) ∧ TabOk X.K X.w a tb) (hg : Gl X x) (he : PE X e (tE A W me)) (hd : (x == ("__debug__" : Str)) = false := by decide) (hs : PlainIx e := by exact fun _ _ => rfl) : PE X (.Subscript (.Name x p0) e pos) (tE A W (eOp (fTIx tb) [me])) := by
  obtain ⟨a, hx, T⟩ := h
  exact PE.imp (pe_ix ix_kdict (pe_glob (v := .ref a) hg hx rfl hd) he hs) fun σ H Q q => tE.mono (tA_one (tE_op (os_tix T) σ H Q q)) fun y H1 ⟨y', e1, q⟩ => by
    cases e1
    exact q
/-! a tuple of the module -/
theorem RL_c {g : Gs} {I B H : Hp} : ∀ {ds : List D}, ds.all isC = true → RL g I B H ds (ds.map cV) []
  | [], _ => by rw [RL]; exact ⟨rfl, rfl⟩
  | d :: ds, h => by
    rw [List.all_cons, Bool.and_eq_true] at h
    rw [RL]
    exact ⟨cV d, ds.map cV, [], [], rfl, rfl, cV_R h.1 _ _ _, RL_c h.2⟩
theorem PE_gtup {ds : List D} (h : ∃ a, X.mg x = some (.ref a) ∧ ∀ H, SqT X.K H a (ds.map cV)) (hK : A.g.K = X.K) (hg : Gl X x) (hc : ds.all isC = true := by rfl) (hd : (x == ("__debug__" : Str)) = false := by decide) : PE X (.Name x pos) (tE A W (eC (.tup ds))) := by
  obtain ⟨a, hx, T⟩ := h
  exact PE_c (pe_glob (v := .ref a) hg hx rfl hd) fun I B H => by
    rw [R]
    exact ⟨a, _, rfl, .inr ⟨rfl, hK ▸ T I⟩, RL_c hc⟩
end
end Lc
end
section
set_option Elab.async false
set_option linter.all false
set_option maxRecDepth 100000
set_option maxHeartbeats 1000000
namespace Lc
open PySem L2

/-! ### dicts -/
theorem upd_upd {H : Hp} {p : Addr} {a b : HO} : upd (upd H p a) p b = upd H p b := funext fun q => by
  by_cases h : q = p
  · subst h
    rw [upd_same, upd_same]
  · rw [upd_ne h, upd_ne h, upd_ne h]
theorem merge_app : ∀ {more acc : List (Key × V)}, (more.map (·.1)).Nodup → (∀ q ∈ more, valV acc q.1 = none) → mergeK acc more = acc ++ more
  | [], acc, _, _ => (List.append_nil acc).symm
  | q :: more, acc, nd, h => by
    rw [List.map_cons, List.nodup_cons] at nd
    have h1 := h q (List.mem_cons_self ..)
    show mergeK (putK acc q.1 q.2) more = _
    rw [putK_new _ h1, merge_app nd.2 fun r hr => ?_, List.append_assoc]
    · rfl
    · have h2 := h r (List.mem_cons_of_mem _ hr)
      have hne : q.1 ≠ r.1 := fun z => nd.1 (List.mem_map.mpr ⟨r, hr, z.symm⟩)
      unfold valV at h2 ⊢
      rw [List.find?_append]
      have : acc.find? (fun kv => decide (kv.1 = r.1)) = none := by
        cases e : acc.find? (fun kv => decide (kv.1 = r.1)) with
        | none => rfl
        | some z => rw [e] at h2; cases h2
      rw [this]
      simp [hne]
theorem merge_nil {more : List (Key × V)} (nd : (more.map (·.1)).Nodup) : mergeK [] more = more := merge_app nd fun _ _ => rfl
section
variable {A : Act} {W : Wx} {X : Cx} {I H I' H' : Hp} {σ σ' : St} {c c' : Ctx} {ts xs : List (D × V)} {O O' : Addr → Option Ow} {lk : List (Nat × List Nat × V)} {d : D} {v : V} {w : Ow} {r : Nat} {p : List Nat}
variable {x m n : Str} {p0 pos apos pos' : Pos} {e oe ae be : Expr} {es : List Expr} {t : TA} {ta : TE} {ma mb me mo : Ctx → ER} {ms : List (Ctx → ER)}
/-- a written dict of constants -/
def eDsp (kvs : List (List Nat × D)) : Ctx → ER := fun c => .ok (.t (.nd (.dct (kvs.map fun q => .inr (strL q.1))) .own (kvs.map (·.2)))) c
def dspT (kvs : List (List Nat × D)) : List (TE × TE) := kvs.map fun q => (tC (.str (strL q.1)), tC (cV q.2))
theorem tPairs_c {σ : St} {Q : List (V × V) → Hp → Prop} : ∀ {kvs : List (List Nat × D)} {H : Hp}, Q (kvs.map fun q => (V.str (strL q.1), cV q.2)) H → tPairs (dspT kvs) σ H Q
  | [], H, h => h
  | q :: kvs, H, h => by
    show tPairs (dspT kvs) σ H fun ps H3 => Q ((V.str (strL q.1), cV q.2) :: ps) H3
    exact tPairs_c (Q := fun ps H3 => Q ((V.str (strL q.1), cV q.2) :: ps) H3) h
theorem PE_dsp {keys : List (Option Expr)} {values : List Expr} {kvs : List (List Nat × D)} (h : PPs X pos keys values (dspT kvs)) (hc : (kvs.map (·.2)).all isC = true := by rfl) (nd : (kvs.map (·.1)).Nodup := by decide) (hk : kvs.length ≤ 15 := by decide)
    (hall : keys.all (·.isSome) = true := by rfl) (hl : keys.length = values.length := by rfl) (h0 : keys ≠ [] := by exact fun z => by cases z) (h15 : keys.length ≤ 15 := by decide) : PE X (.Dict keys values pos) (tE A W (eDsp kvs)) :=
  PE.imp (pe_disp h hall hl h0 h15) fun σ H Q ⟨I, c, ts, O, lk, S, h⟩ => by
    intro p hp
    refine tPairs_c ⟨upd_same, kvs.map fun q => (Sum.inr (strL q.1), cV q.2), ?_, by rw [List.length_map]; exact hk, ?_⟩
    · rw [List.map_map]
      rfl
    · rw [upd_upd, merge_nil (by
        rw [List.map_map]
        have : (kvs.map ((fun x : Key × V => x.1) ∘ fun q => (Sum.inr (strL q.1), cV q.2))) = (kvs.map (·.1)).map fun s => (Sum.inr (strL s) : Key) := by
          rw [List.map_map]
          rfl
        rw [this]
        exact List.Pairwise.map _ (fun a b hab z => hab (strL_inj (Sum.inr.inj z))) nd)]
      have hz : (kvs.map fun q => ((Sum.inr (strL q.1) : Key), cV q.2)) = (kvs.map fun q => (Sum.inr (strL q.1) : Key)).zip ((kvs.map (·.2)).map cV) := by
        rw [List.map_map, List.zip_map']
        rfl
      rw [hz]
      have rs : Res A I H (.nd (.dct (kvs.map fun q => .inr (strL q.1))) .own (kvs.map (·.2))) (.ref p) I (upd H p (.dK ((kvs.map fun q => (Sum.inr (strL q.1) : Key)).zip ((kvs.map (·.2)).map cV)))) := .dict (RL_c hc) (by simp) hp
      obtain ⟨O', S'⟩ := rs.sat (ts := ts) (xs := []) (by rw [List.append_nil]; exact S)
      exact h _ _ _ O' S'
/-- what is read is of a kind -/
def eCk (chk : D → Bool) (mo : Ctx → ER) : Ctx → ER := fun c => match mo c with
  | .ok e c1 => match val c1 e with
    | some d => if chk d then .ok e c1 else .bad
    | none => .bad
  | .exc k n x c1 => .exc k n x c1
  | .bad => .bad
theorem tE_ck {chk : D → Bool} {P : V → Hp → Prop} (hP : ∀ (I H : Hp) (d : D) (v : V), leH I H → leH A.B H → EAt A I H d v → chk d = true → P v H) {Q : VK} (h : tE A W (eCk chk mo) σ H Q) : tE A W mo σ H fun x H1 => P x H1 ∧ Q x H1 := by
  obtain ⟨I, c, ts, O, lk, S, h⟩ := h
  refine ⟨I, c, ts, O, lk, S, ?_⟩
  rw [eCk] at h
  cases e : mo c with
  | bad => rw [e] at h; exact h
  | exc k n x c1 => rw [e] at h; exact h
  | ok ev c1 =>
    rw [e] at h
    dsimp only at h
    cases e2 : val c1 ev with
    | none => rw [e2] at h; exact h.elim
    | some d0 =>
      rw [e2] at h
      dsimp only at h
      by_cases hi : chk d0 = true
      · rw [if_pos hi] at h
        cases ev with
        | t d =>
          dsimp only at h ⊢
          intro v I' H' O' S'
          rw [val] at e2
          cases e2
          obtain ⟨fp, rr, _⟩ := S'.last
          exact ⟨hP _ _ _ _ S'.ih S'.bh ⟨fp, rr⟩ hi, h v I' H' O' S'⟩
        | pl r p =>
          dsimp only at h ⊢
          intro v I' H' O' S' pv
          have S2 := S'.locked pv
          have := Sat.evAt (ts := ts) (ev := .pl r p) (v := v) (lk := lk) (c := { c1 with k := (r, p) :: c1.k }) (by
            simpa [tmpsOf, lksOf] using S2) (d := d0) (by
            rw [val] at e2 ⊢
            exact e2)
          exact ⟨hP _ _ _ _ S'.ih S'.bh this hi, h v I' H' O' S' pv⟩
      · rw [if_neg hi] at h
        exact h.elim
theorem EAt.dct {ks : List Key} {f : Fl} {ds : List D} (ih : leH I H) (bh : leH A.B H) (h : EAt A I H (.nd (.dct ks) f ds) v) : ∃ a vs, v = .ref a ∧ ks.length = vs.length ∧ Rd H a (.dK (ks.zip vs)) ∧ ∃ fp, RL A.g I A.B H ds vs fp := by
  obtain ⟨fp, h⟩ := h
  cases f with
  | own =>
    rw [R] at h
    obtain ⟨p, vs, fq, e, _, ⟨hl, c⟩, h⟩ := h
    exact ⟨p, vs, e, hl, .inl c, fq, h⟩
  | frz =>
    rw [R] at h
    obtain ⟨p, vs, e, _, ⟨hl, c⟩, h⟩ := h
    exact ⟨p, vs, e, hl, ih.rd c, [], RL.keep ds h (leH.refl _) (noH_le _) fun a ha => by cases ha⟩
  | bor =>
    rw [R] at h
    obtain ⟨p, vs, e, _, ⟨hl, c⟩, h⟩ := h
    exact ⟨p, vs, e, hl, bh.rd c, [], RL.keep ds h (leH.refl _) (leH.refl _) fun a ha => by cases ha⟩
def isDk : D → Bool
  | .nd (.dct _) _ _ => true
  | _ => false
theorem isDk_at (I H : Hp) (d : D) (v : V) (ih : leH I H) (bh : leH A.B H) (h : EAt A I H d v) (e : isDk d = true) : ∃ a, v = .ref a ∧ IsD H a := by
  unfold isDk at e
  split at e
  · obtain ⟨a, vs, e, _, r, _⟩ := h.dct ih bh
    exact ⟨a, e, .inl ⟨_, r⟩⟩
  · cases e
def dKey : D → Option Key
  | .int i => some (.inl i)
  | .str s => some (.inr (strL s))
  | _ => none
theorem dKey_at {k : Key} : ∀ {d : D}, EAt A I H d v → dKey d = some k → v = kV k
  | .int i, h, e => by cases e; exact h.int
  | .str s, h, e => by cases e; exact h.str
  | .non, _, e => by cases e
  | .bl _, _, e => by cases e
  | .ty _, _, e => by cases e
  | .tup _, _, e => by cases e
  | .nd _ _ _, _, e => by cases e
  | .exn _ _ _, _, e => by cases e
def dLook : List Key → List D → Key → Option D
  | k :: ks, x :: xs, q => if k = q then some x else dLook ks xs q
  | _, _, _ => none
theorem dLook_at {g : Gs} {I B H : Hp} {q : Key} : ∀ {ks : List Key} {ds : List D} {vs : List V} {fp : List Addr}, RL g I B H ds vs fp → ks.length = vs.length → (dLook ks ds q = none ∧ valV (ks.zip vs) q = none) ∨ ∃ x v f, dLook ks ds q = some x ∧ valV (ks.zip vs) q = some v ∧ R g I B H x v f
  | [], ds, vs, fp, h, hl => by
    cases vs with
    | nil => exact .inl ⟨by cases ds <;> rfl, rfl⟩
    | cons _ _ => cases hl
  | k :: ks, [], vs, fp, h, hl => by
    rw [RL] at h
    rw [h.1] at hl
    cases hl
  | k :: ks, x :: ds, vs, fp, h, hl => by
    rw [RL] at h
    obtain ⟨v, vr, f1, f2, rfl, _, h1, h2⟩ := h
    rw [List.zip_cons_cons, dLook]
    by_cases hk : k = q
    · rw [if_pos hk, valV_pos (p := (k, v)) hk]
      exact .inr ⟨x, v, f1, rfl, rfl, h1⟩
    · rw [if_neg hk, valV_neg (p := (k, v)) hk]
      exact dLook_at h2 (by simpa using hl)
/-- d[k], it is there -/
def fDIx : List D → Option D
  | [.nd (.dct ks) _ xs, k] => (dKey k).bind fun q => (dLook ks xs q).bind fun x => if Lc.noOwn x then some x else none
  | _ => none
theorem os_dix : OpS A fDIx (r2 fun x y H Q => ∃ a v, x = .ref a ∧ DGet H a y (some v) ∧ Q v H) := fun I H ds vs Q d ih bh P e q => by
  unfold fDIx at e
  split at e
  · rename_i ks f xs k
    obtain ⟨x, y, rfl, h1, h2⟩ := Paired.two P
    obtain ⟨kk, e1, e⟩ := Option.bind_eq_some_iff.mp e
    obtain ⟨z, e2, e⟩ := Option.bind_eq_some_iff.mp e
    by_cases n : Lc.noOwn z = true
    · rw [if_pos n] at e
      cases e
      obtain ⟨a, vs, rfl, hl, rd, fp, l⟩ := h1.dct ih bh
      rcases dLook_at (q := kk) l hl with ⟨z1, _⟩ | ⟨x', v, f, z1, z2, rr⟩
      · rw [z1] at e2; cases e2
      · rw [z1] at e2
        cases e2
        have := R.noOwn d rr n
        subst this
        exact ⟨_, _, rfl, a, v, rfl, .inl ⟨_, kk, rd, dKey_at h2 e1, z2.symm⟩, q _ _ _ (.leaf rr)⟩
    · rw [if_neg n] at e
      cases e
  · cases e
theorem PE_dix (o : On X A.g) (ho : PE X oe (tE A W mo)) (he : PE X e (tE A W me)) (hs : NoSl e := by exact fun _ _ => rfl) : PE X (.Subscript oe e pos) (tE A W (eOp fDIx [mo, me])) :=
  PE.imp (pe_dget (by have := o.u; omega) ho he hs) fun σ H Q h => tE.mono (tA_two (tE_op os_dix σ H Q h)) fun x H1 h1 => tE.mono h1 fun y H2 h2 => by
    obtain ⟨x', y', e, h2⟩ := h2
    cases e
    exact h2
/-- d.get(k, z) -/
def fDGet2 : List D → Option D
  | [.nd (.dct ks) _ xs, k, z] => (dKey k).bind fun q => match dLook ks xs q with
    | some x => if Lc.noOwn x then some x else none
    | none => if Lc.noOwn z then some z else none
  | _ => none
theorem os_dget2 : OpS A fDGet2 (fun vs H Q => ∃ x y z a o, vs = [x, y, z] ∧ x = .ref a ∧ DGet H a y o ∧ Q (o.getD z) H) := fun I H ds vs Q d ih bh P e q => by
  unfold fDGet2 at e
  split at e
  · rename_i ks f xs k z
    cases P with
    | cons h1 P =>
      cases P with
      | cons h2 P =>
        cases P with
        | cons h3 P =>
          cases P
          rename_i u1 u2 u3
          obtain ⟨kk, e1, e⟩ := Option.bind_eq_some_iff.mp e
          obtain ⟨a, vs, rfl, hl, rd, fp, l⟩ := h1.dct ih bh
          rcases dLook_at (q := kk) l hl with ⟨z1, z2⟩ | ⟨x', v, f, z1, z2, rr⟩
          · rw [z1] at e
            dsimp only at e
            by_cases n : Lc.noOwn z = true
            · rw [if_pos n] at e
              cases e
              obtain ⟨f3, r3⟩ := h3
              have := R.noOwn d r3 n
              subst this
              exact ⟨_, _, _, a, none, rfl, rfl, .inl ⟨_, kk, rd, dKey_at h2 e1, z2.symm⟩, q _ _ _ (.leaf r3)⟩
            · rw [if_neg n] at e
              cases e
          · rw [z1] at e
            dsimp only at e
            by_cases n : Lc.noOwn x' = true
            · rw [if_pos n] at e
              cases e
              have := R.noOwn d rr n
              subst this
              exact ⟨_, _, _, a, some v, rfl, rfl, .inl ⟨_, kk, rd, dKey_at h2 e1, z2.symm⟩, q _ _ _ (.leaf rr)⟩
            · rw [if_neg n] at e
              cases e
  · cases e
theorem PE_dget2 {fe : Expr} {mf : Ctx → ER} (o : On X A.g) (ho : PE X oe (tE A W mo)) (he : PE X e (tE A W me)) (hf : PE X fe (tE A W mf)) (mm : M2 X oe "get" apos e fe pos := by exact ⟨rfl, rfl, rfl, rfl⟩) : PE X (.Call (.Attribute oe "get" apos) [e, fe] [] pos) (tE A W (eOp fDGet2 [eCk isDk mo, me, mf])) :=
  PE.imp (pe_dget2 (by have := o.u; omega) ho he hf mm) fun σ H Q h => tE.mono (tE_ck isDk_at (tA_cons _ _ _ (tE_op os_dget2 σ H Q h))) fun x H1 ⟨⟨a, e1, hd⟩, h1⟩ => by
    subst e1
    refine ⟨a, rfl, hd, tE.mono (tA_cons _ _ _ h1) fun y H2 h2 => tE.mono (tA_cons _ _ _ h2) fun z H3 h3 => ?_⟩
    obtain ⟨x', y', z', a', o', e2, e3, g, q⟩ := tA_nil (A := A) (W := W) σ H3 _ h3
    cases e2
    cases e3
    exact ⟨o', g, q⟩
end
end Lc
end
section
set_option Elab.async false
set_option linter.all false
set_option maxRecDepth 100000
set_option maxHeartbeats 1000000
namespace Lc
open PySem L2

/-! ### calls with keywords -/
def tL (A : Act) (W : Wx) : List (Ctx → ER) → TA
  | [] => tNil
  | m :: ms => tCons (tE A W m) (tL A W ms)
/-- the tail of the parameters: none: a keyword's value, some d: a default -/
def mrgM : List (Option D) → List (Ctx → ER) → List (Ctx → ER)
  | none :: t, m :: ms => m :: mrgM t ms
  | some d :: t, ms => eC d :: mrgM t ms
  | _, _ => []
def mrgV : List (Option D) → List V → List V
  | none :: t, v :: vs => v :: mrgV t vs
  | some d :: t, vs => cV d :: mrgV t vs
  | _, _ => []
def tplOk : List (Option D) → Nat → Bool
  | none :: t, n + 1 => tplOk t n
  | some d :: t, n => isC d && tplOk t n
  | [], 0 => true
  | _, _ => false
section
variable {A : Act} {W : Wx} {X : Cx} {σ : St}
theorem tL_of : ∀ {ms : List (Ctx → ER)} {H : Hp} {Q : List V → Hp → Prop}, tA' A W (eArgs ms) σ H Q → tL A W ms σ H Q
  | [], H, Q, h => tA_nil (A := A) (W := W) σ H Q h
  | m :: ms, H, Q, h => tE.mono (tA_cons _ _ _ h) fun x H1 h1 => tL_of h1
theorem tL_mono : ∀ {ms : List (Ctx → ER)} {H : Hp} {Q Q' : List V → Hp → Prop}, tL A W ms σ H Q → (∀ vs H', Q vs H' → Q' vs H') → tL A W ms σ H Q'
  | [], H, Q, Q', h, q => q _ _ h
  | m :: ms, H, Q, Q', h, q => tE.mono h fun x H1 h1 => tL_mono h1 fun vs H' z => q _ _ z
theorem tL_app : ∀ {ms ns : List (Ctx → ER)} {H : Hp} {Q : List V → Hp → Prop}, tL A W (ms ++ ns) σ H Q → tL A W ms σ H fun vs H1 => vs.length = ms.length ∧ tL A W ns σ H1 fun zs H2 => Q (vs ++ zs) H2
  | [], ns, H, Q, h => ⟨rfl, h⟩
  | m :: ms, ns, H, Q, h => tE.mono h fun x H1 h1 => tL_mono (tL_app h1) fun vs H' z => ⟨by rw [List.length_cons, List.length_cons, z.1], z.2⟩
theorem tE_c {d : D} {H : Hp} {Q : VK} (hc : isC d = true) (h : tE A W (eC d) σ H Q) : Q (cV d) H := by
  obtain ⟨I, c, ts, O, lk, S, h⟩ := h
  exact h (cV d) I H O (S.push (cV_R hc _ _ _))
theorem tL_mrg : ∀ {tp : List (Option D)} {ms : List (Ctx → ER)} {H : Hp} {Q : List V → Hp → Prop}, tplOk tp ms.length = true → tL A W (mrgM tp ms) σ H Q → tL A W ms σ H fun zs H2 => zs.length = ms.length ∧ Q (mrgV tp zs) H2
  | [], [], H, Q, _, h => ⟨rfl, h⟩
  | none :: t, m :: ms, H, Q, ok, h => by
    rw [List.length_cons, tplOk] at ok
    rw [mrgM] at h
    exact tE.mono h fun x H1 h1 => tL_mono (tL_mrg ok h1) fun vs H' z => ⟨by rw [List.length_cons, List.length_cons, z.1], z.2⟩
  | some d :: t, ms, H, Q, ok, h => by
    rw [tplOk, Bool.and_eq_true] at ok
    rw [mrgM] at h
    have h2 := tE_c (W := W) ok.1 h
    exact tL_mono (tL_mrg ok.2 h2) fun vs H' z => ⟨z.1, by rw [mrgV]; exact z.2⟩
  | [], _ :: _, _, _, ok, _ => by rw [List.length_cons, tplOk] at ok <;> first | cases ok | (intros; contradiction)
  | none :: _, [], _, _, ok, _ => by rw [List.length_nil, tplOk] at ok <;> first | cases ok | (intros; contradiction)
variable {k n : Nat} {f C : Addr} {fd : FuncData} {ps ks : List Str} {sp : Sp} {E : L2.St → XK} {CX : CXT} {x : Str} {p pos : Pos} {e : Expr} {es : List Expr} {kws : List Keyword} {t tk : TA} {g : List Value → List Value → List Value} {gV : List V → List V → List V}
def tCallNS (n m : Nat) (sp : Sp) (gV : List V → List V → List V) (E : L2.St → XK) (t tk : TA) : TE := fun σ H Q => t σ H fun vs H1 => tk σ H1 fun zs H2 => vs.length = n ∧ zs.length = m ∧ sp (gV vs zs) H2 Q (E σ)
def tMakeNS (C : Addr) (n m : Nat) (sp : Sp) (gV : List V → List V → List V) (E : L2.St → XK) (t tk : TA) : TE := fun σ H Q => t σ H fun vs H1 => tk σ H1 fun zs H2 => vs.length = n ∧ zs.length = m ∧
  ∀ x dx, H2 x = none → H2 dx = none → dx ≠ x → sp (gV (.ref x :: vs) zs) (upd (upd H2 dx (.own x)) x (.ins C dx [])) (fun v H3 => v = .non ∧ Q (.ref x) H3) (E σ)
theorem pe_callNS (F : FnOk X.prog X.w X.K X.mg X.base CX k f fd ps sp) (hr : Room k X.A) (hg : Gl X x) (hm : X.mg x = some (.ref f)) (hk : PySem.W.keepIn X.K (.ref f) = true) (hb : KBn X.K fd ps n ks g gV) (hx : ∀ σ, PassesAt CX X σ (E σ))
    (ha : PA X (e :: es) t) (hkw : PK X kws tk) (hall : (backToKw pos (keywordEach kws X.env)).all (·.1.isSome) = true := by rfl) (hks : (backToKw pos (keywordEach kws X.env)).filterMap (·.1) = ks := by rfl)
    (hdb : (x == ("__debug__" : Str)) = false := by decide) (he : starEach (e :: es) X.env = (false, eval e X.env) :: starEach es X.env := by rfl)
    (hpl : ((backTo pos (starEach (e :: es) X.env)).any (·.1) || (backToKw pos (keywordEach kws X.env)).any (·.1.isNone)) = false := by rfl) :
    PE X (.Call (.Name x p) (e :: es) kws pos) (tCallNS n ks.length sp gV E t tk) := by
  refine ⟨fun pins s σ H Q J h => ?_⟩
  refine wpAny_Call_Name_kw (ld_glob J hg hm ?_ hdb)
  refine PySem.W.callWith_KW (h₀ := X.base) J.ok.mod.kin hk hall (thn (ha.run pos pins s σ H _ J h) fun us s1 ⟨vs, H1, J1, r, q⟩ => ?_) hpl he
  refine thn (hkw.run pos pins s1 σ H1 _ J1 q) fun ws s2 ⟨zs, H2, J2, rz, l1, l2, q2⟩ => ⟨J2.kIn, ?_⟩
  rw [hks]
  have r2 := hb.rel r rz
  refine wpAny_call (codeAny_mono (F.run X.A X.stack s2 H2 ⟨us, ks.zip ws⟩ (g us ws) (gV vs zs) Q (E σ) hr J2.env0 (hb.to s2 us ws J2.kIn (r.length.symm.trans l1) (rz.length.symm.trans l2)) r2 q2) fun r s' hq => ?_)
  cases r with
  | error e => exact hx σ pins H2 s2 e s' J2 hq
  | ok fl =>
    cases fl with
    | ret u => exact J2.after hq
    | next => exact False.elim hq
    | brk => exact False.elim hq
    | cont => exact False.elim hq
theorem pe_makeNS (M : Mk X.K C f) (F : FnOk X.prog X.w X.K X.mg X.base CX k f fd ps sp) (hr : Room (k + 1) X.A) (hg : Gl X x) (hm : X.mg x = some (.ref C)) (hb : KBn X.K fd ps (n + 1) ks g gV) (hx : ∀ σ, PassesAt CX X σ (E σ))
    (ha : PA X (e :: es) t) (hkw : PK X kws tk) (hall : (backToKw pos (keywordEach kws X.env)).all (·.1.isSome) = true := by rfl) (hks : (backToKw pos (keywordEach kws X.env)).filterMap (·.1) = ks := by rfl)
    (hdb : (x == ("__debug__" : Str)) = false := by decide) (he : starEach (e :: es) X.env = (false, eval e X.env) :: starEach es X.env := by rfl)
    (hpl : ((backTo pos (starEach (e :: es) X.env)).any (·.1) || (backToKw pos (keywordEach kws X.env)).any (·.1.isNone)) = false := by rfl) :
    PE X (.Call (.Name x p) (e :: es) kws pos) (tMakeNS C n ks.length sp gV E t tk) := by
  refine ⟨fun pins s σ H Q J h => ?_⟩
  refine wpAny_Call_Name_kw (ld_glob J hg hm ?_ hdb)
  refine PySem.W.callWith_KW (h₀ := X.base) J.ok.mod.kin M.kp hall (thn (ha.run pos pins s σ H _ J h) fun us s1 ⟨vs, H1, J1, r, q⟩ => ?_) hpl he
  refine thn (hkw.run pos pins s1 σ H1 _ J1 q) fun ws s2 ⟨zs, H2, I, rz, l1, l2, q2⟩ => ⟨I.kIn, ?_⟩
  rw [hks]
  have hq := q2 (s2.heap.objs.size + 1) s2.heap.objs.size (I.hok.fresh (Nat.le_succ _)) (I.hok.fresh (Nat.le_refl _)) (Nat.ne_of_lt (Nat.lt_succ_self _))
  have I2 := Inv.made (C := C) I
  have r1 : Vals (V.ref (s2.heap.objs.size + 1) :: vs) (Value.ref (s2.heap.objs.size + 1) :: us) := .cons rfl r
  have r2 := hb.rel r1 rz
  have e1 : (Value.ref (s2.heap.objs.size + 1) :: us).length = n + 1 := r1.length.symm.trans (congrArg Nat.succ l1)
  have e2 : ws.length = ks.length := rz.length.symm.trans l2
  refine wpAny_call (make_map (f := f) I.kIn M.makes M.init (beq_iff_eq.mp M.fn) (codeAny_mono (F.run _ X.stack _ _ ⟨Value.ref (s2.heap.objs.size + 1) :: us, ks.zip ws⟩ (g (Value.ref (s2.heap.objs.size + 1) :: us) ws) _ _ (E σ) (hr.make C us (ks.zip ws))
    (I2.env0.make C us (ks.zip ws)) (hb.to _ (Value.ref (s2.heap.objs.size + 1) :: us) ws I2.kIn e1 e2) r2 hq) fun r s' hq' => ?_))
  cases r with
  | error e => exact hx σ pins _ _ e s' I2 hq'
  | ok fl =>
    cases fl with
    | ret u =>
      obtain ⟨v, H', I3, rv, ev, q3⟩ := I2.after hq'
      subst ev
      exact ⟨rv, ⟨V.ref (s2.heap.objs.size + 1), H', I3, rfl, q3⟩⟩
    | next => exact False.elim hq'
    | brk => exact False.elim hq'
    | cont => exact False.elim hq'
end
/-- a def called with n values and keywords ks -/
def CalK (P : Program) (w : World) (K : PySem.W.Frag) (mg : Str → Option Value) (base : Heap) (G : Nat → Addr) (x : Str) (k : Nat) (ps : List Str) (ms : List Bool) (nl : Nat) (body : Ctx → SR) (n : Nat) (ks : List Str) (tp : List (Option D)) : Prop :=
  ∃ (f : Addr) (fd : FuncData) (g : List Value → List Value → List Value), mg x = some (.ref f) ∧ FnOk P w K mg base (L2.CX P w) k f fd ps (spF G K ms nl body) ∧ PySem.W.keepIn K (.ref f) = true ∧ KBn K fd ps n ks g fun vs zs => vs ++ mrgV tp zs
def CalIK (P : Program) (w : World) (K : PySem.W.Frag) (mg : Str → Option Value) (base : Heap) (G : Nat → Addr) (x : Str) (ci k : Nat) (ps : List Str) (ms : List Bool) (nl : Nat) (body : Ctx → SR) (n : Nat) (ks : List Str) (tp : List (Option D)) : Prop :=
  ∃ (f : Addr) (fd : FuncData) (g : List Value → List Value → List Value), mg x = some (.ref (G ci)) ∧ Mk K (G ci) f ∧ FnOk P w K mg base (L2.CX P w) k f fd ps (spF G K (true :: ms) nl body) ∧ KBn K fd ps (n + 1) ks g fun vs zs => vs ++ mrgV tp zs
section
variable {A : Act} {W : Wx} {X : Cx} {G : Nat → Addr} {ps ks : List Str} {ms : List Bool} {nl k j ci n : Nat} {body : Ctx → SR} {Φ : List D → FR} {x : Str} {pos pos' : Pos} {e : Expr} {es : List Expr} {kws : List Keyword} {ma mk : List (Ctx → ER)} {tp : List (Option D)}
theorem PE_calK (C : CalK X.prog X.w X.K X.mg X.base G x k ps ms nl body n ks tp) (o : On X A.g) (hG : A.g.G = G) (hr : Room j X.A) (tk : Takes X W) (hΦ : Φ = runF ms nl body) (hk : k ≤ j) (hg : Gl X x) (ha : PA X (e :: es) (tL A W ma)) (hkw : PK X kws (tL A W mk)) (hn : ma.length = n) (hn2 : mk.length = ks.length) (ht : tplOk tp mk.length = true)
    (hall : (backToKw pos (keywordEach kws X.env)).all (·.1.isSome) = true := by rfl) (hks : (backToKw pos (keywordEach kws X.env)).filterMap (·.1) = ks := by rfl)
    (hdb : (x == ("__debug__" : Str)) = false := by decide) (he : starEach (e :: es) X.env = (false, eval e X.env) :: starEach es X.env := by rfl)
    (hpl : ((backTo pos (starEach (e :: es) X.env)).any (·.1) || (backToKw pos (keywordEach kws X.env)).any (·.1.isNone)) = false := by rfl) :
    PE X (.Call (.Name x pos') (e :: es) kws pos) (tE A W (eCall ms Φ (ma ++ mrgM tp mk) [])) := by
  obtain ⟨f, fd, g, h1, h2, h3, h4⟩ := C
  subst hG
  subst hΦ
  refine PE.imp (pe_callNS h2 (hr.mono hk) hg h1 h3 h4 (passAt tk) ha hkw hall hks hdb he hpl) fun σ H Q h => ?_
  have := tL_of (tE_call (A := A) (W := W) (dds := []) (dvs := []) .nil σ H Q h)
  rw [o.k] at this
  refine tL_mono (tL_app this) fun vs H1 ⟨l1, h1⟩ => tL_mono (tL_mrg ht h1) fun zs H2 ⟨l2, h2⟩ => ⟨by rw [l1, hn], by rw [l2, hn2], ?_⟩
  rw [List.append_nil] at h2
  exact h2
theorem PE_makeK (C : CalIK X.prog X.w X.K X.mg X.base G x ci k ps ms nl body n ks tp) (o : On X A.g) (hG : A.g.G = G) (hr : Room j X.A) (tk : Takes X W) (hΦ : Φ = runF (true :: ms) nl body) (hk : k + 1 ≤ j) (hg : Gl X x) (ha : PA X (e :: es) (tL A W ma)) (hkw : PK X kws (tL A W mk)) (hn : ma.length = n) (hn2 : mk.length = ks.length) (ht : tplOk tp mk.length = true)
    (hall : (backToKw pos (keywordEach kws X.env)).all (·.1.isSome) = true := by rfl) (hks : (backToKw pos (keywordEach kws X.env)).filterMap (·.1) = ks := by rfl)
    (hdb : (x == ("__debug__" : Str)) = false := by decide) (he : starEach (e :: es) X.env = (false, eval e X.env) :: starEach es X.env := by rfl)
    (hpl : ((backTo pos (starEach (e :: es) X.env)).any (·.1) || (backToKw pos (keywordEach kws X.env)).any (·.1.isNone)) = false := by rfl) :
    PE X (.Call (.Name x pos') (e :: es) kws pos) (tE A W (eMake ci ms Φ (ma ++ mrgM tp mk) [])) := by
  obtain ⟨f, fd, g, h1, h2, h3, h4⟩ := C
  subst hG
  subst hΦ
  refine PE.imp (pe_makeNS h2 h3 (hr.mono hk) hg h1 h4 (passAt tk) ha hkw hall hks hdb he hpl) fun σ H Q h => ?_
  have := tL_of (tE_make (A := A) (W := W) (ci := ci) (dds := []) (dvs := []) .nil σ H Q h)
  rw [o.k] at this
  refine tL_mono (tL_app this) fun vs H1 ⟨l1, h1⟩ => tL_mono (tL_mrg ht h1) fun zs H2 ⟨l2, h2⟩ => ⟨by rw [l1, hn], by rw [l2, hn2], fun x dx a b c => ?_⟩
  have := h2 x dx a b c
  rw [List.append_nil] at this
  exact this
end
end Lc
end
section
set_option Elab.async false
set_option linter.all false
set_option maxRecDepth 100000
set_option maxHeartbeats 1000000
namespace He
open PySem PySem.Spec PyProof.Rows L2
/-! ### tests of the head about own classes -/
def insB (K : PySem.W.Frag) (x y : Str) (b : Bool) : Bool :=
  eqO (PySem.W.findIn K (.ref (ga K x)) "__class__") (some (some (.builtin "object.__class__"))) && (decide (PySem.W.mroIn K (ga K x) (.type "object") = some true) && decide (PySem.W.kitOne K (.ref (ga K x)) (.ref (ga K y)) = some b))
theorem insB_ok {K : PySem.W.Frag} {x y : Str} {b : Bool} (h : insB K x y b = true) : PySem.W.findIn K (.ref (ga K x)) "__class__" = some (some (.builtin "object.__class__")) ∧ PySem.W.mroIn K (ga K x) (.type "object") = some true ∧ PySem.W.kitOne K (.ref (ga K x)) (.ref (ga K y)) = some b := by
  obtain ⟨h1, h⟩ := ba h
  obtain ⟨h2, h3⟩ := ba h
  exact ⟨eqO_ok h1, of_decide_eq_true h2, of_decide_eq_true h3⟩
def dscB (K : PySem.W.Frag) : Bool := eqO (PySem.W.specialIn K (.builtin "object.__class__") "__get__") (some (some (.builtin "getset_descriptor.__get__"))) && decide (PySem.W.takesIn K (.builtin "object.__class__") = some true)
theorem dscB_ok {K : PySem.W.Frag} (h : dscB K = true) : PySem.W.specialIn K (.builtin "object.__class__") "__get__" = some (some (.builtin "getset_descriptor.__get__")) ∧ PySem.W.takesIn K (.builtin "object.__class__") = some true := by
  obtain ⟨h1, h2⟩ := ba h
  exact ⟨eqO_ok h1, of_decide_eq_true h2⟩
def bltB (K : PySem.W.Frag) (y : Str) (bt : List String) : Bool := bt.all fun n => decide (PySem.W.kitOne K (.type n) (.ref (ga K y)) = some false)
theorem bltB_ok {K : PySem.W.Frag} {y : Str} {bt : List String} (h : bltB K y bt = true) : ∀ n ∈ bt, PySem.W.kitOne K (.type n) (.ref (ga K y)) = some false := fun n hn => of_decide_eq_true (List.all_eq_true.mp h n hn)
def crdB (K : PySem.W.Frag) (x m : Str) : Bool := PySem.W.readsIn K (ga K x) (.type "type") && (eqO (PySem.W.specialIn K (.ref (ga K x)) "__getattribute__") (some (some (.builtin "type.__getattribute__"))) && He5.wrapB K (ga K x) "staticmethod" "staticmethod.__get__" m)
theorem crdB_ok {K : PySem.W.Frag} {x m : Str} (h : crdB K x m = true) : ClX.CRead K (ga K x) (.type "type") ∧ PySem.W.findCls K (.ref (ga K x)) (.type "type") m = some (.get (.builtin "staticmethod.__get__") (.ref (ma K (ga K x) m)) .none (.ref (ga K x))) ∧
    ∃ rest, PySem.W.recIn K (ma K (ga K x) m) "staticmethod" = some (.ref (He5.wf K (ga K x) "staticmethod" m) :: rest) := by
  obtain ⟨h1, h⟩ := ba h
  obtain ⟨h2, h3⟩ := ba h
  exact ⟨⟨h1, eqO_ok h2⟩, He5.wrapB_ok h3⟩
end He
namespace Lc
open PySem L2
theorem mrgV_none : ∀ {vs : List V}, mrgV [none] vs = vs.take 1
  | [] => rfl
  | v :: vs => rfl
/-- the tail as the machine binds it: none: a keyword's value, some i: the i-th default -/
def mrgU : List (Option Nat) → List Value → List Value → List Value
  | none :: t, its, u :: us => u :: mrgU t its us
  | some i :: t, its, us => its.getD i .none :: mrgU t its us
  | _, _, _ => []
theorem vals_get : ∀ {vs : List V} {us : List Value} {i : Nat} {v : V}, Vals vs us → vs[i]? = some v → RelV v (us.getD i .none)
  | _, _, 0, v, .cons r _, e => by
    have e := Option.some.inj e
    subst e
    exact r
  | _, _, i + 1, v, .cons _ t, e => by
    have := vals_get (i := i) t (by simpa using e)
    simpa using this
  | _, _, _, _, .nil, e => by simp at e
def tplRel : List (Option D) → List (Option Nat) → List V → Prop
  | none :: t, none :: u, dvs => tplRel t u dvs
  | some d :: t, some i :: u, dvs => dvs[i]? = some (cV d) ∧ tplRel t u dvs
  | [], [], _ => True
  | _, _, _ => False
theorem mrg_rel : ∀ {tp : List (Option D)} {ti : List (Option Nat)} {dvs zs : List V} {its ws : List Value}, tplRel tp ti dvs → Vals dvs its → Vals zs ws → Vals (mrgV tp zs) (mrgU ti its ws)
  | none :: t, none :: u, dvs, _, its, _, h, rd, .cons r rz => .cons r (mrg_rel (tp := t) (ti := u) h rd rz)
  | none :: t, none :: u, dvs, _, its, _, h, rd, .nil => .nil
  | some d :: t, some i :: u, dvs, zs, its, ws, h, rd, rz => by
    rw [mrgV, mrgU]
    exact .cons (vals_get rd h.1) (mrg_rel (tp := t) (ti := u) h.2 rd rz)
  | [], [], _, _, _, _, _, _, _ => .nil
  | none :: _, some _ :: _, _, _, _, _, h, _, _ => h.elim
  | some _ :: _, none :: _, _, _, _, _, h, _, _ => h.elim
  | none :: _, [], _, _, _, _, h, _, _ => h.elim
  | some _ :: _, [], _, _, _, _, h, _, _ => h.elim
  | [], _ :: _, _, _, _, _, h, _, _ => h.elim
theorem vals_app {vs zs : List V} {us ws : List Value} (a : Vals vs us) (b : Vals zs ws) : Vals (vs ++ zs) (us ++ ws) := a.append b
section
variable {K : PySem.W.Frag} {x qual : Str} {params : Arguments} {body : List Stmt} {scope : Scope} {dvs : List V} {kws : List (Str × V)} {f : Addr} {fd : FuncData} {ps : List Str}
/-- n values, keywords ks, the rest defaults (positional ones) -/
theorem kbn_of (F : FunD K x qual params body scope dvs kws f fd) (n : Nat) (ks : List Str) (tp : List (Option D)) (ti : List (Option Nat)) (hd : dvs ≠ []) (ht : tplRel tp ti dvs)
    (h : ∀ (T : Addr) (kV doc pm : Value) (an : Option Addr) (cdv ct : Value) (us its ws : List Value), us.length = n → its.length = dvs.length → ws.length = ks.length →
      ∃ k, bindArgs (PySem.W.fnOf x qual params body scope (.ref T) kV doc pm an cdv ct) ⟨us, ks.zip ws⟩ = seqItems? (.ref T) >>= k ∧ k (some its.toArray) = pure (ps.zip (us ++ mrgU ti its ws))) :
    ∃ g, KBn K fd ps n ks g fun vs zs => vs ++ mrgV tp zs := by
  obtain ⟨oc, od, dV, kV, doc, pm, an, cdv, ct, osl, rfl, lk, hcd, hD, hK⟩ := F.ex
  rcases hD with ⟨e, _⟩ | ⟨_, T, o, its, m, rfl, lT, oT, rT⟩
  · exact absurd e hd
  · refine ⟨fun us ws => us ++ mrgU ti its ws, ⟨fun s us ws Xh l1 l2 => ?_, fun r1 r2 => r1.append (mrg_rel ht rT r2)⟩⟩
    obtain ⟨k, e1, e2⟩ := h T kV doc pm an cdv ct us its ws l1 rT.length.symm l2
    refine BindsTo.of_looks fun M => ?_
    rw [e1]
    exact looks_items Xh lT oT (.of_pure e2)
end
section
variable {A : Act} {W : Wx} {X : Cx} {o e : Expr} {apos cpos : Pos} {mo me : Ctx → ER}
theorem PE_append (o' : On X A.g) (ho : PE X o (tE A W mo)) (ha : PA X [e] (tA' A W (eArgs [me])))
    (hbase : attributeBase o "append" X.env (eval o X.env) = eval o X.env := by rfl)
    (hfew : ((backTo cpos (starEach [e] X.env)).all (fun x => !x.1) && (backToKw cpos (keywordEach [] X.env)).all (fun x => x.1.isSome) && decide ([e].length + ([] : List Keyword).length + (if ([] : List Keyword).isEmpty then 0 else 1) < 30)) = true := by rfl)
    (hline : (apos.endLine == cpos.line) = true := by rfl) (hs : starEach [e] X.env = (false, eval e X.env) :: starEach [] X.env := by rfl) (hplain : (backTo cpos (starEach [] X.env)).any (·.1) = false := by rfl) :
    PE X (.Call (.Attribute o "append" apos) [e] [] cpos) (tE A W (eMth isL fAppend mo [me])) :=
  PE_mth ty_lst ms_append o' PySem.F.plainAttrs_list PySem.F.slot_list_append PySem.F.type_list_append mt_append ho ha hbase hfew hline hs hplain
end
end Lc
end
section
set_option Elab.async false
set_option linter.all false
set_option maxRecDepth 100000
set_option maxHeartbeats 4000000
namespace Lc
open PySem L2
/-! ### plain laws of the plain functions' words -/
theorem okMul_mod {x n j : Int} (h : 0 < n) (h2 : n < 18446744073709551616) : okMul (x % n) j = true := by
  have h3 := Int.emod_nonneg x (show n ≠ 0 by omega)
  have h4 := Int.emod_lt_of_pos x h
  have e : decide (-(2 ^ 64) < x % n ∧ x % n < 2 ^ 64) = true := decide_eq_true ⟨by omega, by omega⟩
  rw [okMul, e]
  rfl
theorem okMul_c {i j : Int} (h : -18446744073709551616 < j) (h2 : j < 18446744073709551616) : okMul i j = true := by
  have e : decide (-(2 ^ 64) < j ∧ j < 2 ^ 64) = true := decide_eq_true ⟨by omega, by omega⟩
  rw [okMul, e, Bool.or_true]
  rfl
theorem okMul_a {i j : Int} (h : -18446744073709551616 < i) (h2 : i < 18446744073709551616) : okMul i j = true := by
  have e : decide (-(2 ^ 64) < i ∧ i < 2 ^ 64) = true := decide_eq_true ⟨by omega, by omega⟩
  rw [okMul, e, Bool.true_or]
  rfl
theorem cut_d (s : List Nat) (i : Int) (h : 0 ≤ i) (h2 : i ≤ s.length) : cut s (some i) none = s.drop i.toNat := by
  have : HT.sIx s.length 0 (some i) = i.toNat := by
    show (if i < 0 then (i + (s.length : Int)).toNat else min i.toNat s.length) = _
    rw [if_neg (by omega)]; omega
  rw [cut, this]
  show List.take (s.length - i.toNat) (s.drop i.toNat) = _
  exact List.take_of_length_le (by rw [List.length_drop]; omega)
theorem cut_t (s : List Nat) (i : Int) (h : 0 ≤ i) (h2 : i ≤ s.length) : cut s none (some i) = s.take i.toNat := by
  have : HT.sIx s.length s.length (some i) = i.toNat := by
    show (if i < 0 then (i + (s.length : Int)).toNat else min i.toNat s.length) = _
    rw [if_neg (by omega)]; omega
  rw [cut, this]
  show List.take (i.toNat - 0) (s.drop 0) = _
  rfl
theorem cut_t' (s : List Nat) (i : Int) (h : 0 ≤ i) : cut s none (some i) = s.take i.toNat := by
  by_cases h2 : i ≤ s.length
  · exact cut_t s i h h2
  have : HT.sIx s.length s.length (some i) = s.length := by
    show (if i < 0 then (i + (s.length : Int)).toNat else min i.toNat s.length) = _
    rw [if_neg (by omega)]; omega
  rw [cut, this]
  show List.take (s.length - 0) (s.drop 0) = _
  rw [List.take_of_length_le (by simp), List.take_of_length_le (by omega)]
  rfl
theorem cut_d' (s : List Nat) (i : Int) (h : 0 ≤ i) : cut s (some i) none = s.drop i.toNat := by
  by_cases h2 : i ≤ s.length
  · exact cut_d s i h h2
  have : HT.sIx s.length 0 (some i) = s.length := by
    show (if i < 0 then (i + (s.length : Int)).toNat else min i.toNat s.length) = _
    rw [if_neg (by omega)]; omega
  rw [cut, this]
  show List.take (s.length - s.length) (s.drop s.length) = _
  rw [Nat.sub_self, List.take_zero, List.drop_of_length_le (by omega)]
theorem cmp_map {own : List Nat} {t : Tg} {test : Ctx → TR} {elt : Ctx → ER} {c : Ctx} (f : D → D) (cx : D → Ctx) : ∀ (xs acc : List D), (∀ x ∈ xs, bindT t x c = some (cx x) ∧ test (cx x) = .ok true (cx x) ∧ elt (cx x) = .ok (.t (f x)) (cx x) ∧ freeC own (cx x) = true ∧ wipeC own (cx x) = c) → acc.length + xs.length ≤ 16777216 → cmpLoop own t test elt xs acc c = .ok (.t (.nd .lst .own (acc ++ xs.map f))) c
  | [], acc, _, _ => by simp [cmpLoop]
  | x :: xs, acc, h, hl => by
    obtain ⟨h1, h2, h3, h4, h5⟩ := h x (List.mem_cons_self ..)
    rw [List.length_cons] at hl
    have h6 : decide (acc.length < 16777216) = true := decide_eq_true (by omega)
    rw [cmpLoop, h1]
    dsimp only
    rw [h2]
    dsimp only
    rw [h3]
    dsimp only
    rw [h4, h6, h5, Bool.and_self, if_pos rfl, cmp_map f cx xs (acc ++ [f x]) (fun y hy => h y (List.mem_cons_of_mem _ hy)) (by rw [List.length_append]; simp; omega)]
    simp
theorem cmp_fil {own : List Nat} {t : Tg} {test : Ctx → TR} {elt : Ctx → ER} {c : Ctx} (p : D → Bool) (f : D → D) (cx : D → Ctx) : ∀ (xs acc : List D), (∀ x ∈ xs, bindT t x c = some (cx x) ∧ test (cx x) = .ok (p x) (cx x) ∧ elt (cx x) = .ok (.t (f x)) (cx x) ∧ freeC own (cx x) = true ∧ wipeC own (cx x) = c) → acc.length + xs.length ≤ 16777216 → cmpLoop own t test elt xs acc c = .ok (.t (.nd .lst .own (acc ++ (xs.filter p).map f))) c
  | [], acc, _, _ => by simp [cmpLoop]
  | x :: xs, acc, h, hl => by
    obtain ⟨h1, h2, h3, h4, h5⟩ := h x (List.mem_cons_self ..)
    rw [List.length_cons] at hl
    have h6 : decide (acc.length < 16777216) = true := decide_eq_true (by omega)
    rw [cmpLoop, h1]
    dsimp only
    rw [h2]
    cases hp : p x with
    | false =>
      dsimp only
      rw [h4, h5, if_pos rfl, cmp_fil p f cx xs acc (fun y hy => h y (List.mem_cons_of_mem _ hy)) (by omega), List.filter_cons_of_neg (by rw [hp]; exact Bool.false_ne_true)]
    | true =>
      dsimp only
      rw [h3]
      dsimp only
      rw [h4, h6, h5, Bool.and_self, if_pos rfl, cmp_fil p f cx xs (acc ++ [f x]) (fun y hy => h y (List.mem_cons_of_mem _ hy)) (by rw [List.length_append]; simp; omega), List.filter_cons_of_pos hp]
      simp
theorem cmp_inv {own : List Nat} {t : Tg} {test : Ctx → TR} {elt : Ctx → ER} (Inv : Ctx → Prop) (R : D → Prop) : ∀ (xs acc : List D) (c : Ctx), Inv c → (∀ x ∈ xs, ∀ c, Inv c → ∃ cx y c2, bindT t x c = some cx ∧ test cx = .ok true cx ∧ elt cx = .ok (.t y) c2 ∧ freeC own c2 = true ∧ Inv (wipeC own c2) ∧ R y) → acc.length + xs.length ≤ 16777216 → ∃ ys c', cmpLoop own t test elt xs acc c = .ok (.t (.nd .lst .own (acc ++ ys))) c' ∧ Inv c' ∧ ys.length = xs.length ∧ ∀ y ∈ ys, R y
  | [], acc, c, hc, _, _ => ⟨[], c, by simp [cmpLoop], hc, rfl, fun y h => by cases h⟩
  | x :: xs, acc, c, hc, h, hl => by
    obtain ⟨cx, y, c2, h1, h2, h3, h4, h5, hr⟩ := h x (List.mem_cons_self ..) c hc
    rw [List.length_cons] at hl
    have h6 : decide (acc.length < 16777216) = true := decide_eq_true (by omega)
    obtain ⟨ys, c', e, hi, hn, hy⟩ := cmp_inv Inv R xs (acc ++ [y]) (wipeC own c2) h5 (fun z hz => h z (List.mem_cons_of_mem _ hz)) (by rw [List.length_append]; simp; omega)
    refine ⟨y :: ys, c', ?_, hi, by simp [hn], fun z hz => ?_⟩
    · rw [cmpLoop, h1]
      dsimp only
      rw [h2]
      dsimp only
      rw [h3]
      dsimp only
      rw [h4, h6, Bool.and_self, if_pos rfl, e]
      simp
    · rcases List.mem_cons.mp hz with rfl | hz
      · exact hr
      · exact hy z hz
theorem strs_one : ∀ l : List Nat, strsOf (l.map fun c => .str [c]) = some (l.map fun c => [c])
  | [] => rfl
  | c :: l => by rw [List.map_cons, strsOf, strs_one l]; rfl
theorem joinL_one : ∀ l : List Nat, joinL [] (l.map fun c => [c]) = l
  | [] => rfl
  | [c] => rfl
  | c :: d :: l => by
    have := joinL_one (d :: l)
    simp only [List.map_cons] at this
    simp only [List.map_cons, joinL]
    rw [this]; rfl
theorem sum_one : ∀ l : List Nat, ((l.map fun c => [c]).map (·.length)).sum = l.length
  | [] => rfl
  | c :: l => by
    have := sum_one l
    simp only [List.map_cons, List.sum_cons, List.length_cons] at this ⊢
    rw [this]
    simp; omega
theorem join_one (l : List Nat) (h : l.length ≤ 16777216) : fJoin [] [.nd .lst .own (l.map fun c => .str [c])] = some (.str l) := by
  have : (l.length : Nat) + (l.map fun c => [c]).length * ([] : List Nat).length ≤ 16777216 := by simpa using h
  simp only [fJoin, seqOf, strs_one, Option.bind_some, sum_one, joinL_one]
  rw [if_pos this]
theorem at_get (s : List Nat) (i : Int) (h : 0 ≤ i) (h2 : i < s.length) : atI s i = some (s.getD i.toNat 0) := by
  have e : ixN s.length i = some i.toNat := by rw [ixN, if_pos h, if_pos h2]
  have h3 : i.toNat < s.length := by omega
  rw [atI, e, Option.bind_some, List.getD_eq_getElem?_getD, List.getElem?_eq_getElem h3]
  rfl
theorem okR_len {n : Nat} (h : n ≤ 100) : okR (n : Int) = true := by
  have h1 : (n : Int) ≤ 100 := by omega
  have h0 : (0 : Int) ≤ n := by omega
  have : -(2 ^ 62) ≤ (n : Int) ∧ (n : Int) < 2 ^ 62 := ⟨Int.le_trans (by decide) h0, Int.lt_of_le_of_lt h1 (by decide)⟩
  exact decide_eq_true this
theorem fR1_n {n : Nat} (h : n ≤ 100) : fR1 [.int n] = some ((List.range n).map fun (k : Nat) => .int (0 + k)) := by
  have e := okR_len h
  unfold fR1
  dsimp only
  generalize okR (n : Int) = b at *
  rw [e, if_pos rfl, Int.toNat_natCast]
theorem itA_is {f : List D → Option (List D)} {m : Ctx → ER} {c : Ctx} {d : D} {xs : List D} (h : eArgs [m] c = .ok [.t d] c) (e : f [d] = some xs) : itA f [m] c = .ok xs c := by
  have e1 : valsOf c [.t d] = some [d] := rfl
  unfold itA
  rw [h]
  dsimp only
  rw [e1]
  dsimp only
  rw [e]
  rfl
theorem itR1 {m : Ctx → ER} {c : Ctx} {n : Nat} (h : eArgs [m] c = .ok [.t (.int n)] c) (hl : n ≤ 100) : itA fR1 [m] c = .ok ((List.range n).map fun (k : Nat) => .int (0 + k)) c := itA_is h (fR1_n hl)
theorem fR1_i {r : Int} (h0 : 0 ≤ r) (h : r ≤ 100) : fR1 [.int r] = some ((List.range r.toNat).map fun (k : Nat) => .int (0 + k)) := by
  obtain ⟨n, rfl⟩ : ∃ n : Nat, r = n := ⟨r.toNat, by omega⟩
  rw [fR1_n (by omega), Int.toNat_natCast]
theorem itR1i {m : Ctx → ER} {c c1 : Ctx} {r : Int} (h : eArgs [m] c = .ok [.t (.int r)] c1) (h0 : 0 ≤ r) (hl : r ≤ 100) : itA fR1 [m] c = .ok ((List.range r.toNat).map fun (k : Nat) => .int (0 + k)) c1 := by
  have e1 : valsOf c1 [.t (.int r)] = some [.int r] := rfl
  unfold itA
  rw [h]
  dsimp only
  rw [e1]
  dsimp only
  rw [fR1_i h0 hl]
  rfl
theorem eCmp_is {own : List Nat} {it : Ctx → IR} {t : Tg} {test : Ctx → TR} {elt : Ctx → ER} {c : Ctx} {xs : List D} {r : ER} (h : it c = .ok xs c) (hf : freeC own c = true) (hw : wipeC own c = c) (hr : cmpLoop own t test elt xs [] c = r) : eCmp own it t test elt c = r := by
  rw [eCmp, h]
  dsimp only
  rw [hf, hw, if_pos rfl, hr]
theorem eSM_join {m : Ctx → ER} {c c1 : Ctx} {l : List Nat} (h : m c = .ok (.t (.nd .lst .own (l.map fun c => .str [c]))) c1) (hl : l.length ≤ 16777216) : eSM fJoin (eC (.str [])) [m] c = .ok (.t (.str l)) c1 := by
  have e1 : eC (.str []) c = .ok (.t (.str [])) c := rfl
  have e2 : eArgs [m] c = .ok [.t (.nd .lst .own (l.map fun c => .str [c]))] c1 := by simp [eArgs, h, lockE]
  unfold eSM
  rw [e1]
  dsimp only
  rw [e2]
  dsimp only
  have e3 : valsOf c1 [.t (.nd .lst .own (l.map fun c => .str [c]))] = some [.nd .lst .own (l.map fun c => .str [c])] := rfl
  rw [e3]
  dsimp only
  rw [join_one l hl]
  rfl
theorem eOp1_is {f : List D → Option D} {m : Ctx → ER} {c c1 : Ctx} {d r : D} (h : m c = .ok (.t d) c1) (e : f [d] = some r) : eOp f [m] c = .ok (.t r) c1 := by
  have e2 : eArgs [m] c = .ok [.t d] c1 := by simp [eArgs, h, lockE]
  have e1 : valsOf c1 [.t d] = some [d] := rfl
  unfold eOp
  rw [e2]
  dsimp only
  rw [e1]
  dsimp only
  rw [e]
  rfl
theorem noOwn_ints : ∀ ns : List Int, noOwnL (ns.map .int) = true
  | [] => rfl
  | n :: ns => by rw [List.map_cons, noOwnL, noOwn_ints ns]; rfl
theorem ints_map : ∀ ns : List Int, intsOf (ns.map .int) = some ns
  | [] => rfl
  | n :: ns => by rw [List.map_cons, intsOf, ints_map ns]; rfl
theorem cut_ints (ns : List Int) (lo hi : Option Int) : cut (ns.map D.int) lo hi = (cut ns lo hi).map .int := by
  rw [cut, cut, List.length_map, List.map_take, List.map_drop]
theorem noOwn_strs : ∀ l : List Nat, noOwnL (l.map fun c => D.str [c]) = true
  | [] => rfl
  | n :: ns => by rw [List.map_cons, noOwnL, noOwn_strs ns]; rfl
theorem strsOf_map : ∀ xs : List (List Nat), strsOf (xs.map .str) = some xs
  | [] => rfl
  | x :: xs => by rw [List.map_cons, strsOf, strsOf_map xs]; rfl
end Lc
end
section
set_option Elab.async false
set_option linter.all false
set_option maxRecDepth 100000
set_option maxHeartbeats 4000000
namespace Lc
namespace K03
open PySem L2
open PyProof.Rows (envOfC)
abbrev P : Program := PySem.Challenge.pw_leapcard_k03_jumps_checked_and_written
def top (i : Nat) : Stmt := P.main.body.getD i (.Pass ⟨0, 0, 0, 0⟩)
def Gof (K : PySem.W.Frag) : Nat → Addr := fun k => He.ga K (match k with | 0 => "InvalidRow" | 1 => "InvalidJump" | 2 => "Jump" | _ => "")
def okx_InvalidRow : D → Bool := fun d => match d with | .str s => decide ((reprText (strL s)).length ≤ 16000000) | _ => false
def okx_InvalidJump : D → Bool := fun d => match d with | .str s => decide ((reprText (strL s)).length ≤ 16000000) | _ => false
def okv_InvalidJump : Value → Prop := fun u => ∃ x t, u = .str x t ∧ 14 + (reprText x).length ≤ sizeLine
theorem ok_InvalidJump {g : Gs} : ∀ (I B H : Hp) (d : D) (v : V) (u : Value), okx_InvalidJump d = true → R g I B H d v [] → RelV v u → okv_InvalidJump u := fun I B H d v u h r rv => by
  cases d with
  | str s =>
    rw [R] at r
    obtain ⟨rfl, _⟩ := r
    obtain ⟨t, rfl⟩ := rv
    refine ⟨_, t, rfl, ?_⟩
    have h : (reprText (strL s)).length ≤ 16000000 := by simpa [okx_InvalidJump] using h
    have e : (reprText (⟨s.toArray⟩ : Str)).length = (reprText (strL s)).length := rfl
    rw [e, sizeLine_eq]
    omega
  | _ => cases h
def okv_InvalidRow : Value → Prop := fun u => ∃ x t, u = .str x t ∧ 13 + (reprText x).length ≤ sizeLine
theorem ok_InvalidRow {g : Gs} : ∀ (I B H : Hp) (d : D) (v : V) (u : Value), okx_InvalidRow d = true → R g I B H d v [] → RelV v u → okv_InvalidRow u := fun I B H d v u h r rv => by
  cases d with
  | str s =>
    rw [R] at r
    obtain ⟨rfl, _⟩ := r
    obtain ⟨t, rfl⟩ := rv
    refine ⟨_, t, rfl, ?_⟩
    have h : (reprText (strL s)).length ≤ 16000000 := by simpa [okx_InvalidRow] using h
    have e : (reprText (⟨s.toArray⟩ : Str)).length = (reprText (strL s)).length := rfl
    rw [e, sizeLine_eq]
    omega
  | _ => cases h
def ist_Jump : Nat → Option Bool := fun k => match k with | 2 => some true | _ => none
def isb_Jump : List String := ["NoneType", "bool", "int", "str", "tuple", "list", "dict"]
def mt_LeapError : Nat → Option Bool := fun k => match k with | 0 => some true | 1 => some true | _ => none
def tbl_MIRRORED_WAYS : List (List Nat × List Nat) := [([114, 105, 103, 104, 116], [108, 101, 102, 116]), ([108, 101, 102, 116], [114, 105, 103, 104, 116]), ([98, 111, 116, 104], [98, 111, 116, 104])]
def tbl_SIGN_WAYS : List (List Nat × List Nat) := [([62], [114, 105, 103, 104, 116]), ([60], [108, 101, 102, 116]), ([61], [98, 111, 116, 104])]
def tbl_WAY_SIGNS : List (List Nat × List Nat) := [([114, 105, 103, 104, 116], [62]), ([108, 101, 102, 116], [60]), ([98, 111, 116, 104], [61])]
def fo_text : Nat → Bool := fun k => match k with | 0 => false | 1 => true | _ => false
def is_InvalidJump : Nat → Option Bool := fun k => match k with | 0 => some false | 1 => some true | _ => none
structure Fs (w : World) (K : PySem.W.Frag) (mg : Str → Option Value) : Prop where
  b_super : mg "super" = none
  x_InvalidJump : PySem.XS.XTxt P K (He.ga K "InvalidJump") (He.ma K (He.ga K "InvalidJump") "__init__") "text" okv_InvalidJump
  x_InvalidRow : PySem.XS.XTxt P K (He.ga K "InvalidRow") (He.ma K (He.ga K "InvalidRow") "__init__") "row" okv_InvalidRow
  fl_Jump_after : FldC K (Gof K) [2] "after"
  fl_Jump_before : FldC K (Gof K) [2] "before"
  fl_Jump_ways : FldC K (Gof K) [2] "ways"
  b_int : mg "int" = none
  b_isinstance : mg "isinstance" = none
  b_len : mg "len" = none
  b_list : mg "list" = none
  b_min : mg "min" = none
  b_range : mg "range" = none
  b_str : mg "str" = none
  b_sum : mg "sum" = none
  b_tuple : mg "tuple" = none
  is_Jump : InsT K (Gof K) (He.ga K "Jump") ist_Jump isb_Jump
  mt_LeapError : ∀ k b, mt_LeapError k = some b → PySem.W.exmOne K (.ref (Gof K k)) (.ref (He.ga K "LeapError")) = some b
  s_FREE : ∃ t, mg "FREE" = some (.str (PySem.Str.ofString ".") t)
  s_PEGS : ∃ t, mg "PEGS" = some (.str (PySem.Str.ofString "abcd") t)
  s_SIGNS : ∃ t, mg "SIGNS" = some (.str (PySem.Str.ofString "#.:ABCDabcd") t)
  tb_MIRRORED_WAYS : ∃ a, mg "MIRRORED_WAYS" = some (.ref a) ∧ TabOk K w a tbl_MIRRORED_WAYS
  tb_SIGN_WAYS : ∃ a, mg "SIGN_WAYS" = some (.ref a) ∧ TabOk K w a tbl_SIGN_WAYS
  tb_WAY_SIGNS : ∃ a, mg "WAY_SIGNS" = some (.ref a) ∧ TabOk K w a tbl_WAY_SIGNS
  tp_WINDOW_LENGTHS : ∃ a, mg "WINDOW_LENGTHS" = some (.ref a) ∧ ∀ H, SqT K H a ([D.int 3, D.int 4].map cV)
  xf_text : ∀ k, fo_text k = true → XfC K (Gof K k) ∧ PySem.W.findIn K (.ref (Gof K k)) "text" = some none
  xi_InvalidJump : ∀ k b, is_InvalidJump k = some b → ExcC K (Gof K k) ∧ PySem.W.kitOne K (.ref (Gof K k)) (.ref (He.ga K "InvalidJump")) = some b
  c_InvalidJump : mg "InvalidJump" = some (.ref (He.ga K "InvalidJump"))
  c_InvalidRow : mg "InvalidRow" = some (.ref (He.ga K "InvalidRow"))
  c_Jump : mg "Jump" = some (.ref (He.ga K "Jump"))
  c_LeapError : mg "LeapError" = some (.ref (He.ga K "LeapError"))
abbrev st__law_take : Stmt := top 22
def m__law_take : Ctx → SR := sSeq (sIf (tOfE (eOp fGt [eIx (eN 0) (eC (.int 0)), eC (.int 0)])) (sSeq (sSet 2 (eOp (fII gMod) [eOp fInt1 [eIx (eN 0) (eC (.int 0))], eN 1])) (sSeq (sSetI fSetL (eOp (fII gDiv) [eIx (eN 0) (eC (.int 0)), eN 1]) (eN 0) (eC (.int 0))) (sRet (eMv 2)))) (sNx)) (sSeq (sSetI fSetL (eOp fAdd [eIx (eN 0) (eC (.int 1)), eC (.int 1)]) (eN 0) (eC (.int 1))) (sSeq (sSet 3 (eOp (fII gMod) [eOp fInt1 [eOp fAdd [eOp fAdd [eOp fMul [eIx (eN 0) (eC (.int 2)), eC (.int 48271)], eOp fMul [eIx (eN 0) (eC (.int 1)), eC (.int 69623)]], eC (.int 12347)]], eC (.int 2147483647)])) (sSeq (sSet 3 (eOp (fII gMod) [eOp fInt1 [eOp fAdd [eOp fMul [eN 3, eN 3], eOp fMul [eIx (eN 0) (eC (.int 1)), eC (.int 40709)]]], eC (.int 2147483629)])) (sSeq (sSet 3 (eOp (fII gMod) [eOp fInt1 [eOp fAdd [eOp fAdd [eOp fMul [eN 3, eN 3], eOp fMul [eIx (eN 0) (eC (.int 2)), eC (.int 7919)]], eC (.int 31)]], eC (.int 2147483587)])) (sRet (eOp (fII gMod) [eOp fInt1 [eOp (fII gDiv) [eN 3, eC (.int 32)]], eN 1]))))))
def F__law_take : List D → FR := runF [true, false] 2 m__law_take
abbrev st__law_bend : Stmt := top 31
def m__law_bend : Ctx → SR := sSeq (sSet 2 (eC (.str [97, 98, 99, 100, 46, 62, 60, 61, 97, 98, 99, 100, 46, 62, 60, 61, 58, 35, 65, 66, 67, 68, 101, 48, 32, 45, 126, 10]))) (sSeq (sSet 3 (eCall [true, false] F__law_take [eN 0, eC (.int 10)] [])) (sSeq (sSet 4 (eCall [true, false] F__law_take [eN 0, eOp fAdd [eOp fLen [eN 1], eC (.int 1)]] [])) (sSeq (sSet 5 (eIx (eN 2) (eCall [true, false] F__law_take [eN 0, eOp fLen [eN 2]] []))) (sSeq (sIf (tOfE (eOp fLt [eN 3, eC (.int 2)])) (sRet (eOp fAdd [eOp fAdd [eOp fSlR [eN 1, eN 4], eN 5], eOp fSlL [eN 1, eN 4]])) (sNx)) (sSeq (sIf (tOfE (eOp fLt [eN 3, eC (.int 5)])) (sRet (eOp fAdd [eOp fAdd [eOp fSlR [eN 1, eN 4], eN 5], eOp fSlL [eN 1, eOp fAdd [eN 4, eC (.int 1)]]])) (sNx)) (sSeq (sIf (tOfE (eOp fEq [eN 3, eC (.int 5)])) (sRet (eOp fAdd [eOp fSlR [eN 1, eN 4], eOp fSlL [eN 1, eOp fAdd [eN 4, eC (.int 1)]]])) (sNx)) (sSeq (sIf (tOfE (eOp fEq [eN 3, eC (.int 6)])) (sRet (eOp fAdd [eOp fAdd [eOp fAdd [eOp fSlR [eN 1, eN 4], eOp fSlB [eN 1, eInt (eOp fAdd [eN 4, eC (.int 1)]), eOp fAdd [eN 4, eC (.int 2)]]], eOp fSlB [eN 1, eInt (eN 4), eOp fAdd [eN 4, eC (.int 1)]]], eOp fSlL [eN 1, eOp fAdd [eN 4, eC (.int 2)]]])) (sNx)) (sSeq (sIf (tOfE (eOp fEq [eN 3, eC (.int 7)])) (sRet (eOp fSlR [eN 1, eN 4])) (sNx)) (sSeq (sIf (tOfE (eOp fEq [eN 3, eC (.int 8)])) (sRet (eOp fAdd [eOp fAdd [eN 1, eN 5], eOp fSlL [eN 1, eN 4]])) (sNx)) (sRet (eIx (eLst [eOp fAdd [eN 1, eC (.str [10])], eOp fAdd [eC (.str [32]), eN 1], eOp fAdd [eN 1, eC (.str [32])]]) (eCall [true, false] F__law_take [eN 0, eC (.int 3)] []))))))))))))
def F__law_bend : List D → FR := runF [true, false] 4 m__law_bend
abbrev st__law_cell : Stmt := top 20
def m__law_cell : Ctx → SR := sSeq (sIf (tOfE (eOp fLt [eN 1, eOp fMin [eC (.int 63), eOp fLen [eN 0]]])) (sRet (eIx (eN 0) (eN 1))) (sNx)) (sRet (eOp fAdd [eOp fAdd [eOp fMul [eOp (fII gMod) [eOp fInt1 [eOp fSum [eOp fSlR [eN 0, eC (.int 1)]]], eC (.int 1000003)], eC (.int 7919)], eOp fMul [eN 1, eC (.int 15485863)]], eC (.int 41)]))
def F__law_cell : List D → FR := runF [false, false] 0 m__law_cell
abbrev st__law_box : Stmt := top 21
def m__law_box : Ctx → SR := sSeq (sSet 2 (eCall [false, false] F__law_cell [eN 0, eN 1] [])) (sSeq (sSet 3 (eOp (fII gMod) [eOp fInt1 [eOp fAdd [eN 2, eOp fMul [eN 1, eC (.int 104729)]]], eC (.int 2147483647)])) (sSeq (sIf (tOfE (eOp fGe [eN 2, eOp (fII gPow) [eC (.int 10), eC (.int 18)]])) (sRet (eLst [eN 2, eC (.int 0), eN 3])) (sNx)) (sRet (eLst [eC (.int 0), eC (.int 0), eN 3]))))
def F__law_box : List D → FR := runF [false, false] 2 m__law_box
abbrev st__law_is_jump : Stmt := top 25
def m__law_is_jump : Ctx → SR := sSeq (sSet 3 (eOp fLen [eN 0])) (sSeq (sIf (tOrT (tOfE (eOp fNin [eN 2, eLst [eC (.str [114, 105, 103, 104, 116]), eC (.str [108, 101, 102, 116]), eC (.str [98, 111, 116, 104])]])) (tOrT (tOfE (eOp fNe [eOp fLen [eN 1], eN 3])) (tOrT (tOfE (eOp fLt [eN 3, eC (.int 3)])) (tOfE (eOp fGt [eN 3, eC (.int 4)]))))) (sRet (eC (.bl false))) (sNx)) (sSeq (sIf (tOrT (tOfE (eOp fNe [eIx (eN 0) (eOp (fII gSub) [eN 3, eC (.int 1)]), eC (.str [46])])) (tOfE (eOp fNe [eIx (eN 1) (eC (.int 0)), eC (.str [46])]))) (sRet (eC (.bl false))) (sNx)) (sSeq (sFor (itA fR1 [eOp (fII gSub) [eN 3, eC (.int 1)]]) (.n 4) (sIf (tOrT (tOfE (eOp fNin [eIx (eN 0) (eN 4), eC (.str [97, 98, 99, 100])])) (tOfE (eOp fNin [eIx (eN 1) (eOp fAdd [eN 4, eC (.int 1)]), eC (.str [46, 97, 98, 99, 100])]))) (sRet (eC (.bl false))) (sNx))) (sRet (eC (.bl true))))))
def F__law_is_jump : List D → FR := runF [false, false, false] 2 m__law_is_jump
abbrev st_Jump_eq : Stmt := inClass (top 18) 4
def m_Jump_eq : Ctx → SR := sRet (eAnd (eOp (fIsC ist_Jump isb_Jump) [eN 1]) (eAnd (eOp fEq [eOp (fFld [2] "before") [eN 0], eOp (fFld [2] "before") [eN 1]]) (eAnd (eOp fEq [eOp (fFld [2] "after") [eN 0], eOp (fFld [2] "after") [eN 1]]) (eOp fEq [eOp (fFld [2] "ways") [eN 0], eOp (fFld [2] "ways") [eN 1]]))))
def F_Jump_eq : List D → FR := runF [false, false] 0 m_Jump_eq
abbrev st_is_after : Stmt := top 16
def m_is_after : Ctx → SR := sSeq (sIf (tOrT (tOfE (eOp fNin [eOp fLen [eN 0], eC (.tup [.int 3, .int 4])])) (tOfE (eOp fNe [eIx (eN 0) (eC (.int 0)), eC (.str [46])]))) (sRet (eC (.bl false))) (sNx)) (sSeq (sFor (itE (eN 0)) (.n 1) (sIf (tAndT (tOfE (eOp fNe [eN 1, eC (.str [46])])) (tOfE (eOp fNin [eN 1, eC (.str [97, 98, 99, 100])]))) (sRet (eC (.bl false))) (sNx))) (sRet (eC (.bl true))))
def F_is_after : List D → FR := runF [false] 1 m_is_after
abbrev st_is_before : Stmt := top 15
def m_is_before : Ctx → SR := sSeq (sIf (tOrT (tOfE (eOp fNin [eOp fLen [eN 0], eC (.tup [.int 3, .int 4])])) (tOfE (eOp fNe [eIx (eN 0) (eOp fNeg [eC (.int 1)]), eC (.str [46])]))) (sRet (eC (.bl false))) (sNx)) (sSeq (sFor (itE (eOp fSlR [eN 0, eOp fNeg [eC (.int 1)]])) (.n 1) (sIf (tOfE (eOp fNin [eN 1, eC (.str [97, 98, 99, 100])])) (sRet (eC (.bl false))) (sNx))) (sRet (eC (.bl true))))
def F_is_before : List D → FR := runF [false] 1 m_is_before
abbrev st_is_jump : Stmt := top 17
def m_is_jump : Ctx → SR := sRet (eAnd (eCall [false] F_is_before [eN 0] []) (eAnd (eCall [false] F_is_after [eN 1] []) (eAnd (eOp fEq [eOp fLen [eN 0], eOp fLen [eN 1]]) (eOp (fTIn tbl_WAY_SIGNS) [eN 2]))))
def F_is_jump : List D → FR := runF [false, false, false] 0 m_is_jump
abbrev st_Jump_init : Stmt := inClass (top 18) 0
def m_Jump_init : Ctx → SR := sSeq (sIf (tNotT (tTru (eCall [false, false, false] F_is_jump [eN 1, eN 2, eN 3] []))) (sRaise 1 "text" okx_InvalidJump (eN 1)) (sNx)) (sSeq (sSetF (fSetF [2] "before") (eN 1) (eN 0)) (sSeq (sSetF (fSetF [2] "after") (eN 2) (eN 0)) (sSetF (fSetF [2] "ways") (eN 3) (eN 0))))
def F_Jump_init : List D → FR := runF [true, false, false, false] 0 m_Jump_init
abbrev st_Jump_mirrored : Stmt := inClass (top 18) 3
def m_Jump_mirrored : Ctx → SR := sRet (eFt (eMake 2 [false, false, false] F_Jump_init [eOp (fFld [2] "before") [eN 0], eOp (fFld [2] "after") [eN 0], eOp (fTIx tbl_MIRRORED_WAYS) [eOp (fFld [2] "ways") [eN 0]]] []))
def F_Jump_mirrored : List D → FR := runF [false] 0 m_Jump_mirrored
abbrev st_check_row : Stmt := top 8
def m_check_row : Ctx → SR := sFor (itE (eN 0)) (.n 2) (sIf (tOfE (eOp fNin [eN 2, eN 1])) (sRaise 0 "row" okx_InvalidRow (eN 0)) (sNx))
def F_check_row : List D → FR := runF [false, false] 1 m_check_row
abbrev st_mirror : Stmt := top 9
def m_mirror : Ctx → SR := sSeq (sExpr (eCall [false, false] F_check_row [eN 0, eC (.str [35, 46, 58, 65, 66, 67, 68, 97, 98, 99, 100])] [])) (sRet (eOp fRev [eN 0]))
def F_mirror : List D → FR := runF [false] 0 m_mirror
abbrev st_Jump_windows : Stmt := inClass (top 18) 2
def m_Jump_windows : Ctx → SR := sSeq (sSet 1 (eLst [])) (sSeq (sIf (tOfE (eOp fNe [eOp (fFld [2] "ways") [eN 0], eC (.str [108, 101, 102, 116])])) (sExpr (eMth isL fAppend (eN 1) [eTup [eOp (fFld [2] "before") [eN 0], eOp (fFld [2] "after") [eN 0]]])) (sNx)) (sSeq (sIf (tOfE (eOp fNe [eOp (fFld [2] "ways") [eN 0], eC (.str [114, 105, 103, 104, 116])])) (sExpr (eMth isL fAppend (eN 1) [eTup [eCall [false] F_mirror [eOp (fFld [2] "before") [eN 0]] [], eCall [false] F_mirror [eOp (fFld [2] "after") [eN 0]] []]])) (sNx)) (sRet (eMv 1))))
def F_Jump_windows : List D → FR := runF [false] 1 m_Jump_windows
abbrev st__law_text : Stmt := top 23
def m__law_text : Ctx → SR := sRet (eAnd (eOp fIsi [eN 0, eC (.ty "str")]) (eOp fEq [eN 0, eN 1]))
def F__law_text : List D → FR := runF [false, false] 0 m__law_text
abbrev st__law_image : Stmt := top 24
def m__law_image : Ctx → SR := sRet (eSM fJoin (eC (.str [])) [eCmp [1] (itA fR1 [eOp fLen [eN 0]]) (.n 1) (fun c => .ok true c) (eIx (eN 0) (eOp (fII gSub) [eOp (fII gSub) [eOp fLen [eN 0], eC (.int 1)], eN 1]))])
def F__law_image : List D → FR := runF [false] 1 m__law_image
abbrev st__law_windows : Stmt := top 28
def m__law_windows : Ctx → SR := sSeq (sSet 1 (eLst [])) (sSeq (sIf (tOfE (eOp fNe [eIx (eN 0) (eC (.int 2)), eC (.str [108, 101, 102, 116])])) (sExpr (eMth isL fAppend (eN 1) [eTup [eIx (eN 0) (eC (.int 0)), eIx (eN 0) (eC (.int 1))]])) (sNx)) (sSeq (sIf (tOfE (eOp fNe [eIx (eN 0) (eC (.int 2)), eC (.str [114, 105, 103, 104, 116])])) (sExpr (eMth isL fAppend (eN 1) [eTup [eCall [false] F__law_image [eIx (eN 0) (eC (.int 0))] [], eCall [false] F__law_image [eIx (eN 0) (eC (.int 1))] []]])) (sNx)) (sRet (eMv 1))))
def F__law_windows : List D → FR := runF [false] 1 m__law_windows
abbrev st__law_listed : Stmt := top 37
def m__law_listed : Ctx → SR := sSeq (sSet 2 (eCall [false] F__law_windows [eN 1] [])) (sSeq (sIf (tOrT (tNotT (tTru (eOp fIsi [eN 0, eC (.ty "list")]))) (tOfE (eOp fNe [eOp fLen [eN 0], eOp fLen [eN 2]]))) (sRet (eC (.bl false))) (sNx)) (sSeq (sFor (itA fR1 [eOp fLen [eN 2]]) (.n 3) (sSeq (sIf (tOrT (tNotT (tTru (eOp fIsi [eIx (eN 0) (eN 3), eC (.ty "tuple")]))) (tOfE (eOp fNe [eOp fLen [eIx (eN 0) (eN 3)], eC (.int 2)]))) (sRet (eC (.bl false))) (sNx)) (sIf (tOrT (tNotT (tTru (eCall [false, false] F__law_text [eIx (eIx (eN 0) (eN 3)) (eC (.int 0)), eIx (eIx (eN 2) (eN 3)) (eC (.int 0))] []))) (tNotT (tTru (eCall [false, false] F__law_text [eIx (eIx (eN 0) (eN 3)) (eC (.int 1)), eIx (eIx (eN 2) (eN 3)) (eC (.int 1))] [])))) (sRet (eC (.bl false))) (sNx)))) (sRet (eC (.bl true)))))
def F__law_listed : List D → FR := runF [false, false] 2 m__law_listed
abbrev st_Jump_str : Stmt := inClass (top 18) 5
def m_Jump_str : Ctx → SR := sRet (eJs [eOp fFm [eOp (fFld [2] "before") [eN 0]], eOp fFm [eOp (fTIx tbl_WAY_SIGNS) [eOp (fFld [2] "ways") [eN 0]]], eOp fFm [eOp (fFld [2] "after") [eN 0]]])
def F_Jump_str : List D → FR := runF [false] 0 m_Jump_str
abbrev st__law_written : Stmt := top 26
def m__law_written : Ctx → SR := sRet (eOp fAdd [eOp fAdd [eIx (eN 0) (eC (.int 0)), eOp fDIx [eDsp [([114, 105, 103, 104, 116], .str [62]), ([108, 101, 102, 116], .str [60]), ([98, 111, 116, 104], .str [61])], eIx (eN 0) (eC (.int 2))]], eIx (eN 0) (eC (.int 1))])
def F__law_written : List D → FR := runF [false] 0 m__law_written
abbrev st__law_shown : Stmt := top 36
def m__law_shown : Ctx → SR := sSeq (sIf (tOrT (tNotT (tTru (eOp (fIsC ist_Jump isb_Jump) [eN 0]))) (tNotT (tTru (eCall [false, false] F__law_text [eOp (fFld [2] "before") [eN 0], eIx (eN 1) (eC (.int 0))] [])))) (sRet (eC (.bl false))) (sNx)) (sSeq (sIf (tOrT (tNotT (tTru (eCall [false, false] F__law_text [eOp (fFld [2] "after") [eN 0], eIx (eN 1) (eC (.int 1))] []))) (tNotT (tTru (eCall [false, false] F__law_text [eOp (fFld [2] "ways") [eN 0], eIx (eN 1) (eC (.int 2))] [])))) (sRet (eC (.bl false))) (sNx)) (sRet (eCall [false, false] F__law_text [eOwn (chk1 2) isStrD [false] F_Jump_str [eN 0], eCall [false] F__law_written [eN 1] []] [])))
def F__law_shown : List D → FR := runF [false, false] 0 m__law_shown
abbrev st__law_swapped : Stmt := top 29
def m__law_swapped : Ctx → SR := sRet (eTup [eIx (eN 0) (eC (.int 0)), eIx (eN 0) (eC (.int 1)), eOp fDIx [eDsp [([114, 105, 103, 104, 116], .str [108, 101, 102, 116]), ([108, 101, 102, 116], .str [114, 105, 103, 104, 116]), ([98, 111, 116, 104], .str [98, 111, 116, 104])], eIx (eN 0) (eC (.int 2))]])
def F__law_swapped : List D → FR := runF [false] 0 m__law_swapped
abbrev st__law_jump_asked : Stmt := top 38
def m__law_jump_asked : Ctx → SR := sSeq (sSet 2 (eCall [false] F_Jump_windows [eChk 2 "windows" (eN 0)] [])) (sSeq (sIf (tOrT (tNotT (tTru (eCall [false, false] F__law_shown [eN 0, eN 1] []))) (tNotT (tTru (eCall [false, false] F__law_listed [eN 2, eN 1] [])))) (sRet (eC (.bl false))) (sNx)) (sSeq (sExpr (eMth isL fAppend (eN 2) [eTup [eC (.str [97, 98, 99, 46]), eC (.str [46, 46, 46, 46])]])) (sSeq (sSetI fSetL (eTup [eC (.str []), eC (.str [])]) (eN 2) (eC (.int 0))) (sSeq (sSet 3 (eCall [false] F_Jump_mirrored [eChk 2 "mirrored" (eN 0)] [])) (sSeq (sSet 4 (eCall [false] F__law_swapped [eN 1] [])) (sSeq (sIf (tOrT (tNotT (tTru (eCall [false, false] F__law_shown [eN 3, eN 4] []))) (tNotT (tTru (eCall [false, false] F__law_listed [eCall [false] F_Jump_windows [eChk 2 "windows" (eN 3)] [], eN 4] [])))) (sRet (eC (.bl false))) (sNx)) (sSeq (sIf (tOrT (tNotT (tTru (eCall [false, false] F__law_shown [eCall [false] F_Jump_mirrored [eChk 2 "mirrored" (eN 3)] [], eN 1] []))) (tOfE (eOp fNe [eOwn (chk1 2) anyD [false, false] F_Jump_eq [eN 3, eN 0], eOp fEq [eIx (eN 1) (eC (.int 2)), eC (.str [98, 111, 116, 104])]]))) (sRet (eC (.bl false))) (sNx)) (sRet (eAnd (eCall [false, false] F__law_shown [eN 0, eN 1] []) (eCall [false, false] F__law_listed [eCall [false] F_Jump_windows [eChk 2 "windows" (eN 0)] [], eN 1] []))))))))))
def F__law_jump_asked : List D → FR := runF [false, false] 3 m__law_jump_asked
abbrev st__law_made : Stmt := top 35
def m__law_made : Ctx → SR := sSeq (sIf (tAndT (tOfE (eOp fEq [eN 1, eC (.int 0)])) (tOfE (eOp fEq [eIx (eN 0) (eC (.int 2)), eC (.str [114, 105, 103, 104, 116])]))) (sRet (eFt (eMake 2 [false, false, false] F_Jump_init [eIx (eN 0) (eC (.int 0)), eIx (eN 0) (eC (.int 1))] [.str [114, 105, 103, 104, 116]]))) (sNx)) (sSeq (sIf (tOfE (eOp fEq [eN 1, eC (.int 1)])) (sRet (eFt (eMake 2 [false, false, false] F_Jump_init ([eIx (eN 0) (eC (.int 0)), eIx (eN 0) (eC (.int 1))] ++ mrgM [none] [eIx (eN 0) (eC (.int 2))]) []))) (sNx)) (sRet (eFt (eMake 2 [false, false, false] F_Jump_init [eIx (eN 0) (eC (.int 0)), eIx (eN 0) (eC (.int 1)), eIx (eN 0) (eC (.int 2))] []))))
def F__law_made : List D → FR := runF [false, false] 0 m__law_made
abbrev st__law_class_asked : Stmt := top 39
def m__law_class_asked : Ctx → SR := sSeq (sSet 2 (eCall [false, false, false] F__law_is_jump [eIx (eN 0) (eC (.int 0)), eIx (eN 0) (eC (.int 1)), eIx (eN 0) (eC (.int 2))] [])) (sSeq (sTry 4 mt_LeapError (sSet 3 (eCall [false, false] F__law_made [eN 0, eN 1] [])) (sSeq (sIf (tOrT (tTru (eN 2)) (tNotT (tTru (eXi is_InvalidJump (eN 4))))) (sRet (eC (.bl false))) (sNx)) (sRet (eCall [false, false] F__law_text [eXf fo_text "text" (eN 4), eIx (eN 0) (eC (.int 0))] [])))) (sRet (eAnd (eN 2) (eCall [false, false] F__law_jump_asked [eN 3, eN 0] []))))
def F__law_class_asked : List D → FR := runF [false, false] 3 m__law_class_asked
abbrev st__law_good : Stmt := top 30
def m__law_good : Ctx → SR := sSeq (sSet 1 (eOp fAdd [eC (.int 2), eCall [true, false] F__law_take [eN 0, eC (.int 2)] []])) (sSeq (sSet 2 (eOp fAdd [eSM fJoin (eC (.str [])) [eCmp [4] (itA fR1 [eN 1]) (.n 4) (fun c => .ok true c) (eIx (eC (.str [97, 98, 99, 100])) (eCall [true, false] F__law_take [eN 0, eC (.int 4)] []))], eC (.str [46])])) (sSeq (sSet 3 (eOp fAdd [eC (.str [46]), eSM fJoin (eC (.str [])) [eCmp [4] (itA fR1 [eN 1]) (.n 4) (fun c => .ok true c) (eIx (eC (.str [46, 97, 98, 99, 100])) (eCall [true, false] F__law_take [eN 0, eC (.int 5)] []))]])) (sRet (eTup [eN 2, eN 3, eIx (eLst [eC (.str [114, 105, 103, 104, 116]), eC (.str [108, 101, 102, 116]), eC (.str [98, 111, 116, 104])]) (eCall [true, false] F__law_take [eN 0, eC (.int 3)] [])]))))
def F__law_good : List D → FR := runF [true] 4 m__law_good
abbrev st__law_loose : Stmt := top 32
def m__law_loose : Ctx → SR := sSeq (sSet 2 (eC (.str [97, 98, 99, 100, 46, 97, 98, 99, 100, 46, 62, 60, 61, 58, 35, 65, 66, 101, 48, 10]))) (sRet (eSM fJoin (eC (.str [])) [eCmp [3] (itA fR1 [eCall [true, false] F__law_take [eN 0, eOp fAdd [eN 1, eC (.int 1)]] []]) (.n 3) (fun c => .ok true c) (eIx (eN 2) (eCall [true, false] F__law_take [eN 0, eOp fLen [eN 2]] []))]))
def F__law_loose : List D → FR := runF [true, false] 2 m__law_loose
abbrev st__law_odd_way : Stmt := top 33
def m__law_odd_way : Ctx → SR := sSeq (sSet 1 (eLst [eC (.str []), eC (.str [62]), eC (.str [60]), eC (.str [61]), eC (.str [117, 112]), eC (.str [82, 105, 103, 104, 116]), eC (.str [76, 69, 70, 84]), eC (.str [114, 105, 103, 104, 116, 108, 101, 102, 116]), eC (.str [98]), eC (.str [97, 99, 114, 111, 115, 115])])) (sSeq (sIf (tOfE (eOp fEq [eCall [true, false] F__law_take [eN 0, eC (.int 2)] [], eC (.int 1)])) (sRet (eIx (eN 1) (eCall [true, false] F__law_take [eN 0, eC (.int 10)] []))) (sNx)) (sRet (eCall [true, false] F__law_bend [eN 0, eIx (eLst [eC (.str [114, 105, 103, 104, 116]), eC (.str [108, 101, 102, 116]), eC (.str [98, 111, 116, 104])]) (eCall [true, false] F__law_take [eN 0, eC (.int 3)] [])] [])))
def F__law_odd_way : List D → FR := runF [true] 1 m__law_odd_way
abbrev st__law_drawn : Stmt := top 34
def m__law_drawn : Ctx → SR := sSeq (sAsg (.t [.n 1, .n 2, .n 3]) (eCall [true] F__law_good [eN 0] [])) (sSeq (sSet 4 (eCall [true, false] F__law_take [eN 0, eC (.int 8)] [])) (sSeq (sIf (tOrT (tOfE (eOp fEq [eN 4, eC (.int 4)])) (tOfE (eOp fEq [eN 4, eC (.int 6)]))) (sSet 1 (eCall [true, false] F__law_bend [eN 0, eN 1] [])) (sNx)) (sSeq (sIf (tOrT (tOfE (eOp fEq [eN 4, eC (.int 5)])) (tOfE (eOp fEq [eN 4, eC (.int 6)]))) (sSet 2 (eCall [true, false] F__law_bend [eN 0, eN 2] [])) (sNx)) (sSeq (sIf (tOfE (eOp fEq [eN 4, eC (.int 7)])) (sSeq (sSet 1 (eCall [true, false] F__law_loose [eN 0, eC (.int 6)] [])) (sSet 2 (eCall [true, false] F__law_loose [eN 0, eC (.int 6)] []))) (sNx)) (sSeq (sIf (tOfE (eOp fEq [eCall [true, false] F__law_take [eN 0, eC (.int 6)] [], eC (.int 1)])) (sSet 3 (eCall [true] F__law_odd_way [eN 0] [])) (sNx)) (sRet (eTup [eN 1, eN 2, eN 3])))))))
def F__law_drawn : List D → FR := runF [true] 4 m__law_drawn
abbrev st_Jump_read : Stmt := inClass (top 18) 1
def m_Jump_read : Ctx → SR := sSeq (sSet 1 (eOp (fII gDiv) [eOp fLen [eN 0], eC (.int 2)])) (sSeq (sPar [2, 3, 4] [eOp fSlR [eN 0, eN 1], eOp fSlB [eN 0, eInt (eN 1), eOp fAdd [eN 1, eC (.int 1)]], eOp fSlL [eN 0, eOp fAdd [eN 1, eC (.int 1)]]]) (sSeq (sIf (tOrT (tOfE (eOp (fTNin tbl_SIGN_WAYS) [eN 3])) (tNotT (tTru (eCall [false, false, false] F_is_jump [eN 2, eN 4, eOp (fTIx tbl_SIGN_WAYS) [eN 3]] [])))) (sRaise 1 "text" okx_InvalidJump (eN 0)) (sNx)) (sRet (eFt (eMake 2 [false, false, false] F_Jump_init [eN 2, eN 4, eOp (fTIx tbl_SIGN_WAYS) [eN 3]] [])))))
def F_Jump_read : List D → FR := runF [false] 4 m_Jump_read
abbrev st__law_read : Stmt := top 27
def m__law_read : Ctx → SR := sSeq (sIf (tOfE (eOp fNin [eOp fLen [eN 0], eLst [eC (.int 7), eC (.int 9)]])) (sRet (eTup [])) (sNx)) (sSeq (sSet 1 (eOp (fII gDiv) [eOp fLen [eN 0], eC (.int 2)])) (sSeq (sSet 2 (eOp fDGet2 [eCk isDk (eDsp [([62], .str [114, 105, 103, 104, 116]), ([60], .str [108, 101, 102, 116]), ([61], .str [98, 111, 116, 104])]), eIx (eN 0) (eN 1), eC (.str [])])) (sSeq (sIf (tNotT (tTru (eCall [false, false, false] F__law_is_jump [eOp fSlR [eN 0, eN 1], eOp fSlL [eN 0, eOp fAdd [eN 1, eC (.int 1)]], eN 2] []))) (sRet (eTup [])) (sNx)) (sRet (eTup [eOp fSlR [eN 0, eN 1], eOp fSlL [eN 0, eOp fAdd [eN 1, eC (.int 1)]], eN 2])))))
def F__law_read : List D → FR := runF [false] 2 m__law_read
abbrev st__law_read_asked : Stmt := top 40
def m__law_read_asked : Ctx → SR := sSeq (sSet 1 (eCall [false] F__law_read [eN 0] [])) (sSeq (sTry 3 mt_LeapError (sSet 2 (eCall [false] F_Jump_read [eN 0] [])) (sSeq (sIf (tOrT (tOfE (eOp fNe [eN 1, eTup []])) (tNotT (tTru (eXi is_InvalidJump (eN 3))))) (sRet (eC (.bl false))) (sNx)) (sRet (eCall [false, false] F__law_text [eXf fo_text "text" (eN 3), eN 0] [])))) (sRet (eAnd (eOp fNe [eN 1, eTup []]) (eCall [false, false] F__law_jump_asked [eN 2, eN 1] []))))
def F__law_read_asked : List D → FR := runF [false] 3 m__law_read_asked
abbrev st__law_twins : Stmt := top 41
def m__law_twins : Ctx → SR := sSeq (sSet 2 (eN 1)) (sSeq (sSet 3 (eCall [true, false] F__law_take [eN 0, eC (.int 5)] [])) (sSeq (sIf (tOfE (eOp fEq [eN 3, eC (.int 1)])) (sSet 2 (eTup [eIx (eN 1) (eC (.int 0)), eIx (eN 1) (eC (.int 1)), eIx (eLst [eC (.str [114, 105, 103, 104, 116]), eC (.str [108, 101, 102, 116]), eC (.str [98, 111, 116, 104])]) (eCall [true, false] F__law_take [eN 0, eC (.int 3)] [])])) (sNx)) (sSeq (sIf (tOfE (eOp fEq [eN 3, eC (.int 2)])) (sSeq (sSet 4 (eOp fAdd [eC (.int 1), eCall [true, false] F__law_take [eN 0, eOp (fII gSub) [eOp fLen [eIx (eN 1) (eC (.int 1))], eC (.int 1)]] []])) (sSeq (sSet 5 (eOp fAdd [eOp fAdd [eOp fSlR [eIx (eN 1) (eC (.int 1)), eN 4], eIx (eC (.str [46, 97, 98, 99, 100])) (eCall [true, false] F__law_take [eN 0, eC (.int 5)] [])], eOp fSlL [eIx (eN 1) (eC (.int 1)), eOp fAdd [eN 4, eC (.int 1)]]])) (sSet 2 (eTup [eIx (eN 1) (eC (.int 0)), eN 5, eIx (eN 1) (eC (.int 2))])))) (sNx)) (sSeq (sIf (tOfE (eOp fEq [eN 3, eC (.int 3)])) (sSeq (sSet 4 (eCall [true, false] F__law_take [eN 0, eOp (fII gSub) [eOp fLen [eIx (eN 1) (eC (.int 0))], eC (.int 1)]] [])) (sSeq (sSet 6 (eOp fAdd [eOp fAdd [eOp fSlR [eIx (eN 1) (eC (.int 0)), eN 4], eIx (eC (.str [97, 98, 99, 100])) (eCall [true, false] F__law_take [eN 0, eC (.int 4)] [])], eOp fSlL [eIx (eN 1) (eC (.int 0)), eOp fAdd [eN 4, eC (.int 1)]]])) (sSet 2 (eTup [eN 6, eIx (eN 1) (eC (.int 1)), eIx (eN 1) (eC (.int 2))])))) (sNx)) (sSeq (sIf (tOfE (eOp fEq [eN 3, eC (.int 4)])) (sSet 2 (eCall [true] F__law_good [eN 0] [])) (sNx)) (sSeq (sSet 7 (eFt (eMake 2 [false, false, false] F_Jump_init [eIx (eN 1) (eC (.int 0)), eIx (eN 1) (eC (.int 1)), eIx (eN 1) (eC (.int 2))] []))) (sSeq (sSet 8 (eCall [false] F_Jump_read [eCall [false] F__law_written [eN 2] []] [])) (sSeq (sIf (tOrT (tOfE (eOp fNe [eOwn (chk1 2) anyD [false, false] F_Jump_eq [eN 7, eN 8], eOp fEq [eN 1, eN 2]])) (tOfE (eOp fNe [eOwn (chk1 2) anyD [false, false] F_Jump_eq [eN 8, eN 7], eOp fEq [eN 1, eN 2]]))) (sRet (eC (.bl false))) (sNx)) (sRet (eAnd (eCall [false, false] F__law_shown [eN 7, eN 1] []) (eCall [false, false] F__law_shown [eN 8, eN 2] [])))))))))))
def F__law_twins : List D → FR := runF [true, false] 7 m__law_twins
abbrev st_law : Stmt := top 42
def m_law : Ctx → SR := sSeq (sFor (itA fR1 [eC (.int 2)]) (.n 1) (sSeq (sSet 2 (eCall [false, false] F__law_box [eN 0, eN 1] [])) (sSeq (sIf (tNotT (tTru (eCall [false, false] F__law_class_asked [eCall [true] F__law_drawn [eN 2] [], eCall [true, false] F__law_take [eN 2, eC (.int 3)] []] []))) (sRet (eC (.bl false))) (sNx)) (sSeq (sSet 2 (eCall [false, false] F__law_box [eN 0, eOp fAdd [eC (.int 2), eN 1]] [])) (sSeq (sSet 3 (eCall [true] F__law_good [eN 2] [])) (sSeq (sIf (tOrT (tNotT (tTru (eCall [false] F__law_read_asked [eCall [false] F__law_written [eN 3] []] []))) (tNotT (tTru (eCall [true, false] F__law_twins [eN 2, eN 3] [])))) (sRet (eC (.bl false))) (sNx)) (sSeq (sSet 4 (eCall [true, false] F__law_bend [eN 2, eCall [false] F__law_written [eN 3] []] [])) (sSeq (sIf (tOfE (eOp fEq [eCall [true, false] F__law_take [eN 2, eC (.int 3)] [], eC (.int 1)])) (sSet 4 (eCall [true, false] F__law_bend [eN 2, eN 4] [])) (sNx)) (sIf (tNotT (tTru (eCall [false] F__law_read_asked [eN 4] []))) (sRet (eC (.bl false))) (sNx)))))))))) (sRet (eCall [false] F__law_read_asked [eCall [true, false] F__law_loose [eCall [false, false] F__law_box [eN 0, eC (.int 4)] [], eC (.int 12)] []] []))
def F_law : List D → FR := runF [false] 4 m_law
theorem sc__law_take : FnScope ["box", "many", "drawn", "mixed"] ["box", "many"] (defScope st__law_take) := ⟨rfl, rfl, rfl, by decide +kernel, rfl, by decide +kernel, by decide +kernel⟩
theorem d__law_take {w : World} {K : PySem.W.Frag} {mg : Str → Option Value} {base : Heap} {f : Addr} (T : Fs w K mg) (cdv : Value) (A : Around) (outer : List Env) (s : Shared) (H : Hp) (E : XK) (hr : Room 0 (A.deeper (envOfC "_law_take" (defScope st__law_take) s.heap.objs.size f cdv))) (Ac : Act) (oG : Ac.g.G = Gof K) (oK : Ac.g.K = K) :
    PSs (cxOf (L2.CX P w) P w K mg base ["box", "many", "drawn", "mixed"] "_law_take" (defScope st__law_take) f cdv A outer s H E) (defBody st__law_take) (tS Ac (fun cls d _ H => E cls d H) m__law_take) := by
  obtain ⟨⟨aK, aG, aE⟩, aB, aI⟩ := Ac
  have oK : K = aK := oK.symm
  have oG : aG = Gof K := oG
  subst oK
  subst oG
  have o : On (cxOf (L2.CX P w) P w K mg base ["box", "many", "drawn", "mixed"] "_law_take" (defScope st__law_take) f cdv A outer s H E) ⟨K, Gof K, aE⟩ := On.of (A := ⟨⟨K, Gof K, aE⟩, aB, aI⟩) rfl hr
  have nd := (sc__law_take).nd
  have tk : Takes (cxOf (L2.CX P w) P w K mg base ["box", "many", "drawn", "mixed"] "_law_take" (defScope st__law_take) f cdv A outer s H E) (fun cls d _ H => E cls d H) := takes_of rfl rfl rfl rfl
  exact PSs_cons (PS_if (PT_gt (PE_ix2 o.k (PE_n (pv 0)) (PE_int)) (PE_int)) (PSs_cons (PS_set (i := 2) nd rfl (Or.inl rfl) (PE_mod (PE_int' rfl T.b_int (PA_cons (PE_ix2 o.k (PE_n (pv 0)) (PE_int)) (PA_nil))) (PE_n (pv 1)))) (PSs_cons (PS_setI ms_setL set_list (PE_div (PE_ix2 o.k (PE_n (pv 0)) (PE_int)) (PE_n (pv 1))) (PE_n (pv 0)) (PE_int)) (PSs_one (PS_ret (PE_mv (pv 2)))))) (PSs_nil)) (PSs_cons (PS_setI ms_setL set_list (PE_add (PE_ix2 o.k (PE_n (pv 0)) (PE_int)) (PE_int)) (PE_n (pv 0)) (PE_int)) (PSs_cons (PS_set (i := 3) nd rfl (Or.inl rfl) (PE_mod (PE_int' rfl T.b_int (PA_cons (PE_add (PE_add (PE_mul (PE_ix2 o.k (PE_n (pv 0)) (PE_int)) (PE_int)) (PE_mul (PE_ix2 o.k (PE_n (pv 0)) (PE_int)) (PE_int))) (PE_int)) (PA_nil))) (PE_int))) (PSs_cons (PS_set (i := 3) nd rfl (Or.inl rfl) (PE_mod (PE_int' rfl T.b_int (PA_cons (PE_add (PE_mul (PE_n (pv 3)) (PE_n (pv 3))) (PE_mul (PE_ix2 o.k (PE_n (pv 0)) (PE_int)) (PE_int))) (PA_nil))) (PE_int))) (PSs_cons (PS_set (i := 3) nd rfl (Or.inl rfl) (PE_mod (PE_int' rfl T.b_int (PA_cons (PE_add (PE_add (PE_mul (PE_n (pv 3)) (PE_n (pv 3))) (PE_mul (PE_ix2 o.k (PE_n (pv 0)) (PE_int)) (PE_int))) (PE_int)) (PA_nil))) (PE_int))) (PSs_one (PS_ret (PE_mod (PE_int' rfl T.b_int (PA_cons (PE_div (PE_n (pv 3)) (PE_int)) (PA_nil))) (PE_n (pv 1)))))))))
theorem f__law_take {w : World} {K : PySem.W.Frag} {mg : Str → Option Value} {base : Heap} {f : Addr} {fd : FuncData} (T : Fs w K mg) (F : FunD K "_law_take" "_law_take" (defArgs st__law_take) (defBody st__law_take) (defScope st__law_take) [] [] f fd) : FnOk P w K mg base (L2.CX P w) 1 f fd ["box", "many"] (spF (Gof K) K [true, false] 2 m__law_take) :=
  fnD_ok F sc__law_take rfl rfl (fun cdv A outer s H E hr Ac oG oK => d__law_take T cdv A outer s H E hr Ac oG oK)
theorem sc__law_bend : FnScope ["box", "text", "menu", "deed", "at", "sign"] ["box", "text"] (defScope st__law_bend) := ⟨rfl, rfl, rfl, by decide +kernel, rfl, by decide +kernel, by decide +kernel⟩
theorem d__law_bend {w : World} {K : PySem.W.Frag} {mg : Str → Option Value} {base : Heap} {f : Addr} (T : Fs w K mg) (c__law_take : Cal P w K mg base (Gof K) "_law_take" 1 ["box", "many"] [true, false] 2 m__law_take) (cdv : Value) (A : Around) (outer : List Env) (s : Shared) (H : Hp) (E : XK) (hr : Room 1 (A.deeper (envOfC "_law_bend" (defScope st__law_bend) s.heap.objs.size f cdv))) (Ac : Act) (oG : Ac.g.G = Gof K) (oK : Ac.g.K = K) :
    PSs (cxOf (L2.CX P w) P w K mg base ["box", "text", "menu", "deed", "at", "sign"] "_law_bend" (defScope st__law_bend) f cdv A outer s H E) (defBody st__law_bend) (tS Ac (fun cls d _ H => E cls d H) m__law_bend) := by
  obtain ⟨⟨aK, aG, aE⟩, aB, aI⟩ := Ac
  have oK : K = aK := oK.symm
  have oG : aG = Gof K := oG
  subst oK
  subst oG
  have o : On (cxOf (L2.CX P w) P w K mg base ["box", "text", "menu", "deed", "at", "sign"] "_law_bend" (defScope st__law_bend) f cdv A outer s H E) ⟨K, Gof K, aE⟩ := On.of (A := ⟨⟨K, Gof K, aE⟩, aB, aI⟩) rfl hr
  have nd := (sc__law_bend).nd
  have tk : Takes (cxOf (L2.CX P w) P w K mg base ["box", "text", "menu", "deed", "at", "sign"] "_law_bend" (defScope st__law_bend) f cdv A outer s H E) (fun cls d _ H => E cls d H) := takes_of rfl rfl rfl rfl
  exact PSs_cons (PS_set (i := 2) nd rfl (Or.inl rfl) (PE_str rfl)) (PSs_cons (PS_set (i := 3) nd rfl (Or.inl rfl) (PE_cal c__law_take o rfl hr tk rfl (by decide) rfl (PA_cons (PE_n (pv 0)) (PA_cons (PE_int) (PA_nil))))) (PSs_cons (PS_set (i := 4) nd rfl (Or.inl rfl) (PE_cal c__law_take o rfl hr tk rfl (by decide) rfl (PA_cons (PE_n (pv 0)) (PA_cons (PE_add (PE_len o rfl T.b_len (PA_cons (PE_n (pv 1)) (PA_nil))) (PE_int)) (PA_nil))))) (PSs_cons (PS_set (i := 5) nd rfl (Or.inl rfl) (PE_ix2 o.k (PE_n (pv 2)) (PE_cal c__law_take o rfl hr tk rfl (by decide) rfl (PA_cons (PE_n (pv 0)) (PA_cons (PE_len o rfl T.b_len (PA_cons (PE_n (pv 2)) (PA_nil))) (PA_nil)))))) (PSs_cons (PS_if (PT_lt (PE_n (pv 3)) (PE_int)) (PSs_one (PS_ret (PE_add (PE_add (PE_slR o.k (PE_n (pv 1)) (PE_n (pv 4))) (PE_n (pv 5))) (PE_slL o.k (PE_n (pv 1)) (PE_n (pv 4)))))) (PSs_nil)) (PSs_cons (PS_if (PT_lt (PE_n (pv 3)) (PE_int)) (PSs_one (PS_ret (PE_add (PE_add (PE_slR o.k (PE_n (pv 1)) (PE_n (pv 4))) (PE_n (pv 5))) (PE_slL o.k (PE_n (pv 1)) (PE_add (PE_n (pv 4)) (PE_int)))))) (PSs_nil)) (PSs_cons (PS_if (PT_eq o (PE_n (pv 3)) (PE_int)) (PSs_one (PS_ret (PE_add (PE_slR o.k (PE_n (pv 1)) (PE_n (pv 4))) (PE_slL o.k (PE_n (pv 1)) (PE_add (PE_n (pv 4)) (PE_int)))))) (PSs_nil)) (PSs_cons (PS_if (PT_eq o (PE_n (pv 3)) (PE_int)) (PSs_one (PS_ret (PE_add (PE_add (PE_add (PE_slR o.k (PE_n (pv 1)) (PE_n (pv 4))) (PE_slB o.k (PE_n (pv 1)) (PE_add (PE_n (pv 4)) (PE_int)) (PE_add (PE_n (pv 4)) (PE_int)))) (PE_slB o.k (PE_n (pv 1)) (PE_n (pv 4)) (PE_add (PE_n (pv 4)) (PE_int)))) (PE_slL o.k (PE_n (pv 1)) (PE_add (PE_n (pv 4)) (PE_int)))))) (PSs_nil)) (PSs_cons (PS_if (PT_eq o (PE_n (pv 3)) (PE_int)) (PSs_one (PS_ret (PE_slR o.k (PE_n (pv 1)) (PE_n (pv 4))))) (PSs_nil)) (PSs_cons (PS_if (PT_eq o (PE_n (pv 3)) (PE_int)) (PSs_one (PS_ret (PE_add (PE_add (PE_n (pv 1)) (PE_n (pv 5))) (PE_slL o.k (PE_n (pv 1)) (PE_n (pv 4)))))) (PSs_nil)) (PSs_one (PS_ret (PE_ix2 o.k (PE_lst (PA_cons (PE_add (PE_n (pv 1)) (PE_str rfl)) (PA_cons (PE_add (PE_str rfl) (PE_n (pv 1))) (PA_cons (PE_add (PE_n (pv 1)) (PE_str rfl)) (PA_nil))))) (PE_cal c__law_take o rfl hr tk rfl (by decide) rfl (PA_cons (PE_n (pv 0)) (PA_cons (PE_int) (PA_nil))))))))))))))))
theorem f__law_bend {w : World} {K : PySem.W.Frag} {mg : Str → Option Value} {base : Heap} {f : Addr} {fd : FuncData} (T : Fs w K mg) (c__law_take : Cal P w K mg base (Gof K) "_law_take" 1 ["box", "many"] [true, false] 2 m__law_take) (F : FunD K "_law_bend" "_law_bend" (defArgs st__law_bend) (defBody st__law_bend) (defScope st__law_bend) [] [] f fd) : FnOk P w K mg base (L2.CX P w) 2 f fd ["box", "text"] (spF (Gof K) K [true, false] 4 m__law_bend) :=
  fnD_ok F sc__law_bend rfl rfl (fun cdv A outer s H E hr Ac oG oK => d__law_bend T c__law_take cdv A outer s H E hr Ac oG oK)
theorem sc__law_cell : FnScope ["script", "at"] ["script", "at"] (defScope st__law_cell) := ⟨rfl, rfl, rfl, by decide +kernel, rfl, by decide +kernel, by decide +kernel⟩
theorem d__law_cell {w : World} {K : PySem.W.Frag} {mg : Str → Option Value} {base : Heap} {f : Addr} (T : Fs w K mg) (cdv : Value) (A : Around) (outer : List Env) (s : Shared) (H : Hp) (E : XK) (hr : Room 0 (A.deeper (envOfC "_law_cell" (defScope st__law_cell) s.heap.objs.size f cdv))) (Ac : Act) (oG : Ac.g.G = Gof K) (oK : Ac.g.K = K) :
    PSs (cxOf (L2.CX P w) P w K mg base ["script", "at"] "_law_cell" (defScope st__law_cell) f cdv A outer s H E) (defBody st__law_cell) (tS Ac (fun cls d _ H => E cls d H) m__law_cell) := by
  obtain ⟨⟨aK, aG, aE⟩, aB, aI⟩ := Ac
  have oK : K = aK := oK.symm
  have oG : aG = Gof K := oG
  subst oK
  subst oG
  have o : On (cxOf (L2.CX P w) P w K mg base ["script", "at"] "_law_cell" (defScope st__law_cell) f cdv A outer s H E) ⟨K, Gof K, aE⟩ := On.of (A := ⟨⟨K, Gof K, aE⟩, aB, aI⟩) rfl hr
  have nd := (sc__law_cell).nd
  have tk : Takes (cxOf (L2.CX P w) P w K mg base ["script", "at"] "_law_cell" (defScope st__law_cell) f cdv A outer s H E) (fun cls d _ H => E cls d H) := takes_of rfl rfl rfl rfl
  exact PSs_cons (PS_if (PT_lt (PE_n (pv 1)) (PE_min o rfl rfl T.b_min (PA_cons (PE_int) (PA_cons (PE_len o rfl T.b_len (PA_cons (PE_n (pv 0)) (PA_nil))) (PA_nil))))) (PSs_one (PS_ret (PE_ix2 o.k (PE_n (pv 0)) (PE_n (pv 1))))) (PSs_nil)) (PSs_one (PS_ret (PE_add (PE_add (PE_mul (PE_mod (PE_int' rfl T.b_int (PA_cons (PE_sum o rfl rfl T.b_sum (PA_cons (PE_slR o.k (PE_n (pv 0)) (PE_int)) (PA_nil))) (PA_nil))) (PE_int)) (PE_int)) (PE_mul (PE_n (pv 1)) (PE_int))) (PE_int))))
theorem f__law_cell {w : World} {K : PySem.W.Frag} {mg : Str → Option Value} {base : Heap} {f : Addr} {fd : FuncData} (T : Fs w K mg) (F : FunD K "_law_cell" "_law_cell" (defArgs st__law_cell) (defBody st__law_cell) (defScope st__law_cell) [] [] f fd) : FnOk P w K mg base (L2.CX P w) 1 f fd ["script", "at"] (spF (Gof K) K [false, false] 0 m__law_cell) :=
  fnD_ok F sc__law_cell rfl rfl (fun cdv A outer s H E hr Ac oG oK => d__law_cell T cdv A outer s H E hr Ac oG oK)
theorem sc__law_box : FnScope ["script", "at", "cell", "seed"] ["script", "at"] (defScope st__law_box) := ⟨rfl, rfl, rfl, by decide +kernel, rfl, by decide +kernel, by decide +kernel⟩
theorem d__law_box {w : World} {K : PySem.W.Frag} {mg : Str → Option Value} {base : Heap} {f : Addr} (T : Fs w K mg) (c__law_cell : Cal P w K mg base (Gof K) "_law_cell" 1 ["script", "at"] [false, false] 0 m__law_cell) (cdv : Value) (A : Around) (outer : List Env) (s : Shared) (H : Hp) (E : XK) (hr : Room 1 (A.deeper (envOfC "_law_box" (defScope st__law_box) s.heap.objs.size f cdv))) (Ac : Act) (oG : Ac.g.G = Gof K) (oK : Ac.g.K = K) :
    PSs (cxOf (L2.CX P w) P w K mg base ["script", "at", "cell", "seed"] "_law_box" (defScope st__law_box) f cdv A outer s H E) (defBody st__law_box) (tS Ac (fun cls d _ H => E cls d H) m__law_box) := by
  obtain ⟨⟨aK, aG, aE⟩, aB, aI⟩ := Ac
  have oK : K = aK := oK.symm
  have oG : aG = Gof K := oG
  subst oK
  subst oG
  have o : On (cxOf (L2.CX P w) P w K mg base ["script", "at", "cell", "seed"] "_law_box" (defScope st__law_box) f cdv A outer s H E) ⟨K, Gof K, aE⟩ := On.of (A := ⟨⟨K, Gof K, aE⟩, aB, aI⟩) rfl hr
  have nd := (sc__law_box).nd
  have tk : Takes (cxOf (L2.CX P w) P w K mg base ["script", "at", "cell", "seed"] "_law_box" (defScope st__law_box) f cdv A outer s H E) (fun cls d _ H => E cls d H) := takes_of rfl rfl rfl rfl
  exact PSs_cons (PS_set (i := 2) nd rfl (Or.inl rfl) (PE_cal c__law_cell o rfl hr tk rfl (by decide) rfl (PA_cons (PE_n (pv 0)) (PA_cons (PE_n (pv 1)) (PA_nil))))) (PSs_cons (PS_set (i := 3) nd rfl (Or.inl rfl) (PE_mod (PE_int' rfl T.b_int (PA_cons (PE_add (PE_n (pv 2)) (PE_mul (PE_n (pv 1)) (PE_int))) (PA_nil))) (PE_int))) (PSs_cons (PS_if (PT_ge (PE_n (pv 2)) (PE_pow (PE_int) (PE_int))) (PSs_one (PS_ret (PE_lst (PA_cons (PE_n (pv 2)) (PA_cons (PE_int) (PA_cons (PE_n (pv 3)) (PA_nil))))))) (PSs_nil)) (PSs_one (PS_ret (PE_lst (PA_cons (PE_int) (PA_cons (PE_int) (PA_cons (PE_n (pv 3)) (PA_nil)))))))))
theorem f__law_box {w : World} {K : PySem.W.Frag} {mg : Str → Option Value} {base : Heap} {f : Addr} {fd : FuncData} (T : Fs w K mg) (c__law_cell : Cal P w K mg base (Gof K) "_law_cell" 1 ["script", "at"] [false, false] 0 m__law_cell) (F : FunD K "_law_box" "_law_box" (defArgs st__law_box) (defBody st__law_box) (defScope st__law_box) [] [] f fd) : FnOk P w K mg base (L2.CX P w) 2 f fd ["script", "at"] (spF (Gof K) K [false, false] 2 m__law_box) :=
  fnD_ok F sc__law_box rfl rfl (fun cdv A outer s H E hr Ac oG oK => d__law_box T c__law_cell cdv A outer s H E hr Ac oG oK)
theorem sc__law_is_jump : FnScope ["before", "after", "way", "size", "at"] ["before", "after", "way"] (defScope st__law_is_jump) := ⟨rfl, rfl, rfl, by decide +kernel, rfl, by decide +kernel, by decide +kernel⟩
theorem d__law_is_jump {w : World} {K : PySem.W.Frag} {mg : Str → Option Value} {base : Heap} {f : Addr} (T : Fs w K mg) (cdv : Value) (A : Around) (outer : List Env) (s : Shared) (H : Hp) (E : XK) (hr : Room 0 (A.deeper (envOfC "_law_is_jump" (defScope st__law_is_jump) s.heap.objs.size f cdv))) (Ac : Act) (oG : Ac.g.G = Gof K) (oK : Ac.g.K = K) :
    PSs (cxOf (L2.CX P w) P w K mg base ["before", "after", "way", "size", "at"] "_law_is_jump" (defScope st__law_is_jump) f cdv A outer s H E) (defBody st__law_is_jump) (tS Ac (fun cls d _ H => E cls d H) m__law_is_jump) := by
  obtain ⟨⟨aK, aG, aE⟩, aB, aI⟩ := Ac
  have oK : K = aK := oK.symm
  have oG : aG = Gof K := oG
  subst oK
  subst oG
  have o : On (cxOf (L2.CX P w) P w K mg base ["before", "after", "way", "size", "at"] "_law_is_jump" (defScope st__law_is_jump) f cdv A outer s H E) ⟨K, Gof K, aE⟩ := On.of (A := ⟨⟨K, Gof K, aE⟩, aB, aI⟩) rfl hr
  have nd := (sc__law_is_jump).nd
  have tk : Takes (cxOf (L2.CX P w) P w K mg base ["before", "after", "way", "size", "at"] "_law_is_jump" (defScope st__law_is_jump) f cdv A outer s H E) (fun cls d _ H => E cls d H) := takes_of rfl rfl rfl rfl
  exact PSs_cons (PS_set (i := 3) nd rfl (Or.inl rfl) (PE_len o rfl T.b_len (PA_cons (PE_n (pv 0)) (PA_nil)))) (PSs_cons (PS_if (PW.pt (PW_or (PT_nin o (PE_n (pv 2)) (PE_lst (PA_cons (PE_str rfl) (PA_cons (PE_str rfl) (PA_cons (PE_str rfl) (PA_nil)))))) (PW_or (PT_ne o (PE_len o rfl T.b_len (PA_cons (PE_n (pv 1)) (PA_nil))) (PE_n (pv 3))) (PW_or (PT_lt (PE_n (pv 3)) (PE_int)) (PW_one (PT_gt (PE_n (pv 3)) (PE_int))))))) (PSs_one (PS_ret (PE_bl))) (PSs_nil)) (PSs_cons (PS_if (PW.pt (PW_or (PT_ne o (PE_ix2 o.k (PE_n (pv 0)) (PE_sub (PE_n (pv 3)) (PE_int))) (PE_str rfl)) (PW_one (PT_ne o (PE_ix2 o.k (PE_n (pv 1)) (PE_int)) (PE_str rfl))))) (PSs_one (PS_ret (PE_bl))) (PSs_nil)) (PSs_cons (PS_for (passes_of rfl) rfl (PI_r1 rfl T.b_range (PA_cons (PE_sub (PE_n (pv 3)) (PE_int)) (PA_nil))) (fun J => PG_n (pg_name (i := 4) nd rfl (by first | exact Or.inl rfl | exact Or.inr rfl))) (fun J => PSs_one (PS_if (PW.pt (PW_or (PT_nin o (PE_ix2 o.k (PE_n (pv 0)) (PE_n (pv 4))) (PE_str rfl)) (PW_one (PT_nin o (PE_ix2 o.k (PE_n (pv 1)) (PE_add (PE_n (pv 4)) (PE_int))) (PE_str rfl))))) (PSs_one (PS_ret (PE_bl))) (PSs_nil)))) (PSs_one (PS_ret (PE_bl))))))
theorem f__law_is_jump {w : World} {K : PySem.W.Frag} {mg : Str → Option Value} {base : Heap} {f : Addr} {fd : FuncData} (T : Fs w K mg) (F : FunD K "_law_is_jump" "_law_is_jump" (defArgs st__law_is_jump) (defBody st__law_is_jump) (defScope st__law_is_jump) [] [] f fd) : FnOk P w K mg base (L2.CX P w) 1 f fd ["before", "after", "way"] (spF (Gof K) K [false, false, false] 2 m__law_is_jump) :=
  fnD_ok F sc__law_is_jump rfl rfl (fun cdv A outer s H E hr Ac oG oK => d__law_is_jump T cdv A outer s H E hr Ac oG oK)
theorem sc_Jump_eq : FnScope ["self", "other"] ["self", "other"] (defScope st_Jump_eq) := ⟨rfl, rfl, rfl, by decide +kernel, rfl, by decide +kernel, by decide +kernel⟩
theorem d_Jump_eq {w : World} {K : PySem.W.Frag} {mg : Str → Option Value} {base : Heap} {f : Addr} (T : Fs w K mg) (cdv : Value) (A : Around) (outer : List Env) (s : Shared) (H : Hp) (E : XK) (hr : Room 0 (A.deeper (envOfC "Jump.__eq__" (defScope st_Jump_eq) s.heap.objs.size f cdv))) (Ac : Act) (oG : Ac.g.G = Gof K) (oK : Ac.g.K = K) :
    PSs (cxOf (L2.CX P w) P w K mg base ["self", "other"] "Jump.__eq__" (defScope st_Jump_eq) f cdv A outer s H E) (defBody st_Jump_eq) (tS Ac (fun cls d _ H => E cls d H) m_Jump_eq) := by
  obtain ⟨⟨aK, aG, aE⟩, aB, aI⟩ := Ac
  have oK : K = aK := oK.symm
  have oG : aG = Gof K := oG
  subst oK
  subst oG
  have o : On (cxOf (L2.CX P w) P w K mg base ["self", "other"] "Jump.__eq__" (defScope st_Jump_eq) f cdv A outer s H E) ⟨K, Gof K, aE⟩ := On.of (A := ⟨⟨K, Gof K, aE⟩, aB, aI⟩) rfl hr
  have nd := (sc_Jump_eq).nd
  have tk : Takes (cxOf (L2.CX P w) P w K mg base ["self", "other"] "Jump.__eq__" (defScope st_Jump_eq) f cdv A outer s H E) (fun cls d _ H => E cls d H) := takes_of rfl rfl rfl rfl
  exact PSs_one (PS_ret (PE_and (PE_isC o.k T.is_Jump (pa_cons (PE_n (pv 1)) (pa_cons (pe_glob rfl T.c_Jump rfl) pa_nil)) rfl T.b_isinstance) (PE_and (PE_eq o (PE_fld o.k T.fl_Jump_before (PE_n (pv 0))) (PE_fld o.k T.fl_Jump_before (PE_n (pv 1)))) (PE_and (PE_eq o (PE_fld o.k T.fl_Jump_after (PE_n (pv 0))) (PE_fld o.k T.fl_Jump_after (PE_n (pv 1)))) (PE_one (PE_eq o (PE_fld o.k T.fl_Jump_ways (PE_n (pv 0))) (PE_fld o.k T.fl_Jump_ways (PE_n (pv 1)))))))))
theorem f_Jump_eq {w : World} {K : PySem.W.Frag} {mg : Str → Option Value} {base : Heap} {f : Addr} {fd : FuncData} (T : Fs w K mg) (F : FunD K "__eq__" "Jump.__eq__" (defArgs st_Jump_eq) (defBody st_Jump_eq) (defScope st_Jump_eq) [] [] f fd) : FnOk P w K mg base (L2.CX P w) 1 f fd ["self", "other"] (spF (Gof K) K [false, false] 0 m_Jump_eq) :=
  fnD_ok F sc_Jump_eq rfl rfl (fun cdv A outer s H E hr Ac oG oK => d_Jump_eq T cdv A outer s H E hr Ac oG oK)
theorem sc_is_after : FnScope ["window", "sign"] ["window"] (defScope st_is_after) := ⟨rfl, rfl, rfl, by decide +kernel, rfl, by decide +kernel, by decide +kernel⟩
theorem d_is_after {w : World} {K : PySem.W.Frag} {mg : Str → Option Value} {base : Heap} {f : Addr} (T : Fs w K mg) (cdv : Value) (A : Around) (outer : List Env) (s : Shared) (H : Hp) (E : XK) (hr : Room 0 (A.deeper (envOfC "is_after" (defScope st_is_after) s.heap.objs.size f cdv))) (Ac : Act) (oG : Ac.g.G = Gof K) (oK : Ac.g.K = K) :
    PSs (cxOf (L2.CX P w) P w K mg base ["window", "sign"] "is_after" (defScope st_is_after) f cdv A outer s H E) (defBody st_is_after) (tS Ac (fun cls d _ H => E cls d H) m_is_after) := by
  obtain ⟨⟨aK, aG, aE⟩, aB, aI⟩ := Ac
  have oK : K = aK := oK.symm
  have oG : aG = Gof K := oG
  subst oK
  subst oG
  have o : On (cxOf (L2.CX P w) P w K mg base ["window", "sign"] "is_after" (defScope st_is_after) f cdv A outer s H E) ⟨K, Gof K, aE⟩ := On.of (A := ⟨⟨K, Gof K, aE⟩, aB, aI⟩) rfl hr
  have nd := (sc_is_after).nd
  have tk : Takes (cxOf (L2.CX P w) P w K mg base ["window", "sign"] "is_after" (defScope st_is_after) f cdv A outer s H E) (fun cls d _ H => E cls d H) := takes_of rfl rfl rfl rfl
  exact PSs_cons (PS_if (PW.pt (PW_or (PT_nin o (PE_len o rfl T.b_len (PA_cons (PE_n (pv 0)) (PA_nil))) (PE_gtup T.tp_WINDOW_LENGTHS o.k rfl)) (PW_one (PT_ne o (PE_ix2 o.k (PE_n (pv 0)) (PE_int)) (PE_gs T.s_FREE rfl rfl))))) (PSs_one (PS_ret (PE_bl))) (PSs_nil)) (PSs_cons (PS_for (passes_of rfl) rfl (PI_e o.k (PE_n (pv 0))) (fun J => PG_n (pg_name (i := 1) nd rfl (by first | exact Or.inl rfl | exact Or.inr rfl))) (fun J => PSs_one (PS_if (PW.pt (PW_and (PT_ne o (PE_n (pv 1)) (PE_gs T.s_FREE rfl rfl)) (PW_one (PT_nin o (PE_n (pv 1)) (PE_gs T.s_PEGS rfl rfl))))) (PSs_one (PS_ret (PE_bl))) (PSs_nil)))) (PSs_one (PS_ret (PE_bl))))
theorem f_is_after {w : World} {K : PySem.W.Frag} {mg : Str → Option Value} {base : Heap} {f : Addr} {fd : FuncData} (T : Fs w K mg) (F : FunD K "is_after" "is_after" (defArgs st_is_after) (defBody st_is_after) (defScope st_is_after) [] [] f fd) : FnOk P w K mg base (L2.CX P w) 1 f fd ["window"] (spF (Gof K) K [false] 1 m_is_after) :=
  fnD_ok F sc_is_after rfl rfl (fun cdv A outer s H E hr Ac oG oK => d_is_after T cdv A outer s H E hr Ac oG oK)
theorem sc_is_before : FnScope ["window", "sign"] ["window"] (defScope st_is_before) := ⟨rfl, rfl, rfl, by decide +kernel, rfl, by decide +kernel, by decide +kernel⟩
theorem d_is_before {w : World} {K : PySem.W.Frag} {mg : Str → Option Value} {base : Heap} {f : Addr} (T : Fs w K mg) (cdv : Value) (A : Around) (outer : List Env) (s : Shared) (H : Hp) (E : XK) (hr : Room 0 (A.deeper (envOfC "is_before" (defScope st_is_before) s.heap.objs.size f cdv))) (Ac : Act) (oG : Ac.g.G = Gof K) (oK : Ac.g.K = K) :
    PSs (cxOf (L2.CX P w) P w K mg base ["window", "sign"] "is_before" (defScope st_is_before) f cdv A outer s H E) (defBody st_is_before) (tS Ac (fun cls d _ H => E cls d H) m_is_before) := by
  obtain ⟨⟨aK, aG, aE⟩, aB, aI⟩ := Ac
  have oK : K = aK := oK.symm
  have oG : aG = Gof K := oG
  subst oK
  subst oG
  have o : On (cxOf (L2.CX P w) P w K mg base ["window", "sign"] "is_before" (defScope st_is_before) f cdv A outer s H E) ⟨K, Gof K, aE⟩ := On.of (A := ⟨⟨K, Gof K, aE⟩, aB, aI⟩) rfl hr
  have nd := (sc_is_before).nd
  have tk : Takes (cxOf (L2.CX P w) P w K mg base ["window", "sign"] "is_before" (defScope st_is_before) f cdv A outer s H E) (fun cls d _ H => E cls d H) := takes_of rfl rfl rfl rfl
  exact PSs_cons (PS_if (PW.pt (PW_or (PT_nin o (PE_len o rfl T.b_len (PA_cons (PE_n (pv 0)) (PA_nil))) (PE_gtup T.tp_WINDOW_LENGTHS o.k rfl)) (PW_one (PT_ne o (PE_ix2 o.k (PE_n (pv 0)) (PE_neg (PE_int))) (PE_gs T.s_FREE rfl rfl))))) (PSs_one (PS_ret (PE_bl))) (PSs_nil)) (PSs_cons (PS_for (passes_of rfl) rfl (PI_e o.k (PE_slR o.k (PE_n (pv 0)) (PE_neg (PE_int)))) (fun J => PG_n (pg_name (i := 1) nd rfl (by first | exact Or.inl rfl | exact Or.inr rfl))) (fun J => PSs_one (PS_if (PT_nin o (PE_n (pv 1)) (PE_gs T.s_PEGS rfl rfl)) (PSs_one (PS_ret (PE_bl))) (PSs_nil)))) (PSs_one (PS_ret (PE_bl))))
theorem f_is_before {w : World} {K : PySem.W.Frag} {mg : Str → Option Value} {base : Heap} {f : Addr} {fd : FuncData} (T : Fs w K mg) (F : FunD K "is_before" "is_before" (defArgs st_is_before) (defBody st_is_before) (defScope st_is_before) [] [] f fd) : FnOk P w K mg base (L2.CX P w) 1 f fd ["window"] (spF (Gof K) K [false] 1 m_is_before) :=
  fnD_ok F sc_is_before rfl rfl (fun cdv A outer s H E hr Ac oG oK => d_is_before T cdv A outer s H E hr Ac oG oK)
theorem sc_is_jump : FnScope ["before", "after", "ways"] ["before", "after", "ways"] (defScope st_is_jump) := ⟨rfl, rfl, rfl, by decide +kernel, rfl, by decide +kernel, by decide +kernel⟩
theorem d_is_jump {w : World} {K : PySem.W.Frag} {mg : Str → Option Value} {base : Heap} {f : Addr} (T : Fs w K mg) (c_is_before : Cal P w K mg base (Gof K) "is_before" 1 ["window"] [false] 1 m_is_before) (c_is_after : Cal P w K mg base (Gof K) "is_after" 1 ["window"] [false] 1 m_is_after) (cdv : Value) (A : Around) (outer : List Env) (s : Shared) (H : Hp) (E : XK) (hr : Room 1 (A.deeper (envOfC "is_jump" (defScope st_is_jump) s.heap.objs.size f cdv))) (Ac : Act) (oG : Ac.g.G = Gof K) (oK : Ac.g.K = K) :
    PSs (cxOf (L2.CX P w) P w K mg base ["before", "after", "ways"] "is_jump" (defScope st_is_jump) f cdv A outer s H E) (defBody st_is_jump) (tS Ac (fun cls d _ H => E cls d H) m_is_jump) := by
  obtain ⟨⟨aK, aG, aE⟩, aB, aI⟩ := Ac
  have oK : K = aK := oK.symm
  have oG : aG = Gof K := oG
  subst oK
  subst oG
  have o : On (cxOf (L2.CX P w) P w K mg base ["before", "after", "ways"] "is_jump" (defScope st_is_jump) f cdv A outer s H E) ⟨K, Gof K, aE⟩ := On.of (A := ⟨⟨K, Gof K, aE⟩, aB, aI⟩) rfl hr
  have nd := (sc_is_jump).nd
  have tk : Takes (cxOf (L2.CX P w) P w K mg base ["before", "after", "ways"] "is_jump" (defScope st_is_jump) f cdv A outer s H E) (fun cls d _ H => E cls d H) := takes_of rfl rfl rfl rfl
  exact PSs_one (PS_ret (PE_and (PE_cal c_is_before o rfl hr tk rfl (by decide) rfl (PA_cons (PE_n (pv 0)) (PA_nil))) (PE_and (PE_cal c_is_after o rfl hr tk rfl (by decide) rfl (PA_cons (PE_n (pv 1)) (PA_nil))) (PE_and (PE_eq o (PE_len o rfl T.b_len (PA_cons (PE_n (pv 0)) (PA_nil))) (PE_len o rfl T.b_len (PA_cons (PE_n (pv 1)) (PA_nil)))) (PE_one (PE_tin T.tb_WAY_SIGNS rfl (PE_n (pv 2))))))))
theorem f_is_jump {w : World} {K : PySem.W.Frag} {mg : Str → Option Value} {base : Heap} {f : Addr} {fd : FuncData} (T : Fs w K mg) (c_is_before : Cal P w K mg base (Gof K) "is_before" 1 ["window"] [false] 1 m_is_before) (c_is_after : Cal P w K mg base (Gof K) "is_after" 1 ["window"] [false] 1 m_is_after) (F : FunD K "is_jump" "is_jump" (defArgs st_is_jump) (defBody st_is_jump) (defScope st_is_jump) [] [] f fd) : FnOk P w K mg base (L2.CX P w) 2 f fd ["before", "after", "ways"] (spF (Gof K) K [false, false, false] 0 m_is_jump) :=
  fnD_ok F sc_is_jump rfl rfl (fun cdv A outer s H E hr Ac oG oK => d_is_jump T c_is_before c_is_after cdv A outer s H E hr Ac oG oK)
theorem sc_Jump_init : FnScope ["self", "before", "after", "ways"] ["self", "before", "after", "ways"] (defScope st_Jump_init) := ⟨rfl, rfl, rfl, by decide +kernel, rfl, by decide +kernel, by decide +kernel⟩
theorem d_Jump_init {w : World} {K : PySem.W.Frag} {mg : Str → Option Value} {base : Heap} {f : Addr} (T : Fs w K mg) (c_is_jump : Cal P w K mg base (Gof K) "is_jump" 2 ["before", "after", "ways"] [false, false, false] 0 m_is_jump) (cdv : Value) (A : Around) (outer : List Env) (s : Shared) (H : Hp) (E : XK) (hr : Room 2 (A.deeper (envOfC "Jump.__init__" (defScope st_Jump_init) s.heap.objs.size f cdv))) (Ac : Act) (oG : Ac.g.G = Gof K) (oK : Ac.g.K = K) :
    PSs (cxOf (L2.CX P w) P w K mg base ["self", "before", "after", "ways"] "Jump.__init__" (defScope st_Jump_init) f cdv A outer s H E) (defBody st_Jump_init) (tS Ac (fun cls d _ H => E cls d H) m_Jump_init) := by
  obtain ⟨⟨aK, aG, aE⟩, aB, aI⟩ := Ac
  have oK : K = aK := oK.symm
  have oG : aG = Gof K := oG
  subst oK
  subst oG
  have o : On (cxOf (L2.CX P w) P w K mg base ["self", "before", "after", "ways"] "Jump.__init__" (defScope st_Jump_init) f cdv A outer s H E) ⟨K, Gof K, aE⟩ := On.of (A := ⟨⟨K, Gof K, aE⟩, aB, aI⟩) rfl hr
  have nd := (sc_Jump_init).nd
  have tk : Takes (cxOf (L2.CX P w) P w K mg base ["self", "before", "after", "ways"] "Jump.__init__" (defScope st_Jump_init) f cdv A outer s H E) (fun cls d _ H => E cls d H) := takes_of rfl rfl rfl rfl
  exact PSs_cons (PS_if (PT_not (PT_tru o.k (PE_cal c_is_jump o rfl hr tk rfl (by decide) rfl (PA_cons (PE_n (pv 1)) (PA_cons (PE_n (pv 2)) (PA_cons (PE_n (pv 3)) (PA_nil))))))) (PSs_one (PS_raise rfl T.x_InvalidJump rfl T.c_InvalidJump T.b_super hr tk ok_InvalidJump (PE_n (pv 1)) rfl)) (PSs_nil)) (PSs_cons (PS_setF o.k T.fl_Jump_before (PE_n (pv 1)) (PE_n (pv 0))) (PSs_cons (PS_setF o.k T.fl_Jump_after (PE_n (pv 2)) (PE_n (pv 0))) (PSs_one (PS_setF o.k T.fl_Jump_ways (PE_n (pv 3)) (PE_n (pv 0))))))
theorem f_Jump_init {w : World} {K : PySem.W.Frag} {mg : Str → Option Value} {base : Heap} {f : Addr} {fd : FuncData} (T : Fs w K mg) (c_is_jump : Cal P w K mg base (Gof K) "is_jump" 2 ["before", "after", "ways"] [false, false, false] 0 m_is_jump) (F : FunD K "__init__" "Jump.__init__" (defArgs st_Jump_init) (defBody st_Jump_init) (defScope st_Jump_init) [.str "right"] [] f fd) : FnOk P w K mg base (L2.CX P w) 3 f fd ["self", "before", "after", "ways"] (spF (Gof K) K [true, false, false, false] 0 m_Jump_init) :=
  fnD_ok F sc_Jump_init rfl rfl (fun cdv A outer s H E hr Ac oG oK => d_Jump_init T c_is_jump cdv A outer s H E hr Ac oG oK)
theorem sc_Jump_mirrored : FnScope ["self"] ["self"] (defScope st_Jump_mirrored) := ⟨rfl, rfl, rfl, by decide +kernel, rfl, by decide +kernel, by decide +kernel⟩
theorem d_Jump_mirrored {w : World} {K : PySem.W.Frag} {mg : Str → Option Value} {base : Heap} {f : Addr} (T : Fs w K mg) (ci_Jump_init : CalI P w K mg base (Gof K) "Jump" 2 3 ["self", "before", "after", "ways"] [[.str [114, 105, 103, 104, 116]], []] [false, false, false] 0 m_Jump_init) (cdv : Value) (A : Around) (outer : List Env) (s : Shared) (H : Hp) (E : XK) (hr : Room 4 (A.deeper (envOfC "Jump.mirrored" (defScope st_Jump_mirrored) s.heap.objs.size f cdv))) (Ac : Act) (oG : Ac.g.G = Gof K) (oK : Ac.g.K = K) :
    PSs (cxOf (L2.CX P w) P w K mg base ["self"] "Jump.mirrored" (defScope st_Jump_mirrored) f cdv A outer s H E) (defBody st_Jump_mirrored) (tS Ac (fun cls d _ H => E cls d H) m_Jump_mirrored) := by
  obtain ⟨⟨aK, aG, aE⟩, aB, aI⟩ := Ac
  have oK : K = aK := oK.symm
  have oG : aG = Gof K := oG
  subst oK
  subst oG
  have o : On (cxOf (L2.CX P w) P w K mg base ["self"] "Jump.mirrored" (defScope st_Jump_mirrored) f cdv A outer s H E) ⟨K, Gof K, aE⟩ := On.of (A := ⟨⟨K, Gof K, aE⟩, aB, aI⟩) rfl hr
  have nd := (sc_Jump_mirrored).nd
  have tk : Takes (cxOf (L2.CX P w) P w K mg base ["self"] "Jump.mirrored" (defScope st_Jump_mirrored) f cdv A outer s H E) (fun cls d _ H => E cls d H) := takes_of rfl rfl rfl rfl
  exact PSs_one (PS_ret (PE_ft (PE_makeC ci_Jump_init o rfl hr tk rfl (by decide) (by simp) rfl (PA_cons (PE_fld o.k T.fl_Jump_before (PE_n (pv 0))) (PA_cons (PE_fld o.k T.fl_Jump_after (PE_n (pv 0))) (PA_cons (PE_tix T.tb_MIRRORED_WAYS rfl (PE_fld o.k T.fl_Jump_ways (PE_n (pv 0)))) (PA_nil)))))))
theorem f_Jump_mirrored {w : World} {K : PySem.W.Frag} {mg : Str → Option Value} {base : Heap} {f : Addr} {fd : FuncData} (T : Fs w K mg) (ci_Jump_init : CalI P w K mg base (Gof K) "Jump" 2 3 ["self", "before", "after", "ways"] [[.str [114, 105, 103, 104, 116]], []] [false, false, false] 0 m_Jump_init) (F : FunD K "mirrored" "Jump.mirrored" (defArgs st_Jump_mirrored) (defBody st_Jump_mirrored) (defScope st_Jump_mirrored) [] [] f fd) : FnOk P w K mg base (L2.CX P w) 5 f fd ["self"] (spF (Gof K) K [false] 0 m_Jump_mirrored) :=
  fnD_ok F sc_Jump_mirrored rfl rfl (fun cdv A outer s H E hr Ac oG oK => d_Jump_mirrored T ci_Jump_init cdv A outer s H E hr Ac oG oK)
theorem sc_check_row : FnScope ["row", "signs", "sign"] ["row", "signs"] (defScope st_check_row) := ⟨rfl, rfl, rfl, by decide +kernel, rfl, by decide +kernel, by decide +kernel⟩
theorem d_check_row {w : World} {K : PySem.W.Frag} {mg : Str → Option Value} {base : Heap} {f : Addr} (T : Fs w K mg) (cdv : Value) (A : Around) (outer : List Env) (s : Shared) (H : Hp) (E : XK) (hr : Room 1 (A.deeper (envOfC "check_row" (defScope st_check_row) s.heap.objs.size f cdv))) (Ac : Act) (oG : Ac.g.G = Gof K) (oK : Ac.g.K = K) :
    PSs (cxOf (L2.CX P w) P w K mg base ["row", "signs", "sign"] "check_row" (defScope st_check_row) f cdv A outer s H E) (defBody st_check_row) (tS Ac (fun cls d _ H => E cls d H) m_check_row) := by
  obtain ⟨⟨aK, aG, aE⟩, aB, aI⟩ := Ac
  have oK : K = aK := oK.symm
  have oG : aG = Gof K := oG
  subst oK
  subst oG
  have o : On (cxOf (L2.CX P w) P w K mg base ["row", "signs", "sign"] "check_row" (defScope st_check_row) f cdv A outer s H E) ⟨K, Gof K, aE⟩ := On.of (A := ⟨⟨K, Gof K, aE⟩, aB, aI⟩) rfl hr
  have nd := (sc_check_row).nd
  have tk : Takes (cxOf (L2.CX P w) P w K mg base ["row", "signs", "sign"] "check_row" (defScope st_check_row) f cdv A outer s H E) (fun cls d _ H => E cls d H) := takes_of rfl rfl rfl rfl
  exact PSs_one (PS_for (passes_of rfl) rfl (PI_e o.k (PE_n (pv 0))) (fun J => PG_n (pg_name (i := 2) nd rfl (by first | exact Or.inl rfl | exact Or.inr rfl))) (fun J => PSs_one (PS_if (PT_nin o (PE_n (pv 2)) (PE_n (pv 1))) (PSs_one (PS_raise rfl T.x_InvalidRow rfl T.c_InvalidRow T.b_super hr tk ok_InvalidRow (PE_n (pv 0)) rfl)) (PSs_nil))))
theorem f_check_row {w : World} {K : PySem.W.Frag} {mg : Str → Option Value} {base : Heap} {f : Addr} {fd : FuncData} (T : Fs w K mg) (F : FunD K "check_row" "check_row" (defArgs st_check_row) (defBody st_check_row) (defScope st_check_row) [] [] f fd) : FnOk P w K mg base (L2.CX P w) 2 f fd ["row", "signs"] (spF (Gof K) K [false, false] 1 m_check_row) :=
  fnD_ok F sc_check_row rfl rfl (fun cdv A outer s H E hr Ac oG oK => d_check_row T cdv A outer s H E hr Ac oG oK)
theorem sc_mirror : FnScope ["row"] ["row"] (defScope st_mirror) := ⟨rfl, rfl, rfl, by decide +kernel, rfl, by decide +kernel, by decide +kernel⟩
theorem d_mirror {w : World} {K : PySem.W.Frag} {mg : Str → Option Value} {base : Heap} {f : Addr} (T : Fs w K mg) (c_check_row : Cal P w K mg base (Gof K) "check_row" 2 ["row", "signs"] [false, false] 1 m_check_row) (cdv : Value) (A : Around) (outer : List Env) (s : Shared) (H : Hp) (E : XK) (hr : Room 2 (A.deeper (envOfC "mirror" (defScope st_mirror) s.heap.objs.size f cdv))) (Ac : Act) (oG : Ac.g.G = Gof K) (oK : Ac.g.K = K) :
    PSs (cxOf (L2.CX P w) P w K mg base ["row"] "mirror" (defScope st_mirror) f cdv A outer s H E) (defBody st_mirror) (tS Ac (fun cls d _ H => E cls d H) m_mirror) := by
  obtain ⟨⟨aK, aG, aE⟩, aB, aI⟩ := Ac
  have oK : K = aK := oK.symm
  have oG : aG = Gof K := oG
  subst oK
  subst oG
  have o : On (cxOf (L2.CX P w) P w K mg base ["row"] "mirror" (defScope st_mirror) f cdv A outer s H E) ⟨K, Gof K, aE⟩ := On.of (A := ⟨⟨K, Gof K, aE⟩, aB, aI⟩) rfl hr
  have nd := (sc_mirror).nd
  have tk : Takes (cxOf (L2.CX P w) P w K mg base ["row"] "mirror" (defScope st_mirror) f cdv A outer s H E) (fun cls d _ H => E cls d H) := takes_of rfl rfl rfl rfl
  exact PSs_cons (PS_expr (PE_cal c_check_row o rfl hr tk rfl (by decide) rfl (PA_cons (PE_n (pv 0)) (PA_cons (PE_gs T.s_SIGNS rfl rfl) (PA_nil))))) (PSs_one (PS_ret (PE_rev (PE_n (pv 0)))))
theorem f_mirror {w : World} {K : PySem.W.Frag} {mg : Str → Option Value} {base : Heap} {f : Addr} {fd : FuncData} (T : Fs w K mg) (c_check_row : Cal P w K mg base (Gof K) "check_row" 2 ["row", "signs"] [false, false] 1 m_check_row) (F : FunD K "mirror" "mirror" (defArgs st_mirror) (defBody st_mirror) (defScope st_mirror) [] [] f fd) : FnOk P w K mg base (L2.CX P w) 3 f fd ["row"] (spF (Gof K) K [false] 0 m_mirror) :=
  fnD_ok F sc_mirror rfl rfl (fun cdv A outer s H E hr Ac oG oK => d_mirror T c_check_row cdv A outer s H E hr Ac oG oK)
theorem sc_Jump_windows : FnScope ["self", "found"] ["self"] (defScope st_Jump_windows) := ⟨rfl, rfl, rfl, by decide +kernel, rfl, by decide +kernel, by decide +kernel⟩
theorem d_Jump_windows {w : World} {K : PySem.W.Frag} {mg : Str → Option Value} {base : Heap} {f : Addr} (T : Fs w K mg) (c_mirror : Cal P w K mg base (Gof K) "mirror" 3 ["row"] [false] 0 m_mirror) (cdv : Value) (A : Around) (outer : List Env) (s : Shared) (H : Hp) (E : XK) (hr : Room 3 (A.deeper (envOfC "Jump.windows" (defScope st_Jump_windows) s.heap.objs.size f cdv))) (Ac : Act) (oG : Ac.g.G = Gof K) (oK : Ac.g.K = K) :
    PSs (cxOf (L2.CX P w) P w K mg base ["self", "found"] "Jump.windows" (defScope st_Jump_windows) f cdv A outer s H E) (defBody st_Jump_windows) (tS Ac (fun cls d _ H => E cls d H) m_Jump_windows) := by
  obtain ⟨⟨aK, aG, aE⟩, aB, aI⟩ := Ac
  have oK : K = aK := oK.symm
  have oG : aG = Gof K := oG
  subst oK
  subst oG
  have o : On (cxOf (L2.CX P w) P w K mg base ["self", "found"] "Jump.windows" (defScope st_Jump_windows) f cdv A outer s H E) ⟨K, Gof K, aE⟩ := On.of (A := ⟨⟨K, Gof K, aE⟩, aB, aI⟩) rfl hr
  have nd := (sc_Jump_windows).nd
  have tk : Takes (cxOf (L2.CX P w) P w K mg base ["self", "found"] "Jump.windows" (defScope st_Jump_windows) f cdv A outer s H E) (fun cls d _ H => E cls d H) := takes_of rfl rfl rfl rfl
  exact PSs_cons (PS_set (i := 1) nd rfl (Or.inl rfl) (PE_lst (PA_nil))) (PSs_cons (PS_if (PT_ne o (PE_fld o.k T.fl_Jump_ways (PE_n (pv 0))) (PE_str rfl)) (PSs_one (PS_expr (PE_append o (PE_n (pv 1)) (PA_cons (PE_tup (PA_cons (PE_fld o.k T.fl_Jump_before (PE_n (pv 0))) (PA_cons (PE_fld o.k T.fl_Jump_after (PE_n (pv 0))) (PA_nil)))) (PA_nil))))) (PSs_nil)) (PSs_cons (PS_if (PT_ne o (PE_fld o.k T.fl_Jump_ways (PE_n (pv 0))) (PE_str rfl)) (PSs_one (PS_expr (PE_append o (PE_n (pv 1)) (PA_cons (PE_tup (PA_cons (PE_cal c_mirror o rfl hr tk rfl (by decide) rfl (PA_cons (PE_fld o.k T.fl_Jump_before (PE_n (pv 0))) (PA_nil))) (PA_cons (PE_cal c_mirror o rfl hr tk rfl (by decide) rfl (PA_cons (PE_fld o.k T.fl_Jump_after (PE_n (pv 0))) (PA_nil))) (PA_nil)))) (PA_nil))))) (PSs_nil)) (PSs_one (PS_ret (PE_mv (pv 1))))))
theorem f_Jump_windows {w : World} {K : PySem.W.Frag} {mg : Str → Option Value} {base : Heap} {f : Addr} {fd : FuncData} (T : Fs w K mg) (c_mirror : Cal P w K mg base (Gof K) "mirror" 3 ["row"] [false] 0 m_mirror) (F : FunD K "windows" "Jump.windows" (defArgs st_Jump_windows) (defBody st_Jump_windows) (defScope st_Jump_windows) [] [] f fd) : FnOk P w K mg base (L2.CX P w) 4 f fd ["self"] (spF (Gof K) K [false] 1 m_Jump_windows) :=
  fnD_ok F sc_Jump_windows rfl rfl (fun cdv A outer s H E hr Ac oG oK => d_Jump_windows T c_mirror cdv A outer s H E hr Ac oG oK)
theorem sc__law_text : FnScope ["told", "due"] ["told", "due"] (defScope st__law_text) := ⟨rfl, rfl, rfl, by decide +kernel, rfl, by decide +kernel, by decide +kernel⟩
theorem dw__law_text {w : World} {K : PySem.W.Frag} {mg : Str → Option Value} {base : Heap} {f : Addr} (T : Fs w K mg) (cdv : Value) (A : Around) (outer : List Env) (s : Shared) (H : Hp) (E : XK) (p : Addr × Obj) (hr : L2H.RoomH 0 (A.deeper (envOfC "_law_text" (defScope st__law_text) s.heap.objs.size f cdv))) (Ac : Act) (oG : Ac.g.G = Gof K) (oK : Ac.g.K = K) :
    PSs (L2H.cxH (L2.CX P w) P w K mg base ["told", "due"] "_law_text" (defScope st__law_text) f cdv A outer s H E p) (defBody st__law_text) (tS Ac (fun cls d _ H => E cls d H) m__law_text) := by
  obtain ⟨⟨aK, aG, aE⟩, aB, aI⟩ := Ac
  have oK : K = aK := oK.symm
  have oG : aG = Gof K := oG
  subst oK
  subst oG
  have o : On (L2H.cxH (L2.CX P w) P w K mg base ["told", "due"] "_law_text" (defScope st__law_text) f cdv A outer s H E p) ⟨K, Gof K, aE⟩ := On.ofH (A := ⟨⟨K, Gof K, aE⟩, aB, aI⟩) rfl hr
  have nd := (sc__law_text).nd
  exact PSs_one (PS_ret (PE_and (PE_isi o rfl T.b_isinstance (PA_cons (PE_n (pv 0)) (PA_cons (PE_blt rfl T.b_str (by decide +kernel)) (PA_nil)))) (PE_one (PE_eq o (PE_n (pv 0)) (PE_n (pv 1))))))
theorem fw__law_text {w : World} {K : PySem.W.Frag} {mg : Str → Option Value} {base : Heap} {f : Addr} {fd : FuncData} (T : Fs w K mg) (F : FunD K "_law_text" "_law_text" (defArgs st__law_text) (defBody st__law_text) (defScope st__law_text) [] [] f fd) : FnW P w K mg base (L2.CX P w) 1 f fd ["told", "due"] (spF (Gof K) K [false, false] 0 m__law_text) :=
  fnDW_ok F sc__law_text rfl rfl (fun cdv A outer s H E p hr Ac oG oK => dw__law_text T cdv A outer s H E p hr Ac oG oK)
theorem d__law_text {w : World} {K : PySem.W.Frag} {mg : Str → Option Value} {base : Heap} {f : Addr} (T : Fs w K mg) (cdv : Value) (A : Around) (outer : List Env) (s : Shared) (H : Hp) (E : XK) (hr : Room 0 (A.deeper (envOfC "_law_text" (defScope st__law_text) s.heap.objs.size f cdv))) (Ac : Act) (oG : Ac.g.G = Gof K) (oK : Ac.g.K = K) :
    PSs (cxOf (L2.CX P w) P w K mg base ["told", "due"] "_law_text" (defScope st__law_text) f cdv A outer s H E) (defBody st__law_text) (tS Ac (fun cls d _ H => E cls d H) m__law_text) := by
  obtain ⟨⟨aK, aG, aE⟩, aB, aI⟩ := Ac
  have oK : K = aK := oK.symm
  have oG : aG = Gof K := oG
  subst oK
  subst oG
  have o : On (cxOf (L2.CX P w) P w K mg base ["told", "due"] "_law_text" (defScope st__law_text) f cdv A outer s H E) ⟨K, Gof K, aE⟩ := On.of (A := ⟨⟨K, Gof K, aE⟩, aB, aI⟩) rfl hr
  have nd := (sc__law_text).nd
  have tk : Takes (cxOf (L2.CX P w) P w K mg base ["told", "due"] "_law_text" (defScope st__law_text) f cdv A outer s H E) (fun cls d _ H => E cls d H) := takes_of rfl rfl rfl rfl
  exact PSs_one (PS_ret (PE_and (PE_isi o rfl T.b_isinstance (PA_cons (PE_n (pv 0)) (PA_cons (PE_blt rfl T.b_str (by decide +kernel)) (PA_nil)))) (PE_one (PE_eq o (PE_n (pv 0)) (PE_n (pv 1))))))
theorem f__law_text {w : World} {K : PySem.W.Frag} {mg : Str → Option Value} {base : Heap} {f : Addr} {fd : FuncData} (T : Fs w K mg) (F : FunD K "_law_text" "_law_text" (defArgs st__law_text) (defBody st__law_text) (defScope st__law_text) [] [] f fd) : FnOk P w K mg base (L2.CX P w) 1 f fd ["told", "due"] (spF (Gof K) K [false, false] 0 m__law_text) :=
  fnD_ok F sc__law_text rfl rfl (fun cdv A outer s H E hr Ac oG oK => d__law_text T cdv A outer s H E hr Ac oG oK)
theorem sc__law_image : FnScope ["row", "at"] ["row"] (defScope st__law_image) := ⟨rfl, rfl, rfl, by decide +kernel, rfl, by decide +kernel, by decide +kernel⟩
theorem d__law_image {w : World} {K : PySem.W.Frag} {mg : Str → Option Value} {base : Heap} {f : Addr} (T : Fs w K mg) (cdv : Value) (A : Around) (outer : List Env) (s : Shared) (H : Hp) (E : XK) (hr : Room 0 (A.deeper (envOfC "_law_image" (defScope st__law_image) s.heap.objs.size f cdv))) (Ac : Act) (oG : Ac.g.G = Gof K) (oK : Ac.g.K = K) :
    PSs (cxOf (L2.CX P w) P w K mg base ["row", "at"] "_law_image" (defScope st__law_image) f cdv A outer s H E) (defBody st__law_image) (tS Ac (fun cls d _ H => E cls d H) m__law_image) := by
  obtain ⟨⟨aK, aG, aE⟩, aB, aI⟩ := Ac
  have oK : K = aK := oK.symm
  have oG : aG = Gof K := oG
  subst oK
  subst oG
  have o : On (cxOf (L2.CX P w) P w K mg base ["row", "at"] "_law_image" (defScope st__law_image) f cdv A outer s H E) ⟨K, Gof K, aE⟩ := On.of (A := ⟨⟨K, Gof K, aE⟩, aB, aI⟩) rfl hr
  have nd := (sc__law_image).nd
  have tk : Takes (cxOf (L2.CX P w) P w K mg base ["row", "at"] "_law_image" (defScope st__law_image) f cdv A outer s H E) (fun cls d _ H => E cls d H) := takes_of rfl rfl rfl rfl
  exact PSs_one (PS_ret (PE_join o (PE_str rfl) (PA_cons (PE_cmp_ (own := [("at", 1)]) rfl nd rfl (PI_r1 rfl T.b_range (PA_cons (PE_len o rfl T.b_len (PA_cons (PE_n (pv 0)) (PA_nil))) (PA_nil))) (blkOk_by (N := ["row", "at"]) (sc := defScope st__law_image) (by decide +kernel)) (fun _ _ _ _ _ _ => PG_n (pg_name (i := 1) nd rfl (by first | exact Or.inl rfl | exact Or.inr rfl))) (fun _ _ _ _ _ => PTs_nil) (fun _ _ _ _ _ _ => PE_ix2 (On.mk o.k o.u).k (PE_n (pv 0)) (PE_sub (PE_sub (PE_len (On.mk o.k o.u) rfl T.b_len (PA_cons (PE_n (pv 0)) (PA_nil))) (PE_int)) (PE_n (pv 1))))) (PA_nil))))
theorem f__law_image {w : World} {K : PySem.W.Frag} {mg : Str → Option Value} {base : Heap} {f : Addr} {fd : FuncData} (T : Fs w K mg) (F : FunD K "_law_image" "_law_image" (defArgs st__law_image) (defBody st__law_image) (defScope st__law_image) [] [] f fd) : FnOk P w K mg base (L2.CX P w) 1 f fd ["row"] (spF (Gof K) K [false] 1 m__law_image) :=
  fnD_ok F sc__law_image rfl rfl (fun cdv A outer s H E hr Ac oG oK => d__law_image T cdv A outer s H E hr Ac oG oK)
theorem sc__law_windows : FnScope ["triple", "rows"] ["triple"] (defScope st__law_windows) := ⟨rfl, rfl, rfl, by decide +kernel, rfl, by decide +kernel, by decide +kernel⟩
theorem d__law_windows {w : World} {K : PySem.W.Frag} {mg : Str → Option Value} {base : Heap} {f : Addr} (T : Fs w K mg) (c__law_image : Cal P w K mg base (Gof K) "_law_image" 1 ["row"] [false] 1 m__law_image) (cdv : Value) (A : Around) (outer : List Env) (s : Shared) (H : Hp) (E : XK) (hr : Room 1 (A.deeper (envOfC "_law_windows" (defScope st__law_windows) s.heap.objs.size f cdv))) (Ac : Act) (oG : Ac.g.G = Gof K) (oK : Ac.g.K = K) :
    PSs (cxOf (L2.CX P w) P w K mg base ["triple", "rows"] "_law_windows" (defScope st__law_windows) f cdv A outer s H E) (defBody st__law_windows) (tS Ac (fun cls d _ H => E cls d H) m__law_windows) := by
  obtain ⟨⟨aK, aG, aE⟩, aB, aI⟩ := Ac
  have oK : K = aK := oK.symm
  have oG : aG = Gof K := oG
  subst oK
  subst oG
  have o : On (cxOf (L2.CX P w) P w K mg base ["triple", "rows"] "_law_windows" (defScope st__law_windows) f cdv A outer s H E) ⟨K, Gof K, aE⟩ := On.of (A := ⟨⟨K, Gof K, aE⟩, aB, aI⟩) rfl hr
  have nd := (sc__law_windows).nd
  have tk : Takes (cxOf (L2.CX P w) P w K mg base ["triple", "rows"] "_law_windows" (defScope st__law_windows) f cdv A outer s H E) (fun cls d _ H => E cls d H) := takes_of rfl rfl rfl rfl
  exact PSs_cons (PS_set (i := 1) nd rfl (Or.inl rfl) (PE_lst (PA_nil))) (PSs_cons (PS_if (PT_ne o (PE_ix2 o.k (PE_n (pv 0)) (PE_int)) (PE_str rfl)) (PSs_one (PS_expr (PE_append o (PE_n (pv 1)) (PA_cons (PE_tup (PA_cons (PE_ix2 o.k (PE_n (pv 0)) (PE_int)) (PA_cons (PE_ix2 o.k (PE_n (pv 0)) (PE_int)) (PA_nil)))) (PA_nil))))) (PSs_nil)) (PSs_cons (PS_if (PT_ne o (PE_ix2 o.k (PE_n (pv 0)) (PE_int)) (PE_str rfl)) (PSs_one (PS_expr (PE_append o (PE_n (pv 1)) (PA_cons (PE_tup (PA_cons (PE_cal c__law_image o rfl hr tk rfl (by decide) rfl (PA_cons (PE_ix2 o.k (PE_n (pv 0)) (PE_int)) (PA_nil))) (PA_cons (PE_cal c__law_image o rfl hr tk rfl (by decide) rfl (PA_cons (PE_ix2 o.k (PE_n (pv 0)) (PE_int)) (PA_nil))) (PA_nil)))) (PA_nil))))) (PSs_nil)) (PSs_one (PS_ret (PE_mv (pv 1))))))
theorem f__law_windows {w : World} {K : PySem.W.Frag} {mg : Str → Option Value} {base : Heap} {f : Addr} {fd : FuncData} (T : Fs w K mg) (c__law_image : Cal P w K mg base (Gof K) "_law_image" 1 ["row"] [false] 1 m__law_image) (F : FunD K "_law_windows" "_law_windows" (defArgs st__law_windows) (defBody st__law_windows) (defScope st__law_windows) [] [] f fd) : FnOk P w K mg base (L2.CX P w) 2 f fd ["triple"] (spF (Gof K) K [false] 1 m__law_windows) :=
  fnD_ok F sc__law_windows rfl rfl (fun cdv A outer s H E hr Ac oG oK => d__law_windows T c__law_image cdv A outer s H E hr Ac oG oK)
theorem sc__law_listed : FnScope ["told", "triple", "due", "at"] ["told", "triple"] (defScope st__law_listed) := ⟨rfl, rfl, rfl, by decide +kernel, rfl, by decide +kernel, by decide +kernel⟩
theorem d__law_listed {w : World} {K : PySem.W.Frag} {mg : Str → Option Value} {base : Heap} {f : Addr} (T : Fs w K mg) (c__law_windows : Cal P w K mg base (Gof K) "_law_windows" 2 ["triple"] [false] 1 m__law_windows) (c__law_text : Cal P w K mg base (Gof K) "_law_text" 1 ["told", "due"] [false, false] 0 m__law_text) (cdv : Value) (A : Around) (outer : List Env) (s : Shared) (H : Hp) (E : XK) (hr : Room 2 (A.deeper (envOfC "_law_listed" (defScope st__law_listed) s.heap.objs.size f cdv))) (Ac : Act) (oG : Ac.g.G = Gof K) (oK : Ac.g.K = K) :
    PSs (cxOf (L2.CX P w) P w K mg base ["told", "triple", "due", "at"] "_law_listed" (defScope st__law_listed) f cdv A outer s H E) (defBody st__law_listed) (tS Ac (fun cls d _ H => E cls d H) m__law_listed) := by
  obtain ⟨⟨aK, aG, aE⟩, aB, aI⟩ := Ac
  have oK : K = aK := oK.symm
  have oG : aG = Gof K := oG
  subst oK
  subst oG
  have o : On (cxOf (L2.CX P w) P w K mg base ["told", "triple", "due", "at"] "_law_listed" (defScope st__law_listed) f cdv A outer s H E) ⟨K, Gof K, aE⟩ := On.of (A := ⟨⟨K, Gof K, aE⟩, aB, aI⟩) rfl hr
  have nd := (sc__law_listed).nd
  have tk : Takes (cxOf (L2.CX P w) P w K mg base ["told", "triple", "due", "at"] "_law_listed" (defScope st__law_listed) f cdv A outer s H E) (fun cls d _ H => E cls d H) := takes_of rfl rfl rfl rfl
  exact PSs_cons (PS_set (i := 2) nd rfl (Or.inl rfl) (PE_cal c__law_windows o rfl hr tk rfl (by decide) rfl (PA_cons (PE_n (pv 1)) (PA_nil)))) (PSs_cons (PS_if (PW.pt (PW_or (PT_not (PT_tru o.k (PE_isi o rfl T.b_isinstance (PA_cons (PE_n (pv 0)) (PA_cons (PE_blt rfl T.b_list (by decide +kernel)) (PA_nil)))))) (PW_one (PT_ne o (PE_len o rfl T.b_len (PA_cons (PE_n (pv 0)) (PA_nil))) (PE_len o rfl T.b_len (PA_cons (PE_n (pv 2)) (PA_nil))))))) (PSs_one (PS_ret (PE_bl))) (PSs_nil)) (PSs_cons (PS_for (passes_of rfl) rfl (PI_r1 rfl T.b_range (PA_cons (PE_len o rfl T.b_len (PA_cons (PE_n (pv 2)) (PA_nil))) (PA_nil))) (fun J => PG_n (pg_name (i := 3) nd rfl (by first | exact Or.inl rfl | exact Or.inr rfl))) (fun J => PSs_cons (PS_if (PW.pt (PW_or (PT_not (PT_tru o.k (PE_isi o rfl T.b_isinstance (PA_cons (PE_ix2 o.k (PE_n (pv 0)) (PE_n (pv 3))) (PA_cons (PE_blt rfl T.b_tuple (by decide +kernel)) (PA_nil)))))) (PW_one (PT_ne o (PE_len o rfl T.b_len (PA_cons (PE_ix2 o.k (PE_n (pv 0)) (PE_n (pv 3))) (PA_nil))) (PE_int))))) (PSs_one (PS_ret (PE_bl))) (PSs_nil)) (PSs_one (PS_if (PW.pt (PW_or (PT_not (PT_tru o.k (PE_cal c__law_text o rfl hr tk rfl (by decide) rfl (PA_cons (PE_ix2 o.k (PE_ix2 o.k (PE_n (pv 0)) (PE_n (pv 3))) (PE_int)) (PA_cons (PE_ix2 o.k (PE_ix2 o.k (PE_n (pv 2)) (PE_n (pv 3))) (PE_int)) (PA_nil)))))) (PW_one (PT_not (PT_tru o.k (PE_cal c__law_text o rfl hr tk rfl (by decide) rfl (PA_cons (PE_ix2 o.k (PE_ix2 o.k (PE_n (pv 0)) (PE_n (pv 3))) (PE_int)) (PA_cons (PE_ix2 o.k (PE_ix2 o.k (PE_n (pv 2)) (PE_n (pv 3))) (PE_int)) (PA_nil))))))))) (PSs_one (PS_ret (PE_bl))) (PSs_nil))))) (PSs_one (PS_ret (PE_bl)))))
theorem f__law_listed {w : World} {K : PySem.W.Frag} {mg : Str → Option Value} {base : Heap} {f : Addr} {fd : FuncData} (T : Fs w K mg) (c__law_windows : Cal P w K mg base (Gof K) "_law_windows" 2 ["triple"] [false] 1 m__law_windows) (c__law_text : Cal P w K mg base (Gof K) "_law_text" 1 ["told", "due"] [false, false] 0 m__law_text) (F : FunD K "_law_listed" "_law_listed" (defArgs st__law_listed) (defBody st__law_listed) (defScope st__law_listed) [] [] f fd) : FnOk P w K mg base (L2.CX P w) 3 f fd ["told", "triple"] (spF (Gof K) K [false, false] 2 m__law_listed) :=
  fnD_ok F sc__law_listed rfl rfl (fun cdv A outer s H E hr Ac oG oK => d__law_listed T c__law_windows c__law_text cdv A outer s H E hr Ac oG oK)
theorem sc_Jump_str : FnScope ["self"] ["self"] (defScope st_Jump_str) := ⟨rfl, rfl, rfl, by decide +kernel, rfl, by decide +kernel, by decide +kernel⟩
theorem d_Jump_str {w : World} {K : PySem.W.Frag} {mg : Str → Option Value} {base : Heap} {f : Addr} (T : Fs w K mg) (cdv : Value) (A : Around) (outer : List Env) (s : Shared) (H : Hp) (E : XK) (hr : Room 0 (A.deeper (envOfC "Jump.__str__" (defScope st_Jump_str) s.heap.objs.size f cdv))) (Ac : Act) (oG : Ac.g.G = Gof K) (oK : Ac.g.K = K) :
    PSs (cxOf (L2.CX P w) P w K mg base ["self"] "Jump.__str__" (defScope st_Jump_str) f cdv A outer s H E) (defBody st_Jump_str) (tS Ac (fun cls d _ H => E cls d H) m_Jump_str) := by
  obtain ⟨⟨aK, aG, aE⟩, aB, aI⟩ := Ac
  have oK : K = aK := oK.symm
  have oG : aG = Gof K := oG
  subst oK
  subst oG
  have o : On (cxOf (L2.CX P w) P w K mg base ["self"] "Jump.__str__" (defScope st_Jump_str) f cdv A outer s H E) ⟨K, Gof K, aE⟩ := On.of (A := ⟨⟨K, Gof K, aE⟩, aB, aI⟩) rfl hr
  have nd := (sc_Jump_str).nd
  have tk : Takes (cxOf (L2.CX P w) P w K mg base ["self"] "Jump.__str__" (defScope st_Jump_str) f cdv A outer s H E) (fun cls d _ H => E cls d H) := takes_of rfl rfl rfl rfl
  exact PSs_one (PS_ret (PE_js (PJ.cons (PE_fm (PE_fld o.k T.fl_Jump_before (PE_n (pv 0)))) (PJ.cons (PE_fm (PE_tix T.tb_WAY_SIGNS rfl (PE_fld o.k T.fl_Jump_ways (PE_n (pv 0))))) (PJ.cons (PE_fm (PE_fld o.k T.fl_Jump_after (PE_n (pv 0)))) (PJ.nil))))))
theorem f_Jump_str {w : World} {K : PySem.W.Frag} {mg : Str → Option Value} {base : Heap} {f : Addr} {fd : FuncData} (T : Fs w K mg) (F : FunD K "__str__" "Jump.__str__" (defArgs st_Jump_str) (defBody st_Jump_str) (defScope st_Jump_str) [] [] f fd) : FnOk P w K mg base (L2.CX P w) 1 f fd ["self"] (spF (Gof K) K [false] 0 m_Jump_str) :=
  fnD_ok F sc_Jump_str rfl rfl (fun cdv A outer s H E hr Ac oG oK => d_Jump_str T cdv A outer s H E hr Ac oG oK)
theorem sc__law_written : FnScope ["triple"] ["triple"] (defScope st__law_written) := ⟨rfl, rfl, rfl, by decide +kernel, rfl, by decide +kernel, by decide +kernel⟩
theorem d__law_written {w : World} {K : PySem.W.Frag} {mg : Str → Option Value} {base : Heap} {f : Addr} (T : Fs w K mg) (cdv : Value) (A : Around) (outer : List Env) (s : Shared) (H : Hp) (E : XK) (hr : Room 0 (A.deeper (envOfC "_law_written" (defScope st__law_written) s.heap.objs.size f cdv))) (Ac : Act) (oG : Ac.g.G = Gof K) (oK : Ac.g.K = K) :
    PSs (cxOf (L2.CX P w) P w K mg base ["triple"] "_law_written" (defScope st__law_written) f cdv A outer s H E) (defBody st__law_written) (tS Ac (fun cls d _ H => E cls d H) m__law_written) := by
  obtain ⟨⟨aK, aG, aE⟩, aB, aI⟩ := Ac
  have oK : K = aK := oK.symm
  have oG : aG = Gof K := oG
  subst oK
  subst oG
  have o : On (cxOf (L2.CX P w) P w K mg base ["triple"] "_law_written" (defScope st__law_written) f cdv A outer s H E) ⟨K, Gof K, aE⟩ := On.of (A := ⟨⟨K, Gof K, aE⟩, aB, aI⟩) rfl hr
  have nd := (sc__law_written).nd
  have tk : Takes (cxOf (L2.CX P w) P w K mg base ["triple"] "_law_written" (defScope st__law_written) f cdv A outer s H E) (fun cls d _ H => E cls d H) := takes_of rfl rfl rfl rfl
  exact PSs_one (PS_ret (PE_add (PE_add (PE_ix2 o.k (PE_n (pv 0)) (PE_int)) (PE_dix o (PE_dsp (pps_cons pe_str (pe_str) (pps_cons pe_str (pe_str) (pps_cons pe_str (pe_str) (pps_nil))))) (PE_ix2 o.k (PE_n (pv 0)) (PE_int)))) (PE_ix2 o.k (PE_n (pv 0)) (PE_int))))
theorem f__law_written {w : World} {K : PySem.W.Frag} {mg : Str → Option Value} {base : Heap} {f : Addr} {fd : FuncData} (T : Fs w K mg) (F : FunD K "_law_written" "_law_written" (defArgs st__law_written) (defBody st__law_written) (defScope st__law_written) [] [] f fd) : FnOk P w K mg base (L2.CX P w) 1 f fd ["triple"] (spF (Gof K) K [false] 0 m__law_written) :=
  fnD_ok F sc__law_written rfl rfl (fun cdv A outer s H E hr Ac oG oK => d__law_written T cdv A outer s H E hr Ac oG oK)
theorem sc__law_shown : FnScope ["jump", "triple"] ["jump", "triple"] (defScope st__law_shown) := ⟨rfl, rfl, rfl, by decide +kernel, rfl, by decide +kernel, by decide +kernel⟩
theorem d__law_shown {w : World} {K : PySem.W.Frag} {mg : Str → Option Value} {base : Heap} {f : Addr} (T : Fs w K mg) (c__law_text : Cal P w K mg base (Gof K) "_law_text" 1 ["told", "due"] [false, false] 0 m__law_text) (cm_Jump_str : CalM P w K mg base (Gof K) 2 "__str__" 1 ["self"] [false] 0 m_Jump_str) (c__law_written : Cal P w K mg base (Gof K) "_law_written" 1 ["triple"] [false] 0 m__law_written) (cdv : Value) (A : Around) (outer : List Env) (s : Shared) (H : Hp) (E : XK) (hr : Room 3 (A.deeper (envOfC "_law_shown" (defScope st__law_shown) s.heap.objs.size f cdv))) (Ac : Act) (oG : Ac.g.G = Gof K) (oK : Ac.g.K = K) :
    PSs (cxOf (L2.CX P w) P w K mg base ["jump", "triple"] "_law_shown" (defScope st__law_shown) f cdv A outer s H E) (defBody st__law_shown) (tS Ac (fun cls d _ H => E cls d H) m__law_shown) := by
  obtain ⟨⟨aK, aG, aE⟩, aB, aI⟩ := Ac
  have oK : K = aK := oK.symm
  have oG : aG = Gof K := oG
  subst oK
  subst oG
  have o : On (cxOf (L2.CX P w) P w K mg base ["jump", "triple"] "_law_shown" (defScope st__law_shown) f cdv A outer s H E) ⟨K, Gof K, aE⟩ := On.of (A := ⟨⟨K, Gof K, aE⟩, aB, aI⟩) rfl hr
  have nd := (sc__law_shown).nd
  have tk : Takes (cxOf (L2.CX P w) P w K mg base ["jump", "triple"] "_law_shown" (defScope st__law_shown) f cdv A outer s H E) (fun cls d _ H => E cls d H) := takes_of rfl rfl rfl rfl
  exact PSs_cons (PS_if (PW.pt (PW_or (PT_not (PT_tru o.k (PE_isC o.k T.is_Jump (pa_cons (PE_n (pv 0)) (pa_cons (pe_glob rfl T.c_Jump rfl) pa_nil)) rfl T.b_isinstance))) (PW_one (PT_not (PT_tru o.k (PE_cal c__law_text o rfl hr tk rfl (by decide) rfl (PA_cons (PE_fld o.k T.fl_Jump_before (PE_n (pv 0))) (PA_cons (PE_ix2 o.k (PE_n (pv 1)) (PE_int)) (PA_nil))))))))) (PSs_one (PS_ret (PE_bl))) (PSs_nil)) (PSs_cons (PS_if (PW.pt (PW_or (PT_not (PT_tru o.k (PE_cal c__law_text o rfl hr tk rfl (by decide) rfl (PA_cons (PE_fld o.k T.fl_Jump_after (PE_n (pv 0))) (PA_cons (PE_ix2 o.k (PE_n (pv 1)) (PE_int)) (PA_nil)))))) (PW_one (PT_not (PT_tru o.k (PE_cal c__law_text o rfl hr tk rfl (by decide) rfl (PA_cons (PE_fld o.k T.fl_Jump_ways (PE_n (pv 0))) (PA_cons (PE_ix2 o.k (PE_n (pv 1)) (PE_int)) (PA_nil))))))))) (PSs_one (PS_ret (PE_bl))) (PSs_nil)) (PSs_one (PS_ret (PE_cal c__law_text o rfl hr tk rfl (by decide) rfl (PA_cons (PE_strC cm_Jump_str o rfl hr rfl (by decide) rfl T.b_str (PA_cons (PE_n (pv 0)) (PA_nil))) (PA_cons (PE_cal c__law_written o rfl hr tk rfl (by decide) rfl (PA_cons (PE_n (pv 1)) (PA_nil))) (PA_nil)))))))
theorem f__law_shown {w : World} {K : PySem.W.Frag} {mg : Str → Option Value} {base : Heap} {f : Addr} {fd : FuncData} (T : Fs w K mg) (c__law_text : Cal P w K mg base (Gof K) "_law_text" 1 ["told", "due"] [false, false] 0 m__law_text) (cm_Jump_str : CalM P w K mg base (Gof K) 2 "__str__" 1 ["self"] [false] 0 m_Jump_str) (c__law_written : Cal P w K mg base (Gof K) "_law_written" 1 ["triple"] [false] 0 m__law_written) (F : FunD K "_law_shown" "_law_shown" (defArgs st__law_shown) (defBody st__law_shown) (defScope st__law_shown) [] [] f fd) : FnOk P w K mg base (L2.CX P w) 4 f fd ["jump", "triple"] (spF (Gof K) K [false, false] 0 m__law_shown) :=
  fnD_ok F sc__law_shown rfl rfl (fun cdv A outer s H E hr Ac oG oK => d__law_shown T c__law_text cm_Jump_str c__law_written cdv A outer s H E hr Ac oG oK)
theorem sc__law_swapped : FnScope ["triple"] ["triple"] (defScope st__law_swapped) := ⟨rfl, rfl, rfl, by decide +kernel, rfl, by decide +kernel, by decide +kernel⟩
theorem d__law_swapped {w : World} {K : PySem.W.Frag} {mg : Str → Option Value} {base : Heap} {f : Addr} (T : Fs w K mg) (cdv : Value) (A : Around) (outer : List Env) (s : Shared) (H : Hp) (E : XK) (hr : Room 0 (A.deeper (envOfC "_law_swapped" (defScope st__law_swapped) s.heap.objs.size f cdv))) (Ac : Act) (oG : Ac.g.G = Gof K) (oK : Ac.g.K = K) :
    PSs (cxOf (L2.CX P w) P w K mg base ["triple"] "_law_swapped" (defScope st__law_swapped) f cdv A outer s H E) (defBody st__law_swapped) (tS Ac (fun cls d _ H => E cls d H) m__law_swapped) := by
  obtain ⟨⟨aK, aG, aE⟩, aB, aI⟩ := Ac
  have oK : K = aK := oK.symm
  have oG : aG = Gof K := oG
  subst oK
  subst oG
  have o : On (cxOf (L2.CX P w) P w K mg base ["triple"] "_law_swapped" (defScope st__law_swapped) f cdv A outer s H E) ⟨K, Gof K, aE⟩ := On.of (A := ⟨⟨K, Gof K, aE⟩, aB, aI⟩) rfl hr
  have nd := (sc__law_swapped).nd
  have tk : Takes (cxOf (L2.CX P w) P w K mg base ["triple"] "_law_swapped" (defScope st__law_swapped) f cdv A outer s H E) (fun cls d _ H => E cls d H) := takes_of rfl rfl rfl rfl
  exact PSs_one (PS_ret (PE_tup (PA_cons (PE_ix2 o.k (PE_n (pv 0)) (PE_int)) (PA_cons (PE_ix2 o.k (PE_n (pv 0)) (PE_int)) (PA_cons (PE_dix o (PE_dsp (pps_cons pe_str (pe_str) (pps_cons pe_str (pe_str) (pps_cons pe_str (pe_str) (pps_nil))))) (PE_ix2 o.k (PE_n (pv 0)) (PE_int))) (PA_nil))))))
theorem f__law_swapped {w : World} {K : PySem.W.Frag} {mg : Str → Option Value} {base : Heap} {f : Addr} {fd : FuncData} (T : Fs w K mg) (F : FunD K "_law_swapped" "_law_swapped" (defArgs st__law_swapped) (defBody st__law_swapped) (defScope st__law_swapped) [] [] f fd) : FnOk P w K mg base (L2.CX P w) 1 f fd ["triple"] (spF (Gof K) K [false] 0 m__law_swapped) :=
  fnD_ok F sc__law_swapped rfl rfl (fun cdv A outer s H E hr Ac oG oK => d__law_swapped T cdv A outer s H E hr Ac oG oK)
theorem sc__law_jump_asked : FnScope ["jump", "triple", "told", "image", "due"] ["jump", "triple"] (defScope st__law_jump_asked) := ⟨rfl, rfl, rfl, by decide +kernel, rfl, by decide +kernel, by decide +kernel⟩
theorem d__law_jump_asked {w : World} {K : PySem.W.Frag} {mg : Str → Option Value} {base : Heap} {f : Addr} (T : Fs w K mg) (cm_Jump_windows : CalM P w K mg base (Gof K) 2 "windows" 4 ["self"] [false] 1 m_Jump_windows) (c__law_shown : Cal P w K mg base (Gof K) "_law_shown" 4 ["jump", "triple"] [false, false] 0 m__law_shown) (c__law_listed : Cal P w K mg base (Gof K) "_law_listed" 3 ["told", "triple"] [false, false] 2 m__law_listed) (cm_Jump_mirrored : CalM P w K mg base (Gof K) 2 "mirrored" 5 ["self"] [false] 0 m_Jump_mirrored) (c__law_swapped : Cal P w K mg base (Gof K) "_law_swapped" 1 ["triple"] [false] 0 m__law_swapped) (cm_Jump_eq : CalM P w K mg base (Gof K) 2 "__eq__" 1 ["self", "other"] [false, false] 0 m_Jump_eq) (cdv : Value) (A : Around) (outer : List Env) (s : Shared) (H : Hp) (E : XK) (hr : Room 5 (A.deeper (envOfC "_law_jump_asked" (defScope st__law_jump_asked) s.heap.objs.size f cdv))) (Ac : Act) (oG : Ac.g.G = Gof K) (oK : Ac.g.K = K) :
    PSs (cxOf (L2.CX P w) P w K mg base ["jump", "triple", "told", "image", "due"] "_law_jump_asked" (defScope st__law_jump_asked) f cdv A outer s H E) (defBody st__law_jump_asked) (tS Ac (fun cls d _ H => E cls d H) m__law_jump_asked) := by
  obtain ⟨⟨aK, aG, aE⟩, aB, aI⟩ := Ac
  have oK : K = aK := oK.symm
  have oG : aG = Gof K := oG
  subst oK
  subst oG
  have o : On (cxOf (L2.CX P w) P w K mg base ["jump", "triple", "told", "image", "due"] "_law_jump_asked" (defScope st__law_jump_asked) f cdv A outer s H E) ⟨K, Gof K, aE⟩ := On.of (A := ⟨⟨K, Gof K, aE⟩, aB, aI⟩) rfl hr
  have nd := (sc__law_jump_asked).nd
  have tk : Takes (cxOf (L2.CX P w) P w K mg base ["jump", "triple", "told", "image", "due"] "_law_jump_asked" (defScope st__law_jump_asked) f cdv A outer s H E) (fun cls d _ H => E cls d H) := takes_of rfl rfl rfl rfl
  exact PSs_cons (PS_set (i := 2) nd rfl (Or.inl rfl) (PE_methC0 cm_Jump_windows o rfl hr tk rfl (by decide) (PE_n (pv 0)))) (PSs_cons (PS_if (PW.pt (PW_or (PT_not (PT_tru o.k (PE_cal c__law_shown o rfl hr tk rfl (by decide) rfl (PA_cons (PE_n (pv 0)) (PA_cons (PE_n (pv 1)) (PA_nil)))))) (PW_one (PT_not (PT_tru o.k (PE_cal c__law_listed o rfl hr tk rfl (by decide) rfl (PA_cons (PE_n (pv 2)) (PA_cons (PE_n (pv 1)) (PA_nil))))))))) (PSs_one (PS_ret (PE_bl))) (PSs_nil)) (PSs_cons (PS_expr (PE_append o (PE_n (pv 2)) (PA_cons (PE_tup (PA_cons (PE_str rfl) (PA_cons (PE_str rfl) (PA_nil)))) (PA_nil)))) (PSs_cons (PS_setI ms_setL set_list (PE_tup (PA_cons (PE_str rfl) (PA_cons (PE_str rfl) (PA_nil)))) (PE_n (pv 2)) (PE_int)) (PSs_cons (PS_set (i := 3) nd rfl (Or.inl rfl) (PE_methC0 cm_Jump_mirrored o rfl hr tk rfl (by decide) (PE_n (pv 0)))) (PSs_cons (PS_set (i := 4) nd rfl (Or.inl rfl) (PE_cal c__law_swapped o rfl hr tk rfl (by decide) rfl (PA_cons (PE_n (pv 1)) (PA_nil)))) (PSs_cons (PS_if (PW.pt (PW_or (PT_not (PT_tru o.k (PE_cal c__law_shown o rfl hr tk rfl (by decide) rfl (PA_cons (PE_n (pv 3)) (PA_cons (PE_n (pv 4)) (PA_nil)))))) (PW_one (PT_not (PT_tru o.k (PE_cal c__law_listed o rfl hr tk rfl (by decide) rfl (PA_cons (PE_methC0 cm_Jump_windows o rfl hr tk rfl (by decide) (PE_n (pv 3))) (PA_cons (PE_n (pv 4)) (PA_nil))))))))) (PSs_one (PS_ret (PE_bl))) (PSs_nil)) (PSs_cons (PS_if (PW.pt (PW_or (PT_not (PT_tru o.k (PE_cal c__law_shown o rfl hr tk rfl (by decide) rfl (PA_cons (PE_methC0 cm_Jump_mirrored o rfl hr tk rfl (by decide) (PE_n (pv 3))) (PA_cons (PE_n (pv 1)) (PA_nil)))))) (PW_one (PT_ne o (PE_eqC cm_Jump_eq o rfl hr rfl (by decide) (PE_n (pv 3)) (PE_n (pv 0))) (PE_eq o (PE_ix2 o.k (PE_n (pv 1)) (PE_int)) (PE_str rfl)))))) (PSs_one (PS_ret (PE_bl))) (PSs_nil)) (PSs_one (PS_ret (PE_and (PE_cal c__law_shown o rfl hr tk rfl (by decide) rfl (PA_cons (PE_n (pv 0)) (PA_cons (PE_n (pv 1)) (PA_nil)))) (PE_one (PE_cal c__law_listed o rfl hr tk rfl (by decide) rfl (PA_cons (PE_methC0 cm_Jump_windows o rfl hr tk rfl (by decide) (PE_n (pv 0))) (PA_cons (PE_n (pv 1)) (PA_nil)))))))))))))))
theorem f__law_jump_asked {w : World} {K : PySem.W.Frag} {mg : Str → Option Value} {base : Heap} {f : Addr} {fd : FuncData} (T : Fs w K mg) (cm_Jump_windows : CalM P w K mg base (Gof K) 2 "windows" 4 ["self"] [false] 1 m_Jump_windows) (c__law_shown : Cal P w K mg base (Gof K) "_law_shown" 4 ["jump", "triple"] [false, false] 0 m__law_shown) (c__law_listed : Cal P w K mg base (Gof K) "_law_listed" 3 ["told", "triple"] [false, false] 2 m__law_listed) (cm_Jump_mirrored : CalM P w K mg base (Gof K) 2 "mirrored" 5 ["self"] [false] 0 m_Jump_mirrored) (c__law_swapped : Cal P w K mg base (Gof K) "_law_swapped" 1 ["triple"] [false] 0 m__law_swapped) (cm_Jump_eq : CalM P w K mg base (Gof K) 2 "__eq__" 1 ["self", "other"] [false, false] 0 m_Jump_eq) (F : FunD K "_law_jump_asked" "_law_jump_asked" (defArgs st__law_jump_asked) (defBody st__law_jump_asked) (defScope st__law_jump_asked) [] [] f fd) : FnOk P w K mg base (L2.CX P w) 6 f fd ["jump", "triple"] (spF (Gof K) K [false, false] 3 m__law_jump_asked) :=
  fnD_ok F sc__law_jump_asked rfl rfl (fun cdv A outer s H E hr Ac oG oK => d__law_jump_asked T cm_Jump_windows c__law_shown c__law_listed cm_Jump_mirrored c__law_swapped cm_Jump_eq cdv A outer s H E hr Ac oG oK)
theorem sc__law_made : FnScope ["triple", "form"] ["triple", "form"] (defScope st__law_made) := ⟨rfl, rfl, rfl, by decide +kernel, rfl, by decide +kernel, by decide +kernel⟩
theorem d__law_made {w : World} {K : PySem.W.Frag} {mg : Str → Option Value} {base : Heap} {f : Addr} (T : Fs w K mg) (ci_Jump_init : CalI P w K mg base (Gof K) "Jump" 2 3 ["self", "before", "after", "ways"] [[.str [114, 105, 103, 104, 116]], []] [false, false, false] 0 m_Jump_init) (cik_Jump_init_0 : CalIK P w K mg base (Gof K) "Jump" 2 3 ["self", "before", "after", "ways"] [false, false, false] 0 m_Jump_init 2 ["ways"] [none]) (cdv : Value) (A : Around) (outer : List Env) (s : Shared) (H : Hp) (E : XK) (hr : Room 4 (A.deeper (envOfC "_law_made" (defScope st__law_made) s.heap.objs.size f cdv))) (Ac : Act) (oG : Ac.g.G = Gof K) (oK : Ac.g.K = K) :
    PSs (cxOf (L2.CX P w) P w K mg base ["triple", "form"] "_law_made" (defScope st__law_made) f cdv A outer s H E) (defBody st__law_made) (tS Ac (fun cls d _ H => E cls d H) m__law_made) := by
  obtain ⟨⟨aK, aG, aE⟩, aB, aI⟩ := Ac
  have oK : K = aK := oK.symm
  have oG : aG = Gof K := oG
  subst oK
  subst oG
  have o : On (cxOf (L2.CX P w) P w K mg base ["triple", "form"] "_law_made" (defScope st__law_made) f cdv A outer s H E) ⟨K, Gof K, aE⟩ := On.of (A := ⟨⟨K, Gof K, aE⟩, aB, aI⟩) rfl hr
  have nd := (sc__law_made).nd
  have tk : Takes (cxOf (L2.CX P w) P w K mg base ["triple", "form"] "_law_made" (defScope st__law_made) f cdv A outer s H E) (fun cls d _ H => E cls d H) := takes_of rfl rfl rfl rfl
  exact PSs_cons (PS_if (PW.pt (PW_and (PT_eq o (PE_n (pv 1)) (PE_int)) (PW_one (PT_eq o (PE_ix2 o.k (PE_n (pv 0)) (PE_int)) (PE_str rfl))))) (PSs_one (PS_ret (PE_ft (PE_makeC ci_Jump_init o rfl hr tk rfl (by decide) (by simp) rfl (PA_cons (PE_ix2 o.k (PE_n (pv 0)) (PE_int)) (PA_cons (PE_ix2 o.k (PE_n (pv 0)) (PE_int)) (PA_nil))))))) (PSs_nil)) (PSs_cons (PS_if (PT_eq o (PE_n (pv 1)) (PE_int)) (PSs_one (PS_ret (PE_ft (PE_makeK cik_Jump_init_0 o rfl hr tk rfl (by decide) rfl (pa_cons (PE_ix2 o.k (PE_n (pv 0)) (PE_int)) (pa_cons (PE_ix2 o.k (PE_n (pv 0)) (PE_int)) (pa_nil))) (pk_cons (PE_ix2 o.k (PE_n (pv 0)) (PE_int)) (pk_nil)) rfl rfl rfl)))) (PSs_nil)) (PSs_one (PS_ret (PE_ft (PE_makeC ci_Jump_init o rfl hr tk rfl (by decide) (by simp) rfl (PA_cons (PE_ix2 o.k (PE_n (pv 0)) (PE_int)) (PA_cons (PE_ix2 o.k (PE_n (pv 0)) (PE_int)) (PA_cons (PE_ix2 o.k (PE_n (pv 0)) (PE_int)) (PA_nil)))))))))
theorem f__law_made {w : World} {K : PySem.W.Frag} {mg : Str → Option Value} {base : Heap} {f : Addr} {fd : FuncData} (T : Fs w K mg) (ci_Jump_init : CalI P w K mg base (Gof K) "Jump" 2 3 ["self", "before", "after", "ways"] [[.str [114, 105, 103, 104, 116]], []] [false, false, false] 0 m_Jump_init) (cik_Jump_init_0 : CalIK P w K mg base (Gof K) "Jump" 2 3 ["self", "before", "after", "ways"] [false, false, false] 0 m_Jump_init 2 ["ways"] [none]) (F : FunD K "_law_made" "_law_made" (defArgs st__law_made) (defBody st__law_made) (defScope st__law_made) [] [] f fd) : FnOk P w K mg base (L2.CX P w) 5 f fd ["triple", "form"] (spF (Gof K) K [false, false] 0 m__law_made) :=
  fnD_ok F sc__law_made rfl rfl (fun cdv A outer s H E hr Ac oG oK => d__law_made T ci_Jump_init cik_Jump_init_0 cdv A outer s H E hr Ac oG oK)
theorem sc__law_class_asked : FnScope ["triple", "form", "good", "jump", "raised"] ["triple", "form"] (defScope st__law_class_asked) := ⟨rfl, rfl, rfl, by decide +kernel, rfl, by decide +kernel, by decide +kernel⟩
theorem d__law_class_asked {w : World} {K : PySem.W.Frag} {mg : Str → Option Value} {base : Heap} {f : Addr} (T : Fs w K mg) (c__law_is_jump : Cal P w K mg base (Gof K) "_law_is_jump" 1 ["before", "after", "way"] [false, false, false] 2 m__law_is_jump) (c__law_made : Cal P w K mg base (Gof K) "_law_made" 5 ["triple", "form"] [false, false] 0 m__law_made) (cw__law_text : CalW P w K mg base (Gof K) "_law_text" 1 ["told", "due"] [false, false] 0 m__law_text) (c__law_jump_asked : Cal P w K mg base (Gof K) "_law_jump_asked" 6 ["jump", "triple"] [false, false] 3 m__law_jump_asked) (cdv : Value) (A : Around) (outer : List Env) (s : Shared) (H : Hp) (E : XK) (hr : Room 6 (A.deeper (envOfC "_law_class_asked" (defScope st__law_class_asked) s.heap.objs.size f cdv))) (Ac : Act) (oG : Ac.g.G = Gof K) (oK : Ac.g.K = K) :
    PSs (cxOf (L2.CX P w) P w K mg base ["triple", "form", "good", "jump", "raised"] "_law_class_asked" (defScope st__law_class_asked) f cdv A outer s H E) (defBody st__law_class_asked) (tS Ac (fun cls d _ H => E cls d H) m__law_class_asked) := by
  obtain ⟨⟨aK, aG, aE⟩, aB, aI⟩ := Ac
  have oK : K = aK := oK.symm
  have oG : aG = Gof K := oG
  subst oK
  subst oG
  have o : On (cxOf (L2.CX P w) P w K mg base ["triple", "form", "good", "jump", "raised"] "_law_class_asked" (defScope st__law_class_asked) f cdv A outer s H E) ⟨K, Gof K, aE⟩ := On.of (A := ⟨⟨K, Gof K, aE⟩, aB, aI⟩) rfl hr
  have nd := (sc__law_class_asked).nd
  have tk : Takes (cxOf (L2.CX P w) P w K mg base ["triple", "form", "good", "jump", "raised"] "_law_class_asked" (defScope st__law_class_asked) f cdv A outer s H E) (fun cls d _ H => E cls d H) := takes_of rfl rfl rfl rfl
  exact PSs_cons (PS_set (i := 2) nd rfl (Or.inl rfl) (PE_cal c__law_is_jump o rfl hr tk rfl (by decide) rfl (PA_cons (PE_ix2 o.k (PE_n (pv 0)) (PE_int)) (PA_cons (PE_ix2 o.k (PE_n (pv 0)) (PE_int)) (PA_cons (PE_ix2 o.k (PE_n (pv 0)) (PE_int)) (PA_nil)))))) (PSs_cons (PS_try (i := 4) rfl rfl nd rfl rfl ⟨rfl, by decide, .inl T.c_LeapError⟩ tk T.mt_LeapError (fun W pnl xe tk1 pn => PSs_one (PS_set (i := 3) nd rfl (Or.inl rfl) (PE_cal c__law_made (On.mk o.k o.u) rfl hr tk1 rfl (by decide) rfl (PA_cons (PE_n (pv 0)) (PA_cons (PE_n (pv 1)) (PA_nil)))))) (fun a oe k dd pnl hz hf => PSs_cons (PS_if (PW.pt (PW_or (PT_tru (On.mk o.k o.u).k (PE_n (pv 2))) (PW_one (PT_not (PT_tru (On.mk o.k o.u).k (PE_xi (cx := .ref (He.ga K "InvalidJump")) rfl hz hf (T.xi_InvalidJump k) (fun u r => r) (PE_n (pv 4)) (pe_glob rfl T.c_InvalidJump rfl) rfl T.b_isinstance)))))) (PSs_one (PS_ret (PE_bl))) (PSs_nil)) (PSs_one (PS_ret (PE_calW cw__law_text (On.mk o.k o.u) rfl (roomS hr) takes0 rfl (by decide) rfl (PA_cons (PE_xf rfl hz hf (T.xf_text k) (PE_n (pv 4))) (PA_cons (PE_ix2 (On.mk o.k o.u).k (PE_n (pv 0)) (PE_int)) (PA_nil)))))))) (PSs_one (PS_ret (PE_and (PE_n (pv 2)) (PE_one (PE_cal c__law_jump_asked o rfl hr tk rfl (by decide) rfl (PA_cons (PE_n (pv 3)) (PA_cons (PE_n (pv 0)) (PA_nil)))))))))
theorem f__law_class_asked {w : World} {K : PySem.W.Frag} {mg : Str → Option Value} {base : Heap} {f : Addr} {fd : FuncData} (T : Fs w K mg) (c__law_is_jump : Cal P w K mg base (Gof K) "_law_is_jump" 1 ["before", "after", "way"] [false, false, false] 2 m__law_is_jump) (c__law_made : Cal P w K mg base (Gof K) "_law_made" 5 ["triple", "form"] [false, false] 0 m__law_made) (cw__law_text : CalW P w K mg base (Gof K) "_law_text" 1 ["told", "due"] [false, false] 0 m__law_text) (c__law_jump_asked : Cal P w K mg base (Gof K) "_law_jump_asked" 6 ["jump", "triple"] [false, false] 3 m__law_jump_asked) (F : FunD K "_law_class_asked" "_law_class_asked" (defArgs st__law_class_asked) (defBody st__law_class_asked) (defScope st__law_class_asked) [] [] f fd) : FnOk P w K mg base (L2.CX P w) 7 f fd ["triple", "form"] (spF (Gof K) K [false, false] 3 m__law_class_asked) :=
  fnD_ok F sc__law_class_asked rfl rfl (fun cdv A outer s H E hr Ac oG oK => d__law_class_asked T c__law_is_jump c__law_made cw__law_text c__law_jump_asked cdv A outer s H E hr Ac oG oK)
theorem sc__law_good : FnScope ["box", "size", "before", "after", "at"] ["box"] (defScope st__law_good) := ⟨rfl, rfl, rfl, by decide +kernel, rfl, by decide +kernel, by decide +kernel⟩
theorem d__law_good {w : World} {K : PySem.W.Frag} {mg : Str → Option Value} {base : Heap} {f : Addr} (T : Fs w K mg) (c__law_take : Cal P w K mg base (Gof K) "_law_take" 1 ["box", "many"] [true, false] 2 m__law_take) (cdv : Value) (A : Around) (outer : List Env) (s : Shared) (H : Hp) (E : XK) (hr : Room 1 (A.deeper (envOfC "_law_good" (defScope st__law_good) s.heap.objs.size f cdv))) (Ac : Act) (oG : Ac.g.G = Gof K) (oK : Ac.g.K = K) :
    PSs (cxOf (L2.CX P w) P w K mg base ["box", "size", "before", "after", "at"] "_law_good" (defScope st__law_good) f cdv A outer s H E) (defBody st__law_good) (tS Ac (fun cls d _ H => E cls d H) m__law_good) := by
  obtain ⟨⟨aK, aG, aE⟩, aB, aI⟩ := Ac
  have oK : K = aK := oK.symm
  have oG : aG = Gof K := oG
  subst oK
  subst oG
  have o : On (cxOf (L2.CX P w) P w K mg base ["box", "size", "before", "after", "at"] "_law_good" (defScope st__law_good) f cdv A outer s H E) ⟨K, Gof K, aE⟩ := On.of (A := ⟨⟨K, Gof K, aE⟩, aB, aI⟩) rfl hr
  have nd := (sc__law_good).nd
  have tk : Takes (cxOf (L2.CX P w) P w K mg base ["box", "size", "before", "after", "at"] "_law_good" (defScope st__law_good) f cdv A outer s H E) (fun cls d _ H => E cls d H) := takes_of rfl rfl rfl rfl
  exact PSs_cons (PS_set (i := 1) nd rfl (Or.inl rfl) (PE_add (PE_int) (PE_cal c__law_take o rfl hr tk rfl (by decide) rfl (PA_cons (PE_n (pv 0)) (PA_cons (PE_int) (PA_nil)))))) (PSs_cons (PS_set (i := 2) nd rfl (Or.inl rfl) (PE_add (PE_join o (PE_str rfl) (PA_cons (PE_cmp_ (own := [("at", 4)]) rfl nd rfl (PI_r1 rfl T.b_range (PA_cons (PE_n (pv 1)) (PA_nil))) (blkOk_by (N := ["box", "size", "before", "after", "at"]) (sc := defScope st__law_good) (by decide +kernel)) (fun _ _ _ _ _ _ => PG_n (pg_name (i := 4) nd rfl (by first | exact Or.inl rfl | exact Or.inr rfl))) (fun _ _ _ _ _ => PTs_nil) (fun _ _ _ _ _ _ => PE_ix2 (On.mk o.k o.u).k (PE_str rfl) (PE_cal c__law_take (On.mk o.k o.u) rfl hr takes0 rfl (by decide) rfl (PA_cons (PE_n (pv 0)) (PA_cons (PE_int) (PA_nil)))))) (PA_nil))) (PE_str rfl))) (PSs_cons (PS_set (i := 3) nd rfl (Or.inl rfl) (PE_add (PE_str rfl) (PE_join o (PE_str rfl) (PA_cons (PE_cmp_ (own := [("at", 4)]) rfl nd rfl (PI_r1 rfl T.b_range (PA_cons (PE_n (pv 1)) (PA_nil))) (blkOk_by (N := ["box", "size", "before", "after", "at"]) (sc := defScope st__law_good) (by decide +kernel)) (fun _ _ _ _ _ _ => PG_n (pg_name (i := 4) nd rfl (by first | exact Or.inl rfl | exact Or.inr rfl))) (fun _ _ _ _ _ => PTs_nil) (fun _ _ _ _ _ _ => PE_ix2 (On.mk o.k o.u).k (PE_str rfl) (PE_cal c__law_take (On.mk o.k o.u) rfl hr takes0 rfl (by decide) rfl (PA_cons (PE_n (pv 0)) (PA_cons (PE_int) (PA_nil)))))) (PA_nil))))) (PSs_one (PS_ret (PE_tup (PA_cons (PE_n (pv 2)) (PA_cons (PE_n (pv 3)) (PA_cons (PE_ix2 o.k (PE_lst (PA_cons (PE_str rfl) (PA_cons (PE_str rfl) (PA_cons (PE_str rfl) (PA_nil))))) (PE_cal c__law_take o rfl hr tk rfl (by decide) rfl (PA_cons (PE_n (pv 0)) (PA_cons (PE_int) (PA_nil))))) (PA_nil)))))))))
theorem f__law_good {w : World} {K : PySem.W.Frag} {mg : Str → Option Value} {base : Heap} {f : Addr} {fd : FuncData} (T : Fs w K mg) (c__law_take : Cal P w K mg base (Gof K) "_law_take" 1 ["box", "many"] [true, false] 2 m__law_take) (F : FunD K "_law_good" "_law_good" (defArgs st__law_good) (defBody st__law_good) (defScope st__law_good) [] [] f fd) : FnOk P w K mg base (L2.CX P w) 2 f fd ["box"] (spF (Gof K) K [true] 4 m__law_good) :=
  fnD_ok F sc__law_good rfl rfl (fun cdv A outer s H E hr Ac oG oK => d__law_good T c__law_take cdv A outer s H E hr Ac oG oK)
theorem sc__law_loose : FnScope ["box", "most", "menu", "at"] ["box", "most"] (defScope st__law_loose) := ⟨rfl, rfl, rfl, by decide +kernel, rfl, by decide +kernel, by decide +kernel⟩
theorem d__law_loose {w : World} {K : PySem.W.Frag} {mg : Str → Option Value} {base : Heap} {f : Addr} (T : Fs w K mg) (c__law_take : Cal P w K mg base (Gof K) "_law_take" 1 ["box", "many"] [true, false] 2 m__law_take) (cdv : Value) (A : Around) (outer : List Env) (s : Shared) (H : Hp) (E : XK) (hr : Room 1 (A.deeper (envOfC "_law_loose" (defScope st__law_loose) s.heap.objs.size f cdv))) (Ac : Act) (oG : Ac.g.G = Gof K) (oK : Ac.g.K = K) :
    PSs (cxOf (L2.CX P w) P w K mg base ["box", "most", "menu", "at"] "_law_loose" (defScope st__law_loose) f cdv A outer s H E) (defBody st__law_loose) (tS Ac (fun cls d _ H => E cls d H) m__law_loose) := by
  obtain ⟨⟨aK, aG, aE⟩, aB, aI⟩ := Ac
  have oK : K = aK := oK.symm
  have oG : aG = Gof K := oG
  subst oK
  subst oG
  have o : On (cxOf (L2.CX P w) P w K mg base ["box", "most", "menu", "at"] "_law_loose" (defScope st__law_loose) f cdv A outer s H E) ⟨K, Gof K, aE⟩ := On.of (A := ⟨⟨K, Gof K, aE⟩, aB, aI⟩) rfl hr
  have nd := (sc__law_loose).nd
  have tk : Takes (cxOf (L2.CX P w) P w K mg base ["box", "most", "menu", "at"] "_law_loose" (defScope st__law_loose) f cdv A outer s H E) (fun cls d _ H => E cls d H) := takes_of rfl rfl rfl rfl
  exact PSs_cons (PS_set (i := 2) nd rfl (Or.inr rfl) (PE_str rfl)) (PSs_one (PS_ret (PE_join o (PE_str rfl) (PA_cons (PE_cmp_ (own := [("at", 3)]) rfl nd rfl (PI_r1 rfl T.b_range (PA_cons (PE_cal c__law_take o rfl hr tk rfl (by decide) rfl (PA_cons (PE_n (pv 0)) (PA_cons (PE_add (PE_n (pv 1)) (PE_int)) (PA_nil)))) (PA_nil))) (blkOk_by (N := ["box", "most", "menu", "at"]) (sc := defScope st__law_loose) (by decide +kernel)) (fun _ _ _ _ _ _ => PG_n (pg_name (i := 3) nd rfl (by first | exact Or.inl rfl | exact Or.inr rfl))) (fun _ _ _ _ _ => PTs_nil) (fun _ _ _ _ _ _ => PE_ix2 (On.mk o.k o.u).k (PE_n (pv 2)) (PE_cal c__law_take (On.mk o.k o.u) rfl hr takes0 rfl (by decide) rfl (PA_cons (PE_n (pv 0)) (PA_cons (PE_len (On.mk o.k o.u) rfl T.b_len (PA_cons (PE_n (pv 2)) (PA_nil))) (PA_nil)))))) (PA_nil)))))
theorem f__law_loose {w : World} {K : PySem.W.Frag} {mg : Str → Option Value} {base : Heap} {f : Addr} {fd : FuncData} (T : Fs w K mg) (c__law_take : Cal P w K mg base (Gof K) "_law_take" 1 ["box", "many"] [true, false] 2 m__law_take) (F : FunD K "_law_loose" "_law_loose" (defArgs st__law_loose) (defBody st__law_loose) (defScope st__law_loose) [] [] f fd) : FnOk P w K mg base (L2.CX P w) 2 f fd ["box", "most"] (spF (Gof K) K [true, false] 2 m__law_loose) :=
  fnD_ok F sc__law_loose rfl rfl (fun cdv A outer s H E hr Ac oG oK => d__law_loose T c__law_take cdv A outer s H E hr Ac oG oK)
theorem sc__law_odd_way : FnScope ["box", "odd"] ["box"] (defScope st__law_odd_way) := ⟨rfl, rfl, rfl, by decide +kernel, rfl, by decide +kernel, by decide +kernel⟩
theorem d__law_odd_way {w : World} {K : PySem.W.Frag} {mg : Str → Option Value} {base : Heap} {f : Addr} (T : Fs w K mg) (c__law_take : Cal P w K mg base (Gof K) "_law_take" 1 ["box", "many"] [true, false] 2 m__law_take) (c__law_bend : Cal P w K mg base (Gof K) "_law_bend" 2 ["box", "text"] [true, false] 4 m__law_bend) (cdv : Value) (A : Around) (outer : List Env) (s : Shared) (H : Hp) (E : XK) (hr : Room 2 (A.deeper (envOfC "_law_odd_way" (defScope st__law_odd_way) s.heap.objs.size f cdv))) (Ac : Act) (oG : Ac.g.G = Gof K) (oK : Ac.g.K = K) :
    PSs (cxOf (L2.CX P w) P w K mg base ["box", "odd"] "_law_odd_way" (defScope st__law_odd_way) f cdv A outer s H E) (defBody st__law_odd_way) (tS Ac (fun cls d _ H => E cls d H) m__law_odd_way) := by
  obtain ⟨⟨aK, aG, aE⟩, aB, aI⟩ := Ac
  have oK : K = aK := oK.symm
  have oG : aG = Gof K := oG
  subst oK
  subst oG
  have o : On (cxOf (L2.CX P w) P w K mg base ["box", "odd"] "_law_odd_way" (defScope st__law_odd_way) f cdv A outer s H E) ⟨K, Gof K, aE⟩ := On.of (A := ⟨⟨K, Gof K, aE⟩, aB, aI⟩) rfl hr
  have nd := (sc__law_odd_way).nd
  have tk : Takes (cxOf (L2.CX P w) P w K mg base ["box", "odd"] "_law_odd_way" (defScope st__law_odd_way) f cdv A outer s H E) (fun cls d _ H => E cls d H) := takes_of rfl rfl rfl rfl
  exact PSs_cons (PS_set (i := 1) nd rfl (Or.inl rfl) (PE_lst (PA_cons (PE_str rfl) (PA_cons (PE_str rfl) (PA_cons (PE_str rfl) (PA_cons (PE_str rfl) (PA_cons (PE_str rfl) (PA_cons (PE_str rfl) (PA_cons (PE_str rfl) (PA_cons (PE_str rfl) (PA_cons (PE_str rfl) (PA_cons (PE_str rfl) (PA_nil))))))))))))) (PSs_cons (PS_if (PT_eq o (PE_cal c__law_take o rfl hr tk rfl (by decide) rfl (PA_cons (PE_n (pv 0)) (PA_cons (PE_int) (PA_nil)))) (PE_int)) (PSs_one (PS_ret (PE_ix2 o.k (PE_n (pv 1)) (PE_cal c__law_take o rfl hr tk rfl (by decide) rfl (PA_cons (PE_n (pv 0)) (PA_cons (PE_int) (PA_nil))))))) (PSs_nil)) (PSs_one (PS_ret (PE_cal c__law_bend o rfl hr tk rfl (by decide) rfl (PA_cons (PE_n (pv 0)) (PA_cons (PE_ix2 o.k (PE_lst (PA_cons (PE_str rfl) (PA_cons (PE_str rfl) (PA_cons (PE_str rfl) (PA_nil))))) (PE_cal c__law_take o rfl hr tk rfl (by decide) rfl (PA_cons (PE_n (pv 0)) (PA_cons (PE_int) (PA_nil))))) (PA_nil)))))))
theorem f__law_odd_way {w : World} {K : PySem.W.Frag} {mg : Str → Option Value} {base : Heap} {f : Addr} {fd : FuncData} (T : Fs w K mg) (c__law_take : Cal P w K mg base (Gof K) "_law_take" 1 ["box", "many"] [true, false] 2 m__law_take) (c__law_bend : Cal P w K mg base (Gof K) "_law_bend" 2 ["box", "text"] [true, false] 4 m__law_bend) (F : FunD K "_law_odd_way" "_law_odd_way" (defArgs st__law_odd_way) (defBody st__law_odd_way) (defScope st__law_odd_way) [] [] f fd) : FnOk P w K mg base (L2.CX P w) 3 f fd ["box"] (spF (Gof K) K [true] 1 m__law_odd_way) :=
  fnD_ok F sc__law_odd_way rfl rfl (fun cdv A outer s H E hr Ac oG oK => d__law_odd_way T c__law_take c__law_bend cdv A outer s H E hr Ac oG oK)
theorem sc__law_drawn : FnScope ["box", "before", "after", "way", "shape"] ["box"] (defScope st__law_drawn) := ⟨rfl, rfl, rfl, by decide +kernel, rfl, by decide +kernel, by decide +kernel⟩
theorem d__law_drawn {w : World} {K : PySem.W.Frag} {mg : Str → Option Value} {base : Heap} {f : Addr} (T : Fs w K mg) (c__law_good : Cal P w K mg base (Gof K) "_law_good" 2 ["box"] [true] 4 m__law_good) (c__law_take : Cal P w K mg base (Gof K) "_law_take" 1 ["box", "many"] [true, false] 2 m__law_take) (c__law_bend : Cal P w K mg base (Gof K) "_law_bend" 2 ["box", "text"] [true, false] 4 m__law_bend) (c__law_loose : Cal P w K mg base (Gof K) "_law_loose" 2 ["box", "most"] [true, false] 2 m__law_loose) (c__law_odd_way : Cal P w K mg base (Gof K) "_law_odd_way" 3 ["box"] [true] 1 m__law_odd_way) (cdv : Value) (A : Around) (outer : List Env) (s : Shared) (H : Hp) (E : XK) (hr : Room 3 (A.deeper (envOfC "_law_drawn" (defScope st__law_drawn) s.heap.objs.size f cdv))) (Ac : Act) (oG : Ac.g.G = Gof K) (oK : Ac.g.K = K) :
    PSs (cxOf (L2.CX P w) P w K mg base ["box", "before", "after", "way", "shape"] "_law_drawn" (defScope st__law_drawn) f cdv A outer s H E) (defBody st__law_drawn) (tS Ac (fun cls d _ H => E cls d H) m__law_drawn) := by
  obtain ⟨⟨aK, aG, aE⟩, aB, aI⟩ := Ac
  have oK : K = aK := oK.symm
  have oG : aG = Gof K := oG
  subst oK
  subst oG
  have o : On (cxOf (L2.CX P w) P w K mg base ["box", "before", "after", "way", "shape"] "_law_drawn" (defScope st__law_drawn) f cdv A outer s H E) ⟨K, Gof K, aE⟩ := On.of (A := ⟨⟨K, Gof K, aE⟩, aB, aI⟩) rfl hr
  have nd := (sc__law_drawn).nd
  have tk : Takes (cxOf (L2.CX P w) P w K mg base ["box", "before", "after", "way", "shape"] "_law_drawn" (defScope st__law_drawn) f cdv A outer s H E) (fun cls d _ H => E cls d H) := takes_of rfl rfl rfl rfl
  exact PSs_cons (PS_asgT (PE_cal c__law_good o rfl hr tk rfl (by decide) rfl (PA_cons (PE_n (pv 0)) (PA_nil))) (PG_t rfl o.k (PGs_cons (PG_n (pg_name (i := 1) nd rfl (by first | exact Or.inl rfl | exact Or.inr rfl))) (PGs_cons (PG_n (pg_name (i := 2) nd rfl (by first | exact Or.inl rfl | exact Or.inr rfl))) (PGs_cons (PG_n (pg_name (i := 3) nd rfl (by first | exact Or.inl rfl | exact Or.inr rfl))) (PGs_nil)))) rfl)) (PSs_cons (PS_set (i := 4) nd rfl (Or.inl rfl) (PE_cal c__law_take o rfl hr tk rfl (by decide) rfl (PA_cons (PE_n (pv 0)) (PA_cons (PE_int) (PA_nil))))) (PSs_cons (PS_if (PW.pt (PW_or (PT_eq o (PE_n (pv 4)) (PE_int)) (PW_one (PT_eq o (PE_n (pv 4)) (PE_int))))) (PSs_one (PS_set (i := 1) nd rfl (Or.inl rfl) (PE_cal c__law_bend o rfl hr tk rfl (by decide) rfl (PA_cons (PE_n (pv 0)) (PA_cons (PE_n (pv 1)) (PA_nil)))))) (PSs_nil)) (PSs_cons (PS_if (PW.pt (PW_or (PT_eq o (PE_n (pv 4)) (PE_int)) (PW_one (PT_eq o (PE_n (pv 4)) (PE_int))))) (PSs_one (PS_set (i := 2) nd rfl (Or.inl rfl) (PE_cal c__law_bend o rfl hr tk rfl (by decide) rfl (PA_cons (PE_n (pv 0)) (PA_cons (PE_n (pv 2)) (PA_nil)))))) (PSs_nil)) (PSs_cons (PS_if (PT_eq o (PE_n (pv 4)) (PE_int)) (PSs_cons (PS_set (i := 1) nd rfl (Or.inl rfl) (PE_cal c__law_loose o rfl hr tk rfl (by decide) rfl (PA_cons (PE_n (pv 0)) (PA_cons (PE_int) (PA_nil))))) (PSs_one (PS_set (i := 2) nd rfl (Or.inl rfl) (PE_cal c__law_loose o rfl hr tk rfl (by decide) rfl (PA_cons (PE_n (pv 0)) (PA_cons (PE_int) (PA_nil))))))) (PSs_nil)) (PSs_cons (PS_if (PT_eq o (PE_cal c__law_take o rfl hr tk rfl (by decide) rfl (PA_cons (PE_n (pv 0)) (PA_cons (PE_int) (PA_nil)))) (PE_int)) (PSs_one (PS_set (i := 3) nd rfl (Or.inl rfl) (PE_cal c__law_odd_way o rfl hr tk rfl (by decide) rfl (PA_cons (PE_n (pv 0)) (PA_nil))))) (PSs_nil)) (PSs_one (PS_ret (PE_tup (PA_cons (PE_n (pv 1)) (PA_cons (PE_n (pv 2)) (PA_cons (PE_n (pv 3)) (PA_nil))))))))))))
theorem f__law_drawn {w : World} {K : PySem.W.Frag} {mg : Str → Option Value} {base : Heap} {f : Addr} {fd : FuncData} (T : Fs w K mg) (c__law_good : Cal P w K mg base (Gof K) "_law_good" 2 ["box"] [true] 4 m__law_good) (c__law_take : Cal P w K mg base (Gof K) "_law_take" 1 ["box", "many"] [true, false] 2 m__law_take) (c__law_bend : Cal P w K mg base (Gof K) "_law_bend" 2 ["box", "text"] [true, false] 4 m__law_bend) (c__law_loose : Cal P w K mg base (Gof K) "_law_loose" 2 ["box", "most"] [true, false] 2 m__law_loose) (c__law_odd_way : Cal P w K mg base (Gof K) "_law_odd_way" 3 ["box"] [true] 1 m__law_odd_way) (F : FunD K "_law_drawn" "_law_drawn" (defArgs st__law_drawn) (defBody st__law_drawn) (defScope st__law_drawn) [] [] f fd) : FnOk P w K mg base (L2.CX P w) 4 f fd ["box"] (spF (Gof K) K [true] 4 m__law_drawn) :=
  fnD_ok F sc__law_drawn rfl rfl (fun cdv A outer s H E hr Ac oG oK => d__law_drawn T c__law_good c__law_take c__law_bend c__law_loose c__law_odd_way cdv A outer s H E hr Ac oG oK)
theorem sc_Jump_read : FnScope ["text", "middle", "before", "sign", "after"] ["text"] (defScope st_Jump_read) := ⟨rfl, rfl, rfl, by decide +kernel, rfl, by decide +kernel, by decide +kernel⟩
theorem d_Jump_read {w : World} {K : PySem.W.Frag} {mg : Str → Option Value} {base : Heap} {f : Addr} (T : Fs w K mg) (c_is_jump : Cal P w K mg base (Gof K) "is_jump" 2 ["before", "after", "ways"] [false, false, false] 0 m_is_jump) (ci_Jump_init : CalI P w K mg base (Gof K) "Jump" 2 3 ["self", "before", "after", "ways"] [[.str [114, 105, 103, 104, 116]], []] [false, false, false] 0 m_Jump_init) (cdv : Value) (A : Around) (outer : List Env) (s : Shared) (H : Hp) (E : XK) (hr : Room 4 (A.deeper (envOfC "Jump.read" (defScope st_Jump_read) s.heap.objs.size f cdv))) (Ac : Act) (oG : Ac.g.G = Gof K) (oK : Ac.g.K = K) :
    PSs (cxOf (L2.CX P w) P w K mg base ["text", "middle", "before", "sign", "after"] "Jump.read" (defScope st_Jump_read) f cdv A outer s H E) (defBody st_Jump_read) (tS Ac (fun cls d _ H => E cls d H) m_Jump_read) := by
  obtain ⟨⟨aK, aG, aE⟩, aB, aI⟩ := Ac
  have oK : K = aK := oK.symm
  have oG : aG = Gof K := oG
  subst oK
  subst oG
  have o : On (cxOf (L2.CX P w) P w K mg base ["text", "middle", "before", "sign", "after"] "Jump.read" (defScope st_Jump_read) f cdv A outer s H E) ⟨K, Gof K, aE⟩ := On.of (A := ⟨⟨K, Gof K, aE⟩, aB, aI⟩) rfl hr
  have nd := (sc_Jump_read).nd
  have tk : Takes (cxOf (L2.CX P w) P w K mg base ["text", "middle", "before", "sign", "after"] "Jump.read" (defScope st_Jump_read) f cdv A outer s H E) (fun cls d _ H => E cls d H) := takes_of rfl rfl rfl rfl
  exact PSs_cons (PS_set (i := 1) nd rfl (Or.inl rfl) (PE_div (PE_len o rfl T.b_len (PA_cons (PE_n (pv 0)) (PA_nil))) (PE_int))) (PSs_cons (PS_par3 (i := 2) (j := 3) (l := 4) rfl nd rfl rfl rfl (by decide) (by decide) (by decide) rfl rfl rfl (PA_cons (PE_slR o.k (PE_n (pv 0)) (PE_n (pv 1))) (PA_cons (PE_slB o.k (PE_n (pv 0)) (PE_n (pv 1)) (PE_add (PE_n (pv 1)) (PE_int))) (PA_cons (PE_slL o.k (PE_n (pv 0)) (PE_add (PE_n (pv 1)) (PE_int))) (PA_nil)))) rfl) (PSs_cons (PS_if (PW.pt (PW_or (PT_tnin T.tb_SIGN_WAYS rfl (PE_n (pv 3))) (PW_one (PT_not (PT_tru o.k (PE_cal c_is_jump o rfl hr tk rfl (by decide) rfl (PA_cons (PE_n (pv 2)) (PA_cons (PE_n (pv 4)) (PA_cons (PE_tix T.tb_SIGN_WAYS rfl (PE_n (pv 3))) (PA_nil)))))))))) (PSs_one (PS_raise rfl T.x_InvalidJump rfl T.c_InvalidJump T.b_super hr tk ok_InvalidJump (PE_n (pv 0)) rfl)) (PSs_nil)) (PSs_one (PS_ret (PE_ft (PE_makeC ci_Jump_init o rfl hr tk rfl (by decide) (by simp) rfl (PA_cons (PE_n (pv 2)) (PA_cons (PE_n (pv 4)) (PA_cons (PE_tix T.tb_SIGN_WAYS rfl (PE_n (pv 3))) (PA_nil))))))))))
theorem f_Jump_read {w : World} {K : PySem.W.Frag} {mg : Str → Option Value} {base : Heap} {f : Addr} {fd : FuncData} (T : Fs w K mg) (c_is_jump : Cal P w K mg base (Gof K) "is_jump" 2 ["before", "after", "ways"] [false, false, false] 0 m_is_jump) (ci_Jump_init : CalI P w K mg base (Gof K) "Jump" 2 3 ["self", "before", "after", "ways"] [[.str [114, 105, 103, 104, 116]], []] [false, false, false] 0 m_Jump_init) (F : FunD K "read" "Jump.read" (defArgs st_Jump_read) (defBody st_Jump_read) (defScope st_Jump_read) [] [] f fd) : FnOk P w K mg base (L2.CX P w) 5 f fd ["text"] (spF (Gof K) K [false] 4 m_Jump_read) :=
  fnD_ok F sc_Jump_read rfl rfl (fun cdv A outer s H E hr Ac oG oK => d_Jump_read T c_is_jump ci_Jump_init cdv A outer s H E hr Ac oG oK)
theorem sc__law_read : FnScope ["text", "middle", "way"] ["text"] (defScope st__law_read) := ⟨rfl, rfl, rfl, by decide +kernel, rfl, by decide +kernel, by decide +kernel⟩
theorem d__law_read {w : World} {K : PySem.W.Frag} {mg : Str → Option Value} {base : Heap} {f : Addr} (T : Fs w K mg) (c__law_is_jump : Cal P w K mg base (Gof K) "_law_is_jump" 1 ["before", "after", "way"] [false, false, false] 2 m__law_is_jump) (cdv : Value) (A : Around) (outer : List Env) (s : Shared) (H : Hp) (E : XK) (hr : Room 1 (A.deeper (envOfC "_law_read" (defScope st__law_read) s.heap.objs.size f cdv))) (Ac : Act) (oG : Ac.g.G = Gof K) (oK : Ac.g.K = K) :
    PSs (cxOf (L2.CX P w) P w K mg base ["text", "middle", "way"] "_law_read" (defScope st__law_read) f cdv A outer s H E) (defBody st__law_read) (tS Ac (fun cls d _ H => E cls d H) m__law_read) := by
  obtain ⟨⟨aK, aG, aE⟩, aB, aI⟩ := Ac
  have oK : K = aK := oK.symm
  have oG : aG = Gof K := oG
  subst oK
  subst oG
  have o : On (cxOf (L2.CX P w) P w K mg base ["text", "middle", "way"] "_law_read" (defScope st__law_read) f cdv A outer s H E) ⟨K, Gof K, aE⟩ := On.of (A := ⟨⟨K, Gof K, aE⟩, aB, aI⟩) rfl hr
  have nd := (sc__law_read).nd
  have tk : Takes (cxOf (L2.CX P w) P w K mg base ["text", "middle", "way"] "_law_read" (defScope st__law_read) f cdv A outer s H E) (fun cls d _ H => E cls d H) := takes_of rfl rfl rfl rfl
  exact PSs_cons (PS_if (PT_nin o (PE_len o rfl T.b_len (PA_cons (PE_n (pv 0)) (PA_nil))) (PE_lst (PA_cons (PE_int) (PA_cons (PE_int) (PA_nil))))) (PSs_one (PS_ret (PE_tup (PA_nil)))) (PSs_nil)) (PSs_cons (PS_set (i := 1) nd rfl (Or.inl rfl) (PE_div (PE_len o rfl T.b_len (PA_cons (PE_n (pv 0)) (PA_nil))) (PE_int))) (PSs_cons (PS_set (i := 2) nd rfl (Or.inl rfl) (PE_dget2 o (PE_dsp (pps_cons pe_str (pe_str) (pps_cons pe_str (pe_str) (pps_cons pe_str (pe_str) (pps_nil))))) (PE_ix2 o.k (PE_n (pv 0)) (PE_n (pv 1))) (PE_str rfl))) (PSs_cons (PS_if (PT_not (PT_tru o.k (PE_cal c__law_is_jump o rfl hr tk rfl (by decide) rfl (PA_cons (PE_slR o.k (PE_n (pv 0)) (PE_n (pv 1))) (PA_cons (PE_slL o.k (PE_n (pv 0)) (PE_add (PE_n (pv 1)) (PE_int))) (PA_cons (PE_n (pv 2)) (PA_nil))))))) (PSs_one (PS_ret (PE_tup (PA_nil)))) (PSs_nil)) (PSs_one (PS_ret (PE_tup (PA_cons (PE_slR o.k (PE_n (pv 0)) (PE_n (pv 1))) (PA_cons (PE_slL o.k (PE_n (pv 0)) (PE_add (PE_n (pv 1)) (PE_int))) (PA_cons (PE_n (pv 2)) (PA_nil))))))))))
theorem f__law_read {w : World} {K : PySem.W.Frag} {mg : Str → Option Value} {base : Heap} {f : Addr} {fd : FuncData} (T : Fs w K mg) (c__law_is_jump : Cal P w K mg base (Gof K) "_law_is_jump" 1 ["before", "after", "way"] [false, false, false] 2 m__law_is_jump) (F : FunD K "_law_read" "_law_read" (defArgs st__law_read) (defBody st__law_read) (defScope st__law_read) [] [] f fd) : FnOk P w K mg base (L2.CX P w) 2 f fd ["text"] (spF (Gof K) K [false] 2 m__law_read) :=
  fnD_ok F sc__law_read rfl rfl (fun cdv A outer s H E hr Ac oG oK => d__law_read T c__law_is_jump cdv A outer s H E hr Ac oG oK)
theorem sc__law_read_asked : FnScope ["text", "due", "jump", "raised"] ["text"] (defScope st__law_read_asked) := ⟨rfl, rfl, rfl, by decide +kernel, rfl, by decide +kernel, by decide +kernel⟩
theorem d__law_read_asked {w : World} {K : PySem.W.Frag} {mg : Str → Option Value} {base : Heap} {f : Addr} (T : Fs w K mg) (c__law_read : Cal P w K mg base (Gof K) "_law_read" 2 ["text"] [false] 2 m__law_read) (cs_Jump_read : CalS P w K mg base (Gof K) "Jump" 2 "read" 5 ["text"] [false] 4 m_Jump_read) (cw__law_text : CalW P w K mg base (Gof K) "_law_text" 1 ["told", "due"] [false, false] 0 m__law_text) (c__law_jump_asked : Cal P w K mg base (Gof K) "_law_jump_asked" 6 ["jump", "triple"] [false, false] 3 m__law_jump_asked) (cdv : Value) (A : Around) (outer : List Env) (s : Shared) (H : Hp) (E : XK) (hr : Room 6 (A.deeper (envOfC "_law_read_asked" (defScope st__law_read_asked) s.heap.objs.size f cdv))) (Ac : Act) (oG : Ac.g.G = Gof K) (oK : Ac.g.K = K) :
    PSs (cxOf (L2.CX P w) P w K mg base ["text", "due", "jump", "raised"] "_law_read_asked" (defScope st__law_read_asked) f cdv A outer s H E) (defBody st__law_read_asked) (tS Ac (fun cls d _ H => E cls d H) m__law_read_asked) := by
  obtain ⟨⟨aK, aG, aE⟩, aB, aI⟩ := Ac
  have oK : K = aK := oK.symm
  have oG : aG = Gof K := oG
  subst oK
  subst oG
  have o : On (cxOf (L2.CX P w) P w K mg base ["text", "due", "jump", "raised"] "_law_read_asked" (defScope st__law_read_asked) f cdv A outer s H E) ⟨K, Gof K, aE⟩ := On.of (A := ⟨⟨K, Gof K, aE⟩, aB, aI⟩) rfl hr
  have nd := (sc__law_read_asked).nd
  have tk : Takes (cxOf (L2.CX P w) P w K mg base ["text", "due", "jump", "raised"] "_law_read_asked" (defScope st__law_read_asked) f cdv A outer s H E) (fun cls d _ H => E cls d H) := takes_of rfl rfl rfl rfl
  exact PSs_cons (PS_set (i := 1) nd rfl (Or.inl rfl) (PE_cal c__law_read o rfl hr tk rfl (by decide) rfl (PA_cons (PE_n (pv 0)) (PA_nil)))) (PSs_cons (PS_try (i := 3) rfl rfl nd rfl rfl ⟨rfl, by decide, .inl T.c_LeapError⟩ tk T.mt_LeapError (fun W pnl xe tk1 pn => PSs_one (PS_set (i := 2) nd rfl (Or.inl rfl) (PE_smethC cs_Jump_read (On.mk o.k o.u) rfl hr tk1 rfl (by decide) rfl (PA_cons (PE_n (pv 0)) (PA_nil))))) (fun a oe k dd pnl hz hf => PSs_cons (PS_if (PW.pt (PW_or (PT_ne (On.mk o.k o.u) (PE_n (pv 1)) (PE_tup (PA_nil))) (PW_one (PT_not (PT_tru (On.mk o.k o.u).k (PE_xi (cx := .ref (He.ga K "InvalidJump")) rfl hz hf (T.xi_InvalidJump k) (fun u r => r) (PE_n (pv 3)) (pe_glob rfl T.c_InvalidJump rfl) rfl T.b_isinstance)))))) (PSs_one (PS_ret (PE_bl))) (PSs_nil)) (PSs_one (PS_ret (PE_calW cw__law_text (On.mk o.k o.u) rfl (roomS hr) takes0 rfl (by decide) rfl (PA_cons (PE_xf rfl hz hf (T.xf_text k) (PE_n (pv 3))) (PA_cons (PE_n (pv 0)) (PA_nil)))))))) (PSs_one (PS_ret (PE_and (PE_ne o (PE_n (pv 1)) (PE_tup (PA_nil))) (PE_one (PE_cal c__law_jump_asked o rfl hr tk rfl (by decide) rfl (PA_cons (PE_n (pv 2)) (PA_cons (PE_n (pv 1)) (PA_nil)))))))))
theorem f__law_read_asked {w : World} {K : PySem.W.Frag} {mg : Str → Option Value} {base : Heap} {f : Addr} {fd : FuncData} (T : Fs w K mg) (c__law_read : Cal P w K mg base (Gof K) "_law_read" 2 ["text"] [false] 2 m__law_read) (cs_Jump_read : CalS P w K mg base (Gof K) "Jump" 2 "read" 5 ["text"] [false] 4 m_Jump_read) (cw__law_text : CalW P w K mg base (Gof K) "_law_text" 1 ["told", "due"] [false, false] 0 m__law_text) (c__law_jump_asked : Cal P w K mg base (Gof K) "_law_jump_asked" 6 ["jump", "triple"] [false, false] 3 m__law_jump_asked) (F : FunD K "_law_read_asked" "_law_read_asked" (defArgs st__law_read_asked) (defBody st__law_read_asked) (defScope st__law_read_asked) [] [] f fd) : FnOk P w K mg base (L2.CX P w) 7 f fd ["text"] (spF (Gof K) K [false] 3 m__law_read_asked) :=
  fnD_ok F sc__law_read_asked rfl rfl (fun cdv A outer s H E hr Ac oG oK => d__law_read_asked T c__law_read cs_Jump_read cw__law_text c__law_jump_asked cdv A outer s H E hr Ac oG oK)
theorem sc__law_twins : FnScope ["box", "triple", "other", "mode", "at", "after", "before", "one", "two"] ["box", "triple"] (defScope st__law_twins) := ⟨rfl, rfl, rfl, by decide +kernel, rfl, by decide +kernel, by decide +kernel⟩
theorem d__law_twins {w : World} {K : PySem.W.Frag} {mg : Str → Option Value} {base : Heap} {f : Addr} (T : Fs w K mg) (c__law_take : Cal P w K mg base (Gof K) "_law_take" 1 ["box", "many"] [true, false] 2 m__law_take) (c__law_good : Cal P w K mg base (Gof K) "_law_good" 2 ["box"] [true] 4 m__law_good) (ci_Jump_init : CalI P w K mg base (Gof K) "Jump" 2 3 ["self", "before", "after", "ways"] [[.str [114, 105, 103, 104, 116]], []] [false, false, false] 0 m_Jump_init) (c__law_written : Cal P w K mg base (Gof K) "_law_written" 1 ["triple"] [false] 0 m__law_written) (cs_Jump_read : CalS P w K mg base (Gof K) "Jump" 2 "read" 5 ["text"] [false] 4 m_Jump_read) (cm_Jump_eq : CalM P w K mg base (Gof K) 2 "__eq__" 1 ["self", "other"] [false, false] 0 m_Jump_eq) (c__law_shown : Cal P w K mg base (Gof K) "_law_shown" 4 ["jump", "triple"] [false, false] 0 m__law_shown) (cdv : Value) (A : Around) (outer : List Env) (s : Shared) (H : Hp) (E : XK) (hr : Room 5 (A.deeper (envOfC "_law_twins" (defScope st__law_twins) s.heap.objs.size f cdv))) (Ac : Act) (oG : Ac.g.G = Gof K) (oK : Ac.g.K = K) :
    PSs (cxOf (L2.CX P w) P w K mg base ["box", "triple", "other", "mode", "at", "after", "before", "one", "two"] "_law_twins" (defScope st__law_twins) f cdv A outer s H E) (defBody st__law_twins) (tS Ac (fun cls d _ H => E cls d H) m__law_twins) := by
  obtain ⟨⟨aK, aG, aE⟩, aB, aI⟩ := Ac
  have oK : K = aK := oK.symm
  have oG : aG = Gof K := oG
  subst oK
  subst oG
  have o : On (cxOf (L2.CX P w) P w K mg base ["box", "triple", "other", "mode", "at", "after", "before", "one", "two"] "_law_twins" (defScope st__law_twins) f cdv A outer s H E) ⟨K, Gof K, aE⟩ := On.of (A := ⟨⟨K, Gof K, aE⟩, aB, aI⟩) rfl hr
  have nd := (sc__law_twins).nd
  have tk : Takes (cxOf (L2.CX P w) P w K mg base ["box", "triple", "other", "mode", "at", "after", "before", "one", "two"] "_law_twins" (defScope st__law_twins) f cdv A outer s H E) (fun cls d _ H => E cls d H) := takes_of rfl rfl rfl rfl
  exact PSs_cons (PS_set (i := 2) nd rfl (Or.inl rfl) (PE_n (pv 1))) (PSs_cons (PS_set (i := 3) nd rfl (Or.inl rfl) (PE_cal c__law_take o rfl hr tk rfl (by decide) rfl (PA_cons (PE_n (pv 0)) (PA_cons (PE_int) (PA_nil))))) (PSs_cons (PS_if (PT_eq o (PE_n (pv 3)) (PE_int)) (PSs_one (PS_set (i := 2) nd rfl (Or.inl rfl) (PE_tup (PA_cons (PE_ix2 o.k (PE_n (pv 1)) (PE_int)) (PA_cons (PE_ix2 o.k (PE_n (pv 1)) (PE_int)) (PA_cons (PE_ix2 o.k (PE_lst (PA_cons (PE_str rfl) (PA_cons (PE_str rfl) (PA_cons (PE_str rfl) (PA_nil))))) (PE_cal c__law_take o rfl hr tk rfl (by decide) rfl (PA_cons (PE_n (pv 0)) (PA_cons (PE_int) (PA_nil))))) (PA_nil))))))) (PSs_nil)) (PSs_cons (PS_if (PT_eq o (PE_n (pv 3)) (PE_int)) (PSs_cons (PS_set (i := 4) nd rfl (Or.inl rfl) (PE_add (PE_int) (PE_cal c__law_take o rfl hr tk rfl (by decide) rfl (PA_cons (PE_n (pv 0)) (PA_cons (PE_sub (PE_len o rfl T.b_len (PA_cons (PE_ix2 o.k (PE_n (pv 1)) (PE_int)) (PA_nil))) (PE_int)) (PA_nil)))))) (PSs_cons (PS_set (i := 5) nd rfl (Or.inl rfl) (PE_add (PE_add (PE_slR o.k (PE_ix2 o.k (PE_n (pv 1)) (PE_int)) (PE_n (pv 4))) (PE_ix2 o.k (PE_str rfl) (PE_cal c__law_take o rfl hr tk rfl (by decide) rfl (PA_cons (PE_n (pv 0)) (PA_cons (PE_int) (PA_nil)))))) (PE_slL o.k (PE_ix2 o.k (PE_n (pv 1)) (PE_int)) (PE_add (PE_n (pv 4)) (PE_int))))) (PSs_one (PS_set (i := 2) nd rfl (Or.inl rfl) (PE_tup (PA_cons (PE_ix2 o.k (PE_n (pv 1)) (PE_int)) (PA_cons (PE_n (pv 5)) (PA_cons (PE_ix2 o.k (PE_n (pv 1)) (PE_int)) (PA_nil))))))))) (PSs_nil)) (PSs_cons (PS_if (PT_eq o (PE_n (pv 3)) (PE_int)) (PSs_cons (PS_set (i := 4) nd rfl (Or.inl rfl) (PE_cal c__law_take o rfl hr tk rfl (by decide) rfl (PA_cons (PE_n (pv 0)) (PA_cons (PE_sub (PE_len o rfl T.b_len (PA_cons (PE_ix2 o.k (PE_n (pv 1)) (PE_int)) (PA_nil))) (PE_int)) (PA_nil))))) (PSs_cons (PS_set (i := 6) nd rfl (Or.inl rfl) (PE_add (PE_add (PE_slR o.k (PE_ix2 o.k (PE_n (pv 1)) (PE_int)) (PE_n (pv 4))) (PE_ix2 o.k (PE_str rfl) (PE_cal c__law_take o rfl hr tk rfl (by decide) rfl (PA_cons (PE_n (pv 0)) (PA_cons (PE_int) (PA_nil)))))) (PE_slL o.k (PE_ix2 o.k (PE_n (pv 1)) (PE_int)) (PE_add (PE_n (pv 4)) (PE_int))))) (PSs_one (PS_set (i := 2) nd rfl (Or.inl rfl) (PE_tup (PA_cons (PE_n (pv 6)) (PA_cons (PE_ix2 o.k (PE_n (pv 1)) (PE_int)) (PA_cons (PE_ix2 o.k (PE_n (pv 1)) (PE_int)) (PA_nil))))))))) (PSs_nil)) (PSs_cons (PS_if (PT_eq o (PE_n (pv 3)) (PE_int)) (PSs_one (PS_set (i := 2) nd rfl (Or.inl rfl) (PE_cal c__law_good o rfl hr tk rfl (by decide) rfl (PA_cons (PE_n (pv 0)) (PA_nil))))) (PSs_nil)) (PSs_cons (PS_set (i := 7) nd rfl (Or.inl rfl) (PE_ft (PE_makeC ci_Jump_init o rfl hr tk rfl (by decide) (by simp) rfl (PA_cons (PE_ix2 o.k (PE_n (pv 1)) (PE_int)) (PA_cons (PE_ix2 o.k (PE_n (pv 1)) (PE_int)) (PA_cons (PE_ix2 o.k (PE_n (pv 1)) (PE_int)) (PA_nil))))))) (PSs_cons (PS_set (i := 8) nd rfl (Or.inl rfl) (PE_smethC cs_Jump_read o rfl hr tk rfl (by decide) rfl (PA_cons (PE_cal c__law_written o rfl hr tk rfl (by decide) rfl (PA_cons (PE_n (pv 2)) (PA_nil))) (PA_nil)))) (PSs_cons (PS_if (PW.pt (PW_or (PT_ne o (PE_eqC cm_Jump_eq o rfl hr rfl (by decide) (PE_n (pv 7)) (PE_n (pv 8))) (PE_eq o (PE_n (pv 1)) (PE_n (pv 2)))) (PW_one (PT_ne o (PE_eqC cm_Jump_eq o rfl hr rfl (by decide) (PE_n (pv 8)) (PE_n (pv 7))) (PE_eq o (PE_n (pv 1)) (PE_n (pv 2))))))) (PSs_one (PS_ret (PE_bl))) (PSs_nil)) (PSs_one (PS_ret (PE_and (PE_cal c__law_shown o rfl hr tk rfl (by decide) rfl (PA_cons (PE_n (pv 7)) (PA_cons (PE_n (pv 1)) (PA_nil)))) (PE_one (PE_cal c__law_shown o rfl hr tk rfl (by decide) rfl (PA_cons (PE_n (pv 8)) (PA_cons (PE_n (pv 2)) (PA_nil))))))))))))))))
theorem f__law_twins {w : World} {K : PySem.W.Frag} {mg : Str → Option Value} {base : Heap} {f : Addr} {fd : FuncData} (T : Fs w K mg) (c__law_take : Cal P w K mg base (Gof K) "_law_take" 1 ["box", "many"] [true, false] 2 m__law_take) (c__law_good : Cal P w K mg base (Gof K) "_law_good" 2 ["box"] [true] 4 m__law_good) (ci_Jump_init : CalI P w K mg base (Gof K) "Jump" 2 3 ["self", "before", "after", "ways"] [[.str [114, 105, 103, 104, 116]], []] [false, false, false] 0 m_Jump_init) (c__law_written : Cal P w K mg base (Gof K) "_law_written" 1 ["triple"] [false] 0 m__law_written) (cs_Jump_read : CalS P w K mg base (Gof K) "Jump" 2 "read" 5 ["text"] [false] 4 m_Jump_read) (cm_Jump_eq : CalM P w K mg base (Gof K) 2 "__eq__" 1 ["self", "other"] [false, false] 0 m_Jump_eq) (c__law_shown : Cal P w K mg base (Gof K) "_law_shown" 4 ["jump", "triple"] [false, false] 0 m__law_shown) (F : FunD K "_law_twins" "_law_twins" (defArgs st__law_twins) (defBody st__law_twins) (defScope st__law_twins) [] [] f fd) : FnOk P w K mg base (L2.CX P w) 6 f fd ["box", "triple"] (spF (Gof K) K [true, false] 7 m__law_twins) :=
  fnD_ok F sc__law_twins rfl rfl (fun cdv A outer s H E hr Ac oG oK => d__law_twins T c__law_take c__law_good ci_Jump_init c__law_written cs_Jump_read cm_Jump_eq c__law_shown cdv A outer s H E hr Ac oG oK)
theorem sc_law : FnScope ["script", "turn", "box", "triple", "text"] ["script"] (defScope st_law) := ⟨rfl, rfl, rfl, by decide +kernel, rfl, by decide +kernel, by decide +kernel⟩
theorem d_law {w : World} {K : PySem.W.Frag} {mg : Str → Option Value} {base : Heap} {f : Addr} (T : Fs w K mg) (c__law_box : Cal P w K mg base (Gof K) "_law_box" 2 ["script", "at"] [false, false] 2 m__law_box) (c__law_drawn : Cal P w K mg base (Gof K) "_law_drawn" 4 ["box"] [true] 4 m__law_drawn) (c__law_take : Cal P w K mg base (Gof K) "_law_take" 1 ["box", "many"] [true, false] 2 m__law_take) (c__law_class_asked : Cal P w K mg base (Gof K) "_law_class_asked" 7 ["triple", "form"] [false, false] 3 m__law_class_asked) (c__law_good : Cal P w K mg base (Gof K) "_law_good" 2 ["box"] [true] 4 m__law_good) (c__law_written : Cal P w K mg base (Gof K) "_law_written" 1 ["triple"] [false] 0 m__law_written) (c__law_read_asked : Cal P w K mg base (Gof K) "_law_read_asked" 7 ["text"] [false] 3 m__law_read_asked) (c__law_twins : Cal P w K mg base (Gof K) "_law_twins" 6 ["box", "triple"] [true, false] 7 m__law_twins) (c__law_bend : Cal P w K mg base (Gof K) "_law_bend" 2 ["box", "text"] [true, false] 4 m__law_bend) (c__law_loose : Cal P w K mg base (Gof K) "_law_loose" 2 ["box", "most"] [true, false] 2 m__law_loose) (cdv : Value) (A : Around) (outer : List Env) (s : Shared) (H : Hp) (E : XK) (hr : Room 7 (A.deeper (envOfC "law" (defScope st_law) s.heap.objs.size f cdv))) (Ac : Act) (oG : Ac.g.G = Gof K) (oK : Ac.g.K = K) :
    PSs (cxOf (L2.CX P w) P w K mg base ["script", "turn", "box", "triple", "text"] "law" (defScope st_law) f cdv A outer s H E) (defBody st_law) (tS Ac (fun cls d _ H => E cls d H) m_law) := by
  obtain ⟨⟨aK, aG, aE⟩, aB, aI⟩ := Ac
  have oK : K = aK := oK.symm
  have oG : aG = Gof K := oG
  subst oK
  subst oG
  have o : On (cxOf (L2.CX P w) P w K mg base ["script", "turn", "box", "triple", "text"] "law" (defScope st_law) f cdv A outer s H E) ⟨K, Gof K, aE⟩ := On.of (A := ⟨⟨K, Gof K, aE⟩, aB, aI⟩) rfl hr
  have nd := (sc_law).nd
  have tk : Takes (cxOf (L2.CX P w) P w K mg base ["script", "turn", "box", "triple", "text"] "law" (defScope st_law) f cdv A outer s H E) (fun cls d _ H => E cls d H) := takes_of rfl rfl rfl rfl
  exact PSs_cons (PS_for (passes_of rfl) rfl (PI_r1 rfl T.b_range (PA_cons (PE_int) (PA_nil))) (fun J => PG_n (pg_name (i := 1) nd rfl (by first | exact Or.inl rfl | exact Or.inr rfl))) (fun J => PSs_cons (PS_set (i := 2) nd rfl (Or.inl rfl) (PE_cal c__law_box o rfl hr tk rfl (by decide) rfl (PA_cons (PE_n (pv 0)) (PA_cons (PE_n (pv 1)) (PA_nil))))) (PSs_cons (PS_if (PT_not (PT_tru o.k (PE_cal c__law_class_asked o rfl hr tk rfl (by decide) rfl (PA_cons (PE_cal c__law_drawn o rfl hr tk rfl (by decide) rfl (PA_cons (PE_n (pv 2)) (PA_nil))) (PA_cons (PE_cal c__law_take o rfl hr tk rfl (by decide) rfl (PA_cons (PE_n (pv 2)) (PA_cons (PE_int) (PA_nil)))) (PA_nil)))))) (PSs_one (PS_ret (PE_bl))) (PSs_nil)) (PSs_cons (PS_set (i := 2) nd rfl (Or.inl rfl) (PE_cal c__law_box o rfl hr tk rfl (by decide) rfl (PA_cons (PE_n (pv 0)) (PA_cons (PE_add (PE_int) (PE_n (pv 1))) (PA_nil))))) (PSs_cons (PS_set (i := 3) nd rfl (Or.inl rfl) (PE_cal c__law_good o rfl hr tk rfl (by decide) rfl (PA_cons (PE_n (pv 2)) (PA_nil)))) (PSs_cons (PS_if (PW.pt (PW_or (PT_not (PT_tru o.k (PE_cal c__law_read_asked o rfl hr tk rfl (by decide) rfl (PA_cons (PE_cal c__law_written o rfl hr tk rfl (by decide) rfl (PA_cons (PE_n (pv 3)) (PA_nil))) (PA_nil))))) (PW_one (PT_not (PT_tru o.k (PE_cal c__law_twins o rfl hr tk rfl (by decide) rfl (PA_cons (PE_n (pv 2)) (PA_cons (PE_n (pv 3)) (PA_nil))))))))) (PSs_one (PS_ret (PE_bl))) (PSs_nil)) (PSs_cons (PS_set (i := 4) nd rfl (Or.inl rfl) (PE_cal c__law_bend o rfl hr tk rfl (by decide) rfl (PA_cons (PE_n (pv 2)) (PA_cons (PE_cal c__law_written o rfl hr tk rfl (by decide) rfl (PA_cons (PE_n (pv 3)) (PA_nil))) (PA_nil))))) (PSs_cons (PS_if (PT_eq o (PE_cal c__law_take o rfl hr tk rfl (by decide) rfl (PA_cons (PE_n (pv 2)) (PA_cons (PE_int) (PA_nil)))) (PE_int)) (PSs_one (PS_set (i := 4) nd rfl (Or.inl rfl) (PE_cal c__law_bend o rfl hr tk rfl (by decide) rfl (PA_cons (PE_n (pv 2)) (PA_cons (PE_n (pv 4)) (PA_nil)))))) (PSs_nil)) (PSs_one (PS_if (PT_not (PT_tru o.k (PE_cal c__law_read_asked o rfl hr tk rfl (by decide) rfl (PA_cons (PE_n (pv 4)) (PA_nil))))) (PSs_one (PS_ret (PE_bl))) (PSs_nil))))))))))) (PSs_one (PS_ret (PE_cal c__law_read_asked o rfl hr tk rfl (by decide) rfl (PA_cons (PE_cal c__law_loose o rfl hr tk rfl (by decide) rfl (PA_cons (PE_cal c__law_box o rfl hr tk rfl (by decide) rfl (PA_cons (PE_n (pv 0)) (PA_cons (PE_int) (PA_nil)))) (PA_cons (PE_int) (PA_nil)))) (PA_nil)))))
theorem f_law {w : World} {K : PySem.W.Frag} {mg : Str → Option Value} {base : Heap} {f : Addr} {fd : FuncData} (T : Fs w K mg) (c__law_box : Cal P w K mg base (Gof K) "_law_box" 2 ["script", "at"] [false, false] 2 m__law_box) (c__law_drawn : Cal P w K mg base (Gof K) "_law_drawn" 4 ["box"] [true] 4 m__law_drawn) (c__law_take : Cal P w K mg base (Gof K) "_law_take" 1 ["box", "many"] [true, false] 2 m__law_take) (c__law_class_asked : Cal P w K mg base (Gof K) "_law_class_asked" 7 ["triple", "form"] [false, false] 3 m__law_class_asked) (c__law_good : Cal P w K mg base (Gof K) "_law_good" 2 ["box"] [true] 4 m__law_good) (c__law_written : Cal P w K mg base (Gof K) "_law_written" 1 ["triple"] [false] 0 m__law_written) (c__law_read_asked : Cal P w K mg base (Gof K) "_law_read_asked" 7 ["text"] [false] 3 m__law_read_asked) (c__law_twins : Cal P w K mg base (Gof K) "_law_twins" 6 ["box", "triple"] [true, false] 7 m__law_twins) (c__law_bend : Cal P w K mg base (Gof K) "_law_bend" 2 ["box", "text"] [true, false] 4 m__law_bend) (c__law_loose : Cal P w K mg base (Gof K) "_law_loose" 2 ["box", "most"] [true, false] 2 m__law_loose) (F : FunD K "law" "law" (defArgs st_law) (defBody st_law) (defScope st_law) [] [] f fd) : FnOk P w K mg base (L2.CX P w) 8 f fd ["script"] (spF (Gof K) K [false] 4 m_law) :=
  fnD_ok F sc_law rfl rfl (fun cdv A outer s H E hr Ac oG oK => d_law T c__law_box c__law_drawn c__law_take c__law_class_asked c__law_good c__law_written c__law_read_asked c__law_twins c__law_bend c__law_loose cdv A outer s H E hr Ac oG oK)
abbrev sx_InvalidJump : Stmt := inClass (top 3) 0
abbrev sx_InvalidRow : Stmt := inClass (top 2) 0
def fas : List He.Fa := [.glo "_law_take", .glo "_law_bend", .glo "_law_cell", .glo "_law_box", .glo "_law_is_jump", .glo "is_after", .glo "is_before", .glo "is_jump", .glo "check_row", .glo "mirror", .glo "_law_text", .glo "_law_image", .glo "_law_windows", .glo "_law_listed", .glo "_law_written", .glo "_law_shown", .glo "_law_swapped", .glo "_law_jump_asked", .glo "_law_made", .glo "_law_class_asked", .glo "_law_good", .glo "_law_loose", .glo "_law_odd_way", .glo "_law_drawn", .glo "_law_read", .glo "_law_read_asked", .glo "_law_twins", .glo "law", .cls "Jump", .noat "Jump" "after", .noat "Jump" "before", .noat "Jump" "ways", .free "int", .free "isinstance", .free "len", .free "list", .free "min", .free "range", .free "str", .free "sum", .free "tuple", .str "FREE" ".", .str "PEGS" "abcd", .str "SIGNS" "#.:ABCDabcd", .glo "MIRRORED_WAYS", .glo "SIGN_WAYS", .glo "WAY_SIGNS", .glo "WINDOW_LENGTHS", .free "super", .glo "InvalidJump", .glo "InvalidRow", .glo "Jump", .glo "LeapError", .exm "InvalidRow" "LeapError" true, .exm "InvalidJump" "LeapError" true, .meth "Jump" "__eq__", .mkr "Jump", .meth "Jump" "mirrored", .meth "Jump" "windows", .meth "Jump" "__str__"]
def fns : List He5.DefA := [⟨fun K => He.ga K "_law_take", "_law_take", "_law_take", defArgs st__law_take, defBody st__law_take, defScope st__law_take, [], []⟩, ⟨fun K => He.ga K "_law_bend", "_law_bend", "_law_bend", defArgs st__law_bend, defBody st__law_bend, defScope st__law_bend, [], []⟩, ⟨fun K => He.ga K "_law_cell", "_law_cell", "_law_cell", defArgs st__law_cell, defBody st__law_cell, defScope st__law_cell, [], []⟩, ⟨fun K => He.ga K "_law_box", "_law_box", "_law_box", defArgs st__law_box, defBody st__law_box, defScope st__law_box, [], []⟩, ⟨fun K => He.ga K "_law_is_jump", "_law_is_jump", "_law_is_jump", defArgs st__law_is_jump, defBody st__law_is_jump, defScope st__law_is_jump, [], []⟩, ⟨fun K => He.ma K (He.ga K "Jump") "__eq__", "__eq__", "Jump.__eq__", defArgs st_Jump_eq, defBody st_Jump_eq, defScope st_Jump_eq, [], []⟩, ⟨fun K => He.ga K "is_after", "is_after", "is_after", defArgs st_is_after, defBody st_is_after, defScope st_is_after, [], []⟩, ⟨fun K => He.ga K "is_before", "is_before", "is_before", defArgs st_is_before, defBody st_is_before, defScope st_is_before, [], []⟩, ⟨fun K => He.ga K "is_jump", "is_jump", "is_jump", defArgs st_is_jump, defBody st_is_jump, defScope st_is_jump, [], []⟩, ⟨fun K => He.ma K (He.ga K "Jump") "__init__", "__init__", "Jump.__init__", defArgs st_Jump_init, defBody st_Jump_init, defScope st_Jump_init, [.str "right"], []⟩, ⟨fun K => He.ma K (He.ga K "Jump") "mirrored", "mirrored", "Jump.mirrored", defArgs st_Jump_mirrored, defBody st_Jump_mirrored, defScope st_Jump_mirrored, [], []⟩, ⟨fun K => He.ga K "check_row", "check_row", "check_row", defArgs st_check_row, defBody st_check_row, defScope st_check_row, [], []⟩, ⟨fun K => He.ga K "mirror", "mirror", "mirror", defArgs st_mirror, defBody st_mirror, defScope st_mirror, [], []⟩, ⟨fun K => He.ma K (He.ga K "Jump") "windows", "windows", "Jump.windows", defArgs st_Jump_windows, defBody st_Jump_windows, defScope st_Jump_windows, [], []⟩, ⟨fun K => He.ga K "_law_text", "_law_text", "_law_text", defArgs st__law_text, defBody st__law_text, defScope st__law_text, [], []⟩, ⟨fun K => He.ga K "_law_image", "_law_image", "_law_image", defArgs st__law_image, defBody st__law_image, defScope st__law_image, [], []⟩, ⟨fun K => He.ga K "_law_windows", "_law_windows", "_law_windows", defArgs st__law_windows, defBody st__law_windows, defScope st__law_windows, [], []⟩, ⟨fun K => He.ga K "_law_listed", "_law_listed", "_law_listed", defArgs st__law_listed, defBody st__law_listed, defScope st__law_listed, [], []⟩, ⟨fun K => He.ma K (He.ga K "Jump") "__str__", "__str__", "Jump.__str__", defArgs st_Jump_str, defBody st_Jump_str, defScope st_Jump_str, [], []⟩, ⟨fun K => He.ga K "_law_written", "_law_written", "_law_written", defArgs st__law_written, defBody st__law_written, defScope st__law_written, [], []⟩, ⟨fun K => He.ga K "_law_shown", "_law_shown", "_law_shown", defArgs st__law_shown, defBody st__law_shown, defScope st__law_shown, [], []⟩, ⟨fun K => He.ga K "_law_swapped", "_law_swapped", "_law_swapped", defArgs st__law_swapped, defBody st__law_swapped, defScope st__law_swapped, [], []⟩, ⟨fun K => He.ga K "_law_jump_asked", "_law_jump_asked", "_law_jump_asked", defArgs st__law_jump_asked, defBody st__law_jump_asked, defScope st__law_jump_asked, [], []⟩, ⟨fun K => He.ga K "_law_made", "_law_made", "_law_made", defArgs st__law_made, defBody st__law_made, defScope st__law_made, [], []⟩, ⟨fun K => He.ga K "_law_class_asked", "_law_class_asked", "_law_class_asked", defArgs st__law_class_asked, defBody st__law_class_asked, defScope st__law_class_asked, [], []⟩, ⟨fun K => He.ga K "_law_good", "_law_good", "_law_good", defArgs st__law_good, defBody st__law_good, defScope st__law_good, [], []⟩, ⟨fun K => He.ga K "_law_loose", "_law_loose", "_law_loose", defArgs st__law_loose, defBody st__law_loose, defScope st__law_loose, [], []⟩, ⟨fun K => He.ga K "_law_odd_way", "_law_odd_way", "_law_odd_way", defArgs st__law_odd_way, defBody st__law_odd_way, defScope st__law_odd_way, [], []⟩, ⟨fun K => He.ga K "_law_drawn", "_law_drawn", "_law_drawn", defArgs st__law_drawn, defBody st__law_drawn, defScope st__law_drawn, [], []⟩, ⟨fun K => He5.wf K (He.ga K "Jump") "staticmethod" "read", "read", "Jump.read", defArgs st_Jump_read, defBody st_Jump_read, defScope st_Jump_read, [], []⟩, ⟨fun K => He.ga K "_law_read", "_law_read", "_law_read", defArgs st__law_read, defBody st__law_read, defScope st__law_read, [], []⟩, ⟨fun K => He.ga K "_law_read_asked", "_law_read_asked", "_law_read_asked", defArgs st__law_read_asked, defBody st__law_read_asked, defScope st__law_read_asked, [], []⟩, ⟨fun K => He.ga K "_law_twins", "_law_twins", "_law_twins", defArgs st__law_twins, defBody st__law_twins, defScope st__law_twins, [], []⟩, ⟨fun K => He.ga K "law", "law", "law", defArgs st_law, defBody st_law, defScope st_law, [], []⟩]
def xss : List Str := ["InvalidJump", "InvalidRow"]
def xvs : List PySem.XS.XV := [some ("__init__", "InvalidJump.__init__", defArgs sx_InvalidJump, .stmts (defBody sx_InvalidJump), defScope sx_InvalidJump, mainGlobals, ["__class__"], .none, builtinsNs), some ("__init__", "InvalidRow.__init__", defArgs sx_InvalidRow, .stmts (defBody sx_InvalidRow), defScope sx_InvalidRow, mainGlobals, ["__class__"], .none, builtinsNs)]
def tbs : List (Str × List Str) := [("MIRRORED_WAYS", tbl_MIRRORED_WAYS.map fun q => strL q.1), ("SIGN_WAYS", tbl_SIGN_WAYS.map fun q => strL q.1), ("WAY_SIGNS", tbl_WAY_SIGNS.map fun q => strL q.1)]
def exl (K : PySem.W.Frag) : List Bool := [He.insB K "Jump" "Jump" true, He.dscB K, He.bltB K "Jump" isb_Jump, He.valsB K (He.ga K "MIRRORED_WAYS") (tbl_MIRRORED_WAYS.map fun q => (strL q.1, He.Dv.str (strL q.2))), He.valsB K (He.ga K "SIGN_WAYS") (tbl_SIGN_WAYS.map fun q => (strL q.1, He.Dv.str (strL q.2))), He.valsB K (He.ga K "WAY_SIGNS") (tbl_WAY_SIGNS.map fun q => (strL q.1, He.Dv.str (strL q.2))), He.tupB K "WINDOW_LENGTHS" [.int 3, .int 4], PySem.XS.xB K P "InvalidJump" "text" "InvalidJump.__init__", PySem.XS.xB K P "InvalidRow" "row" "InvalidRow.__init__", He.xfB1 K (He.ga K "InvalidJump") "text", He.kitB1 K (He.ga K "InvalidRow") (.ref (He.ga K "InvalidJump")) false, He.kitB1 K (He.ga K "InvalidJump") (.ref (He.ga K "InvalidJump")) true, He.crdB K "Jump" "read"]
def exb (K : PySem.W.Frag) : Bool := (exl K).all id
abbrev Row : PySem.W.OpenRow := PySem.W.OpenLaw.row PySem.Challenge.rw_leapcard_k03_jumps_checked_and_written
abbrev hk : PySem.W.Hook := He.hookL 6 fas fns xss xvs tbs exb
def ob (s : PySem.W.SharedT) : He.AlL := He.obsLG 6 fas fns xss tbs exb (HandSHeadRun.getT s)
theorem ob_eq (s : PySem.W.SharedT) : ob s = hk.obs s.abs := He.obsLG_eq (HandSHeadRun.getT_eq s)
def loose : List Str := (["LeapError", "InvalidRow", "InvalidJump", "SIGNS", "FREE", "PEGS", "check_row", "mirror", "WINDOW_LENGTHS", "WAY_SIGNS", "SIGN_WAYS", "MIRRORED_WAYS", "is_before", "is_after", "is_jump", "Jump", "_law_cell", "_law_box", "_law_take", "_law_text"] : List Str) ++ (["_law_image", "_law_is_jump", "_law_written", "_law_read", "_law_windows", "_law_swapped", "_law_good", "_law_bend", "_law_loose", "_law_odd_way", "_law_drawn", "_law_made", "_law_shown", "_law_listed", "_law_jump_asked", "_law_class_asked", "_law_read_asked", "_law_twins"] : List Str)
theorem run (w : World) : HandSHeadRun.RunEq Row (PySem.W.view Row.prog [42]) hk ob 6000 loose w :=
  PySem.W.byRow2 "special-get-raises" (P := fun w => HandSHeadRun.RunEq Row (PySem.W.view Row.prog [42]) hk ob 6000 loose w) (fun w => by intro os; kernel_rfl) (fun w => by intro os; kernel_rfl) w
theorem fs_ok {w : World} {K : PySem.W.Frag} {h : Heap} {mg : Str → Option Value} (X : K.In h) (G : h.Ns mainGlobals mg) (c : He.SaysL fas fns xss xvs tbs exb w K) : Fs w K mg := by
  have e : ∀ i : Nat, (exl K)[i]? = none ∨ (exl K)[i]? = some true := fun i => by
    cases q : (exl K)[i]? with
    | none => exact .inl rfl
    | some b => exact .inr (congrArg some (List.all_eq_true.mp c.more b (List.mem_of_getElem? q)))
  have e : ∀ (i : Nat) {b : Bool}, (exl K)[i]? = some b → b = true := fun i b q => by rcases e i with z | z <;> rw [q] at z <;> cases z <;> rfl
  exact {
    fl_Jump_after := fun c' h => (by have z : c' = 2 := (by simpa using h); subst z; exact ⟨He.cls_ok (c.fact 28 (f := .cls "Jump") rfl), He.noat_ok (c.fact 29 (f := .noat "Jump" "after") rfl)⟩)
    fl_Jump_before := fun c' h => (by have z : c' = 2 := (by simpa using h); subst z; exact ⟨He.cls_ok (c.fact 28 (f := .cls "Jump") rfl), He.noat_ok (c.fact 30 (f := .noat "Jump" "before") rfl)⟩)
    fl_Jump_ways := fun c' h => (by have z : c' = 2 := (by simpa using h); subst z; exact ⟨He.cls_ok (c.fact 28 (f := .cls "Jump") rfl), He.noat_ok (c.fact 31 (f := .noat "Jump" "ways") rfl)⟩)
    b_int := He.free_ok X G (c.fact 32 (f := .free "int") rfl)
    b_isinstance := He.free_ok X G (c.fact 33 (f := .free "isinstance") rfl)
    b_len := He.free_ok X G (c.fact 34 (f := .free "len") rfl)
    b_list := He.free_ok X G (c.fact 35 (f := .free "list") rfl)
    b_min := He.free_ok X G (c.fact 36 (f := .free "min") rfl)
    b_range := He.free_ok X G (c.fact 37 (f := .free "range") rfl)
    b_str := He.free_ok X G (c.fact 38 (f := .free "str") rfl)
    b_sum := He.free_ok X G (c.fact 39 (f := .free "sum") rfl)
    b_tuple := He.free_ok X G (c.fact 40 (f := .free "tuple") rfl)
    is_Jump := ⟨(fun k b h => match k, h with | 0, h => by cases h | 1, h => by cases h | 2, h => by cases h; exact ⟨He.cls_ok (c.fact 28 (f := .cls "Jump") rfl), He.insB_ok (e 0 rfl)⟩ | _ + 3, h => (by cases h)), (He.dscB_ok (e 1 rfl)).1, (He.dscB_ok (e 1 rfl)).2, He.bltB_ok (e 2 rfl)⟩
    s_FREE := He.str_ok X G (c.fact 41 (f := .str "FREE" ".") rfl)
    s_PEGS := He.str_ok X G (c.fact 42 (f := .str "PEGS" "abcd") rfl)
    s_SIGNS := He.str_ok X G (c.fact 43 (f := .str "SIGNS" "#.:ABCDabcd") rfl)
    tb_MIRRORED_WAYS := ⟨_, He.glo_ok X G (c.fact 44 (f := .glo "MIRRORED_WAYS") rfl), tab_ok (c.tab 0 (t := ("MIRRORED_WAYS", tbl_MIRRORED_WAYS.map fun q => strL q.1)) rfl) (e 3 rfl)⟩
    tb_SIGN_WAYS := ⟨_, He.glo_ok X G (c.fact 45 (f := .glo "SIGN_WAYS") rfl), tab_ok (c.tab 1 (t := ("SIGN_WAYS", tbl_SIGN_WAYS.map fun q => strL q.1)) rfl) (e 4 rfl)⟩
    tb_WAY_SIGNS := ⟨_, He.glo_ok X G (c.fact 46 (f := .glo "WAY_SIGNS") rfl), tab_ok (c.tab 2 (t := ("WAY_SIGNS", tbl_WAY_SIGNS.map fun q => strL q.1)) rfl) (e 5 rfl)⟩
    tp_WINDOW_LENGTHS := ⟨_, He.glo_ok X G (c.fact 47 (f := .glo "WINDOW_LENGTHS") rfl), fun H => He.tupB_ok (e 6 rfl) H⟩
    b_super := He.free_ok X G (c.fact 48 (f := .free "super") rfl)
    c_InvalidJump := He.glo_ok X G (c.fact 49 (f := .glo "InvalidJump") rfl)
    c_InvalidRow := He.glo_ok X G (c.fact 50 (f := .glo "InvalidRow") rfl)
    c_Jump := He.glo_ok X G (c.fact 51 (f := .glo "Jump") rfl)
    c_LeapError := He.glo_ok X G (c.fact 52 (f := .glo "LeapError") rfl)
    mt_LeapError := fun k b h => match k, h with | 0, h => by cases h; exact He.exm_ok (c.fact 53 (f := .exm "InvalidRow" "LeapError" true) rfl) | 1, h => by cases h; exact He.exm_ok (c.fact 54 (f := .exm "InvalidJump" "LeapError" true) rfl) | _ + 2, h => by cases h
    xf_text := fun k h => match k, h with | 0, h => by cases h | 1, _ => He.xfB1_ok (e 9 rfl) | _ + 2, h => by cases h
    xi_InvalidJump := fun k b h => match k, h with | 0, h => by cases h; exact He.kitB1_ok (e 10 rfl) | 1, h => by cases h; exact He.kitB1_ok (e 11 rfl) | _ + 2, h => by cases h
    x_InvalidJump := PySem.XS.xtxt_ok (params := defArgs sx_InvalidJump) (bd := defBody sx_InvalidJump) (scope := defScope sx_InvalidJump) (pl := _) (c.xv_ 0) (e 7 rfl) rfl rfl (by decide) (by decide) rfl rfl (fun _ _ _ _ _ _ _ s y v => BindsTo.of_eq rfl) rfl rfl rfl (by decide +kernel) rfl rfl rfl rfl (fun fd fI hs w L v ⟨y, t, e1, e2⟩ => by subst e1; exact PySem.XS.msg_repr (by rw [hs]; rfl) (by rw [hs]; rfl) (by decide) e2) (fun env => rfl) (fun env => rfl) (fun env => rfl)
    x_InvalidRow := PySem.XS.xtxt_ok (params := defArgs sx_InvalidRow) (bd := defBody sx_InvalidRow) (scope := defScope sx_InvalidRow) (pl := _) (c.xv_ 1) (e 8 rfl) rfl rfl (by decide) (by decide) rfl rfl (fun _ _ _ _ _ _ _ s y v => BindsTo.of_eq rfl) rfl rfl rfl (by decide +kernel) rfl rfl rfl rfl (fun fd fI hs w L v ⟨y, t, e1, e2⟩ => by subst e1; exact PySem.XS.msg_repr (by rw [hs]; rfl) (by rw [hs]; rfl) (by decide) e2) (fun env => rfl) (fun env => rfl) (fun env => rfl)
  }
theorem ends {w : World} {K : PySem.W.Frag} {h : Heap} {mg : Str → Option Value} {f : Addr} (X : K.In h) (G : h.Ns mainGlobals mg) (hf : mg ("law" : Str) = some (.ref f)) (c : He.SaysL fas fns xss xvs tbs exb w K) :
    ∃ fd : FuncData, (∀ (s : Shared) (v : Value), BindsTo s fd ⟨[v], []⟩ [("script", v)]) ∧ ∀ base : Heap, K.In base → base.Ns mainGlobals mg → FnOk P w K mg base (L2.CX P w) 8 f fd ["script"] (spF (Gof K) K [false] 4 m_law) := by
  have e : ∀ i : Nat, (exl K)[i]? = none ∨ (exl K)[i]? = some true := fun i => by
    cases q : (exl K)[i]? with
    | none => exact .inl rfl
    | some b => exact .inr (congrArg some (List.all_eq_true.mp c.more b (List.mem_of_getElem? q)))
  have e : ∀ (i : Nat) {b : Bool}, (exl K)[i]? = some b → b = true := fun i b q => by rcases e i with z | z <;> rw [q] at z <;> cases z <;> rfl
  have T := fs_ok X G c
  obtain ⟨fd__law_take, D__law_take⟩ := c.def_ 0 (d := ⟨fun K => He.ga K "_law_take", "_law_take", "_law_take", defArgs st__law_take, defBody st__law_take, defScope st__law_take, [], []⟩) rfl
  have F__law_take := fun base : Heap => f__law_take (w := w) (base := base) T D__law_take
  have c__law_take : ∀ base : Heap, Cal P w K mg base (Gof K) "_law_take" 1 ["box", "many"] [true, false] 2 m__law_take := fun base => ⟨_, fd__law_take, He.glo_ok X G (c.fact 0 (f := .glo "_law_take") rfl), F__law_take base, D__law_take.kp, D__law_take.bindsN fun _ _ _ _ _ _ us hl => match us, hl with | [_, _], _ => rfl⟩
  obtain ⟨fd__law_bend, D__law_bend⟩ := c.def_ 1 (d := ⟨fun K => He.ga K "_law_bend", "_law_bend", "_law_bend", defArgs st__law_bend, defBody st__law_bend, defScope st__law_bend, [], []⟩) rfl
  have F__law_bend := fun base : Heap => f__law_bend (w := w) (base := base) T (c__law_take base) D__law_bend
  have c__law_bend : ∀ base : Heap, Cal P w K mg base (Gof K) "_law_bend" 2 ["box", "text"] [true, false] 4 m__law_bend := fun base => ⟨_, fd__law_bend, He.glo_ok X G (c.fact 1 (f := .glo "_law_bend") rfl), F__law_bend base, D__law_bend.kp, D__law_bend.bindsN fun _ _ _ _ _ _ us hl => match us, hl with | [_, _], _ => rfl⟩
  obtain ⟨fd__law_cell, D__law_cell⟩ := c.def_ 2 (d := ⟨fun K => He.ga K "_law_cell", "_law_cell", "_law_cell", defArgs st__law_cell, defBody st__law_cell, defScope st__law_cell, [], []⟩) rfl
  have F__law_cell := fun base : Heap => f__law_cell (w := w) (base := base) T D__law_cell
  have c__law_cell : ∀ base : Heap, Cal P w K mg base (Gof K) "_law_cell" 1 ["script", "at"] [false, false] 0 m__law_cell := fun base => ⟨_, fd__law_cell, He.glo_ok X G (c.fact 2 (f := .glo "_law_cell") rfl), F__law_cell base, D__law_cell.kp, D__law_cell.bindsN fun _ _ _ _ _ _ us hl => match us, hl with | [_, _], _ => rfl⟩
  obtain ⟨fd__law_box, D__law_box⟩ := c.def_ 3 (d := ⟨fun K => He.ga K "_law_box", "_law_box", "_law_box", defArgs st__law_box, defBody st__law_box, defScope st__law_box, [], []⟩) rfl
  have F__law_box := fun base : Heap => f__law_box (w := w) (base := base) T (c__law_cell base) D__law_box
  have c__law_box : ∀ base : Heap, Cal P w K mg base (Gof K) "_law_box" 2 ["script", "at"] [false, false] 2 m__law_box := fun base => ⟨_, fd__law_box, He.glo_ok X G (c.fact 3 (f := .glo "_law_box") rfl), F__law_box base, D__law_box.kp, D__law_box.bindsN fun _ _ _ _ _ _ us hl => match us, hl with | [_, _], _ => rfl⟩
  obtain ⟨fd__law_is_jump, D__law_is_jump⟩ := c.def_ 4 (d := ⟨fun K => He.ga K "_law_is_jump", "_law_is_jump", "_law_is_jump", defArgs st__law_is_jump, defBody st__law_is_jump, defScope st__law_is_jump, [], []⟩) rfl
  have F__law_is_jump := fun base : Heap => f__law_is_jump (w := w) (base := base) T D__law_is_jump
  have c__law_is_jump : ∀ base : Heap, Cal P w K mg base (Gof K) "_law_is_jump" 1 ["before", "after", "way"] [false, false, false] 2 m__law_is_jump := fun base => ⟨_, fd__law_is_jump, He.glo_ok X G (c.fact 4 (f := .glo "_law_is_jump") rfl), F__law_is_jump base, D__law_is_jump.kp, D__law_is_jump.bindsN fun _ _ _ _ _ _ us hl => match us, hl with | [_, _, _], _ => rfl⟩
  obtain ⟨fd_Jump_eq, D_Jump_eq⟩ := c.def_ 5 (d := ⟨fun K => He.ma K (He.ga K "Jump") "__eq__", "__eq__", "Jump.__eq__", defArgs st_Jump_eq, defBody st_Jump_eq, defScope st_Jump_eq, [], []⟩) rfl
  have F_Jump_eq := fun base : Heap => f_Jump_eq (w := w) (base := base) T D_Jump_eq
  have cm_Jump_eq : ∀ base : Heap, CalM P w K mg base (Gof K) 2 "__eq__" 1 ["self", "other"] [false, false] 0 m_Jump_eq := fun base => ⟨_, fd_Jump_eq, He.cls_ok (c.fact 28 (f := .cls "Jump") rfl), He.meth_ok (c.fact 55 (f := .meth "Jump" "__eq__") rfl), F_Jump_eq base, D_Jump_eq.bindsN fun _ _ _ _ _ _ us hl => match us, hl with | [_, _], _ => rfl⟩
  obtain ⟨fd_is_after, D_is_after⟩ := c.def_ 6 (d := ⟨fun K => He.ga K "is_after", "is_after", "is_after", defArgs st_is_after, defBody st_is_after, defScope st_is_after, [], []⟩) rfl
  have F_is_after := fun base : Heap => f_is_after (w := w) (base := base) T D_is_after
  have c_is_after : ∀ base : Heap, Cal P w K mg base (Gof K) "is_after" 1 ["window"] [false] 1 m_is_after := fun base => ⟨_, fd_is_after, He.glo_ok X G (c.fact 5 (f := .glo "is_after") rfl), F_is_after base, D_is_after.kp, D_is_after.bindsN fun _ _ _ _ _ _ us hl => match us, hl with | [_], _ => rfl⟩
  obtain ⟨fd_is_before, D_is_before⟩ := c.def_ 7 (d := ⟨fun K => He.ga K "is_before", "is_before", "is_before", defArgs st_is_before, defBody st_is_before, defScope st_is_before, [], []⟩) rfl
  have F_is_before := fun base : Heap => f_is_before (w := w) (base := base) T D_is_before
  have c_is_before : ∀ base : Heap, Cal P w K mg base (Gof K) "is_before" 1 ["window"] [false] 1 m_is_before := fun base => ⟨_, fd_is_before, He.glo_ok X G (c.fact 6 (f := .glo "is_before") rfl), F_is_before base, D_is_before.kp, D_is_before.bindsN fun _ _ _ _ _ _ us hl => match us, hl with | [_], _ => rfl⟩
  obtain ⟨fd_is_jump, D_is_jump⟩ := c.def_ 8 (d := ⟨fun K => He.ga K "is_jump", "is_jump", "is_jump", defArgs st_is_jump, defBody st_is_jump, defScope st_is_jump, [], []⟩) rfl
  have F_is_jump := fun base : Heap => f_is_jump (w := w) (base := base) T (c_is_before base) (c_is_after base) D_is_jump
  have c_is_jump : ∀ base : Heap, Cal P w K mg base (Gof K) "is_jump" 2 ["before", "after", "ways"] [false, false, false] 0 m_is_jump := fun base => ⟨_, fd_is_jump, He.glo_ok X G (c.fact 7 (f := .glo "is_jump") rfl), F_is_jump base, D_is_jump.kp, D_is_jump.bindsN fun _ _ _ _ _ _ us hl => match us, hl with | [_, _, _], _ => rfl⟩
  obtain ⟨fd_Jump_init, D_Jump_init⟩ := c.def_ 9 (d := ⟨fun K => He.ma K (He.ga K "Jump") "__init__", "__init__", "Jump.__init__", defArgs st_Jump_init, defBody st_Jump_init, defScope st_Jump_init, [.str "right"], []⟩) rfl
  have F_Jump_init := fun base : Heap => f_Jump_init (w := w) (base := base) T (c_is_jump base) D_Jump_init
  have ci_Jump_init : ∀ base : Heap, CalI P w K mg base (Gof K) "Jump" 2 3 ["self", "before", "after", "ways"] [[.str [114, 105, 103, 104, 116]], []] [false, false, false] 0 m_Jump_init := fun base => ⟨_, fd_Jump_init, He.glo_ok X G (c.fact 51 (f := .glo "Jump") rfl), He.mkr_ok (c.fact 56 (f := .mkr "Jump") rfl), F_Jump_init base, fun dds h => (by simp only [List.mem_cons, List.not_mem_nil, or_false] at h; rcases h with rfl | rfl; exact ⟨rfl, (Exists.imp (fun _ h => ⟨h.2, h.1⟩) (D_Jump_init.binds1 3 0 (List.cons_ne_nil _ _) rfl fun _ _ _ _ _ _ _ us its hu hi => match us, its, hu, hi with | [_, _, _], [_], _, _ => ⟨_, rfl, rfl⟩))⟩; exact ⟨rfl, (Exists.imp (fun _ h => ⟨h.2, h.1⟩) (D_Jump_init.binds1 4 1 (List.cons_ne_nil _ _) rfl fun _ _ _ _ _ _ _ us its hu hi => match us, its, hu, hi with | [_, _, _, _], [_], _, _ => ⟨_, rfl, rfl⟩))⟩)⟩
  have cik_Jump_init_0 : ∀ base : Heap, CalIK P w K mg base (Gof K) "Jump" 2 3 ["self", "before", "after", "ways"] [false, false, false] 0 m_Jump_init 2 ["ways"] [none] := fun base => Exists.elim (kbn_of D_Jump_init 3 ["ways"] [none] [none] (List.cons_ne_nil _ _) (by simp [tplRel, cV]) fun _ _ _ _ _ _ _ us its ws hu hi hw => match us, its, ws, hu, hi, hw with | [_, _, _], [_], [_], _, _, _ => ⟨_, rfl, rfl⟩) fun g hb => ⟨_, fd_Jump_init, g, He.glo_ok X G (c.fact 51 (f := .glo "Jump") rfl), He.mkr_ok (c.fact 56 (f := .mkr "Jump") rfl), F_Jump_init base, hb⟩
  obtain ⟨fd_Jump_mirrored, D_Jump_mirrored⟩ := c.def_ 10 (d := ⟨fun K => He.ma K (He.ga K "Jump") "mirrored", "mirrored", "Jump.mirrored", defArgs st_Jump_mirrored, defBody st_Jump_mirrored, defScope st_Jump_mirrored, [], []⟩) rfl
  have F_Jump_mirrored := fun base : Heap => f_Jump_mirrored (w := w) (base := base) T (ci_Jump_init base) D_Jump_mirrored
  have cm_Jump_mirrored : ∀ base : Heap, CalM P w K mg base (Gof K) 2 "mirrored" 5 ["self"] [false] 0 m_Jump_mirrored := fun base => ⟨_, fd_Jump_mirrored, He.cls_ok (c.fact 28 (f := .cls "Jump") rfl), He.meth_ok (c.fact 57 (f := .meth "Jump" "mirrored") rfl), F_Jump_mirrored base, D_Jump_mirrored.bindsN fun _ _ _ _ _ _ us hl => match us, hl with | [_], _ => rfl⟩
  obtain ⟨fd_check_row, D_check_row⟩ := c.def_ 11 (d := ⟨fun K => He.ga K "check_row", "check_row", "check_row", defArgs st_check_row, defBody st_check_row, defScope st_check_row, [], []⟩) rfl
  have F_check_row := fun base : Heap => f_check_row (w := w) (base := base) T D_check_row
  have c_check_row : ∀ base : Heap, Cal P w K mg base (Gof K) "check_row" 2 ["row", "signs"] [false, false] 1 m_check_row := fun base => ⟨_, fd_check_row, He.glo_ok X G (c.fact 8 (f := .glo "check_row") rfl), F_check_row base, D_check_row.kp, D_check_row.bindsN fun _ _ _ _ _ _ us hl => match us, hl with | [_, _], _ => rfl⟩
  obtain ⟨fd_mirror, D_mirror⟩ := c.def_ 12 (d := ⟨fun K => He.ga K "mirror", "mirror", "mirror", defArgs st_mirror, defBody st_mirror, defScope st_mirror, [], []⟩) rfl
  have F_mirror := fun base : Heap => f_mirror (w := w) (base := base) T (c_check_row base) D_mirror
  have c_mirror : ∀ base : Heap, Cal P w K mg base (Gof K) "mirror" 3 ["row"] [false] 0 m_mirror := fun base => ⟨_, fd_mirror, He.glo_ok X G (c.fact 9 (f := .glo "mirror") rfl), F_mirror base, D_mirror.kp, D_mirror.bindsN fun _ _ _ _ _ _ us hl => match us, hl with | [_], _ => rfl⟩
  obtain ⟨fd_Jump_windows, D_Jump_windows⟩ := c.def_ 13 (d := ⟨fun K => He.ma K (He.ga K "Jump") "windows", "windows", "Jump.windows", defArgs st_Jump_windows, defBody st_Jump_windows, defScope st_Jump_windows, [], []⟩) rfl
  have F_Jump_windows := fun base : Heap => f_Jump_windows (w := w) (base := base) T (c_mirror base) D_Jump_windows
  have cm_Jump_windows : ∀ base : Heap, CalM P w K mg base (Gof K) 2 "windows" 4 ["self"] [false] 1 m_Jump_windows := fun base => ⟨_, fd_Jump_windows, He.cls_ok (c.fact 28 (f := .cls "Jump") rfl), He.meth_ok (c.fact 58 (f := .meth "Jump" "windows") rfl), F_Jump_windows base, D_Jump_windows.bindsN fun _ _ _ _ _ _ us hl => match us, hl with | [_], _ => rfl⟩
  obtain ⟨fd__law_text, D__law_text⟩ := c.def_ 14 (d := ⟨fun K => He.ga K "_law_text", "_law_text", "_law_text", defArgs st__law_text, defBody st__law_text, defScope st__law_text, [], []⟩) rfl
  have FW__law_text := fun base : Heap => fw__law_text (w := w) (base := base) T D__law_text
  have F__law_text := fun base : Heap => f__law_text (w := w) (base := base) T D__law_text
  have c__law_text : ∀ base : Heap, Cal P w K mg base (Gof K) "_law_text" 1 ["told", "due"] [false, false] 0 m__law_text := fun base => ⟨_, fd__law_text, He.glo_ok X G (c.fact 10 (f := .glo "_law_text") rfl), F__law_text base, D__law_text.kp, D__law_text.bindsN fun _ _ _ _ _ _ us hl => match us, hl with | [_, _], _ => rfl⟩
  have cw__law_text : ∀ base : Heap, CalW P w K mg base (Gof K) "_law_text" 1 ["told", "due"] [false, false] 0 m__law_text := fun base => ⟨_, fd__law_text, He.glo_ok X G (c.fact 10 (f := .glo "_law_text") rfl), FW__law_text base, D__law_text.kp, D__law_text.bindsN fun _ _ _ _ _ _ us hl => match us, hl with | [_, _], _ => rfl⟩
  obtain ⟨fd__law_image, D__law_image⟩ := c.def_ 15 (d := ⟨fun K => He.ga K "_law_image", "_law_image", "_law_image", defArgs st__law_image, defBody st__law_image, defScope st__law_image, [], []⟩) rfl
  have F__law_image := fun base : Heap => f__law_image (w := w) (base := base) T D__law_image
  have c__law_image : ∀ base : Heap, Cal P w K mg base (Gof K) "_law_image" 1 ["row"] [false] 1 m__law_image := fun base => ⟨_, fd__law_image, He.glo_ok X G (c.fact 11 (f := .glo "_law_image") rfl), F__law_image base, D__law_image.kp, D__law_image.bindsN fun _ _ _ _ _ _ us hl => match us, hl with | [_], _ => rfl⟩
  obtain ⟨fd__law_windows, D__law_windows⟩ := c.def_ 16 (d := ⟨fun K => He.ga K "_law_windows", "_law_windows", "_law_windows", defArgs st__law_windows, defBody st__law_windows, defScope st__law_windows, [], []⟩) rfl
  have F__law_windows := fun base : Heap => f__law_windows (w := w) (base := base) T (c__law_image base) D__law_windows
  have c__law_windows : ∀ base : Heap, Cal P w K mg base (Gof K) "_law_windows" 2 ["triple"] [false] 1 m__law_windows := fun base => ⟨_, fd__law_windows, He.glo_ok X G (c.fact 12 (f := .glo "_law_windows") rfl), F__law_windows base, D__law_windows.kp, D__law_windows.bindsN fun _ _ _ _ _ _ us hl => match us, hl with | [_], _ => rfl⟩
  obtain ⟨fd__law_listed, D__law_listed⟩ := c.def_ 17 (d := ⟨fun K => He.ga K "_law_listed", "_law_listed", "_law_listed", defArgs st__law_listed, defBody st__law_listed, defScope st__law_listed, [], []⟩) rfl
  have F__law_listed := fun base : Heap => f__law_listed (w := w) (base := base) T (c__law_windows base) (c__law_text base) D__law_listed
  have c__law_listed : ∀ base : Heap, Cal P w K mg base (Gof K) "_law_listed" 3 ["told", "triple"] [false, false] 2 m__law_listed := fun base => ⟨_, fd__law_listed, He.glo_ok X G (c.fact 13 (f := .glo "_law_listed") rfl), F__law_listed base, D__law_listed.kp, D__law_listed.bindsN fun _ _ _ _ _ _ us hl => match us, hl with | [_, _], _ => rfl⟩
  obtain ⟨fd_Jump_str, D_Jump_str⟩ := c.def_ 18 (d := ⟨fun K => He.ma K (He.ga K "Jump") "__str__", "__str__", "Jump.__str__", defArgs st_Jump_str, defBody st_Jump_str, defScope st_Jump_str, [], []⟩) rfl
  have F_Jump_str := fun base : Heap => f_Jump_str (w := w) (base := base) T D_Jump_str
  have cm_Jump_str : ∀ base : Heap, CalM P w K mg base (Gof K) 2 "__str__" 1 ["self"] [false] 0 m_Jump_str := fun base => ⟨_, fd_Jump_str, He.cls_ok (c.fact 28 (f := .cls "Jump") rfl), He.meth_ok (c.fact 59 (f := .meth "Jump" "__str__") rfl), F_Jump_str base, D_Jump_str.bindsN fun _ _ _ _ _ _ us hl => match us, hl with | [_], _ => rfl⟩
  obtain ⟨fd__law_written, D__law_written⟩ := c.def_ 19 (d := ⟨fun K => He.ga K "_law_written", "_law_written", "_law_written", defArgs st__law_written, defBody st__law_written, defScope st__law_written, [], []⟩) rfl
  have F__law_written := fun base : Heap => f__law_written (w := w) (base := base) T D__law_written
  have c__law_written : ∀ base : Heap, Cal P w K mg base (Gof K) "_law_written" 1 ["triple"] [false] 0 m__law_written := fun base => ⟨_, fd__law_written, He.glo_ok X G (c.fact 14 (f := .glo "_law_written") rfl), F__law_written base, D__law_written.kp, D__law_written.bindsN fun _ _ _ _ _ _ us hl => match us, hl with | [_], _ => rfl⟩
  obtain ⟨fd__law_shown, D__law_shown⟩ := c.def_ 20 (d := ⟨fun K => He.ga K "_law_shown", "_law_shown", "_law_shown", defArgs st__law_shown, defBody st__law_shown, defScope st__law_shown, [], []⟩) rfl
  have F__law_shown := fun base : Heap => f__law_shown (w := w) (base := base) T (c__law_text base) (cm_Jump_str base) (c__law_written base) D__law_shown
  have c__law_shown : ∀ base : Heap, Cal P w K mg base (Gof K) "_law_shown" 4 ["jump", "triple"] [false, false] 0 m__law_shown := fun base => ⟨_, fd__law_shown, He.glo_ok X G (c.fact 15 (f := .glo "_law_shown") rfl), F__law_shown base, D__law_shown.kp, D__law_shown.bindsN fun _ _ _ _ _ _ us hl => match us, hl with | [_, _], _ => rfl⟩
  obtain ⟨fd__law_swapped, D__law_swapped⟩ := c.def_ 21 (d := ⟨fun K => He.ga K "_law_swapped", "_law_swapped", "_law_swapped", defArgs st__law_swapped, defBody st__law_swapped, defScope st__law_swapped, [], []⟩) rfl
  have F__law_swapped := fun base : Heap => f__law_swapped (w := w) (base := base) T D__law_swapped
  have c__law_swapped : ∀ base : Heap, Cal P w K mg base (Gof K) "_law_swapped" 1 ["triple"] [false] 0 m__law_swapped := fun base => ⟨_, fd__law_swapped, He.glo_ok X G (c.fact 16 (f := .glo "_law_swapped") rfl), F__law_swapped base, D__law_swapped.kp, D__law_swapped.bindsN fun _ _ _ _ _ _ us hl => match us, hl with | [_], _ => rfl⟩
  obtain ⟨fd__law_jump_asked, D__law_jump_asked⟩ := c.def_ 22 (d := ⟨fun K => He.ga K "_law_jump_asked", "_law_jump_asked", "_law_jump_asked", defArgs st__law_jump_asked, defBody st__law_jump_asked, defScope st__law_jump_asked, [], []⟩) rfl
  have F__law_jump_asked := fun base : Heap => f__law_jump_asked (w := w) (base := base) T (cm_Jump_windows base) (c__law_shown base) (c__law_listed base) (cm_Jump_mirrored base) (c__law_swapped base) (cm_Jump_eq base) D__law_jump_asked
  have c__law_jump_asked : ∀ base : Heap, Cal P w K mg base (Gof K) "_law_jump_asked" 6 ["jump", "triple"] [false, false] 3 m__law_jump_asked := fun base => ⟨_, fd__law_jump_asked, He.glo_ok X G (c.fact 17 (f := .glo "_law_jump_asked") rfl), F__law_jump_asked base, D__law_jump_asked.kp, D__law_jump_asked.bindsN fun _ _ _ _ _ _ us hl => match us, hl with | [_, _], _ => rfl⟩
  obtain ⟨fd__law_made, D__law_made⟩ := c.def_ 23 (d := ⟨fun K => He.ga K "_law_made", "_law_made", "_law_made", defArgs st__law_made, defBody st__law_made, defScope st__law_made, [], []⟩) rfl
  have F__law_made := fun base : Heap => f__law_made (w := w) (base := base) T (ci_Jump_init base) (cik_Jump_init_0 base) D__law_made
  have c__law_made : ∀ base : Heap, Cal P w K mg base (Gof K) "_law_made" 5 ["triple", "form"] [false, false] 0 m__law_made := fun base => ⟨_, fd__law_made, He.glo_ok X G (c.fact 18 (f := .glo "_law_made") rfl), F__law_made base, D__law_made.kp, D__law_made.bindsN fun _ _ _ _ _ _ us hl => match us, hl with | [_, _], _ => rfl⟩
  obtain ⟨fd__law_class_asked, D__law_class_asked⟩ := c.def_ 24 (d := ⟨fun K => He.ga K "_law_class_asked", "_law_class_asked", "_law_class_asked", defArgs st__law_class_asked, defBody st__law_class_asked, defScope st__law_class_asked, [], []⟩) rfl
  have F__law_class_asked := fun base : Heap => f__law_class_asked (w := w) (base := base) T (c__law_is_jump base) (c__law_made base) (cw__law_text base) (c__law_jump_asked base) D__law_class_asked
  have c__law_class_asked : ∀ base : Heap, Cal P w K mg base (Gof K) "_law_class_asked" 7 ["triple", "form"] [false, false] 3 m__law_class_asked := fun base => ⟨_, fd__law_class_asked, He.glo_ok X G (c.fact 19 (f := .glo "_law_class_asked") rfl), F__law_class_asked base, D__law_class_asked.kp, D__law_class_asked.bindsN fun _ _ _ _ _ _ us hl => match us, hl with | [_, _], _ => rfl⟩
  obtain ⟨fd__law_good, D__law_good⟩ := c.def_ 25 (d := ⟨fun K => He.ga K "_law_good", "_law_good", "_law_good", defArgs st__law_good, defBody st__law_good, defScope st__law_good, [], []⟩) rfl
  have F__law_good := fun base : Heap => f__law_good (w := w) (base := base) T (c__law_take base) D__law_good
  have c__law_good : ∀ base : Heap, Cal P w K mg base (Gof K) "_law_good" 2 ["box"] [true] 4 m__law_good := fun base => ⟨_, fd__law_good, He.glo_ok X G (c.fact 20 (f := .glo "_law_good") rfl), F__law_good base, D__law_good.kp, D__law_good.bindsN fun _ _ _ _ _ _ us hl => match us, hl with | [_], _ => rfl⟩
  obtain ⟨fd__law_loose, D__law_loose⟩ := c.def_ 26 (d := ⟨fun K => He.ga K "_law_loose", "_law_loose", "_law_loose", defArgs st__law_loose, defBody st__law_loose, defScope st__law_loose, [], []⟩) rfl
  have F__law_loose := fun base : Heap => f__law_loose (w := w) (base := base) T (c__law_take base) D__law_loose
  have c__law_loose : ∀ base : Heap, Cal P w K mg base (Gof K) "_law_loose" 2 ["box", "most"] [true, false] 2 m__law_loose := fun base => ⟨_, fd__law_loose, He.glo_ok X G (c.fact 21 (f := .glo "_law_loose") rfl), F__law_loose base, D__law_loose.kp, D__law_loose.bindsN fun _ _ _ _ _ _ us hl => match us, hl with | [_, _], _ => rfl⟩
  obtain ⟨fd__law_odd_way, D__law_odd_way⟩ := c.def_ 27 (d := ⟨fun K => He.ga K "_law_odd_way", "_law_odd_way", "_law_odd_way", defArgs st__law_odd_way, defBody st__law_odd_way, defScope st__law_odd_way, [], []⟩) rfl
  have F__law_odd_way := fun base : Heap => f__law_odd_way (w := w) (base := base) T (c__law_take base) (c__law_bend base) D__law_odd_way
  have c__law_odd_way : ∀ base : Heap, Cal P w K mg base (Gof K) "_law_odd_way" 3 ["box"] [true] 1 m__law_odd_way := fun base => ⟨_, fd__law_odd_way, He.glo_ok X G (c.fact 22 (f := .glo "_law_odd_way") rfl), F__law_odd_way base, D__law_odd_way.kp, D__law_odd_way.bindsN fun _ _ _ _ _ _ us hl => match us, hl with | [_], _ => rfl⟩
  obtain ⟨fd__law_drawn, D__law_drawn⟩ := c.def_ 28 (d := ⟨fun K => He.ga K "_law_drawn", "_law_drawn", "_law_drawn", defArgs st__law_drawn, defBody st__law_drawn, defScope st__law_drawn, [], []⟩) rfl
  have F__law_drawn := fun base : Heap => f__law_drawn (w := w) (base := base) T (c__law_good base) (c__law_take base) (c__law_bend base) (c__law_loose base) (c__law_odd_way base) D__law_drawn
  have c__law_drawn : ∀ base : Heap, Cal P w K mg base (Gof K) "_law_drawn" 4 ["box"] [true] 4 m__law_drawn := fun base => ⟨_, fd__law_drawn, He.glo_ok X G (c.fact 23 (f := .glo "_law_drawn") rfl), F__law_drawn base, D__law_drawn.kp, D__law_drawn.bindsN fun _ _ _ _ _ _ us hl => match us, hl with | [_], _ => rfl⟩
  obtain ⟨fd_Jump_read, D_Jump_read⟩ := c.def_ 29 (d := ⟨fun K => He5.wf K (He.ga K "Jump") "staticmethod" "read", "read", "Jump.read", defArgs st_Jump_read, defBody st_Jump_read, defScope st_Jump_read, [], []⟩) rfl
  have F_Jump_read := fun base : Heap => f_Jump_read (w := w) (base := base) T (c_is_jump base) (ci_Jump_init base) D_Jump_read
  have cs_Jump_read : ∀ base : Heap, CalS P w K mg base (Gof K) "Jump" 2 "read" 5 ["text"] [false] 4 m_Jump_read := fun base => ⟨_, fd_Jump_read, _, He.glo_ok X G (c.fact 51 (f := .glo "Jump") rfl), (He.crdB_ok (e 12 rfl)).1, (He.crdB_ok (e 12 rfl)).2.1, (He.crdB_ok (e 12 rfl)).2.2, D_Jump_read.kp, F_Jump_read base, D_Jump_read.bindsN fun _ _ _ _ _ _ us hl => match us, hl with | [_], _ => rfl⟩
  obtain ⟨fd__law_read, D__law_read⟩ := c.def_ 30 (d := ⟨fun K => He.ga K "_law_read", "_law_read", "_law_read", defArgs st__law_read, defBody st__law_read, defScope st__law_read, [], []⟩) rfl
  have F__law_read := fun base : Heap => f__law_read (w := w) (base := base) T (c__law_is_jump base) D__law_read
  have c__law_read : ∀ base : Heap, Cal P w K mg base (Gof K) "_law_read" 2 ["text"] [false] 2 m__law_read := fun base => ⟨_, fd__law_read, He.glo_ok X G (c.fact 24 (f := .glo "_law_read") rfl), F__law_read base, D__law_read.kp, D__law_read.bindsN fun _ _ _ _ _ _ us hl => match us, hl with | [_], _ => rfl⟩
  obtain ⟨fd__law_read_asked, D__law_read_asked⟩ := c.def_ 31 (d := ⟨fun K => He.ga K "_law_read_asked", "_law_read_asked", "_law_read_asked", defArgs st__law_read_asked, defBody st__law_read_asked, defScope st__law_read_asked, [], []⟩) rfl
  have F__law_read_asked := fun base : Heap => f__law_read_asked (w := w) (base := base) T (c__law_read base) (cs_Jump_read base) (cw__law_text base) (c__law_jump_asked base) D__law_read_asked
  have c__law_read_asked : ∀ base : Heap, Cal P w K mg base (Gof K) "_law_read_asked" 7 ["text"] [false] 3 m__law_read_asked := fun base => ⟨_, fd__law_read_asked, He.glo_ok X G (c.fact 25 (f := .glo "_law_read_asked") rfl), F__law_read_asked base, D__law_read_asked.kp, D__law_read_asked.bindsN fun _ _ _ _ _ _ us hl => match us, hl with | [_], _ => rfl⟩
  obtain ⟨fd__law_twins, D__law_twins⟩ := c.def_ 32 (d := ⟨fun K => He.ga K "_law_twins", "_law_twins", "_law_twins", defArgs st__law_twins, defBody st__law_twins, defScope st__law_twins, [], []⟩) rfl
  have F__law_twins := fun base : Heap => f__law_twins (w := w) (base := base) T (c__law_take base) (c__law_good base) (ci_Jump_init base) (c__law_written base) (cs_Jump_read base) (cm_Jump_eq base) (c__law_shown base) D__law_twins
  have c__law_twins : ∀ base : Heap, Cal P w K mg base (Gof K) "_law_twins" 6 ["box", "triple"] [true, false] 7 m__law_twins := fun base => ⟨_, fd__law_twins, He.glo_ok X G (c.fact 26 (f := .glo "_law_twins") rfl), F__law_twins base, D__law_twins.kp, D__law_twins.bindsN fun _ _ _ _ _ _ us hl => match us, hl with | [_, _], _ => rfl⟩
  obtain ⟨fd_law, D_law⟩ := c.def_ 33 (d := ⟨fun K => He.ga K "law", "law", "law", defArgs st_law, defBody st_law, defScope st_law, [], []⟩) rfl
  have hq := hf.symm.trans (He.glo_ok X G (c.fact 27 (f := .glo "law") rfl))
  cases hq
  have b := FunD.bindsA (ps := ["script"]) D_law fun _ _ _ _ _ _ us hl => match us, hl with | [_], _ => rfl
  exact ⟨fd_law, fun s v => b s [v] rfl, fun base _ _ => fnD_ok D_law sc_law rfl rfl (fun cdv A outer s H E hr Ac oG oK => d_law T (c__law_box base) (c__law_drawn base) (c__law_take base) (c__law_class_asked base) (c__law_good base) (c__law_written base) (c__law_read_asked base) (c__law_twins base) (c__law_bend base) (c__law_loose base) cdv A outer s H E hr Ac oG oK)⟩
end K03
end Lc
end
section
set_option Elab.async false
set_option linter.all false
set_option maxRecDepth 100000
set_option maxHeartbeats 4000000
namespace Lc
namespace K03
open PySem L2
/-! ### boxes -/
def boxD (a b c : Int) : D := .nd .lst .own [.int a, .int b, .int c]
theorem take0 (a b c m : Int) (ha : 0 < a) (hm : 0 < m) (hm2 : m.natAbs.log2 < 9000) : F__law_take [boxD a b c, .int m] = .ret (.int (a % m)) [boxD (a / m) b c] := by
  simp [F__law_take, m__law_take, ha, hm, hm2, runF, eAnd, sExpr, tNotT, chgs, initC, inits, locks, boxD, sSeq, sIf, sSetI, sSet, sRet, sExpr, tOfE, tTru, tNotT, tAndT, tOrT, truth, eOp, eArgs, eN, eC, eIx, eMv, eCall, lockE, unlockE, unlocks, valsOf, val, getP, noOwn, noOwnL, ixAt, ixN, fGt, fGe, fLt, fLe, fOr, fII, gB, gMod, gDiv, gAdd, gSub, gMul, okDiv, okMul_mod, fAdd, fMul, fCatS, fInt1, nodeAt, fSetL, mutAt, Mut.ok, setJs, lkOk, chgOf, updC, updS, setP, pick, outs, noBor, noBorL, dropAl, Ctx.kr, Chg.dead, strip, keepJ, sNx, bor, borL, List.range, List.range.loop, okM, okB, rootsM]
def mix1 (b c : Int) : Int := (c * 48271 + (b + 1) * 69623 + 12347) % 2147483647
def mix2 (b c : Int) : Int := (mix1 b c * mix1 b c + (b + 1) * 40709) % 2147483629
def mix3 (b c : Int) : Int := (mix2 b c * mix2 b c + c * 7919 + 31) % 2147483587
theorem take1 (a b c m : Int) (ha : ¬ 0 < a) (hm : 0 < m) : F__law_take [boxD a b c, .int m] = .ret (.int (mix3 b c / 32 % m)) [boxD a (b + 1) c] := by
  have hl : Nat.log2 32 < 9000 := by decide
  simp [F__law_take, m__law_take, ha, hm, mix1, mix2, mix3, okMul_c, hl, runF, eAnd, sExpr, tNotT, chgs, initC, inits, locks, boxD, sSeq, sIf, sSetI, sSet, sRet, sExpr, tOfE, tTru, tNotT, tAndT, tOrT, truth, eOp, eArgs, eN, eC, eIx, eMv, eCall, lockE, unlockE, unlocks, valsOf, val, getP, noOwn, noOwnL, ixAt, ixN, fGt, fGe, fLt, fLe, fOr, fII, gB, gMod, gDiv, gAdd, gSub, gMul, okDiv, okMul_mod, fAdd, fMul, fCatS, fInt1, nodeAt, fSetL, mutAt, Mut.ok, setJs, lkOk, chgOf, updC, updS, setP, pick, outs, noBor, noBorL, dropAl, Ctx.kr, Chg.dead, strip, keepJ, sNx, bor, borL, List.range, List.range.loop, okM, okB, rootsM]
theorem take (a b c m : Int) (hm : 0 < m) (hm2 : m.natAbs.log2 < 9000) : ∃ r a' b', F__law_take [boxD a b c, .int m] = .ret (.int r) [boxD a' b' c] ∧ 0 ≤ r ∧ r < m := by
  by_cases ha : 0 < a
  · exact ⟨_, _, _, take0 a b c m ha hm hm2, Int.emod_nonneg _ (by omega), Int.emod_lt_of_pos _ hm⟩
  · exact ⟨_, _, _, take1 a b c m ha hm, Int.emod_nonneg _ (by omega), Int.emod_lt_of_pos _ hm⟩
theorem takeX (a b c m : Int) (hm : 0 < m) (hm2 : m.natAbs.log2 < 9000) : ∃ r a' b', F__law_take [(.nd .lst .own [.int a, .int b, .int c]), .int m] = .ret (.int r) [(.nd .lst .own [.int a', .int b', .int c])] ∧ 0 ≤ r ∧ r < m := take a b c m hm hm2
theorem cell_is (ns : List Int) (i : Int) (h : ns.length ≤ 63) (h0 : 0 ≤ i) (hi : i < 60) : ∃ x, F__law_cell [scrD ns, .int i] = .ret (.int x) [] := by
  by_cases hk : i < ns.length
  · have h4 : i < (if (ns.length : Int) < 63 then (ns.length : Int) else 63) := by split <;> omega
    refine ⟨ns.getD i.toNat 0, ?_⟩
    have h5 : ns[i.toNat]? = some (ns.getD i.toNat 0) := by
      rw [List.getD_eq_getElem?_getD, List.getElem?_eq_getElem (by omega)]; rfl
    simp [F__law_cell, m__law_cell, scrD, borL_ints, fLen, fMin2, h4, hk, h0, h5, runF, eAnd, sExpr, tNotT, chgs, initC, inits, locks, boxD, sSeq, sIf, sSetI, sSet, sRet, sExpr, tOfE, tTru, tNotT, tAndT, tOrT, truth, eOp, eArgs, eN, eC, eIx, eMv, eCall, lockE, unlockE, unlocks, valsOf, val, getP, noOwn, noOwnL, ixAt, ixN, fGt, fGe, fLt, fLe, fOr, fII, gB, gMod, gDiv, gAdd, gSub, gMul, okDiv, okMul_mod, fAdd, fMul, fCatS, fInt1, nodeAt, fSetL, mutAt, Mut.ok, setJs, lkOk, chgOf, updC, updS, setP, pick, outs, noBor, noBorL, dropAl, Ctx.kr, Chg.dead, strip, keepJ, sNx, bor, borL, List.range, List.range.loop, okM, okB, rootsM]
  · have hl : Nat.log2 1000003 < 9000 := by decide
    have h4 : ¬ i < (if (ns.length : Int) < 63 then (ns.length : Int) else 63) := by split <;> omega
    refine ⟨(cut ns none (some 1)).sum % 1000003 * 7919 + i * 15485863 + 41, ?_⟩
    simp [F__law_cell, m__law_cell, scrD, borL_ints, fLen, fMin2, h4, fSlR, slD, noOwn_ints, cut_ints, fSum, listOf, ints_map, okMul_c, hl, runF, eAnd, sExpr, tNotT, chgs, initC, inits, locks, boxD, sSeq, sIf, sSetI, sSet, sRet, sExpr, tOfE, tTru, tNotT, tAndT, tOrT, truth, eOp, eArgs, eN, eC, eIx, eMv, eCall, lockE, unlockE, unlocks, valsOf, val, getP, noOwn, noOwnL, ixAt, ixN, fGt, fGe, fLt, fLe, fOr, fII, gB, gMod, gDiv, gAdd, gSub, gMul, okDiv, okMul_mod, fAdd, fMul, fCatS, fInt1, nodeAt, fSetL, mutAt, Mut.ok, setJs, lkOk, chgOf, updC, updS, setP, pick, outs, noBor, noBorL, dropAl, Ctx.kr, Chg.dead, strip, keepJ, sNx, bor, borL, List.range, List.range.loop, okM, okB, rootsM]
theorem box_is (ns : List Int) (i : Int) (h : ns.length ≤ 63) (h0 : 0 ≤ i) (hi : i < 60) : ∃ a c, F__law_box [scrD ns, .int i] = .ret (boxD a 0 c) [] := by
  obtain ⟨x, e⟩ := cell_is ns i h h0 hi
  rw [scrD] at e
  have hl : Nat.log2 2147483647 < 9000 := by decide
  by_cases hx : (1000000000000000000 : Int) ≤ x
  · refine ⟨x, (x + i * 104729) % 2147483647, ?_⟩
    simp [F__law_box, m__law_box, scrD, borL_ints, e, gPow, okPow, hx, eLst, allT, okMul_c, hl, runF, eAnd, sExpr, tNotT, chgs, initC, inits, locks, boxD, sSeq, sIf, sSetI, sSet, sRet, sExpr, tOfE, tTru, tNotT, tAndT, tOrT, truth, eOp, eArgs, eN, eC, eIx, eMv, eCall, lockE, unlockE, unlocks, valsOf, val, getP, noOwn, noOwnL, ixAt, ixN, fGt, fGe, fLt, fLe, fOr, fII, gB, gMod, gDiv, gAdd, gSub, gMul, okDiv, okMul_mod, fAdd, fMul, fCatS, fInt1, nodeAt, fSetL, mutAt, Mut.ok, setJs, lkOk, chgOf, updC, updS, setP, pick, outs, noBor, noBorL, dropAl, Ctx.kr, Chg.dead, strip, keepJ, sNx, bor, borL, List.range, List.range.loop, okM, okB, rootsM]
  · refine ⟨0, (x + i * 104729) % 2147483647, ?_⟩
    simp [F__law_box, m__law_box, scrD, borL_ints, e, gPow, okPow, hx, eLst, allT, okMul_c, hl, runF, eAnd, sExpr, tNotT, chgs, initC, inits, locks, boxD, sSeq, sIf, sSetI, sSet, sRet, sExpr, tOfE, tTru, tNotT, tAndT, tOrT, truth, eOp, eArgs, eN, eC, eIx, eMv, eCall, lockE, unlockE, unlocks, valsOf, val, getP, noOwn, noOwnL, ixAt, ixN, fGt, fGe, fLt, fLe, fOr, fII, gB, gMod, gDiv, gAdd, gSub, gMul, okDiv, okMul_mod, fAdd, fMul, fCatS, fInt1, nodeAt, fSetL, mutAt, Mut.ok, setJs, lkOk, chgOf, updC, updS, setP, pick, outs, noBor, noBorL, dropAl, Ctx.kr, Chg.dead, strip, keepJ, sNx, bor, borL, List.range, List.range.loop, okM, okB, rootsM]
theorem text_is (s t : List Nat) : F__law_text [.str s, .str t] = .ret (.bl (decide (s = t))) [] := by
  simp [F__law_text, m__law_text, fIsi, tyName, kitB, fEq, eqS, fB2, runF, eAnd, sExpr, tNotT, chgs, initC, inits, locks, boxD, sSeq, sIf, sSetI, sSet, sRet, sExpr, tOfE, tTru, tNotT, tAndT, tOrT, truth, eOp, eArgs, eN, eC, eIx, eMv, eCall, lockE, unlockE, unlocks, valsOf, val, getP, noOwn, noOwnL, ixAt, ixN, fGt, fGe, fLt, fLe, fOr, fII, gB, gMod, gDiv, gAdd, gSub, gMul, okDiv, okMul_mod, fAdd, fMul, fCatS, fInt1, nodeAt, fSetL, mutAt, Mut.ok, setJs, lkOk, chgOf, updC, updS, setP, pick, outs, noBor, noBorL, dropAl, Ctx.kr, Chg.dead, strip, keepJ, sNx, bor, borL, List.range, List.range.loop, okM, okB, rootsM]
end K03
end Lc
end
section
set_option Elab.async false
set_option linter.all false
set_option maxRecDepth 100000
set_option maxHeartbeats 4000000
namespace Lc
/-- a loop that may leave: what each item does -/
theorem for_no {t : Tg} {body : Ctx → SR} (C : Sl → Ctx) (bad : D → Bool) (r : D → Sl → SR) : ∀ (xs : List D) (y : Sl), (∀ x ∈ xs, ∀ y, bindT t x (C y) = some (C (.v x))) → (∀ x ∈ xs, body (C (.v x)) = if bad x then r x (.v x) else .nx (C (.v x))) → (∀ x ∈ xs, bad x = false) → ∃ y', forLoop t body xs (C y) = .nx (C y')
  | [], y, _, _, _ => ⟨y, by rw [forLoop]⟩
  | x :: xs, y, hb, hs, hn => by
    obtain ⟨y', e⟩ := for_no C bad r xs (.v x) (fun z hz => hb z (List.mem_cons_of_mem _ hz)) (fun z hz => hs z (List.mem_cons_of_mem _ hz)) (fun z hz => hn z (List.mem_cons_of_mem _ hz))
    refine ⟨y', ?_⟩
    rw [forLoop, hb x (List.mem_cons_self ..)]
    dsimp only
    rw [hs x (List.mem_cons_self ..), hn x (List.mem_cons_self ..)]
    exact e
theorem for_yes {t : Tg} {body : Ctx → SR} (C : Sl → Ctx) (bad : D → Bool) (v : D) : ∀ (xs : List D) (y : Sl), (∀ x ∈ xs, ∀ y, bindT t x (C y) = some (C (.v x))) → (∀ x ∈ xs, body (C (.v x)) = if bad x then .rt v (C (.v x)) else .nx (C (.v x))) → xs.any bad = true → ∃ y', forLoop t body xs (C y) = .rt v (C y')
  | [], y, _, _, hn => by cases hn
  | x :: xs, y, hb, hs, hn => by
    cases hx : bad x with
    | true =>
      refine ⟨.v x, ?_⟩
      rw [forLoop, hb x (List.mem_cons_self ..)]
      dsimp only
      rw [hs x (List.mem_cons_self ..), hx]
      rfl
    | false =>
      rw [List.any_cons, hx, Bool.false_or] at hn
      obtain ⟨y', e⟩ := for_yes C bad v xs (.v x) (fun z hz => hb z (List.mem_cons_of_mem _ hz)) (fun z hz => hs z (List.mem_cons_of_mem _ hz)) hn
      refine ⟨y', ?_⟩
      rw [forLoop, hb x (List.mem_cons_self ..)]
      dsimp only
      rw [hs x (List.mem_cons_self ..), hx]
      exact e
namespace K03
open PySem L2
def PEG : List Nat := [97, 98, 99, 100]
def pg (c : Nat) : Bool := decide (c ∈ PEG)
def l34 (n : Nat) : Bool := decide (n = 3) || decide (n = 4)
def bOk (b : List Nat) : Bool := l34 b.length && (decide (b.getD (b.length - 1) 0 = 46) && (b.take (b.length - 1)).all pg)
def aOk (a : List Nat) : Bool := l34 a.length && (decide (a.getD 0 0 = 46) && a.all fun c => decide (c = 46) || pg c)
def wOk (w : List Nat) : Bool := (tbl_WAY_SIGNS.lookup w).isSome
def isj (b a w : List Nat) : Bool := bOk b && (aOk a && (decide (b.length = a.length) && wOk w))
theorem nin_34 (n : Int) : fNin [.int n, .tup [.int 3, .int 4]] = some (.bl (!(decide (n = 3) || decide (n = 4)))) := by
  have e : inF (.int n) (.tup [.int 3, .int 4]) = some (decide (n = 3) || decide (n = 4)) := by
    simp only [inF, items, flat, flats, inV, List.any_cons, List.any_nil, eqV, Bool.or_false]
    by_cases h : n = 3 <;> by_cases h2 : n = 4 <;> simp_all <;> omega
  simp [fNin, fOr, fB2, pNot, inS, inSS, e]
theorem nin_79 (n : Int) (f : Fl) : fNin [.int n, .nd .lst f [.int 7, .int 9]] = some (.bl (!(decide (n = 7) || decide (n = 9)))) := by
  have e : inF (.int n) (.nd .lst f [.int 7, .int 9]) = some (decide (n = 7) || decide (n = 9)) := by
    simp only [inF, items, flat, flats, inV, List.any_cons, List.any_nil, eqV, Bool.or_false]
    by_cases h : n = 7 <;> by_cases h2 : n = 9 <;> simp_all <;> omega
  simp [fNin, fOr, fB2, pNot, inS, inSS, e]
def RT : List Nat := [114, 105, 103, 104, 116]
def LF : List Nat := [108, 101, 102, 116]
def BO : List Nat := [98, 111, 116, 104]
theorem strB (a b : List Nat) : ((⟨a.toArray⟩ : PySem.Str) == ⟨b.toArray⟩) = decide (a = b) := by
  by_cases h : a = b
  · subst h; simp
  · rw [decide_eq_false h]
    refine Bool.eq_false_iff.mpr fun z => h ?_
    exact strL_inj (a := a) (b := b) (eq_of_beq z)
theorem nin_way (w : List Nat) (f : Fl) : fNin [.str w, .nd .lst f [.str [114, 105, 103, 104, 116], .str [108, 101, 102, 116], .str [98, 111, 116, 104]]] = some (.bl (!(decide (w = RT) || (decide (w = LF) || decide (w = BO))))) := by
  have e : inF (.str w) (.nd .lst f [.str RT, .str LF, .str BO]) = some (decide (w = RT) || (decide (w = LF) || decide (w = BO))) := by
    have c : ∀ x : List Nat, decide (x = w) = decide (w = x) := fun x => by simp [eq_comm]
    simp only [inF, items, flat, flats, inV, List.any_cons, List.any_nil, eqV, Bool.or_false, strB, c]
  have e' : inF (.str w) (.nd .lst f [.str [114, 105, 103, 104, 116], .str [108, 101, 102, 116], .str [98, 111, 116, 104]]) = _ := e
  cases w with
  | nil => simp [fNin, fOr, fB2, pNot, inS, inSS, e']
  | cons c w => cases w <;> simp [fNin, fOr, fB2, pNot, inS, inSS, e']
theorem wOk_is (w : List Nat) : wOk w = (decide (w = RT) || (decide (w = LF) || decide (w = BO))) := by
  unfold wOk tbl_WAY_SIGNS
  by_cases h1 : w = RT
  · subst h1; rfl
  by_cases h2 : w = LF
  · subst h2; rfl
  by_cases h3 : w = BO
  · subst h3; rfl
  have a1 : (w == [114, 105, 103, 104, 116]) = false := by simpa [RT] using h1
  have a2 : (w == [108, 101, 102, 116]) = false := by simpa [LF] using h2
  have a3 : (w == [98, 111, 116, 104]) = false := by simpa [BO] using h3
  simp [List.lookup_cons, a1, a2, a3, h1, h2, h3]
/-- plain signs, not too many -/
def As (t : List Nat) : Prop := (∀ x ∈ t, x < 128) ∧ t.length ≤ 100
theorem as_ok {t : List Nat} (h : As t) : PyData.strOk ⟨t.toArray⟩ = true := by
  unfold PyData.strOk
  simp only [List.all_toArray, List.all_eq_true, decide_eq_true_eq]
  exact fun x hx => Nat.lt_trans (h.1 x hx) (by decide)
theorem eq_t3 (b a w b' a' w' : List Nat) (hb : As b) (ha : As a) (hw : As w) (hb' : As b') (ha' : As a') (hw' : As w') : fEq [.tup [.str b, .str a, .str w], .tup [.str b', .str a', .str w']] = some (.bl (decide (b = b') && (decide (a = a') && decide (w = w')))) := by
  simp [fEq, fOr, fB2, eqS, eqD, toPy, toPyL, SeqAt.shaped, PyData.eqv, strB, PyData.canLay0, PyData.canLayAll0, PyData.depth, PyData.depthAll, PyData.eqvAll, as_ok hb, as_ok ha, as_ok hw, as_ok hb', as_ok ha', as_ok hw']
theorem ne_t3 (b a w : List Nat) (hb : As b) (ha : As a) (hw : As w) : fNe [.tup [.str b, .str a, .str w], .tup []] = some (.bl true) := by
  simp [fNe, fOr, fB2, pNot, eqS, eqD, toPy, toPyL, SeqAt.shaped, PyData.eqv, PyData.canLay0, PyData.canLayAll0, PyData.depth, PyData.depthAll, PyData.eqvAll, as_ok hb, as_ok ha, as_ok hw]
theorem ne_t0 : fNe [.tup [], .tup []] = some (.bl false) := by
  simp [fNe, fOr, fB2, pNot, eqS, eqD, toPy, toPyL, SeqAt.shaped, PyData.eqv, PyData.canLay0, PyData.canLayAll0, PyData.depth, PyData.depthAll, PyData.eqvAll]
theorem at_last (s : List Nat) (h : 0 < s.length) : atI s (-1) = some (s.getD (s.length - 1) 0) := by
  have e : ixN s.length (-1) = some (s.length - 1) := by
    rw [ixN, if_neg (by omega)]
    have : (-1 + (s.length : Int)).toNat = s.length - 1 := by omega
    simp [this]
    omega
  rw [atI, e, Option.bind_some, List.getD_eq_getElem?_getD, List.getElem?_eq_getElem (by omega)]
  rfl
theorem cut_back (s : List Nat) (h : 0 < s.length) : cut s none (some (-1)) = s.take (s.length - 1) := by
  have : HT.sIx s.length s.length (some (-1)) = s.length - 1 := by
    show (if (-1 : Int) < 0 then (-1 + (s.length : Int)).toNat else min (-1 : Int).toNat s.length) = _
    rw [if_pos (by omega)]; omega
  rw [cut, this]
  show List.take (s.length - 1 - 0) (s.drop 0) = _
  rfl
def cxB (b : List Nat) (y : Sl) : Ctx := ⟨[.v (.str b), y], []⟩
def badB : D → Bool
  | .str [c] => !(pg c)
  | _ => false
theorem bind1 (b : List Nat) (x : D) (hx : Lc.noOwn x = true) (y : Sl) : bindT (.n 1) x (cxB b y) = some (cxB b (.v x)) := by
  cases y <;> simp [bindT, cxB, hx, runF, eAnd, sExpr, tNotT, chgs, initC, inits, locks, sSeq, sIf, sSetI, sSet, sRet, sExpr, tOfE, tTru, tNotT, tAndT, tOrT, truth, eOp, eArgs, eN, eC, eIx, eMv, eCall, lockE, unlockE, unlocks, valsOf, val, getP, noOwn, noOwnL, ixAt, ixN, fGt, fGe, fLt, fLe, fOr, fII, gB, gMod, gDiv, gAdd, gSub, gMul, okDiv, fAdd, fMul, fCatS, fInt1, nodeAt, fSetL, mutAt, Mut.ok, setJs, lkOk, chgOf, updC, updS, setP, pick, outs, noBor, noBorL, dropAl, Ctx.kr, Chg.dead, strip, keepJ, sNx, bor, borL, okM, okB, rootsM]
theorem before_is (b : List Nat) (hl : b.length ≤ 100) : F_is_before [.str b] = .ret (.bl (bOk b)) [] := by
  have hl2 : b.length ≤ 16777216 := by omega
  by_cases h34 : l34 b.length = true
  · have h34' : b.length = 3 ∨ b.length = 4 := by simpa [l34] using h34
    have h34i : (b.length : Int) = 3 ∨ (b.length : Int) = 4 := by omega
    have h34d : (decide ((b.length : Int) = 3) || decide ((b.length : Int) = 4)) = true := by simpa using h34i
    have h0 : 0 < b.length := by omega
    have e1 := at_last b h0
    have e2 := cut_back b h0
    have hbk : ∀ z, b.getD (b.length - 1) 0 = z → bOk b = (l34 b.length && (decide (z = 46) && (b.take (b.length - 1)).all pg)) := fun z hz => by rw [bOk, hz]
    generalize hz : b.getD (b.length - 1) 0 = z at *
    have hbk := hbk z rfl
    have em : m_is_before = sSeq (sIf (tOrT (tOfE (eOp fNin [eOp fLen [eN 0], eC (.tup [.int 3, .int 4])])) (tOfE (eOp fNe [eIx (eN 0) (eOp fNeg [eC (.int 1)]), eC (.str [46])]))) (sRet (eC (.bl false))) (sNx)) (sSeq (sFor (itE (eOp fSlR [eN 0, eOp fNeg [eC (.int 1)]])) (.n 1) (sIf (tOfE (eOp fNin [eN 1, eC (.str [97, 98, 99, 100])])) (sRet (eC (.bl false))) (sNx))) (sRet (eC (.bl true)))) := rfl
    by_cases hd : z = 46
    · have k1 : sIf (tOrT (tOfE (eOp fNin [eOp fLen [eN 0], eC (.tup [.int 3, .int 4])])) (tOfE (eOp fNe [eIx (eN 0) (eOp fNeg [eC (.int 1)]), eC (.str [46])]))) (sRet (eC (.bl false))) (sNx) (initC [false] 1 [.str b]) = .nx (cxB b .no) := by
        simp [cxB, fLen, hl2, nin_34, h34d, fNeg, e1, hd, fNe, pNot, eqS, fB2, runF, eAnd, sExpr, tNotT, chgs, initC, inits, locks, sSeq, sIf, sSetI, sSet, sRet, sExpr, tOfE, tTru, tNotT, tAndT, tOrT, truth, eOp, eArgs, eN, eC, eIx, eMv, eCall, lockE, unlockE, unlocks, valsOf, val, getP, noOwn, noOwnL, ixAt, ixN, fGt, fGe, fLt, fLe, fOr, fII, gB, gMod, gDiv, gAdd, gSub, gMul, okDiv, fAdd, fMul, fCatS, fInt1, nodeAt, fSetL, mutAt, Mut.ok, setJs, lkOk, chgOf, updC, updS, setP, pick, outs, noBor, noBorL, dropAl, Ctx.kr, Chg.dead, strip, keepJ, sNx, bor, borL, okM, okB, rootsM]
      have k2 : itE (eOp fSlR [eN 0, eOp fNeg [eC (.int 1)]]) (cxB b .no) = .ok ((b.take (b.length - 1)).map fun c => .str [c]) (cxB b .no) := by
        have : (b.take (b.length - 1)).length ≤ 16777216 := by rw [List.length_take]; omega
        simp [cxB, itE, itemsOf, fSlR, slD, hl2, fNeg, e2, this, runF, eAnd, sExpr, tNotT, chgs, initC, inits, locks, sSeq, sIf, sSetI, sSet, sRet, sExpr, tOfE, tTru, tNotT, tAndT, tOrT, truth, eOp, eArgs, eN, eC, eIx, eMv, eCall, lockE, unlockE, unlocks, valsOf, val, getP, noOwn, noOwnL, ixAt, ixN, fGt, fGe, fLt, fLe, fOr, fII, gB, gMod, gDiv, gAdd, gSub, gMul, okDiv, fAdd, fMul, fCatS, fInt1, nodeAt, fSetL, mutAt, Mut.ok, setJs, lkOk, chgOf, updC, updS, setP, pick, outs, noBor, noBorL, dropAl, Ctx.kr, Chg.dead, strip, keepJ, sNx, bor, borL, okM, okB, rootsM]
      have hbd : ∀ x ∈ (b.take (b.length - 1)).map (fun c => D.str [c]), ∀ y, bindT (.n 1) x (cxB b y) = some (cxB b (.v x)) := fun x hx y => by
        obtain ⟨c, _, rfl⟩ := List.mem_map.mp hx
        exact bind1 b _ rfl y
      have hst : ∀ x ∈ (b.take (b.length - 1)).map (fun c => D.str [c]), (sIf (tOfE (eOp fNin [eN 1, eC (.str [97, 98, 99, 100])])) (sRet (eC (.bl false))) (sNx)) (cxB b (.v x)) = if badB x then .rt (.bl false) (cxB b (.v x)) else .nx (cxB b (.v x)) := fun x hx => by
        obtain ⟨c, _, rfl⟩ := List.mem_map.mp hx
        by_cases hc : c ∈ PEG
        · have hc2 : c ∈ [97, 98, 99, 100] := hc
          simp only [badB, pg, hc, decide_true, Bool.not_true]
          simp [cxB, fNin, inS, fB2, pNot, hc2, runF, eAnd, sExpr, tNotT, chgs, initC, inits, locks, sSeq, sIf, sSetI, sSet, sRet, sExpr, tOfE, tTru, tNotT, tAndT, tOrT, truth, eOp, eArgs, eN, eC, eIx, eMv, eCall, lockE, unlockE, unlocks, valsOf, val, getP, noOwn, noOwnL, ixAt, ixN, fGt, fGe, fLt, fLe, fOr, fII, gB, gMod, gDiv, gAdd, gSub, gMul, okDiv, fAdd, fMul, fCatS, fInt1, nodeAt, fSetL, mutAt, Mut.ok, setJs, lkOk, chgOf, updC, updS, setP, pick, outs, noBor, noBorL, dropAl, Ctx.kr, Chg.dead, strip, keepJ, sNx, bor, borL, okM, okB, rootsM]
        · have hc2 : c ∉ [97, 98, 99, 100] := hc
          simp only [badB, pg, hc, decide_false, Bool.not_false]
          simp [cxB, fNin, inS, fB2, pNot, hc2, runF, eAnd, sExpr, tNotT, chgs, initC, inits, locks, sSeq, sIf, sSetI, sSet, sRet, sExpr, tOfE, tTru, tNotT, tAndT, tOrT, truth, eOp, eArgs, eN, eC, eIx, eMv, eCall, lockE, unlockE, unlocks, valsOf, val, getP, noOwn, noOwnL, ixAt, ixN, fGt, fGe, fLt, fLe, fOr, fII, gB, gMod, gDiv, gAdd, gSub, gMul, okDiv, fAdd, fMul, fCatS, fInt1, nodeAt, fSetL, mutAt, Mut.ok, setJs, lkOk, chgOf, updC, updS, setP, pick, outs, noBor, noBorL, dropAl, Ctx.kr, Chg.dead, strip, keepJ, sNx, bor, borL, okM, okB, rootsM]
      cases ha : (b.take (b.length - 1)).all pg with
      | true =>
        obtain ⟨y', e⟩ := for_no (cxB b) badB (fun x y => .rt (.bl false) (cxB b y)) _ .no hbd hst (fun x hx => by
          obtain ⟨c, hc, rfl⟩ := List.mem_map.mp hx
          have := List.all_eq_true.mp ha c hc
          simp [badB, this])
        have hv : bOk b = true := by simp [hbk, h34, hd, ha]
        unfold F_is_before runF
        rw [em, sSeq, k1]
        dsimp only
        rw [sSeq, sFor, k2]
        dsimp only
        rw [e, hv]
        simp [cxB, runF, eAnd, sExpr, tNotT, chgs, initC, inits, locks, sSeq, sIf, sSetI, sSet, sRet, sExpr, tOfE, tTru, tNotT, tAndT, tOrT, truth, eOp, eArgs, eN, eC, eIx, eMv, eCall, lockE, unlockE, unlocks, valsOf, val, getP, noOwn, noOwnL, ixAt, ixN, fGt, fGe, fLt, fLe, fOr, fII, gB, gMod, gDiv, gAdd, gSub, gMul, okDiv, fAdd, fMul, fCatS, fInt1, nodeAt, fSetL, mutAt, Mut.ok, setJs, lkOk, chgOf, updC, updS, setP, pick, outs, noBor, noBorL, dropAl, Ctx.kr, Chg.dead, strip, keepJ, sNx, bor, borL, okM, okB, rootsM]
      | false =>
        obtain ⟨y', e⟩ := for_yes (cxB b) badB (.bl false) _ .no hbd hst (by
          rw [List.any_map]
          obtain ⟨c, hc, hp⟩ := List.all_eq_false.mp ha
          exact List.any_eq_true.mpr ⟨c, hc, by simpa [badB] using hp⟩)
        have hv : bOk b = false := by simp only [hbk, ha, Bool.and_false]
        unfold F_is_before runF
        rw [em, sSeq, k1]
        dsimp only
        rw [sSeq, sFor, k2]
        dsimp only
        rw [e, hv]
        simp [cxB, runF, eAnd, sExpr, tNotT, chgs, initC, inits, locks, sSeq, sIf, sSetI, sSet, sRet, sExpr, tOfE, tTru, tNotT, tAndT, tOrT, truth, eOp, eArgs, eN, eC, eIx, eMv, eCall, lockE, unlockE, unlocks, valsOf, val, getP, noOwn, noOwnL, ixAt, ixN, fGt, fGe, fLt, fLe, fOr, fII, gB, gMod, gDiv, gAdd, gSub, gMul, okDiv, fAdd, fMul, fCatS, fInt1, nodeAt, fSetL, mutAt, Mut.ok, setJs, lkOk, chgOf, updC, updS, setP, pick, outs, noBor, noBorL, dropAl, Ctx.kr, Chg.dead, strip, keepJ, sNx, bor, borL, okM, okB, rootsM]
    · have hv : bOk b = false := by simp only [hbk, hd, decide_false, Bool.false_and, Bool.and_false]
      rw [hv]
      simp [F_is_before, m_is_before, fLen, hl2, nin_34, h34d, fNeg, e1, hd, fNe, pNot, eqS, fB2, runF, eAnd, sExpr, tNotT, chgs, initC, inits, locks, sSeq, sIf, sSetI, sSet, sRet, sExpr, tOfE, tTru, tNotT, tAndT, tOrT, truth, eOp, eArgs, eN, eC, eIx, eMv, eCall, lockE, unlockE, unlocks, valsOf, val, getP, noOwn, noOwnL, ixAt, ixN, fGt, fGe, fLt, fLe, fOr, fII, gB, gMod, gDiv, gAdd, gSub, gMul, okDiv, fAdd, fMul, fCatS, fInt1, nodeAt, fSetL, mutAt, Mut.ok, setJs, lkOk, chgOf, updC, updS, setP, pick, outs, noBor, noBorL, dropAl, Ctx.kr, Chg.dead, strip, keepJ, sNx, bor, borL, okM, okB, rootsM]
      try omega
  · have h34 : l34 b.length = false := by simpa using h34
    have hv : bOk b = false := by simp only [bOk, h34, Bool.false_and]
    have h34d : (decide ((b.length : Int) = 3) || decide ((b.length : Int) = 4)) = false := by
      simp only [l34, Bool.or_eq_false_iff, decide_eq_false_iff_not] at h34 ⊢
      omega
    rw [hv]
    simp [F_is_before, m_is_before, fLen, hl2, nin_34, h34d, runF, eAnd, sExpr, tNotT, chgs, initC, inits, locks, sSeq, sIf, sSetI, sSet, sRet, sExpr, tOfE, tTru, tNotT, tAndT, tOrT, truth, eOp, eArgs, eN, eC, eIx, eMv, eCall, lockE, unlockE, unlocks, valsOf, val, getP, noOwn, noOwnL, ixAt, ixN, fGt, fGe, fLt, fLe, fOr, fII, gB, gMod, gDiv, gAdd, gSub, gMul, okDiv, fAdd, fMul, fCatS, fInt1, nodeAt, fSetL, mutAt, Mut.ok, setJs, lkOk, chgOf, updC, updS, setP, pick, outs, noBor, noBorL, dropAl, Ctx.kr, Chg.dead, strip, keepJ, sNx, bor, borL, okM, okB, rootsM]
end K03
end Lc
end
section
set_option Elab.async false
set_option linter.all false
set_option maxRecDepth 100000
set_option maxHeartbeats 4000000
namespace Lc
namespace K03
open PySem L2
def okA (c : Nat) : Bool := decide (c = 46) || pg c
def badA : D → Bool
  | .str [c] => !(okA c)
  | _ => false
theorem after_is (b : List Nat) (hl : b.length ≤ 100) : F_is_after [.str b] = .ret (.bl (aOk b)) [] := by
  have hl2 : b.length ≤ 16777216 := by omega
  by_cases h34 : l34 b.length = true
  · have h34' : b.length = 3 ∨ b.length = 4 := by simpa [l34] using h34
    have h34i : (b.length : Int) = 3 ∨ (b.length : Int) = 4 := by omega
    have h34d : (decide ((b.length : Int) = 3) || decide ((b.length : Int) = 4)) = true := by simpa using h34i
    have h0 : 0 < b.length := by omega
    have e1 := at_get b 0 (by omega) (by omega)
    rw [show (0 : Int).toNat = 0 from rfl] at e1
    have hbk : ∀ z, b.getD 0 0 = z → aOk b = (l34 b.length && (decide (z = 46) && b.all okA)) := fun z hz => by rw [aOk, hz]; rfl
    generalize hz : b.getD 0 0 = z at *
    have hbk := hbk z rfl
    have em : m_is_after = sSeq (sIf (tOrT (tOfE (eOp fNin [eOp fLen [eN 0], eC (.tup [.int 3, .int 4])])) (tOfE (eOp fNe [eIx (eN 0) (eC (.int 0)), eC (.str [46])]))) (sRet (eC (.bl false))) (sNx)) (sSeq (sFor (itE (eN 0)) (.n 1) (sIf (tAndT (tOfE (eOp fNe [eN 1, eC (.str [46])])) (tOfE (eOp fNin [eN 1, eC (.str [97, 98, 99, 100])]))) (sRet (eC (.bl false))) (sNx))) (sRet (eC (.bl true)))) := rfl
    by_cases hd : z = 46
    · have k1 : sIf (tOrT (tOfE (eOp fNin [eOp fLen [eN 0], eC (.tup [.int 3, .int 4])])) (tOfE (eOp fNe [eIx (eN 0) (eC (.int 0)), eC (.str [46])]))) (sRet (eC (.bl false))) (sNx) (initC [false] 1 [.str b]) = .nx (cxB b .no) := by
        simp [cxB, fLen, hl2, nin_34, h34d, e1, hd, fNe, pNot, eqS, fB2, runF, eAnd, sExpr, tNotT, chgs, initC, inits, locks, sSeq, sIf, sSetI, sSet, sRet, sExpr, tOfE, tTru, tNotT, tAndT, tOrT, truth, eOp, eArgs, eN, eC, eIx, eMv, eCall, lockE, unlockE, unlocks, valsOf, val, getP, noOwn, noOwnL, ixAt, ixN, fGt, fGe, fLt, fLe, fOr, fII, gB, gMod, gDiv, gAdd, gSub, gMul, okDiv, fAdd, fMul, fCatS, fInt1, nodeAt, fSetL, mutAt, Mut.ok, setJs, lkOk, chgOf, updC, updS, setP, pick, outs, noBor, noBorL, dropAl, Ctx.kr, Chg.dead, strip, keepJ, sNx, bor, borL, okM, okB, rootsM]
      have k2 : itE (eN 0) (cxB b .no) = .ok (b.map fun c => .str [c]) (cxB b .no) := by
        simp [cxB, itE, itemsOf, hl2, runF, eAnd, sExpr, tNotT, chgs, initC, inits, locks, sSeq, sIf, sSetI, sSet, sRet, sExpr, tOfE, tTru, tNotT, tAndT, tOrT, truth, eOp, eArgs, eN, eC, eIx, eMv, eCall, lockE, unlockE, unlocks, valsOf, val, getP, noOwn, noOwnL, ixAt, ixN, fGt, fGe, fLt, fLe, fOr, fII, gB, gMod, gDiv, gAdd, gSub, gMul, okDiv, fAdd, fMul, fCatS, fInt1, nodeAt, fSetL, mutAt, Mut.ok, setJs, lkOk, chgOf, updC, updS, setP, pick, outs, noBor, noBorL, dropAl, Ctx.kr, Chg.dead, strip, keepJ, sNx, bor, borL, okM, okB, rootsM]
      have hbd : ∀ x ∈ b.map (fun c => D.str [c]), ∀ y, bindT (.n 1) x (cxB b y) = some (cxB b (.v x)) := fun x hx y => by
        obtain ⟨c, _, rfl⟩ := List.mem_map.mp hx
        exact bind1 b _ rfl y
      have hst : ∀ x ∈ b.map (fun c => D.str [c]), (sIf (tAndT (tOfE (eOp fNe [eN 1, eC (.str [46])])) (tOfE (eOp fNin [eN 1, eC (.str [97, 98, 99, 100])]))) (sRet (eC (.bl false))) (sNx)) (cxB b (.v x)) = if badA x then .rt (.bl false) (cxB b (.v x)) else .nx (cxB b (.v x)) := fun x hx => by
        obtain ⟨c, _, rfl⟩ := List.mem_map.mp hx
        by_cases h46 : c = 46
        · subst h46
          simp [cxB, badA, okA, fNe, fNin, inS, eqS, fB2, pNot, runF, eAnd, sExpr, tNotT, chgs, initC, inits, locks, sSeq, sIf, sSetI, sSet, sRet, sExpr, tOfE, tTru, tNotT, tAndT, tOrT, truth, eOp, eArgs, eN, eC, eIx, eMv, eCall, lockE, unlockE, unlocks, valsOf, val, getP, noOwn, noOwnL, ixAt, ixN, fGt, fGe, fLt, fLe, fOr, fII, gB, gMod, gDiv, gAdd, gSub, gMul, okDiv, fAdd, fMul, fCatS, fInt1, nodeAt, fSetL, mutAt, Mut.ok, setJs, lkOk, chgOf, updC, updS, setP, pick, outs, noBor, noBorL, dropAl, Ctx.kr, Chg.dead, strip, keepJ, sNx, bor, borL, okM, okB, rootsM]
        by_cases hc : c ∈ PEG
        · have hc2 : c ∈ [97, 98, 99, 100] := hc
          simp only [badA, okA, pg, h46, hc, decide_true, decide_false, Bool.false_or, Bool.not_true]
          simp [cxB, fNe, fNin, inS, eqS, fB2, pNot, hc2, h46, runF, eAnd, sExpr, tNotT, chgs, initC, inits, locks, sSeq, sIf, sSetI, sSet, sRet, sExpr, tOfE, tTru, tNotT, tAndT, tOrT, truth, eOp, eArgs, eN, eC, eIx, eMv, eCall, lockE, unlockE, unlocks, valsOf, val, getP, noOwn, noOwnL, ixAt, ixN, fGt, fGe, fLt, fLe, fOr, fII, gB, gMod, gDiv, gAdd, gSub, gMul, okDiv, fAdd, fMul, fCatS, fInt1, nodeAt, fSetL, mutAt, Mut.ok, setJs, lkOk, chgOf, updC, updS, setP, pick, outs, noBor, noBorL, dropAl, Ctx.kr, Chg.dead, strip, keepJ, sNx, bor, borL, okM, okB, rootsM]
        · have hc2 : c ∉ [97, 98, 99, 100] := hc
          simp only [badA, okA, pg, h46, hc, decide_false, Bool.false_or, Bool.not_false]
          simp [cxB, fNe, fNin, inS, eqS, fB2, pNot, hc2, h46, runF, eAnd, sExpr, tNotT, chgs, initC, inits, locks, sSeq, sIf, sSetI, sSet, sRet, sExpr, tOfE, tTru, tNotT, tAndT, tOrT, truth, eOp, eArgs, eN, eC, eIx, eMv, eCall, lockE, unlockE, unlocks, valsOf, val, getP, noOwn, noOwnL, ixAt, ixN, fGt, fGe, fLt, fLe, fOr, fII, gB, gMod, gDiv, gAdd, gSub, gMul, okDiv, fAdd, fMul, fCatS, fInt1, nodeAt, fSetL, mutAt, Mut.ok, setJs, lkOk, chgOf, updC, updS, setP, pick, outs, noBor, noBorL, dropAl, Ctx.kr, Chg.dead, strip, keepJ, sNx, bor, borL, okM, okB, rootsM]
      cases ha : b.all okA with
      | true =>
        obtain ⟨y', e⟩ := for_no (cxB b) badA (fun x y => .rt (.bl false) (cxB b y)) _ .no hbd hst (fun x hx => by
          obtain ⟨c, hc, rfl⟩ := List.mem_map.mp hx
          have := List.all_eq_true.mp ha c hc
          simp [badA, this])
        have hv : aOk b = true := by simp [hbk, h34, hd, ha]
        unfold F_is_after runF
        rw [em, sSeq, k1]
        dsimp only
        rw [sSeq, sFor, k2]
        dsimp only
        rw [e, hv]
        simp [cxB, runF, eAnd, sExpr, tNotT, chgs, initC, inits, locks, sSeq, sIf, sSetI, sSet, sRet, sExpr, tOfE, tTru, tNotT, tAndT, tOrT, truth, eOp, eArgs, eN, eC, eIx, eMv, eCall, lockE, unlockE, unlocks, valsOf, val, getP, noOwn, noOwnL, ixAt, ixN, fGt, fGe, fLt, fLe, fOr, fII, gB, gMod, gDiv, gAdd, gSub, gMul, okDiv, fAdd, fMul, fCatS, fInt1, nodeAt, fSetL, mutAt, Mut.ok, setJs, lkOk, chgOf, updC, updS, setP, pick, outs, noBor, noBorL, dropAl, Ctx.kr, Chg.dead, strip, keepJ, sNx, bor, borL, okM, okB, rootsM]
      | false =>
        obtain ⟨y', e⟩ := for_yes (cxB b) badA (.bl false) _ .no hbd hst (by
          rw [List.any_map]
          obtain ⟨c, hc, hp⟩ := List.all_eq_false.mp ha
          exact List.any_eq_true.mpr ⟨c, hc, by simpa [badA] using hp⟩)
        have hv : aOk b = false := by simp only [hbk, ha, Bool.and_false]
        unfold F_is_after runF
        rw [em, sSeq, k1]
        dsimp only
        rw [sSeq, sFor, k2]
        dsimp only
        rw [e, hv]
        simp [cxB, runF, eAnd, sExpr, tNotT, chgs, initC, inits, locks, sSeq, sIf, sSetI, sSet, sRet, sExpr, tOfE, tTru, tNotT, tAndT, tOrT, truth, eOp, eArgs, eN, eC, eIx, eMv, eCall, lockE, unlockE, unlocks, valsOf, val, getP, noOwn, noOwnL, ixAt, ixN, fGt, fGe, fLt, fLe, fOr, fII, gB, gMod, gDiv, gAdd, gSub, gMul, okDiv, fAdd, fMul, fCatS, fInt1, nodeAt, fSetL, mutAt, Mut.ok, setJs, lkOk, chgOf, updC, updS, setP, pick, outs, noBor, noBorL, dropAl, Ctx.kr, Chg.dead, strip, keepJ, sNx, bor, borL, okM, okB, rootsM]
    · have hv : aOk b = false := by simp only [hbk, hd, decide_false, Bool.false_and, Bool.and_false]
      rw [hv]
      simp [F_is_after, m_is_after, fLen, hl2, nin_34, h34d, e1, hd, fNe, pNot, eqS, fB2, runF, eAnd, sExpr, tNotT, chgs, initC, inits, locks, sSeq, sIf, sSetI, sSet, sRet, sExpr, tOfE, tTru, tNotT, tAndT, tOrT, truth, eOp, eArgs, eN, eC, eIx, eMv, eCall, lockE, unlockE, unlocks, valsOf, val, getP, noOwn, noOwnL, ixAt, ixN, fGt, fGe, fLt, fLe, fOr, fII, gB, gMod, gDiv, gAdd, gSub, gMul, okDiv, fAdd, fMul, fCatS, fInt1, nodeAt, fSetL, mutAt, Mut.ok, setJs, lkOk, chgOf, updC, updS, setP, pick, outs, noBor, noBorL, dropAl, Ctx.kr, Chg.dead, strip, keepJ, sNx, bor, borL, okM, okB, rootsM]
  · have h34 : l34 b.length = false := by simpa using h34
    have hv : aOk b = false := by simp only [aOk, h34, Bool.false_and]
    have h34d : (decide ((b.length : Int) = 3) || decide ((b.length : Int) = 4)) = false := by
      simp only [l34, Bool.or_eq_false_iff, decide_eq_false_iff_not] at h34 ⊢
      omega
    rw [hv]
    simp [F_is_after, m_is_after, fLen, hl2, nin_34, h34d, runF, eAnd, sExpr, tNotT, chgs, initC, inits, locks, sSeq, sIf, sSetI, sSet, sRet, sExpr, tOfE, tTru, tNotT, tAndT, tOrT, truth, eOp, eArgs, eN, eC, eIx, eMv, eCall, lockE, unlockE, unlocks, valsOf, val, getP, noOwn, noOwnL, ixAt, ixN, fGt, fGe, fLt, fLe, fOr, fII, gB, gMod, gDiv, gAdd, gSub, gMul, okDiv, fAdd, fMul, fCatS, fInt1, nodeAt, fSetL, mutAt, Mut.ok, setJs, lkOk, chgOf, updC, updS, setP, pick, outs, noBor, noBorL, dropAl, Ctx.kr, Chg.dead, strip, keepJ, sNx, bor, borL, okM, okB, rootsM]
theorem dec_len (a b : List Nat) : decide ((a.length : Int) = b.length) = decide (a.length = b.length) := by
  by_cases h : a.length = b.length <;> simp [h] <;> omega
theorem isjump_is (b a w : List Nat) (hb : b.length ≤ 100) (ha : a.length ≤ 100) : F_is_jump [.str b, .str a, .str w] = .ret (.bl (isj b a w)) [] := by
  have e1 := before_is b hb
  have e2 := after_is a ha
  have hl1 : b.length ≤ 16777216 := by omega
  have hl2 : a.length ≤ 16777216 := by omega
  have hd := dec_len b a
  unfold isj wOk
  generalize bOk b = x at *
  generalize aOk a = y at *
  cases x
  · simp [F_is_jump, m_is_jump, e1, runF, eAnd, sExpr, tNotT, chgs, initC, inits, locks, sSeq, sIf, sSetI, sSet, sRet, sExpr, tOfE, tTru, tNotT, tAndT, tOrT, truth, eOp, eArgs, eN, eC, eIx, eMv, eCall, lockE, unlockE, unlocks, valsOf, val, getP, noOwn, noOwnL, ixAt, ixN, fGt, fGe, fLt, fLe, fOr, fII, gB, gMod, gDiv, gAdd, gSub, gMul, okDiv, fAdd, fMul, fCatS, fInt1, nodeAt, fSetL, mutAt, Mut.ok, setJs, lkOk, chgOf, updC, updS, setP, pick, outs, noBor, noBorL, dropAl, Ctx.kr, Chg.dead, strip, keepJ, sNx, bor, borL, okM, okB, rootsM]
  cases y
  · simp [F_is_jump, m_is_jump, e1, e2, runF, eAnd, sExpr, tNotT, chgs, initC, inits, locks, sSeq, sIf, sSetI, sSet, sRet, sExpr, tOfE, tTru, tNotT, tAndT, tOrT, truth, eOp, eArgs, eN, eC, eIx, eMv, eCall, lockE, unlockE, unlocks, valsOf, val, getP, noOwn, noOwnL, ixAt, ixN, fGt, fGe, fLt, fLe, fOr, fII, gB, gMod, gDiv, gAdd, gSub, gMul, okDiv, fAdd, fMul, fCatS, fInt1, nodeAt, fSetL, mutAt, Mut.ok, setJs, lkOk, chgOf, updC, updS, setP, pick, outs, noBor, noBorL, dropAl, Ctx.kr, Chg.dead, strip, keepJ, sNx, bor, borL, okM, okB, rootsM]
  by_cases h : b.length = a.length
  · have h2 : (b.length : Int) = a.length := by omega
    cases hz : (tbl_WAY_SIGNS.lookup w).isSome <;> simp [F_is_jump, m_is_jump, e1, e2, h, h2, fLen, hl1, hl2, fEq, eqS, fB2, fTIn, hz, runF, eAnd, sExpr, tNotT, chgs, initC, inits, locks, sSeq, sIf, sSetI, sSet, sRet, sExpr, tOfE, tTru, tNotT, tAndT, tOrT, truth, eOp, eArgs, eN, eC, eIx, eMv, eCall, lockE, unlockE, unlocks, valsOf, val, getP, noOwn, noOwnL, ixAt, ixN, fGt, fGe, fLt, fLe, fOr, fII, gB, gMod, gDiv, gAdd, gSub, gMul, okDiv, fAdd, fMul, fCatS, fInt1, nodeAt, fSetL, mutAt, Mut.ok, setJs, lkOk, chgOf, updC, updS, setP, pick, outs, noBor, noBorL, dropAl, Ctx.kr, Chg.dead, strip, keepJ, sNx, bor, borL, okM, okB, rootsM]
  · have h2 : ¬ (b.length : Int) = a.length := by omega
    simp [F_is_jump, m_is_jump, e1, e2, h, h2, fLen, hl1, hl2, fEq, eqS, fB2, runF, eAnd, sExpr, tNotT, chgs, initC, inits, locks, sSeq, sIf, sSetI, sSet, sRet, sExpr, tOfE, tTru, tNotT, tAndT, tOrT, truth, eOp, eArgs, eN, eC, eIx, eMv, eCall, lockE, unlockE, unlocks, valsOf, val, getP, noOwn, noOwnL, ixAt, ixN, fGt, fGe, fLt, fLe, fOr, fII, gB, gMod, gDiv, gAdd, gSub, gMul, okDiv, fAdd, fMul, fCatS, fInt1, nodeAt, fSetL, mutAt, Mut.ok, setJs, lkOk, chgOf, updC, updS, setP, pick, outs, noBor, noBorL, dropAl, Ctx.kr, Chg.dead, strip, keepJ, sNx, bor, borL, okM, okB, rootsM]

def cxJ (b a w : List Nat) (n : Int) (y : Sl) : Ctx := ⟨[.v (.str b), .v (.str a), .v (.str w), .v (.int n), y], []⟩
def badJ (b a : List Nat) : D → Bool
  | .int k => !(pg (b.getD k.toNat 0)) || !(okA (a.getD (k + 1).toNat 0))
  | _ => false
theorem bindJ (b a w : List Nat) (n : Int) (x : D) (hx : Lc.noOwn x = true) (y : Sl) : bindT (.n 4) x (cxJ b a w n y) = some (cxJ b a w n (.v x)) := by
  cases y <;> simp [bindT, cxJ, hx, runF, eAnd, sExpr, tNotT, chgs, initC, inits, locks, sSeq, sIf, sSetI, sSet, sRet, sExpr, tOfE, tTru, tNotT, tAndT, tOrT, truth, eOp, eArgs, eN, eC, eIx, eMv, eCall, lockE, unlockE, unlocks, valsOf, val, getP, noOwn, noOwnL, ixAt, ixN, fGt, fGe, fLt, fLe, fOr, fII, gB, gMod, gDiv, gAdd, gSub, gMul, okDiv, fAdd, fMul, fCatS, fInt1, nodeAt, fSetL, mutAt, Mut.ok, setJs, lkOk, chgOf, updC, updS, setP, pick, outs, noBor, noBorL, dropAl, Ctx.kr, Chg.dead, strip, keepJ, sNx, bor, borL, okM, okB, rootsM]
theorem okA_is (c : Nat) : decide (c ∈ [46, 97, 98, 99, 100]) = okA c := by
  unfold okA pg PEG
  by_cases h : c = 46
  · subst h; rfl
  · simp [h]
theorem all_take (p : Nat → Bool) (b : List Nat) (n : Nat) (hn : n ≤ b.length) : (b.take n).all p = (List.range n).all fun k => p (b.getD k 0) := by
  have : b.take n = (List.range n).map fun k => b.getD k 0 := by
    refine List.ext_getElem? fun k => ?_
    rw [List.getElem?_map]
    by_cases hk : k < n
    · rw [List.getElem?_range hk, List.getElem?_take_of_lt hk, List.getElem?_eq_getElem (by omega)]
      show some _ = some (b.getD k 0)
      rw [List.getD_eq_getElem?_getD, List.getElem?_eq_getElem (by omega)]
      rfl
    · rw [List.getElem?_eq_none (by simp; omega), List.getElem?_eq_none (by simp; omega)]
      rfl
  rw [this, List.all_map]
  rfl
theorem lisj_is (b a w : List Nat) (hb : b.length ≤ 100) (ha : a.length ≤ 100) : F__law_is_jump [.str b, .str a, .str w] = .ret (.bl (isj b a w)) [] := by
  have hl1 : b.length ≤ 16777216 := by omega
  have hl2 : a.length ≤ 16777216 := by omega
  have hw := wOk_is w
  have hnw := fun f => nin_way w f
  rw [← hw] at hnw
  cases hwo : wOk w with
  | false =>
    have hv : isj b a w = false := by simp [isj, hwo]
    rw [hv]
    simp [F__law_is_jump, m__law_is_jump, fLen, hl1, hl2, eLst, allT, hnw, hwo, runF, eAnd, sExpr, tNotT, chgs, initC, inits, locks, sSeq, sIf, sSetI, sSet, sRet, sExpr, tOfE, tTru, tNotT, tAndT, tOrT, truth, eOp, eArgs, eN, eC, eIx, eMv, eCall, lockE, unlockE, unlocks, valsOf, val, getP, noOwn, noOwnL, ixAt, ixN, fGt, fGe, fLt, fLe, fOr, fII, gB, gMod, gDiv, gAdd, gSub, gMul, okDiv, fAdd, fMul, fCatS, fInt1, nodeAt, fSetL, mutAt, Mut.ok, setJs, lkOk, chgOf, updC, updS, setP, pick, outs, noBor, noBorL, dropAl, Ctx.kr, Chg.dead, strip, keepJ, sNx, bor, borL, okM, okB, rootsM]
  | true =>
  by_cases h1 : a.length = b.length
  rotate_left
  · have hv : isj b a w = false := by
      have : decide (b.length = a.length) = false := by simp; omega
      simp [isj, this]
    have h2 : ¬ (a.length : Int) = b.length := by omega
    rw [hv]
    simp [F__law_is_jump, m__law_is_jump, fLen, hl1, hl2, eLst, allT, hnw, hwo, fNe, pNot, eqS, fB2, h1, h2, runF, eAnd, sExpr, tNotT, chgs, initC, inits, locks, sSeq, sIf, sSetI, sSet, sRet, sExpr, tOfE, tTru, tNotT, tAndT, tOrT, truth, eOp, eArgs, eN, eC, eIx, eMv, eCall, lockE, unlockE, unlocks, valsOf, val, getP, noOwn, noOwnL, ixAt, ixN, fGt, fGe, fLt, fLe, fOr, fII, gB, gMod, gDiv, gAdd, gSub, gMul, okDiv, fAdd, fMul, fCatS, fInt1, nodeAt, fSetL, mutAt, Mut.ok, setJs, lkOk, chgOf, updC, updS, setP, pick, outs, noBor, noBorL, dropAl, Ctx.kr, Chg.dead, strip, keepJ, sNx, bor, borL, okM, okB, rootsM]
  cases h34 : l34 b.length with
  | false =>
    have hv : isj b a w = false := by simp [isj, bOk, h34]
    have h3 : (b.length : Int) < 3 ∨ 4 < (b.length : Int) := by
      simp only [l34, Bool.or_eq_false_iff, decide_eq_false_iff_not] at h34
      omega
    rw [hv]
    by_cases h4 : (b.length : Int) < 3
    · simp [F__law_is_jump, m__law_is_jump, fLen, hl1, hl2, eLst, allT, hnw, hwo, fNe, pNot, eqS, fB2, h1, h4, runF, eAnd, sExpr, tNotT, chgs, initC, inits, locks, sSeq, sIf, sSetI, sSet, sRet, sExpr, tOfE, tTru, tNotT, tAndT, tOrT, truth, eOp, eArgs, eN, eC, eIx, eMv, eCall, lockE, unlockE, unlocks, valsOf, val, getP, noOwn, noOwnL, ixAt, ixN, fGt, fGe, fLt, fLe, fOr, fII, gB, gMod, gDiv, gAdd, gSub, gMul, okDiv, fAdd, fMul, fCatS, fInt1, nodeAt, fSetL, mutAt, Mut.ok, setJs, lkOk, chgOf, updC, updS, setP, pick, outs, noBor, noBorL, dropAl, Ctx.kr, Chg.dead, strip, keepJ, sNx, bor, borL, okM, okB, rootsM]
    · have h5 : 4 < (b.length : Int) := by omega
      simp [F__law_is_jump, m__law_is_jump, fLen, hl1, hl2, eLst, allT, hnw, hwo, fNe, pNot, eqS, fB2, h1, h4, h5, runF, eAnd, sExpr, tNotT, chgs, initC, inits, locks, sSeq, sIf, sSetI, sSet, sRet, sExpr, tOfE, tTru, tNotT, tAndT, tOrT, truth, eOp, eArgs, eN, eC, eIx, eMv, eCall, lockE, unlockE, unlocks, valsOf, val, getP, noOwn, noOwnL, ixAt, ixN, fGt, fGe, fLt, fLe, fOr, fII, gB, gMod, gDiv, gAdd, gSub, gMul, okDiv, fAdd, fMul, fCatS, fInt1, nodeAt, fSetL, mutAt, Mut.ok, setJs, lkOk, chgOf, updC, updS, setP, pick, outs, noBor, noBorL, dropAl, Ctx.kr, Chg.dead, strip, keepJ, sNx, bor, borL, okM, okB, rootsM]
  | true =>
  have h34' : b.length = 3 ∨ b.length = 4 := by simpa [l34] using h34
  obtain ⟨n, hn⟩ : ∃ n : Int, n = b.length := ⟨_, rfl⟩
  have hn3 : ¬ n < 3 := by omega
  have hn4 : ¬ 4 < n := by omega
  have g1 := at_get b (n - 1) (by omega) (by omega)
  have g2 := at_get a 0 (by omega) (by omega)
  have hn1 : (n - 1).toNat = b.length - 1 := by omega
  rw [hn1] at g1
  rw [show (0 : Int).toNat = 0 from rfl] at g2
  have hv : isj b a w = ((decide (b.getD (b.length - 1) 0 = 46) && decide (a.getD 0 0 = 46)) && ((List.range (b.length - 1)).map fun (k : Nat) => D.int (0 + k)).all fun x => !(badJ b a x)) := by
    have e1 : decide (b.length = a.length) = true := by simp [h1]
    have e2 : l34 a.length = true := by rw [h1]; exact h34
    have e3 := all_take pg b (b.length - 1) (by omega)
    have e4 : a.all okA = (okA (a.getD 0 0) && (List.range (b.length - 1)).all fun k => okA (a.getD (k + 1) 0)) := by
      have := all_take okA a a.length (Nat.le_refl _)
      rw [List.take_length] at this
      rw [this]
      obtain ⟨m, hm⟩ : ∃ m, a.length = m + 1 := ⟨a.length - 1, by omega⟩
      rw [hm, List.range_succ_eq_map, List.all_cons, List.all_map, show b.length - 1 = m by omega]
      rfl
    have e5 : a.all (fun c => decide (c = 46) || pg c) = a.all okA := rfl
    simp only [isj, bOk, aOk, h34, e1, e2, e3, e5, e4, hwo, Bool.true_and, Bool.and_true, List.all_map]
    by_cases d1 : b.getD (b.length - 1) 0 = 46
    · by_cases d2 : a.getD 0 0 = 46
      · have : okA 46 = true := rfl
        simp only [d1, d2, this, decide_true, Bool.true_and]
        rw [Bool.eq_iff_iff]
        simp only [Bool.and_eq_true, List.all_eq_true, List.mem_range, badJ, Function.comp, Bool.not_or, Bool.not_not]
        constructor
        · intro h k hk
          have e6 : ((0 : Int) + k).toNat = k := by omega
          have e7 : ((0 : Int) + k + 1).toNat = k + 1 := by omega
          rw [e6, e7]
          exact ⟨h.1 k hk, h.2 k hk⟩
        · intro h
          refine ⟨fun k hk => ?_, fun k hk => ?_⟩
          · have := (h k hk).1
            rwa [show ((0 : Int) + k).toNat = k by omega] at this
          · have := (h k hk).2
            rwa [show ((0 : Int) + k + 1).toNat = k + 1 by omega] at this
      · simp only [d1, d2, decide_false, Bool.false_and, Bool.and_false]
    · simp only [d1, decide_false, Bool.false_and, Bool.and_false]
  rw [hv]
  generalize hz1 : b.getD (b.length - 1) 0 = z1 at *
  generalize hz2 : a.getD 0 0 = z2 at *
  have em : m__law_is_jump = sSeq (sSet 3 (eOp fLen [eN 0])) (sSeq (sIf (tOrT (tOfE (eOp fNin [eN 2, eLst [eC (.str [114, 105, 103, 104, 116]), eC (.str [108, 101, 102, 116]), eC (.str [98, 111, 116, 104])]])) (tOrT (tOfE (eOp fNe [eOp fLen [eN 1], eN 3])) (tOrT (tOfE (eOp fLt [eN 3, eC (.int 3)])) (tOfE (eOp fGt [eN 3, eC (.int 4)]))))) (sRet (eC (.bl false))) (sNx)) (sSeq (sIf (tOrT (tOfE (eOp fNe [eIx (eN 0) (eOp (fII gSub) [eN 3, eC (.int 1)]), eC (.str [46])])) (tOfE (eOp fNe [eIx (eN 1) (eC (.int 0)), eC (.str [46])]))) (sRet (eC (.bl false))) (sNx)) (sSeq (sFor (itA fR1 [eOp (fII gSub) [eN 3, eC (.int 1)]]) (.n 4) (sIf (tOrT (tOfE (eOp fNin [eIx (eN 0) (eN 4), eC (.str [97, 98, 99, 100])])) (tOfE (eOp fNin [eIx (eN 1) (eOp fAdd [eN 4, eC (.int 1)]), eC (.str [46, 97, 98, 99, 100])]))) (sRet (eC (.bl false))) (sNx))) (sRet (eC (.bl true)))))) := rfl
  have k0 : sSet 3 (eOp fLen [eN 0]) (initC [false, false, false] 2 [.str b, .str a, .str w]) = .nx (cxJ b a w n .no) := by
    simp [cxJ, fLen, hl1, hn, runF, eAnd, sExpr, tNotT, chgs, initC, inits, locks, sSeq, sIf, sSetI, sSet, sRet, sExpr, tOfE, tTru, tNotT, tAndT, tOrT, truth, eOp, eArgs, eN, eC, eIx, eMv, eCall, lockE, unlockE, unlocks, valsOf, val, getP, noOwn, noOwnL, ixAt, ixN, fGt, fGe, fLt, fLe, fOr, fII, gB, gMod, gDiv, gAdd, gSub, gMul, okDiv, fAdd, fMul, fCatS, fInt1, nodeAt, fSetL, mutAt, Mut.ok, setJs, lkOk, chgOf, updC, updS, setP, pick, outs, noBor, noBorL, dropAl, Ctx.kr, Chg.dead, strip, keepJ, sNx, bor, borL, okM, okB, rootsM]
  have k1 : sIf (tOrT (tOfE (eOp fNin [eN 2, eLst [eC (.str [114, 105, 103, 104, 116]), eC (.str [108, 101, 102, 116]), eC (.str [98, 111, 116, 104])]])) (tOrT (tOfE (eOp fNe [eOp fLen [eN 1], eN 3])) (tOrT (tOfE (eOp fLt [eN 3, eC (.int 3)])) (tOfE (eOp fGt [eN 3, eC (.int 4)]))))) (sRet (eC (.bl false))) (sNx) (cxJ b a w n .no) = .nx (cxJ b a w n .no) := by
    have h2 : (a.length : Int) = n := by omega
    simp [cxJ, fLen, hl2, eLst, allT, hnw, hwo, fNe, pNot, eqS, fB2, h2, hn3, hn4, runF, eAnd, sExpr, tNotT, chgs, initC, inits, locks, sSeq, sIf, sSetI, sSet, sRet, sExpr, tOfE, tTru, tNotT, tAndT, tOrT, truth, eOp, eArgs, eN, eC, eIx, eMv, eCall, lockE, unlockE, unlocks, valsOf, val, getP, noOwn, noOwnL, ixAt, ixN, fGt, fGe, fLt, fLe, fOr, fII, gB, gMod, gDiv, gAdd, gSub, gMul, okDiv, fAdd, fMul, fCatS, fInt1, nodeAt, fSetL, mutAt, Mut.ok, setJs, lkOk, chgOf, updC, updS, setP, pick, outs, noBor, noBorL, dropAl, Ctx.kr, Chg.dead, strip, keepJ, sNx, bor, borL, okM, okB, rootsM]
  by_cases d1 : z1 = 46
  rotate_left
  · simp only [d1, decide_false, Bool.false_and]
    unfold F__law_is_jump runF
    rw [em, sSeq, k0]
    dsimp only
    rw [sSeq, k1]
    simp [cxJ, hl1, g1, fNe, pNot, eqS, fB2, d1, runF, eAnd, sExpr, tNotT, chgs, initC, inits, locks, sSeq, sIf, sSetI, sSet, sRet, sExpr, tOfE, tTru, tNotT, tAndT, tOrT, truth, eOp, eArgs, eN, eC, eIx, eMv, eCall, lockE, unlockE, unlocks, valsOf, val, getP, noOwn, noOwnL, ixAt, ixN, fGt, fGe, fLt, fLe, fOr, fII, gB, gMod, gDiv, gAdd, gSub, gMul, okDiv, fAdd, fMul, fCatS, fInt1, nodeAt, fSetL, mutAt, Mut.ok, setJs, lkOk, chgOf, updC, updS, setP, pick, outs, noBor, noBorL, dropAl, Ctx.kr, Chg.dead, strip, keepJ, sNx, bor, borL, okM, okB, rootsM]
  by_cases d2 : z2 = 46
  rotate_left
  · simp only [d2, decide_false, Bool.false_and, Bool.and_false]
    unfold F__law_is_jump runF
    rw [em, sSeq, k0]
    dsimp only
    rw [sSeq, k1]
    simp [cxJ, hl1, hl2, g1, g2, fNe, pNot, eqS, fB2, d1, d2, runF, eAnd, sExpr, tNotT, chgs, initC, inits, locks, sSeq, sIf, sSetI, sSet, sRet, sExpr, tOfE, tTru, tNotT, tAndT, tOrT, truth, eOp, eArgs, eN, eC, eIx, eMv, eCall, lockE, unlockE, unlocks, valsOf, val, getP, noOwn, noOwnL, ixAt, ixN, fGt, fGe, fLt, fLe, fOr, fII, gB, gMod, gDiv, gAdd, gSub, gMul, okDiv, fAdd, fMul, fCatS, fInt1, nodeAt, fSetL, mutAt, Mut.ok, setJs, lkOk, chgOf, updC, updS, setP, pick, outs, noBor, noBorL, dropAl, Ctx.kr, Chg.dead, strip, keepJ, sNx, bor, borL, okM, okB, rootsM]
  simp only [d1, d2, decide_true, Bool.true_and]
  have k2 : sIf (tOrT (tOfE (eOp fNe [eIx (eN 0) (eOp (fII gSub) [eN 3, eC (.int 1)]), eC (.str [46])])) (tOfE (eOp fNe [eIx (eN 1) (eC (.int 0)), eC (.str [46])]))) (sRet (eC (.bl false))) (sNx) (cxJ b a w n .no) = .nx (cxJ b a w n .no) := by
    simp [cxJ, hl1, hl2, g1, g2, fNe, pNot, eqS, fB2, d1, d2, runF, eAnd, sExpr, tNotT, chgs, initC, inits, locks, sSeq, sIf, sSetI, sSet, sRet, sExpr, tOfE, tTru, tNotT, tAndT, tOrT, truth, eOp, eArgs, eN, eC, eIx, eMv, eCall, lockE, unlockE, unlocks, valsOf, val, getP, noOwn, noOwnL, ixAt, ixN, fGt, fGe, fLt, fLe, fOr, fII, gB, gMod, gDiv, gAdd, gSub, gMul, okDiv, fAdd, fMul, fCatS, fInt1, nodeAt, fSetL, mutAt, Mut.ok, setJs, lkOk, chgOf, updC, updS, setP, pick, outs, noBor, noBorL, dropAl, Ctx.kr, Chg.dead, strip, keepJ, sNx, bor, borL, okM, okB, rootsM]
  have k3 : itA fR1 [eOp (fII gSub) [eN 3, eC (.int 1)]] (cxJ b a w n .no) = .ok ((List.range (b.length - 1)).map fun (k : Nat) => .int (0 + k)) (cxJ b a w n .no) := by
    have := itR1i (r := n - 1) (m := eOp (fII gSub) [eN 3, eC (.int 1)]) (c := cxJ b a w n .no) (c1 := cxJ b a w n .no) (by simp [cxJ, runF, eAnd, sExpr, tNotT, chgs, initC, inits, locks, sSeq, sIf, sSetI, sSet, sRet, sExpr, tOfE, tTru, tNotT, tAndT, tOrT, truth, eOp, eArgs, eN, eC, eIx, eMv, eCall, lockE, unlockE, unlocks, valsOf, val, getP, noOwn, noOwnL, ixAt, ixN, fGt, fGe, fLt, fLe, fOr, fII, gB, gMod, gDiv, gAdd, gSub, gMul, okDiv, fAdd, fMul, fCatS, fInt1, nodeAt, fSetL, mutAt, Mut.ok, setJs, lkOk, chgOf, updC, updS, setP, pick, outs, noBor, noBorL, dropAl, Ctx.kr, Chg.dead, strip, keepJ, sNx, bor, borL, okM, okB, rootsM]) (by omega) (by omega)
    rw [this, hn1]
  have hbd : ∀ x ∈ (List.range (b.length - 1)).map (fun (k : Nat) => D.int (0 + k)), ∀ y, bindT (.n 4) x (cxJ b a w n y) = some (cxJ b a w n (.v x)) := fun x hx y => by
    obtain ⟨c, _, rfl⟩ := List.mem_map.mp hx
    exact bindJ b a w n _ rfl y
  have hst : ∀ x ∈ (List.range (b.length - 1)).map (fun (k : Nat) => D.int (0 + k)), (sIf (tOrT (tOfE (eOp fNin [eIx (eN 0) (eN 4), eC (.str [97, 98, 99, 100])])) (tOfE (eOp fNin [eIx (eN 1) (eOp fAdd [eN 4, eC (.int 1)]), eC (.str [46, 97, 98, 99, 100])]))) (sRet (eC (.bl false))) (sNx)) (cxJ b a w n (.v x)) = if badJ b a x then .rt (.bl false) (cxJ b a w n (.v x)) else .nx (cxJ b a w n (.v x)) := fun x hx => by
    obtain ⟨c, hc, rfl⟩ := List.mem_map.mp hx
    have hc := List.mem_range.mp hc
    have q1 := at_get b (0 + c) (by omega) (by omega)
    have q2 := at_get a (0 + c + 1) (by omega) (by omega)
    have hb1 : badJ b a (.int (0 + c)) = (!(decide (b.getD ((0 : Int) + c).toNat 0 ∈ [97, 98, 99, 100])) || !(decide (a.getD ((0 : Int) + c + 1).toNat 0 ∈ [46, 97, 98, 99, 100]))) := by
      rw [okA_is]
      rfl
    rw [hb1]
    generalize b.getD ((0 : Int) + c).toNat 0 = u at *
    generalize a.getD ((0 : Int) + c + 1).toNat 0 = v at *
    generalize (0 : Int) + c = j at *
    by_cases hu : u ∈ [97, 98, 99, 100]
    · by_cases hv : v ∈ [46, 97, 98, 99, 100]
      · simp only [hu, hv, decide_true, Bool.not_true, Bool.or_false]
        simp [cxJ, hl1, hl2, q1, q2, fNin, inS, fB2, pNot, hu, hv, runF, eAnd, sExpr, tNotT, chgs, initC, inits, locks, sSeq, sIf, sSetI, sSet, sRet, sExpr, tOfE, tTru, tNotT, tAndT, tOrT, truth, eOp, eArgs, eN, eC, eIx, eMv, eCall, lockE, unlockE, unlocks, valsOf, val, getP, noOwn, noOwnL, ixAt, ixN, fGt, fGe, fLt, fLe, fOr, fII, gB, gMod, gDiv, gAdd, gSub, gMul, okDiv, fAdd, fMul, fCatS, fInt1, nodeAt, fSetL, mutAt, Mut.ok, setJs, lkOk, chgOf, updC, updS, setP, pick, outs, noBor, noBorL, dropAl, Ctx.kr, Chg.dead, strip, keepJ, sNx, bor, borL, okM, okB, rootsM]
      · simp only [hu, hv, decide_true, decide_false, Bool.not_true, Bool.not_false, Bool.or_true, Bool.or_false]
        simp [cxJ, hl1, hl2, q1, q2, fNin, inS, fB2, pNot, hu, hv, runF, eAnd, sExpr, tNotT, chgs, initC, inits, locks, sSeq, sIf, sSetI, sSet, sRet, sExpr, tOfE, tTru, tNotT, tAndT, tOrT, truth, eOp, eArgs, eN, eC, eIx, eMv, eCall, lockE, unlockE, unlocks, valsOf, val, getP, noOwn, noOwnL, ixAt, ixN, fGt, fGe, fLt, fLe, fOr, fII, gB, gMod, gDiv, gAdd, gSub, gMul, okDiv, fAdd, fMul, fCatS, fInt1, nodeAt, fSetL, mutAt, Mut.ok, setJs, lkOk, chgOf, updC, updS, setP, pick, outs, noBor, noBorL, dropAl, Ctx.kr, Chg.dead, strip, keepJ, sNx, bor, borL, okM, okB, rootsM]
    · simp only [hu, decide_false, Bool.not_false, Bool.true_or]
      simp [cxJ, hl1, hl2, q1, q2, fNin, inS, fB2, pNot, hu, runF, eAnd, sExpr, tNotT, chgs, initC, inits, locks, sSeq, sIf, sSetI, sSet, sRet, sExpr, tOfE, tTru, tNotT, tAndT, tOrT, truth, eOp, eArgs, eN, eC, eIx, eMv, eCall, lockE, unlockE, unlocks, valsOf, val, getP, noOwn, noOwnL, ixAt, ixN, fGt, fGe, fLt, fLe, fOr, fII, gB, gMod, gDiv, gAdd, gSub, gMul, okDiv, fAdd, fMul, fCatS, fInt1, nodeAt, fSetL, mutAt, Mut.ok, setJs, lkOk, chgOf, updC, updS, setP, pick, outs, noBor, noBorL, dropAl, Ctx.kr, Chg.dead, strip, keepJ, sNx, bor, borL, okM, okB, rootsM]
  cases hall : ((List.range (b.length - 1)).map fun (k : Nat) => D.int (0 + k)).all fun x => !(badJ b a x) with
  | true =>
    obtain ⟨y', e⟩ := for_no (cxJ b a w n) (badJ b a) (fun x y => .rt (.bl false) (cxJ b a w n y)) _ .no hbd hst (fun x hx => by
      have := List.all_eq_true.mp hall x hx
      simpa using this)
    unfold F__law_is_jump runF
    rw [em, sSeq, k0]
    dsimp only
    rw [sSeq, k1]
    dsimp only
    rw [sSeq, k2]
    dsimp only
    rw [sSeq, sFor, k3]
    dsimp only
    rw [e]
    simp [cxJ, runF, eAnd, sExpr, tNotT, chgs, initC, inits, locks, sSeq, sIf, sSetI, sSet, sRet, sExpr, tOfE, tTru, tNotT, tAndT, tOrT, truth, eOp, eArgs, eN, eC, eIx, eMv, eCall, lockE, unlockE, unlocks, valsOf, val, getP, noOwn, noOwnL, ixAt, ixN, fGt, fGe, fLt, fLe, fOr, fII, gB, gMod, gDiv, gAdd, gSub, gMul, okDiv, fAdd, fMul, fCatS, fInt1, nodeAt, fSetL, mutAt, Mut.ok, setJs, lkOk, chgOf, updC, updS, setP, pick, outs, noBor, noBorL, dropAl, Ctx.kr, Chg.dead, strip, keepJ, sNx, bor, borL, okM, okB, rootsM]
  | false =>
    obtain ⟨y', e⟩ := for_yes (cxJ b a w n) (badJ b a) (.bl false) _ .no hbd hst (by
      obtain ⟨x, hx, hp⟩ := List.all_eq_false.mp hall
      exact List.any_eq_true.mpr ⟨x, hx, by simpa using hp⟩)
    unfold F__law_is_jump runF
    rw [em, sSeq, k0]
    dsimp only
    rw [sSeq, k1]
    dsimp only
    rw [sSeq, k2]
    dsimp only
    rw [sSeq, sFor, k3]
    dsimp only
    rw [e]
    simp [cxJ, runF, eAnd, sExpr, tNotT, chgs, initC, inits, locks, sSeq, sIf, sSetI, sSet, sRet, sExpr, tOfE, tTru, tNotT, tAndT, tOrT, truth, eOp, eArgs, eN, eC, eIx, eMv, eCall, lockE, unlockE, unlocks, valsOf, val, getP, noOwn, noOwnL, ixAt, ixN, fGt, fGe, fLt, fLe, fOr, fII, gB, gMod, gDiv, gAdd, gSub, gMul, okDiv, fAdd, fMul, fCatS, fInt1, nodeAt, fSetL, mutAt, Mut.ok, setJs, lkOk, chgOf, updC, updS, setP, pick, outs, noBor, noBorL, dropAl, Ctx.kr, Chg.dead, strip, keepJ, sNx, bor, borL, okM, okB, rootsM]
end K03
end Lc
end
section
set_option Elab.async false
set_option linter.all false
set_option maxRecDepth 100000
set_option maxHeartbeats 4000000
namespace Lc
namespace K03
open PySem L2
/-! ### rows of signs, from their ends -/
def SG : List Nat := [35, 46, 58, 65, 66, 67, 68, 97, 98, 99, 100]
def SgOk (s : List Nat) : Prop := ∀ c ∈ s, c ∈ SG
def bodyC : Ctx → SR := sIf (tOfE (eOp fNin [eN 2, eN 1])) (sRaise 0 "row" okx_InvalidRow (eN 0)) (sNx)
theorem check_step (s : List Nat) (c : Nat) : bodyC ⟨[.v (.str s), .v (.str SG), .v (.str [c])], []⟩ = if c ∈ SG then .nx ⟨[.v (.str s), .v (.str SG), .v (.str [c])], []⟩ else if okx_InvalidRow (.str s) then .exc 0 "row" (.str s) ⟨[.v (.str s), .v (.str SG), .v (.str [c])], []⟩ else .bad := by
  by_cases h : c ∈ SG
  · simp [bodyC, h, fNin, pNot, inS, fB2, runF, eAnd, sExpr, tNotT, chgs, initC, inits, locks, boxD, sSeq, sIf, sSetI, sSet, sRet, sExpr, tOfE, tTru, tNotT, tAndT, tOrT, truth, eOp, eArgs, eN, eC, eIx, eMv, eCall, lockE, unlockE, unlocks, valsOf, val, getP, noOwn, noOwnL, ixAt, ixN, fGt, fGe, fLt, fLe, fOr, fII, gB, gMod, gDiv, gAdd, gSub, gMul, okDiv, okMul_mod, fAdd, fMul, fCatS, fInt1, nodeAt, fSetL, mutAt, Mut.ok, setJs, lkOk, chgOf, updC, updS, setP, pick, outs, noBor, noBorL, dropAl, Ctx.kr, Chg.dead, strip, keepJ, sNx, bor, borL, List.range, List.range.loop, okM, okB, rootsM]
  · by_cases h2 : okx_InvalidRow (.str s) = true
    · simp [bodyC, h, h2, fNin, pNot, inS, fB2, sRaise, runF, eAnd, sExpr, tNotT, chgs, initC, inits, locks, boxD, sSeq, sIf, sSetI, sSet, sRet, sExpr, tOfE, tTru, tNotT, tAndT, tOrT, truth, eOp, eArgs, eN, eC, eIx, eMv, eCall, lockE, unlockE, unlocks, valsOf, val, getP, noOwn, noOwnL, ixAt, ixN, fGt, fGe, fLt, fLe, fOr, fII, gB, gMod, gDiv, gAdd, gSub, gMul, okDiv, okMul_mod, fAdd, fMul, fCatS, fInt1, nodeAt, fSetL, mutAt, Mut.ok, setJs, lkOk, chgOf, updC, updS, setP, pick, outs, noBor, noBorL, dropAl, Ctx.kr, Chg.dead, strip, keepJ, sNx, bor, borL, List.range, List.range.loop, okM, okB, rootsM]
    · simp [bodyC, h, h2, fNin, pNot, inS, fB2, sRaise, runF, eAnd, sExpr, tNotT, chgs, initC, inits, locks, boxD, sSeq, sIf, sSetI, sSet, sRet, sExpr, tOfE, tTru, tNotT, tAndT, tOrT, truth, eOp, eArgs, eN, eC, eIx, eMv, eCall, lockE, unlockE, unlocks, valsOf, val, getP, noOwn, noOwnL, ixAt, ixN, fGt, fGe, fLt, fLe, fOr, fII, gB, gMod, gDiv, gAdd, gSub, gMul, okDiv, okMul_mod, fAdd, fMul, fCatS, fInt1, nodeAt, fSetL, mutAt, Mut.ok, setJs, lkOk, chgOf, updC, updS, setP, pick, outs, noBor, noBorL, dropAl, Ctx.kr, Chg.dead, strip, keepJ, sNx, bor, borL, List.range, List.range.loop, okM, okB, rootsM]
theorem bind2 (a b y d : D) (hd : Lc.noOwn d = true) : bindT (.n 2) d ⟨[.v a, .v b, .v y], []⟩ = some ⟨[.v a, .v b, .v d], []⟩ := by
  simp [bindT, hd, runF, eAnd, sExpr, tNotT, chgs, initC, inits, locks, boxD, sSeq, sIf, sSetI, sSet, sRet, sExpr, tOfE, tTru, tNotT, tAndT, tOrT, truth, eOp, eArgs, eN, eC, eIx, eMv, eCall, lockE, unlockE, unlocks, valsOf, val, getP, noOwn, noOwnL, ixAt, ixN, fGt, fGe, fLt, fLe, fOr, fII, gB, gMod, gDiv, gAdd, gSub, gMul, okDiv, okMul_mod, fAdd, fMul, fCatS, fInt1, nodeAt, fSetL, mutAt, Mut.ok, setJs, lkOk, chgOf, updC, updS, setP, pick, outs, noBor, noBorL, dropAl, Ctx.kr, Chg.dead, strip, keepJ, sNx, bor, borL, List.range, List.range.loop, okM, okB, rootsM]
theorem bind2n (a b d : D) (hd : Lc.noOwn d = true) : bindT (.n 2) d ⟨[.v a, .v b, .no], []⟩ = some ⟨[.v a, .v b, .v d], []⟩ := by
  simp [bindT, hd, runF, eAnd, sExpr, tNotT, chgs, initC, inits, locks, boxD, sSeq, sIf, sSetI, sSet, sRet, sExpr, tOfE, tTru, tNotT, tAndT, tOrT, truth, eOp, eArgs, eN, eC, eIx, eMv, eCall, lockE, unlockE, unlocks, valsOf, val, getP, noOwn, noOwnL, ixAt, ixN, fGt, fGe, fLt, fLe, fOr, fII, gB, gMod, gDiv, gAdd, gSub, gMul, okDiv, okMul_mod, fAdd, fMul, fCatS, fInt1, nodeAt, fSetL, mutAt, Mut.ok, setJs, lkOk, chgOf, updC, updS, setP, pick, outs, noBor, noBorL, dropAl, Ctx.kr, Chg.dead, strip, keepJ, sNx, bor, borL, List.range, List.range.loop, okM, okB, rootsM]
theorem check_loop (s : List Nat) : ∀ (l : List Nat) (y : D), SgOk l → ∃ y', forLoop (.n 2) bodyC (l.map fun c => .str [c]) ⟨[.v (.str s), .v (.str SG), .v y], []⟩ = .nx ⟨[.v (.str s), .v (.str SG), .v y'], []⟩
  | [], y, _ => ⟨y, by simp [forLoop]⟩
  | c :: l, y, h => by
    obtain ⟨y', e⟩ := check_loop s l (.str [c]) fun x hx => h x (List.mem_cons_of_mem _ hx)
    refine ⟨y', ?_⟩
    rw [List.map_cons, forLoop, bind2 _ _ _ _ rfl]
    dsimp only
    rw [check_step, if_pos (h c (List.mem_cons_self ..))]
    exact e
theorem check_ok (s : List Nat) (h : SgOk s) : F_check_row [.str s, .str SG] = .ret .non [] := by
  have key : ∃ y, forLoop (.n 2) bodyC (s.map fun c => .str [c]) ⟨[.v (.str s), .v (.str SG), .no], []⟩ = .nx ⟨[.v (.str s), .v (.str SG), y], []⟩ := by
    cases s with
    | nil => exact ⟨.no, by simp [forLoop]⟩
    | cons c l =>
      obtain ⟨y', e⟩ := check_loop (c :: l) l (.str [c]) fun x hx => h x (List.mem_cons_of_mem _ hx)
      refine ⟨.v y', ?_⟩
      rw [List.map_cons, forLoop, bind2n _ _ _ rfl]
      dsimp only
      rw [check_step, if_pos (h c (List.mem_cons_self ..))]
      exact e
  obtain ⟨y, e⟩ := key
  have e0 : m_check_row = sFor (itE (eN 0)) (.n 2) bodyC := rfl
  simp only [F_check_row, runF, e0, sFor]
  have e1 : itE (eN 0) (initC [false, false] 1 [.str s, .str SG]) = .ok (s.map fun c => .str [c]) ⟨[.v (.str s), .v (.str SG), .no], []⟩ := by
    simp [itE, itemsOf, runF, eAnd, sExpr, tNotT, chgs, initC, inits, locks, boxD, sSeq, sIf, sSetI, sSet, sRet, sExpr, tOfE, tTru, tNotT, tAndT, tOrT, truth, eOp, eArgs, eN, eC, eIx, eMv, eCall, lockE, unlockE, unlocks, valsOf, val, getP, noOwn, noOwnL, ixAt, ixN, fGt, fGe, fLt, fLe, fOr, fII, gB, gMod, gDiv, gAdd, gSub, gMul, okDiv, okMul_mod, fAdd, fMul, fCatS, fInt1, nodeAt, fSetL, mutAt, Mut.ok, setJs, lkOk, chgOf, updC, updS, setP, pick, outs, noBor, noBorL, dropAl, Ctx.kr, Chg.dead, strip, keepJ, sNx, bor, borL, List.range, List.range.loop, okM, okB, rootsM]
  rw [e1]
  dsimp only
  rw [e]
  simp [runF, eAnd, sExpr, tNotT, chgs, initC, inits, locks, boxD, sSeq, sIf, sSetI, sSet, sRet, sExpr, tOfE, tTru, tNotT, tAndT, tOrT, truth, eOp, eArgs, eN, eC, eIx, eMv, eCall, lockE, unlockE, unlocks, valsOf, val, getP, noOwn, noOwnL, ixAt, ixN, fGt, fGe, fLt, fLe, fOr, fII, gB, gMod, gDiv, gAdd, gSub, gMul, okDiv, okMul_mod, fAdd, fMul, fCatS, fInt1, nodeAt, fSetL, mutAt, Mut.ok, setJs, lkOk, chgOf, updC, updS, setP, pick, outs, noBor, noBorL, dropAl, Ctx.kr, Chg.dead, strip, keepJ, sNx, bor, borL, List.range, List.range.loop, okM, okB, rootsM]
theorem check_okL (s : List Nat) (h : SgOk s) : F_check_row [.str s, .str [35, 46, 58, 65, 66, 67, 68, 97, 98, 99, 100]] = .ret .non [] := check_ok s h
theorem mirror_ok (s : List Nat) (h : SgOk s) (hl : s.length ≤ 100) : F_mirror [.str s] = .ret (.str s.reverse) [] := by
  have hl2 : s.length ≤ 16777216 := by omega
  simp [F_mirror, m_mirror, check_okL s h, chgs, fRev, hl2, sExpr, runF, eAnd, sExpr, tNotT, chgs, initC, inits, locks, boxD, sSeq, sIf, sSetI, sSet, sRet, sExpr, tOfE, tTru, tNotT, tAndT, tOrT, truth, eOp, eArgs, eN, eC, eIx, eMv, eCall, lockE, unlockE, unlocks, valsOf, val, getP, noOwn, noOwnL, ixAt, ixN, fGt, fGe, fLt, fLe, fOr, fII, gB, gMod, gDiv, gAdd, gSub, gMul, okDiv, okMul_mod, fAdd, fMul, fCatS, fInt1, nodeAt, fSetL, mutAt, Mut.ok, setJs, lkOk, chgOf, updC, updS, setP, pick, outs, noBor, noBorL, dropAl, Ctx.kr, Chg.dead, strip, keepJ, sNx, bor, borL, List.range, List.range.loop, okM, okB, rootsM]
def imF (s : List Nat) : D → D
  | .int j => .str [s.getD ((s.length : Int) - 1 - j).toNat 0]
  | _ => .non
theorem im_map (s : List Nat) : ((List.range s.length).map fun (k : Nat) => D.int (0 + k)).map (imF s) = s.reverse.map fun c => .str [c] := by
  rw [List.map_map]
  refine List.ext_getElem? fun k => ?_
  rw [List.getElem?_map, List.getElem?_map]
  by_cases hk : k < s.length
  · rw [List.getElem?_range hk, List.getElem?_reverse hk, List.getElem?_eq_getElem (by omega)]
    show some (D.str [s.getD ((s.length : Int) - 1 - (0 + k)).toNat 0]) = _
    rw [show ((s.length : Int) - 1 - (0 + k)).toNat = s.length - 1 - k by omega, List.getD_eq_getElem?_getD, List.getElem?_eq_getElem (by omega)]
    rfl
  · rw [List.getElem?_eq_none (by simp; omega), List.getElem?_eq_none (by simp; omega)]
    rfl
theorem image_elt (s : List Nat) (k : Nat) (hk : k < s.length) (hl : s.length ≤ 100) : eIx (eN 0) (eOp (fII gSub) [eOp (fII gSub) [eOp fLen [eN 0], eC (.int 1)], eN 1]) ⟨[.v (.str s), .v (.int (0 + k))], []⟩ = .ok (.t (imF s (.int (0 + k)))) ⟨[.v (.str s), .v (.int (0 + k))], []⟩ := by
  have h2 : s.length ≤ 16777216 := by omega
  have h6 := at_get s ((s.length : Int) - 1 - (0 + k)) (by omega) (by omega)
  generalize (0 : Int) + k = j at *
  simp [imF, h2, h6, fLen, runF, eAnd, sExpr, tNotT, chgs, initC, inits, locks, boxD, sSeq, sIf, sSetI, sSet, sRet, sExpr, tOfE, tTru, tNotT, tAndT, tOrT, truth, eOp, eArgs, eN, eC, eIx, eMv, eCall, lockE, unlockE, unlocks, valsOf, val, getP, noOwn, noOwnL, ixAt, ixN, fGt, fGe, fLt, fLe, fOr, fII, gB, gMod, gDiv, gSub, gMul, okDiv, okMul_mod, fCatS, fInt1, nodeAt, fSetL, mutAt, Mut.ok, setJs, lkOk, chgOf, updC, updS, setP, pick, outs, noBor, noBorL, dropAl, Ctx.kr, Chg.dead, strip, keepJ, sNx, bor, borL, okM, okB, rootsM]
theorem image_key (s : List Nat) (hl : s.length ≤ 100) : cmpLoop [1] (.n 1) (fun c => .ok true c) (eIx (eN 0) (eOp (fII gSub) [eOp (fII gSub) [eOp fLen [eN 0], eC (.int 1)], eN 1])) ((List.range s.length).map fun (k : Nat) => .int (0 + k)) [] ⟨[.v (.str s), .no], []⟩ = .ok (.t (.nd .lst .own (s.reverse.map fun c => .str [c]))) ⟨[.v (.str s), .no], []⟩ := by
  have hlen : ([] : List D).length + ((List.range s.length).map fun (k : Nat) => D.int (0 + k)).length ≤ 16777216 := by
    rw [List.length_map, List.length_range, List.length_nil]; omega
  have e := cmp_map (own := [1]) (t := .n 1) (test := fun c => .ok true c) (elt := eIx (eN 0) (eOp (fII gSub) [eOp (fII gSub) [eOp fLen [eN 0], eC (.int 1)], eN 1])) (c := ⟨[.v (.str s), .no], []⟩) (imF s) (fun x => ⟨[.v (.str s), .v x], []⟩) ((List.range s.length).map fun (k : Nat) => .int (0 + k)) [] (fun x hx => by
      obtain ⟨k, hk, rfl⟩ := List.mem_map.mp hx
      have hk := List.mem_range.mp hk
      refine ⟨?_, rfl, image_elt s k hk hl, rfl, ?_⟩
      · simp [bindT, runF, eAnd, sExpr, tNotT, chgs, initC, inits, locks, boxD, sSeq, sIf, sSetI, sSet, sRet, sExpr, tOfE, tTru, tNotT, tAndT, tOrT, truth, eOp, eArgs, eN, eC, eIx, eMv, eCall, lockE, unlockE, unlocks, valsOf, val, getP, noOwn, noOwnL, ixAt, ixN, fGt, fGe, fLt, fLe, fOr, fII, gB, gMod, gDiv, gSub, gMul, okDiv, okMul_mod, fCatS, fInt1, nodeAt, fSetL, mutAt, Mut.ok, setJs, lkOk, chgOf, updC, updS, setP, pick, outs, noBor, noBorL, dropAl, Ctx.kr, Chg.dead, strip, keepJ, sNx, bor, borL, okM, okB, rootsM]
      · simp [wipeC, runF, eAnd, sExpr, tNotT, chgs, initC, inits, locks, boxD, sSeq, sIf, sSetI, sSet, sRet, sExpr, tOfE, tTru, tNotT, tAndT, tOrT, truth, eOp, eArgs, eN, eC, eIx, eMv, eCall, lockE, unlockE, unlocks, valsOf, val, getP, noOwn, noOwnL, ixAt, ixN, fGt, fGe, fLt, fLe, fOr, fII, gB, gMod, gDiv, gSub, gMul, okDiv, okMul_mod, fCatS, fInt1, nodeAt, fSetL, mutAt, Mut.ok, setJs, lkOk, chgOf, updC, updS, setP, pick, outs, noBor, noBorL, dropAl, Ctx.kr, Chg.dead, strip, keepJ, sNx, bor, borL, okM, okB, rootsM]) hlen
  rw [e, im_map, List.nil_append]
theorem image_is (s : List Nat) (hl : s.length ≤ 100) : F__law_image [.str s] = .ret (.str s.reverse) [] := by
  have h2 : s.length ≤ 16777216 := by omega
  have e1 : itA fR1 [eOp fLen [eN 0]] ⟨[.v (.str s), .no], []⟩ = .ok ((List.range s.length).map fun (k : Nat) => .int (0 + k)) ⟨[.v (.str s), .no], []⟩ := itR1 (by simp [fLen, h2, runF, eAnd, sExpr, tNotT, chgs, initC, inits, locks, boxD, sSeq, sIf, sSetI, sSet, sRet, sExpr, tOfE, tTru, tNotT, tAndT, tOrT, truth, eOp, eArgs, eN, eC, eIx, eMv, eCall, lockE, unlockE, unlocks, valsOf, val, getP, noOwn, noOwnL, ixAt, ixN, fGt, fGe, fLt, fLe, fOr, fII, gB, gMod, gDiv, gSub, gMul, okDiv, okMul_mod, fCatS, fInt1, nodeAt, fSetL, mutAt, Mut.ok, setJs, lkOk, chgOf, updC, updS, setP, pick, outs, noBor, noBorL, dropAl, Ctx.kr, Chg.dead, strip, keepJ, sNx, bor, borL, okM, okB, rootsM]) hl
  have e2 := eCmp_is e1 (own := [1]) rfl (by simp [wipeC, runF, eAnd, sExpr, tNotT, chgs, initC, inits, locks, boxD, sSeq, sIf, sSetI, sSet, sRet, sExpr, tOfE, tTru, tNotT, tAndT, tOrT, truth, eOp, eArgs, eN, eC, eIx, eMv, eCall, lockE, unlockE, unlocks, valsOf, val, getP, noOwn, noOwnL, ixAt, ixN, fGt, fGe, fLt, fLe, fOr, fII, gB, gMod, gDiv, gSub, gMul, okDiv, okMul_mod, fCatS, fInt1, nodeAt, fSetL, mutAt, Mut.ok, setJs, lkOk, chgOf, updC, updS, setP, pick, outs, noBor, noBorL, dropAl, Ctx.kr, Chg.dead, strip, keepJ, sNx, bor, borL, okM, okB, rootsM]) (image_key s hl)
  have e3 := eSM_join e2 (by rw [List.length_reverse]; omega)
  have e4 : m__law_image = sRet (eSM fJoin (eC (.str [])) [eCmp [1] (itA fR1 [eOp fLen [eN 0]]) (.n 1) (fun c => .ok true c) (eIx (eN 0) (eOp (fII gSub) [eOp (fII gSub) [eOp fLen [eN 0], eC (.int 1)], eN 1]))]) := rfl
  have e6 : m__law_image (initC [false] 1 [.str s]) = .rt (.str s.reverse) ⟨[.v (.str s), .no], []⟩ := by
    rw [e4, sRet, show initC [false] 1 [.str s] = ⟨[.v (.str s), .no], []⟩ from rfl, e3]
  unfold F__law_image runF
  rw [e6]
  rfl

/-! ### jumps -/
abbrev T3 (b a w : List Nat) : D := .tup [.str b, .str a, .str w]
abbrev J (b a w : List Nat) : D := .nd (.obj 2 ["before", "after", "ways"]) .frz [.str b, .str a, .str w]
def sg (w : List Nat) : List Nat := if w = RT then [62] else if w = LF then [60] else [61]
def sw (w : List Nat) : List Nat := if w = RT then LF else if w = LF then RT else BO
theorem w3 {w : List Nat} (h : wOk w = true) : w = RT ∨ w = LF ∨ w = BO := by
  rw [wOk_is] at h
  simpa [or_assoc] using h
theorem isj_parts {b a w : List Nat} (h : isj b a w = true) : bOk b = true ∧ aOk a = true ∧ b.length = a.length ∧ wOk w = true := by
  simpa [isj, Bool.and_eq_true] using h
theorem bOk_sg {b : List Nat} (h : bOk b = true) : SgOk b ∧ (b.length = 3 ∨ b.length = 4) := by
  simp only [bOk, Bool.and_eq_true, decide_eq_true_eq] at h
  obtain ⟨h1, h2, h3⟩ := h
  have h1 : b.length = 3 ∨ b.length = 4 := by simpa [l34] using h1
  refine ⟨fun c hc => ?_, h1⟩
  obtain ⟨k, hk, e⟩ := List.getElem_of_mem hc
  by_cases hl : k < b.length - 1
  · have hm : c ∈ b.take (b.length - 1) := by
      rw [← e]
      exact List.mem_take_iff_getElem.mpr ⟨k, by omega, rfl⟩
    have := List.all_eq_true.mp h3 c hm
    have : c ∈ PEG := by simpa [pg] using this
    simp only [PEG, List.mem_cons, List.not_mem_nil, or_false] at this
    simp only [SG, List.mem_cons, List.not_mem_nil, or_false]
    omega
  · have hk2 : k = b.length - 1 := by omega
    have : c = 46 := by
      rw [← h2, List.getD_eq_getElem?_getD, ← hk2, List.getElem?_eq_getElem hk, e]
      rfl
    rw [this]
    decide
theorem aOk_sg {a : List Nat} (h : aOk a = true) : SgOk a := by
  simp only [aOk, Bool.and_eq_true, decide_eq_true_eq] at h
  obtain ⟨h1, h2, h3⟩ := h
  intro c hc
  have := List.all_eq_true.mp h3 c hc
  simp only [pg, PEG, Bool.or_eq_true, decide_eq_true_eq, List.mem_cons, List.not_mem_nil, or_false] at this
  simp only [SG, List.mem_cons, List.not_mem_nil, or_false]
  omega
theorem ix0 : ixS [] ("before" : PySem.Str) = none := by decide
theorem ix1 : ixS [("before" : PySem.Str)] "after" = none := by decide
theorem ix2 : ixS [("before" : PySem.Str), "after"] "ways" = none := by decide
theorem init_ok (b a w : List Nat) (hb : b.length ≤ 100) (ha : a.length ≤ 100) (h : isj b a w = true) : F_Jump_init [.nd (.obj 2 []) .own [], .str b, .str a, .str w] = .ret .non [.nd (.obj 2 ["before", "after", "ways"]) .own [.str b, .str a, .str w]] := by
  have e := isjump_is b a w hb ha
  rw [h] at e
  simp [F_Jump_init, m_Jump_init, e, sSetF, fSetF, ix0, ix1, ix2, List.range, List.range.loop, runF, eAnd, sExpr, tNotT, chgs, initC, inits, locks, sSeq, sIf, sSetI, sSet, sRet, sExpr, tOfE, tTru, tNotT, tAndT, tOrT, truth, eOp, eArgs, eN, eC, eIx, eMv, eCall, lockE, unlockE, unlocks, valsOf, val, getP, noOwn, noOwnL, ixAt, ixN, fGt, fGe, fLt, fLe, fOr, fII, gB, gMod, gDiv, gAdd, gSub, gMul, okDiv, fAdd, fMul, fCatS, fInt1, nodeAt, fSetL, mutAt, Mut.ok, setJs, lkOk, chgOf, updC, updS, setP, pick, outs, noBor, noBorL, dropAl, Ctx.kr, Chg.dead, strip, keepJ, sNx, bor, borL, okM, okB, rootsM]
theorem init_bad (b a w : List Nat) (hb : b.length ≤ 100) (ha : a.length ≤ 100) (h : isj b a w = false) (hk : okx_InvalidJump (.str b) = true) : F_Jump_init [.nd (.obj 2 []) .own [], .str b, .str a, .str w] = .exc 1 "text" (.str b) [.nd (.obj 2 []) .own []] := by
  have e := isjump_is b a w hb ha
  rw [h] at e
  simp [F_Jump_init, m_Jump_init, e, hk, sRaise, runF, eAnd, sExpr, tNotT, chgs, initC, inits, locks, sSeq, sIf, sSetI, sSet, sRet, sExpr, tOfE, tTru, tNotT, tAndT, tOrT, truth, eOp, eArgs, eN, eC, eIx, eMv, eCall, lockE, unlockE, unlocks, valsOf, val, getP, noOwn, noOwnL, ixAt, ixN, fGt, fGe, fLt, fLe, fOr, fII, gB, gMod, gDiv, gAdd, gSub, gMul, okDiv, fAdd, fMul, fCatS, fInt1, nodeAt, fSetL, mutAt, Mut.ok, setJs, lkOk, chgOf, updC, updS, setP, pick, outs, noBor, noBorL, dropAl, Ctx.kr, Chg.dead, strip, keepJ, sNx, bor, borL, okM, okB, rootsM]
end K03
end Lc
end
section
set_option Elab.async false
set_option linter.all false
set_option maxRecDepth 100000
set_option maxHeartbeats 4000000
namespace Lc
namespace K03
open PySem L2
theorem fl1 (b a w : List Nat) (f : Fl) : fFld [2] "before" [.nd (.obj 2 ["before", "after", "ways"]) f [.str b, .str a, .str w]] = some (.str b) := by
  have : ixS [("before" : PySem.Str), "after", "ways"] "before" = some 0 := by decide
  simp [fFld, this, noOwn]
theorem fl2 (b a w : List Nat) (f : Fl) : fFld [2] "after" [.nd (.obj 2 ["before", "after", "ways"]) f [.str b, .str a, .str w]] = some (.str a) := by
  have : ixS [("before" : PySem.Str), "after", "ways"] "after" = some 1 := by decide
  simp [fFld, this, noOwn]
theorem fl3 (b a w : List Nat) (f : Fl) : fFld [2] "ways" [.nd (.obj 2 ["before", "after", "ways"]) f [.str b, .str a, .str w]] = some (.str w) := by
  have : ixS [("before" : PySem.Str), "after", "ways"] "ways" = some 2 := by decide
  simp [fFld, this, noOwn]
/-- the windows -/
def WN (b a w : List Nat) : List D := (if w = LF then [] else [.tup [.str b, .str a]]) ++ (if w = RT then [] else [.tup [.str b.reverse, .str a.reverse]])
theorem WN_r (b a : List Nat) : WN b a RT = [.tup [.str b, .str a]] := by simp [WN, RT, LF]
theorem WN_l (b a : List Nat) : WN b a LF = [.tup [.str b.reverse, .str a.reverse]] := by simp [WN, RT, LF]
theorem WN_b (b a : List Nat) : WN b a BO = [.tup [.str b, .str a], .tup [.str b.reverse, .str a.reverse]] := by simp [WN, RT, LF, BO]
theorem windows_is (b a w : List Nat) (h : isj b a w = true) : F_Jump_windows [J b a w] = .ret (.nd .lst .own (WN b a w)) [] := by
  obtain ⟨hb, ha, hl, hw⟩ := isj_parts h
  obtain ⟨sb, hb2⟩ := bOk_sg hb
  have sa := aOk_sg ha
  have m1 := mirror_ok b sb (by omega)
  have m2 := mirror_ok a sa (by omega)
  rcases w3 hw with rfl | rfl | rfl
  · rw [WN_r]
    simp [F_Jump_windows, m_Jump_windows, fl1, fl2, fl3, RT, fNe, pNot, eqS, fB2, eLst, eTup, allT, eMth, isL, isT, fAppend, List.range, List.range.loop, m1, m2, runF, eAnd, sExpr, tNotT, chgs, initC, inits, locks, sSeq, sIf, sSetI, sSet, sRet, sExpr, tOfE, tTru, tNotT, tAndT, tOrT, truth, eOp, eArgs, eN, eC, eIx, eMv, eCall, lockE, unlockE, unlocks, valsOf, val, getP, noOwn, noOwnL, ixAt, ixN, fGt, fGe, fLt, fLe, fOr, fII, gB, gMod, gDiv, gAdd, gSub, gMul, okDiv, fAdd, fMul, fCatS, fInt1, nodeAt, fSetL, mutAt, Mut.ok, setJs, lkOk, chgOf, updC, updS, setP, pick, outs, noBor, noBorL, dropAl, Ctx.kr, Chg.dead, strip, keepJ, sNx, bor, borL, okM, okB, rootsM]
  · rw [WN_l]
    simp [F_Jump_windows, m_Jump_windows, fl1, fl2, fl3, LF, fNe, pNot, eqS, fB2, eLst, eTup, allT, eMth, isL, isT, fAppend, List.range, List.range.loop, m1, m2, runF, eAnd, sExpr, tNotT, chgs, initC, inits, locks, sSeq, sIf, sSetI, sSet, sRet, sExpr, tOfE, tTru, tNotT, tAndT, tOrT, truth, eOp, eArgs, eN, eC, eIx, eMv, eCall, lockE, unlockE, unlocks, valsOf, val, getP, noOwn, noOwnL, ixAt, ixN, fGt, fGe, fLt, fLe, fOr, fII, gB, gMod, gDiv, gAdd, gSub, gMul, okDiv, fAdd, fMul, fCatS, fInt1, nodeAt, fSetL, mutAt, Mut.ok, setJs, lkOk, chgOf, updC, updS, setP, pick, outs, noBor, noBorL, dropAl, Ctx.kr, Chg.dead, strip, keepJ, sNx, bor, borL, okM, okB, rootsM]
  · rw [WN_b]
    simp [F_Jump_windows, m_Jump_windows, fl1, fl2, fl3, BO, fNe, pNot, eqS, fB2, eLst, eTup, allT, eMth, isL, isT, fAppend, List.range, List.range.loop, m1, m2, runF, eAnd, sExpr, tNotT, chgs, initC, inits, locks, sSeq, sIf, sSetI, sSet, sRet, sExpr, tOfE, tTru, tNotT, tAndT, tOrT, truth, eOp, eArgs, eN, eC, eIx, eMv, eCall, lockE, unlockE, unlocks, valsOf, val, getP, noOwn, noOwnL, ixAt, ixN, fGt, fGe, fLt, fLe, fOr, fII, gB, gMod, gDiv, gAdd, gSub, gMul, okDiv, fAdd, fMul, fCatS, fInt1, nodeAt, fSetL, mutAt, Mut.ok, setJs, lkOk, chgOf, updC, updS, setP, pick, outs, noBor, noBorL, dropAl, Ctx.kr, Chg.dead, strip, keepJ, sNx, bor, borL, okM, okB, rootsM]
theorem lwindows_is (b a w : List Nat) (h : isj b a w = true) : F__law_windows [T3 b a w] = .ret (.nd .lst .own (WN b a w)) [] := by
  obtain ⟨hb, ha, hl, hw⟩ := isj_parts h
  obtain ⟨sb, hb2⟩ := bOk_sg hb
  have m1 := image_is b (by omega)
  have m2 := image_is a (by omega)
  rcases w3 hw with rfl | rfl | rfl
  · rw [WN_r]
    simp [F__law_windows, m__law_windows, RT, fNe, pNot, eqS, fB2, eLst, eTup, allT, eMth, isL, isT, fAppend, List.range, List.range.loop, m1, m2, runF, eAnd, sExpr, tNotT, chgs, initC, inits, locks, sSeq, sIf, sSetI, sSet, sRet, sExpr, tOfE, tTru, tNotT, tAndT, tOrT, truth, eOp, eArgs, eN, eC, eIx, eMv, eCall, lockE, unlockE, unlocks, valsOf, val, getP, noOwn, noOwnL, ixAt, ixN, fGt, fGe, fLt, fLe, fOr, fII, gB, gMod, gDiv, gAdd, gSub, gMul, okDiv, fAdd, fMul, fCatS, fInt1, nodeAt, fSetL, mutAt, Mut.ok, setJs, lkOk, chgOf, updC, updS, setP, pick, outs, noBor, noBorL, dropAl, Ctx.kr, Chg.dead, strip, keepJ, sNx, bor, borL, okM, okB, rootsM]
  · rw [WN_l]
    simp [F__law_windows, m__law_windows, LF, fNe, pNot, eqS, fB2, eLst, eTup, allT, eMth, isL, isT, fAppend, List.range, List.range.loop, m1, m2, runF, eAnd, sExpr, tNotT, chgs, initC, inits, locks, sSeq, sIf, sSetI, sSet, sRet, sExpr, tOfE, tTru, tNotT, tAndT, tOrT, truth, eOp, eArgs, eN, eC, eIx, eMv, eCall, lockE, unlockE, unlocks, valsOf, val, getP, noOwn, noOwnL, ixAt, ixN, fGt, fGe, fLt, fLe, fOr, fII, gB, gMod, gDiv, gAdd, gSub, gMul, okDiv, fAdd, fMul, fCatS, fInt1, nodeAt, fSetL, mutAt, Mut.ok, setJs, lkOk, chgOf, updC, updS, setP, pick, outs, noBor, noBorL, dropAl, Ctx.kr, Chg.dead, strip, keepJ, sNx, bor, borL, okM, okB, rootsM]
  · rw [WN_b]
    simp [F__law_windows, m__law_windows, BO, fNe, pNot, eqS, fB2, eLst, eTup, allT, eMth, isL, isT, fAppend, List.range, List.range.loop, m1, m2, runF, eAnd, sExpr, tNotT, chgs, initC, inits, locks, sSeq, sIf, sSetI, sSet, sRet, sExpr, tOfE, tTru, tNotT, tAndT, tOrT, truth, eOp, eArgs, eN, eC, eIx, eMv, eCall, lockE, unlockE, unlocks, valsOf, val, getP, noOwn, noOwnL, ixAt, ixN, fGt, fGe, fLt, fLe, fOr, fII, gB, gMod, gDiv, gAdd, gSub, gMul, okDiv, fAdd, fMul, fCatS, fInt1, nodeAt, fSetL, mutAt, Mut.ok, setJs, lkOk, chgOf, updC, updS, setP, pick, outs, noBor, noBorL, dropAl, Ctx.kr, Chg.dead, strip, keepJ, sNx, bor, borL, okM, okB, rootsM]
end K03
end Lc
end
section
set_option Elab.async false
set_option linter.all false
set_option maxRecDepth 100000
set_option maxHeartbeats 4000000
namespace Lc
namespace K03
open PySem L2
theorem ty_t (xs : List D) : fIsi [.tup xs, .ty "tuple"] = some (.bl true) := by
  simp [fIsi, tyName, kitB]
theorem ty_l (f : Fl) (xs : List D) : fIsi [.nd .lst f xs, .ty "list"] = some (.bl true) := by
  simp [fIsi, tyName, kitB]
theorem r1 : (fR1 [.int 1]) = some [.int 0] := by rfl
theorem r2 : (fR1 [.int 2]) = some [.int 0, .int 1] := by rfl
theorem listed_is (b a w : List Nat) (h : isj b a w = true) : F__law_listed [.nd .lst .own (WN b a w), T3 b a w] = .ret (.bl true) [] := by
  have e1 := lwindows_is b a w h
  obtain ⟨hb, ha, hl, hw⟩ := isj_parts h
  rcases w3 hw with rfl | rfl | rfl
  · rw [WN_r] at *
    simp [F__law_listed, m__law_listed, e1, ty_t, ty_l, r1, r2, fLen, fNe, pNot, eqS, fB2, text_is, sFor, itA, forLoop, bindT, runF, eAnd, sExpr, tNotT, chgs, initC, inits, locks, sSeq, sIf, sSetI, sSet, sRet, sExpr, tOfE, tTru, tNotT, tAndT, tOrT, truth, eOp, eArgs, eN, eC, eIx, eMv, eCall, lockE, unlockE, unlocks, valsOf, val, getP, noOwn, noOwnL, ixAt, ixN, fGt, fGe, fLt, fLe, fOr, fII, gB, gMod, gDiv, gAdd, gSub, gMul, okDiv, fAdd, fMul, fCatS, fInt1, nodeAt, fSetL, mutAt, Mut.ok, setJs, lkOk, chgOf, updC, updS, setP, pick, outs, noBor, noBorL, dropAl, Ctx.kr, Chg.dead, strip, keepJ, sNx, bor, borL, okM, okB, rootsM]
  · rw [WN_l] at *
    simp [F__law_listed, m__law_listed, e1, ty_t, ty_l, r1, r2, fLen, fNe, pNot, eqS, fB2, text_is, sFor, itA, forLoop, bindT, runF, eAnd, sExpr, tNotT, chgs, initC, inits, locks, sSeq, sIf, sSetI, sSet, sRet, sExpr, tOfE, tTru, tNotT, tAndT, tOrT, truth, eOp, eArgs, eN, eC, eIx, eMv, eCall, lockE, unlockE, unlocks, valsOf, val, getP, noOwn, noOwnL, ixAt, ixN, fGt, fGe, fLt, fLe, fOr, fII, gB, gMod, gDiv, gAdd, gSub, gMul, okDiv, fAdd, fMul, fCatS, fInt1, nodeAt, fSetL, mutAt, Mut.ok, setJs, lkOk, chgOf, updC, updS, setP, pick, outs, noBor, noBorL, dropAl, Ctx.kr, Chg.dead, strip, keepJ, sNx, bor, borL, okM, okB, rootsM]
  · rw [WN_b] at *
    simp [F__law_listed, m__law_listed, e1, ty_t, ty_l, r1, r2, fLen, fNe, pNot, eqS, fB2, text_is, sFor, itA, forLoop, bindT, runF, eAnd, sExpr, tNotT, chgs, initC, inits, locks, sSeq, sIf, sSetI, sSet, sRet, sExpr, tOfE, tTru, tNotT, tAndT, tOrT, truth, eOp, eArgs, eN, eC, eIx, eMv, eCall, lockE, unlockE, unlocks, valsOf, val, getP, noOwn, noOwnL, ixAt, ixN, fGt, fGe, fLt, fLe, fOr, fII, gB, gMod, gDiv, gAdd, gSub, gMul, okDiv, fAdd, fMul, fCatS, fInt1, nodeAt, fSetL, mutAt, Mut.ok, setJs, lkOk, chgOf, updC, updS, setP, pick, outs, noBor, noBorL, dropAl, Ctx.kr, Chg.dead, strip, keepJ, sNx, bor, borL, okM, okB, rootsM]
theorem tix_ws (w : List Nat) (h : wOk w = true) : fTIx tbl_WAY_SIGNS [.str w] = some (.str (sg w)) := by
  rcases w3 h with rfl | rfl | rfl <;> rfl
theorem tix_mw (w : List Nat) (h : wOk w = true) : fTIx tbl_MIRRORED_WAYS [.str w] = some (.str (sw w)) := by
  rcases w3 h with rfl | rfl | rfl <;> rfl
theorem sg_len (w : List Nat) : (sg w).length = 1 := by
  unfold sg
  split
  · rfl
  · split <;> rfl
theorem str_is (b a w : List Nat) (h : isj b a w = true) : F_Jump_str [J b a w] = .ret (.str (b ++ (sg w ++ a))) [] := by
  obtain ⟨hb, ha, hl, hw⟩ := isj_parts h
  obtain ⟨sb, hb2⟩ := bOk_sg hb
  have e1 := tix_ws w hw
  have h1 : b.length ≤ 1000000 := by omega
  have h2 : a.length ≤ 1000000 := by omega
  have h3 : (sg w).length ≤ 1000000 := by rw [sg_len]; omega
  simp [F_Jump_str, m_Jump_str, fl1, fl2, fl3, e1, eJs, fJs, eSb, fFm, strsOf, h1, h2, h3, runF, eAnd, sExpr, tNotT, chgs, initC, inits, locks, sSeq, sIf, sSetI, sSet, sRet, sExpr, tOfE, tTru, tNotT, tAndT, tOrT, truth, eOp, eArgs, eN, eC, eIx, eMv, eCall, lockE, unlockE, unlocks, valsOf, val, getP, noOwn, noOwnL, ixAt, ixN, fGt, fGe, fLt, fLe, fOr, fII, gB, gMod, gDiv, gAdd, gSub, gMul, okDiv, fAdd, fMul, fCatS, fInt1, nodeAt, fSetL, mutAt, Mut.ok, setJs, lkOk, chgOf, updC, updS, setP, pick, outs, noBor, noBorL, dropAl, Ctx.kr, Chg.dead, strip, keepJ, sNx, bor, borL, okM, okB, rootsM]
theorem dix_w (w : List Nat) (h : wOk w = true) : fDIx [.nd (.dct [.inr (strL [114, 105, 103, 104, 116]), .inr (strL [108, 101, 102, 116]), .inr (strL [98, 111, 116, 104])]) .own [.str [62], .str [60], .str [61]], .str w] = some (.str (sg w)) := by
  rcases w3 h with rfl | rfl | rfl <;> rfl
theorem dix_s (w : List Nat) (h : wOk w = true) : fDIx [.nd (.dct [.inr (strL [114, 105, 103, 104, 116]), .inr (strL [108, 101, 102, 116]), .inr (strL [98, 111, 116, 104])]) .own [.str [108, 101, 102, 116], .str [114, 105, 103, 104, 116], .str [98, 111, 116, 104]], .str w] = some (.str (sw w)) := by
  rcases w3 h with rfl | rfl | rfl <;> rfl
theorem written_is (b a w : List Nat) (h : isj b a w = true) : F__law_written [T3 b a w] = .ret (.str (b ++ (sg w ++ a))) [] := by
  obtain ⟨hb, ha, hl, hw⟩ := isj_parts h
  obtain ⟨sb, hb2⟩ := bOk_sg hb
  have e1 := dix_w w hw
  have h1 : b.length + (sg w).length ≤ 16777216 := by rw [sg_len]; omega
  have h2 : b.length + ((sg w).length + a.length) ≤ 16777216 := by rw [sg_len]; omega
  have h3 : b.length + (sg w).length + a.length ≤ 16777216 := by rw [sg_len]; omega
  simp [F__law_written, m__law_written, eDsp, e1, h1, h2, h3, runF, eAnd, sExpr, tNotT, chgs, initC, inits, locks, sSeq, sIf, sSetI, sSet, sRet, sExpr, tOfE, tTru, tNotT, tAndT, tOrT, truth, eOp, eArgs, eN, eC, eIx, eMv, eCall, lockE, unlockE, unlocks, valsOf, val, getP, noOwn, noOwnL, ixAt, ixN, fGt, fGe, fLt, fLe, fOr, fII, gB, gMod, gDiv, gAdd, gSub, gMul, okDiv, fAdd, fMul, fCatS, fInt1, nodeAt, fSetL, mutAt, Mut.ok, setJs, lkOk, chgOf, updC, updS, setP, pick, outs, noBor, noBorL, dropAl, Ctx.kr, Chg.dead, strip, keepJ, sNx, bor, borL, okM, okB, rootsM]
theorem swapped_is (b a w : List Nat) (h : isj b a w = true) : F__law_swapped [T3 b a w] = .ret (T3 b a (sw w)) [] := by
  obtain ⟨hb, ha, hl, hw⟩ := isj_parts h
  have e1 := dix_s w hw
  simp [F__law_swapped, m__law_swapped, eDsp, e1, eTup, allT, runF, eAnd, sExpr, tNotT, chgs, initC, inits, locks, sSeq, sIf, sSetI, sSet, sRet, sExpr, tOfE, tTru, tNotT, tAndT, tOrT, truth, eOp, eArgs, eN, eC, eIx, eMv, eCall, lockE, unlockE, unlocks, valsOf, val, getP, noOwn, noOwnL, ixAt, ixN, fGt, fGe, fLt, fLe, fOr, fII, gB, gMod, gDiv, gAdd, gSub, gMul, okDiv, fAdd, fMul, fCatS, fInt1, nodeAt, fSetL, mutAt, Mut.ok, setJs, lkOk, chgOf, updC, updS, setP, pick, outs, noBor, noBorL, dropAl, Ctx.kr, Chg.dead, strip, keepJ, sNx, bor, borL, okM, okB, rootsM]
end K03
end Lc
end
section
set_option Elab.async false
set_option linter.all false
set_option maxRecDepth 100000
set_option maxHeartbeats 4000000
namespace Lc
namespace K03
open PySem L2
theorem isj_sw {b a w : List Nat} (h : isj b a w = true) : isj b a (sw w) = true := by
  obtain ⟨hb, ha, hl, hw⟩ := isj_parts h
  have : wOk (sw w) = true := by rcases w3 hw with rfl | rfl | rfl <;> rfl
  simp [isj, hb, ha, hl, this]
theorem isj_len {b a w : List Nat} (h : isj b a w = true) : b.length ≤ 4 ∧ a.length ≤ 4 := by
  obtain ⟨hb, ha, hl, hw⟩ := isj_parts h
  obtain ⟨_, h2⟩ := bOk_sg hb
  omega
theorem sw_sw {w : List Nat} (h : wOk w = true) : sw (sw w) = w := by
  rcases w3 h with rfl | rfl | rfl <;> rfl
theorem SgOk.as {t : List Nat} (h : SgOk t) (hl : t.length ≤ 100) : As t := ⟨fun x hx => by
  have := h x hx
  simp only [SG, List.mem_cons, List.not_mem_nil, or_false] at this
  omega, hl⟩
theorem isj_as {b a w : List Nat} (h : isj b a w = true) : As b ∧ As a ∧ As w := by
  obtain ⟨hb, ha, hl, hw⟩ := isj_parts h
  have hln := isj_len h
  refine ⟨SgOk.as (bOk_sg hb).1 (by omega), SgOk.as (aOk_sg ha) (by omega), ?_⟩
  rcases w3 hw with rfl | rfl | rfl <;> (refine ⟨by decide, by decide⟩)
theorem eq_txt (s t : List Nat) : fEq [.str s, .str t] = some (.bl (decide (s = t))) := by
  simp [fEq, eqS, fB2, runF, eAnd, sExpr, tNotT, chgs, initC, inits, locks, sSeq, sIf, sSetI, sSet, sRet, sExpr, tOfE, tTru, tNotT, tAndT, tOrT, truth, eOp, eArgs, eN, eC, eIx, eMv, eCall, lockE, unlockE, unlocks, valsOf, val, getP, noOwn, noOwnL, ixAt, ixN, fGt, fGe, fLt, fLe, fOr, fII, gB, gMod, gDiv, gAdd, gSub, gMul, okDiv, fAdd, fMul, fCatS, fInt1, nodeAt, fSetL, mutAt, Mut.ok, setJs, lkOk, chgOf, updC, updS, setP, pick, outs, noBor, noBorL, dropAl, Ctx.kr, Chg.dead, strip, keepJ, sNx, bor, borL, okM, okB, rootsM]
theorem isC_J (b a w : List Nat) (f : Fl) : fIsC ist_Jump isb_Jump [.nd (.obj 2 ["before", "after", "ways"]) f [.str b, .str a, .str w]] = some (.bl true) := by
  rfl
theorem jeq_is (b a w b' a' w' : List Nat) : F_Jump_eq [J b a w, J b' a' w'] = .ret (.bl (decide (b = b') && (decide (a = a') && decide (w = w')))) [] := by
  by_cases h1 : b = b' <;> by_cases h2 : a = a' <;> by_cases h3 : w = w' <;> simp [F_Jump_eq, m_Jump_eq, isC_J, fl1, fl2, fl3, eq_txt, h1, h2, h3, runF, eAnd, sExpr, tNotT, chgs, initC, inits, locks, sSeq, sIf, sSetI, sSet, sRet, sExpr, tOfE, tTru, tNotT, tAndT, tOrT, truth, eOp, eArgs, eN, eC, eIx, eMv, eCall, lockE, unlockE, unlocks, valsOf, val, getP, noOwn, noOwnL, ixAt, ixN, fGt, fGe, fLt, fLe, fOr, fII, gB, gMod, gDiv, gAdd, gSub, gMul, okDiv, fAdd, fMul, fCatS, fInt1, nodeAt, fSetL, mutAt, Mut.ok, setJs, lkOk, chgOf, updC, updS, setP, pick, outs, noBor, noBorL, dropAl, Ctx.kr, Chg.dead, strip, keepJ, sNx, bor, borL, okM, okB, rootsM]
theorem mirrored_is (b a w : List Nat) (h : isj b a w = true) : F_Jump_mirrored [J b a w] = .ret (J b a (sw w)) [] := by
  obtain ⟨hb, ha, hl, hw⟩ := isj_parts h
  have hln := isj_len h
  have e1 := init_ok b a (sw w) (by omega) (by omega) (isj_sw h)
  have e2 := tix_mw w hw
  simp [F_Jump_mirrored, m_Jump_mirrored, eFt, eMake, e1, e2, fl1, fl2, fl3, frz, frzL, runF, eAnd, sExpr, tNotT, chgs, initC, inits, locks, sSeq, sIf, sSetI, sSet, sRet, sExpr, tOfE, tTru, tNotT, tAndT, tOrT, truth, eOp, eArgs, eN, eC, eIx, eMv, eCall, lockE, unlockE, unlocks, valsOf, val, getP, noOwn, noOwnL, ixAt, ixN, fGt, fGe, fLt, fLe, fOr, fII, gB, gMod, gDiv, gAdd, gSub, gMul, okDiv, fAdd, fMul, fCatS, fInt1, nodeAt, fSetL, mutAt, Mut.ok, setJs, lkOk, chgOf, updC, updS, setP, pick, outs, noBor, noBorL, dropAl, Ctx.kr, Chg.dead, strip, keepJ, sNx, bor, borL, okM, okB, rootsM]
theorem isOb_J (b a w : List Nat) (f : Fl) : isOb 2 (.nd (.obj 2 ["before", "after", "ways"]) f [.str b, .str a, .str w]) = true := by rfl
theorem obw : (ixS [("before" : PySem.Str), "after", "ways"] "windows").isNone = true := by decide
theorem obm : (ixS [("before" : PySem.Str), "after", "ways"] "mirrored").isNone = true := by decide
theorem isObj_w (xs : List D) (f : Fl) : isObj 2 "windows" (.nd (.obj 2 ["before", "after", "ways"]) f xs) = true := by
  rw [isObj, obw]; rfl
theorem isObj_m (xs : List D) (f : Fl) : isObj 2 "mirrored" (.nd (.obj 2 ["before", "after", "ways"]) f xs) = true := by
  rw [isObj, obm]; rfl
theorem shown_is (b a w : List Nat) (h : isj b a w = true) : F__law_shown [J b a w, T3 b a w] = .ret (.bl true) [] := by
  have e1 := str_is b a w h
  have e2 := written_is b a w h
  simp [F__law_shown, m__law_shown, isC_J, fl1, fl2, fl3, text_is, eOwn, chk1, isOb_J, isStrD, e1, e2, runF, eAnd, sExpr, tNotT, chgs, initC, inits, locks, sSeq, sIf, sSetI, sSet, sRet, sExpr, tOfE, tTru, tNotT, tAndT, tOrT, truth, eOp, eArgs, eN, eC, eIx, eMv, eCall, lockE, unlockE, unlocks, valsOf, val, getP, noOwn, noOwnL, ixAt, ixN, fGt, fGe, fLt, fLe, fOr, fII, gB, gMod, gDiv, gAdd, gSub, gMul, okDiv, fAdd, fMul, fCatS, fInt1, nodeAt, fSetL, mutAt, Mut.ok, setJs, lkOk, chgOf, updC, updS, setP, pick, outs, noBor, noBorL, dropAl, Ctx.kr, Chg.dead, strip, keepJ, sNx, bor, borL, okM, okB, rootsM]
end K03
end Lc
end
section
set_option Elab.async false
set_option linter.all false
set_option maxRecDepth 100000
set_option maxHeartbeats 4000000
namespace Lc
namespace K03
open PySem L2
theorem eq_bl (p q : Bool) : fEq [.bl p, .bl q] = some (.bl (decide (p = q))) := by
  cases p <;> cases q <;> simp [fEq, eqS, fB2, runF, eAnd, sExpr, tNotT, chgs, initC, inits, locks, sSeq, sIf, sSetI, sSet, sRet, sExpr, tOfE, tTru, tNotT, tAndT, tOrT, truth, eOp, eArgs, eN, eC, eIx, eMv, eCall, lockE, unlockE, unlocks, valsOf, val, getP, noOwn, noOwnL, ixAt, ixN, fGt, fGe, fLt, fLe, fOr, fII, gB, gMod, gDiv, gAdd, gSub, gMul, okDiv, fAdd, fMul, fCatS, fInt1, nodeAt, fSetL, mutAt, Mut.ok, setJs, lkOk, chgOf, updC, updS, setP, pick, outs, noBor, noBorL, dropAl, Ctx.kr, Chg.dead, strip, keepJ, sNx, bor, borL, okM, okB, rootsM]
theorem ne_bl (p q : Bool) : fNe [.bl p, .bl q] = some (.bl (!decide (p = q))) := by
  cases p <;> cases q <;> simp [fNe, pNot, eqS, fB2, runF, eAnd, sExpr, tNotT, chgs, initC, inits, locks, sSeq, sIf, sSetI, sSet, sRet, sExpr, tOfE, tTru, tNotT, tAndT, tOrT, truth, eOp, eArgs, eN, eC, eIx, eMv, eCall, lockE, unlockE, unlocks, valsOf, val, getP, noOwn, noOwnL, ixAt, ixN, fGt, fGe, fLt, fLe, fOr, fII, gB, gMod, gDiv, gAdd, gSub, gMul, okDiv, fAdd, fMul, fCatS, fInt1, nodeAt, fSetL, mutAt, Mut.ok, setJs, lkOk, chgOf, updC, updS, setP, pick, outs, noBor, noBorL, dropAl, Ctx.kr, Chg.dead, strip, keepJ, sNx, bor, borL, okM, okB, rootsM]
theorem both_is {w : List Nat} (h : wOk w = true) : decide (sw w = w) = decide (w = [98, 111, 116, 104]) := by
  rcases w3 h with rfl | rfl | rfl <;> rfl
theorem wn_set (b a w : List Nat) (h : wOk w = true) : ∃ x xs, WN b a w = x :: xs ∧ xs.length ≤ 1 := by
  rcases w3 h with rfl | rfl | rfl
  · exact ⟨_, _, WN_r b a, by simp⟩
  · exact ⟨_, _, WN_l b a, by simp⟩
  · exact ⟨_, _, WN_b b a, by simp⟩
theorem nq1 : ¬ LF = RT := by decide
theorem nq2 : ¬ RT = LF := by decide
theorem nq3 : ¬ RT = [98, 111, 116, 104] := by decide
theorem nq4 : ¬ LF = [98, 111, 116, 104] := by decide
theorem nq5 : (BO = [98, 111, 116, 104]) = True := by decide
theorem asked_is (b a w : List Nat) (h : isj b a w = true) : F__law_jump_asked [J b a w, T3 b a w] = .ret (.bl true) [] := by
  have hs := isj_sw h
  obtain ⟨hb, ha, hl, hw⟩ := isj_parts h
  have e1 := shown_is b a w h
  have e2 := listed_is b a w h
  have e3 := windows_is b a w h
  have e4 := mirrored_is b a w h
  have e5 := shown_is b a (sw w) hs
  have e6 := listed_is b a (sw w) hs
  have e7 := windows_is b a (sw w) hs
  have e8 := mirrored_is b a (sw w) hs
  rw [sw_sw hw] at e8
  have e9 := swapped_is b a w h
  have e10 := both_is hw
  rcases w3 hw with rfl | rfl | rfl
  · rw [WN_r] at e2 e3
    rw [show sw RT = LF from rfl] at *
    rw [WN_l] at e6 e7
    simp [F__law_jump_asked, m__law_jump_asked, isObj_w, isObj_m, jeq_is, eOwn, chk1, anyD, isOb_J, eChk, e1, e2, e3, e4, e5, e6, e7, e8, e9, eq_txt, ne_bl, nq1, nq2, nq3, nq4, nq5, eMth, isL, fAppend, eTup, eLst, allT, isT, List.range, List.range.loop, runF, eAnd, sExpr, tNotT, chgs, initC, inits, locks, boxD, sSeq, sIf, sSetI, sSet, sRet, sExpr, tOfE, tTru, tNotT, tAndT, tOrT, truth, eOp, eArgs, eN, eC, eIx, eMv, eCall, lockE, unlockE, unlocks, valsOf, val, getP, noOwn, noOwnL, ixAt, ixN, fGt, fGe, fLt, fLe, fOr, fII, gB, gMod, gDiv, gSub, gMul, okDiv, okMul_mod, fCatS, fInt1, nodeAt, fSetL, mutAt, Mut.ok, setJs, lkOk, chgOf, updC, updS, setP, pick, outs, noBor, noBorL, dropAl, Ctx.kr, Chg.dead, strip, keepJ, sNx, bor, borL, okM, okB, rootsM]
  · rw [WN_l] at e2 e3
    rw [show sw LF = RT from rfl] at *
    rw [WN_r] at e6 e7
    simp [F__law_jump_asked, m__law_jump_asked, isObj_w, isObj_m, jeq_is, eOwn, chk1, anyD, isOb_J, eChk, e1, e2, e3, e4, e5, e6, e7, e8, e9, eq_txt, ne_bl, nq1, nq2, nq3, nq4, nq5, eMth, isL, fAppend, eTup, eLst, allT, isT, List.range, List.range.loop, runF, eAnd, sExpr, tNotT, chgs, initC, inits, locks, boxD, sSeq, sIf, sSetI, sSet, sRet, sExpr, tOfE, tTru, tNotT, tAndT, tOrT, truth, eOp, eArgs, eN, eC, eIx, eMv, eCall, lockE, unlockE, unlocks, valsOf, val, getP, noOwn, noOwnL, ixAt, ixN, fGt, fGe, fLt, fLe, fOr, fII, gB, gMod, gDiv, gSub, gMul, okDiv, okMul_mod, fCatS, fInt1, nodeAt, fSetL, mutAt, Mut.ok, setJs, lkOk, chgOf, updC, updS, setP, pick, outs, noBor, noBorL, dropAl, Ctx.kr, Chg.dead, strip, keepJ, sNx, bor, borL, okM, okB, rootsM]
  · rw [WN_b] at e2 e3
    rw [show sw BO = BO from rfl] at *
    simp [F__law_jump_asked, m__law_jump_asked, isObj_w, isObj_m, jeq_is, eOwn, chk1, anyD, isOb_J, eChk, e1, e2, e3, e4, e9, eq_txt, ne_bl, nq1, nq2, nq3, nq4, nq5, eMth, isL, fAppend, eTup, eLst, allT, isT, List.range, List.range.loop, runF, eAnd, sExpr, tNotT, chgs, initC, inits, locks, boxD, sSeq, sIf, sSetI, sSet, sRet, sExpr, tOfE, tTru, tNotT, tAndT, tOrT, truth, eOp, eArgs, eN, eC, eIx, eMv, eCall, lockE, unlockE, unlocks, valsOf, val, getP, noOwn, noOwnL, ixAt, ixN, fGt, fGe, fLt, fLe, fOr, fII, gB, gMod, gDiv, gSub, gMul, okDiv, okMul_mod, fCatS, fInt1, nodeAt, fSetL, mutAt, Mut.ok, setJs, lkOk, chgOf, updC, updS, setP, pick, outs, noBor, noBorL, dropAl, Ctx.kr, Chg.dead, strip, keepJ, sNx, bor, borL, okM, okB, rootsM]
end K03
end Lc
end
section
set_option Elab.async false
set_option linter.all false
set_option maxRecDepth 100000
set_option maxHeartbeats 4000000
namespace Lc
theorem cut_b (s : List Nat) (i j : Int) (hi : 0 ≤ i) (hj : 0 ≤ j) (hl : i ≤ s.length) : cut s (some i) (some j) = (s.drop i.toNat).take (j.toNat - i.toNat) := by
  have e1 : HT.sIx s.length 0 (some i) = i.toNat := by
    show (if i < 0 then (i + (s.length : Int)).toNat else min i.toNat s.length) = _
    rw [if_neg (by omega)]; omega
  have e2 : HT.sIx s.length s.length (some j) = min j.toNat s.length := by
    show (if j < 0 then (j + (s.length : Int)).toNat else min j.toNat s.length) = _
    rw [if_neg (by omega)]
  rw [cut, e1, e2, List.take_eq_take_iff, List.length_drop]
  omega
namespace K03
open PySem L2
theorem okx_is (s : List Nat) (h : As s) : okx_InvalidJump (.str s) = true := by
  have hl := h.2
  have := StrLaws.reprText_len (strL s) (fun c hc => Nat.lt_trans (h.1 c (by simpa [strL] using hc)) (by decide))
  have e : (strL s).length = s.length := rfl
  exact decide_eq_true (by omega)
theorem made_ok (b a w : List Nat) (f : Int) (h : isj b a w = true) : F__law_made [T3 b a w, .int f] = .ret (J b a w) [] := by
  have hln := isj_len h
  have e1 := init_ok b a w (by omega) (by omega) h
  by_cases c0 : f = 0
  · subst c0
    by_cases cw : w = [114, 105, 103, 104, 116]
    · subst cw
      simp [F__law_made, m__law_made, eFt, eMake, e1, eq_txt, fEq, eqS, fB2, frz, frzL, mrgM, runF, eAnd, sExpr, tNotT, chgs, initC, inits, locks, sSeq, sIf, sSetI, sSet, sRet, sExpr, tOfE, tTru, tNotT, tAndT, tOrT, truth, eOp, eArgs, eN, eC, eIx, eMv, eCall, lockE, unlockE, unlocks, valsOf, val, getP, noOwn, noOwnL, ixAt, ixN, fGt, fGe, fLt, fLe, fOr, fII, gB, gMod, gDiv, gAdd, gSub, gMul, okDiv, fAdd, fMul, fCatS, fInt1, nodeAt, fSetL, mutAt, Mut.ok, setJs, lkOk, chgOf, updC, updS, setP, pick, outs, noBor, noBorL, dropAl, Ctx.kr, Chg.dead, strip, keepJ, sNx, bor, borL, okM, okB, rootsM]
    · simp [F__law_made, m__law_made, eFt, eMake, e1, cw, eq_txt, fEq, eqS, fB2, frz, frzL, mrgM, runF, eAnd, sExpr, tNotT, chgs, initC, inits, locks, sSeq, sIf, sSetI, sSet, sRet, sExpr, tOfE, tTru, tNotT, tAndT, tOrT, truth, eOp, eArgs, eN, eC, eIx, eMv, eCall, lockE, unlockE, unlocks, valsOf, val, getP, noOwn, noOwnL, ixAt, ixN, fGt, fGe, fLt, fLe, fOr, fII, gB, gMod, gDiv, gAdd, gSub, gMul, okDiv, fAdd, fMul, fCatS, fInt1, nodeAt, fSetL, mutAt, Mut.ok, setJs, lkOk, chgOf, updC, updS, setP, pick, outs, noBor, noBorL, dropAl, Ctx.kr, Chg.dead, strip, keepJ, sNx, bor, borL, okM, okB, rootsM]
  · by_cases c1 : f = 1
    · subst c1
      simp [F__law_made, m__law_made, eFt, eMake, e1, fEq, eqS, fB2, frz, frzL, mrgM, runF, eAnd, sExpr, tNotT, chgs, initC, inits, locks, sSeq, sIf, sSetI, sSet, sRet, sExpr, tOfE, tTru, tNotT, tAndT, tOrT, truth, eOp, eArgs, eN, eC, eIx, eMv, eCall, lockE, unlockE, unlocks, valsOf, val, getP, noOwn, noOwnL, ixAt, ixN, fGt, fGe, fLt, fLe, fOr, fII, gB, gMod, gDiv, gAdd, gSub, gMul, okDiv, fAdd, fMul, fCatS, fInt1, nodeAt, fSetL, mutAt, Mut.ok, setJs, lkOk, chgOf, updC, updS, setP, pick, outs, noBor, noBorL, dropAl, Ctx.kr, Chg.dead, strip, keepJ, sNx, bor, borL, okM, okB, rootsM]
    · simp [F__law_made, m__law_made, eFt, eMake, e1, c0, c1, fEq, eqS, fB2, frz, frzL, mrgM, runF, eAnd, sExpr, tNotT, chgs, initC, inits, locks, sSeq, sIf, sSetI, sSet, sRet, sExpr, tOfE, tTru, tNotT, tAndT, tOrT, truth, eOp, eArgs, eN, eC, eIx, eMv, eCall, lockE, unlockE, unlocks, valsOf, val, getP, noOwn, noOwnL, ixAt, ixN, fGt, fGe, fLt, fLe, fOr, fII, gB, gMod, gDiv, gAdd, gSub, gMul, okDiv, fAdd, fMul, fCatS, fInt1, nodeAt, fSetL, mutAt, Mut.ok, setJs, lkOk, chgOf, updC, updS, setP, pick, outs, noBor, noBorL, dropAl, Ctx.kr, Chg.dead, strip, keepJ, sNx, bor, borL, okM, okB, rootsM]
theorem made_bad (b a w : List Nat) (f : Int) (hb : As b) (ha : As a) (h : isj b a w = false) : F__law_made [T3 b a w, .int f] = .exc 1 "text" (.str b) [] := by
  have e1 := init_bad b a w hb.2 ha.2 h (okx_is b hb)
  by_cases c0 : f = 0
  · subst c0
    by_cases cw : w = [114, 105, 103, 104, 116]
    · subst cw
      simp [F__law_made, m__law_made, eFt, eMake, e1, eq_txt, fEq, eqS, fB2, frz, frzL, mrgM, runF, eAnd, sExpr, tNotT, chgs, initC, inits, locks, sSeq, sIf, sSetI, sSet, sRet, sExpr, tOfE, tTru, tNotT, tAndT, tOrT, truth, eOp, eArgs, eN, eC, eIx, eMv, eCall, lockE, unlockE, unlocks, valsOf, val, getP, noOwn, noOwnL, ixAt, ixN, fGt, fGe, fLt, fLe, fOr, fII, gB, gMod, gDiv, gAdd, gSub, gMul, okDiv, fAdd, fMul, fCatS, fInt1, nodeAt, fSetL, mutAt, Mut.ok, setJs, lkOk, chgOf, updC, updS, setP, pick, outs, noBor, noBorL, dropAl, Ctx.kr, Chg.dead, strip, keepJ, sNx, bor, borL, okM, okB, rootsM]
    · simp [F__law_made, m__law_made, eFt, eMake, e1, cw, eq_txt, fEq, eqS, fB2, frz, frzL, mrgM, runF, eAnd, sExpr, tNotT, chgs, initC, inits, locks, sSeq, sIf, sSetI, sSet, sRet, sExpr, tOfE, tTru, tNotT, tAndT, tOrT, truth, eOp, eArgs, eN, eC, eIx, eMv, eCall, lockE, unlockE, unlocks, valsOf, val, getP, noOwn, noOwnL, ixAt, ixN, fGt, fGe, fLt, fLe, fOr, fII, gB, gMod, gDiv, gAdd, gSub, gMul, okDiv, fAdd, fMul, fCatS, fInt1, nodeAt, fSetL, mutAt, Mut.ok, setJs, lkOk, chgOf, updC, updS, setP, pick, outs, noBor, noBorL, dropAl, Ctx.kr, Chg.dead, strip, keepJ, sNx, bor, borL, okM, okB, rootsM]
  · by_cases c1 : f = 1
    · subst c1
      simp [F__law_made, m__law_made, eFt, eMake, e1, fEq, eqS, fB2, frz, frzL, mrgM, runF, eAnd, sExpr, tNotT, chgs, initC, inits, locks, sSeq, sIf, sSetI, sSet, sRet, sExpr, tOfE, tTru, tNotT, tAndT, tOrT, truth, eOp, eArgs, eN, eC, eIx, eMv, eCall, lockE, unlockE, unlocks, valsOf, val, getP, noOwn, noOwnL, ixAt, ixN, fGt, fGe, fLt, fLe, fOr, fII, gB, gMod, gDiv, gAdd, gSub, gMul, okDiv, fAdd, fMul, fCatS, fInt1, nodeAt, fSetL, mutAt, Mut.ok, setJs, lkOk, chgOf, updC, updS, setP, pick, outs, noBor, noBorL, dropAl, Ctx.kr, Chg.dead, strip, keepJ, sNx, bor, borL, okM, okB, rootsM]
    · simp [F__law_made, m__law_made, eFt, eMake, e1, c0, c1, fEq, eqS, fB2, frz, frzL, mrgM, runF, eAnd, sExpr, tNotT, chgs, initC, inits, locks, sSeq, sIf, sSetI, sSet, sRet, sExpr, tOfE, tTru, tNotT, tAndT, tOrT, truth, eOp, eArgs, eN, eC, eIx, eMv, eCall, lockE, unlockE, unlocks, valsOf, val, getP, noOwn, noOwnL, ixAt, ixN, fGt, fGe, fLt, fLe, fOr, fII, gB, gMod, gDiv, gAdd, gSub, gMul, okDiv, fAdd, fMul, fCatS, fInt1, nodeAt, fSetL, mutAt, Mut.ok, setJs, lkOk, chgOf, updC, updS, setP, pick, outs, noBor, noBorL, dropAl, Ctx.kr, Chg.dead, strip, keepJ, sNx, bor, borL, okM, okB, rootsM]
theorem cls_is (b a w : List Nat) (f : Int) (hb : As b) (ha : As a) : F__law_class_asked [T3 b a w, .int f] = .ret (.bl true) [] := by
  have e1 := lisj_is b a w hb.2 ha.2
  cases h : isj b a w with
  | true =>
    rw [h] at e1
    have e2 := made_ok b a w f h
    have e3 := asked_is b a w h
    simp [F__law_class_asked, m__law_class_asked, e1, e2, e3, sTry, runF, eAnd, sExpr, tNotT, chgs, initC, inits, locks, sSeq, sIf, sSetI, sSet, sRet, sExpr, tOfE, tTru, tNotT, tAndT, tOrT, truth, eOp, eArgs, eN, eC, eIx, eMv, eCall, lockE, unlockE, unlocks, valsOf, val, getP, noOwn, noOwnL, ixAt, ixN, fGt, fGe, fLt, fLe, fOr, fII, gB, gMod, gDiv, gAdd, gSub, gMul, okDiv, fAdd, fMul, fCatS, fInt1, nodeAt, fSetL, mutAt, Mut.ok, setJs, lkOk, chgOf, updC, updS, setP, pick, outs, noBor, noBorL, dropAl, Ctx.kr, Chg.dead, strip, keepJ, sNx, bor, borL, okM, okB, rootsM]
  | false =>
    rw [h] at e1
    have e2 := made_bad b a w f hb ha h
    simp [F__law_class_asked, m__law_class_asked, e1, e2, sTry, mt_LeapError, eXi, is_InvalidJump, eXf, fo_text, text_is, suiteOut, clr, noExC, noExS, noEx, noExL, runF, eAnd, sExpr, tNotT, chgs, initC, inits, locks, sSeq, sIf, sSetI, sSet, sRet, sExpr, tOfE, tTru, tNotT, tAndT, tOrT, truth, eOp, eArgs, eN, eC, eIx, eMv, eCall, lockE, unlockE, unlocks, valsOf, val, getP, noOwn, noOwnL, ixAt, ixN, fGt, fGe, fLt, fLe, fOr, fII, gB, gMod, gDiv, gAdd, gSub, gMul, okDiv, fAdd, fMul, fCatS, fInt1, nodeAt, fSetL, mutAt, Mut.ok, setJs, lkOk, chgOf, updC, updS, setP, pick, outs, noBor, noBorL, dropAl, Ctx.kr, Chg.dead, strip, keepJ, sNx, bor, borL, okM, okB, rootsM]
/-! ### reading -/
def swy (s : List Nat) : Option (List Nat) := if s = [62] then some RT else if s = [60] then some LF else if s = [61] then some BO else none
theorem swy_is (s : List Nat) : tbl_SIGN_WAYS.lookup s = swy s := by
  unfold swy tbl_SIGN_WAYS
  by_cases h1 : s = [62]
  · subst h1; rfl
  by_cases h2 : s = [60]
  · subst h2; rfl
  by_cases h3 : s = [61]
  · subst h3; rfl
  have a1 : (s == [62]) = false := by simpa using h1
  have a2 : (s == [60]) = false := by simpa using h2
  have a3 : (s == [61]) = false := by simpa using h3
  simp [List.lookup_cons, a1, a2, a3, h1, h2, h3]
abbrev md (t : List Nat) : Nat := t.length / 2
theorem read_cut (t : List Nat) (hl : t.length ≤ 100) : sSeq (sSet 1 (eOp (fII gDiv) [eOp fLen [eN 0], eC (.int 2)])) (sPar [2, 3, 4] [eOp fSlR [eN 0, eN 1], eOp fSlB [eN 0, eInt (eN 1), eOp fAdd [eN 1, eC (.int 1)]], eOp fSlL [eN 0, eOp fAdd [eN 1, eC (.int 1)]]]) (initC [false] 4 [.str t]) = .nx ⟨[.v (.str t), .v (.int (md t)), .v (.str (t.take (md t))), .v (.str ((t.drop (md t)).take 1)), .v (.str (t.drop (md t + 1)))], []⟩ := by
  have h2 : t.length ≤ 16777216 := by omega
  have hm : (t.length : Int) / 2 = ((md t : Nat) : Int) := by simp [md]
  have hm2 : md t ≤ t.length := by simp [md]; omega
  generalize md t = m at *
  have e1 := cut_t' t (m : Int) (by omega)
  have e2 := cut_d' t ((m : Int) + 1) (by omega)
  have e3 := cut_b t (m : Int) ((m : Int) + 1) (by omega) (by omega) (by omega)
  rw [show ((m : Int) + 1).toNat = m + 1 by omega] at e2 e3
  rw [show (m : Int).toNat = m by omega] at e1 e3
  rw [show m + 1 - m = 1 by omega] at e3
  have lg : Nat.log2 2 < 9000 := by decide
  simp [fLen, h2, hm, lg, sPar, bindTs, bindT, fSlR, fSlB, fSlL, slD, eInt, e1, e2, e3, runF, eAnd, sExpr, tNotT, chgs, initC, inits, locks, sSeq, sIf, sSetI, sSet, sRet, sExpr, tOfE, tTru, tNotT, tAndT, tOrT, truth, eOp, eArgs, eN, eC, eIx, eMv, eCall, lockE, unlockE, unlocks, valsOf, val, getP, noOwn, noOwnL, ixAt, ixN, fGt, fGe, fLt, fLe, fOr, fII, gB, gMod, gDiv, gAdd, gSub, gMul, okDiv, fAdd, fMul, fCatS, fInt1, nodeAt, fSetL, mutAt, Mut.ok, setJs, lkOk, chgOf, updC, updS, setP, pick, outs, noBor, noBorL, dropAl, Ctx.kr, Chg.dead, strip, keepJ, sNx, bor, borL, okM, okB, rootsM]
end K03
end Lc
end
section
set_option Elab.async false
set_option linter.all false
set_option maxRecDepth 100000
set_option maxHeartbeats 4000000
namespace Lc
namespace K03
open PySem L2
theorem sSeq_assoc (a b d : Ctx → SR) (c : Ctx) : sSeq a (sSeq b d) c = sSeq (sSeq a b) d c := by
  unfold sSeq
  cases a c <;> rfl
theorem As.sub {t u : List Nat} (h : As t) (hs : u.Sublist t) : As u := ⟨fun x hx => h.1 x (hs.subset hx), Nat.le_trans hs.length_le h.2⟩
theorem As.take {t : List Nat} (h : As t) (n : Nat) : As (t.take n) := h.sub (List.take_sublist n t)
theorem As.drop {t : List Nat} (h : As t) (n : Nat) : As (t.drop n) := h.sub (List.drop_sublist n t)
theorem tin_sg (s : List Nat) : fTNin tbl_SIGN_WAYS [.str s] = some (.bl (!(swy s).isSome)) := by
  rw [fTNin, swy_is]
theorem tix_sg (s : List Nat) : fTIx tbl_SIGN_WAYS [.str s] = (swy s).map .str := by
  rw [fTIx, swy_is]
theorem read_ok (t w : List Nat) (h : As t) (h1 : swy ((t.drop (md t)).take 1) = some w) (h2 : isj (t.take (md t)) (t.drop (md t + 1)) w = true) : F_Jump_read [.str t] = .ret (J (t.take (md t)) (t.drop (md t + 1)) w) [] := by
  have k := read_cut t h.2
  have b1 := (h.take (md t)).2
  have b2 := (h.drop (md t + 1)).2
  have e1 := init_ok _ _ w b1 b2 h2
  have e2 := isjump_is (t.take (md t)) (t.drop (md t + 1)) w b1 b2
  rw [h2] at e2
  have e3 := tin_sg ((t.drop (md t)).take 1)
  have e4 := tix_sg ((t.drop (md t)).take 1)
  rw [h1] at e3 e4
  unfold F_Jump_read runF m_Jump_read
  rw [sSeq_assoc, sSeq, k]
  generalize (t.drop (md t)).take 1 = s at *
  generalize t.drop (md t + 1) = a at *
  generalize t.take (md t) = b at *
  simp [e1, e2, e3, e4, eFt, eMake, frz, frzL, runF, eAnd, sExpr, tNotT, chgs, initC, inits, locks, sSeq, sIf, sSetI, sSet, sRet, sExpr, tOfE, tTru, tNotT, tAndT, tOrT, truth, eOp, eArgs, eN, eC, eIx, eMv, eCall, lockE, unlockE, unlocks, valsOf, val, getP, noOwn, noOwnL, ixAt, ixN, fGt, fGe, fLt, fLe, fOr, fII, gB, gMod, gDiv, gAdd, gSub, gMul, okDiv, fAdd, fMul, fCatS, fInt1, nodeAt, fSetL, mutAt, Mut.ok, setJs, lkOk, chgOf, updC, updS, setP, pick, outs, noBor, noBorL, dropAl, Ctx.kr, Chg.dead, strip, keepJ, sNx, bor, borL, okM, okB, rootsM]
theorem read_no1 (t : List Nat) (h : As t) (h1 : swy ((t.drop (md t)).take 1) = none) : F_Jump_read [.str t] = .exc 1 "text" (.str t) [] := by
  have k := read_cut t h.2
  have e3 := tin_sg ((t.drop (md t)).take 1)
  rw [h1] at e3
  have e5 := okx_is t h
  unfold F_Jump_read runF m_Jump_read
  rw [sSeq_assoc, sSeq, k]
  generalize (t.drop (md t)).take 1 = s at *
  generalize t.drop (md t + 1) = a at *
  generalize t.take (md t) = b at *
  simp [e3, e5, sRaise, runF, eAnd, sExpr, tNotT, chgs, initC, inits, locks, sSeq, sIf, sSetI, sSet, sRet, sExpr, tOfE, tTru, tNotT, tAndT, tOrT, truth, eOp, eArgs, eN, eC, eIx, eMv, eCall, lockE, unlockE, unlocks, valsOf, val, getP, noOwn, noOwnL, ixAt, ixN, fGt, fGe, fLt, fLe, fOr, fII, gB, gMod, gDiv, gAdd, gSub, gMul, okDiv, fAdd, fMul, fCatS, fInt1, nodeAt, fSetL, mutAt, Mut.ok, setJs, lkOk, chgOf, updC, updS, setP, pick, outs, noBor, noBorL, dropAl, Ctx.kr, Chg.dead, strip, keepJ, sNx, bor, borL, okM, okB, rootsM]
theorem read_no2 (t w : List Nat) (h : As t) (h1 : swy ((t.drop (md t)).take 1) = some w) (h2 : isj (t.take (md t)) (t.drop (md t + 1)) w = false) : F_Jump_read [.str t] = .exc 1 "text" (.str t) [] := by
  have k := read_cut t h.2
  have b1 := (h.take (md t)).2
  have b2 := (h.drop (md t + 1)).2
  have e2 := isjump_is (t.take (md t)) (t.drop (md t + 1)) w b1 b2
  rw [h2] at e2
  have e3 := tin_sg ((t.drop (md t)).take 1)
  have e4 := tix_sg ((t.drop (md t)).take 1)
  rw [h1] at e3 e4
  have e5 := okx_is t h
  unfold F_Jump_read runF m_Jump_read
  rw [sSeq_assoc, sSeq, k]
  generalize (t.drop (md t)).take 1 = s at *
  generalize t.drop (md t + 1) = a at *
  generalize t.take (md t) = b at *
  simp [e2, e3, e4, e5, sRaise, runF, eAnd, sExpr, tNotT, chgs, initC, inits, locks, sSeq, sIf, sSetI, sSet, sRet, sExpr, tOfE, tTru, tNotT, tAndT, tOrT, truth, eOp, eArgs, eN, eC, eIx, eMv, eCall, lockE, unlockE, unlocks, valsOf, val, getP, noOwn, noOwnL, ixAt, ixN, fGt, fGe, fLt, fLe, fOr, fII, gB, gMod, gDiv, gAdd, gSub, gMul, okDiv, fAdd, fMul, fCatS, fInt1, nodeAt, fSetL, mutAt, Mut.ok, setJs, lkOk, chgOf, updC, updS, setP, pick, outs, noBor, noBorL, dropAl, Ctx.kr, Chg.dead, strip, keepJ, sNx, bor, borL, okM, okB, rootsM]
/-- what the law reads -/
def rdD (t : List Nat) : D := match swy ((t.drop (md t)).take 1) with
  | some w => if isj (t.take (md t)) (t.drop (md t + 1)) w then T3 (t.take (md t)) (t.drop (md t + 1)) w else .tup []
  | none => .tup []
theorem get_is (s : List Nat) : fDGet2 [.nd (.dct [.inr (strL [62]), .inr (strL [60]), .inr (strL [61])]) .own [.str [114, 105, 103, 104, 116], .str [108, 101, 102, 116], .str [98, 111, 116, 104]], .str s, .str []] = some (.str ((swy s).getD [])) := by
  unfold swy
  by_cases h1 : s = [62]
  · subst h1; rfl
  by_cases h2 : s = [60]
  · subst h2; rfl
  by_cases h3 : s = [61]
  · subst h3; rfl
  have q (x : List Nat) (hx : ¬ s = x) : ¬ (Sum.inr (strL x) : Key) = Sum.inr (strL s) := fun z => hx (strL_inj (Sum.inr.inj z)).symm
  simp [fDGet2, dKey, dLook, q _ h1, q _ h2, q _ h3, h1, h2, h3, runF, eAnd, sExpr, tNotT, chgs, initC, inits, locks, sSeq, sIf, sSetI, sSet, sRet, sExpr, tOfE, tTru, tNotT, tAndT, tOrT, truth, eOp, eArgs, eN, eC, eIx, eMv, eCall, lockE, unlockE, unlocks, valsOf, val, getP, noOwn, noOwnL, ixAt, ixN, fGt, fGe, fLt, fLe, fOr, fII, gB, gMod, gDiv, gAdd, gSub, gMul, okDiv, fAdd, fMul, fCatS, fInt1, nodeAt, fSetL, mutAt, Mut.ok, setJs, lkOk, chgOf, updC, updS, setP, pick, outs, noBor, noBorL, dropAl, Ctx.kr, Chg.dead, strip, keepJ, sNx, bor, borL, okM, okB, rootsM]
theorem isj_no (b a : List Nat) : isj b a [] = false := by
  have : wOk [] = false := by rfl
  simp [isj, this]
theorem lread_is (t : List Nat) (h : As t) : F__law_read [.str t] = .ret (rdD t) [] := by
  have hl := h.2
  have h2 : t.length ≤ 16777216 := by omega
  have hm : (t.length : Int) / 2 = ((md t : Nat) : Int) := by simp [md]
  by_cases h79 : t.length = 7 ∨ t.length = 9
  · have h79i : (decide ((t.length : Int) = 7) || decide ((t.length : Int) = 9)) = true := by simp; omega
    have hm2 : md t < t.length := by simp [md]; omega
    have lg : Nat.log2 2 < 9000 := by decide
    have e1 := cut_t' t (md t : Int) (by omega)
    have e2 := cut_d' t ((md t : Int) + 1) (by omega)
    rw [show ((md t : Int) + 1).toNat = md t + 1 by omega] at e2
    rw [show (md t : Int).toNat = md t by omega] at e1
    have e3 := at_get t (md t) (by omega) (by omega)
    rw [show (md t : Int).toNat = md t by omega] at e3
    have e4 : (t.drop (md t)).take 1 = [t.getD (md t) 0] := by
      rw [List.drop_eq_getElem_cons hm2, List.getD_eq_getElem?_getD, List.getElem?_eq_getElem hm2]
      rfl
    have e5 := lisj_is (t.take (md t)) (t.drop (md t + 1)) ((swy [t.getD (md t) 0]).getD []) (h.take _).2 (h.drop _).2
    have e6 := get_is [t.getD (md t) 0]
    have e0 : rdD t = if isj (t.take (md t)) (t.drop (md t + 1)) ((swy [t.getD (md t) 0]).getD []) then T3 (t.take (md t)) (t.drop (md t + 1)) ((swy [t.getD (md t) 0]).getD []) else .tup [] := by
      rw [rdD, e4]
      cases swy [t.getD (md t) 0] with
      | none => simp [isj_no]
      | some w => rfl
    rw [e0]
    generalize t.getD (md t) 0 = x at *
    generalize md t = m at *
    generalize (swy [x]).getD [] = w at *
    cases hj : isj (t.take m) (t.drop (m + 1)) w with
    | true =>
      rw [hj] at e5
      simp [F__law_read, m__law_read, fLen, h2, nin_79, h79i, hm, lg, eDsp, eCk, isDk, e1, e2, e3, e5, e6, fSlR, fSlL, slD, eLst, eTup, allT, runF, eAnd, sExpr, tNotT, chgs, initC, inits, locks, sSeq, sIf, sSetI, sSet, sRet, sExpr, tOfE, tTru, tNotT, tAndT, tOrT, truth, eOp, eArgs, eN, eC, eIx, eMv, eCall, lockE, unlockE, unlocks, valsOf, val, getP, noOwn, noOwnL, ixAt, ixN, fGt, fGe, fLt, fLe, fOr, fII, gB, gMod, gDiv, gAdd, gSub, gMul, okDiv, fAdd, fMul, fCatS, fInt1, nodeAt, fSetL, mutAt, Mut.ok, setJs, lkOk, chgOf, updC, updS, setP, pick, outs, noBor, noBorL, dropAl, Ctx.kr, Chg.dead, strip, keepJ, sNx, bor, borL, okM, okB, rootsM]
    | false =>
      rw [hj] at e5
      simp [F__law_read, m__law_read, fLen, h2, nin_79, h79i, hm, lg, eDsp, eCk, isDk, e1, e2, e3, e5, e6, fSlR, fSlL, slD, eLst, eTup, allT, runF, eAnd, sExpr, tNotT, chgs, initC, inits, locks, sSeq, sIf, sSetI, sSet, sRet, sExpr, tOfE, tTru, tNotT, tAndT, tOrT, truth, eOp, eArgs, eN, eC, eIx, eMv, eCall, lockE, unlockE, unlocks, valsOf, val, getP, noOwn, noOwnL, ixAt, ixN, fGt, fGe, fLt, fLe, fOr, fII, gB, gMod, gDiv, gAdd, gSub, gMul, okDiv, fAdd, fMul, fCatS, fInt1, nodeAt, fSetL, mutAt, Mut.ok, setJs, lkOk, chgOf, updC, updS, setP, pick, outs, noBor, noBorL, dropAl, Ctx.kr, Chg.dead, strip, keepJ, sNx, bor, borL, okM, okB, rootsM]
  · have h79i : (decide ((t.length : Int) = 7) || decide ((t.length : Int) = 9)) = false := by simp; omega
    have e0 : rdD t = .tup [] := by
      rw [rdD]
      cases e : swy ((t.drop (md t)).take 1) with
      | none => rfl
      | some w =>
        dsimp only
        rw [if_neg]
        intro hj
        obtain ⟨hb, ha, hl, hw⟩ := isj_parts hj
        obtain ⟨_, h3⟩ := bOk_sg hb
        rw [List.length_take] at h3 hl
        rw [List.length_drop] at hl
        simp only [md] at h3 hl
        omega
    rw [e0]
    simp [F__law_read, m__law_read, fLen, h2, nin_79, h79i, eLst, eTup, allT, runF, eAnd, sExpr, tNotT, chgs, initC, inits, locks, sSeq, sIf, sSetI, sSet, sRet, sExpr, tOfE, tTru, tNotT, tAndT, tOrT, truth, eOp, eArgs, eN, eC, eIx, eMv, eCall, lockE, unlockE, unlocks, valsOf, val, getP, noOwn, noOwnL, ixAt, ixN, fGt, fGe, fLt, fLe, fOr, fII, gB, gMod, gDiv, gAdd, gSub, gMul, okDiv, fAdd, fMul, fCatS, fInt1, nodeAt, fSetL, mutAt, Mut.ok, setJs, lkOk, chgOf, updC, updS, setP, pick, outs, noBor, noBorL, dropAl, Ctx.kr, Chg.dead, strip, keepJ, sNx, bor, borL, okM, okB, rootsM]
theorem rasked_is (t : List Nat) (h : As t) : F__law_read_asked [.str t] = .ret (.bl true) [] := by
  have e1 := lread_is t h
  have bad : F_Jump_read [.str t] = .exc 1 "text" (.str t) [] → rdD t = .tup [] → F__law_read_asked [.str t] = .ret (.bl true) [] := fun e2 e3 => by
    rw [e3] at e1
    simp [F__law_read_asked, m__law_read_asked, e1, e2, ne_t0, eTup, allT, sTry, mt_LeapError, eXi, is_InvalidJump, eXf, fo_text, text_is, suiteOut, clr, noExC, noExS, noEx, noExL, runF, eAnd, sExpr, tNotT, chgs, initC, inits, locks, sSeq, sIf, sSetI, sSet, sRet, sExpr, tOfE, tTru, tNotT, tAndT, tOrT, truth, eOp, eArgs, eN, eC, eIx, eMv, eCall, lockE, unlockE, unlocks, valsOf, val, getP, noOwn, noOwnL, ixAt, ixN, fGt, fGe, fLt, fLe, fOr, fII, gB, gMod, gDiv, gAdd, gSub, gMul, okDiv, fAdd, fMul, fCatS, fInt1, nodeAt, fSetL, mutAt, Mut.ok, setJs, lkOk, chgOf, updC, updS, setP, pick, outs, noBor, noBorL, dropAl, Ctx.kr, Chg.dead, strip, keepJ, sNx, bor, borL, okM, okB, rootsM]
  cases e : swy ((t.drop (md t)).take 1) with
  | none =>
    exact bad (read_no1 t h e) (by rw [rdD, e])
  | some w =>
    cases hj : isj (t.take (md t)) (t.drop (md t + 1)) w with
    | false => exact bad (read_no2 t w h e hj) (by rw [rdD, e]; simp [hj])
    | true =>
      have e2 := read_ok t w h e hj
      have e3 := asked_is _ _ _ hj
      obtain ⟨a1, a2, a3⟩ := isj_as hj
      have e4 := ne_t3 _ _ _ a1 a2 a3
      have e5 : rdD t = T3 (t.take (md t)) (t.drop (md t + 1)) w := by rw [rdD, e]; simp [hj]
      rw [e5] at e1
      generalize t.take (md t) = b at *
      generalize t.drop (md t + 1) = a at *
      simp [F__law_read_asked, m__law_read_asked, e1, e2, e3, e4, eTup, allT, sTry, suiteOut, clr, noExC, noExS, noEx, noExL, runF, eAnd, sExpr, tNotT, chgs, initC, inits, locks, sSeq, sIf, sSetI, sSet, sRet, sExpr, tOfE, tTru, tNotT, tAndT, tOrT, truth, eOp, eArgs, eN, eC, eIx, eMv, eCall, lockE, unlockE, unlocks, valsOf, val, getP, noOwn, noOwnL, ixAt, ixN, fGt, fGe, fLt, fLe, fOr, fII, gB, gMod, gDiv, gAdd, gSub, gMul, okDiv, fAdd, fMul, fCatS, fInt1, nodeAt, fSetL, mutAt, Mut.ok, setJs, lkOk, chgOf, updC, updS, setP, pick, outs, noBor, noBorL, dropAl, Ctx.kr, Chg.dead, strip, keepJ, sNx, bor, borL, okM, okB, rootsM]
end K03
end Lc
end
section
set_option Elab.async false
set_option linter.all false
set_option maxRecDepth 100000
set_option maxHeartbeats 4000000
namespace Lc
open PySem L2
/-- the end of a run -/
def finR (ms : List Bool) : SR → FR
  | .rt d c => match outs ms c.s with
    | some os => if noBor d then .ret d os else .bad
    | none => .bad
  | .nx c => match outs ms c.s with
    | some os => .ret .non os
    | none => .bad
  | .exc k n x c => match outs ms c.s with
    | some os => .exc k n x os
    | none => .bad
  | _ => .bad
theorem runF_is {ms : List Bool} {nl : Nat} {body : Ctx → SR} {ds : List D} (h : ds.length = ms.length) : runF ms nl body ds = finR ms (body (initC ms nl ds)) := by
  rw [runF, if_pos h]
  cases body (initC ms nl ds) <;> rfl
theorem seq_nx {a b : Ctx → SR} {c c1 : Ctx} (h : a c = .nx c1) : sSeq a b c = b c1 := by
  rw [sSeq, h]
theorem fAdd_ss {s t : List Nat} (h : s.length + t.length ≤ 16777216) : fAdd [.str s, .str t] = some (.str (s ++ t)) := by
  simp [fAdd, fOr, fII, gB, gAdd, fCatS, h]
theorem fAdd_ii (i j : Int) : fAdd [.int i, .int j] = some (.int (i + j)) := by
  simp [fAdd, fOr, fII, gB, gAdd]
theorem at_mem (l : List Nat) (r : Int) (h : 0 ≤ r) (h2 : r < l.length) : ∃ x ∈ l, atI l r = some x := by
  refine ⟨l.getD r.toNat 0, ?_, at_get l r h h2⟩
  rw [List.getD_eq_getElem?_getD, List.getElem?_eq_getElem (show r.toNat < l.length by omega)]
  exact List.getElem_mem _
theorem one_ofs {P : Nat → Prop} : ∀ ys : List D, (∀ y ∈ ys, ∃ x, P x ∧ y = .str [x]) → ∃ l : List Nat, ys = l.map (fun c => .str [c]) ∧ ∀ c ∈ l, P c
  | [], _ => ⟨[], rfl, fun c h => by cases h⟩
  | y :: ys, h => by
    obtain ⟨x, hx, rfl⟩ := h y (List.mem_cons_self ..)
    obtain ⟨l, rfl, hl⟩ := one_ofs ys fun z hz => h z (List.mem_cons_of_mem _ hz)
    refine ⟨x :: l, rfl, fun c hc => ?_⟩
    rcases List.mem_cons.mp hc with rfl | hc
    · exact hx
    · exact hl c hc
/-- a comprehension of drawn signs -/
theorem picks {P : Nat → Prop} {i : Nat} {it : Ctx → IR} {elt : Ctx → ER} {c0 : Ctx} (C : Int → Int → Sl → Ctx) (n : Nat) (hn : n ≤ 100) (p q : Int) (hi : it c0 = .ok ((List.range n).map fun (k : Nat) => .int (0 + k)) (C p q .no)) (hf : ∀ p q x, freeC [i] (C p q x) = true) (hw : ∀ p q x, wipeC [i] (C p q x) = C p q .no)
    (hb : ∀ p q (k : Int), bindT (.n i) (.int k) (C p q .no) = some (C p q (.v (.int k)))) (he : ∀ p q (k : Int), ∃ x p' q', P x ∧ elt (C p q (.v (.int k))) = .ok (.t (.str [x])) (C p' q' (.v (.int k)))) :
    ∃ l p' q', eSM fJoin (eC (.str [])) [eCmp [i] it (.n i) (fun c => .ok true c) elt] c0 = .ok (.t (.str l)) (C p' q' .no) ∧ (∀ c ∈ l, P c) ∧ l.length = n := by
  obtain ⟨ys, c', e, ⟨p', q', rfl⟩, hl, hy⟩ := cmp_inv (own := [i]) (t := .n i) (test := fun c => .ok true c) (elt := elt) (fun Z => ∃ p' q', Z = C p' q' .no) (fun y => ∃ x, P x ∧ y = .str [x]) ((List.range n).map fun (k : Nat) => .int (0 + k)) [] (C p q .no) ⟨p, q, rfl⟩ (fun x hx Z hZ => by
    obtain ⟨p1, q1, rfl⟩ := hZ
    obtain ⟨k, _, rfl⟩ := List.mem_map.mp hx
    obtain ⟨x, p2, q2, hx, e1⟩ := he p1 q1 (0 + k)
    exact ⟨_, _, _, hb p1 q1 _, rfl, e1, hf _ _ _, ⟨p2, q2, hw _ _ _⟩, x, hx, rfl⟩) (by simp; omega)
  obtain ⟨l, rfl, hs⟩ := one_ofs ys hy
  refine ⟨l, p', q', eSM_join ?_ (by simp at hl; omega), hs, by simpa using hl⟩
  rw [eCmp, hi]
  dsimp only
  rw [hf, hw, if_pos rfl, e, List.nil_append]
namespace K03
def Bs (n : Nat) (t : List Nat) : Prop := (∀ x ∈ t, x < 128) ∧ t.length ≤ n
theorem Bs.as {n : Nat} {t : List Nat} (h : Bs n t) (hn : n ≤ 100) : As t := ⟨h.1, Nat.le_trans h.2 hn⟩
theorem Bs.mono {n m : Nat} {t : List Nat} (h : Bs n t) (hn : n ≤ m) : Bs m t := ⟨h.1, Nat.le_trans h.2 hn⟩
theorem Bs.app {n m : Nat} {t u : List Nat} (h : Bs n t) (h2 : Bs m u) : Bs (n + m) (t ++ u) := ⟨fun x hx => (List.mem_append.mp hx).elim (h.1 x) (h2.1 x), by rw [List.length_append]; have := h.2; have := h2.2; omega⟩
theorem Bs.take {n : Nat} {t : List Nat} (h : Bs n t) (k : Nat) : Bs n (t.take k) := ⟨fun x hx => h.1 x (List.mem_of_mem_take hx), by rw [List.length_take]; have := h.2; omega⟩
theorem Bs.take1 {n : Nat} {t : List Nat} (h : Bs n t) : Bs 1 (t.take 1) := ⟨fun x hx => h.1 x (List.mem_of_mem_take hx), by rw [List.length_take]; omega⟩
theorem Bs.drop {n : Nat} {t : List Nat} (h : Bs n t) (k : Nat) : Bs n (t.drop k) := ⟨fun x hx => h.1 x (List.mem_of_mem_drop hx), by rw [List.length_drop]; have := h.2; omega⟩
theorem Bs.one {x : Nat} (h : x < 128) : Bs 1 [x] := ⟨fun y hy => by rw [List.mem_singleton.mp hy]; exact h, Nat.le_refl _⟩
theorem lg_of {m : Int} (h : 0 ≤ m) (h2 : m ≤ 1000) : m.natAbs.log2 < 9000 := by
  have : m.natAbs.log2 < 10 := by
    by_cases hz : m.natAbs = 0
    · rw [hz]; decide
    · exact (Nat.log2_lt hz).mpr (by omega)
  omega
theorem lit_lt (l : List Nat) (h : l.all (fun c => decide (c < 128)) = true) : ∀ x ∈ l, x < 128 := fun x hx => by simpa using List.all_eq_true.mp h x hx
theorem bend_is (a b c : Int) (n : Nat) (t : List Nat) (h : Bs n t) (hn : n ≤ 45) : ∃ u a' b', F__law_bend [(.nd .lst .own [.int a, .int b, .int c]), .str t] = .ret (.str u) [(.nd .lst .own [.int a', .int b', .int c])] ∧ Bs (2 * n + 2) u := by
  obtain ⟨r, a1, b1, e1, h1, h2⟩ := takeX a b c 10 (by omega) (by decide)
  have hl := h.2
  obtain ⟨i, a2, b2, e2, h3, h4⟩ := takeX a1 b1 c (t.length + 1) (by omega) (lg_of (by omega) (by omega))
  obtain ⟨j, a3, b3, e3, h5, h6⟩ := takeX a2 b2 c 28 (by omega) (by decide)
  obtain ⟨x, hx, ex⟩ := at_mem [97, 98, 99, 100, 46, 62, 60, 61, 97, 98, 99, 100, 46, 62, 60, 61, 58, 35, 65, 66, 67, 68, 101, 48, 32, 45, 126, 10] j h5 h6
  have hx := lit_lt _ (by decide) x hx
  have ec1 := cut_t' t i h3
  have ec2 := cut_d' t i h3
  have ec3 := cut_d' t (i + 1) (by omega)
  have ec4 := cut_d' t (i + 2) (by omega)
  have ec6 := cut_b t i (i + 1) (by omega) (by omega) (by omega)
  rw [show (i + 1).toNat - i.toNat = 1 by omega] at ec6
  have p1 := h.take i.toNat
  have p2 := h.drop i.toNat
  have p3 := h.drop (i + 1).toNat
  have p4 := h.drop (i + 2).toNat
  have p6 := p2.take1
  have o := Bs.one hx
  have h9 : t.length ≤ 16777216 := by omega
  have l1 := p1.2
  have l2 := p2.2
  have l3 := p3.2
  have l4 := p4.2
  have l6 := p6.2
  by_cases d1 : r < 2
  · generalize t.take i.toNat = t1 at *
    generalize t.drop i.toNat = t2 at *
    refine ⟨t1 ++ [x] ++ t2, a3, b3, ?_, ((p1.app o).app p2).mono (by omega)⟩
    simp (disch := first | omega | (simp only [List.length_append, List.length_cons, List.length_nil]; omega)) [F__law_bend, m__law_bend, e1, e2, e3, ex, ec1, ec2, d1, h9, fLen, fSlL, fSlR, slD, fAdd_ss, fAdd_ii, runF, eAnd, sExpr, tNotT, chgs, initC, inits, locks, boxD, sSeq, sIf, sSetI, sSet, sRet, sExpr, tOfE, tTru, tNotT, tAndT, tOrT, truth, eOp, eArgs, eN, eC, eIx, eMv, eCall, lockE, unlockE, unlocks, valsOf, val, getP, noOwn, noOwnL, ixAt, ixN, fGt, fGe, fLt, fLe, fOr, fII, gB, gMod, gDiv, gSub, gMul, okDiv, okMul_mod, fCatS, fInt1, nodeAt, fSetL, mutAt, Mut.ok, setJs, lkOk, chgOf, updC, updS, setP, pick, outs, noBor, noBorL, dropAl, Ctx.kr, Chg.dead, strip, keepJ, sNx, bor, borL, okM, okB, rootsM]
  by_cases d2 : r < 5
  · generalize t.take i.toNat = t1 at *
    generalize t.drop (i + 1).toNat = t2 at *
    refine ⟨t1 ++ [x] ++ t2, a3, b3, ?_, ((p1.app o).app p3).mono (by omega)⟩
    simp (disch := first | omega | (simp only [List.length_append, List.length_cons, List.length_nil]; omega)) [F__law_bend, m__law_bend, e1, e2, e3, ex, ec1, ec3, d1, d2, h9, fLen, fSlL, fSlR, slD, fAdd_ss, fAdd_ii, runF, eAnd, sExpr, tNotT, chgs, initC, inits, locks, boxD, sSeq, sIf, sSetI, sSet, sRet, sExpr, tOfE, tTru, tNotT, tAndT, tOrT, truth, eOp, eArgs, eN, eC, eIx, eMv, eCall, lockE, unlockE, unlocks, valsOf, val, getP, noOwn, noOwnL, ixAt, ixN, fGt, fGe, fLt, fLe, fOr, fII, gB, gMod, gDiv, gSub, gMul, okDiv, okMul_mod, fCatS, fInt1, nodeAt, fSetL, mutAt, Mut.ok, setJs, lkOk, chgOf, updC, updS, setP, pick, outs, noBor, noBorL, dropAl, Ctx.kr, Chg.dead, strip, keepJ, sNx, bor, borL, okM, okB, rootsM]
  by_cases d3 : r = 5
  · generalize t.take i.toNat = t1 at *
    generalize t.drop (i + 1).toNat = t2 at *
    refine ⟨t1 ++ t2, a3, b3, ?_, (p1.app p3).mono (by omega)⟩
    subst d3
    simp (disch := first | omega | (simp only [List.length_append, List.length_cons, List.length_nil]; omega)) [F__law_bend, m__law_bend, e1, e2, e3, ex, ec1, ec3, h9, fEq, eqS, fB2, fLen, fSlL, fSlR, slD, fAdd_ss, fAdd_ii, runF, eAnd, sExpr, tNotT, chgs, initC, inits, locks, boxD, sSeq, sIf, sSetI, sSet, sRet, sExpr, tOfE, tTru, tNotT, tAndT, tOrT, truth, eOp, eArgs, eN, eC, eIx, eMv, eCall, lockE, unlockE, unlocks, valsOf, val, getP, noOwn, noOwnL, ixAt, ixN, fGt, fGe, fLt, fLe, fOr, fII, gB, gMod, gDiv, gSub, gMul, okDiv, okMul_mod, fCatS, fInt1, nodeAt, fSetL, mutAt, Mut.ok, setJs, lkOk, chgOf, updC, updS, setP, pick, outs, noBor, noBorL, dropAl, Ctx.kr, Chg.dead, strip, keepJ, sNx, bor, borL, okM, okB, rootsM]
  by_cases d4 : r = 6
  · by_cases hi : i + 1 ≤ t.length
    · have ec5 := cut_b t (i + 1) (i + 2) (by omega) (by omega) (by omega)
      rw [show (i + 2).toNat - (i + 1).toNat = 1 by omega] at ec5
      have p5 := p3.take1
      have l5 := p5.2
      generalize t.take i.toNat = t1 at *
      generalize t.drop (i + 2).toNat = t2 at *
      generalize (t.drop (i + 1).toNat).take 1 = t3 at *
      generalize (t.drop i.toNat).take 1 = t4 at *
      refine ⟨t1 ++ t3 ++ t4 ++ t2, a3, b3, ?_, (((p1.app p5).app p6).app p4).mono (by omega)⟩
      subst d4
      simp (disch := first | omega | (simp only [List.length_append, List.length_cons, List.length_nil]; omega)) [F__law_bend, m__law_bend, e1, e2, e3, ex, ec1, ec4, ec5, ec6, h9, eInt, fEq, eqS, fB2, fLen, fSlL, fSlR, fSlB, slD, fAdd_ss, fAdd_ii, runF, eAnd, sExpr, tNotT, chgs, initC, inits, locks, boxD, sSeq, sIf, sSetI, sSet, sRet, sExpr, tOfE, tTru, tNotT, tAndT, tOrT, truth, eOp, eArgs, eN, eC, eIx, eMv, eCall, lockE, unlockE, unlocks, valsOf, val, getP, noOwn, noOwnL, ixAt, ixN, fGt, fGe, fLt, fLe, fOr, fII, gB, gMod, gDiv, gSub, gMul, okDiv, okMul_mod, fCatS, fInt1, nodeAt, fSetL, mutAt, Mut.ok, setJs, lkOk, chgOf, updC, updS, setP, pick, outs, noBor, noBorL, dropAl, Ctx.kr, Chg.dead, strip, keepJ, sNx, bor, borL, okM, okB, rootsM]
    · have hi : i = t.length := by omega
      subst hi
      have ec5 : cut t (some ((t.length : Int) + 1)) (some ((t.length : Int) + 2)) = [] := by
        have e1 : HT.sIx t.length 0 (some ((t.length : Int) + 1)) = t.length := by
          show (if (t.length : Int) + 1 < 0 then ((t.length : Int) + 1 + (t.length : Int)).toNat else min ((t.length : Int) + 1).toNat t.length) = _
          rw [if_neg (by omega)]; omega
        rw [cut, e1]
        simp
      generalize t.take (t.length : Int).toNat = t1 at *
      generalize t.drop ((t.length : Int) + 2).toNat = t2 at *
      generalize (t.drop (t.length : Int).toNat).take 1 = t4 at *
      refine ⟨t1 ++ [] ++ t4 ++ t2, a3, b3, ?_, (((p1.app (⟨fun _ h => (List.not_mem_nil h).elim, Nat.le_refl _⟩ : Bs 0 [])).app p6).app p4).mono (by omega)⟩
      subst d4
      simp (disch := first | omega | (simp only [List.length_append, List.length_cons, List.length_nil]; omega)) [F__law_bend, m__law_bend, e1, e2, e3, ex, ec1, ec4, ec5, ec6, h9, eInt, fEq, eqS, fB2, fLen, fSlL, fSlR, fSlB, slD, fAdd_ss, fAdd_ii, runF, eAnd, sExpr, tNotT, chgs, initC, inits, locks, boxD, sSeq, sIf, sSetI, sSet, sRet, sExpr, tOfE, tTru, tNotT, tAndT, tOrT, truth, eOp, eArgs, eN, eC, eIx, eMv, eCall, lockE, unlockE, unlocks, valsOf, val, getP, noOwn, noOwnL, ixAt, ixN, fGt, fGe, fLt, fLe, fOr, fII, gB, gMod, gDiv, gSub, gMul, okDiv, okMul_mod, fCatS, fInt1, nodeAt, fSetL, mutAt, Mut.ok, setJs, lkOk, chgOf, updC, updS, setP, pick, outs, noBor, noBorL, dropAl, Ctx.kr, Chg.dead, strip, keepJ, sNx, bor, borL, okM, okB, rootsM]
  by_cases d5 : r = 7
  · generalize t.take i.toNat = t1 at *
    refine ⟨t1, a3, b3, ?_, p1.mono (by omega)⟩
    subst d5
    simp (disch := first | omega | (simp only [List.length_append, List.length_cons, List.length_nil]; omega)) [F__law_bend, m__law_bend, e1, e2, e3, ex, ec1, h9, fEq, eqS, fB2, fLen, fSlL, fSlR, slD, fAdd_ss, fAdd_ii, runF, eAnd, sExpr, tNotT, chgs, initC, inits, locks, boxD, sSeq, sIf, sSetI, sSet, sRet, sExpr, tOfE, tTru, tNotT, tAndT, tOrT, truth, eOp, eArgs, eN, eC, eIx, eMv, eCall, lockE, unlockE, unlocks, valsOf, val, getP, noOwn, noOwnL, ixAt, ixN, fGt, fGe, fLt, fLe, fOr, fII, gB, gMod, gDiv, gSub, gMul, okDiv, okMul_mod, fCatS, fInt1, nodeAt, fSetL, mutAt, Mut.ok, setJs, lkOk, chgOf, updC, updS, setP, pick, outs, noBor, noBorL, dropAl, Ctx.kr, Chg.dead, strip, keepJ, sNx, bor, borL, okM, okB, rootsM]
  by_cases d6 : r = 8
  · generalize t.drop i.toNat = t2 at *
    refine ⟨t ++ [x] ++ t2, a3, b3, ?_, ((h.app o).app p2).mono (by omega)⟩
    subst d6
    simp (disch := first | omega | (simp only [List.length_append, List.length_cons, List.length_nil]; omega)) [F__law_bend, m__law_bend, e1, e2, e3, ex, ec2, h9, fEq, eqS, fB2, fLen, fSlL, fSlR, slD, fAdd_ss, fAdd_ii, runF, eAnd, sExpr, tNotT, chgs, initC, inits, locks, boxD, sSeq, sIf, sSetI, sSet, sRet, sExpr, tOfE, tTru, tNotT, tAndT, tOrT, truth, eOp, eArgs, eN, eC, eIx, eMv, eCall, lockE, unlockE, unlocks, valsOf, val, getP, noOwn, noOwnL, ixAt, ixN, fGt, fGe, fLt, fLe, fOr, fII, gB, gMod, gDiv, gSub, gMul, okDiv, okMul_mod, fCatS, fInt1, nodeAt, fSetL, mutAt, Mut.ok, setJs, lkOk, chgOf, updC, updS, setP, pick, outs, noBor, noBorL, dropAl, Ctx.kr, Chg.dead, strip, keepJ, sNx, bor, borL, okM, okB, rootsM]
  · obtain ⟨k, a4, b4, e4, h7, h8⟩ := takeX a3 b3 c 3 (by omega) (by decide)
    have hr : r = 9 := by omega
    subst hr
    have g : k = 0 ∨ k = 1 ∨ k = 2 := by omega
    rcases g with rfl | rfl | rfl
    · refine ⟨t ++ [10], a4, b4, ?_, (h.app (Bs.one (by decide))).mono (by omega)⟩
      simp (disch := first | omega | (simp only [List.length_append, List.length_cons, List.length_nil]; omega)) [F__law_bend, m__law_bend, e1, e2, e3, e4, ex, h9, fEq, eqS, fB2, fLen, fSlL, fSlR, slD, fAdd_ss, fAdd_ii, eLst, allT, runF, eAnd, sExpr, tNotT, chgs, initC, inits, locks, boxD, sSeq, sIf, sSetI, sSet, sRet, sExpr, tOfE, tTru, tNotT, tAndT, tOrT, truth, eOp, eArgs, eN, eC, eIx, eMv, eCall, lockE, unlockE, unlocks, valsOf, val, getP, noOwn, noOwnL, ixAt, ixN, fGt, fGe, fLt, fLe, fOr, fII, gB, gMod, gDiv, gSub, gMul, okDiv, okMul_mod, fCatS, fInt1, nodeAt, fSetL, mutAt, Mut.ok, setJs, lkOk, chgOf, updC, updS, setP, pick, outs, noBor, noBorL, dropAl, Ctx.kr, Chg.dead, strip, keepJ, sNx, bor, borL, okM, okB, rootsM]
    · refine ⟨[32] ++ t, a4, b4, ?_, ((Bs.one (by decide)).app h).mono (by omega)⟩
      simp (disch := first | omega | (simp only [List.length_append, List.length_cons, List.length_nil]; omega)) [F__law_bend, m__law_bend, e1, e2, e3, e4, ex, h9, fEq, eqS, fB2, fLen, fSlL, fSlR, slD, fAdd_ss, fAdd_ii, eLst, allT, runF, eAnd, sExpr, tNotT, chgs, initC, inits, locks, boxD, sSeq, sIf, sSetI, sSet, sRet, sExpr, tOfE, tTru, tNotT, tAndT, tOrT, truth, eOp, eArgs, eN, eC, eIx, eMv, eCall, lockE, unlockE, unlocks, valsOf, val, getP, noOwn, noOwnL, ixAt, ixN, fGt, fGe, fLt, fLe, fOr, fII, gB, gMod, gDiv, gSub, gMul, okDiv, okMul_mod, fCatS, fInt1, nodeAt, fSetL, mutAt, Mut.ok, setJs, lkOk, chgOf, updC, updS, setP, pick, outs, noBor, noBorL, dropAl, Ctx.kr, Chg.dead, strip, keepJ, sNx, bor, borL, okM, okB, rootsM]
    · refine ⟨t ++ [32], a4, b4, ?_, (h.app (Bs.one (by decide))).mono (by omega)⟩
      simp (disch := first | omega | (simp only [List.length_append, List.length_cons, List.length_nil]; omega)) [F__law_bend, m__law_bend, e1, e2, e3, e4, ex, h9, fEq, eqS, fB2, fLen, fSlL, fSlR, slD, fAdd_ss, fAdd_ii, eLst, allT, runF, eAnd, sExpr, tNotT, chgs, initC, inits, locks, boxD, sSeq, sIf, sSetI, sSet, sRet, sExpr, tOfE, tTru, tNotT, tAndT, tOrT, truth, eOp, eArgs, eN, eC, eIx, eMv, eCall, lockE, unlockE, unlocks, valsOf, val, getP, noOwn, noOwnL, ixAt, ixN, fGt, fGe, fLt, fLe, fOr, fII, gB, gMod, gDiv, gSub, gMul, okDiv, okMul_mod, fCatS, fInt1, nodeAt, fSetL, mutAt, Mut.ok, setJs, lkOk, chgOf, updC, updS, setP, pick, outs, noBor, noBorL, dropAl, Ctx.kr, Chg.dead, strip, keepJ, sNx, bor, borL, okM, okB, rootsM]
end K03
end Lc
end
section
set_option Elab.async false
set_option linter.all false
set_option maxRecDepth 100000
set_option maxHeartbeats 4000000
namespace Lc
namespace K03
open PySem L2
theorem bOk_of (l : List Nat) (h : ∀ x ∈ l, x ∈ PEG) (hl : l.length = 2 ∨ l.length = 3) : bOk (l ++ [46]) = true := by
  have e1 : (l ++ [46]).length = l.length + 1 := by simp
  have e2 : (l ++ [46]).getD l.length 0 = 46 := by simp
  have e3 : (l ++ [46]).take l.length = l := by simp
  have e4 : l34 (l.length + 1) = true := by simp [l34]; omega
  rw [bOk, e1, Nat.add_sub_cancel, e2, e3, e4]
  simp only [decide_true, Bool.true_and, List.all_eq_true]
  intro x hx
  simpa [pg] using h x hx
theorem aOk_of (l : List Nat) (h : ∀ x ∈ l, x ∈ 46 :: PEG) (hl : l.length = 2 ∨ l.length = 3) : aOk (46 :: l) = true := by
  have e4 : l34 (l.length + 1) = true := by simp [l34]; omega
  rw [aOk, List.length_cons, e4]
  simp only [List.getD_cons_zero, decide_true, Bool.true_and, List.all_eq_true]
  intro x hx
  rcases List.mem_cons.mp hx with rfl | hx
  · rfl
  · have := h x hx
    rcases List.mem_cons.mp this with rfl | hx
    · rfl
    · simp [pg, hx]
theorem good_is (a b c : Int) : ∃ x y w a' b', F__law_good [(.nd .lst .own [.int a, .int b, .int c])] = .ret (T3 x y w) [(.nd .lst .own [.int a', .int b', .int c])] ∧ isj x y w = true := by
  obtain ⟨r, a1, b1, e1, h1, h2⟩ := takeX a b c 2 (by omega) (by decide)
  have hn : (2 + r).toNat = 2 ∨ (2 + r).toNat = 3 := by omega
  obtain ⟨l, a2, b2, e2, hl, hll⟩ := picks (P := fun x => x ∈ PEG) (i := 4) (it := itA fR1 [eN 1]) (elt := eIx (eC (.str [97, 98, 99, 100])) (eCall [true, false] F__law_take [eN 0, eC (.int 4)] [])) (c0 := ⟨[.v (.nd .lst .own [.int a1, .int b1, .int c]), .v (.int (2 + r)), .no, .no, .no], [(0, [])]⟩) (fun p q z => ⟨[.v (.nd .lst .own [.int p, .int q, .int c]), .v (.int (2 + r)), .no, .no, z], [(0, [])]⟩) (2 + r).toNat (by omega) a1 b1
    (itR1i (by simp [runF, eAnd, sExpr, tNotT, chgs, initC, inits, locks, boxD, sSeq, sIf, sSetI, sSet, sRet, sExpr, tOfE, tTru, tNotT, tAndT, tOrT, truth, eOp, eArgs, eN, eC, eIx, eMv, eCall, lockE, unlockE, unlocks, valsOf, val, getP, noOwn, noOwnL, ixAt, ixN, fGt, fGe, fLt, fLe, fOr, fII, gB, gMod, gDiv, gSub, gMul, okDiv, okMul_mod, fCatS, fInt1, nodeAt, fSetL, mutAt, Mut.ok, setJs, lkOk, chgOf, updC, updS, setP, pick, outs, noBor, noBorL, dropAl, Ctx.kr, Chg.dead, strip, keepJ, sNx, bor, borL, okM, okB, rootsM]) (by omega) (by omega)) (fun p q x => by cases x <;> rfl) (fun p q x => by cases x <;> simp [wipeC, runF, eAnd, sExpr, tNotT, chgs, initC, inits, locks, boxD, sSeq, sIf, sSetI, sSet, sRet, sExpr, tOfE, tTru, tNotT, tAndT, tOrT, truth, eOp, eArgs, eN, eC, eIx, eMv, eCall, lockE, unlockE, unlocks, valsOf, val, getP, noOwn, noOwnL, ixAt, ixN, fGt, fGe, fLt, fLe, fOr, fII, gB, gMod, gDiv, gSub, gMul, okDiv, okMul_mod, fCatS, fInt1, nodeAt, fSetL, mutAt, Mut.ok, setJs, lkOk, chgOf, updC, updS, setP, pick, outs, noBor, noBorL, dropAl, Ctx.kr, Chg.dead, strip, keepJ, sNx, bor, borL, okM, okB, rootsM]) (fun p q k => by simp [bindT, runF, eAnd, sExpr, tNotT, chgs, initC, inits, locks, boxD, sSeq, sIf, sSetI, sSet, sRet, sExpr, tOfE, tTru, tNotT, tAndT, tOrT, truth, eOp, eArgs, eN, eC, eIx, eMv, eCall, lockE, unlockE, unlocks, valsOf, val, getP, noOwn, noOwnL, ixAt, ixN, fGt, fGe, fLt, fLe, fOr, fII, gB, gMod, gDiv, gSub, gMul, okDiv, okMul_mod, fCatS, fInt1, nodeAt, fSetL, mutAt, Mut.ok, setJs, lkOk, chgOf, updC, updS, setP, pick, outs, noBor, noBorL, dropAl, Ctx.kr, Chg.dead, strip, keepJ, sNx, bor, borL, okM, okB, rootsM]) (fun p q k => by
      obtain ⟨j, a3, b3, e3, h3, h4⟩ := takeX p q c 4 (by omega) (by decide)
      obtain ⟨x, hx, ex⟩ := at_mem [97, 98, 99, 100] j h3 h4
      exact ⟨x, a3, b3, hx, by simp [e3, ex, runF, eAnd, sExpr, tNotT, chgs, initC, inits, locks, boxD, sSeq, sIf, sSetI, sSet, sRet, sExpr, tOfE, tTru, tNotT, tAndT, tOrT, truth, eOp, eArgs, eN, eC, eIx, eMv, eCall, lockE, unlockE, unlocks, valsOf, val, getP, noOwn, noOwnL, ixAt, ixN, fGt, fGe, fLt, fLe, fOr, fII, gB, gMod, gDiv, gSub, gMul, okDiv, okMul_mod, fCatS, fInt1, nodeAt, fSetL, mutAt, Mut.ok, setJs, lkOk, chgOf, updC, updS, setP, pick, outs, noBor, noBorL, dropAl, Ctx.kr, Chg.dead, strip, keepJ, sNx, bor, borL, okM, okB, rootsM]⟩)
  obtain ⟨m, a3, b3, e3, hm, hml⟩ := picks (P := fun x => x ∈ 46 :: PEG) (i := 4) (it := itA fR1 [eN 1]) (elt := eIx (eC (.str [46, 97, 98, 99, 100])) (eCall [true, false] F__law_take [eN 0, eC (.int 5)] [])) (c0 := ⟨[.v (.nd .lst .own [.int a2, .int b2, .int c]), .v (.int (2 + r)), .v (.str (l ++ [46])), .no, .no], [(0, [])]⟩) (fun p q z => ⟨[.v (.nd .lst .own [.int p, .int q, .int c]), .v (.int (2 + r)), .v (.str (l ++ [46])), .no, z], [(0, [])]⟩) (2 + r).toNat (by omega) a2 b2
    (itR1i (by simp [runF, eAnd, sExpr, tNotT, chgs, initC, inits, locks, boxD, sSeq, sIf, sSetI, sSet, sRet, sExpr, tOfE, tTru, tNotT, tAndT, tOrT, truth, eOp, eArgs, eN, eC, eIx, eMv, eCall, lockE, unlockE, unlocks, valsOf, val, getP, noOwn, noOwnL, ixAt, ixN, fGt, fGe, fLt, fLe, fOr, fII, gB, gMod, gDiv, gSub, gMul, okDiv, okMul_mod, fCatS, fInt1, nodeAt, fSetL, mutAt, Mut.ok, setJs, lkOk, chgOf, updC, updS, setP, pick, outs, noBor, noBorL, dropAl, Ctx.kr, Chg.dead, strip, keepJ, sNx, bor, borL, okM, okB, rootsM]) (by omega) (by omega)) (fun p q x => by cases x <;> rfl) (fun p q x => by cases x <;> simp [wipeC, runF, eAnd, sExpr, tNotT, chgs, initC, inits, locks, boxD, sSeq, sIf, sSetI, sSet, sRet, sExpr, tOfE, tTru, tNotT, tAndT, tOrT, truth, eOp, eArgs, eN, eC, eIx, eMv, eCall, lockE, unlockE, unlocks, valsOf, val, getP, noOwn, noOwnL, ixAt, ixN, fGt, fGe, fLt, fLe, fOr, fII, gB, gMod, gDiv, gSub, gMul, okDiv, okMul_mod, fCatS, fInt1, nodeAt, fSetL, mutAt, Mut.ok, setJs, lkOk, chgOf, updC, updS, setP, pick, outs, noBor, noBorL, dropAl, Ctx.kr, Chg.dead, strip, keepJ, sNx, bor, borL, okM, okB, rootsM]) (fun p q k => by simp [bindT, runF, eAnd, sExpr, tNotT, chgs, initC, inits, locks, boxD, sSeq, sIf, sSetI, sSet, sRet, sExpr, tOfE, tTru, tNotT, tAndT, tOrT, truth, eOp, eArgs, eN, eC, eIx, eMv, eCall, lockE, unlockE, unlocks, valsOf, val, getP, noOwn, noOwnL, ixAt, ixN, fGt, fGe, fLt, fLe, fOr, fII, gB, gMod, gDiv, gSub, gMul, okDiv, okMul_mod, fCatS, fInt1, nodeAt, fSetL, mutAt, Mut.ok, setJs, lkOk, chgOf, updC, updS, setP, pick, outs, noBor, noBorL, dropAl, Ctx.kr, Chg.dead, strip, keepJ, sNx, bor, borL, okM, okB, rootsM]) (fun p q k => by
      obtain ⟨j, a3, b3, e3, h3, h4⟩ := takeX p q c 5 (by omega) (by decide)
      obtain ⟨x, hx, ex⟩ := at_mem [46, 97, 98, 99, 100] j h3 h4
      exact ⟨x, a3, b3, hx, by simp [e3, ex, runF, eAnd, sExpr, tNotT, chgs, initC, inits, locks, boxD, sSeq, sIf, sSetI, sSet, sRet, sExpr, tOfE, tTru, tNotT, tAndT, tOrT, truth, eOp, eArgs, eN, eC, eIx, eMv, eCall, lockE, unlockE, unlocks, valsOf, val, getP, noOwn, noOwnL, ixAt, ixN, fGt, fGe, fLt, fLe, fOr, fII, gB, gMod, gDiv, gSub, gMul, okDiv, okMul_mod, fCatS, fInt1, nodeAt, fSetL, mutAt, Mut.ok, setJs, lkOk, chgOf, updC, updS, setP, pick, outs, noBor, noBorL, dropAl, Ctx.kr, Chg.dead, strip, keepJ, sNx, bor, borL, okM, okB, rootsM]⟩)
  obtain ⟨i, a4, b4, e4, h3, h4⟩ := takeX a3 b3 c 3 (by omega) (by decide)
  have g : i = 0 ∨ i = 1 ∨ i = 2 := by omega
  have fin : ∀ w, wOk w = true → isj (l ++ [46]) (46 :: m) w = true := fun w hw => by
    simp only [isj, Bool.and_eq_true, decide_eq_true_eq]
    exact ⟨bOk_of l hl (by omega), aOk_of m hm (by omega), by simp; omega, hw⟩
  have k1 : sSet 1 (eOp fAdd [eC (.int 2), eCall [true, false] F__law_take [eN 0, eC (.int 2)] []]) (initC [true] 4 [(.nd .lst .own [.int a, .int b, .int c])]) = .nx ⟨[.v (.nd .lst .own [.int a1, .int b1, .int c]), .v (.int (2 + r)), .no, .no, .no], [(0, [])]⟩ := by
    simp [e1, fAdd_ii, runF, eAnd, sExpr, tNotT, chgs, initC, inits, locks, boxD, sSeq, sIf, sSetI, sSet, sRet, sExpr, tOfE, tTru, tNotT, tAndT, tOrT, truth, eOp, eArgs, eN, eC, eIx, eMv, eCall, lockE, unlockE, unlocks, valsOf, val, getP, noOwn, noOwnL, ixAt, ixN, fGt, fGe, fLt, fLe, fOr, fII, gB, gMod, gDiv, gSub, gMul, okDiv, okMul_mod, fCatS, fInt1, nodeAt, fSetL, mutAt, Mut.ok, setJs, lkOk, chgOf, updC, updS, setP, pick, outs, noBor, noBorL, dropAl, Ctx.kr, Chg.dead, strip, keepJ, sNx, bor, borL, okM, okB, rootsM]
  have k2 := e2
  have hl2 : l.length + 1 ≤ 16777216 := by omega
  have hm2 : 1 + m.length ≤ 16777216 := by omega
  have s2 : sSet 2 (eOp fAdd [eSM fJoin (eC (.str [])) [eCmp [4] (itA fR1 [eN 1]) (.n 4) (fun c => .ok true c) (eIx (eC (.str [97, 98, 99, 100])) (eCall [true, false] F__law_take [eN 0, eC (.int 4)] []))], eC (.str [46])]) ⟨[.v (.nd .lst .own [.int a1, .int b1, .int c]), .v (.int (2 + r)), .no, .no, .no], [(0, [])]⟩ = .nx ⟨[.v (.nd .lst .own [.int a2, .int b2, .int c]), .v (.int (2 + r)), .v (.str (l ++ [46])), .no, .no], [(0, [])]⟩ := by
    simp only [sSet, eOp, eArgs, e2]
    simp [hl2, fAdd_ss, runF, eAnd, sExpr, tNotT, chgs, initC, inits, locks, boxD, sSeq, sIf, sSetI, sSet, sRet, sExpr, tOfE, tTru, tNotT, tAndT, tOrT, truth, eOp, eArgs, eN, eC, eIx, eMv, eCall, lockE, unlockE, unlocks, valsOf, val, getP, noOwn, noOwnL, ixAt, ixN, fGt, fGe, fLt, fLe, fOr, fII, gB, gMod, gDiv, gSub, gMul, okDiv, okMul_mod, fCatS, fInt1, nodeAt, fSetL, mutAt, Mut.ok, setJs, lkOk, chgOf, updC, updS, setP, pick, outs, noBor, noBorL, dropAl, Ctx.kr, Chg.dead, strip, keepJ, sNx, bor, borL, okM, okB, rootsM]
  have s3 : sSet 3 (eOp fAdd [eC (.str [46]), eSM fJoin (eC (.str [])) [eCmp [4] (itA fR1 [eN 1]) (.n 4) (fun c => .ok true c) (eIx (eC (.str [46, 97, 98, 99, 100])) (eCall [true, false] F__law_take [eN 0, eC (.int 5)] []))]]) ⟨[.v (.nd .lst .own [.int a2, .int b2, .int c]), .v (.int (2 + r)), .v (.str (l ++ [46])), .no, .no], [(0, [])]⟩ = .nx ⟨[.v (.nd .lst .own [.int a3, .int b3, .int c]), .v (.int (2 + r)), .v (.str (l ++ [46])), .v (.str (46 :: m)), .no], [(0, [])]⟩ := by
    have g : eC (.str [46]) ⟨[.v (.nd .lst .own [.int a2, .int b2, .int c]), .v (.int (2 + r)), .v (.str (l ++ [46])), .no, .no], [(0, [])]⟩ = .ok (.t (.str [46])) ⟨[.v (.nd .lst .own [.int a2, .int b2, .int c]), .v (.int (2 + r)), .v (.str (l ++ [46])), .no, .no], [(0, [])]⟩ := rfl
    simp only [sSet, eOp, eArgs, g, lockE, e3]
    simp [hm2, fAdd_ss, runF, eAnd, sExpr, tNotT, chgs, initC, inits, locks, boxD, sSeq, sIf, sSetI, sSet, sRet, sExpr, tOfE, tTru, tNotT, tAndT, tOrT, truth, eOp, eArgs, eN, eC, eIx, eMv, eCall, lockE, unlockE, unlocks, valsOf, val, getP, noOwn, noOwnL, ixAt, ixN, fGt, fGe, fLt, fLe, fOr, fII, gB, gMod, gDiv, gSub, gMul, okDiv, okMul_mod, fCatS, fInt1, nodeAt, fSetL, mutAt, Mut.ok, setJs, lkOk, chgOf, updC, updS, setP, pick, outs, noBor, noBorL, dropAl, Ctx.kr, Chg.dead, strip, keepJ, sNx, bor, borL, okM, okB, rootsM]
  rw [F__law_good, runF_is rfl, m__law_good, seq_nx k1, seq_nx s2, seq_nx s3]
  rcases g with rfl | rfl | rfl
  · refine ⟨l ++ [46], 46 :: m, RT, a4, b4, ?_, fin RT rfl⟩
    simp [e4, eLst, eTup, allT, RT, finR, runF, eAnd, sExpr, tNotT, chgs, initC, inits, locks, boxD, sSeq, sIf, sSetI, sSet, sRet, sExpr, tOfE, tTru, tNotT, tAndT, tOrT, truth, eOp, eArgs, eN, eC, eIx, eMv, eCall, lockE, unlockE, unlocks, valsOf, val, getP, noOwn, noOwnL, ixAt, ixN, fGt, fGe, fLt, fLe, fOr, fII, gB, gMod, gDiv, gSub, gMul, okDiv, okMul_mod, fCatS, fInt1, nodeAt, fSetL, mutAt, Mut.ok, setJs, lkOk, chgOf, updC, updS, setP, pick, outs, noBor, noBorL, dropAl, Ctx.kr, Chg.dead, strip, keepJ, sNx, bor, borL, okM, okB, rootsM]
  · refine ⟨l ++ [46], 46 :: m, LF, a4, b4, ?_, fin LF rfl⟩
    simp [e4, eLst, eTup, allT, LF, finR, runF, eAnd, sExpr, tNotT, chgs, initC, inits, locks, boxD, sSeq, sIf, sSetI, sSet, sRet, sExpr, tOfE, tTru, tNotT, tAndT, tOrT, truth, eOp, eArgs, eN, eC, eIx, eMv, eCall, lockE, unlockE, unlocks, valsOf, val, getP, noOwn, noOwnL, ixAt, ixN, fGt, fGe, fLt, fLe, fOr, fII, gB, gMod, gDiv, gSub, gMul, okDiv, okMul_mod, fCatS, fInt1, nodeAt, fSetL, mutAt, Mut.ok, setJs, lkOk, chgOf, updC, updS, setP, pick, outs, noBor, noBorL, dropAl, Ctx.kr, Chg.dead, strip, keepJ, sNx, bor, borL, okM, okB, rootsM]
  · refine ⟨l ++ [46], 46 :: m, BO, a4, b4, ?_, fin BO rfl⟩
    simp [e4, eLst, eTup, allT, BO, finR, runF, eAnd, sExpr, tNotT, chgs, initC, inits, locks, boxD, sSeq, sIf, sSetI, sSet, sRet, sExpr, tOfE, tTru, tNotT, tAndT, tOrT, truth, eOp, eArgs, eN, eC, eIx, eMv, eCall, lockE, unlockE, unlocks, valsOf, val, getP, noOwn, noOwnL, ixAt, ixN, fGt, fGe, fLt, fLe, fOr, fII, gB, gMod, gDiv, gSub, gMul, okDiv, okMul_mod, fCatS, fInt1, nodeAt, fSetL, mutAt, Mut.ok, setJs, lkOk, chgOf, updC, updS, setP, pick, outs, noBor, noBorL, dropAl, Ctx.kr, Chg.dead, strip, keepJ, sNx, bor, borL, okM, okB, rootsM]
end K03
end Lc
end
section
set_option Elab.async false
set_option linter.all false
set_option maxRecDepth 100000
set_option maxHeartbeats 4000000
namespace Lc
namespace K03
open PySem L2
theorem loose_is (a b c : Int) (n : Nat) (hn : n ≤ 40) : ∃ u a' b', F__law_loose [(.nd .lst .own [.int a, .int b, .int c]), .int n] = .ret (.str u) [(.nd .lst .own [.int a', .int b', .int c])] ∧ Bs n u := by
  obtain ⟨r, a1, b1, e1, h1, h2⟩ := takeX a b c (n + 1) (by omega) (lg_of (by omega) (by omega))
  obtain ⟨l, a2, b2, e2, hl, hll⟩ := picks (P := fun x => x < 128) (i := 3) (it := itA fR1 [eCall [true, false] F__law_take [eN 0, eOp fAdd [eN 1, eC (.int 1)]] []]) (elt := eIx (eN 2) (eCall [true, false] F__law_take [eN 0, eOp fLen [eN 2]] [])) (c0 := ⟨[.v (.nd .lst .own [.int a, .int b, .int c]), .v (.int n), .v (.str [97, 98, 99, 100, 46, 97, 98, 99, 100, 46, 62, 60, 61, 58, 35, 65, 66, 101, 48, 10]), .no], [(0, [])]⟩) (fun p q z => ⟨[.v (.nd .lst .own [.int p, .int q, .int c]), .v (.int n), .v (.str [97, 98, 99, 100, 46, 97, 98, 99, 100, 46, 62, 60, 61, 58, 35, 65, 66, 101, 48, 10]), z], [(0, [])]⟩) r.toNat (by omega) a1 b1
    (itR1i (by simp [e1, fAdd_ii, runF, eAnd, sExpr, tNotT, chgs, initC, inits, locks, boxD, sSeq, sIf, sSetI, sSet, sRet, sExpr, tOfE, tTru, tNotT, tAndT, tOrT, truth, eOp, eArgs, eN, eC, eIx, eMv, eCall, lockE, unlockE, unlocks, valsOf, val, getP, noOwn, noOwnL, ixAt, ixN, fGt, fGe, fLt, fLe, fOr, fII, gB, gMod, gDiv, gSub, gMul, okDiv, okMul_mod, fCatS, fInt1, nodeAt, fSetL, mutAt, Mut.ok, setJs, lkOk, chgOf, updC, updS, setP, pick, outs, noBor, noBorL, dropAl, Ctx.kr, Chg.dead, strip, keepJ, sNx, bor, borL, okM, okB, rootsM]) (by omega) (by omega)) (fun p q x => by cases x <;> rfl) (fun p q x => by cases x <;> simp [wipeC, runF, eAnd, sExpr, tNotT, chgs, initC, inits, locks, boxD, sSeq, sIf, sSetI, sSet, sRet, sExpr, tOfE, tTru, tNotT, tAndT, tOrT, truth, eOp, eArgs, eN, eC, eIx, eMv, eCall, lockE, unlockE, unlocks, valsOf, val, getP, noOwn, noOwnL, ixAt, ixN, fGt, fGe, fLt, fLe, fOr, fII, gB, gMod, gDiv, gSub, gMul, okDiv, okMul_mod, fCatS, fInt1, nodeAt, fSetL, mutAt, Mut.ok, setJs, lkOk, chgOf, updC, updS, setP, pick, outs, noBor, noBorL, dropAl, Ctx.kr, Chg.dead, strip, keepJ, sNx, bor, borL, okM, okB, rootsM]) (fun p q k => by simp [bindT, runF, eAnd, sExpr, tNotT, chgs, initC, inits, locks, boxD, sSeq, sIf, sSetI, sSet, sRet, sExpr, tOfE, tTru, tNotT, tAndT, tOrT, truth, eOp, eArgs, eN, eC, eIx, eMv, eCall, lockE, unlockE, unlocks, valsOf, val, getP, noOwn, noOwnL, ixAt, ixN, fGt, fGe, fLt, fLe, fOr, fII, gB, gMod, gDiv, gSub, gMul, okDiv, okMul_mod, fCatS, fInt1, nodeAt, fSetL, mutAt, Mut.ok, setJs, lkOk, chgOf, updC, updS, setP, pick, outs, noBor, noBorL, dropAl, Ctx.kr, Chg.dead, strip, keepJ, sNx, bor, borL, okM, okB, rootsM]) (fun p q k => by
      obtain ⟨j, a3, b3, e3, h3, h4⟩ := takeX p q c 20 (by omega) (by decide)
      obtain ⟨x, hx, ex⟩ := at_mem [97, 98, 99, 100, 46, 97, 98, 99, 100, 46, 62, 60, 61, 58, 35, 65, 66, 101, 48, 10] j h3 h4
      exact ⟨x, a3, b3, lit_lt _ (by decide) x hx, by simp [e3, ex, fLen, runF, eAnd, sExpr, tNotT, chgs, initC, inits, locks, boxD, sSeq, sIf, sSetI, sSet, sRet, sExpr, tOfE, tTru, tNotT, tAndT, tOrT, truth, eOp, eArgs, eN, eC, eIx, eMv, eCall, lockE, unlockE, unlocks, valsOf, val, getP, noOwn, noOwnL, ixAt, ixN, fGt, fGe, fLt, fLe, fOr, fII, gB, gMod, gDiv, gSub, gMul, okDiv, okMul_mod, fCatS, fInt1, nodeAt, fSetL, mutAt, Mut.ok, setJs, lkOk, chgOf, updC, updS, setP, pick, outs, noBor, noBorL, dropAl, Ctx.kr, Chg.dead, strip, keepJ, sNx, bor, borL, okM, okB, rootsM]⟩)
  have k1 : sSet 2 (eC (.str [97, 98, 99, 100, 46, 97, 98, 99, 100, 46, 62, 60, 61, 58, 35, 65, 66, 101, 48, 10])) (initC [true, false] 2 [(.nd .lst .own [.int a, .int b, .int c]), .int n]) = .nx ⟨[.v (.nd .lst .own [.int a, .int b, .int c]), .v (.int n), .v (.str [97, 98, 99, 100, 46, 97, 98, 99, 100, 46, 62, 60, 61, 58, 35, 65, 66, 101, 48, 10]), .no], [(0, [])]⟩ := by
    simp [runF, eAnd, sExpr, tNotT, chgs, initC, inits, locks, boxD, sSeq, sIf, sSetI, sSet, sRet, sExpr, tOfE, tTru, tNotT, tAndT, tOrT, truth, eOp, eArgs, eN, eC, eIx, eMv, eCall, lockE, unlockE, unlocks, valsOf, val, getP, noOwn, noOwnL, ixAt, ixN, fGt, fGe, fLt, fLe, fOr, fII, gB, gMod, gDiv, gSub, gMul, okDiv, okMul_mod, fCatS, fInt1, nodeAt, fSetL, mutAt, Mut.ok, setJs, lkOk, chgOf, updC, updS, setP, pick, outs, noBor, noBorL, dropAl, Ctx.kr, Chg.dead, strip, keepJ, sNx, bor, borL, okM, okB, rootsM]
  refine ⟨l, a2, b2, ?_, hl, by omega⟩
  rw [F__law_loose, runF_is rfl, m__law_loose, seq_nx k1, sRet, e2]
  simp [finR, runF, eAnd, sExpr, tNotT, chgs, initC, inits, locks, boxD, sSeq, sIf, sSetI, sSet, sRet, sExpr, tOfE, tTru, tNotT, tAndT, tOrT, truth, eOp, eArgs, eN, eC, eIx, eMv, eCall, lockE, unlockE, unlocks, valsOf, val, getP, noOwn, noOwnL, ixAt, ixN, fGt, fGe, fLt, fLe, fOr, fII, gB, gMod, gDiv, gSub, gMul, okDiv, okMul_mod, fCatS, fInt1, nodeAt, fSetL, mutAt, Mut.ok, setJs, lkOk, chgOf, updC, updS, setP, pick, outs, noBor, noBorL, dropAl, Ctx.kr, Chg.dead, strip, keepJ, sNx, bor, borL, okM, okB, rootsM]
theorem odd_is (a b c : Int) : ∃ u a' b', F__law_odd_way [(.nd .lst .own [.int a, .int b, .int c])] = .ret (.str u) [(.nd .lst .own [.int a', .int b', .int c])] ∧ As u := by
  obtain ⟨r, a1, b1, e1, h1, h2⟩ := takeX a b c 2 (by omega) (by decide)
  by_cases c1 : r = 1
  · subst c1
    obtain ⟨i, a2, b2, e2, h3, h4⟩ := takeX a1 b1 c 10 (by omega) (by decide)
    have g : i = 0 ∨ i = 1 ∨ i = 2 ∨ i = 3 ∨ i = 4 ∨ i = 5 ∨ i = 6 ∨ i = 7 ∨ i = 8 ∨ i = 9 := by omega
    rcases g with rfl | rfl | rfl | rfl | rfl | rfl | rfl | rfl | rfl | rfl
    · exact ⟨_, a2, b2, by simp [F__law_odd_way, m__law_odd_way, e1, e2, eLst, allT, fEq, eqS, fB2, borL, runF, eAnd, sExpr, tNotT, chgs, initC, inits, locks, boxD, sSeq, sIf, sSetI, sSet, sRet, sExpr, tOfE, tTru, tNotT, tAndT, tOrT, truth, eOp, eArgs, eN, eC, eIx, eMv, eCall, lockE, unlockE, unlocks, valsOf, val, getP, noOwn, noOwnL, ixAt, ixN, fGt, fGe, fLt, fLe, fOr, fII, gB, gMod, gDiv, gSub, gMul, okDiv, okMul_mod, fCatS, fInt1, nodeAt, fSetL, mutAt, Mut.ok, setJs, lkOk, chgOf, updC, updS, setP, pick, outs, noBor, noBorL, dropAl, Ctx.kr, Chg.dead, strip, keepJ, sNx, bor, borL, okM, okB, rootsM]; rfl, by decide, by decide⟩
    · exact ⟨_, a2, b2, by simp [F__law_odd_way, m__law_odd_way, e1, e2, eLst, allT, fEq, eqS, fB2, borL, runF, eAnd, sExpr, tNotT, chgs, initC, inits, locks, boxD, sSeq, sIf, sSetI, sSet, sRet, sExpr, tOfE, tTru, tNotT, tAndT, tOrT, truth, eOp, eArgs, eN, eC, eIx, eMv, eCall, lockE, unlockE, unlocks, valsOf, val, getP, noOwn, noOwnL, ixAt, ixN, fGt, fGe, fLt, fLe, fOr, fII, gB, gMod, gDiv, gSub, gMul, okDiv, okMul_mod, fCatS, fInt1, nodeAt, fSetL, mutAt, Mut.ok, setJs, lkOk, chgOf, updC, updS, setP, pick, outs, noBor, noBorL, dropAl, Ctx.kr, Chg.dead, strip, keepJ, sNx, bor, borL, okM, okB, rootsM]; rfl, by decide, by decide⟩
    · exact ⟨_, a2, b2, by simp [F__law_odd_way, m__law_odd_way, e1, e2, eLst, allT, fEq, eqS, fB2, borL, runF, eAnd, sExpr, tNotT, chgs, initC, inits, locks, boxD, sSeq, sIf, sSetI, sSet, sRet, sExpr, tOfE, tTru, tNotT, tAndT, tOrT, truth, eOp, eArgs, eN, eC, eIx, eMv, eCall, lockE, unlockE, unlocks, valsOf, val, getP, noOwn, noOwnL, ixAt, ixN, fGt, fGe, fLt, fLe, fOr, fII, gB, gMod, gDiv, gSub, gMul, okDiv, okMul_mod, fCatS, fInt1, nodeAt, fSetL, mutAt, Mut.ok, setJs, lkOk, chgOf, updC, updS, setP, pick, outs, noBor, noBorL, dropAl, Ctx.kr, Chg.dead, strip, keepJ, sNx, bor, borL, okM, okB, rootsM]; rfl, by decide, by decide⟩
    · exact ⟨_, a2, b2, by simp [F__law_odd_way, m__law_odd_way, e1, e2, eLst, allT, fEq, eqS, fB2, borL, runF, eAnd, sExpr, tNotT, chgs, initC, inits, locks, boxD, sSeq, sIf, sSetI, sSet, sRet, sExpr, tOfE, tTru, tNotT, tAndT, tOrT, truth, eOp, eArgs, eN, eC, eIx, eMv, eCall, lockE, unlockE, unlocks, valsOf, val, getP, noOwn, noOwnL, ixAt, ixN, fGt, fGe, fLt, fLe, fOr, fII, gB, gMod, gDiv, gSub, gMul, okDiv, okMul_mod, fCatS, fInt1, nodeAt, fSetL, mutAt, Mut.ok, setJs, lkOk, chgOf, updC, updS, setP, pick, outs, noBor, noBorL, dropAl, Ctx.kr, Chg.dead, strip, keepJ, sNx, bor, borL, okM, okB, rootsM]; rfl, by decide, by decide⟩
    · exact ⟨_, a2, b2, by simp [F__law_odd_way, m__law_odd_way, e1, e2, eLst, allT, fEq, eqS, fB2, borL, runF, eAnd, sExpr, tNotT, chgs, initC, inits, locks, boxD, sSeq, sIf, sSetI, sSet, sRet, sExpr, tOfE, tTru, tNotT, tAndT, tOrT, truth, eOp, eArgs, eN, eC, eIx, eMv, eCall, lockE, unlockE, unlocks, valsOf, val, getP, noOwn, noOwnL, ixAt, ixN, fGt, fGe, fLt, fLe, fOr, fII, gB, gMod, gDiv, gSub, gMul, okDiv, okMul_mod, fCatS, fInt1, nodeAt, fSetL, mutAt, Mut.ok, setJs, lkOk, chgOf, updC, updS, setP, pick, outs, noBor, noBorL, dropAl, Ctx.kr, Chg.dead, strip, keepJ, sNx, bor, borL, okM, okB, rootsM]; rfl, by decide, by decide⟩
    · exact ⟨_, a2, b2, by simp [F__law_odd_way, m__law_odd_way, e1, e2, eLst, allT, fEq, eqS, fB2, borL, runF, eAnd, sExpr, tNotT, chgs, initC, inits, locks, boxD, sSeq, sIf, sSetI, sSet, sRet, sExpr, tOfE, tTru, tNotT, tAndT, tOrT, truth, eOp, eArgs, eN, eC, eIx, eMv, eCall, lockE, unlockE, unlocks, valsOf, val, getP, noOwn, noOwnL, ixAt, ixN, fGt, fGe, fLt, fLe, fOr, fII, gB, gMod, gDiv, gSub, gMul, okDiv, okMul_mod, fCatS, fInt1, nodeAt, fSetL, mutAt, Mut.ok, setJs, lkOk, chgOf, updC, updS, setP, pick, outs, noBor, noBorL, dropAl, Ctx.kr, Chg.dead, strip, keepJ, sNx, bor, borL, okM, okB, rootsM]; rfl, by decide, by decide⟩
    · exact ⟨_, a2, b2, by simp [F__law_odd_way, m__law_odd_way, e1, e2, eLst, allT, fEq, eqS, fB2, borL, runF, eAnd, sExpr, tNotT, chgs, initC, inits, locks, boxD, sSeq, sIf, sSetI, sSet, sRet, sExpr, tOfE, tTru, tNotT, tAndT, tOrT, truth, eOp, eArgs, eN, eC, eIx, eMv, eCall, lockE, unlockE, unlocks, valsOf, val, getP, noOwn, noOwnL, ixAt, ixN, fGt, fGe, fLt, fLe, fOr, fII, gB, gMod, gDiv, gSub, gMul, okDiv, okMul_mod, fCatS, fInt1, nodeAt, fSetL, mutAt, Mut.ok, setJs, lkOk, chgOf, updC, updS, setP, pick, outs, noBor, noBorL, dropAl, Ctx.kr, Chg.dead, strip, keepJ, sNx, bor, borL, okM, okB, rootsM]; rfl, by decide, by decide⟩
    · exact ⟨_, a2, b2, by simp [F__law_odd_way, m__law_odd_way, e1, e2, eLst, allT, fEq, eqS, fB2, borL, runF, eAnd, sExpr, tNotT, chgs, initC, inits, locks, boxD, sSeq, sIf, sSetI, sSet, sRet, sExpr, tOfE, tTru, tNotT, tAndT, tOrT, truth, eOp, eArgs, eN, eC, eIx, eMv, eCall, lockE, unlockE, unlocks, valsOf, val, getP, noOwn, noOwnL, ixAt, ixN, fGt, fGe, fLt, fLe, fOr, fII, gB, gMod, gDiv, gSub, gMul, okDiv, okMul_mod, fCatS, fInt1, nodeAt, fSetL, mutAt, Mut.ok, setJs, lkOk, chgOf, updC, updS, setP, pick, outs, noBor, noBorL, dropAl, Ctx.kr, Chg.dead, strip, keepJ, sNx, bor, borL, okM, okB, rootsM]; rfl, by decide, by decide⟩
    · exact ⟨_, a2, b2, by simp [F__law_odd_way, m__law_odd_way, e1, e2, eLst, allT, fEq, eqS, fB2, borL, runF, eAnd, sExpr, tNotT, chgs, initC, inits, locks, boxD, sSeq, sIf, sSetI, sSet, sRet, sExpr, tOfE, tTru, tNotT, tAndT, tOrT, truth, eOp, eArgs, eN, eC, eIx, eMv, eCall, lockE, unlockE, unlocks, valsOf, val, getP, noOwn, noOwnL, ixAt, ixN, fGt, fGe, fLt, fLe, fOr, fII, gB, gMod, gDiv, gSub, gMul, okDiv, okMul_mod, fCatS, fInt1, nodeAt, fSetL, mutAt, Mut.ok, setJs, lkOk, chgOf, updC, updS, setP, pick, outs, noBor, noBorL, dropAl, Ctx.kr, Chg.dead, strip, keepJ, sNx, bor, borL, okM, okB, rootsM]; rfl, by decide, by decide⟩
    · exact ⟨_, a2, b2, by simp [F__law_odd_way, m__law_odd_way, e1, e2, eLst, allT, fEq, eqS, fB2, borL, runF, eAnd, sExpr, tNotT, chgs, initC, inits, locks, boxD, sSeq, sIf, sSetI, sSet, sRet, sExpr, tOfE, tTru, tNotT, tAndT, tOrT, truth, eOp, eArgs, eN, eC, eIx, eMv, eCall, lockE, unlockE, unlocks, valsOf, val, getP, noOwn, noOwnL, ixAt, ixN, fGt, fGe, fLt, fLe, fOr, fII, gB, gMod, gDiv, gSub, gMul, okDiv, okMul_mod, fCatS, fInt1, nodeAt, fSetL, mutAt, Mut.ok, setJs, lkOk, chgOf, updC, updS, setP, pick, outs, noBor, noBorL, dropAl, Ctx.kr, Chg.dead, strip, keepJ, sNx, bor, borL, okM, okB, rootsM]; rfl, by decide, by decide⟩
  · obtain ⟨i, a2, b2, e2, h3, h4⟩ := takeX a1 b1 c 3 (by omega) (by decide)
    have g : i = 0 ∨ i = 1 ∨ i = 2 := by omega
    rcases g with rfl | rfl | rfl
    · obtain ⟨u, a3, b3, e3, hu⟩ := bend_is a2 b2 c 5 RT ⟨by decide, by decide⟩ (by omega)
      rw [RT] at e3
      exact ⟨u, a3, b3, by simp [F__law_odd_way, m__law_odd_way, e1, e2, e3, c1, eLst, allT, fEq, eqS, fB2, borL, runF, eAnd, sExpr, tNotT, chgs, initC, inits, locks, boxD, sSeq, sIf, sSetI, sSet, sRet, sExpr, tOfE, tTru, tNotT, tAndT, tOrT, truth, eOp, eArgs, eN, eC, eIx, eMv, eCall, lockE, unlockE, unlocks, valsOf, val, getP, noOwn, noOwnL, ixAt, ixN, fGt, fGe, fLt, fLe, fOr, fII, gB, gMod, gDiv, gSub, gMul, okDiv, okMul_mod, fCatS, fInt1, nodeAt, fSetL, mutAt, Mut.ok, setJs, lkOk, chgOf, updC, updS, setP, pick, outs, noBor, noBorL, dropAl, Ctx.kr, Chg.dead, strip, keepJ, sNx, bor, borL, okM, okB, rootsM], hu.as (by omega)⟩
    · obtain ⟨u, a3, b3, e3, hu⟩ := bend_is a2 b2 c 5 LF ⟨by decide, by decide⟩ (by omega)
      rw [LF] at e3
      exact ⟨u, a3, b3, by simp [F__law_odd_way, m__law_odd_way, e1, e2, e3, c1, eLst, allT, fEq, eqS, fB2, borL, runF, eAnd, sExpr, tNotT, chgs, initC, inits, locks, boxD, sSeq, sIf, sSetI, sSet, sRet, sExpr, tOfE, tTru, tNotT, tAndT, tOrT, truth, eOp, eArgs, eN, eC, eIx, eMv, eCall, lockE, unlockE, unlocks, valsOf, val, getP, noOwn, noOwnL, ixAt, ixN, fGt, fGe, fLt, fLe, fOr, fII, gB, gMod, gDiv, gSub, gMul, okDiv, okMul_mod, fCatS, fInt1, nodeAt, fSetL, mutAt, Mut.ok, setJs, lkOk, chgOf, updC, updS, setP, pick, outs, noBor, noBorL, dropAl, Ctx.kr, Chg.dead, strip, keepJ, sNx, bor, borL, okM, okB, rootsM], hu.as (by omega)⟩
    · obtain ⟨u, a3, b3, e3, hu⟩ := bend_is a2 b2 c 5 BO ⟨by decide, by decide⟩ (by omega)
      rw [BO] at e3
      exact ⟨u, a3, b3, by simp [F__law_odd_way, m__law_odd_way, e1, e2, e3, c1, eLst, allT, fEq, eqS, fB2, borL, runF, eAnd, sExpr, tNotT, chgs, initC, inits, locks, boxD, sSeq, sIf, sSetI, sSet, sRet, sExpr, tOfE, tTru, tNotT, tAndT, tOrT, truth, eOp, eArgs, eN, eC, eIx, eMv, eCall, lockE, unlockE, unlocks, valsOf, val, getP, noOwn, noOwnL, ixAt, ixN, fGt, fGe, fLt, fLe, fOr, fII, gB, gMod, gDiv, gSub, gMul, okDiv, okMul_mod, fCatS, fInt1, nodeAt, fSetL, mutAt, Mut.ok, setJs, lkOk, chgOf, updC, updS, setP, pick, outs, noBor, noBorL, dropAl, Ctx.kr, Chg.dead, strip, keepJ, sNx, bor, borL, okM, okB, rootsM], hu.as (by omega)⟩
end K03
end Lc
end
section
set_option Elab.async false
set_option linter.all false
set_option maxRecDepth 100000
set_option maxHeartbeats 4000000
namespace Lc
namespace K03
open PySem L2
def DC (p q c : Int) (x y w : List Nat) (r : Int) : Ctx := ⟨[.v (.nd .lst .own [.int p, .int q, .int c]), .v (.str x), .v (.str y), .v (.str w), .v (.int r)], [(0, [])]⟩
theorem drawn_is (a b c : Int) : ∃ x y w a' b', F__law_drawn [(.nd .lst .own [.int a, .int b, .int c])] = .ret (T3 x y w) [(.nd .lst .own [.int a', .int b', .int c])] ∧ As x ∧ As y := by
  obtain ⟨x, y, w, a1, b1, e1, hj⟩ := good_is a b c
  obtain ⟨hx, hy, hw⟩ := isj_as hj
  have hxy := isj_len hj
  have bx : Bs 4 x := ⟨hx.1, by omega⟩
  have by' : Bs 4 y := ⟨hy.1, by omega⟩
  obtain ⟨r, a2, b2, e2, h1, h2⟩ := takeX a1 b1 c 8 (by omega) (by decide)
  have k1 : sAsg (.t [.n 1, .n 2, .n 3]) (eCall [true] F__law_good [eN 0] []) (initC [true] 4 [(.nd .lst .own [.int a, .int b, .int c])]) = .nx ⟨[.v (.nd .lst .own [.int a1, .int b1, .int c]), .v (.str x), .v (.str y), .v (.str w), .no], [(0, [])]⟩ := by
    simp [sAsg, e1, bindT, bindTs, runF, eAnd, sExpr, tNotT, chgs, initC, inits, locks, boxD, sSeq, sIf, sSetI, sSet, sRet, sExpr, tOfE, tTru, tNotT, tAndT, tOrT, truth, eOp, eArgs, eN, eC, eIx, eMv, eCall, lockE, unlockE, unlocks, valsOf, val, getP, noOwn, noOwnL, ixAt, ixN, fGt, fGe, fLt, fLe, fOr, fII, gB, gMod, gDiv, gSub, gMul, okDiv, okMul_mod, fCatS, fInt1, nodeAt, fSetL, mutAt, Mut.ok, setJs, lkOk, chgOf, updC, updS, setP, pick, outs, noBor, noBorL, dropAl, Ctx.kr, Chg.dead, strip, keepJ, sNx, bor, borL, okM, okB, rootsM]
  have k2 : sSet 4 (eCall [true, false] F__law_take [eN 0, eC (.int 8)] []) ⟨[.v (.nd .lst .own [.int a1, .int b1, .int c]), .v (.str x), .v (.str y), .v (.str w), .no], [(0, [])]⟩ = .nx (DC a2 b2 c x y w r) := by
    simp [DC, e2, runF, eAnd, sExpr, tNotT, chgs, initC, inits, locks, boxD, sSeq, sIf, sSetI, sSet, sRet, sExpr, tOfE, tTru, tNotT, tAndT, tOrT, truth, eOp, eArgs, eN, eC, eIx, eMv, eCall, lockE, unlockE, unlocks, valsOf, val, getP, noOwn, noOwnL, ixAt, ixN, fGt, fGe, fLt, fLe, fOr, fII, gB, gMod, gDiv, gSub, gMul, okDiv, okMul_mod, fCatS, fInt1, nodeAt, fSetL, mutAt, Mut.ok, setJs, lkOk, chgOf, updC, updS, setP, pick, outs, noBor, noBorL, dropAl, Ctx.kr, Chg.dead, strip, keepJ, sNx, bor, borL, okM, okB, rootsM]
  have k3 : ∃ x3 a3 b3, sIf (tOrT (tOfE (eOp fEq [eN 4, eC (.int 4)])) (tOfE (eOp fEq [eN 4, eC (.int 6)]))) (sSet 1 (eCall [true, false] F__law_bend [eN 0, eN 1] [])) (sNx) (DC a2 b2 c x y w r) = .nx (DC a3 b3 c x3 y w r) ∧ As x3 := by
    by_cases g : r = 4 ∨ r = 6
    · obtain ⟨u, a3, b3, e3, hu⟩ := bend_is a2 b2 c 4 x bx (by omega)
      refine ⟨u, a3, b3, ?_, hu.as (by omega)⟩
      rcases g with rfl | rfl <;> simp [DC, e3, fEq, eqS, fB2, runF, eAnd, sExpr, tNotT, chgs, initC, inits, locks, boxD, sSeq, sIf, sSetI, sSet, sRet, sExpr, tOfE, tTru, tNotT, tAndT, tOrT, truth, eOp, eArgs, eN, eC, eIx, eMv, eCall, lockE, unlockE, unlocks, valsOf, val, getP, noOwn, noOwnL, ixAt, ixN, fGt, fGe, fLt, fLe, fOr, fII, gB, gMod, gDiv, gSub, gMul, okDiv, okMul_mod, fCatS, fInt1, nodeAt, fSetL, mutAt, Mut.ok, setJs, lkOk, chgOf, updC, updS, setP, pick, outs, noBor, noBorL, dropAl, Ctx.kr, Chg.dead, strip, keepJ, sNx, bor, borL, okM, okB, rootsM]
    · have g1 : ¬ r = 4 := by omega
      have g2 : ¬ r = 6 := by omega
      exact ⟨x, a2, b2, by simp [DC, g1, g2, fEq, eqS, fB2, runF, eAnd, sExpr, tNotT, chgs, initC, inits, locks, boxD, sSeq, sIf, sSetI, sSet, sRet, sExpr, tOfE, tTru, tNotT, tAndT, tOrT, truth, eOp, eArgs, eN, eC, eIx, eMv, eCall, lockE, unlockE, unlocks, valsOf, val, getP, noOwn, noOwnL, ixAt, ixN, fGt, fGe, fLt, fLe, fOr, fII, gB, gMod, gDiv, gSub, gMul, okDiv, okMul_mod, fCatS, fInt1, nodeAt, fSetL, mutAt, Mut.ok, setJs, lkOk, chgOf, updC, updS, setP, pick, outs, noBor, noBorL, dropAl, Ctx.kr, Chg.dead, strip, keepJ, sNx, bor, borL, okM, okB, rootsM], hx⟩
  obtain ⟨x3, a3, b3, k3, hx3⟩ := k3
  have k4 : ∃ y4 a4 b4, sIf (tOrT (tOfE (eOp fEq [eN 4, eC (.int 5)])) (tOfE (eOp fEq [eN 4, eC (.int 6)]))) (sSet 2 (eCall [true, false] F__law_bend [eN 0, eN 2] [])) (sNx) (DC a3 b3 c x3 y w r) = .nx (DC a4 b4 c x3 y4 w r) ∧ As y4 := by
    by_cases g : r = 5 ∨ r = 6
    · obtain ⟨u, a4, b4, e3, hu⟩ := bend_is a3 b3 c 4 y by' (by omega)
      refine ⟨u, a4, b4, ?_, hu.as (by omega)⟩
      rcases g with rfl | rfl <;> simp [DC, e3, fEq, eqS, fB2, runF, eAnd, sExpr, tNotT, chgs, initC, inits, locks, boxD, sSeq, sIf, sSetI, sSet, sRet, sExpr, tOfE, tTru, tNotT, tAndT, tOrT, truth, eOp, eArgs, eN, eC, eIx, eMv, eCall, lockE, unlockE, unlocks, valsOf, val, getP, noOwn, noOwnL, ixAt, ixN, fGt, fGe, fLt, fLe, fOr, fII, gB, gMod, gDiv, gSub, gMul, okDiv, okMul_mod, fCatS, fInt1, nodeAt, fSetL, mutAt, Mut.ok, setJs, lkOk, chgOf, updC, updS, setP, pick, outs, noBor, noBorL, dropAl, Ctx.kr, Chg.dead, strip, keepJ, sNx, bor, borL, okM, okB, rootsM]
    · have g1 : ¬ r = 5 := by omega
      have g2 : ¬ r = 6 := by omega
      exact ⟨y, a3, b3, by simp [DC, g1, g2, fEq, eqS, fB2, runF, eAnd, sExpr, tNotT, chgs, initC, inits, locks, boxD, sSeq, sIf, sSetI, sSet, sRet, sExpr, tOfE, tTru, tNotT, tAndT, tOrT, truth, eOp, eArgs, eN, eC, eIx, eMv, eCall, lockE, unlockE, unlocks, valsOf, val, getP, noOwn, noOwnL, ixAt, ixN, fGt, fGe, fLt, fLe, fOr, fII, gB, gMod, gDiv, gSub, gMul, okDiv, okMul_mod, fCatS, fInt1, nodeAt, fSetL, mutAt, Mut.ok, setJs, lkOk, chgOf, updC, updS, setP, pick, outs, noBor, noBorL, dropAl, Ctx.kr, Chg.dead, strip, keepJ, sNx, bor, borL, okM, okB, rootsM], hy⟩
  obtain ⟨y4, a4, b4, k4, hy4⟩ := k4
  have k5 : ∃ x5 y5 a5 b5, sIf (tOfE (eOp fEq [eN 4, eC (.int 7)])) (sSeq (sSet 1 (eCall [true, false] F__law_loose [eN 0, eC (.int 6)] [])) (sSet 2 (eCall [true, false] F__law_loose [eN 0, eC (.int 6)] []))) (sNx) (DC a4 b4 c x3 y4 w r) = .nx (DC a5 b5 c x5 y5 w r) ∧ As x5 ∧ As y5 := by
    by_cases g : r = 7
    · obtain ⟨u, a5, b5, e5, hu⟩ := loose_is a4 b4 c 6 (by omega)
      obtain ⟨v, a6, b6, e6, hv⟩ := loose_is a5 b5 c 6 (by omega)
      refine ⟨u, v, a6, b6, ?_, hu.as (by omega), hv.as (by omega)⟩
      rw [show ((6 : Nat) : Int) = 6 from rfl] at e5 e6
      subst g
      simp [DC, e5, e6, fEq, eqS, fB2, runF, eAnd, sExpr, tNotT, chgs, initC, inits, locks, boxD, sSeq, sIf, sSetI, sSet, sRet, sExpr, tOfE, tTru, tNotT, tAndT, tOrT, truth, eOp, eArgs, eN, eC, eIx, eMv, eCall, lockE, unlockE, unlocks, valsOf, val, getP, noOwn, noOwnL, ixAt, ixN, fGt, fGe, fLt, fLe, fOr, fII, gB, gMod, gDiv, gSub, gMul, okDiv, okMul_mod, fCatS, fInt1, nodeAt, fSetL, mutAt, Mut.ok, setJs, lkOk, chgOf, updC, updS, setP, pick, outs, noBor, noBorL, dropAl, Ctx.kr, Chg.dead, strip, keepJ, sNx, bor, borL, okM, okB, rootsM]
    · exact ⟨x3, y4, a4, b4, by simp [DC, g, fEq, eqS, fB2, runF, eAnd, sExpr, tNotT, chgs, initC, inits, locks, boxD, sSeq, sIf, sSetI, sSet, sRet, sExpr, tOfE, tTru, tNotT, tAndT, tOrT, truth, eOp, eArgs, eN, eC, eIx, eMv, eCall, lockE, unlockE, unlocks, valsOf, val, getP, noOwn, noOwnL, ixAt, ixN, fGt, fGe, fLt, fLe, fOr, fII, gB, gMod, gDiv, gSub, gMul, okDiv, okMul_mod, fCatS, fInt1, nodeAt, fSetL, mutAt, Mut.ok, setJs, lkOk, chgOf, updC, updS, setP, pick, outs, noBor, noBorL, dropAl, Ctx.kr, Chg.dead, strip, keepJ, sNx, bor, borL, okM, okB, rootsM], hx3, hy4⟩
  obtain ⟨x5, y5, a5, b5, k5, hx5, hy5⟩ := k5
  have k6 : ∃ w6 a6 b6, sIf (tOfE (eOp fEq [eCall [true, false] F__law_take [eN 0, eC (.int 6)] [], eC (.int 1)])) (sSet 3 (eCall [true] F__law_odd_way [eN 0] [])) (sNx) (DC a5 b5 c x5 y5 w r) = .nx (DC a6 b6 c x5 y5 w6 r) := by
    obtain ⟨i, a6, b6, e6, h3, h4⟩ := takeX a5 b5 c 6 (by omega) (by decide)
    by_cases g : i = 1
    · obtain ⟨u, a7, b7, e7, hu⟩ := odd_is a6 b6 c
      exact ⟨u, a7, b7, by simp [DC, e6, e7, g, fEq, eqS, fB2, runF, eAnd, sExpr, tNotT, chgs, initC, inits, locks, boxD, sSeq, sIf, sSetI, sSet, sRet, sExpr, tOfE, tTru, tNotT, tAndT, tOrT, truth, eOp, eArgs, eN, eC, eIx, eMv, eCall, lockE, unlockE, unlocks, valsOf, val, getP, noOwn, noOwnL, ixAt, ixN, fGt, fGe, fLt, fLe, fOr, fII, gB, gMod, gDiv, gSub, gMul, okDiv, okMul_mod, fCatS, fInt1, nodeAt, fSetL, mutAt, Mut.ok, setJs, lkOk, chgOf, updC, updS, setP, pick, outs, noBor, noBorL, dropAl, Ctx.kr, Chg.dead, strip, keepJ, sNx, bor, borL, okM, okB, rootsM]⟩
    · exact ⟨w, a6, b6, by simp [DC, e6, g, fEq, eqS, fB2, runF, eAnd, sExpr, tNotT, chgs, initC, inits, locks, boxD, sSeq, sIf, sSetI, sSet, sRet, sExpr, tOfE, tTru, tNotT, tAndT, tOrT, truth, eOp, eArgs, eN, eC, eIx, eMv, eCall, lockE, unlockE, unlocks, valsOf, val, getP, noOwn, noOwnL, ixAt, ixN, fGt, fGe, fLt, fLe, fOr, fII, gB, gMod, gDiv, gSub, gMul, okDiv, okMul_mod, fCatS, fInt1, nodeAt, fSetL, mutAt, Mut.ok, setJs, lkOk, chgOf, updC, updS, setP, pick, outs, noBor, noBorL, dropAl, Ctx.kr, Chg.dead, strip, keepJ, sNx, bor, borL, okM, okB, rootsM]⟩
  obtain ⟨w6, a6, b6, k6⟩ := k6
  refine ⟨x5, y5, w6, a6, b6, ?_, hx5, hy5⟩
  rw [F__law_drawn, runF_is rfl, m__law_drawn, seq_nx k1, seq_nx k2, seq_nx k3, seq_nx k4, seq_nx k5, seq_nx k6]
  simp [DC, finR, eTup, allT, runF, eAnd, sExpr, tNotT, chgs, initC, inits, locks, boxD, sSeq, sIf, sSetI, sSet, sRet, sExpr, tOfE, tTru, tNotT, tAndT, tOrT, truth, eOp, eArgs, eN, eC, eIx, eMv, eCall, lockE, unlockE, unlocks, valsOf, val, getP, noOwn, noOwnL, ixAt, ixN, fGt, fGe, fLt, fLe, fOr, fII, gB, gMod, gDiv, gSub, gMul, okDiv, okMul_mod, fCatS, fInt1, nodeAt, fSetL, mutAt, Mut.ok, setJs, lkOk, chgOf, updC, updS, setP, pick, outs, noBor, noBorL, dropAl, Ctx.kr, Chg.dead, strip, keepJ, sNx, bor, borL, okM, okB, rootsM]
/-! ### twins -/
theorem bOk_split {b : List Nat} (h : bOk b = true) : ∃ l, b = l ++ [46] ∧ (∀ x ∈ l, x ∈ PEG) ∧ (l.length = 2 ∨ l.length = 3) := by
  have hl := (bOk_sg h).2
  simp only [bOk, Bool.and_eq_true, decide_eq_true_eq] at h
  obtain ⟨h1, h2, h3⟩ := h
  refine ⟨b.take (b.length - 1), ?_, fun x hx => by simpa [pg] using List.all_eq_true.mp h3 x hx, by rw [List.length_take]; omega⟩
  have hk : b.length - 1 < b.length := by omega
  have e : b.drop (b.length - 1) = [46] := by
    rw [List.drop_eq_getElem_cons hk]
    rw [List.getD_eq_getElem?_getD, List.getElem?_eq_getElem hk] at h2
    simp only [Option.getD_some] at h2
    rw [h2, List.drop_eq_nil_of_le (by omega)]
  conv => lhs; rw [← List.take_append_drop (b.length - 1) b, e]
theorem aOk_split {a : List Nat} (h : aOk a = true) : ∃ l, a = 46 :: l ∧ (∀ x ∈ l, x ∈ 46 :: PEG) ∧ (l.length = 2 ∨ l.length = 3) := by
  simp only [aOk, Bool.and_eq_true, decide_eq_true_eq] at h
  obtain ⟨h1, h2, h3⟩ := h
  have h1 : a.length = 3 ∨ a.length = 4 := by simpa [l34] using h1
  cases a with
  | nil => simp at h1
  | cons x l =>
    simp only [List.getD_cons_zero] at h2
    subst h2
    refine ⟨l, rfl, fun x hx => ?_, by simp at h1; omega⟩
    have := List.all_eq_true.mp h3 x (List.mem_cons_of_mem _ hx)
    simpa [pg] using this
theorem bOk_set {b : List Nat} (h : bOk b = true) (i x : Nat) (hi : i < b.length - 1) (hx : x ∈ PEG) : bOk (b.take i ++ [x] ++ b.drop (i + 1)) = true ∧ (b.take i ++ [x] ++ b.drop (i + 1)).length = b.length := by
  obtain ⟨l, rfl, hl, hn⟩ := bOk_split h
  have hi : i < l.length := by simpa using hi
  have e : (l ++ [46]).take i ++ [x] ++ (l ++ [46]).drop (i + 1) = (l.take i ++ [x] ++ l.drop (i + 1)) ++ [46] := by
    rw [List.take_append_of_le_length (by omega), List.drop_append_of_le_length (by omega)]
    simp
  have en : (l.take i ++ [x] ++ l.drop (i + 1)).length = l.length := by simp; omega
  rw [e]
  refine ⟨bOk_of _ (fun y hy => ?_) (by rw [en]; exact hn), by rw [List.length_append, en]; simp⟩
  rcases List.mem_append.mp hy with hy | hy
  · rcases List.mem_append.mp hy with hy | hy
    · exact hl y (List.mem_of_mem_take hy)
    · rw [List.mem_singleton.mp hy]; exact hx
  · exact hl y (List.mem_of_mem_drop hy)
theorem aOk_set {a : List Nat} (h : aOk a = true) (i x : Nat) (h0 : 1 ≤ i) (hi : i < a.length) (hx : x ∈ 46 :: PEG) : aOk (a.take i ++ [x] ++ a.drop (i + 1)) = true ∧ (a.take i ++ [x] ++ a.drop (i + 1)).length = a.length := by
  obtain ⟨l, rfl, hl, hn⟩ := aOk_split h
  obtain ⟨k, rfl⟩ : ∃ k, i = k + 1 := ⟨i - 1, by omega⟩
  have hi : k < l.length := by simpa using hi
  have e : (46 :: l).take (k + 1) ++ [x] ++ (46 :: l).drop (k + 1 + 1) = 46 :: (l.take k ++ [x] ++ l.drop (k + 1)) := by simp
  have en : (l.take k ++ [x] ++ l.drop (k + 1)).length = l.length := by simp; omega
  rw [e]
  refine ⟨aOk_of _ (fun y hy => ?_) (by rw [en]; exact hn), by rw [List.length_cons, en]; simp⟩
  rcases List.mem_append.mp hy with hy | hy
  · rcases List.mem_append.mp hy with hy | hy
    · exact hl y (List.mem_of_mem_take hy)
    · rw [List.mem_singleton.mp hy]; exact hx
  · exact hl y (List.mem_of_mem_drop hy)
theorem swy_sg {w : List Nat} (h : wOk w = true) : swy (sg w) = some w := by
  rcases w3 h with rfl | rfl | rfl <;> rfl
theorem written_as {b a w : List Nat} (h : isj b a w = true) : Bs 9 (b ++ (sg w ++ a)) := by
  obtain ⟨h1, h2, h3⟩ := isj_as h
  have hl := isj_len h
  have hs : Bs 1 (sg w) := by
    rcases w3 (isj_parts h).2.2.2 with rfl | rfl | rfl <;> exact ⟨by decide, by decide⟩
  have p1 : Bs 4 b := ⟨h1.1, hl.1⟩
  have p2 : Bs 4 a := ⟨h2.1, hl.2⟩
  exact (Bs.app p1 (Bs.app hs p2)).mono (by omega)
theorem read_back (b a w : List Nat) (h : isj b a w = true) : F_Jump_read [.str (b ++ (sg w ++ a))] = .ret (J b a w) [] := by
  obtain ⟨hb, ha, hl, hw⟩ := isj_parts h
  have hm : md (b ++ (sg w ++ a)) = b.length := by
    simp only [md, List.length_append, sg_len]; omega
  have e1 : (b ++ (sg w ++ a)).take b.length = b := by simp
  have e2 : (b ++ (sg w ++ a)).drop b.length = sg w ++ a := by simp
  have e3 : (sg w ++ a).take 1 = sg w := by
    have := sg_len w
    rw [List.take_append_of_le_length (by omega), List.take_of_length_le (by omega)]
  have e4 : (b ++ (sg w ++ a)).drop (b.length + 1) = a := by
    rw [← List.drop_drop, e2, ← sg_len w]; simp
  have := read_ok (b ++ (sg w ++ a)) w ((written_as h).as (by omega)) (by rw [hm, e2, e3, swy_sg hw]) (by rw [hm, e1, e4]; exact h)
  rw [hm, e1, e4] at this
  exact this
end K03
end Lc
end
section
set_option Elab.async false
set_option linter.all false
set_option maxRecDepth 100000
set_option maxHeartbeats 4000000
namespace Lc
namespace K03
open PySem L2
def TC (p q c : Int) (t o : D) (r : Int) (l4 l5 l6 : Sl) : Ctx := ⟨[.v (.nd .lst .own [.int p, .int q, .int c]), .v t, .v o, .v (.int r), l4, l5, l6, .no, .no], [(0, [])]⟩
theorem tw1 (a b c r : Int) (x y w : List Nat) (hj : isj x y w = true) : ∃ w' a' b', sIf (tOfE (eOp fEq [eN 3, eC (.int 1)])) (sSet 2 (eTup [eIx (eN 1) (eC (.int 0)), eIx (eN 1) (eC (.int 1)), eIx (eLst [eC (.str [114, 105, 103, 104, 116]), eC (.str [108, 101, 102, 116]), eC (.str [98, 111, 116, 104])]) (eCall [true, false] F__law_take [eN 0, eC (.int 3)] [])])) (sNx) (TC a b c (T3 x y w) (T3 x y w) r .no .no .no) = .nx (TC a' b' c (T3 x y w) (T3 x y w') r .no .no .no) ∧ isj x y w' = true := by
  by_cases g : r = 1
  · obtain ⟨i, a1, b1, e1, h1, h2⟩ := takeX a b c 3 (by omega) (by decide)
    have hp := isj_parts hj
    have f : ∀ w', wOk w' = true → isj x y w' = true := fun w' hw => by simp [isj, hp.1, hp.2.1, hp.2.2.1, hw]
    have gi : i = 0 ∨ i = 1 ∨ i = 2 := by omega
    subst g
    rcases gi with rfl | rfl | rfl
    · exact ⟨RT, a1, b1, by simp [TC, e1, eTup, eLst, allT, fEq, eqS, fB2, RT, runF, eAnd, sExpr, tNotT, chgs, initC, inits, locks, boxD, sSeq, sIf, sSetI, sSet, sRet, sExpr, tOfE, tTru, tNotT, tAndT, tOrT, truth, eOp, eArgs, eN, eC, eIx, eMv, eCall, lockE, unlockE, unlocks, valsOf, val, getP, noOwn, noOwnL, ixAt, ixN, fGt, fGe, fLt, fLe, fOr, fII, gB, gMod, gDiv, gSub, gMul, okDiv, okMul_mod, fCatS, fInt1, nodeAt, fSetL, mutAt, Mut.ok, setJs, lkOk, chgOf, updC, updS, setP, pick, outs, noBor, noBorL, dropAl, Ctx.kr, Chg.dead, strip, keepJ, sNx, bor, borL, okM, okB, rootsM], f _ rfl⟩
    · exact ⟨LF, a1, b1, by simp [TC, e1, eTup, eLst, allT, fEq, eqS, fB2, LF, runF, eAnd, sExpr, tNotT, chgs, initC, inits, locks, boxD, sSeq, sIf, sSetI, sSet, sRet, sExpr, tOfE, tTru, tNotT, tAndT, tOrT, truth, eOp, eArgs, eN, eC, eIx, eMv, eCall, lockE, unlockE, unlocks, valsOf, val, getP, noOwn, noOwnL, ixAt, ixN, fGt, fGe, fLt, fLe, fOr, fII, gB, gMod, gDiv, gSub, gMul, okDiv, okMul_mod, fCatS, fInt1, nodeAt, fSetL, mutAt, Mut.ok, setJs, lkOk, chgOf, updC, updS, setP, pick, outs, noBor, noBorL, dropAl, Ctx.kr, Chg.dead, strip, keepJ, sNx, bor, borL, okM, okB, rootsM], f _ rfl⟩
    · exact ⟨BO, a1, b1, by simp [TC, e1, eTup, eLst, allT, fEq, eqS, fB2, BO, runF, eAnd, sExpr, tNotT, chgs, initC, inits, locks, boxD, sSeq, sIf, sSetI, sSet, sRet, sExpr, tOfE, tTru, tNotT, tAndT, tOrT, truth, eOp, eArgs, eN, eC, eIx, eMv, eCall, lockE, unlockE, unlocks, valsOf, val, getP, noOwn, noOwnL, ixAt, ixN, fGt, fGe, fLt, fLe, fOr, fII, gB, gMod, gDiv, gSub, gMul, okDiv, okMul_mod, fCatS, fInt1, nodeAt, fSetL, mutAt, Mut.ok, setJs, lkOk, chgOf, updC, updS, setP, pick, outs, noBor, noBorL, dropAl, Ctx.kr, Chg.dead, strip, keepJ, sNx, bor, borL, okM, okB, rootsM], f _ rfl⟩
  · exact ⟨w, a, b, by simp [TC, g, fEq, eqS, fB2, runF, eAnd, sExpr, tNotT, chgs, initC, inits, locks, boxD, sSeq, sIf, sSetI, sSet, sRet, sExpr, tOfE, tTru, tNotT, tAndT, tOrT, truth, eOp, eArgs, eN, eC, eIx, eMv, eCall, lockE, unlockE, unlocks, valsOf, val, getP, noOwn, noOwnL, ixAt, ixN, fGt, fGe, fLt, fLe, fOr, fII, gB, gMod, gDiv, gSub, gMul, okDiv, okMul_mod, fCatS, fInt1, nodeAt, fSetL, mutAt, Mut.ok, setJs, lkOk, chgOf, updC, updS, setP, pick, outs, noBor, noBorL, dropAl, Ctx.kr, Chg.dead, strip, keepJ, sNx, bor, borL, okM, okB, rootsM], hj⟩
theorem skip (k : Int) (A : Ctx → SR) (a b c r : Int) (t o : D) (l4 l5 l6 : Sl) (h : ¬ r = k) : sIf (tOfE (eOp fEq [eN 3, eC (.int k)])) A sNx (TC a b c t o r l4 l5 l6) = .nx (TC a b c t o r l4 l5 l6) := by
  simp [TC, h, fEq, eqS, fB2, runF, eAnd, sExpr, tNotT, chgs, initC, inits, locks, boxD, sSeq, sIf, sSetI, sSet, sRet, sExpr, tOfE, tTru, tNotT, tAndT, tOrT, truth, eOp, eArgs, eN, eC, eIx, eMv, eCall, lockE, unlockE, unlocks, valsOf, val, getP, noOwn, noOwnL, ixAt, ixN, fGt, fGe, fLt, fLe, fOr, fII, gB, gMod, gDiv, gSub, gMul, okDiv, okMul_mod, fCatS, fInt1, nodeAt, fSetL, mutAt, Mut.ok, setJs, lkOk, chgOf, updC, updS, setP, pick, outs, noBor, noBorL, dropAl, Ctx.kr, Chg.dead, strip, keepJ, sNx, bor, borL, okM, okB, rootsM]
theorem tw2 (a b c : Int) (x y w : List Nat) (x' y' w' : List Nat) (hj : isj x y w = true) : ∃ x2 y2 w2 a' b' d4 d5, sIf (tOfE (eOp fEq [eN 3, eC (.int 2)])) (sSeq (sSet 4 (eOp fAdd [eC (.int 1), eCall [true, false] F__law_take [eN 0, eOp (fII gSub) [eOp fLen [eIx (eN 1) (eC (.int 1))], eC (.int 1)]] []])) (sSeq (sSet 5 (eOp fAdd [eOp fAdd [eOp fSlR [eIx (eN 1) (eC (.int 1)), eN 4], eIx (eC (.str [46, 97, 98, 99, 100])) (eCall [true, false] F__law_take [eN 0, eC (.int 5)] [])], eOp fSlL [eIx (eN 1) (eC (.int 1)), eOp fAdd [eN 4, eC (.int 1)]]])) (sSet 2 (eTup [eIx (eN 1) (eC (.int 0)), eN 5, eIx (eN 1) (eC (.int 2))])))) (sNx) (TC a b c (T3 x y w) (T3 x' y' w') 2 .no .no .no) = .nx (TC a' b' c (T3 x y w) (T3 x2 y2 w2) 2 (.v d4) (.v d5) .no) ∧ isj x2 y2 w2 = true := by
  obtain ⟨hb, ha, hl, hw⟩ := isj_parts hj
  have hln := isj_len hj
  have h3 := (bOk_sg hb).2
  obtain ⟨i, a1, b1, e1, h1, h2⟩ := takeX a b c (y.length - 1) (by omega) (lg_of (by omega) (by omega))
  obtain ⟨j, a2, b2, e2, h5, h6⟩ := takeX a1 b1 c 5 (by omega) (by decide)
  obtain ⟨s, hs, es⟩ := at_mem [46, 97, 98, 99, 100] j h5 h6
  have st := aOk_set ha (1 + i).toNat s (by omega) (by omega) hs
  have ec1 := cut_t' y (1 + i) (by omega)
  have ec2 := cut_d' y (1 + i + 1) (by omega)
  rw [show (1 + i + 1).toNat = (1 + i).toNat + 1 by omega] at ec2
  have q1 : (y.take (1 + i).toNat).length ≤ 4 := by rw [List.length_take]; omega
  have q2 : (y.drop ((1 + i).toNat + 1)).length ≤ 4 := by rw [List.length_drop]; omega
  have hy : y.length ≤ 16777216 := by omega
  refine ⟨x, y.take (1 + i).toNat ++ [s] ++ y.drop ((1 + i).toNat + 1), w, a2, b2, .int (1 + i), .str (y.take (1 + i).toNat ++ [s] ++ y.drop ((1 + i).toNat + 1)), ?_, ?_⟩
  · generalize y.take (1 + i).toNat = y1 at *
    generalize y.drop ((1 + i).toNat + 1) = y2 at *
    simp (disch := first | omega | (simp only [List.length_append, List.length_cons, List.length_nil]; omega)) [TC, e1, e2, es, ec1, ec2, hy, fLen, fSlL, fSlR, slD, fAdd_ss, fAdd_ii, eTup, allT, fEq, eqS, fB2, runF, eAnd, sExpr, tNotT, chgs, initC, inits, locks, boxD, sSeq, sIf, sSetI, sSet, sRet, sExpr, tOfE, tTru, tNotT, tAndT, tOrT, truth, eOp, eArgs, eN, eC, eIx, eMv, eCall, lockE, unlockE, unlocks, valsOf, val, getP, noOwn, noOwnL, ixAt, ixN, fGt, fGe, fLt, fLe, fOr, fII, gB, gMod, gDiv, gSub, gMul, okDiv, okMul_mod, fCatS, fInt1, nodeAt, fSetL, mutAt, Mut.ok, setJs, lkOk, chgOf, updC, updS, setP, pick, outs, noBor, noBorL, dropAl, Ctx.kr, Chg.dead, strip, keepJ, sNx, bor, borL, okM, okB, rootsM]
  · simp only [isj, Bool.and_eq_true, decide_eq_true_eq]
    exact ⟨hb, st.1, by rw [st.2]; exact hl, hw⟩
theorem tw3 (a b c : Int) (x y w : List Nat) (x' y' w' : List Nat) (hj : isj x y w = true) : ∃ x2 y2 w2 a' b' d4 d6, sIf (tOfE (eOp fEq [eN 3, eC (.int 3)])) (sSeq (sSet 4 (eCall [true, false] F__law_take [eN 0, eOp (fII gSub) [eOp fLen [eIx (eN 1) (eC (.int 0))], eC (.int 1)]] [])) (sSeq (sSet 6 (eOp fAdd [eOp fAdd [eOp fSlR [eIx (eN 1) (eC (.int 0)), eN 4], eIx (eC (.str [97, 98, 99, 100])) (eCall [true, false] F__law_take [eN 0, eC (.int 4)] [])], eOp fSlL [eIx (eN 1) (eC (.int 0)), eOp fAdd [eN 4, eC (.int 1)]]])) (sSet 2 (eTup [eN 6, eIx (eN 1) (eC (.int 1)), eIx (eN 1) (eC (.int 2))])))) (sNx) (TC a b c (T3 x y w) (T3 x' y' w') 3 .no .no .no) = .nx (TC a' b' c (T3 x y w) (T3 x2 y2 w2) 3 (.v d4) .no (.v d6)) ∧ isj x2 y2 w2 = true := by
  obtain ⟨hb, ha, hl, hw⟩ := isj_parts hj
  have hln := isj_len hj
  have h3 := (bOk_sg hb).2
  obtain ⟨i, a1, b1, e1, h1, h2⟩ := takeX a b c (x.length - 1) (by omega) (lg_of (by omega) (by omega))
  obtain ⟨j, a2, b2, e2, h5, h6⟩ := takeX a1 b1 c 4 (by omega) (by decide)
  obtain ⟨s, hs, es⟩ := at_mem [97, 98, 99, 100] j h5 h6
  have st := bOk_set hb i.toNat s (by omega) hs
  have ec1 := cut_t' x i (by omega)
  have ec2 := cut_d' x (i + 1) (by omega)
  rw [show (i + 1).toNat = i.toNat + 1 by omega] at ec2
  have q1 : (x.take i.toNat).length ≤ 4 := by rw [List.length_take]; omega
  have q2 : (x.drop (i.toNat + 1)).length ≤ 4 := by rw [List.length_drop]; omega
  have hy : x.length ≤ 16777216 := by omega
  refine ⟨x.take i.toNat ++ [s] ++ x.drop (i.toNat + 1), y, w, a2, b2, .int i, .str (x.take i.toNat ++ [s] ++ x.drop (i.toNat + 1)), ?_, ?_⟩
  · generalize x.take i.toNat = y1 at *
    generalize x.drop (i.toNat + 1) = y2 at *
    simp (disch := first | omega | (simp only [List.length_append, List.length_cons, List.length_nil]; omega)) [TC, e1, e2, es, ec1, ec2, hy, fLen, fSlL, fSlR, slD, fAdd_ss, fAdd_ii, eTup, allT, fEq, eqS, fB2, runF, eAnd, sExpr, tNotT, chgs, initC, inits, locks, boxD, sSeq, sIf, sSetI, sSet, sRet, sExpr, tOfE, tTru, tNotT, tAndT, tOrT, truth, eOp, eArgs, eN, eC, eIx, eMv, eCall, lockE, unlockE, unlocks, valsOf, val, getP, noOwn, noOwnL, ixAt, ixN, fGt, fGe, fLt, fLe, fOr, fII, gB, gMod, gDiv, gSub, gMul, okDiv, okMul_mod, fCatS, fInt1, nodeAt, fSetL, mutAt, Mut.ok, setJs, lkOk, chgOf, updC, updS, setP, pick, outs, noBor, noBorL, dropAl, Ctx.kr, Chg.dead, strip, keepJ, sNx, bor, borL, okM, okB, rootsM]
  · simp only [isj, Bool.and_eq_true, decide_eq_true_eq]
    exact ⟨st.1, ha, by rw [st.2]; exact hl, hw⟩
def Pl (l : Sl) : Prop := l = .no ∨ ∃ d, l = .v d
theorem dec_sym (b a w b' a' w' : List Nat) : (decide (b' = b) && (decide (a' = a) && decide (w' = w))) = (decide (b = b') && (decide (a = a') && decide (w = w'))) := by
  simp only [eq_comm]
theorem tw_end (a b c r : Int) (x y w x2 y2 w2 : List Nat) (l4 l5 l6 : Sl) (h4 : Pl l4) (h5 : Pl l5) (h6 : Pl l6) (hj : isj x y w = true) (hj2 : isj x2 y2 w2 = true) : ∃ c', sSeq (sSet 7 (eFt (eMake 2 [false, false, false] F_Jump_init [eIx (eN 1) (eC (.int 0)), eIx (eN 1) (eC (.int 1)), eIx (eN 1) (eC (.int 2))] []))) (sSeq (sSet 8 (eCall [false] F_Jump_read [eCall [false] F__law_written [eN 2] []] [])) (sSeq (sIf (tOrT (tOfE (eOp fNe [eOwn (chk1 2) anyD [false, false] F_Jump_eq [eN 7, eN 8], eOp fEq [eN 1, eN 2]])) (tOfE (eOp fNe [eOwn (chk1 2) anyD [false, false] F_Jump_eq [eN 8, eN 7], eOp fEq [eN 1, eN 2]]))) (sRet (eC (.bl false))) (sNx)) (sRet (eAnd (eCall [false, false] F__law_shown [eN 7, eN 1] []) (eCall [false, false] F__law_shown [eN 8, eN 2] []))))) (TC a b c (T3 x y w) (T3 x2 y2 w2) r l4 l5 l6) = .rt (.bl true) c' ∧ outs [true, false] c'.s = some [(.nd .lst .own [.int a, .int b, .int c])] := by
  have hln := isj_len hj
  have e1 := init_ok x y w (by omega) (by omega) hj
  have e2 := written_is x2 y2 w2 hj2
  have e3 := read_back x2 y2 w2 hj2
  have e4 := jeq_is x y w x2 y2 w2
  have e5 := jeq_is x2 y2 w2 x y w
  rw [dec_sym] at e5
  obtain ⟨a1, a2, a3⟩ := isj_as hj
  obtain ⟨a4, a5, a6⟩ := isj_as hj2
  have e6 := eq_t3 x y w x2 y2 w2 a1 a2 a3 a4 a5 a6
  have e7 := shown_is x y w hj
  have e8 := shown_is x2 y2 w2 hj2
  generalize (decide (x = x2) && (decide (y = y2) && decide (w = w2))) = q at *
  refine ⟨⟨[.v (.nd .lst .own [.int a, .int b, .int c]), .v (T3 x y w), .v (T3 x2 y2 w2), .v (.int r), l4, l5, l6, .v (J x y w), .v (J x2 y2 w2)], [(0, [])]⟩, ?_, ?_⟩
  · rcases h4 with rfl | ⟨d4, rfl⟩ <;> rcases h5 with rfl | ⟨d5, rfl⟩ <;> rcases h6 with rfl | ⟨d6, rfl⟩ <;> simp [TC, e1, e2, e3, e4, e5, e6, e7, e8, eFt, eMake, frz, frzL, eOwn, chk1, anyD, isOb_J, ne_bl, runF, eAnd, sExpr, tNotT, chgs, initC, inits, locks, boxD, sSeq, sIf, sSetI, sSet, sRet, sExpr, tOfE, tTru, tNotT, tAndT, tOrT, truth, eOp, eArgs, eN, eC, eIx, eMv, eCall, lockE, unlockE, unlocks, valsOf, val, getP, noOwn, noOwnL, ixAt, ixN, fGt, fGe, fLt, fLe, fOr, fII, gB, gMod, gDiv, gSub, gMul, okDiv, okMul_mod, fCatS, fInt1, nodeAt, fSetL, mutAt, Mut.ok, setJs, lkOk, chgOf, updC, updS, setP, pick, outs, noBor, noBorL, dropAl, Ctx.kr, Chg.dead, strip, keepJ, sNx, bor, borL, okM, okB, rootsM]
  · simp [runF, eAnd, sExpr, tNotT, chgs, initC, inits, locks, boxD, sSeq, sIf, sSetI, sSet, sRet, sExpr, tOfE, tTru, tNotT, tAndT, tOrT, truth, eOp, eArgs, eN, eC, eIx, eMv, eCall, lockE, unlockE, unlocks, valsOf, val, getP, noOwn, noOwnL, ixAt, ixN, fGt, fGe, fLt, fLe, fOr, fII, gB, gMod, gDiv, gSub, gMul, okDiv, okMul_mod, fCatS, fInt1, nodeAt, fSetL, mutAt, Mut.ok, setJs, lkOk, chgOf, updC, updS, setP, pick, outs, noBor, noBorL, dropAl, Ctx.kr, Chg.dead, strip, keepJ, sNx, bor, borL, okM, okB, rootsM]
theorem twins_is (a b c : Int) (x y w : List Nat) (hj : isj x y w = true) : ∃ a' b', F__law_twins [(.nd .lst .own [.int a, .int b, .int c]), T3 x y w] = .ret (.bl true) [(.nd .lst .own [.int a', .int b', .int c])] := by
  obtain ⟨r, a1, b1, e1, h1, h2⟩ := takeX a b c 5 (by omega) (by decide)
  have k1 : sSet 2 (eN 1) (initC [true, false] 7 [(.nd .lst .own [.int a, .int b, .int c]), T3 x y w]) = .nx ⟨[.v (.nd .lst .own [.int a, .int b, .int c]), .v (T3 x y w), .v (T3 x y w), .no, .no, .no, .no, .no, .no], [(0, [])]⟩ := by
    simp [runF, eAnd, sExpr, tNotT, chgs, initC, inits, locks, boxD, sSeq, sIf, sSetI, sSet, sRet, sExpr, tOfE, tTru, tNotT, tAndT, tOrT, truth, eOp, eArgs, eN, eC, eIx, eMv, eCall, lockE, unlockE, unlocks, valsOf, val, getP, noOwn, noOwnL, ixAt, ixN, fGt, fGe, fLt, fLe, fOr, fII, gB, gMod, gDiv, gSub, gMul, okDiv, okMul_mod, fCatS, fInt1, nodeAt, fSetL, mutAt, Mut.ok, setJs, lkOk, chgOf, updC, updS, setP, pick, outs, noBor, noBorL, dropAl, Ctx.kr, Chg.dead, strip, keepJ, sNx, bor, borL, okM, okB, rootsM]
  have k2 : sSet 3 (eCall [true, false] F__law_take [eN 0, eC (.int 5)] []) ⟨[.v (.nd .lst .own [.int a, .int b, .int c]), .v (T3 x y w), .v (T3 x y w), .no, .no, .no, .no, .no, .no], [(0, [])]⟩ = .nx (TC a1 b1 c (T3 x y w) (T3 x y w) r .no .no .no) := by
    simp [TC, e1, runF, eAnd, sExpr, tNotT, chgs, initC, inits, locks, boxD, sSeq, sIf, sSetI, sSet, sRet, sExpr, tOfE, tTru, tNotT, tAndT, tOrT, truth, eOp, eArgs, eN, eC, eIx, eMv, eCall, lockE, unlockE, unlocks, valsOf, val, getP, noOwn, noOwnL, ixAt, ixN, fGt, fGe, fLt, fLe, fOr, fII, gB, gMod, gDiv, gSub, gMul, okDiv, okMul_mod, fCatS, fInt1, nodeAt, fSetL, mutAt, Mut.ok, setJs, lkOk, chgOf, updC, updS, setP, pick, outs, noBor, noBorL, dropAl, Ctx.kr, Chg.dead, strip, keepJ, sNx, bor, borL, okM, okB, rootsM]
  have nn : Pl .no := .inl rfl
  have vv (d : D) : Pl (.v d) := .inr ⟨d, rfl⟩
  obtain ⟨w1, p1, q1, k3, hj1⟩ := tw1 a1 b1 c r x y w hj
  rw [F__law_twins, runF_is rfl, m__law_twins, seq_nx k1, seq_nx k2, seq_nx k3]
  by_cases g2 : r = 2
  · subst g2
    obtain ⟨x2, y2, w2, p2, q2, d4, d5, k4, hj2⟩ := tw2 p1 q1 c x y w x y w1 hj
    obtain ⟨cc, ke, ko⟩ := tw_end p2 q2 c 2 x y w x2 y2 w2 _ _ _ (vv d4) (vv d5) nn hj hj2
    rw [seq_nx k4, seq_nx (skip 3 _ _ _ _ _ _ _ _ _ _ (by decide)), seq_nx (skip 4 _ _ _ _ _ _ _ _ _ _ (by decide)), ke]
    exact ⟨p2, q2, by simp [finR, ko, runF, eAnd, sExpr, tNotT, chgs, initC, inits, locks, boxD, sSeq, sIf, sSetI, sSet, sRet, sExpr, tOfE, tTru, tNotT, tAndT, tOrT, truth, eOp, eArgs, eN, eC, eIx, eMv, eCall, lockE, unlockE, unlocks, valsOf, val, getP, noOwn, noOwnL, ixAt, ixN, fGt, fGe, fLt, fLe, fOr, fII, gB, gMod, gDiv, gSub, gMul, okDiv, okMul_mod, fCatS, fInt1, nodeAt, fSetL, mutAt, Mut.ok, setJs, lkOk, chgOf, updC, updS, setP, pick, outs, noBor, noBorL, dropAl, Ctx.kr, Chg.dead, strip, keepJ, sNx, bor, borL, okM, okB, rootsM]⟩
  rw [seq_nx (skip 2 _ _ _ _ _ _ _ _ _ _ g2)]
  by_cases g3 : r = 3
  · subst g3
    obtain ⟨x2, y2, w2, p2, q2, d4, d6, k4, hj2⟩ := tw3 p1 q1 c x y w x y w1 hj
    obtain ⟨cc, ke, ko⟩ := tw_end p2 q2 c 3 x y w x2 y2 w2 _ _ _ (vv d4) nn (vv d6) hj hj2
    rw [seq_nx k4, seq_nx (skip 4 _ _ _ _ _ _ _ _ _ _ (by decide)), ke]
    exact ⟨p2, q2, by simp [finR, ko, runF, eAnd, sExpr, tNotT, chgs, initC, inits, locks, boxD, sSeq, sIf, sSetI, sSet, sRet, sExpr, tOfE, tTru, tNotT, tAndT, tOrT, truth, eOp, eArgs, eN, eC, eIx, eMv, eCall, lockE, unlockE, unlocks, valsOf, val, getP, noOwn, noOwnL, ixAt, ixN, fGt, fGe, fLt, fLe, fOr, fII, gB, gMod, gDiv, gSub, gMul, okDiv, okMul_mod, fCatS, fInt1, nodeAt, fSetL, mutAt, Mut.ok, setJs, lkOk, chgOf, updC, updS, setP, pick, outs, noBor, noBorL, dropAl, Ctx.kr, Chg.dead, strip, keepJ, sNx, bor, borL, okM, okB, rootsM]⟩
  rw [seq_nx (skip 3 _ _ _ _ _ _ _ _ _ _ g3)]
  by_cases g4 : r = 4
  · subst g4
    obtain ⟨x2, y2, w2, p2, q2, e5, hj2⟩ := good_is p1 q1 c
    have k4 : sIf (tOfE (eOp fEq [eN 3, eC (.int 4)])) (sSet 2 (eCall [true] F__law_good [eN 0] [])) (sNx) (TC p1 q1 c (T3 x y w) (T3 x y w1) 4 .no .no .no) = .nx (TC p2 q2 c (T3 x y w) (T3 x2 y2 w2) 4 .no .no .no) := by
      simp [TC, e5, fEq, eqS, fB2, runF, eAnd, sExpr, tNotT, chgs, initC, inits, locks, boxD, sSeq, sIf, sSetI, sSet, sRet, sExpr, tOfE, tTru, tNotT, tAndT, tOrT, truth, eOp, eArgs, eN, eC, eIx, eMv, eCall, lockE, unlockE, unlocks, valsOf, val, getP, noOwn, noOwnL, ixAt, ixN, fGt, fGe, fLt, fLe, fOr, fII, gB, gMod, gDiv, gSub, gMul, okDiv, okMul_mod, fCatS, fInt1, nodeAt, fSetL, mutAt, Mut.ok, setJs, lkOk, chgOf, updC, updS, setP, pick, outs, noBor, noBorL, dropAl, Ctx.kr, Chg.dead, strip, keepJ, sNx, bor, borL, okM, okB, rootsM]
    obtain ⟨cc, ke, ko⟩ := tw_end p2 q2 c 4 x y w x2 y2 w2 _ _ _ nn nn nn hj hj2
    rw [seq_nx k4, ke]
    exact ⟨p2, q2, by simp [finR, ko, runF, eAnd, sExpr, tNotT, chgs, initC, inits, locks, boxD, sSeq, sIf, sSetI, sSet, sRet, sExpr, tOfE, tTru, tNotT, tAndT, tOrT, truth, eOp, eArgs, eN, eC, eIx, eMv, eCall, lockE, unlockE, unlocks, valsOf, val, getP, noOwn, noOwnL, ixAt, ixN, fGt, fGe, fLt, fLe, fOr, fII, gB, gMod, gDiv, gSub, gMul, okDiv, okMul_mod, fCatS, fInt1, nodeAt, fSetL, mutAt, Mut.ok, setJs, lkOk, chgOf, updC, updS, setP, pick, outs, noBor, noBorL, dropAl, Ctx.kr, Chg.dead, strip, keepJ, sNx, bor, borL, okM, okB, rootsM]⟩
  · obtain ⟨cc, ke, ko⟩ := tw_end p1 q1 c r x y w x y w1 _ _ _ nn nn nn hj hj1
    rw [seq_nx (skip 4 _ _ _ _ _ _ _ _ _ _ g4), ke]
    exact ⟨p1, q1, by simp [finR, ko, runF, eAnd, sExpr, tNotT, chgs, initC, inits, locks, boxD, sSeq, sIf, sSetI, sSet, sRet, sExpr, tOfE, tTru, tNotT, tAndT, tOrT, truth, eOp, eArgs, eN, eC, eIx, eMv, eCall, lockE, unlockE, unlocks, valsOf, val, getP, noOwn, noOwnL, ixAt, ixN, fGt, fGe, fLt, fLe, fOr, fII, gB, gMod, gDiv, gSub, gMul, okDiv, okMul_mod, fCatS, fInt1, nodeAt, fSetL, mutAt, Mut.ok, setJs, lkOk, chgOf, updC, updS, setP, pick, outs, noBor, noBorL, dropAl, Ctx.kr, Chg.dead, strip, keepJ, sNx, bor, borL, okM, okB, rootsM]⟩
end K03
end Lc
end
section
set_option Elab.async false
set_option linter.all false
set_option maxRecDepth 100000
set_option maxHeartbeats 4000000
namespace Lc
open PySem L2
theorem for_step {t : Tg} {body : Ctx → SR} {x : D} {xs : List D} {c c1 c2 : Ctx} (h1 : bindT t x c = some c1) (h2 : body c1 = .nx c2) : forLoop t body (x :: xs) c = forLoop t body xs c2 := by
  rw [forLoop, h1]
  dsimp only
  rw [h2]
namespace K03
def LC (ns : List Int) (i : Int) (s2 s3 s4 : Sl) : Ctx := ⟨[.v (scrD ns), .v (.int i), s2, s3, s4], []⟩
def bodyL : Ctx → SR := sSeq (sSet 2 (eCall [false, false] F__law_box [eN 0, eN 1] [])) (sSeq (sIf (tNotT (tTru (eCall [false, false] F__law_class_asked [eCall [true] F__law_drawn [eN 2] [], eCall [true, false] F__law_take [eN 2, eC (.int 3)] []] []))) (sRet (eC (.bl false))) (sNx)) (sSeq (sSet 2 (eCall [false, false] F__law_box [eN 0, eOp fAdd [eC (.int 2), eN 1]] [])) (sSeq (sSet 3 (eCall [true] F__law_good [eN 2] [])) (sSeq (sIf (tOrT (tNotT (tTru (eCall [false] F__law_read_asked [eCall [false] F__law_written [eN 3] []] []))) (tNotT (tTru (eCall [true, false] F__law_twins [eN 2, eN 3] [])))) (sRet (eC (.bl false))) (sNx)) (sSeq (sSet 4 (eCall [true, false] F__law_bend [eN 2, eCall [false] F__law_written [eN 3] []] [])) (sSeq (sIf (tOfE (eOp fEq [eCall [true, false] F__law_take [eN 2, eC (.int 3)] [], eC (.int 1)])) (sSet 4 (eCall [true, false] F__law_bend [eN 2, eN 4] [])) (sNx)) (sIf (tNotT (tTru (eCall [false] F__law_read_asked [eN 4] []))) (sRet (eC (.bl false))) (sNx))))))))
theorem body_is (ns : List Int) (hn : ns.length ≤ 63) (i : Int) (h0 : 0 ≤ i) (h1 : i < 2) (s2 s3 s4 : Sl) (h2 : Pl s2) (h3 : Pl s3) (h4 : Pl s4) : ∃ d2 d3 d4, bodyL (LC ns i s2 s3 s4) = .nx (LC ns i (.v d2) (.v d3) (.v d4)) := by
  obtain ⟨a, c, b1⟩ := box_is ns i hn h0 (by omega)
  obtain ⟨x, y, w, a1, q1, e1, hx, hy⟩ := drawn_is a 0 c
  obtain ⟨f, a2, q2, e2, _, _⟩ := takeX a1 q1 c 3 (by omega) (by decide)
  have e3 := cls_is x y w f hx hy
  obtain ⟨m, n, b2⟩ := box_is ns (2 + i) hn (by omega) (by omega)
  obtain ⟨x2, y2, w2, m1, o1, e4, hj⟩ := good_is m 0 n
  have e5 := written_is x2 y2 w2 hj
  have hb := written_as hj
  have e6 := rasked_is _ (hb.as (by omega))
  obtain ⟨m2, o2, e7⟩ := twins_is m1 o1 n x2 y2 w2 hj
  obtain ⟨t, m3, o3, e8, ht⟩ := bend_is m2 o2 n 9 _ hb (by omega)
  obtain ⟨r, m4, o4, e9, _, _⟩ := takeX m3 o3 n 3 (by omega) (by decide)
  generalize x2 ++ (sg w2 ++ y2) = t0 at *
  rw [scrD, boxD] at b1 b2
  by_cases g : r = 1
  · obtain ⟨u, m5, o5, e10, hu⟩ := bend_is m4 o4 n 20 t ht (by omega)
    have e11 := rasked_is u (hu.as (by omega))
    refine ⟨(.nd .lst .own [.int m5, .int o5, .int n]), T3 x2 y2 w2, .str u, ?_⟩
    rcases h2 with rfl | ⟨_, rfl⟩ <;> rcases h3 with rfl | ⟨_, rfl⟩ <;> rcases h4 with rfl | ⟨_, rfl⟩ <;>
      simp [bodyL, LC, scrD, borL_ints, noOwn_ints, b1, e1, e2, e3, b2, e4, e5, e6, e7, e8, e9, g, e10, e11, fAdd_ii, fEq, eqS, fB2, runF, eAnd, sExpr, tNotT, chgs, initC, inits, locks, boxD, sSeq, sIf, sSetI, sSet, sRet, sExpr, tOfE, tTru, tNotT, tAndT, tOrT, truth, eOp, eArgs, eN, eC, eIx, eMv, eCall, lockE, unlockE, unlocks, valsOf, val, getP, noOwn, noOwnL, ixAt, ixN, fGt, fGe, fLt, fLe, fOr, fII, gB, gMod, gDiv, gSub, gMul, okDiv, okMul_mod, fCatS, fInt1, nodeAt, fSetL, mutAt, Mut.ok, setJs, lkOk, chgOf, updC, updS, setP, pick, outs, noBor, noBorL, dropAl, Ctx.kr, Chg.dead, strip, keepJ, sNx, bor, borL, okM, okB, rootsM]
  · have e11 := rasked_is t (ht.as (by omega))
    refine ⟨(.nd .lst .own [.int m4, .int o4, .int n]), T3 x2 y2 w2, .str t, ?_⟩
    rcases h2 with rfl | ⟨_, rfl⟩ <;> rcases h3 with rfl | ⟨_, rfl⟩ <;> rcases h4 with rfl | ⟨_, rfl⟩ <;>
      simp [bodyL, LC, scrD, borL_ints, noOwn_ints, b1, e1, e2, e3, b2, e4, e5, e6, e7, e8, e9, g, e11, fAdd_ii, fEq, eqS, fB2, runF, eAnd, sExpr, tNotT, chgs, initC, inits, locks, boxD, sSeq, sIf, sSetI, sSet, sRet, sExpr, tOfE, tTru, tNotT, tAndT, tOrT, truth, eOp, eArgs, eN, eC, eIx, eMv, eCall, lockE, unlockE, unlocks, valsOf, val, getP, noOwn, noOwnL, ixAt, ixN, fGt, fGe, fLt, fLe, fOr, fII, gB, gMod, gDiv, gSub, gMul, okDiv, okMul_mod, fCatS, fInt1, nodeAt, fSetL, mutAt, Mut.ok, setJs, lkOk, chgOf, updC, updS, setP, pick, outs, noBor, noBorL, dropAl, Ctx.kr, Chg.dead, strip, keepJ, sNx, bor, borL, okM, okB, rootsM]
end K03
end Lc
open PySem L2 Lc Lc.K03 in
theorem Lc.K03.plain (ns : List Int) (h : ns.length ≤ 63) : ∃ os, Lc.K03.F_law [Lc.scrD ns] = .ret (.bl true) os := by
  have nn : Pl .no := .inl rfl
  have vv (d : D) : Pl (.v d) := .inr ⟨d, rfl⟩
  obtain ⟨p2, p3, p4, k1⟩ := body_is ns h 0 (by omega) (by omega) _ _ _ nn nn nn
  obtain ⟨r2, r3, r4, k2⟩ := body_is ns h 1 (by omega) (by omega) _ _ _ (vv p2) (vv p3) (vv p4)
  obtain ⟨m, n, b⟩ := box_is ns 4 h (by omega) (by omega)
  obtain ⟨u, m1, o1, e1, hu⟩ := loose_is m 0 n 12 (by omega)
  have e2 := rasked_is u (hu.as (by omega))
  rw [show ((12 : Nat) : Int) = 12 from rfl] at e1
  have f1 : fR1 [.int 2] = some [.int 0, .int 1] := by rfl
  have i1 : itA fR1 [eC (.int 2)] (initC [false] 4 [scrD ns]) = .ok [.int 0, .int 1] (initC [false] 4 [scrD ns]) := itA_is rfl f1
  have t1 : bindT (.n 1) (.int 0) (initC [false] 4 [scrD ns]) = some (LC ns 0 .no .no .no) := by
    simp [bindT, LC, scrD, borL_ints, noOwn_ints, runF, eAnd, sExpr, tNotT, chgs, initC, inits, locks, boxD, sSeq, sIf, sSetI, sSet, sRet, sExpr, tOfE, tTru, tNotT, tAndT, tOrT, truth, eOp, eArgs, eN, eC, eIx, eMv, eCall, lockE, unlockE, unlocks, valsOf, val, getP, noOwn, noOwnL, ixAt, ixN, fGt, fGe, fLt, fLe, fOr, fII, gB, gMod, gDiv, gSub, gMul, okDiv, okMul_mod, fCatS, fInt1, nodeAt, fSetL, mutAt, Mut.ok, setJs, lkOk, chgOf, updC, updS, setP, pick, outs, noBor, noBorL, dropAl, Ctx.kr, Chg.dead, strip, keepJ, sNx, bor, borL, okM, okB, rootsM]
  have t2 : bindT (.n 1) (.int 1) (LC ns 0 (.v p2) (.v p3) (.v p4)) = some (LC ns 1 (.v p2) (.v p3) (.v p4)) := by
    simp [bindT, LC, scrD, borL_ints, noOwn_ints, runF, eAnd, sExpr, tNotT, chgs, initC, inits, locks, boxD, sSeq, sIf, sSetI, sSet, sRet, sExpr, tOfE, tTru, tNotT, tAndT, tOrT, truth, eOp, eArgs, eN, eC, eIx, eMv, eCall, lockE, unlockE, unlocks, valsOf, val, getP, noOwn, noOwnL, ixAt, ixN, fGt, fGe, fLt, fLe, fOr, fII, gB, gMod, gDiv, gSub, gMul, okDiv, okMul_mod, fCatS, fInt1, nodeAt, fSetL, mutAt, Mut.ok, setJs, lkOk, chgOf, updC, updS, setP, pick, outs, noBor, noBorL, dropAl, Ctx.kr, Chg.dead, strip, keepJ, sNx, bor, borL, okM, okB, rootsM]
  have lp : sFor (itA fR1 [eC (.int 2)]) (.n 1) bodyL (initC [false] 4 [scrD ns]) = .nx (LC ns 1 (.v r2) (.v r3) (.v r4)) := by
    rw [sFor, i1]
    dsimp only
    rw [for_step t1 k1, for_step t2 k2, forLoop]
  refine ⟨[], ?_⟩
  have em : m_law = sSeq (sFor (itA fR1 [eC (.int 2)]) (.n 1) bodyL) (sRet (eCall [false] F__law_read_asked [eCall [true, false] F__law_loose [eCall [false, false] F__law_box [eN 0, eC (.int 4)] [], eC (.int 12)] []] [])) := rfl
  rw [F_law, runF_is rfl, em, seq_nx lp]
  rw [scrD, boxD] at b
  simp [LC, scrD, borL_ints, noOwn_ints, b, e1, e2, finR, runF, eAnd, sExpr, tNotT, chgs, initC, inits, locks, boxD, sSeq, sIf, sSetI, sSet, sRet, sExpr, tOfE, tTru, tNotT, tAndT, tOrT, truth, eOp, eArgs, eN, eC, eIx, eMv, eCall, lockE, unlockE, unlocks, valsOf, val, getP, noOwn, noOwnL, ixAt, ixN, fGt, fGe, fLt, fLe, fOr, fII, gB, gMod, gDiv, gSub, gMul, okDiv, okMul_mod, fCatS, fInt1, nodeAt, fSetL, mutAt, Mut.ok, setJs, lkOk, chgOf, updC, updS, setP, pick, outs, noBor, noBorL, dropAl, Ctx.kr, Chg.dead, strip, keepJ, sNx, bor, borL, okM, okB, rootsM]
end
section
set_option Elab.async false
set_option linter.all false
set_option maxRecDepth 100000
set_option maxHeartbeats 0
open PySem PySem.W PySem.Calls PyProof.Rows
theorem PySem.Challenge.cw_leapcard_k03_jumps_checked_and_written_holds : PySem.Challenge.rw_leapcard_k03_jumps_checked_and_written.Holds := by
  w_on; o_law
  refine HandSHeadRun.head_any (r := OpenLaw.row PySem.Challenge.rw_leapcard_k03_jumps_checked_and_written) (q := view (OpenLaw.row PySem.Challenge.rw_leapcard_k03_jumps_checked_and_written).prog [42]) (H := Lc.K03.hk) (ob := Lc.K03.ob) (M := 6000) (loose := Lc.K03.loose) (d := HandSHeadRun.topDef (OpenLaw.row PySem.Challenge.rw_leapcard_k03_jumps_checked_and_written).prog 42) (kwd := []) Lc.K03.ob_eq
    (by kernel_rfl) (fun s => by kernel_rfl) Lc.K03.run (by kernel_rfl) (by kernel_rfl) (by kernel_rfl) (by rfl) (by first | assumption | decide +kernel) (by decide +kernel) ⟨rfl, rfl, rfl, rfl, rfl, by decide +kernel⟩ ?hw ?hc
  case hw => w_witness2
  case hc =>
    refine Lc.walk_ofL (l := PySem.Challenge.rw_leapcard_k03_jumps_checked_and_written) (n := 63) (k := 8) (x := "script") rfl (by rw [sizeLine_eq]; decide) (by kernel_rfl) ⟨rfl, by decide, by decide⟩ ?_
    intro w mg fa h Y G hmg0
    obtain ⟨K, KX, c⟩ := Y
    have hmg : mg ("law" : PySem.Str) = some (.ref fa) := by
      have e : (HandSHeadRun.topDef (OpenLaw.row PySem.Challenge.rw_leapcard_k03_jumps_checked_and_written).prog 42).name = ("law" : PySem.Str) := by kernel_rfl
      rw [← e]
      exact hmg0
    obtain ⟨fd, hb, hF⟩ := Lc.K03.ends (w := w) KX G hmg c
    refine ⟨K, fd, _, KX, hb, fun H a ns hl _ hS => ?_, hF⟩
    obtain ⟨os, e⟩ := Lc.K03.plain ns hl
    exact Lc.law_sp e hS
end
