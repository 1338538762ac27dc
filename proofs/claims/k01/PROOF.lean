import PyProof.Rows.All
import Wide.All
import OpenK.AllK
import Wide.FinOn
import HandS.ForMost
import HandS.ForExc
import HandS.Wide
import HandS.Zip
import HandS.RevRange
import HandS.Rev
import HandS.Defaults
import HandS.MakeKw
import HandS.IsInst
import HandS.Flow
import HandS.ExcValue
import HandS.ExcInit
import HandS.ExcIs
import HandS.ExcField
import HandS.RaiseMore
import KE.KExcStr
import HandS.EndTab
import HandS.HeadWalk
import HandS.HeadHook4
import HandS.TupAny
import HandS.CallSlots
import HandS.Comp
import HandS.TryOnly
import HandS.OwnEq
import KE.KFmtOwn
import HandS.ClsMeth
import KE.KExcIs
import HandS.SortInts
import HandS.SetFor
import KE.GoesEnum
import KE.GoesMore
import KE.KRevSl
import KE.KTupSum
import HandS.Conv
import HandS.CallLocal
import PyProof.ListMulRoad
import PyProof.FactsAll.tuple_2
import HandS.TupMul
import KE.KLam
import KE.SortKeyHeap
import HandS.EndOwn
import KE.DataMinMax
import HandS.TupSets
import PyProof.ReprRoads
import PySem.Challenge.RW_rillweb_k01_shares_reckoned
set_option Elab.async false
set_option linter.all false
set_option maxRecDepth 100000
set_option autoImplicit false
/-! R1: values as trees, a pool of lists and objects that may still change, what a heap has of them -/
namespace R
open PySem L2

inductive PV where
  | non | bl (b : Bool) | int (i : Int) | str (s : Str)
  | tup (xs : List PV) | lst (xs : List PV) | obj (c : Nat) (xs : List PV) | own (k : Nat)
  /-- a list of numbers that is only read: the script -/
  | scr (ns : List Int)
  /-- an own exception that has a text; one that has a field -/
  | xs (c : Nat) (t : Str) | xv (c : Nat) (x : PV)
  /-- a def as a value: where it stands is told where the classes are -/
  | fn (k : Nat)

/-- the classes of the text: where each stands, the names of its instances' values, the name of the value that an exception keeps -/
structure Cfg where
  K : PySem.W.Frag
  cls : Nat → Addr
  fld : Nat → List Str
  exf : Nat → Str
  /-- tables of code objects: where each stands, the name of what it makes -/
  tabs : List (Addr × Str) := []

/-- what doesn't change any more; where the pool's cells stand -/
structure Wd where
  G : Hp
  ρ : List Addr
def Wd.le (w w' : Wd) : Prop := (∀ a o, w.G a = some o → w'.G a = some o) ∧ w.ρ <+: w'.ρ
theorem Wd.le.refl (w : Wd) : w.le w := ⟨fun _ _ h => h, List.prefix_refl _⟩
theorem Wd.le.trans {a b c : Wd} (h : a.le b) (k : b.le c) : a.le c := ⟨fun x o e => k.1 x o (h.1 x o e), h.2.trans k.2⟩

inductive Cell where
  | lst (xs : List PV) | obj (c : Nat) (xs : List PV) | dead
abbrev Pool := List Cell

/-- at a: an exception of class C, its arguments at t1 -/
def exT (C a t1 : Addr) : HO := .ext fun h => h.get? a = some ({ cls := .ref C, dict := none, data := .fields #[.ref t1, .none, .none, .none, .bool false, .none] } : Obj)
section
variable (Γ : Cfg) (w : Wd)
mutual
def Rep : PV → V → Prop
  | .non, v => v = .non
  | .bl b, v => v = .bl b
  | .int i, v => v = .int i
  | .str s, v => v = .str s
  | .tup xs, v => ∃ a vs, v = .ref a ∧ SqT Γ.K w.G a vs ∧ Reps xs vs
  | .lst xs, v => ∃ a vs, v = .ref a ∧ w.G a = some (.lst vs) ∧ Reps xs vs
  | .scr ns, v => ∃ a, v = .ref a ∧ SqL Γ.K w.G a (ns.map V.int)
  | .obj c xs, v => ∃ a dx vs, v = .ref a ∧ w.G a = some (.ins (Γ.cls c) dx ((Γ.fld c).zip vs)) ∧ w.G dx = some (.own a) ∧ vs.length = (Γ.fld c).length ∧ Reps xs vs
  | .own k, v => ∃ a, w.ρ[k]? = some a ∧ v = .ref a
  | .xs c t, v => ∃ a t1, v = .ref a ∧ w.G a = some (exT (Γ.cls c) a t1) ∧ w.G t1 = some (.tup [.str t])
  | .xv c x, v => ∃ a d u, v = .ref a ∧ w.G a = some (exo a (Γ.cls c) (some d)) ∧ w.G d = some (exd d [(Γ.exf c, u)]) ∧ Rep x u
  | .fn k, v => v = .ref (Γ.cls k)
def Reps : List PV → List V → Prop
  | [], vs => vs = []
  | x :: xs, vs => ∃ v r, vs = v :: r ∧ Rep x v ∧ Reps xs r
end
end

section
variable {Γ : Cfg} {w w' : Wd}
theorem seqL_mono {K : PySem.W.Frag} {H H' : Hp} {a : Addr} {xs : List V} (e : ∀ a o, H a = some o → H' a = some o) (h : SqL K H a xs) : SqL K H' a xs := by
  rcases h with (h | ⟨o, h⟩) | h
  · exact .inl (.inl (e _ _ h))
  · exact .inl (.inr ⟨o, e _ _ h⟩)
  · exact .inr h
theorem seqT_mono {K : PySem.W.Frag} {H H' : Hp} {a : Addr} {xs : List V} (e : ∀ a o, H a = some o → H' a = some o) (h : SqT K H a xs) : SqT K H' a xs := by
  rcases h with (h | ⟨o, h⟩) | h
  · exact .inl (.inl (e _ _ h))
  · exact .inl (.inr ⟨o, e _ _ h⟩)
  · exact .inr h
theorem pre_get {α : Type} {l l' : List α} (h : l <+: l') {k : Nat} {a : α} (e : l[k]? = some a) : l'[k]? = some a := by
  obtain ⟨t, rfl⟩ := h
  rw [List.getElem?_append_left (List.getElem?_eq_some_iff.mp e).1]
  exact e
mutual
theorem Rep.mono (l : w.le w') : ∀ {x : PV} {v : V}, Rep Γ w x v → Rep Γ w' x v
  | .non, _, h => h
  | .bl _, _, h => h
  | .int _, _, h => h
  | .str _, _, h => h
  | .tup xs, v, h => by
    obtain ⟨a, vs, e, s, r⟩ := h
    exact ⟨a, vs, e, seqT_mono l.1 s, Reps.mono l r⟩
  | .lst xs, v, h => by
    obtain ⟨a, vs, e, s, r⟩ := h
    exact ⟨a, vs, e, l.1 _ _ s, Reps.mono l r⟩
  | .scr ns, v, h => by
    obtain ⟨a, e, s⟩ := h
    exact ⟨a, e, seqL_mono l.1 s⟩
  | .obj c xs, v, h => by
    obtain ⟨a, dx, vs, e, g, d, n, r⟩ := h
    exact ⟨a, dx, vs, e, l.1 _ _ g, l.1 _ _ d, n, Reps.mono l r⟩
  | .own k, v, h => by
    obtain ⟨a, e, z⟩ := h
    exact ⟨a, pre_get l.2 e, z⟩
  | .xs c t, v, h => by
    obtain ⟨a, t1, e, g, g2⟩ := h
    exact ⟨a, t1, e, l.1 _ _ g, l.1 _ _ g2⟩
  | .xv c x, v, h => by
    obtain ⟨a, d, u, e, g, g2, r⟩ := h
    exact ⟨a, d, u, e, l.1 _ _ g, l.1 _ _ g2, Rep.mono l r⟩
  | .fn _, _, h => h
theorem Reps.mono (l : w.le w') : ∀ {xs : List PV} {vs : List V}, Reps Γ w xs vs → Reps Γ w' xs vs
  | [], _, h => h
  | x :: xs, vs, h => by
    obtain ⟨v, r, e, h1, h2⟩ := h
    exact ⟨v, r, e, Rep.mono l h1, Reps.mono l h2⟩
end
theorem Reps.nil : Reps Γ w [] [] := rfl
theorem Reps.cons {x : PV} {v : V} {xs : List PV} {vs : List V} (h : Rep Γ w x v) (r : Reps Γ w xs vs) : Reps Γ w (x :: xs) (v :: vs) := ⟨v, vs, rfl, h, r⟩
theorem Reps.length : ∀ {xs : List PV} {vs : List V}, Reps Γ w xs vs → xs.length = vs.length
  | [], vs, h => by
    rw [show vs = [] from h]
    rfl
  | x :: xs, vs, h => by
    obtain ⟨v, r, e, _, h2⟩ := h
    rw [e, List.length_cons, List.length_cons, Reps.length h2]
theorem Reps.get : ∀ {xs : List PV} {vs : List V} {i : Nat} {x : PV}, Reps Γ w xs vs → xs[i]? = some x → ∃ v, vs[i]? = some v ∧ Rep Γ w x v
  | [], _, _, _, _, e => by simp at e
  | x :: xs, vs, 0, y, h, e => by
    obtain ⟨v, r, rfl, h1, h2⟩ := h
    simp at e
    subst e
    exact ⟨v, rfl, h1⟩
  | x :: xs, vs, i + 1, y, h, e => by
    obtain ⟨v, r, rfl, h1, h2⟩ := h
    obtain ⟨u, e1, e2⟩ := Reps.get (i := i) h2 (by simpa using e)
    exact ⟨u, by simpa using e1, e2⟩
theorem Reps.getV : ∀ {xs : List PV} {vs : List V} {i : Nat} {v : V}, Reps Γ w xs vs → vs[i]? = some v → ∃ x, xs[i]? = some x ∧ Rep Γ w x v
  | [], vs, _, _, h, e => by
    rw [show vs = [] from h] at e
    simp at e
  | x :: xs, vs, 0, y, h, e => by
    obtain ⟨v, r, rfl, h1, h2⟩ := h
    simp at e
    subst e
    exact ⟨x, rfl, h1⟩
  | x :: xs, vs, i + 1, y, h, e => by
    obtain ⟨v, r, rfl, h1, h2⟩ := h
    obtain ⟨u, e1, e2⟩ := Reps.getV (i := i) h2 (by simpa using e)
    exact ⟨u, by simpa using e1, e2⟩
theorem Reps.append : ∀ {xs ys : List PV} {vs us : List V}, Reps Γ w xs vs → Reps Γ w ys us → Reps Γ w (xs ++ ys) (vs ++ us)
  | [], _, vs, _, h, k => by
    rw [show vs = [] from h]
    exact k
  | x :: xs, _, vs, _, h, k => by
    obtain ⟨v, r, rfl, h1, h2⟩ := h
    exact ⟨v, _, rfl, h1, Reps.append h2 k⟩
theorem Reps.set : ∀ {xs : List PV} {vs : List V} {i : Nat} {x : PV} {v : V}, Reps Γ w xs vs → Rep Γ w x v → Reps Γ w (xs.set i x) (vs.set i v)
  | [], vs, _, _, _, h, _ => by
    rw [show vs = [] from h]
    exact rfl
  | x :: xs, vs, 0, y, u, h, k => by
    obtain ⟨v, r, rfl, h1, h2⟩ := h
    exact ⟨u, _, rfl, k, h2⟩
  | x :: xs, vs, i + 1, y, u, h, k => by
    obtain ⟨v, r, rfl, h1, h2⟩ := h
    exact ⟨v, _, rfl, h1, Reps.set h2 k⟩
theorem Reps.take : ∀ {xs : List PV} {vs : List V} (n : Nat), Reps Γ w xs vs → Reps Γ w (xs.take n) (vs.take n)
  | xs, vs, 0, _ => by
    rw [List.take_zero, List.take_zero]
    exact rfl
  | [], vs, n + 1, h => by
    rw [show vs = [] from h]
    exact rfl
  | x :: xs, vs, n + 1, h => by
    obtain ⟨v, r, rfl, h1, h2⟩ := h
    exact ⟨v, _, rfl, h1, Reps.take n h2⟩
theorem Reps.drop : ∀ {xs : List PV} {vs : List V} (n : Nat), Reps Γ w xs vs → Reps Γ w (xs.drop n) (vs.drop n)
  | xs, vs, 0, h => h
  | [], vs, n + 1, h => by
    rw [show vs = [] from h]
    exact rfl
  | x :: xs, vs, n + 1, h => by
    obtain ⟨v, r, rfl, h1, h2⟩ := h
    exact Reps.drop n h2
theorem Reps.reverse : ∀ {xs : List PV} {vs : List V}, Reps Γ w xs vs → Reps Γ w xs.reverse vs.reverse
  | [], vs, h => by
    rw [show vs = [] from h]
    exact rfl
  | x :: xs, vs, h => by
    obtain ⟨v, r, rfl, h1, h2⟩ := h
    rw [List.reverse_cons, List.reverse_cons]
    exact Reps.append (Reps.reverse h2) (Reps.cons h1 Reps.nil)
theorem Reps.ints : ∀ {ns : List Int}, Reps Γ w (ns.map PV.int) (ns.map V.int)
  | [] => rfl
  | n :: ns => ⟨.int n, _, rfl, rfl, Reps.ints⟩
theorem Reps.ints_of : ∀ {ns : List Int} {vs : List V}, Reps Γ w (ns.map PV.int) vs → vs = ns.map V.int
  | [], vs, h => h
  | n :: ns, vs, h => by
    obtain ⟨v, r, rfl, h1, h2⟩ := h
    rw [show v = V.int n from h1, Reps.ints_of h2]
    rfl
end

/-! ### cells -/
/-- an object that a cell may stand for: no dict of an instance, no table, nothing of another kind -/
def Common (o : HO) : Prop := (∀ x, o ≠ .own x) ∧ (∀ ps, o ≠ .tbl ps) ∧ ∀ φ, o ≠ .ext φ
theorem Common.lst {vs : List V} : Common (.lst vs) := ⟨fun _ z => (nomatch z), fun _ z => (nomatch z), fun _ z => (nomatch z)⟩
theorem Common.ins {C dx : Addr} {fs : List (Str × V)} : Common (.ins C dx fs) := ⟨fun _ z => (nomatch z), fun _ z => (nomatch z), fun _ z => (nomatch z)⟩
/-- what stays: tables and what is told of single objects -/
theorem tabs_step {T : List (Addr × Str)} {H H' : Hp} (t : LamX.Tabs T H) (k : ∀ b o, H b = some o → ((∃ ps, o = .tbl ps) ∨ ∃ φ, o = .ext φ) → H' b = some o) : LamX.Tabs T H' := fun p hp => by
  obtain ⟨ps, h1, h2, h3⟩ := t p hp
  refine ⟨ps, k _ _ h1 (.inl ⟨_, rfl⟩), h2, fun pos cv hc => ?_⟩
  obtain ⟨c, e1, e2⟩ := h3 pos cv hc
  exact ⟨c, e1, k _ _ e2 (.inr ⟨_, rfl⟩)⟩
def CellR (Γ : Cfg) (w : Wd) (H : Hp) : Cell → Addr → Prop
  | .lst xs, a => w.G a = none ∧ ∃ vs, H a = some (.lst vs) ∧ Reps Γ w xs vs
  | .obj c xs, a => w.G a = none ∧ ∃ dx vs, H a = some (.ins (Γ.cls c) dx ((Γ.fld c).zip vs)) ∧ H dx = some (.own a) ∧ w.G dx = none ∧ vs.length ≤ (Γ.fld c).length ∧ Reps Γ w xs vs
  | .dead, a => ∃ o, H a = some o ∧ Common o
theorem CellR.there {Γ : Cfg} {w : Wd} {H : Hp} {c : Cell} {a : Addr} (h : CellR Γ w H c a) : ∃ o, H a = some o ∧ Common o := by
  cases c with
  | lst xs =>
    obtain ⟨_, vs, e, _⟩ := h
    exact ⟨_, e, .lst⟩
  | obj c fs =>
    obtain ⟨_, dx, vs, e, _⟩ := h
    exact ⟨_, e, .ins⟩
  | dead => exact h

/-- b: how many cells are the callers'; lo: a callers' cell leans on so many first cells alone -/
structure Lv where
  b : Nat
  lo : Nat → Option Nat
/-- what a cell may lean on -/
def Wd.low (w : Wd) : Option Nat → Wd
  | none => w
  | some m => ⟨w.G, w.ρ.take m⟩
theorem Wd.low_le (w : Wd) (m : Option Nat) : (w.low m).le w := by
  cases m with
  | none => exact Wd.le.refl w
  | some m => exact ⟨fun _ _ h => h, List.take_prefix _ _⟩
theorem Wd.low_G {w : Wd} {m : Option Nat} : (w.low m).G = w.G := by
  cases m <;> rfl

structure SimP (Γ : Cfg) (L : Lv) (w : Wd) (p : Pool) (H : Hp) : Prop where
  sub : ∀ a o, w.G a = some o → H a = some o
  len : w.ρ.length = p.length
  nd : w.ρ.Nodup
  hb : L.b ≤ p.length
  hlo : ∀ k, L.b ≤ k → L.lo k = none
  hm : ∀ k m, L.lo k = some m → m ≤ p.length
  cell : ∀ (k : Nat) c a, p[k]? = some c → w.ρ[k]? = some a → CellR Γ (w.low (L.lo k)) H c a
  nt : ∀ a ps, w.G a ≠ some (.tbl ps)
  tb : LamX.Tabs Γ.tabs H

section
variable {Γ : Cfg} {L : Lv} {w w' : Wd} {p : Pool} {H H' : Hp}
theorem SimP.at (S : SimP Γ L w p H) {k : Nat} {c : Cell} (h : p[k]? = some c) : ∃ a, w.ρ[k]? = some a ∧ CellR Γ (w.low (L.lo k)) H c a := by
  have hk : k < w.ρ.length := by
    rw [S.len]
    exact (List.getElem?_eq_some_iff.mp h).1
  exact ⟨w.ρ[k], List.getElem?_eq_getElem hk, S.cell k c _ h (List.getElem?_eq_getElem hk)⟩
theorem SimP.live (S : SimP Γ L w p H) {a : Addr} (h : a ∈ w.ρ) : ∃ o, H a = some o ∧ Common o := by
  obtain ⟨k, hk, e⟩ := List.getElem_of_mem h
  have hp : k < p.length := by
    rw [← S.len]
    exact hk
  exact (S.cell k p[k] a (List.getElem?_eq_getElem hp) (by rw [List.getElem?_eq_getElem hk, e])).there
theorem CellR.step {c : Cell} {a : Addr} (h : CellR Γ w H c a) (l : w.le w') (hn : ∀ b, H b ≠ none → w.G b = none → w'.G b = none) (hh : ∀ b o, H b = some o → H' b = some o) : CellR Γ w' H' c a := by
  cases c with
  | lst xs =>
    obtain ⟨g, vs, e, r⟩ := h
    exact ⟨hn a (by rw [e]; exact fun z => nomatch z) g, vs, hh _ _ e, Reps.mono l r⟩
  | obj c fs =>
    obtain ⟨g, dx, vs, e, d, gd, n, r⟩ := h
    exact ⟨hn a (by rw [e]; exact fun z => nomatch z) g, dx, vs, hh _ _ e, hh _ _ d, hn dx (by rw [d]; exact fun z => nomatch z) gd, n, Reps.mono l r⟩
  | dead =>
    obtain ⟨o, e, z⟩ := h
    exact ⟨o, hh _ _ e, z⟩
/-- a cell off its address -/
theorem CellR.same {c : Cell} {a : Addr} (h : CellR Γ w H c a) (ha : H' a = H a) (hd : ∀ dx, H dx = some (.own a) → H' dx = some (.own a)) : CellR Γ w H' c a := by
  cases c with
  | lst xs =>
    obtain ⟨g, vs, e, r⟩ := h
    exact ⟨g, vs, ha.trans e, r⟩
  | obj c fs =>
    obtain ⟨g, dx, vs, e, d, gd, n, r⟩ := h
    exact ⟨g, dx, vs, ha.trans e, hd _ d, gd, n, r⟩
  | dead =>
    obtain ⟨o, e, z⟩ := h
    exact ⟨o, ha.trans e, z⟩
/-- a new object that doesn't change any more -/
def Wd.add (w : Wd) (q : Addr) (o : HO) : Wd := ⟨upd w.G q o, w.ρ⟩
theorem SimP.free (S : SimP Γ L w p H) {q : Addr} (h : H q = none) : w.G q = none := by
  cases e : w.G q with
  | none => rfl
  | some o =>
    rw [S.sub q o e] at h
    cases h
theorem up_new {H : Hp} {q : Addr} {o : HO} (h : H q = none) : ∀ b u, H b = some u → upd H q o b = some u := fun b u e => by
  rw [upd_ne (ne_of_none e h)]
  exact e
theorem SimP.le_add (S : SimP Γ L w p H) {q : Addr} {o : HO} (h : H q = none) : w.le (w.add q o) := ⟨up_new (S.free h), List.prefix_refl _⟩
theorem low_le_low {w w' : Wd} {m : Option Nat} (l : w.le w') (hb : ∀ n, m = some n → n ≤ w.ρ.length) : (w.low m).le (w'.low m) := by
  cases m with
  | none => exact l
  | some m =>
    refine ⟨l.1, ?_⟩
    obtain ⟨t, e⟩ := l.2
    show w.ρ.take m <+: w'.ρ.take m
    rw [← e, List.take_append_of_le_length (hb m rfl)]
    exact List.prefix_refl _
theorem SimP.lows (S : SimP Γ L w p H) (l : w.le w') (k : Nat) : (w.low (L.lo k)).le (w'.low (L.lo k)) := low_le_low l fun n e => by
  rw [S.len]
  exact S.hm k n e
theorem SimP.new (S : SimP Γ L w p H) {q : Addr} {o : HO} (h : H q = none) (no : ∀ ps, o ≠ .tbl ps := by intro _ z; cases z) : SimP Γ L (w.add q o) p (upd H q o) := by
  refine ⟨fun a u e => ?_, S.len, S.nd, S.hb, S.hlo, S.hm, fun k c a hc ha => ?_, fun a ps e => ?_, S.tb.ext (up_new h)⟩
  · by_cases ea : a = q
    · subst ea
      have e' : upd w.G a o a = some u := e
      rw [upd_same] at e'
      rw [upd_same]
      exact e'
    · have e' : upd w.G q o a = some u := e
      rw [upd_ne ea] at e'
      rw [upd_ne ea]
      exact S.sub a u e'
  · refine (S.cell k c a hc ha).step (S.lows (S.le_add h) k) (fun d hb g => ?_) (up_new h)
    rw [Wd.low_G] at g ⊢
    show upd w.G q o d = none
    rw [upd_ne (fun z => hb (by rw [z]; exact h))]
    exact g
  · have e : upd w.G q o a = some (.tbl ps) := e
    by_cases ea : a = q
    · rw [ea, upd_same] at e
      exact no ps (Option.some.inj e)
    · rw [upd_ne ea] at e
      exact S.nt a ps e
theorem add_at {w : Wd} {q : Addr} {o : HO} : (w.add q o).G q = some o := upd_same
/-- a new cell -/
def Wd.cell (w : Wd) (q : Addr) : Wd := ⟨w.G, w.ρ ++ [q]⟩
theorem Wd.le_cell (w : Wd) (q : Addr) : w.le (w.cell q) := ⟨fun _ _ h => h, List.prefix_append _ _⟩
theorem SimP.newCell (S : SimP Γ L w p H) {q : Addr} {o : HO} {c : Cell} (h : H q = none) (hc : CellR Γ (w.cell q) (upd H q o) c q) : SimP Γ L (w.cell q) (p ++ [c]) (upd H q o) := by
  have nq : q ∉ w.ρ := fun z => by
    obtain ⟨u, e, _⟩ := S.live z
    rw [h] at e
    cases e
  refine ⟨fun a u e => up_new h a u (S.sub a u e), ?_, ?_, ?_, S.hlo, fun k m e => ?_, fun k c' a h1 h2 => ?_, S.nt, S.tb.ext (up_new h)⟩
  · show (w.ρ ++ [q]).length = (p ++ [c]).length
    rw [List.length_append, List.length_append, S.len]
    rfl
  · show (w.ρ ++ [q]).Nodup
    refine List.nodup_append.mpr ⟨S.nd, by simp, fun a ha b hb => ?_⟩
    have : b = q := by simpa using hb
    subst this
    exact fun z => nq (z ▸ ha)
  · rw [List.length_append]
    exact Nat.le_trans S.hb (Nat.le_add_right _ _)
  · rw [List.length_append]
    exact Nat.le_trans (S.hm k m e) (Nat.le_add_right _ _)
  · by_cases hk : k < p.length
    · have h1' : p[k]? = some c' := by
        rw [List.getElem?_append_left hk] at h1
        exact h1
      have h2' : w.ρ[k]? = some a := by
        have h2 : (w.ρ ++ [q])[k]? = some a := h2
        rw [List.getElem?_append_left (by rw [S.len]; exact hk)] at h2
        exact h2
      refine (S.cell k c' a h1' h2').step (S.lows (w.le_cell q) k) (fun _ _ g => ?_) (up_new h)
      rw [Wd.low_G] at g ⊢
      exact g
    · have hk2 : k = p.length := by
        have := (List.getElem?_eq_some_iff.mp h1).1
        rw [List.length_append] at this
        simp at this
        omega
      subst hk2
      have e1 : c = c' := by simpa using h1
      have h2 : (w.ρ ++ [q])[p.length]? = some a := h2
      rw [← S.len] at h2
      have e2 : q = a := by simpa using h2
      subst e1
      subst e2
      rw [S.hlo _ S.hb]
      exact hc
theorem nd_ix {l : List Addr} (h : l.Nodup) {i j : Nat} {a : Addr} (e1 : l[i]? = some a) (e2 : l[j]? = some a) : i = j := by
  obtain ⟨l1, e1⟩ := List.getElem?_eq_some_iff.mp e1
  obtain ⟨l2, e2⟩ := List.getElem?_eq_some_iff.mp e2
  exact (List.getElem_inj h).mp (e1.trans e2.symm)
/-- a cell is written -/
theorem SimP.write (S : SimP Γ L w p H) {k : Nat} {a : Addr} {c : Cell} {o : HO} (ha : w.ρ[k]? = some a) (hg : w.G a = none) (hc : CellR Γ (w.low (L.lo k)) (upd H a o) c a) : SimP Γ L w (p.set k c) (upd H a o) := by
  have ho : ∀ x, H a ≠ some (.own x) := fun x z => by
    obtain ⟨u, e, n⟩ := S.live (List.mem_of_getElem? ha)
    rw [z] at e
    cases e
    exact n.1 x rfl
  refine ⟨fun d u e => ?_, by rw [List.length_set]; exact S.len, S.nd, by rw [List.length_set]; exact S.hb, S.hlo, fun j m e => by rw [List.length_set]; exact S.hm j m e, fun j c' d h1 h2 => ?_, S.nt, tabs_step S.tb fun b u e k => ?_⟩
  · have nb : d ≠ a := fun z => by
      rw [z, hg] at e
      cases e
    rw [upd_ne nb]
    exact S.sub d u e
  · by_cases hj : j = k
    · subst hj
      rw [ha] at h2
      cases h2
      have hl : j < p.length := by
        have := (List.getElem?_eq_some_iff.mp h1).1
        rw [List.length_set] at this
        exact this
      rw [List.getElem?_set_self hl] at h1
      cases h1
      exact hc
    · rw [List.getElem?_set_ne (Ne.symm hj)] at h1
      have nb : d ≠ a := fun z => by
        subst z
        exact hj (nd_ix S.nd h2 ha)
      refine (S.cell j c' d h1 h2).same (upd_ne nb) fun dx hdx => ?_
      have nd : dx ≠ a := fun z => ho d (by rw [← z]; exact hdx)
      rw [upd_ne nd]
      exact hdx
  · have nb : b ≠ a := fun z => by
      obtain ⟨u2, e2, n⟩ := S.live (List.mem_of_getElem? ha)
      rw [z, e2] at e
      cases e
      rcases k with ⟨ps, rfl⟩ | ⟨φ, rfl⟩
      · exact n.2.1 ps rfl
      · exact n.2.2 φ rfl
    rw [upd_ne nb]
    exact e
def minO (n : Nat) : Option Nat → Nat
  | none => n
  | some m => min m n
/-- a callee's cells begin behind the caller's -/
def Lv.deeper (L : Lv) (n : Nat) : Lv := ⟨n, fun k => if k < n then some (minO n (L.lo k)) else none⟩
theorem Lv.deeper_lt {L : Lv} {n k : Nat} (h : k < n) : (L.deeper n).lo k = some (minO n (L.lo k)) := by
  show (if k < n then _ else _) = _
  rw [if_pos h]
theorem SimP.enter (S : SimP Γ L w p H) : SimP Γ (L.deeper p.length) w p H := by
  refine ⟨S.sub, S.len, S.nd, Nat.le_refl _, fun k hk => ?_, fun k m e => ?_, fun k c a h1 h2 => ?_, S.nt, S.tb⟩
  · show (if k < p.length then _ else _) = _
    rw [if_neg (by show ¬ k < p.length; have : p.length ≤ k := hk; omega)]
  · have e : (if k < p.length then some (minO p.length (L.lo k)) else none) = some m := e
    split at e
    · cases e
      cases L.lo k with
      | none => exact Nat.le_refl _
      | some j => exact Nat.min_le_right _ _
    · cases e
  · have hk := (List.getElem?_eq_some_iff.mp h1).1
    have x := S.cell k c a h1 h2
    rw [Lv.deeper_lt hk]
    have hm := S.hm k
    cases e : L.lo k with
    | none =>
      rw [e] at x
      show CellR Γ ⟨w.G, w.ρ.take p.length⟩ H c a
      rw [← S.len, List.take_length]
      exact x
    | some m =>
      rw [e] at x
      show CellR Γ ⟨w.G, w.ρ.take (min m p.length)⟩ H c a
      rw [Nat.min_eq_left (hm m e)]
      exact x
end
/-! ### what a def has made is handed out: its cells don't change any more -/
section
mutual
/-- the tree with each cell's number read off s -/
def sub (s : Nat → Option PV) : PV → Option PV
  | .non => some .non
  | .bl b => some (.bl b)
  | .int i => some (.int i)
  | .str x => some (.str x)
  | .tup xs => match subs s xs with
    | some ys => some (.tup ys)
    | none => none
  | .lst xs => match subs s xs with
    | some ys => some (.lst ys)
    | none => none
  | .obj c xs => match subs s xs with
    | some ys => some (.obj c ys)
    | none => none
  | .own k => s k
  | .scr ns => some (.scr ns)
  | .xs c t => some (.xs c t)
  | .xv c x => match sub s x with
    | some y => some (.xv c y)
    | none => none
  | .fn k => some (.fn k)
def subs (s : Nat → Option PV) : List PV → Option (List PV)
  | [] => some []
  | x :: xs => match sub s x with
    | some y => match subs s xs with
      | some ys => some (y :: ys)
      | none => none
    | none => none
end
/-- the cells below n stay cells; others are read, f deep -/
def thw (fld : Nat → List Str) (n : Nat) (p : Pool) : Nat → Nat → Option PV
  | 0, k => if k < n then some (.own k) else none
  | f + 1, k => if k < n then some (.own k) else match p[k]? with
    | some (.lst xs) => match subs (thw fld n p f) xs with
      | some ys => some (.lst ys)
      | none => none
    | some (.obj c xs) => if xs.length = (fld c).length then match subs (thw fld n p f) xs with
        | some ys => some (.obj c ys)
        | none => none
      else none
    | _ => none
/-- how deep cells may stand in cells -/
abbrev deep : Nat := 12
def thaw (fld : Nat → List Str) (n : Nat) (p : Pool) (x : PV) : Option PV := sub (thw fld n p deep) x

variable {Γ : Cfg} {L : Lv} {w w' : Wd} {p : Pool} {H H' : Hp}
mutual
theorem Rep.sub {s : Nat → Option PV} (lw : ∀ a o, w.G a = some o → w'.G a = some o) (hs : ∀ k y v, s k = some y → Rep Γ w (.own k) v → Rep Γ w' y v) : ∀ {x y : PV} {v : V}, R.sub s x = some y → Rep Γ w x v → Rep Γ w' y v
  | .non, y, v, e, h => by
    cases e
    exact h
  | .bl _, y, v, e, h => by
    cases e
    exact h
  | .int _, y, v, e, h => by
    cases e
    exact h
  | .str _, y, v, e, h => by
    cases e
    exact h
  | .tup xs, y, v, e, h => by
    obtain ⟨a, vs, ev, q, r⟩ := h
    unfold R.sub at e
    split at e
    · rename_i ys ey
      cases e
      exact ⟨a, vs, ev, seqT_mono lw q, Reps.sub lw hs ey r⟩
    · cases e
  | .lst xs, y, v, e, h => by
    obtain ⟨a, vs, ev, q, r⟩ := h
    unfold R.sub at e
    split at e
    · rename_i ys ey
      cases e
      exact ⟨a, vs, ev, lw _ _ q, Reps.sub lw hs ey r⟩
    · cases e
  | .scr ns, y, v, e, h => by
    cases e
    obtain ⟨a, ev, q⟩ := h
    exact ⟨a, ev, seqL_mono lw q⟩
  | .obj c xs, y, v, e, h => by
    obtain ⟨a, dx, vs, ev, g, d, n, r⟩ := h
    unfold R.sub at e
    split at e
    · rename_i ys ey
      cases e
      exact ⟨a, dx, vs, ev, lw _ _ g, lw _ _ d, n, Reps.sub lw hs ey r⟩
    · cases e
  | .own k, y, v, e, h => hs k y v e h
  | .xs c t, y, v, e, h => by
    cases e
    obtain ⟨a, t1, ev, g, g2⟩ := h
    exact ⟨a, t1, ev, lw _ _ g, lw _ _ g2⟩
  | .xv c x, y, v, e, h => by
    obtain ⟨a, d, u, ev, g, g2, r⟩ := h
    unfold R.sub at e
    split at e
    · rename_i y' ey
      cases e
      exact ⟨a, d, u, ev, lw _ _ g, lw _ _ g2, Rep.sub lw hs ey r⟩
    · cases e
  | .fn k, y, v, e, h => by
    cases e
    exact h
theorem Reps.sub {s : Nat → Option PV} (lw : ∀ a o, w.G a = some o → w'.G a = some o) (hs : ∀ k y v, s k = some y → Rep Γ w (.own k) v → Rep Γ w' y v) : ∀ {xs ys : List PV} {vs : List V}, subs s xs = some ys → Reps Γ w xs vs → Reps Γ w' ys vs
  | [], ys, vs, e, h => by
    cases e
    exact h
  | x :: xs, ys, vs, e, h => by
    obtain ⟨v, r, ev, h1, h2⟩ := h
    unfold subs at e
    split at e
    · rename_i y ey
      split at e
      · rename_i zs ez
        cases e
        exact ⟨v, r, ev, Rep.sub lw hs ey h1, Reps.sub lw hs ez h2⟩
      · cases e
    · cases e
end
open Classical in
/-- the heap of what doesn't change any more, with all cells from the n-th on -/
noncomputable def iced (w : Wd) (n : Nat) (H : Hp) : Hp := fun a =>
  if (∃ k, n ≤ k ∧ w.ρ[k]? = some a) ∨ (∃ k b, n ≤ k ∧ w.ρ[k]? = some b ∧ H a = some (.own b)) then H a else w.G a
noncomputable def Wd.ice (w : Wd) (n : Nat) (H : Hp) : Wd := ⟨iced w n H, w.ρ.take n⟩
theorem iced_no {n : Nat} {a : Addr} (h : ¬ ((∃ k, n ≤ k ∧ w.ρ[k]? = some a) ∨ (∃ k b, n ≤ k ∧ w.ρ[k]? = some b ∧ H a = some (.own b)))) : iced w n H a = w.G a := by
  unfold iced
  rw [if_neg h]
theorem iced_at {n k : Nat} {a : Addr} (hk : n ≤ k) (h : w.ρ[k]? = some a) : iced w n H a = H a := by
  unfold iced
  rw [if_pos (.inl ⟨k, hk, h⟩)]
theorem iced_own {n k : Nat} {a b : Addr} (hk : n ≤ k) (h : w.ρ[k]? = some b) (e : H a = some (.own b)) : iced w n H a = H a := by
  unfold iced
  rw [if_pos (.inr ⟨k, b, hk, h, e⟩)]
theorem SimP.iced_le (S : SimP Γ L w p H) (n : Nat) : ∀ a o, w.G a = some o → iced w n H a = some o := fun a o e => by
  unfold iced
  split
  · exact S.sub a o e
  · exact e
theorem SimP.iced_sub (S : SimP Γ L w p H) (n : Nat) : ∀ a o, iced w n H a = some o → H a = some o := fun a o e => by
  unfold iced at e
  split at e
  · exact e
  · exact S.sub a o e
theorem thw_ok (S : SimP Γ L w p H) (n : Nat) : ∀ (f k : Nat) (y : PV) (v : V), thw Γ.fld n p f k = some y → Rep Γ w (.own k) v → Rep Γ (w.ice n H) y v
  | 0, k, y, v, e, h => by
    obtain ⟨a, ha, rfl⟩ := h
    unfold thw at e
    split at e
    · rename_i hk
      cases e
      exact ⟨a, by show (w.ρ.take n)[k]? = _; rw [List.getElem?_take_of_lt hk]; exact ha, rfl⟩
    · cases e
  | f + 1, k, y, v, e, h => by
    obtain ⟨a, ha, rfl⟩ := h
    unfold thw at e
    split at e
    · rename_i hk
      cases e
      exact ⟨a, by show (w.ρ.take n)[k]? = _; rw [List.getElem?_take_of_lt hk]; exact ha, rfl⟩
    · rename_i hk
      have hnk : n ≤ k := by omega
      split at e
      · rename_i xs hp
        obtain ⟨b', hb, hc⟩ := S.at hp
        rw [ha] at hb
        cases hb
        obtain ⟨_, vs, eH, r⟩ := hc
        replace r := Reps.mono (w.low_le (L.lo k)) r
        split at e
        · rename_i ys ey
          cases e
          refine ⟨a, vs, rfl, ?_, Reps.sub (w' := w.ice n H) (S.iced_le n) (thw_ok S n f) ey r⟩
          show iced w n H a = _
          rw [iced_at hnk ha]
          exact eH
        · cases e
      · rename_i c fs hp
        obtain ⟨b', hb, hc⟩ := S.at hp
        rw [ha] at hb
        cases hb
        obtain ⟨_, dx, vs, eH, eD, _, hl, r⟩ := hc
        replace r := Reps.mono (w.low_le (L.lo k)) r
        split at e
        · rename_i hf
          split at e
          · rename_i ys ey
            cases e
            refine ⟨a, dx, vs, rfl, ?_, ?_, ?_, Reps.sub (w' := w.ice n H) (S.iced_le n) (thw_ok S n f) ey r⟩
            · show iced w n H a = _
              rw [iced_at hnk ha, eH]
            · show iced w n H dx = _
              rw [iced_own hnk ha eD]
              exact eD
            · rw [← r.length, hf]
          · cases e
        · cases e
      · cases e
theorem thaw_ok (S : SimP Γ L w p H) {n : Nat} {x y : PV} {v : V} (e : thaw Γ.fld n p x = some y) (h : Rep Γ w x v) : Rep Γ (w.ice n H) y v :=
  Rep.sub (S.iced_le n) (thw_ok S n deep) e h
theorem SimP.iced_nt (S : SimP Γ L w p H) (n : Nat) {a : Addr} {o : HO} (e : iced w n H a = some o) : ∀ ps, o ≠ .tbl ps := fun ps z => by
  unfold iced at e
  split at e
  · rename_i h
    rcases h with ⟨k, _, ek⟩ | ⟨k, b, _, ek, eo⟩
    · obtain ⟨o', eo, no⟩ := S.live (List.mem_of_getElem? ek)
      rw [eo] at e
      exact no.2.1 ps ((Option.some.inj e).trans z)
    · rw [eo] at e
      cases e
      cases z
  · exact S.nt a ps (z ▸ e)
/-- behind a callee: L the caller's -/
theorem SimP.ice {n : Nat} (S : SimP Γ (L.deeper n) w p H) (hb : L.b ≤ n) (hlo : ∀ k, L.b ≤ k → L.lo k = none) (hm : ∀ k m, L.lo k = some m → m ≤ n) : SimP Γ L (w.ice n H) (p.take n) H := by
  have hn : n ≤ p.length := S.hb
  have hl : (p.take n).length = n := by
    rw [List.length_take]
    omega
  refine ⟨S.iced_sub n, ?_, S.nd.sublist (List.take_sublist _ _), by rw [hl]; exact hb, hlo, fun k m e => by rw [hl]; exact hm k m e, fun k c a h1 h2 => ?_, fun a ps e => ?_, S.tb⟩
  · show (w.ρ.take n).length = _
    rw [List.length_take, List.length_take, S.len]
  · have hk : k < n := by
      have := (List.getElem?_eq_some_iff.mp h1).1
      rw [hl] at this
      exact this
    have h2 : (w.ρ.take n)[k]? = some a := h2
    rw [List.getElem?_take_of_lt hk] at h1 h2
    have x := S.cell k c a h1 h2
    have apart : ∀ j, n ≤ j → w.ρ[j]? ≠ some a := fun j hj ej => by
      have := nd_ix S.nd h2 ej
      omega
    rw [Lv.deeper_lt hk] at x
    have lw : (w.low (some (minO n (L.lo k)))).le ((w.ice n H).low (L.lo k)) := by
      cases e : L.lo k with
      | none => exact ⟨S.iced_le n, List.prefix_refl _⟩
      | some m =>
        refine ⟨S.iced_le n, ?_⟩
        show w.ρ.take (min m n) <+: (w.ρ.take n).take m
        rw [List.take_take]
        exact List.prefix_refl _
    have gG : ((w.ice n H).low (L.lo k)).G = iced w n H := Wd.low_G
    cases c with
    | lst xs =>
      obtain ⟨g, vs, eH, r⟩ := x
      rw [Wd.low_G] at g
      refine ⟨?_, vs, eH, Reps.mono lw r⟩
      rw [gG, iced_no]
      · exact g
      · rintro (⟨j, hj, e⟩ | ⟨j, c', hj, e1, e2⟩)
        · exact apart j hj e
        · rw [eH] at e2
          cases e2
    | obj cl fs =>
      obtain ⟨g, dx, vs, eH, eD, gd, hl, r⟩ := x
      rw [Wd.low_G] at g gd
      refine ⟨?_, dx, vs, eH, eD, ?_, hl, Reps.mono lw r⟩
      · rw [gG, iced_no]
        · exact g
        · rintro (⟨j, hj, e⟩ | ⟨j, c', hj, e1, e2⟩)
          · exact apart j hj e
          · rw [eH] at e2
            cases e2
      · rw [gG, iced_no]
        · exact gd
        · rintro (⟨j, hj, e⟩ | ⟨j, c', hj, e1, e2⟩)
          · obtain ⟨o, eo, no'⟩ := S.live (List.mem_of_getElem? e)
            rw [eD] at eo
            cases eo
            exact no'.1 a rfl
          · rw [eD] at e2
            cases e2
            exact apart j hj e1
    | dead => exact x
  · exact S.iced_nt n e ps rfl
theorem SimP.le_ice {w0 : Wd} (S : SimP Γ L w p H) {n : Nat} (l : w0.le w) (hn : w0.ρ.length = n) : w0.le (w.ice n H) := by
  refine ⟨fun a o e => S.iced_le n a o (l.1 a o e), ?_⟩
  obtain ⟨t, e⟩ := l.2
  show w0.ρ <+: w.ρ.take n
  rw [← e, ← hn, List.take_left]
  exact List.prefix_refl _
end
end R

/-! R2: what an expression, a test, a list of arguments, a statement comes to: by functions over values as trees and a pool -/
namespace R
open PySem L2

inductive Res (α : Type) where
  | ok (x : α) (p : Pool) | exc (c : Nat) (v : Option PV) (p : Pool) | stuck
/-- the names' values; b: how many cells are the callers' -/
structure En where
  b : Nat
  sl : List (Option PV)
abbrev M (α : Type) := En → Pool → Res α
def Res.bind {α β : Type} (r : Res α) (f : α → Pool → Res β) : Res β := match r with
  | .ok x p => f x p
  | .exc c v p => .exc c v p
  | .stuck => .stuck
inductive Ctl where
  | next (en : En) (p : Pool) | ret (x : PV) (p : Pool) | brk (en : En) (p : Pool) | cont (en : En) (p : Pool) | exc (c : Nat) (v : Option PV) (en : En) (p : Pool) | stuck
abbrev S := En → Pool → Ctl
def Res.run {α : Type} (r : Res α) (en : En) (f : α → Pool → Ctl) : Ctl := match r with
  | .ok x p => f x p
  | .exc c v p => .exc c v en p
  | .stuck => .stuck
def Ctl.andThen (r : Ctl) (f : S) : Ctl := match r with
  | .next en p => f en p
  | r => r

structure Cn where
  Γ : Cfg
  W : WX
def ExcR (Γ : Cfg) (w : Wd) (c : Nat) (ov : Option PV) (d : Option Addr) : Prop := match ov with
  | none => d = none
  | some x => ∃ dx v, d = some dx ∧ w.G dx = some (.xd [(Γ.exf c, v)]) ∧ Rep Γ w x v
theorem ExcR.mono {Γ : Cfg} {w w' : Wd} {c : Nat} {ov : Option PV} {d : Option Addr} (l : w.le w') (h : ExcR Γ w c ov d) : ExcR Γ w' c ov d := by
  cases ov with
  | none => exact h
  | some x =>
    obtain ⟨dx, v, e, g, r⟩ := h
    exact ⟨dx, v, e, l.1 _ _ g, r.mono l⟩
structure EnR (C : Cn) (L : Lv) (w : Wd) (en : En) (σ : St) : Prop where
  b : en.b = L.b
  len : en.sl.length = σ.length
  val : ∀ (i : Nat) x, en.sl[i]? = some (some x) → ∃ v, σ[i]? = some (some v) ∧ Rep C.Γ w x v
theorem EnR.mono {C : Cn} {L : Lv} {w w' : Wd} {en : En} {σ : St} (l : w.le w') (h : EnR C L w en σ) : EnR C L w' en σ :=
  ⟨h.b, h.len, fun i x e => let ⟨v, a, r⟩ := h.val i x e; ⟨v, a, r.mono l⟩⟩
theorem EnR.set {C : Cn} {L : Lv} {w : Wd} {en : En} {σ : St} (h : EnR C L w en σ) {i : Nat} {x : PV} {v : V} (r : Rep C.Γ w x v) : EnR C L w ⟨en.b, en.sl.set i (some x)⟩ (σ.set i (some v)) := by
  refine ⟨h.b, by rw [List.length_set, List.length_set]; exact h.len, fun j y e => ?_⟩
  have e : (en.sl.set i (some x))[j]? = some (some y) := e
  by_cases hj : j = i
  · subst hj
    have hl : j < en.sl.length := by
      have := (List.getElem?_eq_some_iff.mp e).1
      rw [List.length_set] at this
      exact this
    rw [List.getElem?_set_self hl] at e
    cases e
    exact ⟨v, List.getElem?_set_self (by rw [← h.len]; exact hl), r⟩
  · rw [List.getElem?_set_ne (Ne.symm hj)] at e
    obtain ⟨u, e1, e2⟩ := h.val j y e
    exact ⟨u, by rw [List.getElem?_set_ne (Ne.symm hj)]; exact e1, e2⟩

/-- what follows, of a thing that α's stand for -/
def Post {α β : Type} (C : Cn) (L : Lv) (w : Wd) (σ : St) (R : Wd → α → β → Prop) (r : Res α) (Q : β → Hp → Prop) : Prop := match r with
  | .ok x p => ∀ w' H' v, w.le w' → SimP C.Γ L w' p H' → R w' x v → Q v H'
  | .exc c ov p => ∀ w' H' d, w.le w' → SimP C.Γ L w' p H' → ExcR C.Γ w' c ov d → C.W (.ref (C.Γ.cls c)) d σ H'
  | .stuck => False
theorem Post.mono {α β : Type} {C : Cn} {L : Lv} {w w' : Wd} {σ : St} {R : Wd → α → β → Prop} {r : Res α} {Q : β → Hp → Prop} (l : w.le w') (h : Post C L w σ R r Q) : Post C L w' σ R r Q := by
  cases r with
  | ok x p => exact fun w2 H2 v l2 => h w2 H2 v (l.trans l2)
  | exc c v p => exact fun w2 H2 d l2 => h w2 H2 d (l.trans l2)
  | stuck => exact h
theorem Post.bind {α β γ δ : Type} {C : Cn} {L : Lv} {w : Wd} {σ : St} {R : Wd → α → β → Prop} {R' : Wd → γ → δ → Prop} {r : Res α} {f : α → Pool → Res γ} {Q : δ → Hp → Prop} {Q' : β → Hp → Prop} (h : Post C L w σ R' (r.bind f) Q)
    (k : ∀ x p w' H' v, w.le w' → SimP C.Γ L w' p H' → R w' x v → Post C L w' σ R' (f x p) Q → Q' v H') : Post C L w σ R r Q' := by
  cases r with
  | ok x p => exact fun w' H' v l S r => k x p w' H' v l S r (Post.mono l h)
  | exc c v p => exact h
  | stuck => exact h
theorem Post.ok {α β : Type} {C : Cn} {L : Lv} {w : Wd} {σ : St} {R : Wd → α → β → Prop} {x : α} {p : Pool} {Q : β → Hp → Prop} (h : Post C L w σ R (.ok x p) Q) {H : Hp} {v : β} (S : SimP C.Γ L w p H) (r : R w x v) : Q v H := h w H v (Wd.le.refl w) S r

abbrev RV (C : Cn) : Wd → PV → V → Prop := Rep C.Γ
abbrev RB : Wd → Bool → Bool → Prop := fun _ b c => b = c
abbrev RL (C : Cn) : Wd → List PV → List V → Prop := Reps C.Γ

/-! ### the judgements -/
def wE (C : Cn) (m : M PV) : TE := fun σ H Q => ∃ L w p en, SimP C.Γ L w p H ∧ EnR C L w en σ ∧ Post C L w σ (RV C) (m en p) Q
def wT (C : Cn) (m : M Bool) : TT := fun σ H Q => ∃ L w p en, SimP C.Γ L w p H ∧ EnR C L w en σ ∧ Post C L w σ RB (m en p) Q
def wA (C : Cn) (m : M (List PV)) : TA := fun σ H Q => ∃ L w p en, SimP C.Γ L w p H ∧ EnR C L w en σ ∧ Post C L w σ (RL C) (m en p) Q
def PostS (C : Cn) (L : Lv) (w : Wd) (D : Ends) (r : Ctl) : Prop := match r with
  | .next en p => ∀ w' H' σ', w.le w' → SimP C.Γ L w' p H' → EnR C L w' en σ' → D.nx σ' H'
  | .ret x p => ∀ w' H' v, w.le w' → SimP C.Γ L w' p H' → Rep C.Γ w' x v → D.rt v H'
  | .brk en p => ∀ w' H' σ', w.le w' → SimP C.Γ L w' p H' → EnR C L w' en σ' → D.bk σ' H'
  | .cont en p => ∀ w' H' σ', w.le w' → SimP C.Γ L w' p H' → EnR C L w' en σ' → D.ct σ' H'
  | .exc c ov en p => ∀ w' H' σ' d, w.le w' → SimP C.Γ L w' p H' → EnR C L w' en σ' → ExcR C.Γ w' c ov d → C.W (.ref (C.Γ.cls c)) d σ' H'
  | .stuck => False
def wS (C : Cn) (m : S) : TS := fun D σ H => ∃ L w p en, SimP C.Γ L w p H ∧ EnR C L w en σ ∧ PostS C L w D (m en p)
theorem PostS.mono {C : Cn} {L : Lv} {w w' : Wd} {D : Ends} {r : Ctl} (l : w.le w') (h : PostS C L w D r) : PostS C L w' D r := by
  cases r with
  | next en p => exact fun w2 H2 s l2 => h w2 H2 s (l.trans l2)
  | ret x p => exact fun w2 H2 s l2 => h w2 H2 s (l.trans l2)
  | brk en p => exact fun w2 H2 s l2 => h w2 H2 s (l.trans l2)
  | cont en p => exact fun w2 H2 s l2 => h w2 H2 s (l.trans l2)
  | exc c v en p => exact fun w2 H2 s d l2 => h w2 H2 s d (l.trans l2)
  | stuck => exact h
/-- off an expression into a statement -/
theorem PostS.run {α β : Type} {C : Cn} {L : Lv} {w : Wd} {en : En} {σ : St} {R : Wd → α → β → Prop} {r : Res α} {f : α → Pool → Ctl} {D : Ends} {Q' : β → Hp → Prop} (E : EnR C L w en σ) (h : PostS C L w D (r.run en f))
    (k : ∀ x p w' H' v, w.le w' → SimP C.Γ L w' p H' → R w' x v → PostS C L w' D (f x p) → Q' v H') : Post C L w σ R r Q' := by
  cases r with
  | ok x p => exact fun w' H' v l S r => k x p w' H' v l S r (PostS.mono l h)
  | exc c v p => exact fun w' H' d l S x => h w' H' σ d l S (E.mono l) x
  | stuck => exact h
theorem _root_.L2.PE.imp {X : Cx} {e : Expr} {t t' : TE} (h : PE X e t) (i : ∀ σ H Q, t' σ H Q → t σ H Q) : PE X e t' := ⟨fun pins s σ H Q I hq => h.run pins s σ H Q I (i _ _ _ hq)⟩
theorem _root_.L2.PT.imp {X : Cx} {e : Expr} {t t' : TT} (h : PT X e t) (i : ∀ σ H Q, t' σ H Q → t σ H Q) : PT X e t' := ⟨fun pins s σ H Q I hq => h.run pins s σ H Q I (i _ _ _ hq)⟩
theorem _root_.L2.PW.imp {X : Cx} {e : Expr} {t t' : TT} (h : PW X e t) (i : ∀ σ H Q, t' σ H Q → t σ H Q) : PW X e t' := ⟨fun wh pins s σ H Q I hq => h.run wh pins s σ H Q I (i _ _ _ hq)⟩
theorem _root_.L2.PA.imp {X : Cx} {e : List Expr} {t t' : TA} (h : PA X e t) (i : ∀ σ H Q, t' σ H Q → t σ H Q) : PA X e t' := ⟨fun pos pins s σ H Q I hq => h.run pos pins s σ H Q I (i _ _ _ hq)⟩
theorem _root_.L2.PS.imp {X : Cx} {e : Stmt} {t t' : TS} (h : PS X e t) (i : ∀ D σ H, t' D σ H → t D σ H) : PS X e t' := ⟨fun pins s σ H D I hq => h.run pins s σ H D I (i _ _ _ hq)⟩
theorem _root_.L2.PSs.imp {X : Cx} {e : List Stmt} {t t' : TS} (h : PSs X e t) (i : ∀ D σ H, t' D σ H → t D σ H) : PSs X e t' := ⟨fun pins s σ H D I hq => h.run pins s σ H D I (i _ _ _ hq)⟩
abbrev RE (X : Cx) (C : Cn) (e : Expr) (m : M PV) : Prop := PE X e (wE C m)
abbrev RT (X : Cx) (C : Cn) (e : Expr) (m : M Bool) : Prop := PT X e (wT C m)
abbrev RW (X : Cx) (C : Cn) (e : Expr) (m : M Bool) : Prop := PW X e (wT C m)
structure RA (X : Cx) (C : Cn) (es : List Expr) (m : M (List PV)) : Prop where
  pa : PA X es (wA C m)
  len : ∀ en p xs p1, m en p = .ok xs p1 → xs.length = es.length
abbrev RS (X : Cx) (C : Cn) (st : Stmt) (m : S) : Prop := PS X st (wS C m)
abbrev RSs (X : Cx) (C : Cn) (st : List Stmt) (m : S) : Prop := PSs X st (wS C m)

section
variable {X : Cx} {C : Cn} {pos : Pos}
/-! ### names, constants -/
def mVar (i : Nat) : M PV := fun en p => match en.sl[i]? with
  | some (some x) => .ok x p
  | _ => .stuck
def mC (x : PV) : M PV := fun _ p => .ok x p
theorem rv (i : Nat) {x : Str} (hN : X.N[i]? = some x := by rfl) (hv : Vis X.env.scope x := by first | exact Or.inl rfl | exact Or.inr (Or.inl rfl) | exact Or.inr (Or.inr rfl)) (hd : (x == ("__debug__" : Str)) = false := by decide)
    (hcd : (x == ("__classdict__" : Str)) = false := by decide) : RE X C (.Name x pos) (mVar i) := by
  refine (pe_var hN hv hd hcd).imp fun σ H Q ⟨L, w, p, en, S, E, h⟩ => ?_
  unfold mVar at h
  split at h
  · rename_i y e
    obtain ⟨v, e1, r⟩ := E.val i y e
    exact ⟨v, e1, h.ok S r⟩
  · exact h.elim
theorem re_int {i j} : RE X C (.Constant (.int i) j pos) (mC (.int i)) := pe_int.imp fun σ H Q ⟨L, w, p, en, S, E, h⟩ => h.ok S (rfl : Rep C.Γ w (.int i) (.int i))
theorem re_bl {b j} : RE X C (.Constant (.bool b) j pos) (mC (.bl b)) := pe_bl.imp fun σ H Q ⟨L, w, p, en, S, E, h⟩ => h.ok S (rfl : Rep C.Γ w (.bl b) (.bl b))
theorem re_non {j} : RE X C (.Constant .none j pos) (mC .non) := pe_non.imp fun σ H Q ⟨L, w, p, en, S, E, h⟩ => h.ok S (rfl : Rep C.Γ w .non .non)
theorem re_str {x j} : RE X C (.Constant (.str x) j pos) (mC (.str x)) := pe_str.imp fun σ H Q ⟨L, w, p, en, S, E, h⟩ => h.ok S (rfl : Rep C.Γ w (.str x) (.str x))
/-- a module's constant that is a number -/
theorem re_globI {x : Str} {i : Int} {u : Value} (hg : Gl X x) (hm : X.mg x = some u) (r : RelV (.int i) u) (hd : (x == ("__debug__" : Str)) = false := by decide) : RE X C (.Name x pos) (mC (.int i)) :=
  (pe_glob hg hm r hd).imp fun σ H Q ⟨L, w, p, en, S, E, h⟩ => h.ok S (rfl : Rep C.Γ w (.int i) (.int i))
/-- what is never come to -/
def mNo {α : Type} : M α := fun _ _ => .stuck
theorem re_no {e : Expr} : RE X C e mNo := ⟨fun _ _ _ _ _ _ ⟨_, _, _, _, _, _, h⟩ => h.elim⟩
theorem rt_no {e : Expr} : RT X C e mNo := ⟨fun _ _ _ _ _ _ ⟨_, _, _, _, _, _, h⟩ => h.elim⟩
/-! ### arguments, displays -/
def mNil : M (List PV) := fun _ p => .ok [] p
def mCons (a : M PV) (r : M (List PV)) : M (List PV) := fun en p => (a en p).bind fun x p1 => (r en p1).bind fun xs p2 => .ok (x :: xs) p2
theorem ra_nil : RA X C [] mNil := ⟨pa_nil.imp fun σ H Q ⟨L, w, p, en, S, E, h⟩ => h.ok S (Reps.nil), fun _ _ _ _ e => by
  cases e
  rfl⟩
theorem ra_cons {e : Expr} {es : List Expr} {a : M PV} {r : M (List PV)} (ha : RE X C e a) (hr : RA X C es r) (hs : starEach (e :: es) X.env = (false, eval e X.env) :: starEach es X.env := by rfl) : RA X C (e :: es) (mCons a r) := by
  refine ⟨(pa_cons ha hr.pa hs).imp fun σ H Q ⟨L, w, p, en, S, E, h⟩ => ?_, fun en p xs p1 q => ?_⟩
  · refine ⟨L, w, p, en, S, E, h.bind fun x p1 w1 H1 v l1 S1 r1 h1 => ?_⟩
    refine ⟨L, w1, p1, en, S1, E.mono l1, h1.bind fun xs p2 w2 H2 vs l2 S2 r2 h2 => ?_⟩
    exact h2.ok S2 (Reps.cons (r1.mono l2) r2)
  · unfold mCons at q
    cases e : a en p with
    | ok x p2 =>
      rw [e] at q
      have q : (r en p2).bind (fun xs p2 => Res.ok (x :: xs) p2) = Res.ok xs p1 := q
      cases e2 : r en p2 with
      | ok ys p3 =>
        rw [e2] at q
        cases q
        rw [List.length_cons, List.length_cons, hr.len _ _ _ _ e2]
      | exc c v p3 =>
        rw [e2] at q
        cases q
      | stuck =>
        rw [e2] at q
        cases q
    | exc c v p2 =>
      rw [e] at q
      cases q
    | stuck =>
      rw [e] at q
      cases q
def big : Nat := 100000
theorem big_le {n : Nat} (h : n ≤ big) : n ≤ sizeLine := Nat.le_trans h (by decide)
theorem big_lt {n : Nat} (h : n < big) : n < sizeLine := Nat.lt_of_lt_of_le h (by decide)
/-- a written tuple; a written list that doesn't change; one that does -/
def mTup (a : M (List PV)) : M PV := fun en p => (a en p).bind fun xs p1 => .ok (.tup xs) p1
def mLst (a : M (List PV)) : M PV := fun en p => (a en p).bind fun xs p1 => .ok (.lst xs) p1
def mLstO (a : M (List PV)) : M PV := fun en p => (a en p).bind fun xs p1 => .ok (.own p1.length) (p1 ++ [.lst xs])
theorem newTup {L : Lv} {w : Wd} {p : Pool} {H : Hp} (S : SimP C.Γ L w p H) {xs : List PV} {vs : List V} (r : Reps C.Γ w xs vs) {σ : St} {Q : VK} (h : Post C L w σ (RV C) (.ok (.tup xs) p) Q) : ∀ q, H q = none → Q (.ref q) (upd H q (.tup vs)) := fun q hq =>
  h _ _ _ (S.le_add hq) (S.new hq) ⟨q, vs, rfl, .inl (.inl add_at), r.mono (S.le_add hq)⟩
theorem newLst {L : Lv} {w : Wd} {p : Pool} {H : Hp} (S : SimP C.Γ L w p H) {xs : List PV} {vs : List V} (r : Reps C.Γ w xs vs) {σ : St} {Q : VK} (h : Post C L w σ (RV C) (.ok (.lst xs) p) Q) : ∀ q, H q = none → Q (.ref q) (upd H q (.lst vs)) := fun q hq =>
  h _ _ _ (S.le_add hq) (S.new hq) ⟨q, vs, rfl, add_at, r.mono (S.le_add hq)⟩
theorem newOwn {L : Lv} {w : Wd} {p : Pool} {H : Hp} (S : SimP C.Γ L w p H) {xs : List PV} {vs : List V} (r : Reps C.Γ w xs vs) {σ : St} {Q : VK} (h : Post C L w σ (RV C) (.ok (.own p.length) (p ++ [.lst xs])) Q) : ∀ q, H q = none → Q (.ref q) (upd H q (.lst vs)) := fun q hq => by
  refine h _ _ _ (w.le_cell q) (S.newCell hq ⟨S.free hq, vs, upd_same, r.mono (w.le_cell q)⟩) ⟨q, ?_, rfl⟩
  show (w.ρ ++ [q])[p.length]? = some q
  rw [← S.len]
  simp
theorem re_tup {es : List Expr} {x1} {a : M (List PV)} (h : RA X C es a) (hl : es.length ≤ sizeLine := by decide) : RE X C (.Tuple es x1 pos) (mTup a) := by
  refine (pe_tup h.pa).imp fun σ H Q ⟨L, w, p, en, S, E, q⟩ => ⟨L, w, p, en, S, E, ?_⟩
  unfold mTup at q
  cases e : a en p with
  | ok xs p1 =>
    rw [e] at q
    exact fun w' H' vs l S' r => ⟨by rw [← Reps.length r, h.len _ _ _ _ e]; exact hl, newTup S' r (Post.mono l q)⟩
  | exc c v p1 =>
    rw [e] at q
    exact q
  | stuck =>
    rw [e] at q
    exact q
theorem re_lst {es : List Expr} {a : M (List PV)} (h : RA X C es a) (hl : es.length ≤ sizeLine := by decide) : RE X C (.List es pos) (mLst a) := by
  refine (pe_lst h.pa).imp fun σ H Q ⟨L, w, p, en, S, E, q⟩ => ⟨L, w, p, en, S, E, ?_⟩
  unfold mLst at q
  cases e : a en p with
  | ok xs p1 =>
    rw [e] at q
    exact fun w' H' vs l S' r => ⟨by rw [← Reps.length r, h.len _ _ _ _ e]; exact hl, newLst S' r (Post.mono l q)⟩
  | exc c v p1 =>
    rw [e] at q
    exact q
  | stuck =>
    rw [e] at q
    exact q
theorem re_lstO {es : List Expr} {a : M (List PV)} (h : RA X C es a) (hl : es.length ≤ sizeLine := by decide) : RE X C (.List es pos) (mLstO a) := by
  refine (pe_lst h.pa).imp fun σ H Q ⟨L, w, p, en, S, E, q⟩ => ⟨L, w, p, en, S, E, ?_⟩
  unfold mLstO at q
  cases e : a en p with
  | ok xs p1 =>
    rw [e] at q
    exact fun w' H' vs l S' r => ⟨by rw [← Reps.length r, h.len _ _ _ _ e]; exact hl, newOwn S' r (Post.mono l q)⟩
  | exc c v p1 =>
    rw [e] at q
    exact q
  | stuck =>
    rw [e] at q
    exact q
/-! ### operators -/
abbrev F2 := PV → PV → Pool → Res PV
def mBin (f : F2) (a b : M PV) : M PV := fun en p => (a en p).bind fun x p1 => (b en p1).bind fun y p2 => f x y p2
def RefO (C : Cn) (r : R2) (f : F2) : Prop := ∀ L w p H σ x y vx vy Q, SimP C.Γ L w p H → Rep C.Γ w x vx → Rep C.Γ w y vy → Post C L w σ (RV C) (f x y p) Q → r vx vy H Q
theorem wE_op {r : R2} {f : F2} {ma mb : M PV} (hr : RefO C r f) : ∀ σ H Q, wE C (mBin f ma mb) σ H Q → tOp r (wE C ma) (wE C mb) σ H Q := fun σ H Q ⟨L, w, p, en, S, E, h⟩ => by
  refine ⟨L, w, p, en, S, E, h.bind fun x p1 w1 H1 v l1 S1 r1 h1 => ?_⟩
  refine ⟨L, w1, p1, en, S1, E.mono l1, h1.bind fun y p2 w2 H2 u l2 S2 r2 h2 => ?_⟩
  exact hr L w2 p2 H2 σ x y v u Q S2 (r1.mono l2) r2 h2
theorem re_bin {a b : Expr} {op : Operator} {r : R2} {f : F2} {ma mb : M PV} (ho : OpR X (binaryOp op) r) (hr : RefO C r f) (ha : RE X C a ma) (hb : RE X C b mb) : RE X C (.BinOp a op b pos) (mBin f ma mb) := (pe_op ho ha hb).imp (wE_op hr)
theorem re_cmp {a b : Expr} {op : CmpOp} {r : R2} {f : F2} {ma mb : M PV} (ho : OpR X (compareOp op) r) (hr : RefO C r f) (ha : RE X C a ma) (hb : RE X C b mb) (hm : behindInMarks op b = false) : RE X C (.Compare a [op] [b] pos) (mBin f ma mb) := (pe_cmpR ho ha hb hm).imp (wE_op hr)
/-- an expression that gives a truth, as a test -/
def mB (a : M PV) : M Bool := fun en p => (a en p).bind fun x p1 => match x with
  | .bl b => .ok b p1
  | _ => .stuck
theorem wT_test {t : TE} {m : M PV} (i : ∀ σ H Q, wE C m σ H Q → t σ H Q) : ∀ σ H Q, wT C (mB m) σ H Q → tTest t σ H Q := fun σ H Q ⟨L, w, p, en, S, E, h⟩ => by
  refine i σ H _ ⟨L, w, p, en, S, E, h.bind fun x p1 w1 H1 v l1 S1 r1 h1 => ?_⟩
  cases x with
  | bl b => exact ⟨b, r1, h1.ok S1 rfl⟩
  | _ => exact h1.elim
theorem rt_cmp {a b : Expr} {op : CmpOp} {r : R2} {f : F2} {ma mb : M PV} (ho : OpR X (compareOp op) r) (hr : RefO C r f) (ha : RE X C a ma) (hb : RE X C b mb) (hm : behindInMarks op b = false) : RT X C (.Compare a [op] [b] pos) (mB (mBin f ma mb)) := (pt_cmpR ho ha hb hm).imp (wT_test (wE_op hr))
theorem rt_val {e : Expr} {m : M PV} (h : RE X C e m) (he : ∀ whole, isTrue e X.env whole = (do let v ← whole; standAt e.pos; holding [v] (truthy v)) := by intro _; rfl) : RT X C e (mB m) := (pt_val h he).imp fun σ H Q q => wT_test (t := wE C m) (fun _ _ _ z => z) σ H Q q
/-- a < b < c -/
def mChain (f g : F2) (a b c : M PV) : M PV := fun en p => (a en p).bind fun x p1 => (b en p1).bind fun y p2 => (f x y p2).bind fun z p3 => match z with
  | .bl true => (c en p3).bind fun u p4 => g y u p4
  | .bl false => .ok (.bl false) p3
  | _ => .stuck
theorem wE_chain {r r' : R2} {f g : F2} {ma mb mc : M PV} (hr : RefO C r f) (hr' : RefO C r' g) : ∀ σ H Q, wE C (mChain f g ma mb mc) σ H Q → tChain r r' (wE C ma) (wE C mb) (wE C mc) σ H Q := fun σ H Q ⟨L, w, p, en, S, E, h⟩ => by
  refine ⟨L, w, p, en, S, E, h.bind fun x p1 w1 H1 v l1 S1 r1 h1 => ?_⟩
  refine ⟨L, w1, p1, en, S1, E.mono l1, h1.bind fun y p2 w2 H2 u l2 S2 r2 h2 => ?_⟩
  refine hr L w2 p2 H2 σ x y v u _ S2 (r1.mono l2) r2 (h2.bind fun z p3 w3 H3 o l3 S3 r3 h3 => ?_)
  cases z with
  | bl b =>
    refine ⟨b, r3, ?_⟩
    cases b with
    | true =>
      refine iteT ?_
      refine ⟨L, w3, p3, en, S3, E.mono ((l1.trans l2).trans l3), h3.bind fun t p4 w4 H4 e l4 S4 r4 h4 => ?_⟩
      exact hr' L w4 p4 H4 σ y t u e Q S4 (r2.mono (l3.trans l4)) r4 h4
    | false =>
      have e : o = V.bl false := r3
      subst e
      exact iteF (h3.ok S3 r3)
  | _ => exact h3.elim
theorem re_chain {a b c : Expr} {op op' : CmpOp} {r r' : R2} {f g : F2} {ma mb mc : M PV} (ho : OpR X (compareOp op) r) (hr : RefO C r f) (ho' : OpR X (compareOp op') r') (hr' : RefO C r' g) (ha : RE X C a ma) (hb : RE X C b mb) (hc : RE X C c mc)
    (hl : lastMarks [op, op'] [b, c] = false := by rfl) : RE X C (.Compare a [op, op'] [b, c] pos) (mChain f g ma mb mc) := (pe_chain ho ho' ha hb hc hl).imp (wE_chain hr hr')
theorem rt_chain {a b c : Expr} {op op' : CmpOp} {r r' : R2} {f g : F2} {ma mb mc : M PV} (ho : OpR X (compareOp op) r) (hr : RefO C r f) (ho' : OpR X (compareOp op') r') (hr' : RefO C r' g) (ha : RE X C a ma) (hb : RE X C b mb) (hc : RE X C c mc)
    (hl : lastMarks [op, op'] [b, c] = false := by rfl) : RT X C (.Compare a [op, op'] [b, c] pos) (mB (mChain f g ma mb mc)) := (pt_chain ho ho' ha hb hc hl).imp (wT_test (wE_chain hr hr'))
/-! ### and, or, not, if else -/
def mAnd (a b : M Bool) : M Bool := fun en p => (a en p).bind fun x p1 => if x = true then b en p1 else .ok false p1
def mOr (a b : M Bool) : M Bool := fun en p => (a en p).bind fun x p1 => if x = true then .ok true p1 else b en p1
def mNot (a : M Bool) : M Bool := fun en p => (a en p).bind fun x p1 => .ok (!x) p1
theorem rw_and1 {a : Expr} {m : M Bool} (h : RT X C a m) : RW X C (.BoolOp .And [a] pos) m := pw_and1 h
theorem rw_or1 {a : Expr} {m : M Bool} (h : RT X C a m) : RW X C (.BoolOp .Or [a] pos) m := pw_or1 h
theorem rw_and {a b : Expr} {rest : List Expr} {ma mb : M Bool} (ha : RT X C a ma) (hb : RW X C (.BoolOp .And (b :: rest) pos) mb) : RW X C (.BoolOp .And (a :: b :: rest) pos) (mAnd ma mb) :=
  (pw_and ha hb).imp fun σ H Q ⟨L, w, p, en, S, E, h⟩ => by
    refine ⟨L, w, p, en, S, E, h.bind fun x p1 w1 H1 v l1 S1 r1 h1 => ?_⟩
    cases r1
    cases x with
    | true => exact iteT ⟨L, w1, p1, en, S1, E.mono l1, h1⟩
    | false => exact iteF (h1.ok S1 rfl)
theorem rw_or {a b : Expr} {rest : List Expr} {ma mb : M Bool} (ha : RT X C a ma) (hb : RW X C (.BoolOp .Or (b :: rest) pos) mb) : RW X C (.BoolOp .Or (a :: b :: rest) pos) (mOr ma mb) :=
  (pw_or ha hb).imp fun σ H Q ⟨L, w, p, en, S, E, h⟩ => by
    refine ⟨L, w, p, en, S, E, h.bind fun x p1 w1 H1 v l1 S1 r1 h1 => ?_⟩
    cases r1
    cases x with
    | false => exact iteF ⟨L, w1, p1, en, S1, E.mono l1, h1⟩
    | true => exact iteT (h1.ok S1 rfl)
theorem rt_w {e : Expr} {m : M Bool} (h : RW X C e m) : RT X C e m := h.pt
theorem rt_not {a : Expr} {m : M Bool} (h : RT X C a m) : RT X C (.UnaryOp .Not a pos) (mNot m) := (pt_not h).imp fun σ H Q ⟨L, w, p, en, S, E, h⟩ => by
  refine ⟨L, w, p, en, S, E, h.bind fun x p1 w1 H1 v l1 S1 r1 h1 => ?_⟩
  cases r1
  exact h1.ok S1 rfl
/-- .. as values: all but the last one truths -/
def mAndV (a b : M PV) : M PV := fun en p => (a en p).bind fun x p1 => match x with
  | .bl true => b en p1
  | .bl false => .ok (.bl false) p1
  | _ => .stuck
def mOrV (a b : M PV) : M PV := fun en p => (a en p).bind fun x p1 => match x with
  | .bl true => .ok (.bl true) p1
  | .bl false => b en p1
  | _ => .stuck
def mNotV (a : M PV) : M PV := fun en p => (a en p).bind fun x p1 => match x with
  | .bl b => .ok (.bl (!b)) p1
  | _ => .stuck
theorem re_one {a : Expr} {op} {m : M PV} (h : RE X C a m) : RE X C (.BoolOp op [a] pos) m := pe_one h
theorem re_and {a b : Expr} {rest : List Expr} {ma mb : M PV} (ha : RE X C a ma) (hb : RE X C (.BoolOp .And (b :: rest) pos) mb) : RE X C (.BoolOp .And (a :: b :: rest) pos) (mAndV ma mb) :=
  (pe_and ha hb).imp fun σ H Q ⟨L, w, p, en, S, E, h⟩ => by
    refine ⟨L, w, p, en, S, E, h.bind fun x p1 w1 H1 v l1 S1 r1 h1 => ?_⟩
    cases x with
    | bl b =>
      refine ⟨b, r1, ?_⟩
      cases b with
      | true => exact iteT ⟨L, w1, p1, en, S1, E.mono l1, h1⟩
      | false => exact iteF (h1.ok S1 rfl)
    | _ => exact h1.elim
theorem re_or {a b : Expr} {rest : List Expr} {ma mb : M PV} (ha : RE X C a ma) (hb : RE X C (.BoolOp .Or (b :: rest) pos) mb) : RE X C (.BoolOp .Or (a :: b :: rest) pos) (mOrV ma mb) :=
  (pe_or ha hb).imp fun σ H Q ⟨L, w, p, en, S, E, h⟩ => by
    refine ⟨L, w, p, en, S, E, h.bind fun x p1 w1 H1 v l1 S1 r1 h1 => ?_⟩
    cases x with
    | bl b =>
      refine ⟨b, r1, ?_⟩
      cases b with
      | false => exact iteF ⟨L, w1, p1, en, S1, E.mono l1, h1⟩
      | true => exact iteT (h1.ok S1 rfl)
    | _ => exact h1.elim
theorem re_not {a : Expr} {ma : M PV} (ha : RE X C a ma) : RE X C (.UnaryOp .Not a pos) (mNotV ma) :=
  (pe_not ha).imp fun σ H Q ⟨L, w, p, en, S, E, h⟩ => by
    refine ⟨L, w, p, en, S, E, h.bind fun x p1 w1 H1 v l1 S1 r1 h1 => ?_⟩
    cases x with
    | bl b => exact ⟨b, r1, h1.ok S1 rfl⟩
    | _ => exact h1.elim
def mIf {α : Type} (t : M Bool) (a b : M α) : M α := fun en p => (t en p).bind fun x p1 => if x = true then a en p1 else b en p1
theorem re_if {c a b : Expr} {t : M Bool} {ma mb : M PV} (hc : RT X C c t) (ha : RE X C a ma) (hb : RE X C b mb) : RE X C (.IfExp c a b pos) (mIf t ma mb) := (pe_ifExp hc ha hb).imp fun σ H Q ⟨L, w, p, en, S, E, h⟩ => by
  refine ⟨L, w, p, en, S, E, h.bind fun x p1 w1 H1 v l1 S1 r1 h1 => ?_⟩
  cases r1
  cases x with
  | true => exact iteT ⟨L, w1, p1, en, S1, E.mono l1, h1⟩
  | false => exact iteF ⟨L, w1, p1, en, S1, E.mono l1, h1⟩
/-! ### statements -/
def sNop : S := fun en p => .next en p
def sSeq (a b : S) : S := fun en p => (a en p).andThen b
theorem PostS.andThen {L : Lv} {w : Wd} {D : Ends} {r : Ctl} {f : S} {t : TS} (h : PostS C L w D (r.andThen f)) (k : ∀ en p w' H' σ', w.le w' → SimP C.Γ L w' p H' → EnR C L w' en σ' → PostS C L w' D (f en p) → t D σ' H') : PostS C L w { D with nx := t D } r := by
  cases r with
  | next en p => exact fun w' H' σ' l S E => k en p w' H' σ' l S E (PostS.mono l h)
  | _ => exact h
theorem rss_nil : RSs X C [] sNop := pss_nil.imp fun D σ H ⟨L, w, p, en, S, E, h⟩ => h w H σ (Wd.le.refl w) S E
theorem rss_cons {st : Stmt} {rest : List Stmt} {a b : S} (ha : RS X C st a) (hb : RSs X C rest b) : RSs X C (st :: rest) (sSeq a b) := (pss_cons ha hb).imp fun D σ H ⟨L, w, p, en, S, E, h⟩ =>
  ⟨L, w, p, en, S, E, h.andThen fun en p w' H' σ' _ S' E' h' => ⟨L, w', p, en, S', E', h'⟩⟩
theorem rss_one {st : Stmt} {a : S} (ha : RS X C st a) : RSs X C [st] a := pss_one ha
def sNo : S := fun _ _ => .stuck
theorem rs_no {st : Stmt} : RS X C st sNo := ⟨fun _ _ _ _ _ _ ⟨_, _, _, _, _, _, h⟩ => h.elim⟩
theorem rss_no {st : List Stmt} : RSs X C st sNo := ⟨fun _ _ _ _ _ _ ⟨_, _, _, _, _, _, h⟩ => h.elim⟩
def sBrk : S := fun en p => .brk en p
def sCont : S := fun en p => .cont en p
theorem rs_pass : RS X C (.Pass pos) sNop := ps_pass.imp fun D σ H ⟨L, w, p, en, S, E, h⟩ => h w H σ (Wd.le.refl w) S E
theorem rs_break : RS X C (.Break pos) sBrk := ps_break.imp fun D σ H ⟨L, w, p, en, S, E, h⟩ => h w H σ (Wd.le.refl w) S E
theorem rs_continue : RS X C (.Continue pos) sCont := ps_continue.imp fun D σ H ⟨L, w, p, en, S, E, h⟩ => h w H σ (Wd.le.refl w) S E
theorem rs_doc {x j pos'} : RS X C (.Expr (.Constant (.str x) j pos) pos') sNop := ps_doc.imp fun D σ H ⟨L, w, p, en, S, E, h⟩ => h w H σ (Wd.le.refl w) S E
def sExpr (a : M PV) : S := fun en p => (a en p).run en fun _ p1 => .next en p1
theorem rs_expr {e : Expr} {a : M PV} (h : RE X C e a) (hs : swapsWith e none pos.line X.env = pure false := by rfl) : RS X C (.Expr e pos) (sExpr a) := (ps_expr h hs).imp fun D σ H ⟨L, w, p, en, S, E, h⟩ =>
  ⟨L, w, p, en, S, E, h.run E fun x p1 w1 H1 v l1 S1 r1 h1 => h1 w1 H1 σ (Wd.le.refl w1) S1 (E.mono l1)⟩
def sRet (a : M PV) : S := fun en p => (a en p).run en fun x p1 => .ret x p1
theorem rs_ret {e : Expr} {a : M PV} (h : RE X C e a) : RS X C (.Return (some e) pos) (sRet a) := (ps_ret h).imp fun D σ H ⟨L, w, p, en, S, E, h⟩ =>
  ⟨L, w, p, en, S, E, h.run E fun x p1 w1 H1 v l1 S1 r1 h1 => h1 w1 H1 v (Wd.le.refl w1) S1 r1⟩
theorem rs_retN : RS X C (.Return none pos) (sRet (mC .non)) := ps_retN.imp fun D σ H ⟨L, w, p, en, S, E, h⟩ => h w H .non (Wd.le.refl w) S rfl
def sIf (t : M Bool) (a b : S) : S := fun en p => (t en p).run en fun x p1 => if x = true then a en p1 else b en p1
theorem rs_if {c : Expr} {a b : List Stmt} {t : M Bool} {ma mb : S} (hc : RT X C c t) (ha : RSs X C a ma) (hb : RSs X C b mb) : RS X C (.If c a b pos) (sIf t ma mb) := (ps_if hc ha hb).imp fun D σ H ⟨L, w, p, en, S, E, h⟩ => by
  refine ⟨L, w, p, en, S, E, h.run E fun x p1 w1 H1 v l1 S1 r1 h1 => ?_⟩
  cases r1
  cases x with
  | true => exact iteT ⟨L, w1, p1, en, S1, E.mono l1, h1⟩
  | false => exact iteF ⟨L, w1, p1, en, S1, E.mono l1, h1⟩
/-! ### targets -/
/-- a target: the names' places and what they hold behind it -/
abbrev As := List (Nat × PV)
abbrev T1 := PV → Option As
abbrev TL := List PV → Option As
def En.set (en : En) (i : Nat) (x : PV) : En := ⟨en.b, en.sl.set i (some x)⟩
def En.sets (en : En) : As → En
  | [] => en
  | (i, x) :: r => (en.set i x).sets r
def setV (σ : St) : List (Nat × V) → St
  | [] => σ
  | (i, v) :: r => setV (σ.set i (some v)) r
theorem setV_append (σ : St) : ∀ as bs : List (Nat × V), setV σ (as ++ bs) = setV (setV σ as) bs
  | [], _ => rfl
  | (i, v) :: r, bs => setV_append _ r bs
theorem EnR.sets {L : Lv} {w : Wd} : ∀ {as : As} {bs : List (Nat × V)} {en : En} {σ : St}, EnR C L w en σ → bs.map (·.1) = as.map (·.1) → Reps C.Γ w (as.map (·.2)) (bs.map (·.2)) → EnR C L w (en.sets as) (setV σ bs)
  | [], [], _, _, E, _, _ => E
  | [], _ :: _, _, _, _, e, _ => by cases e
  | (i, x) :: as, [], _, _, _, e, _ => by cases e
  | (i, x) :: as, (j, v) :: bs, en, σ, E, e, r => by
    obtain ⟨u, us, eu, r1, r2⟩ := r
    rw [List.map_cons, List.cons.injEq] at eu
    obtain ⟨rfl, e2⟩ := eu
    rw [List.map_cons, List.map_cons, List.cons.injEq] at e
    obtain ⟨rfl, e3⟩ := e
    exact EnR.sets (bs := bs) (σ := σ.set j (some v)) (en := en.set j x) (E.set r1) e3 (by rw [show bs.map (·.2) = us from e2]; exact r2)
def wG (C : Cn) (m : T1) : TG := fun v σ H Q => ∃ L w p x as, SimP C.Γ L w p H ∧ Rep C.Γ w x v ∧ m x = some as ∧ ∀ bs : List (Nat × V), bs.map (·.1) = as.map (·.1) → Reps C.Γ w (as.map (·.2)) (bs.map (·.2)) → Q (setV σ bs) H
def wGs (C : Cn) (m : TL) : TGs := fun vs σ H Q => ∃ L w p xs as, SimP C.Γ L w p H ∧ Reps C.Γ w xs vs ∧ m xs = some as ∧ ∀ bs : List (Nat × V), bs.map (·.1) = as.map (·.1) → Reps C.Γ w (as.map (·.2)) (bs.map (·.2)) → Q (setV σ bs) H
abbrev RG (X : Cx) (C : Cn) (tg : Expr) (m : T1) : Prop := PG X tg (wG C m)
abbrev RGs (X : Cx) (C : Cn) (tg : List Expr) (m : TL) : Prop := PGs X tg (wGs C m)
theorem _root_.L2.PG.imp {X : Cx} {e : Expr} {t t' : TG} (h : PG X e t) (i : ∀ v σ H Q, t' v σ H Q → t v σ H Q) : PG X e t' := ⟨fun pins s σ H v u Q I r hq => h.run pins s σ H v u Q I r (i _ _ _ _ hq)⟩
theorem _root_.L2.PGs.imp {X : Cx} {e : List Expr} {t t' : TGs} (h : PGs X e t) (i : ∀ v σ H Q, t' v σ H Q → t v σ H Q) : PGs X e t' := ⟨fun pins s σ H v u Q I r hq => h.run pins s σ H v u Q I r (i _ _ _ _ hq)⟩
def tgN (i : Nat) : T1 := fun x => some [(i, x)]
theorem rg_name {i : Nat} {x : Str} (hN : X.N.Nodup) (hi : X.N[i]? = some x) (hx : L2.Loc X.env.scope x) (hf : X.fn x = true ∨ X.env.scope.names.lookup x = some .local := by first | exact .inl rfl | exact .inr rfl | assumption) : RG X C (.Name x pos) (tgN i) :=
  (pg_name hN hi hx hf).imp fun v σ H Q ⟨L, w, p, x, as, S, r, e, h⟩ => by
    cases e
    exact h [(i, v)] rfl ⟨v, [], rfl, r, rfl⟩
def tgNil : TL := fun xs => match xs with
  | [] => some []
  | _ => none
def tgCons (g : T1) (gs : TL) : TL := fun xs => match xs with
  | x :: r => match g x with
    | some as => match gs r with
      | some bs => some (as ++ bs)
      | none => none
    | none => none
  | [] => none
theorem rgs_nil : RGs X C [] tgNil := pgs_nil.imp fun v σ H Q ⟨L, w, p, xs, as, S, r, e, h⟩ => by
  cases xs with
  | nil =>
    cases e
    exact ⟨r, h [] rfl rfl⟩
  | cons _ _ => cases e
theorem rgs_cons {e : Expr} {es : List Expr} {g : T1} {gs : TL} (h1 : RG X C e g) (h2 : RGs X C es gs) (hs : (assignEach (e :: es) X.env).map (·.2) = assign e X.env :: (assignEach es X.env).map (·.2) := by rfl) : RGs X C (e :: es) (tgCons g gs) :=
  (pgs_cons h1 h2 hs).imp fun v σ H Q ⟨L, w, p, xs, as, S, r, e, h⟩ => by
    cases xs with
    | nil => cases e
    | cons x xs =>
      obtain ⟨u, us, e1, r1, r2⟩ := r
      refine ⟨u, us, e1, ?_⟩
      unfold tgCons at e
      dsimp only at e
      cases e2 : g x with
      | none =>
        rw [e2] at e
        cases e
      | some as1 =>
        cases e3 : gs xs with
        | none =>
          rw [e2, e3] at e
          cases e
        | some as2 =>
          rw [e2, e3] at e
          cases e
          refine ⟨L, w, p, x, as1, S, r1, e2, fun bs1 f1 q1 => ⟨L, w, p, xs, as2, S, r2, e3, fun bs2 f2 q2 => ?_⟩⟩
          rw [← setV_append]
          refine h _ ?_ ?_
          · rw [List.map_append, List.map_append, f1, f2]
          · rw [List.map_append, List.map_append]
            exact q1.append q2
def tgT (n : Nat) (gs : TL) : T1 := fun x => match x with
  | .tup xs => if xs.length = n then gs xs else none
  | _ => none
theorem rg_tup {es : List Expr} {k : Nat} {gs : TL} {n : Nat} (hc : X.calm = true) (hK : X.K = C.Γ.K) (h : RGs X C es gs) (hn : (assignEach es X.env).length = n := by rfl) (hst : (assignEach es X.env).findIdx? (·.1) = none := by rfl) : RG X C (.Tuple es k pos) (tgT n gs) :=
  (pg_tup hc h hn hst).imp fun v σ H Q ⟨L, w, p, x, as, S, r, e, h⟩ => by
    cases x with
    | tup xs =>
      obtain ⟨a, vs, e1, q, r⟩ := r
      unfold tgT at e
      dsimp only at e
      split at e
      · rename_i hl
        exact ⟨a, vs, e1, by rw [hK]; exact seqT_mono S.sub q, by rw [← r.length]; exact hl, L, w, p, xs, as, S, r, e, h⟩
      · cases e
    | _ => cases e
def sAsg (a : M PV) (g : T1) : S := fun en p => (a en p).run en fun x p1 => match g x with
  | some as => .next (en.sets as) p1
  | none => .stuck
theorem rs_asg {tg e : Expr} {a : M PV} {g : T1} (ha : RE X C e a) (hg : RG X C tg g) (h1 : swapsWithSole [tg] e pos.line X.env = pure false := by rfl) (h2 : swappedStores [tg] e X.env = pure none := by rfl)
    (h3 : (assignEach [tg] X.env).map (·.2) = [assign tg X.env] := by rfl) : RS X C (.Assign [tg] e pos) (sAsg a g) := (ps_asg ha hg h1 h2 h3).imp fun D σ H ⟨L, w, p, en, S, E, h⟩ => by
  refine ⟨L, w, p, en, S, E, h.run E fun x p1 w1 H1 v l1 S1 r1 h1 => ?_⟩
  split at h1
  · rename_i as e1
    exact ⟨L, w1, p1, x, as, S1, r1, e1, fun bs f q => h1 w1 H1 _ (Wd.le.refl w1) S1 ((E.mono l1).sets f q)⟩
  · exact h1.elim
def sSet (a : M PV) (i : Nat) : S := fun en p => (a en p).run en fun x p1 => .next (en.set i x) p1
theorem rs_set {i : Nat} {x : Str} {e : Expr} {a : M PV} {pos' : Pos} (hN : X.N.Nodup) (hi : X.N[i]? = some x) (hx : L2.Loc X.env.scope x) (ha : RE X C e a) (h1 : swapsWith e (some (.Name x pos')) pos.line X.env = pure false := by rfl)
    (hf : X.fn x = true ∨ X.env.scope.names.lookup x = some .local := by first | exact .inl rfl | exact .inr rfl | assumption) : RS X C (.Assign [.Name x pos'] e pos) (sSet a i) := (ps_set hN hi hx ha h1 hf).imp fun D σ H ⟨L, w, p, en, S, E, h⟩ => by
  refine ⟨L, w, p, en, S, E, h.run E fun x p1 w1 H1 v l1 S1 r1 h1 => ?_⟩
  exact h1 w1 H1 _ (Wd.le.refl w1) S1 ((E.mono l1).set r1)
/-- a, b = x, y -/
def sPar (i j : Nat) (a : M (List PV)) : S := fun en p => (a en p).run en fun xs p1 => match xs with
  | [x, y] => .next ((en.set i x).set j y) p1
  | _ => .stuck
theorem rs_par {i j : Nat} {x y : Str} {a b : Expr} {ma : M (List PV)} {px py pt : Pos} {kt k2 : Nat} {pt2 : Pos} (hc : X.calm = true) (hN : X.N.Nodup) (hi : X.N[i]? = some x) (hj : X.N[j]? = some y) (hij : i ≠ j) (lx : X.env.scope.names.lookup x = some .local) (ly : X.env.scope.names.lookup y = some .local)
    (ha : RA X C [a, b] ma) (h1 : swappedStores [.Tuple [.Name x px, .Name y py] kt pt] (.Tuple [a, b] k2 pt2) X.env = pure (some [x, y]))
    (h2 : swapsWithSole [.Tuple [.Name x px, .Name y py] kt pt] (.Tuple [a, b] k2 pt2) pos.line X.env = pure false := by rfl) : RS X C (.Assign [.Tuple [.Name x px, .Name y py] kt pt] (.Tuple [a, b] k2 pt2) pos) (sPar i j ma) :=
  (ps_par hc hN hi hj hij lx ly ha.pa h1 h2).imp fun D σ H ⟨L, w, p, en, S, E, h⟩ => by
    refine ⟨L, w, p, en, S, E, h.run E fun xs p1 w1 H1 vs l1 S1 r1 h1 => ?_⟩
    split at h1
    · rename_i x y
      obtain ⟨v, r, rfl, rx, r⟩ := r1
      obtain ⟨u, r', rfl, ry, r⟩ := r
      obtain rfl : r' = [] := r
      exact ⟨v, u, rfl, h1 w1 H1 _ (Wd.le.refl w1) S1 (((E.mono l1).set rx).set ry)⟩
    · exact h1.elim
def sAug (i : Nat) (f : F2) (a : M PV) : S := fun en p => match en.sl[i]? with
  | some (some x) => (a en p).run en fun y p1 => (f x y p1).run en fun z p2 => .next (en.set i z) p2
  | _ => .stuck
theorem rs_aug {i : Nat} {x : Str} {e : Expr} {op : Operator} {ti : TIp} {f : F2} {a : M PV} {pos' : Pos} (hN : X.N.Nodup) (hi : X.N[i]? = some x) (hx : L2.Loc X.env.scope x) (ha : RE X C e a) (hp : PIp X op ti) (hr : RefO C ti f)
    (hf : X.fn x = true ∨ X.env.scope.names.lookup x = some .local := by first | exact .inl rfl | exact .inr rfl | assumption) : RS X C (.AugAssign (.Name x pos') op e pos) (sAug i f a) := (ps_aug hN hi hx ha hp hf).imp fun D σ H ⟨L, w, p, en, S, E, h⟩ => by
  unfold sAug at h
  split at h
  · rename_i x e1
    obtain ⟨v, e2, rx⟩ := E.val i x e1
    refine ⟨v, e2, L, w, p, en, S, E, h.run E fun y p1 w1 H1 u l1 S1 r1 h1 => ?_⟩
    refine hr L w1 p1 H1 σ x y v u _ S1 (rx.mono l1) r1 (h1.run (E.mono l1) fun z p2 w2 H2 o l2 S2 r2 h2 => ?_)
    exact h2 w2 H2 _ (Wd.le.refl w2) S2 (((E.mono l1).mono l2).set r2)
  · exact h.elim
end
end R

/-! R3: operators, items, slices, values of objects, built-in functions, stores, loops -/
namespace R
open PySem L2

theorem OpR.or {X : Cx} {f : Value → Value → Sem Value} {r r' : R2} (h : OpR X f r) (h' : OpR X f r') : OpR X f (fun x y H Q => r x y H Q ∨ r' x y H Q) := fun pins s σ H x y v u Q I rx ry q => by
  rcases q with q | q
  · exact h pins s σ H x y v u Q I rx ry q
  · exact h' pins s σ H x y v u Q I rx ry q
theorem CallR.or {X : Cx} {f : Value} {r r' : List V → Hp → VK → Prop} (h : CallR X f r) (h' : CallR X f r') : CallR X f (fun xs H Q => r xs H Q ∨ r' xs H Q) := fun pins s σ H xs us Q I rx q => by
  rcases q with q | q
  · exact h pins s σ H xs us Q I rx q
  · exact h' pins s σ H xs us Q I rx q

/-! ### lists as they stand -/
def getL (p : Pool) : PV → Option (List PV)
  | .lst xs => some xs
  | .own k => match p[k]? with
    | some (.lst xs) => some xs
    | _ => none
  | _ => none
/-- .. or the script -/
def getR (p : Pool) : PV → Option (List PV)
  | .scr ns => some (ns.map .int)
  | x => getL p x
def getQ (p : Pool) : PV → Option (List PV)
  | .tup xs => some xs
  | x => getR p x
section
variable {Γ : Cfg} {L : Lv} {w : Wd} {p : Pool} {H : Hp}
theorem Rep.ownH (S : SimP Γ L w p H) {k : Nat} {v : V} {xs : List PV} (r : Rep Γ w (.own k) v) (e : p[k]? = some (.lst xs)) : ∃ a vs, v = .ref a ∧ w.ρ[k]? = some a ∧ w.G a = none ∧ H a = some (.lst vs) ∧ Reps Γ (w.low (L.lo k)) xs vs := by
  obtain ⟨a, ha, rfl⟩ := r
  obtain ⟨b, hb, hc⟩ := S.at e
  rw [ha] at hb
  cases hb
  obtain ⟨g, vs, eH, r⟩ := hc
  rw [Wd.low_G] at g
  exact ⟨a, vs, rfl, ha, g, eH, r⟩
/-- a list that is no other's: as it stands -/
theorem getL_at (S : SimP Γ L w p H) {x : PV} {v : V} {xs : List PV} (r : Rep Γ w x v) (e : getL p x = some xs) : ∃ a vs, v = .ref a ∧ H a = some (.lst vs) ∧ Reps Γ w xs vs := by
  cases x with
  | lst ys =>
    cases e
    obtain ⟨a, vs, ev, q, r⟩ := r
    exact ⟨a, vs, ev, S.sub _ _ q, r⟩
  | own k =>
    unfold getL at e
    dsimp only at e
    split at e
    · rename_i ys ey
      cases e
      obtain ⟨a, vs, ev, _, _, eH, r⟩ := Rep.ownH S r ey
      exact ⟨a, vs, ev, eH, r.mono (w.low_le _)⟩
    · cases e
  | _ => cases e
theorem getR_ok (S : SimP Γ L w p H) {x : PV} {v : V} {xs : List PV} (r : Rep Γ w x v) (e : getR p x = some xs) : ∃ a vs, v = .ref a ∧ SqL Γ.K H a vs ∧ Reps Γ w xs vs := by
  cases x with
  | scr ns =>
    cases e
    obtain ⟨a, ev, q⟩ := r
    exact ⟨a, _, ev, seqL_mono S.sub q, Reps.ints⟩
  | _ =>
    obtain ⟨a, vs, ev, q, r⟩ := getL_at S r e
    exact ⟨a, vs, ev, .inl (.inl q), r⟩
theorem getQ_ok (S : SimP Γ L w p H) {x : PV} {v : V} {xs : List PV} (r : Rep Γ w x v) (e : getQ p x = some xs) : ∃ a vs, v = .ref a ∧ (SqL Γ.K H a vs ∨ SqT Γ.K H a vs) ∧ Reps Γ w xs vs := by
  cases x with
  | tup ys =>
    cases e
    obtain ⟨a, vs, ev, q, r⟩ := r
    exact ⟨a, vs, ev, .inr (seqT_mono S.sub q), r⟩
  | _ =>
    obtain ⟨a, vs, ev, q, r⟩ := getR_ok S r e
    exact ⟨a, vs, ev, .inl q, r⟩
end

section
variable {X : Cx} {C : Cn} {pos : Pos}
/-! ### numbers -/
def f2I (g : Int → Int → PV) : F2 := fun x y p => match x, y with
  | .int i, .int j => .ok (g i j) p
  | _, _ => .stuck
def f2C (c : Int → Int → Bool) (g : Int → Int → PV) : F2 := fun x y p => match x, y with
  | .int i, .int j => if c i j = true then .ok (g i j) p else .stuck
  | _, _ => .stuck
theorem ref_I0 {g : Int → Int → PV} {h : Int → Int → V} (e : ∀ w i j, Rep C.Γ w (g i j) (h i j)) : RefO C (rI0 h) (f2I g) := fun L w p H σ x y vx vy Q S rx ry q => by
  unfold f2I at q
  split at q
  · rename_i i j
    exact ⟨i, j, rx, ry, q.ok S (e w i j)⟩
  · exact q.elim
theorem ref_I {c : Int → Int → Bool} {P : Int → Int → Prop} {g : Int → Int → PV} {h : Int → Int → V} (e : ∀ w i j, Rep C.Γ w (g i j) (h i j)) (hc : ∀ i j, c i j = true → P i j) : RefO C (rI P h) (f2C c g) := fun L w p H σ x y vx vy Q S rx ry q => by
  unfold f2C at q
  split at q
  · rename_i i j
    split at q
    · rename_i hh
      exact ⟨i, j, rx, ry, hc i j hh, q.ok S (e w i j)⟩
    · exact q.elim
  · exact q.elim
def pSub : F2 := f2I fun i j => .int (i - j)
theorem ref_sub : RefO C (rI0 fun i j => .int (i - j)) pSub := ref_I0 fun _ _ _ => rfl
def pLt : F2 := f2I fun i j => .bl (decide (i < j))
def pLe : F2 := f2I fun i j => .bl (decide (i ≤ j))
def pGt : F2 := f2I fun i j => .bl (decide (j < i))
def pGe : F2 := f2I fun i j => .bl (decide (j ≤ i))
def okMod (i j : Int) : Bool := decide (j ≠ 0)
def pMod : F2 := f2C okMod fun i j => .int (i.fmod j)
theorem ref_mod : RefO C (rI (fun i j => j ≠ 0) fun i j => .int (i.fmod j)) pMod := ref_I (fun _ _ _ => rfl) fun i j h => of_decide_eq_true h
def okDiv (i j : Int) : Bool := decide (j ≠ 0 ∧ (j.natAbs < 1073741824 ∨ (0 < j ∧ j.natAbs.log2 < 9000)))
def pDiv : F2 := f2C okDiv fun i j => .int (i.fdiv j)
def rDiv : R2 := fun x y H Q => rI CDivN (fun i j => .int (i.fdiv j)) x y H Q ∨ rI CDivW (fun i j => .int (i / j)) x y H Q
theorem op_div : OpR X (binaryOp .FloorDiv) rDiv := OpR.or op_fdivN op_fdivW
theorem ref_div : RefO C rDiv pDiv := fun L w p H σ x y vx vy Q S rx ry q => by
  unfold pDiv f2C at q
  split at q
  · rename_i i j
    split at q
    · rename_i hh
      obtain ⟨h0, h1 | ⟨h1, h2⟩⟩ := of_decide_eq_true hh
      · exact .inl ⟨i, j, rx, ry, ⟨h0, h1⟩, q.ok S rfl⟩
      · refine .inr ⟨i, j, rx, ry, ⟨h1, h2⟩, ?_⟩
        have e : i / j = i.fdiv j := (Int.fdiv_eq_ediv_of_nonneg i (by omega)).symm
        show Q (V.int (i / j)) H
        rw [e]
        exact q.ok S rfl
    · exact q.elim
  · exact q.elim
def okPow (i j : Int) : Bool := decide (0 ≤ j ∧ j ≤ 1000000 ∧ i.natAbs < 2 ^ 64)
def pPow : F2 := f2C okPow fun i j => .int (i ^ j.toNat)
theorem ref_pow : RefO C (rI CPow fun i j => .int (i ^ j.toNat)) pPow := ref_I (fun _ _ _ => rfl) fun i j h => show 0 ≤ j ∧ j ≤ 1000000 ∧ i.natAbs < 2 ^ 64 from of_decide_eq_true h
/-! ### +, *: numbers, lists, tuples -/
def rAdd : R2 := fun x y H Q => rI0 (fun i j => .int (i + j)) x y H Q ∨ (rCatA C.Γ.K x y H Q ∨ rCat x y H Q)
theorem op_addU (hK : X.K = C.Γ.K) : OpR X (binaryOp .Add) (rAdd (C := C)) := by
  have h : OpR X (binaryOp .Add) (rCatA C.Γ.K) := hK ▸ op_catA
  exact OpR.or op_add (OpR.or h op_cat)
def pAdd : F2 := fun x y p => match x, y with
  | .int i, .int j => .ok (.int (i + j)) p
  | .tup xs, .tup ys => if xs.length + ys.length ≤ big then .ok (.tup (xs ++ ys)) p else .stuck
  | x, y => match getL p x, getL p y with
    | some xs, some ys => if xs.length + ys.length ≤ big then .ok (.lst (xs ++ ys)) p else .stuck
    | _, _ => .stuck
theorem Reps.isNil {Γ : Cfg} {w : Wd} {xs : List PV} {vs : List V} (r : Reps Γ w xs vs) : xs = [] ↔ vs = [] := by
  have h := r.length
  constructor
  · rintro rfl
    exact List.eq_nil_of_length_eq_zero h.symm
  · rintro rfl
    exact List.eq_nil_of_length_eq_zero h
theorem ref_add : RefO C (rAdd (C := C)) pAdd := fun L w p H σ x y vx vy Q S rx ry q => by
  unfold pAdd at q
  split at q
  · rename_i i j
    exact .inl ⟨i, j, rx, ry, q.ok S rfl⟩
  · rename_i xs ys
    split at q
    · rename_i hl
      obtain ⟨a, vs, ea, sa, ra⟩ := rx
      obtain ⟨b, us, eb, sb, rb⟩ := ry
      refine .inr (.inl ⟨a, b, vs, us, ea, eb, seqT_mono S.sub sa, seqT_mono S.sub sb, ?_, fun z => ?_, fun z1 z2 => ?_, fun _ _ => ?_⟩)
      · rw [← ra.length, ← rb.length]
        exact big_le hl
      · have e := ra.isNil.mpr z
        subst e
        rw [← eb]
        exact q.ok S ⟨b, us, eb, sb, rb⟩
      · have e := rb.isNil.mpr z2
        subst e
        rw [← ea]
        refine q.ok S ⟨a, vs, ea, sa, ?_⟩
        rw [List.append_nil]
        exact ra
      · exact newTup S (ra.append rb) q
    · exact q.elim
  · rename_i x y _ _
    split at q
    · rename_i xs ys e1 e2
      split at q
      · rename_i hl
        obtain ⟨a, vs, ea, sa, ra⟩ := getL_at S rx e1
        obtain ⟨b, us, eb, sb, rb⟩ := getL_at S ry e2
        exact .inr (.inr ⟨a, b, vs, us, ea, eb, sa, sb, by rw [← ra.length, ← rb.length]; exact big_le hl, newLst S (ra.append rb) q⟩)
      · exact q.elim
    · exact q.elim
def okMul (i j : Int) : Bool := decide (((-(2 ^ 64) < i ∧ i < 2 ^ 64) ∨ (-(2 ^ 64) < j ∧ j < 2 ^ 64)) ∨ i.natAbs.log2 + j.natAbs.log2 < 1000000)
def rMul : R2 := fun x y H Q => rI CMul (fun i j => .int (i * j)) x y H Q ∨ rI CMulW (fun i j => .int (i * j)) x y H Q ∨ rRep x y H Q
theorem op_mulU : OpR X (binaryOp .Mult) rMul := OpR.or op_mul (OpR.or op_mulW op_rep)
/-- so many times the same -/
def times (n : Nat) (xs : List PV) : List PV := (List.replicate n xs).flatten
def pMul : F2 := fun x y p => match x, y with
  | .int i, .int j => if okMul i j = true then .ok (.int (i * j)) p else .stuck
  | x, .int k => match getL p x with
    | some xs => if k ≤ 1000 ∧ -1000 ≤ k ∧ xs.length * k.toNat ≤ big then .ok (.lst (times k.toNat xs)) p else .stuck
    | _ => .stuck
  | _, _ => .stuck
theorem Reps.times {Γ : Cfg} {w : Wd} {xs : List PV} {vs : List V} (r : Reps Γ w xs vs) : ∀ n : Nat, Reps Γ w (R.times n xs) (List.replicate n vs).flatten
  | 0 => rfl
  | n + 1 => by
    show Reps Γ w (List.replicate (n + 1) xs).flatten (List.replicate (n + 1) vs).flatten
    rw [List.replicate_succ, List.replicate_succ, List.flatten_cons, List.flatten_cons]
    exact r.append (Reps.times r n)
theorem ref_mul : RefO C rMul pMul := fun L w p H σ x y vx vy Q S rx ry q => by
  unfold pMul at q
  split at q
  · rename_i i j
    split at q
    · rename_i hh
      rcases of_decide_eq_true hh with h | h
      · exact .inl ⟨i, j, rx, ry, h, q.ok S rfl⟩
      · exact .inr (.inl ⟨i, j, rx, ry, h, q.ok S rfl⟩)
    · exact q.elim
  · rename_i k _
    split at q
    · rename_i xs e
      split at q
      · rename_i hl
        obtain ⟨a, vs, ea, sa, ra⟩ := getL_at S rx e
        exact .inr (.inr ⟨a, k, vs, ea, ry, sa, by omega, by omega, by rw [← ra.length]; exact big_le hl.2.2, newLst S (ra.times _) q⟩)
      · exact q.elim
    · exact q.elim
  · exact q.elim
/-! ### == -/
mutual
/-- as data -/
def toD : PV → Option PyData
  | .non => some .none
  | .bl b => some (.bool b)
  | .int i => some (.int i)
  | .str s => some (.str s)
  | .tup xs => match toDs xs with
    | some ds => some (.tuple ds)
    | none => none
  | .lst xs => match toDs xs with
    | some ds => some (.list ds)
    | none => none
  | _ => none
def toDs : List PV → Option (List PyData)
  | [] => some []
  | x :: xs => match toD x with
    | some d => match toDs xs with
      | some ds => some (d :: ds)
      | none => none
    | none => none
end
mutual
theorem toD_ok {L : Lv} {w : Wd} {p : Pool} {H : Hp} (S : SimP C.Γ L w p H) : ∀ {x : PV} {v : V} {d : PyData}, Rep C.Γ w x v → toD x = some d → Dp C.Γ.K H v d
  | .non, v, d, r, e => by
    cases e
    cases r
    exact .non
  | .bl b, v, d, r, e => by
    cases e
    cases r
    exact .bl _
  | .int i, v, d, r, e => by
    cases e
    cases r
    exact .int _
  | .str s, v, d, r, e => by
    cases e
    cases r
    exact .str _
  | .tup xs, v, d, r, e => by
    obtain ⟨a, vs, rfl, q, r⟩ := r
    unfold toD at e
    split at e
    · rename_i ds ed
      cases e
      exact .tup (seqT_mono S.sub q) (toDs_ok S r ed)
    · cases e
  | .lst xs, v, d, r, e => by
    obtain ⟨a, vs, rfl, q, r⟩ := r
    unfold toD at e
    split at e
    · rename_i ds ed
      cases e
      exact .lst (.inl (.inl (S.sub _ _ q))) (toDs_ok S r ed)
    · cases e
  | .obj _ _, _, _, _, e => by cases e
  | .own _, _, _, _, e => by cases e
  | .scr _, _, _, _, e => by cases e
theorem toDs_ok {L : Lv} {w : Wd} {p : Pool} {H : Hp} (S : SimP C.Γ L w p H) : ∀ {xs : List PV} {vs : List V} {ds : List PyData}, Reps C.Γ w xs vs → toDs xs = some ds → DpAll C.Γ.K H vs ds
  | [], vs, ds, r, e => by
    cases e
    cases r
    exact .nil
  | x :: xs, vs, ds, r, e => by
    obtain ⟨v, us, rfl, r1, r2⟩ := r
    unfold toDs at e
    split at e
    · rename_i d ed
      split at e
      · rename_i zs ez
        cases e
        exact .cons (toD_ok S r1 ed) (toDs_ok S r2 ez)
      · cases e
    · cases e
end
def eqD (x y : PV) : Option Bool := match toD x, toD y with
  | some d, some e => if SeqAt.shaped d = true ∧ SeqAt.shaped e = true then some (PyData.eqv d e) else none
  | _, _ => none
def pEq : F2 := fun x y p => match eqD x y with
  | some b => .ok (.bl b) p
  | none => .stuck
def pNe : F2 := fun x y p => match eqD x y with
  | some b => .ok (.bl (!b)) p
  | none => .stuck
theorem ref_eq : RefO C (rEqD C.Γ.K) pEq := fun L w p H σ x y vx vy Q S rx ry q => by
  unfold pEq eqD at q
  cases e1 : toD x with
  | none =>
    rw [e1] at q
    exact q.elim
  | some d =>
    cases e2 : toD y with
    | none =>
      rw [e1, e2] at q
      exact q.elim
    | some e =>
      rw [e1, e2] at q
      dsimp only at q
      by_cases hs : SeqAt.shaped d = true ∧ SeqAt.shaped e = true
      · rw [if_pos hs] at q
        exact ⟨d, e, toD_ok S rx e1, toD_ok S ry e2, hs.1, hs.2, q.ok S rfl⟩
      · rw [if_neg hs] at q
        exact q.elim
theorem ref_ne : RefO C (rNeD C.Γ.K) pNe := fun L w p H σ x y vx vy Q S rx ry q => by
  unfold pNe eqD at q
  cases e1 : toD x with
  | none =>
    rw [e1] at q
    exact q.elim
  | some d =>
    cases e2 : toD y with
    | none =>
      rw [e1, e2] at q
      exact q.elim
    | some e =>
      rw [e1, e2] at q
      dsimp only at q
      by_cases hs : SeqAt.shaped d = true ∧ SeqAt.shaped e = true
      · rw [if_pos hs] at q
        exact ⟨d, e, toD_ok S rx e1, toD_ok S ry e2, hs.1, hs.2, q.ok S rfl⟩
      · rw [if_neg hs] at q
        exact q.elim
/-- is None, is not None -/
def isNon : PV → Bool
  | .non => true
  | _ => false
theorem isNon_ok {Γ : Cfg} {w : Wd} {x : PV} {v : V} (r : Rep Γ w x v) : decide (v = .non) = isNon x := by
  cases x with
  | non =>
    cases r
    rfl
  | bl b =>
    cases r
    rfl
  | int i =>
    cases r
    rfl
  | str s =>
    cases r
    rfl
  | tup xs =>
    obtain ⟨a, vs, rfl, _⟩ := r
    rfl
  | lst xs =>
    obtain ⟨a, vs, rfl, _⟩ := r
    rfl
  | obj c xs =>
    obtain ⟨a, dx, vs, rfl, _⟩ := r
    rfl
  | own k =>
    obtain ⟨a, _, rfl⟩ := r
    rfl
  | scr ns =>
    obtain ⟨a, rfl, _⟩ := r
    rfl
  | xs c t =>
    obtain ⟨a, t1, rfl, _⟩ := r
    rfl
  | xv c x =>
    obtain ⟨a, d, u, rfl, _⟩ := r
    rfl
  | fn k =>
    have r : v = V.ref (Γ.cls k) := r
    subst r
    rfl
def pIsN : F2 := fun x _ p => .ok (.bl (isNon x)) p
def pNotN : F2 := fun x _ p => .ok (.bl (!isNon x)) p
theorem ref_isN : RefO C (fun x y H Q => y = V.non ∧ Q (V.bl (decide (x = V.non))) H) (fun x y p => match y with
  | .non => .ok (.bl (isNon x)) p
  | _ => .stuck) := fun L w p H σ x y vx vy Q S rx ry q => by
  cases y with
  | non =>
    cases ry
    exact ⟨rfl, by rw [isNon_ok rx]; exact q.ok S rfl⟩
  | _ => exact q.elim
/-! ### items -/
theorem atI_rep {Γ : Cfg} {w : Wd} {xs : List PV} {vs : List V} (r : Reps Γ w xs vs) {i : Int} {x : PV} (h : atI xs i = some x) : ∃ v, atI vs i = some v ∧ Rep Γ w x v := by
  unfold atI at h ⊢
  rw [← r.length]
  cases e : ixN xs.length i with
  | none =>
    rw [e] at h
    cases h
  | some j =>
    rw [e] at h
    exact r.get h
def pIx : F2 := fun x y p => match y with
  | .int i => match getQ p x with
    | some xs => match atI xs i with
      | some z => .ok z p
      | none => .stuck
    | none => .stuck
  | _ => .stuck
theorem ref_ix : RefO C (rIx C.Γ.K) pIx := fun L w p H σ x y vx vy Q S rx ry q => by
  unfold pIx at q
  split at q
  · rename_i i
    split at q
    · rename_i xs e
      split at q
      · rename_i z ez
        obtain ⟨a, vs, rfl, h, r⟩ := getQ_ok S rx e
        obtain ⟨v, ev, rv⟩ := atI_rep r ez
        rcases h with h | h
        · exact .inl ⟨a, vs, i, v, rfl, ry, h, ev, q.ok S rv⟩
        · exact .inr (.inl ⟨a, vs, i, v, rfl, ry, h, ev, q.ok S rv⟩)
      · exact q.elim
    · exact q.elim
  · exact q.elim
theorem re_ix {a b : Expr} {ma mb : M PV} (hK : X.K = C.Γ.K) (ha : RE X C a ma) (hb : RE X C b mb) (hp : PlainIx b := by exact fun _ _ => rfl) : RE X C (.Subscript a b pos) (mBin pIx ma mb) := by
  have h : IxR X (rIx C.Γ.K) := hK ▸ ix_seq
  exact (pe_ix h ha hb hp).imp (wE_op ref_ix)
/-! ### slices -/
def cut (xs : List PV) (lo hi : Option Int) : List PV := (xs.drop (HT.sIx xs.length 0 lo)).take (HT.sIx xs.length xs.length hi - HT.sIx xs.length 0 lo)
theorem cut_rep {Γ : Cfg} {w : Wd} {xs : List PV} {vs : List V} (r : Reps Γ w xs vs) (lo hi : Option Int) : Reps Γ w (cut xs lo hi) (cutV vs lo hi) := by
  unfold cut cutV
  rw [← r.length]
  exact (r.drop _).take _
def wO (C : Cn) (m : M (Option Int)) : TO := fun σ H Q => ∃ L w p en, SimP C.Γ L w p H ∧ EnR C L w en σ ∧ Post C L w σ (fun _ (a b : Option Int) => a = b) (m en p) Q
theorem _root_.L2.PO.imp {X : Cx} {e : Option Expr} {t t' : TO} (h : PO X e t) (i : ∀ σ H Q, t' σ H Q → t σ H Q) : PO X e t' := ⟨fun pins s σ H Q I hq => h.run pins s σ H Q I (i _ _ _ hq)⟩
def oNo : M (Option Int) := fun _ p => .ok none p
def oYes (a : M PV) : M (Option Int) := fun en p => (a en p).bind fun x p1 => match x with
  | .int i => .ok (some i) p1
  | _ => .stuck
abbrev RO (X : Cx) (C : Cn) (e : Option Expr) (m : M (Option Int)) : Prop := PO X e (wO C m)
theorem ro_none : RO X C none oNo := po_none.imp fun σ H Q ⟨L, w, p, en, S, E, h⟩ => h.ok S rfl
theorem ro_some {e : Expr} {a : M PV} (h : RE X C e a) : RO X C (some e) (oYes a) := (po_some h).imp fun σ H Q ⟨L, w, p, en, S, E, h⟩ => by
  refine ⟨L, w, p, en, S, E, h.bind fun x p1 w1 H1 v l1 S1 r1 h1 => ?_⟩
  cases x with
  | int i => exact ⟨i, r1, h1.ok S1 rfl⟩
  | _ => exact h1.elim
def mSl (a : M PV) (lo hi : M (Option Int)) : M PV := fun en p => (a en p).bind fun x p1 => (lo en p1).bind fun l p2 => (hi en p2).bind fun h p3 => match x with
  | .tup xs => .ok (.tup (cut xs l h)) p3
  | x => match getR p3 x with
    | some xs => .ok (.lst (cut xs l h)) p3
    | none => .stuck
theorem HT_whole {n : Nat} {lo hi : Option Int} {xs : List PV} (hn : xs.length = n) (h1 : HT.sIx n 0 lo = 0) (h2 : HT.sIx n n hi = n) : cut xs lo hi = xs := by
  subst hn
  unfold cut
  rw [h1, h2, List.drop_zero, Nat.sub_zero, List.take_length]
theorem re_sl {e : Expr} {lo hi : Option Expr} {a : M PV} {ml mh : M (Option Int)} {p2 : Pos} (hK : X.K = C.Γ.K) (ha : RE X C e a) (hl : RO X C lo ml) (hh : RO X C hi mh) : RE X C (.Subscript e (.Slice lo hi none p2) pos) (mSl a ml mh) := by
  have h1 : SlR X (rSlL C.Γ.K) := hK ▸ sl_list
  have h2 : SlR X (rSlA C.Γ.K) := hK ▸ sl_tupA
  refine (pe_slice (h1.or h2) ha hl hh).imp fun σ H Q ⟨L, w, p, en, S, E, h⟩ => ?_
  refine ⟨L, w, p, en, S, E, h.bind fun x p1 w1 H1 v l1 S1 r1 h1 => ?_⟩
  refine ⟨L, w1, p1, en, S1, E.mono l1, h1.bind fun lo p2 w2 H2 lo' l2 S2 r2 h2 => ?_⟩
  cases r2
  refine ⟨L, w2, p2, en, S2, E.mono (l1.trans l2), h2.bind fun hi p3 w3 H3 hi' l3 S3 r3 h3 => ?_⟩
  cases r3
  have r1 := (r1.mono l2).mono l3
  split at h3
  · rename_i xs
    obtain ⟨b, vs, eb, hq, rr⟩ := r1
    refine .inr ⟨b, vs, eb, seqT_mono S3.sub hq, fun z => ?_, fun _ => newTup S3 (cut_rep rr lo hi) h3⟩
    refine h3.ok S3 ?_
    rw [HT_whole rr.length z.1 z.2]
    exact ⟨b, vs, rfl, hq, rr⟩
  · rename_i x _
    split at h3
    · rename_i xs ex
      obtain ⟨b, vs, eb, hq, rr⟩ := getR_ok S3 r1 ex
      exact .inl ⟨b, vs, eb, hq, newLst S3 (cut_rep rr lo hi) h3⟩
    · exact h3.elim
end
end R

/-! R4: values of objects, built-in functions, methods of lists, stores, loops -/
namespace R
open PySem L2

mutual
/-- no cell's number below in it but those under n -/
def bel (n : Nat) : PV → Bool
  | .tup xs => bels n xs
  | .lst xs => bels n xs
  | .obj _ xs => bels n xs
  | .own k => decide (k < n)
  | .xv _ x => bel n x
  | _ => true
def bels (n : Nat) : List PV → Bool
  | [] => true
  | x :: xs => bel n x && bels n xs
end
mutual
theorem Rep.below {Γ : Cfg} {w : Wd} {n : Nat} : ∀ {x : PV} {v : V}, Rep Γ w x v → bel n x = true → Rep Γ ⟨w.G, w.ρ.take n⟩ x v
  | .non, _, h, _ => h
  | .bl _, _, h, _ => h
  | .int _, _, h, _ => h
  | .str _, _, h, _ => h
  | .tup xs, v, h, e => by
    obtain ⟨a, vs, ev, s, r⟩ := h
    exact ⟨a, vs, ev, s, Reps.below r e⟩
  | .lst xs, v, h, e => by
    obtain ⟨a, vs, ev, s, r⟩ := h
    exact ⟨a, vs, ev, s, Reps.below r e⟩
  | .obj c xs, v, h, e => by
    obtain ⟨a, dx, vs, ev, g, d, m, r⟩ := h
    exact ⟨a, dx, vs, ev, g, d, m, Reps.below r e⟩
  | .own k, v, h, e => by
    obtain ⟨a, ha, ev⟩ := h
    refine ⟨a, ?_, ev⟩
    show (w.ρ.take n)[k]? = some a
    rw [List.getElem?_take_of_lt (of_decide_eq_true e)]
    exact ha
  | .scr ns, v, h, _ => h
  | .xs c t, v, h, _ => h
  | .xv c x, v, h, e => by
    obtain ⟨a, d, u, ev, g, g2, r⟩ := h
    exact ⟨a, d, u, ev, g, g2, Rep.below r e⟩
  | .fn _, _, h, _ => h
theorem Reps.below {Γ : Cfg} {w : Wd} {n : Nat} : ∀ {xs : List PV} {vs : List V}, Reps Γ w xs vs → bels n xs = true → Reps Γ ⟨w.G, w.ρ.take n⟩ xs vs
  | [], _, h, _ => h
  | x :: xs, vs, h, e => by
    obtain ⟨v, r, ev, h1, h2⟩ := h
    unfold bels at e
    rw [Bool.and_eq_true] at e
    exact ⟨v, r, ev, Rep.below h1 e.1, Reps.below h2 e.2⟩
end
mutual
theorem bel_mono {m n : Nat} (h : m ≤ n) : ∀ {x : PV}, bel m x = true → bel n x = true
  | .non, _ => rfl
  | .bl _, _ => rfl
  | .int _, _ => rfl
  | .str _, _ => rfl
  | .tup xs, e => bels_mono h (xs := xs) e
  | .lst xs, e => bels_mono h (xs := xs) e
  | .obj c xs, e => bels_mono h (xs := xs) e
  | .own k, e => decide_eq_true (Nat.lt_of_lt_of_le (of_decide_eq_true e) h)
  | .scr _, _ => rfl
  | .xs _ _, _ => rfl
  | .xv _ x, e => bel_mono h (x := x) e
  | .fn _, _ => rfl
theorem bels_mono {m n : Nat} (h : m ≤ n) : ∀ {xs : List PV}, bels m xs = true → bels n xs = true
  | [], _ => rfl
  | x :: xs, e => by
    unfold bels at e ⊢
    rw [Bool.and_eq_true] at e ⊢
    exact ⟨bel_mono h e.1, bels_mono h e.2⟩
end
/-- may x be put into the k-th cell? into a callers' one only what has no cell in it -/
def may (b k : Nat) (x : PV) : Bool := decide (b ≤ k) || bel 0 x
theorem may_rep {Γ : Cfg} {L : Lv} {w : Wd} {p : Pool} {H : Hp} (S : SimP Γ L w p H) {k : Nat} {x : PV} {v : V} (r : Rep Γ w x v) (h : may L.b k x = true) : Rep Γ (w.low (L.lo k)) x v := by
  unfold may at h
  rw [Bool.or_eq_true] at h
  rcases h with h | h
  · rw [S.hlo k (of_decide_eq_true h)]
    exact r
  · cases e : L.lo k with
    | none => exact r
    | some m => exact r.below (bel_mono (Nat.zero_le m) h)

section
variable {X : Cx} {C : Cn} {pos : Pos}
/-! ### values of objects -/
/-- what the text's classes have: their instances are plain, no value's name is the class's own -/
structure ClsF (K : PySem.W.Frag) (Γ : Cfg) (c : Nat) : Prop where
  cls : Cls K (Γ.cls c)
  no : ∀ f ∈ Γ.fld c, NoAttr K (Γ.cls c) f
  nd : (Γ.fld c).Nodup
  few : (Γ.fld c).length < 1000
  at_ : PySem.W.findIn K (.ref (Γ.cls c)) "__class__" = some (some (.builtin "object.__class__"))
  mr : PySem.W.mroIn K (Γ.cls c) (.type "object") = some true
theorem lookup_zip {α : Type} {ns : List Str} (hn : ns.Nodup) {i : Nat} {f : Str} : ∀ {vs : List α}, ns[i]? = some f → (ns.zip vs).lookup f = vs[i]? := by
  induction ns generalizing i with
  | nil => intro vs h; simp at h
  | cons n r ih =>
    intro vs h
    cases vs with
    | nil => simp
    | cons v vs =>
      cases i with
      | zero =>
        have e : n = f := by simpa using h
        subst e
        simp [List.lookup]
      | succ i =>
        have h' : r[i]? = some f := by simpa using h
        have ne : f ≠ n := fun z => (List.nodup_cons.mp hn).1 (z ▸ List.mem_of_getElem? h')
        rw [List.zip_cons_cons, List.lookup_cons, show (f == n) = false from beq_eq_false_iff_ne.mpr ne]
        simp only [List.getElem?_cons_succ]
        exact ih (List.nodup_cons.mp hn).2 h'
theorem putF_zip {ns : List Str} (hn : ns.Nodup) {i : Nat} {f : Str} {v : V} : ∀ {vs : List V}, ns[i]? = some f → i ≤ vs.length → putF f v (ns.zip vs) = ns.zip (if i < vs.length then vs.set i v else vs ++ [v]) := by
  induction ns generalizing i with
  | nil => intro vs h; simp at h
  | cons n r ih =>
    intro vs h hi
    cases vs with
    | nil =>
      have e0 : i = 0 := by simpa using hi
      subst e0
      have e : n = f := by simpa using h
      subst e
      cases r <;> simp [putF]
    | cons u vs =>
      cases i with
      | zero =>
        have e : n = f := by simpa using h
        subst e
        simp [putF]
      | succ i =>
        have h' : r[i]? = some f := by simpa using h
        have ne : n ≠ f := fun z => (List.nodup_cons.mp hn).1 (z ▸ List.mem_of_getElem? h')
        have ih' := ih (List.nodup_cons.mp hn).2 (vs := vs) h' (by simpa using hi)
        rw [List.zip_cons_cons]
        show (if n = f then _ else (n, u) :: putF f v (r.zip vs)) = _
        rw [if_neg ne, ih']
        by_cases hl : i < vs.length
        · rw [if_pos hl, if_pos (by simpa using hl)]
          simp
        · rw [if_neg hl, if_neg (by simpa using hl)]
          simp
/-- the i-th value of an instance of the c-th class -/
def getF (c i : Nat) (p : Pool) : PV → Option PV
  | .obj d xs => if d = c then xs[i]? else none
  | .own k => match p[k]? with
    | some (.obj d xs) => if d = c then xs[i]? else none
    | _ => none
  | _ => none
def mFld (c i : Nat) (a : M PV) : M PV := fun en p => (a en p).bind fun x p1 => match getF c i p1 x with
  | some y => .ok y p1
  | none => .stuck
theorem Rep.objH {Γ : Cfg} {L : Lv} {w : Wd} {p : Pool} {H : Hp} (S : SimP Γ L w p H) {k c : Nat} {v : V} {xs : List PV} (r : Rep Γ w (.own k) v) (e : p[k]? = some (.obj c xs)) :
    ∃ a dx vs, v = .ref a ∧ w.ρ[k]? = some a ∧ w.G a = none ∧ H a = some (.ins (Γ.cls c) dx ((Γ.fld c).zip vs)) ∧ H dx = some (.own a) ∧ w.G dx = none ∧ vs.length ≤ (Γ.fld c).length ∧ Reps Γ (w.low (L.lo k)) xs vs := by
  obtain ⟨a, ha, rfl⟩ := r
  obtain ⟨b, hb, hc⟩ := S.at e
  rw [ha] at hb
  cases hb
  obtain ⟨g, dx, vs, eH, eD, gd, hl, r⟩ := hc
  rw [Wd.low_G] at g gd
  exact ⟨a, dx, vs, rfl, ha, g, eH, eD, gd, hl, r⟩
theorem re_fld {e : Expr} {f : Str} {c i : Nat} {a : M PV} (hK : X.K = C.Γ.K) (T : ClsF C.Γ.K C.Γ c) (hf : (C.Γ.fld c)[i]? = some f) (ha : RE X C e a) (hb : attributeBase e f X.env (eval e X.env) = eval e X.env := by rfl) : RE X C (.Attribute e f pos) (mFld c i a) :=
  (pe_fld ha hb).imp fun σ H Q ⟨L, w, p, en, S, E, h⟩ => by
    refine ⟨L, w, p, en, S, E, h.bind fun x p1 w1 H1 v l1 S1 r1 h1 => ?_⟩
    have hc : Cls X.K (C.Γ.cls c) := hK ▸ T.cls
    have hn : NoAttr X.K (C.Γ.cls c) f := hK ▸ T.no f (List.mem_of_getElem? hf)
    cases x with
    | obj d xs =>
      unfold getF at h1
      dsimp only at h1
      by_cases hd : d = c
      · subst hd
        rw [if_pos rfl] at h1
        obtain ⟨a, dx, vs, ev, g, _, _, r⟩ := r1
        cases ex : xs[i]? with
        | none =>
          rw [ex] at h1
          exact h1.elim
        | some y =>
          rw [ex] at h1
          obtain ⟨u, e1, ru⟩ := r.get ex
          exact ⟨a, _, dx, _, u, ev, S1.sub _ _ g, hc, hn, by rw [lookup_zip T.nd hf]; exact e1, h1.ok S1 ru⟩
      · rw [if_neg hd] at h1
        exact h1.elim
    | own k =>
      unfold getF at h1
      dsimp only at h1
      cases ek : p1[k]? with
      | none =>
        rw [ek] at h1
        exact h1.elim
      | some cell =>
        rw [ek] at h1
        cases cell with
        | obj d xs =>
          dsimp only at h1
          by_cases hd : d = c
          · subst hd
            rw [if_pos rfl] at h1
            obtain ⟨a, dx, vs, ev, _, _, eH, _, _, _, r⟩ := Rep.objH S1 r1 ek
            cases ex : xs[i]? with
            | none =>
              rw [ex] at h1
              exact h1.elim
            | some y =>
              rw [ex] at h1
              obtain ⟨u, e1, ru⟩ := r.get ex
              exact ⟨a, _, dx, _, u, ev, eH, hc, hn, by rw [lookup_zip T.nd hf]; exact e1, h1.ok S1 (ru.mono (w1.low_le _))⟩
          · rw [if_neg hd] at h1
            exact h1.elim
        | lst _ => exact h1.elim
        | dead => exact h1.elim
    | _ => exact h1.elim
/-- o.f = value, o an object that is being made (or may change) -/
def putC (c i : Nat) (y : PV) : Cell → Option Cell
  | .obj d xs => if d = c ∧ i ≤ xs.length then some (.obj d (if i < xs.length then xs.set i y else xs ++ [y])) else none
  | _ => none
def sFld (c i : Nat) (o a : M PV) : S := fun en p => (a en p).run en fun y p1 => (o en p1).run en fun x p2 => match x with
  | .own k => if may en.b k y = true then match p2[k]? with
      | some cell => match putC c i y cell with
        | some cell' => .next en (p2.set k cell')
        | none => .stuck
      | none => .stuck
    else .stuck
  | _ => .stuck
theorem Reps.put {Γ : Cfg} {w : Wd} {xs : List PV} {vs : List V} {i : Nat} {y : PV} {v : V} (r : Reps Γ w xs vs) (ry : Rep Γ w y v) : Reps Γ w (if i < xs.length then xs.set i y else xs ++ [y]) (if i < vs.length then vs.set i v else vs ++ [v]) := by
  rw [← r.length]
  split
  · exact r.set ry
  · exact r.append (Reps.cons ry Reps.nil)
theorem rs_fld {o value : Expr} {f : Str} {c i : Nat} {mo a : M PV} {pos' : Pos} (hK : X.K = C.Γ.K) (T : ClsF C.Γ.K C.Γ c) (hf : (C.Γ.fld c)[i]? = some f) (ho : RE X C o mo) (ha : RE X C value a)
    (hs : swapsWith value (some (.Attribute o f pos')) pos.line X.env = pure false := by rfl) : RS X C (.Assign [.Attribute o f pos'] value pos) (sFld c i mo a) := (ps_fld ho ha hs).imp fun D σ H ⟨L, w, p, en, S, E, h⟩ => by
  refine ⟨L, w, p, en, S, E, h.run E fun y p1 w1 H1 v l1 S1 r1 h1 => ?_⟩
  refine ⟨L, w1, p1, en, S1, E.mono l1, h1.run (E.mono l1) fun x p2 w2 H2 u l2 S2 r2 h2 => ?_⟩
  split at h2
  · rename_i k
    split at h2
    · rename_i hm
      cases ek : p2[k]? with
      | none =>
        rw [ek] at h2
        exact h2.elim
      | some cell =>
        rw [ek] at h2
        dsimp only at h2
        cases cell with
        | obj d xs =>
          unfold putC at h2
          dsimp only at h2
          by_cases hd : d = c ∧ i ≤ xs.length
          · rw [if_pos hd] at h2
            obtain ⟨hd, hi⟩ := hd
            subst hd
            obtain ⟨b, dx, vs, ev, hb, g, eH, eD, gd, hl, r⟩ := Rep.objH S2 r2 ek
            have hi' : i < (C.Γ.fld d).length := (List.getElem?_eq_some_iff.mp hf).1
            have hrl := r.length
            have hz : putF f v ((C.Γ.fld d).zip vs) = (C.Γ.fld d).zip (if i < vs.length then vs.set i v else vs ++ [v]) := putF_zip T.nd hf (by rw [← hrl]; exact hi)
            have nb : dx ≠ b := fun z => by
              rw [z, eH] at eD
              cases eD
            rw [E.b] at hm
            have ry := may_rep S2 (r1.mono l2) hm
            refine ⟨b, _, dx, _, ev, eH, hK ▸ T.cls, hK ▸ T.no f (List.mem_of_getElem? hf), ?_, ?_⟩
            · rw [List.length_zip]
              have := T.few
              omega
            · rw [hz]
              refine h2 w2 _ σ (Wd.le.refl w2) (S2.write hb g ⟨by rw [Wd.low_G]; exact g, dx, _, upd_same, by rw [upd_ne nb]; exact eD, by rw [Wd.low_G]; exact gd, ?_, r.put ry⟩) ((E.mono l1).mono l2)
              split
              · rw [List.length_set]
                exact hl
              · rw [List.length_append]
                simp
                omega
          · rw [if_neg hd] at h2
            exact h2.elim
        | lst _ => exact h2.elim
        | dead => exact h2.elim
    · exact h2.elim
  · exact h2.elim
/-! ### built-in functions -/
abbrev FC := List PV → Pool → Res PV
def mCall (f : FC) (a : M (List PV)) : M PV := fun en p => (a en p).bind fun xs p1 => f xs p1
def RefC (C : Cn) (r : List V → Hp → VK → Prop) (f : FC) : Prop := ∀ L w p H σ xs vs Q, SimP C.Γ L w p H → Reps C.Γ w xs vs → Post C L w σ (RV C) (f xs p) Q → r vs H Q
theorem wE_call {r : List V → Hp → VK → Prop} {f : FC} {a : M (List PV)} (hr : RefC C r f) : ∀ σ H Q, wE C (mCall f a) σ H Q → tCB r (wA C a) σ H Q := fun σ H Q ⟨L, w, p, en, S, E, h⟩ =>
  ⟨L, w, p, en, S, E, h.bind fun x p1 w1 H1 v l1 S1 r1 h1 => hr L w1 p1 H1 σ x v Q S1 r1 h1⟩
theorem re_callB {x : Str} {p : Pos} {e : Expr} {es : List Expr} {id : String} {r : List V → Hp → VK → Prop} {f : FC} {a : M (List PV)} (hc : CallR X (.builtin id) r) (hr : RefC C r f) (hg : Gl X x) (hm : X.mg x = none) (hv : bootBuiltins x = some (.builtin id)) (ha : RA X C (e :: es) a)
    (hn : x ≠ "__name__" := by decide) (hdb : (x == ("__debug__" : Str)) = false := by decide) (he : starEach (e :: es) X.env = (false, eval e X.env) :: starEach es X.env := by rfl) (hpl : (backTo pos (starEach es X.env)).any (·.1) = false := by rfl) :
    RE X C (.Call (.Name x p) (e :: es) [] pos) (mCall f a) := (pe_callB hc hg hm hv ha.pa hn hdb he hpl).imp (wE_call hr)
theorem re_callTy {x : Str} {p : Pos} {e : Expr} {es : List Expr} {T : String} {r : List V → Hp → VK → Prop} {f : FC} {a : M (List PV)} (hc : CallR X (.type T) r) (hr : RefC C r f) (hg : Gl X x) (hm : X.mg x = none) (hv : bootBuiltins x = some (.type T)) (ha : RA X C (e :: es) a)
    (hn : x ≠ "__name__" := by decide) (hdb : (x == ("__debug__" : Str)) = false := by decide) (he : starEach (e :: es) X.env = (false, eval e X.env) :: starEach es X.env := by rfl) (hpl : (backTo pos (starEach es X.env)).any (·.1) = false := by rfl) :
    RE X C (.Call (.Name x p) (e :: es) [] pos) (mCall f a) := (pe_callTy hc hg hm hv ha.pa hn hdb he hpl).imp (wE_call hr)
theorem reps1 {Γ : Cfg} {w : Wd} {x : PV} {vs : List V} (r : Reps Γ w [x] vs) : ∃ v, vs = [v] ∧ Rep Γ w x v := by
  obtain ⟨v, us, rfl, h, e⟩ := r
  cases e
  exact ⟨v, rfl, h⟩
theorem reps2 {Γ : Cfg} {w : Wd} {x y : PV} {vs : List V} (r : Reps Γ w [x, y] vs) : ∃ v u, vs = [v, u] ∧ Rep Γ w x v ∧ Rep Γ w y u := by
  obtain ⟨v, us, rfl, h, e⟩ := r
  obtain ⟨u, rfl, k⟩ := reps1 e
  exact ⟨v, u, rfl, h, k⟩
def cLen : FC := fun xs p => match xs with
  | [x] => match getQ p x with
    | some ys => .ok (.int ys.length) p
    | none => .stuck
  | _ => .stuck
theorem ref_len : RefC C (fun xs H Q => ∃ p ys, xs = [V.ref p] ∧ (SqL C.Γ.K H p ys ∨ SqT C.Γ.K H p ys) ∧ Q (V.int ys.length) H) cLen := fun L w p H σ xs vs Q S r q => by
  unfold cLen at q
  split at q
  · rename_i x
    obtain ⟨v, rfl, rq⟩ := reps1 r
    split at q
    · rename_i ys e
      obtain ⟨a, us, rfl, h, rr⟩ := getQ_ok S rq e
      refine ⟨a, us, rfl, h, ?_⟩
      rw [← rr.length]
      exact q.ok S rfl
    · exact q.elim
  · exact q.elim
theorem call_lenU (hK : X.K = C.Γ.K) : CallR X (.builtin "len") (fun xs H Q => ∃ p ys, xs = [V.ref p] ∧ (SqL C.Γ.K H p ys ∨ SqT C.Γ.K H p ys) ∧ Q (V.int ys.length) H) := hK ▸ call_len_seq
def cAbs : FC := fun xs p => match xs with
  | [.int i] => .ok (.int (if i < 0 then -i else i)) p
  | _ => .stuck
theorem ref_abs : RefC C (fun xs H Q => ∃ i, xs = [V.int i] ∧ Q (V.int (if i < 0 then -i else i)) H) cAbs := fun L w p H σ xs vs Q S r q => by
  unfold cAbs at q
  split at q
  · rename_i i
    obtain ⟨v, rfl, rq⟩ := reps1 r
    cases rq
    exact ⟨i, rfl, q.ok S rfl⟩
  · exact q.elim
def cMax : FC := fun xs p => match xs with
  | [.int i, .int j] => .ok (.int (if j > i then j else i)) p
  | _ => .stuck
def cMin : FC := fun xs p => match xs with
  | [.int i, .int j] => .ok (.int (if j < i then j else i)) p
  | _ => .stuck
theorem ref_max : RefC C (fun xs H Q => ∃ i j, xs = [V.int i, V.int j] ∧ Q (V.int (if j > i then j else i)) H) cMax := fun L w p H σ xs vs Q S r q => by
  unfold cMax at q
  split at q
  · rename_i i j
    obtain ⟨v, u, rfl, r1, r2⟩ := reps2 r
    cases r1
    cases r2
    exact ⟨i, j, rfl, q.ok S rfl⟩
  · exact q.elim
theorem ref_min : RefC C (fun xs H Q => ∃ i j, xs = [V.int i, V.int j] ∧ Q (V.int (if j < i then j else i)) H) cMin := fun L w p H σ xs vs Q S r q => by
  unfold cMin at q
  split at q
  · rename_i i j
    obtain ⟨v, u, rfl, r1, r2⟩ := reps2 r
    cases r1
    cases r2
    exact ⟨i, j, rfl, q.ok S rfl⟩
  · exact q.elim
def cInt : FC := fun xs p => match xs with
  | [.int i] => .ok (.int i) p
  | [.bl b] => .ok (.int (if b = true then 1 else 0)) p
  | _ => .stuck
theorem ref_int : RefC C (fun xs H Q => (∃ i, xs = [V.int i] ∧ Q (V.int i) H) ∨ ∃ k, xs = [V.bl k] ∧ Q (V.int (if k = true then 1 else 0)) H) cInt := fun L w p H σ xs vs Q S r q => by
  unfold cInt at q
  split at q
  · rename_i i
    obtain ⟨v, rfl, rq⟩ := reps1 r
    cases rq
    exact .inl ⟨i, rfl, q.ok S rfl⟩
  · rename_i b
    obtain ⟨v, rfl, rq⟩ := reps1 r
    cases rq
    exact .inr ⟨b, rfl, q.ok S rfl⟩
  · exact q.elim
/-- list(x): one that doesn't change; one that does -/
def cList : FC := fun xs p => match xs with
  | [x] => match getQ p x with
    | some ys => .ok (.lst ys) p
    | none => .stuck
  | _ => .stuck
def cListO : FC := fun xs p => match xs with
  | [x] => match getQ p x with
    | some ys => .ok (.own p.length) (p ++ [.lst ys])
    | none => .stuck
  | _ => .stuck
def rList (K : PySem.W.Frag) : List V → Hp → VK → Prop := fun xs H Q => ∃ p ys, xs = [V.ref p] ∧ (SqL K H p ys ∨ SqT K H p ys) ∧ ∀ l, H l = none → Q (V.ref l) (upd H l (.lst ys))
theorem call_listU (hK : X.K = C.Γ.K) : CallR X (.type "list") (rList C.Γ.K) := hK ▸ call_list_of
theorem ref_list : RefC C (rList C.Γ.K) cList := fun L w p H σ xs vs Q S r q => by
  unfold cList at q
  split at q
  · rename_i x
    obtain ⟨v, rfl, rq⟩ := reps1 r
    split at q
    · rename_i ys e
      obtain ⟨a, us, rfl, h, rr⟩ := getQ_ok S rq e
      exact ⟨a, us, rfl, h, newLst S rr q⟩
    · exact q.elim
  · exact q.elim
theorem ref_listO : RefC C (rList C.Γ.K) cListO := fun L w p H σ xs vs Q S r q => by
  unfold cListO at q
  split at q
  · rename_i x
    obtain ⟨v, rfl, rq⟩ := reps1 r
    split at q
    · rename_i ys e
      obtain ⟨a, us, rfl, h, rr⟩ := getQ_ok S rq e
      exact ⟨a, us, rfl, h, newOwn S rr q⟩
    · exact q.elim
  · exact q.elim
def cTuple : FC := fun xs p => match xs with
  | [.tup ys] => .ok (.tup ys) p
  | [x] => match getR p x with
    | some ys => .ok (.tup ys) p
    | none => .stuck
  | _ => .stuck
def rTuple (K : PySem.W.Frag) : List V → Hp → VK → Prop := fun xs H Q => ∃ p ys, xs = [V.ref p] ∧ ((SqL K H p ys ∧ ∀ l, H l = none → Q (V.ref l) (upd H l (.tup ys))) ∨ SqT K H p ys ∧ Q (V.ref p) H)
theorem call_tupleU (hK : X.K = C.Γ.K) : CallR X (.type "tuple") (rTuple C.Γ.K) := hK ▸ call_tuple_of
theorem ref_tuple : RefC C (rTuple C.Γ.K) cTuple := fun L w p H σ xs vs Q S r q => by
  unfold cTuple at q
  split at q
  · rename_i ys
    obtain ⟨v, rfl, rq⟩ := reps1 r
    obtain ⟨a, us, rfl, h, rr⟩ := rq
    exact ⟨a, us, rfl, .inr ⟨seqT_mono S.sub h, q.ok S ⟨a, us, rfl, h, rr⟩⟩⟩
  · rename_i x _
    obtain ⟨v, rfl, rq⟩ := reps1 r
    split at q
    · rename_i ys e
      obtain ⟨a, us, rfl, h, rr⟩ := getR_ok S rq e
      exact ⟨a, us, rfl, .inl ⟨h, newTup S rr q⟩⟩
    · exact q.elim
  · exact q.elim
/-- all truths, all numbers of a list -/
def bls : List PV → Option (List Bool)
  | [] => some []
  | .bl b :: r => match bls r with
    | some bs => some (b :: bs)
    | none => none
  | _ => none
def its : List PV → Option (List Int)
  | [] => some []
  | .int i :: r => match its r with
    | some is => some (i :: is)
    | none => none
  | _ => none
theorem bls_ok {Γ : Cfg} {w : Wd} : ∀ {xs : List PV} {vs : List V} {bs : List Bool}, Reps Γ w xs vs → bls xs = some bs → vs = bs.map V.bl
  | [], vs, bs, r, e => by
    cases e
    exact r
  | x :: xs, vs, bs, r, e => by
    obtain ⟨v, us, rfl, r1, r2⟩ := r
    cases x with
    | bl b =>
      unfold bls at e
      cases eb : bls xs with
      | none =>
        rw [eb] at e
        cases e
      | some cs =>
        rw [eb] at e
        cases e
        rw [bls_ok r2 eb, show v = V.bl b from r1]
        rfl
    | _ => cases e
theorem its_ok {Γ : Cfg} {w : Wd} : ∀ {xs : List PV} {vs : List V} {bs : List Int}, Reps Γ w xs vs → its xs = some bs → vs = bs.map V.int
  | [], vs, bs, r, e => by
    cases e
    exact r
  | x :: xs, vs, bs, r, e => by
    obtain ⟨v, us, rfl, r1, r2⟩ := r
    cases x with
    | int b =>
      unfold its at e
      cases eb : its xs with
      | none =>
        rw [eb] at e
        cases e
      | some cs =>
        rw [eb] at e
        cases e
        rw [its_ok r2 eb, show v = V.int b from r1]
        rfl
    | _ => cases e
def cFold {α : Type} (get : List PV → Option (List α)) (g : List α → PV) : FC := fun xs p => match xs with
  | [x] => match getL p x with
    | some ys => match get ys with
      | some bs => .ok (g bs) p
      | none => .stuck
    | none => .stuck
  | _ => .stuck
def cAll : FC := cFold bls fun bs => .bl (bs.all id)
def cAny : FC := cFold bls fun bs => .bl (bs.any id)
def cSum : FC := cFold its fun is => .int is.sum
theorem ref_fold {α : Type} {get : List PV → Option (List α)} {g : List α → PV} {h : α → V} {f : List α → V} (hg : ∀ w xs vs bs, Reps C.Γ w xs vs → get xs = some bs → vs = bs.map h) (hf : ∀ w bs, Rep C.Γ w (g bs) (f bs)) :
    RefC C (fun vs H Q => ∃ (a : Addr) (bs : List α), vs = [V.ref a] ∧ SqL C.Γ.K H a (bs.map h) ∧ Q (f bs) H) (cFold get g) := fun L w p H σ xs vs Q S r q => by
  unfold cFold at q
  split at q
  · rename_i x
    obtain ⟨v, rfl, rq⟩ := reps1 r
    split at q
    · rename_i ys e
      obtain ⟨a, us, rfl, hs, rr⟩ := getL_at S rq e
      split at q
      · rename_i bs eb
        have e2 := hg _ _ _ _ rr eb
        subst e2
        exact ⟨a, bs, rfl, .inl (.inl hs), q.ok S (hf _ _)⟩
      · exact q.elim
    · exact q.elim
  · exact q.elim
theorem ref_all : RefC C (rAll C.Γ.K) cAll := ref_fold (fun _ _ _ _ r e => bls_ok r e) fun _ _ => rfl
theorem ref_any : RefC C (rAny C.Γ.K) cAny := ref_fold (fun _ _ _ _ r e => bls_ok r e) fun _ _ => rfl
theorem ref_sum : RefC C (rSum C.Γ.K) cSum := ref_fold (fun _ _ _ _ r e => its_ok r e) fun _ _ => rfl
theorem call_allU (hc : X.calm = true) (hK : X.K = C.Γ.K) : CallR X (.builtin "all") (rAll C.Γ.K) := hK ▸ cr_all hc
theorem call_anyU (hc : X.calm = true) (hK : X.K = C.Γ.K) : CallR X (.builtin "any") (rAny C.Γ.K) := hK ▸ cr_any hc
theorem call_sumU (hc : X.calm = true) (hK : X.K = C.Γ.K) : CallR X (.builtin "sum") (rSum C.Γ.K) := hK ▸ cr_sum hc
end
end R

/-! R5: methods of lists, stores, while, for, comprehensions -/
namespace R
open PySem L2

def mayL (b k : Nat) (xs : List PV) : Bool := decide (b ≤ k) || bels 0 xs
theorem mayL_rep {Γ : Cfg} {L : Lv} {w : Wd} {p : Pool} {H : Hp} (S : SimP Γ L w p H) {k : Nat} {xs : List PV} {vs : List V} (r : Reps Γ w xs vs) (h : mayL L.b k xs = true) : Reps Γ (w.low (L.lo k)) xs vs := by
  unfold mayL at h
  rw [Bool.or_eq_true] at h
  rcases h with h | h
  · rw [S.hlo k (of_decide_eq_true h)]
    exact r
  · cases e : L.lo k with
    | none => exact r
    | some m => exact r.below (bels_mono (Nat.zero_le m) h)
section
variable {X : Cx} {C : Cn} {pos : Pos}
/-- f: what the cell holds behind it, by what it held and the arguments -/
def mMet (f : Pool → List PV → List PV → Option (List PV)) (o : M PV) (a : M (List PV)) : M PV := fun en p => (o en p).bind fun x p1 => match x with
  | .own k => match p1[k]? with
    | some (.lst _) => (a en p1).bind fun ys p2 => match p2[k]? with
      | some (.lst xs) => match f p2 xs ys with
        | some zs => if mayL en.b k zs = true ∧ zs.length ≤ big then .ok .non (p2.set k (.lst zs)) else .stuck
        | none => .stuck
      | _ => .stuck
    | _ => .stuck
  | _ => .stuck
def RefM (C : Cn) (r : V → List V → Hp → VK → Prop) (f : Pool → List PV → List PV → Option (List PV)) : Prop := ∀ L w p H a xs vs ys us zs Q, SimP C.Γ L w p H → H a = some (.lst vs) → Reps C.Γ w xs vs → Reps C.Γ w ys us → f p xs ys = some zs → zs.length ≤ big → (∀ ws, Reps C.Γ w zs ws → Q .non (upd H a (.lst ws))) → r (.ref a) us H Q
theorem wE_met {r : V → List V → Hp → VK → Prop} {f : Pool → List PV → List PV → Option (List PV)} {o : M PV} {a : M (List PV)} (hr : RefM C r f) : ∀ σ H Q, wE C (mMet f o a) σ H Q → tBM C.Γ.K "list" r (wE C o) (wA C a) σ H Q := fun σ H Q ⟨L, w, p, en, S, E, h⟩ => by
  refine ⟨L, w, p, en, S, E, h.bind fun x p1 w1 H1 v l1 S1 r1 h1 => ?_⟩
  split at h1
  · rename_i k
    split at h1
    · rename_i ys0 e0
      obtain ⟨b, vs0, rfl, hb, _, eH0, _⟩ := Rep.ownH S1 r1 e0
      refine ⟨.inl ⟨rfl, vs0, .inl (.inl eH0)⟩, L, w1, p1, en, S1, E.mono l1, h1.bind fun ys p2 w2 H2 us l2 S2 r2 h2 => ?_⟩
      split at h2
      · rename_i xs e2
        obtain ⟨b2, vs, e3, hb2, g, eH, rr⟩ := Rep.ownH S2 (r1.mono l2) e2
        cases e3
        split at h2
        · rename_i zs ez
          split at h2
          · rename_i hm
            refine hr L w2 p2 H2 b xs vs ys us zs Q S2 eH (rr.mono (w2.low_le _)) r2 ez hm.2 fun ws rw' => ?_
            have hm1 := hm.1
            rw [E.b] at hm1
            exact h2.ok (S2.write hb2 g ⟨by rw [Wd.low_G]; exact g, ws, upd_same, mayL_rep S2 rw' hm1⟩) rfl
          · exact h2.elim
        · exact h2.elim
      · exact h2.elim
    · exact h1.elim
  · exact h1.elim
theorem re_met {o e : Expr} {es : List Expr} {mo : M PV} {a : M (List PV)} {name : Str} {apos cpos : Pos} {id : String} {r : V → List V → Hp → VK → Prop} {f : Pool → List PV → List PV → Option (List PV)} (hK : X.K = C.Γ.K) (h1 : PlainAttrs "list") (h2 : Slot "list" name id) (h3 : typeOf (Value.builtin id) = pure (Value.type "method_descriptor"))
    (hm : MtR X id r) (hr : RefM C r f) (ho : RE X C o mo) (ha : RA X C (e :: es) a) (hb : attributeBase o name X.env (eval o X.env) = eval o X.env := by rfl)
    (h4 : ((backTo cpos (starEach (e :: es) X.env)).all (fun x => !x.1) && (backToKw cpos (keywordEach [] X.env)).all (fun x => x.1.isSome) && decide ((e :: es).length + ([] : List Keyword).length + (if ([] : List Keyword).isEmpty then 0 else 1) < 30)) = true := by rfl)
    (h5 : (apos.endLine == cpos.line) = true := by rfl) (he : starEach (e :: es) X.env = (false, eval e X.env) :: starEach es X.env := by rfl) (hpl : (backTo cpos (starEach es X.env)).any (·.1) = false := by rfl) :
    RE X C (.Call (.Attribute o name apos) (e :: es) [] cpos) (mMet f mo a) := (pe_bm h1 h2 h3 hm ho ha.pa hb h4 h5 he hpl).imp fun σ H Q h => by
  rw [hK]
  exact wE_met hr σ H Q h
def fAppend : Pool → List PV → List PV → Option (List PV) := fun _ xs ys => match ys with
  | [y] => some (xs ++ [y])
  | _ => none
theorem refm_append : RefM C rAppend fAppend := fun L w p H a xs vs ys us zs Q S eH r rs e hl k => by
  unfold fAppend at e
  split at e
  · rename_i y
    cases e
    obtain ⟨u, rfl, ru⟩ := reps1 rs
    refine ⟨a, vs, u, rfl, rfl, eH, ?_, k _ (r.append (Reps.cons ru Reps.nil))⟩
    rw [List.length_append] at hl
    have := r.length
    simp at hl
    exact big_lt (by omega)
  · cases e
def fExtend : Pool → List PV → List PV → Option (List PV) := fun p xs ys => match ys with
  | [y] => match getL p y with
    | some zs => some (xs ++ zs)
    | none => none
  | _ => none
theorem refm_extend : RefM C rExtend fExtend := fun L w p H a xs vs ys us zs Q S eH r rs e hl k => by
  unfold fExtend at e
  split at e
  · rename_i y
    obtain ⟨u, rfl, ru⟩ := reps1 rs
    split at e
    · rename_i ts et
      cases e
      obtain ⟨b, ws, rfl, eb, rb⟩ := getL_at S ru et
      refine ⟨a, b, vs, ws, rfl, rfl, eH, eb, ?_, k _ (r.append rb)⟩
      rw [List.length_append] at hl
      rw [← r.length, ← rb.length]
      exact big_le hl
    · cases e
  · cases e
/-! ### o[i] = e -/
def sIx (o i a : M PV) : S := fun en p => (a en p).run en fun y p1 => (o en p1).run en fun x p2 => (i en p2).run en fun j p3 => match x, j with
  | .own k, .int j => match p3[k]? with
    | some (.lst xs) => match ixN xs.length j with
      | some n => if may en.b k y = true then .next en (p3.set k (.lst (xs.set n y))) else .stuck
      | none => .stuck
    | _ => .stuck
  | _, _ => .stuck
theorem rs_ix {o i e : Expr} {mo mi a : M PV} {pos' : Pos} (ho : RE X C o mo) (hi : RE X C i mi) (ha : RE X C e a) (hs : ∀ (v : Value), assign (.Subscript o i pos') X.env v = (do
      let ov ← holding [v] (eval o X.env)
      let iv ← holding [v, ov] (eval i X.env)
      standAt pos'
      holding [v, ov, iv] (setItem ov iv v)
      release [v, ov, iv] []) := by intro _; rfl)
    (h1 : swapsWithSole [.Subscript o i pos'] e pos.line X.env = pure false := by rfl) (h2 : swappedStores [.Subscript o i pos'] e X.env = pure none := by rfl) (h3 : (assignEach [.Subscript o i pos'] X.env).map (·.2) = [assign (.Subscript o i pos') X.env] := by rfl) :
    RS X C (.Assign [.Subscript o i pos'] e pos) (sIx mo mi a) := (ps_asg ha (pg_sub ho hi set_list hs) h1 h2 h3).imp fun D σ H ⟨L, w, p, en, S, E, h⟩ => by
  refine ⟨L, w, p, en, S, E, h.run E fun y p1 w1 H1 v l1 S1 r1 h1 => ?_⟩
  refine ⟨L, w1, p1, en, S1, E.mono l1, h1.run (E.mono l1) fun x p2 w2 H2 u l2 S2 r2 h2 => ?_⟩
  refine ⟨L, w2, p2, en, S2, (E.mono l1).mono l2, h2.run ((E.mono l1).mono l2) fun j p3 w3 H3 t l3 S3 r3 h3 => ?_⟩
  split at h3
  · rename_i k j
    split at h3
    · rename_i xs e3
      split at h3
      · rename_i n en
        split at h3
        · rename_i hm
          obtain ⟨b, vs, e4, hb, g, eH, rr⟩ := Rep.ownH S3 (r2.mono l3) e3
          refine ⟨b, vs, j, n, e4, r3, eH, by rw [← rr.length]; exact en, ?_⟩
          rw [E.b] at hm
          exact h3 w3 _ σ (Wd.le.refl w3) (S3.write hb g ⟨by rw [Wd.low_G]; exact g, _, upd_same, rr.set (may_rep S3 ((r1.mono l2).mono l3) hm)⟩) (((E.mono l1).mono l2).mono l3)
        · exact h3.elim
      · exact h3.elim
    · exact h3.elim
  · exact h3.elim
/-! ### while -/
def loopW (t : M Bool) (body : S) : Nat → S
  | 0 => fun _ _ => .stuck
  | f + 1 => fun en p => (t en p).run en fun b p1 => if b = true then (match body en p1 with
      | .next en2 p2 => loopW t body f en2 p2
      | .cont en2 p2 => loopW t body f en2 p2
      | .brk en2 p2 => .next en2 p2
      | o => o) else .next en p1
theorem rs_while {c : Expr} {body : List Stmt} {t : M Bool} {b : S} (f : Nat) (hp : PassesOwn (model X.prog X.w) X.A X.env X.xe) (hc : RT X C c t) (hb : RSs X C body b) : RS X C (.While c body [] pos) (loopW t b f) := (ps_while hp hc hb).imp fun D σ H ⟨L, w, p, en, S, E, h⟩ => by
  refine ⟨fun m σ' H' => ∃ w' p' en', w.le w' ∧ SimP C.Γ L w' p' H' ∧ EnR C L w' en' σ' ∧ PostS C L w' D (loopW t b m en' p'), ⟨f, w, p, en, Wd.le.refl w, S, E, h⟩, fun m σ' H' ⟨w', p', en', l', S', E', h'⟩ => ?_⟩
  cases m with
  | zero => exact h'.elim
  | succ m =>
    refine ⟨L, w', p', en', S', E', h'.run E' fun k p1 w1 H1 v l1 S1 r1 h1 => ?_⟩
    cases r1
    cases k with
    | false => exact iteF (h1 w1 H1 σ' (Wd.le.refl w1) S1 (E'.mono l1))
    | true =>
      refine iteT ?_
      rw [if_pos rfl] at h1
      refine ⟨fun σ2 H2 => ∃ w2 p2 en2, w.le w2 ∧ SimP C.Γ L w2 p2 H2 ∧ EnR C L w2 en2 σ2 ∧ PostS C L w2 D (loopW t b m en2 p2), fun σ2 H2 q => ⟨m, Nat.lt_succ_self m, q⟩, L, w1, p1, en', S1, E'.mono l1, ?_⟩
      cases e : b en' p1 with
      | next en2 p2 =>
        rw [e] at h1
        exact fun w2 H2 σ2 l2 S2 E2 => ⟨w2, p2, en2, l'.trans (l1.trans l2), S2, E2, PostS.mono l2 h1⟩
      | cont en2 p2 =>
        rw [e] at h1
        exact fun w2 H2 σ2 l2 S2 E2 => ⟨w2, p2, en2, l'.trans (l1.trans l2), S2, E2, PostS.mono l2 h1⟩
      | brk en2 p2 =>
        rw [e] at h1
        exact h1
      | ret x p2 =>
        rw [e] at h1
        exact h1
      | exc c v en2 p2 =>
        rw [e] at h1
        exact h1
      | stuck =>
        rw [e] at h1
        exact h1.elim
/-! ### what is walked -/
mutual
/-- are two trees the same -/
def pvEq : PV → PV → Bool
  | .non, .non => true
  | .bl a, .bl b => a == b
  | .int a, .int b => a == b
  | .str a, .str b => decide (a = b)
  | .tup xs, .tup ys => pvEqs xs ys
  | .lst xs, .lst ys => pvEqs xs ys
  | .obj c xs, .obj d ys => c == d && pvEqs xs ys
  | .own a, .own b => a == b
  | .scr a, .scr b => decide (a = b)
  | .xs c a, .xs d b => c == d && decide (a = b)
  | .xv c x, .xv d y => c == d && pvEq x y
  | .fn a, .fn b => a == b
  | _, _ => false
def pvEqs : List PV → List PV → Bool
  | [], [] => true
  | x :: xs, y :: ys => pvEq x y && pvEqs xs ys
  | _, _ => false
end
mutual
theorem pvEq_eq : ∀ {x y : PV}, pvEq x y = true → x = y
  | .non, y, h => by cases y <;> first | rfl | cases h
  | .bl a, y, h => by cases y <;> first | (rw [eq_of_beq (show (a == _) = true from h)]) | cases h
  | .int a, y, h => by cases y <;> first | (rw [eq_of_beq (show (a == _) = true from h)]) | cases h
  | .str a, y, h => by cases y <;> first | (rw [of_decide_eq_true (show decide (a = _) = true from h)]) | cases h
  | .tup xs, y, h => by cases y <;> first | (rw [pvEqs_eq (show pvEqs xs _ = true from h)]) | cases h
  | .lst xs, y, h => by cases y <;> first | (rw [pvEqs_eq (show pvEqs xs _ = true from h)]) | cases h
  | .obj c xs, y, h => by
    cases y with
    | obj d ys =>
      have h : (c == d && pvEqs xs ys) = true := h
      rw [Bool.and_eq_true] at h
      rw [eq_of_beq h.1, pvEqs_eq h.2]
    | _ => cases h
  | .own a, y, h => by cases y <;> first | (rw [eq_of_beq (show (a == _) = true from h)]) | cases h
  | .scr a, y, h => by cases y <;> first | (rw [of_decide_eq_true (show decide (a = _) = true from h)]) | cases h
  | .xs c a, y, h => by
    cases y with
    | xs d b =>
      have h : (c == d && decide (a = b)) = true := h
      rw [Bool.and_eq_true] at h
      rw [eq_of_beq h.1, of_decide_eq_true h.2]
    | _ => cases h
  | .xv c x, y, h => by
    cases y with
    | xv d z =>
      have h : (c == d && pvEq x z) = true := h
      rw [Bool.and_eq_true] at h
      rw [eq_of_beq h.1, pvEq_eq h.2]
    | _ => cases h
  | .fn a, y, h => by cases y <;> first | (rw [eq_of_beq (show (a == _) = true from h)]) | cases h
theorem pvEqs_eq : ∀ {xs ys : List PV}, pvEqs xs ys = true → xs = ys
  | [], [], _ => rfl
  | [], _ :: _, h => by cases h
  | _ :: _, [], h => by cases h
  | x :: xs, y :: ys, h => by
    have h : (pvEq x y && pvEqs xs ys) = true := h
    rw [Bool.and_eq_true] at h
    rw [pvEq_eq h.1, pvEqs_eq h.2]
end
/-- what is walked, and what must still be so at each turn -/
structure It0 where
  xs : List PV
  ck : Pool → Bool
def noCk : Pool → Bool := fun _ => true
def ownCk (k : Nat) (xs : List PV) : Pool → Bool := fun q => match q[k]? with
  | some (.lst ys) => pvEqs ys xs
  | _ => false
/-- J yields xs, whatever changes but what doesn't change any more -/
def ItR (Γ : Cfg) (w : Wd) (ck : Pool → Bool) (xs : List PV) (J : It) : Prop := ∀ L w' p H, w.le w' → SimP Γ L w' p H → ck p = true → ∀ i : Nat, (xs[i]? = none → J.stop i H) ∧ ∀ x, xs[i]? = some x → J.go i H ∧ ∀ v H', J.yld i H v H' → ∃ w'', w'.le w'' ∧ SimP Γ L w'' p H' ∧ Rep Γ w'' x v
def wI (C : Cn) (it : M It0) : TI := fun σ H R => ∃ L w p en, SimP C.Γ L w p H ∧ EnR C L w en σ ∧ Post C L w σ (fun w (z : It0) J => ItR C.Γ w z.ck z.xs J) (it en p) (fun J H' => R J H')
abbrev RI (X : Cx) (C : Cn) (tg iter : Expr) (it : M It0) : Prop := PI X tg iter (wI C it)
theorem PI.imp {X : Cx} {tg it : Expr} {t t' : TI} (h : PI X tg it t) (i : ∀ σ H R, t' σ H R → t σ H R) : PI X tg it t' := ⟨fun pins s σ H R I hq => h.run pins s σ H R I (i _ _ _ hq)⟩
theorem PI.or {X : Cx} {tg it : Expr} {t t' : TI} (h : PI X tg it t) (h' : PI X tg it t') : PI X tg it (fun σ H R => t σ H R ∨ t' σ H R) := ⟨fun pins s σ H R I hq => by
  rcases hq with q | q
  · exact h.run pins s σ H R I q
  · exact h'.run pins s σ H R I q⟩
/-- a list or a tuple that doesn't change -/
def getZ : PV → Option (List PV)
  | .lst xs => some xs
  | .scr ns => some (ns.map .int)
  | .tup xs => some xs
  | _ => none
def getZL : PV → Option (List PV)
  | .lst xs => some xs
  | .scr ns => some (ns.map .int)
  | _ => none
theorem getZL_ok {Γ : Cfg} {w : Wd} {x : PV} {v : V} {xs : List PV} (r : Rep Γ w x v) (e : getZL x = some xs) : ∃ a vs, v = .ref a ∧ SqL Γ.K w.G a vs ∧ Reps Γ w xs vs := by
  cases x with
  | lst ys =>
    cases e
    obtain ⟨a, vs, ev, q, r⟩ := r
    exact ⟨a, vs, ev, .inl (.inl q), r⟩
  | scr ns =>
    cases e
    obtain ⟨a, ev, q⟩ := r
    exact ⟨a, _, ev, q, Reps.ints⟩
  | _ => cases e
def itS (a : M PV) : M It0 := fun en p => (a en p).bind fun x p1 => match x with
  | .own k => match p1[k]? with
    | some (.lst xs) => .ok ⟨xs, ownCk k xs⟩ p1
    | _ => .stuck
  | x => match getZ x with
    | some xs => .ok ⟨xs, noCk⟩ p1
    | none => .stuck
theorem itR_own {Γ : Cfg} {w : Wd} {a : Addr} {k : Nat} {xs : List PV} (ha : w.ρ[k]? = some a) : ItR Γ w (ownCk k xs) xs (Itl Γ.K a) := fun L w' p H l S hc i => by
  unfold ownCk at hc
  split at hc
  · rename_i ys ey
    have e := pvEqs_eq hc
    subst e
    obtain ⟨b, vs, eb, hb, _, eH, r⟩ := Rep.ownH S (v := .ref a) ⟨a, pre_get l.2 ha, rfl⟩ ey
    cases eb
    have h' : SqL Γ.K H a vs := .inl (.inl eH)
    refine ⟨fun e => ⟨vs, h', ?_⟩, fun x e => ?_⟩
    · rw [← r.length]
      exact List.getElem?_eq_none_iff.mp e
    · obtain ⟨v, ev, rv⟩ := r.get e
      refine ⟨⟨vs, v, h', ev⟩, fun u H' hy => ?_⟩
      obtain ⟨rfl, hu⟩ := hy
      have e2 : u = v := Option.some.inj ((hu vs h').symm.trans ev)
      subst e2
      exact ⟨w', Wd.le.refl w', S, rv.mono (w'.low_le _)⟩
  · cases hc
theorem itR_list {Γ : Cfg} {w : Wd} {a : Addr} {xs : List PV} {vs : List V} (h : SqL Γ.K w.G a vs) (r : Reps Γ w xs vs) : ItR Γ w noCk xs (Itl Γ.K a) := fun L w' p H l S _ i => by
  have h' : SqL Γ.K H a vs := seqL_mono (fun b o e => S.sub b o (l.1 b o e)) h
  refine ⟨fun e => ⟨vs, h', ?_⟩, fun x e => ?_⟩
  · rw [← r.length]
    exact List.getElem?_eq_none_iff.mp e
  · obtain ⟨v, ev, rv⟩ := r.get e
    refine ⟨⟨vs, v, h', ev⟩, fun u H' hy => ?_⟩
    obtain ⟨rfl, hu⟩ := hy
    have e2 : u = v := Option.some.inj ((hu vs h').symm.trans ev)
    subst e2
    exact ⟨w', Wd.le.refl w', S, rv.mono l⟩
theorem itR_tup {Γ : Cfg} {w : Wd} {a : Addr} {xs : List PV} {vs : List V} (h : SqT Γ.K w.G a vs) (r : Reps Γ w xs vs) : ItR Γ w noCk xs (Itt Γ.K a) := fun L w' p H l S _ i => by
  have h' : SqT Γ.K H a vs := seqT_mono (fun b o e => S.sub b o (l.1 b o e)) h
  refine ⟨fun e => ⟨vs, h', ?_⟩, fun x e => ?_⟩
  · rw [← r.length]
    exact List.getElem?_eq_none_iff.mp e
  · obtain ⟨v, ev, rv⟩ := r.get e
    refine ⟨⟨vs, v, h', ev⟩, fun u H' hy => ?_⟩
    obtain ⟨rfl, hu⟩ := hy
    have e2 : u = v := Option.some.inj ((hu vs h').symm.trans ev)
    subst e2
    exact ⟨w', Wd.le.refl w', S, rv.mono l⟩
theorem ri_seq {tg e : Expr} {a : M PV} (hK : X.K = C.Γ.K) (ha : RE X C e a) : RI X C tg e (itS a) := by
  have h1 : PI X tg e (iList C.Γ.K (wE C a)) := hK ▸ pi_list ha
  have h2 : PI X tg e (iTup C.Γ.K (wE C a)) := hK ▸ pi_tup ha
  refine PI.imp (PI.or h1 h2) fun σ H R ⟨L, w, p, en, S, E, h⟩ => ?_
  unfold itS at h
  cases e1 : a en p with
  | ok x p1 =>
    rw [e1] at h
    dsimp only [Res.bind] at h
    cases x with
    | tup xs =>
      refine .inr ⟨L, w, p, en, S, E, ?_⟩
      rw [e1]
      intro w' H' v l S' r
      obtain ⟨b, vs, rfl, hq, rr⟩ := r
      exact ⟨b, rfl, ⟨vs, seqT_mono S'.sub hq⟩, h w' H' _ l S' (itR_tup hq rr)⟩
    | lst xs =>
      refine .inl ⟨L, w, p, en, S, E, ?_⟩
      rw [e1]
      intro w' H' v l S' r
      obtain ⟨b, vs, rfl, hq, rr⟩ := getZL_ok r (show getZL (.lst xs) = some xs from rfl)
      exact ⟨b, rfl, ⟨vs, seqL_mono S'.sub hq⟩, h w' H' _ l S' (itR_list hq rr)⟩
    | scr ns =>
      refine .inl ⟨L, w, p, en, S, E, ?_⟩
      rw [e1]
      intro w' H' v l S' r
      obtain ⟨b, vs, rfl, hq, rr⟩ := getZL_ok r (show getZL (.scr ns) = some _ from rfl)
      exact ⟨b, rfl, ⟨vs, seqL_mono S'.sub hq⟩, h w' H' _ l S' (itR_list hq rr)⟩
    | own k =>
      dsimp only at h
      split at h
      · rename_i xs ex
        refine .inl ⟨L, w, p, en, S, E, ?_⟩
        rw [e1]
        intro w' H' v l S' r
        obtain ⟨b, vs, rfl, hb, _, eH, rr⟩ := Rep.ownH S' r ex
        exact ⟨b, rfl, ⟨vs, .inl (.inl eH)⟩, h w' H' _ l S' (itR_own hb)⟩
      · exact h.elim
    | _ => exact h.elim
  | exc c v p1 =>
    rw [e1] at h
    refine .inl ⟨L, w, p, en, S, E, ?_⟩
    rw [e1]
    exact h
  | stuck =>
    rw [e1] at h
    exact h.elim
/-- range(n), range(a, b) -/
def rng (lo : Int) (n : Nat) : List PV := (List.range n).map fun (i : Nat) => .int (lo + (i : Int))
theorem itR_range {Γ : Cfg} {w : Wd} {lo : Int} {n : Nat} : ItR Γ w noCk (rng lo n) (Itr lo n) := fun L w' p H l S _ i => by
  unfold rng
  refine ⟨fun e => ?_, fun x e => ?_⟩
  · have := List.getElem?_eq_none_iff.mp e
    rw [List.length_map, List.length_range] at this
    exact this
  · rw [List.getElem?_map] at e
    cases e1 : (List.range n)[i]? with
    | none =>
      rw [e1] at e
      cases e
    | some j =>
      rw [e1] at e
      obtain ⟨hi, e2⟩ := List.getElem?_eq_some_iff.mp e1
      rw [List.getElem_range] at e2
      subst e2
      rw [List.length_range] at hi
      cases e
      refine ⟨hi, fun v H' hy => ?_⟩
      obtain ⟨rfl, rfl⟩ := hy
      exact ⟨w', Wd.le.refl w', S, rfl⟩
def itR1 (a : M (List PV)) : M It0 := fun en p => (a en p).bind fun xs p1 => match xs with
  | [.int n] => if -(2 ^ 62) ≤ n ∧ n < 2 ^ 62 then .ok ⟨rng 0 n.toNat, noCk⟩ p1 else .stuck
  | _ => .stuck
def itR2 (a : M (List PV)) : M It0 := fun en p => (a en p).bind fun xs p1 => match xs with
  | [.int i, .int j] => if -(2 ^ 62) ≤ i ∧ i < 2 ^ 62 ∧ -(2 ^ 62) ≤ j ∧ j < 2 ^ 62 then .ok ⟨rng i (j - i).toNat, noCk⟩ p1 else .stuck
  | _ => .stuck
theorem ri_range1 {tg a : Expr} {m : M (List PV)} {p : Pos} (hg : Gl X "range") (hm : X.mg "range" = none) (ha : RA X C [a] m) (hs : starEach [a] X.env = [(false, eval a X.env)] := by rfl) : RI X C tg (.Call (.Name "range" p) [a] [] pos) (itR1 m) :=
  PI.imp (pi_range1 hg hm ha.pa hs) fun σ H R ⟨L, w, p, en, S, E, h⟩ => by
    refine ⟨L, w, p, en, S, E, h.bind fun xs p1 w1 H1 vs l1 S1 r1 h1 => ?_⟩
    split at h1
    · rename_i n
      split at h1
      · rename_i hn
        obtain ⟨v, rfl, rv⟩ := reps1 r1
        cases rv
        exact ⟨n, rfl, hn.1, hn.2, h1.ok S1 itR_range⟩
      · exact h1.elim
    · exact h1.elim
theorem ri_range2 {tg a b : Expr} {m : M (List PV)} {p : Pos} (hg : Gl X "range") (hm : X.mg "range" = none) (ha : RA X C [a, b] m) (hs : starEach [a, b] X.env = [(false, eval a X.env), (false, eval b X.env)] := by rfl) (hs2 : starEach [b] X.env = [(false, eval b X.env)] := by rfl) : RI X C tg (.Call (.Name "range" p) [a, b] [] pos) (itR2 m) :=
  PI.imp (pi_range2 hg hm ha.pa hs hs2) fun σ H R ⟨L, w, p, en, S, E, h⟩ => by
    refine ⟨L, w, p, en, S, E, h.bind fun xs p1 w1 H1 vs l1 S1 r1 h1 => ?_⟩
    split at h1
    · rename_i i j
      split at h1
      · rename_i hn
        obtain ⟨v, u, rfl, rv, ru⟩ := reps2 r1
        cases rv
        cases ru
        exact ⟨i, j, rfl, hn, h1.ok S1 itR_range⟩
      · exact h1.elim
    · exact h1.elim
/-- enumerate(xs), zip(xs, ys): lists that don't change -/
def enumZ (i : Nat) : List PV → List PV
  | [] => []
  | x :: xs => .tup [.int i, x] :: enumZ (i + 1) xs
theorem enumZ_get : ∀ (xs : List PV) (k i : Nat), (enumZ k xs)[i]? = xs[i]?.map fun x => .tup [.int ((k + i : Nat) : Int), x]
  | [], k, i => by simp [enumZ]
  | x :: xs, k, 0 => by simp [enumZ]
  | x :: xs, k, i + 1 => by
    show (enumZ (k + 1) xs)[i]? = _
    rw [enumZ_get xs (k + 1) i, List.getElem?_cons_succ, Nat.add_assoc, Nat.add_comm 1 i]
theorem new_tup {Γ : Cfg} {L : Lv} {w : Wd} {p : Pool} {H : Hp} (S : SimP Γ L w p H) {T : Addr} {xs : List PV} {vs : List V} (h : H T = none) (r : Reps Γ w xs vs) : ∃ w'', w.le w'' ∧ SimP Γ L w'' p (upd H T (.tup vs)) ∧ Rep Γ w'' (.tup xs) (.ref T) :=
  ⟨w.add T (.tup vs), S.le_add h, S.new h, T, vs, rfl, .inl (.inl add_at), r.mono (S.le_add h)⟩
theorem itR_enum {Γ : Cfg} {w : Wd} {a : Addr} {xs : List PV} {vs : List V} (h : SqL Γ.K w.G a vs) (r : Reps Γ w xs vs) : ItR Γ w noCk (enumZ 0 xs) (Ite Γ.K a) := fun L w' p H l S _ i => by
  have h' : SqL Γ.K H a vs := seqL_mono (fun b o e => S.sub b o (l.1 b o e)) h
  rw [enumZ_get]
  cases e : xs[i]? with
  | none => exact ⟨fun _ => ⟨vs, h', by rw [← r.length]; exact List.getElem?_eq_none_iff.mp e⟩, (fun _ z => nomatch z)⟩
  | some x =>
    refine ⟨(fun z => nomatch z), fun y ey => ?_⟩
    have ey : PV.tup [.int ((0 + i : Nat) : Int), x] = y := Option.some.inj ey
    subst ey
    obtain ⟨v, ev, rv⟩ := r.get e
    refine ⟨⟨vs, v, h', ev⟩, fun u H' hy => ?_⟩
    obtain ⟨T, z, rfl, hT, rfl, hu⟩ := hy
    have e2 : z = v := Option.some.inj ((hu vs h').symm.trans ev)
    subst e2
    refine new_tup S hT (Reps.cons ?_ (Reps.cons (rv.mono l) Reps.nil))
    rw [Nat.zero_add]
    exact rfl
def zipZ : List PV → List PV → List PV
  | x :: xs, y :: ys => .tup [x, y] :: zipZ xs ys
  | _, _ => []
theorem zipZ_get : ∀ (xs ys : List PV) (i : Nat), (zipZ xs ys)[i]? = match xs[i]?, ys[i]? with
    | some x, some y => some (.tup [x, y])
    | _, _ => none
  | [], ys, i => by simp [zipZ]
  | x :: xs, [], i => by
    simp [zipZ]
  | x :: xs, y :: ys, 0 => by simp [zipZ]
  | x :: xs, y :: ys, i + 1 => by
    show (zipZ xs ys)[i]? = _
    rw [zipZ_get xs ys i, List.getElem?_cons_succ, List.getElem?_cons_succ]
theorem itR_zip {Γ : Cfg} {w : Wd} {a b : Addr} {xs ys : List PV} {vs us : List V} (h : SqL Γ.K w.G a vs) (r : Reps Γ w xs vs) (k : SqL Γ.K w.G b us) (q : Reps Γ w ys us) : ItR Γ w noCk (zipZ xs ys) (Itz Γ.K a b) := fun L w' p H l S _ i => by
  have h' : SqL Γ.K H a vs := seqL_mono (fun b o e => S.sub b o (l.1 b o e)) h
  have k' : SqL Γ.K H b us := seqL_mono (fun b o e => S.sub b o (l.1 b o e)) k
  rw [zipZ_get]
  cases e : xs[i]? with
  | none => exact ⟨fun _ => ⟨vs, us, h', k', .inl (by rw [← r.length]; exact List.getElem?_eq_none_iff.mp e)⟩, (fun _ z => nomatch z)⟩
  | some x =>
    cases f : ys[i]? with
    | none => exact ⟨fun _ => ⟨vs, us, h', k', .inr (by rw [← q.length]; exact List.getElem?_eq_none_iff.mp f)⟩, (fun _ z => nomatch z)⟩
    | some y =>
      refine ⟨(fun z => nomatch z), fun t et => ?_⟩
      have et : PV.tup [x, y] = t := Option.some.inj et
      subst et
      obtain ⟨v, ev, rv⟩ := r.get e
      obtain ⟨u, eu, ru⟩ := q.get f
      refine ⟨⟨vs, us, v, u, h', k', ev, eu⟩, fun t H' hy => ?_⟩
      obtain ⟨T, z, z2, rfl, hT, rfl, hz, hz2⟩ := hy
      have e2 : z = v := Option.some.inj ((hz vs h').symm.trans ev)
      have e3 : z2 = u := Option.some.inj ((hz2 us k').symm.trans eu)
      subst e2
      subst e3
      exact new_tup S hT (Reps.cons (rv.mono l) (Reps.cons (ru.mono l) Reps.nil))
def itE (a : M (List PV)) : M It0 := fun en p => (a en p).bind fun xs p1 => match xs with
  | [x] => match getZL x with
    | some ys => .ok ⟨enumZ 0 ys, noCk⟩ p1
    | none => .stuck
  | _ => .stuck
def itZ (a : M (List PV)) : M It0 := fun en p => (a en p).bind fun xs p1 => match xs with
  | [x, y] => match getZL x, getZL y with
    | some xs, some ys => .ok ⟨zipZ xs ys, noCk⟩ p1
    | _, _ => .stuck
  | _ => .stuck
theorem ri_enum {e : Expr} {m : M (List PV)} {p tpos : Pos} {elts : List Expr} {kk : Nat} (hK : X.K = C.Γ.K) (hg : Gl X "enumerate") (hm : X.mg "enumerate" = none) (ha : RA X C [e] m) (hs : starEach [e] X.env = [(false, eval e X.env)] := by rfl) :
    RI X C (.Tuple elts kk tpos) (.Call (.Name "enumerate" p) [e] [] pos) (itE m) := PI.imp (pi_enum hg hm ha.pa hs) fun σ H R ⟨L, w, p, en, S, E, h⟩ => by
  refine ⟨L, w, p, en, S, E, h.bind fun xs p1 w1 H1 vs l1 S1 r1 h1 => ?_⟩
  split at h1
  · rename_i x
    obtain ⟨v, rfl, rv⟩ := reps1 r1
    split at h1
    · rename_i ys ey
      obtain ⟨a, us, rfl, hq, rr⟩ := getZL_ok rv ey
      rw [hK]
      exact ⟨a, us, rfl, seqL_mono S1.sub hq, h1.ok S1 (itR_enum hq rr)⟩
    · exact h1.elim
  · exact h1.elim
theorem ri_zip {e e2 : Expr} {m : M (List PV)} {p tpos : Pos} {elts : List Expr} {kk : Nat} (hK : X.K = C.Γ.K) (hg : Gl X "zip") (hm : X.mg "zip" = none) (ha : RA X C [e, e2] m) (hs : starEach [e, e2] X.env = (false, eval e X.env) :: starEach [e2] X.env := by rfl) (hs2 : ((backTo pos (starEach [e2] X.env)).any fun x => x.1) = false := by rfl) :
    RI X C (.Tuple elts kk tpos) (.Call (.Name "zip" p) [e, e2] [] pos) (itZ m) := PI.imp (pi_zip hg hm ha.pa hs hs2) fun σ H R ⟨L, w, p, en, S, E, h⟩ => by
  refine ⟨L, w, p, en, S, E, h.bind fun xs p1 w1 H1 vs l1 S1 r1 h1 => ?_⟩
  split at h1
  · rename_i x y
    obtain ⟨v, u, rfl, rv, ru⟩ := reps2 r1
    split at h1
    · rename_i xs ys ex ey
      obtain ⟨a, vs, rfl, hq, rr⟩ := getZL_ok rv ex
      obtain ⟨b, us, rfl, hq2, rr2⟩ := getZL_ok ru ey
      rw [hK]
      exact ⟨a, b, vs, us, rfl, seqL_mono S1.sub hq, seqL_mono S1.sub hq2, h1.ok S1 (itR_zip hq rr hq2 rr2)⟩
    · exact h1.elim
  · exact h1.elim
/-! ### for -/
def loopF (ck : Pool → Bool) (g : T1) (body : S) : List PV → S
  | [] => fun en p => if ck p = true then .next en p else .stuck
  | x :: r => fun en p => if ck p = true then match g x with
      | none => .stuck
      | some as => match body (en.sets as) p with
        | .next en2 p2 => loopF ck g body r en2 p2
        | .cont en2 p2 => loopF ck g body r en2 p2
        | .brk en2 p2 => .next en2 p2
        | o => o
    else .stuck
def sFor (it : M It0) (g : T1) (body : S) : S := fun en p => (it en p).run en fun z p1 => loopF z.ck g body z.xs en p1
theorem rs_for {tg iter : Expr} {body : List Stmt} {it : M It0} {g : T1} {b : S} (hp : PassesOwn (model X.prog X.w) X.A X.env X.xe) (hc : X.calm = true) (hi : RI X C tg iter it) (hg : RG X C tg g) (hb : RSs X C body b) (hf : ∀ x : Value, foldedSetIterable iter X.env x = pure x := by intro _; rfl) :
    RS X C (.For tg iter body [] pos) (sFor it g b) := (ps_for hp hc hi hg hb hf).imp fun D σ H ⟨L, w, p, en, S, E, h⟩ => by
  refine ⟨L, w, p, en, S, E, h.run E fun z p1 w1 H1 J l1 S1 rJ h1 => ?_⟩
  obtain ⟨xs, ck⟩ := z
  refine ⟨fun i m σ' H' => i ≤ xs.length ∧ m = xs.length - i ∧ ∃ w' p' en', w1.le w' ∧ SimP C.Γ L w' p' H' ∧ EnR C L w' en' σ' ∧ PostS C L w' D (loopF ck g b (xs.drop i) en' p'),
    ⟨xs.length, Nat.zero_le _, rfl, w1, p1, en, Wd.le.refl w1, S1, E.mono l1, h1⟩, fun i m σ' H' ⟨hi, hm, w', p', en', l', S', E', h'⟩ => ?_⟩
  have hk : ck p' = true := by
    cases e : ck p' with
    | true => rfl
    | false =>
      cases er : xs.drop i with
      | nil =>
        rw [er] at h'
        unfold loopF at h'
        rw [if_neg (by rw [e]; exact Bool.false_ne_true)] at h'
        exact h'.elim
      | cons y r =>
        rw [er] at h'
        unfold loopF at h'
        rw [if_neg (by rw [e]; exact Bool.false_ne_true)] at h'
        exact h'.elim
  obtain ⟨j1, j2⟩ := rJ L w' p' H' l' S' hk i
  cases ex : xs[i]? with
  | none =>
    have hlen : xs.length ≤ i := List.getElem?_eq_none_iff.mp ex
    rw [List.drop_eq_nil_of_le hlen] at h'
    unfold loopF at h'
    rw [if_pos hk] at h'
    exact .inl ⟨j1 ex, h' w' H' σ' (Wd.le.refl w') S' E'⟩
  | some x =>
    obtain ⟨hlt, ex'⟩ := List.getElem?_eq_some_iff.mp ex
    rw [List.drop_eq_getElem_cons hlt, ex'] at h'
    unfold loopF at h'
    rw [if_pos hk] at h'
    obtain ⟨go, yl⟩ := j2 x ex
    refine .inr ⟨go, fun σ2 H2 => ∃ w2 p2 en2, w1.le w2 ∧ SimP C.Γ L w2 p2 H2 ∧ EnR C L w2 en2 σ2 ∧ PostS C L w2 D (loopF ck g b (xs.drop (i + 1)) en2 p2), fun σ2 H2 q => ⟨m - 1, by omega, by omega, by omega, q⟩, fun v H2 hy => ?_⟩
    obtain ⟨w2, l2, S2, r2⟩ := yl v H2 hy
    cases eg : g x with
    | none =>
      rw [eg] at h'
      exact h'.elim
    | some as =>
      rw [eg] at h'
      dsimp only at h'
      refine ⟨L, w2, p', x, as, S2, r2, eg, fun bs f q => ?_⟩
      refine ⟨L, w2, p', en'.sets as, S2, (E'.mono l2).sets f q, ?_⟩
      cases e : b (en'.sets as) p' with
      | next en2 p2 =>
        rw [e] at h'
        exact fun w3 H3 σ3 l3 S3 E3 => ⟨w3, p2, en2, l'.trans (l2.trans l3), S3, E3, PostS.mono (l2.trans l3) h'⟩
      | cont en2 p2 =>
        rw [e] at h'
        exact fun w3 H3 σ3 l3 S3 E3 => ⟨w3, p2, en2, l'.trans (l2.trans l3), S3, E3, PostS.mono (l2.trans l3) h'⟩
      | brk en2 p2 =>
        rw [e] at h'
        exact PostS.mono l2 h'
      | ret y p2 =>
        rw [e] at h'
        exact PostS.mono l2 h'
      | exc c y en2 p2 =>
        rw [e] at h'
        exact PostS.mono l2 h'
      | stuck =>
        rw [e] at h'
        exact h'.elim
end
end R

/-! R6: comprehensions -/
namespace R
open PySem L2

section
variable {Γ : Cfg} {L L' : Lv} {w w' : Wd} {p q : Pool} {H : Hp}
theorem CellR.mono {c : Cell} {a : Addr} (h : CellR Γ w H c a) (l : w.le w') (g : w'.G = w.G) : CellR Γ w' H c a := by
  refine h.step l (fun b _ e => ?_) (fun _ _ e => e)
  rw [g]
  exact e
theorem SimP.level (S : SimP Γ L w p H) (hb : L'.b ≤ p.length) (hlo : ∀ k, L'.b ≤ k → L'.lo k = none) (hm : ∀ k m, L'.lo k = some m → m ≤ p.length)
    (hc : ∀ (k : Nat) c a, p[k]? = some c → w.ρ[k]? = some a → CellR Γ (w.low (L.lo k)) H c a → CellR Γ (w.low (L'.lo k)) H c a) : SimP Γ L' w p H :=
  ⟨S.sub, S.len, S.nd, hb, hlo, hm, fun k c a h1 h2 => hc k c a h1 h2 (S.cell k c a h1 h2), S.nt, S.tb⟩
/-- a block that fills the n-th cell with what leans on the first n alone -/
def Lv.block (L : Lv) (n : Nat) : Lv := ⟨n + 1, fun k => if k < n then some (minO n (L.lo k)) else if k = n then some n else none⟩
theorem Lv.block_lt {n k : Nat} (h : k < n) : (L.block n).lo k = some (minO n (L.lo k)) := by
  show (if k < n then _ else _) = _
  rw [if_pos h]
theorem Lv.block_eq {n : Nat} : (L.block n).lo n = some n := by
  show (if n < n then _ else if n = n then _ else _) = _
  rw [if_neg (Nat.lt_irrefl n), if_pos rfl]
theorem Lv.block_gt {n k : Nat} (h : n < k) : (L.block n).lo k = none := by
  show (if k < n then _ else if k = n then _ else _) = _
  rw [if_neg (by omega), if_neg (by omega)]
theorem minO_le (n : Nat) : ∀ o : Option Nat, minO n o ≤ n
  | none => Nat.le_refl n
  | some m => Nat.min_le_right m n
theorem Lv.block_le {n k m : Nat} (h : (L.block n).lo k = some m) : m ≤ n := by
  rcases Nat.lt_trichotomy k n with hk | hk | hk
  · rw [Lv.block_lt hk] at h
    cases h
    exact minO_le n _
  · subst hk
    rw [Lv.block_eq] at h
    cases h
    exact Nat.le_refl _
  · rw [Lv.block_gt hk] at h
    cases h
theorem low_take {m : Nat} : w.low (some m) = ⟨w.G, w.ρ.take m⟩ := rfl
theorem SimP.block (S : SimP Γ L w p H) {D : Addr} (hD : H D = none) : SimP Γ (L.block p.length) (w.cell D) (p ++ [.lst []]) (upd H D (.lst [])) := by
  have S1 : SimP Γ (L.deeper p.length) (w.cell D) (p ++ [.lst []]) (upd H D (.lst [])) := S.enter.newCell hD ⟨S.free hD, [], upd_same, rfl⟩
  refine S1.level (by rw [List.length_append]; exact Nat.le_refl _) (fun k hk => Lv.block_gt (by exact hk)) (fun k m e => ?_) (fun k c a h1 h2 x => ?_)
  · have := Lv.block_le e
    rw [List.length_append]
    omega
  · rcases Nat.lt_trichotomy k p.length with hk | hk | hk
    · rw [Lv.block_lt hk]
      rw [Lv.deeper_lt hk] at x
      exact x
    · subst hk
      rw [Lv.block_eq]
      have e : c = .lst [] := by
        rw [List.getElem?_append_right (Nat.le_refl _)] at h1
        simp at h1
        exact h1.symm
      subst e
      have h2 : (w.ρ ++ [D])[p.length]? = some a := h2
      rw [← S.len] at h2
      have e2 : D = a := by simpa using h2
      subst e2
      exact ⟨S.free hD, [], upd_same, rfl⟩
    · have := (List.getElem?_eq_some_iff.mp h1).1
      rw [List.length_append] at this
      simp at this
      omega
/-- the block's cells but the n-th are forgotten -/
theorem SimP.turn {n : Nat} (S : SimP Γ (L.block n) w q H) : SimP Γ (L.block n) (w.ice (n + 1) H) (q.take (n + 1)) H := by
  have hb : n + 1 ≤ q.length := S.hb
  have S1 : SimP Γ ((L.block n).deeper (n + 1)) w q H := by
    refine S.level hb (fun k hk => ?_) (fun k m e => ?_) (fun k c a h1 h2 x => ?_)
    · show (if k < n + 1 then _ else none) = none
      rw [if_neg (by have : n + 1 ≤ k := hk; omega)]
    · by_cases hk : k < n + 1
      · rw [Lv.deeper_lt hk] at e
        cases e
        have := minO_le (n + 1) ((L.block n).lo k)
        omega
      · have e : (if k < n + 1 then some (minO (n + 1) ((L.block n).lo k)) else none) = some m := e
        rw [if_neg hk] at e
        cases e
    · by_cases hk : k < n + 1
      · rw [Lv.deeper_lt hk]
        cases e : (L.block n).lo k with
        | none =>
          rcases Nat.lt_trichotomy k n with h | h | h
          · rw [Lv.block_lt h] at e
            cases e
          · subst h
            rw [Lv.block_eq] at e
            cases e
          · omega
        | some m =>
          rw [e] at x
          have := Lv.block_le e
          show CellR Γ (w.low (some (min m (n + 1)))) H c a
          rw [Nat.min_eq_left (by omega)]
          exact x
      · have e1 : ((L.block n).deeper (n + 1)).lo k = none := by
          show (if k < n + 1 then _ else none) = none
          rw [if_neg hk]
        rw [e1]
        rw [Lv.block_gt (by omega)] at x
        exact x
  exact S1.ice (Nat.le_refl _) (fun k hk => Lv.block_gt hk) (fun k m e => by have := Lv.block_le e; omega)
theorem SimP.unblockD {n : Nat} (S : SimP Γ (L.block n) w q H) : SimP Γ (L.deeper n) w q H := by
  have hb : n + 1 ≤ q.length := S.hb
  refine S.level (by show n ≤ q.length; omega) (fun k hk => ?_) (fun k m e => ?_) (fun k c a h1 h2 x => ?_)
  · show (if k < n then _ else none) = none
    rw [if_neg (by have : n ≤ k := hk; omega)]
  · by_cases hk : k < n
    · rw [Lv.deeper_lt hk] at e
      cases e
      have := minO_le n (L.lo k)
      omega
    · have e : (if k < n then some (minO n (L.lo k)) else none) = some m := e
      rw [if_neg hk] at e
      cases e
  · by_cases hk : k < n
    · rw [Lv.deeper_lt hk]
      rw [Lv.block_lt hk] at x
      exact x
    · have e1 : (L.deeper n).lo k = none := by
        show (if k < n then _ else none) = none
        rw [if_neg hk]
      rw [e1]
      exact x.mono (w.low_le _) Wd.low_G.symm
/-- the n-th cell stays one that may change -/
theorem SimP.unblock {n : Nat} (S : SimP Γ (L.block n) w q H) (hb : L.b ≤ n) (hlo : ∀ k, L.b ≤ k → L.lo k = none) (hm : ∀ k m, L.lo k = some m → m ≤ n) : SimP Γ L w q H := by
  have hq : n + 1 ≤ q.length := S.hb
  refine S.level (by omega) hlo (fun k m e => by have := hm k m e; omega) (fun k c a h1 h2 x => ?_)
  by_cases hk : k < n
  · rw [Lv.block_lt hk] at x
    refine x.mono ?_ (by rw [Wd.low_G, Wd.low_G])
    cases e : L.lo k with
    | none => exact w.low_le _
    | some m =>
      show (w.low (some (min m n))).le (w.low (some m))
      rw [Nat.min_eq_left (hm k m e)]
      exact Wd.le.refl _
  · rw [hlo k (by omega)]
    exact x.mono (w.low_le _) Wd.low_G.symm
end
/-! ### the names of a block -/
def wipeE (sl : List (Option PV)) : List Nat → List (Option PV)
  | [] => sl
  | v :: vs => (wipeE sl vs).set v none
theorem setV_get (j : Nat) : ∀ (bs : List (Nat × V)) (σ : St), j ∉ bs.map (·.1) → (setV σ bs)[j]? = σ[j]?
  | [], _, _ => rfl
  | (i, v) :: r, σ, h => by
    show (setV (σ.set i (some v)) r)[j]? = _
    rw [setV_get j r _ fun z => h (List.mem_cons_of_mem _ z)]
    exact List.getElem?_set_ne fun z => h (by rw [← z]; exact List.mem_cons_self)
theorem setV_len : ∀ (bs : List (Nat × V)) (σ : St), (setV σ bs).length = σ.length
  | [], _ => rfl
  | (i, v) :: r, σ => by
    show (setV (σ.set i (some v)) r).length = _
    rw [setV_len r, List.length_set]
theorem wipe_get (σ : St) (j : Nat) : ∀ vs : List Nat, (wipe σ vs)[j]? = if j ∈ vs then (if j < σ.length then some none else none) else σ[j]?
  | [] => by simp [wipe]
  | v :: vs => by
    show ((wipe σ vs).set v none)[j]? = _
    by_cases hv : v = j
    · subst hv
      rw [if_pos (List.mem_cons_self)]
      by_cases hl : v < σ.length
      · rw [List.getElem?_set_self (by rw [wipe_length]; exact hl), if_pos hl]
      · rw [List.getElem?_eq_none (by rw [List.length_set, wipe_length]; omega), if_neg hl]
    · rw [List.getElem?_set_ne hv, wipe_get σ j vs]
      have e : (j ∈ v :: vs) ↔ j ∈ vs := by
        constructor
        · intro h
          rcases List.mem_cons.mp h with h | h
          · exact absurd h.symm hv
          · exact h
        · exact List.mem_cons_of_mem _
      by_cases hj : j ∈ vs
      · rw [if_pos hj, if_pos (e.mpr hj)]
      · rw [if_neg hj, if_neg (fun z => hj (e.mp z))]
theorem wipe_setV {σ : St} {vs : List Nat} {bs : List (Nat × V)} (h : ∀ i ∈ bs.map (·.1), i ∈ vs) : wipe (setV (wipe σ vs) bs) vs = wipe σ vs := by
  apply List.ext_getElem?
  intro j
  rw [wipe_get, wipe_get, setV_len, wipe_length]
  by_cases hj : j ∈ vs
  · rw [if_pos hj, if_pos hj]
  · rw [if_neg hj, if_neg hj, setV_get j bs _ fun z => hj (h j z), wipe_get, if_neg hj]
theorem EnR.wipe {C : Cn} {L : Lv} {w : Wd} {en : En} {σ : St} (E : EnR C L w en σ) {L' : Lv} : ∀ vs : List Nat, EnR C L' w ⟨L'.b, wipeE en.sl vs⟩ (L2.wipe σ vs)
  | [] => ⟨rfl, E.len, E.val⟩
  | v :: vs => by
    have ih := EnR.wipe E (L' := L') vs
    refine ⟨rfl, ?_, fun j y e => ?_⟩
    · show ((wipeE en.sl vs).set v none).length = ((L2.wipe σ vs).set v none).length
      rw [List.length_set, List.length_set]
      exact ih.len
    · have e : ((wipeE en.sl vs).set v none)[j]? = some (some y) := e
      have ne : v ≠ j := by
        rintro rfl
        by_cases hl : v < (wipeE en.sl vs).length
        · rw [List.getElem?_set_self hl] at e
          cases e
        · rw [List.getElem?_eq_none (by rw [List.length_set]; omega)] at e
          cases e
      rw [List.getElem?_set_ne ne] at e
      obtain ⟨u, e1, e2⟩ := ih.val j y e
      exact ⟨u, by show ((L2.wipe σ vs).set v none)[j]? = _; rw [List.getElem?_set_ne ne]; exact e1, e2⟩
/-! ### the block -/
def W0 : WX := fun _ _ _ _ => False
def loopC (ck : Pool → Bool) (g : T1) (tt : M Bool) (te : M PV) (vs : List Nat) (n : Nat) (en : En) : List PV → Pool → Res Unit
  | [], q => if ck q = true then .ok () q else .stuck
  | x :: r, q => if ck q = true then match g x with
    | none => .stuck
    | some as => if as.all (fun a => vs.elem a.1) = true then (tt (en.sets as) q).bind fun b q1 => if b = true then (te (en.sets as) q1).bind fun y q2 => match q2[n]? with
          | some (.lst acc) => if bel n y = true ∧ acc.length < big then loopC ck g tt te vs n en r ((q2.take (n + 1)).set n (.lst (acc ++ [y]))) else .stuck
          | _ => .stuck
        else loopC ck g tt te vs n en r (q1.take (n + 1))
      else .stuck
    else .stuck
def mLc (it : M It0) (g : T1) (tt : M Bool) (te : M PV) (vs : List Nat) : M PV := fun en p => (it en p).bind fun z p1 => match loopC z.ck g tt te vs p1.length ⟨p1.length + 1, wipeE en.sl vs⟩ z.xs (p1 ++ [.lst []]) with
  | .ok _ q => match q[p1.length]? with
    | some (.lst acc) => .ok (.lst acc) (q.take p1.length)
    | _ => .stuck
  | _ => .stuck
/-- a list that may change -/
def mLcO (it : M It0) (g : T1) (tt : M Bool) (te : M PV) (vs : List Nat) : M PV := fun en p => (it en p).bind fun z p1 => match loopC z.ck g tt te vs p1.length ⟨p1.length + 1, wipeE en.sl vs⟩ z.xs (p1 ++ [.lst []]) with
  | .ok _ q => .ok (.own p1.length) q
  | _ => .stuck
section
variable {C : Cn}
abbrev Cn.blk (C : Cn) : Cn := ⟨C.Γ, W0⟩
/-- fin: what is wanted of the filled cell -/
theorem wLc_core {g : T1} {tt : M Bool} {te : M PV} {vs : List Nat} {σ : St} {H1 : Hp} {L : Lv} {w1 : Wd} {p1 : Pool} {en : En} {xs : List PV} {ck : Pool → Bool} {J : It} {Q : VK} (S1 : SimP C.Γ L w1 p1 H1) (E : EnR C L w1 en σ) (rJ : ItR C.Γ w1 ck xs J)
    (fin : Res Unit → Prop) (hf : fin (loopC ck g tt te vs p1.length ⟨p1.length + 1, wipeE en.sl vs⟩ xs (p1 ++ [.lst []]))) (hx : ∀ c v p, ¬ fin (.exc c v p)) (hst : ¬ fin .stuck)
    (D : Addr) (hD : H1 D = none) (hfin : ∀ w' q H', w1.le w' → SimP C.Γ (L.block p1.length) w' q H' → q.length = p1.length + 1 → w'.ρ[p1.length]? = some D → fin (.ok () q) → Q (.ref D) H') :
    ∃ W : Nat → Nat → Hp → Prop, (∃ m, W 0 m (upd H1 D (.lst []))) ∧ ∀ i m H, W i m H →
      (J.stop i H ∧ Q (.ref D) H) ∨ (J.go i H ∧ ∃ Nx : Hp → Prop, (∀ H', Nx H' → ∃ m', m' < m ∧ W (i + 1) m' H') ∧ ∀ x H', J.yld i H x H' → wG C.blk g x (wipe σ vs) H' fun σ2 H2 => wipe σ2 vs = wipe σ vs ∧ wT C.blk tt σ2 H2 fun b H3 =>
        if b = true then wE C.blk te σ2 H3 fun y H4 => ∃ acc, H4 D = some (.lst acc) ∧ acc.length < sizeLine ∧ Nx (upd H4 D (.lst (acc ++ [y]))) else Nx H3) := by
  let n := p1.length
  have hn : n = p1.length := rfl
  let enB : En := ⟨n + 1, wipeE en.sl vs⟩
  have le0 : w1.le (w1.cell D) := w1.le_cell D
  have lenD : (w1.cell D).ρ.length = n + 1 := by
    show (w1.ρ ++ [D]).length = _
    rw [List.length_append, S1.len]
    rfl
  have atD : (w1.cell D).ρ[n]? = some D := by
    show (w1.ρ ++ [D])[p1.length]? = some D
    rw [← S1.len]
    simp
  refine ⟨fun i m H => i ≤ xs.length ∧ m = xs.length - i ∧ ∃ w' q, (w1.cell D).le w' ∧ SimP C.Γ (L.block n) w' q H ∧ q.length = n + 1 ∧ fin (loopC ck g tt te vs n enB (xs.drop i) q), ⟨xs.length, Nat.zero_le _, rfl, w1.cell D, _, Wd.le.refl _, S1.block hD, by rw [List.length_append]; rfl, hf⟩, fun i m H ⟨hi, hm, w', q, l', S', lq, f'⟩ => ?_⟩
  have hk : ck q = true := by
    cases e : ck q with
    | true => rfl
    | false =>
      cases er : xs.drop i with
      | nil =>
        rw [er] at f'
        unfold loopC at f'
        rw [if_neg (by rw [e]; exact Bool.false_ne_true)] at f'
        exact absurd f' hst
      | cons y r =>
        rw [er] at f'
        unfold loopC at f'
        rw [if_neg (by rw [e]; exact Bool.false_ne_true)] at f'
        exact absurd f' hst
  obtain ⟨j1, j2⟩ := rJ _ w' q H (le0.trans l') S' hk i
  cases ex : xs[i]? with
  | none =>
    have hlen : xs.length ≤ i := List.getElem?_eq_none_iff.mp ex
    rw [List.drop_eq_nil_of_le hlen] at f'
    unfold loopC at f'
    rw [if_pos hk] at f'
    exact .inl ⟨j1 ex, hfin w' q H (le0.trans l') S' lq (pre_get l'.2 atD) f'⟩
  | some x =>
    obtain ⟨hlt, ex'⟩ := List.getElem?_eq_some_iff.mp ex
    rw [List.drop_eq_getElem_cons hlt, ex'] at f'
    unfold loopC at f'
    rw [if_pos hk] at f'
    obtain ⟨go, yl⟩ := j2 x ex
    refine .inr ⟨go, fun H' => ∃ w2 q2, (w1.cell D).le w2 ∧ SimP C.Γ (L.block n) w2 q2 H' ∧ q2.length = n + 1 ∧ fin (loopC ck g tt te vs n enB (xs.drop (i + 1)) q2), fun H' z => ⟨m - 1, by omega, by omega, by omega, z⟩, fun v H2 hy => ?_⟩
    obtain ⟨w2, l2, S2, r2⟩ := yl v H2 hy
    cases eg : g x with
    | none =>
      rw [eg] at f'
      exact absurd f' hst
    | some as =>
      rw [eg] at f'
      dsimp only at f'
      by_cases ha : as.all (fun a => vs.elem a.1) = true
      · rw [if_pos ha] at f'
        refine ⟨L.block n, w2, q, x, as, S2, r2, eg, fun bs fb qb => ⟨wipe_setV fun j hj => ?_, ?_⟩⟩
        · rw [fb] at hj
          obtain ⟨a, ma, ea⟩ := List.mem_map.mp hj
          have := List.all_eq_true.mp ha a ma
          rw [ea] at this
          exact List.elem_iff.mp this
        · have E2 : EnR C.blk (L.block n) w2 (enB.sets as) (setV (wipe σ vs) bs) := by
            have E0 : EnR C.blk L w1 en σ := ⟨E.b, E.len, E.val⟩
            have E1 : EnR C.blk (L.block n) w1 enB (wipe σ vs) := E0.wipe (L' := L.block n) vs
            exact (E1.mono ((le0.trans l').trans l2)).sets fb qb
          refine ⟨L.block n, w2, q, enB.sets as, S2, E2, ?_⟩
          cases et : tt (enB.sets as) q with
          | stuck =>
            rw [et] at f'
            exact absurd f' hst
          | exc c v p2 =>
            rw [et] at f'
            exact absurd f' (hx _ _ _)
          | ok b q1 =>
            rw [et] at f'
            intro w3 H3 b' l3 S3 rb
            cases rb
            have f' : fin (if b = true then (te (enB.sets as) q1).bind fun y q2 => match q2[n]? with
              | some (.lst acc) => if bel n y = true ∧ acc.length < big then loopC ck g tt te vs n enB (xs.drop (i + 1)) ((q2.take (n + 1)).set n (.lst (acc ++ [y]))) else .stuck
              | _ => .stuck
              else loopC ck g tt te vs n enB (xs.drop (i + 1)) (q1.take (n + 1))) := f'
            have l03 : (w1.cell D).le w3 := (l'.trans l2).trans l3
            cases b with
            | false =>
              refine iteF ?_
              rw [if_neg Bool.false_ne_true] at f'
              have hl : n + 1 ≤ q1.length := S3.hb
              exact ⟨_, _, S3.le_ice l03 lenD, S3.turn, by rw [List.length_take]; omega, f'⟩
            | true =>
              refine iteT ?_
              rw [if_pos rfl] at f'
              refine ⟨L.block n, w3, q1, enB.sets as, S3, E2.mono l3, ?_⟩
              cases ee : te (enB.sets as) q1 with
              | stuck =>
                rw [ee] at f'
                exact absurd f' hst
              | exc c v p2 =>
                rw [ee] at f'
                exact absurd f' (hx _ _ _)
              | ok y q2 =>
                rw [ee] at f'
                intro w4 H4 u l4 S4 ru
                have f' : fin (match q2[n]? with
                  | some (.lst acc) => if bel n y = true ∧ acc.length < big then loopC ck g tt te vs n enB (xs.drop (i + 1)) ((q2.take (n + 1)).set n (.lst (acc ++ [y]))) else .stuck
                  | _ => .stuck) := f'
                split at f'
                · rename_i acc eacc
                  by_cases hk : bel n y = true ∧ acc.length < big
                  · rw [if_pos hk] at f'
                    have l04 : (w1.cell D).le w4 := l03.trans l4
                    have hl : n + 1 ≤ q2.length := S4.hb
                    have S5 := S4.turn
                    have l05 : (w1.cell D).le (w4.ice (n + 1) H4) := S4.le_ice l04 lenD
                    have e5 : (q2.take (n + 1))[n]? = some (.lst acc) := by
                      rw [List.getElem?_take_of_lt (Nat.lt_succ_self n)]
                      exact eacc
                    have d5 : (w4.ice (n + 1) H4).ρ[n]? = some D := pre_get l05.2 atD
                    obtain ⟨g5, zs, eH, rz⟩ := S5.cell n _ D e5 d5
                    rw [Lv.block_eq] at rz g5
                    refine ⟨zs, eH, by rw [← rz.length]; exact big_lt hk.2, _, _, l05, S5.write (c := .lst (acc ++ [y])) (o := .lst (zs ++ [u])) d5 (by rw [Wd.low_G] at g5; exact g5) ⟨by rw [Wd.low_G] at g5 ⊢; exact g5, _, upd_same, ?_⟩, by rw [List.length_set, List.length_take]; omega, f'⟩
                    rw [Lv.block_eq]
                    refine rz.append (Reps.cons ?_ Reps.nil)
                    refine (ru.below hk.1).mono ⟨S4.iced_le (n + 1), ?_⟩
                    show w4.ρ.take n <+: (w4.ρ.take (n + 1)).take n
                    rw [List.take_take, Nat.min_eq_left (Nat.le_succ n)]
                    exact List.prefix_refl _
                  · rw [if_neg hk] at f'
                    exact absurd f' hst
                · exact absurd f' hst
      · rw [if_neg ha] at f'
        exact absurd f' hst
theorem wE_lc {it : M It0} {g : T1} {tt : M Bool} {te : M PV} {vs : List Nat} : ∀ σ H Q, wE C (mLc it g tt te vs) σ H Q → tLc (wI C it) (wG C.blk g) (wT C.blk tt) (wE C.blk te) vs σ H Q := fun σ H Q ⟨L, w, p, en, S, E, h⟩ => by
  refine ⟨L, w, p, en, S, E, h.bind fun z p1 w1 H1 J l1 S1 rJ h1 => fun D hD => ?_⟩
  refine wLc_core (Q := Q) S1 (E.mono l1) rJ (fun r => Post C L w1 σ (RV C) (match r with
    | .ok _ q => match q[p1.length]? with
      | some (.lst acc) => .ok (.lst acc) (q.take p1.length)
      | _ => .stuck
    | _ => .stuck) Q) h1 (fun _ _ _ z => z) (fun z => z) D hD fun w' q H' l' S' lq dq f => ?_
  dsimp only at f
  split at f
  · rename_i acc eacc
    obtain ⟨g, vs, eH, r⟩ := S'.cell _ _ D eacc dq
    rw [Lv.block_eq] at r
    have S2 := S'.unblockD.ice S1.hb S1.hlo S1.hm
    have lw : (w'.low (some p1.length)).le (w'.ice p1.length H') := ⟨S'.iced_le p1.length, List.prefix_refl _⟩
    refine f _ H' _ (S'.le_ice l' S1.len) S2 ⟨D, vs, rfl, ?_, r.mono lw⟩
    show iced w' p1.length H' D = _
    rw [iced_at (Nat.le_refl _) dq]
    exact eH
  · exact f.elim
theorem wE_lcO {it : M It0} {g : T1} {tt : M Bool} {te : M PV} {vs : List Nat} : ∀ σ H Q, wE C (mLcO it g tt te vs) σ H Q → tLc (wI C it) (wG C.blk g) (wT C.blk tt) (wE C.blk te) vs σ H Q := fun σ H Q ⟨L, w, p, en, S, E, h⟩ => by
  refine ⟨L, w, p, en, S, E, h.bind fun z p1 w1 H1 J l1 S1 rJ h1 => fun D hD => ?_⟩
  refine wLc_core (Q := Q) S1 (E.mono l1) rJ (fun r => Post C L w1 σ (RV C) (match r with
    | .ok _ q => .ok (.own p1.length) q
    | _ => .stuck) Q) h1 (fun _ _ _ z => z) (fun z => z) D hD fun w' q H' l' S' lq dq f => ?_
  exact f w' H' _ l' (S'.unblock S1.hb S1.hlo S1.hm) ⟨D, dq, rfl⟩
end
section
variable {X : Cx} {C : Cn} {pos : Pos}
def mYes : M Bool := fun _ p => .ok true p
abbrev RTs (X : Cx) (C : Cn) (ifs : List Expr) (m : M Bool) : Prop := PTs X ifs (wT C m)
theorem rts_nil : RTs X C [] mYes := ⟨fun pins s σ H Q I ⟨L, w, p, en, S, E, h⟩ => pts_nil.run pins s σ H Q I (h.ok S rfl)⟩
theorem rts_one {c : Expr} {m : M Bool} (h : RT X C c m) : RTs X C [c] m := pts_one h
theorem re_lc {elt tg iter : Expr} {ifs : List Expr} {scope : Scope} {own : List (Str × Nat)} {it : M It0} {g : T1} {tt : M Bool} {te : M PV} (hc : X.calm = true) (hN : X.N.Nodup) (hi : RI X C tg iter it) (ok : BlkOk X.N X.env.scope scope own)
    (hg : ∀ (s : Shared) (H : Hp) (B : Addr) (cl : List (Str × Addr)) (fp : List Addr), RG (X.blk s H scope (compEnvC scope cl B X.env) fp) C.blk tg g) (ht : ∀ (s : Shared) (H : Hp) (B : Addr) (cl : List (Str × Addr)) (fp : List Addr), RTs (X.blk s H scope (compEnvC scope cl B X.env) fp) C.blk ifs tt)
    (he : ∀ (s : Shared) (H : Hp) (B : Addr) (cl : List (Str × Addr)) (fp : List Addr), RE (X.blk s H scope (compEnvC scope cl B X.env) fp) C.blk elt te) (hf : ∀ x : Value, foldedSetIterable iter X.env x = pure x := by intro _; rfl) :
    RE X C (.ListComp elt [{ target := tg, iter := iter, ifs := ifs, is_async := 0 }] scope pos) (mLc it g tt te (own.map (·.2))) := (pe_lc hc hN hi ok hg ht he hf).imp wE_lc
theorem rs_setLc {i : Nat} {y : Str} {py spos : Pos} {elt tg iter : Expr} {ifs : List Expr} {scope : Scope} {own : List (Str × Nat)} {it : M It0} {g : T1} {tt : M Bool} {te : M PV} (hc : X.calm = true) (hN : X.N.Nodup) (hy : X.N[i]? = some y) (hl : X.env.scope.names.lookup y = some .local)
    (hsw : swapsWith (.ListComp elt [{ target := tg, iter := iter, ifs := ifs, is_async := 0 }] scope pos) (some (.Name y py)) spos.line X.env = pure true) (hi : RI X C tg iter it) (ok : BlkOk X.N X.env.scope scope own)
    (hg : ∀ (s : Shared) (H : Hp) (B : Addr) (cl : List (Str × Addr)) (fp : List Addr), RG (X.blk s H scope (compEnvC scope cl B X.env) fp) C.blk tg g) (ht : ∀ (s : Shared) (H : Hp) (B : Addr) (cl : List (Str × Addr)) (fp : List Addr), RTs (X.blk s H scope (compEnvC scope cl B X.env) fp) C.blk ifs tt)
    (he : ∀ (s : Shared) (H : Hp) (B : Addr) (cl : List (Str × Addr)) (fp : List Addr), RE (X.blk s H scope (compEnvC scope cl B X.env) fp) C.blk elt te) (hf : ∀ x : Value, foldedSetIterable iter X.env x = pure x := by intro _; rfl) :
    RS X C (.Assign [.Name y py] (.ListComp elt [{ target := tg, iter := iter, ifs := ifs, is_async := 0 }] scope pos) spos) (sSet (mLc it g tt te (own.map (·.2))) i) := (ps_setLc hc hN hy hl hsw hi ok hg ht he hf).imp fun D σ H ⟨L, w, p, en, S, E, h⟩ =>
  wE_lc σ H _ ⟨L, w, p, en, S, E, h.run E fun x p1 w1 H1 v l1 S1 r1 h1 => h1 w1 H1 _ (Wd.le.refl w1) S1 ((E.mono l1).set r1)⟩
theorem rs_setLcO {i : Nat} {y : Str} {py spos : Pos} {elt tg iter : Expr} {ifs : List Expr} {scope : Scope} {own : List (Str × Nat)} {it : M It0} {g : T1} {tt : M Bool} {te : M PV} (hc : X.calm = true) (hN : X.N.Nodup) (hy : X.N[i]? = some y) (hl : X.env.scope.names.lookup y = some .local)
    (hsw : swapsWith (.ListComp elt [{ target := tg, iter := iter, ifs := ifs, is_async := 0 }] scope pos) (some (.Name y py)) spos.line X.env = pure true) (hi : RI X C tg iter it) (ok : BlkOk X.N X.env.scope scope own)
    (hg : ∀ (s : Shared) (H : Hp) (B : Addr) (cl : List (Str × Addr)) (fp : List Addr), RG (X.blk s H scope (compEnvC scope cl B X.env) fp) C.blk tg g) (ht : ∀ (s : Shared) (H : Hp) (B : Addr) (cl : List (Str × Addr)) (fp : List Addr), RTs (X.blk s H scope (compEnvC scope cl B X.env) fp) C.blk ifs tt)
    (he : ∀ (s : Shared) (H : Hp) (B : Addr) (cl : List (Str × Addr)) (fp : List Addr), RE (X.blk s H scope (compEnvC scope cl B X.env) fp) C.blk elt te) (hf : ∀ x : Value, foldedSetIterable iter X.env x = pure x := by intro _; rfl) :
    RS X C (.Assign [.Name y py] (.ListComp elt [{ target := tg, iter := iter, ifs := ifs, is_async := 0 }] scope pos) spos) (sSet (mLcO it g tt te (own.map (·.2))) i) := (ps_setLc hc hN hy hl hsw hi ok hg ht he hf).imp fun D σ H ⟨L, w, p, en, S, E, h⟩ =>
  wE_lcO σ H _ ⟨L, w, p, en, S, E, h.run E fun x p1 w1 H1 v l1 S1 r1 h1 => h1 w1 H1 _ (Wd.le.refl w1) S1 ((E.mono l1).set r1)⟩
end
end R

/-! R7: defs, calls, instances made, raise, try -/
namespace R
open PySem L2

abbrev FnM := List PV → Pool → Res PV
/-- what follows a call -/
def PostF (Γ : Cfg) (L : Lv) (w : Wd) (r : Res PV) (Q : VK) (E : XK) : Prop := match r with
  | .ok x p => ∀ w' H' v, w.le w' → SimP Γ L w' p H' → Rep Γ w' x v → Q v H'
  | .exc c ov p => ∀ w' H' d, w.le w' → SimP Γ L w' p H' → ExcR Γ w' c ov d → E (.ref (Γ.cls c)) d H'
  | .stuck => False
/-- a def's promise: it does what f says -/
def spM (Γ : Cfg) (n : Nat) (f : FnM) : Sp := fun vs H Q E => vs.length = n ∧ ∃ L w p xs, SimP Γ L w p H ∧ Reps Γ w xs vs ∧ PostF Γ L w (f xs p) Q E
/-- a def by its body; N: how many names -/
def fnM (fld : Nat → List Str) (N : Nat) (body : R.S) : FnM := fun xs p => match body ⟨p.length, xs.map some ++ List.replicate (N - xs.length) none⟩ p with
  | .ret x q => match thaw fld p.length q x with
    | some y => .ok y (q.take p.length)
    | none => .stuck
  | .next _ q => .ok .non (q.take p.length)
  | .exc c none _ q => .exc c none (q.take p.length)
  | .exc c (some x) _ q => match thaw fld p.length q x with
    | some y => .exc c (some y) (q.take p.length)
    | none => .stuck
  | _ => .stuck
/-- .. that hands back a list of its own, which may change -/
def fnO (N : Nat) (body : R.S) : FnM := fun xs p => match body ⟨p.length, xs.map some ++ List.replicate (N - xs.length) none⟩ p with
  | .ret (.own k) q => if k = p.length then match q[p.length]? with
      | some (.lst acc) => if bels p.length acc = true then .ok (.own p.length) (q.take (p.length + 1)) else .stuck
      | _ => .stuck
    else .stuck
  | _ => .stuck
theorem Reps.getS {Γ : Cfg} {w : Wd} {xs : List PV} {vs : List V} (r : Reps Γ w xs vs) (n m : Nat) (h : n - xs.length = m) : ∀ (i : Nat) x, (xs.map some ++ List.replicate m (none : Option PV))[i]? = some (some x) → ∃ v, (vs.map some ++ List.replicate (n - vs.length) (none : Option V))[i]? = some (some v) ∧ Rep Γ w x v := fun i x e => by
  by_cases hi : i < xs.length
  · rw [List.getElem?_append_left (by rw [List.length_map]; exact hi), List.getElem?_map] at e
    cases ex : xs[i]? with
    | none =>
      rw [ex] at e
      cases e
    | some y =>
      rw [ex] at e
      cases e
      obtain ⟨v, ev, rv⟩ := r.get ex
      exact ⟨v, by rw [List.getElem?_append_left (by rw [List.length_map, ← r.length]; exact hi), List.getElem?_map, ev]; rfl, rv⟩
  · rw [List.getElem?_append_right (by rw [List.length_map]; omega), List.getElem?_replicate] at e
    split at e <;> cases e
theorem EnR.start {C : Cn} {w : Wd} {L : Lv} {N : List Str} {xs : List PV} {vs : List V} (r : Reps C.Γ w xs vs) : EnR C L w ⟨L.b, xs.map some ++ List.replicate (N.length - xs.length) none⟩ (L2.start N vs) := by
  refine ⟨rfl, ?_, r.getS N.length _ rfl⟩
  show (xs.map some ++ List.replicate (N.length - xs.length) none).length = (vs.map some ++ List.replicate (N.length - vs.length) none).length
  rw [List.length_append, List.length_append, List.length_map, List.length_map, List.length_replicate, List.length_replicate, r.length]
theorem ExcR.sub {Γ : Cfg} {w w' : Wd} {c : Nat} {x y : PV} {d : Option Addr} (h : ExcR Γ w c (some x) d) (l : ∀ a o, w.G a = some o → w'.G a = some o) (hr : ∀ v, Rep Γ w x v → Rep Γ w' y v) : ExcR Γ w' c (some y) d := by
  obtain ⟨dx, v, e, g, r⟩ := h
  exact ⟨dx, v, e, l _ _ g, hr v r⟩
section
variable {P : Program} {w0 : World} {K : PySem.W.Frag} {mg : Str → Option Value} {base : Heap}
theorem fn_ret {Γ : Cfg} {L : Lv} {w : Wd} {p : Pool} {H : Hp} (S : SimP Γ L w p H) {N : Nat} {body : R.S} {xs : List PV} {Q : VK} {E : XK} (h : PostF Γ L w (fnM Γ.fld N body xs p) Q E) :
    PostS ⟨Γ, fun cls d _ H => E cls d H⟩ (L.deeper p.length) w { nx := fun _ H' => Q .non H', rt := Q } (body ⟨p.length, xs.map some ++ List.replicate (N - xs.length) none⟩ p) := by
  unfold fnM at h
  cases e : body ⟨p.length, xs.map some ++ List.replicate (N - xs.length) none⟩ p with
  | next en q =>
    rw [e] at h
    exact fun w' H' σ' l S' E' => h _ H' .non (S'.le_ice l S.len) (S'.ice S.hb S.hlo S.hm) rfl
  | ret x q =>
    rw [e] at h
    dsimp only at h
    split at h
    · rename_i y ey
      exact fun w' H' v l S' r => h _ H' v (S'.le_ice l S.len) (S'.ice S.hb S.hlo S.hm) (thaw_ok S' ey r)
    · exact h.elim
  | exc c ov en q =>
    rw [e] at h
    cases ov with
    | none => exact fun w' H' σ' d l S' E' x => h _ H' d (S'.le_ice l S.len) (S'.ice S.hb S.hlo S.hm) x
    | some x =>
      dsimp only at h
      split at h
      · rename_i y ey
        exact fun w' H' σ' d l S' E' z => h _ H' d (S'.le_ice l S.len) (S'.ice S.hb S.hlo S.hm) (z.sub (S'.iced_le _) fun v r => thaw_ok S' ey r)
      · exact h.elim
  | brk en q =>
    rw [e] at h
    exact h.elim
  | cont en q =>
    rw [e] at h
    exact h.elim
  | stuck =>
    rw [e] at h
    exact h.elim
theorem fn_retO {Γ : Cfg} {L : Lv} {w : Wd} {p : Pool} {H : Hp} (S : SimP Γ L w p H) {N : Nat} {body : R.S} {xs : List PV} {Q : VK} {E : XK} (h : PostF Γ L w (fnO N body xs p) Q E) :
    PostS ⟨Γ, fun cls d _ H => E cls d H⟩ (L.deeper p.length) w { nx := fun _ H' => Q .non H', rt := Q } (body ⟨p.length, xs.map some ++ List.replicate (N - xs.length) none⟩ p) := by
  unfold fnO at h
  cases e : body ⟨p.length, xs.map some ++ List.replicate (N - xs.length) none⟩ p with
  | ret x q =>
    rw [e] at h
    cases x with
    | own k =>
      dsimp only at h
      by_cases hk : k = p.length
      · subst hk
        rw [if_pos rfl] at h
        split at h
        · rename_i acc eacc
          by_cases hb : bels p.length acc = true
          · rw [if_pos hb] at h
            intro w' H' v l S' r
            obtain ⟨a, ha, rfl⟩ := r
            have hl : p.length + 1 ≤ q.length := (List.getElem?_eq_some_iff.mp eacc).1
            have S1 : SimP Γ (L.block p.length) w' q H' := by
              refine S'.level hl (fun k hk => Lv.block_gt (by exact hk)) (fun k m e => by have := Lv.block_le e; omega) (fun k c b h1 h2 x => ?_)
              rcases Nat.lt_trichotomy k p.length with hk | hk | hk
              · rw [Lv.block_lt hk]
                rw [Lv.deeper_lt hk] at x
                exact x
              · subst hk
                rw [Lv.block_eq]
                have e0 : (L.deeper p.length).lo p.length = none := by
                  show (if p.length < p.length then _ else none) = none
                  rw [if_neg (Nat.lt_irrefl _)]
                rw [e0] at x
                rw [eacc] at h1
                cases h1
                obtain ⟨g, vs, eH, rr⟩ := x
                exact ⟨g, vs, eH, rr.below hb⟩
              · rw [Lv.block_gt hk]
                have e0 : (L.deeper p.length).lo k = none := by
                  show (if k < p.length then _ else none) = none
                  rw [if_neg (by omega)]
                rw [e0] at x
                exact x
            have S2 := S1.turn.unblock S.hb S.hlo S.hm
            refine h (w'.ice (p.length + 1) H') H' (.ref a) ⟨fun b o eb => S1.iced_le _ b o (l.1 b o eb), ?_⟩ S2 ⟨a, ?_, rfl⟩
            · obtain ⟨t, et⟩ := l.2
              show w.ρ <+: w'.ρ.take (p.length + 1)
              rw [← et, ← S.len, List.take_append]
              exact ⟨_, by rw [List.take_of_length_le (Nat.le_succ _)]⟩
            · show (w'.ρ.take (p.length + 1))[p.length]? = some a
              rw [List.getElem?_take_of_lt (Nat.lt_succ_self _)]
              exact ha
          · rw [if_neg hb] at h
            exact h.elim
        · exact h.elim
      · rw [if_neg hk] at h
        exact h.elim
    | _ => exact h.elim
  | _ =>
    rw [e] at h
    exact h.elim
/-- THE RULE: a def by its body -/
theorem ok_fn {Γ : Cfg} {x qual : Str} {st : Stmt} {dvs : List V} {kws : List (Str × V)} {f : Addr} {fd : FuncData} {N ps : List Str} {k n : Nat} (F : FunD K x qual (defArgs st) (defBody st) (defScope st) dvs kws f fd) (S : FnScope N ps (defScope st)) (hn : ps.length = n) (body : R.S)
    (hb : ∀ (cdv : Value) (A : Around) (outer : List Env) (s : Shared) (H : Hp) (E : XK), Room k (A.deeper (PyProof.Rows.envOfC qual (defScope st) s.heap.objs.size f cdv)) →
      RSs (cxOf (L2.CX P w0) P w0 K mg base N qual (defScope st) f cdv A outer s H E) ⟨Γ, fun cls d _ H => E cls d H⟩ (defBody st) body) : FnOk P w0 K mg base (L2.CX P w0) (k + 1) f fd ps (spM Γ n (fnM Γ.fld N.length body)) := by
  refine F.ok (CX := L2.CX P w0) S (fun vs H Q E h => h.1.trans hn.symm) (fun cdv A outer s H vs Q E hr h => ⟨wS _ body, hb cdv A outer s H E hr, ?_⟩)
  obtain ⟨_, L, w, p, xs, S', r, h⟩ := h
  exact ⟨L.deeper p.length, w, p, ⟨p.length, xs.map some ++ List.replicate (N.length - xs.length) none⟩, S'.enter, EnR.start (L := L.deeper p.length) r, fn_ret S' h⟩
theorem ok_fnO {Γ : Cfg} {x qual : Str} {st : Stmt} {dvs : List V} {kws : List (Str × V)} {f : Addr} {fd : FuncData} {N ps : List Str} {k n : Nat} (F : FunD K x qual (defArgs st) (defBody st) (defScope st) dvs kws f fd) (S : FnScope N ps (defScope st)) (hn : ps.length = n) (body : R.S)
    (hb : ∀ (cdv : Value) (A : Around) (outer : List Env) (s : Shared) (H : Hp) (E : XK), Room k (A.deeper (PyProof.Rows.envOfC qual (defScope st) s.heap.objs.size f cdv)) →
      RSs (cxOf (L2.CX P w0) P w0 K mg base N qual (defScope st) f cdv A outer s H E) ⟨Γ, fun cls d _ H => E cls d H⟩ (defBody st) body) : FnOk P w0 K mg base (L2.CX P w0) (k + 1) f fd ps (spM Γ n (fnO N.length body)) := by
  refine F.ok (CX := L2.CX P w0) S (fun vs H Q E h => h.1.trans hn.symm) (fun cdv A outer s H vs Q E hr h => ⟨wS _ body, hb cdv A outer s H E hr, ?_⟩)
  obtain ⟨_, L, w, p, xs, S', r, h⟩ := h
  exact ⟨L.deeper p.length, w, p, ⟨p.length, xs.map some ++ List.replicate (N.length - xs.length) none⟩, S'.enter, EnR.start (L := L.deeper p.length) r, fn_retO S' h⟩
/-! ### __init__ -/
/-- C(..) by the body of __init__: what the new instance is -/
def iniM (fld : Nat → List Str) (c N : Nat) (body : R.S) : FnM := fun xs p => match body ⟨p.length, some (.own p.length) :: (xs.map some ++ List.replicate (N - (xs.length + 1)) none)⟩ (p ++ [.obj c []]) with
  | .next _ q => match thaw fld p.length q (.own p.length) with
    | some y => .ok y (q.take p.length)
    | none => .stuck
  | .exc e none _ q => .exc e none (q.take p.length)
  | .exc e (some x) _ q => match thaw fld p.length q x with
    | some y => .exc e (some y) (q.take p.length)
    | none => .stuck
  | _ => .stuck
/-- the promise of __init__; n: how many arguments, self too -/
def spI (Γ : Cfg) (c n : Nat) (f : FnM) : Sp := fun vs H Q E => vs.length = n ∧ ∃ L w p xs x us H0, vs = .ref x :: us ∧ SimP Γ L w p H0 ∧ Reps Γ w xs us ∧ H0 x = none ∧ (∃ dx, H0 dx = none ∧ dx ≠ x ∧ H = upd (upd H0 dx (.own x)) x (.ins (Γ.cls c) dx [])) ∧
  PostF Γ L w (f xs p) (fun v H' => v = .ref x → Q .non H') E
theorem newObj {Γ : Cfg} {L : Lv} {w : Wd} {p : Pool} {H0 : Hp} (S : SimP Γ L w p H0) {c : Nat} {x dx : Addr} (hx : H0 x = none) (hd : H0 dx = none) (ne : dx ≠ x) :
    SimP Γ (L.deeper p.length) (w.cell x) (p ++ [.obj c []]) (upd (upd H0 dx (.own x)) x (.ins (Γ.cls c) dx [])) := by
  have S1 : SimP Γ (L.deeper p.length) w p (upd H0 dx (.own x)) := by
    have S0 := S.enter
    refine ⟨fun a o e => ?_, S0.len, S0.nd, S0.hb, S0.hlo, S0.hm, fun k c a h1 h2 => ?_, S0.nt, S0.tb.ext (up_new hd)⟩
    · rw [upd_ne (ne_of_none (S0.sub a o e) hd)]
      exact S0.sub a o e
    · refine (S0.cell k c a h1 h2).step (Wd.le.refl _) (fun _ _ g => g) (up_new hd)
  have hx1 : upd H0 dx (.own x) x = none := by
    rw [upd_ne ne.symm]
    exact hx
  refine S1.newCell hx1 ⟨S.free hx, dx, [], ?_, ?_, S.free hd, Nat.zero_le _, rfl⟩
  · rw [upd_same]
    cases Γ.fld c <;> rfl
  · rw [upd_ne ne, upd_same]
theorem ok_init {Γ : Cfg} {x qual : Str} {st : Stmt} {dvs : List V} {kws : List (Str × V)} {f : Addr} {fd : FuncData} {N ps : List Str} {k n c : Nat} (F : FunD K x qual (defArgs st) (defBody st) (defScope st) dvs kws f fd) (S : FnScope N ps (defScope st)) (hn : ps.length = n) (body : R.S)
    (hb : ∀ (cdv : Value) (A : Around) (outer : List Env) (s : Shared) (H : Hp) (E : XK), Room k (A.deeper (PyProof.Rows.envOfC qual (defScope st) s.heap.objs.size f cdv)) →
      RSs (cxOf (L2.CX P w0) P w0 K mg base N qual (defScope st) f cdv A outer s H E) ⟨Γ, fun cls d _ H => E cls d H⟩ (defBody st) body) : FnOk P w0 K mg base (L2.CX P w0) (k + 1) f fd ps (spI Γ c n (iniM Γ.fld c N.length body)) := by
  refine F.ok (CX := L2.CX P w0) S (fun vs H Q E h => h.1.trans hn.symm) (fun cdv A outer s H vs Q E hr h => ⟨wS _ body, hb cdv A outer s H E hr, ?_⟩)
  obtain ⟨_, L, w, p, xs, x, us, H0, rfl, S', r, hx, ⟨dx, hd, ne, rfl⟩, h⟩ := h
  have S2 := newObj S' (c := c) hx hd ne
  have rx : Rep Γ (w.cell x) (.own p.length) (.ref x) := ⟨x, by show (w.ρ ++ [x])[p.length]? = some x; rw [← S'.len]; simp, rfl⟩
  have e1 : ((PV.own p.length :: xs).map some ++ List.replicate (N.length - (PV.own p.length :: xs).length) none) = some (.own p.length) :: (xs.map some ++ List.replicate (N.length - (xs.length + 1)) none) := by
    rw [List.map_cons, List.cons_append, List.length_cons]
  refine ⟨L.deeper p.length, w.cell x, p ++ [.obj c []], ⟨p.length, (PV.own p.length :: xs).map some ++ List.replicate (N.length - (PV.own p.length :: xs).length) none⟩, S2, EnR.start (L := L.deeper p.length) (Reps.cons rx (r.mono (w.le_cell x))), ?_⟩
  rw [e1]
  unfold iniM at h
  have lw := w.le_cell x
  cases e : body ⟨p.length, some (.own p.length) :: (xs.map some ++ List.replicate (N.length - (xs.length + 1)) none)⟩ (p ++ [.obj c []]) with
  | next en q =>
    rw [e] at h
    dsimp only at h
    split at h
    · rename_i y ey
      exact fun w' H' σ' l S3 E' => h _ H' (.ref x) (S3.le_ice (lw.trans l) S'.len) (S3.ice S'.hb S'.hlo S'.hm) (thaw_ok S3 ey (rx.mono l)) rfl
    · exact h.elim
  | exc ec ov en q =>
    rw [e] at h
    cases ov with
    | none => exact fun w' H' σ' d l S3 E' z => h _ H' d (S3.le_ice (lw.trans l) S'.len) (S3.ice S'.hb S'.hlo S'.hm) z
    | some z =>
      dsimp only at h
      split at h
      · rename_i y ey
        exact fun w' H' σ' d l S3 E' z => h _ H' d (S3.le_ice (lw.trans l) S'.len) (S3.ice S'.hb S'.hlo S'.hm) (z.sub (S3.iced_le _) fun v r => thaw_ok S3 ey r)
      · exact h.elim
  | _ =>
    rw [e] at h
    exact h.elim
end
/-! ### calls -/
section
variable {X : Cx} {C : Cn} {pos : Pos}
def mFn (f : FnM) (ds : List PV) (a : M (List PV)) : M PV := fun en p => (a en p).bind fun xs p1 => f (xs ++ ds) p1
/-- written default values -/
def DfR : List PV → List V → Prop
  | [], vs => vs = []
  | x :: xs, vs => ∃ v r, vs = v :: r ∧ DfR xs r ∧ match x with
    | .int i => v = .int i
    | .non => v = .non
    | .bl b => v = .bl b
    | .str s => v = .str s
    | _ => False
theorem DfR.reps {Γ : Cfg} {w : Wd} : ∀ {xs : List PV} {vs : List V}, DfR xs vs → Reps Γ w xs vs
  | [], _, h => h
  | x :: xs, vs, h => by
    obtain ⟨v, r, rfl, h1, h2⟩ := h
    refine Reps.cons ?_ (DfR.reps h1)
    cases x with
    | int i => exact h2
    | non => exact h2
    | bl b => exact h2
    | str s => exact h2
    | _ => exact h2.elim
theorem PostF.of {Γ : Cfg} {W : WX} {L : Lv} {w : Wd} {σ : St} {r : Res PV} {Q : VK} (h : Post ⟨Γ, W⟩ L w σ (RV ⟨Γ, W⟩) r Q) : PostF Γ L w r Q (WE W σ) := by
  cases r with
  | ok x p => exact h
  | exc c v p => exact h
  | stuck => exact h
theorem re_fn {k n : Nat} {f : Addr} {fd : FuncData} {ps : List Str} {g : FnM} {ds : List Value} {dvs : List V} {dps : List PV} {x : Str} {p : Pos} {e : Expr} {es : List Expr} {a : M (List PV)} (F : FnOk X.prog X.w X.K X.mg X.base (L2.CX X.prog X.w) k f fd ps (spM C.Γ n g)) (hr : Room k X.A) (hg : Gl X x)
    (hm : X.mg x = some (.ref f)) (hk : PySem.W.keepIn X.K (.ref f) = true) (hb : Binds X.K fd ps ds) (hd : Vals dvs ds) (hds : DfR dps dvs) (tk : Takes X C.W) (ha : RA X C (e :: es) a) (hl : es.length + 1 + dps.length = n) (hdb : (x == ("__debug__" : Str)) = false := by decide)
    (he : starEach (e :: es) X.env = (false, eval e X.env) :: starEach es X.env := by rfl) (hpl : (backTo pos (starEach es X.env)).any (·.1) = false := by rfl) : RE X C (.Call (.Name x p) (e :: es) [] pos) (mFn g dps a) :=
  (pe_callSD F hr hg hm hk hb hd (fun σ => passAt tk σ) ha.pa hdb he hpl).imp fun σ H Q ⟨L, w, p, en, S, E, h⟩ => by
    refine ⟨L, w, p, en, S, E, ?_⟩
    unfold mFn at h
    cases ea : a en p with
    | ok xs p1 =>
      rw [ea] at h
      intro w1 H1 vs l1 S1 r1
      refine ⟨?_, L, w1, p1, xs ++ dps, S1, r1.append hds.reps, PostF.of (Post.mono l1 h)⟩
      rw [List.length_append, ← r1.length, ha.len _ _ _ _ ea, ← (hds.reps (Γ := C.Γ) (w := w)).length]
      exact hl
    | exc c v p1 =>
      rw [ea] at h
      exact h
    | stuck =>
      rw [ea] at h
      exact h
/-! C(..) -/
theorem run_makeSD {CX : CXT} {k : Nat} {f Ca : Addr} {fd : FuncData} {ps : List Str} {sp : Sp} {dvs : List V} {ds : List Value} {E : XK} {pins : List (Addr × Obj)} {σ : St} {H : Hp} {s : Shared} {Q : VK} {us : List Value} {vs : List V} (M : Mk X.K Ca f) (F : FnOk X.prog X.w X.K X.mg X.base CX k f fd ps sp) (hr : Room (k + 1) X.A) (hb : Binds X.K fd ps ds) (hd : Vals dvs ds)
    (hx : PassesAt CX X σ E) (I : Inv X pins σ H s) (r : Vals vs us)
    (h : ∀ x dx, H x = none → H dx = none → dx ≠ x → sp (.ref x :: (vs ++ dvs)) (upd (upd H dx (.own x)) x (.ins Ca dx [])) (fun v H2 => v = .non ∧ Q (.ref x) H2) E) :
    wpAny (model X.prog X.w) X.A (call (.ref Ca) us) (EP X pins σ Q) X.xe s := by
  have hq := h (s.heap.objs.size + 1) s.heap.objs.size (I.hok.fresh (Nat.le_succ _)) (I.hok.fresh (Nat.le_refl _)) (Nat.ne_of_lt (Nat.lt_succ_self _))
  have I2 := Inv.made (C := Ca) I
  have r2 : Vals (V.ref (s.heap.objs.size + 1) :: (vs ++ dvs)) (Value.ref (s.heap.objs.size + 1) :: (us ++ ds)) := .cons rfl (r.append hd)
  have hl : (Value.ref (s.heap.objs.size + 1) :: us ++ ds).length = ps.length := by
    have e := r2.length
    rw [F.len _ _ _ _ hq] at e
    exact e.symm
  refine wpAny_call (make_map (f := f) I.kIn M.makes M.init (beq_iff_eq.mp M.fn) (codeAny_mono (F.run _ X.stack _ _ ⟨Value.ref (s.heap.objs.size + 1) :: us, []⟩ (Value.ref (s.heap.objs.size + 1) :: (us ++ ds)) _ _ E (hr.make Ca us [])
    (I2.env0.make Ca us []) (hb _ (Value.ref (s.heap.objs.size + 1) :: us) I2.kIn hl) r2 hq) fun r s' hq' => ?_))
  cases r with
  | error e => exact hx pins _ _ e s' I2 hq'
  | ok fl =>
    cases fl with
    | ret u =>
      obtain ⟨v, H', I3, rv, ev, q3⟩ := I2.after hq'
      subst ev
      exact ⟨rv, ⟨V.ref (s.heap.objs.size + 1), H', I3, rfl, q3⟩⟩
    | next => exact False.elim hq'
    | brk => exact False.elim hq'
    | cont => exact False.elim hq'
def tMakeSD (Ca : Addr) (sp : Sp) (dvs : List V) (E : St → XK) (t : TA) : TE := fun σ H Q => t σ H fun vs H1 => ∀ x dx, H1 x = none → H1 dx = none → dx ≠ x →
  sp (.ref x :: (vs ++ dvs)) (upd (upd H1 dx (.own x)) x (.ins Ca dx [])) (fun v H2 => v = .non ∧ Q (.ref x) H2) (E σ)
theorem pe_makeSD {CX : CXT} {k : Nat} {f Ca : Addr} {fd : FuncData} {ps : List Str} {sp : Sp} {dvs : List V} {ds : List Value} {E : St → XK} {x : Str} {p : Pos} {e : Expr} {es : List Expr} {t : TA} (M : Mk X.K Ca f) (F : FnOk X.prog X.w X.K X.mg X.base CX k f fd ps sp) (hr : Room (k + 1) X.A) (hg : Gl X x) (hm : X.mg x = some (.ref Ca)) (hb : Binds X.K fd ps ds) (hd : Vals dvs ds) (hx : ∀ σ, PassesAt CX X σ (E σ))
    (ha : PA X (e :: es) t) (hdb : (x == ("__debug__" : Str)) = false := by decide) (he : starEach (e :: es) X.env = (false, eval e X.env) :: starEach es X.env := by rfl) (hpl : (backTo pos (starEach es X.env)).any (·.1) = false := by rfl) :
    PE X (.Call (.Name x p) (e :: es) [] pos) (tMakeSD Ca sp dvs E t) := by
  refine ⟨fun pins s σ H Q I h => ?_⟩
  refine wpAny_Call_Name_kw (ld_glob I hg hm ?_ hdb)
  refine PySem.W.callWith_K (h₀ := X.base) I.ok.mod.kin M.kp (thn (ha.run pos pins s σ H _ I h) fun us s1 ⟨vs, H1, I1, r, q⟩ => ⟨I1.kIn, ?_⟩) he hpl
  exact run_makeSD M F hr hb hd (hx σ) I1 r q
theorem re_make {k n c : Nat} {f : Addr} {fd : FuncData} {ps : List Str} {g : FnM} {ds : List Value} {dvs : List V} {dps : List PV} {x : Str} {p : Pos} {e : Expr} {es : List Expr} {a : M (List PV)} (M : Mk X.K (C.Γ.cls c) f) (F : FnOk X.prog X.w X.K X.mg X.base (L2.CX X.prog X.w) k f fd ps (spI C.Γ c n g)) (hr : Room (k + 1) X.A) (hg : Gl X x)
    (hm : X.mg x = some (.ref (C.Γ.cls c))) (hb : Binds X.K fd ps ds) (hd : Vals dvs ds) (hds : DfR dps dvs) (tk : Takes X C.W) (ha : RA X C (e :: es) a) (hl : es.length + 2 + dps.length = n) (hdb : (x == ("__debug__" : Str)) = false := by decide)
    (he : starEach (e :: es) X.env = (false, eval e X.env) :: starEach es X.env := by rfl) (hpl : (backTo pos (starEach es X.env)).any (·.1) = false := by rfl) : RE X C (.Call (.Name x p) (e :: es) [] pos) (mFn g dps a) :=
  (pe_makeSD M F hr hg hm hb hd (fun σ => passAt tk σ) ha.pa hdb he hpl).imp fun σ H Q ⟨L, w, p, en, S, E, h⟩ => by
    refine ⟨L, w, p, en, S, E, ?_⟩
    unfold mFn at h
    cases ea : a en p with
    | ok xs p1 =>
      rw [ea] at h
      intro w1 H1 vs l1 S1 r1 y dy hy hdy ne
      refine ⟨?_, L, w1, p1, xs ++ dps, y, vs ++ dvs, H1, rfl, S1, r1.append hds.reps, hy, ⟨dy, hdy, ne, rfl⟩, ?_⟩
      · rw [List.length_cons, List.length_append, ← r1.length, ha.len _ _ _ _ ea, ← (hds.reps (Γ := C.Γ) (w := w)).length, List.length_cons]
        omega
      · have h1 := PostF.of (Post.mono l1 h)
        show PostF C.Γ L w1 (g (xs ++ dps) p1) _ _
        cases eg : g (xs ++ dps) p1 with
        | ok z p2 =>
          have h1 : PostF C.Γ L w1 (g (xs ++ dps) p1) Q (WE C.W σ) := h1
          rw [eg] at h1
          exact fun w' H' v l S' r ev => ⟨rfl, by rw [← ev]; exact h1 w' H' v l S' r⟩
        | exc c v p2 =>
          have h1 : PostF C.Γ L w1 (g (xs ++ dps) p1) Q (WE C.W σ) := h1
          rw [eg] at h1
          exact h1
        | stuck =>
          have h1 : PostF C.Γ L w1 (g (xs ++ dps) p1) Q (WE C.W σ) := h1
          rw [eg] at h1
          exact h1
    | exc c v p1 =>
      rw [ea] at h
      exact h
    | stuck =>
      rw [ea] at h
      exact h
/-! ### raise -/
def sRaise (c : Nat) : S := fun en p => .exc c none en p
theorem rs_raise {Ca : Addr} {c : Nat} {bmB : List Value} {B newId initId : String} {x m : Str} {j : Nat} {p p2 cpos : Pos} (hc : X.calm = true) (tk : Takes X C.W) (F : ExcBaseFacts B newId initId bmB) (q : PySem.W.excIn X.K (C.Γ.cls c) bmB newId = true) (gC : X.mg x = some (.ref (C.Γ.cls c))) (kC : PySem.W.keepIn X.K (.ref (C.Γ.cls c)) = true)
    (r : Raises X (.ref (C.Γ.cls c))) (hg : Gl X x) (hd : (x == ("__debug__" : Str)) = false := by decide) : RS X C (.Raise (some (.Call (.Name x p) [.Constant (.str m) j p2] [] cpos)) none pos) (sRaise c) :=
  (ps_raise hc tk (pmk_own F q gC kC r hg hd)).imp fun D σ H ⟨L, w, p, en, S, E, h⟩ => h w H σ none (Wd.le.refl w) S E rfl
end
end R

/-! R8: short names for the rules; isinstance; try; a list that doesn't change from here on -/
namespace R
open PySem L2
section
variable {X : Cx} {C : Cn} {pos : Pos}
theorem ref_lt : RefO C (rI0 fun i j => V.bl (decide (i < j))) pLt := ref_I0 fun _ _ _ => rfl
theorem ref_le : RefO C (rI0 fun i j => V.bl (decide (i ≤ j))) pLe := ref_I0 fun _ _ _ => rfl
theorem ref_gt : RefO C (rI0 fun i j => V.bl (decide (j < i))) pGt := ref_I0 fun _ _ _ => rfl
theorem ref_ge : RefO C (rI0 fun i j => V.bl (decide (j ≤ i))) pGe := ref_I0 fun _ _ _ => rfl
/-- x += e of numbers -/
def pIpAdd : F2 := f2I fun i j => .int (i + j)
def pIpSub : F2 := f2I fun i j => .int (i - j)
theorem ref_ipAdd : RefO C (ipI fun i j => i + j) pIpAdd := fun L w p H σ x y vx vy Q S rx ry q => by
  unfold pIpAdd f2I at q
  split at q
  · exact ⟨_, _, rx, ry, q.ok S rfl⟩
  · exact q.elim
theorem ref_ipSub : RefO C (ipI fun i j => i - j) pIpSub := fun L w p H σ x y vx vy Q S rx ry q => by
  unfold pIpSub f2I at q
  split at q
  · exact ⟨_, _, rx, ry, q.ok S rfl⟩
  · exact q.elim
def pIsN1 : F2 := fun x y p => match y with
  | .non => .ok (.bl (isNon x)) p
  | _ => .stuck
def pNotN1 : F2 := fun x y p => match y with
  | .non => .ok (.bl (!isNon x)) p
  | _ => .stuck
theorem ref_isN1 : RefO C (fun x y H Q => y = V.non ∧ Q (V.bl (decide (x = V.non))) H) pIsN1 := ref_isN
theorem ref_notN1 : RefO C (fun x y H Q => y = V.non ∧ Q (V.bl (!decide (x = V.non))) H) pNotN1 := fun L w p H σ x y vx vy Q S rx ry q => by
  cases y with
  | non =>
    cases ry
    exact ⟨rfl, by rw [isNon_ok rx]; exact q.ok S rfl⟩
  | _ => exact q.elim
/-! -x -/
def mNeg (a : M PV) : M PV := fun en p => (a en p).bind fun x p1 => match x with
  | .int i => .ok (.int (-i)) p1
  | _ => .stuck
theorem re_neg {a : Expr} {m : M PV} (h : RE X C a m) : RE X C (.UnaryOp .USub a pos) (mNeg m) := (pe_un un_neg h).imp fun σ H Q ⟨L, w, p, en, S, E, h⟩ => by
  refine ⟨L, w, p, en, S, E, h.bind fun x p1 w1 H1 v l1 S1 r1 h1 => ?_⟩
  cases x with
  | int i => exact ⟨i, r1, h1.ok S1 rfl⟩
  | _ => exact h1.elim
/-! ### from here on it doesn't change -/
def sIce (i : Nat) : S := fun en p => match en.sl[i]? with
  | some (some (.own k)) => match p[k]? with
    | some (.lst xs) => if bels 0 xs = true then .next (en.set i (.lst xs)) (p.set k .dead) else .stuck
    | _ => .stuck
  | _ => .stuck
theorem SimP.die {Γ : Cfg} {L : Lv} {w : Wd} {p : Pool} {H : Hp} (S : SimP Γ L w p H) {k : Nat} {a : Addr} {xs : List PV} {vs : List V} (ha : w.ρ[k]? = some a) (hg : w.G a = none) (eH : H a = some (.lst vs)) : w.le ⟨upd w.G a (.lst vs), w.ρ⟩ ∧ SimP Γ L ⟨upd w.G a (.lst vs), w.ρ⟩ (p.set k .dead) H := by
  have le : w.le ⟨upd w.G a (.lst vs), w.ρ⟩ := ⟨up_new hg, List.prefix_refl _⟩
  refine ⟨le, ⟨fun b o e => ?_, by rw [List.length_set]; exact S.len, S.nd, by rw [List.length_set]; exact S.hb, S.hlo, fun j m e => by rw [List.length_set]; exact S.hm j m e, fun j c b h1 h2 => ?_, fun b ps e => ?_, S.tb⟩⟩
  · by_cases hb : b = a
    · subst hb
      have e : upd w.G b (.lst vs) b = some o := e
      rw [upd_same] at e
      rw [eH]
      exact e
    · have e : upd w.G a (.lst vs) b = some o := e
      rw [upd_ne hb] at e
      exact S.sub b o e
  · by_cases hj : j = k
    · subst hj
      have e : b = a := Option.some.inj (h2.symm.trans ha)
      subst e
      have hl : j < p.length := by
        have := (List.getElem?_eq_some_iff.mp h1).1
        rw [List.length_set] at this
        exact this
      rw [List.getElem?_set_self hl] at h1
      cases h1
      exact ⟨_, eH, .lst⟩
    · rw [List.getElem?_set_ne (Ne.symm hj)] at h1
      have nb : b ≠ a := fun z => hj (nd_ix S.nd (z ▸ h2) ha)
      have x := S.cell j c b h1 h2
      have lw : (w.low (L.lo j)).le ((⟨upd w.G a (.lst vs), w.ρ⟩ : Wd).low (L.lo j)) := S.lows le j
      have gG : ((⟨upd w.G a (.lst vs), w.ρ⟩ : Wd).low (L.lo j)).G = upd w.G a (.lst vs) := Wd.low_G
      cases c with
      | lst ys =>
        obtain ⟨g, us, e, r⟩ := x
        rw [Wd.low_G] at g
        exact ⟨by rw [gG, upd_ne nb]; exact g, us, e, r.mono lw⟩
      | obj d ys =>
        obtain ⟨g, dx, us, e, ed, gd, hl, r⟩ := x
        rw [Wd.low_G] at g gd
        have ndx : dx ≠ a := fun z => by
          rw [z, eH] at ed
          cases ed
        exact ⟨by rw [gG, upd_ne nb]; exact g, dx, us, e, ed, by rw [gG, upd_ne ndx]; exact gd, hl, r.mono lw⟩
      | dead => exact x
  · have e : upd w.G a (.lst vs) b = some (.tbl ps) := e
    by_cases hb : b = a
    · rw [hb, upd_same] at e
      cases e
    · rw [upd_ne hb] at e
      exact S.nt b ps e
theorem rss_ice {st : List Stmt} {m : S} (i : Nat) (h : RSs X C st m) : RSs X C st (sSeq (sIce i) m) := h.imp fun D σ H ⟨L, w, p, en, S, E, h⟩ => by
  unfold sSeq sIce at h
  split at h
  · rename_i k e1
    split at h
    · rename_i xs e2
      by_cases hb : bels 0 xs = true
      · rw [if_pos hb] at h
        obtain ⟨v, ev, rv⟩ := E.val i _ e1
        obtain ⟨a, vs, rfl, ha, hg, eH, r⟩ := Rep.ownH S rv e2
        obtain ⟨le, S2⟩ := S.die (xs := xs) ha hg eH
        refine ⟨L, _, p.set k .dead, en.set i (.lst xs), S2, ?_, PostS.mono le h⟩
        have E2 := (E.mono le).set (i := i) (x := .lst xs) (v := .ref a) ⟨a, vs, rfl, upd_same, (r.mono (w.low_le _)).mono le⟩
        have e3 : σ.set i (some (.ref a)) = σ := by
          apply List.ext_getElem?
          intro j
          by_cases hj : i = j
          · subst hj
            rw [List.getElem?_set_self (List.getElem?_eq_some_iff.mp ev).1, ev]
          · rw [List.getElem?_set_ne hj]
        rw [e3] at E2
        exact E2
      · rw [if_neg hb] at h
        exact h.elim
    · exact h.elim
  · exact h.elim
/-! ### isinstance -/
inductive Ty where
  | non | bl | int | str | tup | lst | cls (c : Nat)
  deriving DecidableEq
def Ty.val (Γ : Cfg) : Ty → Value
  | .non => .type "NoneType"
  | .bl => .type "bool"
  | .int => .type "int"
  | .str => .type "str"
  | .tup => .type "tuple"
  | .lst => .type "list"
  | .cls c => .ref (Γ.cls c)
/-- a value's type; n: how many classes -/
def tyP (n : Nat) (p : Pool) : PV → Option Ty
  | .non => some .non
  | .bl _ => some .bl
  | .int _ => some .int
  | .str _ => some .str
  | .tup _ => some .tup
  | .lst _ => some .lst
  | .scr _ => none
  | .xs _ _ => none
  | .xv _ _ => none
  | .fn _ => none
  | .obj c _ => if c < n then some (.cls c) else none
  | .own k => match p[k]? with
    | some (.lst _) => some .lst
    | some (.obj c _) => if c < n then some (.cls c) else none
    | _ => none
/-- what isinstance asks of the written part -/
structure IsF (Γ : Cfg) (n : Nat) : Prop where
  cl : ∀ c, c < n → ClsF Γ.K Γ c
  gn : PySem.W.specialIn Γ.K (.builtin "object.__class__") "__get__" = some (some (.builtin "getset_descriptor.__get__"))
  tk : PySem.W.takesIn Γ.K (.builtin "object.__class__") = some true
theorem tyP_ok {L : Lv} {w : Wd} {p : Pool} {H : Hp} {n : Nat} (I : IsF C.Γ n) (S : SimP C.Γ L w p H) {x : PV} {v : V} {t : Ty} (r : Rep C.Γ w x v) (e : tyP n p x = some t) : TyX C.Γ.K H v (t.val C.Γ) := by
  cases x with
  | non =>
    cases e
    cases r
    exact .base .non
  | bl b =>
    cases e
    cases r
    exact .base (.bl b)
  | int i =>
    cases e
    cases r
    exact .base (.int i)
  | str s =>
    cases e
    cases r
    exact .base (.str s)
  | tup xs =>
    cases e
    obtain ⟨a, vs, rfl, q, _⟩ := r
    rcases seqT_mono S.sub q with (h | ⟨o, h⟩) | ⟨o, its, m, h, hc, _⟩
    · exact .base (.tup h)
    · exact .fTuple h
    · exact .kTuple h hc
  | lst xs =>
    cases e
    obtain ⟨a, vs, rfl, q, _⟩ := r
    exact .base (.lst (S.sub _ _ q))
  | scr ns => cases e
  | xs c t => cases e
  | xv c x => cases e
  | fn k => cases e
  | obj c xs =>
    unfold tyP at e
    dsimp only at e
    split at e
    · rename_i hc
      cases e
      obtain ⟨a, dx, vs, rfl, g, _⟩ := r
      have T := I.cl c hc
      exact .base (.ins (S.sub _ _ g) T.cls T.at_ I.gn I.tk T.mr)
    · cases e
  | own k =>
    unfold tyP at e
    dsimp only at e
    split at e
    · rename_i ys ey
      cases e
      obtain ⟨a, vs, rfl, _, _, eH, _⟩ := Rep.ownH S r ey
      exact .base (.lst eH)
    · rename_i c ys ey
      split at e
      · rename_i hc
        cases e
        obtain ⟨a, dx, vs, rfl, _, _, eH, _⟩ := Rep.objH S r ey
        have T := I.cl c hc
        exact .base (.ins eH T.cls T.at_ I.gn I.tk T.mr)
      · cases e
    · cases e
/-- is what is of type t a T -/
def isT (T t : Ty) : Bool := decide (t = T) || (decide (t = .bl) && decide (T = .int))
def mIsi (n : Nat) (T : Ty) (a : M PV) : M PV := fun en p => (a en p).bind fun x p1 => match tyP n p1 x with
  | some t => .ok (.bl (isT T t)) p1
  | none => .stuck
/-- what is known of one class, as isinstance's second argument -/
def IsA (Γ : Cfg) (n : Nat) (T : Ty) : Prop := ∀ t : Ty, (∀ c, t = .cls c → c < n) → PySem.W.kitOne Γ.K (t.val Γ) (T.val Γ) = some (isT T t)
theorem tyP_lt {n : Nat} {p : Pool} {x : PV} {c : Nat} (e : tyP n p x = some (.cls c)) : c < n := by
  cases x with
  | obj d xs =>
    unfold tyP at e
    dsimp only at e
    split at e
    · rename_i h
      cases e
      exact h
    · cases e
  | own k =>
    unfold tyP at e
    dsimp only at e
    split at e
    · cases e
    · split at e
      · rename_i h
        cases e
        exact h
      · cases e
    · cases e
  | _ => cases e
theorem re_isi {x : Str} {p : Pos} {e ce : Expr} {a : M PV} {n : Nat} {T : Ty} {c : V} (hK : X.K = C.Γ.K) (I : IsF C.Γ n) (A : IsA C.Γ n T) (ha : RE X C e a) (hce : PE X ce (tC c)) (k : ClsV c (T.val C.Γ)) (hg : Gl X "isinstance") (hm : X.mg "isinstance" = none)
    (he : starEach (e :: [ce]) X.env = (false, eval e X.env) :: starEach [ce] X.env := by rfl) (he2 : starEach (ce :: []) X.env = (false, eval ce X.env) :: starEach [] X.env := by rfl) (hpl : (backTo pos (starEach [ce] X.env)).any (·.1) = false := by rfl) :
    RE X C (.Call (.Name "isinstance" p) [e, ce] [] pos) (mIsi n T a) :=
  (pe_callB call_isi hg hm (by decide +kernel) (pa_cons ha (pa_cons hce pa_nil he2) he) (by decide) (by decide) he hpl).imp fun σ H Q ⟨L, w, p, en, S, E, h⟩ => by
    refine ⟨L, w, p, en, S, E, h.bind fun x p1 w1 H1 v l1 S1 r1 h1 => ?_⟩
    split at h1
    · rename_i t et
      rw [hK]
      exact ⟨v, c, _, _, _, rfl, k, tyP_ok I S1 r1 et, A t (fun c ec => tyP_lt (by rw [← ec]; exact et)), h1.ok S1 rfl⟩
    · exact h1.elim
theorem pe_tyN {x : Str} {p : Pos} {T : String} (hg : Gl X x) (hm : X.mg x = none) (hv : bootBuiltins x = some (.type T)) (hn : x ≠ "__name__" := by decide) (hd : (x == ("__debug__" : Str)) = false := by decide) : PE X (.Name x p) (tC (.ty T)) := pe_bltn hg hm hv rfl hn hd
theorem pe_clsN {x : Str} {p : Pos} {a : Addr} (hg : Gl X x) (hm : X.mg x = some (.ref a)) (hd : (x == ("__debug__" : Str)) = false := by decide) : PE X (.Name x p) (tC (.ref a)) := pe_glob hg hm rfl hd
/-- a built-in class -/
theorem isA_b {Γ : Cfg} {n : Nat} {T : Ty} (hT : T = .int ∨ T = .bl ∨ T = .str ∨ T = .tup ∨ T = .lst) (h : ∀ c, c < n → PySem.W.kitOne Γ.K (.ref (Γ.cls c)) (T.val Γ) = some false) : IsA Γ n T := fun t ht => by
  cases t with
  | cls c =>
    have e : isT T (.cls c) = false := by
      rcases hT with rfl | rfl | rfl | rfl | rfl <;> rfl
    rw [e]
    exact h c (ht c rfl)
  | non => rcases hT with rfl | rfl | rfl | rfl | rfl <;> exact kit_ty (by decide +kernel)
  | bl => rcases hT with rfl | rfl | rfl | rfl | rfl <;> exact kit_ty (by decide +kernel)
  | int => rcases hT with rfl | rfl | rfl | rfl | rfl <;> exact kit_ty (by decide +kernel)
  | str => rcases hT with rfl | rfl | rfl | rfl | rfl <;> exact kit_ty (by decide +kernel)
  | tup => rcases hT with rfl | rfl | rfl | rfl | rfl <;> exact kit_ty (by decide +kernel)
  | lst => rcases hT with rfl | rfl | rfl | rfl | rfl <;> exact kit_ty (by decide +kernel)
/-- a class of the text's own -/
theorem isA_c {Γ : Cfg} {n c : Nat} (h1 : PySem.W.kitOne Γ.K (.type "NoneType") (.ref (Γ.cls c)) = some false) (h2 : PySem.W.kitOne Γ.K (.type "bool") (.ref (Γ.cls c)) = some false) (h3 : PySem.W.kitOne Γ.K (.type "int") (.ref (Γ.cls c)) = some false)
    (h4 : PySem.W.kitOne Γ.K (.type "str") (.ref (Γ.cls c)) = some false) (h5 : PySem.W.kitOne Γ.K (.type "tuple") (.ref (Γ.cls c)) = some false) (h6 : PySem.W.kitOne Γ.K (.type "list") (.ref (Γ.cls c)) = some false)
    (h7 : ∀ d, d < n → PySem.W.kitOne Γ.K (.ref (Γ.cls d)) (.ref (Γ.cls c)) = some (decide (d = c))) : IsA Γ n (.cls c) := fun t ht => by
  cases t with
  | cls d =>
    have e : isT (.cls c) (.cls d) = decide (d = c) := by
      unfold isT
      by_cases h : d = c
      · subst h
        simp
      · simp [h]
    rw [e]
    exact h7 d (ht d rfl)
  | non => exact h1
  | bl => exact h2
  | int => exact h3
  | str => exact h4
  | tup => exact h5
  | lst => exact h6
end
end R

/-! R9: == and != of lists and tuples, whatever their items are, both answers -/
namespace R
section
open PySem PySem.SeqAt
open AutoSeq1 (wpAny_loadPart')
open MeetsSeq MeetsSeq2 MeetsSeq3 SeqRoads2
variable {prog : Program} {w : World} {A : Around} {R0 : Result → Shared → Prop}
/-- at each turn two lists of N items each; the i-th two are equal, or they are not and Bad holds -/
def TwoL (prog : Program) (w : World) (A : Around) (E : Value → Shared → Prop) (l b : Addr) (N : Nat) (I : Nat → Shared → Prop) (Bad : Shared → Prop) : Prop :=
  ∀ i s, I i s → ∃ (xs ys : Array Value) (n m : Nat), s.heap.get? l = some { cls := .type "list", data := .seq xs n } ∧ s.heap.get? b = some { cls := .type "list", data := .seq ys m } ∧ xs.size = N ∧ ys.size = N ∧
    ∀ (h1 : i < xs.size) (h2 : i < ys.size), wpAny (model prog w) A.in1 (eqBool xs[i] ys[i]) (fun r t => (r = true ∧ I (i + 1) t) ∨ (r = false ∧ ∃ zs us n' m', t.heap.get? l = some { cls := .type "list", data := .seq zs n' } ∧ t.heap.get? b = some { cls := .type "list", data := .seq us m' } ∧ zs.size = N ∧ us.size = N ∧ Bad t)) E s
theorem loopE (l b : Addr) (N : Nat) (I : Nat → Shared → Prop) (Bad : Shared → Prop) (hl : TwoL prog w A (fun e t => R0 (.error e) t) l b N I Bad) (fin : ∀ s, I N s → R0 (.ok (.ret (.bool true))) s) (bad : ∀ s, Bad s → R0 (.ok (.ret (.bool false))) s) (k : Nat) :
    ∀ i : Nat, N - i = k → i ≤ N → ∀ s, I i s → wpAny (model prog w) A.in1 (Builtin.«list.__eq__.loop» ⟨[.ref l, .ref b, rawInt i, rawInt 2], []⟩) (GQ.FinOf prog w A R0) (fun e t => R0 (.error e) t) s := by
  induction k with
  | zero =>
    intro i hk hi s h
    obtain ⟨xs, ys, n, m, hl1, hb1, hs1, hs2, _⟩ := hl _ _ h
    have ei : i = N := by omega
    have hR : R0 (.ok (.ret (.bool true))) s := fin s (ei ▸ h)
    obtain ⟨hp, g, d, tk, os⟩ := s
    wp_walk using wpAny_loadPart' hl1, wpAny_loadPart' hb1
    have hx : xs[((i : Nat) : Int).toNat]? = none := by simp; omega
    have hy : ys[((i : Nat) : Int).toNat]? = none := by simp; omega
    rw [hx, hy]
    wp_walk using wpAny_loadPart' hl1, wpAny_loadPart' hb1
    show R0 (.ok (.ret (.bool (xs.size == ys.size)))) _
    rw [hs1, hs2]
    simpa using hR
  | succ k ih =>
    intro i hk hi s h
    obtain ⟨xs, ys, n, m, hl1, hb1, hs1, hs2, turn⟩ := hl _ _ h
    have h1 : i < xs.size := by omega
    have h2 : i < ys.size := by omega
    have ht := turn h1 h2
    obtain ⟨hp, g, d, tk, os⟩ := s
    wp_walk using wpAny_loadPart' hl1, wpAny_loadPart' hb1
    have hx : xs[((i : Nat) : Int).toNat]? = some xs[i] := by simp [h1]
    have hy : ys[((i : Nat) : Int).toNat]? = some ys[i] := by simp [h2]
    have ec : ((i : Int) + 1) = ((i + 1 : Nat) : Int) := by omega
    rw [hx, hy]
    refine wpAny_bind (wpAny_mono ht (fun r t q => ?_) fun _ _ x => x)
    rcases q with ⟨rfl, q⟩ | ⟨rfl, zs, us, n', m', hl2, hb2, hz, hu, q⟩
    · have hrec := ih (i + 1) (by omega) (by omega) t q
      obtain ⟨hp2, g2, d2, tk2, os2⟩ := t
      wp_walk
      rw [ec]
      exact ⟨plainId_quiet plain_eq_loop _, codeAny_builtin entry_eq_loop (by
        rw [Around.under_plainId plain_eq_loop _]; exact hrec)⟩
    · have hR := bad t q
      obtain ⟨hp2, g2, d2, tk2, os2⟩ := t
      have hx2 : zs[((i : Nat) : Int).toNat]? = some (zs[i]'(by omega)) := by simp
      have hy2 : us[((i : Nat) : Int).toNat]? = some (us[i]'(by omega)) := by simp
      wp_walk using wpAny_loadPart' hl2, wpAny_loadPart' hb2
      rw [hx2, hy2]
      wp_walk using wpAny_loadPart' hl2, wpAny_loadPart' hb2
      exact hR
theorem listE (l b : Addr) (N : Nat) (I : Nat → Shared → Prop) (Bad : Shared → Prop) (hl : TwoL prog w A (fun e t => R0 (.error e) t) l b N I Bad) (fin : ∀ s, I N s → R0 (.ok (.ret (.bool true))) s) (bad : ∀ s, Bad s → R0 (.ok (.ret (.bool false))) s) {s : Shared} (h : I 0 s) :
    wpAny (model prog w) A.in1 (Builtin.«list.__eq__» ⟨[.ref l, .ref b], []⟩) (GQ.FinOf prog w A R0) (fun e t => R0 (.error e) t) s := by
  obtain ⟨xs, ys, n, m, hl1, hb1, hs1, hs2, _⟩ := hl _ _ h
  have hrec := loopE (A := A) (R0 := R0) l b N I Bad hl fin bad _ 0 rfl (Nat.zero_le _) s h
  obtain ⟨hp, g, d, tk, os⟩ := s
  have f3 := AutoSeq1.sub_list_list
  have hne : ¬ (xs.size != ys.size) = true := by simp [hs1, hs2]
  wp_walk using wpAny_loadPart' hl1, wpAny_loadPart' hb1
  exact ⟨plainId_quiet plain_eq_loop _, codeAny_builtin entry_eq_loop (by
    rw [Around.under_plainId plain_eq_loop _]; exact hrec)⟩
theorem listNE (l b : Addr) (xs ys : Array Value) (n m : Nat) (hne : xs.size ≠ ys.size) {s : Shared} (hl1 : s.heap.get? l = some { cls := .type "list", data := .seq xs n }) (hb1 : s.heap.get? b = some { cls := .type "list", data := .seq ys m }) (hR : R0 (.ok (.ret (.bool false))) s) :
    wpAny (model prog w) A.in1 (Builtin.«list.__eq__» ⟨[.ref l, .ref b], []⟩) (GQ.FinOf prog w A R0) (fun e t => R0 (.error e) t) s := by
  obtain ⟨hp, g, d, tk, os⟩ := s
  have f3 := AutoSeq1.sub_list_list
  have hne' : (xs.size != ys.size) = true := by simpa using hne
  wp_walk using wpAny_loadPart' hl1, wpAny_loadPart' hb1
  exact hR
/-- tuples of any lengths -/
theorem tupE (l b : Addr) (xs ys : Array Value) (n m : Nat) (dd dd2 : Option Addr) (sl sl2 : Array (Option Value)) (I : Nat → Shared → Prop) (Bad : Shared → Prop)
    (turn : ∀ i (h1 : i < xs.size) (h2 : i < ys.size) s, I i s → wpAny (model prog w) A.in1 (eqBool xs[i] ys[i]) (fun r t => (r = true ∧ I (i + 1) t) ∨ (r = false ∧ Bad t)) (fun e t => R0 (.error e) t) s)
    (fin : ∀ s, I (min xs.size ys.size) s → R0 (.ok (.ret (.bool (xs.size == ys.size)))) s) (bad : ∀ s, Bad s → R0 (.ok (.ret (.bool false))) s) {s : Shared} (hl1 : s.heap.get? l = some { cls := .type "tuple", dict := dd, data := .seq xs n, slots := sl }) (hb1 : s.heap.get? b = some { cls := .type "tuple", dict := dd2, data := .seq ys m, slots := sl2 }) (h : I 0 s) :
    wpAny (model prog w) A.in1 (Builtin.«tuple.__eq__» ⟨[.ref l, .ref b], []⟩) (GQ.FinOf prog w A R0) (fun e t => R0 (.error e) t) s := by
  have f2 := AutoSeq1.sub_tuple_tuple
  have hZ : (xs.toList.zip ys.toList).length = min xs.size ys.size := by simp
  have h0 := h
  obtain ⟨hp, g, d, tk, os⟩ := s
  wp_walk using wpAny_loadPart' hl1, wpAny_loadPart' hb1, wpAny_forIn_list _ (fun rest b s' => (b.1 = none ∧ ∃ i, rest = (xs.toList.zip ys.toList).drop i ∧ i ≤ min xs.size ys.size ∧ I i s')) _
  case turn =>
    rintro ⟨y, x⟩ rest b s' ⟨hb', i, hz, hi, hI⟩
    have hlt : i < (xs.toList.zip ys.toList).length := by
      rcases Nat.lt_or_ge i (xs.toList.zip ys.toList).length with h' | h'
      · exact h'
      · rw [List.drop_of_length_le h'] at hz; cases hz
    have h1 : i < xs.size := by omega
    have h2 : i < ys.size := by omega
    rw [List.drop_eq_getElem_cons hlt] at hz
    injection hz with hyx hrest
    have ey : y = xs[i] := by have := congrArg Prod.fst hyx; simpa using this
    have ex : x = ys[i] := by have := congrArg Prod.snd hyx; simpa using this
    subst ey ex
    refine wpAny_bind (wpAny_mono (turn i h1 h2 s' hI) (fun r s2 q2 => ?_) fun _ _ x => x)
    rcases q2 with ⟨rfl, q2⟩ | ⟨rfl, q2⟩
    · wp_walk
      exact ⟨rfl, i + 1, hrest, by omega, q2⟩
    · have hR := bad s2 q2
      wp_walk
      exact hR
  case fin =>
    rintro ⟨b1, b2⟩ s' ⟨hb', i, hz, hi, hI⟩
    simp only at hb'
    subst hb'
    have hge : min xs.size ys.size ≤ i := by
      rcases Nat.lt_or_ge i (xs.toList.zip ys.toList).length with h' | h'
      · rw [List.drop_eq_getElem_cons h'] at hz; cases hz
      · exact hZ ▸ h'
    have ei : i = min xs.size ys.size := by omega
    have hR := fin s' (ei ▸ hI)
    wp_walk
    simpa [Builtin.Tuple.tupleCompareSizes] using hR
  case h =>
    exact ⟨rfl, 0, rfl, Nat.zero_le _, h0⟩
theorem loopN (l b : Addr) (N : Nat) (I : Nat → Shared → Prop) (Bad : Shared → Prop) (hl : TwoL prog w A (fun e t => R0 (.error e) t) l b N I Bad) (fin : ∀ s, I N s → R0 (.ok (.ret (.bool false))) s) (bad : ∀ s, Bad s → R0 (.ok (.ret (.bool true))) s) (k : Nat) :
    ∀ i : Nat, N - i = k → i ≤ N → ∀ s, I i s → wpAny (model prog w) A.in1 (Builtin.«list.__eq__.loop» ⟨[.ref l, .ref b, rawInt i, rawInt 3], []⟩) (GQ.FinOf prog w A R0) (fun e t => R0 (.error e) t) s := by
  induction k with
  | zero =>
    intro i hk hi s h
    obtain ⟨xs, ys, n, m, hl1, hb1, hs1, hs2, _⟩ := hl _ _ h
    have ei : i = N := by omega
    have hR : R0 (.ok (.ret (.bool false))) s := fin s (ei ▸ h)
    obtain ⟨hp, g, d, tk, os⟩ := s
    wp_walk using wpAny_loadPart' hl1, wpAny_loadPart' hb1
    have hx : xs[((i : Nat) : Int).toNat]? = none := by simp; omega
    have hy : ys[((i : Nat) : Int).toNat]? = none := by simp; omega
    rw [hx, hy]
    wp_walk using wpAny_loadPart' hl1, wpAny_loadPart' hb1
    show R0 (.ok (.ret (.bool (xs.size != ys.size)))) _
    rw [hs1, hs2]
    simpa using hR
  | succ k ih =>
    intro i hk hi s h
    obtain ⟨xs, ys, n, m, hl1, hb1, hs1, hs2, turn⟩ := hl _ _ h
    have h1 : i < xs.size := by omega
    have h2 : i < ys.size := by omega
    have ht := turn h1 h2
    obtain ⟨hp, g, d, tk, os⟩ := s
    wp_walk using wpAny_loadPart' hl1, wpAny_loadPart' hb1
    have hx : xs[((i : Nat) : Int).toNat]? = some xs[i] := by simp [h1]
    have hy : ys[((i : Nat) : Int).toNat]? = some ys[i] := by simp [h2]
    have ec : ((i : Int) + 1) = ((i + 1 : Nat) : Int) := by omega
    rw [hx, hy]
    refine wpAny_bind (wpAny_mono ht (fun r t q => ?_) fun _ _ x => x)
    rcases q with ⟨rfl, q⟩ | ⟨rfl, zs, us, n', m', hl2, hb2, hz, hu, q⟩
    · have hrec := ih (i + 1) (by omega) (by omega) t q
      obtain ⟨hp2, g2, d2, tk2, os2⟩ := t
      wp_walk
      rw [ec]
      exact ⟨plainId_quiet plain_eq_loop _, codeAny_builtin entry_eq_loop (by
        rw [Around.under_plainId plain_eq_loop _]; exact hrec)⟩
    · have hR := bad t q
      obtain ⟨hp2, g2, d2, tk2, os2⟩ := t
      have hx2 : zs[((i : Nat) : Int).toNat]? = some (zs[i]'(by omega)) := by simp
      have hy2 : us[((i : Nat) : Int).toNat]? = some (us[i]'(by omega)) := by simp
      wp_walk using wpAny_loadPart' hl2, wpAny_loadPart' hb2
      rw [hx2, hy2]
      wp_walk using wpAny_loadPart' hl2, wpAny_loadPart' hb2
      exact hR
theorem listN (l b : Addr) (N : Nat) (I : Nat → Shared → Prop) (Bad : Shared → Prop) (hl : TwoL prog w A (fun e t => R0 (.error e) t) l b N I Bad) (fin : ∀ s, I N s → R0 (.ok (.ret (.bool false))) s) (bad : ∀ s, Bad s → R0 (.ok (.ret (.bool true))) s) {s : Shared} (h : I 0 s) :
    wpAny (model prog w) A.in1 (Builtin.«list.__ne__» ⟨[.ref l, .ref b], []⟩) (GQ.FinOf prog w A R0) (fun e t => R0 (.error e) t) s := by
  obtain ⟨xs, ys, n, m, hl1, hb1, hs1, hs2, _⟩ := hl _ _ h
  have hrec := loopN (A := A) (R0 := R0) l b N I Bad hl fin bad _ 0 rfl (Nat.zero_le _) s h
  obtain ⟨hp, g, d, tk, os⟩ := s
  have f3 := AutoSeq1.sub_list_list
  have hne : ¬ (xs.size != ys.size) = true := by simp [hs1, hs2]
  wp_walk using wpAny_loadPart' hl1, wpAny_loadPart' hb1
  exact ⟨plainId_quiet plain_eq_loop _, codeAny_builtin entry_eq_loop (by
    rw [Around.under_plainId plain_eq_loop _]; exact hrec)⟩
theorem listNN (l b : Addr) (xs ys : Array Value) (n m : Nat) (hne : xs.size ≠ ys.size) {s : Shared} (hl1 : s.heap.get? l = some { cls := .type "list", data := .seq xs n }) (hb1 : s.heap.get? b = some { cls := .type "list", data := .seq ys m }) (hR : R0 (.ok (.ret (.bool true))) s) :
    wpAny (model prog w) A.in1 (Builtin.«list.__ne__» ⟨[.ref l, .ref b], []⟩) (GQ.FinOf prog w A R0) (fun e t => R0 (.error e) t) s := by
  obtain ⟨hp, g, d, tk, os⟩ := s
  have f3 := AutoSeq1.sub_list_list
  have hne' : (xs.size != ys.size) = true := by simpa using hne
  wp_walk using wpAny_loadPart' hl1, wpAny_loadPart' hb1
  exact hR
/-- tuples of any lengths -/
theorem tupN (l b : Addr) (xs ys : Array Value) (n m : Nat) (dd dd2 : Option Addr) (sl sl2 : Array (Option Value)) (I : Nat → Shared → Prop) (Bad : Shared → Prop)
    (turn : ∀ i (h1 : i < xs.size) (h2 : i < ys.size) s, I i s → wpAny (model prog w) A.in1 (eqBool xs[i] ys[i]) (fun r t => (r = true ∧ I (i + 1) t) ∨ (r = false ∧ Bad t)) (fun e t => R0 (.error e) t) s)
    (fin : ∀ s, I (min xs.size ys.size) s → R0 (.ok (.ret (.bool (xs.size != ys.size)))) s) (bad : ∀ s, Bad s → R0 (.ok (.ret (.bool true))) s) {s : Shared} (hl1 : s.heap.get? l = some { cls := .type "tuple", dict := dd, data := .seq xs n, slots := sl }) (hb1 : s.heap.get? b = some { cls := .type "tuple", dict := dd2, data := .seq ys m, slots := sl2 }) (h : I 0 s) :
    wpAny (model prog w) A.in1 (Builtin.«tuple.__ne__» ⟨[.ref l, .ref b], []⟩) (GQ.FinOf prog w A R0) (fun e t => R0 (.error e) t) s := by
  have f2 := AutoSeq1.sub_tuple_tuple
  have hZ : (xs.toList.zip ys.toList).length = min xs.size ys.size := by simp
  have h0 := h
  obtain ⟨hp, g, d, tk, os⟩ := s
  wp_walk using wpAny_loadPart' hl1, wpAny_loadPart' hb1, wpAny_forIn_list _ (fun rest b s' => (b.1 = none ∧ ∃ i, rest = (xs.toList.zip ys.toList).drop i ∧ i ≤ min xs.size ys.size ∧ I i s')) _
  case turn =>
    rintro ⟨y, x⟩ rest b s' ⟨hb', i, hz, hi, hI⟩
    have hlt : i < (xs.toList.zip ys.toList).length := by
      rcases Nat.lt_or_ge i (xs.toList.zip ys.toList).length with h' | h'
      · exact h'
      · rw [List.drop_of_length_le h'] at hz; cases hz
    have h1 : i < xs.size := by omega
    have h2 : i < ys.size := by omega
    rw [List.drop_eq_getElem_cons hlt] at hz
    injection hz with hyx hrest
    have ey : y = xs[i] := by have := congrArg Prod.fst hyx; simpa using this
    have ex : x = ys[i] := by have := congrArg Prod.snd hyx; simpa using this
    subst ey ex
    refine wpAny_bind (wpAny_mono (turn i h1 h2 s' hI) (fun r s2 q2 => ?_) fun _ _ x => x)
    rcases q2 with ⟨rfl, q2⟩ | ⟨rfl, q2⟩
    · wp_walk
      exact ⟨rfl, i + 1, hrest, by omega, q2⟩
    · have hR := bad s2 q2
      wp_walk
      exact hR
  case fin =>
    rintro ⟨b1, b2⟩ s' ⟨hb', i, hz, hi, hI⟩
    simp only at hb'
    subst hb'
    have hge : min xs.size ys.size ≤ i := by
      rcases Nat.lt_or_ge i (xs.toList.zip ys.toList).length with h' | h'
      · rw [List.drop_eq_getElem_cons h'] at hz; cases hz
      · exact hZ ▸ h'
    have ei : i = min xs.size ys.size := by omega
    have hR := fin s' (ei ▸ hI)
    wp_walk
    simpa [Builtin.Tuple.tupleCompareSizes] using hR
  case h =>
    exact ⟨rfl, 0, rfl, Nat.zero_le _, h0⟩
end
section
open PySem PySem.SeqAt
variable {prog : Program} {w : World} {A : Around} {E : Value → Shared → Prop} {s : Shared}
theorem rcLE {l b : Addr} {N : Nat} {Q : Value → Shared → Prop} (hu : A.units < cLine) (I : Nat → Shared → Prop) (Bad : Shared → Prop) (hl : TwoL prog w A E l b N I Bad)
    (fin : ∀ s, I N s → Q (.bool true) s) (bad : ∀ s, Bad s → Q (.bool false) s) (h : I 0 s) : wpAny (model prog w) A (richCompare .Eq (.ref l) (.ref b)) Q E s := by
  obtain ⟨xs, ys, n, m, hl1, hb1, _, _, _⟩ := hl _ _ h
  refine wpAny_richCompare_same_room (op := .Eq) ⟨_, hl1, rfl⟩ ⟨_, hb1, rfl⟩ F.slot_list_eq (GQ.call_here F.slot_list_eq ⟨_, hl1, rfl⟩ F.entry_list_eq (F.args_list_eq_2 _ _) ?_) hu
  exact listE (R0 := wants (fun v s' => v ≠ .notImplemented ∧ Q v s') E) l b N I Bad hl (fun s' q => ⟨(fun x => nomatch x), fin s' q⟩) (fun s' q => ⟨(fun x => nomatch x), bad s' q⟩) h
theorem rcLNE {l b : Addr} {xs ys : Array Value} {n m : Nat} {Q : Value → Shared → Prop} (hu : A.units < cLine) (hne : xs.size ≠ ys.size) (hl1 : s.heap.get? l = some { cls := .type "list", data := .seq xs n }) (hb1 : s.heap.get? b = some { cls := .type "list", data := .seq ys m })
    (h : Q (.bool false) s) : wpAny (model prog w) A (richCompare .Eq (.ref l) (.ref b)) Q E s := by
  refine wpAny_richCompare_same_room (op := .Eq) ⟨_, hl1, rfl⟩ ⟨_, hb1, rfl⟩ F.slot_list_eq (GQ.call_here F.slot_list_eq ⟨_, hl1, rfl⟩ F.entry_list_eq (F.args_list_eq_2 _ _) ?_) hu
  exact listNE (R0 := wants (fun v s' => v ≠ .notImplemented ∧ Q v s') E) l b xs ys n m hne hl1 hb1 ⟨(fun x => nomatch x), h⟩
theorem rcTE {l b : Addr} {xs ys : Array Value} {Q : Value → Shared → Prop} (hu : A.units < cLine) (I : Nat → Shared → Prop) (Bad : Shared → Prop) (hl : s.heap.IsTuple l xs) (hb : s.heap.IsTuple b ys)
    (turn : ∀ i (h1 : i < xs.size) (h2 : i < ys.size) s, I i s → wpAny (model prog w) A.in1 (eqBool xs[i] ys[i]) (fun r t => (r = true ∧ I (i + 1) t) ∨ (r = false ∧ Bad t)) E s)
    (fin : ∀ s, I (min xs.size ys.size) s → Q (.bool (xs.size == ys.size)) s) (bad : ∀ s, Bad s → Q (.bool false) s) (h : I 0 s) : wpAny (model prog w) A (richCompare .Eq (.ref l) (.ref b)) Q E s := by
  obtain ⟨⟨c1, d1, e1, s1⟩, ho, hc, n, hd⟩ := id hl
  obtain ⟨⟨c2, d2, e2, s2⟩, ho2, hc2, n2, hd2⟩ := id hb
  simp only at hc hd hc2 hd2
  subst hc hd hc2 hd2
  refine wpAny_richCompare_same_room (op := .Eq) ⟨_, ho, rfl⟩ ⟨_, ho2, rfl⟩ F.slot_tuple_eq (GQ.call_here F.slot_tuple_eq ⟨_, ho, rfl⟩ F.entry_tuple_eq (F.args_tuple_eq_2 _ _) ?_) hu
  exact tupE (R0 := wants (fun v s' => v ≠ .notImplemented ∧ Q v s') E) l b xs ys n n2 d1 d2 s1 s2 I Bad turn (fun s' q => ⟨(fun x => nomatch x), fin s' q⟩) (fun s' q => ⟨(fun x => nomatch x), bad s' q⟩) ho ho2 h
theorem rcLN {l b : Addr} {N : Nat} {Q : Value → Shared → Prop} (hu : A.units < cLine) (I : Nat → Shared → Prop) (Bad : Shared → Prop) (hl : TwoL prog w A E l b N I Bad)
    (fin : ∀ s, I N s → Q (.bool false) s) (bad : ∀ s, Bad s → Q (.bool true) s) (h : I 0 s) : wpAny (model prog w) A (richCompare .NotEq (.ref l) (.ref b)) Q E s := by
  obtain ⟨xs, ys, n, m, hl1, hb1, _, _, _⟩ := hl _ _ h
  refine wpAny_richCompare_same_room (op := .NotEq) ⟨_, hl1, rfl⟩ ⟨_, hb1, rfl⟩ F.slot_list_ne (GQ.call_here F.slot_list_ne ⟨_, hl1, rfl⟩ F.entry_list_ne (F.args_list_ne_2 _ _) ?_) hu
  exact listN (R0 := wants (fun v s' => v ≠ .notImplemented ∧ Q v s') E) l b N I Bad hl (fun s' q => ⟨(fun x => nomatch x), fin s' q⟩) (fun s' q => ⟨(fun x => nomatch x), bad s' q⟩) h
theorem rcLNN {l b : Addr} {xs ys : Array Value} {n m : Nat} {Q : Value → Shared → Prop} (hu : A.units < cLine) (hne : xs.size ≠ ys.size) (hl1 : s.heap.get? l = some { cls := .type "list", data := .seq xs n }) (hb1 : s.heap.get? b = some { cls := .type "list", data := .seq ys m })
    (h : Q (.bool true) s) : wpAny (model prog w) A (richCompare .NotEq (.ref l) (.ref b)) Q E s := by
  refine wpAny_richCompare_same_room (op := .NotEq) ⟨_, hl1, rfl⟩ ⟨_, hb1, rfl⟩ F.slot_list_ne (GQ.call_here F.slot_list_ne ⟨_, hl1, rfl⟩ F.entry_list_ne (F.args_list_ne_2 _ _) ?_) hu
  exact listNN (R0 := wants (fun v s' => v ≠ .notImplemented ∧ Q v s') E) l b xs ys n m hne hl1 hb1 ⟨(fun x => nomatch x), h⟩
theorem rcTN {l b : Addr} {xs ys : Array Value} {Q : Value → Shared → Prop} (hu : A.units < cLine) (I : Nat → Shared → Prop) (Bad : Shared → Prop) (hl : s.heap.IsTuple l xs) (hb : s.heap.IsTuple b ys)
    (turn : ∀ i (h1 : i < xs.size) (h2 : i < ys.size) s, I i s → wpAny (model prog w) A.in1 (eqBool xs[i] ys[i]) (fun r t => (r = true ∧ I (i + 1) t) ∨ (r = false ∧ Bad t)) E s)
    (fin : ∀ s, I (min xs.size ys.size) s → Q (.bool (xs.size != ys.size)) s) (bad : ∀ s, Bad s → Q (.bool true) s) (h : I 0 s) : wpAny (model prog w) A (richCompare .NotEq (.ref l) (.ref b)) Q E s := by
  obtain ⟨⟨c1, d1, e1, s1⟩, ho, hc, n, hd⟩ := id hl
  obtain ⟨⟨c2, d2, e2, s2⟩, ho2, hc2, n2, hd2⟩ := id hb
  simp only at hc hd hc2 hd2
  subst hc hd hc2 hd2
  refine wpAny_richCompare_same_room (op := .NotEq) ⟨_, ho, rfl⟩ ⟨_, ho2, rfl⟩ F.slot_tuple_ne (GQ.call_here F.slot_tuple_ne ⟨_, ho, rfl⟩ F.entry_tuple_ne (F.args_tuple_ne_2 _ _) ?_) hu
  exact tupN (R0 := wants (fun v s' => v ≠ .notImplemented ∧ Q v s') E) l b xs ys n n2 d1 d2 s1 s2 I Bad turn (fun s' q => ⟨(fun x => nomatch x), fin s' q⟩) (fun s' q => ⟨(fun x => nomatch x), bad s' q⟩) ho ho2 h
end
end R

/-! R10: == and != of trees in which shares may stand -/
namespace R
open PySem L2
open PySem.W (Looks)

/-! ### by trees -/
def toS : PV → Option V
  | .non => some .non
  | .bl b => some (.bl b)
  | .int i => some (.int i)
  | .str s => some (.str s)
  | _ => none
def eqS (x y : PV) : Option Bool := match toS x, toS y with
  | some a, some b => some (eqV a b)
  | _, _ => none
/-- two shares: class 0, top and bottom -/
def eqO : List PV → List PV → Option Bool
  | [.int a, .int b], [.int c, .int d] => some (decide (a = c) && decide (b = d))
  | _, _ => none
def eqT (f : PV → PV → Option Bool) : List PV → List PV → Option Bool
  | [], [] => some true
  | [], _ :: _ => some false
  | _ :: _, [] => some false
  | x :: xs, y :: ys => match f x y with
    | some true => eqT f xs ys
    | some false => some false
    | none => none
def eqv : Nat → PV → PV → Option Bool
  | 0, x, y => eqS x y
  | n + 1, x, y => match x, y with
    | .tup xs, .tup ys => eqT (eqv n) xs ys
    | .lst xs, .lst ys => if xs.length = ys.length then eqT (eqv n) xs ys else some false
    | .obj c xs, .obj d ys => if c = 0 ∧ d = 0 then eqO xs ys else none
    | x, y => eqS x y
noncomputable def noTab (H : Hp) : Hp := fun a => match H a with
  | some (.tbl _) => none
  | o => o
theorem noTab_sub {H : Hp} : ∀ a o, noTab H a = some o → H a = some o := fun a o e => by
  unfold noTab at e
  split at e
  · cases e
  · exact e
theorem noTab_nt {H : Hp} : ∀ a ps, noTab H a ≠ some (.tbl ps) := fun a ps e => by
  have e2 := noTab_sub a _ e
  unfold noTab at e
  rw [e2] at e
  cases e
theorem noTab_of {H : Hp} {a : Addr} {o : HO} (e : H a = some o) (n : ∀ ps, o ≠ .tbl ps) : noTab H a = some o := by
  unfold noTab
  split
  · rename_i ps z
    rw [e] at z
    exact absurd (Option.some.inj z) (n ps)
  · exact e
theorem noTab_not {H : Hp} {a : Addr} {o : HO} (e : noTab H a = some o) : ∀ ps, o ≠ .tbl ps := fun ps z => noTab_nt a ps (z ▸ e)
noncomputable abbrev ice0 (H : Hp) : Wd := ⟨noTab H, []⟩
/-- all but the tables stay, the tables T stay tables -/
structure Ext (T : List (Addr × Str)) (H H' : Hp) : Prop where
  n : ∀ a o, H a = some o → (∀ ps, o ≠ .tbl ps) → H' a = some o
  tb : LamX.Tabs T H → LamX.Tabs T H'
theorem Ext.rfl' {T : List (Addr × Str)} {H : Hp} : Ext T H H := ⟨fun _ _ e _ => e, id⟩
theorem Ext.trans {T : List (Addr × Str)} {H H1 H2 : Hp} (a : Ext T H H1) (b : Ext T H1 H2) : Ext T H H2 := ⟨fun c o e n => b.n c o (a.n c o e n) n, fun t => b.tb (a.tb t)⟩
theorem toS_ok {Γ : Cfg} {w : Wd} {x : PV} {v a : V} (r : Rep Γ w x v) (e : toS x = some a) : v = a ∧ flatV a = true := by
  cases x with
  | non =>
    cases e
    exact ⟨r, rfl⟩
  | bl b =>
    cases e
    exact ⟨r, rfl⟩
  | int i =>
    cases e
    exact ⟨r, rfl⟩
  | str s =>
    cases e
    exact ⟨r, rfl⟩
  | _ => cases e
def EqB (X : Cx) (Γ : Cfg) (n : Nat) (f : PV → PV → Option Bool) : Prop := ∀ (A : Around) (pins : List (Addr × Obj)) (s : Shared) (σ : St) (H : Hp) (x y : PV) (b : Bool) (vx vy : V) (u v : Value), Sub X n A → Inv X pins σ H s → LamX.Tabs Γ.tabs H → Rep Γ (ice0 H) x vx → Rep Γ (ice0 H) y vy → f x y = some b → RelV vx u → RelV vy v →
  wpAny (model X.prog X.w) A (eqBool u v) (fun r s' => r = b ∧ ∃ H', Inv X pins σ H' s' ∧ Ext Γ.tabs H H') X.xe s
def RcB (X : Cx) (Γ : Cfg) (op : CmpOp) (n : Nat) (f : PV → PV → Option Bool) : Prop := ∀ (A : Around) (pins : List (Addr × Obj)) (s : Shared) (σ : St) (H : Hp) (x y : PV) (b : Bool) (vx vy : V) (u v : Value), Sub X n A → Inv X pins σ H s → LamX.Tabs Γ.tabs H → Rep Γ (ice0 H) x vx → Rep Γ (ice0 H) y vy → f x y = some b → RelV vx u → RelV vy v →
  wpAny (model X.prog X.w) A (richCompare op u v) (fun r s' => r = .bool b ∧ ∃ H', Inv X pins σ H' s' ∧ Ext Γ.tabs H H') X.xe s
theorem ice_le {T : List (Addr × Str)} {H H' : Hp} (e : Ext T H H') : (ice0 H).le (ice0 H') := ⟨fun a o ea => noTab_of (e.n a o (noTab_sub a o ea) (noTab_not ea)) (noTab_not ea), List.prefix_refl _⟩
section
variable {X : Cx} {Γ : Cfg} {n : Nat}
theorem EqB.mono {m : Nat} {f : PV → PV → Option Bool} (h : EqB X Γ n f) (l : n ≤ m) : EqB X Γ m f := fun A pins s σ H x y b vx vy u v sb => h A pins s σ H x y b vx vy u v (sb.mono l)
theorem eqB_S : EqB X Γ 0 eqS := fun A pins s σ H x y b vx vy u v sb I hT rx ry e ru rv => by
  unfold eqS at e
  cases e1 : toS x with
  | none =>
    rw [e1] at e
    cases e
  | some a =>
    cases e2 : toS y with
    | none =>
      rw [e1, e2] at e
      cases e
    | some c =>
      rw [e1, e2] at e
      cases e
      obtain ⟨rfl, f1⟩ := toS_ok rx e1
      obtain ⟨rfl, f2⟩ := toS_ok ry e2
      exact eqAt_V (A := A) (s := s) ru rv f1 f2 X.prog X.w X.xe _ ⟨rfl, H, I, Ext.rfl'⟩
/-- what the loop keeps -/
def Lp (X : Cx) (Γ : Cfg) (pins : List (Addr × Obj)) (σ : St) (H : Hp) (s' : Shared) : Prop := ∃ H', Inv X pins σ H' s' ∧ Ext Γ.tabs H H'
theorem eqT_at {f : PV → PV → Option Bool} {b : Bool} : ∀ {xs ys : List PV} {i : Nat}, eqT f (xs.drop i) (ys.drop i) = some b → (h1 : i < xs.length) → (h2 : i < ys.length) → (f xs[i] ys[i] = some true ∧ eqT f (xs.drop (i + 1)) (ys.drop (i + 1)) = some b) ∨ (f xs[i] ys[i] = some false ∧ b = false) := fun {xs ys i} e h1 h2 => by
  rw [List.drop_eq_getElem_cons h1, List.drop_eq_getElem_cons h2] at e
  unfold eqT at e
  split at e
  · rename_i q
    exact .inl ⟨q, e⟩
  · rename_i q
    cases e
    exact .inr ⟨q, rfl⟩
  · cases e
theorem eqT_end {f : PV → PV → Option Bool} {b : Bool} {xs ys : List PV} (e : eqT f (xs.drop (min xs.length ys.length)) (ys.drop (min xs.length ys.length)) = some b) : b = decide (xs.length = ys.length) := by
  rcases Nat.lt_trichotomy xs.length ys.length with h | h | h
  · rw [Nat.min_eq_left (by omega), List.drop_eq_nil_of_le (Nat.le_refl _), List.drop_eq_getElem_cons h] at e
    cases e
    exact (decide_eq_false (by omega)).symm
  · rw [h, Nat.min_self, ← h, List.drop_eq_nil_of_le (Nat.le_refl _), h, List.drop_eq_nil_of_le (Nat.le_refl _)] at e
    cases e
    exact (decide_eq_true h).symm
  · rw [Nat.min_eq_right (by omega), List.drop_eq_nil_of_le (Nat.le_refl ys.length), List.drop_eq_getElem_cons h] at e
    cases e
    exact (decide_eq_false (by omega)).symm
/-- one turn -/
theorem turnB {f : PV → PV → Option Bool} (h : EqB X Γ n f) {A : Around} (sb : Sub X (n + 1) A) {pins : List (Addr × Obj)} {σ : St} {H : Hp} (hT : LamX.Tabs Γ.tabs H) {xs ys : List PV} {vs us : List V} {its its2 : List Value} {b : Bool} (rx : Reps Γ (ice0 H) xs vs) (ry : Reps Γ (ice0 H) ys us) (r : Vals vs its) (r2 : Vals us its2)
    (i : Nat) (h1 : i < its.toArray.size) (h2 : i < its2.toArray.size) (s' : Shared) (l : Lp X Γ pins σ H s') (e : eqT f (xs.drop i) (ys.drop i) = some b) :
    wpAny (model X.prog X.w) A.in1 (eqBool its.toArray[i] its2.toArray[i]) (fun r s2 => (r = true ∧ Lp X Γ pins σ H s2 ∧ eqT f (xs.drop (i + 1)) (ys.drop (i + 1)) = some b) ∨ (r = false ∧ Lp X Γ pins σ H s2 ∧ b = false)) X.xe s' := by
  obtain ⟨H1, I1, e1⟩ := l
  have k1 : i < its.length := by simpa using h1
  have k2 : i < its2.length := by simpa using h2
  have x1 : i < xs.length := by rw [rx.length, r.length]; exact k1
  have x2 : i < ys.length := by rw [ry.length, r2.length]; exact k2
  obtain ⟨v, ev, rv⟩ := rx.get (List.getElem?_eq_getElem x1)
  obtain ⟨u, eu, ru⟩ := ry.get (List.getElem?_eq_getElem x2)
  obtain ⟨v', ev', rv'⟩ := r.get ev
  obtain ⟨u', eu', ru'⟩ := r2.get eu
  have g1 : v' = its.toArray[i] := by
    rw [List.getElem?_eq_getElem k1] at ev'
    rw [← Option.some.inj ev']
    simp
  have g2 : u' = its2.toArray[i] := by
    rw [List.getElem?_eq_getElem k2] at eu'
    rw [← Option.some.inj eu']
    simp
  rw [← g1, ← g2]
  rcases eqT_at e x1 x2 with ⟨q, q'⟩ | ⟨q, q'⟩
  · refine wpAny_mono (h A.in1 pins s' σ H1 xs[i] ys[i] true v u v' u' sb.in1 I1 (e1.tb hT) (rv.mono (ice_le e1)) (ru.mono (ice_le e1)) q rv' ru') (fun r s2 z => ?_) fun _ _ x => x
    obtain ⟨rfl, H2, I2, e2⟩ := z
    exact .inl ⟨rfl, ⟨H2, I2, e1.trans e2⟩, q'⟩
  · refine wpAny_mono (h A.in1 pins s' σ H1 xs[i] ys[i] false v u v' u' sb.in1 I1 (e1.tb hT) (rv.mono (ice_le e1)) (ru.mono (ice_le e1)) q rv' ru') (fun r s2 z => ?_) fun _ _ x => x
    obtain ⟨rfl, H2, I2, e2⟩ := z
    exact .inr ⟨rfl, ⟨H2, I2, e1.trans e2⟩, q'⟩
def neg (op : CmpOp) (b : Bool) : Bool := match op with
  | .NotEq => !b
  | _ => b
/-- two tuples -/
def fT (op : CmpOp) (f : PV → PV → Option Bool) : PV → PV → Option Bool
  | .tup xs, .tup ys => (eqT f xs ys).map (neg op)
  | _, _ => none
def fL (op : CmpOp) (f : PV → PV → Option Bool) : PV → PV → Option Bool
  | .lst xs, .lst ys => if xs.length = ys.length then (eqT f xs ys).map (neg op) else some (neg op false)
  | _, _ => none
theorem rcB_T {f : PV → PV → Option Bool} (hK : X.K = Γ.K) (h : EqB X Γ n f) : RcB X Γ .Eq (n + 1) (fT .Eq f) ∧ RcB X Γ .NotEq (n + 1) (fT .NotEq f) := by
  have main : ∀ (A : Around) (pins : List (Addr × Obj)) (s : Shared) (σ : St) (H : Hp) (xs ys : List PV) (b : Bool) (vx vy : V) (u v : Value), Sub X (n + 1) A → Inv X pins σ H s → LamX.Tabs Γ.tabs H → Rep Γ (ice0 H) (.tup xs) vx → Rep Γ (ice0 H) (.tup ys) vy → eqT f xs ys = some b → RelV vx u → RelV vy v →
      wpAny (model X.prog X.w) A (richCompare .Eq u v) (fun r s' => r = .bool b ∧ Lp X Γ pins σ H s') X.xe s ∧ wpAny (model X.prog X.w) A (richCompare .NotEq u v) (fun r s' => r = .bool (!b) ∧ Lp X Γ pins σ H s') X.xe s := by
    intro A pins s σ H xs ys b vx vy u v sb I hT rx ry e ru rv
    obtain ⟨a1, vs, rfl, q1, r1⟩ := rx
    obtain ⟨a2, us, rfl, q2, r2⟩ := ry
    cases ru
    cases rv
    obtain ⟨its, t1, p1, z1⟩ := I.tuple (hK ▸ seqT_mono noTab_sub q1)
    obtain ⟨its2, t2, p2, z2⟩ := I.tuple (hK ▸ seqT_mono noTab_sub q2)
    have l1 : its.toArray.size = xs.length := by rw [List.size_toArray, r1.length, t1.length]
    have l2 : its2.toArray.size = ys.length := by rw [List.size_toArray, r2.length, t2.length]
    have start : Lp X Γ pins σ H s ∧ eqT f (xs.drop 0) (ys.drop 0) = some b := ⟨⟨H, I, Ext.rfl'⟩, e⟩
    constructor
    · refine rcTE sb.room.units0 (fun i s' => Lp X Γ pins σ H s' ∧ eqT f (xs.drop i) (ys.drop i) = some b) (fun s' => Lp X Γ pins σ H s' ∧ b = false) p1 p2 (fun i h1 h2 s' q => turnB h sb hT r1 r2 t1 t2 i h1 h2 s' q.1 q.2) (fun s' q => ?_) (fun s' q => ⟨by rw [q.2], q.1⟩) start
      rw [l1, l2] at q ⊢
      rw [eqT_end q.2]
      exact ⟨rfl, q.1⟩
    · refine rcTN sb.room.units0 (fun i s' => Lp X Γ pins σ H s' ∧ eqT f (xs.drop i) (ys.drop i) = some b) (fun s' => Lp X Γ pins σ H s' ∧ b = false) p1 p2 (fun i h1 h2 s' q => turnB h sb hT r1 r2 t1 t2 i h1 h2 s' q.1 q.2) (fun s' q => ?_) (fun s' q => ⟨by rw [q.2]; rfl, q.1⟩) start
      rw [l1, l2] at q ⊢
      rw [eqT_end q.2]
      exact ⟨rfl, q.1⟩
  constructor
  · intro A pins s σ H x y b vx vy u v sb I hT rx ry e ru rv
    unfold fT at e
    split at e
    · rename_i xs ys
      cases e2 : eqT f xs ys with
      | none =>
        rw [e2] at e
        cases e
      | some c =>
        rw [e2] at e
        cases e
        exact (main A pins s σ H xs ys c vx vy u v sb I hT rx ry e2 ru rv).1
    · cases e
  · intro A pins s σ H x y b vx vy u v sb I hT rx ry e ru rv
    unfold fT at e
    split at e
    · rename_i xs ys
      cases e2 : eqT f xs ys with
      | none =>
        rw [e2] at e
        cases e
      | some c =>
        rw [e2] at e
        cases e
        exact (main A pins s σ H xs ys c vx vy u v sb I hT rx ry e2 ru rv).2
    · cases e
theorem rcB_L {f : PV → PV → Option Bool} (h : EqB X Γ n f) : RcB X Γ .Eq (n + 1) (fL .Eq f) ∧ RcB X Γ .NotEq (n + 1) (fL .NotEq f) := by
  have main : ∀ (A : Around) (pins : List (Addr × Obj)) (s : Shared) (σ : St) (H : Hp) (xs ys : List PV) (b : Bool) (vx vy : V) (u v : Value), Sub X (n + 1) A → Inv X pins σ H s → LamX.Tabs Γ.tabs H → Rep Γ (ice0 H) (.lst xs) vx → Rep Γ (ice0 H) (.lst ys) vy → (if xs.length = ys.length then eqT f xs ys else some false) = some b → RelV vx u → RelV vy v →
      wpAny (model X.prog X.w) A (richCompare .Eq u v) (fun r s' => r = .bool b ∧ Lp X Γ pins σ H s') X.xe s ∧ wpAny (model X.prog X.w) A (richCompare .NotEq u v) (fun r s' => r = .bool (!b) ∧ Lp X Γ pins σ H s') X.xe s := by
    intro A pins s σ H xs ys b vx vy u v sb I hT rx ry e ru rv
    obtain ⟨a1, vs, rfl, q1, r1⟩ := rx
    obtain ⟨a2, us, rfl, q2, r2⟩ := ry
    cases ru
    cases rv
    by_cases hl : xs.length = ys.length
    · rw [if_pos hl] at e
      have two : ∀ (s' : Shared), Lp X Γ pins σ H s' → ∃ (zs ts : Array Value) (n m : Nat), s'.heap.get? a1 = some { cls := .type "list", data := .seq zs n } ∧ s'.heap.get? a2 = some { cls := .type "list", data := .seq ts m } ∧ zs.size = xs.length ∧ ts.size = xs.length ∧ Vals vs zs.toList ∧ Vals us ts.toList := fun s' ⟨H1, I1, e1⟩ => by
        obtain ⟨_, its, k, t1, g1⟩ := I1.hok a1 _ (e1.n _ _ (noTab_sub _ _ q1) (fun _ z => nomatch z))
        obtain ⟨_, its2, k2, t2, g2⟩ := I1.hok a2 _ (e1.n _ _ (noTab_sub _ _ q2) (fun _ z => nomatch z))
        exact ⟨its.toArray, its2.toArray, k, k2, g1, g2, by rw [List.size_toArray, r1.length, t1.length], by rw [List.size_toArray, hl, r2.length, t2.length], by simpa using t1, by simpa using t2⟩
      have turns : TwoL X.prog X.w A X.xe a1 a2 xs.length (fun i s' => Lp X Γ pins σ H s' ∧ eqT f (xs.drop i) (ys.drop i) = some b) (fun s' => Lp X Γ pins σ H s' ∧ b = false) := fun i s' q => by
        obtain ⟨zs, ts, k, k2, g1, g2, n1, n2, t1, t2⟩ := two s' q.1
        refine ⟨zs, ts, k, k2, g1, g2, n1, n2, fun h1 h2 => ?_⟩
        refine wpAny_mono (turnB h sb hT r1 r2 t1 t2 i (by simpa using h1) (by simpa using h2) s' q.1 q.2) (fun r s2 z => ?_) fun _ _ x => x
        rcases z with ⟨rfl, l, q'⟩ | ⟨rfl, l, q'⟩
        · exact .inl ⟨rfl, l, q'⟩
        · obtain ⟨zs', ts', k', k2', g1', g2', n1', n2', _, _⟩ := two s2 l
          exact .inr ⟨rfl, zs', ts', k', k2', g1', g2', n1', n2', l, q'⟩
      have fin : ∀ s', Lp X Γ pins σ H s' ∧ eqT f (xs.drop xs.length) (ys.drop xs.length) = some b → b = true := fun s' q => by
        have q2 := q.2
        rw [List.drop_eq_nil_of_le (Nat.le_refl _), List.drop_eq_nil_of_le (by omega)] at q2
        cases q2
        rfl
      constructor
      · exact rcLE sb.room.units0 _ _ turns (fun s' q => ⟨by rw [fin s' q], q.1⟩) (fun s' q => ⟨by rw [q.2], q.1⟩) ⟨⟨H, I, Ext.rfl'⟩, e⟩
      · exact rcLN sb.room.units0 _ _ turns (fun s' q => ⟨by rw [fin s' q]; rfl, q.1⟩) (fun s' q => ⟨by rw [q.2]; rfl, q.1⟩) ⟨⟨H, I, Ext.rfl'⟩, e⟩
    · rw [if_neg hl] at e
      cases e
      obtain ⟨_, its, k, t1, g1⟩ := I.hok a1 _ (noTab_sub _ _ q1)
      obtain ⟨_, its2, k2, t2, g2⟩ := I.hok a2 _ (noTab_sub _ _ q2)
      have ne : its.toArray.size ≠ its2.toArray.size := by
        rw [List.size_toArray, List.size_toArray, ← t1.length, ← t2.length, ← r1.length, ← r2.length]
        exact hl
      exact ⟨rcLNE sb.room.units0 ne g1 g2 ⟨rfl, H, I, Ext.rfl'⟩, rcLNN sb.room.units0 ne g1 g2 ⟨rfl, H, I, Ext.rfl'⟩⟩
  constructor
  · intro A pins s σ H x y b vx vy u v sb I hT rx ry e ru rv
    unfold fL at e
    split at e
    · rename_i xs ys
      refine (main A pins s σ H xs ys b vx vy u v sb I hT rx ry ?_ ru rv).1
      split at e
      · rename_i hl
        rw [if_pos hl]
        cases e2 : eqT f xs ys with
        | none =>
          rw [e2] at e
          cases e
        | some c =>
          rw [e2] at e
          exact e
      · rename_i hl
        rw [if_neg hl]
        exact e
    · cases e
  · intro A pins s σ H x y b vx vy u v sb I hT rx ry e ru rv
    unfold fL at e
    split at e
    · rename_i xs ys
      have q := fun c hc => (main A pins s σ H xs ys c vx vy u v sb I hT rx ry hc ru rv).2
      split at e
      · rename_i hl
        cases e2 : eqT f xs ys with
        | none =>
          rw [e2] at e
          cases e
        | some c =>
          rw [e2] at e
          cases e
          exact q c (by rw [if_pos hl]; exact e2)
      · rename_i hl
        cases e
        exact q false (by rw [if_neg hl])
    · cases e
/-! ### instances with an own == -/
/-- what has a type of its own that is not a class of the text -/
def plainV : PV → Bool
  | .non => true
  | .bl _ => true
  | .int _ => true
  | .str _ => true
  | .tup _ => true
  | .lst _ => true
  | _ => false
/-- an instance of class c and something else, by the own ==: q says what of two such instances -/
def fO (c : Nat) (q : List PV → List PV → Option Bool) : PV → PV → Option Bool := fun x y => match x with
  | .obj d xs => if d = c then match y with
      | .obj e ys => if e = c then q xs ys else none
      | y => if plainV y = true then some false else none
    else none
  | _ => none
theorem ins_ty {pins : List (Addr × Obj)} {σ : St} {s : Shared} {H : Hp} {a C dx : Addr} {fs : List (Str × V)} (I : Inv X pins σ H s) (h : H a = some (.ins C dx fs)) : ∃ od : Obj, PySem.W.InstAt s.heap a (PySem.W.instObj C dx) C (some od) := by
  obtain ⟨mA, J, _⟩ := ins_get I.hok h
  obtain ⟨od, J, _⟩ := J.look
  exact ⟨od, J⟩
/-- what the own == is known to do -/
structure EqF (X : Cx) (Γ : Cfg) (k c : Nat) (q : List PV → List PV → Option Bool) : Prop where
  ok : ∃ (f : Addr) (fd : FuncData) (ps : List Str) (g : FnM), FnOk X.prog X.w X.K X.mg X.base (L2.CX X.prog X.w) k f fd ps (spM Γ 2 g) ∧ PySem.W.findIn X.K (.ref (Γ.cls c)) "__eq__" = some (some (.ref f)) ∧ PySem.W.isFn X.K (.ref f) = true ∧ Binds X.K fd ps [] ∧
    ∀ x y b p, fO c q x y = some b → g [x, y] p = .ok (.bl b) p
  ne : PySem.W.findIn X.K (.ref (Γ.cls c)) "__ne__" = some (some (.builtin "object.__ne__"))
  om : PySem.W.mroIn X.K (Γ.cls c) (.type "object") = some true
  nf : ∀ T, T ∈ (["NoneType", "bool", "int", "str", "tuple", "list"] : List String) → PySem.W.notFirst X.K (Γ.cls c) (.type T) = true
  fn : ∀ T, T ∈ (["NoneType", "bool", "int", "str", "tuple", "list"] : List String) → PySem.W.subIn X.K (.ref (Γ.cls c)) (.type T) = some false
theorem plain_ty {pins : List (Addr × Obj)} {σ : St} {s : Shared} {H : Hp} (hK : X.K = Γ.K) (I : Inv X pins σ H s) {y : PV} {vy : V} {v : Value} (hp : plainV y = true) (ry : Rep Γ (ice0 H) y vy) (rv : RelV vy v) : ∃ T, T ∈ (["NoneType", "bool", "int", "str", "tuple", "list"] : List String) ∧ s.TypeIs v T := by
  cases y with
  | non =>
    cases ry
    cases rv
    exact ⟨"NoneType", by decide, rfl⟩
  | bl b =>
    cases ry
    cases rv
    exact ⟨"bool", by decide, rfl⟩
  | int i =>
    cases ry
    obtain ⟨t, rfl⟩ := rv
    exact ⟨"int", by decide, rfl⟩
  | str i =>
    cases ry
    obtain ⟨t, rfl⟩ := rv
    exact ⟨"str", by decide, rfl⟩
  | tup xs =>
    obtain ⟨a, vs, rfl, q, _⟩ := ry
    cases rv
    obtain ⟨its, t1, p1, z1⟩ := I.tuple (hK ▸ seqT_mono noTab_sub q)
    obtain ⟨o, ho, hc, n, hd⟩ := p1
    exact ⟨"tuple", by decide, o, ho, hc⟩
  | lst xs =>
    obtain ⟨a, vs, rfl, q, _⟩ := ry
    cases rv
    obtain ⟨_, its, k, t1, g1⟩ := I.hok a _ (noTab_sub _ _ q)
    exact ⟨"list", by decide, _, g1, rfl⟩
  | _ => cases hp
theorem looks_typeIs {M : Model} {s : Shared} {v : Value} {T : String} (h : s.TypeIs v T) : Looks M s.heap (typeOf v) (.type T) := by
  cases v with
  | ref a =>
    obtain ⟨o, ho, hc⟩ := h
    exact hc ▸ (Looks.ld ho).andThen .now
  | _ => exact Looks.of_pure h
/-- the call of the own == -/
theorem eqF_call {k : Nat} {A : Around} {pins : List (Addr × Obj)} {s : Shared} {σ : St} {H : Hp} {x y : PV} {b : Bool} {vy : V} {v : Value} {ax f : Addr} {fd : FuncData} {ps : List Str} {g : FnM} (G : FnOk X.prog X.w X.K X.mg X.base (L2.CX X.prog X.w) k f fd ps (spM Γ 2 g)) (hb : Binds X.K fd ps [])
    (hg : g [x, y] [] = .ok (.bl b) []) (sb : Sub X k A) (I : Inv X pins σ H s) (hT : LamX.Tabs Γ.tabs H) (rx : Rep Γ (ice0 H) x (.ref ax)) (ry : Rep Γ (ice0 H) y vy) (rv : RelV vy v) {Q : Value → Shared → Prop} (hQ : ∀ s', (∃ H', Inv X pins σ H' s' ∧ Ext Γ.tabs H H') → Q (.bool b) s') :
    wpAny (model X.prog X.w) A (call (.ref f) [.ref ax, v]) Q X.xe s := by
  have hsp : spM Γ 2 g [.ref ax, vy] H (fun v H' => v = .bl b ∧ Ext Γ.tabs H H') E0 := by
    refine ⟨rfl, ⟨0, fun _ => none⟩, ice0 H, [], _, ⟨noTab_sub, rfl, List.nodup_nil, Nat.le_refl _, fun _ _ => rfl, fun _ _ e => (nomatch e), fun k c a e _ => by simp at e, noTab_nt, hT⟩, Reps.cons rx (Reps.cons ry Reps.nil), ?_⟩
    rw [hg]
    exact fun w' H' v l S r => ⟨r, fun a o ea na => S.sub a o (l.1 a o (noTab_of ea na)), fun _ => S.tb⟩
  have e0 : Env0 X.prog X.w X.K X.mg X.base A X.stack s H := by
    have z := I.env0
    exact ⟨sb.fr.trans z.frames, z.mod, z.bs, z.bsz, z.funs, z.frf, z.hok, z.bare⟩
  have hl := G.len _ _ _ _ hsp
  have r2 : Vals [V.ref ax, vy] [Value.ref ax, v] := .cons rfl (.cons rv .nil)
  refine wpAny_call (codeAny_mono (G.run A X.stack s H ⟨[.ref ax, v], []⟩ [.ref ax, v] [.ref ax, vy] _ E0 sb.room e0 (by simpa using hb s [.ref ax, v] I.kIn (by simpa using hl)) r2 hsp) fun r s' hq => ?_)
  cases r with
  | error e => exact (passL pins σ H s e s' I hq)
  | ok fl =>
    cases fl with
    | ret t =>
      obtain ⟨z, H', I', rz, ez, ex⟩ := I.after hq
      subst ez
      cases rz
      exact hQ _ ⟨H', I', ex⟩
    | next => exact hq.elim
    | brk => exact hq.elim
    | cont => exact hq.elim
theorem fO_some {c : Nat} {q : List PV → List PV → Option Bool} {x y : PV} {b : Bool} (e : fO c q x y = some b) : ∃ xs, x = .obj c xs ∧ ((∃ ys, y = .obj c ys) ∨ plainV y = true) := by
  unfold fO at e
  split at e
  · rename_i d xs
    split at e
    · rename_i hd
      subst hd
      refine ⟨xs, rfl, ?_⟩
      split at e
      · rename_i d2 ys
        split at e
        · rename_i h2
          subst h2
          exact .inl ⟨ys, rfl⟩
        · cases e
      · split at e
        · rename_i hp
          exact .inr hp
        · cases e
    · cases e
  · cases e
theorem oth_ty {c : Nat} {pins : List (Addr × Obj)} {σ : St} {s : Shared} {H : Hp} (hK : X.K = Γ.K) {k : Nat} {q : List PV → List PV → Option Bool} (F : EqF X Γ k c q) (I : Inv X pins σ H s) {y : PV} {vy : V} {v : Value} (h : (∃ ys, y = .obj c ys) ∨ plainV y = true) (ry : Rep Γ (ice0 H) y vy) (rv : RelV vy v) :
    ∃ tb, Looks (model X.prog X.w) s.heap (typeOf v) tb ∧ PySem.W.notFirst X.K (Γ.cls c) tb = true := by
  rcases h with ⟨ys, rfl⟩ | hp
  · obtain ⟨ay, dy, us, rfl, hy, _⟩ := ry
    cases rv
    obtain ⟨od', J'⟩ := ins_ty I (noTab_sub _ _ hy)
    exact ⟨_, J'.type, by simp [PySem.W.notFirst]⟩
  · obtain ⟨T, hT, ht⟩ := plain_ty hK I hp ry rv
    exact ⟨.type T, looks_typeIs ht, F.nf T hT⟩
theorem rcB_O {k c : Nat} {q : List PV → List PV → Option Bool} (hK : X.K = Γ.K) (F : EqF X Γ k c q) : RcB X Γ .Eq k (fO c q) := by
  intro A pins s σ H x y b vx vy u v sb I hT rx ry e ru rv
  obtain ⟨f, fd, ps, g, G, hs, hf, hb, hg⟩ := F.ok
  obtain ⟨xs, rfl, hy⟩ := fO_some e
  have rx' := rx
  obtain ⟨ax, dx, vs, rfl, hx, _⟩ := rx
  cases ru
  obtain ⟨od, J⟩ := ins_ty I (noTab_sub _ _ hx)
  obtain ⟨tb, hl, hn⟩ := oth_ty hK F I hy ry rv
  obtain ⟨m, hF⟩ := I.fr
  refine PySem.W.cmp_K (op := .Eq) (tb := tb) sb.room.units0 hF I.ok.mod.kin J hl hn hs hf ?_
  exact eqF_call (G := G) hb (hg _ _ _ _ e) sb I hT rx' ry rv fun s' z => ⟨rfl, z⟩
section
variable {prog : Program} {w : World} {A : Around} {E : Value → Shared → Prop} {s : Shared} {K : PySem.W.Frag} {x C' f : Addr} {L : Addr} {h₀ : Heap} {m : Str → Option Value} {ox : Obj} {od : Option Obj} {bv tb : Value}
open PySem.W PyProof.Rows in
open Builtin in
/-- != of an instance whose class has an own == alone -/
theorem neq_K {Q : Value → Shared → Prop} (hu : A.units + 1 < cLine) (F : Fr h₀ L s.heap m) (X₀ : K.In h₀) (I : InstAt s.heap x ox C' od) (hb : Looks (model prog w) s.heap (typeOf bv) tb) (hn : notFirst K C' tb = true)
    (hne : findIn K (.ref C') "__ne__" = some (some (.builtin "object.__ne__"))) (hm : mroIn K C' (.type "object") = some true) (hs : findIn K (.ref C') "__eq__" = some (some (.ref f))) (hf : isFn K (.ref f) = true)
    (h : wpAny (model prog w) A.in1 (call (.ref f) [.ref x, bv]) (fun v s' => ∃ b, v = .bool b ∧ Q (.bool (!b)) s') E s) : wpAny (model prog w) A (richCompare .NotEq (.ref x) bv) Q E s := by
  have X := X₀.keeps F.keep
  have one : wpAny (model prog w) A (tryCompare (.ref x) "__ne__" bv) (fun r s' => ∃ v, r = some v ∧ Q v s') E s := by
    unfold tryCompare
    refine wpAny_bind ?_
    have core : wpAny (model prog w) A (call (.builtin "object.__ne__") ([.ref x] ++ [bv])) (fun v s' => ∃ b, v = .bool b ∧ Q (.bool b) s') E s := by
      refine wpAny_call (codeAny_call_builtin PySem.F.slot_object_ne.plain PySem.F.entry_object_ne (check_slot (i := "object.__ne__") (owner := "object") (n := "__ne__") (by decide +kernel) (by decide +kernel) (I.type.andThen (looks_mroIn X hm)) (PySem.F.args_object_ne_2 _ _) ?_))
      unfold Builtin.«object.__ne__»
      refine wpAny_bind (m := slotArgs "__ne__" 1 _) (wpAny_pure ?_)
      refine wpAny_bind (m := cRoomFor _ _) (wpAny_cRoomFor hu ?_)
      refine wpAny_bind (m := callSpecialIfBound? (.ref x) (Str.ofString "__eq__") _) (ifBound_K X I hs hf (wpAny_mono h (fun r s' hq => ?_) fun _ _ y => y))
      obtain ⟨b, rfl, hq⟩ := hq
      refine wpAny_bind (m := truthy (.bool _)) (wpAny_truthy_bool ?_)
      exact wpAny_pure ⟨_, rfl, hq⟩
    simp only [callSpecialIfBound?, bindSpecialIfBound?]
    refine wpAny_holding (wpAny_bind (wpAny_bind (wpAny_bind (I.type.here ((looks_findIn X hne).here ?_)))))
    refine wpAny_bind (wpAny_askSetting (wpAny_ite ?_))
    have fin : wpAny (model prog w) A (call (.builtin "object.__ne__") ([.ref x] ++ [bv]) >>= fun v => pure (some v)) (fun r s' => wpAny (model prog w) A (match r with | some .notImplemented => pure none | none => pure none | some x => pure (some x)) (fun r s' => ∃ v, r = some v ∧ Q v s') E s') E s :=
      wpAny_bind (wpAny_mono core (fun v s' h' => by
        obtain ⟨b, rfl, hq⟩ := h'
        exact wpAny_pure (wpAny_pure ⟨_, rfl, hq⟩)) fun _ _ h' => h')
    simp only [PySem.F.slot_object_ne.bind]
    split
    · exact wpAny_bind (wpAny_pure (wpAny_pure fin))
    · exact wpAny_tryCatch (wpAny_bind (wpAny_pure (wpAny_pure fin)))
  unfold richCompare
  simp only [oneThing_ref]
  refine wpAny_holding ?_
  refine wpAny_bind (wpAny_cRoomFor (Nat.lt_of_succ_lt hu) ?_)
  refine wpAny_bind (I.type.here (wpAny_bind (hb.here ?_)))
  split
  · rename_i q
    have e : subIn K tb (.ref C') = some false := by
      rcases Bool.or_eq_true_iff.mp hn with e | e
      · rw [beq_iff_eq.mp e] at q; simp at q
      · exact beq_iff_eq.mp e
    refine wpAny_bind ((looks_subIn X e).here ?_)
    simp only [Bool.false_eq_true, if_false]
    refine wpAny_bind (wpAny_mono one (fun r s' z => ?_) fun _ _ e => e)
    obtain ⟨v, rfl, hq⟩ := z
    exact wpAny_pure hq
  · refine wpAny_bind (wpAny_pure ?_)
    simp only [Bool.false_eq_true, if_false]
    refine wpAny_bind (wpAny_mono one (fun r s' z => ?_) fun _ _ e => e)
    obtain ⟨v, rfl, hq⟩ := z
    exact wpAny_pure hq
end
theorem rcB_ON {k c : Nat} {q : List PV → List PV → Option Bool} (hK : X.K = Γ.K) (F : EqF X Γ k c q) : RcB X Γ .NotEq (k + 1) (fun x y => (fO c q x y).map (!·)) := by
  intro A pins s σ H x y b vx vy u v sb I hT rx ry e ru rv
  obtain ⟨f, fd, ps, g, G, hs, hf, hb, hg⟩ := F.ok
  have e : (fO c q x y).map (!·) = some b := e
  cases e2 : fO c q x y with
  | none =>
    rw [e2] at e
    cases e
  | some b' =>
  rw [e2] at e
  cases e
  obtain ⟨xs, rfl, hy⟩ := fO_some e2
  have rx' := rx
  obtain ⟨ax, dx, vs, rfl, hx, _⟩ := rx
  cases ru
  obtain ⟨od, J⟩ := ins_ty I (noTab_sub _ _ hx)
  obtain ⟨tb, hl, hn⟩ := oth_ty hK F I hy ry rv
  obtain ⟨m, hF⟩ := I.fr
  refine neq_K (tb := tb) (by have := sb.room.un; omega) hF I.ok.mod.kin J hl hn F.ne F.om hs hf ?_
  exact eqF_call (G := G) hb (hg _ _ _ _ e2) sb.in1 I hT rx' ry rv fun s' z => ⟨_, rfl, rfl, z⟩
end
end R

/-! R11: == and != of any trees; in; try -/
namespace R
open PySem L2
open PySem.W (Looks)
theorem relV_inj {a b : V} {u : Value} (h1 : RelV a u) (h2 : RelV b u) : a = b := by
  cases a <;> cases b <;> first
    | rfl
    | (cases h1; cases h2; done)
    | (cases h1; cases h2; rfl)
    | (obtain ⟨t, rfl⟩ := h1; obtain ⟨t', h⟩ := h2; cases h; rfl)
    | (obtain ⟨t, rfl⟩ := h1; obtain ⟨t', h⟩ := h2; cases h; done)
    | (obtain ⟨t, rfl⟩ := h1; cases h2; done)
    | (obtain ⟨t, rfl⟩ := h2; cases h1; done)
section
variable {X : Cx} {Γ : Cfg}
theorem eqV_refl {a : V} (h : flatV a = true) : eqV a a = true := by
  cases a with
  | non => rfl
  | bl b => exact beq_self_eq_true b
  | int b => exact beq_self_eq_true b
  | str b => exact beq_self_eq_true b
  | _ => cases h
theorem eqS_same {w : Wd} {x y : PV} {v : V} {b : Bool} (e : eqS x y = some b) (rx : Rep Γ w x v) (ry : Rep Γ w y v) : b = true := by
  unfold eqS at e
  cases e1 : toS x with
  | none =>
    rw [e1] at e
    cases e
  | some a =>
    cases e2 : toS y with
    | none =>
      rw [e1, e2] at e
      cases e
    | some c =>
      rw [e1, e2] at e
      cases e
      obtain ⟨rfl, f1⟩ := toS_ok rx e1
      obtain ⟨rfl, f2⟩ := toS_ok ry e2
      exact eqV_refl f1
theorem eqT_same {w : Wd} {f : PV → PV → Option Bool} (hf : ∀ x y v b, f x y = some b → Rep Γ w x v → Rep Γ w y v → b = true) : ∀ {xs ys : List PV} {vs : List V} {b : Bool}, eqT f xs ys = some b → Reps Γ w xs vs → Reps Γ w ys vs → b = true
  | [], [], _, _, e, _, _ => by
    cases e
    rfl
  | [], y :: ys, vs, b, e, h, k => by
    obtain ⟨v, r, e1, _⟩ := k
    rw [show vs = [] from h] at e1
    cases e1
  | x :: xs, [], vs, b, e, h, k => by
    obtain ⟨v, r, e1, _⟩ := h
    rw [show vs = [] from k] at e1
    cases e1
  | x :: xs, y :: ys, vs, b, e, h, k => by
    obtain ⟨v, r, rfl, h1, h2⟩ := h
    obtain ⟨v', r', e1, k1, k2⟩ := k
    cases e1
    unfold eqT at e
    split at e
    · exact eqT_same hf e h2 k2
    · rename_i q
      have := hf _ _ _ _ q h1 k1
      cases this
    · cases e
theorem zip_inj {α β : Type} : ∀ {l : List α} {xs ys : List β}, l.zip xs = l.zip ys → xs.length = l.length → ys.length = l.length → xs = ys
  | [], xs, ys, _, h1, h2 => by
    rw [List.eq_nil_of_length_eq_zero h1, List.eq_nil_of_length_eq_zero h2]
  | a :: l, [], _, _, h1, _ => by cases h1
  | a :: l, _ :: _, [], _, _, h2 => by cases h2
  | a :: l, x :: xs, y :: ys, e, h1, h2 => by
    rw [List.zip_cons_cons, List.zip_cons_cons] at e
    injection e with e1 e2
    injection e1 with _ e1
    rw [e1, zip_inj e2 (Nat.succ.inj h1) (Nat.succ.inj h2)]
theorem eqv_same {pins : List (Addr × Obj)} {σ : St} {s : Shared} {H : Hp} (hK : X.K = Γ.K) (I : Inv X pins σ H s) : ∀ (n : Nat) (x y : PV) (v : V) (b : Bool), eqv n x y = some b → Rep Γ (ice0 H) x v → Rep Γ (ice0 H) y v → b = true
  | 0, x, y, v, b, e, rx, ry => eqS_same e rx ry
  | n + 1, x, y, v, b, e, rx, ry => by
    unfold eqv at e
    split at e
    · rename_i xs ys
      obtain ⟨a, vs, rfl, q, r⟩ := rx
      obtain ⟨a', us, ea, q', r'⟩ := ry
      cases ea
      have := I.tuple_inj (hK ▸ seqT_mono noTab_sub q) (hK ▸ seqT_mono noTab_sub q')
      subst this
      exact eqT_same (eqv_same hK I n) e r r'
    · rename_i xs ys
      obtain ⟨a, vs, rfl, q, r⟩ := rx
      obtain ⟨a', us, ea, q', r'⟩ := ry
      cases ea
      have q2 : (ice0 H).G a = some (.lst us) := q'
      rw [q] at q2
      cases q2
      rw [if_pos (r.length.trans r'.length.symm)] at e
      exact eqT_same (eqv_same hK I n) e r r'
    · rename_i c xs d ys
      split at e
      · rename_i h
        obtain ⟨rfl, rfl⟩ := h
        unfold eqO at e
        split at e
        · obtain ⟨a, dx, vs, rfl, g, g2, hl, r⟩ := rx
          obtain ⟨a', dx', us, ea, g', g2', hl', r'⟩ := ry
          cases ea
          rw [g] at g'
          injection g' with g'
          injection g' with _ _ g'
          have := zip_inj g' hl hl'
          subst this
          obtain ⟨v1, r1, e1, h1, v2, r2, e2, h2, h3⟩ := r
          obtain ⟨v1', r1', e1', h1', v2', r2', e2', h2', h3'⟩ := r'
          rw [e1] at e1'
          cases e1'
          rw [e2] at e2'
          cases e2'
          have z1 := h1.symm.trans h1'
          have z2 := h2.symm.trans h2'
          cases z1
          cases z2
          cases e
          simp
        · cases e
      · cases e
    · exact eqS_same e rx ry
/-- inside a list or tuple, from a rich comparison -/
theorem eqB_ref {n : Nat} {f : PV → PV → Option Bool} (h : RcB X Γ .Eq n f) {A : Around} {pins : List (Addr × Obj)} {s : Shared} {σ : St} {H : Hp} {x y : PV} {b : Bool} {a a' : Addr} (sb : Sub X n A) (I : Inv X pins σ H s) (hT : LamX.Tabs Γ.tabs H) (rx : Rep Γ (ice0 H) x (.ref a)) (ry : Rep Γ (ice0 H) y (.ref a')) (e : f x y = some b) (hs : a = a' → b = true) :
    wpAny (model X.prog X.w) A (eqBool (.ref a) (.ref a')) (fun r s' => r = b ∧ ∃ H', Inv X pins σ H' s' ∧ Ext Γ.tabs H H') X.xe s := by
  by_cases ha : a = a'
  · subst ha
    exact SeqAt.EqAt.same (A := A) (s := s) (Value.ref a) X.prog X.w X.xe _ ⟨(hs rfl).symm, H, I, Ext.rfl'⟩
  · refine GQ.eqBool_refG ha (wpAny_mono (h A pins s σ H x y b _ _ _ _ sb I hT rx ry e rfl rfl) (fun r s' q => ?_) fun _ _ x => x)
    obtain ⟨rfl, q⟩ := q
    exact ⟨b, rfl, rfl, q⟩
theorem RcB.mono {op : CmpOp} {n m : Nat} {f : PV → PV → Option Bool} (h : RcB X Γ op n f) (l : n ≤ m) : RcB X Γ op m f := fun A pins s σ H x y b vx vy u v sb => h A pins s σ H x y b vx vy u v (sb.mono l)
theorem eqB_v {k : Nat} (hK : X.K = Γ.K) (F : EqF X Γ k 0 eqO) : ∀ n, EqB X Γ (n + k) (eqv n)
  | 0 => eqB_S.mono (by omega)
  | n + 1 => by
    intro A pins s σ H x y b vx vy u v sb I hT rx ry e ru rv
    have same := fun vv (z1 : Rep Γ (ice0 H) x vv) (z2 : Rep Γ (ice0 H) y vv) => eqv_same hK I (n + 1) x y vv b e z1 z2
    unfold eqv at e
    split at e
    · rename_i xs ys
      have h := (rcB_T hK (eqB_v hK F n)).1
      obtain ⟨a, vs, rfl, q⟩ := id rx
      obtain ⟨a', us, rfl, q'⟩ := id ry
      cases ru
      cases rv
      refine eqB_ref (h.mono (by omega)) sb I hT rx ry (?_ : fT .Eq (eqv n) (.tup xs) (.tup ys) = some b) fun z => same _ rx (z ▸ ry)
      unfold fT
      dsimp only
      rw [e]
      rfl
    · rename_i xs ys
      have h := (rcB_L (X := X) (Γ := Γ) (eqB_v hK F n)).1
      obtain ⟨a, vs, rfl, q⟩ := id rx
      obtain ⟨a', us, rfl, q'⟩ := id ry
      cases ru
      cases rv
      refine eqB_ref (h.mono (by omega)) sb I hT rx ry (?_ : fL .Eq (eqv n) (.lst xs) (.lst ys) = some b) fun z => same _ rx (z ▸ ry)
      unfold fL
      dsimp only
      split at e
      · rename_i hl
        rw [if_pos hl, e]
        rfl
      · rename_i hl
        rw [if_neg hl]
        exact e
    · rename_i c xs d ys
      have h := rcB_O hK F
      obtain ⟨a, dx, vs, rfl, q⟩ := id rx
      obtain ⟨a', dx', us, rfl, q'⟩ := id ry
      cases ru
      cases rv
      split at e
      · rename_i hc
        obtain ⟨rfl, rfl⟩ := hc
        refine eqB_ref (h.mono (by omega)) sb I hT rx ry (?_ : fO 0 eqO (.obj 0 xs) (.obj 0 ys) = some b) fun z => same _ rx (z ▸ ry)
        exact e
      · cases e
    · exact eqB_S A pins s σ H _ _ b vx vy u v (sb.mono (by omega)) I hT rx ry e ru rv
/-! ### the operators -/
def vD : V → PyData
  | .bl b => .bool b
  | .int i => .int i
  | .str s => .str s
  | _ => .none
theorem vD_reads {h : Heap} {a : V} {u : Value} (f : flatV a = true) (r : RelV a u) : Reads h u (vD a) [] := by
  cases a with
  | non =>
    cases r
    exact Reads.none
  | bl b =>
    cases r
    exact Reads.bool b
  | int b =>
    obtain ⟨t, rfl⟩ := r
    exact Reads.int b t
  | str b =>
    obtain ⟨t, rfl⟩ := r
    exact Reads.str b t
  | _ => cases f
/-- no outsized text -/
def top : PV → Bool
  | .str s => SeqAt.shaped (.str s)
  | _ => true
theorem top_ok {x : PV} {a : V} (e : toS x = some a) (h : top x = true) : SeqAt.shaped (vD a) = true := by
  cases x with
  | str s =>
    cases e
    exact h
  | non =>
    cases e
    rfl
  | bl b =>
    cases e
    rfl
  | int i =>
    cases e
    rfl
  | _ => cases e
theorem vD_eq {a c : V} (f1 : flatV a = true) (f2 : flatV c = true) : PyData.eqv (vD a) (vD c) = eqV a c := by
  cases a <;> cases c <;> first | rfl | (cases f1; done) | (cases f2; done) | (rename_i a b; cases a <;> rfl) | (rename_i a b; cases b <;> rfl) | (simp [vD, PyData.eqv, eqV]; done)

theorem rcS (op : CmpOp) (hop : op = .Eq ∨ op = .NotEq) : RcB X Γ op 0 (fun x y => if top x = true ∧ top y = true then (eqS x y).map (neg op) else none) := by
  intro A pins s σ H x y b vx vy u v sb I hT rx ry e ru rv
  have e : (if top x = true ∧ top y = true then (eqS x y).map (neg op) else none) = some b := e
  split at e
  case isFalse => cases e
  rename_i ht
  unfold eqS at e
  cases e1 : toS x with
  | none =>
    rw [e1] at e
    cases e
  | some a =>
    cases e2 : toS y with
    | none =>
      rw [e1, e2] at e
      cases e
    | some c =>
      rw [e1, e2] at e
      cases e
      obtain ⟨ea, f1⟩ := toS_ok rx e1
      obtain ⟨ec, f2⟩ := toS_ok ry e2
      subst ea
      subst ec
      have s1 := top_ok e1 ht.1
      have s2 := top_ok e2 ht.2
      have h1 : Reads s.heap u (vD vx) [] := vD_reads f1 ru
      have h2 : Reads s.heap v (vD vy) [] := vD_reads f2 rv
      have hu : A.units + 64 < cLine := by have := sb.room.un; omega
      rcases hop with rfl | rfl
      · show wpAny (model X.prog X.w) A (compareOp .Eq u v) _ _ _
        exact SeqAt.compareEq_shaped h1 h2 s1 s2 hu ⟨by rw [vD_eq f1 f2]; rfl, H, I, Ext.rfl'⟩
      · show wpAny (model X.prog X.w) A (compareOp .NotEq u v) _ _ _
        exact SeqAt.compareNe_shaped h1 h2 s1 s2 hu ⟨by rw [vD_eq f1 f2]; rfl, H, I, Ext.rfl'⟩
/-- the answer of == or != -/
def eqvN (op : CmpOp) (n : Nat) : PV → PV → Option Bool := fun x y => if top x = true ∧ top y = true then (eqv n x y).map (neg op) else none
theorem map_id {o : Option Bool} : o.map (neg .Eq) = o := by cases o <;> rfl
theorem rcE {k : Nat} (hK : X.K = Γ.K) (F : EqF X Γ k 0 eqO) (n : Nat) : RcB X Γ .Eq (n + k + 1) (eqvN .Eq n) ∧ RcB X Γ .NotEq (n + k + 1) (eqvN .NotEq n) := by
  have main : ∀ (A : Around) (pins : List (Addr × Obj)) (s : Shared) (σ : St) (H : Hp) (x y : PV) (b : Bool) (vx vy : V) (u v : Value), Sub X (n + k + 1) A → Inv X pins σ H s → LamX.Tabs Γ.tabs H → Rep Γ (ice0 H) x vx → Rep Γ (ice0 H) y vy → top x = true ∧ top y = true → eqv n x y = some b → RelV vx u → RelV vy v →
      wpAny (model X.prog X.w) A (richCompare .Eq u v) (fun r s' => r = .bool b ∧ Lp X Γ pins σ H s') X.xe s ∧ wpAny (model X.prog X.w) A (richCompare .NotEq u v) (fun r s' => r = .bool (!b) ∧ Lp X Γ pins σ H s') X.xe s := by
    intro A pins s σ H x y b vx vy u v sb I hT rx ry ht e ru rv
    have flat : ∀ x y, top x = true ∧ top y = true → eqS x y = some b → Rep Γ (ice0 H) x vx → Rep Γ (ice0 H) y vy → wpAny (model X.prog X.w) A (richCompare .Eq u v) (fun r s' => r = .bool b ∧ Lp X Γ pins σ H s') X.xe s ∧ wpAny (model X.prog X.w) A (richCompare .NotEq u v) (fun r s' => r = .bool (!b) ∧ Lp X Γ pins σ H s') X.xe s := fun x y ht e rx ry =>
      ⟨rcS .Eq (.inl rfl) A pins s σ H x y b vx vy u v (sb.mono (by omega)) I hT rx ry (by dsimp only; rw [if_pos ht, e]; rfl) ru rv, rcS .NotEq (.inr rfl) A pins s σ H x y (!b) vx vy u v (sb.mono (by omega)) I hT rx ry (by dsimp only; rw [if_pos ht, e]; rfl) ru rv⟩
    cases n with
    | zero => exact flat x y ht e rx ry
    | succ n =>
      unfold eqv at e
      split at e
      · rename_i xs ys
        have h := rcB_T (X := X) (Γ := Γ) hK (eqB_v hK F n)
        exact ⟨h.1 A pins s σ H _ _ b vx vy u v (sb.mono (by omega)) I hT rx ry (by show Option.map _ (eqT _ _ _) = _; rw [e]; rfl) ru rv, h.2 A pins s σ H _ _ (!b) vx vy u v (sb.mono (by omega)) I hT rx ry (by show Option.map _ (eqT _ _ _) = _; rw [e]; rfl) ru rv⟩
      · rename_i xs ys
        have h := rcB_L (X := X) (Γ := Γ) (eqB_v hK F n)
        have e1 : ∀ op, fL op (eqv n) (.lst xs) (.lst ys) = some (neg op b) := fun op => by
          unfold fL
          dsimp only
          split at e
          · rename_i hl
            rw [if_pos hl, e]
            rfl
          · rename_i hl
            cases e
            rw [if_neg hl]
        exact ⟨h.1 A pins s σ H _ _ b vx vy u v (sb.mono (by omega)) I hT rx ry (e1 _) ru rv, h.2 A pins s σ H _ _ (!b) vx vy u v (sb.mono (by omega)) I hT rx ry (e1 _) ru rv⟩
      · rename_i c xs d ys
        split at e
        · rename_i hc
          obtain ⟨rfl, rfl⟩ := hc
          have e1 : fO 0 eqO (.obj 0 xs) (.obj 0 ys) = some b := e
          exact ⟨rcB_O hK F A pins s σ H _ _ b vx vy u v (sb.mono (by omega)) I hT rx ry e1 ru rv, rcB_ON hK F A pins s σ H _ _ (!b) vx vy u v (sb.mono (by omega)) I hT rx ry (by show Option.map _ (fO 0 eqO _ _) = _; rw [e1]; rfl) ru rv⟩
        · cases e
      · exact flat _ _ ht e rx ry
  constructor
  · intro A pins s σ H x y b vx vy u v sb I hT rx ry e ru rv
    have e : (if top x = true ∧ top y = true then (eqv n x y).map (neg .Eq) else none) = some b := e
    split at e
    · rename_i ht
      rw [map_id] at e
      exact (main A pins s σ H x y b vx vy u v sb I hT rx ry ht e ru rv).1
    · cases e
  · intro A pins s σ H x y b vx vy u v sb I hT rx ry e ru rv
    have e : (if top x = true ∧ top y = true then (eqv n x y).map (neg .NotEq) else none) = some b := e
    split at e
    · rename_i ht
      cases e2 : eqv n x y with
      | none =>
        rw [e2] at e
        cases e
      | some c =>
        rw [e2] at e
        cases e
        exact (main A pins s σ H x y c vx vy u v sb I hT rx ry ht e2 ru rv).2
    · cases e
/-- as an operator on trees -/
def rTr (Γ : Cfg) (f : PV → PV → Option Bool) : R2 := fun vx vy H Q => ∃ x y b, LamX.Tabs Γ.tabs H ∧ Rep Γ (ice0 H) x vx ∧ Rep Γ (ice0 H) y vy ∧ f x y = some b ∧ ∀ H', Ext Γ.tabs H H' → Q (.bl b) H'
theorem op_tr {op : CmpOp} (hop : op = .Eq ∨ op = .NotEq) {n : Nat} {f : PV → PV → Option Bool} (h : RcB X Γ op n f) (hr : Room n X.A) : OpR X (compareOp op) (rTr Γ f) := by
  intro pins s σ H vx vy v u Q I rx ry hq
  obtain ⟨x, y, b, hT, hx, hy, e, q⟩ := hq
  have key : wpAny (model X.prog X.w) X.A (richCompare op v u) (EP X pins σ Q) X.xe s := by
    refine wpAny_mono (h X.A pins s σ H x y b vx vy v u ⟨hr, rfl⟩ I hT hx hy e rx ry) (fun r s' z => ?_) fun _ _ x => x
    obtain ⟨hr', H', I', e⟩ := z
    subst hr'
    exact ⟨.bl b, H', I', rfl, q H' e⟩
  rcases hop with rfl | rfl
  · exact key
  · exact key
def pTr (fld : Nat → List Str) (f : PV → PV → Option Bool) : F2 := fun x y p => match thaw fld 0 p x with
  | some x' => match thaw fld 0 p y with
    | some y' => match f x' y' with
      | some b => .ok (.bl b) p
      | none => .stuck
    | none => .stuck
  | none => .stuck
theorem CellR.stepN {Γ : Cfg} {w : Wd} {H H' : Hp} {c : Cell} {a : Addr} (h : CellR Γ w H c a) (hh : ∀ b o, H b = some o → (∀ ps, o ≠ .tbl ps) → H' b = some o) : CellR Γ w H' c a := by
  cases c with
  | lst xs =>
    obtain ⟨g, vs, e, r⟩ := h
    exact ⟨g, vs, hh _ _ e (fun _ z => nomatch z), r⟩
  | obj c fs =>
    obtain ⟨g, dx, vs, e, d, gd, n, r⟩ := h
    exact ⟨g, dx, vs, hh _ _ e (fun _ z => nomatch z), hh _ _ d (fun _ z => nomatch z), gd, n, r⟩
  | dead =>
    obtain ⟨o, e, z⟩ := h
    exact ⟨o, hh _ _ e z.2.1, z⟩
theorem SimP.ext {Γ : Cfg} {L : Lv} {w : Wd} {p : Pool} {H H' : Hp} (S : SimP Γ L w p H) (e : Ext Γ.tabs H H') : SimP Γ L w p H' :=
  ⟨fun a o h => e.n a o (S.sub a o h) (fun ps z => S.nt a ps (z ▸ h)), S.len, S.nd, S.hb, S.hlo, S.hm, fun k c a h1 h2 => (S.cell k c a h1 h2).stepN e.n, S.nt, e.tb S.tb⟩
theorem ice_ice0 {Γ : Cfg} {L : Lv} {w : Wd} {p : Pool} {H : Hp} (S : SimP Γ L w p H) : (w.ice 0 H).le (ice0 H) := ⟨fun a o e => noTab_of (S.iced_sub 0 a o e) (S.iced_nt 0 e), by show w.ρ.take 0 <+: []; rw [List.take_zero]; exact List.prefix_refl _⟩
theorem ref_tr {C : Cn} {f : PV → PV → Option Bool} : RefO C (rTr C.Γ f) (pTr C.Γ.fld f) := fun L w p H σ x y vx vy Q S rx ry q => by
  unfold pTr at q
  split at q
  · rename_i x' ex
    split at q
    · rename_i y' ey
      split at q
      · rename_i b eb
        exact ⟨x', y', b, S.tb, (thaw_ok S ex rx).mono (ice_ice0 S), (thaw_ok S ey ry).mono (ice_ice0 S), eb, fun H' e => q w H' _ (Wd.le.refl w) (S.ext e) rfl⟩
      · exact q.elim
    · exact q.elim
  · exact q.elim
end
end R

/-! R12: in a list whose items are of other types -/
namespace R
section
open PySem PySem.SeqAt PyProof.Rows
open AutoSeq1 (wpAny_loadPart')
open MeetsSeq MeetsSeq2 MeetsSeq3 SeqRoads2
open PySem.W (Looks Frag InstAt findIn isFn subIn looks_subIn ifBound_K)
variable {prog : Program} {w : World} {A : Around} {E : Value → Shared → Prop} {s : Shared} {K : Frag} {x C' f : Addr} {L : Addr} {h₀ : Heap} {m : Str → Option Value} {ox : Obj} {od : Option Obj} {av : Value}
/-- a == x, where a is of a built-in type that declines, and x's class has its own == -/
theorem rc_refl {T id : String} {Q : Value → Shared → Prop} (hu : A.units < cLine) (F : Fr h₀ L s.heap m) (X₀ : K.In h₀) (I : InstAt s.heap x ox C' od) (ha : s.TypeIs av T) (hsub : subIn K (.ref C') (.type T) = some false) (sl : Slot T (cmpInfo .Eq).2.1 id)
    (hd : ∀ Q' : Value → Shared → Prop, Q' .notImplemented s → wpAny (model prog w) A (call (.builtin id) [av, .ref x]) Q' E s)
    (hs : findIn K (.ref C') "__eq__" = some (some (.ref f))) (hf : isFn K (.ref f) = true) (h : wpAny (model prog w) A (call (.ref f) [.ref x, av]) (PySem.W.CmpBack Q) E s) : wpAny (model prog w) A (richCompare .Eq av (.ref x)) Q E s := by
  have X := X₀.keeps F.keep
  have one : wpAny (model prog w) A (tryCompare (.ref x) (cmpInfo .Eq).2.2 av) (fun r s' => ∃ v, r = some v ∧ Q v s') E s := by
    unfold tryCompare
    refine wpAny_bind (ifBound_K X I hs hf (wpAny_mono h (fun v s' hv => ?_) fun _ _ e => e))
    cases v <;> first | exact hv.elim | exact wpAny_pure ⟨_, rfl, hv⟩
  rcases hi : cmpInfo CmpOp.Eq with ⟨sym, fn, r⟩
  rw [hi] at sl one
  simp only [richCompare, hi, ha.oneThing_none]
  try with_reducible refine wpAny_holding ?_
  refine wpAny_bind (wpAny_cRoomFor_or (.inr hu) ?_)
  refine wpAny_bind (wpAny_typeOf ha (wpAny_bind (I.type.here ?_)))
  have hne : (Value.type T != Value.ref C') = true := rfl
  simp only [hne, if_true]
  refine wpAny_bind ((looks_subIn X hsub).here ?_)
  simp only [Bool.false_eq_true, if_false, Bool.not_false, if_true]
  refine wpAny_bind (m := tryCompare av _ (.ref x)) (wpAny_tryCompare_declines ha sl (hd _ ⟨rfl, ?_⟩))
  refine wpAny_bind (m := tryCompare (.ref x) _ av) (wpAny_mono one (fun r s' z => ?_) fun _ _ e => e)
  obtain ⟨v, rfl, hq⟩ := z
  exact wpAny_pure hq
theorem tup_declines {l : Addr} {items : Array Value} {n : Nat} {dd : Option Addr} {sl : Array (Option Value)} (X : K.In s.heap) (I : InstAt s.heap x ox C' od) (hsub : subIn K (.ref C') (.type "tuple") = some false) (ho : s.heap.get? l = some { cls := .type "tuple", dict := dd, data := .seq items n, slots := sl })
    {Q : Value → Shared → Prop} (hq : Q .notImplemented s) : wpAny (model prog w) A (call (.builtin "tuple.__eq__") [.ref l, .ref x]) Q E s := by
  refine GQ.call_here F.slot_tuple_eq ⟨_, ho, rfl⟩ F.entry_tuple_eq (F.args_tuple_eq_2 _ _) ?_
  have hx := I.at_
  have hc := I.cls
  have f1 : ∀ {M : Model} {A : Around} {E : Value → Shared → Prop} {Q : Bool → Shared → Prop}, Q false s → wpAny M A (isSubtype (.ref C') (.type "tuple")) Q E s := fun q => (looks_subIn X hsub).here q
  obtain ⟨hp, g, d, tk, os⟩ := s
  wp_walk using wpAny_loadPart' ho
  rw [hc]
  refine f1 ?_
  wp_walk
  exact hq
theorem int_declines {i : Int} {t : Tok} (I : InstAt s.heap x ox C' od) (hn : ∀ i t, ox.data ≠ .prim (.int i t)) {Q : Value → Shared → Prop} (hq : Q .notImplemented s) : wpAny (model prog w) A (call (.builtin "int.__eq__") [.int i t, .ref x]) Q E s := by
  refine GQ.call_here F.slot_int_eq (typeIs_int s i t) F.entry_int_eq (F.args_int_eq_2 _ _) ?_
  have hx := I.at_
  obtain ⟨hp, g, d, tk, os⟩ := s
  wp_walk using wpAny_loadPart' hx
  split
  · rename_i i t e
    exact absurd e (hn i t)
  · wp_walk
    exact hq
theorem non_declines {Q : Value → Shared → Prop} (hq : Q .notImplemented s) : wpAny (model prog w) A (call (.builtin "NoneType.__eq__") [.none, .ref x]) Q E s :=
  call_gives F.slot_NoneType_eq rfl F.entry_NoneType_eq (F.args_NoneType_eq_2 _ _) (NoneType___eq___none_ref_0 x) hq
/-- one list, whatever its items are: at each turn the i-th item is the one that is sought, or it is not -/
def OneL (prog : Program) (w : World) (A : Around) (E : Value → Shared → Prop) (l : Addr) (y : Value) (N : Nat) (I : Nat → Shared → Prop) (Good : Shared → Prop) : Prop :=
  ∀ i s, I i s → ∃ (xs : Array Value) (n : Nat), s.heap.get? l = some { cls := .type "list", data := .seq xs n } ∧ xs.size = N ∧
    ∀ (h1 : i < xs.size), wpAny (model prog w) A.in1 (eqBool xs[i] y) (fun r t => (r = false ∧ I (i + 1) t) ∨ (r = true ∧ Good t)) E s
theorem loopIn {R0 : Result → Shared → Prop} (l : Addr) (y : Value) (N : Nat) (I : Nat → Shared → Prop) (Good : Shared → Prop) (hl : OneL prog w A (fun e t => R0 (.error e) t) l y N I Good) (fin : ∀ s, I N s → R0 (.ok (.ret (.bool false))) s) (good : ∀ s, Good s → R0 (.ok (.ret (.bool true))) s) (k : Nat) :
    ∀ i : Nat, N - i = k → i ≤ N → ∀ s, I i s → wpAny (model prog w) A.in1 (Builtin.«list.__contains__.loop» ⟨[.ref l, y, rawInt i], []⟩) (GQ.FinOf prog w A R0) (fun e t => R0 (.error e) t) s := by
  induction k with
  | zero =>
    intro i hk hi s h
    obtain ⟨xs, n, hl1, hs1, _⟩ := hl _ _ h
    have ei : i = N := by omega
    have hR : R0 (.ok (.ret (.bool false))) s := fin s (ei ▸ h)
    obtain ⟨hp, g, d, tk, os⟩ := s
    wp_walk using wpAny_loadPart' hl1
    have hx : xs[((i : Nat) : Int).toNat]? = none := by simp; omega
    rw [hx]
    wp_walk
    exact hR
  | succ k ih =>
    intro i hk hi s h
    obtain ⟨xs, n, hl1, hs1, turn⟩ := hl _ _ h
    have h1 : i < xs.size := by omega
    have ht := turn h1
    obtain ⟨hp, g, d, tk, os⟩ := s
    wp_walk using wpAny_loadPart' hl1
    have hx : xs[((i : Nat) : Int).toNat]? = some xs[i] := by simp [h1]
    have ec : ((i : Int) + 1) = ((i + 1 : Nat) : Int) := by omega
    rw [hx]
    refine wpAny_bind (wpAny_mono ht (fun r t q => ?_) fun _ _ x => x)
    rcases q with ⟨rfl, q⟩ | ⟨rfl, q⟩
    · have hrec := ih (i + 1) (by omega) (by omega) t q
      obtain ⟨hp2, g2, d2, tk2, os2⟩ := t
      wp_walk
      rw [ec]
      exact ⟨plainId_quiet plain_contains_loop _, codeAny_builtin entry_contains_loop (by
        rw [Around.under_plainId plain_contains_loop _]; exact hrec)⟩
    · have hR := good t q
      obtain ⟨hp2, g2, d2, tk2, os2⟩ := t
      wp_walk
      exact hR
theorem inL {l : Addr} {y : Value} {N : Nat} {Q : Bool → Shared → Prop} (I : Nat → Shared → Prop) (Good : Shared → Prop) (hl : OneL prog w A E l y N I Good) (fin : ∀ s, I N s → Q false s) (good : ∀ s, Good s → Q true s) (h : I 0 s) :
    wpAny (model prog w) A (contains (.ref l) y) Q E s := by
  obtain ⟨xs, n, hl1, hs1, _⟩ := hl _ _ h
  refine wpAny_contains_slot ⟨_, hl1, rfl⟩ F.slot_list_contains (GQ.call_here F.slot_list_contains ⟨_, hl1, rfl⟩ F.entry_list_contains (F.args_list_contains_2 _ _) ?_)
  have hrec := loopIn (R0 := wants (fun v s' => wpAny (model prog w) A (truthy v) Q E s') E) l y N I Good hl (fun s q => wpAny_truthy_bool (fin s q)) (fun s q => wpAny_truthy_bool (good s q)) _ 0 rfl (Nat.zero_le _) s h
  obtain ⟨hp, g, d, tk, os⟩ := s
  wp_walk using wpAny_loadPart' hl1
  exact ⟨plainId_quiet plain_contains_loop _, codeAny_builtin entry_contains_loop (by
    rw [Around.under_plainId plain_contains_loop _]; exact hrec)⟩
end
section
open PySem L2
open PySem.W (Looks)
variable {X : Cx} {Γ : Cfg}
/-- an item that is no instance, and an instance of class c: its own == says no -/
def fR (c : Nat) : PV → PV → Option Bool := fun x y => match y with
  | .obj d _ => if d = c then match x with
      | .non => some false
      | .int _ => some false
      | .tup _ => some false
      | _ => none
    else none
  | _ => none
theorem rcB_R {k c : Nat} {q : List PV → List PV → Option Bool} (hK : X.K = Γ.K) (F : EqF X Γ k c q) : RcB X Γ .Eq k (fR c) := by
  intro A pins s σ H x y b vx vy u v sb I hT rx ry e ru rv
  obtain ⟨f, fd, ps, g, G, hs, hf, hb, hg⟩ := F.ok
  unfold fR at e
  split at e
  case h_2 => cases e
  rename_i d ys
  split at e
  case isFalse => cases e
  rename_i hd
  subst hd
  have ry' := ry
  obtain ⟨ay, dy, us, rfl, hy, _⟩ := ry
  cases rv
  obtain ⟨od, J⟩ := ins_ty I (noTab_sub _ _ hy)
  obtain ⟨m, hF⟩ := I.fr
  have go : ∀ {T id : String} (x' : PV), rx = rx → plainV x = true → b = false → s.TypeIs u T → T ∈ (["NoneType", "bool", "int", "str", "tuple", "list"] : List String) → Slot T (cmpInfo .Eq).2.1 id →
      (∀ Q' : Value → Shared → Prop, Q' .notImplemented s → wpAny (model X.prog X.w) A (call (.builtin id) [u, .ref ay]) Q' X.xe s) → wpAny (model X.prog X.w) A (richCompare .Eq u (.ref ay)) (fun r s' => r = .bool b ∧ Lp X Γ pins σ H s') X.xe s := fun {T id} x' _ hp hb' ht hTl sl hd => by
    subst hb'
    refine rc_refl sb.room.units0 hF I.ok.mod.kin J ht (F.fn T hTl) sl hd hs hf ?_
    refine eqF_call (G := G) hb (hg (.obj d ys) x false [] ?_) sb I hT ry' rx ru fun s' z => ⟨rfl, z⟩
    unfold fO
    dsimp only
    rw [if_pos rfl]
    cases x <;> first | rfl | (cases hp; done)
  cases x with
  | non =>
    cases e
    cases rx
    cases ru
    exact go .non rfl rfl rfl rfl (by decide) PySem.F.slot_NoneType_eq fun Q' hq => non_declines hq
  | int i =>
    cases e
    cases rx
    obtain ⟨t, rfl⟩ := ru
    exact go .non rfl rfl rfl rfl (by decide) PySem.F.slot_int_eq fun Q' hq => int_declines J (fun _ _ z => nomatch z) hq
  | tup xs =>
    cases e
    obtain ⟨a, vs, ea, q', r⟩ := id rx
    subst ea
    cases ru
    obtain ⟨its, t1, p1, z1⟩ := I.tuple (hK ▸ seqT_mono noTab_sub q')
    obtain ⟨⟨cls, dd, data, sl⟩, ho, hc, n, hd⟩ := p1
    simp only at hc hd
    subst hc hd
    exact go .non rfl rfl rfl ⟨_, ho, rfl⟩ (by decide) PySem.F.slot_tuple_eq fun Q' hq => tup_declines (I.ok.mod.kin.keeps hF.keep) J (F.fn "tuple" (by decide)) ho hq
  | _ => cases e
theorem eqB_R {k c : Nat} {q : List PV → List PV → Option Bool} (hK : X.K = Γ.K) (F : EqF X Γ k c q) : EqB X Γ k (fR c) := by
  intro A pins s σ H x y b vx vy u v sb I hT rx ry e ru rv
  have h := rcB_R hK F A pins s σ H x y b vx vy u v sb I hT rx ry e ru rv
  have e' := e
  unfold fR at e
  split at e
  case h_2 => cases e
  rename_i d ys
  split at e
  case isFalse => cases e
  rename_i hd
  subst hd
  obtain ⟨ay, dy, us, rfl, hy, _⟩ := id ry
  cases rv
  obtain ⟨od, J⟩ := ins_ty I (noTab_sub _ _ hy)
  have h' : wpAny (model X.prog X.w) A (richCompare .Eq u (.ref ay)) (fun v s' => wpAny (model X.prog X.w) A (truthOfDropped v) (fun r s' => r = b ∧ Lp X Γ pins σ H s') X.xe s') X.xe s := wpAny_mono h (fun r s' z => by
    obtain ⟨rfl, z⟩ := z
    exact wpAny_truthy_bool ⟨rfl, z⟩) fun _ _ x => x
  cases x with
  | non =>
    cases rx
    cases ru
    unfold eqBool
    refine wpAny_holding ?_
    refine wpAny_ite_split (fun hab => absurd (eq_of_beq hab) nofun) (fun _ => ?_)
    exact wpAny_bind h'
  | int i =>
    cases rx
    obtain ⟨t, rfl⟩ := ru
    unfold eqBool
    refine wpAny_holding ?_
    refine wpAny_ite_split (fun hab => absurd (eq_of_beq hab) nofun) (fun _ => ?_)
    exact wpAny_bind h'
  | tup xs =>
    obtain ⟨a, vs, ea, q', r⟩ := id rx
    subst ea
    cases ru
    obtain ⟨its, t1, p1, z1⟩ := I.tuple (hK ▸ seqT_mono noTab_sub q')
    obtain ⟨o, ho, hc, n, hd⟩ := p1
    refine eqB_ref (rcB_R hK F) sb I hT rx ry e' fun z => ?_
    subst z
    rw [J.at_] at ho
    cases ho
    cases hc
  | _ => cases e
/-- an item of a list and what is sought -/
def fI (n : Nat) : PV → PV → Option Bool := fun x y => match fR 0 x y with
  | some b => some b
  | none => eqv n x y
theorem eqB_I {k : Nat} (hK : X.K = Γ.K) (F : EqF X Γ k 0 eqO) (n : Nat) : EqB X Γ (n + k) (fI n) := by
  intro A pins s σ H x y b vx vy u v sb I hT rx ry e ru rv
  unfold fI at e
  split at e
  · rename_i c ec
    cases e
    exact eqB_R hK F A pins s σ H x y b vx vy u v (sb.mono (by omega)) I hT rx ry ec ru rv
  · exact eqB_v hK F n A pins s σ H x y b vx vy u v sb I hT rx ry e ru rv
def anyT (f : PV → PV → Option Bool) (y : PV) : List PV → Option Bool
  | [] => some false
  | x :: xs => match f x y with
    | some true => some true
    | some false => anyT f y xs
    | none => none
/-- y in a list -/
def fIn (f : PV → PV → Option Bool) : PV → PV → Option Bool := fun y l => match l with
  | .lst xs => anyT f y xs
  | _ => none
theorem op_inT {n : Nat} {f : PV → PV → Option Bool} (h : EqB X Γ n f) (hr : Room (n + 1) X.A) : OpR X (compareOp .In) (rTr Γ (fIn f)) ∧ OpR X (compareOp .NotIn) (rTr Γ (fun y l => (fIn f y l).map (!·))) := by
  have main : ∀ (pins : List (Addr × Obj)) (s : Shared) (σ : St) (H : Hp) (y : PV) (xs : List PV) (b : Bool) (vy vl : V) (v u : Value), Inv X pins σ H s → LamX.Tabs Γ.tabs H → RelV vy v → RelV vl u → Rep Γ (ice0 H) y vy → Rep Γ (ice0 H) (.lst xs) vl → anyT f y xs = some b →
      wpAny (model X.prog X.w) X.A (contains u v) (fun r s' => r = b ∧ Lp X Γ pins σ H s') X.xe s := by
    intro pins s σ H y xs b vy vl v u I hT ry rl hy hx e
    obtain ⟨a, vs, rfl, q, r⟩ := hx
    cases rl
    have sb : Sub X (n + 1) X.A := ⟨hr, rfl⟩
    refine inL (N := xs.length) (fun i s' => Lp X Γ pins σ H s' ∧ anyT f y (xs.drop i) = some b) (fun s' => Lp X Γ pins σ H s' ∧ b = true) (fun i s' q' => ?_) (fun s' q' => ?_) (fun s' q' => ⟨q'.2.symm, q'.1⟩) ⟨⟨H, I, Ext.rfl'⟩, e⟩
    · obtain ⟨⟨H1, I1, e1⟩, q2⟩ := q'
      obtain ⟨_, its, k, t1, g1⟩ := I1.hok a _ (e1.n _ _ (noTab_sub _ _ q) (fun _ z => nomatch z))
      refine ⟨its.toArray, k, g1, by rw [List.size_toArray, ← t1.length, r.length], fun h1 => ?_⟩
      have k1 : i < its.length := by simpa using h1
      have x1 : i < xs.length := by rw [r.length, t1.length]; exact k1
      obtain ⟨vx, ev, rv⟩ := r.get (List.getElem?_eq_getElem x1)
      obtain ⟨v', ev', rv'⟩ := t1.get ev
      have gg : v' = its.toArray[i] := by
        rw [List.getElem?_eq_getElem k1] at ev'
        rw [← Option.some.inj ev']
        simp
      rw [← gg]
      rw [List.drop_eq_getElem_cons x1] at q2
      unfold anyT at q2
      split at q2
      · rename_i z
        cases q2
        refine wpAny_mono (h X.A.in1 pins s' σ H1 xs[i] y true vx vy v' v sb.in1 I1 (e1.tb hT) (rv.mono (ice_le e1)) (hy.mono (ice_le e1)) z rv' ry) (fun r s2 z => ?_) fun _ _ x => x
        obtain ⟨rfl, H2, I2, e2⟩ := z
        exact .inr ⟨rfl, ⟨H2, I2, e1.trans e2⟩, rfl⟩
      · rename_i z
        refine wpAny_mono (h X.A.in1 pins s' σ H1 xs[i] y false vx vy v' v sb.in1 I1 (e1.tb hT) (rv.mono (ice_le e1)) (hy.mono (ice_le e1)) z rv' ry) (fun r s2 z => ?_) fun _ _ x => x
        obtain ⟨rfl, H2, I2, e2⟩ := z
        exact .inl ⟨rfl, ⟨H2, I2, e1.trans e2⟩, q2⟩
      · cases q2
    · have q2 := q'.2
      rw [List.drop_eq_nil_of_le (Nat.le_refl _)] at q2
      cases q2
      exact ⟨rfl, q'.1⟩
  have shape : ∀ {y l : PV} {b : Bool}, fIn f y l = some b → ∃ xs, l = .lst xs ∧ anyT f y xs = some b := fun {y l b} e => by
    cases l with
    | lst xs => exact ⟨xs, rfl, e⟩
    | _ => cases e
  constructor
  · intro pins s σ H vx vy v u Q I rx ry hq
    obtain ⟨x, y, b, hT, hx, hy, e, q⟩ := hq
    obtain ⟨xs, rfl, e⟩ := shape e
    show wpAny (model X.prog X.w) X.A (do return Value.bool (← contains u v)) (EP X pins σ Q) X.xe s
    refine wpAny_bind (wpAny_mono (main pins s σ H x xs b vx vy v u I hT rx ry hx hy e) (fun r s' z => ?_) fun _ _ x => x)
    obtain ⟨rfl, H', I', e'⟩ := z
    exact wpAny_pure ⟨.bl r, H', I', rfl, q H' e'⟩
  · intro pins s σ H vx vy v u Q I rx ry hq
    obtain ⟨x, y, b, hT, hx, hy, e, q⟩ := hq
    cases e2 : fIn f x y with
    | none =>
      dsimp only at e
      rw [e2] at e
      cases e
    | some c =>
    dsimp only at e
    rw [e2] at e
    cases e
    obtain ⟨xs, rfl, e2⟩ := shape e2
    show wpAny (model X.prog X.w) X.A (do return Value.bool (!(← contains u v))) (EP X pins σ Q) X.xe s
    refine wpAny_bind (wpAny_mono (main pins s σ H x xs c vx vy v u I hT rx ry hx hy e2) (fun r s' z => ?_) fun _ _ x => x)
    obtain ⟨rfl, H', I', e'⟩ := z
    exact wpAny_pure ⟨.bl (!r), H', I', rfl, q H' e'⟩
end
end R

/-! R13: own exceptions as values -/
namespace R
open PySem L2 PySem.Spec PyProof.Rows
open PySem.W (Looks)
theorem exT_ok {P : Program} {w : World} {H : Hp} {h : Heap} {C a t1 : Addr} (e : h.get? a = some ({ cls := .ref C, dict := none, data := .fields #[.ref t1, .none, .none, .none, .bool false, .none] } : Obj)) : ObjOk P w H h a (exT C a t1) :=
  ⟨e, ⟨_, e⟩, fun _ _ e k => k _ e⟩
theorem laidN2 {X : Cx} {pins : List (Addr × Obj)} {σ : L2.St} {H : Hp} {s : Shared} {h' : Heap} {a b : Addr} {o u : HO} {t' : Nat} (I : Inv X pins σ H s) (k : ∀ b u, s.heap.get? b = some u → h'.get? b = some u) (hp : s.heap.get? a = none) (hp2 : s.heap.get? b = none) (ne : b ≠ a) (hn : H a = none) (hn2 : H b = none)
    (new : ObjOk X.prog X.w (upd H a o) h' a o) (new2 : ObjOk X.prog X.w (upd (upd H a o) b u) h' b u) : Inv X pins σ (upd (upd H a o) b u) { s with heap := h', toks := t' } := by
  have hn3 : upd H a o b = none := by
    rw [upd_ne ne]
    exact hn2
  have two : ∀ {c : Addr} {v : HO}, H c = some v → upd (upd H a o) b u c = some v := fun {c v} q => by
    rw [upd_ne (ne_of_none q hn2), upd_ne (ne_of_none q hn)]
    exact q
  have away : ∀ {c : Addr} {v : Obj}, s.heap.get? c = some v → upd (upd H a o) b u c = H c := fun {c v} q => by
    rw [upd_ne (fun z => by rw [z, hp2] at q; cases q), upd_ne (fun z => by rw [z, hp] at q; cases q)]
  refine I.un (t' := t') {
    keep := fun c v q _ _ _ => k c v q
    slot := fun c v q _ _ _ => ⟨v.slots, k c v q⟩
    free := fun c v q n _ => by rw [away q]; exact n
    there := fun c v q _ => ⟨v, k c v q⟩
    tups := fun c xs q => two q
    frzs := fun c v xs q => two q
    tbls := fun c ps q => ⟨#[], by rw [two q]; simp⟩ } (HOk.laidN (HOk.laidN I.hok k hn new) (fun _ _ q => q) hn3 new2)
section
variable {X : Cx} {C : Cn} {pos : Pos}
theorem newObjX {L : Lv} {w : Wd} {p : Pool} {H : Hp} (S : SimP C.Γ L w p H) {c : Nat} {t : Str} {σ : L2.St} {Q : VK} (h : Post C L w σ (RV C) (.ok (.xs c t) p) Q) : ∀ q t1, H q = none → H t1 = none → q ≠ t1 → Q (.ref q) (upd (upd H t1 (.tup [.str t])) q (exT (C.Γ.cls c) q t1)) := fun q t1 hq ht ne => by
  have hq2 : upd H t1 (.tup [.str t]) q = none := by
    rw [upd_ne ne]
    exact hq
  have l2 := S.le_add (o := .tup [.str t]) ht
  have l3 := (S.new (o := .tup [.str t]) ht).le_add (o := exT (C.Γ.cls c) q t1) hq2
  exact h _ _ _ (l2.trans l3) ((S.new ht).new hq2) ⟨q, t1, rfl, add_at, l3.1 _ _ add_at⟩
def mXs (c : Nat) (a : M PV) : M PV := fun en p => (a en p).bind fun x p1 => match x with
  | .str t => .ok (.xs c t) p1
  | _ => .stuck
/-- NoShare(text) -/
theorem re_xs {c : Nat} {bmB : List Value} {B newId initId : String} {x : Str} {e : Expr} {m : M PV} {p : Pos} (F : ExcBaseFacts B newId initId bmB) (q : PySem.W.excIn X.K (C.Γ.cls c) bmB newId = true) (gC : X.mg x = some (.ref (C.Γ.cls c))) (kC : PySem.W.keepIn X.K (.ref (C.Γ.cls c)) = true) (hg : Gl X x)
    (he : RE X C e m) (hs : starEach [e] X.env = (false, eval e X.env) :: starEach [] X.env := by rfl) (hdb : (x == ("__debug__" : Str)) = false := by decide) :
    RE X C (.Call (.Name x p) [e] [] pos) (mXs c m) := by
  refine ⟨fun pins s σ H Q I h => ?_⟩
  obtain ⟨L, w, pl, en, S, E, h⟩ := h
  refine wpAny_Call_Name_kw (ld_glob I hg gC ?_ hdb)
  refine PySem.W.callWith_K (h₀ := X.base) I.ok.mod.kin kC ?_ hs (by rfl)
  rw [hs]
  show wpAny _ _ (spliced ((false, eval e X.env) :: backTo pos (starEach [] X.env))) _ _ s
  have h2 : wE C m σ H (fun v H1 => ∃ t, v = .str t ∧ ∀ a t1, H1 a = none → H1 t1 = none → a ≠ t1 → Q (.ref a) (upd (upd H1 t1 (.tup [.str t])) a (exT (C.Γ.cls c) a t1))) := by
    refine ⟨L, w, pl, en, S, E, h.bind fun y p1 w1 H1 v l1 S1 r1 h1 => ?_⟩
    cases y with
    | str t => exact ⟨t, r1, newObjX S1 h1⟩
    | _ => exact h1.elim
  refine Calls.spliced_cons (thn (he.run pins s σ H _ I h2) fun u s1 ⟨v, H1, I1, r1, t, ev, q1⟩ => ?_)
  subst ev
  obtain ⟨tk, rfl⟩ := r1
  refine Calls.spliced_nil ⟨I1.kIn, ?_⟩
  show wpAny _ _ (call (.ref (C.Γ.cls c)) [.str t tk]) _ _ _
  obtain ⟨bm, N, nm, qn, bs, hdct, sn, sub, ab, col, dd, k0, k1, k2, k3, k5, mN, hC, hN, hni, T⟩ := exc_obj I1.kIn q
  refine wpAny_call_exc_subT F T hC hN hni (fun h' a hm => ?_) (by show 1 ≤ sizeLine; rw [sizeLine_eq]; omega)
  have hn : H1 a = none := I1.hok.gone hm.new
  obtain ⟨t1, ht, h2', h3⟩ := hm.there
  have hn2 : H1 t1 = none := I1.hok.gone h2'
  have ne : a ≠ t1 := fun z => by
    rw [z, h3] at ht
    cases ht
  exact ⟨.ref a, _, laidN2 (o := .tup [.str t]) (u := exT (C.Γ.cls c) a t1) I1 hm.keeps h2' hm.new ne hn2 hn ⟨by show 1 ≤ sizeLine; rw [sizeLine_eq]; omega, [.str t tk], .cons ⟨tk, rfl⟩ .nil, _, h3, rfl, 0, rfl⟩ (exT_ok ht), rfl, q1 a t1 hn hn2 ne⟩
/-! ### exceptions with a field of their own -/
/-- C.__init__(self, v): keeps v -/
def spX (C : Addr) (f : Str) : Sp := fun vs H Q _ => ∃ (a : Addr) (v : V), vs = [.ref a, v] ∧ H a = some (exo a C none) ∧ ∀ d, H d = none → d ≠ a → Q .non (upd (upd H d (exd d [(f, v)])) a (exo a C (some d)))
/-- B.__init__(self, ..), B an own class whose __init__ is ValueError's -/
theorem pe_owninit {x : Str} {B : Addr} {mc : Value} {e : Expr} {es : List Expr} {ta : TA} {p1 p2 : Pos} {pl : Sem Bool} (hg : Gl X x) (hm : X.mg x = some (.ref B)) (r : ClX.CRead X.K B mc) (vV : PySem.W.findCls X.K (.ref B) mc "__init__" = some (.val (.builtin "ValueError.__init__"))) (ha : PA X (e :: es) ta)
    (hc : eval (.Call (.Attribute (.Name x p1) "__init__" p2) (e :: es) [] pos) X.env = (do
      let ov ← eval (.Name x p1) X.env
      standAt p2.atName
      let (f, first) ← holding [ov] (getMethod ov "__init__" pl)
      callWith pos f first (backTo pos (starEach (e :: es) X.env)) (backToKw pos (keywordEach [] X.env))) := by rfl)
    (hdb : (x == ("__debug__" : Str)) = false := by decide) (he : starEach (e :: es) X.env = (false, eval e X.env) :: starEach es X.env := by rfl) (hpl : (backTo pos (starEach es X.env)).any (·.1) = false := by rfl) :
    PE X (.Call (.Attribute (.Name x p1) "__init__" p2) (e :: es) [] pos) (tVeI X.K ta) := by
  refine ⟨fun pins s σ H Q I h => ?_⟩
  refine PySem.W.methodCall_KW (ld_glob I hg hm ?_ hdb) hc
  refine PySem.W.method_cls I.kIn r.ga (PySem.W.cls_value I.kIn r.rd vV (by decide +kernel) ?_)
  show wpAny _ _ (callWith pos (Value.builtin "ValueError.__init__") [] (backTo pos (starEach (e :: es) X.env)) []) _ _ _
  refine PyProof.Rows.callWith_method1 (thn (ha.run pos pins _ σ H _ (I.tok _) h) fun us s1 ⟨vs, H1, I1, r1, a, C, ws, ev, hl, T, ea, q⟩ => ?_) he hpl
  subst ev
  cases r1 with
  | @cons _ u0 _ ur ra rw' =>
    obtain rfl : u0 = Value.ref a := ra
    have hlen : ur.length ≤ sizeLine := by
      rw [← Paired.length rw', sizeLine_eq]
      omega
    exact oinit_ok T I1 ea hlen fun s' J => ⟨.non, H1, J, rfl, q⟩
/-- what is known of an own exception class with a field f -/
structure XvF (K : PySem.W.Frag) (D : Addr) (f : Str) : Prop where
  oex : OexC K D
  ga : PySem.W.findIn K (.ref D) "__getattribute__" = some (some (.builtin "BaseException.__getattribute__"))
  gg : PySem.W.findIn K (.ref D) "__getattr__" = some none
  hd : PySem.W.hasDictIn K D = true
  no : PySem.W.findIn K (.ref D) f = some none
def mXv (c : Nat) (a : M PV) : M PV := fun en p => (a en p).bind fun x p1 => .ok (.xv c x) p1
/-- C(e) -/
theorem re_xv {c : Nat} {x : Str} {fI : Addr} {k : Nat} {fd : FuncData} {ps : List Str} {e : Expr} {m : M PV} {p : Pos} (T : OexC X.K (C.Γ.cls c)) (iC : PySem.W.findIn X.K (.ref (C.Γ.cls c)) "__init__" = some (some (.ref fI))) (tI : PySem.W.typeIn X.K (.ref fI) = some (.type "function"))
    (F1 : FnOk X.prog X.w X.K X.mg X.base (L2.CX X.prog X.w) k fI fd ps (spX (C.Γ.cls c) (C.Γ.exf c))) (hr : Room (k + 1) X.A) (hb : Binds X.K fd ps []) (hg : Gl X x) (hm : X.mg x = some (.ref (C.Γ.cls c))) (tk : Takes X C.W) (he : RE X C e m)
    (hdb : (x == ("__debug__" : Str)) = false := by decide) (hs : starEach [e] X.env = (false, eval e X.env) :: starEach [] X.env := by rfl) (hpl : (backTo pos (starEach [] X.env)).any (·.1) = false := by rfl) :
    RE X C (.Call (.Name x p) [e] [] pos) (mXv c m) := by
  refine ⟨fun pins s σ H Q I h => ?_⟩
  obtain ⟨L, w, pl, en, S, E, h⟩ := h
  obtain ⟨nm, q, N, bs, bm, sn, sub, ab, col, dd, k0, k1, k2, k3, k5, hC, hbm⟩ := T.cls
  refine wpAny_Call_Name_kw (ld_glob I hg hm ?_ hdb)
  refine PySem.W.callWith_K (h₀ := X.base) I.ok.mod.kin T.kC ?_ hs hpl
  have h2 : wE C m σ H (fun v H1 => ∀ a, H1 a = none → ∀ d, upd H1 a (exo a (C.Γ.cls c) none) d = none → d ≠ a → Q (.ref a) (upd (upd (upd H1 a (exo a (C.Γ.cls c) none)) d (exd d [(C.Γ.exf c, v)])) a (exo a (C.Γ.cls c) (some d)))) := by
    refine ⟨L, w, pl, en, S, E, h.bind fun y p1 w1 H1 v l1 S1 r1 h1 => ?_⟩
    intro a ha d hd ne
    have hd1 : H1 d = none := by
      rw [upd_ne ne] at hd
      exact hd
    have ha2 : upd H1 d (exd d [(C.Γ.exf c, v)]) a = none := by
      rw [upd_ne ne.symm]
      exact ha
    have S2 := (S1.new (o := exd d [(C.Γ.exf c, v)]) hd1).new (o := exo a (C.Γ.cls c) (some d)) ha2
    have l2 := S1.le_add (o := exd d [(C.Γ.exf c, v)]) hd1
    have l3 := (S1.new (o := exd d [(C.Γ.exf c, v)]) hd1).le_add (o := exo a (C.Γ.cls c) (some d)) ha2
    have eH : upd (upd (upd H1 a (exo a (C.Γ.cls c) none)) d (exd d [(C.Γ.exf c, v)])) a (exo a (C.Γ.cls c) (some d)) = upd (upd H1 d (exd d [(C.Γ.exf c, v)])) a (exo a (C.Γ.cls c) (some d)) := by
      funext b
      by_cases hb : b = a
      · subst hb
        rw [upd_same, upd_same]
      · rw [upd_ne hb, upd_ne hb]
        by_cases hb2 : b = d
        · subst hb2
          rw [upd_same, upd_same]
        · rw [upd_ne hb2, upd_ne hb2, upd_ne hb]
    rw [eH]
    exact h1 _ _ _ (l2.trans l3) S2 ⟨a, d, v, rfl, add_at, l3.1 _ _ add_at, r1.mono (l2.trans l3)⟩
  rw [hs]
  show wpAny _ _ (spliced ((false, eval e X.env) :: backTo pos (starEach [] X.env))) _ _ s
  refine Calls.spliced_cons (thn (he.run pins s σ H _ I h2) fun u s1 ⟨v, H1, I1, r1, q1⟩ => ?_)
  refine Calls.spliced_nil ⟨I1.kIn, ?_⟩
  show wpAny _ _ (call (.ref (C.Γ.cls c)) [u]) _ _ _
  obtain ⟨hp, g, dr, tk', os⟩ := s1
  have hsz : hp.objs.size ≤ hp.objs.size + 1 := Nat.le_succ _
  have hn : H1 (hp.objs.size + 1) = none := I1.hok.fresh hsz
  have hq := q1 (hp.objs.size + 1) hn
  have kk : ∀ b o, hp.get? b = some o → ((hp.push (PySem.W.kdv_tup [u])).push (PySem.HandSPX.excO (C.Γ.cls c) hp.objs.size)).get? b = some o := fun b o e => Heap.get?_push_of_some _ (Heap.get?_push_of_some _ e)
  have hget : ((hp.push (PySem.W.kdv_tup [u])).push (PySem.HandSPX.excO (C.Γ.cls c) hp.objs.size)).get? (hp.objs.size + 1) = some (PySem.HandSPX.excO (C.Γ.cls c) hp.objs.size) := by heap_get
  have I2 : Inv X pins σ (upd H1 (hp.objs.size + 1) (exo (hp.objs.size + 1) (C.Γ.cls c) none)) ⟨(hp.push (PySem.W.kdv_tup [u])).push (PySem.HandSPX.excO (C.Γ.cls c) hp.objs.size), g, dr, tk', os⟩ :=
    I1.laid (t' := tk') (a := hp.objs.size + 1) (o := exo (hp.objs.size + 1) (C.Γ.cls c) none) (h' := (hp.push (PySem.W.kdv_tup [u])).push (PySem.HandSPX.excO (C.Γ.cls c) hp.objs.size)) kk hsz (exo_ok hget)
  have r2 : Vals [V.ref (hp.objs.size + 1), v] [Value.ref (hp.objs.size + 1), u] := .cons rfl (.cons r1 .nil)
  have hsp : spX (C.Γ.cls c) (C.Γ.exf c) [V.ref (hp.objs.size + 1), v] (upd H1 (hp.objs.size + 1) (exo (hp.objs.size + 1) (C.Γ.cls c) none)) (fun x H' => x = .non ∧ Q (.ref (hp.objs.size + 1)) H') (WE C.W σ) := ⟨_, v, rfl, upd_same, fun d h1 h2 => ⟨rfl, hq d h1 h2⟩⟩
  have hl := F1.len _ _ _ _ hsp
  refine wpAny_call (PySem.HandSPX.call_own F.excBase_ValueError (fun Y => PySem.HandSPX.refsVE_contains Y bm hbm) (I1.kIn _ _ hC) (PySem.W.looks_findIn I1.kIn iC) (fun self => PySem.W.bind_fn I1.kIn self tI) (by show 1 ≤ sizeLine; rw [sizeLine_eq]; omega)
    (codeAny_mono (F1.run _ X.stack _ _ ⟨[Value.ref (hp.objs.size + 1), u], []⟩ [Value.ref (hp.objs.size + 1), u] _ _ (WE C.W σ) (hr.make (C.Γ.cls c) [u] []) (I2.env0.make (C.Γ.cls c) [u] []) (by simpa using hb _ [Value.ref (hp.objs.size + 1), u] I2.kIn (by simpa using hl)) r2 hsp) fun r s' hq' => ?_))
  cases r with
  | error er => exact passAt tk σ pins _ _ er s' I2 hq'
  | ok fl =>
    cases fl with
    | ret t =>
      obtain ⟨z, H', I', rz, ez, q'⟩ := I2.after hq'
      subst ez
      exact ⟨rz, .ref (hp.objs.size + 1), H', I', rfl, q'⟩
    | next => exact hq'.elim
    | brk => exact hq'.elim
    | cont => exact hq'.elim
/-! ### reading them -/
def mXf (c : Nat) (a : M PV) : M PV := fun en p => (a en p).bind fun x p1 => match x with
  | .xv d y => if d = c then .ok y p1 else .stuck
  | _ => .stuck
/-- e.f -/
theorem re_xf {e : Expr} {c : Nat} {f : Str} {m : M PV} (T : XvF X.K (C.Γ.cls c) f) (hf : C.Γ.exf c = f) (he : RE X C e m) (hb : attributeBase e f X.env (eval e X.env) = eval e X.env := by rfl) : RE X C (.Attribute e f pos) (mXf c m) := by
  subst hf
  refine ⟨fun pins s σ H Q I h => ?_⟩
  obtain ⟨L, w, pl, en, S, E, h⟩ := h
  have h2 : wE C m σ H (fun v H1 => ∃ a d u, v = .ref a ∧ H1 a = some (exo a (C.Γ.cls c) (some d)) ∧ H1 d = some (exd d [(C.Γ.exf c, u)]) ∧ Q u H1) := by
    refine ⟨L, w, pl, en, S, E, h.bind fun x p1 w1 H1 v l1 S1 r1 h1 => ?_⟩
    cases x with
    | xv d y =>
      dsimp only at h1
      by_cases hd : d = c
      · subst hd
        rw [if_pos rfl] at h1
        obtain ⟨a, dx, u, ev, g, g2, r⟩ := r1
        exact ⟨a, dx, u, ev, S1.sub _ _ g, S1.sub _ _ g2, h1.ok S1 r⟩
      · rw [if_neg hd] at h1
        exact h1.elim
    | _ => exact h1.elim
  refine attr_of hb (thn (he.run pins s σ H _ I h2) fun u0 s1 ⟨x, H1, I1, rx, a, d, v, ex, ea, ed, q⟩ => ?_)
  subst ex
  obtain rfl : u0 = Value.ref a := rx
  obtain ⟨t1, ha⟩ := exo_at I1.hok ea
  obtain ⟨mA, hns, hr⟩ := exd_at I1.hok ed
  obtain ⟨od, ho, hl⟩ := lookIn_ns hns
  have l : ([(C.Γ.exf c, v)] : List (Str × V)).lookup (C.Γ.exf c) = some v := by simp
  obtain ⟨u', hu, ru⟩ := RelO.some_of (v := v) (o := mA (C.Γ.exf c)) (by rw [← l]; exact hr _)
  have J : PySem.W.InstAt s1.heap a _ (C.Γ.cls c) (some od) := ⟨ha, rfl, rfl, ho⟩
  exact HandSPX.exc_get I1.kIn J T.ga T.gg T.oex.exC (PySem.W.findObj_own T.hd T.no rfl (by rw [hl, hu])) (handed_of ru) ⟨v, H1, I1.tok _, ru, q⟩
end
section
variable {X : Cx} {C : Cn} {pos : Pos}
/-- at a: an own exception of class D -/
def ExcAt (H : Hp) (a D : Addr) : Prop := (∃ t1, H a = some (exT D a t1)) ∨ ∃ d fs, H a = some (exo a D (some d)) ∧ H d = some (exd d fs)
def rIsX (K : PySem.W.Frag) : List V → Hp → VK → Prop := fun xs H Q => ∃ (a D : Addr) (c : V) (cv : Value) (b : Bool), xs = [.ref a, c] ∧ ClsV c cv ∧ ExcAt H a D ∧ L2.ExcC K D ∧ PySem.W.kitOne K (.ref D) cv = some b ∧ Q (.bl b) H
theorem call_isx : CallR X (.builtin "isinstance") (rIsX X.K) := by
  intro pins s σ H xs us Q I r h
  obtain ⟨a, D, c, cv, b, rfl, k, ea, T, e, q⟩ := h
  obtain ⟨u1, u2, rfl, r1, r2⟩ := vals2 r
  have e2 := k.eq r2
  subst e2
  cases r1
  have hc : (PySem.W.clsIn X.K D).isSome = true := by
    obtain ⟨cd, hc, _⟩ := PySem.W.any_some T.hd
    rw [hc]
    rfl
  rcases ea with ⟨t1, ea⟩ | ⟨d, fs, ea, ed⟩
  · have ho : s.heap.get? a = some ({ cls := .ref D, dict := none, data := .fields #[.ref t1, .none, .none, .none, .bool false, .none] } : Obj) := (I.hok a _ ea).1
    have J : PySem.W.InstAt s.heap a _ D none := ⟨ho, rfl, rfl, trivial⟩
    exact PySem.W.kia_one (PySem.W.kitx_exc hc T.hg T.hk T.hs T.ha T.hn T.ht T.hm) I.kIn J e (fun z => nomatch z) fun tk => ⟨.bl b, H, I.tok tk, rfl, q⟩
  · obtain ⟨t1, ho⟩ := exo_at I.hok ea
    obtain ⟨mA, hns, hr⟩ := exd_at I.hok ed
    obtain ⟨od, hod, hl⟩ := lookIn_ns hns
    have J : PySem.W.InstAt s.heap a _ D (some od) := ⟨ho, rfl, rfl, hod⟩
    exact PySem.W.kia_one (PySem.W.kitx_exc hc T.hg T.hk T.hs T.ha T.hn T.ht T.hm) I.kIn J e (fun z => nomatch z) fun tk => ⟨.bl b, H, I.tok tk, rfl, q⟩
/-- isinstance of an own exception: what the table says of its class -/
def mXi (f : Nat → Option Bool) (a : M PV) : M PV := fun en p => (a en p).bind fun x p1 => match x with
  | .xs c _ => match f c with
    | some b => .ok (.bl b) p1
    | none => .stuck
  | .xv c _ => match f c with
    | some b => .ok (.bl b) p1
    | none => .stuck
  | _ => .stuck
theorem re_isx {p : Pos} {e ce : Expr} {a : M PV} {f : Nat → Option Bool} {c : V} {cv : Value} (hT : ∀ d b, f d = some b → L2.ExcC X.K (C.Γ.cls d) ∧ PySem.W.kitOne X.K (.ref (C.Γ.cls d)) cv = some b) (ha : RE X C e a) (hce : PE X ce (tC c)) (k : ClsV c cv) (hg : Gl X "isinstance") (hm : X.mg "isinstance" = none)
    (he : starEach (e :: [ce]) X.env = (false, eval e X.env) :: starEach [ce] X.env := by rfl) (he2 : starEach (ce :: []) X.env = (false, eval ce X.env) :: starEach [] X.env := by rfl) (hpl : (backTo pos (starEach [ce] X.env)).any (·.1) = false := by rfl) :
    RE X C (.Call (.Name "isinstance" p) [e, ce] [] pos) (mXi f a) :=
  (pe_callB call_isx hg hm (by decide +kernel) (pa_cons ha (pa_cons hce pa_nil he2) he) (by decide) (by decide) he hpl).imp fun σ H Q ⟨L, w, p, en, S, E, h⟩ => by
    refine ⟨L, w, p, en, S, E, h.bind fun x p1 w1 H1 v l1 S1 r1 h1 => ?_⟩
    cases x with
    | xs d t =>
      dsimp only at h1
      split at h1
      · rename_i b eb
        obtain ⟨a, t1, rfl, g, g2⟩ := r1
        exact ⟨a, _, c, cv, b, rfl, k, .inl ⟨t1, S1.sub _ _ g⟩, (hT d b eb).1, (hT d b eb).2, h1.ok S1 rfl⟩
      · exact h1.elim
    | xv d y =>
      dsimp only at h1
      split at h1
      · rename_i b eb
        obtain ⟨a, dx, u, rfl, g, g2, r⟩ := r1
        exact ⟨a, _, c, cv, b, rfl, k, .inr ⟨dx, _, S1.sub _ _ g, S1.sub _ _ g2⟩, (hT d b eb).1, (hT d b eb).2, h1.ok S1 rfl⟩
      · exact h1.elim
    | _ => exact h1.elim
/-! ### str(e) -/
def rStX (K : PySem.W.Frag) : List V → Hp → VK → Prop := fun xs H Q => ∃ (a D t1 : Addr) (t : Str), xs = [.ref a] ∧ H a = some (exT D a t1) ∧ H t1 = some (.tup [.str t]) ∧ PySem.W.findIn K (.ref D) "__str__" = some (some (.builtin "BaseException.__str__")) ∧ PySem.W.subIn K (.ref D) (.type "BaseException") = some true ∧ Q (.str t) H
theorem call_stx (hu : X.A.units + 2 < cLine) : CallR X (.type "str") (rStX X.K) := by
  intro pins s σ H xs us Q I r h
  obtain ⟨a, D, t1, t, rfl, ea, et, h1, h2, q⟩ := h
  obtain ⟨u, rfl, rv⟩ := vals1 r
  cases rv
  have ho : s.heap.get? a = some ({ cls := .ref D, dict := none, data := .fields #[.ref t1, .none, .none, .none, .bool false, .none] } : Obj) := (I.hok a _ ea).1
  obtain ⟨_, its, rt, ot, hot, hct, n, hdt⟩ := I.hok t1 _ et
  obtain ⟨u, rfl, tk, rfl⟩ := vals1 rt
  exact PySem.P.str_of_C_one (K := X.K) (C := D) (t0 := t1) hu ⟨I.kIn, _, _, ho, rfl, rfl, rfl⟩ ⟨ot, n, hot, hct, hdt⟩ h1 h2 ⟨.str t, H, I, ⟨tk, rfl⟩, q⟩
def mXt (f : Nat → Bool) (a : M PV) : M PV := fun en p => (a en p).bind fun x p1 => match x with
  | .xs c t => if f c = true then .ok (.str t) p1 else .stuck
  | _ => .stuck
theorem re_stx {p : Pos} {e : Expr} {a : M PV} {f : Nat → Bool} (hu : X.A.units + 2 < cLine) (hT : ∀ d, f d = true → PySem.W.findIn X.K (.ref (C.Γ.cls d)) "__str__" = some (some (.builtin "BaseException.__str__")) ∧ PySem.W.subIn X.K (.ref (C.Γ.cls d)) (.type "BaseException") = some true) (ha : RE X C e a) (hg : Gl X "str") (hm : X.mg "str" = none)
    (he : starEach (e :: []) X.env = (false, eval e X.env) :: starEach [] X.env := by rfl) (hpl : (backTo pos (starEach [] X.env)).any (·.1) = false := by rfl) : RE X C (.Call (.Name "str" p) [e] [] pos) (mXt f a) :=
  (pe_callTy (call_stx hu) hg hm (by decide +kernel) (pa_cons ha pa_nil he) (by decide) (by decide) he hpl).imp fun σ H Q ⟨L, w, p, en, S, E, h⟩ => by
    refine ⟨L, w, p, en, S, E, h.bind fun x p1 w1 H1 v l1 S1 r1 h1 => ?_⟩
    cases x with
    | xs d t =>
      dsimp only at h1
      by_cases hd : f d = true
      · rw [if_pos hd] at h1
        obtain ⟨a, t1, rfl, g, g2⟩ := r1
        exact ⟨a, _, t1, t, rfl, S1.sub _ _ g, S1.sub _ _ g2, (hT d hd).1, (hT d hd).2, h1.ok S1 rfl⟩
      · rw [if_neg hd] at h1
        exact h1.elim
    | _ => exact h1.elim
end
end R

/-! R14: defs that hand back what they own, keywords, sorted, count, clear, turned lists -/
namespace R
open PySem L2
/-! ### a def whose lists live on behind it -/
/-- a def that hands out what it has made, as it stands: it may still change -/
def fnA (N : Nat) (body : R.S) : FnM := fun xs p => match body ⟨p.length, xs.map some ++ List.replicate (N - xs.length) none⟩ p with
  | .ret x q => .ok x q
  | _ => .stuck
theorem SimP.out {Γ : Cfg} {L : Lv} {w : Wd} {q : Pool} {H : Hp} {n : Nat} (S : SimP Γ (L.deeper n) w q H) (hb : L.b ≤ n) (hlo : ∀ k, L.b ≤ k → L.lo k = none) (hm : ∀ k m, L.lo k = some m → m ≤ n) : SimP Γ L w q H := by
  have hn : n ≤ q.length := S.hb
  refine S.level (Nat.le_trans hb hn) hlo (fun k m e => Nat.le_trans (hm k m e) hn) fun k c a h1 h2 x => ?_
  by_cases hk : k < n
  · rw [Lv.deeper_lt hk] at x
    refine x.step ?_ (fun _ _ g => ?_) fun _ _ z => z
    · cases e : L.lo k with
      | none => exact w.low_le _
      | some m =>
        refine ⟨fun _ _ z => z, ?_⟩
        show w.ρ.take (min m n) <+: w.ρ.take m
        have e2 : w.ρ.take (min m n) = (w.ρ.take m).take (min m n) := by
          rw [List.take_take]
          congr 1
          omega
        rw [e2]
        exact List.take_prefix _ _
    · rw [Wd.low_G] at g ⊢
      exact g
  · have e0 : (L.deeper n).lo k = none := by
      show (if k < n then _ else none) = none
      rw [if_neg hk]
    rw [e0] at x
    rw [hlo k (by omega)]
    exact x
theorem fn_retA {Γ : Cfg} {L : Lv} {w : Wd} {p : Pool} {H : Hp} (S : SimP Γ L w p H) {N : Nat} {body : R.S} {xs : List PV} {Q : VK} {E : XK} (h : PostF Γ L w (fnA N body xs p) Q E) :
    PostS ⟨Γ, fun cls d _ H => E cls d H⟩ (L.deeper p.length) w { nx := fun _ H' => Q .non H', rt := Q } (body ⟨p.length, xs.map some ++ List.replicate (N - xs.length) none⟩ p) := by
  unfold fnA at h
  cases e : body ⟨p.length, xs.map some ++ List.replicate (N - xs.length) none⟩ p with
  | ret x q =>
    rw [e] at h
    exact fun w' H' v l S' r => h w' H' v l (S'.out S.hb S.hlo S.hm) r
  | _ =>
    rw [e] at h
    exact h.elim
section
variable {P : Program} {w0 : World} {K : PySem.W.Frag} {mg : Str → Option Value} {base : Heap}
theorem ok_fnA {Γ : Cfg} {x qual : Str} {st : Stmt} {dvs : List V} {kws : List (Str × V)} {f : Addr} {fd : FuncData} {N ps : List Str} {k n : Nat} (F : FunD K x qual (defArgs st) (defBody st) (defScope st) dvs kws f fd) (S : FnScope N ps (defScope st)) (hn : ps.length = n) (body : R.S)
    (hb : ∀ (cdv : Value) (A : Around) (outer : List Env) (s : Shared) (H : Hp) (E : XK), Room k (A.deeper (PyProof.Rows.envOfC qual (defScope st) s.heap.objs.size f cdv)) →
      RSs (cxOf (L2.CX P w0) P w0 K mg base N qual (defScope st) f cdv A outer s H E) ⟨Γ, fun cls d _ H => E cls d H⟩ (defBody st) body) : FnOk P w0 K mg base (L2.CX P w0) (k + 1) f fd ps (spM Γ n (fnA N.length body)) := by
  refine F.ok (CX := L2.CX P w0) S (fun vs H Q E h => h.1.trans hn.symm) (fun cdv A outer s H vs Q E hr h => ⟨wS _ body, hb cdv A outer s H E hr, ?_⟩)
  obtain ⟨_, L, w, p, xs, S', r, h⟩ := h
  exact ⟨L.deeper p.length, w, p, ⟨p.length, xs.map some ++ List.replicate (N.length - xs.length) none⟩, S'.enter, EnR.start (L := L.deeper p.length) r, fn_retA S' h⟩
end
section
variable {X : Cx} {C : Cn} {pos : Pos}
/-! ### f(e, .., k = v) -/
structure RK (X : Cx) (C : Cn) (ks : List Keyword) (m : M (List PV)) : Prop where
  pk : PK X ks (wA C m)
  len : ∀ en p xs q, m en p = .ok xs q → xs.length = ks.length
theorem rk_one {k : Option Str} {e : Expr} {m : M PV} {p : Pos} (h : RE X C e m) : RK X C [⟨k, e, p⟩] (mCons m mNil) := by
  refine ⟨⟨fun pos pins s σ H Q I hq => (pk_cons h pk_nil).run pos pins s σ H Q I ?_⟩, fun en p xs q e => ?_⟩
  · obtain ⟨L, w, p, en, S, E, h⟩ := hq
    exact ⟨L, w, p, en, S, E, Post.bind h fun x p1 w1 H1 v l1 S1 r1 h1 => h1.ok S1 (Reps.cons r1 Reps.nil)⟩
  · unfold mCons mNil at e
    cases ea : m en p with
    | ok y p1 =>
      rw [ea] at e
      cases e
      rfl
    | exc c v p1 =>
      rw [ea] at e
      cases e
    | stuck =>
      rw [ea] at e
      cases e
def mKw (f : FnM) (a b : M (List PV)) : M PV := fun en p => (a en p).bind fun xs p1 => (b en p1).bind fun ys p2 => f (xs ++ ys) p2
theorem re_kw {k n n1 : Nat} {f : Addr} {fd : FuncData} {ps ks : List Str} {g : FnM} {x : Str} {p : Pos} {e : Expr} {es : List Expr} {kws : List Keyword} {a b : M (List PV)} (F : FnOk X.prog X.w X.K X.mg X.base (L2.CX X.prog X.w) k f fd ps (spM C.Γ n g)) (hr : Room k X.A) (hg : Gl X x)
    (hm : X.mg x = some (.ref f)) (hk : PySem.W.keepIn X.K (.ref f) = true) (hb : KBn X.K fd ps n1 ks (fun us ws => us ++ ws) (fun vs zs => vs ++ zs)) (tk : Takes X C.W) (ha : RA X C (e :: es) a) (hkw : RK X C kws b) (hl : es.length + 1 = n1) (hl2 : kws.length = ks.length) (hn : n1 + ks.length = n)
    (hall : (backToKw pos (keywordEach kws X.env)).all (·.1.isSome) = true := by rfl) (hks : (backToKw pos (keywordEach kws X.env)).filterMap (·.1) = ks := by rfl)
    (hdb : (x == ("__debug__" : Str)) = false := by decide) (he : starEach (e :: es) X.env = (false, eval e X.env) :: starEach es X.env := by rfl)
    (hpl : ((backTo pos (starEach (e :: es) X.env)).any (·.1) || (backToKw pos (keywordEach kws X.env)).any (·.1.isNone)) = false := by rfl) :
    RE X C (.Call (.Name x p) (e :: es) kws pos) (mKw g a b) := by
  refine ⟨fun pins s σ H Q I h => ?_⟩
  have h2 : wA C a σ H (fun vs H1 => wA C b σ H1 fun zs H2 => vs.length = n1 ∧ zs.length = ks.length ∧ spM C.Γ n g (vs ++ zs) H2 Q (WE C.W σ)) := by
    obtain ⟨L, w, p, en, S, E, h⟩ := h
    refine ⟨L, w, p, en, S, E, ?_⟩
    unfold mKw at h
    cases ea : a en p with
    | ok xs p1 =>
      rw [ea] at h
      intro w1 H1 vs l1 S1 r1
      refine ⟨L, w1, p1, en, S1, E.mono l1, ?_⟩
      have h := Post.mono l1 h
      dsimp only [Res.bind] at h
      cases eb : b en p1 with
      | ok ys p2 =>
        rw [eb] at h
        intro w2 H2 zs l2 S2 r2
        have e1 : vs.length = n1 := by rw [← r1.length, ha.len _ _ _ _ ea, List.length_cons]; exact hl
        have e2 : zs.length = ks.length := by rw [← r2.length, hkw.len _ _ _ _ eb]; exact hl2
        exact ⟨e1, e2, by rw [List.length_append, e1, e2]; exact hn, L, w2, p2, xs ++ ys, S2, (r1.mono l2).append r2, PostF.of (Post.mono l2 h)⟩
      | exc c v p2 =>
        rw [eb] at h
        exact h
      | stuck =>
        rw [eb] at h
        exact h
    | exc c v p1 =>
      rw [ea] at h
      exact h
    | stuck =>
      rw [ea] at h
      exact h
  refine wpAny_Call_Name_kw (ld_glob I hg hm ?_ hdb)
  refine PySem.W.callWith_KW (h₀ := X.base) I.ok.mod.kin hk hall (thn (ha.pa.run pos pins s σ H _ I h2) fun us s1 ⟨vs, H1, I1, r, q⟩ => ?_) hpl he
  refine thn (hkw.pk.run pos pins s1 σ H1 _ I1 q) fun ws s2 ⟨zs, H2, I2, rz, l1, l2, q2⟩ => ⟨I2.kIn, ?_⟩
  rw [hks]
  refine wpAny_call (codeAny_mono (F.run X.A X.stack s2 H2 ⟨us, ks.zip ws⟩ (us ++ ws) (vs ++ zs) Q (WE C.W σ) hr I2.env0 (hb.to s2 us ws I2.kIn (r.length.symm.trans l1) (rz.length.symm.trans l2)) (r.append rz) q2) fun r s' hq => ?_)
  cases r with
  | error e => exact passAt tk σ pins H2 s2 e s' I2 hq
  | ok fl =>
    cases fl with
    | ret u => exact I2.after hq
    | next => exact hq.elim
    | brk => exact hq.elim
    | cont => exact hq.elim
/-! ### sorted, count, clear -/
def isUp : List Int → Bool
  | [] => true
  | [_] => true
  | a :: b :: r => decide (a ≤ b) && isUp (b :: r)
theorem isUp_pw : ∀ {l : List Int}, isUp l = true → l.Pairwise (· ≤ ·)
  | [], _ => List.Pairwise.nil
  | [a], _ => List.pairwise_singleton _ _
  | a :: b :: r, h => by
    unfold isUp at h
    rw [Bool.and_eq_true] at h
    have h1 : a ≤ b := of_decide_eq_true h.1
    have h2 := isUp_pw h.2
    refine List.pairwise_cons.mpr ⟨fun c hc => ?_, h2⟩
    rcases List.mem_cons.mp hc with rfl | hc
    · exact h1
    · exact Int.le_trans h1 ((List.pairwise_cons.mp h2).1 c hc)
theorem perm_eq : ∀ {l m : List Int}, l.Perm m → l.Pairwise (· ≤ ·) → m.Pairwise (· ≤ ·) → l = m
  | [], m, h, _, _ => (List.nil_perm.mp h).symm ▸ rfl
  | a :: l, [], h, _, _ => by
    have := h.length_eq
    simp at this
  | a :: l, b :: m, h, h1, h2 => by
    have e : a = b := by
      have ha : a ∈ b :: m := h.subset List.mem_cons_self
      have hb : b ∈ a :: l := h.symm.subset List.mem_cons_self
      rcases List.mem_cons.mp ha with e | ha
      · exact e
      · rcases List.mem_cons.mp hb with e | hb
        · exact e.symm
        · have x := (List.pairwise_cons.mp h1).1 b hb
          have y := (List.pairwise_cons.mp h2).1 a ha
          omega
    subst e
    rw [perm_eq ((List.perm_cons a).mp h) (List.pairwise_cons.mp h1).2 (List.pairwise_cons.mp h2).2]
/-- sorted of numbers that stand in order already -/
def cSortUp : FC := fun xs p => match xs with
  | [x] => match getR p x with
    | some ys => match its ys with
      | some ns => if isUp ns = true then .ok (.lst (ns.map .int)) p else .stuck
      | none => .stuck
    | none => .stuck
  | _ => .stuck
theorem ref_sorted : RefC C (rSortedI C.Γ.K) cSortUp := fun L w p H σ xs vs Q S r q => by
  unfold cSortUp at q
  split at q
  · rename_i x
    obtain ⟨v, rfl, rv⟩ := reps1 r
    split at q
    · rename_i ys ey
      split at q
      · rename_i ns en
        split at q
        · rename_i hu
          obtain ⟨a, us, rfl, hs, ru⟩ := getR_ok S rv ey
          have e := its_ok ru en
          subst e
          refine ⟨a, ns, rfl, hs, fun ns' l hp hw hl => ?_⟩
          rw [perm_eq hp hw (isUp_pw hu)]
          exact newLst S Reps.ints q l hl
        · exact q.elim
      · exact q.elim
    · exact q.elim
  · exact q.elim
/-- xs.count(k), numbers -/
def mCnt (o : M PV) (a : M (List PV)) : M PV := fun en p => (o en p).bind fun x p1 => match getR p1 x with
  | some _ => (a en p1).bind fun ys p2 => match getR p2 x with
    | some xs => match its xs, ys with
      | some ns, [.int k] => .ok (.int ((ns.count k : Nat) : Int)) p2
      | _, _ => .stuck
    | none => .stuck
  | none => .stuck
theorem re_cnt {o e : Expr} {mo : M PV} {a : M (List PV)} {apos cpos : Pos} (hK : X.K = C.Γ.K) (ho : RE X C o mo) (ha : RA X C [e] a) (hb : attributeBase o "count" X.env (eval o X.env) = eval o X.env := by rfl)
    (h4 : ((backTo cpos (starEach (e :: []) X.env)).all (fun x => !x.1) && (backToKw cpos (keywordEach [] X.env)).all (fun x => x.1.isSome) && decide ((e :: ([] : List Expr)).length + ([] : List Keyword).length + (if ([] : List Keyword).isEmpty then 0 else 1) < 30)) = true := by rfl)
    (h5 : (apos.endLine == cpos.line) = true := by rfl) (he : starEach (e :: []) X.env = (false, eval e X.env) :: starEach [] X.env := by rfl) (hpl : (backTo cpos (starEach [] X.env)).any (·.1) = false := by rfl) :
    RE X C (.Call (.Attribute o "count" apos) [e] [] cpos) (mCnt mo a) := (pe_bm PySem.F.plainAttrs_list PySem.F.slot_list_count (by kernel_rfl) mt_lcount ho ha.pa hb h4 h5 he hpl).imp fun σ H Q ⟨L, w, p, en, S, E, h⟩ => by
  rw [hK]
  refine ⟨L, w, p, en, S, E, h.bind fun x p1 w1 H1 v l1 S1 r1 h1 => ?_⟩
  split at h1
  · rename_i ys0 e0
    obtain ⟨b, us0, rfl, hs0, _⟩ := getR_ok S1 r1 e0
    refine ⟨.inl ⟨rfl, us0, hs0⟩, L, w1, p1, en, S1, E.mono l1, h1.bind fun ys p2 w2 H2 us l2 S2 r2 h2 => ?_⟩
    split at h2
    · rename_i xs e2
      split at h2
      · rename_i ns k en2
        obtain ⟨b2, vs, e3, hs, rr⟩ := getR_ok S2 (r1.mono l2) e2
        cases e3
        have e := its_ok rr en2
        subst e
        obtain ⟨u, rfl, ru⟩ := reps1 r2
        have ru : u = V.int k := ru
        subst ru
        exact ⟨b, ns, k, rfl, rfl, hs, h2.ok S2 rfl⟩
      · exact h2.elim
    · exact h2.elim
  · exact h1.elim
/-- xs.clear() -/
def mClr (o : M PV) : M PV := fun en p => (o en p).bind fun x p1 => match x with
  | .own k => match p1[k]? with
    | some (.lst _) => .ok .non (p1.set k (.lst []))
    | _ => .stuck
  | _ => .stuck
theorem re_clr {o : Expr} {mo : M PV} {apos cpos : Pos} (hK : X.K = C.Γ.K) (ho : RE X C o mo) (hb : attributeBase o "clear" X.env (eval o X.env) = eval o X.env := by rfl) (h5 : (apos.endLine == cpos.line) = true := by rfl) :
    RE X C (.Call (.Attribute o "clear" apos) [] [] cpos) (mClr mo) := (pe_bm0 PySem.F.plainAttrs_list PySem.F.slot_list_clear (by kernel_rfl) mt_clear ho hb h5).imp fun σ H Q ⟨L, w, p, en, S, E, h⟩ => by
  rw [hK]
  refine ⟨L, w, p, en, S, E, h.bind fun x p1 w1 H1 v l1 S1 r1 h1 => ?_⟩
  split at h1
  · rename_i k
    split at h1
    · rename_i xs e0
      obtain ⟨b, vs, rfl, hb, g, eH, rr⟩ := Rep.ownH S1 r1 e0
      exact ⟨.inl ⟨rfl, vs, .inl (.inl eH)⟩, b, vs, rfl, rfl, eH, h1.ok (S1.write hb g ⟨by rw [Wd.low_G]; exact g, [], upd_same, Reps.nil⟩) rfl⟩
    · exact h1.elim
  · exact h1.elim
/-! ### xs * n as a list that may change -/
def pMulO : F2 := fun x y p => match y with
  | .int k => match getL p x with
    | some xs => if k ≤ 1000 ∧ -1000 ≤ k ∧ xs.length * k.toNat ≤ big then .ok (.own p.length) (p ++ [.lst (times k.toNat xs)]) else .stuck
    | _ => .stuck
  | _ => .stuck
theorem ref_mulO : RefO C rMul pMulO := fun L w p H σ x y vx vy Q S rx ry q => by
  unfold pMulO at q
  split at q
  · rename_i k
    split at q
    · rename_i xs e
      split at q
      · rename_i hl
        obtain ⟨a, vs, ea, sa, ra⟩ := getL_at S rx e
        exact .inr (.inr ⟨a, k, vs, ea, ry, sa, by omega, by omega, by rw [← ra.length]; exact big_le hl.2.2, newOwn S (ra.times _) q⟩)
      · exact q.elim
    · exact q.elim
  · exact q.elim
end
end R

/-! R15: enumerate of a tuple, zip of a tuple and a list, lists turned about -/
namespace R
open PySem L2 PySem.Spec PyProof.Rows
open AutoSeq1 (wpAny_loadPart')
set_option maxHeartbeats 1000000 in
/-- enumerate(v): how it begins -/
theorem enum_new1 {v : Value} {o : Obj} {Hp0 : Heap → Prop} (B : Begins v o Hp0) :
    Meets (Builtin.«enumerate.__new__» ⟨[.type "enumerate", v], []⟩) (fun _ R s => Hp0 s.heap ∧
      R (.ok (.ret (.ref (s.heap.push o).objs.size))) { s with heap := (s.heap.push o).push { cls := .type "enumerate", data := .fields #[.none, .bool false, .ref s.heap.objs.size, rawInt 0, .none, .none] } }) :=
  .of_wp fun prog w A R s h => by
    obtain ⟨hp, g, d, tk, os⟩ := s
    obtain ⟨h1, h⟩ := h
    have hsub := sub_enumerate
    have q1 : ∀ {A' : Around} {E : Value → Shared → Prop} {Q : Value → Shared → Prop}, Q (.ref hp.objs.size) ⟨hp.push o, g, d, tk, os⟩ → wpAny (model prog w) A' (pyIter v) Q E ⟨hp, g, d, tk, os⟩ :=
      fun q => B.iter prog w _ _ ⟨hp, g, d, tk, os⟩ _ h1 q
    wp_walk using q1
    refine wpAny_stack_any fun st => wpAny_pure ?_
    split
    · rename_i c _ _ _ _ _
      cases (c == Value.type "enumerate") <;> (wp_walk using q1; exact ⟨_, rfl, h⟩)
    · wp_walk using q1
      exact ⟨_, rfl, h⟩
theorem enum_call1 {prog : Program} {w : World} {A : Around} {E : Value → Shared → Prop} {s : Shared} {v : Value} {o : Obj} {Hp0 : Heap → Prop} {Q : Value → Shared → Prop} (B : Begins v o Hp0) (h1 : Hp0 s.heap)
    (h : ∀ h', IsEnum h' (s.heap.objs.size + 1) s.heap.objs.size 0 .none → h'.get? s.heap.objs.size = some o → (∀ b o, s.heap.get? b = some o → h'.get? b = some o) → Q (.ref (s.heap.objs.size + 1)) { s with heap := h' }) :
    wpAny (model prog w) A (call (.type "enumerate") [v]) Q E s := by
  refine callType_new F.called_enumerate (by decide) (F.typeCall_enumerate_1 _) (F.newCall_enumerate_1 _) (fun obj => F.args_object_init_2 obj _) F.entry_enumerate_new (enum_new1 B) ⟨h1, ?_⟩
  have hz : (s.heap.push o).objs.size = s.heap.objs.size + 1 := Heap.size_push ..
  show _ ∧ _
  rw [hz]
  have he := Heap.get?_push_size (s.heap.push o) (o := { cls := .type "enumerate", data := .fields #[.none, .bool false, .ref s.heap.objs.size, rawInt 0, .none, .none] }) rfl
  rw [hz] at he
  exact ⟨⟨_, he, rfl⟩, h _ he (Heap.get?_push_of_some _ (Heap.get?_push_size _ B.free)) fun b o x => Heap.get?_push_of_some _ (Heap.get?_push_of_some _ x)⟩
/-- the tuple at a, each item in a new pair -/
def IteT (K : PySem.W.Frag) (a : Addr) : It :=
  ⟨fun i H => ∃ (xs : List V) (x : V), SqT K H a xs ∧ xs[i]? = some x, fun i H v H' => ∃ T x, v = .ref T ∧ H T = none ∧ H' = upd H T (.tup [.int (i : Nat), x]) ∧ ∀ xs, SqT K H a xs → xs[i]? = some x, fun i H => ∃ xs : List V, SqT K H a xs ∧ xs.length ≤ i⟩
theorem turn_enumT {P : Program} {w : World} {K : PySem.W.Frag} {elts : List Expr} {kk : Nat} {tpos : Pos} (a e it : Addr) :
    Turn P w K (.Tuple elts kk tpos) (IteT K a) [e, it] e (fun i h => (∃ old, IsEnum h e it ((i : Nat) : Int) old) ∧ h.IsTupleIter it a i ∧ e ≠ it ∧ a ≠ it ∧ e ≠ a) where
  mem := List.mem_cons_self
  obj := fun i h st b hb => by
    obtain ⟨⟨old, he⟩, ⟨o, ho, hc, hd⟩, _⟩ := st
    rcases List.mem_cons.mp hb with rfl | hb
    · exact ⟨_, he, fun v q => nomatch q⟩
    · rw [List.mem_singleton.mp hb]
      exact ⟨o, ho, fun v q => by rw [hd] at q; cases q⟩
  keep := fun i h h' ⟨⟨old, he⟩, hi, r⟩ k => ⟨⟨old, k e List.mem_cons_self _ he⟩, hi.at fun o q => k it (List.mem_cons_of_mem _ List.mem_cons_self) o q, r⟩
  item := by
    intro X hP hw hK hc i pins s σ H E I hf st hg
    subst hP hw hK
    obtain ⟨⟨old, he⟩, hit, hne, hai, hea⟩ := st
    obtain ⟨xs, x, hq, hx⟩ := hg
    obtain ⟨its, rv, p, hz⟩ := I.tuple hq
    obtain ⟨u, hu, ru⟩ := rv.get hx
    have hel : e < s.heap.objs.size := Heap.lt_size he
    have hil : it < s.heap.objs.size := by obtain ⟨_, q, _⟩ := hit; exact Heap.lt_size q
    have hlt : i < its.toArray.size := by simpa using (List.getElem?_eq_some_iff.mp hu).1
    have D := Draws.tuple (prog := X.prog) (w := X.w) (A := X.A.in1) (I.ok.hd hc) it a hai its.toArray
    refine wpAny_pyNext_enum_itemD D he ⟨hit, p⟩ hlt hne (by simp [hne, hea]) fun x' h' tk hP ho hit' hT hsz hk => ?_
    have ex : x' = u := by
      have e1 : its.toArray[i]? = some u := by simpa using hu
      exact Option.some.inj (hP.symm.trans e1)
    subst ex
    refine ⟨_, rfl, wpAny_letOwnedTupleGo_enum (s := { s with heap := h', toks := tk + 1 }) ho fun h'' he' sb => ?_⟩
    have hT2 : h''.get? s.heap.objs.size = some { cls := .type "tuple", data := .seq #[.int i tk, x'] } := (sb.2 _ (Nat.ne_of_gt hel)).trans hT
    have new : ObjOk X.prog X.w (upd H s.heap.objs.size (.tup [.int (i : Nat), x])) h'' s.heap.objs.size (.tup [.int (i : Nat), x]) :=
      ⟨by show 2 ≤ sizeLine; decide, [.int i tk, x'], .cons ⟨_, rfl⟩ (.cons ru .nil), ⟨_, hT2, rfl, _, rfl⟩⟩
    have I1 : Inv X pins σ (upd H s.heap.objs.size (.tup [.int (i : Nat), x])) { s with heap := h'', toks := tk + 1 } :=
      I.turnedNew (ch := [e, it]) (fun b ob hb q => (sb.2 b (fun z => hb (by simp [z]))).trans (hk b ob (fun z => hb (by simp [z])) (fun z => hb (by simp [z])) q)) hf (Nat.le_refl _) new
    refine ⟨.ref s.heap.objs.size, _, I1, rfl, ⟨_, x, rfl, I.hok.fresh (Nat.le_refl _), rfl, fun ys hy => by rw [I.tuple_inj hy hq]; exact hx⟩, ⟨⟨x', ?_⟩, hit'.1.at fun o q => (sb.2 it (Ne.symm hne)).trans q, hne, hai, hea⟩, fun b hb => ?_⟩
    · rw [show ((i + 1 : Nat) : Int) = (i : Int) + 1 by omega]
      exact he'
    · have hb' : b < s.heap.objs.size := by
        rcases List.mem_cons.mp hb with rfl | hb
        · exact hel
        · rw [List.mem_singleton.mp hb]
          exact hil
      rw [upd_ne (Nat.ne_of_lt hb')]
      exact (hf b hb).1
  done := by
    intro X hP hw hK hc i pins s σ H E I hf st hg
    subst hP hw hK
    obtain ⟨⟨old, he⟩, hit, hne, hai, hea⟩ := st
    obtain ⟨xs, hq, hx⟩ := hg
    obtain ⟨its, rv, p, hz⟩ := I.tuple hq
    obtain ⟨f0, f1, f2, f3, f4, f5⟩ := hf it (List.mem_cons_of_mem _ List.mem_cons_self)
    have hl := rv.length
    have hTy : s.TypeIs (.ref e) "enumerate" := ⟨_, he, rfl⟩
    unfold pyNext
    refine wpAny_bind (wpAny_attempt (wpAny_callSpecial?_slot (name := Str.ofString "__next__") hTy F.slot_enumerate_next (wpAny_call_entry F.slot_enumerate_next hTy F.entry_enumerate_next ?_ (F.args_enumerate_next_1 _))))
    show wpAny _ _ (field (.ref e) 2 >>= _) _ _ _
    refine wpAny_bind (wpAny_field he rfl (x := .ref it) rfl ?_)
    refine wpAny_bind (wpAny_nextOf_tuple_end (I.ok.hd hc) hit p (by simp; omega) fun h' x he' hx' => ?_)
    obtain ⟨o, ho, hoc⟩ := hx'
    exact wpAny_bind (wpAny_isInstance (T := "StopIteration") (b := true) ⟨o, ho, hoc⟩ isSubtype_stop (wpAny_pure ⟨rfl, I.turned (t' := s.toks) (fun b o hb q => he' b o hb q) f0 f1 f3 f4 f5⟩))
  self := fun A i s Q E st h => let ⟨⟨_, he⟩, _⟩ := st; wpAny_pyIter_enum he h
section
variable {X : Cx} {C : Cn} {pos : Pos}
def iEnumT (K : PySem.W.Frag) (ta : TA) : TI := fun σ H R => ta σ H fun vs H1 => ∃ a xs, vs = [.ref a] ∧ SqT K H1 a xs ∧ R (IteT K a) H1
theorem pi_enumT {e : Expr} {ta : TA} {p tpos : Pos} {elts : List Expr} {kk : Nat} (hg : Gl X "enumerate") (hm : X.mg "enumerate" = none) (ha : PA X [e] ta) (hs : starEach [e] X.env = [(false, eval e X.env)] := by rfl) :
    PI X (.Tuple elts kk tpos) (.Call (.Name "enumerate" p) [e] [] pos) (iEnumT X.K ta) := by
  refine ⟨fun pins s σ H R I h => ?_⟩
  refine Call_ (ld_blt I hg hm Boot.«enumerate» (PyProof.Rows.callWith_type1 (thn (ha.run pos pins s σ H _ I h) fun us s1 ⟨vs, H1, I1, r1, a, xs, ex, hq, q⟩ => ?_) hs rfl))
  subst ex
  obtain ⟨u, rfl, r⟩ := vals1 r1
  cases r
  obtain ⟨its, rv, p', hz⟩ := I1.tuple hq
  have hal : a < s1.heap.objs.size := by obtain ⟨o, ho, _⟩ := id p'; exact Heap.lt_size ho
  refine enum_call1 (begins_tuple a its.toArray) p' fun h' he hit hk => wpAny_pyIter_enum he ?_
  have I2 : Inv X pins σ H1 { s1 with heap := h' } := I1.kept (t' := s1.toks) hk
  refine ⟨s1.heap.objs.size + 1, [s1.heap.objs.size + 1, s1.heap.objs.size], _, _, H1, rfl, I2, turn_enumT a (s1.heap.objs.size + 1) s1.heap.objs.size, ⟨⟨.none, he⟩, ⟨_, hit, rfl, rfl⟩, Nat.succ_ne_self _, Nat.ne_of_lt hal, fun z => absurd hal (by rw [← z]; exact Nat.not_lt_of_le (Nat.le_succ _))⟩, fun b hb => ?_, q⟩
  · have hle : s1.heap.objs.size ≤ b := by
      rcases List.mem_cons.mp hb with rfl | hb
      · exact Nat.le_add_right _ _
      · rw [List.mem_singleton.mp hb]
        exact Nat.le_refl _
    exact I1.fpOk hle (I1.hok.fresh hle)
theorem itR_enumT {Γ : Cfg} {w : Wd} {a : Addr} {xs : List PV} {vs : List V} (h : SqT Γ.K w.G a vs) (r : Reps Γ w xs vs) : ItR Γ w noCk (enumZ 0 xs) (IteT Γ.K a) := fun L w' p H l S _ i => by
  have h' : SqT Γ.K H a vs := seqT_mono (fun b o e => S.sub b o (l.1 b o e)) h
  rw [enumZ_get]
  cases e : xs[i]? with
  | none => exact ⟨fun _ => ⟨vs, h', by rw [← r.length]; exact List.getElem?_eq_none_iff.mp e⟩, (fun _ z => nomatch z)⟩
  | some x =>
    refine ⟨(fun z => nomatch z), fun y ey => ?_⟩
    have ey : PV.tup [.int ((0 + i : Nat) : Int), x] = y := Option.some.inj ey
    subst ey
    obtain ⟨v, ev, rv⟩ := r.get e
    refine ⟨⟨vs, v, h', ev⟩, fun u H' hy => ?_⟩
    obtain ⟨T, z, rfl, hT, rfl, hu⟩ := hy
    have e2 : z = v := Option.some.inj ((hu vs h').symm.trans ev)
    subst e2
    refine new_tup S hT (Reps.cons ?_ (Reps.cons (rv.mono l) Reps.nil))
    rw [Nat.zero_add]
    exact rfl
/-- enumerate of a list or a tuple that doesn't change -/
def itEA (a : M (List PV)) : M It0 := fun en p => (a en p).bind fun xs p1 => match xs with
  | [.tup ys] => .ok ⟨enumZ 0 ys, noCk⟩ p1
  | [x] => match getZL x with
    | some ys => .ok ⟨enumZ 0 ys, noCk⟩ p1
    | none => .stuck
  | _ => .stuck
theorem ri_enumA {e : Expr} {m : M (List PV)} {p tpos : Pos} {elts : List Expr} {kk : Nat} (hK : X.K = C.Γ.K) (hg : Gl X "enumerate") (hm : X.mg "enumerate" = none) (ha : RA X C [e] m) (hs : starEach [e] X.env = [(false, eval e X.env)] := by rfl) :
    RI X C (.Tuple elts kk tpos) (.Call (.Name "enumerate" p) [e] [] pos) (itEA m) := PI.imp (PI.or (pi_enum hg hm ha.pa hs) (pi_enumT hg hm ha.pa hs)) fun σ H R ⟨L, w, p, en, S, E, h⟩ => by
  rw [hK]
  unfold itEA at h
  cases ea : m en p with
  | exc c v p1 =>
    rw [ea] at h
    refine .inl ⟨L, w, p, en, S, E, ?_⟩
    rw [ea]
    exact h
  | stuck =>
    rw [ea] at h
    exact h.elim
  | ok xs p1 =>
    rw [ea] at h
    dsimp only [Res.bind] at h
    split at h
    · rename_i ys
      refine .inr ⟨L, w, p, en, S, E, ?_⟩
      rw [ea]
      intro w1 H1 vs l1 S1 r1
      obtain ⟨v, rfl, rv⟩ := reps1 r1
      obtain ⟨a, us, rfl, hq, rr⟩ := rv
      exact ⟨a, us, rfl, seqT_mono S1.sub hq, h w1 H1 _ l1 S1 (itR_enumT hq rr)⟩
    · rename_i x _
      split at h
      · rename_i ys ey
        refine .inl ⟨L, w, p, en, S, E, ?_⟩
        rw [ea]
        intro w1 H1 vs l1 S1 r1
        obtain ⟨v, rfl, rv⟩ := reps1 r1
        obtain ⟨a, us, rfl, hq, rr⟩ := getZL_ok rv ey
        exact ⟨a, us, rfl, seqL_mono S1.sub hq, h w1 H1 _ l1 S1 (itR_enum hq rr)⟩
      · exact h.elim
    · exact h.elim
/-! ### xs[::-1] -/
def mRev (a : M PV) : M PV := fun en p => (a en p).bind fun x p1 => match x with
  | .tup _ => .stuck
  | x => match getR p1 x with
    | some xs => .ok (.lst xs.reverse) p1
    | none => .stuck
theorem re_rev {e : Expr} {a : M PV} {j : Nat} {p1 p2 p3 : Pos} (hK : X.K = C.Γ.K) (ha : RE X C e a) : RE X C (.Subscript e (.Slice none none (some (.UnaryOp .USub (.Constant (.int 1) j p1) p2)) p3) pos) (mRev a) := by
  refine ⟨fun pins s σ H Q I h => ?_⟩
  have h2 : wE C a σ H (fun v H1 => ∃ (b : Addr) (vs : List V), v = .ref b ∧ SqL X.K H1 b vs ∧ ∀ q, H1 q = none → Q (.ref q) (upd H1 q (.lst vs.reverse))) := by
    obtain ⟨L, w, p, en, S, E, h⟩ := h
    refine ⟨L, w, p, en, S, E, h.bind fun x p1 w1 H1 v l1 S1 r1 h1 => ?_⟩
    split at h1
    · exact h1.elim
    · rename_i x _
      split at h1
      · rename_i xs ex
        obtain ⟨b, vs, eb, hq, rr⟩ := getR_ok S1 r1 ex
        exact ⟨b, vs, eb, hK ▸ hq, newLst S1 rr.reverse h1⟩
      · exact h1.elim
  refine Subscript_ (thn (ha.run pins s σ H _ I h2) fun v s1 ⟨x, H1, I1, r1, b, vs, ex, hq, q1⟩ => ?_)
  subst ex
  cases r1
  refine wpAny_Slice ?_
  rw [evalPart_none]
  refine wpAny_pure ?_
  refine wpAny_pure ?_
  have step : PO X (some (.UnaryOp .USub (.Constant (.int 1) j p1) p2)) (tPart (tUn (rU fun i => V.int (-i)) (tC (.int 1)))) := po_some (pe_un un_neg pe_int)
  refine thn (step.run pins s1 σ H1 (fun o H2 => o = some (-1) ∧ H2 = H1) I1 ⟨1, rfl, -1, rfl, rfl, rfl⟩) fun vst s2 ⟨o, H2, I2, po, eo, eH⟩ => ?_
  subst eo
  subst eH
  have I3 : Inv X pins σ H2 { s2 with heap := s2.heap.push { cls := .type "slice", data := .fields #[.none, .none, vst] } } := I2.kept (t' := s2.toks) fun b ob q => Heap.get?_push_of_some _ q
  obtain ⟨its, r, ht, hz⟩ := I3.list hq
  have hg : wpAny (model X.prog X.w) X.A (getItem (.ref b) (.ref s2.heap.objs.size)) (EP X pins σ Q) X.xe { s2 with heap := s2.heap.push { cls := .type "slice", data := .fields #[.none, .none, vst] } } := by
    refine wpAny_getItem_list_slice ht.isList (Heap.IsSliceOf.new ..) .none .none po (by decide) ?_ (by rw [List.size_toArray, ← r.length]; exact hz)
    rw [PySem.W.krv_pick]
    refine ⟨.ref _, _, I3.laid (t' := s2.toks) (o := .lst vs.reverse) (fun b ob q => Heap.get?_push_of_some _ q) (Nat.le_refl _) ?_, rfl, q1 _ (I3.hok.fresh (Nat.le_refl _))⟩
    exact ⟨by rw [List.length_reverse]; exact hz, _, 0, by simpa using r.reverse, Heap.get?_push_size _ rfl⟩
  show wpAny (model X.prog X.w) X.A (subscriptTail e (.Slice none none (some (.UnaryOp .USub (.Constant (.int 1) j p1) p2)) p3) (.ref b) (.ref s2.heap.objs.size)) (EP X pins σ Q) X.xe _
  exact tail_any (ops := [.ref b, .ref s2.heap.objs.size]) ht.isList.typeIs slot_list_getitem.lookup hg (by with_unfolding_all rfl)
end
end R

/-! R16: zip of a tuple and a list -/
namespace R
open PySem L2 PySem.Spec PyProof.Rows
/-- the tuple at a (n items) and the list at b (m items), two items in a new pair -/
def ItzM (K : PySem.W.Frag) (a b : Addr) (n m : Nat) : It :=
  ⟨fun i H => ∃ (xs ys : List V) (x y : V), SqT K H a xs ∧ SqL K H b ys ∧ xs.length = n ∧ ys.length = m ∧ xs[i]? = some x ∧ ys[i]? = some y,
    fun i H v H' => ∃ T x y, v = .ref T ∧ H T = none ∧ H' = upd H T (.tup [x, y]) ∧ (∀ xs, SqT K H a xs → xs[i]? = some x) ∧ ∀ ys, SqL K H b ys → ys[i]? = some y,
    fun i H => ∃ xs ys : List V, SqT K H a xs ∧ SqL K H b ys ∧ xs.length = n ∧ ys.length = m ∧ (n ≤ i ∨ m ≤ i)⟩
theorem turn_zipM {P : Program} {w : World} {K : PySem.W.Frag} {elts : List Expr} {kk : Nat} {tpos : Pos} {a b z TI TO i1 i2 : Addr} {n m : Nat} (D : ZipSep2 z TI TO i1 i2 [i1, a] [i2, b]) (na : a ≠ i1) (nb : b ≠ i2) :
    Turn P w K (.Tuple elts kk tpos) (ItzM K a b n m) [z, TI, TO, i1, i2] z (fun i h => IsZip h z TI TO .none ∧ IsTupOf2 h TI (.ref i1) (.ref i2) ∧ (∃ x y, IsTupOf2 h TO x y) ∧ h.IsTupleIter i1 a i ∧ h.IsListIter i2 b i ∧ i ≤ n ∧ i ≤ m) where
  mem := List.mem_cons_self
  obj := fun i h st c hc => by
    obtain ⟨hz, hTI, ⟨x, y, hTO⟩, ⟨o1, e1, _, d1⟩, ⟨o2, e2, _, d2⟩, _⟩ := st
    simp only [List.mem_cons, List.not_mem_nil, or_false] at hc
    rcases hc with rfl | rfl | rfl | rfl | rfl
    · exact ⟨_, hz, fun v q => nomatch q⟩
    · exact ⟨_, hTI, fun v q => nomatch q⟩
    · exact ⟨_, hTO, fun v q => nomatch q⟩
    · exact ⟨o1, e1, fun v q => by rw [d1] at q; cases q⟩
    · exact ⟨o2, e2, fun v q => by rw [d2] at q; cases q⟩
  keep := fun i h h' st k => by
    obtain ⟨hz, hTI, ⟨x, y, hTO⟩, h1, h2, l⟩ := st
    exact ⟨k z (by simp) _ hz, k TI (by simp) _ hTI, ⟨x, y, k TO (by simp) _ hTO⟩, h1.at fun o q => k i1 (by simp) o q, h2.at fun o q => k i2 (by simp) o q, l⟩
  item := by
    intro X hP hw hK hc i pins s σ H E I hf st hg
    subst hP hw hK
    obtain ⟨hz, hTI, ⟨x0, y0, hTO⟩, h1, h2, l1, l2⟩ := st
    obtain ⟨xs, ys, x, y, hqx, hqy, ln, lm, hx, hy⟩ := hg
    obtain ⟨its, rv, p, _⟩ := I.tuple hqx
    obtain ⟨its2, rv2, p2, _⟩ := I.list hqy
    obtain ⟨u, hu, ru⟩ := rv.get hx
    obtain ⟨u2, hu2, ru2⟩ := rv2.get hy
    have hzl : z < s.heap.objs.size := Heap.lt_size hz
    have k1 : i < its.toArray.size := by simpa using (List.getElem?_eq_some_iff.mp hu).1
    have k2 : i < its2.toArray.size := by simpa using (List.getElem?_eq_some_iff.mp hu2).1
    have D1 := Draws.tuple (prog := X.prog) (w := X.w) (A := X.A.in1) (I.ok.hd hc) i1 a na its.toArray
    have D2 := Draws.list (prog := X.prog) (w := X.w) (A := X.A.in1) (I.ok.hd hc) i2 b nb its2.toArray
    refine wpAny_pyNext_zipD2_item D D1 D2 hz hTI hTO ⟨h1, p⟩ ⟨h2, p2.isList⟩ k1 k2 fun x1 x2 h' tk P1 P2 z' TO' st1 st2 hT hsz hk => ?_
    have e1 : x1 = u := by
      have e : its.toArray[i]? = some u := by simpa using hu
      exact Option.some.inj (P1.symm.trans e)
    have e2 : x2 = u2 := by
      have e : its2.toArray[i]? = some u2 := by simpa using hu2
      exact Option.some.inj (P2.symm.trans e)
    subst e1
    subst e2
    refine ⟨_, rfl, wpAny_letOwnedTupleGo_zip (s := { s with heap := h', toks := tk }) z' fun h'' z'' sb => ?_⟩
    have hT2 : h''.get? s.heap.objs.size = some { cls := .type "tuple", data := .seq #[x1, x2] } := (sb.2 _ (Nat.ne_of_gt hzl)).trans hT
    have new : ObjOk X.prog X.w (upd H s.heap.objs.size (.tup [x, y])) h'' s.heap.objs.size (.tup [x, y]) :=
      ⟨by show 2 ≤ sizeLine; decide, [x1, x2], .cons ru (.cons ru2 .nil), ⟨_, hT2, rfl, _, rfl⟩⟩
    have I1 : Inv X pins σ (upd H s.heap.objs.size (.tup [x, y])) { s with heap := h'', toks := tk } :=
      I.turnedNew (t' := tk) (ch := [z, TI, TO, i1, i2]) (fun c o hb q => (sb.2 c (fun q' => hb (by simp [q']))).trans (hk c o (fun q' => hb (by simp [q'])) (fun q' => hb (by simp [q'])) (fun q' => hb (by simp [q'])) (fun q' => hb (by simp [q'])) q)) hf (Nat.le_refl _) new
    have i1z : i1 ≠ z := fun q => D.zf1 (by rw [← q]; exact List.mem_cons_self)
    have i2z : i2 ≠ z := fun q => D.zf2 (by rw [← q]; exact List.mem_cons_self)
    refine ⟨.ref s.heap.objs.size, _, I1, rfl, ⟨_, x, y, rfl, I.hok.fresh (Nat.le_refl _), rfl, fun l hl => by rw [I.tuple_inj hl hqx]; exact hx, fun l hl => by rw [I.list_inj hl hqy]; exact hy⟩, ⟨z'', ?_, ⟨x1, x2, ?_⟩, ?_, ?_, ?_, ?_⟩, fun c hcm => ?_⟩
    · exact (sb.2 _ D.TIz).trans (hk _ _ D.TIz D.TITO D.TIi1 D.TIi2 hTI)
    · exact (sb.2 _ D.TOz).trans TO'
    · exact st1.1.at fun o q => (sb.2 _ i1z).trans q
    · exact st2.1.at fun o q => (sb.2 _ i2z).trans q
    · rw [← ln]
      exact (List.getElem?_eq_some_iff.mp hx).1
    · rw [← lm]
      exact (List.getElem?_eq_some_iff.mp hy).1
    · have hlt : c < s.heap.objs.size := by
        simp only [List.mem_cons, List.not_mem_nil, or_false] at hcm
        rcases hcm with rfl | rfl | rfl | rfl | rfl
        · exact hzl
        · exact Heap.lt_size hTI
        · exact Heap.lt_size hTO
        · obtain ⟨_, e1, _⟩ := h1
          exact Heap.lt_size e1
        · obtain ⟨_, e2, _⟩ := h2
          exact Heap.lt_size e2
      rw [upd_ne (Nat.ne_of_lt hlt)]
      exact (hf c hcm).1
  done := by
    intro X hP hw hK hc i pins s σ H E I hf st hg
    subst hP hw hK
    obtain ⟨hz, hTI, ⟨x0, y0, hTO⟩, h1, h2, l1, l2⟩ := st
    obtain ⟨xs, ys, hqx, hqy, ln, lm, hend⟩ := hg
    obtain ⟨its, rv, p, _⟩ := I.tuple hqx
    obtain ⟨its2, rv2, p2, _⟩ := I.list hqy
    have D1 := Draws.tuple (prog := X.prog) (w := X.w) (A := X.A.in1) (I.ok.hd hc) i1 a na its.toArray
    have D2 := Draws.list (prog := X.prog) (w := X.w) (A := X.A.in1) (I.ok.hd hc) i2 b nb its2.toArray
    have s1 : its.toArray.size = n := by rw [List.size_toArray, ← rv.length, ln]
    have s2 : its2.toArray.size = m := by rw [List.size_toArray, ← rv2.length, lm]
    refine wpAny_pyNext_zipD2_end D D1 D2 hz hTI hTO ⟨h1, p⟩ ⟨h2, p2.isList⟩ (by omega) (by omega) (by omega) fun h' tk hk => ⟨rfl, I.turnedL (t' := tk) (ch := [z, TI, TO, i1, i2]) (fun c o hb q =>
      hk c o (fun q' => hb (by simp [q'])) (fun q' => hb (by simp [q'])) (fun q' => hb (by simp [q'])) (fun q' => hb (by simp [q'])) q) hf⟩
  self := fun A i s Q E st h => wpAny_pyIter_zip st.1 h
theorem sep5 (N a b : Nat) (la : a < N) (lb : b < N) : ZipSep2 (N + 4) (N + 2) (N + 3) N (N + 1) [N, a] [N + 1, b] where
  TIz := fun z => absurd (show N + 2 = N + 4 from z) (by omega)
  TOz := fun z => absurd (show N + 3 = N + 4 from z) (by omega)
  TITO := fun z => absurd (show N + 2 = N + 3 from z) (by omega)
  TIi1 := fun z => absurd (show N + 2 = N from z) (by omega)
  mem1 := List.mem_cons_self
  zf1 := fun z => by
    rcases List.mem_cons.mp z with z | z
    · exact absurd (show N + 4 = N from z) (by omega)
    · exact absurd (show N + 4 = a from List.mem_singleton.mp z) (by omega)
  Tf1 := fun z => by
    rcases List.mem_cons.mp z with z | z
    · exact absurd (show N + 3 = N from z) (by omega)
    · exact absurd (show N + 3 = a from List.mem_singleton.mp z) (by omega)
  TIi2 := fun z => absurd (show N + 2 = N + 1 from z) (by omega)
  mem2 := List.mem_cons_self
  zf2 := fun z => by
    rcases List.mem_cons.mp z with z | z
    · exact absurd (show N + 4 = N + 1 from z) (by omega)
    · exact absurd (show N + 4 = b from List.mem_singleton.mp z) (by omega)
  Tf2 := fun z => by
    rcases List.mem_cons.mp z with z | z
    · exact absurd (show N + 3 = N + 1 from z) (by omega)
    · exact absurd (show N + 3 = b from List.mem_singleton.mp z) (by omega)
  sep1_2 := fun z => by
    rcases List.mem_cons.mp z with z | z
    · exact absurd (show N = N + 1 from z) (by omega)
    · exact absurd (show N = b from List.mem_singleton.mp z) (by omega)
  sep2_1 := fun z => by
    rcases List.mem_cons.mp z with z | z
    · exact absurd (show N + 1 = N from z) (by omega)
    · exact absurd (show N + 1 = a from List.mem_singleton.mp z) (by omega)
section
variable {X : Cx} {C : Cn} {pos : Pos}
def iZipM (K : PySem.W.Frag) (ta : TA) : TI := fun σ H R => ta σ H fun vs H1 => ∃ a b xs ys, vs = [.ref a, .ref b] ∧ SqT K H1 a xs ∧ SqL K H1 b ys ∧ R (ItzM K a b xs.length ys.length) H1
theorem pi_zipM {e e2 : Expr} {ta : TA} {p tpos : Pos} {elts : List Expr} {kk : Nat} (hg : Gl X "zip") (hm : X.mg "zip" = none) (ha : PA X [e, e2] ta)
    (hs : starEach [e, e2] X.env = (false, eval e X.env) :: starEach [e2] X.env := by rfl) (hpl : (backTo pos (starEach [e2] X.env)).any (·.1) = false := by rfl) :
    PI X (.Tuple elts kk tpos) (.Call (.Name "zip" p) [e, e2] [] pos) (iZipM X.K ta) := by
  refine ⟨fun pins s σ H R I h => ?_⟩
  refine Call_ (ld_blt I hg hm Boot.«zip» (PyProof.Rows.callWith_type1 (thn (ha.run pos pins s σ H _ I h) fun us s1 ⟨vs, H1, I1, r1, a, b, xs, ys, ex, hqx, hqy, q⟩ => ?_) hs hpl))
  subst ex
  obtain ⟨u, u', rfl, r, r'⟩ := vals2 r1
  cases r
  cases r'
  obtain ⟨its, rv, p1, _⟩ := I1.tuple hqx
  obtain ⟨its2, rv2, p2, _⟩ := I1.list hqy
  have la : a < s1.heap.objs.size := by obtain ⟨o, ho, _⟩ := id p1; exact Heap.lt_size ho
  have lb : b < s1.heap.objs.size := p2.lt
  refine zip_begins2 (begins_tuple a its.toArray) (begins_list b its2.toArray) p1 p2.isList fun h' hz hTI hTO h1 h2 hsz hk => wpAny_pyIter_zip hz ?_
  have I2 : Inv X pins σ H1 { s1 with heap := h' } := I1.kept (t' := s1.toks) hk
  have D : ZipSep2 (s1.heap.objs.size + 4) (s1.heap.objs.size + 2) (s1.heap.objs.size + 3) s1.heap.objs.size (s1.heap.objs.size + 1) [s1.heap.objs.size, a] [s1.heap.objs.size + 1, b] := sep5 _ a b la lb
  refine ⟨s1.heap.objs.size + 4, [s1.heap.objs.size + 4, s1.heap.objs.size + 2, s1.heap.objs.size + 3, s1.heap.objs.size, s1.heap.objs.size + 1], _, _, H1, rfl, I2, turn_zipM D (Nat.ne_of_lt la) (Nat.ne_of_lt (Nat.lt_succ_of_lt lb)), ⟨hz, hTI, ⟨_, _, hTO⟩, ⟨_, h1, rfl, rfl⟩, ⟨_, h2, rfl, rfl⟩, Nat.zero_le _, Nat.zero_le _⟩, fun c hc => ?_, q⟩
  have hle : s1.heap.objs.size ≤ c := by
    simp only [List.mem_cons, List.not_mem_nil, or_false] at hc
    rcases hc with rfl | rfl | rfl | rfl | rfl
    · exact Nat.le_add_right _ _
    · exact Nat.le_add_right _ _
    · exact Nat.le_add_right _ _
    · exact Nat.le_refl _
    · exact Nat.le_add_right _ _
  exact I1.fpOk hle (I1.hok.fresh hle)
theorem itR_zipM {Γ : Cfg} {w : Wd} {a b : Addr} {xs ys : List PV} {vs us : List V} (h : SqT Γ.K w.G a vs) (r : Reps Γ w xs vs) (k : SqL Γ.K w.G b us) (q : Reps Γ w ys us) : ItR Γ w noCk (zipZ xs ys) (ItzM Γ.K a b vs.length us.length) := fun L w' p H l S _ i => by
  have h' : SqT Γ.K H a vs := seqT_mono (fun b o e => S.sub b o (l.1 b o e)) h
  have k' : SqL Γ.K H b us := seqL_mono (fun b o e => S.sub b o (l.1 b o e)) k
  rw [zipZ_get]
  cases e : xs[i]? with
  | none => exact ⟨fun _ => ⟨vs, us, h', k', rfl, rfl, .inl (by rw [← r.length]; exact List.getElem?_eq_none_iff.mp e)⟩, (fun _ z => nomatch z)⟩
  | some x =>
    cases f : ys[i]? with
    | none => exact ⟨fun _ => ⟨vs, us, h', k', rfl, rfl, .inr (by rw [← q.length]; exact List.getElem?_eq_none_iff.mp f)⟩, (fun _ z => nomatch z)⟩
    | some y =>
      refine ⟨(fun z => nomatch z), fun t et => ?_⟩
      have et : PV.tup [x, y] = t := Option.some.inj et
      subst et
      obtain ⟨v, ev, rv⟩ := r.get e
      obtain ⟨u, eu, ru⟩ := q.get f
      refine ⟨⟨vs, us, v, u, h', k', rfl, rfl, ev, eu⟩, fun t H' hy => ?_⟩
      obtain ⟨T, z, z2, rfl, hT, rfl, hz, hz2⟩ := hy
      have e2 : z = v := Option.some.inj ((hz vs h').symm.trans ev)
      have e3 : z2 = u := Option.some.inj ((hz2 us k').symm.trans eu)
      subst e2
      subst e3
      exact new_tup S hT (Reps.cons (rv.mono l) (Reps.cons (ru.mono l) Reps.nil))
/-- zip of two lists, or of a tuple and a list, that don't change -/
def itZA (a : M (List PV)) : M It0 := fun en p => (a en p).bind fun xs p1 => match xs with
  | [.tup xs, y] => match getZL y with
    | some ys => .ok ⟨zipZ xs ys, noCk⟩ p1
    | none => .stuck
  | [x, y] => match getZL x, getZL y with
    | some xs, some ys => .ok ⟨zipZ xs ys, noCk⟩ p1
    | _, _ => .stuck
  | _ => .stuck
theorem ri_zipA {e e2 : Expr} {m : M (List PV)} {p tpos : Pos} {elts : List Expr} {kk : Nat} (hK : X.K = C.Γ.K) (hg : Gl X "zip") (hm : X.mg "zip" = none) (ha : RA X C [e, e2] m) (hs : starEach [e, e2] X.env = (false, eval e X.env) :: starEach [e2] X.env := by rfl) (hs2 : ((backTo pos (starEach [e2] X.env)).any fun x => x.1) = false := by rfl) :
    RI X C (.Tuple elts kk tpos) (.Call (.Name "zip" p) [e, e2] [] pos) (itZA m) := PI.imp (PI.or (pi_zip hg hm ha.pa hs hs2) (pi_zipM hg hm ha.pa hs hs2)) fun σ H R ⟨L, w, p, en, S, E, h⟩ => by
  rw [hK]
  unfold itZA at h
  cases ea : m en p with
  | exc c v p1 =>
    rw [ea] at h
    refine .inl ⟨L, w, p, en, S, E, ?_⟩
    rw [ea]
    exact h
  | stuck =>
    rw [ea] at h
    exact h.elim
  | ok xs p1 =>
    rw [ea] at h
    dsimp only [Res.bind] at h
    split at h
    · rename_i xs y
      split at h
      · rename_i ys ey
        refine .inr ⟨L, w, p, en, S, E, ?_⟩
        rw [ea]
        intro w1 H1 vs l1 S1 r1
        obtain ⟨v, u, rfl, rv, ru⟩ := reps2 r1
        obtain ⟨a, vs, rfl, hq, rr⟩ := rv
        obtain ⟨b, us, rfl, hq2, rr2⟩ := getZL_ok ru ey
        exact ⟨a, b, vs, us, rfl, seqT_mono S1.sub hq, seqL_mono S1.sub hq2, h w1 H1 _ l1 S1 (itR_zipM hq rr hq2 rr2)⟩
      · exact h.elim
    · rename_i x y _
      split at h
      · rename_i xs ys ex ey
        refine .inl ⟨L, w, p, en, S, E, ?_⟩
        rw [ea]
        intro w1 H1 vs l1 S1 r1
        obtain ⟨v, u, rfl, rv, ru⟩ := reps2 r1
        obtain ⟨a, vs, rfl, hq, rr⟩ := getZL_ok rv ex
        obtain ⟨b, us, rfl, hq2, rr2⟩ := getZL_ok ru ey
        exact ⟨a, b, vs, us, rfl, seqL_mono S1.sub hq, seqL_mono S1.sub hq2, h w1 H1 _ l1 S1 (itR_zip hq rr hq2 rr2)⟩
      · exact h.elim
    · exact h.elim
end
end R

/-! R17: tools for the plain part: what a mirror answers -/
namespace R
open PySem L2
theorem get_last {α : Type} (p : List α) (c : α) : (p ++ [c])[p.length]? = some c := by simp
theorem set_last {α : Type} (p : List α) (c d : α) : (p ++ [c]).set p.length d = p ++ [d] := by simp
theorem take_last {α : Type} (p : List α) (c : α) : (p ++ [c]).take p.length = p := by simp
theorem take_all1 {α : Type} (p : List α) (c : α) : (p ++ [c]).take (p.length + 1) = p ++ [c] := by
  rw [List.take_of_length_le]
  simp
theorem len1 {α : Type} (p : List α) (c : α) : (p ++ [c]).length = p.length + 1 := by simp
theorem take_set {p : Pool} {k : Nat} {c : Cell} : (p.set k c).take p.length = p.set k c := by
  rw [List.take_of_length_le]
  rw [List.length_set]
  exact Nat.le_refl _
/-! ### what has no cell in it -/
mutual
theorem sub_bel {s : Nat → Option PV} : ∀ {x : PV}, bel 0 x = true → sub s x = some x
  | .non, _ => rfl
  | .bl _, _ => rfl
  | .int _, _ => rfl
  | .str _, _ => rfl
  | .tup xs, h => by
    unfold sub
    rw [subs_bel (xs := xs) h]
  | .lst xs, h => by
    unfold sub
    rw [subs_bel (xs := xs) h]
  | .obj _ xs, h => by
    unfold sub
    rw [subs_bel (xs := xs) h]
  | .own k, h => absurd (of_decide_eq_true h) (Nat.not_lt_zero k)
  | .scr _, _ => rfl
  | .xs _ _, _ => rfl
  | .xv _ x, h => by
    unfold sub
    rw [sub_bel (x := x) h]
  | .fn _, _ => rfl
theorem subs_bel {s : Nat → Option PV} : ∀ {xs : List PV}, bels 0 xs = true → subs s xs = some xs
  | [], _ => rfl
  | x :: xs, h => by
    have h : (bel 0 x && bels 0 xs) = true := h
    rw [Bool.and_eq_true] at h
    unfold subs
    rw [sub_bel h.1]
    dsimp only
    rw [subs_bel h.2]
end
theorem thaw_bel {fld : Nat → List Str} {n : Nat} {p : Pool} {x : PV} (h : bel 0 x = true) : thaw fld n p x = some x := sub_bel h
theorem bels_iff {n : Nat} : ∀ {xs : List PV}, bels n xs = true ↔ ∀ x ∈ xs, bel n x = true
  | [] => ⟨fun _ _ h => (nomatch h), fun _ => rfl⟩
  | x :: xs => by
    show (bel n x && bels n xs) = true ↔ _
    rw [Bool.and_eq_true, bels_iff (xs := xs)]
    constructor
    · rintro ⟨h1, h2⟩ y hy
      rcases List.mem_cons.mp hy with rfl | hy
      · exact h1
      · exact h2 y hy
    · intro h
      exact ⟨h x List.mem_cons_self, fun y hy => h y (List.mem_cons_of_mem _ hy)⟩
theorem bel_le {n : Nat} {x : PV} (h : bel 0 x = true) : bel n x = true := bel_mono (Nat.zero_le n) h
theorem may_bel {b k : Nat} {x : PV} (h : bel 0 x = true) : may b k x = true := by
  unfold may
  rw [h, Bool.or_true]
theorem may_le {b k : Nat} {x : PV} (h : b ≤ k) : may b k x = true := by
  unfold may
  rw [decide_eq_true h, Bool.true_or]
theorem may_int (b k : Nat) (i : Int) : may b k (.int i) = true := may_bel rfl
theorem thaw_int {fld : Nat → List Str} {n : Nat} {p : Pool} (i : Int) : thaw fld n p (.int i) = some (.int i) := rfl
theorem thaw_bl {fld : Nat → List Str} {n : Nat} {p : Pool} (i : Bool) : thaw fld n p (.bl i) = some (.bl i) := rfl
theorem thaw_non {fld : Nat → List Str} {n : Nat} {p : Pool} : thaw fld n p .non = some .non := rfl
theorem put0 (c : Nat) (y : PV) : putC c 0 y (.obj c []) = some (.obj c [y]) := by simp [putC]
theorem put1 (c : Nat) (x y : PV) : putC c 1 y (.obj c [x]) = some (.obj c [x, y]) := by simp [putC]
theorem put2 (c : Nat) (x z y : PV) : putC c 2 y (.obj c [x, z]) = some (.obj c [x, z, y]) := by simp [putC]
theorem thaw_obj {fld : Nat → List Str} {c : Nat} {xs : List PV} {p : Pool} (hl : xs.length = (fld c).length) (h : bels 0 xs = true) : thaw fld p.length (p ++ [.obj c xs]) (.own p.length) = some (.obj c xs) := by
  show thw fld p.length (p ++ [.obj c xs]) deep p.length = _
  unfold deep thw
  rw [if_neg (Nat.lt_irrefl _), get_last]
  dsimp only
  rw [if_pos hl, subs_bel h]
theorem thaw_lst {fld : Nat → List Str} {xs : List PV} {p : Pool} (h : bels 0 xs = true) : thaw fld p.length (p ++ [.lst xs]) (.own p.length) = some (.lst xs) := by
  show thw fld p.length (p ++ [.lst xs]) deep p.length = _
  unfold deep thw
  rw [if_neg (Nat.lt_irrefl _), get_last]
  dsimp only
  rw [subs_bel h]
/-! ### items -/
theorem atI_nat {α : Type} (xs : List α) (i : Nat) : atI xs (i : Int) = xs[i]? := by
  unfold atI ixN
  rw [if_pos (Int.natCast_nonneg i)]
  by_cases h : (i : Int) < xs.length
  · rw [if_pos h, Int.toNat_natCast]
    rfl
  · rw [if_neg h, List.getElem?_eq_none (by omega)]
    rfl
theorem atI_0 {α : Type} (x : α) (xs : List α) : atI (x :: xs) 0 = some x := atI_nat (x :: xs) 0
theorem atI_1 {α : Type} (x y : α) (xs : List α) : atI (x :: y :: xs) 1 = some y := atI_nat (x :: y :: xs) 1
theorem atI_2 {α : Type} (x y z : α) (xs : List α) : atI (x :: y :: z :: xs) 2 = some z := atI_nat (x :: y :: z :: xs) 2
theorem atI_3 {α : Type} (x y z t : α) (xs : List α) : atI (x :: y :: z :: t :: xs) 3 = some t := atI_nat (x :: y :: z :: t :: xs) 3
theorem atI_mem {α : Type} (xs : List α) (d : Int) (h0 : 0 ≤ d) (h1 : d < xs.length) : ∃ x, x ∈ xs ∧ atI xs d = some x := by
  have hl : d.toNat < xs.length := by omega
  refine ⟨xs[d.toNat], List.getElem_mem hl, ?_⟩
  have h := atI_nat xs d.toNat
  rw [Int.toNat_of_nonneg h0] at h
  rw [h]
  exact List.getElem?_eq_getElem hl
theorem ixN_30 : ixN (0 + 1 + 1 + 1) 0 = some 0 := rfl
theorem ixN_31 : ixN (0 + 1 + 1 + 1) 1 = some 1 := rfl
theorem ixN_32 : ixN (0 + 1 + 1 + 1) 2 = some 2 := rfl
theorem ixN_nat {n i : Nat} (h : i < n) : ixN n (i : Int) = some i := by
  unfold ixN
  rw [if_pos (Int.natCast_nonneg i), if_pos (by omega), Int.toNat_natCast]
/-! ### == of numbers -/
theorem pEq_int (a b : Int) (p : Pool) : pEq (.int a) (.int b) p = .ok (.bl (decide (a = b))) p := by
  have h : eqD (.int a) (.int b) = some (decide (a = b)) := by
    show (if SeqAt.shaped (.int a) = true ∧ SeqAt.shaped (.int b) = true then some (PyData.eqv (.int a) (.int b)) else none) = _
    rfl
  unfold pEq
  rw [h]
theorem pNe_int (a b : Int) (p : Pool) : pNe (.int a) (.int b) p = .ok (.bl (!decide (a = b))) p := by
  have h : eqD (.int a) (.int b) = some (decide (a = b)) := by
    show (if SeqAt.shaped (.int a) = true ∧ SeqAt.shaped (.int b) = true then some (PyData.eqv (.int a) (.int b)) else none) = _
    rfl
  unfold pNe
  rw [h]
/-! ### functions -/
theorem fnM_ret {fld : Nat → List Str} {N : Nat} {body : R.S} {xs : List PV} {p q : Pool} {x y : PV} (h : body ⟨p.length, xs.map some ++ List.replicate (N - xs.length) none⟩ p = .ret x q) (t : thaw fld p.length q x = some y) : fnM fld N body xs p = .ok y (q.take p.length) := by
  unfold fnM
  rw [h]
  dsimp only
  rw [t]
theorem fnM_nx {fld : Nat → List Str} {N : Nat} {body : R.S} {xs : List PV} {p q : Pool} {en : En} (h : body ⟨p.length, xs.map some ++ List.replicate (N - xs.length) none⟩ p = .next en q) : fnM fld N body xs p = .ok .non (q.take p.length) := by
  unfold fnM
  rw [h]
/-! ### comprehensions -/
theorem loopC_map {ck : Pool → Bool} {g : T1} {tt : M Bool} {te : M PV} {vs : List Nat} {en : En} {p : Pool} {f : PV → Option PV} (hck : ∀ acc, ck (p ++ [.lst acc]) = true) : ∀ (xs acc : List PV),
    (∀ x, x ∈ xs → ∃ as : As, g x = some as ∧ as.all (fun a => vs.elem a.1) = true ∧ ∀ acc, tt (en.sets as) (p ++ [.lst acc]) = .ok (f x).isSome (p ++ [.lst acc]) ∧ ∀ y, f x = some y → te (en.sets as) (p ++ [.lst acc]) = .ok y (p ++ [.lst acc]) ∧ bel p.length y = true) →
    acc.length + xs.length ≤ big → loopC ck g tt te vs p.length en xs (p ++ [.lst acc]) = .ok () (p ++ [.lst (acc ++ xs.filterMap f)])
  | [], acc, _, _ => by
    rw [List.filterMap_nil, List.append_nil]
    unfold loopC
    rw [if_pos (hck acc)]
  | x :: xs, acc, h, hl => by
    obtain ⟨as, eg, ea, ht⟩ := h x List.mem_cons_self
    obtain ⟨t1, t2⟩ := ht acc
    rw [List.length_cons] at hl
    unfold loopC
    rw [if_pos (hck acc), eg]
    dsimp only
    rw [if_pos ea, t1]
    dsimp only [Res.bind]
    cases ef : f x with
    | none =>
      rw [if_neg (by simp), take_all1, List.filterMap_cons_none ef]
      exact loopC_map hck xs acc (fun y hy => h y (List.mem_cons_of_mem _ hy)) (by omega)
    | some y =>
      obtain ⟨t3, t4⟩ := t2 y ef
      rw [if_pos (by simp), t3]
      dsimp only [Res.bind]
      rw [get_last]
      dsimp only
      rw [if_pos ⟨t4, by omega⟩, take_all1, set_last, loopC_map hck xs (acc ++ [y]) (fun y hy => h y (List.mem_cons_of_mem _ hy)) (by rw [List.length_append, List.length_singleton]; omega), List.filterMap_cons_some ef, List.append_assoc]
      rfl
theorem mLc_map {it : M It0} {g : T1} {tt : M Bool} {te : M PV} {vs : List Nat} {en : En} {p p1 : Pool} {z : It0} (f : PV → Option PV) (hi : it en p = .ok z p1) (hck : ∀ acc, z.ck (p1 ++ [.lst acc]) = true)
    (h : ∀ x, x ∈ z.xs → ∃ as : As, g x = some as ∧ as.all (fun a => vs.elem a.1) = true ∧ ∀ acc, tt (En.sets ⟨p1.length + 1, wipeE en.sl vs⟩ as) (p1 ++ [.lst acc]) = .ok (f x).isSome (p1 ++ [.lst acc]) ∧ ∀ y, f x = some y → te (En.sets ⟨p1.length + 1, wipeE en.sl vs⟩ as) (p1 ++ [.lst acc]) = .ok y (p1 ++ [.lst acc]) ∧ bel p1.length y = true)
    (hl : z.xs.length ≤ big) : mLc it g tt te vs en p = .ok (.lst (z.xs.filterMap f)) p1 := by
  unfold mLc
  rw [hi]
  dsimp only [Res.bind]
  rw [loopC_map hck z.xs [] h (by rw [List.length_nil]; omega)]
  dsimp only
  rw [get_last]
  dsimp only
  rw [List.nil_append, take_last]
theorem mLcO_map {it : M It0} {g : T1} {tt : M Bool} {te : M PV} {vs : List Nat} {en : En} {p p1 : Pool} {z : It0} (f : PV → Option PV) (hi : it en p = .ok z p1) (hck : ∀ acc, z.ck (p1 ++ [.lst acc]) = true)
    (h : ∀ x, x ∈ z.xs → ∃ as : As, g x = some as ∧ as.all (fun a => vs.elem a.1) = true ∧ ∀ acc, tt (En.sets ⟨p1.length + 1, wipeE en.sl vs⟩ as) (p1 ++ [.lst acc]) = .ok (f x).isSome (p1 ++ [.lst acc]) ∧ ∀ y, f x = some y → te (En.sets ⟨p1.length + 1, wipeE en.sl vs⟩ as) (p1 ++ [.lst acc]) = .ok y (p1 ++ [.lst acc]) ∧ bel p1.length y = true)
    (hl : z.xs.length ≤ big) : mLcO it g tt te vs en p = .ok (.own p1.length) (p1 ++ [.lst (z.xs.filterMap f)]) := by
  unfold mLcO
  rw [hi]
  dsimp only [Res.bind]
  rw [loopC_map hck z.xs [] h (by rw [List.length_nil]; omega)]
  dsimp only
  rw [List.nil_append]
/-- .. whose items change cells below: I says of what is left, what was gathered, the cells -/
theorem loopC_inv {ck : Pool → Bool} {g : T1} {tt : M Bool} {te : M PV} {vs : List Nat} {en : En} {n : Nat} (I : List PV → List PV → Pool → Prop) (hck : ∀ r acc p, p.length = n → I r acc p → ck (p ++ [.lst acc]) = true)
    (h : ∀ x r acc p, p.length = n → I (x :: r) acc p → ∃ as : As, g x = some as ∧ as.all (fun a => vs.elem a.1) = true ∧
      ((∃ p2, tt (en.sets as) (p ++ [.lst acc]) = .ok false (p2 ++ [.lst acc]) ∧ p2.length = n ∧ I r acc p2) ∨
       (∃ p2 y p3, tt (en.sets as) (p ++ [.lst acc]) = .ok true (p2 ++ [.lst acc]) ∧ te (en.sets as) (p2 ++ [.lst acc]) = .ok y (p3 ++ [.lst acc]) ∧ p3.length = n ∧ bel n y = true ∧ I r (acc ++ [y]) p3))) :
    ∀ (xs acc : List PV) (p : Pool), p.length = n → acc.length + xs.length ≤ big → I xs acc p → ∃ acc' p', loopC ck g tt te vs n en xs (p ++ [.lst acc]) = .ok () (p' ++ [.lst acc']) ∧ p'.length = n ∧ I [] acc' p'
  | [], acc, p, hp, _, hI => by
    refine ⟨acc, p, ?_, hp, hI⟩
    unfold loopC
    rw [if_pos (hck [] acc p hp hI)]
  | x :: xs, acc, p, hp, hl, hI => by
    obtain ⟨as, eg, ea, ht⟩ := h x xs acc p hp hI
    rw [List.length_cons] at hl
    unfold loopC
    rw [if_pos (hck _ acc p hp hI), eg]
    dsimp only
    rw [if_pos ea]
    rcases ht with ⟨p2, t1, e2, I2⟩ | ⟨p2, y, p3, t1, t2, e3, hb, I3⟩
    · rw [t1]
      dsimp only [Res.bind]
      subst e2
      rw [if_neg Bool.false_ne_true, take_all1]
      exact loopC_inv I hck h xs acc p2 rfl (by omega) I2
    · rw [t1]
      dsimp only [Res.bind]
      rw [if_pos rfl, t2]
      dsimp only [Res.bind]
      subst e3
      rw [get_last]
      dsimp only
      rw [if_pos ⟨hb, by omega⟩, take_all1, set_last]
      exact loopC_inv I hck h xs (acc ++ [y]) p3 rfl (by rw [List.length_append, List.length_singleton]; omega) I3
theorem mLc_inv {it : M It0} {g : T1} {tt : M Bool} {te : M PV} {vs : List Nat} {en : En} {p p1 : Pool} {z : It0} (I : List PV → List PV → Pool → Prop) (hi : it en p = .ok z p1) (hck : ∀ r acc q, q.length = p1.length → I r acc q → z.ck (q ++ [.lst acc]) = true)
    (h : ∀ x r acc q, q.length = p1.length → I (x :: r) acc q → ∃ as : As, g x = some as ∧ as.all (fun a => vs.elem a.1) = true ∧
      ((∃ p2, tt (En.sets ⟨p1.length + 1, wipeE en.sl vs⟩ as) (q ++ [.lst acc]) = .ok false (p2 ++ [.lst acc]) ∧ p2.length = p1.length ∧ I r acc p2) ∨
       (∃ p2 y p3, tt (En.sets ⟨p1.length + 1, wipeE en.sl vs⟩ as) (q ++ [.lst acc]) = .ok true (p2 ++ [.lst acc]) ∧ te (En.sets ⟨p1.length + 1, wipeE en.sl vs⟩ as) (p2 ++ [.lst acc]) = .ok y (p3 ++ [.lst acc]) ∧ p3.length = p1.length ∧ bel p1.length y = true ∧ I r (acc ++ [y]) p3)))
    (hl : z.xs.length ≤ big) (h0 : I z.xs [] p1) : ∃ acc p', mLc it g tt te vs en p = .ok (.lst acc) p' ∧ p'.length = p1.length ∧ I [] acc p' := by
  obtain ⟨acc, p', e, hp, hI⟩ := loopC_inv I hck h z.xs [] p1 rfl (by rw [List.length_nil]; omega) h0
  refine ⟨acc, p', ?_, hp, hI⟩
  unfold mLc
  rw [hi]
  dsimp only [Res.bind]
  rw [e]
  dsimp only
  rw [← hp, get_last]
  dsimp only
  rw [take_last]
/-! ### loops -/
theorem loopF_inv {ck : Pool → Bool} {g : T1} {body : S} (I : List PV → En → Pool → Prop) (hck : ∀ r en p, I r en p → ck p = true) (h : ∀ x r en p, I (x :: r) en p → ∃ as en2 p2, g x = some as ∧ body (en.sets as) p = .next en2 p2 ∧ I r en2 p2) :
    ∀ (xs : List PV) (en : En) (p : Pool), I xs en p → ∃ en2 p2, loopF ck g body xs en p = .next en2 p2 ∧ I [] en2 p2
  | [], en, p, hI => ⟨en, p, by unfold loopF; rw [if_pos (hck _ _ _ hI)], hI⟩
  | x :: xs, en, p, hI => by
    obtain ⟨as, en2, p2, eg, eb, h2⟩ := h x xs en p hI
    obtain ⟨en3, p3, e3, h3⟩ := loopF_inv I hck h xs en2 p2 h2
    refine ⟨en3, p3, ?_, h3⟩
    unfold loopF
    rw [if_pos (hck _ _ _ hI), eg]
    dsimp only
    rw [eb]
    exact e3
theorem sFor_inv {it : M It0} {g : T1} {body : S} {en : En} {p p1 : Pool} {z : It0} (I : List PV → En → Pool → Prop) (hi : it en p = .ok z p1) (hck : ∀ r en p, I r en p → z.ck p = true) (h : ∀ x r en p, I (x :: r) en p → ∃ as en2 p2, g x = some as ∧ body (en.sets as) p = .next en2 p2 ∧ I r en2 p2) (h0 : I z.xs en p1) :
    ∃ en2 p2, sFor it g body en p = .next en2 p2 ∧ I [] en2 p2 := by
  obtain ⟨en2, p2, e, hI⟩ := loopF_inv I hck h z.xs en p1 h0
  refine ⟨en2, p2, ?_, hI⟩
  unfold sFor
  rw [hi]
  exact e
/-- while: μ becomes less -/
theorem loopW_inv {t : M Bool} {body : S} (I : Nat → En → Pool → Prop) (J : En → Pool → Prop) (h : ∀ n en p, I n en p → ∃ b p1, t en p = .ok b p1 ∧ ((b = false ∧ J en p1) ∨ (b = true ∧ ∃ en2 p2 m, body en p1 = .next en2 p2 ∧ m < n ∧ I m en2 p2))) :
    ∀ (f n : Nat) (en : En) (p : Pool), n < f → I n en p → ∃ en2 p2, loopW t body f en p = .next en2 p2 ∧ J en2 p2
  | 0, n, en, p, hn, _ => absurd hn (Nat.not_lt_zero n)
  | f + 1, n, en, p, hn, hI => by
    obtain ⟨b, p1, et, hb⟩ := h n en p hI
    rcases hb with ⟨rfl, hJ⟩ | ⟨rfl, en2, p2, m, eb, hm, hI2⟩
    · refine ⟨en, p1, ?_, hJ⟩
      unfold loopW
      rw [et]
      rfl
    · obtain ⟨en3, p3, e3, hJ⟩ := loopW_inv I J h f m en2 p2 (by omega) hI2
      refine ⟨en3, p3, ?_, hJ⟩
      unfold loopW
      rw [et]
      dsimp only [Res.run]
      rw [if_pos rfl, eb]
      exact e3
end R

/-! R18: loops by index -/
namespace R
open PySem L2
theorem loopF_idx {ck : Pool → Bool} {g : T1} {body : S} (I : Nat → En → Pool → Prop) (xs : List PV) (hck : ∀ j en p, I j en p → ck p = true) (h : ∀ (j : Nat) (hj : j < xs.length) en p, I j en p → ∃ as en2 p2, g xs[j] = some as ∧ body (en.sets as) p = .next en2 p2 ∧ I (j + 1) en2 p2) :
    ∀ (n j : Nat) (en : En) (p : Pool), j + n = xs.length → I j en p → ∃ en2 p2, loopF ck g body (xs.drop j) en p = .next en2 p2 ∧ I xs.length en2 p2
  | 0, j, en, p, e, hI => by
    have e : j = xs.length := by omega
    subst e
    refine ⟨en, p, ?_, hI⟩
    rw [List.drop_length]
    unfold loopF
    rw [if_pos (hck _ _ _ hI)]
  | n + 1, j, en, p, e, hI => by
    have hj : j < xs.length := by omega
    obtain ⟨as, en2, p2, eg, eb, h2⟩ := h j hj en p hI
    obtain ⟨en3, p3, e3, h3⟩ := loopF_idx I xs hck h n (j + 1) en2 p2 (by omega) h2
    refine ⟨en3, p3, ?_, h3⟩
    rw [List.drop_eq_getElem_cons hj]
    unfold loopF
    rw [if_pos (hck _ _ _ hI), eg]
    dsimp only
    rw [eb]
    exact e3
theorem sFor_idx {it : M It0} {g : T1} {body : S} {en : En} {p p1 : Pool} {z : It0} (I : Nat → En → Pool → Prop) (hi : it en p = .ok z p1) (hck : ∀ j en p, I j en p → z.ck p = true) (h : ∀ (j : Nat) (hj : j < z.xs.length) en p, I j en p → ∃ as en2 p2, g z.xs[j] = some as ∧ body (en.sets as) p = .next en2 p2 ∧ I (j + 1) en2 p2) (h0 : I 0 en p1) :
    ∃ en2 p2, sFor it g body en p = .next en2 p2 ∧ I z.xs.length en2 p2 := by
  obtain ⟨en2, p2, e, hI⟩ := loopF_idx I z.xs hck h z.xs.length 0 en p1 (by omega) h0
  refine ⟨en2, p2, ?_, hI⟩
  unfold sFor
  rw [hi]
  exact e
theorem itR1_ok {a : M (List PV)} {en : En} {p p1 : Pool} {n : Nat} (ha : a en p = .ok [.int n] p1) (hn : n ≤ big) : itR1 a en p = .ok ⟨rng 0 n, noCk⟩ p1 := by
  have h2 : n < 2 ^ 62 := by
    have h3 : big ≤ 2 ^ 61 := by unfold big; omega
    omega
  have h1 : -(2 ^ 62) ≤ (n : Int) ∧ (n : Int) < 2 ^ 62 := ⟨by omega, by omega⟩
  have e : itR1 a en p = if -(2 ^ 62) ≤ (n : Int) ∧ (n : Int) < 2 ^ 62 then .ok ⟨rng 0 (n : Int).toNat, noCk⟩ p1 else .stuck := by
    simp only [itR1, ha, Res.bind]
  rw [e, if_pos h1, Int.toNat_natCast]
theorem rng_len (lo : Int) (n : Nat) : (rng lo n).length = n := by
  unfold rng
  rw [List.length_map, List.length_range]
theorem rng_get (n j : Nat) (h : j < (rng 0 n).length) : (rng 0 n)[j] = .int j := by
  have h' : j < n := by rw [rng_len] at h; exact h
  have e : (rng 0 n)[j]? = some (.int j) := by
    unfold rng
    rw [List.getElem?_map, List.getElem?_range h']
    show some (PV.int (0 + (j : Int))) = _
    rw [Int.zero_add]
  exact (List.getElem?_eq_some_iff.mp e).2
/-- for i in range(n) -/
theorem sFor_range {a : M (List PV)} {i : Nat} {body : S} {en : En} {p p1 : Pool} {n : Nat} (I : Nat → En → Pool → Prop) (ha : a en p = .ok [.int n] p1) (hn : n ≤ big) (h : ∀ (j : Nat) en p, j < n → I j en p → ∃ en2 p2, body (en.set i (.int j)) p = .next en2 p2 ∧ I (j + 1) en2 p2) (h0 : I 0 en p1) :
    ∃ en2 p2, sFor (itR1 a) (tgN i) body en p = .next en2 p2 ∧ I n en2 p2 := by
  obtain ⟨en2, p2, e, hI⟩ := sFor_idx (it := itR1 a) (g := tgN i) (body := body) I (itR1_ok ha hn) (fun _ _ _ _ => rfl) (fun j hj en p hI => by
    have hj' : j < n := by rw [rng_len] at hj; exact hj
    obtain ⟨en2, p2, e, h2⟩ := h j en p hj' hI
    exact ⟨[(i, .int j)], en2, p2, by rw [rng_get n j hj]; rfl, e, h2⟩) h0
  refine ⟨en2, p2, e, ?_⟩
  rw [rng_len] at hI
  exact hI
end R

/-! R19: the sum of a tuple -/
namespace R
open PySem L2
open PySem.Spec PySem.Calls PyProof.Rows PyProof.V
section
variable {prog : Program} {w : World} {A : Around} {E : Value → Shared → Prop} {s : Shared} {l : Addr} {its : List Value} {ns : List Int} {Q : Value → Shared → Prop}
theorem sum_rawT (hh : A.handled = none) (hl : s.heap.IsTuple l its.toArray) (hi : IntsAre its ns)
    (h : ∀ h' tk t', (∀ b o, s.heap.get? b = some o → h'.get? b = some o) → Q (.int ns.sum t') { s with heap := h', toks := tk }) : wpAny (model prog w) A (call (.builtin "sum") [.ref l]) Q E s := by
  obtain ⟨xs, e⟩ := hi.allInts.items
  have hn : numsOf (intItems xs).toList = ns := by rw [← e]; exact hi.numsOf
  rw [nums_intItems] at hn
  rw [e] at hl
  refine PySem.W.ktm_sumG hh hl fun h' tk t' hk => ?_
  have := h h' tk t' hk
  rw [preSum_eq, List.take_of_length_le (by simp), hn]; exact this
end
section
variable {X : Cx} {C : Cn}
def rSumT (K : PySem.W.Frag) : List V → Hp → VK → Prop := fun vs H Q => ∃ (a : Addr) (ns : List Int), vs = [V.ref a] ∧ SqT K H a (ns.map V.int) ∧ Q (.int ns.sum) H
theorem cr_sumT (hc : X.calm = true) : CallR X (.builtin "sum") (rSumT X.K) := by
  intro pins s σ H vs us Q I r h
  obtain ⟨a, ns, rfl, hs, q⟩ := h
  obtain ⟨its, rv, hl, _⟩ := I.tuple hs
  rw [Vals.ref1 r]
  exact sum_rawT (I.ok.hd hc) hl rv.ints fun h' tk t' hk => ⟨.int _, H, I.kept hk, ⟨_, rfl⟩, q⟩
/-- sum of a list or a tuple -/
def cSumA : FC := fun xs p => match xs with
  | [.tup ys] => match its ys with
    | some is => .ok (.int is.sum) p
    | none => .stuck
  | xs => cSum xs p
def rSumA (K : PySem.W.Frag) : List V → Hp → VK → Prop := fun xs H Q => rSum K xs H Q ∨ rSumT K xs H Q
theorem call_sumAU (hc : X.calm = true) (hK : X.K = C.Γ.K) : CallR X (.builtin "sum") (rSumA C.Γ.K) := hK ▸ CallR.or (cr_sum hc) (cr_sumT hc)
theorem ref_sumA : RefC C (rSumA C.Γ.K) cSumA := fun L w p H σ xs vs Q S r q => by
  unfold cSumA at q
  split at q
  · rename_i ys
    split at q
    · rename_i is e
      obtain ⟨v, rfl, rq⟩ := reps1 r
      obtain ⟨a, us, rfl, h, rr⟩ := rq
      have e2 := its_ok rr e
      subst e2
      exact .inr ⟨a, is, rfl, seqT_mono S.sub h, q.ok S rfl⟩
    · exact q.elim
  · exact .inl (ref_sum L w p H σ _ vs Q S r q)
theorem cSumA_tup (r : List Int) (p : Pool) : cSumA [.tup (r.map .int)] p = .ok (.int r.sum) p := by
  have h : ∀ r : List Int, its (r.map .int) = some r := fun r => by
    induction r with
    | nil => rfl
    | cons x r ih =>
      rw [List.map_cons]
      unfold its
      rw [ih]
  unfold cSumA
  dsimp only
  rw [h]
end
end R

/-! R20: statements and expressions one by one -/
namespace R
open PySem L2
section
variable {en en1 : En} {p p1 p2 p3 : Pool}
theorem seq_nx {a b : S} (h : a en p = .next en1 p1) : sSeq a b en p = b en1 p1 := by
  unfold sSeq
  rw [h]
  rfl
theorem seq_ret {a b : S} {x : PV} (h : a en p = .ret x p1) : sSeq a b en p = .ret x p1 := by
  unfold sSeq
  rw [h]
  rfl
theorem set_nx {m : M PV} {i : Nat} {x : PV} (h : m en p = .ok x p1) : sSet m i en p = .next (en.set i x) p1 := by
  unfold sSet
  rw [h]
  rfl
theorem asg_nx {m : M PV} {g : T1} {x : PV} {as : As} (h : m en p = .ok x p1) (hg : g x = some as) : sAsg m g en p = .next (en.sets as) p1 := by
  unfold sAsg
  rw [h]
  dsimp only [Res.run]
  rw [hg]
theorem if_t {t : M Bool} {a b : S} (h : t en p = .ok true p1) : sIf t a b en p = a en p1 := by
  unfold sIf
  rw [h]
  rfl
theorem if_f {t : M Bool} {a b : S} (h : t en p = .ok false p1) : sIf t a b en p = b en p1 := by
  unfold sIf
  rw [h]
  rfl
theorem ret_ok {m : M PV} {x : PV} (h : m en p = .ok x p1) : sRet m en p = .ret x p1 := by
  unfold sRet
  rw [h]
  rfl
theorem expr_nx {m : M PV} {x : PV} (h : m en p = .ok x p1) : sExpr m en p = .next en p1 := by
  unfold sExpr
  rw [h]
  rfl
theorem var_ok {i : Nat} {x : PV} (h : en.sl[i]? = some (some x)) : mVar i en p = .ok x p := by
  unfold mVar
  rw [h]
theorem cons_ok {a : M PV} {r : M (List PV)} {x : PV} {xs : List PV} (h1 : a en p = .ok x p1) (h2 : r en p1 = .ok xs p2) : mCons a r en p = .ok (x :: xs) p2 := by
  unfold mCons
  rw [h1]
  dsimp only [Res.bind]
  rw [h2]
theorem one_ok {a : M PV} {x : PV} (h1 : a en p = .ok x p1) : mCons a mNil en p = .ok [x] p1 := cons_ok h1 rfl
theorem two_ok {a b : M PV} {x y : PV} (h1 : a en p = .ok x p1) (h2 : b en p1 = .ok y p2) : mCons a (mCons b mNil) en p = .ok [x, y] p2 := cons_ok h1 (one_ok h2)
theorem three_ok {a b c : M PV} {x y z : PV} (h1 : a en p = .ok x p1) (h2 : b en p1 = .ok y p2) (h3 : c en p2 = .ok z p3) : mCons a (mCons b (mCons c mNil)) en p = .ok [x, y, z] p3 := cons_ok h1 (two_ok h2 h3)
theorem fn_ok {f : FnM} {ds xs : List PV} {a : M (List PV)} {r : Res PV} (h : a en p = .ok xs p1) (hf : f (xs ++ ds) p1 = r) : mFn f ds a en p = r := by
  unfold mFn
  rw [h]
  exact hf
theorem fn0_ok {f : FnM} {xs : List PV} {a : M (List PV)} {r : Res PV} (h : a en p = .ok xs p1) (hf : f xs p1 = r) : mFn f [] a en p = r := fn_ok h (by rw [List.append_nil]; exact hf)
theorem call_ok {f : FC} {xs : List PV} {a : M (List PV)} {r : Res PV} (h : a en p = .ok xs p1) (hf : f xs p1 = r) : mCall f a en p = r := by
  unfold mCall
  rw [h]
  exact hf
theorem bin_ok {f : F2} {a b : M PV} {x y : PV} {r : Res PV} (h1 : a en p = .ok x p1) (h2 : b en p1 = .ok y p2) (hf : f x y p2 = r) : mBin f a b en p = r := by
  unfold mBin
  rw [h1]
  dsimp only [Res.bind]
  rw [h2]
  exact hf
theorem tup_ok {xs : List PV} {a : M (List PV)} (h : a en p = .ok xs p1) : mTup a en p = .ok (.tup xs) p1 := by
  unfold mTup
  rw [h]
  rfl
theorem b_ok {m : M PV} {b : Bool} (h : m en p = .ok (.bl b) p1) : mB m en p = .ok b p1 := by
  unfold mB
  rw [h]
  rfl
theorem pIx_nat {x : PV} {xs : List PV} {i : Nat} {y : PV} (h : getQ p x = some xs) (e : xs[i]? = some y) : pIx x (.int (i : Int)) p = .ok y p := by
  unfold pIx
  dsimp only
  rw [h]
  dsimp only
  rw [atI_nat, e]
theorem pIx_int {x : PV} {xs : List PV} {i : Int} {y : PV} (h : getQ p x = some xs) (e : atI xs i = some y) : pIx x (.int i) p = .ok y p := by
  unfold pIx
  dsimp only
  rw [h]
  dsimp only
  rw [e]
theorem may_eq (n : Nat) (x : PV) : may n n x = true := may_le (Nat.le_refl n)
theorem mayL_le {b k : Nat} {xs : List PV} (h : b ≤ k) : mayL b k xs = true := by
  unfold mayL
  rw [decide_eq_true h, Bool.true_or]
theorem mayL_bels {b k : Nat} {xs : List PV} (h : bels 0 xs = true) : mayL b k xs = true := by
  unfold mayL
  rw [h, Bool.or_true]
/-- xs.append(y) -/
theorem app_ok {o a : M PV} {k : Nat} {xs0 xs : List PV} {y : PV} (h1 : o en p = .ok (.own k) p1) (h2 : p1[k]? = some (.lst xs0)) (ha : a en p1 = .ok y p2) (h3 : p2[k]? = some (.lst xs)) (hm : mayL en.b k (xs ++ [y]) = true) (hl : xs.length < big) :
    mMet fAppend o (mCons a mNil) en p = .ok .non (p2.set k (.lst (xs ++ [y]))) := by
  have hl2 : (xs ++ [y]).length ≤ big := by rw [List.length_append, List.length_singleton]; exact hl
  have e2 := one_ok ha
  unfold mMet
  rw [h1]
  dsimp only [Res.bind]
  rw [h2]
  dsimp only
  rw [e2]
  dsimp only [Res.bind]
  rw [h3]
  dsimp only [fAppend]
  rw [if_pos ⟨hm, hl2⟩]
theorem app_nx {i : Nat} {a : M PV} {k : Nat} {xs0 xs : List PV} {y : PV} (h1 : en.sl[i]? = some (some (.own k))) (h2 : p[k]? = some (.lst xs0)) (ha : a en p = .ok y p2) (h3 : p2[k]? = some (.lst xs)) (hm : mayL en.b k (xs ++ [y]) = true) (hl : xs.length < big) :
    sExpr (mMet fAppend (mVar i) (mCons a mNil)) en p = .next en (p2.set k (.lst (xs ++ [y]))) := expr_nx (app_ok (var_ok h1) h2 ha h3 hm hl)
/-- xs[i] = y -/
theorem ix_nx {o i a : M PV} {k n : Nat} {xs : List PV} {y : PV} (ha : a en p = .ok y p1) (ho : o en p1 = .ok (.own k) p2) (hi : i en p2 = .ok (.int n) p3) (hk : p3[k]? = some (.lst xs)) (hn : n < xs.length) (hm : may en.b k y = true) :
    sIx o i a en p = .next en (p3.set k (.lst (xs.set n y))) := by
  unfold sIx
  rw [ha]
  dsimp only [Res.run]
  rw [ho]
  dsimp only [Res.run]
  rw [hi]
  dsimp only [Res.run]
  rw [hk]
  dsimp only
  rw [ixN_nat hn]
  dsimp only
  rw [if_pos hm]
/-- a step of a loop -/
theorem for_nx {ck : Pool → Bool} {g : T1} {body : S} {x : PV} {xs : List PV} {as : As} (hc : ck p = true) (hg : g x = some as) (h : body (en.sets as) p = .next en1 p1) : loopF ck g body (x :: xs) en p = loopF ck g body xs en1 p1 := by
  rw [loopF]
  dsimp only
  rw [if_pos hc, hg]
  dsimp only
  rw [h]
theorem for_end {ck : Pool → Bool} {g : T1} {body : S} (hc : ck p = true) : loopF ck g body [] en p = .next en p := by
  rw [loopF]
  dsimp only
  rw [if_pos hc]
theorem sFor_ok {it : M It0} {g : T1} {body : S} {z : It0} {r : Ctl} (hi : it en p = .ok z p1) (h : loopF z.ck g body z.xs en p1 = r) : sFor it g body en p = r := by
  unfold sFor
  rw [hi]
  exact h
theorem itS_ok {m : M PV} {x : PV} {xs : List PV} (h : m en p = .ok x p1) (e : getZ x = some xs) (hx : ∀ k, x ≠ .own k) : itS m en p = .ok ⟨xs, noCk⟩ p1 := by
  unfold itS
  rw [h]
  dsimp only [Res.bind]
  cases x with
  | own k => exact absurd rfl (hx k)
  | _ =>
    dsimp only
    rw [e]
theorem itS_lst {m : M PV} {xs : List PV} (h : m en p = .ok (.lst xs) p1) : itS m en p = .ok ⟨xs, noCk⟩ p1 := itS_ok h rfl (fun _ z => nomatch z)
theorem itS_tup {m : M PV} {xs : List PV} (h : m en p = .ok (.tup xs) p1) : itS m en p = .ok ⟨xs, noCk⟩ p1 := itS_ok h rfl (fun _ z => nomatch z)
theorem itEA_lst {m : M PV} {xs : List PV} (h : m en p = .ok (.lst xs) p1) : itEA (mCons m mNil) en p = .ok ⟨enumZ 0 xs, noCk⟩ p1 := by
  unfold itEA
  rw [one_ok h]
  rfl
theorem itEA_tup {m : M PV} {xs : List PV} (h : m en p = .ok (.tup xs) p1) : itEA (mCons m mNil) en p = .ok ⟨enumZ 0 xs, noCk⟩ p1 := by
  unfold itEA
  rw [one_ok h]
  rfl
theorem enumZ_len : ∀ (xs : List PV) (i : Nat), (enumZ i xs).length = xs.length
  | [], _ => rfl
  | x :: xs, i => by
    rw [List.length_cons]
    show (enumZ (i + 1) xs).length + 1 = _
    rw [enumZ_len xs]
theorem enumZ_at {xs : List PV} {j : Nat} (h : j < (enumZ 0 xs).length) : ∃ h2 : j < xs.length, (enumZ 0 xs)[j] = .tup [.int j, xs[j]] := by
  have h2 : j < xs.length := by rw [enumZ_len] at h; exact h
  refine ⟨h2, ?_⟩
  have e := enumZ_get xs 0 j
  rw [List.getElem?_eq_getElem h2, List.getElem?_eq_getElem h] at e
  have e2 := Option.some.inj e
  rw [e2, Nat.zero_add]
theorem fnA_ret {N : Nat} {body : R.S} {xs : List PV} {q : Pool} {x : PV} (h : body ⟨p.length, xs.map some ++ List.replicate (N - xs.length) none⟩ p = .ret x q) : fnA N body xs p = .ok x q := by
  unfold fnA
  rw [h]
/-- a plain def that leaves the cells as they were -/
theorem fnM_pure {fld : Nat → List Str} {N : Nat} {body : R.S} {xs : List PV} {x : PV} (h : body ⟨p.length, xs.map some ++ List.replicate (N - xs.length) none⟩ p = .ret x p) (t : bel 0 x = true) : fnM fld N body xs p = .ok x p := by
  rw [fnM_ret h (thaw_bel t), List.take_length]
/-- .. that has made some of its own -/
theorem fnM_cells {fld : Nat → List Str} {N : Nat} {body : R.S} {xs : List PV} {x : PV} {q r : Pool} (h : body ⟨p.length, xs.map some ++ List.replicate (N - xs.length) none⟩ p = .ret x (q ++ r)) (hq : q.length = p.length) (t : bel 0 x = true) : fnM fld N body xs p = .ok x q := by
  rw [fnM_ret h (thaw_bel t), ← hq, List.take_left]
/-- a comprehension that goes over what doesn't change, each item told by f -/
theorem mLc_all {it : M It0} {g : T1} {te : M PV} {vs : List Nat} {z : It0} (f : PV → PV) (hi : it en p = .ok z p1) (hck : ∀ acc, z.ck (p1 ++ [.lst acc]) = true)
    (h : ∀ x, x ∈ z.xs → ∃ as : As, g x = some as ∧ as.all (fun a => vs.elem a.1) = true ∧ ∀ acc, te (En.sets ⟨p1.length + 1, wipeE en.sl vs⟩ as) (p1 ++ [.lst acc]) = .ok (f x) (p1 ++ [.lst acc]) ∧ bel p1.length (f x) = true)
    (hl : z.xs.length ≤ big) : mLc it g mYes te vs en p = .ok (.lst (z.xs.map f)) p1 := by
  have e := mLc_map (it := it) (g := g) (tt := mYes) (te := te) (vs := vs) (en := en) (p := p) (p1 := p1) (z := z) (fun x => some (f x)) hi hck (fun x hx => by
    obtain ⟨as, h1, h2, h3⟩ := h x hx
    exact ⟨as, h1, h2, fun acc => ⟨rfl, fun y hy => by
      cases hy
      exact h3 acc⟩⟩) hl
  rw [e]
  congr 2
  exact congrFun List.filterMap_eq_map _
end
/-! ### what is equal to itself -/
theorem eqV_int (a : Int) : eqV (.int a) (.int a) = true := by simp [eqV]
theorem eqv_int (n : Nat) (a : Int) : eqv n (.int a) (.int a) = some true := by
  have h : eqS (.int a) (.int a) = some true := by
    show some (eqV (.int a) (.int a)) = _
    rw [eqV_int]
  cases n with
  | zero => exact h
  | succ n => exact h
theorem eqT_self {f : PV → PV → Option Bool} : ∀ {xs : List PV}, (∀ x ∈ xs, f x x = some true) → eqT f xs xs = some true
  | [], _ => rfl
  | x :: xs, h => by
    unfold eqT
    rw [h x List.mem_cons_self]
    exact eqT_self fun y hy => h y (List.mem_cons_of_mem _ hy)
theorem eqv_tup {n : Nat} {xs : List PV} (h : ∀ x ∈ xs, eqv n x x = some true) : eqv (n + 1) (.tup xs) (.tup xs) = some true := eqT_self h
theorem eqv_lst {n : Nat} {xs : List PV} (h : ∀ x ∈ xs, eqv n x x = some true) : eqv (n + 1) (.lst xs) (.lst xs) = some true := by
  show (if xs.length = xs.length then eqT (eqv n) xs xs else some false) = _
  rw [if_pos rfl]
  exact eqT_self h
theorem eqv_obj (n : Nat) (a b : Int) : eqv (n + 1) (.obj 0 [.int a, .int b]) (.obj 0 [.int a, .int b]) = some true := by
  show (if (0 : Nat) = 0 ∧ (0 : Nat) = 0 then some (decide (a = a) && decide (b = b)) else none) = _
  rw [if_pos ⟨rfl, rfl⟩]
  simp
theorem eqv_ints {n : Nat} {xs : List Int} : ∀ x ∈ xs.map PV.int, eqv n x x = some true := fun x hx => by
  obtain ⟨a, _, rfl⟩ := List.mem_map.mp hx
  exact eqv_int n a
section
variable {p : Pool} {fld : Nat → List Str}
theorem pTr_eq {n : Nat} {x : PV} (b : bel 0 x = true) (t : R.top x = true) (h : eqv n x x = some true) : pTr fld (eqvN .Eq n) x x p = .ok (.bl true) p := by
  have e : eqvN .Eq n x x = some true := by
    unfold eqvN
    rw [if_pos ⟨t, t⟩, h]
    rfl
  unfold pTr
  rw [thaw_bel b]
  dsimp only
  rw [e]
theorem pTr_ne {n : Nat} {x : PV} (b : bel 0 x = true) (t : R.top x = true) (h : eqv n x x = some true) : pTr fld (eqvN .NotEq n) x x p = .ok (.bl false) p := by
  have e : eqvN .NotEq n x x = some false := by
    unfold eqvN
    rw [if_pos ⟨t, t⟩, h]
    rfl
  unfold pTr
  rw [thaw_bel b]
  dsimp only
  rw [e]
theorem bls_true {α : Type} : ∀ xs : List α, bls (xs.map fun _ => PV.bl true) = some (xs.map fun _ => true)
  | [] => rfl
  | _ :: xs => by
    rw [List.map_cons]
    unfold bls
    rw [bls_true xs]
    rfl
theorem bls_false {α : Type} : ∀ xs : List α, bls (xs.map fun _ => PV.bl false) = some (xs.map fun _ => false)
  | [] => rfl
  | _ :: xs => by
    rw [List.map_cons]
    unfold bls
    rw [bls_false xs]
    rfl
theorem cAll_true {α : Type} (xs : List α) : cAll [.lst (xs.map fun _ => PV.bl true)] p = .ok (.bl true) p := by
  have e : (xs.map fun _ => true).all id = true := by simp
  unfold cAll cFold
  dsimp only [getL]
  rw [bls_true]
  dsimp only
  rw [e]
theorem cAny_false {α : Type} (xs : List α) : cAny [.lst (xs.map fun _ => PV.bl false)] p = .ok (.bl false) p := by
  have e : (xs.map fun _ => false).any id = false := by simp
  unfold cAny cFold
  dsimp only [getL]
  rw [bls_false]
  dsimp only
  rw [e]
theorem its_ints : ∀ r : List Int, R.its (r.map .int) = some r
  | [] => rfl
  | x :: r => by
    rw [List.map_cons]
    unfold R.its
    rw [its_ints r]
theorem isUp_of : ∀ {l : List Int}, l.Pairwise (· ≤ ·) → isUp l = true
  | [], _ => rfl
  | [a], _ => rfl
  | a :: b :: r, h => by
    unfold isUp
    rw [decide_eq_true ((List.pairwise_cons.mp h).1 b List.mem_cons_self), isUp_of (List.pairwise_cons.mp h).2]
    rfl
theorem cSortUp_ok {ns : List Int} (h : ns.Pairwise (· ≤ ·)) : cSortUp [.lst (ns.map .int)] p = .ok (.lst (ns.map .int)) p := by
  unfold cSortUp
  dsimp only [getR, getL]
  rw [its_ints]
  dsimp only
  rw [if_pos (isUp_of h)]
theorem thaw_tup2 {n : Nat} {a b a' b' : PV} (h1 : thaw fld n p a = some a') (h2 : thaw fld n p b = some b') : thaw fld n p (.tup [a, b]) = some (.tup [a', b']) := by
  have g1 : sub (thw fld n p deep) a = some a' := h1
  have g2 : sub (thw fld n p deep) b = some b' := h2
  show (match subs (thw fld n p deep) [a, b] with | some ys => some (PV.tup ys) | none => none) = _
  rw [subs, g1]
  dsimp only
  rw [subs, g2]
  rfl
theorem thaw_tup3 {n : Nat} {a b c a' b' c' : PV} (h1 : thaw fld n p a = some a') (h2 : thaw fld n p b = some b') (h3 : thaw fld n p c = some c') : thaw fld n p (.tup [a, b, c]) = some (.tup [a', b', c']) := by
  have g1 : sub (thw fld n p deep) a = some a' := h1
  have g2 : sub (thw fld n p deep) b = some b' := h2
  have g3 : sub (thw fld n p deep) c = some c' := h3
  show (match subs (thw fld n p deep) [a, b, c] with | some ys => some (PV.tup ys) | none => none) = _
  rw [subs, g1]
  dsimp only
  rw [subs, g2]
  dsimp only
  rw [subs, g3]
  rfl
end
section
variable {en en1 : En} {p p1 p2 p3 : Pool}
theorem not_ok {t : M Bool} {b : Bool} (h : t en p = .ok b p1) : mNot t en p = .ok (!b) p1 := by
  unfold mNot
  rw [h]
  rfl
theorem not_t {t : M Bool} (h : t en p = .ok true p1) : mNot t en p = .ok false p1 := not_ok h
theorem not_f {t : M Bool} (h : t en p = .ok false p1) : mNot t en p = .ok true p1 := not_ok h
theorem or_f {a b : M Bool} (h : a en p = .ok false p1) : mOr a b en p = b en p1 := by
  unfold mOr
  rw [h]
  rfl
theorem or_t {a b : M Bool} (h : a en p = .ok true p1) : mOr a b en p = .ok true p1 := by
  unfold mOr
  rw [h]
  rfl
theorem and_t {a b : M Bool} (h : a en p = .ok true p1) : mAnd a b en p = b en p1 := by
  unfold mAnd
  rw [h]
  rfl
theorem and_f {a b : M Bool} (h : a en p = .ok false p1) : mAnd a b en p = .ok false p1 := by
  unfold mAnd
  rw [h]
  rfl
theorem andV_t {a b : M PV} (h : a en p = .ok (.bl true) p1) : mAndV a b en p = b en p1 := by
  unfold mAndV
  rw [h]
  rfl
theorem andV_f {a b : M PV} (h : a en p = .ok (.bl false) p1) : mAndV a b en p = .ok (.bl false) p1 := by
  unfold mAndV
  rw [h]
  rfl
theorem notV_ok {a : M PV} {b : Bool} (h : a en p = .ok (.bl b) p1) : mNotV a en p = .ok (.bl (!b)) p1 := by
  unfold mNotV
  rw [h]
  rfl
theorem isi_ok {n : Nat} {T t : Ty} {a : M PV} {x : PV} (h : a en p = .ok x p1) (e : tyP n p1 x = some t) : mIsi n T a en p = .ok (.bl (isT T t)) p1 := by
  unfold mIsi
  rw [h]
  dsimp only [Res.bind]
  rw [e]
theorem getF_ok {c i : Nat} {a : M PV} {x y : PV} (h : a en p = .ok x p1) (e : getF c i p1 x = some y) : mFld c i a en p = .ok y p1 := by
  unfold mFld
  rw [h]
  dsimp only [Res.bind]
  rw [e]
theorem cnt_ok {o a : M PV} {ns : List Int} {k : Int} (h1 : o en p = .ok (.lst (ns.map .int)) p1) (h2 : a en p1 = .ok (.int k) p2) : mCnt o (mCons a mNil) en p = .ok (.int ((ns.count k : Nat) : Int)) p2 := by
  unfold mCnt
  rw [h1]
  dsimp only [Res.bind, getR, getL]
  rw [one_ok h2]
  dsimp only [Res.bind, getR, getL]
  rw [its_ints]
theorem if_ok {α : Type} {t : M Bool} {a b : M α} {v : Bool} (h : t en p = .ok v p1) : mIf t a b en p = if v = true then a en p1 else b en p1 := by
  unfold mIf
  rw [h]
  rfl
theorem fld_nx {c i k : Nat} {o a : M PV} {y : PV} {cell cell' : Cell} (ha : a en p = .ok y p1) (ho : o en p1 = .ok (.own k) p2) (hm : may en.b k y = true) (hk : p2[k]? = some cell) (hc : putC c i y cell = some cell') : sFld c i o a en p = .next en (p2.set k cell') := by
  unfold sFld
  rw [ha]
  dsimp only [Res.run]
  rw [ho]
  dsimp only [Res.run]
  rw [if_pos hm, hk]
  dsimp only
  rw [hc]
theorem ice_nx {i k : Nat} {xs : List PV} (h : en.sl[i]? = some (some (.own k))) (hk : p[k]? = some (.lst xs)) (hb : bels 0 xs = true) : sIce i en p = .next (en.set i (.lst xs)) (p.set k .dead) := by
  unfold sIce
  rw [h]
  dsimp only
  rw [hk]
  dsimp only
  rw [if_pos hb]
theorem iniM_ok {fld : Nat → List Str} {c N : Nat} {body : R.S} {xs : List PV} {q : Pool} {y : PV} {en : En} (h : body ⟨p.length, some (.own p.length) :: (xs.map some ++ List.replicate (N - (xs.length + 1)) none)⟩ (p ++ [.obj c []]) = .next en q) (t : thaw fld p.length q (.own p.length) = some y) : iniM fld c N body xs p = .ok y (q.take p.length) := by
  unfold iniM
  rw [h]
  dsimp only
  rw [t]
theorem len_ok {a : M PV} {x : PV} {xs : List PV} (h : a en p = .ok x p1) (e : getQ p1 x = some xs) : mCall cLen (mCons a mNil) en p = .ok (.int xs.length) p1 := call_ok (one_ok h) (by
  show (match getQ p1 x with | some ys => Res.ok (PV.int ys.length) p1 | none => .stuck) = _
  rw [e])
theorem lt_ok {a b : M PV} {x y : Int} (h1 : a en p = .ok (.int x) p1) (h2 : b en p1 = .ok (.int y) p2) : mBin pLt a b en p = .ok (.bl (decide (x < y))) p2 := bin_ok h1 h2 rfl
theorem gt_ok {a b : M PV} {x y : Int} (h1 : a en p = .ok (.int x) p1) (h2 : b en p1 = .ok (.int y) p2) : mBin pGt a b en p = .ok (.bl (decide (y < x))) p2 := bin_ok h1 h2 rfl
theorem ge_ok {a b : M PV} {x y : Int} (h1 : a en p = .ok (.int x) p1) (h2 : b en p1 = .ok (.int y) p2) : mBin pGe a b en p = .ok (.bl (decide (y ≤ x))) p2 := bin_ok h1 h2 rfl
theorem eq_ok {a b : M PV} {x y : Int} (h1 : a en p = .ok (.int x) p1) (h2 : b en p1 = .ok (.int y) p2) : mBin pEq a b en p = .ok (.bl (decide (x = y))) p2 := bin_ok h1 h2 (pEq_int x y p2)
theorem ne_ok {a b : M PV} {x y : Int} (h1 : a en p = .ok (.int x) p1) (h2 : b en p1 = .ok (.int y) p2) : mBin pNe a b en p = .ok (.bl (!decide (x = y))) p2 := bin_ok h1 h2 (pNe_int x y p2)
theorem add_ok {a b : M PV} {x y : Int} (h1 : a en p = .ok (.int x) p1) (h2 : b en p1 = .ok (.int y) p2) : mBin pAdd a b en p = .ok (.int (x + y)) p2 := bin_ok h1 h2 rfl
theorem sub_ok {a b : M PV} {x y : Int} (h1 : a en p = .ok (.int x) p1) (h2 : b en p1 = .ok (.int y) p2) : mBin pSub a b en p = .ok (.int (x - y)) p2 := bin_ok h1 h2 rfl
theorem at_ok {a b : M PV} {x y : PV} {xs : List PV} {i : Nat} (h1 : a en p = .ok x p1) (h2 : b en p1 = .ok (.int (i : Int)) p2) (h : getQ p2 x = some xs) (e : xs[i]? = some y) : mBin pIx a b en p = .ok y p2 := bin_ok h1 h2 (pIx_nat h e)
theorem lt_yes {a b : M PV} {x y : Int} (h1 : a en p = .ok (.int x) p1) (h2 : b en p1 = .ok (.int y) p2) (h : x < y) : mBin pLt a b en p = .ok (.bl true) p2 := by
  rw [lt_ok h1 h2, decide_eq_true h]
theorem lt_no {a b : M PV} {x y : Int} (h1 : a en p = .ok (.int x) p1) (h2 : b en p1 = .ok (.int y) p2) (h : ¬ x < y) : mBin pLt a b en p = .ok (.bl false) p2 := by
  rw [lt_ok h1 h2, decide_eq_false h]
theorem gt_yes {a b : M PV} {x y : Int} (h1 : a en p = .ok (.int x) p1) (h2 : b en p1 = .ok (.int y) p2) (h : y < x) : mBin pGt a b en p = .ok (.bl true) p2 := by
  rw [gt_ok h1 h2, decide_eq_true h]
theorem gt_no {a b : M PV} {x y : Int} (h1 : a en p = .ok (.int x) p1) (h2 : b en p1 = .ok (.int y) p2) (h : ¬ y < x) : mBin pGt a b en p = .ok (.bl false) p2 := by
  rw [gt_ok h1 h2, decide_eq_false h]
theorem ge_yes {a b : M PV} {x y : Int} (h1 : a en p = .ok (.int x) p1) (h2 : b en p1 = .ok (.int y) p2) (h : y ≤ x) : mBin pGe a b en p = .ok (.bl true) p2 := by
  rw [ge_ok h1 h2, decide_eq_true h]
theorem ge_no {a b : M PV} {x y : Int} (h1 : a en p = .ok (.int x) p1) (h2 : b en p1 = .ok (.int y) p2) (h : ¬ y ≤ x) : mBin pGe a b en p = .ok (.bl false) p2 := by
  rw [ge_ok h1 h2, decide_eq_false h]
theorem eq_yes {a b : M PV} {x y : Int} (h1 : a en p = .ok (.int x) p1) (h2 : b en p1 = .ok (.int y) p2) (h : x = y) : mBin pEq a b en p = .ok (.bl true) p2 := by
  rw [eq_ok h1 h2, decide_eq_true h]
theorem eq_no {a b : M PV} {x y : Int} (h1 : a en p = .ok (.int x) p1) (h2 : b en p1 = .ok (.int y) p2) (h : ¬ x = y) : mBin pEq a b en p = .ok (.bl false) p2 := by
  rw [eq_ok h1 h2, decide_eq_false h]
theorem ne_no {a b : M PV} {x y : Int} (h1 : a en p = .ok (.int x) p1) (h2 : b en p1 = .ok (.int y) p2) (h : x = y) : mBin pNe a b en p = .ok (.bl false) p2 := by
  rw [ne_ok h1 h2, decide_eq_true h]
  rfl
theorem ne_yes {a b : M PV} {x y : Int} (h1 : a en p = .ok (.int x) p1) (h2 : b en p1 = .ok (.int y) p2) (h : ¬ x = y) : mBin pNe a b en p = .ok (.bl true) p2 := by
  rw [ne_ok h1 h2, decide_eq_false h]
  rfl
theorem bels_ints (n : Nat) (r : List Int) : bels n (r.map PV.int) = true := bels_iff.mpr fun y hy => by
  obtain ⟨a, _, rfl⟩ := List.mem_map.mp hy
  rfl
end
end R

/-! R21: sorted of a tuple of ints; a tuple told backwards -/
namespace R
open PySem L2
open PySem.Spec PyProof.Rows Srt SrtO HT
section
variable {prog : Program} {w : World} {A : Around} {E : Value → Shared → Prop} {s : Shared}
/-- what walking a tuple as a whole gathers -/
theorem collectT {t : Addr} {xs : List Value} {R : List Value → Shared → Prop} (ht : IsTup s.heap t xs.toArray) (hz : xs.length ≤ sizeLine)
    (k : R xs { s with heap := (s.heap.push (seqObj "list" #[] 0)).update s.heap.objs.size (Obj.mapSeq (· ++ xs.toArray)) }) : wpAny (model prog w) A (collect (.ref t)) R E s := by
  obtain ⟨ob, g0, gc, ep, gd⟩ := id ht
  have g1 : (s.heap.push (seqObj "list" #[] 0)).get? t = some ob := Heap.get?_push_of_some _ g0
  have g2 : (s.heap.push (seqObj "list" #[] 0)).get? s.heap.objs.size = some (seqObj "list" #[] 0) := Heap.get?_push_size _ rfl
  have z2 : (#[] ++ xs.toArray).size ≤ sizeLine + 1 := by
    simp only [Array.size_append, List.size_toArray, List.length_nil]
    omega
  unfold collect
  refine wpAny_bind (wpAny_runValue (codeAny_builtin entry_proto_collect' ?_)); show wpAny _ _ (do again (.builtin "list.__iadd__" ⟨[← newList [], .ref t], []⟩)) _ _ s
  refine wpAny_bind (wpAny_newList (wpAny_pure ⟨Code.quiet_builtin _ (by decide +kernel), codeAny_builtin entry_list_iadd' ?_⟩)); show wpAny _ _ (Builtin.List.listExtendWith (.ref s.heap.objs.size) (.ref t) (.ref s.heap.objs.size)) _ _ { s with heap := s.heap.push (seqObj "list" #[] 0) }
  unfold Builtin.List.listExtendWith
  refine wpAny_bind (wpAny_typeOf (T := "tuple") ⟨ob, g1, gc⟩ ?_)
  have tt : (Value.type "tuple" == Value.type "tuple") = true := rfl
  rw [if_pos (by rw [tt]; simp)]
  refine wpAny_bind (listItems_at g1 gd (wpAny_bind (listItems_at g2 rfl ?_)))
  rw [if_neg (by simp)]
  refine wpAny_bind (listUpdate_at g2 rfl ?_ (Nat.zero_le _) z2); refine wpAny_pure ?_
  show wpAny (model prog w) A (do
      let ob ← load s.heap.objs.size
      match ob.data with
      | .seq ys _ => pure ys.toList
      | _ => unsupported "internal:collect") R E _
  refine wpAny_bind (wpAny_load (get?_update_seq g2 _) ?_); show wpAny _ _ (pure ((#[] : Array Value) ++ xs.toArray).toList) R E _
  have e : ((#[] : Array Value) ++ xs.toArray).toList = xs := by simp
  rw [e]
  exact wpAny_pure k
theorem sortedT {t : Addr} {xs : List Value} {lt : Value → Value → Bool} {R : Value → Shared → Prop} (O : Swo lt) (ht : IsTup s.heap t xs.toArray) (hz : xs.length ≤ sizeLine)
    (hS : 2 ≤ xs.length → ∀ (g : Heap) (b : Addr), g.get? b = some (seqObj "list" xs.toArray 0) → (∀ c o, s.heap.get? c = some o → c ≠ b ∧ g.get? c = some o) → SortableO prog w A.in1.in1 { s with heap := g } b xs lt)
    (k : ∀ out : List Value, Srtd lt out → Stb lt out xs → R (.ref (s.heap.objs.size + 1)) { s with heap := sortedAll s.heap xs out.toArray }) : wpAny (model prog w) A (call (.builtin "sorted") [.ref t]) R E s := by
  refine Calls.call_function_entry kind_sorted plain_sorted entry_sorted (args_sorted1 _) ?_
  unfold Builtin.«sorted»
  refine wpAny_bind (m := checkCount "sorted" 1 1 _) (wpAny_pure (wpAny_bind (collectT ht hz (wpAny_bind (wpAny_newList ?_ hz)))))
  generalize eg : (s.heap.push (seqObj "list" #[] 0)).update s.heap.objs.size (Obj.mapSeq (· ++ xs.toArray)) = g
  have sz : g.objs.size = s.heap.objs.size + 1 := by rw [← eg, Heap.size_update, size_push']
  have old : ∀ c o, s.heap.get? c = some o → c < s.heap.objs.size ∧ g.get? c = some o := fun c o q => by
    have l : c < s.heap.objs.size := Heap.lt_size q
    refine ⟨l, ?_⟩
    rw [← eg, Heap.get?_update_ne _ _ _ _ (Nat.ne_of_lt l)]
    exact Heap.get?_push_of_some _ q
  have own : (g.push (seqObj "list" xs.toArray 0)).get? (s.heap.objs.size + 1) = some (seqObj "list" xs.toArray 0) := by rw [← sz]; exact Heap.get?_push_size _ rfl
  show wpAny _ _ _ _ _ { s with heap := g.push (seqObj "list" xs.toArray 0) }
  have ea : sortedAll s.heap xs = fun out => sortedHeap (g.push (seqObj "list" xs.toArray 0)) (s.heap.objs.size + 1) xs out := by rw [← eg]; rfl
  rw [ea] at k
  rw [sz]
  have keep : ∀ c o, s.heap.get? c = some o → c ≠ s.heap.objs.size + 1 ∧ (g.push (seqObj "list" xs.toArray 0)).get? c = some o := fun c o q => ⟨Nat.ne_of_lt (Nat.lt_succ_of_lt (old c o q).1), Heap.get?_push_of_some _ (old c o q).2⟩
  refine wpAny_bind (wpAny_holding (wpAny_call_entry slot_list_sort ⟨_, own, rfl⟩ entry_list_sort (list_sort_ord O own hz (fun z => hS z _ _ own keep) fun out a1 a2 => ⟨_, rfl, wpAny_pure ⟨_, rfl, k out a1 a2⟩⟩) (args_list_sort _)))
theorem intsT_sortable {a : Addr} {vs : List Value} {ns : List Int} (hI : IntsAre vs ns) (h2 : 2 ≤ vs.length) : SortableO prog w A s a vs ltIv := ints_sortable hI h2
end
section
variable {X : Cx} {C : Cn}
/-- sorted(t), a tuple of ints -/
def rSortedT (K : PySem.W.Frag) : List V → Hp → VK → Prop := fun vs H Q => ∃ (a : Addr) (ns : List Int), vs = [V.ref a] ∧ SqT K H a (ns.map V.int) ∧
  ∀ (ns' : List Int) (p : Addr), ns'.Perm ns → ns'.Pairwise (· ≤ ·) → H p = none → Q (.ref p) (upd H p (.lst (ns'.map V.int)))
theorem cr_sortedT : CallR X (.builtin "sorted") (rSortedT X.K) := by
  intro pins s σ H vs us Q I r h
  obtain ⟨a, ns, rfl, hs, q⟩ := h
  obtain ⟨xs, rv, ht, hz⟩ := I.tuple hs
  rw [Vals.ref1 r]
  have hi := rv.ints
  refine sortedT swo_int ht (by rw [← rv.length]; exact hz) (fun h2 g b _ _ => intsT_sortable hi h2) fun out o1 o2 => ?_
  obtain ⟨k1, k2, k3⟩ := ints_out hi o1 o2
  obtain ⟨ep, he⟩ := PyProof.Rows.sortedAll_at s.heap xs out.toArray
  have hn : ((out.map iv).map V.int).length ≤ sizeLine := by
    rw [List.length_map, k2.length_eq]
    rw [List.length_map] at hz
    exact hz
  have hw := I.laid (o := .lst ((out.map iv).map V.int)) (t' := s.toks) (fun _ _ => PyProof.Rows.sortedAll_old) (Nat.le_succ _) ⟨hn, out, ep, vals_of_ints k1, he⟩
  exact ⟨.ref _, _, hw, rfl, q _ _ k2 k3 (I.hok.fresh (Nat.le_succ _))⟩
/-- numbers in order -/
def insI (a : Int) : List Int → List Int
  | [] => [a]
  | b :: r => if a ≤ b then a :: b :: r else b :: insI a r
def srtI : List Int → List Int
  | [] => []
  | a :: r => insI a (srtI r)
theorem insI_perm (a : Int) : ∀ r : List Int, (insI a r).Perm (a :: r)
  | [] => List.Perm.refl _
  | b :: r => by
    unfold insI
    split
    · exact List.Perm.refl _
    · exact ((insI_perm a r).cons b).trans (List.Perm.swap a b r)
theorem insI_up (a : Int) : ∀ {r : List Int}, r.Pairwise (· ≤ ·) → (insI a r).Pairwise (· ≤ ·)
  | [], _ => List.pairwise_singleton _ _
  | b :: r, h => by
    obtain ⟨h1, h2⟩ := List.pairwise_cons.mp h
    unfold insI
    split
    · rename_i hab
      refine List.pairwise_cons.mpr ⟨fun c hc => ?_, h⟩
      rcases List.mem_cons.mp hc with rfl | hc
      · exact hab
      · exact Int.le_trans hab (h1 c hc)
    · refine List.pairwise_cons.mpr ⟨fun c hc => ?_, insI_up a h2⟩
      rcases List.mem_cons.mp ((insI_perm a r).subset hc) with rfl | hc
      · omega
      · exact h1 c hc
theorem srtI_perm : ∀ r : List Int, (srtI r).Perm r
  | [] => List.Perm.refl _
  | a :: r => (insI_perm a (srtI r)).trans ((srtI_perm r).cons a)
theorem srtI_up : ∀ r : List Int, (srtI r).Pairwise (· ≤ ·)
  | [] => List.Pairwise.nil
  | a :: r => insI_up a (srtI_up r)
/-- sorted of a list or a tuple of numbers -/
def cSortI : FC := fun xs p => match xs with
  | [x] => match getQ p x with
    | some ys => match its ys with
      | some ns => .ok (.lst ((srtI ns).map .int)) p
      | none => .stuck
    | none => .stuck
  | _ => .stuck
def rSortedU (K : PySem.W.Frag) : List V → Hp → VK → Prop := fun xs H Q => rSortedI K xs H Q ∨ rSortedT K xs H Q
theorem call_sortedU (hK : X.K = C.Γ.K) : CallR X (.builtin "sorted") (rSortedU C.Γ.K) := hK ▸ CallR.or cr_sortedI cr_sortedT
theorem ref_sortedU : RefC C (rSortedU C.Γ.K) cSortI := fun L w p H σ xs vs Q S r q => by
  unfold cSortI at q
  split at q
  · rename_i x
    obtain ⟨v, rfl, rv⟩ := reps1 r
    split at q
    · rename_i ys ey
      split at q
      · rename_i ns en
        obtain ⟨a, us, rfl, hs, ru⟩ := getQ_ok S rv ey
        have e := its_ok ru en
        subst e
        have fin : ∀ (ns' : List Int) (l : Addr), ns'.Perm ns → ns'.Pairwise (· ≤ ·) → H l = none → Q (.ref l) (upd H l (.lst (ns'.map V.int))) := fun ns' l hp hw hl => by
          rw [perm_eq (hp.trans (srtI_perm ns).symm) hw (srtI_up ns)]
          exact newLst S Reps.ints q l hl
        rcases hs with hs | hs
        · exact .inl ⟨a, ns, rfl, hs, fin⟩
        · exact .inr ⟨a, ns, rfl, hs, fin⟩
      · exact q.elim
    · exact q.elim
  · exact q.elim
end
end R

/-! R22: a tuple told backwards -/
namespace R
open PySem L2
open PySem.Spec PyProof.Rows HT
section
variable {prog : Program} {w : World} {A : Around} {E : Value → Shared → Prop} {s : Shared}
theorem back_adjust (n : Nat) : Builtin.Slice.sliceAdjust none none (-1) (n : Int) = ((n : Int) - 1, -1) := rfl
theorem back_places (n : Nat) : Builtin.Slice.slicePlaces ((n : Int) - 1) (-1) (-1) = n := by
  unfold Builtin.Slice.slicePlaces
  have h1 : ¬ ((-1 : Int) > 0) := by decide
  rw [if_neg h1]
  by_cases h : (n : Int) - 1 > -1
  · rw [if_pos h, show (-(-1) : Int) = 1 from rfl, Int.ediv_one]
    omega
  · rw [if_neg h]
    omega
theorem back_pick (xs : Array Value) : ((List.range xs.size).filterMap fun (m : Nat) => xs[((xs.size : Int) - 1 + (m : Int) * -1).toNat]?).toArray = xs.toList.reverse.toArray := by
  congr 1
  have e : (fun (m : Nat) => xs[((xs.size : Int) - 1 + (m : Int) * -1).toNat]?) = fun (m : Nat) => xs[xs.size - 1 - m]? := by
    funext m
    have z : ((xs.size : Int) - 1 + (m : Int) * -1).toNat = xs.size - 1 - m := by omega
    rw [z]
  have e2 : (fun (m : Nat) => xs[xs.size - 1 - m]?) = (fun m => xs[m]?) ∘ fun (m : Nat) => xs.size - 1 - m := rfl
  rw [e, e2, ← List.filterMap_map, PySem.W.krv_range, List.filterMap_reverse, PySem.W.krv_all]
theorem back_applied {sl : Addr} {vst : Value} {n : Nat} {R : Int × Int × Nat → Shared → Prop} (hs : s.heap.IsSliceOf sl .none .none vst) (pst : IsPart vst (some (-1)))
    (h : R ((n : Int) - 1, -1, n) s) : wpAny (model prog w) A (Builtin.Slice.sliceApplied (.ref sl) (pure (n : Int))) R E s := by
  obtain ⟨os, g, _, gd⟩ := id hs
  unfold Builtin.Slice.sliceApplied Builtin.Slice.sliceFields
  refine wpAny_bind (wpAny_bind (wpAny_field g gd (x := .none) rfl (wpAny_bind (wpAny_field g gd (x := .none) rfl (wpAny_bind (wpAny_field g gd (x := vst) rfl (wpAny_pure ?_)))))))
  refine wpAny_bind (slicePart_ pst ?_)
  show wpAny _ _ (if ((-1 : Int) == 0) = true then _ else _) _ _ s
  rw [if_neg (by decide)]
  refine wpAny_bind (slicePart_none (wpAny_bind (slicePart_none (wpAny_bind (wpAny_pure ?_)))))
  show wpAny _ _ (match Builtin.Slice.sliceAdjust none none (-1) (n : Int) with | (lo, hi) => pure (lo, (-1 : Int), Builtin.Slice.slicePlaces lo hi (-1))) _ _ s
  rw [back_adjust]
  show wpAny _ _ (pure ((n : Int) - 1, (-1 : Int), Builtin.Slice.slicePlaces ((n : Int) - 1) (-1) (-1))) _ _ s
  rw [back_places]
  exact wpAny_pure h
theorem back_item {t sl : Addr} {xs : Array Value} {vst : Value} {R : Value → Shared → Prop} (ht : IsTup s.heap t xs) (hs : s.heap.IsSliceOf sl .none .none vst) (pst : IsPart vst (some (-1)))
    (h : R (.ref s.heap.objs.size) { s with heap := s.heap.push { cls := .type "tuple", data := .seq xs.toList.reverse.toArray } }) (hz : xs.size ≤ sizeLine) : wpAny (model prog w) A (getItem (.ref t) (.ref sl)) R E s := by
  have fits : sizeOk (.seq xs.toList.reverse.toArray) := by
    show xs.toList.reverse.toArray.size ≤ sizeLine
    rw [List.size_toArray, List.length_reverse, Array.length_toList]
    exact hz
  have isS : s.TypeIs (.ref sl) "slice" := let ⟨os, g, gc, _⟩ := hs; ⟨os, g, gc⟩
  unfold getItem
  try with_reducible refine wpAny_holding ?_
  first | refine wpAny_bind (wpAny_pure ?_) | skip
  refine wpAny_bind (wpAny_sequenceKey ht.typeIs (by decide) (wpAny_bind (wpAny_callSpecial?_slot (name := Str.ofString "__getitem__") ht.typeIs PyProof.Rows.slot_tuple_getitem
    (wpAny_call_entry PyProof.Rows.slot_tuple_getitem ht.typeIs entry_tuple_getitem ?_ (args_tuple_getitem _ _)))))
  show wpAny _ _ (Builtin.Tuple.tupleItemsOf (.ref t) >>= _) _ _ s
  refine wpAny_bind (tupleItemsOf_ ht (wpAny_bind (wpAny_typeOf isS ?_)))
  rw [if_pos (by decide)]
  refine wpAny_bind (back_applied hs pst ?_)
  have no : ¬ ((((xs.size : Int) - 1) == 0 && (-1 : Int) == 1 && xs.size == xs.size) = true) := by
    intro q
    rw [Bool.and_eq_true, Bool.and_eq_true] at q
    have q1 : (-1 : Int) = 1 := eq_of_beq q.1.2
    omega
  show wpAny _ _ (if ((((xs.size : Int) - 1) == 0 && (-1 : Int) == 1 && xs.size == xs.size) = true) then _ else _) _ _ s
  rw [if_neg no, back_pick]
  first
    | exact wpAny_bind (m := Builtin.Tuple.tupleExact _) (wpAny_newObj_type (wpAny_pure ⟨_, rfl, wpAny_pure h⟩) fits)
    | exact wpAny_bind (m := Builtin.Tuple.tupleExact _) (wpAny_newObj_type (wpAny_bind (wpAny_pure (wpAny_pure ⟨_, rfl, wpAny_pure h⟩))) fits)
    | exact wpAny_bind (wpAny_bind (m := Builtin.Tuple.tupleExact _) (wpAny_newObj_type (wpAny_pure (wpAny_pure ⟨_, rfl, wpAny_pure h⟩)) fits))
    | exact wpAny_bind (wpAny_bind (m := Builtin.Tuple.tupleExact _) (wpAny_newObj_type (wpAny_pure ⟨_, rfl, wpAny_pure h⟩) fits))
end
section
variable {X : Cx} {C : Cn} {pos : Pos}
/-- xs[::-1], a list or a tuple -/
def mRevA (a : M PV) : M PV := fun en p => (a en p).bind fun x p1 => match x with
  | .tup xs => .ok (.tup xs.reverse) p1
  | x => match getR p1 x with
    | some xs => .ok (.lst xs.reverse) p1
    | none => .stuck
theorem re_revA {e : Expr} {a : M PV} {j : Nat} {p1 p2 p3 : Pos} (hK : X.K = C.Γ.K) (ha : RE X C e a) : RE X C (.Subscript e (.Slice none none (some (.UnaryOp .USub (.Constant (.int 1) j p1) p2)) p3) pos) (mRevA a) := by
  refine ⟨fun pins s σ H Q I h => ?_⟩
  have h2 : wE C a σ H (fun v H1 => (∃ (b : Addr) (vs : List V), v = .ref b ∧ SqL X.K H1 b vs ∧ ∀ q, H1 q = none → Q (.ref q) (upd H1 q (.lst vs.reverse))) ∨ ∃ (b : Addr) (vs : List V), v = .ref b ∧ SqT X.K H1 b vs ∧ ∀ q, H1 q = none → Q (.ref q) (upd H1 q (.tup vs.reverse))) := by
    obtain ⟨L, w, p, en, S, E, h⟩ := h
    refine ⟨L, w, p, en, S, E, h.bind fun x p1 w1 H1 v l1 S1 r1 h1 => ?_⟩
    split at h1
    · rename_i xs
      obtain ⟨b, vs, eb, hq, rr⟩ := r1
      exact .inr ⟨b, vs, eb, hK ▸ seqT_mono S1.sub hq, newTup S1 rr.reverse h1⟩
    · rename_i x _
      split at h1
      · rename_i xs ex
        obtain ⟨b, vs, eb, hq, rr⟩ := getR_ok S1 r1 ex
        exact .inl ⟨b, vs, eb, hK ▸ hq, newLst S1 rr.reverse h1⟩
      · exact h1.elim
  refine Subscript_ (thn (ha.run pins s σ H _ I h2) fun v s1 ⟨x, H1, I1, r1, hx⟩ => ?_)
  have step : PO X (some (.UnaryOp .USub (.Constant (.int 1) j p1) p2)) (tPart (tUn (rU fun i => V.int (-i)) (tC (.int 1)))) := po_some (pe_un un_neg pe_int)
  rcases hx with ⟨b, vs, ex, hq, q1⟩ | ⟨b, vs, ex, hq, q1⟩
  · subst ex
    cases r1
    refine wpAny_Slice ?_
    rw [evalPart_none]
    refine wpAny_pure (wpAny_pure ?_)
    refine thn (step.run pins s1 σ H1 (fun o H2 => o = some (-1) ∧ H2 = H1) I1 ⟨1, rfl, -1, rfl, rfl, rfl⟩) fun vst s2 ⟨o, H2, I2, po, eo, eH⟩ => ?_
    subst eo
    subst eH
    have I3 : Inv X pins σ H2 { s2 with heap := s2.heap.push { cls := .type "slice", data := .fields #[.none, .none, vst] } } := I2.kept (t' := s2.toks) fun b ob q => Heap.get?_push_of_some _ q
    obtain ⟨its, r, ht, hz⟩ := I3.list hq
    have hg : wpAny (model X.prog X.w) X.A (getItem (.ref b) (.ref s2.heap.objs.size)) (EP X pins σ Q) X.xe { s2 with heap := s2.heap.push { cls := .type "slice", data := .fields #[.none, .none, vst] } } := by
      refine wpAny_getItem_list_slice ht.isList (Heap.IsSliceOf.new ..) .none .none po (by decide) ?_ (by rw [List.size_toArray, ← r.length]; exact hz)
      rw [PySem.W.krv_pick]
      refine ⟨.ref _, _, I3.laid (t' := s2.toks) (o := .lst vs.reverse) (fun b ob q => Heap.get?_push_of_some _ q) (Nat.le_refl _) ?_, rfl, q1 _ (I3.hok.fresh (Nat.le_refl _))⟩
      exact ⟨by rw [List.length_reverse]; exact hz, _, 0, by simpa using r.reverse, Heap.get?_push_size _ rfl⟩
    show wpAny (model X.prog X.w) X.A (subscriptTail e (.Slice none none (some (.UnaryOp .USub (.Constant (.int 1) j p1) p2)) p3) (.ref b) (.ref s2.heap.objs.size)) (EP X pins σ Q) X.xe _
    exact tail_any (ops := [.ref b, .ref s2.heap.objs.size]) ht.isList.typeIs slot_list_getitem.lookup hg (by with_unfolding_all rfl)
  · subst ex
    cases r1
    refine wpAny_Slice ?_
    rw [evalPart_none]
    refine wpAny_pure (wpAny_pure ?_)
    refine thn (step.run pins s1 σ H1 (fun o H2 => o = some (-1) ∧ H2 = H1) I1 ⟨1, rfl, -1, rfl, rfl, rfl⟩) fun vst s2 ⟨o, H2, I2, po, eo, eH⟩ => ?_
    subst eo
    subst eH
    have I3 : Inv X pins σ H2 { s2 with heap := s2.heap.push { cls := .type "slice", data := .fields #[.none, .none, vst] } } := I2.kept (t' := s2.toks) fun b ob q => Heap.get?_push_of_some _ q
    obtain ⟨its, r, ht, hz⟩ := I3.tuple hq
    have hg : wpAny (model X.prog X.w) X.A (getItem (.ref b) (.ref s2.heap.objs.size)) (EP X pins σ Q) X.xe { s2 with heap := s2.heap.push { cls := .type "slice", data := .fields #[.none, .none, vst] } } := by
      refine back_item ht (Heap.IsSliceOf.new ..) po ?_ (by rw [List.size_toArray, ← r.length]; exact hz)
      refine ⟨.ref _, _, I3.laid (t' := s2.toks) (o := .tup vs.reverse) (fun b ob q => Heap.get?_push_of_some _ q) (Nat.le_refl _) ?_, rfl, q1 _ (I3.hok.fresh (Nat.le_refl _))⟩
      exact ⟨by rw [List.length_reverse]; exact hz, its.reverse, by simpa using r.reverse, _, Heap.get?_push_size _ rfl, rfl, 0, by simp⟩
    show wpAny (model X.prog X.w) X.A (subscriptTail e (.Slice none none (some (.UnaryOp .USub (.Constant (.int 1) j p1) p2)) p3) (.ref b) (.ref s2.heap.objs.size)) (EP X pins σ Q) X.xe _
    exact tail_any (ops := [.ref b, .ref s2.heap.objs.size]) ht.typeIs PyProof.Rows.slot_tuple_getitem.lookup hg (by with_unfolding_all rfl)
theorem revA_ok {m : M PV} {xs : List PV} {en : En} {p p1 : Pool} (h : m en p = .ok (.lst xs) p1) : mRevA m en p = .ok (.lst xs.reverse) p1 := by
  unfold mRevA
  rw [h]
  rfl
theorem revA_tup {m : M PV} {xs : List PV} {en : En} {p p1 : Pool} (h : m en p = .ok (.tup xs) p1) : mRevA m en p = .ok (.tup xs.reverse) p1 := by
  unfold mRevA
  rw [h]
  rfl
end
end R

/-! R23: zip of two tuples; list(range(n)); x[i], x[j] = a, b; len(set(t)); a number in a tuple -/
namespace R
open PySem L2 PySem.Spec PyProof.Rows
section
variable {X : Cx} {C : Cn} {pos : Pos}
/-! ### zip -/
theorem itR_zipT {Γ : Cfg} {w : Wd} {a b : Addr} {xs ys : List PV} {vs us : List V} (h : SqT Γ.K w.G a vs) (r : Reps Γ w xs vs) (k : SqT Γ.K w.G b us) (q : Reps Γ w ys us) : ItR Γ w noCk (zipZ xs ys) (RZ.ItzT Γ.K a b) := fun L w' p H l S _ i => by
  have h' : SqT Γ.K H a vs := seqT_mono (fun b o e => S.sub b o (l.1 b o e)) h
  have k' : SqT Γ.K H b us := seqT_mono (fun b o e => S.sub b o (l.1 b o e)) k
  rw [zipZ_get]
  cases e : xs[i]? with
  | none => exact ⟨fun _ => ⟨vs, us, h', k', .inl (by rw [← r.length]; exact List.getElem?_eq_none_iff.mp e)⟩, (fun _ z => nomatch z)⟩
  | some x =>
    cases f : ys[i]? with
    | none => exact ⟨fun _ => ⟨vs, us, h', k', .inr (by rw [← q.length]; exact List.getElem?_eq_none_iff.mp f)⟩, (fun _ z => nomatch z)⟩
    | some y =>
      refine ⟨(fun z => nomatch z), fun t et => ?_⟩
      have et : PV.tup [x, y] = t := Option.some.inj et
      subst et
      obtain ⟨v, ev, rv⟩ := r.get e
      obtain ⟨u, eu, ru⟩ := q.get f
      refine ⟨⟨vs, us, v, u, h', k', ev, eu⟩, fun t H' hy => ?_⟩
      obtain ⟨T, z, z2, rfl, hT, rfl, hz, hz2⟩ := hy
      have e2 : z = v := Option.some.inj ((hz vs h').symm.trans ev)
      have e3 : z2 = u := Option.some.inj ((hz2 us k').symm.trans eu)
      subst e2
      subst e3
      exact new_tup S hT (Reps.cons (rv.mono l) (Reps.cons (ru.mono l) Reps.nil))
/-- zip of two tuples, too -/
def itZU (a : M (List PV)) : M It0 := fun en p => match a en p with
  | .ok [.tup xs, .tup ys] p1 => .ok ⟨zipZ xs ys, noCk⟩ p1
  | _ => itZA a en p
theorem ri_zipU {e e2 : Expr} {m : M (List PV)} {p tpos : Pos} {elts : List Expr} {kk : Nat} (hK : X.K = C.Γ.K) (hg : Gl X "zip") (hm : X.mg "zip" = none) (ha : RA X C [e, e2] m) (hs : starEach [e, e2] X.env = (false, eval e X.env) :: starEach [e2] X.env := by rfl) (hs2 : ((backTo pos (starEach [e2] X.env)).any fun x => x.1) = false := by rfl) :
    RI X C (.Tuple elts kk tpos) (.Call (.Name "zip" p) [e, e2] [] pos) (itZU m) := PI.imp (PI.or (ri_zipA hK hg hm ha hs hs2) (RZ.pi_zipA hg hm ha.pa hs hs2)) fun σ H R ⟨L, w, p, en, S, E, h⟩ => by
  unfold itZU at h
  split at h
  · rename_i xs ys p1 ea
    refine .inr ⟨L, w, p, en, S, E, ?_⟩
    rw [ea]
    intro w1 H1 vs l1 S1 r1
    obtain ⟨v, u, rfl, rv, ru⟩ := reps2 r1
    obtain ⟨a, vs, rfl, hq, rr⟩ := rv
    obtain ⟨b, us, rfl, hq2, rr2⟩ := ru
    rw [hK]
    exact ⟨a, b, vs, us, rfl, .inr ⟨seqT_mono S1.sub hq, seqT_mono S1.sub hq2, h w1 H1 _ l1 S1 (itR_zipT hq rr hq2 rr2)⟩⟩
  · exact .inl ⟨L, w, p, en, S, E, h⟩
theorem itZU_tup {m1 m2 : M PV} {xs ys : List PV} {en : En} {p p1 p2 : Pool} (h1 : m1 en p = .ok (.tup xs) p1) (h2 : m2 en p1 = .ok (.tup ys) p2) : itZU (mCons m1 (mCons m2 mNil)) en p = .ok ⟨zipZ xs ys, noCk⟩ p2 := by
  unfold itZU
  rw [two_ok h1 h2]
/-! ### list(range(n)) -/
def mLRg (a : M PV) : M PV := fun en p => (a en p).bind fun x p1 => match x with
  | .int n => if 0 ≤ n ∧ n ≤ 1000 then .ok (.own p1.length) (p1 ++ [.lst (rng 0 n.toNat)]) else .stuck
  | _ => .stuck
theorem rng_rep {Γ : Cfg} {w : Wd} (n : Int) : Reps Γ w (rng 0 n.toNat) (rgV 0 n) := by
  have e1 : rng 0 n.toNat = ((List.range n.toNat).map fun (i : Nat) => (0 : Int) + (i : Int)).map PV.int := by
    unfold rng
    rw [List.map_map]
    rfl
  have e2 : rgV 0 n = ((List.range n.toNat).map fun (i : Nat) => (0 : Int) + (i : Int)).map V.int := by
    unfold rgV
    rw [List.map_map, Int.sub_zero]
    rfl
  rw [e1, e2]
  exact Reps.ints
theorem re_lrg {e : Expr} {a : M PV} {p q : Pos} (hc : X.calm = true) (hg : Gl X "list") (hm : X.mg "list" = none) (hg2 : Gl X "range") (hm2 : X.mg "range" = none) (ha : RE X C e a) (na2 : starEach [e] X.env = (false, eval e X.env) :: starEach [] X.env := by rfl)
    (na : starEach [.Call (.Name "range" p) [e] [] q] X.env = (false, eval (.Call (.Name "range" p) [e] [] q) X.env) :: starEach [] X.env := by rfl) {p2 : Pos} :
    RE X C (.Call (.Name "list" p2) [.Call (.Name "range" p) [e] [] q] [] pos) (mLRg a) := (pe_listRg hc hg hm (prg_1 hg2 hm2 ha na2) na).imp fun σ H Q ⟨L, w, p, en, S, E, h⟩ => by
  refine ⟨L, w, p, en, S, E, h.bind fun x p1 w1 H1 v l1 S1 r1 h1 => ?_⟩
  cases x with
  | int n =>
    dsimp only at h1
    split at h1
    · rename_i hn
      have r1 : v = V.int n := r1
      exact ⟨n, r1, ⟨by decide, by decide, by omega, by omega, by omega⟩, newOwn S1 (rng_rep n) h1⟩
    · exact h1.elim
  | _ => exact h1.elim
theorem lrg_ok {a : M PV} {en : En} {p p1 : Pool} {n : Nat} (h : a en p = .ok (.int n) p1) (hn : n ≤ 1000) : mLRg a en p = .ok (.own p1.length) (p1 ++ [.lst (rng 0 n)]) := by
  unfold mLRg
  rw [h]
  dsimp only [Res.bind]
  rw [if_pos ⟨by omega, by omega⟩, Int.toNat_natCast]
/-! ### x[i], y[j] = a, b -/
def stIx (en : En) (o i : M PV) (y : PV) (p : Pool) (k : Pool → Ctl) : Ctl := (o en p).run en fun x p2 => (i en p2).run en fun j p3 => match x, j with
  | .own n, .int j => match p3[n]? with
    | some (.lst xs) => match ixN xs.length j with
      | some m => if may en.b n y = true then k (p3.set n (.lst (xs.set m y))) else .stuck
      | none => .stuck
    | _ => .stuck
  | _, _ => .stuck
def sSwp (o1 i1 o2 i2 a : M PV) : S := fun en p => (a en p).run en fun x p1 => match x with
  | .tup [y, z] => stIx en o1 i1 y p1 fun p2 => stIx en o2 i2 z p2 fun p3 => .next en p3
  | _ => .stuck
theorem stIx_ok {o i : M PV} {L : Lv} {w : Wd} {p : Pool} {en : En} {σ : L2.St} {H : Hp} {D : Ends} {y : PV} {v : V} {k : Pool → Ctl} {Q : L2.St → Hp → Prop} (S : SimP C.Γ L w p H) (E : EnR C L w en σ) (ry : Rep C.Γ w y v) (h : PostS C L w D (stIx en o i y p k))
    (hQ : ∀ w' p' H', w.le w' → SimP C.Γ L w' p' H' → PostS C L w' D (k p') → Q σ H') : gSub (wE C o) (wE C i) rSetL v σ H Q := by
  refine ⟨L, w, p, en, S, E, h.run E fun x p2 w2 H2 u l2 S2 r2 h2 => ?_⟩
  refine ⟨L, w2, p2, en, S2, E.mono l2, h2.run (E.mono l2) fun j p3 w3 H3 t l3 S3 r3 h3 => ?_⟩
  split at h3
  · rename_i n j
    split at h3
    · rename_i xs e3
      split at h3
      · rename_i m em
        split at h3
        · rename_i hm
          obtain ⟨b, vs, e4, hb, g, eH, rr⟩ := Rep.ownH S3 (r2.mono l3) e3
          refine ⟨b, vs, j, m, e4, r3, eH, by rw [← rr.length]; exact em, ?_⟩
          rw [E.b] at hm
          exact hQ w3 (p3.set n (.lst (xs.set m y))) _ (l2.trans l3) (S3.write hb g ⟨by rw [Wd.low_G]; exact g, _, upd_same, rr.set (may_rep S3 (ry.mono (l2.trans l3)) hm)⟩) h3
        · exact h3.elim
      · exact h3.elim
    · exact h3.elim
  · exact h3.elim
theorem rs_swp {o1 i1 o2 i2 e : Expr} {m1 n1 m2 n2 a : M PV} {kk : Nat} {pa pb pt : Pos} (hc : X.calm = true) (hK : X.K = C.Γ.K) (ho1 : RE X C o1 m1) (hi1 : RE X C i1 n1) (ho2 : RE X C o2 m2) (hi2 : RE X C i2 n2) (ha : RE X C e a)
    (hs1 : ∀ (v : Value), assign (.Subscript o1 i1 pa) X.env v = (do
      let ov ← holding [v] (eval o1 X.env)
      let iv ← holding [v, ov] (eval i1 X.env)
      standAt pa
      holding [v, ov, iv] (setItem ov iv v)
      release [v, ov, iv] []) := by intro _; rfl)
    (hs2 : ∀ (v : Value), assign (.Subscript o2 i2 pb) X.env v = (do
      let ov ← holding [v] (eval o2 X.env)
      let iv ← holding [v, ov] (eval i2 X.env)
      standAt pb
      holding [v, ov, iv] (setItem ov iv v)
      release [v, ov, iv] []) := by intro _; rfl)
    (h1 : swapsWithSole [.Tuple [.Subscript o1 i1 pa, .Subscript o2 i2 pb] kk pt] e pos.line X.env = pure false := by rfl) (h2 : swappedStores [.Tuple [.Subscript o1 i1 pa, .Subscript o2 i2 pb] kk pt] e X.env = pure none := by rfl)
    (h3 : (assignEach [.Tuple [.Subscript o1 i1 pa, .Subscript o2 i2 pb] kk pt] X.env).map (·.2) = [assign (.Tuple [.Subscript o1 i1 pa, .Subscript o2 i2 pb] kk pt) X.env] := by rfl)
    (g1 : (assignEach [.Subscript o1 i1 pa, .Subscript o2 i2 pb] X.env).map (·.2) = assign (.Subscript o1 i1 pa) X.env :: (assignEach [.Subscript o2 i2 pb] X.env).map (·.2) := by rfl)
    (g2 : (assignEach [.Subscript o2 i2 pb] X.env).map (·.2) = assign (.Subscript o2 i2 pb) X.env :: (assignEach [] X.env).map (·.2) := by rfl)
    (g3 : (assignEach [.Subscript o1 i1 pa, .Subscript o2 i2 pb] X.env).length = 2 := by rfl) (g4 : (assignEach [.Subscript o1 i1 pa, .Subscript o2 i2 pb] X.env).findIdx? (·.1) = none := by rfl) :
    RS X C (.Assign [.Tuple [.Subscript o1 i1 pa, .Subscript o2 i2 pb] kk pt] e pos) (sSwp m1 n1 m2 n2 a) :=
  (ps_asg ha (pg_tup hc (pgs_cons (pg_sub ho1 hi1 set_list hs1) (pgs_cons (pg_sub ho2 hi2 set_list hs2) pgs_nil g2) g1) g3 g4) h1 h2 h3).imp fun D σ H ⟨L, w, p, en, S, E, h⟩ => by
    refine ⟨L, w, p, en, S, E, h.run E fun x p1 w1 H1 v l1 S1 r1 h1 => ?_⟩
    split at h1
    · rename_i y z
      obtain ⟨b, vs, rfl, hq, rr⟩ := r1
      obtain ⟨vy, vz, rfl, ry, rz⟩ := reps2 rr
      refine ⟨b, [vy, vz], rfl, by rw [hK]; exact seqT_mono S1.sub hq, rfl, vy, [vz], rfl, ?_⟩
      refine stIx_ok S1 (E.mono l1) ry h1 fun w2 p2 H2 l2 S2 k2 => ⟨vz, [], rfl, ?_⟩
      refine stIx_ok S2 ((E.mono l1).mono l2) (rz.mono l2) k2 fun w3 p3 H3 l3 S3 k3 => ⟨rfl, ?_⟩
      exact k3 w3 _ σ (Wd.le.refl w3) S3 (((E.mono l1).mono l2).mono l3)
    · exact h1.elim
theorem swp_nx {o1 i1 o2 i2 a : M PV} {en : En} {p p1 p2 p3 p4 p5 : Pool} {k1 n1 k2 n2 : Nat} {xs ys : List PV} {y z : PV} (ha : a en p = .ok (.tup [y, z]) p1) (ho1 : o1 en p1 = .ok (.own k1) p2) (hi1 : i1 en p2 = .ok (.int n1) p3) (hk1 : p3[k1]? = some (.lst xs)) (hn1 : n1 < xs.length) (hm1 : may en.b k1 y = true)
    (ho2 : o2 en (p3.set k1 (.lst (xs.set n1 y))) = .ok (.own k2) p4) (hi2 : i2 en p4 = .ok (.int n2) p5) (hk2 : p5[k2]? = some (.lst ys)) (hn2 : n2 < ys.length) (hm2 : may en.b k2 z = true) : sSwp o1 i1 o2 i2 a en p = .next en (p5.set k2 (.lst (ys.set n2 z))) := by
  unfold sSwp
  rw [ha]
  dsimp only [Res.run]
  unfold stIx
  rw [ho1]
  dsimp only [Res.run]
  rw [hi1]
  dsimp only [Res.run]
  rw [hk1]
  dsimp only
  rw [ixN_nat hn1]
  dsimp only
  rw [if_pos hm1, ho2]
  dsimp only [Res.run]
  rw [hi2]
  dsimp only [Res.run]
  rw [hk2]
  dsimp only
  rw [ixN_nat hn2]
  dsimp only
  rw [if_pos hm2]
/-! ### a number in a tuple of numbers -/
def pInI : F2 := fun x y p => match x with
  | .int i => match getQ p y with
    | some ys => match its ys with
      | some is => .ok (.bl (decide (i ∈ is))) p
      | none => .stuck
    | none => .stuck
  | _ => .stuck
def pNotInI : F2 := fun x y p => match x with
  | .int i => match getQ p y with
    | some ys => match its ys with
      | some is => .ok (.bl (!decide (i ∈ is))) p
      | none => .stuck
    | none => .stuck
  | _ => .stuck
theorem inV_ints (i : Int) : ∀ is : List Int, inV (.int i) (is.map V.int) = decide (i ∈ is)
  | [] => rfl
  | a :: is => by
    have ih := inV_ints i is
    unfold inV at ih ⊢
    rw [List.map_cons, List.any_cons, ih]
    show ((a == i) || decide (i ∈ is)) = _
    by_cases h : a = i
    · subst h
      simp
    · have h2 : ¬ i = a := fun e => h e.symm
      simp [h, h2]
theorem flat_ints (is : List Int) : (is.map V.int).all flatV = true := by
  rw [List.all_eq_true]
  intro v hv
  obtain ⟨a, _, rfl⟩ := List.mem_map.mp hv
  rfl
theorem op_inI (hK : X.K = C.Γ.K) : OpR X (compareOp .In) (rIn C.Γ.K false) := hK ▸ op_in_seq
theorem op_notInI (hK : X.K = C.Γ.K) : OpR X (compareOp .NotIn) (rIn C.Γ.K true) := hK ▸ op_notIn_seq
theorem ref_inI : RefO C (rIn C.Γ.K false) pInI := fun L w p H σ x y vx vy Q S rx ry q => by
  unfold pInI at q
  split at q
  · rename_i i
    split at q
    · rename_i ys ey
      split at q
      · rename_i is ei
        obtain ⟨a, us, rfl, hs, ru⟩ := getQ_ok S ry ey
        have e := its_ok ru ei
        subst e
        have rx : vx = V.int i := rx
        subst rx
        refine ⟨a, _, rfl, hs, rfl, flat_ints is, ?_⟩
        rw [if_neg Bool.false_ne_true, inV_ints]
        exact q.ok S rfl
      · exact q.elim
    · exact q.elim
  · exact q.elim
theorem ref_notInI : RefO C (rIn C.Γ.K true) pNotInI := fun L w p H σ x y vx vy Q S rx ry q => by
  unfold pNotInI at q
  split at q
  · rename_i i
    split at q
    · rename_i ys ey
      split at q
      · rename_i is ei
        obtain ⟨a, us, rfl, hs, ru⟩ := getQ_ok S ry ey
        have e := its_ok ru ei
        subst e
        have rx : vx = V.int i := rx
        subst rx
        refine ⟨a, _, rfl, hs, rfl, flat_ints is, ?_⟩
        rw [if_pos rfl, inV_ints]
        exact q.ok S rfl
      · exact q.elim
    · exact q.elim
  · exact q.elim
/-! ### len(set(t)) -/
/-- how many unlike numbers -/
def dnI : List Int → Nat
  | [] => 0
  | a :: r => if a ∈ r then dnI r else dnI r + 1
def ddI : List Int → List Int
  | [] => []
  | a :: r => if a ∈ r then ddI r else a :: ddI r
theorem ddI_mem : ∀ (r : List Int) (k : Int), k ∈ ddI r ↔ k ∈ r
  | [], _ => Iff.rfl
  | a :: r, k => by
    unfold ddI
    have ih := ddI_mem r k
    split
    · rename_i h
      rw [ih, List.mem_cons]
      exact ⟨.inr, fun z => z.elim (fun e => e ▸ h) id⟩
    · rw [List.mem_cons, List.mem_cons, ih]
theorem ddI_nd : ∀ r : List Int, (ddI r).Nodup
  | [] => List.nodup_nil
  | a :: r => by
    unfold ddI
    split
    · exact ddI_nd r
    · rename_i h
      exact List.nodup_cons.mpr ⟨fun z => h ((ddI_mem r a).mp z), ddI_nd r⟩
theorem ddI_len : ∀ r : List Int, (ddI r).length = dnI r
  | [] => rfl
  | a :: r => by
    unfold ddI dnI
    split
    · exact ddI_len r
    · rw [List.length_cons, ddI_len r]
theorem nodup_len : ∀ {l m : List Int}, l.Nodup → m.Nodup → (∀ k, k ∈ l ↔ k ∈ m) → l.length = m.length
  | [], [], _, _, _ => rfl
  | [], b :: m, _, _, h => nomatch (h b).mpr List.mem_cons_self
  | a :: l, m, hl, hm, h => by
    have ha : a ∈ m := (h a).mp List.mem_cons_self
    obtain ⟨h1, h2⟩ := List.nodup_cons.mp hl
    have e := nodup_len h2 (hm.erase a) fun k => by
      rw [List.Nodup.mem_erase_iff hm]
      constructor
      · intro z
        exact ⟨fun e => h1 (e ▸ z), (h k).mp (List.mem_cons_of_mem _ z)⟩
      · rintro ⟨z1, z2⟩
        rcases List.mem_cons.mp ((h k).mpr z2) with z | z
        · exact absurd z z1
        · exact z
    rw [List.length_cons, e, List.length_erase_of_mem ha]
    have := List.length_pos_of_mem ha
    omega
def mLSet (a : M PV) : M PV := fun en p => (a en p).bind fun x p1 => match x with
  | .tup ys => match its ys with
    | some ns => if ns.length ≤ 1000 then .ok (.int ((dnI ns : Nat) : Int)) p1 else .stuck
    | none => .stuck
  | _ => .stuck
def tLSet (K : PySem.W.Frag) (ta : TE) : TE := fun σ H Q => ta σ H fun x H1 => ∃ (l : Addr) (ns : List Int), x = .ref l ∧ SqT K H1 l (ns.map V.int) ∧ ns.length ≤ 1000 ∧ Q (.int ((dnI ns : Nat) : Int)) H1
theorem pe_lset {a : Expr} {ta : TE} {p p2 q : Pos} (hg : Gl X "len") (hm : X.mg "len" = none) (hg2 : Gl X "set") (hm2 : X.mg "set" = none) (ha : PE X a ta) (hc : X.calm = true)
    (na : starEach [a] X.env = (false, eval a X.env) :: starEach [] X.env := by rfl) (nb : starEach [.Call (.Name "set" p2) [a] [] q] X.env = (false, eval (.Call (.Name "set" p2) [a] [] q) X.env) :: starEach [] X.env := by rfl) : PE X (.Call (.Name "len" p) [.Call (.Name "set" p2) [a] [] q] [] pos) (tLSet X.K ta) := by
  refine ⟨fun pins s σ H Q I h => Call_ (ld_blt I hg hm boot_len (PyProof.Rows.callWith_builtin1 (PyProof.Rows.args_cons ?_ nb) nb rfl))⟩
  refine Call_ (ld_blt I hg2 hm2 boot_set (PyProof.Rows.callWith_type1 (PyProof.Rows.args_cons (thn (ha.run pins s σ H _ I h) fun v s1 ⟨x, H1, I1, r1, l, ns, ex, hq, hl, q1⟩ => PyProof.Rows.args_nil ?_) na) na rfl))
  subst ex
  cases r1
  obtain ⟨its, r, pt, hz⟩ := I1.tuple hq
  refine call_set_tupI ns (I1.ok.hd hc) pt (by simpa using r.ints) (by unfold scanBound; omega) fun h' tk c hS hcl hk => PyProof.Rows.args_nil ?_
  obtain ⟨o, es, ep, t, ho, hex, hd, hgood, hnd, hmem, hb, hf, hn, _⟩ := hS
  have I2 : Inv X pins σ H1 { s1 with heap := h', toks := tk } := I1.kept hk
  have ec : c = dnI ns := by
    rw [← ddI_len, ← hn]
    have e := nodup_len hnd (ddI_nd ns) fun k => by
      rw [ddI_mem, ← hmem k]
      exact decide_eq_true_iff
    rw [List.length_map, Array.length_toList] at e
    exact e
  exact call_len_set ho hex hd hf (by rw [hn] <;> omega) ⟨.int ((dnI ns : Nat) : Int), H1, I2.tok _, ⟨_, by rw [hn, ec]⟩, q1⟩
theorem re_lset {a : Expr} {m : M PV} {p p2 q : Pos} (hK : X.K = C.Γ.K) (hc : X.calm = true) (hg : Gl X "len") (hm : X.mg "len" = none) (hg2 : Gl X "set") (hm2 : X.mg "set" = none) (ha : RE X C a m)
    (na : starEach [a] X.env = (false, eval a X.env) :: starEach [] X.env := by rfl) (nb : starEach [.Call (.Name "set" p2) [a] [] q] X.env = (false, eval (.Call (.Name "set" p2) [a] [] q) X.env) :: starEach [] X.env := by rfl) : RE X C (.Call (.Name "len" p) [.Call (.Name "set" p2) [a] [] q] [] pos) (mLSet m) :=
  (pe_lset hg hm hg2 hm2 ha hc na nb).imp fun σ H Q ⟨L, w, p, en, S, E, h⟩ => by
    rw [hK]
    refine ⟨L, w, p, en, S, E, h.bind fun x p1 w1 H1 v l1 S1 r1 h1 => ?_⟩
    split at h1
    · rename_i ys
      split at h1
      · rename_i ns en
        split at h1
        · rename_i hl
          obtain ⟨b, vs, rfl, hq, rr⟩ := r1
          have e := its_ok rr en
          subst e
          exact ⟨b, ns, rfl, seqT_mono S1.sub hq, hl, h1.ok S1 rfl⟩
        · exact h1.elim
      · exact h1.elim
    · exact h1.elim
theorem lset_ok {a : M PV} {en : En} {p p1 : Pool} {ns : List Int} (h : a en p = .ok (.tup (ns.map .int)) p1) (hn : ns.length ≤ 1000) : mLSet a en p = .ok (.int ((dnI ns : Nat) : Int)) p1 := by
  unfold mLSet
  rw [h]
  dsimp only [Res.bind]
  rw [its_ints]
  dsimp only
  rw [if_pos hn]
end
end R

/-! R24: defs as values, called by keyword; zip of two own lists -/
namespace R
open PySem L2 PySem.Spec PyProof.Rows
section
variable {X : Cx} {C : Cn} {pos : Pos}
/-- a def's name as a value -/
theorem re_fnv {x : Str} (k : Nat) (hg : Gl X x) (hm : X.mg x = some (.ref (C.Γ.cls k))) (hd : (x == ("__debug__" : Str)) = false := by decide) : RE X C (.Name x pos) (mC (.fn k)) :=
  (pe_glob (v := V.ref (C.Γ.cls k)) hg hm rfl hd).imp fun σ H Q ⟨L, w, p, en, S, E, h⟩ => h.ok S (rfl : Rep C.Γ w (.fn k) (.ref (C.Γ.cls k)))
/-- x(e, .., k = v), x a name that holds the def -/
theorem kw_run {i k n n1 : Nat} {f : Addr} {fd : FuncData} {ps ks : List Str} {g : FnM} {x : Str} {p : Pos} {e : Expr} {es : List Expr} {kws : List Keyword} {a b : M (List PV)} (F : FnOk X.prog X.w X.K X.mg X.base (L2.CX X.prog X.w) k f fd ps (spM C.Γ n g)) (hr : Room k X.A)
    (hN : X.N[i]? = some x) (hv : Vis X.env.scope x) (hk : PySem.W.keepIn X.K (.ref f) = true) (hb : KBn X.K fd ps n1 ks (fun us ws => us ++ ws) (fun vs zs => vs ++ zs)) (tk : Takes X C.W) (ha : RA X C (e :: es) a) (hkw : RK X C kws b) (hl : es.length + 1 = n1) (hl2 : kws.length = ks.length) (hn : n1 + ks.length = n)
    (hall : (backToKw pos (keywordEach kws X.env)).all (·.1.isSome) = true) (hks : (backToKw pos (keywordEach kws X.env)).filterMap (·.1) = ks)
    (hdb : (x == ("__debug__" : Str)) = false) (hcd : (x == ("__classdict__" : Str)) = false) (he : starEach (e :: es) X.env = (false, eval e X.env) :: starEach es X.env)
    (hpl : ((backTo pos (starEach (e :: es) X.env)).any (·.1) || (backToKw pos (keywordEach kws X.env)).any (·.1.isNone)) = false) :
    ∀ (pins : List (Addr × Obj)) (s : Shared) (σ : L2.St) (H : Hp) (Q : VK), Inv X pins σ H s → σ[i]? = some (some (.ref f)) → wE C (mKw g a b) σ H Q → wpAny (model X.prog X.w) X.A (eval (.Call (.Name x p) (e :: es) kws pos) X.env) (EP X pins σ Q) X.xe s := by
  intro pins s σ H Q I hs h
  have h2 : wA C a σ H (fun vs H1 => wA C b σ H1 fun zs H2 => vs.length = n1 ∧ zs.length = ks.length ∧ spM C.Γ n g (vs ++ zs) H2 Q (WE C.W σ)) := by
    obtain ⟨L, w, p, en, S, E, h⟩ := h
    refine ⟨L, w, p, en, S, E, ?_⟩
    unfold mKw at h
    cases ea : a en p with
    | ok xs p1 =>
      rw [ea] at h
      intro w1 H1 vs l1 S1 r1
      refine ⟨L, w1, p1, en, S1, E.mono l1, ?_⟩
      have h := Post.mono l1 h
      dsimp only [Res.bind] at h
      cases eb : b en p1 with
      | ok ys p2 =>
        rw [eb] at h
        intro w2 H2 zs l2 S2 r2
        have e1 : vs.length = n1 := by rw [← r1.length, ha.len _ _ _ _ ea, List.length_cons]; exact hl
        have e2 : zs.length = ks.length := by rw [← r2.length, hkw.len _ _ _ _ eb]; exact hl2
        exact ⟨e1, e2, by rw [List.length_append, e1, e2]; exact hn, L, w2, p2, xs ++ ys, S2, (r1.mono l2).append r2, PostF.of (Post.mono l2 h)⟩
      | exc c v p2 =>
        rw [eb] at h
        exact h
      | stuck =>
        rw [eb] at h
        exact h
    | exc c v p1 =>
      rw [ea] at h
      exact h
    | stuck =>
      rw [ea] at h
      exact h
  refine wpAny_Call_Name_kw (thn ((pe_var (pos := p) hN hv hdb hcd).run pins s σ H (fun v H1 => v = .ref f ∧ H1 = H) I ⟨.ref f, hs, rfl, rfl⟩) fun u s0 ⟨v, H0, I0, r0, q0⟩ => ?_)
  obtain ⟨rfl, rfl⟩ := q0
  cases r0
  refine PySem.W.callWith_KW (h₀ := X.base) I0.ok.mod.kin hk hall (thn (ha.pa.run pos pins s0 σ _ _ I0 h2) fun us s1 ⟨vs, H1, I1, r, q⟩ => ?_) hpl he
  refine thn (hkw.pk.run pos pins s1 σ H1 _ I1 q) fun ws s2 ⟨zs, H2, I2, rz, l1, l2, q2⟩ => ⟨I2.kIn, ?_⟩
  rw [hks]
  refine wpAny_call (codeAny_mono (F.run X.A X.stack s2 H2 ⟨us, ks.zip ws⟩ (us ++ ws) (vs ++ zs) Q (WE C.W σ) hr I2.env0 (hb.to s2 us ws I2.kIn (r.length.symm.trans l1) (rz.length.symm.trans l2)) (r.append rz) q2) fun r s' hq => ?_)
  cases r with
  | error e => exact passAt tk σ pins H2 s2 e s' I2 hq
  | ok fl =>
    cases fl with
    | ret u => exact I2.after hq
    | next => exact hq.elim
    | brk => exact hq.elim
    | cont => exact hq.elim
def mKwV (i : Nat) (t : Nat → Option FnM) (a b : M (List PV)) : M PV := fun en p => match en.sl[i]? with
  | some (some (.fn k)) => match t k with
    | some f => mKw f a b en p
    | none => .stuck
  | _ => .stuck
/-- one of two defs -/
def pick2 (k1 k2 : Nat) (g1 g2 : FnM) : Nat → Option FnM := fun k => if k = k1 then some g1 else if k = k2 then some g2 else none
theorem re_kwV {i k1 k2 k k' n n1 : Nat} {fd fd' : FuncData} {ps ps' ks : List Str} {g g' : FnM} {x : Str} {p : Pos} {e : Expr} {es : List Expr} {kws : List Keyword} {a b : M (List PV)} (F : FnOk X.prog X.w X.K X.mg X.base (L2.CX X.prog X.w) k (C.Γ.cls k1) fd ps (spM C.Γ n g)) (F' : FnOk X.prog X.w X.K X.mg X.base (L2.CX X.prog X.w) k' (C.Γ.cls k2) fd' ps' (spM C.Γ n g')) (hr : Room k X.A) (hr' : Room k' X.A)
    (hN : X.N[i]? = some x) (hk : PySem.W.keepIn X.K (.ref (C.Γ.cls k1)) = true) (hk' : PySem.W.keepIn X.K (.ref (C.Γ.cls k2)) = true) (hb : KBn X.K fd ps n1 ks (fun us ws => us ++ ws) (fun vs zs => vs ++ zs)) (hb' : KBn X.K fd' ps' n1 ks (fun us ws => us ++ ws) (fun vs zs => vs ++ zs)) (tk : Takes X C.W) (ha : RA X C (e :: es) a) (hkw : RK X C kws b) (hl : es.length + 1 = n1) (hl2 : kws.length = ks.length) (hn : n1 + ks.length = n)
    (hv : Vis X.env.scope x := by first | exact Or.inl rfl | exact Or.inr (Or.inl rfl) | exact Or.inr (Or.inr rfl))
    (hall : (backToKw pos (keywordEach kws X.env)).all (·.1.isSome) = true := by rfl) (hks : (backToKw pos (keywordEach kws X.env)).filterMap (·.1) = ks := by rfl)
    (hdb : (x == ("__debug__" : Str)) = false := by decide) (hcd : (x == ("__classdict__" : Str)) = false := by decide) (he : starEach (e :: es) X.env = (false, eval e X.env) :: starEach es X.env := by rfl)
    (hpl : ((backTo pos (starEach (e :: es) X.env)).any (·.1) || (backToKw pos (keywordEach kws X.env)).any (·.1.isNone)) = false := by rfl) :
    RE X C (.Call (.Name x p) (e :: es) kws pos) (mKwV i (pick2 k1 k2 g g') a b) := by
  refine ⟨fun pins s σ H Q I ⟨L, w, q, en, S, E, h⟩ => ?_⟩
  unfold mKwV at h
  split at h
  · rename_i k0 e0
    obtain ⟨v, e1, r⟩ := E.val i _ e0
    have r : v = .ref (C.Γ.cls k0) := r
    subst r
    unfold pick2 at h
    by_cases h1 : k0 = k1
    · subst h1
      rw [if_pos rfl] at h
      exact kw_run F hr hN hv hk hb tk ha hkw hl hl2 hn hall hks hdb hcd he hpl pins s σ H Q I e1 ⟨L, w, q, en, S, E, h⟩
    · rw [if_neg h1] at h
      by_cases h2 : k0 = k2
      · subst h2
        rw [if_pos rfl] at h
        exact kw_run F' hr' hN hv hk' hb' tk ha hkw hl hl2 hn hall hks hdb hcd he hpl pins s σ H Q I e1 ⟨L, w, q, en, S, E, h⟩
      · rw [if_neg h2] at h
        exact h.elim
  · exact h.elim
theorem kwV_ok {i k : Nat} {t : Nat → Option FnM} {f : FnM} {a b : M (List PV)} {en : En} {p : Pool} {r : Res PV} (h1 : en.sl[i]? = some (some (.fn k))) (h2 : t k = some f) (h : mKw f a b en p = r) : mKwV i t a b en p = r := by
  unfold mKwV
  rw [h1]
  dsimp only
  rw [h2]
  exact h
/-! ### zip of own lists that don't change meanwhile -/
def ck2 (k1 k2 : Nat) (xs ys : List PV) : Pool → Bool := fun q => ownCk k1 xs q && ownCk k2 ys q
theorem ownCk_at {Γ : Cfg} {L : Lv} {w : Wd} {p : Pool} {H : Hp} (S : SimP Γ L w p H) {k : Nat} {a : Addr} {xs : List PV} (ha : w.ρ[k]? = some a) (hc : ownCk k xs p = true) : ∃ vs, SqL Γ.K H a vs ∧ Reps Γ w xs vs := by
  unfold ownCk at hc
  split at hc
  · rename_i ys ey
    have e := pvEqs_eq hc
    subst e
    obtain ⟨b, vs, eb, hb, _, eH, r⟩ := Rep.ownH S (v := .ref a) ⟨a, ha, rfl⟩ ey
    cases eb
    exact ⟨vs, .inl (.inl eH), r.mono (w.low_le _)⟩
  · cases hc
theorem itR_zipO {Γ : Cfg} {w : Wd} {a b : Addr} {k1 k2 : Nat} {xs ys : List PV} (ha : w.ρ[k1]? = some a) (hb : w.ρ[k2]? = some b) : ItR Γ w (ck2 k1 k2 xs ys) (zipZ xs ys) (Itz Γ.K a b) := fun L w' p H l S hc i => by
  unfold ck2 at hc
  rw [Bool.and_eq_true] at hc
  obtain ⟨vs, h', r⟩ := ownCk_at S (pre_get l.2 ha) hc.1
  obtain ⟨us, k', q⟩ := ownCk_at S (pre_get l.2 hb) hc.2
  rw [zipZ_get]
  cases e : xs[i]? with
  | none => exact ⟨fun _ => ⟨vs, us, h', k', .inl (by rw [← r.length]; exact List.getElem?_eq_none_iff.mp e)⟩, (fun _ z => nomatch z)⟩
  | some x =>
    cases f : ys[i]? with
    | none => exact ⟨fun _ => ⟨vs, us, h', k', .inr (by rw [← q.length]; exact List.getElem?_eq_none_iff.mp f)⟩, (fun _ z => nomatch z)⟩
    | some y =>
      refine ⟨(fun z => nomatch z), fun t et => ?_⟩
      have et : PV.tup [x, y] = t := Option.some.inj et
      subst et
      obtain ⟨v, ev, rv⟩ := r.get e
      obtain ⟨u, eu, ru⟩ := q.get f
      refine ⟨⟨vs, us, v, u, h', k', ev, eu⟩, fun t H' hy => ?_⟩
      obtain ⟨T, z, z2, rfl, hT, rfl, hz, hz2⟩ := hy
      have e2 : z = v := Option.some.inj ((hz vs h').symm.trans ev)
      have e3 : z2 = u := Option.some.inj ((hz2 us k').symm.trans eu)
      subst e2
      subst e3
      exact new_tup S hT (Reps.cons rv (Reps.cons ru Reps.nil))
/-- zip of two own lists, too -/
def itZO (a : M (List PV)) : M It0 := fun en p => match a en p with
  | .ok [.own k1, .own k2] p1 => match p1[k1]?, p1[k2]? with
    | some (.lst xs), some (.lst ys) => .ok ⟨zipZ xs ys, ck2 k1 k2 xs ys⟩ p1
    | _, _ => .stuck
  | _ => itZU a en p
theorem ri_zipO {e e2 : Expr} {m : M (List PV)} {p tpos : Pos} {elts : List Expr} {kk : Nat} (hK : X.K = C.Γ.K) (hg : Gl X "zip") (hm : X.mg "zip" = none) (ha : RA X C [e, e2] m) (hs : starEach [e, e2] X.env = (false, eval e X.env) :: starEach [e2] X.env := by rfl) (hs2 : ((backTo pos (starEach [e2] X.env)).any fun x => x.1) = false := by rfl) :
    RI X C (.Tuple elts kk tpos) (.Call (.Name "zip" p) [e, e2] [] pos) (itZO m) := PI.imp (PI.or (ri_zipU hK hg hm ha hs hs2) (pi_zip hg hm ha.pa hs hs2)) fun σ H R ⟨L, w, p, en, S, E, h⟩ => by
  unfold itZO at h
  split at h
  · rename_i k1 k2 p1 ea
    split at h
    · rename_i xs ys e1 e2
      refine .inr ⟨L, w, p, en, S, E, ?_⟩
      rw [ea]
      intro w1 H1 vs l1 S1 r1
      obtain ⟨v, u, rfl, rv, ru⟩ := reps2 r1
      obtain ⟨a, vs, rfl, ha1, _, eH, _⟩ := Rep.ownH S1 rv e1
      obtain ⟨b, us, rfl, hb1, _, eH2, _⟩ := Rep.ownH S1 ru e2
      rw [hK]
      exact ⟨a, b, vs, us, rfl, .inl (.inl eH), .inl (.inl eH2), h w1 H1 _ l1 S1 (itR_zipO ha1 hb1)⟩
    · exact h.elim
  · exact .inl ⟨L, w, p, en, S, E, h⟩
theorem itZO_own {m1 m2 : M PV} {k1 k2 : Nat} {xs ys : List PV} {en : En} {p p1 p2 : Pool} (h1 : m1 en p = .ok (.own k1) p1) (h2 : m2 en p1 = .ok (.own k2) p2) (e1 : p2[k1]? = some (.lst xs)) (e2 : p2[k2]? = some (.lst ys)) : itZO (mCons m1 (mCons m2 mNil)) en p = .ok ⟨zipZ xs ys, ck2 k1 k2 xs ys⟩ p2 := by
  unfold itZO
  rw [two_ok h1 h2]
  dsimp only
  rw [e1, e2]
theorem itZO_tup {m1 m2 : M PV} {xs ys : List PV} {en : En} {p p1 p2 : Pool} (h1 : m1 en p = .ok (.tup xs) p1) (h2 : m2 en p1 = .ok (.tup ys) p2) : itZO (mCons m1 (mCons m2 mNil)) en p = .ok ⟨zipZ xs ys, noCk⟩ p2 := by
  have e := itZU_tup h1 h2
  unfold itZO
  rw [two_ok h1 h2]
  exact e
end
end R

/-! R25: a statement's ends, led on statement by statement -/
namespace R
open PySem L2
/-- where a statement comes to is as R wants -/
structure Ends (c : Ctl) (R : Ctl → Prop) : Prop where
  h : R c
section
variable {en en1 : En} {p p1 p2 p3 : Pool} {R : Ctl → Prop}
theorem Ends.mono {c : Ctl} {R R' : Ctl → Prop} (h : Ends c R) (k : ∀ c, R c → R' c) : Ends c R' := ⟨k _ h.h⟩
theorem Ends.eq {c d : Ctl} (e : c = d) (h : Ends d R) : Ends c R := e ▸ h
theorem c_ok {x : PV} : mC x en p = .ok x p := rfl
theorem nil_ok : mNil en p = .ok [] p := rfl
theorem yes_ok : mYes en p = .ok true p := rfl
theorem kw_ok {f : FnM} {a b : M (List PV)} {xs ys : List PV} {r : Res PV} (h1 : a en p = .ok xs p1) (h2 : b en p1 = .ok ys p2) (hf : f (xs ++ ys) p2 = r) : mKw f a b en p = r := by
  unfold mKw
  rw [h1]
  dsimp only [Res.bind]
  rw [h2]
  exact hf
theorem lst_ok {xs : List PV} {a : M (List PV)} (h : a en p = .ok xs p1) : mLst a en p = .ok (.lst xs) p1 := by
  unfold mLst
  rw [h]
  rfl
theorem lstO_ok {xs : List PV} {a : M (List PV)} (h : a en p = .ok xs p1) : mLstO a en p = .ok (.own p1.length) (p1 ++ [.lst xs]) := by
  unfold mLstO
  rw [h]
  rfl
theorem neg_ok {a : M PV} {i : Int} (h : a en p = .ok (.int i) p1) : mNeg a en p = .ok (.int (-i)) p1 := by
  unfold mNeg
  rw [h]
  rfl
theorem mul_ok {a b : M PV} {x y : Int} (h1 : a en p = .ok (.int x) p1) (h2 : b en p1 = .ok (.int y) p2) (h : okMul x y = true) : mBin pMul a b en p = .ok (.int (x * y)) p2 := bin_ok h1 h2 (by
  show (if okMul x y = true then Res.ok (PV.int (x * y)) p2 else .stuck) = _
  rw [if_pos h])
theorem mod_ok {a b : M PV} {x y : Int} (h1 : a en p = .ok (.int x) p1) (h2 : b en p1 = .ok (.int y) p2) (h : okMod x y = true) : mBin pMod a b en p = .ok (.int (x.fmod y)) p2 := bin_ok h1 h2 (by
  show (if okMod x y = true then Res.ok (PV.int (x.fmod y)) p2 else .stuck) = _
  rw [if_pos h])
theorem div_ok {a b : M PV} {x y : Int} (h1 : a en p = .ok (.int x) p1) (h2 : b en p1 = .ok (.int y) p2) (h : okDiv x y = true) : mBin pDiv a b en p = .ok (.int (x.fdiv y)) p2 := bin_ok h1 h2 (by
  show (if okDiv x y = true then Res.ok (PV.int (x.fdiv y)) p2 else .stuck) = _
  rw [if_pos h])
/-- an item of a told row, by a number's place -/
theorem ati_ok {a b : M PV} {x y : PV} {xs : List PV} {i : Int} (h1 : a en p = .ok x p1) (h2 : b en p1 = .ok (.int i) p2) (h : getQ p2 x = some xs) (e : atI xs i = some y) : mBin pIx a b en p = .ok y p2 := bin_ok h1 h2 (pIx_int h e)
theorem atI_of {xs : List PV} {i : Nat} {y : PV} (h : xs[i]? = some y) : atI xs (i : Int) = some y := by
  rw [atI_nat]
  exact h
theorem or_ff {a b : M Bool} (h1 : a en p = .ok false p1) (h2 : b en p1 = .ok false p2) : mOr a b en p = .ok false p2 := (or_f h1).trans h2
theorem and_f2 {a b : M Bool} {v : Bool} (h1 : a en p = .ok v p1) (h2 : b en p1 = .ok false p1) : mAnd a b en p = .ok false p1 := by
  cases v
  · exact and_f h1
  · exact (and_t h1).trans h2
theorem and_tt {a b : M Bool} (h1 : a en p = .ok true p1) (h2 : b en p1 = .ok true p2) : mAnd a b en p = .ok true p2 := (and_t h1).trans h2
theorem and_ok {a b : M Bool} {v u : Bool} (h1 : a en p = .ok v p1) (h2 : b en p1 = .ok u p1) : mAnd a b en p = .ok (v && u) p1 := by
  unfold mAnd
  rw [h1]
  cases v
  · rfl
  · exact h2
theorem or_ok {a b : M Bool} {v u : Bool} (h1 : a en p = .ok v p1) (h2 : b en p1 = .ok u p1) : mOr a b en p = .ok (v || u) p1 := by
  unfold mOr
  rw [h1]
  cases v
  · exact h2
  · rfl
theorem getQ_own {k : Nat} {xs : List PV} (h : p[k]? = some (.lst xs)) : getQ p (.own k) = some xs := by
  simp only [getQ, getR, getL, h]
/-! ### statements -/
theorem go_set {m : M PV} {i : Nat} {x : PV} (h : m en p = .ok x p1) (k : R (.next (en.set i x) p1)) : Ends (sSet m i en p) R := by
  rw [set_nx h]
  exact ⟨k⟩
theorem go_seq {a b : S} (h : Ends (a en p) fun c => Ends (c.andThen b) R) : Ends (sSeq a b en p) R := h.h
theorem go_seq_nx {a b : S} (h : a en p = .next en1 p1) (k : Ends (b en1 p1) R) : Ends (sSeq a b en p) R := by
  rw [seq_nx h]
  exact k
theorem go_nx {a : S} (h : a en p = .next en1 p1) (k : R (.next en1 p1)) : Ends (a en p) R := by
  rw [h]
  exact ⟨k⟩
theorem go_seq_set {m : M PV} {b : S} {i : Nat} {x : PV} (h : m en p = .ok x p1) (k : Ends (b (en.set i x) p1) R) : Ends (sSeq (sSet m i) b en p) R := go_seq_nx (set_nx h) k
theorem par_nx {i j : Nat} {a : M (List PV)} {x y : PV} (h : a en p = .ok [x, y] p1) : sPar i j a en p = .next ((en.set i x).set j y) p1 := by
  unfold sPar
  rw [h]
  rfl
theorem go_seq_par {a : M (List PV)} {b : S} {i j : Nat} {x y : PV} (h : a en p = .ok [x, y] p1) (k : Ends (b ((en.set i x).set j y) p1) R) : Ends (sSeq (sPar i j a) b en p) R := go_seq_nx (par_nx h) k
theorem go_par {a : M (List PV)} {i j : Nat} {x y : PV} (h : a en p = .ok [x, y] p1) (k : R (.next ((en.set i x).set j y) p1)) : Ends (sPar i j a en p) R := go_nx (par_nx h) k
theorem go_seq_asg {m : M PV} {b : S} {g : T1} {x : PV} {as : As} (h : m en p = .ok x p1) (hg : g x = some as) (k : Ends (b (en.sets as) p1) R) : Ends (sSeq (sAsg m g) b en p) R := go_seq_nx (asg_nx h hg) k
theorem go_asg {m : M PV} {g : T1} {x : PV} {as : As} (h : m en p = .ok x p1) (hg : g x = some as) (k : R (.next (en.sets as) p1)) : Ends (sAsg m g en p) R := go_nx (asg_nx h hg) k
theorem go_seq_expr {m : M PV} {b : S} {x : PV} (h : m en p = .ok x p1) (k : Ends (b en p1) R) : Ends (sSeq (sExpr m) b en p) R := go_seq_nx (expr_nx h) k
theorem go_expr {m : M PV} {x : PV} (h : m en p = .ok x p1) (k : R (.next en p1)) : Ends (sExpr m en p) R := go_nx (expr_nx h) k
theorem go_ret {m : M PV} {x : PV} (h : m en p = .ok x p1) (k : R (.ret x p1)) : Ends (sRet m en p) R := by
  rw [ret_ok h]
  exact ⟨k⟩
theorem go_seq_ret {m : M PV} {b : S} {x : PV} (h : m en p = .ok x p1) (k : R (.ret x p1)) : Ends (sSeq (sRet m) b en p) R := by
  rw [seq_ret (ret_ok h)]
  exact ⟨k⟩
theorem go_seq_nop {b : S} (k : Ends (b en p) R) : Ends (sSeq sNop b en p) R := k
theorem go_nop (k : R (.next en p)) : Ends (sNop en p) R := ⟨k⟩
theorem go_brk (k : R (.brk en p)) : Ends (sBrk en p) R := ⟨k⟩
theorem go_cont (k : R (.cont en p)) : Ends (sCont en p) R := ⟨k⟩
theorem go_seq_brk {b : S} (k : R (.brk en p)) : Ends (sSeq sBrk b en p) R := ⟨k⟩
theorem go_seq_cont {b : S} (k : R (.cont en p)) : Ends (sSeq sCont b en p) R := ⟨k⟩
theorem go_raise {c : Nat} (k : R (.exc c none en p)) : Ends (sRaise c en p) R := ⟨k⟩
theorem go_seq_raise {c : Nat} {b : S} (k : R (.exc c none en p)) : Ends (sSeq (sRaise c) b en p) R := ⟨k⟩
theorem seq_assoc (a b c : S) (en : En) (p : Pool) : sSeq (sSeq a b) c en p = sSeq a (sSeq b c) en p := by
  unfold sSeq
  cases a en p <;> rfl
theorem go_assoc {a b c : S} (k : Ends (sSeq a (sSeq b c) en p) R) : Ends (sSeq (sSeq a b) c en p) R := by
  rw [seq_assoc]
  exact k
theorem go_if {t : M Bool} {a b : S} {v : Bool} (h : t en p = .ok v p1) (ht : v = true → Ends (a en p1) R) (hf : v = false → Ends (b en p1) R) : Ends (sIf t a b en p) R := by
  cases v
  · rw [if_f h]
    exact hf rfl
  · rw [if_t h]
    exact ht rfl
theorem go_if_t {t : M Bool} {a b : S} (h : t en p = .ok true p1) (k : Ends (a en p1) R) : Ends (sIf t a b en p) R := by
  rw [if_t h]
  exact k
theorem go_if_f {t : M Bool} {a b : S} (h : t en p = .ok false p1) (k : Ends (b en p1) R) : Ends (sIf t a b en p) R := by
  rw [if_f h]
  exact k
theorem seq_if {t : M Bool} {a b c : S} {v : Bool} (h : t en p = .ok v p1) : sSeq (sIf t a b) c en p = if v = true then sSeq a c en p1 else sSeq b c en p1 := by
  unfold sSeq
  cases v
  · rw [if_f h]
    rfl
  · rw [if_t h]
    rfl
theorem go_seq_if {t : M Bool} {a b c : S} {v : Bool} (h : t en p = .ok v p1) (ht : v = true → Ends (sSeq a c en p1) R) (hf : v = false → Ends (sSeq b c en p1) R) : Ends (sSeq (sIf t a b) c en p) R := by
  rw [seq_if h]
  cases v
  · exact hf rfl
  · exact ht rfl
theorem go_seq_if_t {t : M Bool} {a b c : S} (h : t en p = .ok true p1) (k : Ends (sSeq a c en p1) R) : Ends (sSeq (sIf t a b) c en p) R := by
  rw [seq_if h]
  exact k
theorem go_seq_if_f {t : M Bool} {a b c : S} (h : t en p = .ok false p1) (k : Ends (sSeq b c en p1) R) : Ends (sSeq (sIf t a b) c en p) R := by
  rw [seq_if h]
  exact k
theorem ix_at {o i a : M PV} {k n : Nat} {j : Int} {xs : List PV} {y : PV} (ha : a en p = .ok y p1) (ho : o en p1 = .ok (.own k) p2) (hi : i en p2 = .ok (.int j) p3) (hk : p3[k]? = some (.lst xs)) (hn : ixN xs.length j = some n) (hm : may en.b k y = true) :
    sIx o i a en p = .next en (p3.set k (.lst (xs.set n y))) := by
  unfold sIx
  rw [ha]
  dsimp only [Res.run]
  rw [ho]
  dsimp only [Res.run]
  rw [hi]
  dsimp only [Res.run]
  rw [hk]
  dsimp only
  rw [hn]
  dsimp only
  rw [if_pos hm]
theorem go_seq_ix {o i a : M PV} {b : S} {k n : Nat} {j : Int} {xs : List PV} {y : PV} (ha : a en p = .ok y p1) (ho : o en p1 = .ok (.own k) p2) (hi : i en p2 = .ok (.int j) p3) (hk : p3[k]? = some (.lst xs)) (hn : ixN xs.length j = some n) (hm : may en.b k y = true) (kk : Ends (b en (p3.set k (.lst (xs.set n y)))) R) : Ends (sSeq (sIx o i a) b en p) R := go_seq_nx (ix_at ha ho hi hk hn hm) kk
theorem go_ix {o i a : M PV} {k n : Nat} {j : Int} {xs : List PV} {y : PV} (ha : a en p = .ok y p1) (ho : o en p1 = .ok (.own k) p2) (hi : i en p2 = .ok (.int j) p3) (hk : p3[k]? = some (.lst xs)) (hn : ixN xs.length j = some n) (hm : may en.b k y = true) (kk : R (.next en (p3.set k (.lst (xs.set n y))))) : Ends (sIx o i a en p) R := go_nx (ix_at ha ho hi hk hn hm) kk
/-! ### loops -/
/-- what a turn of a loop may come to: J: the next turn's invariant; R: what is wanted behind the loop -/
def Trn (J : En → Pool → Prop) (R : Ctl → Prop) : Ctl → Prop := fun c => match c with
  | .next en p => J en p
  | .cont en p => J en p
  | .brk en p => R (.next en p)
  | c => R c
theorem go_loop {ck : Pool → Bool} {g : T1} {body : S} (I : Nat → En → Pool → Prop) (xs : List PV) (hck : ∀ j en p, I j en p → ck p = true) (h : ∀ (j : Nat) (hj : j < xs.length) en p, I j en p → ∃ as, g xs[j] = some as ∧ Ends (body (en.sets as) p) (Trn (I (j + 1)) R))
    (hend : ∀ en p, I xs.length en p → R (.next en p)) : ∀ (n j : Nat) (en : En) (p : Pool), j + n = xs.length → I j en p → Ends (loopF ck g body (xs.drop j) en p) R
  | 0, j, en, p, e, hI => by
    have e : j = xs.length := by omega
    subst e
    rw [List.drop_length]
    unfold loopF
    rw [if_pos (hck _ _ _ hI)]
    exact ⟨hend _ _ hI⟩
  | n + 1, j, en, p, e, hI => by
    have hj : j < xs.length := by omega
    obtain ⟨as, eg, hb⟩ := h j hj en p hI
    rw [List.drop_eq_getElem_cons hj]
    unfold loopF
    rw [if_pos (hck _ _ _ hI), eg]
    dsimp only
    have hb := hb.h
    generalize body (en.sets as) p = c at hb
    cases c with
    | next en2 p2 => exact go_loop I xs hck h hend n (j + 1) en2 p2 (by omega) hb
    | cont en2 p2 => exact go_loop I xs hck h hend n (j + 1) en2 p2 (by omega) hb
    | brk en2 p2 => exact ⟨hb⟩
    | ret x p2 => exact ⟨hb⟩
    | exc c v en2 p2 => exact ⟨hb⟩
    | stuck => exact ⟨hb⟩
theorem go_for {it : M It0} {g : T1} {body : S} {z : It0} (I : Nat → En → Pool → Prop) (hi : it en p = .ok z p1) (h0 : I 0 en p1) (hck : ∀ j en p, I j en p → z.ck p = true) (h : ∀ (j : Nat) (hj : j < z.xs.length) en p, I j en p → ∃ as, g z.xs[j] = some as ∧ Ends (body (en.sets as) p) (Trn (I (j + 1)) R))
    (hend : ∀ en p, I z.xs.length en p → R (.next en p)) : Ends (sFor it g body en p) R := by
  have e := go_loop I z.xs hck h hend z.xs.length 0 en p1 (by omega) h0
  rw [sFor_ok hi rfl]
  exact e
theorem go_seq_for {it : M It0} {g : T1} {body b : S} {z : It0} (I : Nat → En → Pool → Prop) (hi : it en p = .ok z p1) (h0 : I 0 en p1) (hck : ∀ j en p, I j en p → z.ck p = true) (h : ∀ (j : Nat) (hj : j < z.xs.length) en p, I j en p → ∃ as, g z.xs[j] = some as ∧ Ends (body (en.sets as) p) (Trn (I (j + 1)) fun c => Ends (c.andThen b) R))
    (hend : ∀ en p, I z.xs.length en p → Ends (b en p) R) : Ends (sSeq (sFor it g body) b en p) R := go_seq (go_for I hi h0 hck h fun en p hI => hend en p hI)
/-- for i in range(n) -/
theorem go_rng {a : M (List PV)} {i : Nat} {body : S} {n : Nat} (I : Nat → En → Pool → Prop) (ha : a en p = .ok [.int n] p1) (hn : n ≤ big) (h0 : I 0 en p1) (h : ∀ (j : Nat) en p, j < n → I j en p → Ends (body (en.set i (.int j)) p) (Trn (I (j + 1)) R)) (hend : ∀ en p, I n en p → R (.next en p)) :
    Ends (sFor (itR1 a) (tgN i) body en p) R := by
  refine go_for I (itR1_ok ha hn) h0 (fun _ _ _ _ => rfl) (fun j hj en p hI => ?_) (fun en p hI => ?_)
  · have hj' : j < n := by rw [rng_len] at hj; exact hj
    exact ⟨[(i, .int j)], by rw [rng_get n j hj]; rfl, h j en p hj' hI⟩
  · rw [rng_len] at hI
    exact hend _ _ hI
theorem go_seq_rng {a : M (List PV)} {i : Nat} {body b : S} {n : Nat} (I : Nat → En → Pool → Prop) (ha : a en p = .ok [.int n] p1) (hn : n ≤ big) (h0 : I 0 en p1) (h : ∀ (j : Nat) en p, j < n → I j en p → Ends (body (en.set i (.int j)) p) (Trn (I (j + 1)) fun c => Ends (c.andThen b) R)) (hend : ∀ en p, I n en p → Ends (b en p) R) :
    Ends (sSeq (sFor (itR1 a) (tgN i) body) b en p) R := go_seq (go_rng I ha hn h0 h hend)
theorem wipe_len : ∀ (sl : List (Option PV)) (vs : List Nat), (wipeE sl vs).length = sl.length
  | _, [] => rfl
  | sl, v :: vs => by
    show ((wipeE sl vs).set v none).length = _
    rw [List.length_set, wipe_len sl vs]
theorem itS_own {m : M PV} {k : Nat} {xs : List PV} (h : m en p = .ok (.own k) p1) (hk : p1[k]? = some (.lst xs)) : itS m en p = .ok ⟨xs, ownCk k xs⟩ p1 := by
  unfold itS
  rw [h]
  dsimp only [Res.bind]
  rw [hk]
theorem zipZ_at {xs ys : List PV} {j : Nat} (h : j < (zipZ xs ys).length) {x y : PV} (hx : xs[j]? = some x) (hy : ys[j]? = some y) : (zipZ xs ys)[j] = .tup [x, y] := by
  have e := zipZ_get xs ys j
  rw [hx, hy, List.getElem?_eq_getElem h] at e
  exact Option.some.inj e
theorem zipZ_length : ∀ (xs ys : List PV), (zipZ xs ys).length = min xs.length ys.length
  | [], ys => by simp [zipZ]
  | x :: xs, [] => by simp [zipZ]
  | x :: xs, y :: ys => by
    show (zipZ xs ys).length + 1 = _
    rw [zipZ_length xs ys, List.length_cons, List.length_cons]
    omega
/-! ### comprehensions, by index -/
theorem lc_inv {it : M It0} {g : T1} {tt : M Bool} {te : M PV} {vs : List Nat} {z : It0} (I : Nat → List PV → Pool → Prop) (hi : it en p = .ok z p1) (hck : ∀ j acc q, q.length = p1.length → I j acc q → z.ck (q ++ [.lst acc]) = true)
    (h : ∀ j (hj : j < z.xs.length) acc q, q.length = p1.length → I j acc q → ∃ as : As, g z.xs[j] = some as ∧ as.all (fun a => vs.elem a.1) = true ∧
      ((∃ p2, tt (En.sets ⟨p1.length + 1, wipeE en.sl vs⟩ as) (q ++ [.lst acc]) = .ok false (p2 ++ [.lst acc]) ∧ p2.length = p1.length ∧ I (j + 1) acc p2) ∨
       (∃ p2 y p3, tt (En.sets ⟨p1.length + 1, wipeE en.sl vs⟩ as) (q ++ [.lst acc]) = .ok true (p2 ++ [.lst acc]) ∧ te (En.sets ⟨p1.length + 1, wipeE en.sl vs⟩ as) (p2 ++ [.lst acc]) = .ok y (p3 ++ [.lst acc]) ∧ p3.length = p1.length ∧ bel p1.length y = true ∧ I (j + 1) (acc ++ [y]) p3)))
    (hl : z.xs.length ≤ big) (h0 : I 0 [] p1) : ∃ acc q, mLc it g tt te vs en p = .ok (.lst acc) q ∧ q.length = p1.length ∧ I z.xs.length acc q := by
  obtain ⟨acc, q, e, hq, j, hj, hr, hI⟩ := mLc_inv (it := it) (g := g) (tt := tt) (te := te) (vs := vs) (fun r acc q => ∃ j, j ≤ z.xs.length ∧ r = z.xs.drop j ∧ I j acc q) hi (fun r acc q hq ⟨j, hj, hr, hI⟩ => hck j acc q hq hI) (fun x r acc q hq ⟨j, hj, hr, hI⟩ => by
    have hj2 : j < z.xs.length := by
      rcases Nat.lt_or_ge j z.xs.length with h | h
      · exact h
      · rw [List.drop_eq_nil_of_le h] at hr
        cases hr
    rw [List.drop_eq_getElem_cons hj2] at hr
    cases hr
    obtain ⟨as, e1, e2, h3⟩ := h j hj2 acc q hq hI
    refine ⟨as, e1, e2, ?_⟩
    rcases h3 with ⟨p2, a, b, c⟩ | ⟨p2, y, p3, a, b, c, d, e⟩
    · exact .inl ⟨p2, a, b, j + 1, hj2, rfl, c⟩
    · exact .inr ⟨p2, y, p3, a, b, c, d, j + 1, hj2, rfl, e⟩) hl ⟨0, Nat.zero_le _, rfl, h0⟩
  refine ⟨acc, q, e, hq, ?_⟩
  have : j = z.xs.length := by
    have h := List.drop_eq_nil_iff.mp hr.symm
    omega
  rw [← this]
  exact hI
/-- what is picked of so many things -/
def pick (P : Nat → Bool) (F : Nat → PV) (n : Nat) : List PV := (List.range n).filterMap fun k => if P k = true then some (F k) else none
theorem pick_succ (P : Nat → Bool) (F : Nat → PV) (n : Nat) : pick P F (n + 1) = pick P F n ++ if P n = true then [F n] else [] := by
  unfold pick
  rw [List.range_succ, List.filterMap_append]
  congr 1
  by_cases h : P n = true
  · rw [if_pos h, List.filterMap_cons_some (b := F n) (by rw [if_pos h])]
    rfl
  · rw [if_neg h, List.filterMap_cons_none (by rw [if_neg h])]
    rfl
theorem lc_idx {it : M It0} {g : T1} {tt : M Bool} {te : M PV} {vs : List Nat} {z : It0} (P : Nat → Bool) (F : Nat → PV) (hi : it en p = .ok z p1) (hck : ∀ acc, z.ck (p1 ++ [.lst acc]) = true)
    (h : ∀ j (hj : j < z.xs.length), ∃ as : As, g z.xs[j] = some as ∧ as.all (fun a => vs.elem a.1) = true ∧ ∀ acc, tt (En.sets ⟨p1.length + 1, wipeE en.sl vs⟩ as) (p1 ++ [.lst acc]) = .ok (P j) (p1 ++ [.lst acc]) ∧
       (P j = true → te (En.sets ⟨p1.length + 1, wipeE en.sl vs⟩ as) (p1 ++ [.lst acc]) = .ok (F j) (p1 ++ [.lst acc]) ∧ bel p1.length (F j) = true))
    (hl : z.xs.length ≤ big) : mLc it g tt te vs en p = .ok (.lst (pick P F z.xs.length)) p1 := by
  obtain ⟨acc, q, e, hq, e2, e3⟩ := lc_inv (it := it) (g := g) (tt := tt) (te := te) (vs := vs) (fun j acc q => q = p1 ∧ acc = pick P F j) hi (fun j acc q _ ⟨h1, _⟩ => by rw [h1]; exact hck acc) (fun j hj acc q hq ⟨h1, h2⟩ => by
    subst h1
    obtain ⟨as, e1, e2, h3⟩ := h j hj
    refine ⟨as, e1, e2, ?_⟩
    obtain ⟨t1, t2⟩ := h3 acc
    cases hP : P j with
    | false =>
      rw [hP] at t1
      refine .inl ⟨q, t1, rfl, rfl, ?_⟩
      rw [pick_succ, hP, if_neg Bool.false_ne_true, List.append_nil]
      exact h2
    | true =>
      rw [hP] at t1
      obtain ⟨t3, t4⟩ := t2 hP
      refine .inr ⟨q, F j, q, t1, t3, rfl, t4, rfl, ?_⟩
      rw [pick_succ, hP, if_pos rfl, h2]) hl ⟨rfl, rfl⟩
  rw [e, e2, e3]
theorem pick_all (F : Nat → PV) (n : Nat) : pick (fun _ => true) F n = (List.range n).map F := by
  unfold pick
  exact congrFun List.filterMap_eq_map _
/-- .. without a test -/
theorem lc_map {it : M It0} {g : T1} {te : M PV} {vs : List Nat} {z : It0} (F : Nat → PV) (hi : it en p = .ok z p1) (hck : ∀ acc, z.ck (p1 ++ [.lst acc]) = true)
    (h : ∀ j (hj : j < z.xs.length), ∃ as : As, g z.xs[j] = some as ∧ as.all (fun a => vs.elem a.1) = true ∧ ∀ acc, te (En.sets ⟨p1.length + 1, wipeE en.sl vs⟩ as) (p1 ++ [.lst acc]) = .ok (F j) (p1 ++ [.lst acc]) ∧ bel p1.length (F j) = true)
    (hl : z.xs.length ≤ big) : mLc it g mYes te vs en p = .ok (.lst ((List.range z.xs.length).map F)) p1 := by
  rw [← pick_all]
  exact lc_idx (fun _ => true) F hi hck (fun j hj => by
    obtain ⟨as, e1, e2, h3⟩ := h j hj
    exact ⟨as, e1, e2, fun acc => ⟨rfl, fun _ => h3 acc⟩⟩) hl
theorem lc_rng {a : M (List PV)} {tt : M Bool} {te : M PV} {vs : List Nat} {i n : Nat} (P : Nat → Bool) (F : Nat → PV) (ha : a en p = .ok [.int n] p1) (hn : n ≤ big) (hv : vs.elem i = true)
    (h : ∀ j, j < n → ∀ acc, tt (En.set ⟨p1.length + 1, wipeE en.sl vs⟩ i (.int j)) (p1 ++ [.lst acc]) = .ok (P j) (p1 ++ [.lst acc]) ∧ (P j = true → te (En.set ⟨p1.length + 1, wipeE en.sl vs⟩ i (.int j)) (p1 ++ [.lst acc]) = .ok (F j) (p1 ++ [.lst acc]) ∧ bel p1.length (F j) = true)) :
    mLc (itR1 a) (tgN i) tt te vs en p = .ok (.lst (pick P F n)) p1 := by
  have e := lc_idx (it := itR1 a) (g := tgN i) (tt := tt) (te := te) (vs := vs) P F (itR1_ok ha hn) (fun _ => rfl) (fun j hj => by
    have hj2 : j < n := by rw [rng_len] at hj; exact hj
    refine ⟨[(i, .int j)], by rw [rng_get n j hj]; rfl, ?_, h j hj2⟩
    rw [List.all_cons, List.all_nil, Bool.and_true]
    exact hv) (by rw [rng_len]; exact hn)
  rw [rng_len] at e
  exact e
theorem lc_rngm {a : M (List PV)} {te : M PV} {vs : List Nat} {i n : Nat} (F : Nat → PV) (ha : a en p = .ok [.int n] p1) (hn : n ≤ big) (hv : vs.elem i = true)
    (h : ∀ j, j < n → ∀ acc, te (En.set ⟨p1.length + 1, wipeE en.sl vs⟩ i (.int j)) (p1 ++ [.lst acc]) = .ok (F j) (p1 ++ [.lst acc]) ∧ bel p1.length (F j) = true) :
    mLc (itR1 a) (tgN i) mYes te vs en p = .ok (.lst ((List.range n).map F)) p1 := by
  rw [← pick_all]
  exact lc_rng (fun _ => true) F ha hn hv fun j hj acc => ⟨rfl, fun _ => h j hj acc⟩
/-! ### what a def answers -/
theorem fnM_end {fld : Nat → List Str} {N : Nat} {body : S} {xs : List PV} {x : PV} {q : Pool} (hq : q.length = p.length) (t : bel 0 x = true) (h : Ends (body ⟨p.length, xs.map some ++ List.replicate (N - xs.length) none⟩ p) fun c => ∃ r, c = .ret x (q ++ r)) : fnM fld N body xs p = .ok x q := by
  obtain ⟨r, e⟩ := h.h
  exact fnM_cells e hq t
theorem fnM_any {fld : Nat → List Str} {N : Nat} {body : S} {xs : List PV} {Q : PV → Pool → Prop} (h : Ends (body ⟨p.length, xs.map some ++ List.replicate (N - xs.length) none⟩ p) fun c => ∃ x q r, c = .ret x (q ++ r) ∧ q.length = p.length ∧ bel 0 x = true ∧ Q x q) : ∃ x q, fnM fld N body xs p = .ok x q ∧ Q x q := by
  obtain ⟨x, q, r, e, hq, t, k⟩ := h.h
  exact ⟨x, q, fnM_cells e hq t, k⟩
theorem fnO_end {N : Nat} {body : S} {xs acc : List PV} (hb : bels p.length acc = true) (h : Ends (body ⟨p.length, xs.map some ++ List.replicate (N - xs.length) none⟩ p) fun c => ∃ r, c = .ret (.own p.length) (p ++ .lst acc :: r)) : fnO N body xs p = .ok (.own p.length) (p ++ [.lst acc]) := by
  obtain ⟨r, e⟩ := h.h
  have e1 : (p ++ Cell.lst acc :: r)[p.length]? = some (.lst acc) := by simp
  have e2 : (p ++ Cell.lst acc :: r).take (p.length + 1) = p ++ [.lst acc] := by
    rw [List.take_append, List.take_of_length_le (Nat.le_succ _)]
    simp
  unfold fnO
  rw [e]
  dsimp only
  rw [if_pos rfl, e1]
  dsimp only
  rw [if_pos hb, e2]
theorem fnA_end {N : Nat} {body : S} {xs : List PV} {x : PV} {q : Pool} (h : Ends (body ⟨p.length, xs.map some ++ List.replicate (N - xs.length) none⟩ p) fun c => c = .ret x q) : fnA N body xs p = .ok x q := fnA_ret h.h
end
end R

/-! R26: comprehensions of two fors -/
namespace R
open PySem L2
/-- the inner rows are made without a cell that stays -/
def loopC2 (ck : Pool → Bool) (g : T1) (tt : M Bool) (it1 : M It0) (g1 : T1) (tt1 : M Bool) (te : M PV) (vs vs1 : List Nat) (n : Nat) (en : En) : List PV → Pool → Res Unit
  | [], q => if ck q = true then .ok () q else .stuck
  | x :: r, q => if ck q = true then match g x with
    | none => .stuck
    | some as => if as.all (fun a => vs.elem a.1) = true then (tt (en.sets as) q).bind fun b q1 => if b = true then (it1 (en.sets as) q1).bind fun z q2 => if q2.length = n + 1 then match loopC z.ck g1 tt1 te vs1 n ⟨n + 1, wipeE (en.sets as).sl vs1⟩ z.xs q2 with
          | .ok _ q3 => loopC2 ck g tt it1 g1 tt1 te vs vs1 n en r (q3.take (n + 1))
          | _ => .stuck
          else .stuck
        else loopC2 ck g tt it1 g1 tt1 te vs vs1 n en r (q1.take (n + 1))
      else .stuck
    else .stuck
def mLc2 (it : M It0) (g : T1) (tt : M Bool) (it1 : M It0) (g1 : T1) (tt1 : M Bool) (te : M PV) (vs vs1 : List Nat) : M PV := fun en p => (it en p).bind fun z p1 => match loopC2 z.ck g tt it1 g1 tt1 te vs vs1 p1.length ⟨p1.length + 1, wipeE en.sl vs⟩ z.xs (p1 ++ [.lst []]) with
  | .ok _ q => match q[p1.length]? with
    | some (.lst acc) => .ok (.lst acc) (q.take p1.length)
    | _ => .stuck
  | _ => .stuck
section
variable {C : Cn}
/-- a loop that goes on filling a cell -/
theorem wLc_loop {g : T1} {tt : M Bool} {te : M PV} {vs : List Nat} {σ : St} {H1 : Hp} {L : Lv} {w1 : Wd} {q0 : Pool} {en : En} {xs : List PV} {ck : Pool → Bool} {J : It} {Z : Hp → Prop} {n : Nat} (S1 : SimP C.Γ (L.block n) w1 q0 H1) (hq0 : q0.length = n + 1) (E : EnR C.blk (L.block n) w1 en σ) (rJ : ItR C.Γ w1 ck xs J)
    (fin : Res Unit → Prop) (hf : fin (loopC ck g tt te vs n ⟨n + 1, wipeE en.sl vs⟩ xs q0)) (hx : ∀ c v p, ¬ fin (.exc c v p)) (hst : ¬ fin .stuck)
    (D : Addr) (atD : w1.ρ[n]? = some D) (hfin : ∀ w' q H', w1.le w' → SimP C.Γ (L.block n) w' q H' → q.length = n + 1 → fin (.ok () q) → Z H') :
    ∃ W : Nat → Nat → Hp → Prop, (∃ m, W 0 m H1) ∧ ∀ i m H, W i m H →
      (J.stop i H ∧ Z H) ∨ (J.go i H ∧ ∃ Nx : Hp → Prop, (∀ H', Nx H' → ∃ m', m' < m ∧ W (i + 1) m' H') ∧ ∀ x H', J.yld i H x H' → wG C.blk g x (wipe σ vs) H' fun σ2 H2 => wipe σ2 vs = wipe σ vs ∧ wT C.blk tt σ2 H2 fun b H3 =>
        if b = true then wE C.blk te σ2 H3 fun y H4 => ∃ acc, H4 D = some (.lst acc) ∧ acc.length < sizeLine ∧ Nx (upd H4 D (.lst (acc ++ [y]))) else Nx H3) := by
  let enB : En := ⟨n + 1, wipeE en.sl vs⟩
  have lenD : w1.ρ.length = n + 1 := by rw [S1.len, hq0]
  refine ⟨fun i m H => i ≤ xs.length ∧ m = xs.length - i ∧ ∃ w' q, w1.le w' ∧ SimP C.Γ (L.block n) w' q H ∧ q.length = n + 1 ∧ fin (loopC ck g tt te vs n enB (xs.drop i) q), ⟨xs.length, Nat.zero_le _, rfl, w1, q0, Wd.le.refl _, S1, hq0, hf⟩, fun i m H ⟨hi, hm, w', q, l', S', lq, f'⟩ => ?_⟩
  have hk : ck q = true := by
    cases e : ck q with
    | true => rfl
    | false =>
      cases er : xs.drop i with
      | nil =>
        rw [er] at f'
        unfold loopC at f'
        rw [if_neg (by rw [e]; exact Bool.false_ne_true)] at f'
        exact absurd f' hst
      | cons y r =>
        rw [er] at f'
        unfold loopC at f'
        rw [if_neg (by rw [e]; exact Bool.false_ne_true)] at f'
        exact absurd f' hst
  obtain ⟨j1, j2⟩ := rJ _ w' q H l' S' hk i
  cases ex : xs[i]? with
  | none =>
    have hlen : xs.length ≤ i := List.getElem?_eq_none_iff.mp ex
    rw [List.drop_eq_nil_of_le hlen] at f'
    unfold loopC at f'
    rw [if_pos hk] at f'
    exact .inl ⟨j1 ex, hfin w' q H l' S' lq f'⟩
  | some x =>
    obtain ⟨hlt, ex'⟩ := List.getElem?_eq_some_iff.mp ex
    rw [List.drop_eq_getElem_cons hlt, ex'] at f'
    unfold loopC at f'
    rw [if_pos hk] at f'
    obtain ⟨go, yl⟩ := j2 x ex
    refine .inr ⟨go, fun H' => ∃ w2 q2, w1.le w2 ∧ SimP C.Γ (L.block n) w2 q2 H' ∧ q2.length = n + 1 ∧ fin (loopC ck g tt te vs n enB (xs.drop (i + 1)) q2), fun H' z => ⟨m - 1, by omega, by omega, by omega, z⟩, fun v H2 hy => ?_⟩
    obtain ⟨w2, l2, S2, r2⟩ := yl v H2 hy
    cases eg : g x with
    | none =>
      rw [eg] at f'
      exact absurd f' hst
    | some as =>
      rw [eg] at f'
      dsimp only at f'
      by_cases ha : as.all (fun a => vs.elem a.1) = true
      · rw [if_pos ha] at f'
        refine ⟨L.block n, w2, q, x, as, S2, r2, eg, fun bs fb qb => ⟨wipe_setV fun j hj => ?_, ?_⟩⟩
        · rw [fb] at hj
          obtain ⟨a, ma, ea⟩ := List.mem_map.mp hj
          have := List.all_eq_true.mp ha a ma
          rw [ea] at this
          exact List.elem_iff.mp this
        · have E2 : EnR C.blk (L.block n) w2 (enB.sets as) (setV (wipe σ vs) bs) := by
            have E1 : EnR C.blk (L.block n) w1 enB (wipe σ vs) := E.wipe (L' := L.block n) vs
            exact (E1.mono (l'.trans l2)).sets fb qb
          refine ⟨L.block n, w2, q, enB.sets as, S2, E2, ?_⟩
          cases et : tt (enB.sets as) q with
          | stuck =>
            rw [et] at f'
            exact absurd f' hst
          | exc c v p2 =>
            rw [et] at f'
            exact absurd f' (hx _ _ _)
          | ok b q1 =>
            rw [et] at f'
            intro w3 H3 b' l3 S3 rb
            cases rb
            have f' : fin (if b = true then (te (enB.sets as) q1).bind fun y q2 => match q2[n]? with
              | some (.lst acc) => if bel n y = true ∧ acc.length < big then loopC ck g tt te vs n enB (xs.drop (i + 1)) ((q2.take (n + 1)).set n (.lst (acc ++ [y]))) else .stuck
              | _ => .stuck
              else loopC ck g tt te vs n enB (xs.drop (i + 1)) (q1.take (n + 1))) := f'
            have l03 : w1.le w3 := (l'.trans l2).trans l3
            cases b with
            | false =>
              refine iteF ?_
              rw [if_neg Bool.false_ne_true] at f'
              have hl : n + 1 ≤ q1.length := S3.hb
              exact ⟨_, _, S3.le_ice l03 lenD, S3.turn, by rw [List.length_take]; omega, f'⟩
            | true =>
              refine iteT ?_
              rw [if_pos rfl] at f'
              refine ⟨L.block n, w3, q1, enB.sets as, S3, E2.mono l3, ?_⟩
              cases ee : te (enB.sets as) q1 with
              | stuck =>
                rw [ee] at f'
                exact absurd f' hst
              | exc c v p2 =>
                rw [ee] at f'
                exact absurd f' (hx _ _ _)
              | ok y q2 =>
                rw [ee] at f'
                intro w4 H4 u l4 S4 ru
                have f' : fin (match q2[n]? with
                  | some (.lst acc) => if bel n y = true ∧ acc.length < big then loopC ck g tt te vs n enB (xs.drop (i + 1)) ((q2.take (n + 1)).set n (.lst (acc ++ [y]))) else .stuck
                  | _ => .stuck) := f'
                split at f'
                · rename_i acc eacc
                  by_cases hk : bel n y = true ∧ acc.length < big
                  · rw [if_pos hk] at f'
                    have l04 : w1.le w4 := l03.trans l4
                    have hl : n + 1 ≤ q2.length := S4.hb
                    have S5 := S4.turn
                    have l05 : w1.le (w4.ice (n + 1) H4) := S4.le_ice l04 lenD
                    have e5 : (q2.take (n + 1))[n]? = some (.lst acc) := by
                      rw [List.getElem?_take_of_lt (Nat.lt_succ_self n)]
                      exact eacc
                    have d5 : (w4.ice (n + 1) H4).ρ[n]? = some D := pre_get l05.2 atD
                    obtain ⟨g5, zs, eH, rz⟩ := S5.cell n _ D e5 d5
                    rw [Lv.block_eq] at rz g5
                    refine ⟨zs, eH, by rw [← rz.length]; exact big_lt hk.2, _, _, l05, S5.write (c := .lst (acc ++ [y])) (o := .lst (zs ++ [u])) d5 (by rw [Wd.low_G] at g5; exact g5) ⟨by rw [Wd.low_G] at g5 ⊢; exact g5, _, upd_same, ?_⟩, by rw [List.length_set, List.length_take]; omega, f'⟩
                    rw [Lv.block_eq]
                    refine rz.append (Reps.cons ?_ Reps.nil)
                    refine (ru.below hk.1).mono ⟨S4.iced_le (n + 1), ?_⟩
                    show w4.ρ.take n <+: (w4.ρ.take (n + 1)).take n
                    rw [List.take_take, Nat.min_eq_left (Nat.le_succ n)]
                    exact List.prefix_refl _
                  · rw [if_neg hk] at f'
                    exact absurd f' hst
                · exact absurd f' hst
      · rw [if_neg ha] at f'
        exact absurd f' hst
theorem wLc2_core {g : T1} {tt : M Bool} {it1 : M It0} {g1 : T1} {tt1 : M Bool} {te : M PV} {vs vs1 : List Nat} {σ : St} {H1 : Hp} {L : Lv} {w1 : Wd} {p1 : Pool} {en : En} {xs : List PV} {ck : Pool → Bool} {J : It} {Q : VK} (S1 : SimP C.Γ L w1 p1 H1) (E : EnR C L w1 en σ) (rJ : ItR C.Γ w1 ck xs J)
    (fin : Res Unit → Prop) (hf : fin (loopC2 ck g tt it1 g1 tt1 te vs vs1 p1.length ⟨p1.length + 1, wipeE en.sl vs⟩ xs (p1 ++ [.lst []]))) (hx : ∀ c v p, ¬ fin (.exc c v p)) (hst : ¬ fin .stuck)
    (D : Addr) (hD : H1 D = none) (hfin : ∀ w' q H', w1.le w' → SimP C.Γ (L.block p1.length) w' q H' → q.length = p1.length + 1 → w'.ρ[p1.length]? = some D → fin (.ok () q) → Q (.ref D) H') :
    ∃ W : Nat → Nat → Hp → Prop, (∃ m, W 0 m (upd H1 D (.lst []))) ∧ ∀ i m H, W i m H →
      (J.stop i H ∧ Q (.ref D) H) ∨ (J.go i H ∧ ∃ Nx : Hp → Prop, (∀ H', Nx H' → ∃ m', m' < m ∧ W (i + 1) m' H') ∧ ∀ x H', J.yld i H x H' → wG C.blk g x (wipe σ vs) H' fun σ2 H2 => wipe σ2 vs = wipe σ vs ∧ wT C.blk tt σ2 H2 fun b H3 =>
        if b = true then wI C.blk it1 σ2 H3 fun J1 H4 => ∃ W1 : Nat → Nat → Hp → Prop, (∃ m, W1 0 m H4) ∧ ∀ j k H, W1 j k H →
          (J1.stop j H ∧ Nx H) ∨ (J1.go j H ∧ ∃ Nx1 : Hp → Prop, (∀ H', Nx1 H' → ∃ k', k' < k ∧ W1 (j + 1) k' H') ∧ ∀ x H', J1.yld j H x H' → wG C.blk g1 x (wipe σ2 vs1) H' fun σ3 H5 => wipe σ3 vs1 = wipe σ2 vs1 ∧ wT C.blk tt1 σ3 H5 fun b H6 =>
            if b = true then wE C.blk te σ3 H6 fun y H7 => ∃ acc, H7 D = some (.lst acc) ∧ acc.length < sizeLine ∧ Nx1 (upd H7 D (.lst (acc ++ [y]))) else Nx1 H6)
        else Nx H3) := by
  let n := p1.length
  have hn : n = p1.length := rfl
  let enB : En := ⟨n + 1, wipeE en.sl vs⟩
  have le0 : w1.le (w1.cell D) := w1.le_cell D
  have lenD : (w1.cell D).ρ.length = n + 1 := by
    show (w1.ρ ++ [D]).length = _
    rw [List.length_append, S1.len]
    rfl
  have atD : (w1.cell D).ρ[n]? = some D := by
    show (w1.ρ ++ [D])[p1.length]? = some D
    rw [← S1.len]
    simp
  refine ⟨fun i m H => i ≤ xs.length ∧ m = xs.length - i ∧ ∃ w' q, (w1.cell D).le w' ∧ SimP C.Γ (L.block n) w' q H ∧ q.length = n + 1 ∧ fin (loopC2 ck g tt it1 g1 tt1 te vs vs1 n enB (xs.drop i) q), ⟨xs.length, Nat.zero_le _, rfl, w1.cell D, _, Wd.le.refl _, S1.block hD, by rw [List.length_append]; rfl, hf⟩, fun i m H ⟨hi, hm, w', q, l', S', lq, f'⟩ => ?_⟩
  have hk : ck q = true := by
    cases e : ck q with
    | true => rfl
    | false =>
      cases er : xs.drop i with
      | nil =>
        rw [er] at f'
        unfold loopC2 at f'
        rw [if_neg (by rw [e]; exact Bool.false_ne_true)] at f'
        exact absurd f' hst
      | cons y r =>
        rw [er] at f'
        unfold loopC2 at f'
        rw [if_neg (by rw [e]; exact Bool.false_ne_true)] at f'
        exact absurd f' hst
  obtain ⟨j1, j2⟩ := rJ _ w' q H (le0.trans l') S' hk i
  cases ex : xs[i]? with
  | none =>
    have hlen : xs.length ≤ i := List.getElem?_eq_none_iff.mp ex
    rw [List.drop_eq_nil_of_le hlen] at f'
    unfold loopC2 at f'
    rw [if_pos hk] at f'
    exact .inl ⟨j1 ex, hfin w' q H (le0.trans l') S' lq (pre_get l'.2 atD) f'⟩
  | some x =>
    obtain ⟨hlt, ex'⟩ := List.getElem?_eq_some_iff.mp ex
    rw [List.drop_eq_getElem_cons hlt, ex'] at f'
    unfold loopC2 at f'
    rw [if_pos hk] at f'
    obtain ⟨go, yl⟩ := j2 x ex
    refine .inr ⟨go, fun H' => ∃ w2 q2, (w1.cell D).le w2 ∧ SimP C.Γ (L.block n) w2 q2 H' ∧ q2.length = n + 1 ∧ fin (loopC2 ck g tt it1 g1 tt1 te vs vs1 n enB (xs.drop (i + 1)) q2), fun H' z => ⟨m - 1, by omega, by omega, by omega, z⟩, fun v H2 hy => ?_⟩
    obtain ⟨w2, l2, S2, r2⟩ := yl v H2 hy
    cases eg : g x with
    | none =>
      rw [eg] at f'
      exact absurd f' hst
    | some as =>
      rw [eg] at f'
      dsimp only at f'
      by_cases ha : as.all (fun a => vs.elem a.1) = true
      · rw [if_pos ha] at f'
        refine ⟨L.block n, w2, q, x, as, S2, r2, eg, fun bs fb qb => ⟨wipe_setV fun j hj => ?_, ?_⟩⟩
        · rw [fb] at hj
          obtain ⟨a, ma, ea⟩ := List.mem_map.mp hj
          have := List.all_eq_true.mp ha a ma
          rw [ea] at this
          exact List.elem_iff.mp this
        · have E2 : EnR C.blk (L.block n) w2 (enB.sets as) (setV (wipe σ vs) bs) := by
            have E0 : EnR C.blk L w1 en σ := ⟨E.b, E.len, E.val⟩
            have E1 : EnR C.blk (L.block n) w1 enB (wipe σ vs) := E0.wipe (L' := L.block n) vs
            exact (E1.mono ((le0.trans l').trans l2)).sets fb qb
          refine ⟨L.block n, w2, q, enB.sets as, S2, E2, ?_⟩
          cases et : tt (enB.sets as) q with
          | stuck =>
            rw [et] at f'
            exact absurd f' hst
          | exc c v p2 =>
            rw [et] at f'
            exact absurd f' (hx _ _ _)
          | ok b q1 =>
            rw [et] at f'
            intro w3 H3 b' l3 S3 rb
            cases rb
            have f' : fin (if b = true then (it1 (enB.sets as) q1).bind fun z q2 => if q2.length = n + 1 then match loopC z.ck g1 tt1 te vs1 n ⟨n + 1, wipeE (enB.sets as).sl vs1⟩ z.xs q2 with
              | .ok _ q3 => loopC2 ck g tt it1 g1 tt1 te vs vs1 n enB (xs.drop (i + 1)) (q3.take (n + 1))
              | _ => .stuck
              else .stuck
              else loopC2 ck g tt it1 g1 tt1 te vs vs1 n enB (xs.drop (i + 1)) (q1.take (n + 1))) := f'
            have l03 : (w1.cell D).le w3 := (l'.trans l2).trans l3
            cases b with
            | false =>
              refine iteF ?_
              rw [if_neg Bool.false_ne_true] at f'
              have hl : n + 1 ≤ q1.length := S3.hb
              exact ⟨_, _, S3.le_ice l03 lenD, S3.turn, by rw [List.length_take]; omega, f'⟩
            | true =>
              refine iteT ?_
              rw [if_pos rfl] at f'
              refine ⟨L.block n, w3, q1, enB.sets as, S3, E2.mono l3, ?_⟩
              cases ee : it1 (enB.sets as) q1 with
              | stuck =>
                rw [ee] at f'
                exact absurd f' hst
              | exc c v p2 =>
                rw [ee] at f'
                exact absurd f' (hx _ _ _)
              | ok z q2 =>
                rw [ee] at f'
                intro w4 H4 J1 l4 S4 rJ1
                have f' : fin (if q2.length = n + 1 then match loopC z.ck g1 tt1 te vs1 n ⟨n + 1, wipeE (enB.sets as).sl vs1⟩ z.xs q2 with
                  | .ok _ q3 => loopC2 ck g tt it1 g1 tt1 te vs vs1 n enB (xs.drop (i + 1)) (q3.take (n + 1))
                  | _ => .stuck
                  else .stuck) := f'
                by_cases hq : q2.length = n + 1
                · rw [if_pos hq] at f'
                  have l04 : (w1.cell D).le w4 := l03.trans l4
                  refine wLc_loop (Z := fun H' => ∃ w2 q2, (w1.cell D).le w2 ∧ SimP C.Γ (L.block n) w2 q2 H' ∧ q2.length = n + 1 ∧ fin (loopC2 ck g tt it1 g1 tt1 te vs vs1 n enB (xs.drop (i + 1)) q2)) S4 hq (E2.mono (l3.trans l4)) rJ1
                    (fun r => fin (match r with
                      | .ok _ q3 => loopC2 ck g tt it1 g1 tt1 te vs vs1 n enB (xs.drop (i + 1)) (q3.take (n + 1))
                      | _ => .stuck)) f' (fun _ _ _ y => hst y) (fun y => hst y) D (pre_get l04.2 atD) fun w5 q5 H5 l5 S5 lq5 f5 => ?_
                  exact ⟨_, _, S5.le_ice (l04.trans l5) lenD, S5.turn, by rw [List.length_take]; omega, f5⟩
                · rw [if_neg hq] at f'
                  exact absurd f' hst
      · rw [if_neg ha] at f'
        exact absurd f' hst
theorem wE_lc2 {it : M It0} {g : T1} {tt : M Bool} {it1 : M It0} {g1 : T1} {tt1 : M Bool} {te : M PV} {vs vs1 : List Nat} : ∀ σ H Q, wE C (mLc2 it g tt it1 g1 tt1 te vs vs1) σ H Q → tLc2 (wI C it) (wG C.blk g) (wT C.blk tt) (wI C.blk it1) (wG C.blk g1) (wT C.blk tt1) (wE C.blk te) vs vs1 σ H Q := fun σ H Q ⟨L, w, p, en, S, E, h⟩ => by
  refine ⟨L, w, p, en, S, E, h.bind fun z p1 w1 H1 J l1 S1 rJ h1 => fun D hD => ?_⟩
  refine wLc2_core (Q := Q) S1 (E.mono l1) rJ (fun r => Post C L w1 σ (RV C) (match r with
    | .ok _ q => match q[p1.length]? with
      | some (.lst acc) => .ok (.lst acc) (q.take p1.length)
      | _ => .stuck
    | _ => .stuck) Q) h1 (fun _ _ _ z => z) (fun z => z) D hD fun w' q H' l' S' lq dq f => ?_
  dsimp only at f
  split at f
  · rename_i acc eacc
    obtain ⟨g, vs, eH, r⟩ := S'.cell _ _ D eacc dq
    rw [Lv.block_eq] at r
    have S2 := S'.unblockD.ice S1.hb S1.hlo S1.hm
    have lw : (w'.low (some p1.length)).le (w'.ice p1.length H') := ⟨S'.iced_le p1.length, List.prefix_refl _⟩
    refine f _ H' _ (S'.le_ice l' S1.len) S2 ⟨D, vs, rfl, ?_, r.mono lw⟩
    show iced w' p1.length H' D = _
    rw [iced_at (Nat.le_refl _) dq]
    exact eH
  · exact f.elim
end
section
variable {X : Cx} {C : Cn} {pos : Pos}
theorem re_lc2 {elt tg iter tg1 iter1 : Expr} {ifs ifs1 : List Expr} {scope : Scope} {own : List (Str × Nat)} {vs1 : List Nat} {it it1 : M It0} {g g1 : T1} {tt tt1 : M Bool} {te : M PV} (hc : X.calm = true) (hN : X.N.Nodup) (hi : RI X C tg iter it) (ok : BlkOk X.N X.env.scope scope own) (hv : ∀ i ∈ vs1, i ∈ own.map (·.2))
    (hg : ∀ (s : Shared) (H : Hp) (B : Addr) (cl : List (Str × Addr)) (fp : List Addr), RG (X.blk s H scope (compEnvC scope cl B X.env) fp) C.blk tg g) (ht : ∀ (s : Shared) (H : Hp) (B : Addr) (cl : List (Str × Addr)) (fp : List Addr), RTs (X.blk s H scope (compEnvC scope cl B X.env) fp) C.blk ifs tt)
    (hi1 : ∀ (s : Shared) (H : Hp) (B : Addr) (cl : List (Str × Addr)) (fp : List Addr), RI (X.blk s H scope (compEnvC scope cl B X.env) fp) C.blk tg1 iter1 it1)
    (hg1 : ∀ (s : Shared) (H : Hp) (B : Addr) (cl : List (Str × Addr)) (fp : List Addr), RG (X.blk s H scope (compEnvC scope cl B X.env) fp) C.blk tg1 g1) (ht1 : ∀ (s : Shared) (H : Hp) (B : Addr) (cl : List (Str × Addr)) (fp : List Addr), RTs (X.blk s H scope (compEnvC scope cl B X.env) fp) C.blk ifs1 tt1)
    (he : ∀ (s : Shared) (H : Hp) (B : Addr) (cl : List (Str × Addr)) (fp : List Addr), RE (X.blk s H scope (compEnvC scope cl B X.env) fp) C.blk elt te) (hf : ∀ x : Value, foldedSetIterable iter X.env x = pure x := by intro _; rfl) (hf1 : ∀ (env : Env) (x : Value), foldedSetIterable iter1 env x = pure x := by intro _ _; rfl) :
    RE X C (.ListComp elt [{ target := tg, iter := iter, ifs := ifs, is_async := 0 }, { target := tg1, iter := iter1, ifs := ifs1, is_async := 0 }] scope pos) (mLc2 it g tt it1 g1 tt1 te (own.map (·.2)) vs1) := (pe_lc2 hc hN hi ok hv hg ht hi1 hg1 ht1 he hf hf1).imp wE_lc2
theorem rs_setLc2 {i : Nat} {y : Str} {py spos : Pos} {elt tg iter tg1 iter1 : Expr} {ifs ifs1 : List Expr} {scope : Scope} {own : List (Str × Nat)} {vs1 : List Nat} {it it1 : M It0} {g g1 : T1} {tt tt1 : M Bool} {te : M PV} (hc : X.calm = true) (hN : X.N.Nodup) (hy : X.N[i]? = some y) (hl : X.env.scope.names.lookup y = some .local)
    (hsw : swapsWith (.ListComp elt [{ target := tg, iter := iter, ifs := ifs, is_async := 0 }, { target := tg1, iter := iter1, ifs := ifs1, is_async := 0 }] scope pos) (some (.Name y py)) spos.line X.env = pure true) (hi : RI X C tg iter it) (ok : BlkOk X.N X.env.scope scope own) (hv : ∀ i ∈ vs1, i ∈ own.map (·.2))
    (hg : ∀ (s : Shared) (H : Hp) (B : Addr) (cl : List (Str × Addr)) (fp : List Addr), RG (X.blk s H scope (compEnvC scope cl B X.env) fp) C.blk tg g) (ht : ∀ (s : Shared) (H : Hp) (B : Addr) (cl : List (Str × Addr)) (fp : List Addr), RTs (X.blk s H scope (compEnvC scope cl B X.env) fp) C.blk ifs tt)
    (hi1 : ∀ (s : Shared) (H : Hp) (B : Addr) (cl : List (Str × Addr)) (fp : List Addr), RI (X.blk s H scope (compEnvC scope cl B X.env) fp) C.blk tg1 iter1 it1)
    (hg1 : ∀ (s : Shared) (H : Hp) (B : Addr) (cl : List (Str × Addr)) (fp : List Addr), RG (X.blk s H scope (compEnvC scope cl B X.env) fp) C.blk tg1 g1) (ht1 : ∀ (s : Shared) (H : Hp) (B : Addr) (cl : List (Str × Addr)) (fp : List Addr), RTs (X.blk s H scope (compEnvC scope cl B X.env) fp) C.blk ifs1 tt1)
    (he : ∀ (s : Shared) (H : Hp) (B : Addr) (cl : List (Str × Addr)) (fp : List Addr), RE (X.blk s H scope (compEnvC scope cl B X.env) fp) C.blk elt te) (hf : ∀ x : Value, foldedSetIterable iter X.env x = pure x := by intro _; rfl) (hf1 : ∀ (env : Env) (x : Value), foldedSetIterable iter1 env x = pure x := by intro _ _; rfl) :
    RS X C (.Assign [.Name y py] (.ListComp elt [{ target := tg, iter := iter, ifs := ifs, is_async := 0 }, { target := tg1, iter := iter1, ifs := ifs1, is_async := 0 }] scope pos) spos) (sSet (mLc2 it g tt it1 g1 tt1 te (own.map (·.2)) vs1) i) := (ps_setLc2 hc hN hy hl hsw hi ok hv hg ht hi1 hg1 ht1 he hf hf1).imp fun D σ H ⟨L, w, p, en, S, E, h⟩ =>
  wE_lc2 σ H _ ⟨L, w, p, en, S, E, h.run E fun x p1 w1 H1 v l1 S1 r1 h1 => h1 w1 H1 _ (Wd.le.refl w1) S1 ((E.mono l1).set r1)⟩
end
end R

/-! R27: zip of three, tuples or lists -/
namespace R
open PySem L2 PySem.Spec PyProof.Rows
/-- a tuple (t) or a list -/
def SqK (K : PySem.W.Frag) (H : Hp) : Bool → Addr → List V → Prop
  | true => SqT K H
  | false => SqL K H
def IterK (h : Heap) : Bool → Addr → Addr → Nat → Prop
  | true => fun i a k => h.IsTupleIter i a k
  | false => fun i a k => h.IsListIter i a k
def IsK (h : Heap) : Bool → Addr → Array Value → Prop
  | true => fun a its => h.IsTuple a its
  | false => fun a its => h.IsList a its
def itO : Bool → Addr → Obj
  | true => fun a => { cls := .type "tuple_iterator", data := .fields #[.ref a, .int 0 0] }
  | false => fun a => { cls := .type "list_iterator", data := .fields #[.ref a, .int 0 0] }
theorem drawsK {prog : Program} {w : World} {A : Around} (hh : A.handled = none) (t : Bool) (it a : Addr) (hne : a ≠ it) (items : Array Value) : Draws prog w A it [it, a] items.size (fun i v => items[i]? = some v) (fun i h => IterK h t it a i ∧ IsK h t a items) := by
  cases t
  · exact Draws.list hh it a hne items
  · exact Draws.tuple hh it a hne items
theorem beginsK (t : Bool) (a : Addr) (items : Array Value) : Begins (.ref a) (itO t a) fun h => IsK h t a items := by
  cases t
  · exact begins_list a items
  · exact begins_tuple a items
theorem iterK_obj {h : Heap} {t : Bool} {i a : Addr} {k : Nat} (x : IterK h t i a k) : ∃ o, h.get? i = some o ∧ ∀ v, o.data ≠ .cell v := by
  cases t
  · obtain ⟨o, e, _, d⟩ := x
    exact ⟨o, e, fun v q => by rw [d] at q; cases q⟩
  · obtain ⟨o, e, _, d⟩ := x
    exact ⟨o, e, fun v q => by rw [d] at q; cases q⟩
theorem iterK_at {h h' : Heap} {t : Bool} {i a : Addr} {k : Nat} (x : IterK h t i a k) (hk : ∀ o, h.get? i = some o → h'.get? i = some o) : IterK h' t i a k := by
  cases t
  · exact Heap.IsListIter.at x hk
  · exact Heap.IsTupleIter.at x hk
theorem iterK_new {h : Heap} {t : Bool} {i a : Addr} (e : h.get? i = some (itO t a)) : IterK h t i a 0 := by
  cases t
  · exact ⟨_, e, rfl, rfl⟩
  · exact ⟨_, e, rfl, rfl⟩
section
variable {X : Cx} {pins : List (Addr × Obj)} {s : Shared} {σ : L2.St} {H : Hp}
theorem invK (I : L2.Inv X pins σ H s) {t : Bool} {a : Addr} {xs : List V} (h : SqK X.K H t a xs) : ∃ its : List Value, Vals xs its ∧ IsK s.heap t a its.toArray ∧ a < s.heap.objs.size := by
  cases t
  · obtain ⟨its, r, p, _⟩ := I.list h
    exact ⟨its, r, p.isList, p.lt⟩
  · obtain ⟨its, r, p, _⟩ := I.tuple h
    exact ⟨its, r, p, by obtain ⟨o, ho, _⟩ := id p; exact Heap.lt_size ho⟩
theorem injK (I : L2.Inv X pins σ H s) {t : Bool} {a : Addr} {xs ys : List V} (h : SqK X.K H t a xs) (h' : SqK X.K H t a ys) : xs = ys := by
  cases t
  · exact I.list_inj h h'
  · exact I.tuple_inj h h'
end
def Itz3 (K : PySem.W.Frag) (t1 t2 t3 : Bool) (a b c : Addr) (n1 n2 n3 : Nat) : It :=
  ⟨fun i H => ∃ (xs ys zs : List V) (x y z : V), SqK K H t1 a xs ∧ SqK K H t2 b ys ∧ SqK K H t3 c zs ∧ (xs.length = n1 ∧ ys.length = n2 ∧ zs.length = n3) ∧ xs[i]? = some x ∧ ys[i]? = some y ∧ zs[i]? = some z,
    fun i H v H' => ∃ T x y z, v = .ref T ∧ H T = none ∧ H' = upd H T (.tup [x, y, z]) ∧ (∀ xs, SqK K H t1 a xs → xs[i]? = some x) ∧ (∀ ys, SqK K H t2 b ys → ys[i]? = some y) ∧ ∀ zs, SqK K H t3 c zs → zs[i]? = some z,
    fun i H => ∃ xs ys zs : List V, SqK K H t1 a xs ∧ SqK K H t2 b ys ∧ SqK K H t3 c zs ∧ (xs.length = n1 ∧ ys.length = n2 ∧ zs.length = n3) ∧ (n1 ≤ i ∨ n2 ≤ i ∨ n3 ≤ i)⟩
theorem turn_zip3 {P : Program} {w : World} {K : PySem.W.Frag} {elts : List Expr} {kk : Nat} {tpos : Pos} {t1 t2 t3 : Bool} {a b c z TI TO i1 i2 i3 : Addr} {n1 n2 n3 : Nat} (D : ZipSep3 z TI TO i1 i2 i3 [i1, a] [i2, b] [i3, c]) (na : a ≠ i1) (nb : b ≠ i2) (nc : c ≠ i3) :
    Turn P w K (.Tuple elts kk tpos) (Itz3 K t1 t2 t3 a b c n1 n2 n3) [z, TI, TO, i1, i2, i3] z (fun i h => IsZip h z TI TO .none ∧ IsTupOf3 h TI (.ref i1) (.ref i2) (.ref i3) ∧ (∃ x y u, IsTupOf3 h TO x y u) ∧ (IterK h t1 i1 a i ∧ IterK h t2 i2 b i ∧ IterK h t3 i3 c i) ∧ i ≤ n1 ∧ i ≤ n2 ∧ i ≤ n3) where
  mem := List.mem_cons_self
  obj := fun i h st c hc => by
    obtain ⟨hz, hTI, ⟨x, y, u, hTO⟩, ⟨h1, h2, h3⟩, _⟩ := st
    simp only [List.mem_cons, List.not_mem_nil, or_false] at hc
    rcases hc with rfl | rfl | rfl | rfl | rfl | rfl
    · exact ⟨_, hz, fun v q => nomatch q⟩
    · exact ⟨_, hTI, fun v q => nomatch q⟩
    · exact ⟨_, hTO, fun v q => nomatch q⟩
    · exact iterK_obj h1
    · exact iterK_obj h2
    · exact iterK_obj h3
  keep := fun i h h' st k => by
    obtain ⟨hz, hTI, ⟨x, y, u, hTO⟩, ⟨h1, h2, h3⟩, l⟩ := st
    exact ⟨k z (by simp) _ hz, k TI (by simp) _ hTI, ⟨x, y, u, k TO (by simp) _ hTO⟩, ⟨iterK_at h1 fun o q => k i1 (by simp) o q, iterK_at h2 fun o q => k i2 (by simp) o q, iterK_at h3 fun o q => k i3 (by simp) o q⟩, l⟩
  item := by
    intro X hP hw hK hc i pins s σ H E I hf st hg
    subst hP hw hK
    obtain ⟨hz, hTI, ⟨x0, y0, u0, hTO⟩, ⟨h1, h2, h3⟩, l1, l2, l3⟩ := st
    obtain ⟨xs, ys, zs, x, y, u, hqx, hqy, hqz, ⟨ln, lm, lk⟩, hx, hy, hu⟩ := hg
    obtain ⟨its, rv, p, _⟩ := invK I hqx
    obtain ⟨its2, rv2, p2, _⟩ := invK I hqy
    obtain ⟨its3, rv3, p3, _⟩ := invK I hqz
    obtain ⟨v1, hv1, ru⟩ := rv.get hx
    obtain ⟨v2, hv2, ru2⟩ := rv2.get hy
    obtain ⟨v3, hv3, ru3⟩ := rv3.get hu
    have hzl : z < s.heap.objs.size := Heap.lt_size hz
    have k1 : i < its.toArray.size := by simpa using (List.getElem?_eq_some_iff.mp hv1).1
    have k2 : i < its2.toArray.size := by simpa using (List.getElem?_eq_some_iff.mp hv2).1
    have k3 : i < its3.toArray.size := by simpa using (List.getElem?_eq_some_iff.mp hv3).1
    have D1 := drawsK (prog := X.prog) (w := X.w) (A := X.A.in1) (I.ok.hd hc) t1 i1 a na its.toArray
    have D2 := drawsK (prog := X.prog) (w := X.w) (A := X.A.in1) (I.ok.hd hc) t2 i2 b nb its2.toArray
    have D3 := drawsK (prog := X.prog) (w := X.w) (A := X.A.in1) (I.ok.hd hc) t3 i3 c nc its3.toArray
    refine wpAny_pyNext_zipD3_item D D1 D2 D3 hz hTI hTO ⟨h1, p⟩ ⟨h2, p2⟩ ⟨h3, p3⟩ k1 k2 k3 fun x1 x2 x3 h' tk P1 P2 P3 z' TO' st1 st2 st3 hT hsz hk => ?_
    have e1 : x1 = v1 := by
      have e : its.toArray[i]? = some v1 := by simpa using hv1
      exact Option.some.inj (P1.symm.trans e)
    have e2 : x2 = v2 := by
      have e : its2.toArray[i]? = some v2 := by simpa using hv2
      exact Option.some.inj (P2.symm.trans e)
    have e3 : x3 = v3 := by
      have e : its3.toArray[i]? = some v3 := by simpa using hv3
      exact Option.some.inj (P3.symm.trans e)
    subst e1
    subst e2
    subst e3
    refine ⟨_, rfl, wpAny_letOwnedTupleGo_zip (s := { s with heap := h', toks := tk }) z' fun h'' z'' sb => ?_⟩
    have hT2 : h''.get? s.heap.objs.size = some { cls := .type "tuple", data := .seq #[x1, x2, x3] } := (sb.2 _ (Nat.ne_of_gt hzl)).trans hT
    have new : ObjOk X.prog X.w (upd H s.heap.objs.size (.tup [x, y, u])) h'' s.heap.objs.size (.tup [x, y, u]) :=
      ⟨by show 3 ≤ sizeLine; decide, [x1, x2, x3], .cons ru (.cons ru2 (.cons ru3 .nil)), ⟨_, hT2, rfl, _, rfl⟩⟩
    have I1 : L2.Inv X pins σ (upd H s.heap.objs.size (.tup [x, y, u])) { s with heap := h'', toks := tk } :=
      I.turnedNew (t' := tk) (ch := [z, TI, TO, i1, i2, i3]) (fun c o hb q => (sb.2 c (fun q' => hb (by simp [q']))).trans (hk c o (fun q' => hb (by simp [q'])) (fun q' => hb (by simp [q'])) (fun q' => hb (by simp [q'])) (fun q' => hb (by simp [q'])) (fun q' => hb (by simp [q'])) q)) hf (Nat.le_refl _) new
    have i1z : i1 ≠ z := fun q => D.zf1 (by rw [← q]; exact List.mem_cons_self)
    have i2z : i2 ≠ z := fun q => D.zf2 (by rw [← q]; exact List.mem_cons_self)
    have i3z : i3 ≠ z := fun q => D.zf3 (by rw [← q]; exact List.mem_cons_self)
    refine ⟨.ref s.heap.objs.size, _, I1, rfl, ⟨_, x, y, u, rfl, I.hok.fresh (Nat.le_refl _), rfl, fun l hl => by rw [injK I hl hqx]; exact hx, fun l hl => by rw [injK I hl hqy]; exact hy, fun l hl => by rw [injK I hl hqz]; exact hu⟩, ⟨z'', ?_, ⟨x1, x2, x3, ?_⟩, ⟨?_, ?_, ?_⟩, ?_, ?_, ?_⟩, fun c hcm => ?_⟩
    · exact (sb.2 _ D.TIz).trans (hk _ _ D.TIz D.TITO D.TIi1 D.TIi2 D.TIi3 hTI)
    · exact (sb.2 _ D.TOz).trans TO'
    · exact iterK_at st1.1 fun o q => (sb.2 _ i1z).trans q
    · exact iterK_at st2.1 fun o q => (sb.2 _ i2z).trans q
    · exact iterK_at st3.1 fun o q => (sb.2 _ i3z).trans q
    · rw [← ln]
      exact (List.getElem?_eq_some_iff.mp hx).1
    · rw [← lm]
      exact (List.getElem?_eq_some_iff.mp hy).1
    · rw [← lk]
      exact (List.getElem?_eq_some_iff.mp hu).1
    · have hlt : c < s.heap.objs.size := by
        simp only [List.mem_cons, List.not_mem_nil, or_false] at hcm
        rcases hcm with rfl | rfl | rfl | rfl | rfl | rfl
        · exact hzl
        · exact Heap.lt_size hTI
        · exact Heap.lt_size hTO
        · obtain ⟨_, e1, _⟩ := iterK_obj h1
          exact Heap.lt_size e1
        · obtain ⟨_, e2, _⟩ := iterK_obj h2
          exact Heap.lt_size e2
        · obtain ⟨_, e3, _⟩ := iterK_obj h3
          exact Heap.lt_size e3
      rw [upd_ne (Nat.ne_of_lt hlt)]
      exact (hf c hcm).1
  done := by
    intro X hP hw hK hc i pins s σ H E I hf st hg
    subst hP hw hK
    obtain ⟨hz, hTI, ⟨x0, y0, u0, hTO⟩, ⟨h1, h2, h3⟩, l1, l2, l3⟩ := st
    obtain ⟨xs, ys, zs, hqx, hqy, hqz, ⟨ln, lm, lk⟩, hend⟩ := hg
    obtain ⟨its, rv, p, _⟩ := invK I hqx
    obtain ⟨its2, rv2, p2, _⟩ := invK I hqy
    obtain ⟨its3, rv3, p3, _⟩ := invK I hqz
    have D1 := drawsK (prog := X.prog) (w := X.w) (A := X.A.in1) (I.ok.hd hc) t1 i1 a na its.toArray
    have D2 := drawsK (prog := X.prog) (w := X.w) (A := X.A.in1) (I.ok.hd hc) t2 i2 b nb its2.toArray
    have D3 := drawsK (prog := X.prog) (w := X.w) (A := X.A.in1) (I.ok.hd hc) t3 i3 c nc its3.toArray
    have s1 : its.toArray.size = n1 := by rw [List.size_toArray, ← rv.length, ln]
    have s2 : its2.toArray.size = n2 := by rw [List.size_toArray, ← rv2.length, lm]
    have s3 : its3.toArray.size = n3 := by rw [List.size_toArray, ← rv3.length, lk]
    refine wpAny_pyNext_zipD3_end D D1 D2 D3 hz hTI hTO ⟨h1, p⟩ ⟨h2, p2⟩ ⟨h3, p3⟩ (by omega) (by omega) (by omega) (by omega) fun h' tk hk => ⟨rfl, I.turnedL (t' := tk) (ch := [z, TI, TO, i1, i2, i3]) (fun c o hb q =>
      hk c o (fun q' => hb (by simp [q'])) (fun q' => hb (by simp [q'])) (fun q' => hb (by simp [q'])) (fun q' => hb (by simp [q'])) (fun q' => hb (by simp [q'])) q) hf⟩
  self := fun A i s Q E st h => wpAny_pyIter_zip st.1 h
theorem not2 {x p q : Nat} (h1 : x ≠ p) (h2 : x ≠ q) : x ∉ [p, q] := fun z => by
  rcases List.mem_cons.mp z with z | z
  · exact h1 z
  · exact h2 (List.mem_singleton.mp z)
theorem sep6 (N a b c : Nat) (la : a < N) (lb : b < N) (lc : c < N) : ZipSep3 (N + 5) (N + 3) (N + 4) N (N + 1) (N + 2) [N, a] [N + 1, b] [N + 2, c] where
  TIz := fun z => absurd (show N + 3 = N + 5 from z) (by omega)
  TOz := fun z => absurd (show N + 4 = N + 5 from z) (by omega)
  TITO := fun z => absurd (show N + 3 = N + 4 from z) (by omega)
  TIi1 := fun z => absurd (show N + 3 = N from z) (by omega)
  mem1 := List.mem_cons_self
  zf1 := not2 (by omega) (by omega)
  Tf1 := not2 (by omega) (by omega)
  TIi2 := fun z => absurd (show N + 3 = N + 1 from z) (by omega)
  mem2 := List.mem_cons_self
  zf2 := not2 (by omega) (by omega)
  Tf2 := not2 (by omega) (by omega)
  TIi3 := fun z => absurd (show N + 3 = N + 2 from z) (by omega)
  mem3 := List.mem_cons_self
  zf3 := not2 (by omega) (by omega)
  Tf3 := not2 (by omega) (by omega)
  sep1_2 := not2 (by omega) (by omega)
  sep1_3 := not2 (by omega) (by omega)
  sep2_1 := not2 (by omega) (by omega)
  sep2_3 := not2 (by omega) (by omega)
  sep3_1 := not2 (by omega) (by omega)
  sep3_2 := not2 (by omega) (by omega)
section
variable {X : Cx} {C : Cn} {pos : Pos}
def iZip3 (K : PySem.W.Frag) (ta : TA) : TI := fun σ H R => ta σ H fun vs H1 => ∃ t1 t2 t3 a b c xs ys zs, vs = [.ref a, .ref b, .ref c] ∧ SqK K H1 t1 a xs ∧ SqK K H1 t2 b ys ∧ SqK K H1 t3 c zs ∧ R (Itz3 K t1 t2 t3 a b c xs.length ys.length zs.length) H1
theorem vals3 {a b c : V} {us : List Value} (h : Vals [a, b, c] us) : ∃ u1 u2 u3, us = [u1, u2, u3] ∧ RelV a u1 ∧ RelV b u2 ∧ RelV c u3 := by
  cases h with
  | cons r1 h =>
    obtain ⟨u2, u3, rfl, r2, r3⟩ := vals2 h
    exact ⟨_, _, _, rfl, r1, r2, r3⟩
theorem pi_zip3 {e e2 e3 : Expr} {ta : TA} {p tpos : Pos} {elts : List Expr} {kk : Nat} (hg : Gl X "zip") (hm : X.mg "zip" = none) (ha : PA X [e, e2, e3] ta)
    (hs : starEach [e, e2, e3] X.env = (false, eval e X.env) :: starEach [e2, e3] X.env := by rfl) (hpl : (backTo pos (starEach [e2, e3] X.env)).any (·.1) = false := by rfl) :
    PI X (.Tuple elts kk tpos) (.Call (.Name "zip" p) [e, e2, e3] [] pos) (iZip3 X.K ta) := by
  refine ⟨fun pins s σ H R I h => ?_⟩
  refine Call_ (ld_blt I hg hm Boot.«zip» (PyProof.Rows.callWith_type1 (thn (ha.run pos pins s σ H _ I h) fun us s1 ⟨vs, H1, I1, r1, t1, t2, t3, a, b, c, xs, ys, zs, ex, hqx, hqy, hqz, q⟩ => ?_) hs hpl))
  subst ex
  obtain ⟨u, u', u'', rfl, r, r', r''⟩ := vals3 r1
  cases r
  cases r'
  cases r''
  obtain ⟨its, rv, p1, la⟩ := invK I1 hqx
  obtain ⟨its2, rv2, p2, lb⟩ := invK I1 hqy
  obtain ⟨its3, rv3, p3, lc⟩ := invK I1 hqz
  refine zip_begins3 (beginsK t1 a its.toArray) (beginsK t2 b its2.toArray) (beginsK t3 c its3.toArray) p1 p2 p3 fun h' hz hTI hTO h1 h2 h3 hsz hk => wpAny_pyIter_zip hz ?_
  have I2 : L2.Inv X pins σ H1 { s1 with heap := h' } := I1.kept (t' := s1.toks) hk
  have D := sep6 s1.heap.objs.size a b c la lb lc
  refine ⟨s1.heap.objs.size + 5, [s1.heap.objs.size + 5, s1.heap.objs.size + 3, s1.heap.objs.size + 4, s1.heap.objs.size, s1.heap.objs.size + 1, s1.heap.objs.size + 2], _, _, H1, rfl, I2, turn_zip3 D (Nat.ne_of_lt la) (Nat.ne_of_lt (Nat.lt_succ_of_lt lb)) (Nat.ne_of_lt (Nat.lt_succ_of_lt (Nat.lt_succ_of_lt lc))), ⟨hz, hTI, ⟨_, _, _, hTO⟩, ⟨iterK_new h1, iterK_new h2, iterK_new h3⟩, Nat.zero_le _, Nat.zero_le _, Nat.zero_le _⟩, fun c hc => ?_, q⟩
  have hle : s1.heap.objs.size ≤ c := by
    simp only [List.mem_cons, List.not_mem_nil, or_false] at hc
    rcases hc with rfl | rfl | rfl | rfl | rfl | rfl
    · exact Nat.le_add_right _ _
    · exact Nat.le_add_right _ _
    · exact Nat.le_add_right _ _
    · exact Nat.le_refl _
    · exact Nat.le_add_right _ _
    · exact Nat.le_add_right _ _
  exact I1.fpOk hle (I1.hok.fresh hle)
def zip3Z : List PV → List PV → List PV → List PV
  | x :: xs, y :: ys, z :: zs => .tup [x, y, z] :: zip3Z xs ys zs
  | _, _, _ => []
theorem zip3Z_get : ∀ (xs ys zs : List PV) (i : Nat), (zip3Z xs ys zs)[i]? = match xs[i]?, ys[i]?, zs[i]? with
    | some x, some y, some z => some (.tup [x, y, z])
    | _, _, _ => none
  | [], ys, zs, i => by simp [zip3Z]
  | x :: xs, [], zs, i => by
    simp only [zip3Z, List.getElem?_nil]
    cases (x :: xs)[i]? <;> rfl
  | x :: xs, y :: ys, [], i => by
    simp only [zip3Z, List.getElem?_nil]
    cases (x :: xs)[i]? <;> cases (y :: ys)[i]? <;> rfl
  | x :: xs, y :: ys, z :: zs, 0 => by simp [zip3Z]
  | x :: xs, y :: ys, z :: zs, i + 1 => by
    simp only [zip3Z, List.getElem?_cons_succ]
    exact zip3Z_get xs ys zs i
/-- what a thing's items are, while ck says so -/
def Held (Γ : Cfg) (w : Wd) (ck : Pool → Bool) (t : Bool) (a : Addr) (xs : List PV) : Prop := ∀ L w' p H, w.le w' → SimP Γ L w' p H → ck p = true → ∃ vs, SqK Γ.K H t a vs ∧ Reps Γ w' xs vs
/-- a tuple or a list, own ones too -/
def zk (p : Pool) : PV → Option (List PV × (Pool → Bool) × Bool)
  | .tup xs => some (xs, noCk, true)
  | .own k => match p[k]? with
    | some (.lst xs) => some (xs, ownCk k xs, false)
    | _ => none
  | x => match getZL x with
    | some xs => some (xs, noCk, false)
    | none => none
theorem pvEq_reflA : ∀ x : PV, pvEq x x = true := fun x => by
  have h : (∀ x : PV, pvEq x x = true) ∧ ∀ xs : List PV, pvEqs xs xs = true := by
    constructor
    · intro x
      induction x using PV.rec (motive_2 := fun xs => pvEqs xs xs = true) with
      | non => rfl
      | nil => rfl
      | cons x xs h1 h2 => unfold pvEqs; rw [h1, h2]; rfl
      | tup xs h => unfold pvEq; exact h
      | lst xs h => unfold pvEq; exact h
      | obj c xs h => unfold pvEq; rw [h]; simp
      | xv c x h => unfold pvEq; rw [h]; simp
      | _ => unfold pvEq; simp
    · intro xs
      induction xs using PV.rec_1 (motive_1 := fun x => pvEq x x = true) with
      | non => rfl
      | nil => rfl
      | cons x xs h1 h2 => unfold pvEqs; rw [h1, h2]; rfl
      | tup xs h => unfold pvEq; exact h
      | lst xs h => unfold pvEq; exact h
      | obj c xs h => unfold pvEq; rw [h]; simp
      | xv c x h => unfold pvEq; rw [h]; simp
      | _ => unfold pvEq; simp
  exact h.1 x
theorem pvEqs_reflA : ∀ xs : List PV, pvEqs xs xs = true
  | [] => rfl
  | x :: xs => by unfold pvEqs; rw [pvEq_reflA x, pvEqs_reflA xs]; rfl
theorem ownCk_of {k : Nat} {xs : List PV} {q : Pool} (h : q[k]? = some (.lst xs)) : ownCk k xs q = true := by
  unfold ownCk
  rw [h]
  exact pvEqs_reflA xs
theorem zk_ok {Γ : Cfg} {L : Lv} {w : Wd} {p : Pool} {H : Hp} {x : PV} {v : V} {xs : List PV} {ck : Pool → Bool} {t : Bool} (S : SimP Γ L w p H) (r : Rep Γ w x v) (e : zk p x = some (xs, ck, t)) : ∃ a, v = .ref a ∧ Held Γ w ck t a xs ∧ ck p = true := by
  unfold zk at e
  split at e
  · cases e
    obtain ⟨a, vs, rfl, hq, rr⟩ := r
    exact ⟨a, rfl, fun L w' p' H' l S' _ => ⟨vs, seqT_mono (fun b o e => S'.sub b o (l.1 b o e)) hq, rr.mono l⟩, rfl⟩
  · rename_i k
    split at e
    · rename_i ys ek
      cases e
      obtain ⟨a, ha, rfl⟩ := r
      refine ⟨a, rfl, fun L w' p' H' l S' hc => ?_, ownCk_of ek⟩
      exact ownCk_at S' (pre_get l.2 ha) hc
    · cases e
  · split at e
    · rename_i ys ey
      cases e
      obtain ⟨b, us, rfl, hq2, rr2⟩ := getZL_ok r ey
      exact ⟨b, rfl, fun L w' p' H' l S' _ => ⟨us, seqL_mono (fun b o e => S'.sub b o (l.1 b o e)) hq2, rr2.mono l⟩, rfl⟩
    · cases e
theorem itR_zip3 {Γ : Cfg} {w : Wd} {c1 c2 c3 : Pool → Bool} {t1 t2 t3 : Bool} {a b c : Addr} {xs ys zs : List PV} (h1 : Held Γ w c1 t1 a xs) (h2 : Held Γ w c2 t2 b ys) (h3 : Held Γ w c3 t3 c zs) : ItR Γ w (fun q => c1 q && c2 q && c3 q) (zip3Z xs ys zs) (Itz3 Γ.K t1 t2 t3 a b c xs.length ys.length zs.length) := fun L w' p H l S hc i => by
  rw [Bool.and_eq_true, Bool.and_eq_true] at hc
  obtain ⟨vs, q1, r1⟩ := h1 L w' p H l S hc.1.1
  obtain ⟨us, q2, r2⟩ := h2 L w' p H l S hc.1.2
  obtain ⟨ws, q3, r3⟩ := h3 L w' p H l S hc.2
  have ls : vs.length = xs.length ∧ us.length = ys.length ∧ ws.length = zs.length := ⟨r1.length.symm, r2.length.symm, r3.length.symm⟩
  rw [zip3Z_get]
  cases e : xs[i]? with
  | none => exact ⟨fun _ => ⟨vs, us, ws, q1, q2, q3, ls, .inl (List.getElem?_eq_none_iff.mp e)⟩, (fun _ z => nomatch z)⟩
  | some x =>
    cases f : ys[i]? with
    | none => exact ⟨fun _ => ⟨vs, us, ws, q1, q2, q3, ls, .inr (.inl (List.getElem?_eq_none_iff.mp f))⟩, (fun _ z => nomatch z)⟩
    | some y =>
      cases g : zs[i]? with
      | none => exact ⟨fun _ => ⟨vs, us, ws, q1, q2, q3, ls, .inr (.inr (List.getElem?_eq_none_iff.mp g))⟩, (fun _ z => nomatch z)⟩
      | some z =>
        refine ⟨(fun z => nomatch z), fun t et => ?_⟩
        have et : PV.tup [x, y, z] = t := Option.some.inj et
        subst et
        obtain ⟨v, ev, rv⟩ := r1.get e
        obtain ⟨u, eu, ru⟩ := r2.get f
        obtain ⟨o, eo, ro⟩ := r3.get g
        refine ⟨⟨vs, us, ws, v, u, o, q1, q2, q3, ls, ev, eu, eo⟩, fun t H' hy => ?_⟩
        obtain ⟨T, z1, z2, z3, rfl, hT, rfl, hz1, hz2, hz3⟩ := hy
        have e1 : z1 = v := Option.some.inj ((hz1 vs q1).symm.trans ev)
        have e2 : z2 = u := Option.some.inj ((hz2 us q2).symm.trans eu)
        have e3 : z3 = o := Option.some.inj ((hz3 ws q3).symm.trans eo)
        subst e1
        subst e2
        subst e3
        exact new_tup S hT (Reps.cons rv (Reps.cons ru (Reps.cons ro Reps.nil)))
/-- the three, if they are such -/
def zk3 (p : Pool) : List PV → Option It0
  | [x, y, z] => match zk p x with
    | some (xs, c1, _) => match zk p y with
      | some (ys, c2, _) => match zk p z with
        | some (zs, c3, _) => some ⟨zip3Z xs ys zs, fun q => c1 q && c2 q && c3 q⟩
        | none => none
      | none => none
    | none => none
  | _ => none
theorem zk3_some {p : Pool} {vs : List PV} {it : It0} (e : zk3 p vs = some it) : ∃ x y z xs ys zs c1 c2 c3 t1 t2 t3, vs = [x, y, z] ∧ zk p x = some (xs, c1, t1) ∧ zk p y = some (ys, c2, t2) ∧ zk p z = some (zs, c3, t3) ∧ it = ⟨zip3Z xs ys zs, fun q => c1 q && c2 q && c3 q⟩ := by
  match vs, e with
  | [x, y, z], e =>
    have e : (match zk p x with
      | some (xs, c1, _) => match zk p y with
        | some (ys, c2, _) => match zk p z with
          | some (zs, c3, _) => some (⟨zip3Z xs ys zs, fun q => c1 q && c2 q && c3 q⟩ : It0)
          | none => none
        | none => none
      | none => none) = some it := e
    cases e1 : zk p x with
    | none => rw [e1] at e; cases e
    | some a =>
      obtain ⟨xs, c1, t1⟩ := a
      cases e2 : zk p y with
      | none => rw [e1, e2] at e; cases e
      | some a =>
        obtain ⟨ys, c2, t2⟩ := a
        cases e3 : zk p z with
        | none => rw [e1, e2, e3] at e; cases e
        | some a =>
          obtain ⟨zs, c3, t3⟩ := a
          rw [e1, e2, e3] at e
          cases e
          refine ⟨x, y, z, xs, ys, zs, c1, c2, c3, t1, t2, t3, rfl, ?_, ?_, ?_, rfl⟩
          · first | exact e1 | rfl
          · first | exact e2 | rfl
          · first | exact e3 | rfl
def itZ3 (a : M (List PV)) : M It0 := fun en p => (a en p).bind fun xs p1 => match zk3 p1 xs with
  | some z => .ok z p1
  | none => .stuck
theorem reps3 {Γ : Cfg} {w : Wd} {x y z : PV} {vs : List V} (h : Reps Γ w [x, y, z] vs) : ∃ a b c, vs = [a, b, c] ∧ Rep Γ w x a ∧ Rep Γ w y b ∧ Rep Γ w z c := by
  obtain ⟨a, us, rfl, r1, h⟩ := h
  obtain ⟨b, c, rfl, r2, r3⟩ := reps2 h
  exact ⟨a, b, c, rfl, r1, r2, r3⟩
theorem ri_zip3 {e e2 e3 : Expr} {m : M (List PV)} {p tpos : Pos} {elts : List Expr} {kk : Nat} (hK : X.K = C.Γ.K) (hg : Gl X "zip") (hm : X.mg "zip" = none) (ha : RA X C [e, e2, e3] m) (hs : starEach [e, e2, e3] X.env = (false, eval e X.env) :: starEach [e2, e3] X.env := by rfl) (hs2 : ((backTo pos (starEach [e2, e3] X.env)).any fun x => x.1) = false := by rfl) :
    RI X C (.Tuple elts kk tpos) (.Call (.Name "zip" p) [e, e2, e3] [] pos) (itZ3 m) := PI.imp (pi_zip3 hg hm ha.pa hs hs2) fun σ H R ⟨L, w, p, en, S, E, h⟩ => by
  rw [hK]
  unfold itZ3 at h
  refine ⟨L, w, p, en, S, E, ?_⟩
  cases ea : m en p with
  | exc c v p1 =>
    rw [ea] at h
    exact h
  | stuck =>
    rw [ea] at h
    exact h.elim
  | ok xs p1 =>
    rw [ea] at h
    dsimp only [Res.bind] at h
    cases ez : zk3 p1 xs with
    | none =>
      rw [ez] at h
      exact h.elim
    | some it =>
      rw [ez] at h
      obtain ⟨x, y, z, xs, ys, zs, c1, c2, c3, t1, t2, t3, rfl, ex, ey, eu, rfl⟩ := zk3_some ez
      intro w1 H1 vs l1 S1 r1
      obtain ⟨v, u, o, rfl, rv, ru, ro⟩ := reps3 r1
      obtain ⟨a, rfl, k1, d1⟩ := zk_ok S1 rv ex
      obtain ⟨b, rfl, k2, d2⟩ := zk_ok S1 ru ey
      obtain ⟨c, rfl, k3, d3⟩ := zk_ok S1 ro eu
      obtain ⟨vs, q1, s1⟩ := k1 L w1 p1 H1 (Wd.le.refl _) S1 d1
      obtain ⟨us, q2, s2⟩ := k2 L w1 p1 H1 (Wd.le.refl _) S1 d2
      obtain ⟨ws, q3, s3⟩ := k3 L w1 p1 H1 (Wd.le.refl _) S1 d3
      refine ⟨t1, t2, t3, a, b, c, vs, us, ws, rfl, q1, q2, q3, ?_⟩
      have e1 := s1.length
      have e2 := s2.length
      have e3 := s3.length
      rw [← e1, ← e2, ← e3]
      exact h w1 H1 _ l1 S1 (itR_zip3 k1 k2 k3)
/-- what is gone through -/
theorem itZ3_ok {m1 m2 m3 : M PV} {x y z : PV} {xs ys zs : List PV} {c1 c2 c3 : Pool → Bool} {t1 t2 t3 : Bool} {en : En} {p p1 p2 p3 : Pool} (h1 : m1 en p = .ok x p1) (h2 : m2 en p1 = .ok y p2) (h3 : m3 en p2 = .ok z p3) (e1 : zk p3 x = some (xs, c1, t1)) (e2 : zk p3 y = some (ys, c2, t2)) (e3 : zk p3 z = some (zs, c3, t3)) :
    itZ3 (mCons m1 (mCons m2 (mCons m3 mNil))) en p = .ok ⟨zip3Z xs ys zs, fun q => c1 q && c2 q && c3 q⟩ p3 := by
  have e : zk3 p3 [x, y, z] = some ⟨zip3Z xs ys zs, fun q => c1 q && c2 q && c3 q⟩ := by
    unfold zk3
    dsimp only
    rw [e1, e2, e3]
  unfold itZ3
  rw [three_ok h1 h2 h3]
  dsimp only [Res.bind]
  rw [e]
theorem zip3Z_at {xs ys zs : List PV} {j : Nat} (h : j < (zip3Z xs ys zs).length) {x y z : PV} (hx : xs[j]? = some x) (hy : ys[j]? = some y) (hz : zs[j]? = some z) : (zip3Z xs ys zs)[j] = .tup [x, y, z] := by
  have e := zip3Z_get xs ys zs j
  rw [hx, hy, hz, List.getElem?_eq_getElem h] at e
  exact Option.some.inj e
theorem zip3Z_length : ∀ (xs ys zs : List PV), (zip3Z xs ys zs).length = min xs.length (min ys.length zs.length)
  | [], ys, zs => by simp [zip3Z]
  | x :: xs, [], zs => by simp [zip3Z]
  | x :: xs, y :: ys, [] => by simp [zip3Z]
  | x :: xs, y :: ys, z :: zs => by
    show (zip3Z xs ys zs).length + 1 = _
    rw [zip3Z_length xs ys zs, List.length_cons, List.length_cons, List.length_cons]
    omega
end
end R

/-! R28: sorted of tuples of numbers, of any lengths -/
namespace R
open PySem L2 PySem.Spec PyProof.Rows
def lexL : List Int → List Int → Bool
  | [], [] => false
  | [], _ :: _ => true
  | _ :: _, [] => false
  | x :: xs, y :: ys => if x = y then lexL xs ys else decide (x < y)
theorem lexL_asym : ∀ x y : List Int, lexL x y = true → lexL y x = false
  | [], [], h => by cases h
  | [], _ :: _, _ => rfl
  | _ :: _, [], h => by cases h
  | x :: xs, y :: ys, h => by
    unfold lexL at h ⊢
    by_cases e : x = y
    · rw [if_pos e] at h
      rw [if_pos e.symm]
      exact lexL_asym xs ys h
    · rw [if_neg e] at h
      have h := of_decide_eq_true h
      rw [if_neg fun z => e z.symm]
      exact decide_eq_false (by omega)
theorem lexL_tr : ∀ x y z : List Int, lexL y x = false → lexL z y = false → lexL z x = false
  | [], _, [], _, _ => rfl
  | [], _, _ :: _, _, _ => rfl
  | x :: xs, [], [], h, _ => by cases h
  | x :: xs, [], z :: zs, h, _ => by cases h
  | x :: xs, y :: ys, [], _, h => by cases h
  | x :: xs, y :: ys, z :: zs, h1, h2 => by
    unfold lexL at h1 h2 ⊢
    by_cases e1 : y = x
    · subst e1
      rw [if_pos rfl] at h1
      by_cases e2 : z = y
      · rw [if_pos e2] at h2 ⊢
        exact lexL_tr xs ys zs h1 h2
      · rw [if_neg e2] at h2 ⊢
        exact h2
    · rw [if_neg e1] at h1
      have h1 := of_decide_eq_false h1
      by_cases e2 : z = y
      · subst e2
        rw [if_neg e1]
        exact decide_eq_false h1
      · rw [if_neg e2] at h2
        have h2 := of_decide_eq_false h2
        rw [if_neg (by omega)]
        exact decide_eq_false (by omega)
theorem lexL_eq : ∀ x y : List Int, lexL x y = false → lexL y x = false → x = y
  | [], [], _, _ => rfl
  | [], _ :: _, h, _ => by cases h
  | _ :: _, [], _, h => by cases h
  | x :: xs, y :: ys, h1, h2 => by
    unfold lexL at h1 h2
    by_cases e : x = y
    · subst e
      rw [if_pos rfl] at h1 h2
      rw [lexL_eq xs ys h1 h2]
    · rw [if_neg e] at h1
      rw [if_neg fun z => e z.symm] at h2
      have h1 := of_decide_eq_false h1
      have h2 := of_decide_eq_false h2
      omega
theorem swo_lexL (k : Value → List Int) : SrtO.Swo fun v u => lexL (k v) (k u) := ⟨fun x y h => lexL_asym _ _ h, fun x y z h1 h2 => lexL_tr _ _ _ h1 h2⟩
/-! ### the machine's own -/
section
variable {prog : Program} {w : World} {A : Around} {E : Value → Shared → Prop} {s : Shared} {Q : Bool → Shared → Prop}
theorem katL {b : Bool} {xs ys : List Value} {ns ms : List Int} (hx : IntsAre xs ns) (i : Nat) (hy : IntsAre ys ms) (h : Q (lexL ns ms) s) : PySem.W.KatLex prog w A b (decide (ns.length < ms.length)) Q (xs.zip ys) i s := by
  induction hx generalizing ys ms i with
  | nil =>
    rw [List.zip_nil_left]
    refine PySem.W.kat_nil ?_
    cases hy with
    | nil => exact h
    | cons q u hy =>
      rw [decide_eq_true (by simp)]
      exact h
  | @cons p t xs ns hx ih =>
    cases hy with
    | nil =>
      rw [List.zip_nil_right]
      refine PySem.W.kat_nil ?_
      rw [decide_eq_false (by simp)]
      exact h
    | @cons q u ys ms hy =>
      have ef : decide ((p :: ns).length < (q :: ms).length) = decide (ns.length < ms.length) := by
        rw [List.length_cons, List.length_cons]
        exact decide_eq_decide.mpr (by omega)
      rw [ef]
      show PySem.W.KatLex prog w A b _ Q ((Value.int p t, Value.int q u) :: xs.zip ys) i s
      refine PySem.W.kat_cons (wpAny_eqBool_int ?_)
      unfold lexL at h
      by_cases e : p = q
      · subst e
        rw [beq_self_eq_true]
        rw [if_pos rfl] at h
        exact PySem.W.kat_yes (ih (i + 1) hy h)
      · rw [show (p == q) = false from beq_eq_false_iff_ne.mpr e]
        rw [if_neg e] at h
        exact PySem.W.kat_no (TS.oneLt_ints _ h)
open SrtO in
theorem tupL_cmp {vs : List Value} {k : Value → List Int} (hp : ∀ v ∈ vs, TS.TupInts s.heap v (k v)) : Cmp prog w A s (tuples' true) (fun p => p.1 ∈ vs) (lt2 fun v u => lexL (k v) (k u)) := by
  intro p q hm hm'
  have h1 := hp _ hm
  have h2 := hp _ hm'
  show wpAny (model prog w) A (keyLt' (tuples' true) p.1 q.1) (fun r s' => s' = s ∧ r = lexL (k p.1) (k q.1)) (fun _ _ => False) s
  generalize k p.1 = ns at h1 ⊢
  generalize k q.1 = ms at h2 ⊢
  obtain ⟨a, xs, e, ⟨o, ho, hc, n, hd⟩, hi⟩ := h1
  obtain ⟨a', xs', e', ⟨o', ho', hc', n', hd'⟩, hi'⟩ := h2
  rw [e, e']
  refine PySem.W.kat_lt ho hd ho' hd' ?_
  have z1 : xs.size = ns.length := by rw [← Array.length_toList]; exact hi.length
  have z2 : xs'.size = ms.length := by rw [← Array.length_toList]; exact hi'.length
  rw [z1, z2]
  exact katL hi 0 hi' ⟨rfl, rfl⟩
theorem firstsL {h : Heap} : ∀ (vs : List Value) (k : Value → List Int), (∀ v ∈ vs, TS.TupInts h v (k v) ∧ k v ≠ []) → ∃ fs, PySem.W.KatTups h vs fs ∧ fs.length = vs.length ∧ ∀ f ∈ fs, ∃ x t, f = Value.int x t
  | [], _, _ => ⟨[], PySem.W.KatTups.nil, rfl, fun _ hm => by simp at hm⟩
  | v :: vs, k, hp => by
    obtain ⟨fs, h1, h2, h3⟩ := firstsL vs k fun v' hm => hp v' (List.mem_cons_of_mem _ hm)
    obtain ⟨⟨a, xs, e, ⟨o, ho, hc, n, hd⟩, hi⟩, hne⟩ := hp v List.mem_cons_self
    subst e
    generalize k (.ref a) = ns at hi hne
    cases xs with
    | mk l =>
      cases hi with
      | nil => exact absurd rfl hne
      | @cons m t l ns hi =>
        refine ⟨.int m t :: fs, PySem.W.KatTups.cons ho hc hd rfl h1, by rw [List.length_cons, List.length_cons, h2], fun f hm => ?_⟩
        rcases List.mem_cons.mp hm with rfl | hm
        · exact ⟨m, t, rfl⟩
        · exact h3 f hm
open SrtO in
theorem tupL_sortable {a : Addr} {vs : List Value} {k : Value → List Int} (h0 : 0 < vs.length) (hp : ∀ v ∈ vs, TS.TupInts s.heap v (k v) ∧ k v ≠ []) (ha : ∀ o, s.heap.get? a = some o → o.cls ≠ .type "tuple") : SortableO prog w A s a vs fun v u => lexL (k v) (k u) := by
  intro h' keep
  have hp' : ∀ v ∈ vs, TS.TupInts h' v (k v) ∧ k v ≠ [] := fun v hm => ⟨(hp v hm).1.keeps fun b o e c => keep b o (fun z => by subst z; exact ha o e c) e, (hp v hm).2⟩
  obtain ⟨fs, h1, h2, h3⟩ := firstsL vs k hp'
  refine ⟨tuples' true, fun Q E hq => ?_, tupL_cmp fun v hm => (hp' v hm).1⟩
  refine PySem.W.kat_kind (T := .type "int") h1 (by omega) (fun f hm => ?_) (by rfl) ?_
  · obtain ⟨x, t, rfl⟩ := h3 f hm
    exact PySem.W.Looks.now
  · have e : (Value.type "int" != Value.type "tuple") = true := by first | decide +kernel | rfl | decide
    rw [e]
    exact hq
open SrtO in
theorem sorted_tupL {l : Addr} {vs : List Value} {k : Value → List Int} {Q : Value → Shared → Prop} (hl : s.heap.IsList l vs.toArray) (hz : vs.length ≤ sizeLine) (hp : ∀ v ∈ vs, TS.TupInts s.heap v (k v)) (hne : 2 ≤ vs.length → ∀ v ∈ vs, k v ≠ [])
    (h : ∀ (h' : Heap) (d : Addr) (out : List Value), Srtd (fun v u => lexL (k v) (k u)) out → Stb (fun v u => lexL (k v) (k u)) out vs → (∀ b o, s.heap.get? b = some o → h'.get? b = some o) → s.heap.objs.size ≤ d → (∃ n, h'.get? d = some (seqObj "list" out.toArray n)) → Q (.ref d) { s with heap := h' }) :
    wpAny (model prog w) A (call (.builtin "sorted") [.ref l]) Q E s := by
  refine sorted_ord (swo_lexL k) hl hz (fun h2 h₁ a ha kk => ?_) fun out hs hb => ?_
  · refine tupL_sortable (s := { s with heap := h₁ }) (by omega) (fun v hm => ⟨(hp v hm).keeps fun b o e _ => (kk b o e).2, hne h2 v hm⟩) fun o e => ?_
    have e' : some o = some (seqObj "list" vs.toArray 0) := e.symm.trans ha
    cases e'
    intro c
    exact absurd (Value.type.inj c) (by decide)
  · exact h _ _ out hs hb (fun b o e => sortedAll_old e) (Nat.le_succ _) (sortedAll_at s.heap vs out.toArray)
end
/-! ### as a rule -/
def rSortTI (K : PySem.W.Frag) : List V → Hp → VK → Prop := fun vs H Q => ∃ (a : Addr) (xs : List V), vs = [V.ref a] ∧ SqL K H a xs ∧ (∀ x ∈ xs, ∃ t ns, x = V.ref t ∧ SqT K H t (ns.map V.int) ∧ (2 ≤ xs.length → ns ≠ [])) ∧
  ∀ (ys : List V) (p : Addr), ys.Perm xs → ys.Pairwise (fun x y => ∀ t ns u ms, x = V.ref t → y = V.ref u → SqT K H t (ns.map V.int) → SqT K H u (ms.map V.int) → lexL ms ns = false) → H p = none → Q (.ref p) (upd H p (.lst ys))
section
variable {X : Cx} {C : Cn}
theorem tupInts_of {pins : List (Addr × Obj)} {s : Shared} {σ : L2.St} {H : Hp} (I : L2.Inv X pins σ H s) {t : Addr} {ns : List Int} (h : SqT X.K H t (ns.map V.int)) : TS.TupInts s.heap (.ref t) ns := by
  obtain ⟨its, r, p, _⟩ := I.tuple h
  exact ⟨t, its.toArray, rfl, p, by simpa using r.ints⟩
theorem cr_sortTI : CallR X (.builtin "sorted") (rSortTI X.K) := by
  intro pins s σ H vs us Q I r h
  obtain ⟨a, xs, rfl, hs, hx, q⟩ := h
  obtain ⟨its, rv, hl, hz⟩ := I.list hs
  obtain ⟨u, rfl, ru⟩ := vals1 r
  obtain rfl : u = Value.ref a := ru
  obtain ⟨e1, e2⟩ := refs_back rv fun x m => by
    obtain ⟨t, ns, e, _⟩ := hx x m
    exact ⟨t, e⟩
  have hk : ∀ v ∈ its, ∃ t ns, v = Value.ref t ∧ SqT X.K H t (ns.map V.int) ∧ (2 ≤ xs.length → ns ≠ []) := fun v hv => by
    obtain ⟨t, rfl⟩ := e2 v hv
    obtain ⟨t', ns, e, k⟩ := hx (V.ref t) (by rw [e1]; exact List.mem_map.mpr ⟨_, hv, rfl⟩)
    cases e
    exact ⟨t, ns, rfl, k⟩
  have hT : ∀ v ∈ its, TS.TupInts s.heap v (TS.intsOf s.heap v) := fun v hv => by
    obtain ⟨t, ns, rfl, k, _⟩ := hk v hv
    have := tupInts_of I k
    rw [this.ints]
    exact this
  refine sorted_tupL (k := TS.intsOf s.heap) hl.isList (by rw [← rv.length]; exact hz) hT (fun h2 v hv => ?_) fun h' d out h1 h2 kp hd hn => ?_
  · obtain ⟨t, ns, rfl, k, ne⟩ := hk v hv
    rw [(tupInts_of I k).ints]
    exact ne (by rw [rv.length]; exact h2)
  · have h3 : ∀ u ∈ out, ∃ a, u = Value.ref a := fun u hu => e2 u (h2.perm.mem_iff.mp hu)
    obtain ⟨n, hn⟩ := hn
    have hp : (out.map backV).Perm xs := by
      rw [e1]
      exact h2.perm.map backV
    refine ⟨.ref d, upd H d (.lst (out.map backV)), I.laid (t' := s.toks) kp hd ⟨?_, out, n, vals_back h3, hn⟩, rfl, q _ d hp ?_ (I.hok.fresh hd)⟩
    · rw [hp.length_eq]
      exact hz
    · refine List.pairwise_map.mpr (List.Pairwise.imp_of_mem (fun {v u} hv hu z t ns b ms ev eu kt ku => ?_) h1)
      obtain ⟨t1, rfl⟩ := h3 v hv
      obtain ⟨t2, rfl⟩ := h3 u hu
      cases ev
      cases eu
      have z : lexL (TS.intsOf s.heap (Value.ref b)) (TS.intsOf s.heap (Value.ref t)) = false := z
      rw [(tupInts_of I kt).ints, (tupInts_of I ku).ints] at z
      exact z
theorem call_sortTI (hK : X.K = C.Γ.K) : CallR X (.builtin "sorted") (rSortTI C.Γ.K) := hK ▸ cr_sortTI
/-- rows of numbers, in order -/
def insL (a : List Int) : List (List Int) → List (List Int)
  | [] => [a]
  | b :: r => if lexL b a = true then b :: insL a r else a :: b :: r
def srtL : List (List Int) → List (List Int)
  | [] => []
  | a :: r => insL a (srtL r)
theorem insL_perm (a : List Int) : ∀ r : List (List Int), (insL a r).Perm (a :: r)
  | [] => List.Perm.refl _
  | b :: r => by
    unfold insL
    split
    · exact ((insL_perm a r).cons b).trans (List.Perm.swap a b r)
    · exact List.Perm.refl _
theorem insL_up (a : List Int) : ∀ {r : List (List Int)}, r.Pairwise (fun x y => lexL y x = false) → (insL a r).Pairwise fun x y => lexL y x = false
  | [], _ => List.pairwise_singleton _ _
  | b :: r, h => by
    obtain ⟨h1, h2⟩ := List.pairwise_cons.mp h
    unfold insL
    split
    · rename_i hab
      refine List.pairwise_cons.mpr ⟨fun c hc => ?_, insL_up a h2⟩
      rcases List.mem_cons.mp ((insL_perm a r).subset hc) with rfl | hc
      · exact lexL_asym _ _ hab
      · exact h1 c hc
    · rename_i hab
      have hab : lexL b a = false := by
        cases e : lexL b a with
        | true => exact absurd e hab
        | false => rfl
      refine List.pairwise_cons.mpr ⟨fun c hc => ?_, h⟩
      rcases List.mem_cons.mp hc with rfl | hc
      · exact hab
      · exact lexL_tr _ _ _ hab (h1 c hc)
theorem srtL_perm : ∀ r : List (List Int), (srtL r).Perm r
  | [] => List.Perm.refl _
  | a :: r => (insL_perm a (srtL r)).trans ((srtL_perm r).cons a)
theorem srtL_up : ∀ r : List (List Int), (srtL r).Pairwise fun x y => lexL y x = false
  | [] => List.Pairwise.nil
  | a :: r => insL_up a (srtL_up r)
theorem permL_eq : ∀ {l m : List (List Int)}, l.Perm m → l.Pairwise (fun x y => lexL y x = false) → m.Pairwise (fun x y => lexL y x = false) → l = m
  | [], m, h, _, _ => (List.Perm.eq_nil h.symm).symm
  | x :: l, [], h, _, _ => absurd h.length_eq (by simp)
  | x :: l, y :: m, h, h1, h2 => by
    obtain ⟨a1, a2⟩ := List.pairwise_cons.mp h1
    obtain ⟨b1, b2⟩ := List.pairwise_cons.mp h2
    have e : x = y := by
      rcases List.mem_cons.mp (h.mem_iff.mp List.mem_cons_self) with e | hx
      · exact e
      · rcases List.mem_cons.mp (h.mem_iff.mpr List.mem_cons_self) with e | hy
        · exact e.symm
        · exact lexL_eq x y (b1 x hx) (a1 y hy)
    subst e
    rw [permL_eq h.cons_inv a2 b2]
def tisL : List PV → Option (List (List Int))
  | [] => some []
  | .tup ys :: r => match its ys, tisL r with
    | some n, some ns => some (n :: ns)
    | _, _ => none
  | _ => none
def rowsP (nss : List (List Int)) : List PV := nss.map fun ns => PV.tup (ns.map .int)
theorem its_mapI : ∀ r : List Int, its (r.map .int) = some r := its_ints
theorem tisL_rows : ∀ nss : List (List Int), tisL (rowsP nss) = some nss
  | [] => rfl
  | ns :: nss => by
    show (match its (ns.map PV.int), tisL (rowsP nss) with | some n, some ns => some (n :: ns) | _, _ => none) = _
    rw [its_mapI, tisL_rows nss]
theorem its_eq : ∀ {ys : List PV} {ns : List Int}, its ys = some ns → ys = ns.map .int
  | [], ns, e => by cases e; rfl
  | y :: ys, ns, e => by
    unfold its at e
    split at e
    · rename_i e1; cases e1
    · rename_i i r e1
      cases e1
      cases e2 : its ys with
      | none => rw [e2] at e; cases e
      | some ms =>
        rw [e2] at e
        cases e
        rw [List.map_cons, ← its_eq e2]
    · cases e
theorem tisL_eq : ∀ {ys : List PV} {nss : List (List Int)}, tisL ys = some nss → ys = rowsP nss
  | [], nss, e => by cases e; rfl
  | y :: ys, nss, e => by
    unfold tisL at e
    split at e
    · rename_i e1; cases e1
    · rename_i xs r e1
      cases e1
      cases e2 : its xs with
      | none => rw [e2] at e; cases e
      | some ns =>
        cases e3 : tisL ys with
        | none => rw [e2, e3] at e; cases e
        | some mss =>
          rw [e2, e3] at e
          cases e
          rw [its_eq e2, tisL_eq e3]
          rfl
    · cases e
theorem repRows_cons {Γ : Cfg} {w : Wd} {nss : List (List Int)} {v : V} {vs : List V} (h : Reps Γ w (rowsP nss) (v :: vs)) : ∃ ns mss, nss = ns :: mss ∧ Rep Γ w (.tup (ns.map .int)) v ∧ Reps Γ w (rowsP mss) vs := by
  cases nss with
  | nil => cases h
  | cons ns mss =>
    obtain ⟨u, us, e, r, rs⟩ := h
    cases e
    exact ⟨ns, mss, rfl, r, rs⟩
theorem repRows_mem {Γ : Cfg} {w : Wd} : ∀ {nss : List (List Int)} {vs : List V}, Reps Γ w (rowsP nss) vs → ∀ v ∈ vs, ∃ ns ∈ nss, Rep Γ w (.tup (ns.map .int)) v
  | _, [], _, _, h => nomatch h
  | nss, v :: vs, r, u, h => by
    obtain ⟨ns, nss, rfl, r, rs⟩ := repRows_cons r
    rcases List.mem_cons.mp h with rfl | h
    · exact ⟨ns, List.mem_cons_self, r⟩
    · obtain ⟨ms, hm, hr⟩ := repRows_mem rs u h
      exact ⟨ms, List.mem_cons_of_mem _ hm, hr⟩
theorem repRows_perm {Γ : Cfg} {w : Wd} {vs us : List V} (h : vs.Perm us) : ∀ {nss : List (List Int)}, Reps Γ w (rowsP nss) us → ∃ mss : List (List Int), mss.Perm nss ∧ Reps Γ w (rowsP mss) vs := by
  induction h with
  | nil =>
    intro nss r
    exact ⟨nss, List.Perm.refl _, r⟩
  | cons x h ih =>
    intro nss r
    obtain ⟨ns, nss, rfl, r, rs⟩ := repRows_cons r
    obtain ⟨mss, hm, hr⟩ := ih rs
    exact ⟨ns :: mss, hm.cons ns, _, _, rfl, r, hr⟩
  | swap x y l =>
    intro nss r
    obtain ⟨n1, nss, rfl, r1, rs⟩ := repRows_cons r
    obtain ⟨n2, nss, rfl, r2, rs⟩ := repRows_cons rs
    exact ⟨n2 :: n1 :: nss, List.Perm.swap n1 n2 nss, _, _, rfl, r2, _, _, rfl, r1, rs⟩
  | trans h1 h2 ih1 ih2 =>
    intro nss r
    obtain ⟨mss, hm, hr⟩ := ih2 r
    obtain ⟨kss, hk, hs⟩ := ih1 hr
    exact ⟨kss, hk.trans hm, hs⟩
theorem repRows_pw {Γ : Cfg} {L : Lv} {w : Wd} {p : Pool} {H : Hp} (S : SimP Γ L w p H) : ∀ {nss : List (List Int)} {vs : List V}, Reps Γ w (rowsP nss) vs → vs.Pairwise (fun x y => ∀ t ns u ms, x = V.ref t → y = V.ref u → SqT Γ.K H t (ns.map V.int) → SqT Γ.K H u (ms.map V.int) → lexL ms ns = false) → nss.Pairwise fun x y => lexL y x = false
  | [], _, _, _ => List.Pairwise.nil
  | ns :: nss, [], r, _ => by
    obtain ⟨_, _, e, _⟩ := r
    cases e
  | ns :: nss, v :: vs, r, h => by
    obtain ⟨u0, us0, e0, r, rs⟩ := r
    cases e0
    obtain ⟨h1, h2⟩ := List.pairwise_cons.mp h
    refine List.pairwise_cons.mpr ⟨fun ms hm => ?_, repRows_pw S rs h2⟩
    obtain ⟨t, us, rfl, hq, hr⟩ := r
    have e := hr.ints_of
    subst e
    obtain ⟨i, hi, rfl⟩ := List.mem_iff_getElem.mp hm
    have gi : (rowsP nss)[i]? = some (.tup (nss[i].map .int)) := by
      unfold rowsP
      rw [List.getElem?_map, List.getElem?_eq_getElem hi]
      rfl
    obtain ⟨v2, e2, t2, us2, rfl, hq2, hr2⟩ := rs.get gi
    have e := hr2.ints_of
    subst e
    exact h1 _ (List.mem_of_getElem? e2) t ns t2 nss[i] rfl rfl (seqT_mono S.sub hq) (seqT_mono S.sub hq2)
def okRows (nss : List (List Int)) : Bool := decide (nss.length < 2) || nss.all fun ns => !ns.isEmpty
def cSortTI : FC := fun xs p => match xs with
  | [x] => match getR p x with
    | some ys => match tisL ys with
      | some nss => if okRows nss = true then .ok (.lst (rowsP (srtL nss))) p else .stuck
      | none => .stuck
    | none => .stuck
  | _ => .stuck
/-- .. a list that may change -/
def cSortTIO : FC := fun xs p => match xs with
  | [x] => match getR p x with
    | some ys => match tisL ys with
      | some nss => if okRows nss = true then .ok (.own p.length) (p ++ [.lst (rowsP (srtL nss))]) else .stuck
      | none => .stuck
    | none => .stuck
  | _ => .stuck
theorem sortTI_core {L : Lv} {w : Wd} {p : Pool} {H : Hp} {x : PV} {v : V} {ys : List PV} {nss : List (List Int)} {Q : VK} (S : SimP C.Γ L w p H) (rv : Rep C.Γ w x v) (ey : getR p x = some ys) (en : tisL ys = some nss) (ok : okRows nss = true)
    (q : ∀ us : List V, Reps C.Γ w (rowsP (srtL nss)) us → ∀ l, H l = none → Q (.ref l) (upd H l (.lst us))) : rSortTI C.Γ.K [v] H Q := by
  obtain ⟨a, us, rfl, hs, ru⟩ := getR_ok S rv ey
  have e := tisL_eq en
  subst e
  refine ⟨a, us, rfl, hs, fun u hu => ?_, fun ks l hp hw hl => ?_⟩
  · obtain ⟨ns, hns, t, vs, rfl, hq, hr⟩ := repRows_mem ru u hu
    have e := hr.ints_of
    subst e
    refine ⟨t, ns, rfl, seqT_mono S.sub hq, fun h2 => ?_⟩
    unfold okRows at ok
    have hlen : us.length = nss.length := by
      rw [← ru.length]
      exact List.length_map _
    rw [decide_eq_false (by omega), Bool.false_or] at ok
    have := List.all_eq_true.mp ok ns hns
    intro z
    rw [z] at this
    cases this
  · obtain ⟨mss, hm, hr⟩ := repRows_perm hp ru
    have hw2 := repRows_pw S hr hw
    rw [permL_eq (hm.trans (srtL_perm nss).symm) hw2 (srtL_up nss)] at hr
    exact q ks hr l hl
theorem ref_sortTI : RefC C (rSortTI C.Γ.K) cSortTI := fun L w p H σ xs vs Q S r q => by
  unfold cSortTI at q
  split at q
  · rename_i x
    obtain ⟨v, rfl, rv⟩ := reps1 r
    split at q
    · rename_i ys ey
      split at q
      · rename_i nss en
        split at q
        · rename_i ok
          exact sortTI_core S rv ey en ok fun us hr l hl => newLst S hr q l hl
        · exact q.elim
      · exact q.elim
    · exact q.elim
  · exact q.elim
theorem ref_sortTIO : RefC C (rSortTI C.Γ.K) cSortTIO := fun L w p H σ xs vs Q S r q => by
  unfold cSortTIO at q
  split at q
  · rename_i x
    obtain ⟨v, rfl, rv⟩ := reps1 r
    split at q
    · rename_i ys ey
      split at q
      · rename_i nss en
        split at q
        · rename_i ok
          exact sortTI_core S rv ey en ok fun us hr l hl => newOwn S hr q l hl
        · exact q.elim
      · exact q.elim
    · exact q.elim
  · exact q.elim
end
end R

/-! R29: comprehensions whose items change one cell -/
namespace R
open PySem L2
section
variable {en en1 : En} {p p1 : Pool}
theorem lcO_inv {it : M It0} {g : T1} {tt : M Bool} {te : M PV} {vs : List Nat} {z : It0} (I : Nat → List PV → Pool → Prop) (hi : it en p = .ok z p1) (hck : ∀ j acc q, q.length = p1.length → I j acc q → z.ck (q ++ [.lst acc]) = true)
    (h : ∀ j (hj : j < z.xs.length) acc q, q.length = p1.length → I j acc q → ∃ as : As, g z.xs[j] = some as ∧ as.all (fun a => vs.elem a.1) = true ∧
      ((∃ p2, tt (En.sets ⟨p1.length + 1, wipeE en.sl vs⟩ as) (q ++ [.lst acc]) = .ok false (p2 ++ [.lst acc]) ∧ p2.length = p1.length ∧ I (j + 1) acc p2) ∨
       (∃ p2 y p3, tt (En.sets ⟨p1.length + 1, wipeE en.sl vs⟩ as) (q ++ [.lst acc]) = .ok true (p2 ++ [.lst acc]) ∧ te (En.sets ⟨p1.length + 1, wipeE en.sl vs⟩ as) (p2 ++ [.lst acc]) = .ok y (p3 ++ [.lst acc]) ∧ p3.length = p1.length ∧ bel p1.length y = true ∧ I (j + 1) (acc ++ [y]) p3)))
    (hl : z.xs.length ≤ big) (h0 : I 0 [] p1) : ∃ acc q, mLcO it g tt te vs en p = .ok (.own p1.length) (q ++ [.lst acc]) ∧ q.length = p1.length ∧ I z.xs.length acc q := by
  obtain ⟨acc, q, e, hq, j, hj, hr, hI⟩ := loopC_inv (ck := z.ck) (g := g) (tt := tt) (te := te) (vs := vs) (en := ⟨p1.length + 1, wipeE en.sl vs⟩) (n := p1.length) (fun r acc q => ∃ j, j ≤ z.xs.length ∧ r = z.xs.drop j ∧ I j acc q) (fun r acc q hq ⟨j, hj, hr, hI⟩ => hck j acc q hq hI) (fun x r acc q hq ⟨j, hj, hr, hI⟩ => by
    have hj2 : j < z.xs.length := by
      rcases Nat.lt_or_ge j z.xs.length with h | h
      · exact h
      · rw [List.drop_eq_nil_of_le h] at hr
        cases hr
    rw [List.drop_eq_getElem_cons hj2] at hr
    cases hr
    obtain ⟨as, e1, e2, h3⟩ := h j hj2 acc q hq hI
    refine ⟨as, e1, e2, ?_⟩
    rcases h3 with ⟨p2, a, b, c⟩ | ⟨p2, y, p3, a, b, c, d, e⟩
    · exact .inl ⟨p2, a, b, j + 1, hj2, rfl, c⟩
    · exact .inr ⟨p2, y, p3, a, b, c, d, j + 1, hj2, rfl, e⟩) z.xs [] p1 rfl (by rw [List.length_nil]; omega) ⟨0, Nat.zero_le _, rfl, h0⟩
  refine ⟨acc, q, ?_, hq, ?_⟩
  · unfold mLcO
    rw [hi]
    dsimp only [Res.bind]
    rw [e]
  · have : j = z.xs.length := by
      have h := List.drop_eq_nil_iff.mp hr.symm
      omega
    rw [← this]
    exact hI
theorem set_app1 {p : Pool} {k : Nat} (hl : k < p.length) (c s : Cell) : p.set k s ++ [c] = (p ++ [c]).set k s := (List.set_append_left k s hl).symm
/-- [te for i in range(n)], te draws -/
theorem lc_drawn {P : Pool} {k : Nat} {s0 : Cell} {te : M PV} {a : M (List PV)} {i n : Nat} (hl : k < P.length) (J : Nat → Cell → List PV → Prop) (ha : a en (P.set k s0) = .ok [.int n] (P.set k s0)) (hn : n ≤ big) (h0 : J 0 s0 [])
    (h : ∀ j s acc c, j < n → J j s acc → ∃ y s', te (En.set ⟨P.length + 1, wipeE en.sl [i]⟩ i (.int j)) ((P ++ [c]).set k s) = .ok y ((P ++ [c]).set k s') ∧ bel P.length y = true ∧ J (j + 1) s' (acc ++ [y])) :
    ∃ acc s, mLc (itR1 a) (tgN i) mYes te [i] en (P.set k s0) = .ok (.lst acc) (P.set k s) ∧ J n s acc := by
  have hP : (P.set k s0).length = P.length := List.length_set
  obtain ⟨acc, q, e, hq, s, rfl, hJ⟩ := lc_inv (it := itR1 a) (g := tgN i) (tt := mYes) (te := te) (vs := [i]) (fun j acc q => ∃ s, q = P.set k s ∧ J j s acc) (itR1_ok ha hn) (fun _ _ _ _ _ => rfl) (fun j hj acc q hq ⟨s, e, hJ⟩ => by
    subst e
    have hj2 : j < n := by rw [rng_len] at hj; exact hj
    obtain ⟨y, s', e1, e2, e3⟩ := h j s acc (.lst acc) hj2 hJ
    rw [hP]
    refine ⟨[(i, .int j)], by rw [rng_get n j hj]; rfl, by simp, .inr ⟨P.set k s, y, P.set k s', rfl, ?_, List.length_set, e2, s', rfl, e3⟩⟩
    rw [set_app1 hl, set_app1 hl]
    exact e1) (by rw [rng_len]; exact hn) ⟨s0, rfl, h0⟩
  rw [rng_len] at hJ
  exact ⟨acc, s, e, hJ⟩
theorem lcO_drawn {P : Pool} {k : Nat} {s0 : Cell} {te : M PV} {a : M (List PV)} {i n : Nat} (hl : k < P.length) (J : Nat → Cell → List PV → Prop) (ha : a en (P.set k s0) = .ok [.int n] (P.set k s0)) (hn : n ≤ big) (h0 : J 0 s0 [])
    (h : ∀ j s acc c, j < n → J j s acc → ∃ y s', te (En.set ⟨P.length + 1, wipeE en.sl [i]⟩ i (.int j)) ((P ++ [c]).set k s) = .ok y ((P ++ [c]).set k s') ∧ bel P.length y = true ∧ J (j + 1) s' (acc ++ [y])) :
    ∃ acc s, mLcO (itR1 a) (tgN i) mYes te [i] en (P.set k s0) = .ok (.own P.length) ((P ++ [Cell.lst acc]).set k s) ∧ J n s acc := by
  have hP : (P.set k s0).length = P.length := List.length_set
  obtain ⟨acc, q, e, hq, s, rfl, hJ⟩ := lcO_inv (it := itR1 a) (g := tgN i) (tt := mYes) (te := te) (vs := [i]) (fun j acc q => ∃ s, q = P.set k s ∧ J j s acc) (itR1_ok ha hn) (fun _ _ _ _ _ => rfl) (fun j hj acc q hq ⟨s, e, hJ⟩ => by
    subst e
    have hj2 : j < n := by rw [rng_len] at hj; exact hj
    obtain ⟨y, s', e1, e2, e3⟩ := h j s acc (.lst acc) hj2 hJ
    rw [hP]
    refine ⟨[(i, .int j)], by rw [rng_get n j hj]; rfl, by simp, .inr ⟨P.set k s, y, P.set k s', rfl, ?_, List.length_set, e2, s', rfl, e3⟩⟩
    rw [set_app1 hl, set_app1 hl]
    exact e1) (by rw [rng_len]; exact hn) ⟨s0, rfl, h0⟩
  rw [rng_len] at hJ
  rw [hP, set_app1 hl] at e
  exact ⟨acc, s, e, hJ⟩
/-- .. over told things -/
theorem lc_drawnX {P : Pool} {k : Nat} {s0 : Cell} {te : M PV} {it : M It0} {g : T1} {vs : List Nat} {xs : List PV} (hl : k < P.length) (J : Nat → Cell → List PV → Prop) (hi : it en (P.set k s0) = .ok ⟨xs, noCk⟩ (P.set k s0)) (hn : xs.length ≤ big) (h0 : J 0 s0 [])
    (h : ∀ j (hj : j < xs.length) s acc c, J j s acc → ∃ as y s', g xs[j] = some as ∧ as.all (fun a => vs.elem a.1) = true ∧ te (En.sets ⟨P.length + 1, wipeE en.sl vs⟩ as) ((P ++ [c]).set k s) = .ok y ((P ++ [c]).set k s') ∧ bel P.length y = true ∧ J (j + 1) s' (acc ++ [y])) :
    ∃ acc s, mLc it g mYes te vs en (P.set k s0) = .ok (.lst acc) (P.set k s) ∧ J xs.length s acc := by
  have hP : (P.set k s0).length = P.length := List.length_set
  obtain ⟨acc, q, e, hq, s, rfl, hJ⟩ := lc_inv (it := it) (g := g) (tt := mYes) (te := te) (vs := vs) (fun j acc q => ∃ s, q = P.set k s ∧ J j s acc) hi (fun _ _ _ _ _ => rfl) (fun j hj acc q hq ⟨s, e, hJ⟩ => by
    subst e
    obtain ⟨as, y, s', eg, ea, e1, e2, e3⟩ := h j hj s acc (.lst acc) hJ
    rw [hP]
    refine ⟨as, eg, ea, .inr ⟨P.set k s, y, P.set k s', rfl, ?_, List.length_set, e2, s', rfl, e3⟩⟩
    rw [set_app1 hl, set_app1 hl]
    exact e1) hn ⟨s0, rfl, h0⟩
  exact ⟨acc, s, e, hJ⟩
end
end R

/-! R30: a tuple no times, once, so many times -/
namespace R
open PySem L2 PySem.Spec PyProof.Rows
theorem tuple_mul1 (l : Addr) (items : Array Value) (n : Nat) (dd : Option Addr) (sl : Array (Option Value)) (x : Int) (u : Tok) (c0 : (decide (x < -(2 ^ 63)) || decide (x ≥ 2 ^ 63)) = false) (c1 : (items.isEmpty || x == 1) = true) :
    Meets (Builtin.«tuple.__mul__» ⟨[.ref l, .int x u], []⟩) (fun _ R s => s.heap.get? l = some { cls := .type "tuple", dict := dd, data := .seq items n, slots := sl } ∧ R (.ok (.ret (Value.ref l))) s) :=
  .of_wp fun prog w A R s h => by
    obtain ⟨hp, g, d, tk, os⟩ := s
    obtain ⟨hl, h⟩ := h
    have f1 := AutoSeq1.idx_int
    wp_walk using wpAny_loadPart' hl
    repeat (first
      | (refine wpAny_ite_false (decide_eq_false (by rw [c0]; exact Bool.false_ne_true)) ?_; wp_walk using wpAny_loadPart' hl)
      | (refine wpAny_ite_true (decide_eq_true c1) ?_; wp_walk using wpAny_loadPart' hl))
    exact ⟨_, rfl, h⟩
theorem tuple_mul0 (l : Addr) (items : Array Value) (n : Nat) (dd : Option Addr) (sl : Array (Option Value)) (x : Int) (u : Tok) (c0 : (decide (x < -(2 ^ 63)) || decide (x ≥ 2 ^ 63)) = false) (c1 : (items.isEmpty || x == 1) = false) (c2 : (decide (x ≤ 0) || items.isEmpty) = true) :
    Meets (Builtin.«tuple.__mul__» ⟨[.ref l, .int x u], []⟩) (fun _ R s => s.heap.get? l = some { cls := .type "tuple", dict := dd, data := .seq items n, slots := sl } ∧
      R (.ok (.ret (Value.ref s.heap.objs.size))) { s with heap := s.heap.push { cls := Value.type "tuple", data := Data.seq #[] }, toks := s.toks }) :=
  .of_wp fun prog w A R s h => by
    obtain ⟨hp, g, d, tk, os⟩ := s
    obtain ⟨hl, h⟩ := h
    have f1 := AutoSeq1.idx_int
    wp_walk using wpAny_loadPart' hl
    repeat (first
      | (refine wpAny_ite_false (decide_eq_false (by rw [c0]; exact Bool.false_ne_true)) ?_; wp_walk using wpAny_loadPart' hl)
      | (refine wpAny_ite_false (decide_eq_false (by rw [c1]; exact Bool.false_ne_true)) ?_; wp_walk using wpAny_loadPart' hl)
      | (refine wpAny_ite_true (decide_eq_true c2) ?_; wp_walk using wpAny_loadPart' hl))
    exact ⟨_, rfl, h⟩
def rRepT1 (K : PySem.W.Frag) : R2 := fun x y H Q => ∃ l xs, x = .ref l ∧ y = .int 1 ∧ SqT K H l xs ∧ Q (.ref l) H
def rRepT0 (K : PySem.W.Frag) : R2 := fun x y H Q => ∃ l xs, x = .ref l ∧ y = .int 0 ∧ SqT K H l xs ∧ xs ≠ [] ∧ ∀ p, H p = none → Q (.ref p) (upd H p (.tup []))
section
variable {X : Cx} {C : Cn}
theorem op_repT1 : OpR X (binaryOp .Mult) (rRepT1 X.K) := by
  intro pins s σ H x y v u Q I rx ry h
  obtain ⟨l, xs, rfl, rfl, hT, q⟩ := h
  cases rx
  obtain ⟨t, rfl⟩ := ry
  obtain ⟨its, r, ⟨⟨cls, dd, data, sl⟩, ho, hc, n, hd⟩, hs⟩ := I.tuple hT
  simp only at hc hd
  subst hc hd
  have c1 : (its.toArray.isEmpty || (1 : Int) == 1) = true := by rw [Bool.or_eq_true]; exact .inr rfl
  refine wpAny_binaryOp_repeat_ref (T := "tuple") (U := "int") (by decide) ⟨_, ho, rfl⟩ (fun s' => typeIs_int s' 1 t) noFill_tuple_mul F.fills_int_mul F.slot_int_rmul repeat_tuple F.slot_int_index.lookup
    (call_meets F.slot_int_rmul (typeIs_int s 1 t) F.entry_int_rmul (F.args_int_rmul_2 _ _) (int_rmul_tuple 1 t l its.toArray n dd sl)
      ⟨ho, rfl, ⟨_, ho, rfl⟩, call_meets F.slot_tuple_mul ⟨_, ho, rfl⟩ F.entry_tuple_mul (F.args_tuple_mul_2 _ _) (tuple_mul1 l its.toArray n dd sl 1 t (by decide) c1) ⟨ho, ?_⟩⟩)
  exact ⟨.ref l, H, I, rfl, q⟩
theorem op_repT0 : OpR X (binaryOp .Mult) (rRepT0 X.K) := by
  intro pins s σ H x y v u Q I rx ry h
  obtain ⟨l, xs, rfl, rfl, hT, hne, q⟩ := h
  cases rx
  obtain ⟨t, rfl⟩ := ry
  obtain ⟨its, r, ⟨⟨cls, dd, data, sl⟩, ho, hc, n, hd⟩, hs⟩ := I.tuple hT
  simp only at hc hd
  subst hc hd
  have hi : its.toArray.isEmpty = false := by
    cases its with
    | nil =>
      cases r
      exact absurd rfl hne
    | cons a b => rfl
  have c1 : (its.toArray.isEmpty || (0 : Int) == 1) = false := by rw [hi]; rfl
  have c2 : (decide ((0 : Int) ≤ 0) || its.toArray.isEmpty) = true := by rw [hi]; rfl
  refine wpAny_binaryOp_repeat_ref (T := "tuple") (U := "int") (by decide) ⟨_, ho, rfl⟩ (fun s' => typeIs_int s' 0 t) noFill_tuple_mul F.fills_int_mul F.slot_int_rmul repeat_tuple F.slot_int_index.lookup
    (call_meets F.slot_int_rmul (typeIs_int s 0 t) F.entry_int_rmul (F.args_int_rmul_2 _ _) (int_rmul_tuple 0 t l its.toArray n dd sl)
      ⟨ho, rfl, ⟨_, ho, rfl⟩, call_meets F.slot_tuple_mul ⟨_, ho, rfl⟩ F.entry_tuple_mul (F.args_tuple_mul_2 _ _) (tuple_mul0 l its.toArray n dd sl 0 t (by decide) c1 c2) ⟨ho, ?_⟩⟩)
  refine ⟨.ref s.heap.objs.size, _, I.laid (t' := s.toks) (o := .tup []) (fun b ob q => Heap.get?_push_of_some _ q) (Nat.le_refl _) ?_, rfl, q _ (I.hok.fresh (Nat.le_refl _))⟩
  exact ⟨Nat.zero_le _, [], .nil, IsTup.new _ _⟩
def rMulT (K : PySem.W.Frag) : R2 := fun x y H Q => rRepT1 K x y H Q ∨ (rRepT0 K x y H Q ∨ rRepT K x y H Q)
theorem op_mulT (hK : X.K = C.Γ.K) : OpR X (binaryOp .Mult) (rMulT C.Γ.K) := hK ▸ OpR.or op_repT1 (OpR.or op_repT0 op_repT)
/-- a tuple so many times -/
def pMulT : F2 := fun x y p => match x, y with
  | .tup xs, .int k => if xs.isEmpty = false ∧ 0 ≤ k ∧ k ≤ 1000 ∧ xs.length ≤ 1000 then .ok (.tup (times k.toNat xs)) p else .stuck
  | _, _ => .stuck
theorem ref_mulT : RefO C (rMulT C.Γ.K) pMulT := fun L w p H σ x y vx vy Q S rx ry q => by
  unfold pMulT at q
  split at q
  · rename_i xs k
    split at q
    · rename_i hh
      obtain ⟨h1, h2, h3, h4⟩ := hh
      obtain ⟨a, vs, rfl, hq, rr⟩ := rx
      have ry : vy = .int k := ry
      have hT := seqT_mono S.sub hq
      have hl := rr.length
      have hne : vs ≠ [] := fun z => by
        rw [z] at hl
        rw [List.eq_nil_of_length_eq_zero hl] at h1
        cases h1
      by_cases k1 : k = 1
      · subst k1
        refine .inl ⟨a, vs, rfl, ry, hT, q.ok S ⟨a, vs, rfl, hq, ?_⟩⟩
        have e : times (1 : Int).toNat xs = xs := by
          show (List.replicate 1 xs).flatten = xs
          simp
        rw [e]
        exact rr
      · by_cases k0 : k = 0
        · subst k0
          exact .inr (.inl ⟨a, vs, rfl, ry, hT, hne, newTup S Reps.nil q⟩)
        · exact .inr (.inr ⟨a, k, vs, rfl, ry, hT, hne, by omega, h3, by rw [← hl]; exact h4, newTup S (rr.times _) q⟩)
    · exact q.elim
  · exact q.elim
theorem times_rep (x : PV) (n : Nat) : R.times n [x] = List.replicate n x := by
  unfold R.times
  induction n with
  | zero => rfl
  | succ n ih =>
    rw [List.replicate_succ, List.flatten_cons, ih, List.replicate_succ]
    rfl
theorem pMulT_ok {x : PV} {n : Nat} {p : Pool} (h : n ≤ 1000) : pMulT (.tup [x]) (.int (n : Int)) p = .ok (.tup (List.replicate n x)) p := by
  have e : pMulT (.tup [x]) (.int (n : Int)) p = if [x].isEmpty = false ∧ 0 ≤ (n : Int) ∧ (n : Int) ≤ 1000 ∧ [x].length ≤ 1000 then .ok (.tup (times (n : Int).toNat [x])) p else .stuck := rfl
  rw [e, if_pos ⟨rfl, by omega, by omega, by show 1 ≤ 1000; decide⟩, Int.toNat_natCast, times_rep]
end
end R

/-! R31: what a comprehension of two fors answers; loops unrolled; what a def hands out -/
namespace R
open PySem L2
theorem loopC_app {ck : Pool → Bool} {g : T1} {te : M PV} {vs : List Nat} {en : En} {p : Pool} (hck : ∀ acc, ck (p ++ [.lst acc]) = true) : ∀ (xs ys acc : List PV), xs.length = ys.length →
    (∀ i (hi : i < xs.length) (hj : i < ys.length), ∃ as : As, g xs[i] = some as ∧ as.all (fun a => vs.elem a.1) = true ∧ ∀ acc, te (en.sets as) (p ++ [.lst acc]) = .ok ys[i] (p ++ [.lst acc]) ∧ bel p.length ys[i] = true) →
    acc.length + xs.length ≤ big → loopC ck g mYes te vs p.length en xs (p ++ [.lst acc]) = .ok () (p ++ [.lst (acc ++ ys)])
  | [], [], acc, _, _, _ => by
    rw [List.append_nil]
    unfold loopC
    rw [if_pos (hck acc)]
  | [], _ :: _, _, h, _, _ => by cases h
  | _ :: _, [], _, h, _, _ => by cases h
  | x :: xs, y :: ys, acc, hl, h, hb => by
    obtain ⟨as, eg, ea, ht⟩ := h 0 (Nat.succ_pos _) (Nat.succ_pos _)
    obtain ⟨t3, t4⟩ := ht acc
    rw [List.length_cons] at hb
    have eg : g x = some as := eg
    have t3 : te (en.sets as) (p ++ [.lst acc]) = .ok y (p ++ [.lst acc]) := t3
    have t4 : bel p.length y = true := t4
    have t1 : mYes (en.sets as) (p ++ [.lst acc]) = .ok true (p ++ [.lst acc]) := rfl
    unfold loopC
    rw [if_pos (hck acc), eg]
    dsimp only
    rw [if_pos ea, t1]
    dsimp only [Res.bind]
    rw [if_pos rfl, t3]
    dsimp only [Res.bind]
    rw [get_last]
    dsimp only
    rw [if_pos ⟨t4, by omega⟩, take_all1, set_last, loopC_app hck xs ys (acc ++ [y]) (by simpa using hl) (fun i hi hj => h (i + 1) (Nat.succ_lt_succ hi) (Nat.succ_lt_succ hj)) (by rw [List.length_append, List.length_singleton]; omega), List.append_assoc]
    rfl
theorem loopC2_app {ck : Pool → Bool} {g : T1} {it1 : M It0} {g1 : T1} {te : M PV} {vs vs1 : List Nat} {en : En} {p : Pool} (hck : ∀ acc, ck (p ++ [.lst acc]) = true) : ∀ (xs : List PV) (yss : List (List PV)) (acc : List PV), xs.length = yss.length →
    (∀ i (hi : i < xs.length) (hj : i < yss.length), ∃ (as : As) (zs : List PV), g xs[i] = some as ∧ as.all (fun a => vs.elem a.1) = true ∧ zs.length = yss[i].length ∧ (∀ acc, it1 (en.sets as) (p ++ [.lst acc]) = .ok ⟨zs, noCk⟩ (p ++ [.lst acc])) ∧
      ∀ k (hk : k < zs.length) (hk2 : k < yss[i].length), ∃ as1 : As, g1 zs[k] = some as1 ∧ as1.all (fun a => vs1.elem a.1) = true ∧ ∀ acc, te (En.sets ⟨p.length + 1, wipeE (en.sets as).sl vs1⟩ as1) (p ++ [.lst acc]) = .ok yss[i][k] (p ++ [.lst acc]) ∧ bel p.length yss[i][k] = true) →
    acc.length + yss.flatten.length ≤ big → loopC2 ck g mYes it1 g1 mYes te vs vs1 p.length en xs (p ++ [.lst acc]) = .ok () (p ++ [.lst (acc ++ yss.flatten)])
  | [], [], acc, _, _, _ => by
    rw [List.flatten_nil, List.append_nil]
    unfold loopC2
    rw [if_pos (hck acc)]
  | [], _ :: _, _, h, _, _ => by cases h
  | _ :: _, [], _, h, _, _ => by cases h
  | x :: xs, ys :: yss, acc, hl, h, hb => by
    obtain ⟨as, zs, eg, ea, lz, ei, hz⟩ := h 0 (Nat.succ_pos _) (Nat.succ_pos _)
    have eg : g x = some as := eg
    have lz : zs.length = ys.length := lz
    rw [List.flatten_cons, List.length_append] at hb
    have t1 : mYes (en.sets as) (p ++ [.lst acc]) = .ok true (p ++ [.lst acc]) := rfl
    have inner := loopC_app (ck := noCk) (g := g1) (te := te) (vs := vs1) (en := ⟨p.length + 1, wipeE (en.sets as).sl vs1⟩) (p := p) (fun _ => rfl) zs ys acc lz (fun k hk hk2 => hz k hk hk2) (by omega)
    unfold loopC2
    rw [if_pos (hck acc), eg]
    dsimp only
    rw [if_pos ea, t1]
    dsimp only [Res.bind]
    rw [if_pos rfl, ei acc]
    dsimp only
    rw [if_pos (len1 p _), inner]
    dsimp only
    rw [take_all1, loopC2_app hck xs yss (acc ++ ys) (by simpa using hl) (fun i hi hj => h (i + 1) (Nat.succ_lt_succ hi) (Nat.succ_lt_succ hj)) (by rw [List.length_append]; omega), List.append_assoc, List.flatten_cons]
section
variable {en en1 : En} {p p1 : Pool} {R : Ctl → Prop}
theorem lc2_flat {it : M It0} {g : T1} {it1 : M It0} {g1 : T1} {te : M PV} {vs vs1 : List Nat} {xs : List PV} (yss : List (List PV)) (hi : it en p = .ok ⟨xs, noCk⟩ p1) (hl : xs.length = yss.length)
    (h : ∀ i (hi : i < xs.length) (hj : i < yss.length), ∃ (as : As) (zs : List PV), g xs[i] = some as ∧ as.all (fun a => vs.elem a.1) = true ∧ zs.length = yss[i].length ∧ (∀ acc, it1 (En.sets ⟨p1.length + 1, wipeE en.sl vs⟩ as) (p1 ++ [.lst acc]) = .ok ⟨zs, noCk⟩ (p1 ++ [.lst acc])) ∧
      ∀ k (hk : k < zs.length) (hk2 : k < yss[i].length), ∃ as1 : As, g1 zs[k] = some as1 ∧ as1.all (fun a => vs1.elem a.1) = true ∧ ∀ acc, te (En.sets ⟨p1.length + 1, wipeE (En.sets ⟨p1.length + 1, wipeE en.sl vs⟩ as).sl vs1⟩ as1) (p1 ++ [.lst acc]) = .ok yss[i][k] (p1 ++ [.lst acc]) ∧ bel p1.length yss[i][k] = true)
    (hb : yss.flatten.length ≤ big) : mLc2 it g mYes it1 g1 mYes te vs vs1 en p = .ok (.lst yss.flatten) p1 := by
  unfold mLc2
  rw [hi]
  dsimp only [Res.bind]
  rw [loopC2_app (ck := noCk) (fun _ => rfl) xs yss [] hl h (by rw [List.length_nil]; omega)]
  dsimp only
  rw [get_last]
  dsimp only
  rw [take_last, List.nil_append]
theorem lu_nil {ck : Pool → Bool} {g : T1} {body : S} (hc : ck p = true) (k : R (.next en p)) : Ends (loopF ck g body [] en p) R := by
  rw [for_end hc]
  exact ⟨k⟩
theorem lu_cons {ck : Pool → Bool} {g : T1} {body : S} {x : PV} {xs : List PV} {as : As} (hc : ck p = true) (hg : g x = some as) (k : Ends (body (en.sets as) p) (Trn (fun en p => Ends (loopF ck g body xs en p) R) R)) : Ends (loopF ck g body (x :: xs) en p) R := by
  have k := k.h
  rw [loopF]
  dsimp only
  rw [if_pos hc, hg]
  dsimp only
  generalize body (en.sets as) p = c at k
  cases c with
  | next en2 p2 => exact k
  | cont en2 p2 => exact k
  | brk en2 p2 => exact ⟨k⟩
  | ret x p2 => exact ⟨k⟩
  | exc c v en2 p2 => exact ⟨k⟩
  | stuck => exact ⟨k⟩
theorem lu_for {it : M It0} {g : T1} {body : S} {z : It0} (hi : it en p = .ok z p1) (k : Ends (loopF z.ck g body z.xs en p1) R) : Ends (sFor it g body en p) R := by
  rw [sFor_ok hi rfl]
  exact k
theorem lu_seq {it : M It0} {g : T1} {body b : S} {z : It0} (hi : it en p = .ok z p1) (k : Ends (loopF z.ck g body z.xs en p1) fun c => Ends (c.andThen b) R) : Ends (sSeq (sFor it g body) b en p) R := go_seq (lu_for hi k)
theorem fnM_thw {fld : Nat → List Str} {N : Nat} {body : S} {xs : List PV} {x : PV} {q : Pool} (hq : q.length = p.length) (h : Ends (body ⟨p.length, xs.map some ++ List.replicate (N - xs.length) none⟩ p) fun c => ∃ y r, c = .ret y (q ++ r) ∧ thaw fld p.length (q ++ r) y = some x) : fnM fld N body xs p = .ok x q := by
  obtain ⟨y, r, e, t⟩ := h.h
  rw [fnM_ret e t, ← hq, List.take_left]
theorem sub_ok' {a b : M PV} {x y : Int} (h1 : a en p = .ok (.int x) p) (h2 : b en p = .ok (.int y) p) : mBin pSub a b en p = .ok (.int (x - y)) p := sub_ok h1 h2
end
end R

/-! R32: sorted by a key that is told by a lambda -/
namespace R
open PySem PySem.Spec PyProof.Rows L2
/-- what a lambda v: v[j] answers of a tuple -/
theorem kla_ix {prog : Program} {w : World} {A : Around} {E : Value → Shared → Prop} {s : Shared} {f c' a : Addr} {x q nm : Str} {params : Arguments} {scope : Scope} {clos : List (Str × Addr)} {pm ctv : Value} {j k : Nat} {p1 p2 p3 : Pos} {items : Array Value} {u : Value} {Q : Value → Shared → Prop}
    (hroom : A.depth < recursionLimit) (hf : s.heap.get? f = some (PySem.W.kla_obj nm q params (.Subscript (.Name x p1) (.Constant (.int (j : Int)) k p2) p3) scope clos pm c' ctv)) (hcd : s.heap.CodeRec (.ref c') q) (nl : s.heap.NoLimit)
    (hb : bindArgs (PySem.W.kla_fn nm q params (.Subscript (.Name x p1) (.Constant (.int (j : Int)) k p2) p3) scope clos pm (.ref c') ctv) ⟨[.ref a], []⟩ = pure [(x, .ref a)])
    (hco : scope.isCoroutine = false) (hgen : scope.isGenerator = false) (hk : scope.kind = .function) (hcell : ∀ y ∈ scope.names, y.2 ≠ .cell) (hx : scope.names.lookup x = some .local) (hd : (x == ("__debug__" : Str)) = false)
    (ht : IsTup s.heap a items) (hz : items.size ≤ sizeLine) (hu : items[j]? = some u)
    (h : ∀ h' tk, (∀ b o, s.heap.get? b = some o → h'.get? b = some o) → Q u { s with heap := h', toks := tk }) :
    wpAny (model prog w) A (call (.ref f) [.ref a]) Q E s := by
  refine wpAny_call ?_
  refine PySem.W.kla_callFunE hroom hf rfl hco hgen rfl hcd ?_
  rw [hb]
  refine wpAny_pure (wpAny_newFunctionEnv hcell (fun y hy => ?_) (fun h₁ hns hsb => ?_) hk)
  · rw [List.mem_singleton.mp hy]
    exact hx
  · have up : ∀ b o, s.heap.get? b = some o → h₁.get? b = some o := fun b o e => hsb.extBut b o (Nat.ne_of_lt (Heap.lt_size e)) (Heap.get?_push_of_some _ e)
    refine ⟨nl.fresh _ hsb, ?_⟩
    refine PySem.W.kla_codeExpr ?_
    refine Subscript_ ?_
    refine wpAny_Name (wpAny_loadName_local hk hx hns (v := .ref a) ?_ ?_) hd
    · show List.lookup x [(x, Value.ref a)] = some (Value.ref a)
      rw [List.lookup_cons_self]
    refine wpAny_Constant_int ?_
    obtain ⟨ot, h1, h2, n, h3⟩ := ht
    have ht' : IsTup h₁ a items := ⟨ot, up _ _ h1, h2, n, h3⟩
    have hj : j < items.size := by
      have := (Array.getElem?_eq_some_iff.mp hu).1
      exact this
    have hn := line63
    refine subscriptTail_builtinR (x := u) ht'.typeIs slot_tuple_getitem.lookup (getItem_tuple (j := j) ht' (by omega) (by omega) ?_ hu ?_) ?_
    · rw [seqIndex_of (by omega) (by omega)]
      simp
    · exact ⟨rfl, h h₁ _ up⟩
    · with_unfolding_all rfl
/-- a key: a number, or a tuple of numbers -/
def KeyV (K : PySem.W.Frag) (H : Hp) (v : V) (d : PyData) : Prop := (∃ i, v = .int i ∧ d = .int i) ∨ ∃ (t : Addr) (ns : List Int), v = .ref t ∧ SqT K H t (ns.map V.int) ∧ d = .tuple (ns.map .int)
theorem reads_intsP {h : Heap} : ∀ {ns : List Int} {vs : List Value}, Vals (ns.map V.int) vs → ReadsAll h vs (ns.map .int) []
  | [], vs, r => by
    cases r
    exact .nil
  | n :: ns, _, r => by
    cases r with
    | cons r1 r2 =>
      obtain ⟨t, rfl⟩ := r1
      have e : ([] : List Addr) = [] ++ [] := rfl
      rw [e]
      exact ReadsAll.cons (Reads.int n t) (reads_intsP r2)
theorem KeyV.reads {X : Cx} {pins : List (Addr × Obj)} {σ : L2.St} {H : Hp} {s : Shared} {v : V} {d : PyData} {u : Value} (I : Inv X pins σ H s) (h : KeyV X.K H v d) (r : RelV v u) : Reads s.heap u d [] := by
  rcases h with ⟨i, rfl, rfl⟩ | ⟨t, ns, rfl, hq, rfl⟩
  · obtain ⟨t, rfl⟩ := r
    exact .int i t
  · obtain rfl : u = Value.ref t := r
    obtain ⟨its, rv, ⟨o, ho, hc, n, hd⟩, _⟩ := I.tuple hq
    exact Reads.tuple ho hc hd (reads_intsP rv)
theorem each_vals {L : List (V × PyData)} {vs : List Value} (h : PySem.W.EachIs (fun u (x : V × PyData) => RelV x.1 u) vs L) : Vals (L.map (·.1)) vs := by
  induction h with
  | nil => exact .nil
  | cons r _ ih => exact .cons r ih
theorem vals_each : ∀ {us : List V} {ds : List PyData} {vs : List Value}, Vals us vs → us.length = ds.length → PySem.W.EachIs (fun u (x : V × PyData) => RelV x.1 u) vs (us.zip ds)
  | [], [], _, r, _ => by
    cases r
    exact .nil
  | [], _ :: _, _, _, h => by cases h
  | _ :: _, [], _, _, h => by cases h
  | u :: us, d :: ds, _, r, h => by
    cases r with
    | cons r1 r2 => exact .cons r1 (vals_each r2 (by simpa using h))
def leK (x y : V × PyData) : Bool := PySem.W.dataLe false (fun z : V × PyData => z.2) x y
section
variable {X : Cx} {pins : List (Addr × Obj)} {σ : L2.St} {H : Hp} {s : Shared}
/-- sorted(xs, key=lambda v: v[j]) -/
theorem sortK_run {E : Value → Shared → Prop} {l f c' : Addr} {us : List V} {ds : List PyData} {x q nm : Str} {params : Arguments} {scope : Scope} {clos : List (Str × Addr)} {pm ctv : Value} {j k m : Nat} {p1 p2 p3 : Pos} {Q : Value → Shared → Prop} (I : Inv X pins σ H s) (hr : Room m X.A)
    (hf : s.heap.get? f = some (PySem.W.kla_obj nm q params (.Subscript (.Name x p1) (.Constant (.int (j : Int)) k p2) p3) scope clos pm c' ctv)) (hcd : s.heap.CodeRec (.ref c') q)
    (hb : ∀ a : Addr, bindArgs (PySem.W.kla_fn nm q params (.Subscript (.Name x p1) (.Constant (.int (j : Int)) k p2) p3) scope clos pm (.ref c') ctv) ⟨[.ref a], []⟩ = pure [(x, .ref a)])
    (hco : scope.isCoroutine = false) (hgen : scope.isGenerator = false) (hk : scope.kind = .function) (hcell : ∀ y ∈ scope.names, y.2 ≠ .cell) (hx : scope.names.lookup x = some .local) (hd : (x == ("__debug__" : Str)) = false)
    (hs : SqL X.K H l us) (hlen : us.length = ds.length) (keys : ∀ z ∈ us.zip ds, ∃ t xs kv, z.1 = .ref t ∧ SqT X.K H t xs ∧ xs[j]? = some kv ∧ KeyV X.K H kv z.2) (hal : PySem.W.AllAlike ds) (hsk : PySem.W.Sortable ds) (hdep : ∀ d ∈ ds, d.depth ≤ 64)
    (h : ∀ (out : List V) (d : Addr) (h' : Heap) (tk : Nat), out = ((us.zip ds).mergeSort leK).map (·.1) → H d = none → Inv X pins σ (upd H d (.lst out)) { s with heap := h', toks := tk } → Q (.ref d) { s with heap := h', toks := tk }) :
    wpAny (model X.prog X.w) X.A (call (.builtin "sorted") [.ref l] [(Str.ofString "key", .ref f)]) Q E s := by
  obtain ⟨its, rv, hl, hz⟩ := I.list hs
  have ee := vals_each rv hlen
  have e2 : (us.zip ds).map (·.2) = ds := List.map_snd_zip (by omega)
  have zl : (us.zip ds).length = us.length := by rw [List.length_zip]; omega
  refine PySem.W.sorted_key_data (β := V × PyData) (bs := us.zip ds) (b := false) (R := fun u x => RelV x.1 u) (fun z => z.2) hl.isList ee (by rw [e2]; exact hal) (by rw [e2]; exact hsk) (by rw [zl]; exact hz) (fun z hz => ?_) (PyProof.Rows.ksk_s1 _ _) (fun _ => PyProof.Rows.ksk_l1 _ _) (fun _ => PyProof.Rows.ksk_t1 _ _) (fun v z hR hz h2 tk kp => ?_) (fun out c h' tk kp nn hat hol hE => ?_)
  · have h1 := hdep z.2 (List.of_mem_zip hz).2
    have h2 := hr.un
    show X.A.units + 2 + z.2.depth < cLine
    omega
  · obtain ⟨t, xs, kv, e1, hq, hj, hK⟩ := keys z hz
    rw [e1] at hR
    obtain rfl : v = Value.ref t := hR
    obtain ⟨its2, rv2, ht, hz2⟩ := I.tuple hq
    obtain ⟨u, eu, ru⟩ := rv2.get hj
    obtain ⟨ot, h1, h2', n, h3⟩ := ht
    have hread := hK.reads I ru
    refine kla_ix (s := { s with heap := h2, toks := tk }) (items := its2.toArray) (u := u) (j := j) hr.depth (kp _ _ hf) (hcd.keeps kp) ((I.mod.nolimit.keeps I.bk).keeps kp) (hb t) hco hgen hk hcell hx hd ⟨ot, kp _ _ h1, h2', n, h3⟩ (by rw [List.size_toArray, ← rv2.length]; exact hz2) (by simpa using eu) fun h' tk' up => ?_
    exact ⟨h', tk', rfl, up, PyProof.Rows.Reads.keeps up (PyProof.Rows.Reads.keeps kp hread)⟩
  · have ro := each_vals hE
    have fr := I.hok.fresh (Nat.le_succ s.heap.objs.size)
    refine h _ (s.heap.objs.size + 1) h' tk rfl fr ?_
    refine I.laid (t' := tk) kp (Nat.le_succ _) ⟨?_, out, c, ro, hat⟩
    rw [List.length_map, List.length_mergeSort, zl]
    exact hz
end
section
open PySem.Calls
variable {prog : Program} {w : World} {A : Around} {E : Value → Shared → Prop} {s : Shared}
/-- sorted([v], key=f) -/
theorem sort_one {l : Addr} {f : Addr} {v : Value} {Q : Value → Shared → Prop} (hl : s.heap.IsList l [v].toArray)
    (turn : ∀ (h : Heap) (tk : Nat), (∀ b o, s.heap.get? b = some o → h.get? b = some o) → ∀ Q' : Value → Shared → Prop, (∀ k h' tk', (∀ b o, h.get? b = some o → h'.get? b = some o) → Q' k { s with heap := h', toks := tk' }) →
      wpAny (model prog w) A.in1.in1 (call (.ref f) [v]) Q' (fun _ _ => False) { s with heap := h, toks := tk })
    (h : ∀ c h' tk, (∀ b o, s.heap.get? b = some o → h'.get? b = some o) → h'.get? (s.heap.objs.size + 1) = some (seqObj "list" [v].toArray c) → Q (.ref (s.heap.objs.size + 1)) { s with heap := h', toks := tk }) :
    wpAny (model prog w) A (call (.builtin "sorted") [.ref l] [(Str.ofString "key", .ref f)]) Q E s := by
  refine PySem.W.sorted_of_sort hl (by show 1 ≤ sizeLine; rw [sizeLine_eq]; omega) (PyProof.Rows.ksk_s1 _ _) (fun _ => PyProof.Rows.ksk_l1 _ _) fun E' => ?_
  rw [PyProof.Rows.ksk_t1]
  have hc := PySem.W.copyHeap_at s.heap [v]
  have up0 : ∀ b o, s.heap.get? b = some o → (PySem.W.copyHeap s.heap [v]).get? b = some o := fun b o e => PySem.W.copyHeap_old e
  generalize PySem.W.copyHeap s.heap [v] = h0 at hc up0
  have hlt : ∀ b o, s.heap.get? b = some o → b ≠ s.heap.objs.size + 1 := fun b o e => Nat.ne_of_lt (Nat.lt_succ_of_lt (Heap.lt_size e))
  generalize s.heap.objs.size + 1 = a at *
  unfold ksk_tree
  refine wpAny_bind (listItems_at hc rfl ?_)
  refine wpAny_bind (listUpdate_at hc rfl ?_ (by show 1 ≤ sizeLine; rw [sizeLine_eq]; omega) (Nat.zero_le _))
  obtain ⟨e1, ho1⟩ : ∃ e1, (h0.update a (Obj.mapSeq fun _ => (#[] : Array Value))).get? a = some (seqObj "list" #[] e1) := ⟨_, get?_update_seq hc fun _ => #[]⟩
  have up1 : ∀ b o, s.heap.get? b = some o → (h0.update a (Obj.mapSeq fun _ => (#[] : Array Value))).get? b = some o := fun b o e => (Heap.get?_update_ne _ _ _ _ (hlt b o e)).trans (up0 b o e)
  generalize h0.update a (Obj.mapSeq fun _ => (#[] : Array Value)) = h1 at ho1 up1
  refine wpAny_bind (seqEpoch_at ho1 rfl ?_)
  refine wpAny_bind (wpAny_newTuple ?_ (by show 1 ≤ sizeLine; rw [sizeLine_eq]; omega))
  refine wpAny_bind (wpAny_newList ?_ (Nat.zero_le _))
  refine wpAny_holding ?_
  have la : a < h1.objs.size := Heap.lt_size ho1
  have hS : ((h1.push (seqObj "tuple" [v].toArray 0)).push (seqObj "list" #[] 0)).get? (h1.push (seqObj "tuple" [v].toArray 0)).objs.size = some (seqObj "list" #[] 0) := Heap.get?_push_size _ rfl
  have hA : ((h1.push (seqObj "tuple" [v].toArray 0)).push (seqObj "list" #[] 0)).get? a = some (seqObj "list" #[] e1) := Heap.get?_push_of_some _ (Heap.get?_push_of_some _ ho1)
  have up2 : ∀ b o, s.heap.get? b = some o → ((h1.push (seqObj "tuple" [v].toArray 0)).push (seqObj "list" #[] 0)).get? b = some o := fun b o e => Heap.get?_push_of_some _ (Heap.get?_push_of_some _ (up1 b o e))
  have hsz : (h1.push (seqObj "tuple" [v].toArray 0)).objs.size = h1.objs.size + 1 := size_push' _ _
  have ne : (h1.push (seqObj "tuple" [v].toArray 0)).objs.size ≠ a := by
    rw [hsz]
    exact Nat.ne_of_gt (Nat.lt_succ_of_lt la)
  have nS : ∀ b o, s.heap.get? b = some o → b ≠ (h1.push (seqObj "tuple" [v].toArray 0)).objs.size := fun b o e => by
    rw [hsz]
    exact Nat.ne_of_lt (Nat.lt_succ_of_lt (Heap.lt_size (up1 b o e)))
  show wpAny (model prog w) A.in1.in1 (ksk_rest a (.ref f) false [v].toArray e1 (.ref (h1.push (seqObj "tuple" [v].toArray 0)).objs.size)) _ E' { s with heap := (h1.push (seqObj "tuple" [v].toArray 0)).push (seqObj "list" #[] 0) }
  generalize (h1.push (seqObj "tuple" [v].toArray 0)).push (seqObj "list" #[] 0) = h2 at hS hA up2
  generalize (h1.push (seqObj "tuple" [v].toArray 0)).objs.size = kS at *
  unfold ksk_rest
  refine wpAny_bind (wpAny_rule ?_)
  rw [List.forIn_toArray]
  refine wpAny_bind (ksk_fold (fun i s' => ∃ h' tk kA e, s' = { s with heap := h', toks := tk } ∧ (∀ b o, s.heap.get? b = some o → h'.get? b = some o) ∧ h'.get? kS = some (seqObj "list" kA e) ∧ h'.get? a = some (seqObj "list" #[] e1) ∧ kA.size = i) [v] 0 _
    ⟨h2, s.toks, #[], 0, rfl, up2, hS, hA, rfl⟩ ?step ?done)
  case step =>
    rintro j y s' hy ⟨h', tk, kA, e, rfl, kp, k1, k2, kz⟩
    have hj : j = 0 := by
      have := (List.getElem?_eq_some_iff.mp hy).1
      simp at this
      omega
    subst hj
    have hy : some v = some y := hy
    cases hy
    refine wpAny_bind (wpAny_attempt (wpAny_mono (turn h' tk kp (fun u s2 => ∃ g tk2, s2 = { s with heap := g, toks := tk2 } ∧ ∀ b o, h'.get? b = some o → g.get? b = some o) fun u g tk2 up => ⟨g, tk2, rfl, up⟩) (fun u s2 he => ?_) fun _ _ z => z.elim))
    obtain ⟨g, tk2, rfl, up⟩ := he
    try dsimp only
    have k1' := up _ _ k1
    have k2' := up _ _ k2
    obtain ⟨c2, hc2⟩ : ∃ c2, (g.update kS (Obj.mapSeq (·.push u))).get? kS = some (seqObj "list" (kA.push u) c2) := ⟨_, get?_update_seq k1' (·.push u)⟩
    refine wpAny_bind (listUpdate_at k1' rfl ?_ (by rw [kz]; exact Nat.zero_le _) (by rw [Array.size_push, kz]; omega))
    refine wpAny_pure ⟨rfl, _, _, kA.push u, c2, rfl, fun b o e => ?_, hc2, ?_, by rw [Array.size_push, kz]⟩
    · exact (Heap.get?_update_ne _ _ _ _ (nS b o e)).trans (up _ _ (kp b o e))
    · exact (Heap.get?_update_ne _ _ _ _ ne.symm).trans k2'
  case done =>
    rintro s' ⟨h', tk, kA, e, rfl, kp, k1, k2, kz⟩
    try dsimp only
    refine wpAny_bind (listItems_at k1 rfl ?_)
    have kz : kA.size = 1 := kz
    unfold ksk_end
    try dsimp only
    have h1s : [v].toArray.size < 2 := by
      show 1 < 2
      decide
    rw [if_neg Bool.false_ne_true, if_pos h1s, if_pos h1s]
    refine wpAny_bind (wpAny_pure ?_)
    rw [StateT.run_pure]
    refine wpAny_bind (wpAny_pure ?_)
    try dsimp only
    obtain ⟨k0, rfl⟩ := Array.size_eq_one_iff.mp kz
    refine PySem.W.keyH_tail (h₁ := s.heap) (b := false) (out := [v]) (fun b o hb e => kp b o e) ?_ k1 k2 ne (by show 1 ≤ sizeLine; rw [sizeLine_eq]; omega) (by show 1 ≤ sizeLine; rw [sizeLine_eq]; omega) rfl (by rw [if_neg Bool.false_ne_true, if_neg Bool.false_ne_true]; show Array.map _ (#[k0].zip #[v]) = #[v]; simp) fun h3 tk3 c k3 n3 => ⟨rfl, h c h3 tk3 (fun b o e => k3 b o (hlt b o e) e) n3⟩
    cases q : s.heap.get? kS with
    | none => rfl
    | some o => exact absurd rfl (nS kS o q)
end
theorem sqL_extN {K : PySem.W.Frag} {H H' : Hp} {a : Addr} {xs : List V} (e : LamX.ExtN H H') (h : SqL K H a xs) : SqL K H' a xs := by
  rcases h with (h | ⟨o, h⟩) | h
  · exact .inl (.inl (e _ _ h (fun _ z => nomatch z)))
  · exact .inl (.inr ⟨o, e _ _ h (fun _ z => nomatch z)⟩)
  · exact .inr h
theorem sqT_extN {K : PySem.W.Frag} {H H' : Hp} {a : Addr} {xs : List V} (e : LamX.ExtN H H') (h : SqT K H a xs) : SqT K H' a xs := by
  rcases h with (h | ⟨o, h⟩) | h
  · exact .inl (.inl (e _ _ h (fun _ z => nomatch z)))
  · exact .inl (.inr ⟨o, e _ _ h (fun _ z => nomatch z)⟩)
  · exact .inr h
theorem KeyV.extN {K : PySem.W.Frag} {H H' : Hp} {v : V} {d : PyData} (e : LamX.ExtN H H') (h : KeyV K H v d) : KeyV K H' v d := by
  rcases h with h | ⟨t, ns, e1, e2, e3⟩
  · exact .inl h
  · exact .inr ⟨t, ns, e1, sqT_extN e e2, e3⟩
/-- what is told of an item's key -/
def KeyAt (K : PySem.W.Frag) (H : Hp) (j : Nat) (v : V) (d : PyData) : Prop := ∃ t xs kv, v = .ref t ∧ SqT K H t xs ∧ xs[j]? = some kv ∧ KeyV K H kv d
theorem KeyAt.extN {K : PySem.W.Frag} {H H' : Hp} {j : Nat} {v : V} {d : PyData} (e : LamX.ExtN H H') (h : KeyAt K H j v d) : KeyAt K H' j v d := by
  obtain ⟨t, xs, kv, e1, e2, e3, e4⟩ := h
  exact ⟨t, xs, kv, e1, sqT_extN e e2, e3, e4.extN e⟩
/-- the keys go together: all numbers, or all tuples that hold something, or there is one at most -/
def KeysGo (ds : List PyData) : Prop := (PySem.W.AllAlike ds ∧ PySem.W.Sortable ds ∧ ∀ d ∈ ds, d.depth ≤ 64) ∨ ds.length = 1
def kSortLam (K : PySem.W.Frag) (T : List (Addr × Str)) (j : Nat) (Q : VK) (v : V) (H1 : Hp) : Prop := LamX.Tabs T H1 ∧ ∃ (l : Addr) (us : List V) (ds : List PyData), v = .ref l ∧ SqL K H1 l us ∧ us.length = ds.length ∧ (∀ z ∈ us.zip ds, KeyAt K H1 j z.1 z.2) ∧ KeysGo ds ∧
  ∀ H2 d, LamX.ExtN H1 H2 → LamX.Tabs T H2 → H2 d = none → Q (.ref d) (upd H2 d (.lst (((us.zip ds).mergeSort leK).map (·.1))))
def tSortLam (K : PySem.W.Frag) (T : List (Addr × Str)) (j : Nat) (te : TE) : TE := fun σ H Q => te σ H fun v H1 => kSortLam K T j Q v H1
section
variable {X : Cx}
theorem pe_sortLam {T : List (Addr × Str)} {c P : Addr} {y : Str} {params : Arguments} {scope : Scope} {j k m : Nat} {p pos kpos lpos p1 p2 p3 : Pos} {e : Expr} {te : TE}
    (TB : LamX.TabB X.base X.mg c P) (hcode : X.env.code = .ref c) (hm : (P, X.env.qual ++ "<lambda>") ∈ T) (hu : ∀ p ∈ T, p.1 = P → p.2 = X.env.qual ++ "<lambda>") (hdef : defaultsOf params X.env = ([], [])) (hfree : ∀ y ∈ scope.names, y.2 = .free → ∃ c, X.env.cells.lookup y.1 = some c)
    (hg : Gl X "sorted") (hmg : X.mg "sorted" = none) (hr : Room m X.A)
    (hb : ∀ (q : Str) (clos : List (Str × Addr)) (pm ctv : Value) (c' a : Addr), bindArgs (PySem.W.kla_fn "<lambda>" q params (.Subscript (.Name y p1) (.Constant (.int (j : Int)) k p2) p3) scope clos pm (.ref c') ctv) ⟨[.ref a], []⟩ = pure [(y, .ref a)])
    (hco : scope.isCoroutine = false) (hgen : scope.isGenerator = false) (hk : scope.kind = .function) (hcell : ∀ z ∈ scope.names, z.2 ≠ .cell) (hy : scope.names.lookup y = some .local) (hd : (y == ("__debug__" : Str)) = false) (he : PE X e te)
    (hs : starEach [e] X.env = (false, eval e X.env) :: starEach [] X.env := by rfl) (hbk : backTo pos (starEach [e] X.env) = (false, eval e X.env) :: backTo pos (starEach [] X.env) := by rfl) (hpl : (backTo pos (starEach [e] X.env)).any (·.1) = false := by rfl) :
    PE X (.Call (.Name "sorted" p) [e] [⟨some "key", .Lambda params (.Subscript (.Name y p1) (.Constant (.int (j : Int)) k p2) p3) scope lpos, kpos⟩] pos) (tSortLam X.K T j te) := by
  refine ⟨fun pins s σ H Q I hq => ?_⟩
  have ha : PA X [e] (tCons te tNil) := pa_cons he pa_nil hs
  refine wpAny_Call_Name_kw ?_
  refine ld_blt I hg hmg (u := .builtin "sorted") (by rfl) ?_
  refine PyProof.Rows.callWith_kw (e := e) (rest := []) ?_ hbk hpl
  refine thn (ha.run pos pins s σ H (fun vs H1 => match vs with
    | [v] => kSortLam X.K T j Q v H1
    | _ => False) I hq) fun us s1 hA => ?_
  obtain ⟨vs, H1, I1, r1, q1⟩ := hA
  obtain ⟨v, rfl⟩ : ∃ v, vs = [v] := by
    match vs, q1 with
    | [v], _ => exact ⟨v, rfl⟩
  obtain ⟨hT, l, vs, ds, rfl, hl, hlen, hkeys, hgo, q2⟩ := q1
  cases r1 with
  | cons ra rb =>
    cases rb
    cases ra
    show wpAny _ _ (evalAll ((do let v ← eval (.Lambda params (.Subscript (.Name y p1) (.Constant (.int (j : Int)) k p2) p3) scope lpos) X.env; standAt pos; pure v) :: [])) _ _ s1
    refine wpAny_evalAll_cons (wpAny_bind ?_)
    refine LamX.lam_make2 I1 TB hcode hm hu hT hdef hfree fun f c' pm ctv H2 s2 I2 eN T2 hf nf nfr hc => ?_
    refine wpAny_bind (wpAny_standAt (wpAny_pure (wpAny_evalAll_nil ?_)))
    show wpAny _ _ (call (.builtin "sorted") [.ref l] [(Str.ofString "key", .ref f)]) _ _ s2
    have hcd : s2.heap.CodeRec (.ref c') (X.env.qual ++ "<lambda>") := by
      obtain ⟨⟨oc, ws, t, z1, z2, z3⟩, _⟩ := I2.hok c' _ hc
      exact ⟨c', oc, ws, t, rfl, z1, z2, z3⟩
    rcases hgo with ⟨g1, g2, g3⟩ | g
    · exact sortK_run I2 hr hf hcd (fun a => hb _ _ _ _ _ a) hco hgen hk hcell hy hd (sqL_extN eN hl) hlen (fun z hz => (hkeys z hz).extN eN) g1 g2 g3 fun out d h' tk eo hn I3 => ⟨.ref d, _, I3, rfl, by rw [eo]; exact q2 H2 d eN T2 hn⟩
    · obtain ⟨d0, rfl⟩ := List.length_eq_one_iff.mp g
      obtain ⟨u0, rfl⟩ := List.length_eq_one_iff.mp hlen
      obtain ⟨t, xs, kv, e1, hq, hj, hK⟩ := (hkeys (u0, d0) (.head _)).extN eN
      have e1 : u0 = .ref t := e1
      subst e1
      obtain ⟨its, rv, hil, hz⟩ := I2.list (sqL_extN eN hl)
      cases rv with
      | cons ru rn =>
        cases rn
        cases ru
        obtain ⟨its2, rv2, ht, hz2⟩ := I2.tuple hq
        obtain ⟨u, eu, ru⟩ := rv2.get hj
        obtain ⟨ot, h1, h2', n, h3⟩ := ht
        refine sort_one hil.isList (fun h2 tk kp Q' hQ' => ?_) fun cc h' tk kp hat => ?_
        · exact kla_ix (s := { s2 with heap := h2, toks := tk }) (items := its2.toArray) (u := u) (j := j) hr.depth (kp _ _ hf) (hcd.keeps kp) ((I2.mod.nolimit.keeps I2.bk).keeps kp) (hb _ _ _ _ _ t) hco hgen hk hcell hy hd ⟨ot, kp _ _ h1, h2', n, h3⟩ (by rw [List.size_toArray, ← rv2.length]; exact hz2) (by simpa using eu) fun h' tk' up => hQ' _ _ _ up
        · have fr := I2.hok.fresh (Nat.le_succ s2.heap.objs.size)
          have I3 : Inv X pins σ (upd H2 (s2.heap.objs.size + 1) (.lst [V.ref t])) { s2 with heap := h', toks := tk } := I2.laid (t' := tk) kp (Nat.le_succ _) ⟨hz, [Value.ref t], cc, .cons rfl .nil, hat⟩
          have q3 := q2 H2 _ eN T2 fr
          have em : (([V.ref t].zip [d0]).mergeSort leK).map (·.1) = [V.ref t] := by
            show ([(V.ref t, d0)].mergeSort leK).map (·.1) = _
            rw [List.mergeSort_singleton]
            rfl
          rw [em] at q3
          exact ⟨.ref _, _, I3, rfl, q3⟩
end
end R

/-! R33: sorted by a lambda v: v[j] as a mirror -/
namespace R
open PySem PySem.Spec PyProof.Rows L2
def keyP (j : Nat) : PV → Option PyData
  | .tup xs => match xs[j]? with
    | some (.int i) => some (.int i)
    | some (.tup ys) => match its ys with
      | some ns => some (.tuple (ns.map .int))
      | none => none
    | _ => none
  | _ => none
def keysP (j : Nat) : List PV → Option (List PyData)
  | [] => some []
  | y :: ys => match keyP j y, keysP j ys with
    | some d, some ds => some (d :: ds)
    | _, _ => none
def leD (a b : PyData) : Bool := !PySem.W.dataLt b a
def srtP (ys : List PV) (ds : List PyData) : List PV := ((ys.zip ds).mergeSort fun x y => leD x.2 y.2).map (·.1)
def isIntD : PyData → Bool
  | .int _ => true
  | _ => false
def isSomeD : PyData → Bool
  | .tuple (_ :: _) => true
  | _ => false
def goB (ds : List PyData) : Bool := ds.all isIntD || (ds.all isSomeD || decide (ds.length = 1))
def mSortLam (m : M PV) (j : Nat) : M PV := fun en p => (m en p).bind fun x p1 => match getR p1 x with
  | some ys => match keysP j ys with
    | some ds => if goB ds = true then .ok (.lst (srtP ys ds)) p1 else .stuck
    | none => .stuck
  | none => .stuck
theorem leK_eq (x y : V × PyData) : leK x y = leD x.2 y.2 := rfl
theorem keysP_len {j : Nat} : ∀ {ys : List PV} {ds : List PyData}, keysP j ys = some ds → ys.length = ds.length
  | [], ds, e => by
    cases e
    rfl
  | y :: ys, ds, e => by
    unfold keysP at e
    split at e
    · rename_i d es e1 e2
      cases e
      rw [List.length_cons, List.length_cons, keysP_len e2]
    · cases e
theorem keyP_shape {j : Nat} {y : PV} {d : PyData} (e : keyP j y = some d) : (∃ i, d = .int i) ∨ ∃ ns : List Int, d = .tuple (ns.map .int) := by
  unfold keyP at e
  split at e
  · split at e
    · cases e
      exact .inl ⟨_, rfl⟩
    · split at e
      · cases e
        exact .inr ⟨_, rfl⟩
      · cases e
    · cases e
  · cases e
theorem keysP_shape {j : Nat} : ∀ {ys : List PV} {ds : List PyData}, keysP j ys = some ds → ∀ d ∈ ds, (∃ i, d = .int i) ∨ ∃ ns : List Int, d = .tuple (ns.map .int)
  | [], ds, e, d, h => by
    cases e
    cases h
  | y :: ys, ds, e, d, h => by
    unfold keysP at e
    split at e
    · rename_i d0 es e1 e2
      cases e
      rcases List.mem_cons.mp h with rfl | h
      · exact keyP_shape e1
      · exact keysP_shape e2 d h
    · cases e
theorem alike_ints : ∀ a b : List Int, PySem.W.alikeAll (a.map .int) (b.map .int) = true
  | [], _ => by
    cases ‹List Int› <;> (simp [PySem.W.alikeAll])
  | _ :: _, [] => by simp [PySem.W.alikeAll]
  | x :: a, y :: b => by
    rw [List.map_cons, List.map_cons]
    unfold PySem.W.alikeAll
    rw [alike_ints a b]
    simp [PySem.W.alike]
theorem depth_ints : ∀ a : List Int, PyData.depthAll (a.map .int) ≤ 1
  | [] => by simp [PyData.depthAll]
  | x :: a => by
    have := depth_ints a
    simp only [List.map_cons, PyData.depthAll, PyData.depth]
    omega
theorem goB_ok {ds : List PyData} (hs : ∀ d ∈ ds, (∃ i, d = .int i) ∨ ∃ ns : List Int, d = .tuple (ns.map .int)) (h : goB ds = true) : KeysGo ds := by
  unfold goB at h
  rw [Bool.or_eq_true, Bool.or_eq_true] at h
  have dep : ∀ d ∈ ds, d.depth ≤ 64 := fun d hd => by
    rcases hs d hd with ⟨i, rfl⟩ | ⟨ns, rfl⟩
    · simp [PyData.depth]
    · have := depth_ints ns
      simp only [PyData.depth]
      omega
  rcases h with h | h | h
  · have hi : ∀ d ∈ ds, ∃ i, d = .int i := fun d hd => by
      have z := List.all_eq_true.mp h d hd
      cases d with
      | int i => exact ⟨i, rfl⟩
      | _ => cases z
    refine .inl ⟨fun d hd e he => ?_, .inr fun d hd => ?_, dep⟩
    · obtain ⟨i, rfl⟩ := hi d hd
      obtain ⟨k, rfl⟩ := hi e he
      simp [PySem.W.alike]
    · obtain ⟨i, rfl⟩ := hi d hd
      exact ⟨fun z => (nomatch z), fun _ z => (nomatch z)⟩
  · have hi : ∀ d ∈ ds, ∃ (i : Int) (ns : List Int), d = .tuple ((i :: ns).map .int) := fun d hd => by
      have z := List.all_eq_true.mp h d hd
      rcases hs d hd with ⟨i, rfl⟩ | ⟨ns, rfl⟩
      · cases z
      · cases ns with
        | nil => cases z
        | cons i ns => exact ⟨i, ns, rfl⟩
    refine .inl ⟨fun d hd e he => ?_, .inl fun d hd => ?_, dep⟩
    · obtain ⟨i, ns, rfl⟩ := hi d hd
      obtain ⟨k, ms, rfl⟩ := hi e he
      have z := alike_ints (i :: ns) (k :: ms)
      unfold PySem.W.alike
      exact z
    · obtain ⟨i, ns, rfl⟩ := hi d hd
      exact ⟨_, _, rfl⟩
  · exact .inr (of_decide_eq_true h)
theorem keyAt_of {C : Cn} {L : Lv} {w : Wd} {p : Pool} {H : Hp} (S : SimP C.Γ L w p H) {j : Nat} {y : PV} {v : V} {d : PyData} (r : Rep C.Γ w y v) (e : keyP j y = some d) : KeyAt C.Γ.K H j v d := by
  unfold keyP at e
  split at e
  · rename_i xs
    obtain ⟨t, vs, rfl, hq, hr⟩ := r
    split at e
    · rename_i i ei
      cases e
      obtain ⟨u, eu, ru⟩ := hr.get ei
      have ru : u = .int i := ru
      exact ⟨t, vs, u, rfl, seqT_mono S.sub hq, eu, .inl ⟨i, ru, rfl⟩⟩
    · rename_i ys ei
      split at e
      · rename_i ns en
        cases e
        obtain ⟨u, eu, ru⟩ := hr.get ei
        obtain ⟨t2, us, rfl, hq2, hr2⟩ := ru
        have e3 := its_eq en
        subst e3
        have e4 := hr2.ints_of
        subst e4
        exact ⟨t, vs, _, rfl, seqT_mono S.sub hq, eu, .inr ⟨t2, ns, rfl, seqT_mono S.sub hq2, rfl⟩⟩
      · cases e
    · cases e
  · cases e
theorem keysAt_of {C : Cn} {L : Lv} {w : Wd} {p : Pool} {H : Hp} (S : SimP C.Γ L w p H) {j : Nat} : ∀ {ys : List PV} {us : List V} {ds : List PyData}, Reps C.Γ w ys us → keysP j ys = some ds → ∀ z ∈ us.zip ds, KeyAt C.Γ.K H j z.1 z.2
  | [], us, ds, r, e, z, h => by
    cases e
    rw [List.zip_nil_right] at h
    cases h
  | y :: ys, us, ds, r, e, z, h => by
    obtain ⟨u, vs, rfl, r1, r2⟩ := r
    unfold keysP at e
    split at e
    · rename_i d es e1 e2
      cases e
      rw [List.zip_cons_cons] at h
      rcases List.mem_cons.mp h with rfl | h
      · exact keyAt_of S r1 e1
      · exact keysAt_of S r2 e2 z h
    · cases e
theorem reps_maps {Γ : Cfg} {w : Wd} {α : Type} (f : α → PV) (g : α → V) : ∀ {l : List α}, (∀ a ∈ l, Rep Γ w (f a) (g a)) → Reps Γ w (l.map f) (l.map g)
  | [], _ => Reps.nil
  | a :: l, h => Reps.cons (h a (.head _)) (reps_maps f g fun b hb => h b (List.mem_cons_of_mem _ hb))
theorem reps_zip {Γ : Cfg} {w : Wd} : ∀ {ys : List PV} {us : List V}, Reps Γ w ys us → ∀ z ∈ ys.zip us, Rep Γ w z.1 z.2
  | [], us, _, z, h => by
    rw [List.zip_nil_left] at h
    cases h
  | y :: ys, us, r, z, h => by
    obtain ⟨u, vs, rfl, r1, r2⟩ := r
    rw [List.zip_cons_cons] at h
    rcases List.mem_cons.mp h with rfl | h
    · exact r1
    · exact reps_zip r2 z h
theorem reps_sort {Γ : Cfg} {w : Wd} {ys : List PV} {us : List V} {ds : List PyData} (r : Reps Γ w ys us) (hl : ys.length = ds.length) : Reps Γ w (srtP ys ds) (((us.zip ds).mergeSort leK).map (·.1)) := by
  have hu : us.length = ds.length := by rw [← r.length]; exact hl
  have e1 : ((ys.zip us).zip ds).map (fun q => (q.1.1, q.2)) = ys.zip ds := by
    refine List.ext_getElem (by simp [r.length]) fun i a b => ?_
    simp
  have e2 : ((ys.zip us).zip ds).map (fun q => (q.1.2, q.2)) = us.zip ds := by
    refine List.ext_getElem (by simp [r.length]) fun i a b => ?_
    simp
  have s1 : (((ys.zip us).zip ds).mergeSort fun a b => leD a.2 b.2).map (fun q => (q.1.1, q.2)) = (ys.zip ds).mergeSort fun x y => leD x.2 y.2 := by
    rw [← e1]
    exact List.map_mergeSort fun _ _ _ _ => rfl
  have s2 : (((ys.zip us).zip ds).mergeSort fun a b => leD a.2 b.2).map (fun q => (q.1.2, q.2)) = (us.zip ds).mergeSort leK := by
    rw [← e2]
    exact List.map_mergeSort fun _ _ _ _ => rfl
  unfold srtP
  rw [← s1, ← s2, List.map_map, List.map_map]
  refine reps_maps _ _ fun a ha => ?_
  have hm := List.mem_mergeSort.mp ha
  exact reps_zip r a.1 (List.of_mem_zip hm).1
section
variable {X : Cx} {C : Cn}
theorem re_sortLam {c P : Addr} {y : Str} {params : Arguments} {scope : Scope} {j k m : Nat} {p pos kpos lpos p1 p2 p3 : Pos} {e : Expr} {me : M PV}
    (TB : LamX.TabB X.base X.mg c P) (hcode : X.env.code = .ref c) (hm : (P, X.env.qual ++ "<lambda>") ∈ C.Γ.tabs) (hu : ∀ p ∈ C.Γ.tabs, p.1 = P → p.2 = X.env.qual ++ "<lambda>") (hK : X.K = C.Γ.K) (hr : Room m X.A) (hmg : X.mg "sorted" = none) (he : RE X C e me)
    (hdef : defaultsOf params X.env = ([], []) := by rfl) (hfree : ∀ y ∈ scope.names, y.2 = .free → ∃ c, X.env.cells.lookup y.1 = some c)
    (hb : ∀ (q : Str) (clos : List (Str × Addr)) (pm ctv : Value) (c' a : Addr), bindArgs (PySem.W.kla_fn "<lambda>" q params (.Subscript (.Name y p1) (.Constant (.int (j : Int)) k p2) p3) scope clos pm (.ref c') ctv) ⟨[.ref a], []⟩ = pure [(y, .ref a)])
    (hg : Gl X "sorted") (hco : scope.isCoroutine = false) (hgen : scope.isGenerator = false) (hk : scope.kind = .function) (hcell : ∀ z ∈ scope.names, z.2 ≠ .cell) (hy : scope.names.lookup y = some .local) (hd : (y == ("__debug__" : Str)) = false)
    (hs : starEach [e] X.env = (false, eval e X.env) :: starEach [] X.env := by rfl) (hbk : backTo pos (starEach [e] X.env) = (false, eval e X.env) :: backTo pos (starEach [] X.env) := by rfl) (hpl : (backTo pos (starEach [e] X.env)).any (·.1) = false := by rfl) :
    RE X C (.Call (.Name "sorted" p) [e] [⟨some "key", .Lambda params (.Subscript (.Name y p1) (.Constant (.int (j : Int)) k p2) p3) scope lpos, kpos⟩] pos) (mSortLam me j) := by
  refine (pe_sortLam (T := C.Γ.tabs) TB hcode hm hu hdef hfree hg hmg hr hb hco hgen hk hcell hy hd he hs hbk hpl).imp fun σ H Q hq => ?_
  obtain ⟨L, w, p, en, S, E, h⟩ := hq
  refine ⟨L, w, p, en, S, E, h.bind fun x p1 w1 H1 v l1 S1 r1 h1 => ?_⟩
  split at h1
  · rename_i ys ey
    split at h1
    · rename_i ds ed
      by_cases hgo : goB ds = true
      · rw [if_pos hgo] at h1
        obtain ⟨a, us, rfl, hq, hr2⟩ := getR_ok S1 r1 ey
        refine ⟨S1.tb, a, us, ds, rfl, hK ▸ hq, ?_, fun z hz => hK ▸ keysAt_of S1 hr2 ed z hz, goB_ok (keysP_shape ed) hgo, fun H2 d eN T2 hn => ?_⟩
        · rw [← hr2.length]
          exact keysP_len ed
        · have S2 : SimP C.Γ L w1 p1 H2 := S1.ext ⟨eN, fun _ => T2⟩
          exact newLst S2 (reps_sort hr2 (keysP_len ed)) h1 d hn
      · rw [if_neg hgo] at h1
        exact h1.elim
    · exact h1.elim
  · exact h1.elim
end
end R

/-! R34: defs that make lambdas: their code objects, their tables; the end of such a law -/
namespace R
open PySem PySem.Spec PyProof.Rows L2
/-- each def of these names has an empty table behind the head -/
def TabsOf (K : PySem.W.Frag) (mg : Str → Option Value) (h : Heap) (ys : List Str) : Prop := ∀ y ∈ ys, ∀ f : Addr, mg y = some (.ref f) → LamX.OwnTab K f h
theorem walk_tabs {l : PySem.W.OpenLaw} {n k : Nat} {q : Program} {loose : List Str} {XP : (Str → Option Value) → Heap → Prop} {YP : World → Heap → Prop} {d : DefRec} {K : Params → PySem.W.Frag} {CX : World → CXT} {x : Str} (ys : List Str)
    (hmost : l.most = some n) (hsz : n ≤ sizeLine) (hdfl : d.params.defaults = []) (room : Room k callerA) (there : ∀ y ∈ ys, ∃ e ∈ recsOf q, e.name = y) (inK : ∀ (w : World) (h : Heap), YP w h → (K w.params).In h)
    (F : ∀ (w : World) (mg : Str → Option Value) (fa : Addr) (h : Heap), YP w h → (K w.params).In h → h.Ns mainGlobals mg → mg d.name = some (.ref fa) → TabsOf (K w.params) mg h ys → LamX.LawAtS l w (K w.params) (CX w) k n x mg fa h)
    (noexc : ∀ (w : World) (H : Hp) (s : Shared) (e : Value) (s' : Shared), CX w [] H s (fun _ _ _ => False) e s' → False) :
    PySem.W.WalkO q loose XP YP l.row.toRowW d [] (fun f vs => PySem.call f vs) := by
  apply Att.attach_callB hmost hdfl
  intro w s0 s1 mg mb fa o pm cd doc a vs ns G hY hobj hdata hcode hlaw hlist hints hlen hbits hgens
  have inh := inK w _ hY
  have tabs : TabsOf (K w.params) mg s1.heap ys := by
    intro y hy f hf c P ob fd e dd vs1 sl k1 k2 k3 k4 k5
    obtain ⟨r, hr, rfl⟩ := there y hy
    obtain ⟨a', o', fd', c', P', t1, t2, t3, t4, t5, t6⟩ := G.T.tab r hr
    obtain rfl : a' = f := by
      have z := t1.symm.trans hf
      cases z
      rfl
    have u1 := (inh _ _ k1).symm.trans t2
    cases u1
    have u2 := k2.symm.trans t3
    cases u2
    have u3 := k3.symm.trans t4
    cases u3
    obtain ⟨⟨oc, vc, v1, _, v3, v4⟩, empty⟩ := t6
    have u4 := (inh _ _ k4).symm.trans v1
    cases u4
    cases v3
    have u5 := k5.symm.trans v4
    cases u5
    exact empty
  obtain ⟨fd, cs, sp, e1, e2, e3, e4, e5, e6⟩ := F w mg fa _ hY inh G.T.g hlaw tabs
  refine LamX.law_callTs inh G.T.g G.T.b G.T.builtins G.T.nolimit hgens e1 e2 e3 G.T.bmain hlist hints (Nat.le_trans hlen hsz) room e6 e4 (fun H hH hS => e5 H a ns hlen hbits hH hS) ?_
  exact fun H e s' => noexc w H s1 e s'
section
variable {P : Program} {w0 : World} {K : PySem.W.Frag} {mg : Str → Option Value} {base : Heap}
/-- a def whose code object is known: it may make lambdas -/
theorem ok_fnC {Γ : Cfg} {x qual : Str} {st : Stmt} {dvs : List V} {kws : List (Str × V)} {f : Addr} {fd : FuncData} {N ps : List Str} {k n : Nat} (F : FunD K x qual (defArgs st) (defBody st) (defScope st) dvs kws f fd) (S : FnScope N ps (defScope st)) (hn : ps.length = n) (body : R.S)
    (hb : ∀ (A : Around) (outer : List Env) (s : Shared) (H : Hp) (E : XK), Room k (A.deeper (PyProof.Rows.envOfC qual (defScope st) s.heap.objs.size f fd.code)) →
      RSs (cxOf (L2.CX P w0) P w0 K mg base N qual (defScope st) f fd.code A outer s H E) ⟨Γ, fun cls d _ H => E cls d H⟩ (defBody st) body) : FnOk P w0 K mg base (L2.CX P w0) (k + 1) f fd ps (spM Γ n (fnM Γ.fld N.length body)) := by
  obtain ⟨oc, od, dV, kV, doc, pm, an, cdv, ct, osl, rfl, lk, hcd, _, _⟩ := F.ex
  refine fn_of lk hcd S (fun vs H Q E h => h.1.trans hn.symm) (fun A outer s H vs Q E hr h => ⟨wS _ body, hb A outer s H E hr, ?_⟩)
  obtain ⟨_, L, w, p, xs, S', r, h⟩ := h
  exact ⟨L.deeper p.length, w, p, ⟨p.length, xs.map some ++ List.replicate (N.length - xs.length) none⟩, S'.enter, EnR.start (L := L.deeper p.length) r, fn_ret S' h⟩
end
end R

/-! R35: calls without arguments; a module's constant that is a tuple of numbers -/
namespace R
open PySem PySem.Spec PyProof.Rows L2
section
variable {X : Cx} {C : Cn} {pos : Pos}
theorem pe_call0SD {CX : CXT} {k : Nat} {f : Addr} {fd : FuncData} {ps : List Str} {sp : Sp} {dvs : List V} {ds : List Value} {E : L2.St → XK} {x : Str} {p : Pos} (F : FnOk X.prog X.w X.K X.mg X.base CX k f fd ps sp) (room : Room k X.A) (hg : Gl X x) (at_ : X.mg x = some (.ref f)) (kept : PySem.W.keepIn X.K (.ref f) = true)
    (hb : Binds X.K fd ps ds) (hd : Vals dvs ds) (hx : ∀ σ, PassesAt CX X σ (E σ)) (hdb : (x == ("__debug__" : Str)) = false := by decide) : PE X (.Call (.Name x p) [] [] pos) (tCallSD sp dvs E tNil) := by
  constructor
  intro pins s σ H Q I h
  apply wpAny_Call_Name_kw
  apply ld_glob I hg at_ _ hdb
  exact PySem.W.callWith_K0 I.kIn kept (run_fnSD (us := []) F room hb hd (hx σ) I .nil h)
theorem re_fn0 {k n : Nat} {f : Addr} {fd : FuncData} {ps : List Str} {g : FnM} {ds : List Value} {dvs : List V} {dps : List PV} {x : Str} {p : Pos} (F : FnOk X.prog X.w X.K X.mg X.base (L2.CX X.prog X.w) k f fd ps (spM C.Γ n g)) (hr : Room k X.A) (hg : Gl X x)
    (hm : X.mg x = some (.ref f)) (hk : PySem.W.keepIn X.K (.ref f) = true) (hb : Binds X.K fd ps ds) (hd : Vals dvs ds) (hds : DfR dps dvs) (tk : Takes X C.W) (hl : dps.length = n) (hdb : (x == ("__debug__" : Str)) = false := by decide) :
    RE X C (.Call (.Name x p) [] [] pos) (mFn g dps mNil) :=
  (pe_call0SD F hr hg hm hk hb hd (fun σ => passAt tk σ) hdb).imp fun σ H Q ⟨L, w, p, en, S, E, h⟩ => by
    refine ⟨?_, L, w, p, dps, S, hds.reps, PostF.of h⟩
    rw [List.nil_append, ← (hds.reps (Γ := C.Γ) (w := w)).length]
    exact hl
theorem re_globT {x : Str} {t : Addr} {ns : List Int} (hg : Gl X x) (hm : X.mg x = some (.ref t)) (hq : ∀ H : Hp, SqT C.Γ.K H t (ns.map V.int)) (hd : (x == ("__debug__" : Str)) = false := by decide) : RE X C (.Name x pos) (mC (.tup (ns.map .int))) :=
  (pe_glob (v := .ref t) hg hm rfl hd).imp fun σ H Q ⟨L, w, p, en, S, E, h⟩ => h.ok S ⟨t, ns.map V.int, rfl, hq _, reps_maps (l := ns) _ _ fun _ _ => rfl⟩
end
/-! ### max of a tuple of numbers -/
section
variable {X : Cx} {C : Cn}
def rMaxT (K : PySem.W.Frag) : List V → Hp → VK → Prop := fun vs H Q => ∃ (a : Addr) (n : Int) (r : List Int), vs = [V.ref a] ∧ SqT K H a ((n :: r).map V.int) ∧ Q (.int (r.foldl max n)) H
theorem cr_maxT {m : Nat} (hc : X.calm = true) (hr : Room m X.A) : CallR X (.builtin "max") (rMaxT X.K) := by
  intro pins s σ H vs us Q I r h
  obtain ⟨a, n, ns, rfl, hs, q⟩ := h
  obtain ⟨its, rv, hl, _⟩ := I.tuple hs
  rw [Vals.ref1 r]
  have al : ∀ x ∈ (n :: ns).map PyData.int, ∃ i, x = .int i := fun x hx => by
    obtain ⟨i, _, rfl⟩ := List.mem_map.mp hx
    exact ⟨i, rfl⟩
  refine PySem.W.max_tuple_data (vs := its.toArray) (x := .int n) (xs := ns.map .int) (as := []) (I.ok.hd hc) hl (reads_intsP (ns := n :: ns) rv) ⟨fun x hx y hy => ?_, fun x hx => ?_⟩ ?_ fun i v h' tk bs hv hrd hk => ?_
  · obtain ⟨i, rfl⟩ := al x hx
    obtain ⟨k, rfl⟩ := al y hy
    simp [PySem.W.alike]
  · obtain ⟨i, rfl⟩ := al x hx
    exact fun z => nomatch z
  · have h1 := depth_ints (n :: ns)
    have h2 := hr.un
    rw [List.map_cons] at h1
    omega
  · rw [PySem.W.maxD_ints] at hrd
    cases hrd with
    | int i t => exact ⟨.int _, H, I.kept hk, ⟨t, rfl⟩, q⟩
def cMaxT : FC := fun xs p => match xs with
  | [.tup ys] => match its ys with
    | some (n :: r) => .ok (.int (r.foldl max n)) p
    | _ => .stuck
  | _ => .stuck
theorem call_maxTU {m : Nat} (hc : X.calm = true) (hr : Room m X.A) (hK : X.K = C.Γ.K) : CallR X (.builtin "max") (rMaxT C.Γ.K) := hK ▸ cr_maxT hc hr
theorem ref_maxT : RefC C (rMaxT C.Γ.K) cMaxT := fun L w p H σ xs vs Q S r q => by
  unfold cMaxT at q
  split at q
  · rename_i ys
    split at q
    · rename_i n is e
      obtain ⟨v, rfl, rq⟩ := reps1 r
      obtain ⟨a, us, rfl, h, rr⟩ := rq
      have e2 := its_ok rr e
      subst e2
      exact ⟨a, n, is, rfl, seqT_mono S.sub h, q.ok S rfl⟩
    · exact q.elim
  · exact q.elim
end
end R

/-! R36: the rule as the generator writes it -/
namespace R
open PySem PySem.Spec PyProof.Rows L2
section
variable {X : Cx} {C : Cn}
theorem re_sortLamG {c P : Addr} {y : Str} {params : Arguments} {scope : Scope} {j k m : Nat} {p pos kpos lpos p1 p2 p3 : Pos} {e : Expr} {me : M PV}
    (TB : LamX.TabB X.base X.mg c P) (hcode : X.env.code = .ref c) (hm : (P, X.env.qual ++ "<lambda>") ∈ C.Γ.tabs) (hu : ∀ p ∈ C.Γ.tabs, p.1 = P → p.2 = X.env.qual ++ "<lambda>") (hr : Room m X.A) (hmg : X.mg "sorted" = none) (he : RE X C e me) (hK : X.K = C.Γ.K := by rfl)
    (hdef : defaultsOf params X.env = ([], []) := by rfl) (hfree : ∀ y ∈ scope.names, y.2 ≠ .free := by decide +kernel)
    (hb : ∀ (q : Str) (clos : List (Str × Addr)) (pm ctv : Value) (c' a : Addr), bindArgs (PySem.W.kla_fn "<lambda>" q params (.Subscript (.Name y p1) (.Constant (.int (j : Int)) k p2) p3) scope clos pm (.ref c') ctv) ⟨[.ref a], []⟩ = pure [(y, .ref a)] := by intros; rfl)
    (hg : Gl X "sorted" := by rfl) (hco : scope.isCoroutine = false := by rfl) (hgen : scope.isGenerator = false := by rfl) (hk : scope.kind = .function := by rfl) (hcell : ∀ z ∈ scope.names, z.2 ≠ .cell := by decide +kernel) (hy : scope.names.lookup y = some .local := by rfl) (hd : (y == ("__debug__" : Str)) = false := by decide)
    (hs : starEach [e] X.env = (false, eval e X.env) :: starEach [] X.env := by rfl) (hbk : backTo pos (starEach [e] X.env) = (false, eval e X.env) :: backTo pos (starEach [] X.env) := by rfl) (hpl : (backTo pos (starEach [e] X.env)).any (·.1) = false := by rfl) :
    RE X C (.Call (.Name "sorted" p) [e] [⟨some "key", .Lambda params (.Subscript (.Name y p1) (.Constant (.int (j : Int)) k p2) p3) scope lpos, kpos⟩] pos) (mSortLam me j) :=
  re_sortLam TB hcode hm hu hK hr hmg he hdef (fun y hy z => absurd z (hfree y hy)) hb hg hco hgen hk hcell hy hd hs hbk hpl
end
end R

/-! R37: zip of any two, tuples or lists, own ones too -/
namespace R
open PySem L2 PySem.Spec PyProof.Rows
def Itz2 (K : PySem.W.Frag) (t1 t2 : Bool) (a b : Addr) (n m : Nat) : It :=
  ⟨fun i H => ∃ (xs ys : List V) (x y : V), SqK K H t1 a xs ∧ SqK K H t2 b ys ∧ xs.length = n ∧ ys.length = m ∧ xs[i]? = some x ∧ ys[i]? = some y,
    fun i H v H' => ∃ T x y, v = .ref T ∧ H T = none ∧ H' = upd H T (.tup [x, y]) ∧ (∀ xs, SqK K H t1 a xs → xs[i]? = some x) ∧ ∀ ys, SqK K H t2 b ys → ys[i]? = some y,
    fun i H => ∃ xs ys : List V, SqK K H t1 a xs ∧ SqK K H t2 b ys ∧ xs.length = n ∧ ys.length = m ∧ (n ≤ i ∨ m ≤ i)⟩
theorem turn_zip2 {P : Program} {w : World} {K : PySem.W.Frag} {elts : List Expr} {kk : Nat} {tpos : Pos} {t1 t2 : Bool} {a b z TI TO i1 i2 : Addr} {n m : Nat} (D : ZipSep2 z TI TO i1 i2 [i1, a] [i2, b]) (na : a ≠ i1) (nb : b ≠ i2) :
    Turn P w K (.Tuple elts kk tpos) (Itz2 K t1 t2 a b n m) [z, TI, TO, i1, i2] z (fun i h => IsZip h z TI TO .none ∧ IsTupOf2 h TI (.ref i1) (.ref i2) ∧ (∃ x y, IsTupOf2 h TO x y) ∧ IterK h t1 i1 a i ∧ IterK h t2 i2 b i ∧ i ≤ n ∧ i ≤ m) where
  mem := List.mem_cons_self
  obj := fun i h st c hc => by
    obtain ⟨hz, hTI, ⟨x, y, hTO⟩, h1, h2, _⟩ := st
    simp only [List.mem_cons, List.not_mem_nil, or_false] at hc
    rcases hc with rfl | rfl | rfl | rfl | rfl
    · exact ⟨_, hz, fun v q => nomatch q⟩
    · exact ⟨_, hTI, fun v q => nomatch q⟩
    · exact ⟨_, hTO, fun v q => nomatch q⟩
    · exact iterK_obj h1
    · exact iterK_obj h2
  keep := fun i h h' st k => by
    obtain ⟨hz, hTI, ⟨x, y, hTO⟩, h1, h2, l⟩ := st
    exact ⟨k z (by simp) _ hz, k TI (by simp) _ hTI, ⟨x, y, k TO (by simp) _ hTO⟩, iterK_at h1 fun o q => k i1 (by simp) o q, iterK_at h2 fun o q => k i2 (by simp) o q, l⟩
  item := by
    intro X hP hw hK hc i pins s σ H E I hf st hg
    subst hP hw hK
    obtain ⟨hz, hTI, ⟨x0, y0, hTO⟩, h1, h2, l1, l2⟩ := st
    obtain ⟨xs, ys, x, y, hqx, hqy, ln, lm, hx, hy⟩ := hg
    obtain ⟨its, rv, p, _⟩ := invK I hqx
    obtain ⟨its2, rv2, p2, _⟩ := invK I hqy
    obtain ⟨u, hu, ru⟩ := rv.get hx
    obtain ⟨u2, hu2, ru2⟩ := rv2.get hy
    have hzl : z < s.heap.objs.size := Heap.lt_size hz
    have k1 : i < its.toArray.size := by simpa using (List.getElem?_eq_some_iff.mp hu).1
    have k2 : i < its2.toArray.size := by simpa using (List.getElem?_eq_some_iff.mp hu2).1
    have D1 := drawsK (prog := X.prog) (w := X.w) (A := X.A.in1) (I.ok.hd hc) t1 i1 a na its.toArray
    have D2 := drawsK (prog := X.prog) (w := X.w) (A := X.A.in1) (I.ok.hd hc) t2 i2 b nb its2.toArray
    refine wpAny_pyNext_zipD2_item D D1 D2 hz hTI hTO ⟨h1, p⟩ ⟨h2, p2⟩ k1 k2 fun x1 x2 h' tk P1 P2 z' TO' st1 st2 hT hsz hk => ?_
    have e1 : x1 = u := by
      have e : its.toArray[i]? = some u := by simpa using hu
      exact Option.some.inj (P1.symm.trans e)
    have e2 : x2 = u2 := by
      have e : its2.toArray[i]? = some u2 := by simpa using hu2
      exact Option.some.inj (P2.symm.trans e)
    subst e1
    subst e2
    refine ⟨_, rfl, wpAny_letOwnedTupleGo_zip (s := { s with heap := h', toks := tk }) z' fun h'' z'' sb => ?_⟩
    have hT2 : h''.get? s.heap.objs.size = some { cls := .type "tuple", data := .seq #[x1, x2] } := (sb.2 _ (Nat.ne_of_gt hzl)).trans hT
    have new : ObjOk X.prog X.w (upd H s.heap.objs.size (.tup [x, y])) h'' s.heap.objs.size (.tup [x, y]) :=
      ⟨by show 2 ≤ sizeLine; decide, [x1, x2], .cons ru (.cons ru2 .nil), ⟨_, hT2, rfl, _, rfl⟩⟩
    have I1 : L2.Inv X pins σ (upd H s.heap.objs.size (.tup [x, y])) { s with heap := h'', toks := tk } :=
      I.turnedNew (t' := tk) (ch := [z, TI, TO, i1, i2]) (fun c o hb q => (sb.2 c (fun q' => hb (by simp [q']))).trans (hk c o (fun q' => hb (by simp [q'])) (fun q' => hb (by simp [q'])) (fun q' => hb (by simp [q'])) (fun q' => hb (by simp [q'])) q)) hf (Nat.le_refl _) new
    have i1z : i1 ≠ z := fun q => D.zf1 (by rw [← q]; exact List.mem_cons_self)
    have i2z : i2 ≠ z := fun q => D.zf2 (by rw [← q]; exact List.mem_cons_self)
    refine ⟨.ref s.heap.objs.size, _, I1, rfl, ⟨_, x, y, rfl, I.hok.fresh (Nat.le_refl _), rfl, fun l hl => by rw [injK I hl hqx]; exact hx, fun l hl => by rw [injK I hl hqy]; exact hy⟩, ⟨z'', ?_, ⟨x1, x2, ?_⟩, ?_, ?_, ?_, ?_⟩, fun c hcm => ?_⟩
    · exact (sb.2 _ D.TIz).trans (hk _ _ D.TIz D.TITO D.TIi1 D.TIi2 hTI)
    · exact (sb.2 _ D.TOz).trans TO'
    · exact iterK_at st1.1 fun o q => (sb.2 _ i1z).trans q
    · exact iterK_at st2.1 fun o q => (sb.2 _ i2z).trans q
    · rw [← ln]
      exact (List.getElem?_eq_some_iff.mp hx).1
    · rw [← lm]
      exact (List.getElem?_eq_some_iff.mp hy).1
    · have hlt : c < s.heap.objs.size := by
        simp only [List.mem_cons, List.not_mem_nil, or_false] at hcm
        rcases hcm with rfl | rfl | rfl | rfl | rfl
        · exact hzl
        · exact Heap.lt_size hTI
        · exact Heap.lt_size hTO
        · obtain ⟨_, e1, _⟩ := iterK_obj h1
          exact Heap.lt_size e1
        · obtain ⟨_, e2, _⟩ := iterK_obj h2
          exact Heap.lt_size e2
      rw [upd_ne (Nat.ne_of_lt hlt)]
      exact (hf c hcm).1
  done := by
    intro X hP hw hK hc i pins s σ H E I hf st hg
    subst hP hw hK
    obtain ⟨hz, hTI, ⟨x0, y0, hTO⟩, h1, h2, l1, l2⟩ := st
    obtain ⟨xs, ys, hqx, hqy, ln, lm, hend⟩ := hg
    obtain ⟨its, rv, p, _⟩ := invK I hqx
    obtain ⟨its2, rv2, p2, _⟩ := invK I hqy
    have D1 := drawsK (prog := X.prog) (w := X.w) (A := X.A.in1) (I.ok.hd hc) t1 i1 a na its.toArray
    have D2 := drawsK (prog := X.prog) (w := X.w) (A := X.A.in1) (I.ok.hd hc) t2 i2 b nb its2.toArray
    have s1 : its.toArray.size = n := by rw [List.size_toArray, ← rv.length, ln]
    have s2 : its2.toArray.size = m := by rw [List.size_toArray, ← rv2.length, lm]
    refine wpAny_pyNext_zipD2_end D D1 D2 hz hTI hTO ⟨h1, p⟩ ⟨h2, p2⟩ (by omega) (by omega) (by omega) fun h' tk hk => ⟨rfl, I.turnedL (t' := tk) (ch := [z, TI, TO, i1, i2]) (fun c o hb q =>
      hk c o (fun q' => hb (by simp [q'])) (fun q' => hb (by simp [q'])) (fun q' => hb (by simp [q'])) (fun q' => hb (by simp [q'])) q) hf⟩
  self := fun A i s Q E st h => wpAny_pyIter_zip st.1 h
section
variable {X : Cx} {C : Cn} {pos : Pos}
def iZip2 (K : PySem.W.Frag) (ta : TA) : TI := fun σ H R => ta σ H fun vs H1 => ∃ t1 t2 a b xs ys, vs = [.ref a, .ref b] ∧ SqK K H1 t1 a xs ∧ SqK K H1 t2 b ys ∧ R (Itz2 K t1 t2 a b xs.length ys.length) H1
theorem pi_zip2 {e e2 : Expr} {ta : TA} {p tpos : Pos} {elts : List Expr} {kk : Nat} (hg : Gl X "zip") (hm : X.mg "zip" = none) (ha : PA X [e, e2] ta)
    (hs : starEach [e, e2] X.env = (false, eval e X.env) :: starEach [e2] X.env := by rfl) (hpl : (backTo pos (starEach [e2] X.env)).any (·.1) = false := by rfl) :
    PI X (.Tuple elts kk tpos) (.Call (.Name "zip" p) [e, e2] [] pos) (iZip2 X.K ta) := by
  refine ⟨fun pins s σ H R I h => ?_⟩
  refine Call_ (ld_blt I hg hm Boot.«zip» (PyProof.Rows.callWith_type1 (thn (ha.run pos pins s σ H _ I h) fun us s1 ⟨vs, H1, I1, r1, t1, t2, a, b, xs, ys, ex, hqx, hqy, q⟩ => ?_) hs hpl))
  subst ex
  obtain ⟨u, u', rfl, r, r'⟩ := vals2 r1
  cases r
  cases r'
  obtain ⟨its, rv, p1, la⟩ := invK I1 hqx
  obtain ⟨its2, rv2, p2, lb⟩ := invK I1 hqy
  refine zip_begins2 (beginsK t1 a its.toArray) (beginsK t2 b its2.toArray) p1 p2 fun h' hz hTI hTO h1 h2 hsz hk => wpAny_pyIter_zip hz ?_
  have I2 : L2.Inv X pins σ H1 { s1 with heap := h' } := I1.kept (t' := s1.toks) hk
  have D : ZipSep2 (s1.heap.objs.size + 4) (s1.heap.objs.size + 2) (s1.heap.objs.size + 3) s1.heap.objs.size (s1.heap.objs.size + 1) [s1.heap.objs.size, a] [s1.heap.objs.size + 1, b] := sep5 _ a b la lb
  refine ⟨s1.heap.objs.size + 4, [s1.heap.objs.size + 4, s1.heap.objs.size + 2, s1.heap.objs.size + 3, s1.heap.objs.size, s1.heap.objs.size + 1], _, _, H1, rfl, I2, turn_zip2 D (Nat.ne_of_lt la) (Nat.ne_of_lt (Nat.lt_succ_of_lt lb)), ⟨hz, hTI, ⟨_, _, hTO⟩, iterK_new h1, iterK_new h2, Nat.zero_le _, Nat.zero_le _⟩, fun c hc => ?_, q⟩
  have hle : s1.heap.objs.size ≤ c := by
    simp only [List.mem_cons, List.not_mem_nil, or_false] at hc
    rcases hc with rfl | rfl | rfl | rfl | rfl
    · exact Nat.le_add_right _ _
    · exact Nat.le_add_right _ _
    · exact Nat.le_add_right _ _
    · exact Nat.le_refl _
    · exact Nat.le_add_right _ _
  exact I1.fpOk hle (I1.hok.fresh hle)
theorem itR_zip2 {Γ : Cfg} {w : Wd} {c1 c2 : Pool → Bool} {t1 t2 : Bool} {a b : Addr} {xs ys : List PV} (h1 : Held Γ w c1 t1 a xs) (h2 : Held Γ w c2 t2 b ys) : ItR Γ w (fun q => c1 q && c2 q) (zipZ xs ys) (Itz2 Γ.K t1 t2 a b xs.length ys.length) := fun L w' p H l S hc i => by
  rw [Bool.and_eq_true] at hc
  obtain ⟨vs, q1, r1⟩ := h1 L w' p H l S hc.1
  obtain ⟨us, q2, r2⟩ := h2 L w' p H l S hc.2
  have l1 : vs.length = xs.length := r1.length.symm
  have l2 : us.length = ys.length := r2.length.symm
  rw [zipZ_get]
  cases e : xs[i]? with
  | none => exact ⟨fun _ => ⟨vs, us, q1, q2, l1, l2, .inl (List.getElem?_eq_none_iff.mp e)⟩, (fun _ z => nomatch z)⟩
  | some x =>
    cases f : ys[i]? with
    | none => exact ⟨fun _ => ⟨vs, us, q1, q2, l1, l2, .inr (List.getElem?_eq_none_iff.mp f)⟩, (fun _ z => nomatch z)⟩
    | some y =>
      refine ⟨(fun z => nomatch z), fun t et => ?_⟩
      have et : PV.tup [x, y] = t := Option.some.inj et
      subst et
      obtain ⟨v, ev, rv⟩ := r1.get e
      obtain ⟨u, eu, ru⟩ := r2.get f
      refine ⟨⟨vs, us, v, u, q1, q2, l1, l2, ev, eu⟩, fun t H' hy => ?_⟩
      obtain ⟨T, z1, z2, rfl, hT, rfl, hz1, hz2⟩ := hy
      have e1 : z1 = v := Option.some.inj ((hz1 vs q1).symm.trans ev)
      have e2 : z2 = u := Option.some.inj ((hz2 us q2).symm.trans eu)
      subst e1
      subst e2
      exact new_tup S hT (Reps.cons rv (Reps.cons ru Reps.nil))
/-- the two, if they are such -/
def zk2 (p : Pool) : List PV → Option It0
  | [x, y] => match zk p x with
    | some (xs, c1, _) => match zk p y with
      | some (ys, c2, _) => some ⟨zipZ xs ys, fun q => c1 q && c2 q⟩
      | none => none
    | none => none
  | _ => none
theorem zk2_some {p : Pool} {vs : List PV} {it : It0} (e : zk2 p vs = some it) : ∃ x y xs ys c1 c2 t1 t2, vs = [x, y] ∧ zk p x = some (xs, c1, t1) ∧ zk p y = some (ys, c2, t2) ∧ it = ⟨zipZ xs ys, fun q => c1 q && c2 q⟩ := by
  match vs, e with
  | [x, y], e =>
    have e : (match zk p x with
      | some (xs, c1, _) => match zk p y with
        | some (ys, c2, _) => some (⟨zipZ xs ys, fun q => c1 q && c2 q⟩ : It0)
        | none => none
      | none => none) = some it := e
    cases e1 : zk p x with
    | none => rw [e1] at e; cases e
    | some a =>
      obtain ⟨xs, c1, t1⟩ := a
      cases e2 : zk p y with
      | none => rw [e1, e2] at e; cases e
      | some a =>
        obtain ⟨ys, c2, t2⟩ := a
        rw [e1, e2] at e
        cases e
        refine ⟨x, y, xs, ys, c1, c2, t1, t2, rfl, ?_, ?_, rfl⟩
        · first | exact e1 | rfl
        · first | exact e2 | rfl
def itZG (a : M (List PV)) : M It0 := fun en p => (a en p).bind fun xs p1 => match zk2 p1 xs with
  | some z => .ok z p1
  | none => .stuck
theorem ri_zipG {e e2 : Expr} {m : M (List PV)} {p tpos : Pos} {elts : List Expr} {kk : Nat} (hK : X.K = C.Γ.K) (hg : Gl X "zip") (hm : X.mg "zip" = none) (ha : RA X C [e, e2] m) (hs : starEach [e, e2] X.env = (false, eval e X.env) :: starEach [e2] X.env := by rfl) (hs2 : ((backTo pos (starEach [e2] X.env)).any fun x => x.1) = false := by rfl) :
    RI X C (.Tuple elts kk tpos) (.Call (.Name "zip" p) [e, e2] [] pos) (itZG m) := PI.imp (pi_zip2 hg hm ha.pa hs hs2) fun σ H R ⟨L, w, p, en, S, E, h⟩ => by
  rw [hK]
  unfold itZG at h
  refine ⟨L, w, p, en, S, E, ?_⟩
  cases ea : m en p with
  | exc c v p1 =>
    rw [ea] at h
    exact h
  | stuck =>
    rw [ea] at h
    exact h.elim
  | ok xs p1 =>
    rw [ea] at h
    dsimp only [Res.bind] at h
    cases ez : zk2 p1 xs with
    | none =>
      rw [ez] at h
      exact h.elim
    | some it =>
      rw [ez] at h
      obtain ⟨x, y, xs, ys, c1, c2, t1, t2, rfl, ex, ey, rfl⟩ := zk2_some ez
      intro w1 H1 vs l1 S1 r1
      obtain ⟨v, u, rfl, rv, ru⟩ := reps2 r1
      obtain ⟨a, rfl, k1, d1⟩ := zk_ok S1 rv ex
      obtain ⟨b, rfl, k2, d2⟩ := zk_ok S1 ru ey
      obtain ⟨vs, q1, s1⟩ := k1 L w1 p1 H1 (Wd.le.refl _) S1 d1
      obtain ⟨us, q2, s2⟩ := k2 L w1 p1 H1 (Wd.le.refl _) S1 d2
      refine ⟨t1, t2, a, b, vs, us, rfl, q1, q2, ?_⟩
      have e1 := s1.length
      have e2 := s2.length
      rw [← e1, ← e2]
      exact h w1 H1 _ l1 S1 (itR_zip2 k1 k2)
end
theorem itZG_ok {m1 m2 : M PV} {x y : PV} {xs ys : List PV} {c1 c2 : Pool → Bool} {t1 t2 : Bool} {en : En} {p p1 p2 : Pool} (h1 : m1 en p = .ok x p1) (h2 : m2 en p1 = .ok y p2) (e1 : zk p2 x = some (xs, c1, t1)) (e2 : zk p2 y = some (ys, c2, t2)) :
    itZG (mCons m1 (mCons m2 mNil)) en p = .ok ⟨zipZ xs ys, fun q => c1 q && c2 q⟩ p2 := by
  have e : zk2 p2 [x, y] = some ⟨zipZ xs ys, fun q => c1 q && c2 q⟩ := by
    unfold zk2
    dsimp only
    rw [e1, e2]
  unfold itZG
  rw [two_ok h1 h2]
  dsimp only [Res.bind]
  rw [e]
end R

/-! R38: comprehensions over a list that is known as the values of plain things -/
namespace R
open PySem L2
section
variable {en : En} {p p1 : Pool} {α : Type}
theorem lc_list {it : M It0} {g : T1} {te : M PV} {vs : List Nat} {ck : Pool → Bool} (L : List α) (G F : α → PV) (hi : it en p = .ok ⟨L.map G, ck⟩ p1) (hck : ∀ acc, ck (p1 ++ [.lst acc]) = true)
    (h : ∀ x, x ∈ L → ∃ as : As, g (G x) = some as ∧ as.all (fun a => vs.elem a.1) = true ∧ ∀ acc, te (En.sets ⟨p1.length + 1, wipeE en.sl vs⟩ as) (p1 ++ [.lst acc]) = .ok (F x) (p1 ++ [.lst acc]) ∧ bel p1.length (F x) = true)
    (hl : L.length ≤ big) : mLc it g mYes te vs en p = .ok (.lst (L.map F)) p1 := by
  have c := lc_map (it := it) (g := g) (te := te) (vs := vs) (fun j => match L[j]? with | some x => F x | none => .non) hi hck (fun j hj => by
    have hj2 : j < L.length := by
      have hj : j < (L.map G).length := hj
      rw [List.length_map] at hj
      exact hj
    have e : (⟨L.map G, ck⟩ : It0).xs[j] = G L[j] := List.getElem_map _
    obtain ⟨as, e1, e2, e3⟩ := h L[j] (List.getElem_mem hj2)
    refine ⟨as, by rw [e]; exact e1, e2, fun acc => ?_⟩
    rw [List.getElem?_eq_getElem hj2]
    exact e3 acc) (by
    show (L.map G).length ≤ big
    rw [List.length_map]
    exact hl)
  rw [c]
  congr 2
  have e : (⟨L.map G, ck⟩ : It0).xs.length = L.length := List.length_map _
  rw [e]
  refine List.ext_getElem (by simp) fun i a b => ?_
  have hi : i < L.length := by rw [List.length_map] at b; exact b
  rw [List.getElem_map, List.getElem_map, List.getElem_range, List.getElem?_eq_getElem hi]
/-- .. with a test -/
theorem lc_filt {it : M It0} {g : T1} {tt : M Bool} {te : M PV} {vs : List Nat} {ck : Pool → Bool} (L : List α) (G F : α → PV) (P : α → Bool) (hi : it en p = .ok ⟨L.map G, ck⟩ p1) (hck : ∀ acc, ck (p1 ++ [.lst acc]) = true)
    (h : ∀ x, x ∈ L → ∃ as : As, g (G x) = some as ∧ as.all (fun a => vs.elem a.1) = true ∧ ∀ acc, tt (En.sets ⟨p1.length + 1, wipeE en.sl vs⟩ as) (p1 ++ [.lst acc]) = .ok (P x) (p1 ++ [.lst acc]) ∧
      (P x = true → te (En.sets ⟨p1.length + 1, wipeE en.sl vs⟩ as) (p1 ++ [.lst acc]) = .ok (F x) (p1 ++ [.lst acc]) ∧ bel p1.length (F x) = true))
    (hl : L.length ≤ big) : mLc it g tt te vs en p = .ok (.lst ((L.filter P).map F)) p1 := by
  have c := lc_idx (it := it) (g := g) (tt := tt) (te := te) (vs := vs) (fun j => match L[j]? with | some x => P x | none => false) (fun j => match L[j]? with | some x => F x | none => .non) hi hck (fun j hj => by
    have hj2 : j < L.length := by
      have hj : j < (L.map G).length := hj
      rw [List.length_map] at hj
      exact hj
    have e : (⟨L.map G, ck⟩ : It0).xs[j] = G L[j] := List.getElem_map _
    obtain ⟨as, e1, e2, e3⟩ := h L[j] (List.getElem_mem hj2)
    refine ⟨as, by rw [e]; exact e1, e2, fun acc => ?_⟩
    rw [List.getElem?_eq_getElem hj2]
    exact e3 acc) (by
    show (L.map G).length ≤ big
    rw [List.length_map]
    exact hl)
  rw [c]
  congr 2
  have e : (⟨L.map G, ck⟩ : It0).xs.length = L.length := List.length_map _
  rw [e]
  have k : ∀ M : List α, M.filterMap (fun x => if P x = true then some (F x) else none) = (M.filter P).map F := fun M => by
    induction M with
    | nil => rfl
    | cons x M ih =>
      rw [List.filterMap_cons, List.filter_cons]
      by_cases z : P x = true
      · rw [if_pos z, if_pos z, ih]
        rfl
      · rw [if_neg z, if_neg z, ih]
  rw [← k]
  unfold pick
  have e2 : L.map some = (List.range L.length).map fun k => L[k]? := by
    refine List.ext_getElem (by simp) fun i a b => ?_
    have hi : i < L.length := by rw [List.length_map] at a; exact a
    rw [List.getElem_map, List.getElem_map, List.getElem_range, List.getElem?_eq_getElem hi]
  have e3 : L.filterMap (fun x => if P x = true then some (F x) else none) = (L.map some).filterMap fun o => match o with | some x => if P x = true then some (F x) else none | none => none := by
    rw [List.filterMap_map]
    rfl
  rw [e3, e2, List.filterMap_map]
  congr 1
  funext j
  show (if (match L[j]? with | some x => P x | none => false) = true then some (match L[j]? with | some x => F x | none => .non) else none) = (match L[j]? with | some x => if P x = true then some (F x) else none | none => none)
  cases L[j]? with
  | none => exact if_neg Bool.false_ne_true
  | some x => rfl
end
end R

/-! R39: own == inside lists; len(set(xs)) of a list of unlike numbers -/
namespace R
open PySem L2 PySem.Spec PyProof.Rows
/-- two instances of class c, by the own == -/
def fOO (c : Nat) (q : List PV → List PV → Option Bool) : PV → PV → Option Bool := fun x y => match x, y with
  | .obj d xs, .obj e ys => if d = c ∧ e = c then q xs ys else none
  | _, _ => none
section
variable {X : Cx} {Γ : Cfg}
theorem eqB_OO {k c n : Nat} {q : List PV → List PV → Option Bool} (hK : X.K = Γ.K) (F : EqF X Γ k c q) (hs : ∀ xs ys b, q xs ys = some b → eqT (eqv n) xs ys = some b) : EqB X Γ k (fOO c q) := by
  intro A pins s σ H x y b vx vy u v sb I hT rx ry e ru rv
  unfold fOO at e
  split at e
  · rename_i d xs f ys
    by_cases hd : d = c ∧ f = c
    · rw [if_pos hd] at e
      obtain ⟨rfl, rfl⟩ := hd
      have e0 : fO f q (.obj f xs) (.obj f ys) = some b := by
        unfold fO
        dsimp only
        rw [if_pos rfl, if_pos rfl]
        exact e
      obtain ⟨a, dx, vs, rfl, g, g2, hl, r⟩ := id rx
      obtain ⟨a', dx', us, rfl, g', g2', hl', r'⟩ := id ry
      cases ru
      cases rv
      refine eqB_ref (rcB_O hK F) sb I hT rx ry e0 fun ha => ?_
      subst ha
      rw [g] at g'
      injection g' with g'
      injection g' with _ _ g'
      have := zip_inj g' hl hl'
      subst this
      exact eqT_same (eqv_same hK I n) (hs _ _ _ e) r r'
    · rw [if_neg hd] at e
      cases e
  · cases e
end
section
variable {X : Cx} {C : Cn} {pos : Pos}
/-- len(set(xs)), the numbers unlike one another -/
def mLSetL (a : M PV) : M PV := fun en p => (a en p).bind fun x p1 => match getR p1 x with
  | some ys => match its ys with
    | some ns => if ns.length < 64 ∧ ns.Nodup then .ok (.int ns.length) p1 else .stuck
    | none => .stuck
  | none => .stuck
theorem re_lsetL {a : Expr} {ma : M PV} {p p2 q : Pos} (hc : X.calm = true) (hK : X.K = C.Γ.K) (hg : Gl X "len") (hm : X.mg "len" = none) (hg2 : Gl X "set") (hm2 : X.mg "set" = none) (ha : RE X C a ma)
    (na : starEach [a] X.env = (false, eval a X.env) :: starEach [] X.env := by rfl) : RE X C (.Call (.Name "len" p) [.Call (.Name "set" p2) [a] [] q] [] pos) (mLSetL ma) :=
  (pe_lenSetI hc hg hm hg2 hm2 ha na).imp fun σ H Q ⟨L, w, p, en, S, E, h⟩ => by
    refine ⟨L, w, p, en, S, E, h.bind fun x p1 w1 H1 v l1 S1 r1 h1 => ?_⟩
    split at h1
    · rename_i ys ey
      split at h1
      · rename_i ns en
        by_cases hn : ns.length < 64 ∧ ns.Nodup
        · rw [if_pos hn] at h1
          obtain ⟨a, us, rfl, hq, rr⟩ := getR_ok S1 r1 ey
          have e2 := its_ok rr en
          subst e2
          exact ⟨a, ns, rfl, hK ▸ hq, hn.1, hn.2, h1.ok S1 rfl⟩
        · rw [if_neg hn] at h1
          exact h1.elim
      · exact h1.elim
    · exact h1.elim
end
end R

/-! R40: one list and another one as a list that may change -/
namespace R
open PySem PySem.Spec PyProof.Rows L2
section
variable {C : Cn}
def pAddO : F2 := fun x y p => match getL p x, getL p y with
  | some xs, some ys => if xs.length + ys.length ≤ big then .ok (.own p.length) (p ++ [.lst (xs ++ ys)]) else .stuck
  | _, _ => .stuck
theorem ref_addO : RefO C (rAdd (C := C)) pAddO := fun L w p H σ x y vx vy Q S rx ry q => by
  unfold pAddO at q
  split at q
  · rename_i xs ys e1 e2
    split at q
    · rename_i hl
      obtain ⟨a, vs, ea, sa, ra⟩ := getL_at S rx e1
      obtain ⟨b, us, eb, sb, rb⟩ := getL_at S ry e2
      exact .inr (.inr ⟨a, b, vs, us, ea, eb, sa, sb, by rw [← ra.length, ← rb.length]; exact big_le hl, newOwn S (ra.append rb) q⟩)
    · exact q.elim
  · exact q.elim
end
end R

/-! R41: try with one clause that keeps no name -/
namespace R
open PySem PySem.Spec PyProof.Rows L2
def sTry (yes : Nat → Option Bool) (body suite : S) : S := fun en p => match body en p with
  | .exc c v en2 p2 => match yes c with
    | some true => suite en2 p2
    | some false => .exc c v en2 p2
    | none => .stuck
  | r => r
theorem rs_try {X : Cx} {C : Cn} {pos np pos' : Pos} {x : Str} {cv : Value} {body suite : List Stmt} {b₀ : Stmt} {mb ms : S} (yes : Nat → Option Bool) (hs : X.stack = X.env :: X.outer) (hf : X.env.frame = some X.env.locals) (hc : Names X x cv) (tk : Takes X C.W)
    (hy : ∀ c b, yes c = some b → PySem.W.exmOne X.K (.ref (C.Γ.cls c)) cv = some b)
    (hb : ∀ (W : WX) (pn : List (Addr × Obj)) (xe : Value → Shared → Prop), Takes (X.tr pn xe) W → RSs (X.tr pn xe) ⟨C.Γ, W⟩ body mb)
    (hsu : ∀ (a : Addr) (pn : List (Addr × Obj)), RSs (X.suite a pn) C (b₀ :: suite) ms) :
    RS X C (.Try body [.ExceptHandler (some (.Name x np)) none (b₀ :: suite) pos'] [] [] pos) (sTry yes mb ms) :=
  (ps_try_only (tb := fun W => wS ⟨C.Γ, W⟩ mb) (ts := fun _ _ _ => wS C ms) (Wout := C.W) hs hf hc tk (fun W pn xe t _ => hb W pn xe t) (fun a oe _ _ pn _ _ => hsu a ((a, oe) :: pn))).imp fun D σ H ⟨L, w, p, en, S, E, h⟩ => by
    refine ⟨L, w, p, en, S, ⟨E.b, E.len, E.val⟩, ?_⟩
    unfold sTry at h
    generalize mb en p = r at h
    cases r with
    | next en2 p2 => exact fun w2 H2 s2 l2 S2 E2 => h w2 H2 s2 l2 S2 ⟨E2.b, E2.len, E2.val⟩
    | ret y p2 => exact h
    | brk en2 p2 => exact fun w2 H2 s2 l2 S2 E2 => h w2 H2 s2 l2 S2 ⟨E2.b, E2.len, E2.val⟩
    | cont en2 p2 => exact fun w2 H2 s2 l2 S2 E2 => h w2 H2 s2 l2 S2 ⟨E2.b, E2.len, E2.val⟩
    | stuck => exact h
    | exc c v en2 p2 =>
      intro w2 H2 s2 d l2 S2 E2 r2
      dsimp only at h
      cases e : yes c with
      | none =>
        rw [e] at h
        exact h.elim
      | some b =>
        rw [e] at h
        refine ⟨b, hy c b e, fun hb2 a ha => ?_, fun hb2 => ?_⟩
        · subst hb2
          exact ⟨L, w2, p2, en2, S2, ⟨E2.b, E2.len, E2.val⟩, PostS.mono l2 h⟩
        · subst hb2
          exact h w2 H2 s2 d l2 S2 ⟨E2.b, E2.len, E2.val⟩ r2
end R

/-! R42: defs that want to know that no repr is under way around them -/
namespace R
open PySem PySem.Spec PyProof.Rows L2
/-- a def's promise where no repr is under way -/
structure FnG (P : Program) (w : World) (K : PySem.W.Frag) (mg : Str → Option Value) (base : Heap) (T : CXT) (lev : Nat) (f : Addr) (fd : FuncData) (ps : List Str) (sp : Sp) : Prop where
  many : ∀ vs H Q E, sp vs H Q E → vs.length = ps.length
  go : ∀ (A : Around) (out : List Env) (s : Shared) (H : Hp) (args : Args) (us : List Value) (vs : List V) (Q : VK) (E : XK), Room lev A → A.guards = some [] → Env0 P w K mg base A out s H →
    BindsTo s fd args (ps.zip us) → Vals vs us → sp vs H Q E → codeAny (model P w) A (.call (.ref f) args) (CR T out P w H s Q E) s
section
variable {P : Program} {w0 : World} {K : PySem.W.Frag} {mg : Str → Option Value} {base : Heap}
theorem FnG.of {T : CXT} {lev : Nat} {f : Addr} {fd : FuncData} {ps : List Str} {sp : Sp} (F : FnOk P w0 K mg base T lev f fd ps sp) : FnG P w0 K mg base T lev f fd ps sp :=
  ⟨F.len, fun A out s H args us vs Q E hr _ he hb hv h => F.run A out s H args us vs Q E hr he hb hv h⟩
theorem FnG.less {T : CXT} {lev : Nat} {f : Addr} {fd : FuncData} {ps : List Str} {sp sp2 : Sp} (F : FnG P w0 K mg base T lev f fd ps sp) (h : ∀ vs H Q E, sp2 vs H Q E → sp vs H Q E) : FnG P w0 K mg base T lev f fd ps sp2 :=
  ⟨fun vs H Q E z => F.many vs H Q E (h vs H Q E z), fun A out s H args us vs Q E hr hg he hb hv z => F.go A out s H args us vs Q E hr hg he hb hv (h vs H Q E z)⟩
/-- a def by its body -/
theorem ok_fnG {Γ : Cfg} {x qual : Str} {st : Stmt} {dvs : List V} {kws : List (Str × V)} {f : Addr} {fd : FuncData} {N ps : List Str} {k n : Nat} (F : FunD K x qual (defArgs st) (defBody st) (defScope st) dvs kws f fd) (S : FnScope N ps (defScope st)) (hn : ps.length = n) (body : R.S)
    (hb : ∀ (cdv : Value) (A : Around) (outer : List Env) (s : Shared) (H : Hp) (E : XK), Room k (A.deeper (PyProof.Rows.envOfC qual (defScope st) s.heap.objs.size f cdv)) → (A.deeper (PyProof.Rows.envOfC qual (defScope st) s.heap.objs.size f cdv)).guards = some [] →
      RSs (cxOf (L2.CX P w0) P w0 K mg base N qual (defScope st) f cdv A outer s H E) ⟨Γ, fun cls d _ H => E cls d H⟩ (defBody st) body) : FnG P w0 K mg base (L2.CX P w0) (k + 1) f fd ps (spM Γ n (fnM Γ.fld N.length body)) := by
  obtain ⟨oc, od, dV, kV, doc, pm, an, cdv, ct, osl, rfl, lk, hcd, _, _⟩ := F.ex
  have len : ∀ vs H Q E, spM Γ n (fnM Γ.fld N.length body) vs H Q E → vs.length = ps.length := fun vs H Q E h => h.1.trans hn.symm
  refine ⟨len, fun A out s H args us vs Q E hr hg e0 bd rv sp => ?_⟩
  have KX : K.In s.heap := e0.mod.kin.keeps fun b o e => (e0.bs b o e).1
  have lim : s.heap.NoLimit := e0.mod.nolimit.keeps fun b o e => (e0.bs b o e).1
  have kinds : ((ps.zip us).all fun y => (defScope st).names.lookup y.1 == some .local || (defScope st).names.lookup y.1 == some .cell) = true := by
    rw [List.all_eq_true]
    rintro ⟨y, u⟩ hm
    rcases S.par y (List.of_mem_zip hm).1 with q | q
    · rw [q]; rfl
    · rw [q]; rfl
  refine Att.call_fn KX lim lk hcd hr.depth bd kinds (fun s1 entered => ?_) S.co S.gen S.kind
  have I := inv_start (CX := L2.CX P w0) (E := E) S hr.hd e0 (len _ _ _ _ sp) rv entered
  obtain ⟨_, L, w, p, xs, S', r, h⟩ := sp
  have hq : wS (⟨Γ, fun cls d _ H => E cls d H⟩ : Cn) body { nx := fun _ H' => Q .non H', rt := Q } (start N vs) H := ⟨L.deeper p.length, w, p, ⟨p.length, xs.map some ++ List.replicate (N.length - xs.length) none⟩, S'.enter, EnR.start (L := L.deeper p.length) r, fn_ret S' h⟩
  refine wpAny_mono ((hb cdv A out s H E (hr.deeper _) hg).run [] s1 _ H _ I hq) (fun fl s2 post => ?_) (fun e s2 post => post)
  cases fl with
  | next =>
    obtain ⟨_, H2, J, q⟩ := post
    exact ⟨V.non, H2, J.os, J.bare, J.base, J.hok, rfl, q⟩
  | ret u =>
    obtain ⟨v, _, H2, J, z, q⟩ := post
    exact ⟨v, H2, J.os, J.bare, J.base, J.hok, z, q⟩
  | brk =>
    obtain ⟨_, _, _, q⟩ := post
    exact q.elim
  | cont =>
    obtain ⟨_, _, _, q⟩ := post
    exact q.elim
end
section
variable {X : Cx} {C : Cn} {pos : Pos}
/-- .. called -/
theorem re_fnG {k n : Nat} {f : Addr} {fd : FuncData} {ps : List Str} {g : FnM} {ds : List Value} {dvs : List V} {dps : List PV} {x : Str} {p : Pos} {e : Expr} {es : List Expr} {a : M (List PV)} (F : FnG X.prog X.w X.K X.mg X.base (L2.CX X.prog X.w) k f fd ps (spM C.Γ n g)) (hr : Room k X.A) (hgd : X.A.guards = some [])
    (hg : Gl X x) (hm : X.mg x = some (.ref f)) (hk : PySem.W.keepIn X.K (.ref f) = true) (hb : Binds X.K fd ps ds) (hd : Vals dvs ds) (hds : DfR dps dvs) (tk : Takes X C.W) (ha : RA X C (e :: es) a) (hl : es.length + 1 + dps.length = n) (hdb : (x == ("__debug__" : Str)) = false := by decide)
    (he : starEach (e :: es) X.env = (false, eval e X.env) :: starEach es X.env := by rfl) (hpl : (backTo pos (starEach es X.env)).any (·.1) = false := by rfl) : RE X C (.Call (.Name x p) (e :: es) [] pos) (mFn g dps a) := by
  refine PE.imp (t := tCallSD (spM C.Γ n g) dvs (WE C.W) (wA C a)) ⟨fun pins s σ H Q I h => ?_⟩ (fun σ H Q ⟨L, w, p, en, S, E, h⟩ => ⟨L, w, p, en, S, E, ?_⟩)
  · refine wpAny_Call_Name_kw (ld_glob I hg hm ?_ hdb)
    refine PySem.W.callWith_K (h₀ := X.base) I.ok.mod.kin hk (thn (ha.pa.run pos pins s σ H _ I h) fun us s1 ⟨vs, H1, I1, r, q⟩ => ⟨I1.kIn, ?_⟩) he hpl
    have z := F.many _ _ _ _ q
    have z2 : (us ++ ds).length = ps.length := by
      rw [← z, (r.append hd).length]
    refine wpAny_call (codeAny_mono (F.go X.A X.stack s1 H1 ⟨us, []⟩ (us ++ ds) (vs ++ dvs) Q _ hr hgd I1.env0 (hb s1 us I1.kIn z2) (r.append hd) q) fun c s2 post => ?_)
    match c, post with
    | .ok (.ret u), post => exact I1.after post
    | .error e, post => exact passAt tk σ pins H1 s1 e s2 I1 post
  · unfold mFn at h
    cases ea : a en p with
    | stuck =>
      rw [ea] at h
      exact h
    | exc c v q1 =>
      rw [ea] at h
      exact h
    | ok xs q1 =>
      rw [ea] at h
      intro w2 H2 vs l2 S2 r2
      have zl := hds.reps (Γ := C.Γ) (w := w)
      refine ⟨?_, L, w2, q1, xs ++ dps, S2, r2.append hds.reps, PostF.of (Post.mono l2 h)⟩
      rw [List.length_append, ← zl.length, ← r2.length, ha.len _ _ _ _ ea]
      exact hl
end
end R

/-! R43: the end of a law whose defs want to know that no repr is under way -/
namespace R
open PySem PySem.Spec PyProof.Rows L2
/-- the script alone is tracked, unless the module holds it -/
def scrH (K : PySem.W.Frag) (a : Addr) (o : Obj) (xs : List V) : Hp := fun b => if b = a ∧ K.lookup a = none then some (.frz o (.lst xs)) else none
theorem scrH_some {K : PySem.W.Frag} {a b : Addr} {o : Obj} {xs : List V} {u : HO} (h : scrH K a o xs b = some u) : b = a ∧ K.lookup a = none ∧ u = .frz o (.lst xs) := by
  unfold scrH at h
  split at h
  · rename_i z
    exact ⟨z.1, z.2, (Option.some.inj h).symm⟩
  · cases h
theorem law_callG {P : Program} {w : World} {K : PySem.W.Frag} {mg mb : Str → Option Value} {T : CXT} {k : Nat} {fa a : Addr} {fd : FuncData} {x : Str} {sp : Sp} {s : Shared} {vs : List Value} {ns : List Int}
    (kin : K.In s.heap) (gl : s.heap.Ns mainGlobals mg) (bi : s.heap.Ns builtinsNs mb) (boot : ∀ y : Str, y ≠ "__name__" → mb y = bootBuiltins y) (lim : s.heap.NoLimit) (gens : s.gens = #[])
    (scr : s.heap.get? a = some { cls := .type "list", data := .seq vs.toArray }) (numb : IntsAre vs ns) (few : ns.length ≤ sizeLine) (room : Room k callerA)
    (F : ∀ base : Heap, K.In base → base.Ns mainGlobals mg → FnG P w K mg base T k fa fd [x] sp) (bind : ∀ (s : Shared) (u : Value), BindsTo s fd ⟨[u], []⟩ [(x, u)])
    (asked : ∀ H : Hp, Only H → SqL K H a (ns.map V.int) → sp [.ref a] H (fun v _ => v = .bl true) fun _ _ _ => False) (noexc : ∀ H e s', T [] H s (fun _ _ _ => False) e s' → False) :
    codeAny (model P w) callerA (.call (.ref fa) ⟨[.ref a], []⟩) (fun r s' => r = .ok (.ret (.bool true)) ∧ OldK s.heap s'.heap ∧ s'.os = s.os ∧ AllBare s'.gens) s := by
  have vals := vals_ints numb
  obtain ⟨H, hH⟩ : ∃ H : Hp, H = scrH K a { cls := .type "list", data := .seq vs.toArray } (ns.map V.int) := ⟨_, rfl⟩
  have only : Only H := fun b => by
    cases e : H b with
    | none => exact .inl rfl
    | some u =>
      rw [hH] at e
      obtain ⟨_, _, rfl⟩ := scrH_some e
      exact .inr ⟨_, _, rfl⟩
  have seqL : SqL K H a (ns.map V.int) := by
    cases e : K.lookup a with
    | none =>
      refine .inl (.inr ⟨{ cls := .type "list", data := .seq vs.toArray }, ?_⟩)
      rw [hH]
      exact if_pos ⟨rfl, e⟩
    | some o =>
      have e2 := kin a o e
      rw [scr] at e2
      cases e2
      refine .inr ⟨_, vs.toArray, _, e, rfl, rfl, rfl, ?_, by simpa using vals⟩
      rw [List.size_toArray, numb.length]
      exact few
  have hok : HOk P w H s.heap := fun b u e => by
    rw [hH] at e
    obtain ⟨rfl, _, rfl⟩ := scrH_some e
    refine ⟨scr, ?_, vs, _, vals, scr⟩
    rw [List.length_map]
    exact few
  have free : ∀ {b : Addr} {o : Obj}, s.heap.get? b = some o → (∀ us n, o.data ≠ .seq us n) → H b = none := fun {b o} e z => by
    cases q : H b with
    | none => rfl
    | some u =>
      rw [hH] at q
      obtain ⟨rfl, _, _⟩ := scrH_some q
      rw [scr] at e
      cases e
      exact absurd rfl (z _ _)
  have names : ∀ {b : Addr} {m : Str → Option Value}, s.heap.Ns b m → (hidT s.heap H).Ns b m := fun {b m} ⟨o, es, ep, e, d, r⟩ => ⟨o, es, ep, hidT_get e (free e fun us n z => by rw [d] at z; cases z), d, r⟩
  have kept : K.In (hidT s.heap H) := fun b o e => hidT_get (kin b o e) (by
    cases q : H b with
    | none => rfl
    | some u =>
      rw [hH] at q
      obtain ⟨rfl, z, _⟩ := scrH_some q
      rw [z] at e
      cases e)
  obtain ⟨ml, l1, l2⟩ := lim
  have around : Env0 P w K mg (hidT s.heap H) callerA [] s H := ⟨rfl, ⟨kept, names gl, ⟨mb, names bi, boot⟩, ⟨ml, names l1, l2⟩⟩, fun b o e => of_hidT e, Nat.le_of_eq (hidT_size _ _), trivial, (fun b z => nomatch z), hok, .of_eq gens⟩
  refine codeAny_mono ((F _ kept (names gl)).go callerA [] s H ⟨[.ref a], []⟩ [.ref a] [.ref a] _ _ room rfl around (bind s (.ref a)) (.cons rfl .nil) (asked H only seqL)) fun c s2 post => ?_
  match c, post with
  | .error e, post => exact (noexc H e s2 post).elim
  | .ok (.ret u), ⟨v, H2, os, bare, un, hok2, rel, ev⟩ =>
    have ev : v = .bl true := ev
    subst ev
    obtain rfl : u = Value.bool true := rel
    refine ⟨rfl, OldK.of_keep fun b o e => ?_, os, bare⟩
    cases q : H b with
    | none => exact un.keep b o e q (fun z => nomatch z) (by simp)
    | some u2 =>
      rcases only b with z | ⟨o2, xs2, z⟩
      · rw [z] at q
        cases q
      · have f1 := (hok b _ z).1
        have f2 := (hok2 b _ (un.frzs b o2 _ z)).1
        rw [e] at f1
        cases f1
        exact f2
/-- the walk of such a law -/
theorem walkG {l : PySem.W.OpenLaw} {n k : Nat} {q : Program} {loose : List Str} {XP : (Str → Option Value) → Heap → Prop} {YP : World → Heap → Prop} {d : DefRec} {K : Params → PySem.W.Frag} {T : World → CXT} {sp : World → Sp} {x : Str}
    (most : l.most = some n) (small : n ≤ sizeLine) (nodef : d.params.defaults = []) (room : Room k callerA) (inK : ∀ (w : World) (h : Heap), YP w h → (K w.params).In h)
    (F : ∀ (w : World) (mg : Str → Option Value) (fa : Addr) (h : Heap), (K w.params).In h → h.Ns mainGlobals mg → mg d.name = some (.ref fa) →
      ∃ fd : FuncData, (∀ (s : Shared) (u : Value), BindsTo s fd ⟨[u], []⟩ [(x, u)]) ∧ ∀ base : Heap, (K w.params).In base → base.Ns mainGlobals mg → FnG l.prog w (K w.params) mg base (T w) k fa fd [x] (sp w))
    (asked : ∀ (w : World) (H : Hp) (a : Addr) (ns : List Int), ns.length ≤ n → Only H → SqL (K w.params) H a (ns.map V.int) → sp w [.ref a] H (fun v _ => v = .bl true) fun _ _ _ => False)
    (noexc : ∀ (w : World) (H : Hp) (s : Shared) (e : Value) (s' : Shared), T w [] H s (fun _ _ _ => False) e s' → False) :
    PySem.W.WalkO q loose XP YP l.row.toRowW d [] (fun f vs => PySem.call f vs) := by
  apply Att.attach_call most nodef
  intro w s0 s1 mg mb fa o pm cd doc a vs ns G hY _ _ _ glaw list numb few gens
  have kin := inK w _ hY
  obtain ⟨fd, bind, ok⟩ := F w mg fa _ kin G.T.g glaw
  exact law_callG kin G.T.g G.T.b G.T.builtins G.T.nolimit gens list numb (Nat.le_trans few small) room ok bind (fun H hO hS => asked w H a ns few hO hS) (fun H e s2 => noexc w H s1 e s2)
end R

/-! R44: repr of lists and tuples of data -/
namespace R
open PySem PySem.Spec PyProof.Rows L2
section
variable {X : Cx} {C : Cn}
def rRepr (K : PySem.W.Frag) : List V → Hp → VK → Prop := fun xs H Q => ∃ (a : Addr) (d : PyData), xs = [V.ref a] ∧ Dp K H (.ref a) d ∧ d.showable = true ∧ d.hasDict = false ∧ d.shown.length ≤ sizeLine ∧ d.depth ≤ 60 ∧ Q (.str d.shown) H
theorem call_repr (hg : X.A.guards = some []) (hu : X.A.units + 65 < cLine) : CallR X (.builtin "repr") (rRepr X.K) := by
  intro pins s σ H xs us Q I r h
  obtain ⟨a, d, rfl, hd, hs, hn, hz, hdp, q⟩ := h
  have e := Vals.ref1 r
  obtain ⟨as, rd⟩ := Dp.reads I d (.ref a) (.ref a) hd rfl
  rw [e]
  refine repr_of_reads' (h₀ := s.heap) rd hs (fun z => by rw [hn] at z; cases z) hg (by omega) (fun _ _ z => z) (fun h' u tk keep => ?_) hz
  exact ⟨V.str d.shown, H, I.kept keep, ⟨u, rfl⟩, q⟩
def cRepr : FC := fun xs p => match xs with
  | [.lst ys] => match toD (.lst ys) with
    | some d => if d.showable = true ∧ d.hasDict = false ∧ d.shown.length ≤ sizeLine ∧ d.depth ≤ 60 then .ok (.str d.shown) p else .stuck
    | none => .stuck
  | _ => .stuck
theorem ref_repr : RefC C (rRepr C.Γ.K) cRepr := fun L w p H σ xs vs Q S r q => by
  unfold cRepr at q
  split at q
  · rename_i ys
    obtain ⟨v, rfl, rv⟩ := reps1 r
    split at q
    · rename_i d ed
      split at q
      · rename_i hz
        have dp := toD_ok S rv ed
        obtain ⟨a, us, rfl, _, _⟩ := rv
        exact ⟨a, d, rfl, dp, hz.1, hz.2.1, hz.2.2.1, hz.2.2.2, q.ok S rfl⟩
      · exact q.elim
    · exact q.elim
  · exact q.elim
theorem call_reprU (hK : X.K = C.Γ.K) (hg : X.A.guards = some []) (hu : X.A.units + 65 < cLine) : CallR X (.builtin "repr") (rRepr C.Γ.K) := hK ▸ call_repr hg hu
end
end R

/-! R45: a, b, .. = a list -/
namespace R
open PySem PySem.Spec PyProof.Rows L2
section
variable {X : Cx} {C : Cn} {pos : Pos}
def tgL (n : Nat) (gs : TL) : T1 := fun x => match x with
  | .lst xs => if xs.length = n then gs xs else none
  | _ => none
theorem rg_lst {es : List Expr} {k : Nat} {gs : TL} {n : Nat} (hc : X.calm = true) (hK : X.K = C.Γ.K) (h : RGs X C es gs) (hn : (assignEach es X.env).length = n := by rfl) (hst : (assignEach es X.env).findIdx? (·.1) = none := by rfl) : RG X C (.Tuple es k pos) (tgL n gs) := by
  refine (pg_lst hc h hn hst).imp fun v σ H Q ⟨L, w, p, x, as, S, r, e, go⟩ => ?_
  unfold tgL at e
  split at e
  · rename_i xs
    obtain ⟨a, vs, rfl, q, rs⟩ := r
    split at e
    · rename_i hl
      refine ⟨a, vs, rfl, .inl (.inl (S.sub _ _ q)), ?_, L, w, p, xs, as, S, rs, e, go⟩
      rw [← rs.length]
      exact hl
    · cases e
  · cases e
end
end R

/-! R46: // by a divisor of any sign -/
namespace R
open PySem PySem.Spec PyProof.Rows L2
section
variable {X : Cx} {C : Cn}
def CDivA (_ j : Int) : Prop := j ≠ 0 ∧ j.natAbs.log2 < 9000
theorem op_divA : OpR X (binaryOp .FloorDiv) (rI CDivA fun i j => .int (i.fdiv j)) := opI fun i j _ _ _ _ _ hc q => floordiv_int hc.1 q (.inl (PyProof.noPylong_of_log2 hc.2))
def okDivA (_ j : Int) : Bool := decide (j ≠ 0 ∧ j.natAbs.log2 < 9000)
def pDivA : F2 := f2C okDivA fun i j => .int (i.fdiv j)
theorem ref_divA : RefO C (rI CDivA fun i j => .int (i.fdiv j)) pDivA := ref_I (fun _ _ _ => rfl) fun i j h => (of_decide_eq_true h : j ≠ 0 ∧ j.natAbs.log2 < 9000)
end
end R

namespace K01
open PySem L2 R

def topS (i : Nat) : Stmt := PySem.Challenge.pw_rillweb_k01_shares_reckoned.main.body.getD i (.Pass ⟨0, 0, 0, 0⟩)
abbrev s_is_whole : Stmt := topS 4
abbrev N_is_whole : List Str := ["thing"]
theorem sc_is_whole : FnScope N_is_whole ["thing"] (defScope s_is_whole) := ⟨rfl, rfl, rfl, by decide +kernel, rfl, by decide +kernel, by decide +kernel⟩
abbrev s_common_of : Stmt := topS 6
abbrev N_common_of : List Str := ["one", "other"]
theorem sc_common_of : FnScope N_common_of ["one", "other"] (defScope s_common_of) := ⟨rfl, rfl, rfl, by decide +kernel, rfl, by decide +kernel, by decide +kernel⟩
abbrev s_Share_init : Stmt := inClass (topS 7) 0
abbrev N_Share_init : List Str := ["self", "top", "bottom", "part"]
theorem sc_Share_init : FnScope N_Share_init ["self", "top", "bottom"] (defScope s_Share_init) := ⟨rfl, rfl, rfl, by decide +kernel, rfl, by decide +kernel, by decide +kernel⟩
abbrev s_Share_eq : Stmt := inClass (topS 7) 1
abbrev N_Share_eq : List Str := ["self", "other"]
theorem sc_Share_eq : FnScope N_Share_eq ["self", "other"] (defScope s_Share_eq) := ⟨rfl, rfl, rfl, by decide +kernel, rfl, by decide +kernel, by decide +kernel⟩
abbrev s_plus : Stmt := topS 8
abbrev N_plus : List Str := ["one", "other"]
theorem sc_plus : FnScope N_plus ["one", "other"] (defScope s_plus) := ⟨rfl, rfl, rfl, by decide +kernel, rfl, by decide +kernel, by decide +kernel⟩
abbrev s_minus : Stmt := topS 9
abbrev N_minus : List Str := ["one", "other"]
theorem sc_minus : FnScope N_minus ["one", "other"] (defScope s_minus) := ⟨rfl, rfl, rfl, by decide +kernel, rfl, by decide +kernel, by decide +kernel⟩
abbrev s_times : Stmt := topS 10
abbrev N_times : List Str := ["one", "other"]
theorem sc_times : FnScope N_times ["one", "other"] (defScope s_times) := ⟨rfl, rfl, rfl, by decide +kernel, rfl, by decide +kernel, by decide +kernel⟩
abbrev s_over : Stmt := topS 11
abbrev N_over : List Str := ["one", "other"]
theorem sc_over : FnScope N_over ["one", "other"] (defScope s_over) := ⟨rfl, rfl, rfl, by decide +kernel, rfl, by decide +kernel, by decide +kernel⟩
abbrev s_less : Stmt := topS 12
abbrev N_less : List Str := ["one", "other"]
theorem sc_less : FnScope N_less ["one", "other"] (defScope s_less) := ⟨rfl, rfl, rfl, by decide +kernel, rfl, by decide +kernel, by decide +kernel⟩
abbrev s_law_cell_at : Stmt := topS 14
abbrev N_law_cell_at : List Str := ["script", "k"]
theorem sc_law_cell_at : FnScope N_law_cell_at ["script", "k"] (defScope s_law_cell_at) := ⟨rfl, rfl, rfl, by decide +kernel, rfl, by decide +kernel, by decide +kernel⟩
abbrev s_law_mixed : Stmt := topS 15
abbrev N_law_mixed : List Str := ["cell", "k", "low"]
theorem sc_law_mixed : FnScope N_law_mixed ["cell", "k"] (defScope s_law_mixed) := ⟨rfl, rfl, rfl, by decide +kernel, rfl, by decide +kernel, by decide +kernel⟩
abbrev s_law_source : Stmt := topS 16
abbrev N_law_source : List Str := ["script", "k", "cell"]
theorem sc_law_source : FnScope N_law_source ["script", "k"] (defScope s_law_source) := ⟨rfl, rfl, rfl, by decide +kernel, rfl, by decide +kernel, by decide +kernel⟩
abbrev s_law_next : Stmt := topS 17
abbrev N_law_next : List Str := ["source", "many", "found"]
theorem sc_law_next : FnScope N_law_next ["source", "many"] (defScope s_law_next) := ⟨rfl, rfl, rfl, by decide +kernel, rfl, by decide +kernel, by decide +kernel⟩
abbrev s_law_lowered : Stmt := topS 19
abbrev N_law_lowered : List Str := ["one", "other", "high", "low"]
theorem sc_law_lowered : FnScope N_law_lowered ["one", "other"] (defScope s_law_lowered) := ⟨rfl, rfl, rfl, by decide +kernel, rfl, by decide +kernel, by decide +kernel⟩
abbrev s_law_number : Stmt := topS 20
abbrev N_law_number : List Str := ["source", "small", "far"]
theorem sc_law_number : FnScope N_law_number ["source"] (defScope s_law_number) := ⟨rfl, rfl, rfl, by decide +kernel, rfl, by decide +kernel, by decide +kernel⟩
abbrev s_law_refused : Stmt := topS 21
abbrev N_law_refused : List Str := ["one"]
theorem sc_law_refused : FnScope N_law_refused ["one"] (defScope s_law_refused) := ⟨rfl, rfl, rfl, by decide +kernel, rfl, by decide +kernel, by decide +kernel⟩
abbrev s_law_two_right : Stmt := topS 22
abbrev N_law_two_right : List Str := ["one", "other", "a", "b", "c", "d", "mine", "its", "dues", "told", "due", "low"]
theorem sc_law_two_right : FnScope N_law_two_right ["one", "other"] (defScope s_law_two_right) := ⟨rfl, rfl, rfl, by decide +kernel, rfl, by decide +kernel, by decide +kernel⟩
abbrev s_law_order_right : Stmt := topS 23
abbrev N_law_order_right : List Str := ["shares_told", "one", "other", "third"]
theorem sc_law_order_right : FnScope N_law_order_right ["shares_told"] (defScope s_law_order_right) := ⟨rfl, rfl, rfl, by decide +kernel, rfl, by decide +kernel, by decide +kernel⟩
abbrev s_law : Stmt := topS 24
abbrev N_law : List Str := ["script", "k", "source", "some", "lap", "one", "other", "told"]
theorem sc_law : FnScope N_law ["script"] (defScope s_law) := ⟨rfl, rfl, rfl, by decide +kernel, rfl, by decide +kernel, by decide +kernel⟩
theorem kit_own {K : PySem.W.Frag} {C D : Addr} {b : Bool} (i : PySem.W.isClsIn K C = true) (t : PySem.W.typeIn K (.ref C) = some (.type "type")) (r : PySem.W.subIn K (.ref C) (.ref C) = some true) (s : PySem.W.subIn K (.ref D) (.ref C) = some b) : PySem.W.kitOne K (.ref D) (.ref C) = some b := by
  unfold PySem.W.kitOne
  split
  · rename_i h
    have e : D = C := Value.ref.inj (eq_of_beq h)
    subst e
    exact r.symm.trans s
  · unfold PySem.W.kitCls
    have e2 : ((PySem.W.clsIn K C).isSome && PySem.W.typeIn K (.ref C) == some (.type "type")) = true := by
      have h2' : (PySem.W.clsIn K C).isSome = true := i
      rw [h2', t] <;> rfl
    dsimp only
    rw [if_pos e2]
    exact s
theorem kit_tyC {K : PySem.W.Frag} {C : Addr} {T : String} {b : Bool} (i : PySem.W.isClsIn K C = true) (t : PySem.W.typeIn K (.ref C) = some (.type "type")) (s : PySem.W.subIn K (.type T) (.ref C) = some b) : PySem.W.kitOne K (.type T) (.ref C) = some b := by
  unfold PySem.W.kitOne
  have e : (Value.type T == Value.ref C) = false := rfl
  rw [if_neg (by rw [e]; exact Bool.false_ne_true)]
  unfold PySem.W.kitCls
  have e2 : ((PySem.W.clsIn K C).isSome && PySem.W.typeIn K (.ref C) == some (.type "type")) = true := by
    have h2' : (PySem.W.clsIn K C).isSome = true := i
    rw [h2', t] <;> rfl
  dsimp only
  rw [if_pos e2]
  exact s
theorem kit_Cty {K : PySem.W.Frag} {D : Addr} {T : String} {b : Bool} (hm : PySem.W.kitMeta T = true) (s : PySem.W.subIn K (.ref D) (.type T) = some b) : PySem.W.kitOne K (.ref D) (.type T) = some b := by
  unfold PySem.W.kitOne
  have e : (Value.ref D == Value.type T) = false := rfl
  rw [if_neg (by rw [e]; exact Bool.false_ne_true)]
  unfold PySem.W.kitCls
  dsimp only
  rw [if_pos hm]
  exact s
theorem notFirst_of {K : PySem.W.Frag} {C : Addr} {T : String} (s : PySem.W.subIn K (.type T) (.ref C) = some false) : PySem.W.notFirst K C (.type T) = true := by
  unfold PySem.W.notFirst
  rw [s]
  simp
theorem exm_own {K : PySem.W.Frag} {C D : Addr} {b : Bool} (h : PySem.W.subIn K (.ref C) (.type "BaseException") = some true) (i : PySem.W.isClsIn K C = true) (t : PySem.W.typeIn K (.ref C) = some (.type "type")) (s : PySem.W.subIn K (.ref D) (.ref C) = some b) : PySem.W.exmOne K (.ref D) (.ref C) = some b := by
  unfold PySem.W.exmOne
  rw [h, if_pos (by rfl)]
  unfold PySem.W.kitCls
  have e2 : ((PySem.W.clsIn K C).isSome && PySem.W.typeIn K (.ref C) == some (.type "type")) = true := by
    have h2' : (PySem.W.clsIn K C).isSome = true := i
    rw [h2', t] <;> rfl
  dsimp only
  rw [if_pos e2]
  exact s
theorem room65 {k : Nat} {A : Around} (hr : Room k A) : A.units + 65 < cLine := by have := hr.un; omega
set_option maxHeartbeats 0 in
structure Facts (K : PySem.W.Frag) (mg : Str → Option Value) where
  c_Share : Addr
  gc_Share : mg "Share" = some (.ref c_Share)
  x_NoShare : Addr
  gx_NoShare : mg "NoShare" = some (.ref x_NoShare)
  f_is_whole : Addr
  d_is_whole : FuncData
  F_is_whole : FunD K "is_whole" "is_whole" (defArgs s_is_whole) (defBody s_is_whole) (defScope s_is_whole) [] [] f_is_whole d_is_whole
  b_is_whole : Binds K d_is_whole ["thing"] []
  g_is_whole : mg "is_whole" = some (.ref f_is_whole)
  f_common_of : Addr
  d_common_of : FuncData
  F_common_of : FunD K "common_of" "common_of" (defArgs s_common_of) (defBody s_common_of) (defScope s_common_of) [] [] f_common_of d_common_of
  b_common_of : Binds K d_common_of ["one", "other"] []
  g_common_of : mg "common_of" = some (.ref f_common_of)
  f_Share_init : Addr
  d_Share_init : FuncData
  F_Share_init : FunD K "__init__" "Share.__init__" (defArgs s_Share_init) (defBody s_Share_init) (defScope s_Share_init) [V.int 1] [] f_Share_init d_Share_init
  w_Share_init_1 : ∃ ds, Vals [V.int 1] ds ∧ Binds K d_Share_init ["self", "top", "bottom"] ds
  w_Share_init_0 : ∃ ds, Vals [] ds ∧ Binds K d_Share_init ["self", "top", "bottom"] ds
  i_Share_init : PySem.W.findIn K (.ref c_Share) "__init__" = some (some (.ref f_Share_init))
  t_Share_init : PySem.W.isFn K (.ref f_Share_init) = true
  f_Share_eq : Addr
  d_Share_eq : FuncData
  F_Share_eq : FunD K "__eq__" "Share.__eq__" (defArgs s_Share_eq) (defBody s_Share_eq) (defScope s_Share_eq) [] [] f_Share_eq d_Share_eq
  b_Share_eq : Binds K d_Share_eq ["self", "other"] []
  i_Share_eq : PySem.W.findIn K (.ref c_Share) "__eq__" = some (some (.ref f_Share_eq))
  t_Share_eq : PySem.W.isFn K (.ref f_Share_eq) = true
  f_plus : Addr
  d_plus : FuncData
  F_plus : FunD K "plus" "plus" (defArgs s_plus) (defBody s_plus) (defScope s_plus) [] [] f_plus d_plus
  b_plus : Binds K d_plus ["one", "other"] []
  g_plus : mg "plus" = some (.ref f_plus)
  f_minus : Addr
  d_minus : FuncData
  F_minus : FunD K "minus" "minus" (defArgs s_minus) (defBody s_minus) (defScope s_minus) [] [] f_minus d_minus
  b_minus : Binds K d_minus ["one", "other"] []
  g_minus : mg "minus" = some (.ref f_minus)
  f_times : Addr
  d_times : FuncData
  F_times : FunD K "times" "times" (defArgs s_times) (defBody s_times) (defScope s_times) [] [] f_times d_times
  b_times : Binds K d_times ["one", "other"] []
  g_times : mg "times" = some (.ref f_times)
  f_over : Addr
  d_over : FuncData
  F_over : FunD K "over" "over" (defArgs s_over) (defBody s_over) (defScope s_over) [] [] f_over d_over
  b_over : Binds K d_over ["one", "other"] []
  g_over : mg "over" = some (.ref f_over)
  f_less : Addr
  d_less : FuncData
  F_less : FunD K "less" "less" (defArgs s_less) (defBody s_less) (defScope s_less) [] [] f_less d_less
  b_less : Binds K d_less ["one", "other"] []
  g_less : mg "less" = some (.ref f_less)
  f_law_cell_at : Addr
  d_law_cell_at : FuncData
  F_law_cell_at : FunD K "_law_cell_at" "_law_cell_at" (defArgs s_law_cell_at) (defBody s_law_cell_at) (defScope s_law_cell_at) [] [] f_law_cell_at d_law_cell_at
  b_law_cell_at : Binds K d_law_cell_at ["script", "k"] []
  g_law_cell_at : mg "_law_cell_at" = some (.ref f_law_cell_at)
  f_law_mixed : Addr
  d_law_mixed : FuncData
  F_law_mixed : FunD K "_law_mixed" "_law_mixed" (defArgs s_law_mixed) (defBody s_law_mixed) (defScope s_law_mixed) [] [] f_law_mixed d_law_mixed
  b_law_mixed : Binds K d_law_mixed ["cell", "k"] []
  g_law_mixed : mg "_law_mixed" = some (.ref f_law_mixed)
  f_law_source : Addr
  d_law_source : FuncData
  F_law_source : FunD K "_law_source" "_law_source" (defArgs s_law_source) (defBody s_law_source) (defScope s_law_source) [] [] f_law_source d_law_source
  b_law_source : Binds K d_law_source ["script", "k"] []
  g_law_source : mg "_law_source" = some (.ref f_law_source)
  f_law_next : Addr
  d_law_next : FuncData
  F_law_next : FunD K "_law_next" "_law_next" (defArgs s_law_next) (defBody s_law_next) (defScope s_law_next) [] [] f_law_next d_law_next
  b_law_next : Binds K d_law_next ["source", "many"] []
  g_law_next : mg "_law_next" = some (.ref f_law_next)
  f_law_lowered : Addr
  d_law_lowered : FuncData
  F_law_lowered : FunD K "_law_lowered" "_law_lowered" (defArgs s_law_lowered) (defBody s_law_lowered) (defScope s_law_lowered) [] [] f_law_lowered d_law_lowered
  b_law_lowered : Binds K d_law_lowered ["one", "other"] []
  g_law_lowered : mg "_law_lowered" = some (.ref f_law_lowered)
  f_law_number : Addr
  d_law_number : FuncData
  F_law_number : FunD K "_law_number" "_law_number" (defArgs s_law_number) (defBody s_law_number) (defScope s_law_number) [] [] f_law_number d_law_number
  b_law_number : Binds K d_law_number ["source"] []
  g_law_number : mg "_law_number" = some (.ref f_law_number)
  f_law_refused : Addr
  d_law_refused : FuncData
  F_law_refused : FunD K "_law_refused" "_law_refused" (defArgs s_law_refused) (defBody s_law_refused) (defScope s_law_refused) [] [] f_law_refused d_law_refused
  b_law_refused : Binds K d_law_refused ["one"] []
  g_law_refused : mg "_law_refused" = some (.ref f_law_refused)
  f_law_two_right : Addr
  d_law_two_right : FuncData
  F_law_two_right : FunD K "_law_two_right" "_law_two_right" (defArgs s_law_two_right) (defBody s_law_two_right) (defScope s_law_two_right) [] [] f_law_two_right d_law_two_right
  b_law_two_right : Binds K d_law_two_right ["one", "other"] []
  g_law_two_right : mg "_law_two_right" = some (.ref f_law_two_right)
  f_law_order_right : Addr
  d_law_order_right : FuncData
  F_law_order_right : FunD K "_law_order_right" "_law_order_right" (defArgs s_law_order_right) (defBody s_law_order_right) (defScope s_law_order_right) [] [] f_law_order_right d_law_order_right
  b_law_order_right : Binds K d_law_order_right ["shares_told"] []
  g_law_order_right : mg "_law_order_right" = some (.ref f_law_order_right)
  f_law : Addr
  d_law : FuncData
  F_law : FunD K "law" "law" (defArgs s_law) (defBody s_law) (defScope s_law) [] [] f_law d_law
  b_law : Binds K d_law ["script"] []
  g_law : mg "law" = some (.ref f_law)
  bl : ∀ (s : Shared) (u : Value), BindsTo s d_law ⟨[u], []⟩ [("script", u)]
  n_abs : mg "abs" = none
  n_all : mg "all" = none
  n_bool : mg "bool" = none
  n_int : mg "int" = none
  n_isinstance : mg "isinstance" = none
  n_len : mg "len" = none
  n_max : mg "max" = none
  n_min : mg "min" = none
  n_range : mg "range" = none
  n_repr : mg "repr" = none
  mk_Share : PySem.W.makesIn K c_Share = true
  kc_Share : PySem.W.keepIn K (.ref c_Share) = true
  pg_Share : PySem.W.plainGet K c_Share Str.empty = true
  hd_Share : PySem.W.hasDictIn K c_Share = true
  po_Share : PySem.W.plainOver K c_Share = true
  sa_Share : PySem.W.findIn K (.ref c_Share) "__setattr__" = some (some (.builtin "object.__setattr__"))
  at_Share : PySem.W.findIn K (.ref c_Share) "__class__" = some (some (.builtin "object.__class__"))
  mr_Share : PySem.W.mroIn K c_Share (.type "object") = some true
  no_top_Share : PySem.W.findIn K (.ref c_Share) "top" = some none
  no_bottom_Share : PySem.W.findIn K (.ref c_Share) "bottom" = some none
  hn : PySem.W.specialIn K (.builtin "object.__class__") "__get__" = some (some (.builtin "getset_descriptor.__get__"))
  ht : PySem.W.takesIn K (.builtin "object.__class__") = some true
  ic_Share : PySem.W.isClsIn K c_Share = true
  ty_Share : PySem.W.typeIn K (.ref c_Share) = some (.type "type")
  ne_Share : PySem.W.findIn K (.ref c_Share) "__ne__" = some (some (.builtin "object.__ne__"))
  sT_Share_NoneType : PySem.W.subIn K (.type "NoneType") (.ref c_Share) = some false
  sF_Share_NoneType : PySem.W.subIn K (.ref c_Share) (.type "NoneType") = some false
  sT_Share_bool : PySem.W.subIn K (.type "bool") (.ref c_Share) = some false
  sF_Share_bool : PySem.W.subIn K (.ref c_Share) (.type "bool") = some false
  sT_Share_int : PySem.W.subIn K (.type "int") (.ref c_Share) = some false
  sF_Share_int : PySem.W.subIn K (.ref c_Share) (.type "int") = some false
  sT_Share_str : PySem.W.subIn K (.type "str") (.ref c_Share) = some false
  sF_Share_str : PySem.W.subIn K (.ref c_Share) (.type "str") = some false
  sT_Share_tuple : PySem.W.subIn K (.type "tuple") (.ref c_Share) = some false
  sF_Share_tuple : PySem.W.subIn K (.ref c_Share) (.type "tuple") = some false
  sT_Share_list : PySem.W.subIn K (.type "list") (.ref c_Share) = some false
  sF_Share_list : PySem.W.subIn K (.ref c_Share) (.type "list") = some false
  ss_Share_Share : PySem.W.subIn K (.ref c_Share) (.ref c_Share) = some true
  kx_NoShare : PySem.W.keepIn K (.ref x_NoShare) = true
  hs_NoShare : PySem.W.subIn K (.ref x_NoShare) (.type "BaseException") = some true
  ty_NoShare : PySem.W.typeIn K (.ref x_NoShare) = some (.type "type")
  ic_NoShare : PySem.W.isClsIn K x_NoShare = true
  ss_NoShare : PySem.W.subIn K (.ref x_NoShare) (.ref x_NoShare) = some true
  q_NoShare : PySem.W.excIn K x_NoShare [.type "ValueError", .type "Exception", .type "BaseException", .type "object"] "ValueError.__new__" = true
def fldT : Nat → List Str := fun c => match c with | 0 => ["top", "bottom"] | _ => []
section
variable {P : Program} {w : World} {K : PySem.W.Frag} {mg : Str → Option Value} {base : Heap}
def Facts.cls (T : Facts K mg) : Nat → Addr := fun c => match c with | 5 => T.x_NoShare | _ => T.c_Share
abbrev cfg (T : Facts K mg) : Cfg := ⟨K, T.cls, fldT, fun _ => "", []⟩
def yes_NoShare : Nat → Option Bool := fun c => if c = 5 then some true else none
theorem Facts.yesOk_NoShare (T : Facts K mg) : ∀ c b, yes_NoShare c = some b → PySem.W.exmOne K (.ref ((cfg T).cls c)) (.ref T.x_NoShare) = some b := fun c b e => by
  unfold yes_NoShare at e
  by_cases h : c = 5
  · subst h
    rw [if_pos rfl] at e
    cases e
    exact exm_own T.hs_NoShare T.ic_NoShare T.ty_NoShare T.ss_NoShare
  · rw [if_neg h] at e
    cases e
theorem Facts.k_Share (T : Facts K mg) : ClsF K (cfg T) 0 := ⟨⟨T.pg_Share, T.hd_Share, T.po_Share, T.sa_Share⟩, fun f h => by
  have h : f ∈ (["top", "bottom"] : List Str) := h
  simp only [List.mem_cons, List.not_mem_nil, or_false] at h
  rcases h with rfl | rfl
  · exact T.no_top_Share
  · exact T.no_bottom_Share, by show (["top", "bottom"] : List Str).Nodup; decide, by show (["top", "bottom"] : List Str).length < 1000; decide, T.at_Share, T.mr_Share⟩
theorem Facts.mkr_Share (T : Facts K mg) : Mk K T.c_Share T.f_Share_init := ⟨T.mk_Share, T.i_Share_init, T.t_Share_init, T.kc_Share⟩
theorem Facts.isF (T : Facts K mg) : IsF (cfg T) 1 := ⟨fun c h => by
  match c, h with
  | 0, _ => exact T.k_Share
  | n + 1, h => omega, T.hn, T.ht⟩
theorem Facts.isA_int (T : Facts K mg) : IsA (cfg T) 1 .int := isA_b (by simp) fun c h => by
  match c, h with
  | 0, _ => exact kit_Cty (by decide +kernel) T.sF_Share_int
  | n + 1, h => omega
theorem Facts.isA_bool (T : Facts K mg) : IsA (cfg T) 1 .bl := isA_b (by simp) fun c h => by
  match c, h with
  | 0, _ => exact kit_Cty (by decide +kernel) T.sF_Share_bool
  | n + 1, h => omega
theorem Facts.isA_str (T : Facts K mg) : IsA (cfg T) 1 .str := isA_b (by simp) fun c h => by
  match c, h with
  | 0, _ => exact kit_Cty (by decide +kernel) T.sF_Share_str
  | n + 1, h => omega
theorem Facts.isA_tuple (T : Facts K mg) : IsA (cfg T) 1 .tup := isA_b (by simp) fun c h => by
  match c, h with
  | 0, _ => exact kit_Cty (by decide +kernel) T.sF_Share_tuple
  | n + 1, h => omega
theorem Facts.isA_list (T : Facts K mg) : IsA (cfg T) 1 .lst := isA_b (by simp) fun c h => by
  match c, h with
  | 0, _ => exact kit_Cty (by decide +kernel) T.sF_Share_list
  | n + 1, h => omega
theorem Facts.isA_Share (T : Facts K mg) : IsA (cfg T) 1 (.cls 0) := isA_c (kit_tyC T.ic_Share T.ty_Share T.sT_Share_NoneType) (kit_tyC T.ic_Share T.ty_Share T.sT_Share_bool) (kit_tyC T.ic_Share T.ty_Share T.sT_Share_int) (kit_tyC T.ic_Share T.ty_Share T.sT_Share_str) (kit_tyC T.ic_Share T.ty_Share T.sT_Share_tuple) (kit_tyC T.ic_Share T.ty_Share T.sT_Share_list) fun d h => by
  match d, h with
  | 0, _ => exact kit_own T.ic_Share T.ty_Share T.ss_Share_Share T.ss_Share_Share
  | n + 1, h => omega
noncomputable def Facts.ds_Share_init_1 (T : Facts K mg) : List Value := Classical.choose T.w_Share_init_1
theorem Facts.v_Share_init_1 (T : Facts K mg) : Vals [V.int 1] (T.ds_Share_init_1) := (Classical.choose_spec T.w_Share_init_1).1
theorem Facts.b_Share_init_1 (T : Facts K mg) : Binds K T.d_Share_init ["self", "top", "bottom"] (T.ds_Share_init_1) := (Classical.choose_spec T.w_Share_init_1).2
noncomputable def Facts.ds_Share_init_0 (T : Facts K mg) : List Value := Classical.choose T.w_Share_init_0
theorem Facts.v_Share_init_0 (T : Facts K mg) : Vals [] (T.ds_Share_init_0) := (Classical.choose_spec T.w_Share_init_0).1
theorem Facts.b_Share_init_0 (T : Facts K mg) : Binds K T.d_Share_init ["self", "top", "bottom"] (T.ds_Share_init_0) := (Classical.choose_spec T.w_Share_init_0).2
end
def fuel : Nat := 2 ^ 4000

/-- is_whole -/
def b_is_whole : S :=
  (sRet (mAndV (mIsi 1 .int (mVar 0)) (mNotV (mIsi 1 .bl (mVar 0)))))
def m_is_whole : FnM := fnM fldT 1 b_is_whole
/-- common_of -/
def b_common_of : S :=
  (sSeq (loopW (mB (mBin pNe (mVar 1) (mC (.int 0))))
    (sPar 0 1 (mCons (mVar 1) (mCons (mBin pMod (mVar 0) (mVar 1)) mNil))) fuel)
    (sRet (mCall cAbs (mCons (mVar 0) mNil))))
def m_common_of : FnM := fnM fldT 2 b_common_of
/-- Share.__init__ -/
def b_Share_init : S :=
  (sSeq (sIf (mOr (mNot (mB (mFn m_is_whole [] (mCons (mVar 1) mNil)))) (mOr (mNot (mB (mFn m_is_whole [] (mCons (mVar 2) mNil)))) (mB (mBin pEq (mVar 2) (mC (.int 0))))))
    sNo
    sNop)
    (sSeq (sSet (mFn m_common_of [] (mCons (mVar 1) (mCons (mVar 2) mNil))) 3)
    (sSeq (sIf (mB (mBin pLt (mVar 2) (mC (.int 0))))
    (sSet (mBin pSub (mC (.int 0)) (mVar 3)) 3)
    sNop)
    (sSeq (sFld 0 0 (mVar 0) (mBin pDivA (mVar 1) (mVar 3)))
    (sFld 0 1 (mVar 0) (mBin pDivA (mVar 2) (mVar 3)))))))
def m_Share_init : FnM := iniM fldT 0 4 b_Share_init
/-- Share.__eq__ -/
def b_Share_eq : S :=
  (sRet (mAndV (mIsi 1 (.cls 0) (mVar 1)) (mBin pEq (mTup (mCons (mFld 0 0 (mVar 0)) (mCons (mFld 0 1 (mVar 0)) mNil))) (mTup (mCons (mFld 0 0 (mVar 1)) (mCons (mFld 0 1 (mVar 1)) mNil))))))
def m_Share_eq : FnM := fnM fldT 2 b_Share_eq
/-- plus -/
def b_plus : S :=
  (sRet (mFn m_Share_init [] (mCons (mBin pAdd (mBin pMul (mFld 0 0 (mVar 0)) (mFld 0 1 (mVar 1))) (mBin pMul (mFld 0 0 (mVar 1)) (mFld 0 1 (mVar 0)))) (mCons (mBin pMul (mFld 0 1 (mVar 0)) (mFld 0 1 (mVar 1))) mNil))))
def m_plus : FnM := fnM fldT 2 b_plus
/-- minus -/
def b_minus : S :=
  (sRet (mFn m_Share_init [] (mCons (mBin pSub (mBin pMul (mFld 0 0 (mVar 0)) (mFld 0 1 (mVar 1))) (mBin pMul (mFld 0 0 (mVar 1)) (mFld 0 1 (mVar 0)))) (mCons (mBin pMul (mFld 0 1 (mVar 0)) (mFld 0 1 (mVar 1))) mNil))))
def m_minus : FnM := fnM fldT 2 b_minus
/-- times -/
def b_times : S :=
  (sRet (mFn m_Share_init [] (mCons (mBin pMul (mFld 0 0 (mVar 0)) (mFld 0 0 (mVar 1))) (mCons (mBin pMul (mFld 0 1 (mVar 0)) (mFld 0 1 (mVar 1))) mNil))))
def m_times : FnM := fnM fldT 2 b_times
/-- over -/
def b_over : S :=
  (sSeq (sIf (mB (mBin pEq (mFld 0 0 (mVar 1)) (mC (.int 0))))
    (sRaise 5)
    sNop)
    (sRet (mFn m_Share_init [] (mCons (mBin pMul (mFld 0 0 (mVar 0)) (mFld 0 1 (mVar 1))) (mCons (mBin pMul (mFld 0 1 (mVar 0)) (mFld 0 0 (mVar 1))) mNil)))))
def m_over : FnM := fnM fldT 2 b_over
/-- less -/
def b_less : S :=
  (sRet (mBin pLt (mBin pMul (mFld 0 0 (mVar 0)) (mFld 0 1 (mVar 1))) (mBin pMul (mFld 0 0 (mVar 1)) (mFld 0 1 (mVar 0)))))
def m_less : FnM := fnM fldT 2 b_less
/-- _law_cell_at -/
def b_law_cell_at : S :=
  (sSeq (sIf (mB (mBin pLt (mVar 1) (mCall cLen (mCons (mVar 0) mNil))))
    (sRet (mBin pIx (mVar 0) (mVar 1)))
    sNop)
    (sRet (mC (.int 0))))
def m_law_cell_at : FnM := fnM fldT 2 b_law_cell_at
/-- _law_mixed -/
def b_law_mixed : S :=
  (sSeq (sSet (mBin pAdd (mBin pMod (mVar 0) (mC (.int 2147483629))) (mBin pMul (mBin pDiv (mVar 0) (mC (.int 2147483629))) (mC (.int 30011)))) 2)
    (sSeq (sSet (mBin pMod (mBin pMul (mBin pAdd (mBin pAdd (mVar 2) (mBin pMul (mC (.int 69621)) (mVar 1))) (mC (.int 1))) (mC (.int 48271))) (mC (.int 2147483629))) 2)
    (sSeq (sSet (mBin pMod (mBin pMul (mVar 2) (mBin pAdd (mBin pAdd (mBin pDiv (mVar 2) (mC (.int 907))) (mC (.int 16831))) (mVar 1))) (mC (.int 2147483587))) 2)
    (sRet (mBin pMod (mBin pMul (mVar 2) (mBin pAdd (mBin pDiv (mVar 2) (mC (.int 1201))) (mC (.int 30011)))) (mC (.int 2147483563)))))))
def m_law_mixed : FnM := fnM fldT 3 b_law_mixed
/-- _law_source -/
def b_law_source : S :=
  (sSeq (sIf (mB (mBin pLt (mVar 1) (mCall cLen (mCons (mVar 0) mNil))))
    (sRet (mLstO (mCons (mBin pIx (mVar 0) (mVar 1)) (mCons (mBin pIx (mVar 0) (mVar 1)) (mCons (mC (.int 0)) mNil)))))
    sNop)
    (sSeq (sSet (mFn m_law_mixed [] (mCons (mFn m_law_cell_at [] (mCons (mVar 0) (mCons (mC (.int 0)) mNil))) (mCons (mBin pAdd (mC (.int 1000)) (mVar 1)) mNil))) 2)
    (sRet (mLstO (mCons (mVar 2) (mCons (mVar 2) (mCons (mC (.int 0)) mNil)))))))
def m_law_source : FnM := fnO 3 b_law_source
/-- _law_next -/
def b_law_next : S :=
  (sSeq (sIf (mB (mBin pGe (mBin pIx (mVar 0) (mC (.int 0))) (mBin pPow (mC (.int 10)) (mC (.int 18)))))
    (sSeq (sSet (mBin pMod (mBin pIx (mVar 0) (mC (.int 0))) (mVar 1)) 2)
    (sSeq (sIx (mVar 0) (mC (.int 0)) (mBin pDiv (mBin pIx (mVar 0) (mC (.int 0))) (mVar 1)))
    (sRet (mVar 2))))
    sNop)
    (sSeq (sIx (mVar 0) (mC (.int 2)) (mBin pAdd (mBin pIx (mVar 0) (mC (.int 2))) (mC (.int 1))))
    (sRet (mBin pMod (mFn m_law_mixed [] (mCons (mBin pIx (mVar 0) (mC (.int 1))) (mCons (mBin pIx (mVar 0) (mC (.int 2))) mNil))) (mVar 1)))))
def m_law_next : FnM := fnM fldT 3 b_law_next
/-- _law_lowered -/
def b_law_lowered : S :=
  (sSeq (sPar 2 3 (mCons (mCall cAbs (mCons (mVar 0) mNil)) (mCons (mCall cAbs (mCons (mVar 1) mNil)) mNil)))
    (sSeq (loopW (mB (mBin pNe (mVar 3) (mC (.int 0))))
    (sPar 2 3 (mCons (mVar 3) (mCons (mBin pMod (mVar 2) (mVar 3)) mNil))) fuel)
    (sSeq (sIf (mB (mBin pLt (mVar 1) (mC (.int 0))))
    (sSet (mBin pSub (mC (.int 0)) (mVar 2)) 2)
    sNop)
    (sRet (mTup (mCons (mBin pDivA (mVar 0) (mVar 2)) (mCons (mBin pDivA (mVar 1) (mVar 2)) mNil)))))))
def m_law_lowered : FnM := fnM fldT 4 b_law_lowered
/-- _law_number -/
def b_law_number : S :=
  (sSeq (sSet (mBin pSub (mFn m_law_next [] (mCons (mVar 0) (mCons (mC (.int 25)) mNil))) (mC (.int 12))) 1)
    (sSeq (sSet (mBin pAdd (mBin pMul (mFn m_law_next [] (mCons (mVar 0) (mCons (mBin pPow (mC (.int 10)) (mC (.int 25))) mNil))) (mBin pPow (mC (.int 10)) (mC (.int 25)))) (mFn m_law_next [] (mCons (mVar 0) (mCons (mBin pPow (mC (.int 10)) (mC (.int 25))) mNil)))) 2)
    (sRet (mBin pIx (mLst (mCons (mVar 1) (mCons (mVar 1) (mCons (mBin pMul (mVar 1) (mC (.int 60))) (mCons (mVar 2) (mCons (mBin pSub (mC (.int 0)) (mVar 2)) (mCons (mBin pMul (mVar 1) (mVar 2)) mNil))))))) (mFn m_law_next [] (mCons (mVar 0) (mCons (mC (.int 6)) mNil)))))))
def m_law_number : FnM := fnM fldT 3 b_law_number
/-- _law_refused -/
def b_law_refused : S :=
  (sSeq (sTry yes_NoShare (sExpr (mFn m_over [] (mCons (mVar 0) (mCons (mFn m_Share_init [] (mCons (mC (.int 0)) (mCons (mC (.int 5)) mNil))) mNil))))
    (sRet (mC (.bl true))))
    (sRet (mC (.bl false))))
def m_law_refused : FnM := fnM fldT 1 b_law_refused
/-- _law_two_right -/
def b_law_two_right : S :=
  (sSeq (sAsg (mVar 0) (tgT 2 (tgCons (tgN 2) (tgCons (tgN 3) tgNil))))
    (sSeq (sAsg (mVar 1) (tgT 2 (tgCons (tgN 4) (tgCons (tgN 5) tgNil))))
    (sSeq (sPar 6 7 (mCons (mFn m_Share_init [] (mCons (mVar 2) (mCons (mVar 3) mNil))) (mCons (mFn m_Share_init [] (mCons (mVar 4) (mCons (mVar 5) mNil))) mNil)))
    (sSeq (sSet (mLstO (mCons (mTup (mCons (mFn m_plus [] (mCons (mVar 6) (mCons (mVar 7) mNil))) (mCons (mTup (mCons (mBin pAdd (mBin pMul (mVar 2) (mVar 5)) (mBin pMul (mVar 4) (mVar 3))) (mCons (mBin pMul (mVar 3) (mVar 5)) mNil))) mNil))) (mCons (mTup (mCons (mFn m_minus [] (mCons (mVar 6) (mCons (mVar 7) mNil))) (mCons (mTup (mCons (mBin pSub (mBin pMul (mVar 2) (mVar 5)) (mBin pMul (mVar 4) (mVar 3))) (mCons (mBin pMul (mVar 3) (mVar 5)) mNil))) mNil))) mNil))) 8)
    (sSeq (sExpr (mMet fAppend (mVar 8) (mCons (mTup (mCons (mFn m_times [] (mCons (mVar 6) (mCons (mVar 7) mNil))) (mCons (mTup (mCons (mBin pMul (mVar 2) (mVar 4)) (mCons (mBin pMul (mVar 3) (mVar 5)) mNil))) mNil))) mNil)))
    (sSeq (sIf (mB (mBin pNe (mVar 4) (mC (.int 0))))
    (sExpr (mMet fAppend (mVar 8) (mCons (mTup (mCons (mFn m_over [] (mCons (mVar 6) (mCons (mVar 7) mNil))) (mCons (mTup (mCons (mBin pMul (mVar 2) (mVar 5)) (mCons (mBin pMul (mVar 3) (mVar 4)) mNil))) mNil))) mNil)))
    sNop)
    (sSeq (sIce 8)
    (sSeq (sFor (itS (mVar 8)) (tgT 2 (tgCons (tgN 9) (tgCons (tgN 10) tgNil)))
    (sIf (mOr (mNot (mB (mIsi 1 (.cls 0) (mVar 9)))) (mB (mBin pNe (mTup (mCons (mFld 0 0 (mVar 9)) (mCons (mFld 0 1 (mVar 9)) mNil))) (mFn m_law_lowered [] (mCons (mBin pIx (mVar 10) (mC (.int 0))) (mCons (mBin pIx (mVar 10) (mC (.int 1))) mNil))))))
    (sRet (mC (.bl false)))
    sNop))
    (sSeq (sIf (mOr (mB (mBin pNe (mBin (pTr fldT (fO 0 eqO)) (mVar 6) (mVar 7)) (mBin pEq (mBin pMul (mVar 2) (mVar 5)) (mBin pMul (mVar 4) (mVar 3))))) (mB (mBin (pTr fldT (fIn (fR 0))) (mVar 6) (mLst (mCons (mTup (mCons (mFld 0 0 (mVar 6)) (mCons (mFld 0 1 (mVar 6)) mNil))) (mCons (mVar 2) (mCons (mC .non) mNil)))))))
    (sRet (mC (.bl false)))
    sNop)
    (sSeq (sSet (mBin pIx (mFn m_law_lowered [] (mCons (mBin pSub (mBin pMul (mVar 2) (mVar 5)) (mBin pMul (mVar 4) (mVar 3))) (mCons (mBin pMul (mVar 3) (mVar 5)) mNil))) (mC (.int 0))) 11)
    (sRet (mBin pEq (mCall cRepr (mCons (mLst (mCons (mFn m_less [] (mCons (mVar 6) (mCons (mVar 7) mNil))) (mCons (mFn m_less [] (mCons (mVar 7) (mCons (mVar 6) mNil))) mNil))) mNil)) (mCall cRepr (mCons (mLst (mCons (mBin pLt (mVar 11) (mC (.int 0))) (mCons (mBin pGt (mVar 11) (mC (.int 0))) mNil))) mNil))))))))))))))
def m_law_two_right : FnM := fnM fldT 12 b_law_two_right
/-- _law_order_right -/
def b_law_order_right : S :=
  (sSeq (sAsg (mVar 0) (tgL 3 (tgCons (tgN 1) (tgCons (tgN 2) (tgCons (tgN 3) tgNil)))))
    (sSeq (sIf (mB (mBin pNe (mFn m_less [] (mCons (mFn m_plus [] (mCons (mVar 1) (mCons (mVar 3) mNil))) (mCons (mFn m_plus [] (mCons (mVar 2) (mCons (mVar 3) mNil))) mNil))) (mFn m_less [] (mCons (mVar 1) (mCons (mVar 2) mNil)))))
    (sRet (mC (.bl false)))
    sNop)
    (sSeq (sIf (mB (mBin (pTr fldT (fO 0 eqO)) (mVar 3) (mFn m_Share_init [.int 1] (mCons (mC (.int 0)) mNil))))
    (sRet (mBin (pTr fldT (fO 0 eqO)) (mFn m_times [] (mCons (mVar 1) (mCons (mVar 3) mNil))) (mFn m_times [] (mCons (mVar 2) (mCons (mVar 3) mNil)))))
    sNop)
    (sSeq (sIf (mB (mFn m_less [] (mCons (mFn m_Share_init [.int 1] (mCons (mC (.int 0)) mNil)) (mCons (mVar 3) mNil))))
    (sRet (mBin pEq (mFn m_less [] (mCons (mFn m_times [] (mCons (mVar 1) (mCons (mVar 3) mNil))) (mCons (mFn m_times [] (mCons (mVar 2) (mCons (mVar 3) mNil))) mNil))) (mFn m_less [] (mCons (mVar 1) (mCons (mVar 2) mNil)))))
    sNop)
    (sRet (mBin pEq (mFn m_less [] (mCons (mFn m_times [] (mCons (mVar 2) (mCons (mVar 3) mNil))) (mCons (mFn m_times [] (mCons (mVar 1) (mCons (mVar 3) mNil))) mNil))) (mFn m_less [] (mCons (mVar 1) (mCons (mVar 2) mNil)))))))))
def m_law_order_right : FnM := fnM fldT 4 b_law_order_right
/-- law -/
def b_law : S :=
  (sSeq (sFor (itR1 (mCons (mCall cMax (mCons (mC (.int 1)) (mCons (mCall cMin (mCons (mC (.int 6)) (mCons (mCall cLen (mCons (mVar 0) mNil)) mNil))) mNil))) mNil)) (tgN 1)
    (sSeq (sSet (mFn m_law_source [] (mCons (mVar 0) (mCons (mVar 1) mNil))) 2)
    (sSeq (sSet (mLstO mNil) 3)
    (sSeq (sFor (itR1 (mCons (mC (.int 4)) mNil)) (tgN 4)
    (sSeq (sAsg (mTup (mCons (mFn m_law_number [] (mCons (mVar 2) mNil)) (mCons (mFn m_law_number [] (mCons (mVar 2) mNil)) mNil))) (tgT 2 (tgCons (tgN 5) (tgCons (tgN 6) tgNil))))
    (sExpr (mMet fAppend (mVar 3) (mCons (mTup (mCons (mVar 5) (mCons (mBin pAdd (mVar 6) (mCall cInt (mCons (mBin pEq (mVar 6) (mC (.int 0))) mNil))) mNil))) mNil)))))
    (sSeq (sExpr (mMet fAppend (mVar 3) (mCons (mTup (mCons (mBin pMul (mBin pIx (mBin pIx (mVar 3) (mC (.int 0))) (mC (.int 0))) (mC (.int 7))) (mCons (mBin pMul (mBin pIx (mBin pIx (mVar 3) (mC (.int 0))) (mC (.int 1))) (mC (.int 7))) mNil))) mNil)))
    (sSeq (sExpr (mMet fAppend (mVar 3) (mCons (mTup (mCons (mC (.int 0)) (mCons (mBin pIx (mBin pIx (mVar 3) (mC (.int 1))) (mC (.int 1))) mNil))) mNil)))
    (sSeq (sIce 3)
    (sSeq (sFor (itS (mVar 3)) (tgN 5)
    (sSeq (sSet (mFn m_Share_init [] (mCons (mBin pIx (mVar 5) (mC (.int 0))) (mCons (mBin pIx (mVar 5) (mC (.int 1))) mNil))) 7)
    (sSeq (sIf (mOr (mB (mBin pNe (mTup (mCons (mFld 0 0 (mVar 7)) (mCons (mFld 0 1 (mVar 7)) mNil))) (mFn m_law_lowered [] (mCons (mBin pIx (mVar 5) (mC (.int 0))) (mCons (mBin pIx (mVar 5) (mC (.int 1))) mNil))))) (mNot (mB (mFn m_law_refused [] (mCons (mVar 7) mNil)))))
    (sRet (mC (.bl false)))
    sNop)
    (sSeq (sIf (mB (mBin (pTr fldT (fun x y => (fO 0 eqO x y).map (!·))) (mFn m_Share_init [.int 1] (mCons (mBin pIx (mVar 5) (mC (.int 0))) mNil)) (mFn m_Share_init [] (mCons (mBin pIx (mVar 5) (mC (.int 0))) (mCons (mC (.int 1)) mNil)))))
    (sRet (mC (.bl false)))
    sNop)
    (sIf (mNot (mB (mCall cAll (mCons (mLc (itS (mVar 3)) (tgN 6) mYes (mFn m_law_two_right [] (mCons (mVar 5) (mCons (mVar 6) mNil))) [6]) mNil))))
    (sRet (mC (.bl false)))
    sNop)))))
    (sIf (mNot (mB (mFn m_law_order_right [] (mCons (mLc (itS (mSl (mVar 3) oNo (oYes (mC (.int 3))))) (tgN 5) mYes (mFn m_Share_init [] (mCons (mBin pIx (mVar 5) (mC (.int 0))) (mCons (mBin pIx (mVar 5) (mC (.int 1))) mNil))) [5]) mNil))))
    (sRet (mC (.bl false)))
    sNop)))))))))
    (sRet (mC (.bl true))))
def m_law : FnM := fnM fldT 8 b_law
theorem eqD_pair (a b c d : Int) : eqD (.tup [.int a, .int b]) (.tup [.int c, .int d]) = some (decide (a = c) && decide (b = d)) := by
  show (if SeqAt.shaped (.tuple [.int a, .int b]) = true ∧ SeqAt.shaped (.tuple [.int c, .int d]) = true then some (PyData.eqv (.tuple [.int a, .int b]) (.tuple [.int c, .int d])) else none) = _
  rw [if_pos ⟨rfl, rfl⟩]
  by_cases h1 : a = c <;> by_cases h2 : b = d <;> simp [PyData.eqv, PyData.eqvAll, h1, h2]
theorem pq_Share : ∀ x y b p, fO 0 eqO x y = some b → m_Share_eq [x, y] p = .ok (.bl b) p := by
  intro x y b p h
  unfold fO at h
  split at h
  · rename_i d xs
    by_cases hd : d = 0
    · subst hd
      rw [if_pos rfl] at h
      have no : ∀ t, tyP 1 p y = some t → isT (.cls 0) t = false → b = false → m_Share_eq [.obj 0 xs, y] p = .ok (.bl b) p := fun t ht hf hb => by
        subst hb
        have e := isi_ok (n := 1) (T := .cls 0) (a := mVar 1) (en := ⟨p.length, [some (.obj 0 xs), some y]⟩) (p := p) (var_ok rfl) ht
        rw [hf] at e
        unfold m_Share_eq
        exact fnM_pure (ret_ok (andV_f e)) rfl
      cases y with
      | obj e ys =>
        dsimp only at h
        by_cases he : e = 0
        · subst he
          rw [if_pos rfl] at h
          unfold eqO at h
          split at h
          · rename_i a b' c d
            have h := Option.some.inj h
            subst h
            unfold m_Share_eq
            refine fnM_pure (ret_ok ((andV_t (isi_ok (t := .cls 0) (var_ok (x := .obj 0 [.int c, .int d]) rfl) rfl)).trans ?_)) rfl
            refine bin_ok (tup_ok (two_ok (getF_ok (x := .obj 0 [.int a, .int b']) (var_ok rfl) rfl) (getF_ok (x := .obj 0 [.int a, .int b']) (var_ok rfl) rfl))) (tup_ok (two_ok (getF_ok (x := .obj 0 [.int c, .int d]) (var_ok rfl) rfl) (getF_ok (x := .obj 0 [.int c, .int d]) (var_ok rfl) rfl))) ?_
            unfold pEq
            rw [eqD_pair]
          · cases h
        · rw [if_neg he] at h
          cases h
      | non => exact no .non rfl rfl (Option.some.inj h).symm
      | bl z => exact no .bl rfl rfl (Option.some.inj h).symm
      | int z => exact no .int rfl rfl (Option.some.inj h).symm
      | str z => exact no .str rfl rfl (Option.some.inj h).symm
      | tup z => exact no .tup rfl rfl (Option.some.inj h).symm
      | lst z => exact no .lst rfl rfl (Option.some.inj h).symm
      | own z => cases h
      | scr z => cases h
      | xs z z2 => cases h
      | xv z z2 => cases h
      | fn z => cases h
    · rw [if_neg hd] at h
      cases h
  · cases h

section
variable {P : Program} {w : World} {K : PySem.W.Frag} {mg : Str → Option Value} {base : Heap}
theorem ok_is_whole (T : Facts K mg) : FnOk P w K mg base (L2.CX P w) 1 T.f_is_whole T.d_is_whole ["thing"] (spM (cfg T) 1 m_is_whole) :=
  ok_fn (k := 0) T.F_is_whole sc_is_whole rfl b_is_whole (fun cdv A outer s H E hr => (rss_one (rs_ret (re_and (re_isi (x := "") (n := 1) (T := .int) rfl T.isF T.isA_int (rv 0) (pe_tyN rfl T.n_int PyProof.Rows.Boot.«int») (.ty _) rfl T.n_isinstance) (re_one (re_not (re_isi (x := "") (n := 1) (T := .bl) rfl T.isF T.isA_bool (rv 0) (pe_tyN rfl T.n_bool PyProof.Rows.Boot.«bool») (.ty _) rfl T.n_isinstance)))))))
theorem ok_common_of (T : Facts K mg) : FnOk P w K mg base (L2.CX P w) 1 T.f_common_of T.d_common_of ["one", "other"] (spM (cfg T) 2 m_common_of) :=
  ok_fn (k := 0) T.F_common_of sc_common_of rfl b_common_of (fun cdv A outer s H E hr => (rss_cons (rs_while fuel (passes_of rfl) (rt_cmp (op_neD hr.units) ref_ne (rv 1) re_int (nomark _)) (rss_one (rs_par (i := 0) (j := 1) rfl sc_common_of.nd rfl rfl (by decide) rfl rfl (ra_cons (rv 1) (ra_cons (re_bin op_modN ref_mod (rv 0) (rv 1)) ra_nil)) (by rfl)))) (rss_one (rs_ret (re_callB call_abs ref_abs (by rfl) T.n_abs PyProof.Rows.Boot.«abs» (ra_cons (rv 0) ra_nil))))))
theorem ok_Share_init (T : Facts K mg) : FnOk P w K mg base (L2.CX P w) 2 T.f_Share_init T.d_Share_init ["self", "top", "bottom"] (spI (cfg T) 0 3 m_Share_init) :=
  ok_init (c := 0) (k := 1) T.F_Share_init sc_Share_init rfl b_Share_init (fun cdv A outer s H E hr => (rss_cons (rs_if (rt_w (rw_or (rt_not (rt_val (re_fn (ok_is_whole T) (hr.mono (by decide)) rfl T.g_is_whole T.F_is_whole.kp T.b_is_whole .nil rfl (takes_of rfl rfl rfl rfl) (ra_cons (rv 1) ra_nil) rfl))) (rw_or (rt_not (rt_val (re_fn (ok_is_whole T) (hr.mono (by decide)) rfl T.g_is_whole T.F_is_whole.kp T.b_is_whole .nil rfl (takes_of rfl rfl rfl rfl) (ra_cons (rv 2) ra_nil) rfl))) (rw_or1 (rt_cmp (op_eqD hr.units) ref_eq (rv 2) re_int (nomark _)))))) (rss_one rs_no) rss_nil) (rss_cons (rs_set (i := 3) sc_Share_init.nd rfl (Or.inl rfl) (re_fn (ok_common_of T) (hr.mono (by decide)) rfl T.g_common_of T.F_common_of.kp T.b_common_of .nil rfl (takes_of rfl rfl rfl rfl) (ra_cons (rv 1) (ra_cons (rv 2) ra_nil)) rfl)) (rss_cons (rs_if (rt_cmp op_lt ref_lt (rv 2) re_int (nomark _)) (rss_one (rs_set (i := 3) sc_Share_init.nd rfl (Or.inl rfl) (re_bin op_sub ref_sub re_int (rv 3)))) rss_nil) (rss_cons (rs_fld rfl T.k_Share rfl (rv 0) (re_bin op_divA ref_divA (rv 1) (rv 3))) (rss_one (rs_fld rfl T.k_Share rfl (rv 0) (re_bin op_divA ref_divA (rv 2) (rv 3)))))))))
theorem ok_Share_eq (T : Facts K mg) : FnOk P w K mg base (L2.CX P w) 1 T.f_Share_eq T.d_Share_eq ["self", "other"] (spM (cfg T) 2 m_Share_eq) :=
  ok_fn (k := 0) T.F_Share_eq sc_Share_eq rfl b_Share_eq (fun cdv A outer s H E hr => (rss_one (rs_ret (re_and (re_isi (x := "") (n := 1) (T := .cls 0) rfl T.isF T.isA_Share (rv 1) (pe_clsN rfl T.gc_Share) (.own _) rfl T.n_isinstance) (re_one (re_cmp (op_eqD hr.units) ref_eq (re_tup (ra_cons (re_fld rfl T.k_Share rfl (rv 0)) (ra_cons (re_fld rfl T.k_Share rfl (rv 0)) ra_nil))) (re_tup (ra_cons (re_fld rfl T.k_Share rfl (rv 1)) (ra_cons (re_fld rfl T.k_Share rfl (rv 1)) ra_nil))) (nomark _)))))))
theorem eqf_Share {X : Cx} (T : Facts X.K X.mg) : EqF X (cfg T) 1 0 eqO :=
  ⟨⟨T.f_Share_eq, T.d_Share_eq, ["self", "other"], m_Share_eq, ok_Share_eq T, T.i_Share_eq, T.t_Share_eq, T.b_Share_eq, pq_Share⟩, T.ne_Share, T.mr_Share, fun t h => by
    simp only [List.mem_cons, List.not_mem_nil, or_false] at h
    rcases h with rfl | rfl | rfl | rfl | rfl | rfl
    · exact notFirst_of T.sT_Share_NoneType
    · exact notFirst_of T.sT_Share_bool
    · exact notFirst_of T.sT_Share_int
    · exact notFirst_of T.sT_Share_str
    · exact notFirst_of T.sT_Share_tuple
    · exact notFirst_of T.sT_Share_list,
  fun t h => by
    simp only [List.mem_cons, List.not_mem_nil, or_false] at h
    rcases h with rfl | rfl | rfl | rfl | rfl | rfl
    · exact T.sF_Share_NoneType
    · exact T.sF_Share_bool
    · exact T.sF_Share_int
    · exact T.sF_Share_str
    · exact T.sF_Share_tuple
    · exact T.sF_Share_list⟩
theorem ok_plus (T : Facts K mg) : FnOk P w K mg base (L2.CX P w) 4 T.f_plus T.d_plus ["one", "other"] (spM (cfg T) 2 m_plus) :=
  ok_fn (k := 3) T.F_plus sc_plus rfl b_plus (fun cdv A outer s H E hr => (rss_one (rs_ret (re_make (c := 0) T.mkr_Share (ok_Share_init T) (hr.mono (by decide)) rfl T.gc_Share T.b_Share_init_0 T.v_Share_init_0 rfl (takes_of rfl rfl rfl rfl) (ra_cons (re_bin (op_addU rfl) ref_add (re_bin op_mulU ref_mul (re_fld rfl T.k_Share rfl (rv 0)) (re_fld rfl T.k_Share rfl (rv 1))) (re_bin op_mulU ref_mul (re_fld rfl T.k_Share rfl (rv 1)) (re_fld rfl T.k_Share rfl (rv 0)))) (ra_cons (re_bin op_mulU ref_mul (re_fld rfl T.k_Share rfl (rv 0)) (re_fld rfl T.k_Share rfl (rv 1))) ra_nil)) rfl))))
theorem ok_minus (T : Facts K mg) : FnOk P w K mg base (L2.CX P w) 4 T.f_minus T.d_minus ["one", "other"] (spM (cfg T) 2 m_minus) :=
  ok_fn (k := 3) T.F_minus sc_minus rfl b_minus (fun cdv A outer s H E hr => (rss_one (rs_ret (re_make (c := 0) T.mkr_Share (ok_Share_init T) (hr.mono (by decide)) rfl T.gc_Share T.b_Share_init_0 T.v_Share_init_0 rfl (takes_of rfl rfl rfl rfl) (ra_cons (re_bin op_sub ref_sub (re_bin op_mulU ref_mul (re_fld rfl T.k_Share rfl (rv 0)) (re_fld rfl T.k_Share rfl (rv 1))) (re_bin op_mulU ref_mul (re_fld rfl T.k_Share rfl (rv 1)) (re_fld rfl T.k_Share rfl (rv 0)))) (ra_cons (re_bin op_mulU ref_mul (re_fld rfl T.k_Share rfl (rv 0)) (re_fld rfl T.k_Share rfl (rv 1))) ra_nil)) rfl))))
theorem ok_times (T : Facts K mg) : FnOk P w K mg base (L2.CX P w) 4 T.f_times T.d_times ["one", "other"] (spM (cfg T) 2 m_times) :=
  ok_fn (k := 3) T.F_times sc_times rfl b_times (fun cdv A outer s H E hr => (rss_one (rs_ret (re_make (c := 0) T.mkr_Share (ok_Share_init T) (hr.mono (by decide)) rfl T.gc_Share T.b_Share_init_0 T.v_Share_init_0 rfl (takes_of rfl rfl rfl rfl) (ra_cons (re_bin op_mulU ref_mul (re_fld rfl T.k_Share rfl (rv 0)) (re_fld rfl T.k_Share rfl (rv 1))) (ra_cons (re_bin op_mulU ref_mul (re_fld rfl T.k_Share rfl (rv 0)) (re_fld rfl T.k_Share rfl (rv 1))) ra_nil)) rfl))))
theorem ok_over (T : Facts K mg) : FnOk P w K mg base (L2.CX P w) 4 T.f_over T.d_over ["one", "other"] (spM (cfg T) 2 m_over) :=
  ok_fn (k := 3) T.F_over sc_over rfl b_over (fun cdv A outer s H E hr => (rss_cons (rs_if (rt_cmp (op_eqD hr.units) ref_eq (re_fld rfl T.k_Share rfl (rv 1)) re_int (nomark _)) (rss_one (rs_raise (Ca := 0) (c := 5) rfl (takes_of rfl rfl rfl rfl) PySem.F.excBase_ValueError T.q_NoShare T.gx_NoShare T.kx_NoShare (raises_own T.hs_NoShare T.ty_NoShare) rfl)) rss_nil) (rss_one (rs_ret (re_make (c := 0) T.mkr_Share (ok_Share_init T) (hr.mono (by decide)) rfl T.gc_Share T.b_Share_init_0 T.v_Share_init_0 rfl (takes_of rfl rfl rfl rfl) (ra_cons (re_bin op_mulU ref_mul (re_fld rfl T.k_Share rfl (rv 0)) (re_fld rfl T.k_Share rfl (rv 1))) (ra_cons (re_bin op_mulU ref_mul (re_fld rfl T.k_Share rfl (rv 0)) (re_fld rfl T.k_Share rfl (rv 1))) ra_nil)) rfl)))))
theorem ok_less (T : Facts K mg) : FnOk P w K mg base (L2.CX P w) 1 T.f_less T.d_less ["one", "other"] (spM (cfg T) 2 m_less) :=
  ok_fn (k := 0) T.F_less sc_less rfl b_less (fun cdv A outer s H E hr => (rss_one (rs_ret (re_cmp op_lt ref_lt (re_bin op_mulU ref_mul (re_fld rfl T.k_Share rfl (rv 0)) (re_fld rfl T.k_Share rfl (rv 1))) (re_bin op_mulU ref_mul (re_fld rfl T.k_Share rfl (rv 1)) (re_fld rfl T.k_Share rfl (rv 0))) (nomark _)))))
theorem ok_law_cell_at (T : Facts K mg) : FnOk P w K mg base (L2.CX P w) 1 T.f_law_cell_at T.d_law_cell_at ["script", "k"] (spM (cfg T) 2 m_law_cell_at) :=
  ok_fn (k := 0) T.F_law_cell_at sc_law_cell_at rfl b_law_cell_at (fun cdv A outer s H E hr => (rss_cons (rs_if (rt_cmp op_lt ref_lt (rv 1) (re_callB (call_lenU rfl) ref_len (by rfl) T.n_len PyProof.Rows.Boot.«len» (ra_cons (rv 0) ra_nil)) (nomark _)) (rss_one (rs_ret (re_ix rfl (rv 0) (rv 1)))) rss_nil) (rss_one (rs_ret re_int))))
theorem ok_law_mixed (T : Facts K mg) : FnOk P w K mg base (L2.CX P w) 1 T.f_law_mixed T.d_law_mixed ["cell", "k"] (spM (cfg T) 2 m_law_mixed) :=
  ok_fn (k := 0) T.F_law_mixed sc_law_mixed rfl b_law_mixed (fun cdv A outer s H E hr => (rss_cons (rs_set (i := 2) sc_law_mixed.nd rfl (Or.inl rfl) (re_bin (op_addU rfl) ref_add (re_bin op_modN ref_mod (rv 0) re_int) (re_bin op_mulU ref_mul (re_bin op_div ref_div (rv 0) re_int) re_int))) (rss_cons (rs_set (i := 2) sc_law_mixed.nd rfl (Or.inl rfl) (re_bin op_modN ref_mod (re_bin op_mulU ref_mul (re_bin (op_addU rfl) ref_add (re_bin (op_addU rfl) ref_add (rv 2) (re_bin op_mulU ref_mul re_int (rv 1))) re_int) re_int) re_int)) (rss_cons (rs_set (i := 2) sc_law_mixed.nd rfl (Or.inl rfl) (re_bin op_modN ref_mod (re_bin op_mulU ref_mul (rv 2) (re_bin (op_addU rfl) ref_add (re_bin (op_addU rfl) ref_add (re_bin op_div ref_div (rv 2) re_int) re_int) (rv 1))) re_int)) (rss_one (rs_ret (re_bin op_modN ref_mod (re_bin op_mulU ref_mul (rv 2) (re_bin (op_addU rfl) ref_add (re_bin op_div ref_div (rv 2) re_int) re_int)) re_int)))))))
theorem ok_law_source (T : Facts K mg) : FnOk P w K mg base (L2.CX P w) 2 T.f_law_source T.d_law_source ["script", "k"] (spM (cfg T) 2 m_law_source) :=
  ok_fnO (k := 1) T.F_law_source sc_law_source rfl b_law_source (fun cdv A outer s H E hr => (rss_cons (rs_if (rt_cmp op_lt ref_lt (rv 1) (re_callB (call_lenU rfl) ref_len (by rfl) T.n_len PyProof.Rows.Boot.«len» (ra_cons (rv 0) ra_nil)) (nomark _)) (rss_one (rs_ret (re_lstO (ra_cons (re_ix rfl (rv 0) (rv 1)) (ra_cons (re_ix rfl (rv 0) (rv 1)) (ra_cons re_int ra_nil)))))) rss_nil) (rss_cons (rs_set (i := 2) sc_law_source.nd rfl (Or.inl rfl) (re_fn (ok_law_mixed T) (hr.mono (by decide)) rfl T.g_law_mixed T.F_law_mixed.kp T.b_law_mixed .nil rfl (takes_of rfl rfl rfl rfl) (ra_cons (re_fn (ok_law_cell_at T) (hr.mono (by decide)) rfl T.g_law_cell_at T.F_law_cell_at.kp T.b_law_cell_at .nil rfl (takes_of rfl rfl rfl rfl) (ra_cons (rv 0) (ra_cons re_int ra_nil)) rfl) (ra_cons (re_bin (op_addU rfl) ref_add re_int (rv 1)) ra_nil)) rfl)) (rss_one (rs_ret (re_lstO (ra_cons (rv 2) (ra_cons (rv 2) (ra_cons re_int ra_nil)))))))))
theorem ok_law_next (T : Facts K mg) : FnOk P w K mg base (L2.CX P w) 2 T.f_law_next T.d_law_next ["source", "many"] (spM (cfg T) 2 m_law_next) :=
  ok_fn (k := 1) T.F_law_next sc_law_next rfl b_law_next (fun cdv A outer s H E hr => (rss_cons (rs_if (rt_cmp op_ge ref_ge (re_ix rfl (rv 0) re_int) (re_bin op_pow ref_pow re_int re_int) (nomark _)) (rss_cons (rs_set (i := 2) sc_law_next.nd rfl (Or.inl rfl) (re_bin op_modN ref_mod (re_ix rfl (rv 0) re_int) (rv 1))) (rss_cons (rs_ix (rv 0) re_int (re_bin op_div ref_div (re_ix rfl (rv 0) re_int) (rv 1))) (rss_one (rs_ret (rv 2))))) rss_nil) (rss_cons (rs_ix (rv 0) re_int (re_bin (op_addU rfl) ref_add (re_ix rfl (rv 0) re_int) re_int)) (rss_one (rs_ret (re_bin op_modN ref_mod (re_fn (ok_law_mixed T) (hr.mono (by decide)) rfl T.g_law_mixed T.F_law_mixed.kp T.b_law_mixed .nil rfl (takes_of rfl rfl rfl rfl) (ra_cons (re_ix rfl (rv 0) re_int) (ra_cons (re_ix rfl (rv 0) re_int) ra_nil)) rfl) (rv 1)))))))
theorem ok_law_lowered (T : Facts K mg) : FnOk P w K mg base (L2.CX P w) 1 T.f_law_lowered T.d_law_lowered ["one", "other"] (spM (cfg T) 2 m_law_lowered) :=
  ok_fn (k := 0) T.F_law_lowered sc_law_lowered rfl b_law_lowered (fun cdv A outer s H E hr => (rss_cons (rs_par (i := 2) (j := 3) rfl sc_law_lowered.nd rfl rfl (by decide) rfl rfl (ra_cons (re_callB call_abs ref_abs (by rfl) T.n_abs PyProof.Rows.Boot.«abs» (ra_cons (rv 0) ra_nil)) (ra_cons (re_callB call_abs ref_abs (by rfl) T.n_abs PyProof.Rows.Boot.«abs» (ra_cons (rv 1) ra_nil)) ra_nil)) (by rfl)) (rss_cons (rs_while fuel (passes_of rfl) (rt_cmp (op_neD hr.units) ref_ne (rv 3) re_int (nomark _)) (rss_one (rs_par (i := 2) (j := 3) rfl sc_law_lowered.nd rfl rfl (by decide) rfl rfl (ra_cons (rv 3) (ra_cons (re_bin op_modN ref_mod (rv 2) (rv 3)) ra_nil)) (by rfl)))) (rss_cons (rs_if (rt_cmp op_lt ref_lt (rv 1) re_int (nomark _)) (rss_one (rs_set (i := 2) sc_law_lowered.nd rfl (Or.inl rfl) (re_bin op_sub ref_sub re_int (rv 2)))) rss_nil) (rss_one (rs_ret (re_tup (ra_cons (re_bin op_divA ref_divA (rv 0) (rv 2)) (ra_cons (re_bin op_divA ref_divA (rv 1) (rv 2)) ra_nil)))))))))
theorem ok_law_number (T : Facts K mg) : FnOk P w K mg base (L2.CX P w) 3 T.f_law_number T.d_law_number ["source"] (spM (cfg T) 1 m_law_number) :=
  ok_fn (k := 2) T.F_law_number sc_law_number rfl b_law_number (fun cdv A outer s H E hr => (rss_cons (rs_set (i := 1) sc_law_number.nd rfl (Or.inl rfl) (re_bin op_sub ref_sub (re_fn (ok_law_next T) (hr.mono (by decide)) rfl T.g_law_next T.F_law_next.kp T.b_law_next .nil rfl (takes_of rfl rfl rfl rfl) (ra_cons (rv 0) (ra_cons re_int ra_nil)) rfl) re_int)) (rss_cons (rs_set (i := 2) sc_law_number.nd rfl (Or.inl rfl) (re_bin (op_addU rfl) ref_add (re_bin op_mulU ref_mul (re_fn (ok_law_next T) (hr.mono (by decide)) rfl T.g_law_next T.F_law_next.kp T.b_law_next .nil rfl (takes_of rfl rfl rfl rfl) (ra_cons (rv 0) (ra_cons (re_bin op_pow ref_pow re_int re_int) ra_nil)) rfl) (re_bin op_pow ref_pow re_int re_int)) (re_fn (ok_law_next T) (hr.mono (by decide)) rfl T.g_law_next T.F_law_next.kp T.b_law_next .nil rfl (takes_of rfl rfl rfl rfl) (ra_cons (rv 0) (ra_cons (re_bin op_pow ref_pow re_int re_int) ra_nil)) rfl))) (rss_one (rs_ret (re_ix rfl (re_lst (ra_cons (rv 1) (ra_cons (rv 1) (ra_cons (re_bin op_mulU ref_mul (rv 1) re_int) (ra_cons (rv 2) (ra_cons (re_bin op_sub ref_sub re_int (rv 2)) (ra_cons (re_bin op_mulU ref_mul (rv 1) (rv 2)) ra_nil))))))) (re_fn (ok_law_next T) (hr.mono (by decide)) rfl T.g_law_next T.F_law_next.kp T.b_law_next .nil rfl (takes_of rfl rfl rfl rfl) (ra_cons (rv 0) (ra_cons re_int ra_nil)) rfl)))))))
theorem ok_law_refused (T : Facts K mg) : FnOk P w K mg base (L2.CX P w) 5 T.f_law_refused T.d_law_refused ["one"] (spM (cfg T) 1 m_law_refused) :=
  ok_fn (k := 4) T.F_law_refused sc_law_refused rfl b_law_refused (fun cdv A outer s H E hr => (rss_cons (rs_try yes_NoShare rfl rfl ⟨rfl, rfl, .inl T.gx_NoShare⟩ (takes_of rfl rfl rfl rfl) T.yesOk_NoShare (fun _ _ _ tk => (rss_one (rs_expr (re_fn (ok_over T) (hr.mono (by decide)) rfl T.g_over T.F_over.kp T.b_over .nil rfl tk (ra_cons (rv 0) (ra_cons (re_make (c := 0) T.mkr_Share (ok_Share_init T) (hr.mono (by decide)) rfl T.gc_Share T.b_Share_init_0 T.v_Share_init_0 rfl tk (ra_cons re_int (ra_cons re_int ra_nil)) rfl) ra_nil)) rfl)))) (fun _ _ => (rss_one (rs_ret re_bl)))) (rss_one (rs_ret re_bl))))
theorem ok_law_two_right (T : Facts K mg) : FnG P w K mg base (L2.CX P w) 7 T.f_law_two_right T.d_law_two_right ["one", "other"] (spM (cfg T) 2 m_law_two_right) :=
  ok_fnG (k := 6) T.F_law_two_right sc_law_two_right rfl b_law_two_right (fun cdv A outer s H E hr hg => (rss_cons (rs_asg (rv 0) (rg_tup rfl rfl (rgs_cons (rg_name (i := 2) sc_law_two_right.nd rfl (Or.inl rfl)) (rgs_cons (rg_name (i := 3) sc_law_two_right.nd rfl (Or.inl rfl)) rgs_nil)))) (rss_cons (rs_asg (rv 1) (rg_tup rfl rfl (rgs_cons (rg_name (i := 4) sc_law_two_right.nd rfl (Or.inl rfl)) (rgs_cons (rg_name (i := 5) sc_law_two_right.nd rfl (Or.inl rfl)) rgs_nil)))) (rss_cons (rs_par (i := 6) (j := 7) rfl sc_law_two_right.nd rfl rfl (by decide) rfl rfl (ra_cons (re_make (c := 0) T.mkr_Share (ok_Share_init T) (hr.mono (by decide)) rfl T.gc_Share T.b_Share_init_0 T.v_Share_init_0 rfl (takes_of rfl rfl rfl rfl) (ra_cons (rv 2) (ra_cons (rv 3) ra_nil)) rfl) (ra_cons (re_make (c := 0) T.mkr_Share (ok_Share_init T) (hr.mono (by decide)) rfl T.gc_Share T.b_Share_init_0 T.v_Share_init_0 rfl (takes_of rfl rfl rfl rfl) (ra_cons (rv 4) (ra_cons (rv 5) ra_nil)) rfl) ra_nil)) (by rfl)) (rss_cons (rs_set (i := 8) sc_law_two_right.nd rfl (Or.inl rfl) (re_lstO (ra_cons (re_tup (ra_cons (re_fn (ok_plus T) (hr.mono (by decide)) rfl T.g_plus T.F_plus.kp T.b_plus .nil rfl (takes_of rfl rfl rfl rfl) (ra_cons (rv 6) (ra_cons (rv 7) ra_nil)) rfl) (ra_cons (re_tup (ra_cons (re_bin (op_addU rfl) ref_add (re_bin op_mulU ref_mul (rv 2) (rv 5)) (re_bin op_mulU ref_mul (rv 4) (rv 3))) (ra_cons (re_bin op_mulU ref_mul (rv 3) (rv 5)) ra_nil))) ra_nil))) (ra_cons (re_tup (ra_cons (re_fn (ok_minus T) (hr.mono (by decide)) rfl T.g_minus T.F_minus.kp T.b_minus .nil rfl (takes_of rfl rfl rfl rfl) (ra_cons (rv 6) (ra_cons (rv 7) ra_nil)) rfl) (ra_cons (re_tup (ra_cons (re_bin op_sub ref_sub (re_bin op_mulU ref_mul (rv 2) (rv 5)) (re_bin op_mulU ref_mul (rv 4) (rv 3))) (ra_cons (re_bin op_mulU ref_mul (rv 3) (rv 5)) ra_nil))) ra_nil))) ra_nil)))) (rss_cons (rs_expr (re_met rfl PySem.F.plainAttrs_list PySem.F.slot_list_append PySem.F.type_list_append mt_append refm_append (rv 8) (ra_cons (re_tup (ra_cons (re_fn (ok_times T) (hr.mono (by decide)) rfl T.g_times T.F_times.kp T.b_times .nil rfl (takes_of rfl rfl rfl rfl) (ra_cons (rv 6) (ra_cons (rv 7) ra_nil)) rfl) (ra_cons (re_tup (ra_cons (re_bin op_mulU ref_mul (rv 2) (rv 4)) (ra_cons (re_bin op_mulU ref_mul (rv 3) (rv 5)) ra_nil))) ra_nil))) ra_nil))) (rss_cons (rs_if (rt_cmp (op_neD hr.units) ref_ne (rv 4) re_int (nomark _)) (rss_one (rs_expr (re_met rfl PySem.F.plainAttrs_list PySem.F.slot_list_append PySem.F.type_list_append mt_append refm_append (rv 8) (ra_cons (re_tup (ra_cons (re_fn (ok_over T) (hr.mono (by decide)) rfl T.g_over T.F_over.kp T.b_over .nil rfl (takes_of rfl rfl rfl rfl) (ra_cons (rv 6) (ra_cons (rv 7) ra_nil)) rfl) (ra_cons (re_tup (ra_cons (re_bin op_mulU ref_mul (rv 2) (rv 5)) (ra_cons (re_bin op_mulU ref_mul (rv 3) (rv 4)) ra_nil))) ra_nil))) ra_nil)))) rss_nil) (rss_ice 8 (rss_cons (rs_for (passes_of rfl) rfl (ri_seq rfl (rv 8)) (rg_tup rfl rfl (rgs_cons (rg_name (i := 9) sc_law_two_right.nd rfl (Or.inl rfl)) (rgs_cons (rg_name (i := 10) sc_law_two_right.nd rfl (Or.inl rfl)) rgs_nil))) (rss_one (rs_if (rt_w (rw_or (rt_not (rt_val (re_isi (x := "") (n := 1) (T := .cls 0) rfl T.isF T.isA_Share (rv 9) (pe_clsN rfl T.gc_Share) (.own _) rfl T.n_isinstance))) (rw_or1 (rt_cmp (op_neD hr.units) ref_ne (re_tup (ra_cons (re_fld rfl T.k_Share rfl (rv 9)) (ra_cons (re_fld rfl T.k_Share rfl (rv 9)) ra_nil))) (re_fn (ok_law_lowered T) (hr.mono (by decide)) rfl T.g_law_lowered T.F_law_lowered.kp T.b_law_lowered .nil rfl (takes_of rfl rfl rfl rfl) (ra_cons (re_ix rfl (rv 10) re_int) (ra_cons (re_ix rfl (rv 10) re_int) ra_nil)) rfl) (nomark _))))) (rss_one (rs_ret re_bl)) rss_nil))) (rss_cons (rs_if (rt_w (rw_or (rt_cmp (op_neD hr.units) ref_ne (re_cmp (op_tr (.inl rfl) (rcB_O rfl (eqf_Share T)) (hr.mono (by decide))) ref_tr (rv 6) (rv 7) (nomark _)) (re_cmp (op_eqD hr.units) ref_eq (re_bin op_mulU ref_mul (rv 2) (rv 5)) (re_bin op_mulU ref_mul (rv 4) (rv 3)) (nomark _)) (nomark _)) (rw_or1 (rt_cmp (op_inT (eqB_R rfl (eqf_Share T)) (hr.mono (by decide))).1 ref_tr (rv 6) (re_lst (ra_cons (re_tup (ra_cons (re_fld rfl T.k_Share rfl (rv 6)) (ra_cons (re_fld rfl T.k_Share rfl (rv 6)) ra_nil))) (ra_cons (rv 2) (ra_cons re_non ra_nil)))) rfl)))) (rss_one (rs_ret re_bl)) rss_nil) (rss_cons (rs_set (i := 11) sc_law_two_right.nd rfl (Or.inl rfl) (re_ix rfl (re_fn (ok_law_lowered T) (hr.mono (by decide)) rfl T.g_law_lowered T.F_law_lowered.kp T.b_law_lowered .nil rfl (takes_of rfl rfl rfl rfl) (ra_cons (re_bin op_sub ref_sub (re_bin op_mulU ref_mul (rv 2) (rv 5)) (re_bin op_mulU ref_mul (rv 4) (rv 3))) (ra_cons (re_bin op_mulU ref_mul (rv 3) (rv 5)) ra_nil)) rfl) re_int)) (rss_one (rs_ret (re_cmp (op_eqD hr.units) ref_eq (re_callB (call_reprU rfl hg (room65 hr)) ref_repr (by rfl) T.n_repr PyProof.Rows.Boot.«repr» (ra_cons (re_lst (ra_cons (re_fn (ok_less T) (hr.mono (by decide)) rfl T.g_less T.F_less.kp T.b_less .nil rfl (takes_of rfl rfl rfl rfl) (ra_cons (rv 6) (ra_cons (rv 7) ra_nil)) rfl) (ra_cons (re_fn (ok_less T) (hr.mono (by decide)) rfl T.g_less T.F_less.kp T.b_less .nil rfl (takes_of rfl rfl rfl rfl) (ra_cons (rv 7) (ra_cons (rv 6) ra_nil)) rfl) ra_nil))) ra_nil)) (re_callB (call_reprU rfl hg (room65 hr)) ref_repr (by rfl) T.n_repr PyProof.Rows.Boot.«repr» (ra_cons (re_lst (ra_cons (re_cmp op_lt ref_lt (rv 11) re_int (nomark _)) (ra_cons (re_cmp op_gt ref_gt (rv 11) re_int (nomark _)) ra_nil))) ra_nil)) (nomark _)))))))))))))))
theorem ok_law_order_right (T : Facts K mg) : FnOk P w K mg base (L2.CX P w) 7 T.f_law_order_right T.d_law_order_right ["shares_told"] (spM (cfg T) 1 m_law_order_right) :=
  ok_fn (k := 6) T.F_law_order_right sc_law_order_right rfl b_law_order_right (fun cdv A outer s H E hr => (rss_cons (rs_asg (rv 0) (rg_lst rfl rfl (rgs_cons (rg_name (i := 1) sc_law_order_right.nd rfl (Or.inl rfl)) (rgs_cons (rg_name (i := 2) sc_law_order_right.nd rfl (Or.inl rfl)) (rgs_cons (rg_name (i := 3) sc_law_order_right.nd rfl (Or.inl rfl)) rgs_nil))))) (rss_cons (rs_if (rt_cmp (op_neD hr.units) ref_ne (re_fn (ok_less T) (hr.mono (by decide)) rfl T.g_less T.F_less.kp T.b_less .nil rfl (takes_of rfl rfl rfl rfl) (ra_cons (re_fn (ok_plus T) (hr.mono (by decide)) rfl T.g_plus T.F_plus.kp T.b_plus .nil rfl (takes_of rfl rfl rfl rfl) (ra_cons (rv 1) (ra_cons (rv 3) ra_nil)) rfl) (ra_cons (re_fn (ok_plus T) (hr.mono (by decide)) rfl T.g_plus T.F_plus.kp T.b_plus .nil rfl (takes_of rfl rfl rfl rfl) (ra_cons (rv 2) (ra_cons (rv 3) ra_nil)) rfl) ra_nil)) rfl) (re_fn (ok_less T) (hr.mono (by decide)) rfl T.g_less T.F_less.kp T.b_less .nil rfl (takes_of rfl rfl rfl rfl) (ra_cons (rv 1) (ra_cons (rv 2) ra_nil)) rfl) (nomark _)) (rss_one (rs_ret re_bl)) rss_nil) (rss_cons (rs_if (rt_cmp (op_tr (.inl rfl) (rcB_O rfl (eqf_Share T)) (hr.mono (by decide))) ref_tr (rv 3) (re_make (c := 0) T.mkr_Share (ok_Share_init T) (hr.mono (by decide)) rfl T.gc_Share T.b_Share_init_1 T.v_Share_init_1 ⟨_, _, rfl, rfl, rfl⟩ (takes_of rfl rfl rfl rfl) (ra_cons re_int ra_nil) rfl) (nomark _)) (rss_one (rs_ret (re_cmp (op_tr (.inl rfl) (rcB_O rfl (eqf_Share T)) (hr.mono (by decide))) ref_tr (re_fn (ok_times T) (hr.mono (by decide)) rfl T.g_times T.F_times.kp T.b_times .nil rfl (takes_of rfl rfl rfl rfl) (ra_cons (rv 1) (ra_cons (rv 3) ra_nil)) rfl) (re_fn (ok_times T) (hr.mono (by decide)) rfl T.g_times T.F_times.kp T.b_times .nil rfl (takes_of rfl rfl rfl rfl) (ra_cons (rv 2) (ra_cons (rv 3) ra_nil)) rfl) (nomark _)))) rss_nil) (rss_cons (rs_if (rt_val (re_fn (ok_less T) (hr.mono (by decide)) rfl T.g_less T.F_less.kp T.b_less .nil rfl (takes_of rfl rfl rfl rfl) (ra_cons (re_make (c := 0) T.mkr_Share (ok_Share_init T) (hr.mono (by decide)) rfl T.gc_Share T.b_Share_init_1 T.v_Share_init_1 ⟨_, _, rfl, rfl, rfl⟩ (takes_of rfl rfl rfl rfl) (ra_cons re_int ra_nil) rfl) (ra_cons (rv 3) ra_nil)) rfl)) (rss_one (rs_ret (re_cmp (op_eqD hr.units) ref_eq (re_fn (ok_less T) (hr.mono (by decide)) rfl T.g_less T.F_less.kp T.b_less .nil rfl (takes_of rfl rfl rfl rfl) (ra_cons (re_fn (ok_times T) (hr.mono (by decide)) rfl T.g_times T.F_times.kp T.b_times .nil rfl (takes_of rfl rfl rfl rfl) (ra_cons (rv 1) (ra_cons (rv 3) ra_nil)) rfl) (ra_cons (re_fn (ok_times T) (hr.mono (by decide)) rfl T.g_times T.F_times.kp T.b_times .nil rfl (takes_of rfl rfl rfl rfl) (ra_cons (rv 2) (ra_cons (rv 3) ra_nil)) rfl) ra_nil)) rfl) (re_fn (ok_less T) (hr.mono (by decide)) rfl T.g_less T.F_less.kp T.b_less .nil rfl (takes_of rfl rfl rfl rfl) (ra_cons (rv 1) (ra_cons (rv 2) ra_nil)) rfl) (nomark _)))) rss_nil) (rss_one (rs_ret (re_cmp (op_eqD hr.units) ref_eq (re_fn (ok_less T) (hr.mono (by decide)) rfl T.g_less T.F_less.kp T.b_less .nil rfl (takes_of rfl rfl rfl rfl) (ra_cons (re_fn (ok_times T) (hr.mono (by decide)) rfl T.g_times T.F_times.kp T.b_times .nil rfl (takes_of rfl rfl rfl rfl) (ra_cons (rv 2) (ra_cons (rv 3) ra_nil)) rfl) (ra_cons (re_fn (ok_times T) (hr.mono (by decide)) rfl T.g_times T.F_times.kp T.b_times .nil rfl (takes_of rfl rfl rfl rfl) (ra_cons (rv 1) (ra_cons (rv 3) ra_nil)) rfl) ra_nil)) rfl) (re_fn (ok_less T) (hr.mono (by decide)) rfl T.g_less T.F_less.kp T.b_less .nil rfl (takes_of rfl rfl rfl rfl) (ra_cons (rv 1) (ra_cons (rv 2) ra_nil)) rfl) (nomark _)))))))))
theorem ok_law (T : Facts K mg) : FnG P w K mg base (L2.CX P w) 9 T.f_law T.d_law ["script"] (spM (cfg T) 1 m_law) :=
  ok_fnG (k := 8) T.F_law sc_law rfl b_law (fun cdv A outer s H E hr hg => (rss_cons (rs_for (passes_of rfl) rfl (ri_range1 (by rfl) T.n_range (ra_cons (re_callB (call_max2 rfl) ref_max (by rfl) T.n_max PyProof.Rows.Boot.«max» (ra_cons re_int (ra_cons (re_callB (call_min2 rfl) ref_min (by rfl) T.n_min PyProof.Rows.Boot.«min» (ra_cons re_int (ra_cons (re_callB (call_lenU rfl) ref_len (by rfl) T.n_len PyProof.Rows.Boot.«len» (ra_cons (rv 0) ra_nil)) ra_nil))) ra_nil))) ra_nil)) (rg_name (i := 1) sc_law.nd rfl (Or.inl rfl)) (rss_cons (rs_set (i := 2) sc_law.nd rfl (Or.inl rfl) (re_fn (ok_law_source T) (hr.mono (by decide)) rfl T.g_law_source T.F_law_source.kp T.b_law_source .nil rfl (takes_of rfl rfl rfl rfl) (ra_cons (rv 0) (ra_cons (rv 1) ra_nil)) rfl)) (rss_cons (rs_set (i := 3) sc_law.nd rfl (Or.inl rfl) (re_lstO ra_nil)) (rss_cons (rs_for (passes_of rfl) rfl (ri_range1 (by rfl) T.n_range (ra_cons re_int ra_nil)) (rg_name (i := 4) sc_law.nd rfl (Or.inl rfl)) (rss_cons (rs_asg (re_tup (ra_cons (re_fn (ok_law_number T) (hr.mono (by decide)) rfl T.g_law_number T.F_law_number.kp T.b_law_number .nil rfl (takes_of rfl rfl rfl rfl) (ra_cons (rv 2) ra_nil) rfl) (ra_cons (re_fn (ok_law_number T) (hr.mono (by decide)) rfl T.g_law_number T.F_law_number.kp T.b_law_number .nil rfl (takes_of rfl rfl rfl rfl) (ra_cons (rv 2) ra_nil) rfl) ra_nil))) (rg_tup rfl rfl (rgs_cons (rg_name (i := 5) sc_law.nd rfl (Or.inr rfl)) (rgs_cons (rg_name (i := 6) sc_law.nd rfl (Or.inl rfl)) rgs_nil)))) (rss_one (rs_expr (re_met rfl PySem.F.plainAttrs_list PySem.F.slot_list_append PySem.F.type_list_append mt_append refm_append (rv 3) (ra_cons (re_tup (ra_cons (rv 5) (ra_cons (re_bin (op_addU rfl) ref_add (rv 6) (re_callTy call_int1 ref_int (by rfl) T.n_int PyProof.Rows.Boot.«int» (ra_cons (re_cmp (op_eqD hr.units) ref_eq (rv 6) re_int (nomark _)) ra_nil))) ra_nil))) ra_nil)))))) (rss_cons (rs_expr (re_met rfl PySem.F.plainAttrs_list PySem.F.slot_list_append PySem.F.type_list_append mt_append refm_append (rv 3) (ra_cons (re_tup (ra_cons (re_bin op_mulU ref_mul (re_ix rfl (re_ix rfl (rv 3) re_int) re_int) re_int) (ra_cons (re_bin op_mulU ref_mul (re_ix rfl (re_ix rfl (rv 3) re_int) re_int) re_int) ra_nil))) ra_nil))) (rss_cons (rs_expr (re_met rfl PySem.F.plainAttrs_list PySem.F.slot_list_append PySem.F.type_list_append mt_append refm_append (rv 3) (ra_cons (re_tup (ra_cons re_int (ra_cons (re_ix rfl (re_ix rfl (rv 3) re_int) re_int) ra_nil))) ra_nil))) (rss_ice 3 (rss_cons (rs_for (passes_of rfl) rfl (ri_seq rfl (rv 3)) (rg_name (i := 5) sc_law.nd rfl (Or.inr rfl)) (rss_cons (rs_set (i := 7) sc_law.nd rfl (Or.inl rfl) (re_make (c := 0) T.mkr_Share (ok_Share_init T) (hr.mono (by decide)) rfl T.gc_Share T.b_Share_init_0 T.v_Share_init_0 rfl (takes_of rfl rfl rfl rfl) (ra_cons (re_ix rfl (rv 5) re_int) (ra_cons (re_ix rfl (rv 5) re_int) ra_nil)) rfl)) (rss_cons (rs_if (rt_w (rw_or (rt_cmp (op_neD hr.units) ref_ne (re_tup (ra_cons (re_fld rfl T.k_Share rfl (rv 7)) (ra_cons (re_fld rfl T.k_Share rfl (rv 7)) ra_nil))) (re_fn (ok_law_lowered T) (hr.mono (by decide)) rfl T.g_law_lowered T.F_law_lowered.kp T.b_law_lowered .nil rfl (takes_of rfl rfl rfl rfl) (ra_cons (re_ix rfl (rv 5) re_int) (ra_cons (re_ix rfl (rv 5) re_int) ra_nil)) rfl) (nomark _)) (rw_or1 (rt_not (rt_val (re_fn (ok_law_refused T) (hr.mono (by decide)) rfl T.g_law_refused T.F_law_refused.kp T.b_law_refused .nil rfl (takes_of rfl rfl rfl rfl) (ra_cons (rv 7) ra_nil) rfl)))))) (rss_one (rs_ret re_bl)) rss_nil) (rss_cons (rs_if (rt_cmp (op_tr (.inr rfl) (rcB_ON rfl (eqf_Share T)) (hr.mono (by decide))) ref_tr (re_make (c := 0) T.mkr_Share (ok_Share_init T) (hr.mono (by decide)) rfl T.gc_Share T.b_Share_init_1 T.v_Share_init_1 ⟨_, _, rfl, rfl, rfl⟩ (takes_of rfl rfl rfl rfl) (ra_cons (re_ix rfl (rv 5) re_int) ra_nil) rfl) (re_make (c := 0) T.mkr_Share (ok_Share_init T) (hr.mono (by decide)) rfl T.gc_Share T.b_Share_init_0 T.v_Share_init_0 rfl (takes_of rfl rfl rfl rfl) (ra_cons (re_ix rfl (rv 5) re_int) (ra_cons re_int ra_nil)) rfl) (nomark _)) (rss_one (rs_ret re_bl)) rss_nil) (rss_one (rs_if (rt_not (rt_val (re_callB (call_allU rfl rfl) ref_all (by rfl) T.n_all PyProof.Rows.Boot.«all» (ra_cons (re_lc (own := [("other", 6)]) rfl sc_law.nd (ri_seq rfl (rv 3)) (blkOk_by (own := [("other", 6)]) (N := N_law) (sc := defScope s_law) (by decide +kernel)) (fun _ _ _ _ _ => (rg_name (i := 6) sc_law.nd rfl (Or.inl rfl))) (fun _ _ _ _ _ => rts_nil) (fun _ _ _ _ _ => (re_fnG (ok_law_two_right T) (hr.mono (by decide)) hg rfl T.g_law_two_right T.F_law_two_right.kp T.b_law_two_right .nil rfl takes0 (ra_cons (rv 5) (ra_cons (rv 6) ra_nil)) rfl))) ra_nil)))) (rss_one (rs_ret re_bl)) rss_nil)))))) (rss_one (rs_if (rt_not (rt_val (re_fn (ok_law_order_right T) (hr.mono (by decide)) rfl T.g_law_order_right T.F_law_order_right.kp T.b_law_order_right .nil rfl (takes_of rfl rfl rfl rfl) (ra_cons (re_lc (own := [("one", 5)]) rfl sc_law.nd (ri_seq rfl (re_sl rfl (rv 3) ro_none (ro_some re_int))) (blkOk_by (own := [("one", 5)]) (N := N_law) (sc := defScope s_law) (by decide +kernel)) (fun _ _ _ _ _ => (rg_name (i := 5) sc_law.nd rfl (Or.inl rfl))) (fun _ _ _ _ _ => rts_nil) (fun _ _ _ _ _ => (re_make (c := 0) T.mkr_Share (ok_Share_init T) (hr.mono (by decide)) rfl T.gc_Share T.b_Share_init_0 T.v_Share_init_0 rfl takes0 (ra_cons (re_ix rfl (rv 5) re_int) (ra_cons (re_ix rfl (rv 5) re_int) ra_nil)) rfl))) ra_nil) rfl))) (rss_one (rs_ret re_bl)) rss_nil)))))))))) (rss_one (rs_ret re_bl))))
end
set_option maxHeartbeats 0 in
theorem facts_mk {K : PySem.W.Frag} {h : Heap} {mg : Str → Option Value} (X : K.In h) (G : h.Ns mainGlobals mg)
    {c_Share x_NoShare f_is_whole f_common_of f_Share_init f_Share_eq f_plus f_minus f_times f_over f_less f_law_cell_at f_law_mixed f_law_source f_law_next f_law_lowered f_law_number f_law_refused f_law_two_right f_law_order_right f_law : Addr}
    {oc_is_whole kV_is_whole dc_is_whole pm_is_whole cd_is_whole ct_is_whole : Value} {od_is_whole an_is_whole : Option Addr} {sl_is_whole : Array (Option Value)}
    {oc_common_of kV_common_of dc_common_of pm_common_of cd_common_of ct_common_of : Value} {od_common_of an_common_of : Option Addr} {sl_common_of : Array (Option Value)}
    {oc_Share_init kV_Share_init dc_Share_init pm_Share_init cd_Share_init ct_Share_init : Value} {od_Share_init an_Share_init : Option Addr} {sl_Share_init : Array (Option Value)}
    {T_Share_init : Addr} {o_Share_init : Obj} {n_Share_init : Nat} {t0_Share_init : Tok}
    {oc_Share_eq kV_Share_eq dc_Share_eq pm_Share_eq cd_Share_eq ct_Share_eq : Value} {od_Share_eq an_Share_eq : Option Addr} {sl_Share_eq : Array (Option Value)}
    {oc_plus kV_plus dc_plus pm_plus cd_plus ct_plus : Value} {od_plus an_plus : Option Addr} {sl_plus : Array (Option Value)}
    {oc_minus kV_minus dc_minus pm_minus cd_minus ct_minus : Value} {od_minus an_minus : Option Addr} {sl_minus : Array (Option Value)}
    {oc_times kV_times dc_times pm_times cd_times ct_times : Value} {od_times an_times : Option Addr} {sl_times : Array (Option Value)}
    {oc_over kV_over dc_over pm_over cd_over ct_over : Value} {od_over an_over : Option Addr} {sl_over : Array (Option Value)}
    {oc_less kV_less dc_less pm_less cd_less ct_less : Value} {od_less an_less : Option Addr} {sl_less : Array (Option Value)}
    {oc_law_cell_at kV_law_cell_at dc_law_cell_at pm_law_cell_at cd_law_cell_at ct_law_cell_at : Value} {od_law_cell_at an_law_cell_at : Option Addr} {sl_law_cell_at : Array (Option Value)}
    {oc_law_mixed kV_law_mixed dc_law_mixed pm_law_mixed cd_law_mixed ct_law_mixed : Value} {od_law_mixed an_law_mixed : Option Addr} {sl_law_mixed : Array (Option Value)}
    {oc_law_source kV_law_source dc_law_source pm_law_source cd_law_source ct_law_source : Value} {od_law_source an_law_source : Option Addr} {sl_law_source : Array (Option Value)}
    {oc_law_next kV_law_next dc_law_next pm_law_next cd_law_next ct_law_next : Value} {od_law_next an_law_next : Option Addr} {sl_law_next : Array (Option Value)}
    {oc_law_lowered kV_law_lowered dc_law_lowered pm_law_lowered cd_law_lowered ct_law_lowered : Value} {od_law_lowered an_law_lowered : Option Addr} {sl_law_lowered : Array (Option Value)}
    {oc_law_number kV_law_number dc_law_number pm_law_number cd_law_number ct_law_number : Value} {od_law_number an_law_number : Option Addr} {sl_law_number : Array (Option Value)}
    {oc_law_refused kV_law_refused dc_law_refused pm_law_refused cd_law_refused ct_law_refused : Value} {od_law_refused an_law_refused : Option Addr} {sl_law_refused : Array (Option Value)}
    {oc_law_two_right kV_law_two_right dc_law_two_right pm_law_two_right cd_law_two_right ct_law_two_right : Value} {od_law_two_right an_law_two_right : Option Addr} {sl_law_two_right : Array (Option Value)}
    {oc_law_order_right kV_law_order_right dc_law_order_right pm_law_order_right cd_law_order_right ct_law_order_right : Value} {od_law_order_right an_law_order_right : Option Addr} {sl_law_order_right : Array (Option Value)}
    {oc_law kV_law dc_law pm_law cd_law ct_law : Value} {od_law an_law : Option Addr} {sl_law : Array (Option Value)}
    (ac_Share : PySem.W.nsIn K mainGlobals "Share" = some (some (.ref c_Share)))
    (ax_NoShare : PySem.W.nsIn K mainGlobals "NoShare" = some (some (.ref x_NoShare)))
    (a_is_whole : PySem.W.nsIn K mainGlobals "is_whole" = some (some (.ref f_is_whole)))
    (l_is_whole : K.lookup f_is_whole = some ⟨oc_is_whole, od_is_whole, .func (PySem.W.fnOf "is_whole" "is_whole" (defArgs s_is_whole) (defBody s_is_whole) (defScope s_is_whole) .none kV_is_whole dc_is_whole pm_is_whole an_is_whole cd_is_whole ct_is_whole), sl_is_whole⟩)
    (e_is_whole : PySem.W.codeIn K cd_is_whole "is_whole" = true)
    (k_is_whole : PySem.W.keepIn K (.ref f_is_whole) = true)
    (a_common_of : PySem.W.nsIn K mainGlobals "common_of" = some (some (.ref f_common_of)))
    (l_common_of : K.lookup f_common_of = some ⟨oc_common_of, od_common_of, .func (PySem.W.fnOf "common_of" "common_of" (defArgs s_common_of) (defBody s_common_of) (defScope s_common_of) .none kV_common_of dc_common_of pm_common_of an_common_of cd_common_of ct_common_of), sl_common_of⟩)
    (e_common_of : PySem.W.codeIn K cd_common_of "common_of" = true)
    (k_common_of : PySem.W.keepIn K (.ref f_common_of) = true)
    (a_Share_init : PySem.W.findIn K (.ref c_Share) "__init__" = some (some (.ref f_Share_init)))
    (i_Share_init : PySem.W.isFn K (.ref f_Share_init) = true)
    (l_Share_init : K.lookup f_Share_init = some ⟨oc_Share_init, od_Share_init, .func (PySem.W.fnOf "__init__" "Share.__init__" (defArgs s_Share_init) (defBody s_Share_init) (defScope s_Share_init) (.ref T_Share_init) kV_Share_init dc_Share_init pm_Share_init an_Share_init cd_Share_init ct_Share_init), sl_Share_init⟩)
    (to_Share_init : K.lookup T_Share_init = some o_Share_init)
    (td_Share_init : o_Share_init.data = .seq (#[.int 1 t0_Share_init] : Array Value) n_Share_init)
    (e_Share_init : PySem.W.codeIn K cd_Share_init "Share.__init__" = true)
    (k_Share_init : PySem.W.keepIn K (.ref f_Share_init) = true)
    (a_Share_eq : PySem.W.findIn K (.ref c_Share) "__eq__" = some (some (.ref f_Share_eq)))
    (i_Share_eq : PySem.W.isFn K (.ref f_Share_eq) = true)
    (l_Share_eq : K.lookup f_Share_eq = some ⟨oc_Share_eq, od_Share_eq, .func (PySem.W.fnOf "__eq__" "Share.__eq__" (defArgs s_Share_eq) (defBody s_Share_eq) (defScope s_Share_eq) .none kV_Share_eq dc_Share_eq pm_Share_eq an_Share_eq cd_Share_eq ct_Share_eq), sl_Share_eq⟩)
    (e_Share_eq : PySem.W.codeIn K cd_Share_eq "Share.__eq__" = true)
    (k_Share_eq : PySem.W.keepIn K (.ref f_Share_eq) = true)
    (a_plus : PySem.W.nsIn K mainGlobals "plus" = some (some (.ref f_plus)))
    (l_plus : K.lookup f_plus = some ⟨oc_plus, od_plus, .func (PySem.W.fnOf "plus" "plus" (defArgs s_plus) (defBody s_plus) (defScope s_plus) .none kV_plus dc_plus pm_plus an_plus cd_plus ct_plus), sl_plus⟩)
    (e_plus : PySem.W.codeIn K cd_plus "plus" = true)
    (k_plus : PySem.W.keepIn K (.ref f_plus) = true)
    (a_minus : PySem.W.nsIn K mainGlobals "minus" = some (some (.ref f_minus)))
    (l_minus : K.lookup f_minus = some ⟨oc_minus, od_minus, .func (PySem.W.fnOf "minus" "minus" (defArgs s_minus) (defBody s_minus) (defScope s_minus) .none kV_minus dc_minus pm_minus an_minus cd_minus ct_minus), sl_minus⟩)
    (e_minus : PySem.W.codeIn K cd_minus "minus" = true)
    (k_minus : PySem.W.keepIn K (.ref f_minus) = true)
    (a_times : PySem.W.nsIn K mainGlobals "times" = some (some (.ref f_times)))
    (l_times : K.lookup f_times = some ⟨oc_times, od_times, .func (PySem.W.fnOf "times" "times" (defArgs s_times) (defBody s_times) (defScope s_times) .none kV_times dc_times pm_times an_times cd_times ct_times), sl_times⟩)
    (e_times : PySem.W.codeIn K cd_times "times" = true)
    (k_times : PySem.W.keepIn K (.ref f_times) = true)
    (a_over : PySem.W.nsIn K mainGlobals "over" = some (some (.ref f_over)))
    (l_over : K.lookup f_over = some ⟨oc_over, od_over, .func (PySem.W.fnOf "over" "over" (defArgs s_over) (defBody s_over) (defScope s_over) .none kV_over dc_over pm_over an_over cd_over ct_over), sl_over⟩)
    (e_over : PySem.W.codeIn K cd_over "over" = true)
    (k_over : PySem.W.keepIn K (.ref f_over) = true)
    (a_less : PySem.W.nsIn K mainGlobals "less" = some (some (.ref f_less)))
    (l_less : K.lookup f_less = some ⟨oc_less, od_less, .func (PySem.W.fnOf "less" "less" (defArgs s_less) (defBody s_less) (defScope s_less) .none kV_less dc_less pm_less an_less cd_less ct_less), sl_less⟩)
    (e_less : PySem.W.codeIn K cd_less "less" = true)
    (k_less : PySem.W.keepIn K (.ref f_less) = true)
    (a_law_cell_at : PySem.W.nsIn K mainGlobals "_law_cell_at" = some (some (.ref f_law_cell_at)))
    (l_law_cell_at : K.lookup f_law_cell_at = some ⟨oc_law_cell_at, od_law_cell_at, .func (PySem.W.fnOf "_law_cell_at" "_law_cell_at" (defArgs s_law_cell_at) (defBody s_law_cell_at) (defScope s_law_cell_at) .none kV_law_cell_at dc_law_cell_at pm_law_cell_at an_law_cell_at cd_law_cell_at ct_law_cell_at), sl_law_cell_at⟩)
    (e_law_cell_at : PySem.W.codeIn K cd_law_cell_at "_law_cell_at" = true)
    (k_law_cell_at : PySem.W.keepIn K (.ref f_law_cell_at) = true)
    (a_law_mixed : PySem.W.nsIn K mainGlobals "_law_mixed" = some (some (.ref f_law_mixed)))
    (l_law_mixed : K.lookup f_law_mixed = some ⟨oc_law_mixed, od_law_mixed, .func (PySem.W.fnOf "_law_mixed" "_law_mixed" (defArgs s_law_mixed) (defBody s_law_mixed) (defScope s_law_mixed) .none kV_law_mixed dc_law_mixed pm_law_mixed an_law_mixed cd_law_mixed ct_law_mixed), sl_law_mixed⟩)
    (e_law_mixed : PySem.W.codeIn K cd_law_mixed "_law_mixed" = true)
    (k_law_mixed : PySem.W.keepIn K (.ref f_law_mixed) = true)
    (a_law_source : PySem.W.nsIn K mainGlobals "_law_source" = some (some (.ref f_law_source)))
    (l_law_source : K.lookup f_law_source = some ⟨oc_law_source, od_law_source, .func (PySem.W.fnOf "_law_source" "_law_source" (defArgs s_law_source) (defBody s_law_source) (defScope s_law_source) .none kV_law_source dc_law_source pm_law_source an_law_source cd_law_source ct_law_source), sl_law_source⟩)
    (e_law_source : PySem.W.codeIn K cd_law_source "_law_source" = true)
    (k_law_source : PySem.W.keepIn K (.ref f_law_source) = true)
    (a_law_next : PySem.W.nsIn K mainGlobals "_law_next" = some (some (.ref f_law_next)))
    (l_law_next : K.lookup f_law_next = some ⟨oc_law_next, od_law_next, .func (PySem.W.fnOf "_law_next" "_law_next" (defArgs s_law_next) (defBody s_law_next) (defScope s_law_next) .none kV_law_next dc_law_next pm_law_next an_law_next cd_law_next ct_law_next), sl_law_next⟩)
    (e_law_next : PySem.W.codeIn K cd_law_next "_law_next" = true)
    (k_law_next : PySem.W.keepIn K (.ref f_law_next) = true)
    (a_law_lowered : PySem.W.nsIn K mainGlobals "_law_lowered" = some (some (.ref f_law_lowered)))
    (l_law_lowered : K.lookup f_law_lowered = some ⟨oc_law_lowered, od_law_lowered, .func (PySem.W.fnOf "_law_lowered" "_law_lowered" (defArgs s_law_lowered) (defBody s_law_lowered) (defScope s_law_lowered) .none kV_law_lowered dc_law_lowered pm_law_lowered an_law_lowered cd_law_lowered ct_law_lowered), sl_law_lowered⟩)
    (e_law_lowered : PySem.W.codeIn K cd_law_lowered "_law_lowered" = true)
    (k_law_lowered : PySem.W.keepIn K (.ref f_law_lowered) = true)
    (a_law_number : PySem.W.nsIn K mainGlobals "_law_number" = some (some (.ref f_law_number)))
    (l_law_number : K.lookup f_law_number = some ⟨oc_law_number, od_law_number, .func (PySem.W.fnOf "_law_number" "_law_number" (defArgs s_law_number) (defBody s_law_number) (defScope s_law_number) .none kV_law_number dc_law_number pm_law_number an_law_number cd_law_number ct_law_number), sl_law_number⟩)
    (e_law_number : PySem.W.codeIn K cd_law_number "_law_number" = true)
    (k_law_number : PySem.W.keepIn K (.ref f_law_number) = true)
    (a_law_refused : PySem.W.nsIn K mainGlobals "_law_refused" = some (some (.ref f_law_refused)))
    (l_law_refused : K.lookup f_law_refused = some ⟨oc_law_refused, od_law_refused, .func (PySem.W.fnOf "_law_refused" "_law_refused" (defArgs s_law_refused) (defBody s_law_refused) (defScope s_law_refused) .none kV_law_refused dc_law_refused pm_law_refused an_law_refused cd_law_refused ct_law_refused), sl_law_refused⟩)
    (e_law_refused : PySem.W.codeIn K cd_law_refused "_law_refused" = true)
    (k_law_refused : PySem.W.keepIn K (.ref f_law_refused) = true)
    (a_law_two_right : PySem.W.nsIn K mainGlobals "_law_two_right" = some (some (.ref f_law_two_right)))
    (l_law_two_right : K.lookup f_law_two_right = some ⟨oc_law_two_right, od_law_two_right, .func (PySem.W.fnOf "_law_two_right" "_law_two_right" (defArgs s_law_two_right) (defBody s_law_two_right) (defScope s_law_two_right) .none kV_law_two_right dc_law_two_right pm_law_two_right an_law_two_right cd_law_two_right ct_law_two_right), sl_law_two_right⟩)
    (e_law_two_right : PySem.W.codeIn K cd_law_two_right "_law_two_right" = true)
    (k_law_two_right : PySem.W.keepIn K (.ref f_law_two_right) = true)
    (a_law_order_right : PySem.W.nsIn K mainGlobals "_law_order_right" = some (some (.ref f_law_order_right)))
    (l_law_order_right : K.lookup f_law_order_right = some ⟨oc_law_order_right, od_law_order_right, .func (PySem.W.fnOf "_law_order_right" "_law_order_right" (defArgs s_law_order_right) (defBody s_law_order_right) (defScope s_law_order_right) .none kV_law_order_right dc_law_order_right pm_law_order_right an_law_order_right cd_law_order_right ct_law_order_right), sl_law_order_right⟩)
    (e_law_order_right : PySem.W.codeIn K cd_law_order_right "_law_order_right" = true)
    (k_law_order_right : PySem.W.keepIn K (.ref f_law_order_right) = true)
    (a_law : PySem.W.nsIn K mainGlobals "law" = some (some (.ref f_law)))
    (l_law : K.lookup f_law = some ⟨oc_law, od_law, .func (PySem.W.fnOf "law" "law" (defArgs s_law) (defBody s_law) (defScope s_law) .none kV_law dc_law pm_law an_law cd_law ct_law), sl_law⟩)
    (e_law : PySem.W.codeIn K cd_law "law" = true)
    (k_law : PySem.W.keepIn K (.ref f_law) = true)
    (n_abs : PySem.W.nsIn K mainGlobals "abs" = some none)
    (n_all : PySem.W.nsIn K mainGlobals "all" = some none)
    (n_bool : PySem.W.nsIn K mainGlobals "bool" = some none)
    (n_int : PySem.W.nsIn K mainGlobals "int" = some none)
    (n_isinstance : PySem.W.nsIn K mainGlobals "isinstance" = some none)
    (n_len : PySem.W.nsIn K mainGlobals "len" = some none)
    (n_max : PySem.W.nsIn K mainGlobals "max" = some none)
    (n_min : PySem.W.nsIn K mainGlobals "min" = some none)
    (n_range : PySem.W.nsIn K mainGlobals "range" = some none)
    (n_repr : PySem.W.nsIn K mainGlobals "repr" = some none)
    (mk_Share : PySem.W.makesIn K c_Share = true)
    (kc_Share : PySem.W.keepIn K (.ref c_Share) = true)
    (pg_Share : PySem.W.plainGet K c_Share Str.empty = true)
    (hd_Share : PySem.W.hasDictIn K c_Share = true)
    (po_Share : PySem.W.plainOver K c_Share = true)
    (sa_Share : PySem.W.findIn K (.ref c_Share) "__setattr__" = some (some (.builtin "object.__setattr__")))
    (at_Share : PySem.W.findIn K (.ref c_Share) "__class__" = some (some (.builtin "object.__class__")))
    (mr_Share : PySem.W.mroIn K c_Share (.type "object") = some true)
    (no_top_Share : PySem.W.findIn K (.ref c_Share) "top" = some none)
    (no_bottom_Share : PySem.W.findIn K (.ref c_Share) "bottom" = some none)
    (hn : PySem.W.specialIn K (.builtin "object.__class__") "__get__" = some (some (.builtin "getset_descriptor.__get__")))
    (ht : PySem.W.takesIn K (.builtin "object.__class__") = some true)
    (ic_Share : PySem.W.isClsIn K c_Share = true)
    (ty_Share : PySem.W.typeIn K (.ref c_Share) = some (.type "type"))
    (ne_Share : PySem.W.findIn K (.ref c_Share) "__ne__" = some (some (.builtin "object.__ne__")))
    (sT_Share_NoneType : PySem.W.subIn K (.type "NoneType") (.ref c_Share) = some false)
    (sF_Share_NoneType : PySem.W.subIn K (.ref c_Share) (.type "NoneType") = some false)
    (sT_Share_bool : PySem.W.subIn K (.type "bool") (.ref c_Share) = some false)
    (sF_Share_bool : PySem.W.subIn K (.ref c_Share) (.type "bool") = some false)
    (sT_Share_int : PySem.W.subIn K (.type "int") (.ref c_Share) = some false)
    (sF_Share_int : PySem.W.subIn K (.ref c_Share) (.type "int") = some false)
    (sT_Share_str : PySem.W.subIn K (.type "str") (.ref c_Share) = some false)
    (sF_Share_str : PySem.W.subIn K (.ref c_Share) (.type "str") = some false)
    (sT_Share_tuple : PySem.W.subIn K (.type "tuple") (.ref c_Share) = some false)
    (sF_Share_tuple : PySem.W.subIn K (.ref c_Share) (.type "tuple") = some false)
    (sT_Share_list : PySem.W.subIn K (.type "list") (.ref c_Share) = some false)
    (sF_Share_list : PySem.W.subIn K (.ref c_Share) (.type "list") = some false)
    (ss_Share_Share : PySem.W.subIn K (.ref c_Share) (.ref c_Share) = some true)
    (kx_NoShare : PySem.W.keepIn K (.ref x_NoShare) = true)
    (hs_NoShare : PySem.W.subIn K (.ref x_NoShare) (.type "BaseException") = some true)
    (ty_NoShare : PySem.W.typeIn K (.ref x_NoShare) = some (.type "type"))
    (ic_NoShare : PySem.W.isClsIn K x_NoShare = true)
    (ss_NoShare : PySem.W.subIn K (.ref x_NoShare) (.ref x_NoShare) = some true)
    (q_NoShare : PySem.W.excIn K x_NoShare [.type "ValueError", .type "Exception", .type "BaseException", .type "object"] "ValueError.__new__" = true) : Nonempty (Facts K mg) :=
  ⟨{ c_Share := c_Share, gc_Share := PySem.W.mg_of X G ac_Share,
     x_NoShare := x_NoShare, gx_NoShare := PySem.W.mg_of X G ax_NoShare,
     f_is_whole := f_is_whole, d_is_whole := _, F_is_whole := (⟨⟨_, _, _, _, _, _, _, _, _, _, rfl, l_is_whole, e_is_whole, .inl ⟨rfl, rfl⟩, .inl rfl⟩, k_is_whole⟩ : FunD K "is_whole" "is_whole" (defArgs s_is_whole) (defBody s_is_whole) (defScope s_is_whole) [] [] f_is_whole _), b_is_whole := FunD.bindsN (⟨⟨_, _, _, _, _, _, _, _, _, _, rfl, l_is_whole, e_is_whole, .inl ⟨rfl, rfl⟩, .inl rfl⟩, k_is_whole⟩ : FunD K "is_whole" "is_whole" (defArgs s_is_whole) (defBody s_is_whole) (defScope s_is_whole) [] [] f_is_whole _) fun _ _ _ _ _ _ us hl => match us, hl with | [_], _ => rfl, g_is_whole := PySem.W.mg_of X G a_is_whole,
     f_common_of := f_common_of, d_common_of := _, F_common_of := (⟨⟨_, _, _, _, _, _, _, _, _, _, rfl, l_common_of, e_common_of, .inl ⟨rfl, rfl⟩, .inl rfl⟩, k_common_of⟩ : FunD K "common_of" "common_of" (defArgs s_common_of) (defBody s_common_of) (defScope s_common_of) [] [] f_common_of _), b_common_of := FunD.bindsN (⟨⟨_, _, _, _, _, _, _, _, _, _, rfl, l_common_of, e_common_of, .inl ⟨rfl, rfl⟩, .inl rfl⟩, k_common_of⟩ : FunD K "common_of" "common_of" (defArgs s_common_of) (defBody s_common_of) (defScope s_common_of) [] [] f_common_of _) fun _ _ _ _ _ _ us hl => match us, hl with | [_, _], _ => rfl, g_common_of := PySem.W.mg_of X G a_common_of,
     f_Share_init := f_Share_init, d_Share_init := _, F_Share_init := (⟨⟨_, _, _, _, _, _, _, _, _, _, rfl, l_Share_init, e_Share_init, .inr ⟨by decide, T_Share_init, o_Share_init, [.int 1 t0_Share_init], n_Share_init, rfl, to_Share_init, td_Share_init, (.cons ⟨_, rfl⟩ .nil)⟩, .inl rfl⟩, k_Share_init⟩ : FunD K "__init__" "Share.__init__" (defArgs s_Share_init) (defBody s_Share_init) (defScope s_Share_init) [V.int 1] [] f_Share_init _), w_Share_init_1 := FunD.binds1 (⟨⟨_, _, _, _, _, _, _, _, _, _, rfl, l_Share_init, e_Share_init, .inr ⟨by decide, T_Share_init, o_Share_init, [.int 1 t0_Share_init], n_Share_init, rfl, to_Share_init, td_Share_init, (.cons ⟨_, rfl⟩ .nil)⟩, .inl rfl⟩, k_Share_init⟩ : FunD K "__init__" "Share.__init__" (defArgs s_Share_init) (defBody s_Share_init) (defScope s_Share_init) [V.int 1] [] f_Share_init _) 2 0 (by decide) rfl fun _ _ _ _ _ _ _ us its hu hi => match us, its, hu, hi with | [_, _], [_], _, _ => ⟨_, rfl, rfl⟩,
     w_Share_init_0 := FunD.binds1 (⟨⟨_, _, _, _, _, _, _, _, _, _, rfl, l_Share_init, e_Share_init, .inr ⟨by decide, T_Share_init, o_Share_init, [.int 1 t0_Share_init], n_Share_init, rfl, to_Share_init, td_Share_init, (.cons ⟨_, rfl⟩ .nil)⟩, .inl rfl⟩, k_Share_init⟩ : FunD K "__init__" "Share.__init__" (defArgs s_Share_init) (defBody s_Share_init) (defScope s_Share_init) [V.int 1] [] f_Share_init _) 3 1 (by decide) rfl fun _ _ _ _ _ _ _ us its hu hi => match us, its, hu, hi with | [_, _, _], [_], _, _ => ⟨_, rfl, rfl⟩, i_Share_init := a_Share_init, t_Share_init := i_Share_init,
     f_Share_eq := f_Share_eq, d_Share_eq := _, F_Share_eq := (⟨⟨_, _, _, _, _, _, _, _, _, _, rfl, l_Share_eq, e_Share_eq, .inl ⟨rfl, rfl⟩, .inl rfl⟩, k_Share_eq⟩ : FunD K "__eq__" "Share.__eq__" (defArgs s_Share_eq) (defBody s_Share_eq) (defScope s_Share_eq) [] [] f_Share_eq _), b_Share_eq := FunD.bindsN (⟨⟨_, _, _, _, _, _, _, _, _, _, rfl, l_Share_eq, e_Share_eq, .inl ⟨rfl, rfl⟩, .inl rfl⟩, k_Share_eq⟩ : FunD K "__eq__" "Share.__eq__" (defArgs s_Share_eq) (defBody s_Share_eq) (defScope s_Share_eq) [] [] f_Share_eq _) fun _ _ _ _ _ _ us hl => match us, hl with | [_, _], _ => rfl, i_Share_eq := a_Share_eq, t_Share_eq := i_Share_eq,
     f_plus := f_plus, d_plus := _, F_plus := (⟨⟨_, _, _, _, _, _, _, _, _, _, rfl, l_plus, e_plus, .inl ⟨rfl, rfl⟩, .inl rfl⟩, k_plus⟩ : FunD K "plus" "plus" (defArgs s_plus) (defBody s_plus) (defScope s_plus) [] [] f_plus _), b_plus := FunD.bindsN (⟨⟨_, _, _, _, _, _, _, _, _, _, rfl, l_plus, e_plus, .inl ⟨rfl, rfl⟩, .inl rfl⟩, k_plus⟩ : FunD K "plus" "plus" (defArgs s_plus) (defBody s_plus) (defScope s_plus) [] [] f_plus _) fun _ _ _ _ _ _ us hl => match us, hl with | [_, _], _ => rfl, g_plus := PySem.W.mg_of X G a_plus,
     f_minus := f_minus, d_minus := _, F_minus := (⟨⟨_, _, _, _, _, _, _, _, _, _, rfl, l_minus, e_minus, .inl ⟨rfl, rfl⟩, .inl rfl⟩, k_minus⟩ : FunD K "minus" "minus" (defArgs s_minus) (defBody s_minus) (defScope s_minus) [] [] f_minus _), b_minus := FunD.bindsN (⟨⟨_, _, _, _, _, _, _, _, _, _, rfl, l_minus, e_minus, .inl ⟨rfl, rfl⟩, .inl rfl⟩, k_minus⟩ : FunD K "minus" "minus" (defArgs s_minus) (defBody s_minus) (defScope s_minus) [] [] f_minus _) fun _ _ _ _ _ _ us hl => match us, hl with | [_, _], _ => rfl, g_minus := PySem.W.mg_of X G a_minus,
     f_times := f_times, d_times := _, F_times := (⟨⟨_, _, _, _, _, _, _, _, _, _, rfl, l_times, e_times, .inl ⟨rfl, rfl⟩, .inl rfl⟩, k_times⟩ : FunD K "times" "times" (defArgs s_times) (defBody s_times) (defScope s_times) [] [] f_times _), b_times := FunD.bindsN (⟨⟨_, _, _, _, _, _, _, _, _, _, rfl, l_times, e_times, .inl ⟨rfl, rfl⟩, .inl rfl⟩, k_times⟩ : FunD K "times" "times" (defArgs s_times) (defBody s_times) (defScope s_times) [] [] f_times _) fun _ _ _ _ _ _ us hl => match us, hl with | [_, _], _ => rfl, g_times := PySem.W.mg_of X G a_times,
     f_over := f_over, d_over := _, F_over := (⟨⟨_, _, _, _, _, _, _, _, _, _, rfl, l_over, e_over, .inl ⟨rfl, rfl⟩, .inl rfl⟩, k_over⟩ : FunD K "over" "over" (defArgs s_over) (defBody s_over) (defScope s_over) [] [] f_over _), b_over := FunD.bindsN (⟨⟨_, _, _, _, _, _, _, _, _, _, rfl, l_over, e_over, .inl ⟨rfl, rfl⟩, .inl rfl⟩, k_over⟩ : FunD K "over" "over" (defArgs s_over) (defBody s_over) (defScope s_over) [] [] f_over _) fun _ _ _ _ _ _ us hl => match us, hl with | [_, _], _ => rfl, g_over := PySem.W.mg_of X G a_over,
     f_less := f_less, d_less := _, F_less := (⟨⟨_, _, _, _, _, _, _, _, _, _, rfl, l_less, e_less, .inl ⟨rfl, rfl⟩, .inl rfl⟩, k_less⟩ : FunD K "less" "less" (defArgs s_less) (defBody s_less) (defScope s_less) [] [] f_less _), b_less := FunD.bindsN (⟨⟨_, _, _, _, _, _, _, _, _, _, rfl, l_less, e_less, .inl ⟨rfl, rfl⟩, .inl rfl⟩, k_less⟩ : FunD K "less" "less" (defArgs s_less) (defBody s_less) (defScope s_less) [] [] f_less _) fun _ _ _ _ _ _ us hl => match us, hl with | [_, _], _ => rfl, g_less := PySem.W.mg_of X G a_less,
     f_law_cell_at := f_law_cell_at, d_law_cell_at := _, F_law_cell_at := (⟨⟨_, _, _, _, _, _, _, _, _, _, rfl, l_law_cell_at, e_law_cell_at, .inl ⟨rfl, rfl⟩, .inl rfl⟩, k_law_cell_at⟩ : FunD K "_law_cell_at" "_law_cell_at" (defArgs s_law_cell_at) (defBody s_law_cell_at) (defScope s_law_cell_at) [] [] f_law_cell_at _), b_law_cell_at := FunD.bindsN (⟨⟨_, _, _, _, _, _, _, _, _, _, rfl, l_law_cell_at, e_law_cell_at, .inl ⟨rfl, rfl⟩, .inl rfl⟩, k_law_cell_at⟩ : FunD K "_law_cell_at" "_law_cell_at" (defArgs s_law_cell_at) (defBody s_law_cell_at) (defScope s_law_cell_at) [] [] f_law_cell_at _) fun _ _ _ _ _ _ us hl => match us, hl with | [_, _], _ => rfl, g_law_cell_at := PySem.W.mg_of X G a_law_cell_at,
     f_law_mixed := f_law_mixed, d_law_mixed := _, F_law_mixed := (⟨⟨_, _, _, _, _, _, _, _, _, _, rfl, l_law_mixed, e_law_mixed, .inl ⟨rfl, rfl⟩, .inl rfl⟩, k_law_mixed⟩ : FunD K "_law_mixed" "_law_mixed" (defArgs s_law_mixed) (defBody s_law_mixed) (defScope s_law_mixed) [] [] f_law_mixed _), b_law_mixed := FunD.bindsN (⟨⟨_, _, _, _, _, _, _, _, _, _, rfl, l_law_mixed, e_law_mixed, .inl ⟨rfl, rfl⟩, .inl rfl⟩, k_law_mixed⟩ : FunD K "_law_mixed" "_law_mixed" (defArgs s_law_mixed) (defBody s_law_mixed) (defScope s_law_mixed) [] [] f_law_mixed _) fun _ _ _ _ _ _ us hl => match us, hl with | [_, _], _ => rfl, g_law_mixed := PySem.W.mg_of X G a_law_mixed,
     f_law_source := f_law_source, d_law_source := _, F_law_source := (⟨⟨_, _, _, _, _, _, _, _, _, _, rfl, l_law_source, e_law_source, .inl ⟨rfl, rfl⟩, .inl rfl⟩, k_law_source⟩ : FunD K "_law_source" "_law_source" (defArgs s_law_source) (defBody s_law_source) (defScope s_law_source) [] [] f_law_source _), b_law_source := FunD.bindsN (⟨⟨_, _, _, _, _, _, _, _, _, _, rfl, l_law_source, e_law_source, .inl ⟨rfl, rfl⟩, .inl rfl⟩, k_law_source⟩ : FunD K "_law_source" "_law_source" (defArgs s_law_source) (defBody s_law_source) (defScope s_law_source) [] [] f_law_source _) fun _ _ _ _ _ _ us hl => match us, hl with | [_, _], _ => rfl, g_law_source := PySem.W.mg_of X G a_law_source,
     f_law_next := f_law_next, d_law_next := _, F_law_next := (⟨⟨_, _, _, _, _, _, _, _, _, _, rfl, l_law_next, e_law_next, .inl ⟨rfl, rfl⟩, .inl rfl⟩, k_law_next⟩ : FunD K "_law_next" "_law_next" (defArgs s_law_next) (defBody s_law_next) (defScope s_law_next) [] [] f_law_next _), b_law_next := FunD.bindsN (⟨⟨_, _, _, _, _, _, _, _, _, _, rfl, l_law_next, e_law_next, .inl ⟨rfl, rfl⟩, .inl rfl⟩, k_law_next⟩ : FunD K "_law_next" "_law_next" (defArgs s_law_next) (defBody s_law_next) (defScope s_law_next) [] [] f_law_next _) fun _ _ _ _ _ _ us hl => match us, hl with | [_, _], _ => rfl, g_law_next := PySem.W.mg_of X G a_law_next,
     f_law_lowered := f_law_lowered, d_law_lowered := _, F_law_lowered := (⟨⟨_, _, _, _, _, _, _, _, _, _, rfl, l_law_lowered, e_law_lowered, .inl ⟨rfl, rfl⟩, .inl rfl⟩, k_law_lowered⟩ : FunD K "_law_lowered" "_law_lowered" (defArgs s_law_lowered) (defBody s_law_lowered) (defScope s_law_lowered) [] [] f_law_lowered _), b_law_lowered := FunD.bindsN (⟨⟨_, _, _, _, _, _, _, _, _, _, rfl, l_law_lowered, e_law_lowered, .inl ⟨rfl, rfl⟩, .inl rfl⟩, k_law_lowered⟩ : FunD K "_law_lowered" "_law_lowered" (defArgs s_law_lowered) (defBody s_law_lowered) (defScope s_law_lowered) [] [] f_law_lowered _) fun _ _ _ _ _ _ us hl => match us, hl with | [_, _], _ => rfl, g_law_lowered := PySem.W.mg_of X G a_law_lowered,
     f_law_number := f_law_number, d_law_number := _, F_law_number := (⟨⟨_, _, _, _, _, _, _, _, _, _, rfl, l_law_number, e_law_number, .inl ⟨rfl, rfl⟩, .inl rfl⟩, k_law_number⟩ : FunD K "_law_number" "_law_number" (defArgs s_law_number) (defBody s_law_number) (defScope s_law_number) [] [] f_law_number _), b_law_number := FunD.bindsN (⟨⟨_, _, _, _, _, _, _, _, _, _, rfl, l_law_number, e_law_number, .inl ⟨rfl, rfl⟩, .inl rfl⟩, k_law_number⟩ : FunD K "_law_number" "_law_number" (defArgs s_law_number) (defBody s_law_number) (defScope s_law_number) [] [] f_law_number _) fun _ _ _ _ _ _ us hl => match us, hl with | [_], _ => rfl, g_law_number := PySem.W.mg_of X G a_law_number,
     f_law_refused := f_law_refused, d_law_refused := _, F_law_refused := (⟨⟨_, _, _, _, _, _, _, _, _, _, rfl, l_law_refused, e_law_refused, .inl ⟨rfl, rfl⟩, .inl rfl⟩, k_law_refused⟩ : FunD K "_law_refused" "_law_refused" (defArgs s_law_refused) (defBody s_law_refused) (defScope s_law_refused) [] [] f_law_refused _), b_law_refused := FunD.bindsN (⟨⟨_, _, _, _, _, _, _, _, _, _, rfl, l_law_refused, e_law_refused, .inl ⟨rfl, rfl⟩, .inl rfl⟩, k_law_refused⟩ : FunD K "_law_refused" "_law_refused" (defArgs s_law_refused) (defBody s_law_refused) (defScope s_law_refused) [] [] f_law_refused _) fun _ _ _ _ _ _ us hl => match us, hl with | [_], _ => rfl, g_law_refused := PySem.W.mg_of X G a_law_refused,
     f_law_two_right := f_law_two_right, d_law_two_right := _, F_law_two_right := (⟨⟨_, _, _, _, _, _, _, _, _, _, rfl, l_law_two_right, e_law_two_right, .inl ⟨rfl, rfl⟩, .inl rfl⟩, k_law_two_right⟩ : FunD K "_law_two_right" "_law_two_right" (defArgs s_law_two_right) (defBody s_law_two_right) (defScope s_law_two_right) [] [] f_law_two_right _), b_law_two_right := FunD.bindsN (⟨⟨_, _, _, _, _, _, _, _, _, _, rfl, l_law_two_right, e_law_two_right, .inl ⟨rfl, rfl⟩, .inl rfl⟩, k_law_two_right⟩ : FunD K "_law_two_right" "_law_two_right" (defArgs s_law_two_right) (defBody s_law_two_right) (defScope s_law_two_right) [] [] f_law_two_right _) fun _ _ _ _ _ _ us hl => match us, hl with | [_, _], _ => rfl, g_law_two_right := PySem.W.mg_of X G a_law_two_right,
     f_law_order_right := f_law_order_right, d_law_order_right := _, F_law_order_right := (⟨⟨_, _, _, _, _, _, _, _, _, _, rfl, l_law_order_right, e_law_order_right, .inl ⟨rfl, rfl⟩, .inl rfl⟩, k_law_order_right⟩ : FunD K "_law_order_right" "_law_order_right" (defArgs s_law_order_right) (defBody s_law_order_right) (defScope s_law_order_right) [] [] f_law_order_right _), b_law_order_right := FunD.bindsN (⟨⟨_, _, _, _, _, _, _, _, _, _, rfl, l_law_order_right, e_law_order_right, .inl ⟨rfl, rfl⟩, .inl rfl⟩, k_law_order_right⟩ : FunD K "_law_order_right" "_law_order_right" (defArgs s_law_order_right) (defBody s_law_order_right) (defScope s_law_order_right) [] [] f_law_order_right _) fun _ _ _ _ _ _ us hl => match us, hl with | [_], _ => rfl, g_law_order_right := PySem.W.mg_of X G a_law_order_right,
     f_law := f_law, d_law := _, F_law := (⟨⟨_, _, _, _, _, _, _, _, _, _, rfl, l_law, e_law, .inl ⟨rfl, rfl⟩, .inl rfl⟩, k_law⟩ : FunD K "law" "law" (defArgs s_law) (defBody s_law) (defScope s_law) [] [] f_law _), b_law := FunD.bindsN (⟨⟨_, _, _, _, _, _, _, _, _, _, rfl, l_law, e_law, .inl ⟨rfl, rfl⟩, .inl rfl⟩, k_law⟩ : FunD K "law" "law" (defArgs s_law) (defBody s_law) (defScope s_law) [] [] f_law _) fun _ _ _ _ _ _ us hl => match us, hl with | [_], _ => rfl, g_law := PySem.W.mg_of X G a_law,
     bl := fun s u => .of_eq rfl,
     n_abs := PySem.W.mg_none_of X G n_abs,
     n_all := PySem.W.mg_none_of X G n_all,
     n_bool := PySem.W.mg_none_of X G n_bool,
     n_int := PySem.W.mg_none_of X G n_int,
     n_isinstance := PySem.W.mg_none_of X G n_isinstance,
     n_len := PySem.W.mg_none_of X G n_len,
     n_max := PySem.W.mg_none_of X G n_max,
     n_min := PySem.W.mg_none_of X G n_min,
     n_range := PySem.W.mg_none_of X G n_range,
     n_repr := PySem.W.mg_none_of X G n_repr,
     mk_Share := mk_Share,
     kc_Share := kc_Share,
     pg_Share := pg_Share,
     hd_Share := hd_Share,
     po_Share := po_Share,
     sa_Share := sa_Share,
     at_Share := at_Share,
     mr_Share := mr_Share,
     no_top_Share := no_top_Share,
     no_bottom_Share := no_bottom_Share,
     hn := hn,
     ht := ht,
     ic_Share := ic_Share,
     ty_Share := ty_Share,
     ne_Share := ne_Share,
     sT_Share_NoneType := sT_Share_NoneType,
     sF_Share_NoneType := sF_Share_NoneType,
     sT_Share_bool := sT_Share_bool,
     sF_Share_bool := sF_Share_bool,
     sT_Share_int := sT_Share_int,
     sF_Share_int := sF_Share_int,
     sT_Share_str := sT_Share_str,
     sF_Share_str := sF_Share_str,
     sT_Share_tuple := sT_Share_tuple,
     sF_Share_tuple := sF_Share_tuple,
     sT_Share_list := sT_Share_list,
     sF_Share_list := sF_Share_list,
     ss_Share_Share := ss_Share_Share,
     kx_NoShare := kx_NoShare,
     hs_NoShare := hs_NoShare,
     ty_NoShare := ty_NoShare,
     ic_NoShare := ic_NoShare,
     ss_NoShare := ss_NoShare,
     q_NoShare := q_NoShare }⟩
/-! ### fractions -/
/-- in lowest terms -/
def lw (a b : Int) : Int × Int := (a.fdiv (Int.gcd a b : Int), b.fdiv (Int.gcd a b : Int))
def sh (q : Int × Int) : PV := .obj 0 [.int q.1, .int q.2]
def pr (q : Int × Int) : PV := .tup [.int q.1, .int q.2]
theorem bel_sh (n : Nat) (q : Int × Int) : bel n (sh q) = true := rfl
theorem bel_pr (n : Nat) (q : Int × Int) : bel n (pr q) = true := rfl
theorem gcd_step (a b : Int) : Int.gcd b (a.fmod b) = Int.gcd a b := by
  have h : a.fmod b = a + b * (- a.fdiv b) := by
    have := Int.mul_fdiv_add_fmod a b
    rw [Int.mul_neg]
    omega
  rw [h, Int.gcd_add_mul_left_right, Int.gcd_comm]
theorem fmod_lt (a : Int) {b : Int} (h : b ≠ 0) : (a.fmod b).natAbs < b.natAbs := by
  rw [Int.fmod_eq_emod]
  have h1 := Int.emod_nonneg a h
  have h2 := Int.emod_lt a h
  split
  · omega
  · rename_i hn
    have h3 : a % b ≠ 0 := fun z => hn (.inr (Int.dvd_of_emod_eq_zero z))
    omega
theorem okMod_ne {a b : Int} (h : b ≠ 0) : okMod a b = true := decide_eq_true h
theorem common_ok (a b : Int) (p : Pool) (hb : b.natAbs < fuel) : m_common_of [.int a, .int b] p = .ok (.int (Int.gcd a b : Int)) p := by
  obtain ⟨en2, p2, e, x, hx, rfl, hp⟩ := loopW_inv (t := mB (mBin pNe (mVar 1) (mC (.int 0)))) (body := sPar 0 1 (mCons (mVar 1) (mCons (mBin pMod (mVar 0) (mVar 1)) mNil)))
    (fun n en q => ∃ x y : Int, en = ⟨p.length, [some (.int x), some (.int y)]⟩ ∧ q = p ∧ Int.gcd x y = Int.gcd a b ∧ n = y.natAbs)
    (fun en q => ∃ x : Int, x.natAbs = Int.gcd a b ∧ en = ⟨p.length, [some (.int x), some (.int 0)]⟩ ∧ q = p) (fun n en q h => by
      obtain ⟨x, y, rfl, rfl, hg, rfl⟩ := h
      refine ⟨!decide (y = 0), q, ?_, ?_⟩
      · simp only [fnM, fnO, sSeq, sAsg, sIf, sRet, sNop, sSet, sExpr, mBin, mB, mVar, mC, mCall, mCons, mNil, mTup, mLst, mLstO, mFn, mAnd, mOr, mNot, mNeg, mIsi, mYes, itS, itE, itR1, tgN, tgT, tgCons, tgNil, mSl, oNo, oYes, Res.bind, Res.run, Ctl.andThen, En.set, En.sets, f2I, f2C, wipeE, pAdd, pSub, pMul, pDiv, pMod, pPow, pLt, pLe, pGt, pGe, pIx, cLen, cInt, List.map_cons, List.map_nil, List.length_cons, List.length_nil, List.replicate, List.append_nil, List.nil_append, List.cons_append, List.getElem?_cons_zero, List.getElem?_cons_succ, List.set_cons_zero, List.set_cons_succ, List.take_length, get_last, set_last, take_last, take_all1, len1, getL, getR, getQ, mAndV, mOrV, mNotV, mNeg, iniM, fnA, mIf, mChain, sPar, tyP, isT, pEq_int, pNe_int, pIx, cAbs, cMax, cMin, mFld, getF, R.sFld, put0, put1, put2, may_int, thaw_int, thaw_bl, thaw_non, if_true, Bool.not_true, Bool.not_false, atI_0, atI_1, atI_2, atI_3, ixN_30, ixN_31, ixN_32, R.sIx, take_set, Bool.false_eq_true, if_false]
      by_cases hy : y = 0
      · subst hy
        refine .inl ⟨rfl, x, ?_, rfl, rfl⟩
        rw [← hg, Int.gcd_zero_right]
      · refine .inr ⟨by rw [decide_eq_false hy]; rfl, ⟨q.length, [some (.int y), some (.int (x.fmod y))]⟩, q, (x.fmod y).natAbs, ?_, fmod_lt x hy, y, x.fmod y, rfl, rfl, (gcd_step x y).trans hg, rfl⟩
        have e1 := okMod_ne (a := x) hy
        simp only [fnM, fnO, sSeq, sAsg, sIf, sRet, sNop, sSet, sExpr, mBin, mB, mVar, mC, mCall, mCons, mNil, mTup, mLst, mLstO, mFn, mAnd, mOr, mNot, mNeg, mIsi, mYes, itS, itE, itR1, tgN, tgT, tgCons, tgNil, mSl, oNo, oYes, Res.bind, Res.run, Ctl.andThen, En.set, En.sets, f2I, f2C, wipeE, pAdd, pSub, pMul, pDiv, pMod, pPow, pLt, pLe, pGt, pGe, pIx, cLen, cInt, List.map_cons, List.map_nil, List.length_cons, List.length_nil, List.replicate, List.append_nil, List.nil_append, List.cons_append, List.getElem?_cons_zero, List.getElem?_cons_succ, List.set_cons_zero, List.set_cons_succ, List.take_length, get_last, set_last, take_last, take_all1, len1, getL, getR, getQ, mAndV, mOrV, mNotV, mNeg, iniM, fnA, mIf, mChain, sPar, tyP, isT, pEq_int, pNe_int, pIx, cAbs, cMax, cMin, mFld, getF, R.sFld, put0, put1, put2, may_int, thaw_int, thaw_bl, thaw_non, if_true, Bool.not_true, Bool.not_false, atI_0, atI_1, atI_2, atI_3, ixN_30, ixN_31, ixN_32, R.sIx, take_set, Bool.false_eq_true, if_false, e1]
      )
    fuel b.natAbs ⟨p.length, [some (.int a), some (.int b)]⟩ p hb ⟨a, b, rfl, rfl, rfl, rfl⟩
  subst hp
  unfold m_common_of
  have h : b_common_of ⟨p2.length, [PV.int a, PV.int b].map some ++ List.replicate (2 - [PV.int a, PV.int b].length) none⟩ p2 = .ret (.int (Int.gcd a b : Int)) p2 := by
    show sSeq (loopW _ _ fuel) _ ⟨p2.length, [some (.int a), some (.int b)]⟩ p2 = _
    unfold sSeq
    rw [e]
    simp only [fnM, fnO, sSeq, sAsg, sIf, sRet, sNop, sSet, sExpr, mBin, mB, mVar, mC, mCall, mCons, mNil, mTup, mLst, mLstO, mFn, mAnd, mOr, mNot, mNeg, mIsi, mYes, itS, itE, itR1, tgN, tgT, tgCons, tgNil, mSl, oNo, oYes, Res.bind, Res.run, Ctl.andThen, En.set, En.sets, f2I, f2C, wipeE, pAdd, pSub, pMul, pDiv, pMod, pPow, pLt, pLe, pGt, pGe, pIx, cLen, cInt, List.map_cons, List.map_nil, List.length_cons, List.length_nil, List.replicate, List.append_nil, List.nil_append, List.cons_append, List.getElem?_cons_zero, List.getElem?_cons_succ, List.set_cons_zero, List.set_cons_succ, List.take_length, get_last, set_last, take_last, take_all1, len1, getL, getR, getQ, mAndV, mOrV, mNotV, mNeg, iniM, fnA, mIf, mChain, sPar, tyP, isT, pEq_int, pNe_int, pIx, cAbs, cMax, cMin, mFld, getF, R.sFld, put0, put1, put2, may_int, thaw_int, thaw_bl, thaw_non, if_true, Bool.not_true, Bool.not_false, atI_0, atI_1, atI_2, atI_3, ixN_30, ixN_31, ixN_32, R.sIx, take_set, Bool.false_eq_true, if_false]
    have h2 : (if x < 0 then -x else x) = (Int.gcd a b : Int) := by
      rw [← hx]
      split <;> omega
    rw [h2]
  rw [fnM_ret h (thaw_bel rfl), List.take_length]
theorem whole_ok (a : Int) (p : Pool) : m_is_whole [.int a] p = .ok (.bl true) p := by
  have h : m_is_whole [.int a] p = .ok (.bl true) (p.take p.length) := rfl
  rw [h, List.take_length]
theorem fuel_pos : (0 : Nat) < 2 ^ 4000 := Nat.two_pow_pos 4000
theorem gcd_pos {a b : Int} (h : b ≠ 0) : 0 < (Int.gcd a b : Int) := by
  have : 0 < Int.gcd a b := Int.gcd_pos_iff.mpr (.inr h)
  omega
theorem gcd_le {a b : Int} (h : b ≠ 0) : Int.gcd a b ≤ b.natAbs := Nat.le_of_dvd (by omega) (Nat.gcd_dvd_right _ _)
theorem okDiv_gcd {a b x : Int} (h : b ≠ 0) (hb : b.natAbs < fuel) : okDiv x (Int.gcd a b : Int) = true := by
  have h1 := gcd_pos (a := a) h
  have h2 := gcd_le (a := a) h
  refine decide_eq_true ⟨by omega, .inr ⟨h1, ?_⟩⟩
  have h3 : ((Int.gcd a b : Int)).natAbs < 2 ^ 4000 := by rw [Int.natAbs_natCast]; exact Nat.lt_of_le_of_lt h2 (show b.natAbs < 2 ^ 4000 from hb)
  have h4 := (Nat.log2_lt (n := ((Int.gcd a b : Int)).natAbs) (k := 4000) (by omega)).mpr h3
  omega
theorem okMul_of {a b : Int} (ha : a.natAbs < fuel) (hb : b.natAbs < fuel) : okMul a b = true := by
  refine decide_eq_true (.inr ?_)
  have l : ∀ n : Nat, n < 2 ^ 4000 → n.log2 < 4001 := fun n h => by
    by_cases hn : n = 0
    · subst hn
      decide
    · have := (Nat.log2_lt (n := n) (k := 4000) hn).mpr h
      omega
  have h1 := l _ ha
  have h2 := l _ hb
  clear ha hb l
  omega
theorem less_ok (q r : Int × Int) (p : Pool) (h1 : q.1.natAbs < fuel) (h2 : q.2.natAbs < fuel) (h3 : r.1.natAbs < fuel) (h4 : r.2.natAbs < fuel) : m_less [sh q, sh r] p = .ok (.bl (decide (q.1 * r.2 < r.1 * q.2))) p := by
  have e1 := okMul_of h1 h4
  have e2 := okMul_of h3 h2
  unfold m_less b_less sh
  simp only [fnM, fnO, sSeq, sAsg, sIf, sRet, sNop, sSet, sExpr, mBin, mB, mVar, mC, mCall, mCons, mNil, mTup, mLst, mLstO, mFn, mAnd, mOr, mNot, mNeg, mIsi, mYes, itS, itE, itR1, tgN, tgT, tgCons, tgNil, mSl, oNo, oYes, Res.bind, Res.run, Ctl.andThen, En.set, En.sets, f2I, f2C, wipeE, pAdd, pSub, pMul, pDiv, pMod, pPow, pLt, pLe, pGt, pGe, pIx, cLen, cInt, List.map_cons, List.map_nil, List.length_cons, List.length_nil, List.replicate, List.append_nil, List.nil_append, List.cons_append, List.getElem?_cons_zero, List.getElem?_cons_succ, List.set_cons_zero, List.set_cons_succ, List.take_length, get_last, set_last, take_last, take_all1, len1, getL, getR, getQ, mAndV, mOrV, mNotV, mNeg, iniM, fnA, mIf, mChain, sPar, tyP, isT, pEq_int, pNe_int, pIx, cAbs, cMax, cMin, mFld, getF, R.sFld, put0, put1, put2, may_int, thaw_int, thaw_bl, thaw_non, if_true, Bool.not_true, Bool.not_false, atI_0, atI_1, atI_2, atI_3, ixN_30, ixN_31, ixN_32, R.sIx, take_set, Bool.false_eq_true, if_false, e1, e2]
/-- small enough to reckon with -/
structure Fr (q : Int × Int) : Prop where
  pos : 0 < q.2
  s1 : q.1.natAbs < 2 ^ 1900
  s2 : q.2.natAbs < 2 ^ 1900
def qadd (q r : Int × Int) : Int × Int := lw (q.1 * r.2 + r.1 * q.2) (q.2 * r.2)
def qmul (q r : Int × Int) : Int × Int := lw (q.1 * r.1) (q.2 * r.2)
def qlt (q r : Int × Int) : Bool := decide (q.1 * r.2 < r.1 * q.2)
theorem pow_fuel {n : Nat} (h : n < 2 ^ 1900) : n < fuel := Nat.lt_trans h (Nat.pow_lt_pow_right (by decide) (by decide : 1900 < 4000))
theorem mul_fuel {a b : Int} (h1 : a.natAbs < 2 ^ 1900) (h2 : b.natAbs < 2 ^ 1900) : (a * b).natAbs < fuel := by
  rw [Int.natAbs_mul]
  have h3 : a.natAbs * b.natAbs < 2 ^ 1900 * 2 ^ 1900 := Nat.mul_lt_mul'' h1 h2
  rw [← Nat.pow_add] at h3
  exact Nat.lt_trans h3 (Nat.pow_lt_pow_right (by decide) (by decide : 1900 + 1900 < 4000))
theorem less_q {q r : Int × Int} (p : Pool) (a : Fr q) (b : Fr r) : m_less [sh q, sh r] p = .ok (.bl (qlt q r)) p :=
  less_ok q r p (pow_fuel a.s1) (pow_fuel a.s2) (pow_fuel b.s1) (pow_fuel b.s2)
theorem abs_eq (a : Int) : (if a < 0 then -a else a) = (a.natAbs : Int) := by split <;> omega
theorem mixed_ok (c k : Int) (p : Pool) : ∃ d : Int, m_law_mixed [.int c, .int k] p = .ok (.int d) p := by
  have e1 : ∀ x, okMod x 2147483629 = true := fun _ => rfl
  have e2 : ∀ x, okMod x 2147483587 = true := fun _ => rfl
  have e3 : ∀ x, okMod x 2147483563 = true := fun _ => rfl
  have e4 : ∀ x, okDiv x 2147483629 = true := fun _ => by
    unfold okDiv
    exact decide_eq_true ⟨by decide, .inr ⟨by decide, by decide⟩⟩
  have e5 : ∀ x, okDiv x 907 = true := fun _ => rfl
  have e6 : ∀ x, okDiv x 1201 = true := fun _ => rfl
  have e7 : ∀ x, okMul x 30011 = true := fun _ => decide_eq_true (.inl (.inr (by decide)))
  have e8 : ∀ x, okMul 69621 x = true := fun _ => decide_eq_true (.inl (.inl (by decide)))
  have e9 : ∀ x, okMul x 48271 = true := fun _ => decide_eq_true (.inl (.inr (by decide)))
  have f1 : ∀ x y : Int, okMul (x.fmod 2147483629) y = true := fun x y => by
    have h1 := Int.fmod_nonneg_of_pos x (b := 2147483629) (by decide)
    have h2 := Int.fmod_lt_of_pos x (b := 2147483629) (by decide)
    exact decide_eq_true (.inl (.inl (by omega)))
  have f2 : ∀ x y : Int, okMul (x.fmod 2147483587) y = true := fun x y => by
    have h1 := Int.fmod_nonneg_of_pos x (b := 2147483587) (by decide)
    have h2 := Int.fmod_lt_of_pos x (b := 2147483587) (by decide)
    exact decide_eq_true (.inl (.inl (by omega)))
  unfold m_law_mixed b_law_mixed
  simp only [fnM, fnO, sSeq, sAsg, sIf, sRet, sNop, sSet, sExpr, mBin, mB, mVar, mC, mCall, mCons, mNil, mTup, mLst, mLstO, mFn, mAnd, mOr, mNot, mNeg, mIsi, mYes, itS, itE, itR1, tgN, tgT, tgCons, tgNil, mSl, oNo, oYes, Res.bind, Res.run, Ctl.andThen, En.set, En.sets, f2I, f2C, wipeE, pAdd, pSub, pMul, pDiv, pMod, pPow, pLt, pLe, pGt, pGe, pIx, cLen, cInt, List.map_cons, List.map_nil, List.length_cons, List.length_nil, List.replicate, List.append_nil, List.nil_append, List.cons_append, List.getElem?_cons_zero, List.getElem?_cons_succ, List.set_cons_zero, List.set_cons_succ, List.take_length, get_last, set_last, take_last, take_all1, len1, getL, getR, getQ, mAndV, mOrV, mNotV, mNeg, iniM, fnA, mIf, mChain, sPar, tyP, isT, pEq_int, pNe_int, pIx, cAbs, cMax, cMin, mFld, getF, R.sFld, put0, put1, put2, may_int, thaw_int, thaw_bl, thaw_non, if_true, Bool.not_true, Bool.not_false, atI_0, atI_1, atI_2, atI_3, ixN_30, ixN_31, ixN_32, R.sIx, take_set, Bool.false_eq_true, if_false, e1, e2, e3, e4, e5, e6, e7, e8, e9, f1, f2]
  exact ⟨_, rfl⟩
/-- a source's cell -/
def IsSrc (s : Cell) : Prop := ∃ a b c : Int, s = .lst [.int a, .int b, .int c]
def Src (p : Pool) (k : Nat) : Prop := ∃ s, p[k]? = some s ∧ IsSrc s
theorem Src.lt {p : Pool} {k : Nat} (h : Src p k) : k < p.length := by
  obtain ⟨s, e, _⟩ := h
  exact (List.getElem?_eq_some_iff.mp e).1
theorem Src.set {p : Pool} {k : Nat} (h : Src p k) {s : Cell} (hs : IsSrc s) : Src (p.set k s) k := ⟨s, List.getElem?_set_self h.lt, hs⟩
theorem next_ok (p : Pool) (k : Nat) (many : Int) (h : Src p k) (h1 : 0 < many) (h2 : many < 2 ^ 200) : ∃ (d : Int) (s : Cell), m_law_next [.own k, .int many] p = .ok (.int d) (p.set k s) ∧ IsSrc s ∧ 0 ≤ d ∧ d < many := by
  have hl := h.lt
  obtain ⟨_, hk, a, b, c, rfl⟩ := h
  have g1 : ∀ c : Cell, (p.set k c)[k]? = some c := fun c => List.getElem?_set_self hl
  have em : ∀ x, okMod x many = true := fun x => decide_eq_true (by omega)
  have ed : ∀ x, okDiv x many = true := fun x => by
    refine decide_eq_true ⟨by omega, .inr ⟨h1, ?_⟩⟩
    have := (Nat.log2_lt (n := many.natAbs) (k := 200) (by omega)).mpr (by omega)
    omega
  have ep : okPow 10 18 = true := rfl
  by_cases h : (10 : Int) ^ (18 : Int).toNat ≤ a
  · have eh : decide ((10 : Int) ^ (18 : Int).toNat ≤ a) = true := decide_eq_true h
    refine ⟨a.fmod many, .lst [.int (a.fdiv many), .int b, .int c], ?_, ⟨_, _, _, rfl⟩, Int.fmod_nonneg_of_pos _ h1, Int.fmod_lt_of_pos _ h1⟩
    unfold m_law_next b_law_next
    simp only [fnM, fnO, sSeq, sAsg, sIf, sRet, sNop, sSet, sExpr, mBin, mB, mVar, mC, mCall, mCons, mNil, mTup, mLst, mLstO, mFn, mAnd, mOr, mNot, mNeg, mIsi, mYes, itS, itE, itR1, tgN, tgT, tgCons, tgNil, mSl, oNo, oYes, Res.bind, Res.run, Ctl.andThen, En.set, En.sets, f2I, f2C, wipeE, pAdd, pSub, pMul, pDiv, pMod, pPow, pLt, pLe, pGt, pGe, pIx, cLen, cInt, List.map_cons, List.map_nil, List.length_cons, List.length_nil, List.replicate, List.append_nil, List.nil_append, List.cons_append, List.getElem?_cons_zero, List.getElem?_cons_succ, List.set_cons_zero, List.set_cons_succ, List.take_length, get_last, set_last, take_last, take_all1, len1, getL, getR, getQ, mAndV, mOrV, mNotV, mNeg, iniM, fnA, mIf, mChain, sPar, tyP, isT, pEq_int, pNe_int, pIx, cAbs, cMax, cMin, mFld, getF, R.sFld, put0, put1, put2, may_int, thaw_int, thaw_bl, thaw_non, if_true, Bool.not_true, Bool.not_false, atI_0, atI_1, atI_2, atI_3, ixN_30, ixN_31, ixN_32, R.sIx, take_set, Bool.false_eq_true, if_false, hk, g1, em, ed, eh, ep]
  · have eh : decide ((10 : Int) ^ (18 : Int).toNat ≤ a) = false := decide_eq_false h
    obtain ⟨d, hd⟩ : ∃ d : Int, m_law_mixed [.int b, .int (c + 1)] (p.set k (.lst [.int a, .int b, .int (c + 1)])) = .ok (.int d) _ := mixed_ok b (c + 1) _
    refine ⟨d.fmod many, .lst [.int a, .int b, .int (c + 1)], ?_, ⟨_, _, _, rfl⟩, Int.fmod_nonneg_of_pos _ h1, Int.fmod_lt_of_pos _ h1⟩
    unfold m_law_next b_law_next
    simp only [fnM, fnO, sSeq, sAsg, sIf, sRet, sNop, sSet, sExpr, mBin, mB, mVar, mC, mCall, mCons, mNil, mTup, mLst, mLstO, mFn, mAnd, mOr, mNot, mNeg, mIsi, mYes, itS, itE, itR1, tgN, tgT, tgCons, tgNil, mSl, oNo, oYes, Res.bind, Res.run, Ctl.andThen, En.set, En.sets, f2I, f2C, wipeE, pAdd, pSub, pMul, pDiv, pMod, pPow, pLt, pLe, pGt, pGe, pIx, cLen, cInt, List.map_cons, List.map_nil, List.length_cons, List.length_nil, List.replicate, List.append_nil, List.nil_append, List.cons_append, List.getElem?_cons_zero, List.getElem?_cons_succ, List.set_cons_zero, List.set_cons_succ, List.take_length, get_last, set_last, take_last, take_all1, len1, getL, getR, getQ, mAndV, mOrV, mNotV, mNeg, iniM, fnA, mIf, mChain, sPar, tyP, isT, pEq_int, pNe_int, pIx, cAbs, cMax, cMin, mFld, getF, R.sFld, put0, put1, put2, may_int, thaw_int, thaw_bl, thaw_non, if_true, Bool.not_true, Bool.not_false, atI_0, atI_1, atI_2, atI_3, ixN_30, ixN_31, ixN_32, R.sIx, take_set, Bool.false_eq_true, if_false, hk, g1, em, ed, eh, ep, hd]
theorem getL_len {p : Pool} {x : PV} {xs : List PV} (e : getQ p x = some xs) : cLen [x] p = .ok (.int xs.length) p := by
  unfold cLen
  dsimp only
  rw [e]
theorem source_ok (ns : List Int) (k : Nat) (p : Pool) : ∃ s, m_law_source [.scr ns, .int k] p = .ok (.own p.length) (p ++ [s]) ∧ IsSrc s := by
  have hb : ∀ a b c : Int, bels p.length [.int a, .int b, .int c] = true := fun _ _ _ => rfl
  have hlen : ((ns.map PV.int).length : Int) = ns.length := by rw [List.length_map]
  by_cases h : (k : Int) < ns.length
  · have eh : decide ((k : Int) < ns.length) = true := decide_eq_true h
    have hk : k < ns.length := by omega
    have ea : atI (ns.map PV.int) (k : Int) = some (.int ns[k]) := by
      rw [R.atI_nat, List.getElem?_map, List.getElem?_eq_getElem hk]
      rfl
    refine ⟨.lst [.int ns[k], .int ns[k], .int 0], ?_, ⟨_, _, _, rfl⟩⟩
    unfold m_law_source b_law_source
    simp only [fnM, fnO, sSeq, sAsg, sIf, sRet, sNop, sSet, sExpr, mBin, mB, mVar, mC, mCall, mCons, mNil, mTup, mLst, mLstO, mFn, mAnd, mOr, mNot, mNeg, mIsi, mYes, itS, itE, itR1, tgN, tgT, tgCons, tgNil, mSl, oNo, oYes, Res.bind, Res.run, Ctl.andThen, En.set, En.sets, f2I, f2C, wipeE, pAdd, pSub, pMul, pDiv, pMod, pPow, pLt, pLe, pGt, pGe, pIx, cLen, cInt, List.map_cons, List.map_nil, List.length_cons, List.length_nil, List.replicate, List.append_nil, List.nil_append, List.cons_append, List.getElem?_cons_zero, List.getElem?_cons_succ, List.set_cons_zero, List.set_cons_succ, List.take_length, get_last, set_last, take_last, take_all1, len1, getL, getR, getQ, mAndV, mOrV, mNotV, mNeg, iniM, fnA, mIf, mChain, sPar, tyP, isT, pEq_int, pNe_int, pIx, cAbs, cMax, cMin, mFld, getF, R.sFld, put0, put1, put2, may_int, thaw_int, thaw_bl, thaw_non, if_true, Bool.not_true, Bool.not_false, atI_0, atI_1, atI_2, atI_3, ixN_30, ixN_31, ixN_32, R.sIx, take_set, Bool.false_eq_true, if_false, List.length_map, eh, ea, hb]
  · have eh : decide ((k : Int) < ns.length) = false := decide_eq_false h
    obtain ⟨z, hz⟩ : ∃ z : Int, m_law_cell_at [.scr ns, .int 0] p = .ok (.int z) p := by
      by_cases h0 : (0 : Int) < ns.length
      · have e0 : decide ((0 : Int) < ns.length) = true := decide_eq_true h0
        have ea : atI (ns.map PV.int) 0 = some (.int (ns[0]'(by omega))) := by
          have := R.atI_nat (ns.map PV.int) 0
          rw [show ((0 : Nat) : Int) = 0 from rfl] at this
          rw [this, List.getElem?_map, List.getElem?_eq_getElem (by omega)]
          rfl
        refine ⟨ns[0]'(by omega), ?_⟩
        unfold m_law_cell_at b_law_cell_at
        simp only [fnM, fnO, sSeq, sAsg, sIf, sRet, sNop, sSet, sExpr, mBin, mB, mVar, mC, mCall, mCons, mNil, mTup, mLst, mLstO, mFn, mAnd, mOr, mNot, mNeg, mIsi, mYes, itS, itE, itR1, tgN, tgT, tgCons, tgNil, mSl, oNo, oYes, Res.bind, Res.run, Ctl.andThen, En.set, En.sets, f2I, f2C, wipeE, pAdd, pSub, pMul, pDiv, pMod, pPow, pLt, pLe, pGt, pGe, pIx, cLen, cInt, List.map_cons, List.map_nil, List.length_cons, List.length_nil, List.replicate, List.append_nil, List.nil_append, List.cons_append, List.getElem?_cons_zero, List.getElem?_cons_succ, List.set_cons_zero, List.set_cons_succ, List.take_length, get_last, set_last, take_last, take_all1, len1, getL, getR, getQ, mAndV, mOrV, mNotV, mNeg, iniM, fnA, mIf, mChain, sPar, tyP, isT, pEq_int, pNe_int, pIx, cAbs, cMax, cMin, mFld, getF, R.sFld, put0, put1, put2, may_int, thaw_int, thaw_bl, thaw_non, if_true, Bool.not_true, Bool.not_false, atI_0, atI_1, atI_2, atI_3, ixN_30, ixN_31, ixN_32, R.sIx, take_set, Bool.false_eq_true, if_false, List.length_map, e0, ea]
      · have e0 : decide ((0 : Int) < ns.length) = false := decide_eq_false h0
        refine ⟨0, ?_⟩
        unfold m_law_cell_at b_law_cell_at
        simp only [fnM, fnO, sSeq, sAsg, sIf, sRet, sNop, sSet, sExpr, mBin, mB, mVar, mC, mCall, mCons, mNil, mTup, mLst, mLstO, mFn, mAnd, mOr, mNot, mNeg, mIsi, mYes, itS, itE, itR1, tgN, tgT, tgCons, tgNil, mSl, oNo, oYes, Res.bind, Res.run, Ctl.andThen, En.set, En.sets, f2I, f2C, wipeE, pAdd, pSub, pMul, pDiv, pMod, pPow, pLt, pLe, pGt, pGe, pIx, cLen, cInt, List.map_cons, List.map_nil, List.length_cons, List.length_nil, List.replicate, List.append_nil, List.nil_append, List.cons_append, List.getElem?_cons_zero, List.getElem?_cons_succ, List.set_cons_zero, List.set_cons_succ, List.take_length, get_last, set_last, take_last, take_all1, len1, getL, getR, getQ, mAndV, mOrV, mNotV, mNeg, iniM, fnA, mIf, mChain, sPar, tyP, isT, pEq_int, pNe_int, pIx, cAbs, cMax, cMin, mFld, getF, R.sFld, put0, put1, put2, may_int, thaw_int, thaw_bl, thaw_non, if_true, Bool.not_true, Bool.not_false, atI_0, atI_1, atI_2, atI_3, ixN_30, ixN_31, ixN_32, R.sIx, take_set, Bool.false_eq_true, if_false, List.length_map, e0]
    obtain ⟨d, hd⟩ : ∃ d : Int, m_law_mixed [.int z, .int (1000 + k)] p = .ok (.int d) _ := mixed_ok z (1000 + k) p
    refine ⟨.lst [.int d, .int d, .int 0], ?_, ⟨_, _, _, rfl⟩⟩
    unfold m_law_source b_law_source
    simp only [fnM, fnO, sSeq, sAsg, sIf, sRet, sNop, sSet, sExpr, mBin, mB, mVar, mC, mCall, mCons, mNil, mTup, mLst, mLstO, mFn, mAnd, mOr, mNot, mNeg, mIsi, mYes, itS, itE, itR1, tgN, tgT, tgCons, tgNil, mSl, oNo, oYes, Res.bind, Res.run, Ctl.andThen, En.set, En.sets, f2I, f2C, wipeE, pAdd, pSub, pMul, pDiv, pMod, pPow, pLt, pLe, pGt, pGe, pIx, cLen, cInt, List.map_cons, List.map_nil, List.length_cons, List.length_nil, List.replicate, List.append_nil, List.nil_append, List.cons_append, List.getElem?_cons_zero, List.getElem?_cons_succ, List.set_cons_zero, List.set_cons_succ, List.take_length, get_last, set_last, take_last, take_all1, len1, getL, getR, getQ, mAndV, mOrV, mNotV, mNeg, iniM, fnA, mIf, mChain, sPar, tyP, isT, pEq_int, pNe_int, pIx, cAbs, cMax, cMin, mFld, getF, R.sFld, put0, put1, put2, may_int, thaw_int, thaw_bl, thaw_non, if_true, Bool.not_true, Bool.not_false, atI_0, atI_1, atI_2, atI_3, ixN_30, ixN_31, ixN_32, R.sIx, take_set, Bool.false_eq_true, if_false, List.length_map, eh, hz, hd, hb]

theorem next_set (p : Pool) (k : Nat) (s0 : Cell) (many : Int) (hl : k < p.length) (h0 : IsSrc s0) (h1 : 0 < many) (h2 : many < 2 ^ 200) : ∃ (d : Int) (s : Cell), m_law_next [.own k, .int many] (p.set k s0) = .ok (.int d) (p.set k s) ∧ IsSrc s ∧ 0 ≤ d ∧ d < many := by
  obtain ⟨d, s, e, hs, d0, d1⟩ := next_ok (p.set k s0) k many ⟨s0, List.getElem?_set_self hl, h0⟩ h1 h2
  rw [List.set_set] at e
  exact ⟨d, s, e, hs, d0, d1⟩
/-- in lowest terms, with a bottom above nothing -/
structure Co (q : Int × Int) : Prop where
  pos : 0 < q.2
  co : Int.gcd q.1 q.2 = 1
theorem fdiv_gcd {a b : Int} : (a.fdiv (Int.gcd a b : Int)) * (Int.gcd a b : Int) = a := Int.fdiv_mul_cancel (Int.gcd_dvd_left a b)
theorem fdiv_gcd2 {a b : Int} : (b.fdiv (Int.gcd a b : Int)) * (Int.gcd a b : Int) = b := Int.fdiv_mul_cancel (Int.gcd_dvd_right a b)
theorem lw_co {a b : Int} (h : 0 < b) : Co (lw a b) := by
  have hg := gcd_pos (a := a) (b := b) (by omega)
  have e1 := fdiv_gcd (a := a) (b := b)
  have e2 := fdiv_gcd2 (a := a) (b := b)
  refine ⟨?_, ?_⟩
  · show 0 < b.fdiv _
    rcases Int.lt_or_le 0 (b.fdiv (Int.gcd a b : Int)) with z | z
    · exact z
    · have := Int.mul_le_mul_of_nonneg_right z (Int.le_of_lt hg)
      rw [e2, Int.zero_mul] at this
      omega
  · have h3 : Int.gcd (a.fdiv (Int.gcd a b : Int) * (Int.gcd a b : Int)) (b.fdiv (Int.gcd a b : Int) * (Int.gcd a b : Int)) = Int.gcd (a.fdiv (Int.gcd a b : Int)) (b.fdiv (Int.gcd a b : Int)) * Int.gcd a b := by
      rw [Int.gcd_mul_right, Int.natAbs_natCast]
    rw [e1, e2] at h3
    have h4 : 0 < Int.gcd a b := by omega
    have h5 : 1 * Int.gcd a b = Int.gcd (a.fdiv (Int.gcd a b : Int)) (b.fdiv (Int.gcd a b : Int)) * Int.gcd a b := by rw [Nat.one_mul]; exact h3
    exact (Nat.eq_of_mul_eq_mul_right h4 h5).symm
theorem lw_self {q : Int × Int} (h : Co q) : lw q.1 q.2 = q := by
  unfold lw
  rw [h.co]
  show (q.1.fdiv 1, q.2.fdiv 1) = q
  rw [Int.fdiv_one, Int.fdiv_one]
theorem lw_le {a b : Int} (h : 0 < b) : (lw a b).2 ≤ b ∧ (lw a b).1.natAbs ≤ a.natAbs := by
  have hg := gcd_pos (a := a) (b := b) (by omega)
  have e1 := fdiv_gcd (a := a) (b := b)
  have e2 := fdiv_gcd2 (a := a) (b := b)
  have hp := (lw_co (a := a) h).pos
  refine ⟨?_, ?_⟩
  · show b.fdiv (Int.gcd a b : Int) ≤ b
    have h1 : b.fdiv (Int.gcd a b : Int) * 1 ≤ b.fdiv (Int.gcd a b : Int) * (Int.gcd a b : Int) := Int.mul_le_mul_of_nonneg_left (by omega) (Int.le_of_lt hp)
    omega
  · show (a.fdiv (Int.gcd a b : Int)).natAbs ≤ a.natAbs
    have h1 : (a.fdiv (Int.gcd a b : Int)).natAbs * 1 ≤ (a.fdiv (Int.gcd a b : Int)).natAbs * Int.gcd a b := Nat.mul_le_mul_left _ (by omega)
    have h2 : (a.fdiv (Int.gcd a b : Int)).natAbs * Int.gcd a b = a.natAbs := by
      have h3 : (a.fdiv (Int.gcd a b : Int)).natAbs * ((Int.gcd a b : Int)).natAbs = a.natAbs := by rw [← Int.natAbs_mul, e1]
      rw [Int.natAbs_natCast] at h3
      exact h3
    omega
theorem small_fuel {n : Nat} (h : n < 2 ^ 64) : n < fuel := Nat.lt_trans h (Nat.pow_lt_pow_right (by decide) (by decide : 64 < 4000))
theorem fr_small {q : Int × Int} (h0 : 0 < q.2) (h1 : q.1.natAbs < 2 ^ 200) (h2 : q.2.natAbs < 2 ^ 200) : Fr q := by
  have h3 : 2 ^ 200 < 2 ^ 1900 := Nat.pow_lt_pow_right (by decide) (by decide)
  exact ⟨h0, Nat.lt_trans h1 h3, Nat.lt_trans h2 h3⟩
theorem mul_abs {a b : Int} {n m : Nat} (h1 : a.natAbs ≤ n) (h2 : b.natAbs ≤ m) : (a * b).natAbs ≤ n * m := by
  rw [Int.natAbs_mul]
  exact Nat.mul_le_mul h1 h2
abbrev Fq := Int × Int
theorem cop_dvd {x y D : Int} (h : Int.gcd x y = 1) (d : y ∣ x * D) : y ∣ D := by
  rw [← Int.natAbs_dvd_natAbs] at d ⊢
  rw [Int.natAbs_mul] at d
  have c : Nat.Coprime y.natAbs x.natAbs := by
    show Nat.gcd y.natAbs x.natAbs = 1
    rw [Nat.gcd_comm]
    exact h
  exact c.dvd_of_dvd_mul_left d
theorem lst_ok {xs : List PV} {a : M (List PV)} {en : En} {p p1 : Pool} (h : a en p = .ok xs p1) : mLst a en p = .ok (.lst xs) p1 := by
  unfold mLst
  rw [h]
  rfl
theorem bin_at {a b : M PV} {xs : List PV} {i : Int} {y : PV} {en : En} {p p1 p2 : Pool} (h1 : a en p = .ok (.lst xs) p1) (h2 : b en p1 = .ok (.int i) p2) (h : atI xs i = some y) : mBin pIx a b en p = .ok y p2 := bin_ok h1 h2 (pIx_int rfl h)
/-- one cell more; the source's cell set -/
abbrev two (p : Pool) (k : Nat) (c s : Cell) : Pool := (p ++ [c]).set k s
theorem two_get {p : Pool} {k : Nat} (hl : k < p.length) (c s : Cell) : (two p k c s)[p.length]? = some c := by
  unfold two
  rw [List.getElem?_set_ne (by omega), get_last]
theorem two_set {p : Pool} {k : Nat} (hl : k < p.length) (c s c' : Cell) : (two p k c s).set p.length c' = two p k c' s := by
  unfold two
  rw [List.set_comm _ _ (by omega), set_last]
theorem two_lt {p : Pool} {k : Nat} (hl : k < p.length) (c : Cell) : k < (p ++ [c]).length := by rw [len1]; omega
theorem two_eq {p : Pool} {k : Nat} (hl : k < p.length) (c s : Cell) : two p k c s = p.set k s ++ [c] := List.set_append_left k s hl
/-! ### shares as rational numbers -/
def val (q : Fq) : Rat := (q.1 : Rat) / (q.2 : Rat)
theorem cast_ne {a : Int} (h : 0 < a) : (a : Rat) ≠ 0 := by
  intro e
  have : a = 0 := Rat.intCast_eq_zero_iff.mp e
  omega
theorem val_lw {a b : Int} (h : 0 < b) : val (lw a b) = (a : Rat) / (b : Rat) := by
  have hg := gcd_pos (a := a) (b := b) (by omega)
  have e1 := fdiv_gcd (a := a) (b := b)
  have e2 := fdiv_gcd2 (a := a) (b := b)
  have hp := (lw_co (a := a) h).pos
  unfold val
  unfold lw at hp ⊢
  dsimp only at hp ⊢
  generalize a.fdiv (Int.gcd a b : Int) = x at *
  generalize b.fdiv (Int.gcd a b : Int) = y at *
  generalize (Int.gcd a b : Int) = g at *
  have c1 : (a : Rat) = (x : Rat) * (g : Rat) := by rw [← e1, Rat.intCast_mul]
  have c2 : (b : Rat) = (y : Rat) * (g : Rat) := by rw [← e2, Rat.intCast_mul]
  have n1 := cast_ne hg
  have n2 := cast_ne hp
  rw [c1, c2]
  grind
theorem val_inj {q r : Fq} (h1 : Co q) (h2 : Co r) (h : val q = val r) : q = r := by
  have p1 := h1.pos
  have p2 := h2.pos
  have n1 := cast_ne p1
  have n2 := cast_ne p2
  unfold val at h
  have e : ((q.1 * r.2 : Int) : Rat) = ((r.1 * q.2 : Int) : Rat) := by
    rw [Rat.intCast_mul, Rat.intCast_mul]
    grind
  have e : q.1 * r.2 = r.1 * q.2 := Rat.intCast_inj.mp e
  have d1 : q.2 ∣ r.2 := cop_dvd h1.co ⟨r.1, by rw [e, Int.mul_comm]⟩
  have d2 : r.2 ∣ q.2 := cop_dvd h2.co ⟨q.1, by rw [← e, Int.mul_comm]⟩
  have l1 := Int.le_of_dvd p2 d1
  have l2 := Int.le_of_dvd p1 d2
  have e2 : q.2 = r.2 := by omega
  rw [e2] at e
  have e1 : q.1 = r.1 := Int.eq_of_mul_eq_mul_right (by omega) e
  exact Prod.ext e1 e2
theorem val_zero : val (0, 1) = 0 := by
  show ((0 : Int) : Rat) / ((1 : Int) : Rat) = 0
  grind
theorem qlt_lwl {a b c d : Int} (hb : 0 < b) (hd : 0 < d) : qlt (lw a b) (lw c d) = decide (a * d < c * b) := by
  have hg := gcd_pos (a := a) (b := b) (by omega)
  have hk := gcd_pos (a := c) (b := d) (by omega)
  have e1 := fdiv_gcd (a := a) (b := b)
  have e2 := fdiv_gcd2 (a := a) (b := b)
  have e3 := fdiv_gcd (a := c) (b := d)
  have e4 := fdiv_gcd2 (a := c) (b := d)
  unfold qlt lw
  dsimp only
  generalize a.fdiv (Int.gcd a b : Int) = x at *
  generalize b.fdiv (Int.gcd a b : Int) = y at *
  generalize c.fdiv (Int.gcd c d : Int) = z at *
  generalize d.fdiv (Int.gcd c d : Int) = t at *
  generalize (Int.gcd a b : Int) = g at *
  generalize (Int.gcd c d : Int) = k at *
  have hgk := Int.mul_pos hg hk
  have f1 : a * d = x * t * (g * k) := by rw [← e1, ← e4]; grind
  have f2 : c * b = z * y * (g * k) := by rw [← e3, ← e2]; grind
  rw [f1, f2]
  congr 1
  exact propext (Int.mul_lt_mul_right hgk).symm
/-- numbers that a fraction is made of -/
structure Bd (t b : Nat) (q : Fq) : Prop where
  co : Co q
  t : q.1.natAbs ≤ t
  b : q.2 ≤ b
theorem Bd.fr {t b : Nat} {q : Fq} (h : Bd t b q) (ht : t < 2 ^ 200) (hb : b < 2 ^ 200) : Fr q := by
  have h4 := h.co.pos
  have h3 := h.b
  exact fr_small h4 (Nat.lt_of_le_of_lt h.t ht) (Nat.lt_of_le_of_lt (by omega) hb)
theorem bd_lw {a b : Int} {n m : Nat} (h : 0 < b) (h1 : a.natAbs ≤ n) (h2 : b ≤ m) : Bd n m (lw a b) := by
  have h3 := lw_le (a := a) h
  exact ⟨lw_co h, by omega, by omega⟩
theorem Bd.mono {t b u c : Nat} {q : Fq} (h : Bd t b q) (h1 : t ≤ u) (h2 : b ≤ c) : Bd u c q := ⟨h.co, Nat.le_trans h.t h1, by have := h.b; omega⟩
/-! ### fractions of any sign -/
def lwz (a b : Int) : Fq := if b < 0 then lw (-a) (-b) else lw a b
theorem okDivA_of {x j : Int} (h : j ≠ 0) (hb : j.natAbs < fuel) : okDivA x j = true := by
  refine decide_eq_true ⟨h, ?_⟩
  have h3 : j.natAbs < 2 ^ 4000 := hb
  have h4 := (Nat.log2_lt (n := j.natAbs) (k := 4000) (by omega)).mpr h3
  omega
theorem gcd_nn (a b : Int) : Int.gcd (-a) (-b) = Int.gcd a b := by rw [Int.neg_gcd, Int.gcd_neg]
theorem fdiv_nn (a g : Int) : a.fdiv (0 - g) = (-a).fdiv g := by
  have h := Int.neg_fdiv_neg (-a) g
  rw [Int.neg_neg] at h
  rw [Int.zero_sub]
  exact h
theorem gcd_fuel {a b : Int} (h : b ≠ 0) (hb : b.natAbs < fuel) : ((Int.gcd a b : Int)).natAbs < fuel := by
  rw [Int.natAbs_natCast]
  exact Nat.lt_of_le_of_lt (gcd_le h) hb
theorem share_any (a b : Int) (p : Pool) (h0 : b ≠ 0) (hb : b.natAbs < fuel) : m_Share_init [.int a, .int b] p = .ok (sh (lwz a b)) p := by
  have g0 := gcd_pos (a := a) h0
  have e0 : decide (b = 0) = false := decide_eq_false h0
  have e2 : ∀ q, m_common_of [.int a, .int b] q = .ok (.int (Int.gcd a b : Int)) q := fun q => common_ok a b q hb
  have e4 : ∀ x p, m_is_whole [.int x] p = .ok (.bl true) p := whole_ok
  have gf := gcd_fuel (a := a) h0 hb
  unfold m_Share_init b_Share_init
  by_cases hs : b < 0
  · have e1 : decide (b < 0) = true := decide_eq_true hs
    have e3 : ∀ x, okDivA x (0 - (Int.gcd a b : Int)) = true := fun x => okDivA_of (by omega) (by omega)
    have u : lwz a b = ((-a).fdiv (Int.gcd a b : Int), (-b).fdiv (Int.gcd a b : Int)) := by
      unfold lwz
      rw [if_pos hs]
      unfold lw
      rw [gcd_nn]
    have f1 := fdiv_nn a (Int.gcd a b : Int)
    have f2 := fdiv_nn b (Int.gcd a b : Int)
    rw [u]
    have e5 : thaw fldT p.length (p ++ [.obj 0 [.int ((-a).fdiv (Int.gcd a b : Int)), .int ((-b).fdiv (Int.gcd a b : Int))]]) (.own p.length) = some (sh ((-a).fdiv (Int.gcd a b : Int), (-b).fdiv (Int.gcd a b : Int))) := thaw_obj rfl rfl
    simp only [fnM, fnO, sSeq, sAsg, sIf, sRet, sNop, sSet, sExpr, mBin, mB, mVar, mC, mCall, mCons, mNil, mTup, mLst, mLstO, mFn, mAnd, mOr, mNot, mNeg, mIsi, mYes, itS, itE, itR1, tgN, tgT, tgCons, tgNil, mSl, oNo, oYes, Res.bind, Res.run, Ctl.andThen, En.set, En.sets, f2I, f2C, wipeE, pAdd, pSub, pMul, pDiv, pMod, pPow, pLt, pLe, pGt, pGe, pIx, cLen, cInt, List.map_cons, List.map_nil, List.length_cons, List.length_nil, List.replicate, List.append_nil, List.nil_append, List.cons_append, List.getElem?_cons_zero, List.getElem?_cons_succ, List.set_cons_zero, List.set_cons_succ, List.take_length, get_last, set_last, take_last, take_all1, len1, getL, getR, getQ, mAndV, mOrV, mNotV, mNeg, iniM, fnA, mIf, mChain, sPar, tyP, isT, pEq_int, pNe_int, pIx, cAbs, cMax, cMin, mFld, getF, R.sFld, put0, put1, put2, may_int, thaw_int, thaw_bl, thaw_non, if_true, Bool.not_true, Bool.not_false, atI_0, atI_1, atI_2, atI_3, ixN_30, ixN_31, ixN_32, R.sIx, take_set, Bool.false_eq_true, if_false, pDivA, e0, e1, e2, e3, e4, f1, f2, e5, Bool.false_eq_true, if_false]
  · have e1 : decide (b < 0) = false := decide_eq_false hs
    have e3 : ∀ x, okDivA x (Int.gcd a b : Int) = true := fun x => okDivA_of (by omega) gf
    have u : lwz a b = lw a b := if_neg hs
    rw [u]
    have e5 : thaw fldT p.length (p ++ [.obj 0 [.int (a.fdiv (Int.gcd a b : Int)), .int (b.fdiv (Int.gcd a b : Int))]]) (.own p.length) = some (sh (lw a b)) := thaw_obj rfl rfl
    simp only [fnM, fnO, sSeq, sAsg, sIf, sRet, sNop, sSet, sExpr, mBin, mB, mVar, mC, mCall, mCons, mNil, mTup, mLst, mLstO, mFn, mAnd, mOr, mNot, mNeg, mIsi, mYes, itS, itE, itR1, tgN, tgT, tgCons, tgNil, mSl, oNo, oYes, Res.bind, Res.run, Ctl.andThen, En.set, En.sets, f2I, f2C, wipeE, pAdd, pSub, pMul, pDiv, pMod, pPow, pLt, pLe, pGt, pGe, pIx, cLen, cInt, List.map_cons, List.map_nil, List.length_cons, List.length_nil, List.replicate, List.append_nil, List.nil_append, List.cons_append, List.getElem?_cons_zero, List.getElem?_cons_succ, List.set_cons_zero, List.set_cons_succ, List.take_length, get_last, set_last, take_last, take_all1, len1, getL, getR, getQ, mAndV, mOrV, mNotV, mNeg, iniM, fnA, mIf, mChain, sPar, tyP, isT, pEq_int, pNe_int, pIx, cAbs, cMax, cMin, mFld, getF, R.sFld, put0, put1, put2, may_int, thaw_int, thaw_bl, thaw_non, if_true, Bool.not_true, Bool.not_false, atI_0, atI_1, atI_2, atI_3, ixN_30, ixN_31, ixN_32, R.sIx, take_set, Bool.false_eq_true, if_false, pDivA, e0, e1, e2, e3, e4, e5, Bool.false_eq_true, if_false]
theorem lowered_any (a b : Int) (p : Pool) (h0 : b ≠ 0) (hb : b.natAbs < fuel) : m_law_lowered [.int a, .int b] p = .ok (pr (lwz a b)) p := by
  obtain ⟨en2, p2, e, rfl, hp⟩ := loopW_inv (t := mB (mBin pNe (mVar 3) (mC (.int 0)))) (body := sPar 2 3 (mCons (mVar 3) (mCons (mBin pMod (mVar 2) (mVar 3)) mNil)))
    (fun n en q => ∃ x y : Int, en = ⟨p.length, [some (.int a), some (.int b), some (.int x), some (.int y)]⟩ ∧ q = p ∧ 0 ≤ x ∧ 0 ≤ y ∧ Int.gcd x y = Int.gcd a b ∧ n = y.natAbs)
    (fun en q => en = ⟨p.length, [some (.int a), some (.int b), some (.int (Int.gcd a b : Int)), some (.int 0)]⟩ ∧ q = p) (fun n en q h => by
      obtain ⟨x, y, rfl, rfl, hx, hy0, hg, rfl⟩ := h
      refine ⟨!decide (y = 0), q, ?_, ?_⟩
      · simp only [fnM, fnO, sSeq, sAsg, sIf, sRet, sNop, sSet, sExpr, mBin, mB, mVar, mC, mCall, mCons, mNil, mTup, mLst, mLstO, mFn, mAnd, mOr, mNot, mNeg, mIsi, mYes, itS, itE, itR1, tgN, tgT, tgCons, tgNil, mSl, oNo, oYes, Res.bind, Res.run, Ctl.andThen, En.set, En.sets, f2I, f2C, wipeE, pAdd, pSub, pMul, pDiv, pMod, pPow, pLt, pLe, pGt, pGe, pIx, cLen, cInt, List.map_cons, List.map_nil, List.length_cons, List.length_nil, List.replicate, List.append_nil, List.nil_append, List.cons_append, List.getElem?_cons_zero, List.getElem?_cons_succ, List.set_cons_zero, List.set_cons_succ, List.take_length, get_last, set_last, take_last, take_all1, len1, getL, getR, getQ, mAndV, mOrV, mNotV, mNeg, iniM, fnA, mIf, mChain, sPar, tyP, isT, pEq_int, pNe_int, pIx, cAbs, cMax, cMin, mFld, getF, R.sFld, put0, put1, put2, may_int, thaw_int, thaw_bl, thaw_non, if_true, Bool.not_true, Bool.not_false, atI_0, atI_1, atI_2, atI_3, ixN_30, ixN_31, ixN_32, R.sIx, take_set, Bool.false_eq_true, if_false]
      by_cases hy : y = 0
      · subst hy
        refine .inl ⟨rfl, ?_, rfl⟩
        rw [← hg, Int.gcd_zero_right, Int.natAbs_of_nonneg hx]
      · refine .inr ⟨by rw [decide_eq_false hy]; rfl, ⟨q.length, [some (.int a), some (.int b), some (.int y), some (.int (x.fmod y))]⟩, q, (x.fmod y).natAbs, ?_, fmod_lt x hy, y, x.fmod y, rfl, rfl, hy0, Int.fmod_nonneg_of_pos _ (by omega), (gcd_step x y).trans hg, rfl⟩
        have e1 := okMod_ne (a := x) hy
        simp only [fnM, fnO, sSeq, sAsg, sIf, sRet, sNop, sSet, sExpr, mBin, mB, mVar, mC, mCall, mCons, mNil, mTup, mLst, mLstO, mFn, mAnd, mOr, mNot, mNeg, mIsi, mYes, itS, itE, itR1, tgN, tgT, tgCons, tgNil, mSl, oNo, oYes, Res.bind, Res.run, Ctl.andThen, En.set, En.sets, f2I, f2C, wipeE, pAdd, pSub, pMul, pDiv, pMod, pPow, pLt, pLe, pGt, pGe, pIx, cLen, cInt, List.map_cons, List.map_nil, List.length_cons, List.length_nil, List.replicate, List.append_nil, List.nil_append, List.cons_append, List.getElem?_cons_zero, List.getElem?_cons_succ, List.set_cons_zero, List.set_cons_succ, List.take_length, get_last, set_last, take_last, take_all1, len1, getL, getR, getQ, mAndV, mOrV, mNotV, mNeg, iniM, fnA, mIf, mChain, sPar, tyP, isT, pEq_int, pNe_int, pIx, cAbs, cMax, cMin, mFld, getF, R.sFld, put0, put1, put2, may_int, thaw_int, thaw_bl, thaw_non, if_true, Bool.not_true, Bool.not_false, atI_0, atI_1, atI_2, atI_3, ixN_30, ixN_31, ixN_32, R.sIx, take_set, Bool.false_eq_true, if_false, e1]
      )
    fuel b.natAbs ⟨p.length, [some (.int a), some (.int b), some (.int (a.natAbs : Int)), some (.int (b.natAbs : Int))]⟩ p hb ⟨a.natAbs, b.natAbs, rfl, rfl, by omega, by omega, by unfold Int.gcd; rw [Int.natAbs_natCast, Int.natAbs_natCast], by rw [Int.natAbs_natCast]⟩
  subst hp
  have g0 := gcd_pos (a := a) h0
  have gf := gcd_fuel (a := a) h0 hb
  have e5 : ∀ n p, thaw fldT n p (pr (lwz a b)) = some (pr (lwz a b)) := fun n p => thaw_bel rfl
  unfold m_law_lowered b_law_lowered
  generalize loopW _ _ fuel = W at e ⊢
  by_cases hs : b < 0
  · have e1 : decide (b < 0) = true := decide_eq_true hs
    have e3 : ∀ x, okDivA x (0 - (Int.gcd a b : Int)) = true := fun x => okDivA_of (by omega) (by omega)
    have u : pr (lwz a b) = .tup [.int ((-a).fdiv (Int.gcd a b : Int)), .int ((-b).fdiv (Int.gcd a b : Int))] := by
      unfold lwz
      rw [if_pos hs]
      unfold lw
      rw [gcd_nn]
      rfl
    have f1 := fdiv_nn a (Int.gcd a b : Int)
    have f2 := fdiv_nn b (Int.gcd a b : Int)
    rw [u] at e5 ⊢
    simp only [fnM, fnO, sSeq, sAsg, sIf, sRet, sNop, sSet, sExpr, mBin, mB, mVar, mC, mCall, mCons, mNil, mTup, mLst, mLstO, mFn, mAnd, mOr, mNot, mNeg, mIsi, mYes, itS, itE, itR1, tgN, tgT, tgCons, tgNil, mSl, oNo, oYes, Res.bind, Res.run, Ctl.andThen, En.set, En.sets, f2I, f2C, wipeE, pAdd, pSub, pMul, pDiv, pMod, pPow, pLt, pLe, pGt, pGe, pIx, cLen, cInt, List.map_cons, List.map_nil, List.length_cons, List.length_nil, List.replicate, List.append_nil, List.nil_append, List.cons_append, List.getElem?_cons_zero, List.getElem?_cons_succ, List.set_cons_zero, List.set_cons_succ, List.take_length, get_last, set_last, take_last, take_all1, len1, getL, getR, getQ, mAndV, mOrV, mNotV, mNeg, iniM, fnA, mIf, mChain, sPar, tyP, isT, pEq_int, pNe_int, pIx, cAbs, cMax, cMin, mFld, getF, R.sFld, put0, put1, put2, may_int, thaw_int, thaw_bl, thaw_non, if_true, Bool.not_true, Bool.not_false, atI_0, atI_1, atI_2, atI_3, ixN_30, ixN_31, ixN_32, R.sIx, take_set, Bool.false_eq_true, if_false, pDivA, e, e1, e3, e5, f1, f2, abs_eq, Bool.false_eq_true, if_false]
  · have e1 : decide (b < 0) = false := decide_eq_false hs
    have e3 : ∀ x, okDivA x (Int.gcd a b : Int) = true := fun x => okDivA_of (by omega) gf
    have u : pr (lwz a b) = .tup [.int (a.fdiv (Int.gcd a b : Int)), .int (b.fdiv (Int.gcd a b : Int))] := by
      unfold lwz
      rw [if_neg hs]
      rfl
    rw [u] at e5 ⊢
    simp only [fnM, fnO, sSeq, sAsg, sIf, sRet, sNop, sSet, sExpr, mBin, mB, mVar, mC, mCall, mCons, mNil, mTup, mLst, mLstO, mFn, mAnd, mOr, mNot, mNeg, mIsi, mYes, itS, itE, itR1, tgN, tgT, tgCons, tgNil, mSl, oNo, oYes, Res.bind, Res.run, Ctl.andThen, En.set, En.sets, f2I, f2C, wipeE, pAdd, pSub, pMul, pDiv, pMod, pPow, pLt, pLe, pGt, pGe, pIx, cLen, cInt, List.map_cons, List.map_nil, List.length_cons, List.length_nil, List.replicate, List.append_nil, List.nil_append, List.cons_append, List.getElem?_cons_zero, List.getElem?_cons_succ, List.set_cons_zero, List.set_cons_succ, List.take_length, get_last, set_last, take_last, take_all1, len1, getL, getR, getQ, mAndV, mOrV, mNotV, mNeg, iniM, fnA, mIf, mChain, sPar, tyP, isT, pEq_int, pNe_int, pIx, cAbs, cMax, cMin, mFld, getF, R.sFld, put0, put1, put2, may_int, thaw_int, thaw_bl, thaw_non, if_true, Bool.not_true, Bool.not_false, atI_0, atI_1, atI_2, atI_3, ixN_30, ixN_31, ixN_32, R.sIx, take_set, Bool.false_eq_true, if_false, pDivA, e, e1, e3, e5, abs_eq, Bool.false_eq_true, if_false]
/-! ### what they stand for -/
theorem lwz_co {a b : Int} (h : b ≠ 0) : Co (lwz a b) := by
  unfold lwz
  split
  · exact lw_co (by omega)
  · exact lw_co (by omega)
theorem lwz_cross {a b : Int} (h : b ≠ 0) : (lwz a b).1 * b = a * (lwz a b).2 := by
  have e1 := fdiv_gcd (a := a) (b := b)
  have e2 := fdiv_gcd2 (a := a) (b := b)
  have k1 := fdiv_gcd (a := -a) (b := -b)
  have k2 := fdiv_gcd2 (a := -a) (b := -b)
  unfold lwz lw
  split
  · dsimp only
    generalize (-a).fdiv (Int.gcd (-a) (-b) : Int) = x at *
    generalize (-b).fdiv (Int.gcd (-a) (-b) : Int) = y at *
    generalize (Int.gcd (-a) (-b) : Int) = g at *
    have f1 : a = -(x * g) := by omega
    have f2 : b = -(y * g) := by omega
    rw [f1, f2]
    grind
  · dsimp only
    generalize a.fdiv (Int.gcd a b : Int) = x at *
    generalize b.fdiv (Int.gcd a b : Int) = y at *
    generalize (Int.gcd a b : Int) = g at *
    rw [← e1, ← e2]
    grind
theorem co_cross {q r : Fq} (hq : Co q) (hr : Co r) (h : q.1 * r.2 = r.1 * q.2) : q = r := by
  have p1 := hq.pos
  have p2 := hr.pos
  have d1 : q.2 ∣ r.2 := cop_dvd hq.co ⟨r.1, by rw [h, Int.mul_comm]⟩
  have d2 : r.2 ∣ q.2 := cop_dvd hr.co ⟨q.1, by rw [← h, Int.mul_comm]⟩
  have l1 := Int.le_of_dvd p2 d1
  have l2 := Int.le_of_dvd p1 d2
  have e2 : q.2 = r.2 := by omega
  rw [e2] at h
  exact Prod.ext (Int.eq_of_mul_eq_mul_right (by omega) h) e2
theorem lwz_eq {a b c d : Int} (hb : b ≠ 0) (hd : d ≠ 0) (h : a * d = c * b) : lwz a b = lwz c d := by
  have k1 := lwz_cross (a := a) hb
  have k2 := lwz_cross (a := c) hd
  refine co_cross (lwz_co hb) (lwz_co hd) ?_
  have z : (b * d) ≠ 0 := Int.mul_ne_zero hb hd
  refine Int.eq_of_mul_eq_mul_right z ?_
  generalize (lwz a b).1 = x at *
  generalize (lwz a b).2 = y at *
  generalize (lwz c d).1 = u at *
  generalize (lwz c d).2 = v at *
  have m1 : x * v * (b * d) = (x * b) * (v * d) := by grind
  have m2 : u * y * (b * d) = (u * d) * (y * b) := by grind
  rw [m1, m2, k1, k2]
  have m3 : a * y * (v * d) = (a * d) * (y * v) := by grind
  have m4 : c * v * (y * b) = (c * b) * (y * v) := by grind
  rw [m3, m4, h]
theorem lwz_pos {a b : Int} (h : 0 < b) : lwz a b = lw a b := if_neg (by omega)
theorem lwz_le {a b : Int} (h : b ≠ 0) : (lwz a b).2.natAbs ≤ b.natAbs ∧ (lwz a b).1.natAbs ≤ a.natAbs := by
  have hp := (lwz_co (a := a) h).pos
  unfold lwz at hp ⊢
  split
  · rename_i z
    rw [if_pos z] at hp
    have k := lw_le (a := -a) (b := -b) (by omega)
    omega
  · rename_i z
    rw [if_neg z] at hp
    have k := lw_le (a := a) (b := b) (by omega)
    omega
theorem lwz_iff {a b c d : Int} (hb : b ≠ 0) (hd : d ≠ 0) : (lwz a b = lwz c d) ↔ a * d = c * b := by
  refine ⟨fun h => ?_, lwz_eq hb hd⟩
  have k1 := lwz_cross (a := a) hb
  have k2 := lwz_cross (a := c) hd
  have hp := (lwz_co (a := c) hd).pos
  rw [h] at k1
  generalize (lwz c d).1 = u at *
  generalize (lwz c d).2 = v at *
  refine Int.eq_of_mul_eq_mul_right (show v ≠ 0 by omega) ?_
  have m1 : a * d * v = (a * v) * d := by grind
  have m2 : c * b * v = (c * v) * b := by grind
  rw [m1, m2, ← k1, ← k2]
  grind
theorem lw_sign {x y : Int} (h : 0 < y) : decide ((lw x y).1 < 0) = decide (x < 0) ∧ decide (0 < (lw x y).1) = decide (0 < x) := by
  have g0 := gcd_pos (a := x) (b := y) (by omega)
  have e1 := fdiv_gcd (a := x) (b := y)
  unfold lw
  dsimp only
  generalize x.fdiv (Int.gcd x y : Int) = z at *
  generalize (Int.gcd x y : Int) = g at *
  constructor
  · by_cases c : z < 0
    · rw [decide_eq_true c, decide_eq_true (by rw [← e1]; exact Int.mul_neg_of_neg_of_pos c g0)]
    · rw [decide_eq_false c, decide_eq_false (by have := Int.mul_nonneg (by omega : 0 ≤ z) (by omega : 0 ≤ g); omega)]
  · by_cases c : 0 < z
    · rw [decide_eq_true c, decide_eq_true (by rw [← e1]; exact Int.mul_pos c g0)]
    · rw [decide_eq_false c, decide_eq_false (by have := Int.mul_nonneg (by omega : 0 ≤ -z) (by omega : 0 ≤ g); rw [Int.neg_mul] at this; omega)]
/-! ### sizes -/
def Z (n : Nat) (a : Int) : Prop := a.natAbs < 2 ^ n
theorem Z.mul {m n : Nat} {a b : Int} (h : Z m a) (k : Z n b) : Z (m + n) (a * b) := by
  unfold Z at *
  rw [Int.natAbs_mul, Nat.pow_add]
  exact Nat.mul_lt_mul'' h k
theorem Z.mono {m n : Nat} {a : Int} (h : Z m a) (k : m ≤ n) : Z n a := Nat.lt_of_lt_of_le h (Nat.pow_le_pow_right (by decide) k)
theorem Z.add {n : Nat} {a b : Int} (h : Z n a) (k : Z n b) : Z (n + 1) (a + b) := by
  unfold Z at *
  rw [Nat.pow_succ]
  omega
theorem Z.sub {n : Nat} {a b : Int} (h : Z n a) (k : Z n b) : Z (n + 1) (a - b) := by
  unfold Z at *
  rw [Nat.pow_succ]
  omega
theorem Z.fuel {n : Nat} {a : Int} (h : Z n a) (k : n ≤ 4000) : a.natAbs < fuel := h.mono k
theorem Z.okMul {m n : Nat} {a b : Int} (h : Z m a) (k : Z n b) (hm : m ≤ 4000) (hn : n ≤ 4000) : okMul a b = true := okMul_of (h.fuel hm) (k.fuel hn)
/-- a share's numbers -/
structure Sz (n : Nat) (q : Fq) : Prop where
  co : Co q
  t : Z n q.1
  b : Z n q.2
theorem Sz.fr {n : Nat} {q : Fq} (h : Sz n q) (k : n ≤ 1900) : Fr q := ⟨h.co.pos, h.t.mono k, h.b.mono k⟩
theorem sz_lwz {n : Nat} {a b : Int} (hb : b ≠ 0) (h1 : Z n a) (h2 : Z n b) : Sz n (lwz a b) := by
  have k := lwz_le (a := a) hb
  exact ⟨lwz_co hb, Nat.lt_of_le_of_lt k.2 h1, Nat.lt_of_le_of_lt k.1 h2⟩

/-! ### the program's own -/
section
variable {p : Pool} {q r : Fq} {n : Nat}
theorem f0 {en : En} {i : Nat} (h : en.sl[i]? = some (some (sh q))) : mFld 0 0 (mVar i) en p = .ok (.int q.1) p := getF_ok (x := sh q) (var_ok h) rfl
theorem f1 {en : En} {i : Nat} (h : en.sl[i]? = some (some (sh q))) : mFld 0 1 (mVar i) en p = .ok (.int q.2) p := getF_ok (x := sh q) (var_ok h) rfl
theorem Sz.mul0 (h : Sz n q) (k : Sz n r) : q.2 * r.2 ≠ 0 := by
  have := Int.mul_pos h.co.pos k.co.pos
  omega
theorem plus_s (h : Sz n q) (k : Sz n r) (hn : n ≤ 900) : m_plus [sh q, sh r] p = .ok (sh (lwz (q.1 * r.2 + r.1 * q.2) (q.2 * r.2))) p := by
  unfold m_plus
  refine fnM_pure (x := sh _) ?_ (bel_sh 0 _)
  show b_plus ⟨p.length, [some (sh q), some (sh r)]⟩ p = _
  unfold b_plus
  exact ret_ok (fn0_ok (two_ok (add_ok (mul_ok (f0 rfl) (f1 rfl) (h.t.okMul k.b (by omega) (by omega))) (mul_ok (f0 rfl) (f1 rfl) (k.t.okMul h.b (by omega) (by omega)))) (mul_ok (f1 rfl) (f1 rfl) (h.b.okMul k.b (by omega) (by omega)))) (share_any _ _ _ (h.mul0 k) ((h.b.mul k.b).fuel (by omega))))
theorem minus_s (h : Sz n q) (k : Sz n r) (hn : n ≤ 900) : m_minus [sh q, sh r] p = .ok (sh (lwz (q.1 * r.2 - r.1 * q.2) (q.2 * r.2))) p := by
  unfold m_minus
  refine fnM_pure (x := sh _) ?_ (bel_sh 0 _)
  show b_minus ⟨p.length, [some (sh q), some (sh r)]⟩ p = _
  unfold b_minus
  exact ret_ok (fn0_ok (two_ok (sub_ok (mul_ok (f0 rfl) (f1 rfl) (h.t.okMul k.b (by omega) (by omega))) (mul_ok (f0 rfl) (f1 rfl) (k.t.okMul h.b (by omega) (by omega)))) (mul_ok (f1 rfl) (f1 rfl) (h.b.okMul k.b (by omega) (by omega)))) (share_any _ _ _ (h.mul0 k) ((h.b.mul k.b).fuel (by omega))))
theorem times_s (h : Sz n q) (k : Sz n r) (hn : n ≤ 900) : m_times [sh q, sh r] p = .ok (sh (lwz (q.1 * r.1) (q.2 * r.2))) p := by
  unfold m_times
  refine fnM_pure (x := sh _) ?_ (bel_sh 0 _)
  show b_times ⟨p.length, [some (sh q), some (sh r)]⟩ p = _
  unfold b_times
  exact ret_ok (fn0_ok (two_ok (mul_ok (f0 rfl) (f0 rfl) (h.t.okMul k.t (by omega) (by omega))) (mul_ok (f1 rfl) (f1 rfl) (h.b.okMul k.b (by omega) (by omega)))) (share_any _ _ _ (h.mul0 k) ((h.b.mul k.b).fuel (by omega))))
theorem over_s (h : Sz n q) (k : Sz n r) (hn : n ≤ 900) (hr : r.1 ≠ 0) : m_over [sh q, sh r] p = .ok (sh (lwz (q.1 * r.2) (q.2 * r.1))) p := by
  have z : q.2 * r.1 ≠ 0 := Int.mul_ne_zero (by have := h.co.pos; omega) hr
  unfold m_over
  refine fnM_pure (x := sh _) ?_ (bel_sh 0 _)
  show b_over ⟨p.length, [some (sh q), some (sh r)]⟩ p = _
  unfold b_over
  refine (seq_nx ((if_f (b_ok (eq_no (x := r.1) (y := 0) (f0 rfl) rfl hr))).trans rfl)).trans ?_
  exact ret_ok (fn0_ok (two_ok (mul_ok (f0 rfl) (f1 rfl) (h.t.okMul k.b (by omega) (by omega))) (mul_ok (f1 rfl) (f0 rfl) (h.b.okMul k.t (by omega) (by omega)))) (share_any _ _ _ z ((h.b.mul k.t).fuel (by omega))))
theorem less_s (h : Sz n q) (k : Sz n r) (hn : n ≤ 1900) : m_less [sh q, sh r] p = .ok (.bl (qlt q r)) p := less_q p (h.fr hn) (k.fr hn)
theorem fnM_exc {fld : Nat → List Str} {N : Nat} {body : R.S} {xs : List PV} {p q : Pool} {c : Nat} {en2 : En} (h : body ⟨p.length, xs.map some ++ List.replicate (N - xs.length) none⟩ p = .exc c none en2 q) : fnM fld N body xs p = .exc c none (q.take p.length) := by
  unfold fnM
  rw [h]
/-- nothing to divide by -/
theorem refused_ok : m_law_refused [sh q] p = .ok (.bl true) p := by
  have sz : m_Share_init [.int 0, .int 5] p = .ok (sh (0, 1)) p := share_any 0 5 p (by decide) (Nat.lt_of_le_of_lt (by decide : (5 : Int).natAbs ≤ 2 ^ 3) (Nat.pow_lt_pow_right (by decide) (by decide)))
  have ex : m_over [sh q, sh (0, 1)] p = .exc 5 none p := by
    have e : b_over ⟨p.length, [some (sh q), some (sh (0, 1))]⟩ p = .exc 5 none ⟨p.length, [some (sh q), some (sh (0, 1))]⟩ p := by
      unfold b_over
      have t : sIf (mB (mBin pEq (mFld 0 0 (mVar 1)) (mC (.int 0)))) (sRaise 5) sNop ⟨p.length, [some (sh q), some (sh (0, 1))]⟩ p = .exc 5 none ⟨p.length, [some (sh q), some (sh (0, 1))]⟩ p := (if_t (b_ok (eq_yes (x := 0) (y := 0) (f0 (q := (0, 1)) rfl) rfl rfl))).trans rfl
      unfold sSeq
      rw [t]
      rfl
    unfold m_over
    rw [fnM_exc (en2 := ⟨p.length, [some (sh q), some (sh (0, 1))]⟩) (q := p) e, List.take_length]
  unfold m_law_refused
  refine fnM_pure (x := .bl true) ?_ rfl
  show b_law_refused ⟨p.length, [some (sh q)]⟩ p = _
  unfold b_law_refused
  refine seq_ret ?_
  have b : sExpr (mFn m_over [] (mCons (mVar 0) (mCons (mFn m_Share_init [] (mCons (mC (.int 0)) (mCons (mC (.int 5)) mNil))) mNil))) ⟨p.length, [some (sh q)]⟩ p = .exc 5 none ⟨p.length, [some (sh q)]⟩ p := by
    have c : mFn m_over [] (mCons (mVar 0) (mCons (mFn m_Share_init [] (mCons (mC (.int 0)) (mCons (mC (.int 5)) mNil))) mNil)) ⟨p.length, [some (sh q)]⟩ p = .exc 5 none p := fn0_ok (two_ok (var_ok rfl) (fn0_ok (two_ok (a := mC (.int 0)) rfl (b := mC (.int 5)) rfl) sz)) ex
    unfold sExpr
    rw [c]
    rfl
  unfold sTry
  rw [b]
  rfl
end

/-! ### the order -/
theorem pTr_of {p : Pool} {x y : PV} {f : PV → PV → Option Bool} {b : Bool} (hx : bel 0 x = true) (hy : bel 0 y = true) (h : f x y = some b) : pTr fldT f x y p = .ok (.bl b) p := by
  unfold pTr
  rw [thaw_bel hx, thaw_bel hy]
  dsimp only
  rw [h]
theorem eqO_sh (q r : Fq) : fO 0 eqO (sh q) (sh r) = some (decide (q = r)) := by
  show some (decide (q.1 = r.1) && decide (q.2 = r.2)) = _
  congr 1
  by_cases h1 : q.1 = r.1
  · by_cases h2 : q.2 = r.2
    · rw [decide_eq_true h1, decide_eq_true h2, decide_eq_true (Prod.ext h1 h2)]
      rfl
    · rw [decide_eq_false h2, decide_eq_false fun e : q = r => h2 (by rw [e]), Bool.and_false]
  · rw [decide_eq_false h1, decide_eq_false fun e : q = r => h1 (by rw [e]), Bool.false_and]
theorem ne_bl (x : Bool) (p : Pool) : pNe (.bl x) (.bl x) p = .ok (.bl false) p := by cases x <;> rfl
theorem eq_bl (x : Bool) (p : Pool) : pEq (.bl x) (.bl x) p = .ok (.bl true) p := by cases x <;> rfl
theorem qlt_lwz {a b c d : Int} (hb : 0 < b) (hd : 0 < d) : qlt (lwz a b) (lwz c d) = decide (a * d < c * b) := by rw [lwz_pos hb, lwz_pos hd, qlt_lwl hb hd]
theorem dec_iff {a b : Prop} [Decidable a] [Decidable b] (h : a ↔ b) : decide a = decide b := by
  by_cases z : a
  · rw [decide_eq_true z, decide_eq_true (h.mp z)]
  · rw [decide_eq_false z, decide_eq_false fun e => z (h.mpr e)]
theorem lt_scale {x y k : Int} (h : 0 < k) : k * x < k * y ↔ x < y := Int.mul_lt_mul_left h
theorem qlt_plus {q r t : Fq} (hq : 0 < q.2) (hr : 0 < r.2) (ht : 0 < t.2) : qlt (lwz (q.1 * t.2 + t.1 * q.2) (q.2 * t.2)) (lwz (r.1 * t.2 + t.1 * r.2) (r.2 * t.2)) = qlt q r := by
  rw [qlt_lwz (Int.mul_pos hq ht) (Int.mul_pos hr ht)]
  unfold qlt
  refine dec_iff ?_
  have k := Int.mul_pos ht ht
  have e1 : (q.1 * t.2 + t.1 * q.2) * (r.2 * t.2) = (t.2 * t.2) * (q.1 * r.2) + t.1 * q.2 * r.2 * t.2 := by grind
  have e2 : (r.1 * t.2 + t.1 * r.2) * (q.2 * t.2) = (t.2 * t.2) * (r.1 * q.2) + t.1 * q.2 * r.2 * t.2 := by grind
  rw [e1, e2]
  have := lt_scale (x := q.1 * r.2) (y := r.1 * q.2) k
  generalize t.2 * t.2 * (q.1 * r.2) = x at *
  generalize t.2 * t.2 * (r.1 * q.2) = y at *
  generalize t.1 * q.2 * r.2 * t.2 = z at *
  constructor
  · intro h
    exact this.mp (by omega)
  · intro h
    have := this.mpr h
    omega
theorem qlt_times {q r t : Fq} (hq : 0 < q.2) (hr : 0 < r.2) (ht : 0 < t.2) (h1 : 0 < t.1) : qlt (lwz (q.1 * t.1) (q.2 * t.2)) (lwz (r.1 * t.1) (r.2 * t.2)) = qlt q r := by
  rw [qlt_lwz (Int.mul_pos hq ht) (Int.mul_pos hr ht)]
  unfold qlt
  refine dec_iff ?_
  have k := Int.mul_pos h1 ht
  have e1 : q.1 * t.1 * (r.2 * t.2) = (t.1 * t.2) * (q.1 * r.2) := by grind
  have e2 : r.1 * t.1 * (q.2 * t.2) = (t.1 * t.2) * (r.1 * q.2) := by grind
  rw [e1, e2]
  exact lt_scale k
theorem qlt_turn {q r t : Fq} (hq : 0 < q.2) (hr : 0 < r.2) (ht : 0 < t.2) (h1 : t.1 < 0) : qlt (lwz (r.1 * t.1) (r.2 * t.2)) (lwz (q.1 * t.1) (q.2 * t.2)) = qlt q r := by
  rw [qlt_lwz (Int.mul_pos hr ht) (Int.mul_pos hq ht)]
  unfold qlt
  refine dec_iff ?_
  have k : 0 < -t.1 * t.2 := Int.mul_pos (by omega) ht
  have e1 : r.1 * t.1 * (q.2 * t.2) = -((-t.1 * t.2) * (r.1 * q.2)) := by grind
  have e2 : q.1 * t.1 * (r.2 * t.2) = -((-t.1 * t.2) * (q.1 * r.2)) := by grind
  rw [e1, e2]
  have := lt_scale (x := q.1 * r.2) (y := r.1 * q.2) k
  generalize -t.1 * t.2 * (q.1 * r.2) = x at *
  generalize -t.1 * t.2 * (r.1 * q.2) = y at *
  constructor
  · intro h
    exact this.mp (by omega)
  · intro h
    have := this.mpr h
    omega
section
variable {p : Pool} {q r t : Fq} {n : Nat}
theorem Sz.plus (h : Sz n q) (k : Sz n r) : Sz (n + n + 1) (lwz (q.1 * r.2 + r.1 * q.2) (q.2 * r.2)) := sz_lwz (h.mul0 k) ((h.t.mul k.b).add (k.t.mul h.b)) ((h.b.mul k.b).mono (by omega))
theorem Sz.times (h : Sz n q) (k : Sz n r) : Sz (n + n) (lwz (q.1 * r.1) (q.2 * r.2)) := sz_lwz (h.mul0 k) (h.t.mul k.t) (h.b.mul k.b)
theorem one_f : (1 : Int).natAbs < fuel := Nat.lt_of_le_of_lt (by decide : (1 : Int).natAbs ≤ 2 ^ 3) (Nat.pow_lt_pow_right (by decide) (by decide))
theorem share_01 : m_Share_init [.int 0, .int 1] p = .ok (sh (0, 1)) p := share_any 0 1 p (by decide) one_f
theorem sz01 : Sz n (0, 1) → True := fun _ => trivial
theorem order_ok (h : Sz 180 q) (k : Sz 180 r) (l : Sz 180 t) : m_law_order_right [.lst [sh q, sh r, sh t]] p = .ok (.bl true) p := by
  have q0 := h.co.pos
  have r0 := k.co.pos
  have t0 := l.co.pos
  have z01 : Sz 180 ((0, 1) : Fq) := ⟨⟨by decide, by decide⟩, by unfold Z; decide, by unfold Z; decide⟩
  unfold m_law_order_right
  refine fnM_pure (x := .bl true) ?_ rfl
  show b_law_order_right ⟨p.length, [some (.lst [sh q, sh r, sh t]), none, none, none]⟩ p = _
  unfold b_law_order_right
  refine (seq_nx (asg_nx (as := [(1, sh q), (2, sh r), (3, sh t)]) (var_ok (x := .lst [sh q, sh r, sh t]) rfl) rfl)).trans ?_
  have pl1 := plus_s (p := p) h l (by decide)
  have pl2 := plus_s (p := p) k l (by decide)
  have c1 : mFn m_less [] (mCons (mVar 1) (mCons (mVar 2) mNil)) ⟨p.length, [some (.lst [sh q, sh r, sh t]), some (sh q), some (sh r), some (sh t)]⟩ p = .ok (.bl (qlt q r)) p := fn0_ok (two_ok (var_ok rfl) (var_ok rfl)) (less_s h k (by decide))
  have t1 : mB (mBin pNe (mFn m_less [] (mCons (mFn m_plus [] (mCons (mVar 1) (mCons (mVar 3) mNil))) (mCons (mFn m_plus [] (mCons (mVar 2) (mCons (mVar 3) mNil))) mNil))) (mFn m_less [] (mCons (mVar 1) (mCons (mVar 2) mNil)))) ⟨p.length, [some (.lst [sh q, sh r, sh t]), some (sh q), some (sh r), some (sh t)]⟩ p = .ok false p := by
    have z := less_s (p := p) (h.plus l) (k.plus l) (by decide)
    rw [qlt_plus q0 r0 t0] at z
    exact b_ok (bin_ok (fn0_ok (two_ok (fn0_ok (two_ok (var_ok rfl) (var_ok rfl)) pl1) (fn0_ok (two_ok (var_ok rfl) (var_ok rfl)) pl2)) z) c1 (ne_bl _ _))
  refine (seq_nx ((if_f t1).trans rfl)).trans ?_
  have ti1 := times_s (p := p) h l (by decide)
  have ti2 := times_s (p := p) k l (by decide)
  have t2 : mB (mBin (pTr fldT (fO 0 eqO)) (mVar 3) (mFn m_Share_init [.int 1] (mCons (mC (.int 0)) mNil))) ⟨p.length, [some (.lst [sh q, sh r, sh t]), some (sh q), some (sh r), some (sh t)]⟩ p = .ok (decide (t = (0, 1))) p :=
    b_ok (bin_ok (var_ok rfl) (fn_ok (one_ok (a := mC (.int 0)) rfl) share_01) (pTr_of (bel_sh 0 _) (bel_sh 0 _) (eqO_sh _ _)))
  by_cases c : t = (0, 1)
  · rw [decide_eq_true c] at t2
    refine seq_ret ((if_t t2).trans (ret_ok (bin_ok (fn0_ok (two_ok (var_ok rfl) (var_ok rfl)) ti1) (fn0_ok (two_ok (var_ok rfl) (var_ok rfl)) ti2) (pTr_of (bel_sh 0 _) (bel_sh 0 _) ((eqO_sh _ _).trans ?_)))))
    have e : t.1 = 0 := by rw [c]
    rw [decide_eq_true (lwz_eq (h.mul0 l) (k.mul0 l) (by rw [e]; grind))]
  rw [decide_eq_false c] at t2
  refine (seq_nx ((if_f t2).trans rfl)).trans ?_
  have t3 : mB (mFn m_less [] (mCons (mFn m_Share_init [.int 1] (mCons (mC (.int 0)) mNil)) (mCons (mVar 3) mNil))) ⟨p.length, [some (.lst [sh q, sh r, sh t]), some (sh q), some (sh r), some (sh t)]⟩ p = .ok (qlt (0, 1) t) p :=
    b_ok (fn0_ok (two_ok (fn_ok (one_ok (a := mC (.int 0)) rfl) share_01) (var_ok rfl)) (less_s z01 l (by decide)))
  have e3 : qlt (0, 1) t = decide (0 < t.1) := by
    unfold qlt
    refine dec_iff ?_
    dsimp only
    omega
  rw [e3] at t3
  by_cases d : 0 < t.1
  · rw [decide_eq_true d] at t3
    have z := less_s (p := p) (h.times l) (k.times l) (by decide)
    rw [qlt_times q0 r0 t0 d] at z
    exact seq_ret ((if_t t3).trans (ret_ok (bin_ok (fn0_ok (two_ok (fn0_ok (two_ok (var_ok rfl) (var_ok rfl)) ti1) (fn0_ok (two_ok (var_ok rfl) (var_ok rfl)) ti2)) z) c1 (eq_bl _ _))))
  · rw [decide_eq_false d] at t3
    have tn : t.1 < 0 := by
      have : t.1 ≠ 0 := fun e => c (by
        have hc := l.co.co
        rw [e, Int.gcd_zero_left] at hc
        exact Prod.ext e (by show t.2 = 1; omega))
      omega
    have z := less_s (p := p) (k.times l) (h.times l) (by decide)
    rw [qlt_turn q0 r0 t0 tn] at z
    refine (seq_nx ((if_f t3).trans rfl)).trans ?_
    exact ret_ok (bin_ok (fn0_ok (two_ok (fn0_ok (two_ok (var_ok rfl) (var_ok rfl)) ti2) (fn0_ok (two_ok (var_ok rfl) (var_ok rfl)) ti1)) z) c1 (eq_bl _ _))
end

theorem rep_ok (x y : Bool) : ∃ s, (∀ p, cRepr [.lst [.bl x, .bl y]] p = .ok (.str s) p) ∧ PyData.strOk s = true := by
  cases x <;> cases y <;> exact ⟨_, fun p => by
    unfold cRepr
    dsimp only [toD, toDs]
    rw [if_pos (by decide +kernel)], by decide +kernel⟩
theorem str_eq (s : Str) (hs : PyData.strOk s = true) (p : Pool) : pEq (.str s) (.str s) p = .ok (.bl true) p := by
  unfold pEq eqD
  dsimp only [toD]
  have e : PyData.eqv (.str s) (.str s) = true := by
    unfold PyData.eqv
    simp
  have e2 : SeqAt.shaped (.str s) = true := by simp [SeqAt.shaped, PyData.canLay0, PyData.depth, hs]
  rw [e2, e]
  rfl
theorem eqD_pair2 (q : Fq) : eqD (pr q) (pr q) = some true := by
  show (if SeqAt.shaped (.tuple [.int q.1, .int q.2]) = true ∧ SeqAt.shaped (.tuple [.int q.1, .int q.2]) = true then some (PyData.eqv (.tuple [.int q.1, .int q.2]) (.tuple [.int q.1, .int q.2])) else none) = _
  rw [if_pos ⟨rfl, rfl⟩]
  simp [PyData.eqv, PyData.eqvAll]
theorem ne_pr (q : Fq) (p : Pool) : pNe (pr q) (pr q) p = .ok (.bl false) p := by
  unfold pNe
  rw [eqD_pair2]
  rfl
/-! ### two shares -/
/-- what was told, and what is due -/
structure Due where
  w : Fq
  u : Int
  v : Int
def Due.pv (x : Due) : PV := .tup [sh x.w, .tup [.int x.u, .int x.v]]
def Due.ok (x : Due) : Prop := x.v ≠ 0 ∧ x.v.natAbs < fuel ∧ x.w = lwz x.u x.v
theorem bels_due (n : Nat) (l : List Due) : bels n (l.map Due.pv) = true := bels_iff.mpr fun x hx => by
  obtain ⟨z, _, rfl⟩ := List.mem_map.mp hx
  rfl
section
variable {p : Pool} {a b c d : Int}
abbrev twEn (p : Pool) (a b c d : Int) (x8 x9 x10 x11 : Option PV) : En := ⟨p.length, [some (pr (a, b)), some (pr (c, d)), some (.int a), some (.int b), some (.int c), some (.int d), some (sh (lwz a b)), some (sh (lwz c d)), x8, x9, x10, x11]⟩
def twIn : S := (sIf (mOr (mNot (mB (mIsi 1 (.cls 0) (mVar 9)))) (mB (mBin pNe (mTup (mCons (mFld 0 0 (mVar 9)) (mCons (mFld 0 1 (mVar 9)) mNil))) (mFn m_law_lowered [] (mCons (mBin pIx (mVar 10) (mC (.int 0))) (mCons (mBin pIx (mVar 10) (mC (.int 1))) mNil))))))
    (sRet (mC (.bl false)))
    sNop)
def twTl : S := (sSeq (sIce 8)
    (sSeq (sFor (itS (mVar 8)) (tgT 2 (tgCons (tgN 9) (tgCons (tgN 10) tgNil)))
    (sIf (mOr (mNot (mB (mIsi 1 (.cls 0) (mVar 9)))) (mB (mBin pNe (mTup (mCons (mFld 0 0 (mVar 9)) (mCons (mFld 0 1 (mVar 9)) mNil))) (mFn m_law_lowered [] (mCons (mBin pIx (mVar 10) (mC (.int 0))) (mCons (mBin pIx (mVar 10) (mC (.int 1))) mNil))))))
    (sRet (mC (.bl false)))
    sNop))
    (sSeq (sIf (mOr (mB (mBin pNe (mBin (pTr fldT (fO 0 eqO)) (mVar 6) (mVar 7)) (mBin pEq (mBin pMul (mVar 2) (mVar 5)) (mBin pMul (mVar 4) (mVar 3))))) (mB (mBin (pTr fldT (fIn (fR 0))) (mVar 6) (mLst (mCons (mTup (mCons (mFld 0 0 (mVar 6)) (mCons (mFld 0 1 (mVar 6)) mNil))) (mCons (mVar 2) (mCons (mC .non) mNil)))))))
    (sRet (mC (.bl false)))
    sNop)
    (sSeq (sSet (mBin pIx (mFn m_law_lowered [] (mCons (mBin pSub (mBin pMul (mVar 2) (mVar 5)) (mBin pMul (mVar 4) (mVar 3))) (mCons (mBin pMul (mVar 3) (mVar 5)) mNil))) (mC (.int 0))) 11)
    (sRet (mBin pEq (mCall cRepr (mCons (mLst (mCons (mFn m_less [] (mCons (mVar 6) (mCons (mVar 7) mNil))) (mCons (mFn m_less [] (mCons (mVar 7) (mCons (mVar 6) mNil))) mNil))) mNil)) (mCall cRepr (mCons (mLst (mCons (mBin pLt (mVar 11) (mC (.int 0))) (mCons (mBin pGt (mVar 11) (mC (.int 0))) mNil))) mNil))))))))
theorem dues_right (L : List Due) (hl : L.length ≤ 8) (hL : ∀ x ∈ L, x.ok) (q : Pool) (x9 x10 : Option PV) : ∃ y9 y10, sFor (itS (mVar 8)) (tgT 2 (tgCons (tgN 9) (tgCons (tgN 10) tgNil))) twIn (twEn p a b c d (some (.lst (L.map Due.pv))) x9 x10 none) q = .next (twEn p a b c d (some (.lst (L.map Due.pv))) y9 y10 none) q := by
  obtain ⟨en2, p2, e, y9, y10, rfl, rfl⟩ := sFor_idx (it := itS (mVar 8)) (g := tgT 2 (tgCons (tgN 9) (tgCons (tgN 10) tgNil))) (body := twIn) (en := twEn p a b c d (some (.lst (L.map Due.pv))) x9 x10 none) (p := q)
    (fun _ en q2 => ∃ y9 y10 : Option PV, en = twEn p a b c d (some (.lst (L.map Due.pv))) y9 y10 none ∧ q2 = q)
    (itS_lst (var_ok rfl)) (fun _ _ _ _ => rfl) (fun j hj en q2 ⟨y9, y10, he, hq⟩ => by
      subst he
      subst hq
      have hj : j < (L.map Due.pv).length := hj
      have hj2 : j < L.length := by rw [List.length_map] at hj; exact hj
      have g := hL L[j] (List.getElem_mem hj2)
      show ∃ as en2 p2, tgT 2 (tgCons (tgN 9) (tgCons (tgN 10) tgNil)) (L.map Due.pv)[j] = some as ∧ _
      rw [List.getElem_map]
      generalize L[j] = x at g
      obtain ⟨h1, h2, h3⟩ := g
      refine ⟨[(9, sh x.w), (10, .tup [.int x.u, .int x.v])], _, _, rfl, ?_, some (sh x.w), some (.tup [.int x.u, .int x.v]), rfl, rfl⟩
      have l := lowered_any x.u x.v q2 h1 h2
      rw [← h3] at l
      exact (if_f ((or_f (not_t (b_ok (isi_ok (n := 1) (t := .cls 0) (var_ok (x := sh x.w) rfl) rfl)))).trans (b_ok (bin_ok (x := pr x.w) (tup_ok (two_ok (f0 rfl) (f1 rfl))) (fn0_ok (two_ok (at_ok (i := 0) (x := .tup [.int x.u, .int x.v]) (var_ok rfl) rfl rfl rfl) (at_ok (i := 1) (x := .tup [.int x.u, .int x.v]) (var_ok rfl) rfl rfl rfl)) l) (ne_pr _ _))))).trans rfl) ⟨x9, x10, rfl, rfl⟩
  exact ⟨y9, y10, e⟩
set_option maxHeartbeats 0 in
theorem two_right_ok (hb : b ≠ 0) (hd : d ≠ 0) (za : Z 180 a) (zb : Z 180 b) (zc : Z 180 c) (zd : Z 180 d) : m_law_two_right [pr (a, b), pr (c, d)] p = .ok (.bl true) p := by
  have hq := sz_lwz hb za zb
  have hr := sz_lwz hd zc zd
  have q0 := hq.co.pos
  have r0 := hr.co.pos
  have k1 := lwz_cross (a := a) hb
  have k2 := lwz_cross (a := c) hd
  have bd0 : b * d ≠ 0 := Int.mul_ne_zero hb hd
  have qr0 := hq.mul0 hr
  have ad := za.mul zd
  have cb := zc.mul zb
  have bd := zb.mul zd
  have ac := za.mul zc
  have bc := zb.mul zc
  have e1 : ∀ q, m_Share_init [.int a, .int b] q = .ok (sh (lwz a b)) q := fun q => share_any a b q hb (zb.fuel (by decide))
  have e2 : ∀ q, m_Share_init [.int c, .int d] q = .ok (sh (lwz c d)) q := fun q => share_any c d q hd (zd.fuel (by decide))
  have pl := fun q => plus_s (p := q) hq hr (by decide)
  have mi := fun q => minus_s (p := q) hq hr (by decide)
  have ti := fun q => times_s (p := q) hq hr (by decide)
  have f1' : lwz ((lwz a b).1 * (lwz c d).2 + (lwz c d).1 * (lwz a b).2) ((lwz a b).2 * (lwz c d).2) = lwz (a * d + c * b) (b * d) := lwz_eq qr0 bd0 (by
    generalize (lwz a b).1 = x at *
    generalize (lwz a b).2 = y at *
    generalize (lwz c d).1 = u at *
    generalize (lwz c d).2 = v at *
    have m1 : (x * v + u * y) * (b * d) = (x * b) * v * d + (u * d) * y * b := by grind
    rw [m1, k1, k2]
    grind)
  have f2' : lwz ((lwz a b).1 * (lwz c d).2 - (lwz c d).1 * (lwz a b).2) ((lwz a b).2 * (lwz c d).2) = lwz (a * d - c * b) (b * d) := lwz_eq qr0 bd0 (by
    generalize (lwz a b).1 = x at *
    generalize (lwz a b).2 = y at *
    generalize (lwz c d).1 = u at *
    generalize (lwz c d).2 = v at *
    have m1 : (x * v - u * y) * (b * d) = (x * b) * v * d - (u * d) * y * b := by grind
    rw [m1, k1, k2]
    grind)
  have f3' : lwz ((lwz a b).1 * (lwz c d).1) ((lwz a b).2 * (lwz c d).2) = lwz (a * c) (b * d) := lwz_eq qr0 bd0 (by
    generalize (lwz a b).1 = x at *
    generalize (lwz a b).2 = y at *
    generalize (lwz c d).1 = u at *
    generalize (lwz c d).2 = v at *
    have m1 : x * u * (b * d) = (x * b) * (u * d) := by grind
    rw [m1, k1, k2]
    grind)
  have ovr : ∀ q, c ≠ 0 → m_over [sh (lwz a b), sh (lwz c d)] q = .ok (sh (lwz (a * d) (b * c))) q := fun q hc => by
    have rn : (lwz c d).1 ≠ 0 := fun e => hc (by
      rw [e, Int.zero_mul] at k2
      rcases Int.mul_eq_zero.mp k2.symm with z | z
      · exact z
      · omega)
    rw [over_s hq hr (by decide) rn, lwz_eq (c := a * d) (d := b * c) (Int.mul_ne_zero (by omega) rn) (Int.mul_ne_zero hb hc) (by
      generalize (lwz a b).1 = x at *
      generalize (lwz a b).2 = y at *
      generalize (lwz c d).1 = u at *
      generalize (lwz c d).2 = v at *
      have m1 : x * v * (b * c) = (x * b) * (c * v) := by grind
      rw [m1, k1, ← k2]
      grind)]
  have sg := lw_sign (x := (lwz a b).1 * (lwz c d).2 - (lwz c d).1 * (lwz a b).2) (Int.mul_pos q0 r0)
  rw [← lwz_pos (Int.mul_pos q0 r0), f2'] at sg
  have s1 : decide ((lwz (a * d - c * b) (b * d)).1 < 0) = qlt (lwz a b) (lwz c d) := sg.1.trans (dec_iff (by omega))
  have s2 : decide (0 < (lwz (a * d - c * b) (b * d)).1) = qlt (lwz c d) (lwz a b) := sg.2.trans (dec_iff (by omega))
  have okm : ∀ {x y : Int}, Z 180 x → Z 180 y → okMul x y = true := fun h k => h.okMul k (by decide) (by decide)
  -- the end
  have rest : ∀ L : List Due, L.length ≤ 8 → (∀ x ∈ L, x.ok) → twTl (twEn p a b c d (some (.own p.length)) none none none) (p ++ [.lst (L.map Due.pv)]) = .ret (.bl true) (p ++ [.dead]) := fun L hl hL => by
    unfold twTl
    refine (seq_nx (ice_nx (k := p.length) rfl (get_last p _) (bels_due 0 L))).trans ?_
    rw [set_last]
    obtain ⟨y9, y10, e⟩ := dues_right (p := p) (a := a) (b := b) (c := c) (d := d) L hl hL (p ++ [.dead]) none none
    refine (seq_nx e).trans ?_
    have t1 : mB (mBin pNe (mBin (pTr fldT (fO 0 eqO)) (mVar 6) (mVar 7)) (mBin pEq (mBin pMul (mVar 2) (mVar 5)) (mBin pMul (mVar 4) (mVar 3)))) (twEn p a b c d (some (.lst (L.map Due.pv))) y9 y10 none) (p ++ [.dead]) = .ok false (p ++ [.dead]) := by
      have z := eqO_sh (lwz a b) (lwz c d)
      rw [dec_iff (lwz_iff (a := a) (c := c) hb hd)] at z
      exact b_ok (bin_ok (bin_ok (var_ok rfl) (var_ok rfl) (pTr_of (bel_sh 0 _) (bel_sh 0 _) z)) (eq_ok (mul_ok (var_ok rfl) (var_ok rfl) (okm za zd)) (mul_ok (var_ok rfl) (var_ok rfl) (okm zc zb))) (ne_bl _ _))
    have t2 : mB (mBin (pTr fldT (fIn (fR 0))) (mVar 6) (mLst (mCons (mTup (mCons (mFld 0 0 (mVar 6)) (mCons (mFld 0 1 (mVar 6)) mNil))) (mCons (mVar 2) (mCons (mC .non) mNil))))) (twEn p a b c d (some (.lst (L.map Due.pv))) y9 y10 none) (p ++ [.dead]) = .ok false (p ++ [.dead]) :=
      b_ok (bin_ok (var_ok (x := sh (lwz a b)) rfl) (lst_ok (three_ok (x := pr (lwz a b)) (tup_ok (two_ok (f0 rfl) (f1 rfl))) (var_ok (x := .int a) rfl) (c := mC .non) rfl)) (pTr_of (bel_sh 0 _) rfl rfl))
    refine (seq_nx ((if_f ((or_f t1).trans t2)).trans rfl)).trans ?_
    refine (seq_nx (set_nx (at_ok (i := 0) (x := pr (lwz (a * d - c * b) (b * d))) (fn0_ok (two_ok (sub_ok (mul_ok (var_ok rfl) (var_ok rfl) (okm za zd)) (mul_ok (var_ok rfl) (var_ok rfl) (okm zc zb))) (mul_ok (var_ok rfl) (var_ok rfl) (okm zb zd))) (lowered_any _ _ _ bd0 (bd.fuel (by decide)))) rfl rfl rfl))).trans ?_
    obtain ⟨S, hS, hk⟩ := rep_ok (qlt (lwz a b) (lwz c d)) (qlt (lwz c d) (lwz a b))
    have r1 := lt_ok (x := (lwz (a * d - c * b) (b * d)).1) (y := 0) (a := mVar 11) (b := mC (.int 0)) (en := twEn p a b c d (some (.lst (L.map Due.pv))) y9 y10 (some (.int (lwz (a * d - c * b) (b * d)).1))) (p := p ++ [.dead]) (p1 := p ++ [.dead]) (p2 := p ++ [.dead]) (var_ok rfl) rfl
    have r2 := gt_ok (x := (lwz (a * d - c * b) (b * d)).1) (y := 0) (a := mVar 11) (b := mC (.int 0)) (en := twEn p a b c d (some (.lst (L.map Due.pv))) y9 y10 (some (.int (lwz (a * d - c * b) (b * d)).1))) (p := p ++ [.dead]) (p1 := p ++ [.dead]) (p2 := p ++ [.dead]) (var_ok rfl) rfl
    rw [s1] at r1
    rw [s2] at r2
    exact ret_ok (bin_ok (call_ok (one_ok (lst_ok (two_ok (fn0_ok (two_ok (var_ok rfl) (var_ok rfl)) (less_s hq hr (by decide))) (fn0_ok (two_ok (var_ok rfl) (var_ok rfl)) (less_s hr hq (by decide)))))) (hS _)) (call_ok (one_ok (lst_ok (two_ok r1 r2))) (hS _)) (str_eq S hk _))
  have D1 : Due.ok ⟨lwz (a * d + c * b) (b * d), a * d + c * b, b * d⟩ := ⟨bd0, bd.fuel (by decide), rfl⟩
  have D2 : Due.ok ⟨lwz (a * d - c * b) (b * d), a * d - c * b, b * d⟩ := ⟨bd0, bd.fuel (by decide), rfl⟩
  have D3 : Due.ok ⟨lwz (a * c) (b * d), a * c, b * d⟩ := ⟨bd0, bd.fuel (by decide), rfl⟩
  unfold m_law_two_right
  refine fnM_cells (q := p) (r := [.dead]) ?_ rfl rfl
  show b_law_two_right ⟨p.length, [some (pr (a, b)), some (pr (c, d)), none, none, none, none, none, none, none, none, none, none]⟩ p = _
  unfold b_law_two_right
  refine (seq_nx (asg_nx (as := [(2, .int a), (3, .int b)]) (var_ok (x := pr (a, b)) rfl) rfl)).trans ?_
  refine (seq_nx (asg_nx (as := [(4, .int c), (5, .int d)]) (var_ok (x := pr (c, d)) rfl) rfl)).trans ?_
  refine (seq_nx (par_nx (two_ok (fn0_ok (two_ok (var_ok rfl) (var_ok rfl)) (e1 _)) (fn0_ok (two_ok (var_ok rfl) (var_ok rfl)) (e2 _))))).trans ?_
  refine (seq_nx (set_nx (lstO_ok (two_ok (x := Due.pv ⟨lwz (a * d + c * b) (b * d), a * d + c * b, b * d⟩) (y := Due.pv ⟨lwz (a * d - c * b) (b * d), a * d - c * b, b * d⟩)
      (tup_ok (two_ok (fn0_ok (two_ok (var_ok rfl) (var_ok rfl)) ((pl p).trans (by rw [f1']))) (tup_ok (two_ok (add_ok (mul_ok (var_ok rfl) (var_ok rfl) (okm za zd)) (mul_ok (var_ok rfl) (var_ok rfl) (okm zc zb))) (mul_ok (var_ok rfl) (var_ok rfl) (okm zb zd))))))
      (tup_ok (two_ok (fn0_ok (two_ok (var_ok rfl) (var_ok rfl)) ((mi p).trans (by rw [f2']))) (tup_ok (two_ok (sub_ok (mul_ok (var_ok rfl) (var_ok rfl) (okm za zd)) (mul_ok (var_ok rfl) (var_ok rfl) (okm zc zb))) (mul_ok (var_ok rfl) (var_ok rfl) (okm zb zd)))))))))).trans ?_
  refine (seq_nx (app_nx (k := p.length) (y := Due.pv ⟨lwz (a * c) (b * d), a * c, b * d⟩) rfl (get_last p _) (tup_ok (two_ok (fn0_ok (two_ok (var_ok rfl) (var_ok rfl)) ((ti _).trans (by rw [f3']))) (tup_ok (two_ok (mul_ok (var_ok rfl) (var_ok rfl) (okm za zc)) (mul_ok (var_ok rfl) (var_ok rfl) (okm zb zd)))))) (get_last p _) (mayL_le (Nat.le_refl _)) (by show 2 < big; decide))).trans ?_
  rw [set_last]
  by_cases hc : c = 0
  · refine (seq_nx ((if_f (b_ok (ne_no (x := c) (y := 0) (var_ok rfl) rfl hc))).trans rfl)).trans ?_
    refine rest [⟨lwz (a * d + c * b) (b * d), a * d + c * b, b * d⟩, ⟨lwz (a * d - c * b) (b * d), a * d - c * b, b * d⟩, ⟨lwz (a * c) (b * d), a * c, b * d⟩] (by show 3 ≤ 8; decide) (fun x hx => ?_)
    simp only [List.mem_cons, List.not_mem_nil, or_false] at hx
    rcases hx with rfl | rfl | rfl
    · exact D1
    · exact D2
    · exact D3
  · have D4 : Due.ok ⟨lwz (a * d) (b * c), a * d, b * c⟩ := ⟨Int.mul_ne_zero hb hc, (zb.mul zc).fuel (by decide), rfl⟩
    refine (seq_nx ((if_t (b_ok (ne_yes (x := c) (y := 0) (var_ok rfl) rfl hc))).trans (app_nx (k := p.length) (y := Due.pv ⟨lwz (a * d) (b * c), a * d, b * c⟩) rfl (get_last p _) (tup_ok (two_ok (fn0_ok (two_ok (var_ok rfl) (var_ok rfl)) (ovr _ hc)) (tup_ok (two_ok (mul_ok (var_ok rfl) (var_ok rfl) (okm za zd)) (mul_ok (var_ok rfl) (var_ok rfl) (okm zb zc)))))) (get_last p _) (mayL_le (Nat.le_refl _)) (by show 3 < big; decide)))).trans ?_
    rw [set_last]
    refine rest [⟨lwz (a * d + c * b) (b * d), a * d + c * b, b * d⟩, ⟨lwz (a * d - c * b) (b * d), a * d - c * b, b * d⟩, ⟨lwz (a * c) (b * d), a * c, b * d⟩, ⟨lwz (a * d) (b * c), a * d, b * c⟩] (by show 4 ≤ 8; decide) (fun x hx => ?_)
    simp only [List.mem_cons, List.not_mem_nil, or_false] at hx
    rcases hx with rfl | rfl | rfl | rfl
    · exact D1
    · exact D2
    · exact D3
    · exact D4
end

/-! ### numbers drawn -/
theorem pow25 {en : En} {p : Pool} : mBin pPow (mC (.int 10)) (mC (.int 25)) en p = .ok (.int (10 ^ (25 : Int).toNat)) p := rfl
theorem number_ok (p : Pool) (k : Nat) (hl : k < p.length) (s0 : Cell) (h0 : IsSrc s0) : ∃ (z : Int) (s : Cell), m_law_number [.own k] (p.set k s0) = .ok (.int z) (p.set k s) ∧ IsSrc s ∧ Z 176 z := by
  obtain ⟨d1, s1, e1, h1, a1, b1⟩ := next_set p k s0 25 hl h0 (by decide) (by decide)
  obtain ⟨d2, s2, e2, h2, a2, b2⟩ := next_set p k s1 (10 ^ (25 : Int).toNat) hl h1 (by decide) (by decide)
  obtain ⟨d3, s3, e3, h3, a3, b3⟩ := next_set p k s2 (10 ^ (25 : Int).toNat) hl h2 (by decide) (by decide)
  obtain ⟨d4, s4, e4, h4, a4, b4⟩ := next_set p k s3 6 hl h3 (by decide) (by decide)
  have zs : Z 4 (d1 - 12) := by
    unfold Z
    have : (2 : Nat) ^ 4 = 16 := by decide
    omega
  have z2 : Z 84 d2 := by
    unfold Z
    have t : ((10 : Int) ^ (25 : Int).toNat) < ((2 ^ 84 : Nat) : Int) := by decide
    omega
  have z3 : Z 84 d3 := by
    unfold Z
    have t : ((10 : Int) ^ (25 : Int).toNat) < ((2 ^ 84 : Nat) : Int) := by decide
    omega
  have zp : Z 84 ((10 : Int) ^ (25 : Int).toNat) := by
    unfold Z
    decide
  have zf : Z 169 (d2 * 10 ^ (25 : Int).toNat + d3) := (z2.mul zp).add (z3.mono (by decide))
  have z60 : Z 6 (60 : Int) := by unfold Z; decide
  obtain ⟨x, hx, ex⟩ := atI_mem [PV.int (d1 - 12), .int (d1 - 12), .int ((d1 - 12) * 60), .int (d2 * 10 ^ (25 : Int).toNat + d3), .int (0 - (d2 * 10 ^ (25 : Int).toNat + d3)), .int ((d1 - 12) * (d2 * 10 ^ (25 : Int).toNat + d3))] d4 a4 b4
  have c : ∃ z : Int, x = .int z ∧ Z 176 z := by
    simp only [List.mem_cons, List.not_mem_nil, or_false] at hx
    rcases hx with rfl | rfl | rfl | rfl | rfl | rfl
    · exact ⟨_, rfl, zs.mono (by decide)⟩
    · exact ⟨_, rfl, zs.mono (by decide)⟩
    · exact ⟨_, rfl, (zs.mul z60).mono (by decide)⟩
    · exact ⟨_, rfl, zf.mono (by decide)⟩
    · refine ⟨_, rfl, Z.mono (m := 169) ?_ (by decide)⟩
      unfold Z at zf ⊢
      omega
    · exact ⟨_, rfl, (zs.mul zf).mono (by decide)⟩
  obtain ⟨z, rfl, hz⟩ := c
  refine ⟨z, s4, ?_, h4, hz⟩
  unfold m_law_number
  refine fnM_cells (q := p.set k s4) (r := []) ?_ (by rw [List.length_set, List.length_set]) rfl
  rw [List.append_nil, List.length_set]
  show b_law_number ⟨p.length, [some (.own k), none, none]⟩ _ = _
  unfold b_law_number
  refine (seq_nx (set_nx (sub_ok (fn0_ok (two_ok (var_ok (i := 0) rfl) (b := mC (.int 25)) rfl) e1) rfl))).trans ?_
  refine (seq_nx (set_nx (add_ok (mul_ok (fn0_ok (two_ok (var_ok (i := 0) rfl) pow25) e2) pow25 (okMul_of (z2.fuel (by decide)) (zp.fuel (by decide)))) (fn0_ok (two_ok (var_ok (i := 0) rfl) pow25) e3)))).trans ?_
  exact ret_ok (bin_at (lst_ok (cons_ok (var_ok rfl) (cons_ok (var_ok rfl) (cons_ok (mul_ok (x := d1 - 12) (y := 60) (var_ok rfl) rfl (zs.okMul z60 (by decide) (by decide))) (three_ok (var_ok rfl) (sub_ok (x := 0) (a := mC (.int 0)) rfl (var_ok rfl)) (mul_ok (x := d1 - 12) (var_ok rfl) (var_ok rfl) (zs.okMul zf (by decide) (by decide)))))))) (fn0_ok (two_ok (var_ok (i := 0) rfl) (b := mC (.int 6)) rfl) e4) ex)
/-! ### the law -/
/-- a fraction as it is given -/
def Gv (x : Fq) : Prop := x.2 ≠ 0 ∧ Z 180 x.1 ∧ Z 180 x.2
def Gv0 (x : Fq) : Prop := x.2 ≠ 0 ∧ Z 177 x.1 ∧ Z 177 x.2
theorem Gv0.gv {x : Fq} (h : Gv0 x) : Gv x := ⟨h.1, h.2.1.mono (by decide), h.2.2.mono (by decide)⟩
theorem bels_prs (n : Nat) (l : List Fq) : bels n (l.map pr) = true := bels_iff.mpr fun x hx => by
  obtain ⟨z, _, rfl⟩ := List.mem_map.mp hx
  rfl
def lapIn : S := (sSeq (sAsg (mTup (mCons (mFn m_law_number [] (mCons (mVar 2) mNil)) (mCons (mFn m_law_number [] (mCons (mVar 2) mNil)) mNil))) (tgT 2 (tgCons (tgN 5) (tgCons (tgN 6) tgNil))))
    (sExpr (mMet fAppend (mVar 3) (mCons (mTup (mCons (mVar 5) (mCons (mBin pAdd (mVar 6) (mCall cInt (mCons (mBin pEq (mVar 6) (mC (.int 0))) mNil))) mNil))) mNil))))
theorem lap_ok (p : Pool) (k : Nat) (hl : k < p.length) (s0 : Cell) (h0 : IsSrc s0) (l : List Fq) (hn : l.length ≤ 8) (x0 x1 x4 x5 x6 x7 : Option PV) : ∃ (x : Fq) (s : Cell) (y5 y6 : Option PV), lapIn ⟨0, [x0, x1, some (.own k), some (.own p.length), x4, x5, x6, x7]⟩ (two p k (.lst (l.map pr)) s0)
      = .next ⟨0, [x0, x1, some (.own k), some (.own p.length), x4, y5, y6, x7]⟩ (two p k (.lst ((l ++ [x]).map pr)) s) ∧ IsSrc s ∧ Gv0 x := by
  obtain ⟨z1, s1, e1, h1, g1⟩ := number_ok (p ++ [.lst (l.map pr)]) k (two_lt hl _) s0 h0
  obtain ⟨z2, s2, e2, h2, g2⟩ := number_ok (p ++ [.lst (l.map pr)]) k (two_lt hl _) s1 h1
  refine ⟨(z1, z2 + (if decide (z2 = 0) = true then 1 else 0)), s2, some (.int z1), some (.int z2), ?_, h2, ?_, g1.mono (by decide), ?_⟩
  · unfold lapIn
    refine (seq_nx (asg_nx (as := [(5, .int z1), (6, .int z2)]) (tup_ok (two_ok (fn0_ok (one_ok (var_ok rfl)) e1) (fn0_ok (one_ok (var_ok rfl)) e2))) rfl)).trans ?_
    refine (app_nx (k := p.length) (y := pr (z1, z2 + (if decide (z2 = 0) = true then 1 else 0))) rfl (two_get hl _ _) (tup_ok (two_ok (var_ok rfl) (add_ok (var_ok rfl) (call_ok (one_ok (eq_ok (x := z2) (y := 0) (var_ok rfl) rfl)) rfl)))) (two_get hl _ _) (mayL_bels (bels_prs 0 (l ++ [_]) |> fun h => by rw [List.map_append] at h; exact h)) ?_).trans ?_
    · rw [List.length_map]
      exact Nat.lt_of_le_of_lt hn (by decide)
    · rw [two_set hl, List.map_append]
      rfl
  · show z2 + (if decide (z2 = 0) = true then 1 else 0) ≠ 0
    by_cases c : z2 = 0
    · rw [decide_eq_true c, if_pos rfl]
      omega
    · rw [decide_eq_false c, if_neg (by decide)]
      omega
  · show Z 177 (z2 + (if decide (z2 = 0) = true then 1 else 0))
    have o : Z 176 (if decide (z2 = 0) = true then (1 : Int) else 0) := by
      by_cases c : z2 = 0
      · rw [decide_eq_true c, if_pos rfl]
        unfold Z
        decide
      · rw [decide_eq_false c, if_neg (by decide)]
        unfold Z
        decide
    exact g2.add o

def oneIn : S := (sSeq (sSet (mFn m_Share_init [] (mCons (mBin pIx (mVar 5) (mC (.int 0))) (mCons (mBin pIx (mVar 5) (mC (.int 1))) mNil))) 7)
    (sSeq (sIf (mOr (mB (mBin pNe (mTup (mCons (mFld 0 0 (mVar 7)) (mCons (mFld 0 1 (mVar 7)) mNil))) (mFn m_law_lowered [] (mCons (mBin pIx (mVar 5) (mC (.int 0))) (mCons (mBin pIx (mVar 5) (mC (.int 1))) mNil))))) (mNot (mB (mFn m_law_refused [] (mCons (mVar 7) mNil)))))
    (sRet (mC (.bl false)))
    sNop)
    (sSeq (sIf (mB (mBin (pTr fldT (fun x y => (fO 0 eqO x y).map (!·))) (mFn m_Share_init [.int 1] (mCons (mBin pIx (mVar 5) (mC (.int 0))) mNil)) (mFn m_Share_init [] (mCons (mBin pIx (mVar 5) (mC (.int 0))) (mCons (mC (.int 1)) mNil)))))
    (sRet (mC (.bl false)))
    sNop)
    (sIf (mNot (mB (mCall cAll (mCons (mLc (itS (mVar 3)) (tgN 6) mYes (mFn m_law_two_right [] (mCons (mVar 5) (mCons (mVar 6) mNil))) [6]) mNil))))
    (sRet (mC (.bl false)))
    sNop))))
theorem one_in (l : List Fq) (hn : l.length ≤ 8) (hg : ∀ x ∈ l, Gv x) (x : Fq) (hx : Gv x) (q : Pool) (x0 x1 x2 x4 x6 x7 : Option PV) : ∃ y7 : Option PV, oneIn ⟨0, [x0, x1, x2, some (.lst (l.map pr)), x4, some (pr x), x6, x7]⟩ q = .next ⟨0, [x0, x1, x2, some (.lst (l.map pr)), x4, some (pr x), x6, y7]⟩ q := by
  have e1 := share_any x.1 x.2 q hx.1 (hx.2.2.fuel (by decide))
  have e2 := lowered_any x.1 x.2 q hx.1 (hx.2.2.fuel (by decide))
  have e3 := share_any x.1 1 q (by decide) one_f
  have a0 : ∀ y7, mBin pIx (mVar 5) (mC (.int 0)) ⟨0, [x0, x1, x2, some (.lst (l.map pr)), x4, some (pr x), x6, y7]⟩ q = .ok (.int x.1) q := fun y7 => at_ok (i := 0) (x := pr x) (var_ok rfl) rfl rfl rfl
  have a1 : ∀ y7, mBin pIx (mVar 5) (mC (.int 1)) ⟨0, [x0, x1, x2, some (.lst (l.map pr)), x4, some (pr x), x6, y7]⟩ q = .ok (.int x.2) q := fun y7 => at_ok (i := 1) (x := pr x) (var_ok rfl) rfl rfl rfl
  refine ⟨some (sh (lwz x.1 x.2)), ?_⟩
  unfold oneIn
  refine (seq_nx (set_nx (fn0_ok (two_ok (a0 _) (a1 _)) e1))).trans ?_
  refine (seq_nx ((if_f ((or_f (b_ok (bin_ok (x := pr (lwz x.1 x.2)) (tup_ok (two_ok (f0 rfl) (f1 rfl))) (fn0_ok (two_ok (a0 _) (a1 _)) e2) (ne_pr _ _)))).trans (not_t (b_ok (fn0_ok (one_ok (var_ok rfl)) refused_ok))))).trans rfl)).trans ?_
  refine (seq_nx ((if_f (b_ok (bin_ok (fn_ok (ds := [.int 1]) (one_ok (a0 _)) e3) (fn0_ok (two_ok (a0 _) (b := mC (.int 1)) rfl) e3) (pTr_of (bel_sh 0 _) (bel_sh 0 _) (b := false) (by rw [eqO_sh, decide_eq_true rfl]; rfl))))).trans rfl)).trans ?_
  have c : mLc (itS (mVar 3)) (tgN 6) mYes (mFn m_law_two_right [] (mCons (mVar 5) (mCons (mVar 6) mNil))) [6] ⟨0, [x0, x1, x2, some (.lst (l.map pr)), x4, some (pr x), x6, some (sh (lwz x.1 x.2))]⟩ q = .ok (.lst (l.map fun _ => .bl true)) q :=
    R.lc_list l pr (fun _ => .bl true) (itS_lst (var_ok rfl)) (fun _ => rfl) (fun y hy => ⟨[(6, pr y)], rfl, rfl, fun acc => ⟨fn0_ok (two_ok (var_ok rfl) (var_ok rfl)) (two_right_ok hx.1 (hg y hy).1 hx.2.1 hx.2.2 (hg y hy).2.1 (hg y hy).2.2), rfl⟩⟩) (Nat.le_trans hn (by decide))
  exact (if_f (not_t (b_ok (call_ok (one_ok c) (cAll_true _))))).trans rfl
set_option maxHeartbeats 0 in
theorem law_ok (ns : List Int) (hn : ns.length ≤ 63) : m_law [.scr ns] [] = .ok (.bl true) [] := by
  obtain ⟨n, hn1, hn2⟩ : ∃ n : Nat, (if (if (ns.length : Int) < 6 then (ns.length : Int) else 6) > 1 then (if (ns.length : Int) < 6 then (ns.length : Int) else 6) else 1) = (n : Int) ∧ n ≤ 6 := by
    refine ⟨((if (if (ns.length : Int) < 6 then (ns.length : Int) else 6) > 1 then (if (ns.length : Int) < 6 then (ns.length : Int) else 6) else 1) : Int).toNat, ?_, ?_⟩
    · split <;> split <;> omega
    · split <;> split <;> omega
  have c0 : mCons (mCall cMax (mCons (mC (.int 1)) (mCons (mCall cMin (mCons (mC (.int 6)) (mCons (mCall cLen (mCons (mVar 0) mNil)) mNil))) mNil))) mNil ⟨0, [some (.scr ns), none, none, none, none, none, none, none]⟩ [] = .ok [.int n] [] := by
    have e1 := len_ok (a := mVar 0) (en := ⟨0, [some (.scr ns), none, none, none, none, none, none, none]⟩) (p := []) (x := .scr ns) (var_ok rfl) rfl
    rw [List.length_map] at e1
    have e2 := call_ok (f := cMin) (r := .ok (.int (if (ns.length : Int) < 6 then (ns.length : Int) else 6)) []) (two_ok (a := mC (.int 6)) rfl e1) rfl
    have e3 := call_ok (f := cMax) (r := .ok (.int (if (if (ns.length : Int) < 6 then (ns.length : Int) else 6) > 1 then (if (ns.length : Int) < 6 then (ns.length : Int) else 6) else 1)) []) (two_ok (a := mC (.int 1)) rfl e2) rfl
    rw [hn1] at e3
    exact one_ok e3
  obtain ⟨en2, q, e, y1, y2, y3, y4, y5, y6, y7, rfl⟩ := sFor_range (i := 1) (n := n) (a := mCons (mCall cMax (mCons (mC (.int 1)) (mCons (mCall cMin (mCons (mC (.int 6)) (mCons (mCall cLen (mCons (mVar 0) mNil)) mNil))) mNil))) mNil)
    (body := (sSeq (sSet (mFn m_law_source [] (mCons (mVar 0) (mCons (mVar 1) mNil))) 2)
    (sSeq (sSet (mLstO mNil) 3)
    (sSeq (sFor (itR1 (mCons (mC (.int 4)) mNil)) (tgN 4)
    lapIn)
    (sSeq (sExpr (mMet fAppend (mVar 3) (mCons (mTup (mCons (mBin pMul (mBin pIx (mBin pIx (mVar 3) (mC (.int 0))) (mC (.int 0))) (mC (.int 7))) (mCons (mBin pMul (mBin pIx (mBin pIx (mVar 3) (mC (.int 0))) (mC (.int 1))) (mC (.int 7))) mNil))) mNil)))
    (sSeq (sExpr (mMet fAppend (mVar 3) (mCons (mTup (mCons (mC (.int 0)) (mCons (mBin pIx (mBin pIx (mVar 3) (mC (.int 1))) (mC (.int 1))) mNil))) mNil)))
    (sSeq (sIce 3)
    (sSeq (sFor (itS (mVar 3)) (tgN 5)
    oneIn)
    (sIf (mNot (mB (mFn m_law_order_right [] (mCons (mLc (itS (mSl (mVar 3) oNo (oYes (mC (.int 3))))) (tgN 5) mYes (mFn m_Share_init [] (mCons (mBin pIx (mVar 5) (mC (.int 0))) (mCons (mBin pIx (mVar 5) (mC (.int 1))) mNil))) [5]) mNil))))
    (sRet (mC (.bl false)))
    sNop)))))))))
    (en := ⟨0, [some (.scr ns), none, none, none, none, none, none, none]⟩) (p := []) (p1 := [])
    (fun j en q => ∃ y1 y2 y3 y4 y5 y6 y7 : Option PV, en = ⟨0, [some (.scr ns), y1, y2, y3, y4, y5, y6, y7]⟩)
    c0 (Nat.le_trans hn2 (by decide)) (fun j en q hj ⟨y1, y2, y3, y4, y5, y6, y7, he⟩ => by
      subst he
      obtain ⟨s, e1, h1⟩ := source_ok ns j q
      have e1s : q ++ [s] = (q ++ [s]).set q.length s := (set_last q s s).symm
      have hl : q.length < (q ++ [s]).length := by rw [len1]; omega
      generalize hP : q ++ [s] = P at *
      generalize hk : q.length = k at *
      obtain ⟨en3, q3, e3, s3, l, z4, z5, z6, rfl, rfl, h3, hlen, hgv⟩ := sFor_range (i := 4) (n := 4) (a := mCons (mC (.int 4)) mNil) (body := lapIn)
        (en := ⟨0, [some (.scr ns), some (.int j), some (.own k), some (.own P.length), y4, y5, y6, y7]⟩) (p := two P k (.lst (([] : List Fq).map pr)) s) (p1 := two P k (.lst (([] : List Fq).map pr)) s)
        (fun i en q' => ∃ (s3 : Cell) (l : List Fq) (z4 z5 z6 : Option PV), en = ⟨0, [some (.scr ns), some (.int j), some (.own k), some (.own P.length), z4, z5, z6, y7]⟩ ∧ q' = two P k (.lst (l.map pr)) s3 ∧ IsSrc s3 ∧ l.length = i ∧ ∀ x ∈ l, Gv0 x)
        rfl (by decide) (fun i en q' hi ⟨s3, l, z4, z5, z6, he, hq, h3, hlen, hgv⟩ => by
          subst he
          subst hq
          obtain ⟨x, s4, w5, w6, e4, h4, gx⟩ := lap_ok P k hl s3 h3 l (by omega) (some (.scr ns)) (some (.int j)) (some (.int i)) z5 z6 y7
          refine ⟨_, _, e4, s4, l ++ [x], some (.int i), w5, w6, rfl, rfl, h4, by rw [List.length_append, hlen]; rfl, fun y hy => ?_⟩
          rcases List.mem_append.mp hy with hy | hy
          · exact hgv y hy
          · rw [List.mem_singleton.mp hy]
            exact gx) ⟨s, [], y4, y5, y6, rfl, rfl, h1, rfl, fun x hx => absurd hx (by simp)⟩
      obtain ⟨a, b, c, d, rfl⟩ : ∃ a b c d, l = [a, b, c, d] := by
        match l, hlen with
        | [a, b, c, d], _ => exact ⟨a, b, c, d, rfl⟩
      have ga := hgv a (by simp)
      have gb := hgv b (by simp)
      have gc := hgv c (by simp)
      have gd := hgv d (by simp)
      have z7 : Z 3 (7 : Int) := by unfold Z; decide
      have ge : Gv (a.1 * 7, a.2 * 7) := ⟨Int.mul_ne_zero ga.1 (by decide), ga.2.1.mul z7, ga.2.2.mul z7⟩
      have gf : Gv (0, b.2) := ⟨gb.1, by show Z 180 0; unfold Z; decide, gb.2.2.mono (by decide)⟩
      have hg : ∀ x ∈ [a, b, c, d, (a.1 * 7, a.2 * 7), (0, b.2)], Gv x := fun x hx => by
        simp only [List.mem_cons, List.not_mem_nil, or_false] at hx
        rcases hx with rfl | rfl | rfl | rfl | rfl | rfl
        · exact ga.gv
        · exact gb.gv
        · exact gc.gv
        · exact gd.gv
        · exact ge
        · exact gf
      obtain ⟨en4, q4, e4, w5, w7, rfl, rfl⟩ := sFor_idx (it := itS (mVar 3)) (g := tgN 5) (body := oneIn) (en := ⟨0, [some (.scr ns), some (.int j), some (.own k), some (.lst ([a, b, c, d, (a.1 * 7, a.2 * 7), (0, b.2)].map pr)), z4, z5, z6, y7]⟩) (p := two P k .dead s3)
        (fun _ en q' => ∃ w5 w7 : Option PV, en = ⟨0, [some (.scr ns), some (.int j), some (.own k), some (.lst ([a, b, c, d, (a.1 * 7, a.2 * 7), (0, b.2)].map pr)), z4, w5, z6, w7]⟩ ∧ q' = two P k .dead s3)
        (itS_lst (var_ok rfl)) (fun _ _ _ _ => rfl) (fun i hi en q' ⟨w5, w7, he, hq⟩ => by
          subst he
          subst hq
          have hi : i < ([a, b, c, d, (a.1 * 7, a.2 * 7), (0, b.2)].map pr).length := hi
          have hi2 : i < [a, b, c, d, (a.1 * 7, a.2 * 7), (0, b.2)].length := by rw [List.length_map] at hi; exact hi
          show ∃ as en2 p2, tgN 5 ([a, b, c, d, (a.1 * 7, a.2 * 7), (0, b.2)].map pr)[i] = some as ∧ _
          rw [List.getElem_map]
          have gx := hg _ (List.getElem_mem hi2)
          generalize [a, b, c, d, (a.1 * 7, a.2 * 7), (0, b.2)][i] = x at gx
          obtain ⟨v7, ev⟩ := one_in [a, b, c, d, (a.1 * 7, a.2 * 7), (0, b.2)] (by show 6 ≤ 8; decide) hg x gx (two P k .dead s3) (some (.scr ns)) (some (.int j)) (some (.own k)) z4 z6 w7
          exact ⟨[(5, pr x)], _, _, rfl, ev, some (pr x), v7, rfl, rfl⟩) ⟨z5, y7, rfl, rfl⟩
      refine ⟨_, two P k .dead s3, ?_, some (.int j), some (.own k), some (.lst ([a, b, c, d, (a.1 * 7, a.2 * 7), (0, b.2)].map pr)), z4, w5, z6, w7, rfl⟩
      refine (seq_nx (set_nx (fn0_ok (two_ok (var_ok rfl) (var_ok rfl)) e1))).trans ?_
      have f2 : sSet (mLstO mNil) 3 ⟨0, [some (.scr ns), some (.int j), some (.own k), y3, y4, y5, y6, y7]⟩ P = .next ⟨0, [some (.scr ns), some (.int j), some (.own k), some (.own P.length), y4, y5, y6, y7]⟩ (two P k (.lst (([] : List Fq).map pr)) s) := by
        rw [two_eq hl, ← e1s]
        exact set_nx (x := .own P.length) rfl
      refine (seq_nx f2).trans ((seq_nx e3).trans ?_)
      have at3 : ∀ (i : Nat) (x : PV) (y : PV) (xs : List PV) (q' : Pool) (z5 z6 : Option PV), q'[P.length]? = some (.lst xs) → xs[i]? = some x → mBin pIx (mVar 3) (mC (.int i)) ⟨0, [some (.scr ns), some (.int j), some (.own k), some (.own P.length), z4, z5, z6, y7]⟩ q' = .ok x q' := fun i x y xs q' z5 z6 hq hx => at_ok (i := i) (x := .own P.length) (var_ok rfl) rfl (by
        show (match q'[P.length]? with | some (.lst xs) => some xs | _ => none) = _
        rw [hq]) hx
      refine (seq_nx (app_nx (k := P.length) (y := pr (a.1 * 7, a.2 * 7)) rfl (two_get hl _ _) (tup_ok (two_ok
        (mul_ok (x := a.1) (y := 7) (at_ok (i := 0) (x := pr a) (at3 0 (pr a) (pr a) _ _ _ _ (two_get hl _ _) rfl) rfl rfl rfl) rfl (ga.2.1.okMul z7 (by decide) (by decide)))
        (mul_ok (x := a.2) (y := 7) (at_ok (i := 1) (x := pr a) (at3 0 (pr a) (pr a) _ _ _ _ (two_get hl _ _) rfl) rfl rfl rfl) rfl (ga.2.2.okMul z7 (by decide) (by decide))))) (two_get hl _ _) (mayL_bels (bels_prs 0 [a, b, c, d, (a.1 * 7, a.2 * 7)])) (by show 4 < big; decide))).trans ?_
      rw [two_set hl]
      refine (seq_nx (app_nx (k := P.length) (y := pr (0, b.2)) rfl (two_get hl _ _) (tup_ok (two_ok (a := mC (.int 0)) rfl (at_ok (i := 1) (x := pr b) (at3 1 (pr b) (pr b) _ _ _ _ (two_get hl _ _) rfl) rfl rfl rfl))) (two_get hl _ _) (mayL_bels (bels_prs 0 [a, b, c, d, (a.1 * 7, a.2 * 7), (0, b.2)])) (by show 5 < big; decide))).trans ?_
      rw [two_set hl]
      refine (seq_nx (ice_nx (k := P.length) rfl (two_get hl _ _) (bels_prs 0 [a, b, c, d, (a.1 * 7, a.2 * 7), (0, b.2)]))).trans ?_
      rw [two_set hl]
      refine (seq_nx e4).trans ?_
      have c5 : mLc (itS (mSl (mVar 3) oNo (oYes (mC (.int 3))))) (tgN 5) mYes (mFn m_Share_init [] (mCons (mBin pIx (mVar 5) (mC (.int 0))) (mCons (mBin pIx (mVar 5) (mC (.int 1))) mNil))) [5] ⟨0, [some (.scr ns), some (.int j), some (.own k), some (.lst ([a, b, c, d, (a.1 * 7, a.2 * 7), (0, b.2)].map pr)), z4, w5, z6, w7]⟩ (two P k .dead s3) = .ok (.lst ([a, b, c].map fun x => sh (lwz x.1 x.2))) (two P k .dead s3) := by
        refine R.lc_list [a, b, c] pr (fun x => sh (lwz x.1 x.2)) (ck := noCk) rfl (fun _ => rfl) (fun x hx => ?_) (by show 3 ≤ big; decide)
        have gx : Gv x := hg x (by
          simp only [List.mem_cons, List.not_mem_nil, or_false] at hx ⊢
          rcases hx with h | h | h
          · exact .inl h
          · exact .inr (.inl h)
          · exact .inr (.inr (.inl h)))
        exact ⟨[(5, pr x)], rfl, rfl, fun acc => ⟨fn0_ok (two_ok (at_ok (i := 0) (x := pr x) (var_ok rfl) rfl rfl rfl) (at_ok (i := 1) (x := pr x) (var_ok rfl) rfl rfl rfl)) (share_any _ _ _ gx.1 (gx.2.2.fuel (by decide))), bel_sh _ _⟩⟩
      have szs : ∀ {x : Fq}, Gv0 x → Sz 180 (lwz x.1 x.2) := fun g => sz_lwz g.1 (g.2.1.mono (by decide)) (g.2.2.mono (by decide))
      exact (if_f (not_t (b_ok (fn0_ok (one_ok c5) (order_ok (szs ga) (szs gb) (szs gc)))))).trans rfl) ⟨none, none, none, none, none, none, none, rfl⟩
  have hb : b_law ⟨([] : Pool).length, [PV.scr ns].map some ++ List.replicate (8 - [PV.scr ns].length) none⟩ [] = .ret (.bl true) q := by
    show b_law ⟨0, [some (.scr ns), none, none, none, none, none, none, none]⟩ [] = _
    unfold b_law
    exact (seq_nx e).trans rfl
  unfold m_law
  rw [fnM_ret hb (thaw_bl true)]
  rfl

/-- what is asked of the law -/
def spLaw (K : PySem.W.Frag) : Sp := fun vs H Q _ => ∃ (a : Addr) (ns : List Int), vs = [.ref a] ∧ SqL K H a (ns.map V.int) ∧ ns.length ≤ 63 ∧ ∀ H', Q (.bl true) H'
theorem sqL_noTab {K : PySem.W.Frag} {H : Hp} {a : Addr} {xs : List V} (h : SqL K H a xs) : SqL K (noTab H) a xs := by
  rcases h with (h | ⟨o, h⟩) | h
  · exact .inl (.inl (noTab_of h (fun _ z => nomatch z)))
  · exact .inl (.inr ⟨o, noTab_of h (fun _ z => nomatch z)⟩)
  · exact .inr h
theorem law_imp {P : Program} {w : World} {K : PySem.W.Frag} {mg : Str → Option Value} {base : Heap} (T : Facts K mg) : FnG P w K mg base (L2.CX P w) 9 T.f_law T.d_law ["script"] (spLaw K) := (ok_law T).less fun vs H Q E ⟨a, ns, e, hS, hl, k⟩ => by
  subst e
  refine ⟨rfl, ⟨0, fun _ => none⟩, (⟨noTab H, []⟩ : Wd), [], [.scr ns], ⟨noTab_sub, rfl, List.nodup_nil, Nat.le_refl _, fun _ _ => rfl, fun _ _ e => (nomatch e), fun k c a e _ => by simp at e, noTab_nt, fun p hp => nomatch hp⟩, Reps.cons ⟨a, rfl, sqL_noTab hS⟩ Reps.nil, ?_⟩
  rw [law_ok ns hl]
  intro w' H' v l S r
  have r : v = .bl true := r
  rw [r]
  exact k H'
theorem fin {l : PySem.W.OpenLaw} {w : World} {K : PySem.W.Frag} {mg : Str → Option Value} {fa : Addr} (hfa : mg "law" = some (.ref fa)) (N : Nonempty (Facts K mg)) :
    ∃ fd : FuncData, (∀ (s : Shared) (v : Value), BindsTo s fd ⟨[v], []⟩ [("script", v)]) ∧ ∀ base : Heap, K.In base → base.Ns mainGlobals mg → FnG l.prog w K mg base (L2.CX l.prog w) 9 fa fd ["script"] (spLaw K) := by
  obtain ⟨T⟩ := N
  have e := hfa.symm.trans T.g_law
  cases e
  exact ⟨T.d_law, T.bl, fun base _ _ => law_imp T⟩
theorem walk {l : PySem.W.OpenLaw} {q : Program} {loose : List Str} {XP : (Str → Option Value) → Heap → Prop} {YP : World → Heap → Prop} {d : DefRec} {K : Params → PySem.W.Frag} (hn : l.most = some 63) (hdf : d.params.defaults = [])
    (hY : ∀ (w : World) (h : Heap), YP w h → (K w.params).In h)
    (F : ∀ (w : World) (mg : Str → Option Value) (fa : Addr) (h : Heap), (K w.params).In h → h.Ns mainGlobals mg → mg d.name = some (.ref fa) →
      ∃ fd : FuncData, (∀ (s : Shared) (u : Value), BindsTo s fd ⟨[u], []⟩ [("script", u)]) ∧ ∀ base : Heap, (K w.params).In base → base.Ns mainGlobals mg → FnG l.prog w (K w.params) mg base (L2.CX l.prog w) 9 fa fd ["script"] (spLaw (K w.params))) :
    PySem.W.WalkO q loose XP YP l.row.toRowW d [] (fun f vs => PySem.call f vs) :=
  R.walkG (n := 63) (k := 9) (x := "script") (T := fun w => L2.CX l.prog w) (sp := fun w => spLaw (K w.params)) hn (by decide) hdf ⟨rfl, by decide, by decide⟩ hY F (fun _ _ a ns hl _ hS => ⟨a, ns, rfl, hS, hl, fun _ => rfl⟩) fun _ _ _ _ _ ⟨_, _, _, _, _, _, _, _, _, _, _, _, z⟩ => z

end K01
open PySem PySem.W PyProof.Rows in
set_option maxRecDepth 100000 in
set_option maxHeartbeats 0 in
theorem PySem.Challenge.cw_rillweb_k01_shares_reckoned_holds : PySem.Challenge.rw_rillweb_k01_shares_reckoned.Holds := by
  w_on; o_law; k_head; (case hw => w_witness2)
  k_fill
  refine K01.walk (l := PySem.Challenge.rw_rillweb_k01_shares_reckoned) rfl rfl (fun w h Y => PySem.W.kIn_of Y) ?F
  case F =>
    intro w mg fa h KX G hmg
    refine' K01.fin hmg (K01.facts_mk KX G ?ac_Share ?ax_NoShare ?a_is_whole ?l_is_whole ?e_is_whole ?k_is_whole ?a_common_of ?l_common_of ?e_common_of ?k_common_of ?a_Share_init ?i_Share_init ?l_Share_init ?to_Share_init ?td_Share_init ?e_Share_init ?k_Share_init ?a_Share_eq ?i_Share_eq ?l_Share_eq ?e_Share_eq ?k_Share_eq ?a_plus ?l_plus ?e_plus ?k_plus ?a_minus ?l_minus ?e_minus ?k_minus ?a_times ?l_times ?e_times ?k_times ?a_over ?l_over ?e_over ?k_over ?a_less ?l_less ?e_less ?k_less ?a_law_cell_at ?l_law_cell_at ?e_law_cell_at ?k_law_cell_at ?a_law_mixed ?l_law_mixed ?e_law_mixed ?k_law_mixed ?a_law_source ?l_law_source ?e_law_source ?k_law_source ?a_law_next ?l_law_next ?e_law_next ?k_law_next ?a_law_lowered ?l_law_lowered ?e_law_lowered ?k_law_lowered ?a_law_number ?l_law_number ?e_law_number ?k_law_number ?a_law_refused ?l_law_refused ?e_law_refused ?k_law_refused ?a_law_two_right ?l_law_two_right ?e_law_two_right ?k_law_two_right ?a_law_order_right ?l_law_order_right ?e_law_order_right ?k_law_order_right ?a_law ?l_law ?e_law ?k_law ?n_abs ?n_all ?n_bool ?n_int ?n_isinstance ?n_len ?n_max ?n_min ?n_range ?n_repr ?mk_Share ?kc_Share ?pg_Share ?hd_Share ?po_Share ?sa_Share ?at_Share ?mr_Share ?no_top_Share ?no_bottom_Share ?hn ?ht ?ic_Share ?ty_Share ?ne_Share ?sT_Share_NoneType ?sF_Share_NoneType ?sT_Share_bool ?sF_Share_bool ?sT_Share_int ?sF_Share_int ?sT_Share_str ?sF_Share_str ?sT_Share_tuple ?sF_Share_tuple ?sT_Share_list ?sF_Share_list ?ss_Share_Share ?kx_NoShare ?hs_NoShare ?ty_NoShare ?ic_NoShare ?ss_NoShare ?q_NoShare)
    (case ac_Share => first | rfl | k_is | decide)
    (case ax_NoShare => first | rfl | k_is | decide)
    (case a_is_whole => first | rfl | k_is | decide)
    (case l_is_whole => first | rfl | k_is | decide)
    (case e_is_whole => first | rfl | k_is | decide)
    (case k_is_whole => first | rfl | k_is | decide)
    (case a_common_of => first | rfl | k_is | decide)
    (case l_common_of => first | rfl | k_is | decide)
    (case e_common_of => first | rfl | k_is | decide)
    (case k_common_of => first | rfl | k_is | decide)
    (case a_Share_init => first | rfl | k_is | decide)
    (case i_Share_init => first | rfl | k_is | decide)
    (case l_Share_init => first | rfl | k_is | decide)
    (case to_Share_init => first | rfl | k_is | decide)
    (case td_Share_init => first | rfl | k_is | decide)
    (case e_Share_init => first | rfl | k_is | decide)
    (case k_Share_init => first | rfl | k_is | decide)
    (case a_Share_eq => first | rfl | k_is | decide)
    (case i_Share_eq => first | rfl | k_is | decide)
    (case l_Share_eq => first | rfl | k_is | decide)
    (case e_Share_eq => first | rfl | k_is | decide)
    (case k_Share_eq => first | rfl | k_is | decide)
    (case a_plus => first | rfl | k_is | decide)
    (case l_plus => first | rfl | k_is | decide)
    (case e_plus => first | rfl | k_is | decide)
    (case k_plus => first | rfl | k_is | decide)
    (case a_minus => first | rfl | k_is | decide)
    (case l_minus => first | rfl | k_is | decide)
    (case e_minus => first | rfl | k_is | decide)
    (case k_minus => first | rfl | k_is | decide)
    (case a_times => first | rfl | k_is | decide)
    (case l_times => first | rfl | k_is | decide)
    (case e_times => first | rfl | k_is | decide)
    (case k_times => first | rfl | k_is | decide)
    (case a_over => first | rfl | k_is | decide)
    (case l_over => first | rfl | k_is | decide)
    (case e_over => first | rfl | k_is | decide)
    (case k_over => first | rfl | k_is | decide)
    (case a_less => first | rfl | k_is | decide)
    (case l_less => first | rfl | k_is | decide)
    (case e_less => first | rfl | k_is | decide)
    (case k_less => first | rfl | k_is | decide)
    (case a_law_cell_at => first | rfl | k_is | decide)
    (case l_law_cell_at => first | rfl | k_is | decide)
    (case e_law_cell_at => first | rfl | k_is | decide)
    (case k_law_cell_at => first | rfl | k_is | decide)
    (case a_law_mixed => first | rfl | k_is | decide)
    (case l_law_mixed => first | rfl | k_is | decide)
    (case e_law_mixed => first | rfl | k_is | decide)
    (case k_law_mixed => first | rfl | k_is | decide)
    (case a_law_source => first | rfl | k_is | decide)
    (case l_law_source => first | rfl | k_is | decide)
    (case e_law_source => first | rfl | k_is | decide)
    (case k_law_source => first | rfl | k_is | decide)
    (case a_law_next => first | rfl | k_is | decide)
    (case l_law_next => first | rfl | k_is | decide)
    (case e_law_next => first | rfl | k_is | decide)
    (case k_law_next => first | rfl | k_is | decide)
    (case a_law_lowered => first | rfl | k_is | decide)
    (case l_law_lowered => first | rfl | k_is | decide)
    (case e_law_lowered => first | rfl | k_is | decide)
    (case k_law_lowered => first | rfl | k_is | decide)
    (case a_law_number => first | rfl | k_is | decide)
    (case l_law_number => first | rfl | k_is | decide)
    (case e_law_number => first | rfl | k_is | decide)
    (case k_law_number => first | rfl | k_is | decide)
    (case a_law_refused => first | rfl | k_is | decide)
    (case l_law_refused => first | rfl | k_is | decide)
    (case e_law_refused => first | rfl | k_is | decide)
    (case k_law_refused => first | rfl | k_is | decide)
    (case a_law_two_right => first | rfl | k_is | decide)
    (case l_law_two_right => first | rfl | k_is | decide)
    (case e_law_two_right => first | rfl | k_is | decide)
    (case k_law_two_right => first | rfl | k_is | decide)
    (case a_law_order_right => first | rfl | k_is | decide)
    (case l_law_order_right => first | rfl | k_is | decide)
    (case e_law_order_right => first | rfl | k_is | decide)
    (case k_law_order_right => first | rfl | k_is | decide)
    (case a_law => first | rfl | k_is | decide)
    (case l_law => first | rfl | k_is | decide)
    (case e_law => first | rfl | k_is | decide)
    (case k_law => first | rfl | k_is | decide)
    (case n_abs => first | rfl | k_is | decide)
    (case n_all => first | rfl | k_is | decide)
    (case n_bool => first | rfl | k_is | decide)
    (case n_int => first | rfl | k_is | decide)
    (case n_isinstance => first | rfl | k_is | decide)
    (case n_len => first | rfl | k_is | decide)
    (case n_max => first | rfl | k_is | decide)
    (case n_min => first | rfl | k_is | decide)
    (case n_range => first | rfl | k_is | decide)
    (case n_repr => first | rfl | k_is | decide)
    (case mk_Share => first | rfl | k_is | decide)
    (case kc_Share => first | rfl | k_is | decide)
    (case pg_Share => first | rfl | k_is | decide)
    (case hd_Share => first | rfl | k_is | decide)
    (case po_Share => first | rfl | k_is | decide)
    (case sa_Share => first | rfl | k_is | decide)
    (case at_Share => first | rfl | k_is | decide)
    (case mr_Share => first | rfl | k_is | decide)
    (case no_top_Share => first | rfl | k_is | decide)
    (case no_bottom_Share => first | rfl | k_is | decide)
    (case hn => first | rfl | k_is | decide)
    (case ht => first | rfl | k_is | decide)
    (case ic_Share => first | rfl | k_is | decide)
    (case ty_Share => first | rfl | k_is | decide)
    (case ne_Share => first | rfl | k_is | decide)
    (case sT_Share_NoneType => first | rfl | k_is | decide)
    (case sF_Share_NoneType => first | rfl | k_is | decide)
    (case sT_Share_bool => first | rfl | k_is | decide)
    (case sF_Share_bool => first | rfl | k_is | decide)
    (case sT_Share_int => first | rfl | k_is | decide)
    (case sF_Share_int => first | rfl | k_is | decide)
    (case sT_Share_str => first | rfl | k_is | decide)
    (case sF_Share_str => first | rfl | k_is | decide)
    (case sT_Share_tuple => first | rfl | k_is | decide)
    (case sF_Share_tuple => first | rfl | k_is | decide)
    (case sT_Share_list => first | rfl | k_is | decide)
    (case sF_Share_list => first | rfl | k_is | decide)
    (case ss_Share_Share => first | rfl | k_is | decide)
    (case kx_NoShare => first | rfl | k_is | decide)
    (case hs_NoShare => first | rfl | k_is | decide)
    (case ty_NoShare => first | rfl | k_is | decide)
    (case ic_NoShare => first | rfl | k_is | decide)
    (case ss_NoShare => first | rfl | k_is | decide)
    (case q_NoShare => k_exc)
#print axioms PySem.Challenge.cw_rillweb_k01_shares_reckoned_holds
