import PyProof.Rows.All
import Wide.All
import OpenK.AllK
import Wide.FinOn
import HandS.ForMost
import HandS.ForExc
import HandS.Wide
import HandS.Zip
import HandS.RevRange
import HandS.Rev
import HandS.Defaults
import HandS.MakeKw
import HandS.IsInst
import HandS.Flow
import HandS.ExcValue
import HandS.ExcInit
import HandS.ExcIs
import HandS.ExcField
import HandS.RaiseMore
import KE.KExcStr
import HandS.TupAny
import HandS.CallSlots
import HandS.Comp
import HandS.TryOnly
import HandS.OwnEq
import KE.KFmtOwn
import HandS.ClsMeth
import KE.KExcIs
import HandS.SortInts
import HandS.SetFor
import KE.GoesEnum
import KE.GoesMore
import KE.KRevSl
import KE.KTupSum
import HandS.Conv
import PySem.Challenge.RW_rillweb_k22_whole_the_order_alone_choose
set_option Elab.async false
set_option linter.all false
set_option maxRecDepth 100000
set_option autoImplicit false
/-! R1: values as trees, a pool of lists and objects that may still change, what a heap has of them -/
namespace R
open PySem L2

inductive PV where
  | non | bl (b : Bool) | int (i : Int) | str (s : Str)
  | tup (xs : List PV) | lst (xs : List PV) | obj (c : Nat) (xs : List PV) | own (k : Nat)
  /-- a list of numbers that is only read: the script -/
  | scr (ns : List Int)
  /-- an own exception that has a text; one that has a field -/
  | xs (c : Nat) (t : Str) | xv (c : Nat) (x : PV)

/-- the classes of the text: where each stands, the names of its instances' values, the name of the value that an exception keeps -/
structure Cfg where
  K : PySem.W.Frag
  cls : Nat → Addr
  fld : Nat → List Str
  exf : Nat → Str

/-- what doesn't change any more; where the pool's cells stand -/
structure Wd where
  G : Hp
  ρ : List Addr
def Wd.le (w w' : Wd) : Prop := (∀ a o, w.G a = some o → w'.G a = some o) ∧ w.ρ <+: w'.ρ
theorem Wd.le.refl (w : Wd) : w.le w := ⟨fun _ _ h => h, List.prefix_refl _⟩
theorem Wd.le.trans {a b c : Wd} (h : a.le b) (k : b.le c) : a.le c := ⟨fun x o e => k.1 x o (h.1 x o e), h.2.trans k.2⟩

inductive Cell where
  | lst (xs : List PV) | obj (c : Nat) (xs : List PV) | dead
abbrev Pool := List Cell

/-- at a: an exception of class C, its arguments at t1 -/
def exT (C a t1 : Addr) : HO := .ext fun h => h.get? a = some ({ cls := .ref C, dict := none, data := .fields #[.ref t1, .none, .none, .none, .bool false, .none] } : Obj)
section
variable (Γ : Cfg) (w : Wd)
mutual
def Rep : PV → V → Prop
  | .non, v => v = .non
  | .bl b, v => v = .bl b
  | .int i, v => v = .int i
  | .str s, v => v = .str s
  | .tup xs, v => ∃ a vs, v = .ref a ∧ SqT Γ.K w.G a vs ∧ Reps xs vs
  | .lst xs, v => ∃ a vs, v = .ref a ∧ w.G a = some (.lst vs) ∧ Reps xs vs
  | .scr ns, v => ∃ a, v = .ref a ∧ SqL Γ.K w.G a (ns.map V.int)
  | .obj c xs, v => ∃ a dx vs, v = .ref a ∧ w.G a = some (.ins (Γ.cls c) dx ((Γ.fld c).zip vs)) ∧ w.G dx = some (.own a) ∧ vs.length = (Γ.fld c).length ∧ Reps xs vs
  | .own k, v => ∃ a, w.ρ[k]? = some a ∧ v = .ref a
  | .xs c t, v => ∃ a t1, v = .ref a ∧ w.G a = some (exT (Γ.cls c) a t1) ∧ w.G t1 = some (.tup [.str t])
  | .xv c x, v => ∃ a d u, v = .ref a ∧ w.G a = some (exo a (Γ.cls c) (some d)) ∧ w.G d = some (exd d [(Γ.exf c, u)]) ∧ Rep x u
def Reps : List PV → List V → Prop
  | [], vs => vs = []
  | x :: xs, vs => ∃ v r, vs = v :: r ∧ Rep x v ∧ Reps xs r
end
end

section
variable {Γ : Cfg} {w w' : Wd}
theorem seqL_mono {K : PySem.W.Frag} {H H' : Hp} {a : Addr} {xs : List V} (e : ∀ a o, H a = some o → H' a = some o) (h : SqL K H a xs) : SqL K H' a xs := by
  rcases h with (h | ⟨o, h⟩) | h
  · exact .inl (.inl (e _ _ h))
  · exact .inl (.inr ⟨o, e _ _ h⟩)
  · exact .inr h
theorem seqT_mono {K : PySem.W.Frag} {H H' : Hp} {a : Addr} {xs : List V} (e : ∀ a o, H a = some o → H' a = some o) (h : SqT K H a xs) : SqT K H' a xs := by
  rcases h with (h | ⟨o, h⟩) | h
  · exact .inl (.inl (e _ _ h))
  · exact .inl (.inr ⟨o, e _ _ h⟩)
  · exact .inr h
theorem pre_get {α : Type} {l l' : List α} (h : l <+: l') {k : Nat} {a : α} (e : l[k]? = some a) : l'[k]? = some a := by
  obtain ⟨t, rfl⟩ := h
  rw [List.getElem?_append_left (List.getElem?_eq_some_iff.mp e).1]
  exact e
mutual
theorem Rep.mono (l : w.le w') : ∀ {x : PV} {v : V}, Rep Γ w x v → Rep Γ w' x v
  | .non, _, h => h
  | .bl _, _, h => h
  | .int _, _, h => h
  | .str _, _, h => h
  | .tup xs, v, h => by
    obtain ⟨a, vs, e, s, r⟩ := h
    exact ⟨a, vs, e, seqT_mono l.1 s, Reps.mono l r⟩
  | .lst xs, v, h => by
    obtain ⟨a, vs, e, s, r⟩ := h
    exact ⟨a, vs, e, l.1 _ _ s, Reps.mono l r⟩
  | .scr ns, v, h => by
    obtain ⟨a, e, s⟩ := h
    exact ⟨a, e, seqL_mono l.1 s⟩
  | .obj c xs, v, h => by
    obtain ⟨a, dx, vs, e, g, d, n, r⟩ := h
    exact ⟨a, dx, vs, e, l.1 _ _ g, l.1 _ _ d, n, Reps.mono l r⟩
  | .own k, v, h => by
    obtain ⟨a, e, z⟩ := h
    exact ⟨a, pre_get l.2 e, z⟩
  | .xs c t, v, h => by
    obtain ⟨a, t1, e, g, g2⟩ := h
    exact ⟨a, t1, e, l.1 _ _ g, l.1 _ _ g2⟩
  | .xv c x, v, h => by
    obtain ⟨a, d, u, e, g, g2, r⟩ := h
    exact ⟨a, d, u, e, l.1 _ _ g, l.1 _ _ g2, Rep.mono l r⟩
theorem Reps.mono (l : w.le w') : ∀ {xs : List PV} {vs : List V}, Reps Γ w xs vs → Reps Γ w' xs vs
  | [], _, h => h
  | x :: xs, vs, h => by
    obtain ⟨v, r, e, h1, h2⟩ := h
    exact ⟨v, r, e, Rep.mono l h1, Reps.mono l h2⟩
end
theorem Reps.nil : Reps Γ w [] [] := rfl
theorem Reps.cons {x : PV} {v : V} {xs : List PV} {vs : List V} (h : Rep Γ w x v) (r : Reps Γ w xs vs) : Reps Γ w (x :: xs) (v :: vs) := ⟨v, vs, rfl, h, r⟩
theorem Reps.length : ∀ {xs : List PV} {vs : List V}, Reps Γ w xs vs → xs.length = vs.length
  | [], vs, h => by
    rw [show vs = [] from h]
    rfl
  | x :: xs, vs, h => by
    obtain ⟨v, r, e, _, h2⟩ := h
    rw [e, List.length_cons, List.length_cons, Reps.length h2]
theorem Reps.get : ∀ {xs : List PV} {vs : List V} {i : Nat} {x : PV}, Reps Γ w xs vs → xs[i]? = some x → ∃ v, vs[i]? = some v ∧ Rep Γ w x v
  | [], _, _, _, _, e => by simp at e
  | x :: xs, vs, 0, y, h, e => by
    obtain ⟨v, r, rfl, h1, h2⟩ := h
    simp at e
    subst e
    exact ⟨v, rfl, h1⟩
  | x :: xs, vs, i + 1, y, h, e => by
    obtain ⟨v, r, rfl, h1, h2⟩ := h
    obtain ⟨u, e1, e2⟩ := Reps.get (i := i) h2 (by simpa using e)
    exact ⟨u, by simpa using e1, e2⟩
theorem Reps.getV : ∀ {xs : List PV} {vs : List V} {i : Nat} {v : V}, Reps Γ w xs vs → vs[i]? = some v → ∃ x, xs[i]? = some x ∧ Rep Γ w x v
  | [], vs, _, _, h, e => by
    rw [show vs = [] from h] at e
    simp at e
  | x :: xs, vs, 0, y, h, e => by
    obtain ⟨v, r, rfl, h1, h2⟩ := h
    simp at e
    subst e
    exact ⟨x, rfl, h1⟩
  | x :: xs, vs, i + 1, y, h, e => by
    obtain ⟨v, r, rfl, h1, h2⟩ := h
    obtain ⟨u, e1, e2⟩ := Reps.getV (i := i) h2 (by simpa using e)
    exact ⟨u, by simpa using e1, e2⟩
theorem Reps.append : ∀ {xs ys : List PV} {vs us : List V}, Reps Γ w xs vs → Reps Γ w ys us → Reps Γ w (xs ++ ys) (vs ++ us)
  | [], _, vs, _, h, k => by
    rw [show vs = [] from h]
    exact k
  | x :: xs, _, vs, _, h, k => by
    obtain ⟨v, r, rfl, h1, h2⟩ := h
    exact ⟨v, _, rfl, h1, Reps.append h2 k⟩
theorem Reps.set : ∀ {xs : List PV} {vs : List V} {i : Nat} {x : PV} {v : V}, Reps Γ w xs vs → Rep Γ w x v → Reps Γ w (xs.set i x) (vs.set i v)
  | [], vs, _, _, _, h, _ => by
    rw [show vs = [] from h]
    exact rfl
  | x :: xs, vs, 0, y, u, h, k => by
    obtain ⟨v, r, rfl, h1, h2⟩ := h
    exact ⟨u, _, rfl, k, h2⟩
  | x :: xs, vs, i + 1, y, u, h, k => by
    obtain ⟨v, r, rfl, h1, h2⟩ := h
    exact ⟨v, _, rfl, h1, Reps.set h2 k⟩
theorem Reps.take : ∀ {xs : List PV} {vs : List V} (n : Nat), Reps Γ w xs vs → Reps Γ w (xs.take n) (vs.take n)
  | xs, vs, 0, _ => by
    rw [List.take_zero, List.take_zero]
    exact rfl
  | [], vs, n + 1, h => by
    rw [show vs = [] from h]
    exact rfl
  | x :: xs, vs, n + 1, h => by
    obtain ⟨v, r, rfl, h1, h2⟩ := h
    exact ⟨v, _, rfl, h1, Reps.take n h2⟩
theorem Reps.drop : ∀ {xs : List PV} {vs : List V} (n : Nat), Reps Γ w xs vs → Reps Γ w (xs.drop n) (vs.drop n)
  | xs, vs, 0, h => h
  | [], vs, n + 1, h => by
    rw [show vs = [] from h]
    exact rfl
  | x :: xs, vs, n + 1, h => by
    obtain ⟨v, r, rfl, h1, h2⟩ := h
    exact Reps.drop n h2
theorem Reps.reverse : ∀ {xs : List PV} {vs : List V}, Reps Γ w xs vs → Reps Γ w xs.reverse vs.reverse
  | [], vs, h => by
    rw [show vs = [] from h]
    exact rfl
  | x :: xs, vs, h => by
    obtain ⟨v, r, rfl, h1, h2⟩ := h
    rw [List.reverse_cons, List.reverse_cons]
    exact Reps.append (Reps.reverse h2) (Reps.cons h1 Reps.nil)
theorem Reps.ints : ∀ {ns : List Int}, Reps Γ w (ns.map PV.int) (ns.map V.int)
  | [] => rfl
  | n :: ns => ⟨.int n, _, rfl, rfl, Reps.ints⟩
theorem Reps.ints_of : ∀ {ns : List Int} {vs : List V}, Reps Γ w (ns.map PV.int) vs → vs = ns.map V.int
  | [], vs, h => h
  | n :: ns, vs, h => by
    obtain ⟨v, r, rfl, h1, h2⟩ := h
    rw [show v = V.int n from h1, Reps.ints_of h2]
    rfl
end

/-! ### cells -/
def CellR (Γ : Cfg) (w : Wd) (H : Hp) : Cell → Addr → Prop
  | .lst xs, a => w.G a = none ∧ ∃ vs, H a = some (.lst vs) ∧ Reps Γ w xs vs
  | .obj c xs, a => w.G a = none ∧ ∃ dx vs, H a = some (.ins (Γ.cls c) dx ((Γ.fld c).zip vs)) ∧ H dx = some (.own a) ∧ w.G dx = none ∧ vs.length ≤ (Γ.fld c).length ∧ Reps Γ w xs vs
  | .dead, a => ∃ o, H a = some o ∧ ∀ x, o ≠ .own x
theorem CellR.there {Γ : Cfg} {w : Wd} {H : Hp} {c : Cell} {a : Addr} (h : CellR Γ w H c a) : ∃ o, H a = some o ∧ ∀ x, o ≠ .own x := by
  cases c with
  | lst xs =>
    obtain ⟨_, vs, e, _⟩ := h
    exact ⟨_, e, fun _ z => nomatch z⟩
  | obj c fs =>
    obtain ⟨_, dx, vs, e, _⟩ := h
    exact ⟨_, e, fun _ z => nomatch z⟩
  | dead => exact h

/-- b: how many cells are the callers'; lo: a callers' cell leans on so many first cells alone -/
structure Lv where
  b : Nat
  lo : Nat → Option Nat
/-- what a cell may lean on -/
def Wd.low (w : Wd) : Option Nat → Wd
  | none => w
  | some m => ⟨w.G, w.ρ.take m⟩
theorem Wd.low_le (w : Wd) (m : Option Nat) : (w.low m).le w := by
  cases m with
  | none => exact Wd.le.refl w
  | some m => exact ⟨fun _ _ h => h, List.take_prefix _ _⟩
theorem Wd.low_G {w : Wd} {m : Option Nat} : (w.low m).G = w.G := by
  cases m <;> rfl

structure SimP (Γ : Cfg) (L : Lv) (w : Wd) (p : Pool) (H : Hp) : Prop where
  sub : ∀ a o, w.G a = some o → H a = some o
  len : w.ρ.length = p.length
  nd : w.ρ.Nodup
  hb : L.b ≤ p.length
  hlo : ∀ k, L.b ≤ k → L.lo k = none
  hm : ∀ k m, L.lo k = some m → m ≤ p.length
  cell : ∀ (k : Nat) c a, p[k]? = some c → w.ρ[k]? = some a → CellR Γ (w.low (L.lo k)) H c a

section
variable {Γ : Cfg} {L : Lv} {w w' : Wd} {p : Pool} {H H' : Hp}
theorem SimP.at (S : SimP Γ L w p H) {k : Nat} {c : Cell} (h : p[k]? = some c) : ∃ a, w.ρ[k]? = some a ∧ CellR Γ (w.low (L.lo k)) H c a := by
  have hk : k < w.ρ.length := by
    rw [S.len]
    exact (List.getElem?_eq_some_iff.mp h).1
  exact ⟨w.ρ[k], List.getElem?_eq_getElem hk, S.cell k c _ h (List.getElem?_eq_getElem hk)⟩
theorem SimP.live (S : SimP Γ L w p H) {a : Addr} (h : a ∈ w.ρ) : ∃ o, H a = some o ∧ ∀ x, o ≠ .own x := by
  obtain ⟨k, hk, e⟩ := List.getElem_of_mem h
  have hp : k < p.length := by
    rw [← S.len]
    exact hk
  exact (S.cell k p[k] a (List.getElem?_eq_getElem hp) (by rw [List.getElem?_eq_getElem hk, e])).there
theorem CellR.step {c : Cell} {a : Addr} (h : CellR Γ w H c a) (l : w.le w') (hn : ∀ b, H b ≠ none → w.G b = none → w'.G b = none) (hh : ∀ b o, H b = some o → H' b = some o) : CellR Γ w' H' c a := by
  cases c with
  | lst xs =>
    obtain ⟨g, vs, e, r⟩ := h
    exact ⟨hn a (by rw [e]; exact fun z => nomatch z) g, vs, hh _ _ e, Reps.mono l r⟩
  | obj c fs =>
    obtain ⟨g, dx, vs, e, d, gd, n, r⟩ := h
    exact ⟨hn a (by rw [e]; exact fun z => nomatch z) g, dx, vs, hh _ _ e, hh _ _ d, hn dx (by rw [d]; exact fun z => nomatch z) gd, n, Reps.mono l r⟩
  | dead =>
    obtain ⟨o, e, z⟩ := h
    exact ⟨o, hh _ _ e, z⟩
/-- a cell off its address -/
theorem CellR.same {c : Cell} {a : Addr} (h : CellR Γ w H c a) (ha : H' a = H a) (hd : ∀ dx, H dx = some (.own a) → H' dx = some (.own a)) : CellR Γ w H' c a := by
  cases c with
  | lst xs =>
    obtain ⟨g, vs, e, r⟩ := h
    exact ⟨g, vs, ha.trans e, r⟩
  | obj c fs =>
    obtain ⟨g, dx, vs, e, d, gd, n, r⟩ := h
    exact ⟨g, dx, vs, ha.trans e, hd _ d, gd, n, r⟩
  | dead =>
    obtain ⟨o, e, z⟩ := h
    exact ⟨o, ha.trans e, z⟩
/-- a new object that doesn't change any more -/
def Wd.add (w : Wd) (q : Addr) (o : HO) : Wd := ⟨upd w.G q o, w.ρ⟩
theorem SimP.free (S : SimP Γ L w p H) {q : Addr} (h : H q = none) : w.G q = none := by
  cases e : w.G q with
  | none => rfl
  | some o =>
    rw [S.sub q o e] at h
    cases h
theorem up_new {H : Hp} {q : Addr} {o : HO} (h : H q = none) : ∀ b u, H b = some u → upd H q o b = some u := fun b u e => by
  rw [upd_ne (ne_of_none e h)]
  exact e
theorem SimP.le_add (S : SimP Γ L w p H) {q : Addr} {o : HO} (h : H q = none) : w.le (w.add q o) := ⟨up_new (S.free h), List.prefix_refl _⟩
theorem low_le_low {w w' : Wd} {m : Option Nat} (l : w.le w') (hb : ∀ n, m = some n → n ≤ w.ρ.length) : (w.low m).le (w'.low m) := by
  cases m with
  | none => exact l
  | some m =>
    refine ⟨l.1, ?_⟩
    obtain ⟨t, e⟩ := l.2
    show w.ρ.take m <+: w'.ρ.take m
    rw [← e, List.take_append_of_le_length (hb m rfl)]
    exact List.prefix_refl _
theorem SimP.lows (S : SimP Γ L w p H) (l : w.le w') (k : Nat) : (w.low (L.lo k)).le (w'.low (L.lo k)) := low_le_low l fun n e => by
  rw [S.len]
  exact S.hm k n e
theorem SimP.new (S : SimP Γ L w p H) {q : Addr} {o : HO} (h : H q = none) : SimP Γ L (w.add q o) p (upd H q o) := by
  refine ⟨fun a u e => ?_, S.len, S.nd, S.hb, S.hlo, S.hm, fun k c a hc ha => ?_⟩
  · by_cases ea : a = q
    · subst ea
      have e' : upd w.G a o a = some u := e
      rw [upd_same] at e'
      rw [upd_same]
      exact e'
    · have e' : upd w.G q o a = some u := e
      rw [upd_ne ea] at e'
      rw [upd_ne ea]
      exact S.sub a u e'
  · refine (S.cell k c a hc ha).step (S.lows (S.le_add h) k) (fun d hb g => ?_) (up_new h)
    rw [Wd.low_G] at g ⊢
    show upd w.G q o d = none
    rw [upd_ne (fun z => hb (by rw [z]; exact h))]
    exact g
theorem add_at {w : Wd} {q : Addr} {o : HO} : (w.add q o).G q = some o := upd_same
/-- a new cell -/
def Wd.cell (w : Wd) (q : Addr) : Wd := ⟨w.G, w.ρ ++ [q]⟩
theorem Wd.le_cell (w : Wd) (q : Addr) : w.le (w.cell q) := ⟨fun _ _ h => h, List.prefix_append _ _⟩
theorem SimP.newCell (S : SimP Γ L w p H) {q : Addr} {o : HO} {c : Cell} (h : H q = none) (hc : CellR Γ (w.cell q) (upd H q o) c q) : SimP Γ L (w.cell q) (p ++ [c]) (upd H q o) := by
  have nq : q ∉ w.ρ := fun z => by
    obtain ⟨u, e, _⟩ := S.live z
    rw [h] at e
    cases e
  refine ⟨fun a u e => up_new h a u (S.sub a u e), ?_, ?_, ?_, S.hlo, fun k m e => ?_, fun k c' a h1 h2 => ?_⟩
  · show (w.ρ ++ [q]).length = (p ++ [c]).length
    rw [List.length_append, List.length_append, S.len]
    rfl
  · show (w.ρ ++ [q]).Nodup
    refine List.nodup_append.mpr ⟨S.nd, by simp, fun a ha b hb => ?_⟩
    have : b = q := by simpa using hb
    subst this
    exact fun z => nq (z ▸ ha)
  · rw [List.length_append]
    exact Nat.le_trans S.hb (Nat.le_add_right _ _)
  · rw [List.length_append]
    exact Nat.le_trans (S.hm k m e) (Nat.le_add_right _ _)
  · by_cases hk : k < p.length
    · have h1' : p[k]? = some c' := by
        rw [List.getElem?_append_left hk] at h1
        exact h1
      have h2' : w.ρ[k]? = some a := by
        have h2 : (w.ρ ++ [q])[k]? = some a := h2
        rw [List.getElem?_append_left (by rw [S.len]; exact hk)] at h2
        exact h2
      refine (S.cell k c' a h1' h2').step (S.lows (w.le_cell q) k) (fun _ _ g => ?_) (up_new h)
      rw [Wd.low_G] at g ⊢
      exact g
    · have hk2 : k = p.length := by
        have := (List.getElem?_eq_some_iff.mp h1).1
        rw [List.length_append] at this
        simp at this
        omega
      subst hk2
      have e1 : c = c' := by simpa using h1
      have h2 : (w.ρ ++ [q])[p.length]? = some a := h2
      rw [← S.len] at h2
      have e2 : q = a := by simpa using h2
      subst e1
      subst e2
      rw [S.hlo _ S.hb]
      exact hc
theorem nd_ix {l : List Addr} (h : l.Nodup) {i j : Nat} {a : Addr} (e1 : l[i]? = some a) (e2 : l[j]? = some a) : i = j := by
  obtain ⟨l1, e1⟩ := List.getElem?_eq_some_iff.mp e1
  obtain ⟨l2, e2⟩ := List.getElem?_eq_some_iff.mp e2
  exact (List.getElem_inj h).mp (e1.trans e2.symm)
/-- a cell is written -/
theorem SimP.write (S : SimP Γ L w p H) {k : Nat} {a : Addr} {c : Cell} {o : HO} (ha : w.ρ[k]? = some a) (hg : w.G a = none) (hc : CellR Γ (w.low (L.lo k)) (upd H a o) c a) : SimP Γ L w (p.set k c) (upd H a o) := by
  have ho : ∀ x, H a ≠ some (.own x) := fun x z => by
    obtain ⟨u, e, n⟩ := S.live (List.mem_of_getElem? ha)
    rw [z] at e
    cases e
    exact n x rfl
  refine ⟨fun d u e => ?_, by rw [List.length_set]; exact S.len, S.nd, by rw [List.length_set]; exact S.hb, S.hlo, fun j m e => by rw [List.length_set]; exact S.hm j m e, fun j c' d h1 h2 => ?_⟩
  · have nb : d ≠ a := fun z => by
      rw [z, hg] at e
      cases e
    rw [upd_ne nb]
    exact S.sub d u e
  · by_cases hj : j = k
    · subst hj
      rw [ha] at h2
      cases h2
      have hl : j < p.length := by
        have := (List.getElem?_eq_some_iff.mp h1).1
        rw [List.length_set] at this
        exact this
      rw [List.getElem?_set_self hl] at h1
      cases h1
      exact hc
    · rw [List.getElem?_set_ne (Ne.symm hj)] at h1
      have nb : d ≠ a := fun z => by
        subst z
        exact hj (nd_ix S.nd h2 ha)
      refine (S.cell j c' d h1 h2).same (upd_ne nb) fun dx hdx => ?_
      have nd : dx ≠ a := fun z => ho d (by rw [← z]; exact hdx)
      rw [upd_ne nd]
      exact hdx
def minO (n : Nat) : Option Nat → Nat
  | none => n
  | some m => min m n
/-- a callee's cells begin behind the caller's -/
def Lv.deeper (L : Lv) (n : Nat) : Lv := ⟨n, fun k => if k < n then some (minO n (L.lo k)) else none⟩
theorem Lv.deeper_lt {L : Lv} {n k : Nat} (h : k < n) : (L.deeper n).lo k = some (minO n (L.lo k)) := by
  show (if k < n then _ else _) = _
  rw [if_pos h]
theorem SimP.enter (S : SimP Γ L w p H) : SimP Γ (L.deeper p.length) w p H := by
  refine ⟨S.sub, S.len, S.nd, Nat.le_refl _, fun k hk => ?_, fun k m e => ?_, fun k c a h1 h2 => ?_⟩
  · show (if k < p.length then _ else _) = _
    rw [if_neg (by show ¬ k < p.length; have : p.length ≤ k := hk; omega)]
  · have e : (if k < p.length then some (minO p.length (L.lo k)) else none) = some m := e
    split at e
    · cases e
      cases L.lo k with
      | none => exact Nat.le_refl _
      | some j => exact Nat.min_le_right _ _
    · cases e
  · have hk := (List.getElem?_eq_some_iff.mp h1).1
    have x := S.cell k c a h1 h2
    rw [Lv.deeper_lt hk]
    have hm := S.hm k
    cases e : L.lo k with
    | none =>
      rw [e] at x
      show CellR Γ ⟨w.G, w.ρ.take p.length⟩ H c a
      rw [← S.len, List.take_length]
      exact x
    | some m =>
      rw [e] at x
      show CellR Γ ⟨w.G, w.ρ.take (min m p.length)⟩ H c a
      rw [Nat.min_eq_left (hm m e)]
      exact x
end
/-! ### what a def has made is handed out: its cells don't change any more -/
section
mutual
/-- the tree with each cell's number read off s -/
def sub (s : Nat → Option PV) : PV → Option PV
  | .non => some .non
  | .bl b => some (.bl b)
  | .int i => some (.int i)
  | .str x => some (.str x)
  | .tup xs => match subs s xs with
    | some ys => some (.tup ys)
    | none => none
  | .lst xs => match subs s xs with
    | some ys => some (.lst ys)
    | none => none
  | .obj c xs => match subs s xs with
    | some ys => some (.obj c ys)
    | none => none
  | .own k => s k
  | .scr ns => some (.scr ns)
  | .xs c t => some (.xs c t)
  | .xv c x => match sub s x with
    | some y => some (.xv c y)
    | none => none
def subs (s : Nat → Option PV) : List PV → Option (List PV)
  | [] => some []
  | x :: xs => match sub s x with
    | some y => match subs s xs with
      | some ys => some (y :: ys)
      | none => none
    | none => none
end
/-- the cells below n stay cells; others are read, f deep -/
def thw (fld : Nat → List Str) (n : Nat) (p : Pool) : Nat → Nat → Option PV
  | 0, k => if k < n then some (.own k) else none
  | f + 1, k => if k < n then some (.own k) else match p[k]? with
    | some (.lst xs) => match subs (thw fld n p f) xs with
      | some ys => some (.lst ys)
      | none => none
    | some (.obj c xs) => if xs.length = (fld c).length then match subs (thw fld n p f) xs with
        | some ys => some (.obj c ys)
        | none => none
      else none
    | _ => none
/-- how deep cells may stand in cells -/
abbrev deep : Nat := 12
def thaw (fld : Nat → List Str) (n : Nat) (p : Pool) (x : PV) : Option PV := sub (thw fld n p deep) x

variable {Γ : Cfg} {L : Lv} {w w' : Wd} {p : Pool} {H H' : Hp}
mutual
theorem Rep.sub {s : Nat → Option PV} (lw : ∀ a o, w.G a = some o → w'.G a = some o) (hs : ∀ k y v, s k = some y → Rep Γ w (.own k) v → Rep Γ w' y v) : ∀ {x y : PV} {v : V}, R.sub s x = some y → Rep Γ w x v → Rep Γ w' y v
  | .non, y, v, e, h => by
    cases e
    exact h
  | .bl _, y, v, e, h => by
    cases e
    exact h
  | .int _, y, v, e, h => by
    cases e
    exact h
  | .str _, y, v, e, h => by
    cases e
    exact h
  | .tup xs, y, v, e, h => by
    obtain ⟨a, vs, ev, q, r⟩ := h
    unfold R.sub at e
    split at e
    · rename_i ys ey
      cases e
      exact ⟨a, vs, ev, seqT_mono lw q, Reps.sub lw hs ey r⟩
    · cases e
  | .lst xs, y, v, e, h => by
    obtain ⟨a, vs, ev, q, r⟩ := h
    unfold R.sub at e
    split at e
    · rename_i ys ey
      cases e
      exact ⟨a, vs, ev, lw _ _ q, Reps.sub lw hs ey r⟩
    · cases e
  | .scr ns, y, v, e, h => by
    cases e
    obtain ⟨a, ev, q⟩ := h
    exact ⟨a, ev, seqL_mono lw q⟩
  | .obj c xs, y, v, e, h => by
    obtain ⟨a, dx, vs, ev, g, d, n, r⟩ := h
    unfold R.sub at e
    split at e
    · rename_i ys ey
      cases e
      exact ⟨a, dx, vs, ev, lw _ _ g, lw _ _ d, n, Reps.sub lw hs ey r⟩
    · cases e
  | .own k, y, v, e, h => hs k y v e h
  | .xs c t, y, v, e, h => by
    cases e
    obtain ⟨a, t1, ev, g, g2⟩ := h
    exact ⟨a, t1, ev, lw _ _ g, lw _ _ g2⟩
  | .xv c x, y, v, e, h => by
    obtain ⟨a, d, u, ev, g, g2, r⟩ := h
    unfold R.sub at e
    split at e
    · rename_i y' ey
      cases e
      exact ⟨a, d, u, ev, lw _ _ g, lw _ _ g2, Rep.sub lw hs ey r⟩
    · cases e
theorem Reps.sub {s : Nat → Option PV} (lw : ∀ a o, w.G a = some o → w'.G a = some o) (hs : ∀ k y v, s k = some y → Rep Γ w (.own k) v → Rep Γ w' y v) : ∀ {xs ys : List PV} {vs : List V}, subs s xs = some ys → Reps Γ w xs vs → Reps Γ w' ys vs
  | [], ys, vs, e, h => by
    cases e
    exact h
  | x :: xs, ys, vs, e, h => by
    obtain ⟨v, r, ev, h1, h2⟩ := h
    unfold subs at e
    split at e
    · rename_i y ey
      split at e
      · rename_i zs ez
        cases e
        exact ⟨v, r, ev, Rep.sub lw hs ey h1, Reps.sub lw hs ez h2⟩
      · cases e
    · cases e
end
open Classical in
/-- the heap of what doesn't change any more, with all cells from the n-th on -/
noncomputable def iced (w : Wd) (n : Nat) (H : Hp) : Hp := fun a =>
  if (∃ k, n ≤ k ∧ w.ρ[k]? = some a) ∨ (∃ k b, n ≤ k ∧ w.ρ[k]? = some b ∧ H a = some (.own b)) then H a else w.G a
noncomputable def Wd.ice (w : Wd) (n : Nat) (H : Hp) : Wd := ⟨iced w n H, w.ρ.take n⟩
theorem iced_no {n : Nat} {a : Addr} (h : ¬ ((∃ k, n ≤ k ∧ w.ρ[k]? = some a) ∨ (∃ k b, n ≤ k ∧ w.ρ[k]? = some b ∧ H a = some (.own b)))) : iced w n H a = w.G a := by
  unfold iced
  rw [if_neg h]
theorem iced_at {n k : Nat} {a : Addr} (hk : n ≤ k) (h : w.ρ[k]? = some a) : iced w n H a = H a := by
  unfold iced
  rw [if_pos (.inl ⟨k, hk, h⟩)]
theorem iced_own {n k : Nat} {a b : Addr} (hk : n ≤ k) (h : w.ρ[k]? = some b) (e : H a = some (.own b)) : iced w n H a = H a := by
  unfold iced
  rw [if_pos (.inr ⟨k, b, hk, h, e⟩)]
theorem SimP.iced_le (S : SimP Γ L w p H) (n : Nat) : ∀ a o, w.G a = some o → iced w n H a = some o := fun a o e => by
  unfold iced
  split
  · exact S.sub a o e
  · exact e
theorem SimP.iced_sub (S : SimP Γ L w p H) (n : Nat) : ∀ a o, iced w n H a = some o → H a = some o := fun a o e => by
  unfold iced at e
  split at e
  · exact e
  · exact S.sub a o e
theorem thw_ok (S : SimP Γ L w p H) (n : Nat) : ∀ (f k : Nat) (y : PV) (v : V), thw Γ.fld n p f k = some y → Rep Γ w (.own k) v → Rep Γ (w.ice n H) y v
  | 0, k, y, v, e, h => by
    obtain ⟨a, ha, rfl⟩ := h
    unfold thw at e
    split at e
    · rename_i hk
      cases e
      exact ⟨a, by show (w.ρ.take n)[k]? = _; rw [List.getElem?_take_of_lt hk]; exact ha, rfl⟩
    · cases e
  | f + 1, k, y, v, e, h => by
    obtain ⟨a, ha, rfl⟩ := h
    unfold thw at e
    split at e
    · rename_i hk
      cases e
      exact ⟨a, by show (w.ρ.take n)[k]? = _; rw [List.getElem?_take_of_lt hk]; exact ha, rfl⟩
    · rename_i hk
      have hnk : n ≤ k := by omega
      split at e
      · rename_i xs hp
        obtain ⟨b', hb, hc⟩ := S.at hp
        rw [ha] at hb
        cases hb
        obtain ⟨_, vs, eH, r⟩ := hc
        replace r := Reps.mono (w.low_le (L.lo k)) r
        split at e
        · rename_i ys ey
          cases e
          refine ⟨a, vs, rfl, ?_, Reps.sub (w' := w.ice n H) (S.iced_le n) (thw_ok S n f) ey r⟩
          show iced w n H a = _
          rw [iced_at hnk ha]
          exact eH
        · cases e
      · rename_i c fs hp
        obtain ⟨b', hb, hc⟩ := S.at hp
        rw [ha] at hb
        cases hb
        obtain ⟨_, dx, vs, eH, eD, _, hl, r⟩ := hc
        replace r := Reps.mono (w.low_le (L.lo k)) r
        split at e
        · rename_i hf
          split at e
          · rename_i ys ey
            cases e
            refine ⟨a, dx, vs, rfl, ?_, ?_, ?_, Reps.sub (w' := w.ice n H) (S.iced_le n) (thw_ok S n f) ey r⟩
            · show iced w n H a = _
              rw [iced_at hnk ha, eH]
            · show iced w n H dx = _
              rw [iced_own hnk ha eD]
              exact eD
            · rw [← r.length, hf]
          · cases e
        · cases e
      · cases e
theorem thaw_ok (S : SimP Γ L w p H) {n : Nat} {x y : PV} {v : V} (e : thaw Γ.fld n p x = some y) (h : Rep Γ w x v) : Rep Γ (w.ice n H) y v :=
  Rep.sub (S.iced_le n) (thw_ok S n deep) e h
/-- behind a callee: L the caller's -/
theorem SimP.ice {n : Nat} (S : SimP Γ (L.deeper n) w p H) (hb : L.b ≤ n) (hlo : ∀ k, L.b ≤ k → L.lo k = none) (hm : ∀ k m, L.lo k = some m → m ≤ n) : SimP Γ L (w.ice n H) (p.take n) H := by
  have hn : n ≤ p.length := S.hb
  have hl : (p.take n).length = n := by
    rw [List.length_take]
    omega
  refine ⟨S.iced_sub n, ?_, S.nd.sublist (List.take_sublist _ _), by rw [hl]; exact hb, hlo, fun k m e => by rw [hl]; exact hm k m e, fun k c a h1 h2 => ?_⟩
  · show (w.ρ.take n).length = _
    rw [List.length_take, List.length_take, S.len]
  · have hk : k < n := by
      have := (List.getElem?_eq_some_iff.mp h1).1
      rw [hl] at this
      exact this
    have h2 : (w.ρ.take n)[k]? = some a := h2
    rw [List.getElem?_take_of_lt hk] at h1 h2
    have x := S.cell k c a h1 h2
    have apart : ∀ j, n ≤ j → w.ρ[j]? ≠ some a := fun j hj ej => by
      have := nd_ix S.nd h2 ej
      omega
    rw [Lv.deeper_lt hk] at x
    have lw : (w.low (some (minO n (L.lo k)))).le ((w.ice n H).low (L.lo k)) := by
      cases e : L.lo k with
      | none => exact ⟨S.iced_le n, List.prefix_refl _⟩
      | some m =>
        refine ⟨S.iced_le n, ?_⟩
        show w.ρ.take (min m n) <+: (w.ρ.take n).take m
        rw [List.take_take]
        exact List.prefix_refl _
    have gG : ((w.ice n H).low (L.lo k)).G = iced w n H := Wd.low_G
    cases c with
    | lst xs =>
      obtain ⟨g, vs, eH, r⟩ := x
      rw [Wd.low_G] at g
      refine ⟨?_, vs, eH, Reps.mono lw r⟩
      rw [gG, iced_no]
      · exact g
      · rintro (⟨j, hj, e⟩ | ⟨j, c', hj, e1, e2⟩)
        · exact apart j hj e
        · rw [eH] at e2
          cases e2
    | obj cl fs =>
      obtain ⟨g, dx, vs, eH, eD, gd, hl, r⟩ := x
      rw [Wd.low_G] at g gd
      refine ⟨?_, dx, vs, eH, eD, ?_, hl, Reps.mono lw r⟩
      · rw [gG, iced_no]
        · exact g
        · rintro (⟨j, hj, e⟩ | ⟨j, c', hj, e1, e2⟩)
          · exact apart j hj e
          · rw [eH] at e2
            cases e2
      · rw [gG, iced_no]
        · exact gd
        · rintro (⟨j, hj, e⟩ | ⟨j, c', hj, e1, e2⟩)
          · obtain ⟨o, eo, no'⟩ := S.live (List.mem_of_getElem? e)
            rw [eD] at eo
            cases eo
            exact no' a rfl
          · rw [eD] at e2
            cases e2
            exact apart j hj e1
    | dead => exact x
theorem SimP.le_ice {w0 : Wd} (S : SimP Γ L w p H) {n : Nat} (l : w0.le w) (hn : w0.ρ.length = n) : w0.le (w.ice n H) := by
  refine ⟨fun a o e => S.iced_le n a o (l.1 a o e), ?_⟩
  obtain ⟨t, e⟩ := l.2
  show w0.ρ <+: w.ρ.take n
  rw [← e, ← hn, List.take_left]
  exact List.prefix_refl _
end
end R

/-! R2: what an expression, a test, a list of arguments, a statement comes to: by functions over values as trees and a pool -/
namespace R
open PySem L2

inductive Res (α : Type) where
  | ok (x : α) (p : Pool) | exc (c : Nat) (v : Option PV) (p : Pool) | stuck
/-- the names' values; b: how many cells are the callers' -/
structure En where
  b : Nat
  sl : List (Option PV)
abbrev M (α : Type) := En → Pool → Res α
def Res.bind {α β : Type} (r : Res α) (f : α → Pool → Res β) : Res β := match r with
  | .ok x p => f x p
  | .exc c v p => .exc c v p
  | .stuck => .stuck
inductive Ctl where
  | next (en : En) (p : Pool) | ret (x : PV) (p : Pool) | brk (en : En) (p : Pool) | cont (en : En) (p : Pool) | exc (c : Nat) (v : Option PV) (en : En) (p : Pool) | stuck
abbrev S := En → Pool → Ctl
def Res.run {α : Type} (r : Res α) (en : En) (f : α → Pool → Ctl) : Ctl := match r with
  | .ok x p => f x p
  | .exc c v p => .exc c v en p
  | .stuck => .stuck
def Ctl.andThen (r : Ctl) (f : S) : Ctl := match r with
  | .next en p => f en p
  | r => r

structure Cn where
  Γ : Cfg
  W : WX
def ExcR (Γ : Cfg) (w : Wd) (c : Nat) (ov : Option PV) (d : Option Addr) : Prop := match ov with
  | none => d = none
  | some x => ∃ dx v, d = some dx ∧ w.G dx = some (.xd [(Γ.exf c, v)]) ∧ Rep Γ w x v
theorem ExcR.mono {Γ : Cfg} {w w' : Wd} {c : Nat} {ov : Option PV} {d : Option Addr} (l : w.le w') (h : ExcR Γ w c ov d) : ExcR Γ w' c ov d := by
  cases ov with
  | none => exact h
  | some x =>
    obtain ⟨dx, v, e, g, r⟩ := h
    exact ⟨dx, v, e, l.1 _ _ g, r.mono l⟩
structure EnR (C : Cn) (L : Lv) (w : Wd) (en : En) (σ : St) : Prop where
  b : en.b = L.b
  len : en.sl.length = σ.length
  val : ∀ (i : Nat) x, en.sl[i]? = some (some x) → ∃ v, σ[i]? = some (some v) ∧ Rep C.Γ w x v
theorem EnR.mono {C : Cn} {L : Lv} {w w' : Wd} {en : En} {σ : St} (l : w.le w') (h : EnR C L w en σ) : EnR C L w' en σ :=
  ⟨h.b, h.len, fun i x e => let ⟨v, a, r⟩ := h.val i x e; ⟨v, a, r.mono l⟩⟩
theorem EnR.set {C : Cn} {L : Lv} {w : Wd} {en : En} {σ : St} (h : EnR C L w en σ) {i : Nat} {x : PV} {v : V} (r : Rep C.Γ w x v) : EnR C L w ⟨en.b, en.sl.set i (some x)⟩ (σ.set i (some v)) := by
  refine ⟨h.b, by rw [List.length_set, List.length_set]; exact h.len, fun j y e => ?_⟩
  have e : (en.sl.set i (some x))[j]? = some (some y) := e
  by_cases hj : j = i
  · subst hj
    have hl : j < en.sl.length := by
      have := (List.getElem?_eq_some_iff.mp e).1
      rw [List.length_set] at this
      exact this
    rw [List.getElem?_set_self hl] at e
    cases e
    exact ⟨v, List.getElem?_set_self (by rw [← h.len]; exact hl), r⟩
  · rw [List.getElem?_set_ne (Ne.symm hj)] at e
    obtain ⟨u, e1, e2⟩ := h.val j y e
    exact ⟨u, by rw [List.getElem?_set_ne (Ne.symm hj)]; exact e1, e2⟩

/-- what follows, of a thing that α's stand for -/
def Post {α β : Type} (C : Cn) (L : Lv) (w : Wd) (σ : St) (R : Wd → α → β → Prop) (r : Res α) (Q : β → Hp → Prop) : Prop := match r with
  | .ok x p => ∀ w' H' v, w.le w' → SimP C.Γ L w' p H' → R w' x v → Q v H'
  | .exc c ov p => ∀ w' H' d, w.le w' → SimP C.Γ L w' p H' → ExcR C.Γ w' c ov d → C.W (.ref (C.Γ.cls c)) d σ H'
  | .stuck => False
theorem Post.mono {α β : Type} {C : Cn} {L : Lv} {w w' : Wd} {σ : St} {R : Wd → α → β → Prop} {r : Res α} {Q : β → Hp → Prop} (l : w.le w') (h : Post C L w σ R r Q) : Post C L w' σ R r Q := by
  cases r with
  | ok x p => exact fun w2 H2 v l2 => h w2 H2 v (l.trans l2)
  | exc c v p => exact fun w2 H2 d l2 => h w2 H2 d (l.trans l2)
  | stuck => exact h
theorem Post.bind {α β γ δ : Type} {C : Cn} {L : Lv} {w : Wd} {σ : St} {R : Wd → α → β → Prop} {R' : Wd → γ → δ → Prop} {r : Res α} {f : α → Pool → Res γ} {Q : δ → Hp → Prop} {Q' : β → Hp → Prop} (h : Post C L w σ R' (r.bind f) Q)
    (k : ∀ x p w' H' v, w.le w' → SimP C.Γ L w' p H' → R w' x v → Post C L w' σ R' (f x p) Q → Q' v H') : Post C L w σ R r Q' := by
  cases r with
  | ok x p => exact fun w' H' v l S r => k x p w' H' v l S r (Post.mono l h)
  | exc c v p => exact h
  | stuck => exact h
theorem Post.ok {α β : Type} {C : Cn} {L : Lv} {w : Wd} {σ : St} {R : Wd → α → β → Prop} {x : α} {p : Pool} {Q : β → Hp → Prop} (h : Post C L w σ R (.ok x p) Q) {H : Hp} {v : β} (S : SimP C.Γ L w p H) (r : R w x v) : Q v H := h w H v (Wd.le.refl w) S r

abbrev RV (C : Cn) : Wd → PV → V → Prop := Rep C.Γ
abbrev RB : Wd → Bool → Bool → Prop := fun _ b c => b = c
abbrev RL (C : Cn) : Wd → List PV → List V → Prop := Reps C.Γ

/-! ### the judgements -/
def wE (C : Cn) (m : M PV) : TE := fun σ H Q => ∃ L w p en, SimP C.Γ L w p H ∧ EnR C L w en σ ∧ Post C L w σ (RV C) (m en p) Q
def wT (C : Cn) (m : M Bool) : TT := fun σ H Q => ∃ L w p en, SimP C.Γ L w p H ∧ EnR C L w en σ ∧ Post C L w σ RB (m en p) Q
def wA (C : Cn) (m : M (List PV)) : TA := fun σ H Q => ∃ L w p en, SimP C.Γ L w p H ∧ EnR C L w en σ ∧ Post C L w σ (RL C) (m en p) Q
def PostS (C : Cn) (L : Lv) (w : Wd) (D : Ends) (r : Ctl) : Prop := match r with
  | .next en p => ∀ w' H' σ', w.le w' → SimP C.Γ L w' p H' → EnR C L w' en σ' → D.nx σ' H'
  | .ret x p => ∀ w' H' v, w.le w' → SimP C.Γ L w' p H' → Rep C.Γ w' x v → D.rt v H'
  | .brk en p => ∀ w' H' σ', w.le w' → SimP C.Γ L w' p H' → EnR C L w' en σ' → D.bk σ' H'
  | .cont en p => ∀ w' H' σ', w.le w' → SimP C.Γ L w' p H' → EnR C L w' en σ' → D.ct σ' H'
  | .exc c ov en p => ∀ w' H' σ' d, w.le w' → SimP C.Γ L w' p H' → EnR C L w' en σ' → ExcR C.Γ w' c ov d → C.W (.ref (C.Γ.cls c)) d σ' H'
  | .stuck => False
def wS (C : Cn) (m : S) : TS := fun D σ H => ∃ L w p en, SimP C.Γ L w p H ∧ EnR C L w en σ ∧ PostS C L w D (m en p)
theorem PostS.mono {C : Cn} {L : Lv} {w w' : Wd} {D : Ends} {r : Ctl} (l : w.le w') (h : PostS C L w D r) : PostS C L w' D r := by
  cases r with
  | next en p => exact fun w2 H2 s l2 => h w2 H2 s (l.trans l2)
  | ret x p => exact fun w2 H2 s l2 => h w2 H2 s (l.trans l2)
  | brk en p => exact fun w2 H2 s l2 => h w2 H2 s (l.trans l2)
  | cont en p => exact fun w2 H2 s l2 => h w2 H2 s (l.trans l2)
  | exc c v en p => exact fun w2 H2 s d l2 => h w2 H2 s d (l.trans l2)
  | stuck => exact h
/-- off an expression into a statement -/
theorem PostS.run {α β : Type} {C : Cn} {L : Lv} {w : Wd} {en : En} {σ : St} {R : Wd → α → β → Prop} {r : Res α} {f : α → Pool → Ctl} {D : Ends} {Q' : β → Hp → Prop} (E : EnR C L w en σ) (h : PostS C L w D (r.run en f))
    (k : ∀ x p w' H' v, w.le w' → SimP C.Γ L w' p H' → R w' x v → PostS C L w' D (f x p) → Q' v H') : Post C L w σ R r Q' := by
  cases r with
  | ok x p => exact fun w' H' v l S r => k x p w' H' v l S r (PostS.mono l h)
  | exc c v p => exact fun w' H' d l S x => h w' H' σ d l S (E.mono l) x
  | stuck => exact h
theorem _root_.L2.PE.imp {X : Cx} {e : Expr} {t t' : TE} (h : PE X e t) (i : ∀ σ H Q, t' σ H Q → t σ H Q) : PE X e t' := ⟨fun pins s σ H Q I hq => h.run pins s σ H Q I (i _ _ _ hq)⟩
theorem _root_.L2.PT.imp {X : Cx} {e : Expr} {t t' : TT} (h : PT X e t) (i : ∀ σ H Q, t' σ H Q → t σ H Q) : PT X e t' := ⟨fun pins s σ H Q I hq => h.run pins s σ H Q I (i _ _ _ hq)⟩
theorem _root_.L2.PW.imp {X : Cx} {e : Expr} {t t' : TT} (h : PW X e t) (i : ∀ σ H Q, t' σ H Q → t σ H Q) : PW X e t' := ⟨fun wh pins s σ H Q I hq => h.run wh pins s σ H Q I (i _ _ _ hq)⟩
theorem _root_.L2.PA.imp {X : Cx} {e : List Expr} {t t' : TA} (h : PA X e t) (i : ∀ σ H Q, t' σ H Q → t σ H Q) : PA X e t' := ⟨fun pos pins s σ H Q I hq => h.run pos pins s σ H Q I (i _ _ _ hq)⟩
theorem _root_.L2.PS.imp {X : Cx} {e : Stmt} {t t' : TS} (h : PS X e t) (i : ∀ D σ H, t' D σ H → t D σ H) : PS X e t' := ⟨fun pins s σ H D I hq => h.run pins s σ H D I (i _ _ _ hq)⟩
theorem _root_.L2.PSs.imp {X : Cx} {e : List Stmt} {t t' : TS} (h : PSs X e t) (i : ∀ D σ H, t' D σ H → t D σ H) : PSs X e t' := ⟨fun pins s σ H D I hq => h.run pins s σ H D I (i _ _ _ hq)⟩
abbrev RE (X : Cx) (C : Cn) (e : Expr) (m : M PV) : Prop := PE X e (wE C m)
abbrev RT (X : Cx) (C : Cn) (e : Expr) (m : M Bool) : Prop := PT X e (wT C m)
abbrev RW (X : Cx) (C : Cn) (e : Expr) (m : M Bool) : Prop := PW X e (wT C m)
structure RA (X : Cx) (C : Cn) (es : List Expr) (m : M (List PV)) : Prop where
  pa : PA X es (wA C m)
  len : ∀ en p xs p1, m en p = .ok xs p1 → xs.length = es.length
abbrev RS (X : Cx) (C : Cn) (st : Stmt) (m : S) : Prop := PS X st (wS C m)
abbrev RSs (X : Cx) (C : Cn) (st : List Stmt) (m : S) : Prop := PSs X st (wS C m)

section
variable {X : Cx} {C : Cn} {pos : Pos}
/-! ### names, constants -/
def mVar (i : Nat) : M PV := fun en p => match en.sl[i]? with
  | some (some x) => .ok x p
  | _ => .stuck
def mC (x : PV) : M PV := fun _ p => .ok x p
theorem rv (i : Nat) {x : Str} (hN : X.N[i]? = some x := by rfl) (hv : Vis X.env.scope x := by first | exact Or.inl rfl | exact Or.inr (Or.inl rfl) | exact Or.inr (Or.inr rfl)) (hd : (x == ("__debug__" : Str)) = false := by decide)
    (hcd : (x == ("__classdict__" : Str)) = false := by decide) : RE X C (.Name x pos) (mVar i) := by
  refine (pe_var hN hv hd hcd).imp fun σ H Q ⟨L, w, p, en, S, E, h⟩ => ?_
  unfold mVar at h
  split at h
  · rename_i y e
    obtain ⟨v, e1, r⟩ := E.val i y e
    exact ⟨v, e1, h.ok S r⟩
  · exact h.elim
theorem re_int {i j} : RE X C (.Constant (.int i) j pos) (mC (.int i)) := pe_int.imp fun σ H Q ⟨L, w, p, en, S, E, h⟩ => h.ok S (rfl : Rep C.Γ w (.int i) (.int i))
theorem re_bl {b j} : RE X C (.Constant (.bool b) j pos) (mC (.bl b)) := pe_bl.imp fun σ H Q ⟨L, w, p, en, S, E, h⟩ => h.ok S (rfl : Rep C.Γ w (.bl b) (.bl b))
theorem re_non {j} : RE X C (.Constant .none j pos) (mC .non) := pe_non.imp fun σ H Q ⟨L, w, p, en, S, E, h⟩ => h.ok S (rfl : Rep C.Γ w .non .non)
theorem re_str {x j} : RE X C (.Constant (.str x) j pos) (mC (.str x)) := pe_str.imp fun σ H Q ⟨L, w, p, en, S, E, h⟩ => h.ok S (rfl : Rep C.Γ w (.str x) (.str x))
/-- a module's constant that is a number -/
theorem re_globI {x : Str} {i : Int} {u : Value} (hg : Gl X x) (hm : X.mg x = some u) (r : RelV (.int i) u) (hd : (x == ("__debug__" : Str)) = false := by decide) : RE X C (.Name x pos) (mC (.int i)) :=
  (pe_glob hg hm r hd).imp fun σ H Q ⟨L, w, p, en, S, E, h⟩ => h.ok S (rfl : Rep C.Γ w (.int i) (.int i))
/-- what is never come to -/
def mNo {α : Type} : M α := fun _ _ => .stuck
theorem re_no {e : Expr} : RE X C e mNo := ⟨fun _ _ _ _ _ _ ⟨_, _, _, _, _, _, h⟩ => h.elim⟩
theorem rt_no {e : Expr} : RT X C e mNo := ⟨fun _ _ _ _ _ _ ⟨_, _, _, _, _, _, h⟩ => h.elim⟩
/-! ### arguments, displays -/
def mNil : M (List PV) := fun _ p => .ok [] p
def mCons (a : M PV) (r : M (List PV)) : M (List PV) := fun en p => (a en p).bind fun x p1 => (r en p1).bind fun xs p2 => .ok (x :: xs) p2
theorem ra_nil : RA X C [] mNil := ⟨pa_nil.imp fun σ H Q ⟨L, w, p, en, S, E, h⟩ => h.ok S (Reps.nil), fun _ _ _ _ e => by
  cases e
  rfl⟩
theorem ra_cons {e : Expr} {es : List Expr} {a : M PV} {r : M (List PV)} (ha : RE X C e a) (hr : RA X C es r) (hs : starEach (e :: es) X.env = (false, eval e X.env) :: starEach es X.env := by rfl) : RA X C (e :: es) (mCons a r) := by
  refine ⟨(pa_cons ha hr.pa hs).imp fun σ H Q ⟨L, w, p, en, S, E, h⟩ => ?_, fun en p xs p1 q => ?_⟩
  · refine ⟨L, w, p, en, S, E, h.bind fun x p1 w1 H1 v l1 S1 r1 h1 => ?_⟩
    refine ⟨L, w1, p1, en, S1, E.mono l1, h1.bind fun xs p2 w2 H2 vs l2 S2 r2 h2 => ?_⟩
    exact h2.ok S2 (Reps.cons (r1.mono l2) r2)
  · unfold mCons at q
    cases e : a en p with
    | ok x p2 =>
      rw [e] at q
      have q : (r en p2).bind (fun xs p2 => Res.ok (x :: xs) p2) = Res.ok xs p1 := q
      cases e2 : r en p2 with
      | ok ys p3 =>
        rw [e2] at q
        cases q
        rw [List.length_cons, List.length_cons, hr.len _ _ _ _ e2]
      | exc c v p3 =>
        rw [e2] at q
        cases q
      | stuck =>
        rw [e2] at q
        cases q
    | exc c v p2 =>
      rw [e] at q
      cases q
    | stuck =>
      rw [e] at q
      cases q
def big : Nat := 100000
theorem big_le {n : Nat} (h : n ≤ big) : n ≤ sizeLine := Nat.le_trans h (by decide)
theorem big_lt {n : Nat} (h : n < big) : n < sizeLine := Nat.lt_of_lt_of_le h (by decide)
/-- a written tuple; a written list that doesn't change; one that does -/
def mTup (a : M (List PV)) : M PV := fun en p => (a en p).bind fun xs p1 => .ok (.tup xs) p1
def mLst (a : M (List PV)) : M PV := fun en p => (a en p).bind fun xs p1 => .ok (.lst xs) p1
def mLstO (a : M (List PV)) : M PV := fun en p => (a en p).bind fun xs p1 => .ok (.own p1.length) (p1 ++ [.lst xs])
theorem newTup {L : Lv} {w : Wd} {p : Pool} {H : Hp} (S : SimP C.Γ L w p H) {xs : List PV} {vs : List V} (r : Reps C.Γ w xs vs) {σ : St} {Q : VK} (h : Post C L w σ (RV C) (.ok (.tup xs) p) Q) : ∀ q, H q = none → Q (.ref q) (upd H q (.tup vs)) := fun q hq =>
  h _ _ _ (S.le_add hq) (S.new hq) ⟨q, vs, rfl, .inl (.inl add_at), r.mono (S.le_add hq)⟩
theorem newLst {L : Lv} {w : Wd} {p : Pool} {H : Hp} (S : SimP C.Γ L w p H) {xs : List PV} {vs : List V} (r : Reps C.Γ w xs vs) {σ : St} {Q : VK} (h : Post C L w σ (RV C) (.ok (.lst xs) p) Q) : ∀ q, H q = none → Q (.ref q) (upd H q (.lst vs)) := fun q hq =>
  h _ _ _ (S.le_add hq) (S.new hq) ⟨q, vs, rfl, add_at, r.mono (S.le_add hq)⟩
theorem newOwn {L : Lv} {w : Wd} {p : Pool} {H : Hp} (S : SimP C.Γ L w p H) {xs : List PV} {vs : List V} (r : Reps C.Γ w xs vs) {σ : St} {Q : VK} (h : Post C L w σ (RV C) (.ok (.own p.length) (p ++ [.lst xs])) Q) : ∀ q, H q = none → Q (.ref q) (upd H q (.lst vs)) := fun q hq => by
  refine h _ _ _ (w.le_cell q) (S.newCell hq ⟨S.free hq, vs, upd_same, r.mono (w.le_cell q)⟩) ⟨q, ?_, rfl⟩
  show (w.ρ ++ [q])[p.length]? = some q
  rw [← S.len]
  simp
theorem re_tup {es : List Expr} {x1} {a : M (List PV)} (h : RA X C es a) (hl : es.length ≤ sizeLine := by decide) : RE X C (.Tuple es x1 pos) (mTup a) := by
  refine (pe_tup h.pa).imp fun σ H Q ⟨L, w, p, en, S, E, q⟩ => ⟨L, w, p, en, S, E, ?_⟩
  unfold mTup at q
  cases e : a en p with
  | ok xs p1 =>
    rw [e] at q
    exact fun w' H' vs l S' r => ⟨by rw [← Reps.length r, h.len _ _ _ _ e]; exact hl, newTup S' r (Post.mono l q)⟩
  | exc c v p1 =>
    rw [e] at q
    exact q
  | stuck =>
    rw [e] at q
    exact q
theorem re_lst {es : List Expr} {a : M (List PV)} (h : RA X C es a) (hl : es.length ≤ sizeLine := by decide) : RE X C (.List es pos) (mLst a) := by
  refine (pe_lst h.pa).imp fun σ H Q ⟨L, w, p, en, S, E, q⟩ => ⟨L, w, p, en, S, E, ?_⟩
  unfold mLst at q
  cases e : a en p with
  | ok xs p1 =>
    rw [e] at q
    exact fun w' H' vs l S' r => ⟨by rw [← Reps.length r, h.len _ _ _ _ e]; exact hl, newLst S' r (Post.mono l q)⟩
  | exc c v p1 =>
    rw [e] at q
    exact q
  | stuck =>
    rw [e] at q
    exact q
theorem re_lstO {es : List Expr} {a : M (List PV)} (h : RA X C es a) (hl : es.length ≤ sizeLine := by decide) : RE X C (.List es pos) (mLstO a) := by
  refine (pe_lst h.pa).imp fun σ H Q ⟨L, w, p, en, S, E, q⟩ => ⟨L, w, p, en, S, E, ?_⟩
  unfold mLstO at q
  cases e : a en p with
  | ok xs p1 =>
    rw [e] at q
    exact fun w' H' vs l S' r => ⟨by rw [← Reps.length r, h.len _ _ _ _ e]; exact hl, newOwn S' r (Post.mono l q)⟩
  | exc c v p1 =>
    rw [e] at q
    exact q
  | stuck =>
    rw [e] at q
    exact q
/-! ### operators -/
abbrev F2 := PV → PV → Pool → Res PV
def mBin (f : F2) (a b : M PV) : M PV := fun en p => (a en p).bind fun x p1 => (b en p1).bind fun y p2 => f x y p2
def RefO (C : Cn) (r : R2) (f : F2) : Prop := ∀ L w p H σ x y vx vy Q, SimP C.Γ L w p H → Rep C.Γ w x vx → Rep C.Γ w y vy → Post C L w σ (RV C) (f x y p) Q → r vx vy H Q
theorem wE_op {r : R2} {f : F2} {ma mb : M PV} (hr : RefO C r f) : ∀ σ H Q, wE C (mBin f ma mb) σ H Q → tOp r (wE C ma) (wE C mb) σ H Q := fun σ H Q ⟨L, w, p, en, S, E, h⟩ => by
  refine ⟨L, w, p, en, S, E, h.bind fun x p1 w1 H1 v l1 S1 r1 h1 => ?_⟩
  refine ⟨L, w1, p1, en, S1, E.mono l1, h1.bind fun y p2 w2 H2 u l2 S2 r2 h2 => ?_⟩
  exact hr L w2 p2 H2 σ x y v u Q S2 (r1.mono l2) r2 h2
theorem re_bin {a b : Expr} {op : Operator} {r : R2} {f : F2} {ma mb : M PV} (ho : OpR X (binaryOp op) r) (hr : RefO C r f) (ha : RE X C a ma) (hb : RE X C b mb) : RE X C (.BinOp a op b pos) (mBin f ma mb) := (pe_op ho ha hb).imp (wE_op hr)
theorem re_cmp {a b : Expr} {op : CmpOp} {r : R2} {f : F2} {ma mb : M PV} (ho : OpR X (compareOp op) r) (hr : RefO C r f) (ha : RE X C a ma) (hb : RE X C b mb) (hm : behindInMarks op b = false) : RE X C (.Compare a [op] [b] pos) (mBin f ma mb) := (pe_cmpR ho ha hb hm).imp (wE_op hr)
/-- an expression that gives a truth, as a test -/
def mB (a : M PV) : M Bool := fun en p => (a en p).bind fun x p1 => match x with
  | .bl b => .ok b p1
  | _ => .stuck
theorem wT_test {t : TE} {m : M PV} (i : ∀ σ H Q, wE C m σ H Q → t σ H Q) : ∀ σ H Q, wT C (mB m) σ H Q → tTest t σ H Q := fun σ H Q ⟨L, w, p, en, S, E, h⟩ => by
  refine i σ H _ ⟨L, w, p, en, S, E, h.bind fun x p1 w1 H1 v l1 S1 r1 h1 => ?_⟩
  cases x with
  | bl b => exact ⟨b, r1, h1.ok S1 rfl⟩
  | _ => exact h1.elim
theorem rt_cmp {a b : Expr} {op : CmpOp} {r : R2} {f : F2} {ma mb : M PV} (ho : OpR X (compareOp op) r) (hr : RefO C r f) (ha : RE X C a ma) (hb : RE X C b mb) (hm : behindInMarks op b = false) : RT X C (.Compare a [op] [b] pos) (mB (mBin f ma mb)) := (pt_cmpR ho ha hb hm).imp (wT_test (wE_op hr))
theorem rt_val {e : Expr} {m : M PV} (h : RE X C e m) (he : ∀ whole, isTrue e X.env whole = (do let v ← whole; standAt e.pos; holding [v] (truthy v)) := by intro _; rfl) : RT X C e (mB m) := (pt_val h he).imp fun σ H Q q => wT_test (t := wE C m) (fun _ _ _ z => z) σ H Q q
/-- a < b < c -/
def mChain (f g : F2) (a b c : M PV) : M PV := fun en p => (a en p).bind fun x p1 => (b en p1).bind fun y p2 => (f x y p2).bind fun z p3 => match z with
  | .bl true => (c en p3).bind fun u p4 => g y u p4
  | .bl false => .ok (.bl false) p3
  | _ => .stuck
theorem wE_chain {r r' : R2} {f g : F2} {ma mb mc : M PV} (hr : RefO C r f) (hr' : RefO C r' g) : ∀ σ H Q, wE C (mChain f g ma mb mc) σ H Q → tChain r r' (wE C ma) (wE C mb) (wE C mc) σ H Q := fun σ H Q ⟨L, w, p, en, S, E, h⟩ => by
  refine ⟨L, w, p, en, S, E, h.bind fun x p1 w1 H1 v l1 S1 r1 h1 => ?_⟩
  refine ⟨L, w1, p1, en, S1, E.mono l1, h1.bind fun y p2 w2 H2 u l2 S2 r2 h2 => ?_⟩
  refine hr L w2 p2 H2 σ x y v u _ S2 (r1.mono l2) r2 (h2.bind fun z p3 w3 H3 o l3 S3 r3 h3 => ?_)
  cases z with
  | bl b =>
    refine ⟨b, r3, ?_⟩
    cases b with
    | true =>
      refine iteT ?_
      refine ⟨L, w3, p3, en, S3, E.mono ((l1.trans l2).trans l3), h3.bind fun t p4 w4 H4 e l4 S4 r4 h4 => ?_⟩
      exact hr' L w4 p4 H4 σ y t u e Q S4 (r2.mono (l3.trans l4)) r4 h4
    | false =>
      have e : o = V.bl false := r3
      subst e
      exact iteF (h3.ok S3 r3)
  | _ => exact h3.elim
theorem re_chain {a b c : Expr} {op op' : CmpOp} {r r' : R2} {f g : F2} {ma mb mc : M PV} (ho : OpR X (compareOp op) r) (hr : RefO C r f) (ho' : OpR X (compareOp op') r') (hr' : RefO C r' g) (ha : RE X C a ma) (hb : RE X C b mb) (hc : RE X C c mc)
    (hl : lastMarks [op, op'] [b, c] = false := by rfl) : RE X C (.Compare a [op, op'] [b, c] pos) (mChain f g ma mb mc) := (pe_chain ho ho' ha hb hc hl).imp (wE_chain hr hr')
theorem rt_chain {a b c : Expr} {op op' : CmpOp} {r r' : R2} {f g : F2} {ma mb mc : M PV} (ho : OpR X (compareOp op) r) (hr : RefO C r f) (ho' : OpR X (compareOp op') r') (hr' : RefO C r' g) (ha : RE X C a ma) (hb : RE X C b mb) (hc : RE X C c mc)
    (hl : lastMarks [op, op'] [b, c] = false := by rfl) : RT X C (.Compare a [op, op'] [b, c] pos) (mB (mChain f g ma mb mc)) := (pt_chain ho ho' ha hb hc hl).imp (wT_test (wE_chain hr hr'))
/-! ### and, or, not, if else -/
def mAnd (a b : M Bool) : M Bool := fun en p => (a en p).bind fun x p1 => if x = true then b en p1 else .ok false p1
def mOr (a b : M Bool) : M Bool := fun en p => (a en p).bind fun x p1 => if x = true then .ok true p1 else b en p1
def mNot (a : M Bool) : M Bool := fun en p => (a en p).bind fun x p1 => .ok (!x) p1
theorem rw_and1 {a : Expr} {m : M Bool} (h : RT X C a m) : RW X C (.BoolOp .And [a] pos) m := pw_and1 h
theorem rw_or1 {a : Expr} {m : M Bool} (h : RT X C a m) : RW X C (.BoolOp .Or [a] pos) m := pw_or1 h
theorem rw_and {a b : Expr} {rest : List Expr} {ma mb : M Bool} (ha : RT X C a ma) (hb : RW X C (.BoolOp .And (b :: rest) pos) mb) : RW X C (.BoolOp .And (a :: b :: rest) pos) (mAnd ma mb) :=
  (pw_and ha hb).imp fun σ H Q ⟨L, w, p, en, S, E, h⟩ => by
    refine ⟨L, w, p, en, S, E, h.bind fun x p1 w1 H1 v l1 S1 r1 h1 => ?_⟩
    cases r1
    cases x with
    | true => exact iteT ⟨L, w1, p1, en, S1, E.mono l1, h1⟩
    | false => exact iteF (h1.ok S1 rfl)
theorem rw_or {a b : Expr} {rest : List Expr} {ma mb : M Bool} (ha : RT X C a ma) (hb : RW X C (.BoolOp .Or (b :: rest) pos) mb) : RW X C (.BoolOp .Or (a :: b :: rest) pos) (mOr ma mb) :=
  (pw_or ha hb).imp fun σ H Q ⟨L, w, p, en, S, E, h⟩ => by
    refine ⟨L, w, p, en, S, E, h.bind fun x p1 w1 H1 v l1 S1 r1 h1 => ?_⟩
    cases r1
    cases x with
    | false => exact iteF ⟨L, w1, p1, en, S1, E.mono l1, h1⟩
    | true => exact iteT (h1.ok S1 rfl)
theorem rt_w {e : Expr} {m : M Bool} (h : RW X C e m) : RT X C e m := h.pt
theorem rt_not {a : Expr} {m : M Bool} (h : RT X C a m) : RT X C (.UnaryOp .Not a pos) (mNot m) := (pt_not h).imp fun σ H Q ⟨L, w, p, en, S, E, h⟩ => by
  refine ⟨L, w, p, en, S, E, h.bind fun x p1 w1 H1 v l1 S1 r1 h1 => ?_⟩
  cases r1
  exact h1.ok S1 rfl
/-- .. as values: all but the last one truths -/
def mAndV (a b : M PV) : M PV := fun en p => (a en p).bind fun x p1 => match x with
  | .bl true => b en p1
  | .bl false => .ok (.bl false) p1
  | _ => .stuck
def mOrV (a b : M PV) : M PV := fun en p => (a en p).bind fun x p1 => match x with
  | .bl true => .ok (.bl true) p1
  | .bl false => b en p1
  | _ => .stuck
def mNotV (a : M PV) : M PV := fun en p => (a en p).bind fun x p1 => match x with
  | .bl b => .ok (.bl (!b)) p1
  | _ => .stuck
theorem re_one {a : Expr} {op} {m : M PV} (h : RE X C a m) : RE X C (.BoolOp op [a] pos) m := pe_one h
theorem re_and {a b : Expr} {rest : List Expr} {ma mb : M PV} (ha : RE X C a ma) (hb : RE X C (.BoolOp .And (b :: rest) pos) mb) : RE X C (.BoolOp .And (a :: b :: rest) pos) (mAndV ma mb) :=
  (pe_and ha hb).imp fun σ H Q ⟨L, w, p, en, S, E, h⟩ => by
    refine ⟨L, w, p, en, S, E, h.bind fun x p1 w1 H1 v l1 S1 r1 h1 => ?_⟩
    cases x with
    | bl b =>
      refine ⟨b, r1, ?_⟩
      cases b with
      | true => exact iteT ⟨L, w1, p1, en, S1, E.mono l1, h1⟩
      | false => exact iteF (h1.ok S1 rfl)
    | _ => exact h1.elim
theorem re_or {a b : Expr} {rest : List Expr} {ma mb : M PV} (ha : RE X C a ma) (hb : RE X C (.BoolOp .Or (b :: rest) pos) mb) : RE X C (.BoolOp .Or (a :: b :: rest) pos) (mOrV ma mb) :=
  (pe_or ha hb).imp fun σ H Q ⟨L, w, p, en, S, E, h⟩ => by
    refine ⟨L, w, p, en, S, E, h.bind fun x p1 w1 H1 v l1 S1 r1 h1 => ?_⟩
    cases x with
    | bl b =>
      refine ⟨b, r1, ?_⟩
      cases b with
      | false => exact iteF ⟨L, w1, p1, en, S1, E.mono l1, h1⟩
      | true => exact iteT (h1.ok S1 rfl)
    | _ => exact h1.elim
theorem re_not {a : Expr} {ma : M PV} (ha : RE X C a ma) : RE X C (.UnaryOp .Not a pos) (mNotV ma) :=
  (pe_not ha).imp fun σ H Q ⟨L, w, p, en, S, E, h⟩ => by
    refine ⟨L, w, p, en, S, E, h.bind fun x p1 w1 H1 v l1 S1 r1 h1 => ?_⟩
    cases x with
    | bl b => exact ⟨b, r1, h1.ok S1 rfl⟩
    | _ => exact h1.elim
def mIf {α : Type} (t : M Bool) (a b : M α) : M α := fun en p => (t en p).bind fun x p1 => if x = true then a en p1 else b en p1
theorem re_if {c a b : Expr} {t : M Bool} {ma mb : M PV} (hc : RT X C c t) (ha : RE X C a ma) (hb : RE X C b mb) : RE X C (.IfExp c a b pos) (mIf t ma mb) := (pe_ifExp hc ha hb).imp fun σ H Q ⟨L, w, p, en, S, E, h⟩ => by
  refine ⟨L, w, p, en, S, E, h.bind fun x p1 w1 H1 v l1 S1 r1 h1 => ?_⟩
  cases r1
  cases x with
  | true => exact iteT ⟨L, w1, p1, en, S1, E.mono l1, h1⟩
  | false => exact iteF ⟨L, w1, p1, en, S1, E.mono l1, h1⟩
/-! ### statements -/
def sNop : S := fun en p => .next en p
def sSeq (a b : S) : S := fun en p => (a en p).andThen b
theorem PostS.andThen {L : Lv} {w : Wd} {D : Ends} {r : Ctl} {f : S} {t : TS} (h : PostS C L w D (r.andThen f)) (k : ∀ en p w' H' σ', w.le w' → SimP C.Γ L w' p H' → EnR C L w' en σ' → PostS C L w' D (f en p) → t D σ' H') : PostS C L w { D with nx := t D } r := by
  cases r with
  | next en p => exact fun w' H' σ' l S E => k en p w' H' σ' l S E (PostS.mono l h)
  | _ => exact h
theorem rss_nil : RSs X C [] sNop := pss_nil.imp fun D σ H ⟨L, w, p, en, S, E, h⟩ => h w H σ (Wd.le.refl w) S E
theorem rss_cons {st : Stmt} {rest : List Stmt} {a b : S} (ha : RS X C st a) (hb : RSs X C rest b) : RSs X C (st :: rest) (sSeq a b) := (pss_cons ha hb).imp fun D σ H ⟨L, w, p, en, S, E, h⟩ =>
  ⟨L, w, p, en, S, E, h.andThen fun en p w' H' σ' _ S' E' h' => ⟨L, w', p, en, S', E', h'⟩⟩
theorem rss_one {st : Stmt} {a : S} (ha : RS X C st a) : RSs X C [st] a := pss_one ha
def sNo : S := fun _ _ => .stuck
theorem rs_no {st : Stmt} : RS X C st sNo := ⟨fun _ _ _ _ _ _ ⟨_, _, _, _, _, _, h⟩ => h.elim⟩
theorem rss_no {st : List Stmt} : RSs X C st sNo := ⟨fun _ _ _ _ _ _ ⟨_, _, _, _, _, _, h⟩ => h.elim⟩
def sBrk : S := fun en p => .brk en p
def sCont : S := fun en p => .cont en p
theorem rs_pass : RS X C (.Pass pos) sNop := ps_pass.imp fun D σ H ⟨L, w, p, en, S, E, h⟩ => h w H σ (Wd.le.refl w) S E
theorem rs_break : RS X C (.Break pos) sBrk := ps_break.imp fun D σ H ⟨L, w, p, en, S, E, h⟩ => h w H σ (Wd.le.refl w) S E
theorem rs_continue : RS X C (.Continue pos) sCont := ps_continue.imp fun D σ H ⟨L, w, p, en, S, E, h⟩ => h w H σ (Wd.le.refl w) S E
theorem rs_doc {x j pos'} : RS X C (.Expr (.Constant (.str x) j pos) pos') sNop := ps_doc.imp fun D σ H ⟨L, w, p, en, S, E, h⟩ => h w H σ (Wd.le.refl w) S E
def sExpr (a : M PV) : S := fun en p => (a en p).run en fun _ p1 => .next en p1
theorem rs_expr {e : Expr} {a : M PV} (h : RE X C e a) (hs : swapsWith e none pos.line X.env = pure false := by rfl) : RS X C (.Expr e pos) (sExpr a) := (ps_expr h hs).imp fun D σ H ⟨L, w, p, en, S, E, h⟩ =>
  ⟨L, w, p, en, S, E, h.run E fun x p1 w1 H1 v l1 S1 r1 h1 => h1 w1 H1 σ (Wd.le.refl w1) S1 (E.mono l1)⟩
def sRet (a : M PV) : S := fun en p => (a en p).run en fun x p1 => .ret x p1
theorem rs_ret {e : Expr} {a : M PV} (h : RE X C e a) : RS X C (.Return (some e) pos) (sRet a) := (ps_ret h).imp fun D σ H ⟨L, w, p, en, S, E, h⟩ =>
  ⟨L, w, p, en, S, E, h.run E fun x p1 w1 H1 v l1 S1 r1 h1 => h1 w1 H1 v (Wd.le.refl w1) S1 r1⟩
theorem rs_retN : RS X C (.Return none pos) (sRet (mC .non)) := ps_retN.imp fun D σ H ⟨L, w, p, en, S, E, h⟩ => h w H .non (Wd.le.refl w) S rfl
def sIf (t : M Bool) (a b : S) : S := fun en p => (t en p).run en fun x p1 => if x = true then a en p1 else b en p1
theorem rs_if {c : Expr} {a b : List Stmt} {t : M Bool} {ma mb : S} (hc : RT X C c t) (ha : RSs X C a ma) (hb : RSs X C b mb) : RS X C (.If c a b pos) (sIf t ma mb) := (ps_if hc ha hb).imp fun D σ H ⟨L, w, p, en, S, E, h⟩ => by
  refine ⟨L, w, p, en, S, E, h.run E fun x p1 w1 H1 v l1 S1 r1 h1 => ?_⟩
  cases r1
  cases x with
  | true => exact iteT ⟨L, w1, p1, en, S1, E.mono l1, h1⟩
  | false => exact iteF ⟨L, w1, p1, en, S1, E.mono l1, h1⟩
/-! ### targets -/
/-- a target: the names' places and what they hold behind it -/
abbrev As := List (Nat × PV)
abbrev T1 := PV → Option As
abbrev TL := List PV → Option As
def En.set (en : En) (i : Nat) (x : PV) : En := ⟨en.b, en.sl.set i (some x)⟩
def En.sets (en : En) : As → En
  | [] => en
  | (i, x) :: r => (en.set i x).sets r
def setV (σ : St) : List (Nat × V) → St
  | [] => σ
  | (i, v) :: r => setV (σ.set i (some v)) r
theorem setV_append (σ : St) : ∀ as bs : List (Nat × V), setV σ (as ++ bs) = setV (setV σ as) bs
  | [], _ => rfl
  | (i, v) :: r, bs => setV_append _ r bs
theorem EnR.sets {L : Lv} {w : Wd} : ∀ {as : As} {bs : List (Nat × V)} {en : En} {σ : St}, EnR C L w en σ → bs.map (·.1) = as.map (·.1) → Reps C.Γ w (as.map (·.2)) (bs.map (·.2)) → EnR C L w (en.sets as) (setV σ bs)
  | [], [], _, _, E, _, _ => E
  | [], _ :: _, _, _, _, e, _ => by cases e
  | (i, x) :: as, [], _, _, _, e, _ => by cases e
  | (i, x) :: as, (j, v) :: bs, en, σ, E, e, r => by
    obtain ⟨u, us, eu, r1, r2⟩ := r
    rw [List.map_cons, List.cons.injEq] at eu
    obtain ⟨rfl, e2⟩ := eu
    rw [List.map_cons, List.map_cons, List.cons.injEq] at e
    obtain ⟨rfl, e3⟩ := e
    exact EnR.sets (bs := bs) (σ := σ.set j (some v)) (en := en.set j x) (E.set r1) e3 (by rw [show bs.map (·.2) = us from e2]; exact r2)
def wG (C : Cn) (m : T1) : TG := fun v σ H Q => ∃ L w p x as, SimP C.Γ L w p H ∧ Rep C.Γ w x v ∧ m x = some as ∧ ∀ bs : List (Nat × V), bs.map (·.1) = as.map (·.1) → Reps C.Γ w (as.map (·.2)) (bs.map (·.2)) → Q (setV σ bs) H
def wGs (C : Cn) (m : TL) : TGs := fun vs σ H Q => ∃ L w p xs as, SimP C.Γ L w p H ∧ Reps C.Γ w xs vs ∧ m xs = some as ∧ ∀ bs : List (Nat × V), bs.map (·.1) = as.map (·.1) → Reps C.Γ w (as.map (·.2)) (bs.map (·.2)) → Q (setV σ bs) H
abbrev RG (X : Cx) (C : Cn) (tg : Expr) (m : T1) : Prop := PG X tg (wG C m)
abbrev RGs (X : Cx) (C : Cn) (tg : List Expr) (m : TL) : Prop := PGs X tg (wGs C m)
theorem _root_.L2.PG.imp {X : Cx} {e : Expr} {t t' : TG} (h : PG X e t) (i : ∀ v σ H Q, t' v σ H Q → t v σ H Q) : PG X e t' := ⟨fun pins s σ H v u Q I r hq => h.run pins s σ H v u Q I r (i _ _ _ _ hq)⟩
theorem _root_.L2.PGs.imp {X : Cx} {e : List Expr} {t t' : TGs} (h : PGs X e t) (i : ∀ v σ H Q, t' v σ H Q → t v σ H Q) : PGs X e t' := ⟨fun pins s σ H v u Q I r hq => h.run pins s σ H v u Q I r (i _ _ _ _ hq)⟩
def tgN (i : Nat) : T1 := fun x => some [(i, x)]
theorem rg_name {i : Nat} {x : Str} (hN : X.N.Nodup) (hi : X.N[i]? = some x) (hx : L2.Loc X.env.scope x) (hf : X.fn x = true ∨ X.env.scope.names.lookup x = some .local := by first | exact .inl rfl | exact .inr rfl | assumption) : RG X C (.Name x pos) (tgN i) :=
  (pg_name hN hi hx hf).imp fun v σ H Q ⟨L, w, p, x, as, S, r, e, h⟩ => by
    cases e
    exact h [(i, v)] rfl ⟨v, [], rfl, r, rfl⟩
def tgNil : TL := fun xs => match xs with
  | [] => some []
  | _ => none
def tgCons (g : T1) (gs : TL) : TL := fun xs => match xs with
  | x :: r => match g x with
    | some as => match gs r with
      | some bs => some (as ++ bs)
      | none => none
    | none => none
  | [] => none
theorem rgs_nil : RGs X C [] tgNil := pgs_nil.imp fun v σ H Q ⟨L, w, p, xs, as, S, r, e, h⟩ => by
  cases xs with
  | nil =>
    cases e
    exact ⟨r, h [] rfl rfl⟩
  | cons _ _ => cases e
theorem rgs_cons {e : Expr} {es : List Expr} {g : T1} {gs : TL} (h1 : RG X C e g) (h2 : RGs X C es gs) (hs : (assignEach (e :: es) X.env).map (·.2) = assign e X.env :: (assignEach es X.env).map (·.2) := by rfl) : RGs X C (e :: es) (tgCons g gs) :=
  (pgs_cons h1 h2 hs).imp fun v σ H Q ⟨L, w, p, xs, as, S, r, e, h⟩ => by
    cases xs with
    | nil => cases e
    | cons x xs =>
      obtain ⟨u, us, e1, r1, r2⟩ := r
      refine ⟨u, us, e1, ?_⟩
      unfold tgCons at e
      dsimp only at e
      cases e2 : g x with
      | none =>
        rw [e2] at e
        cases e
      | some as1 =>
        cases e3 : gs xs with
        | none =>
          rw [e2, e3] at e
          cases e
        | some as2 =>
          rw [e2, e3] at e
          cases e
          refine ⟨L, w, p, x, as1, S, r1, e2, fun bs1 f1 q1 => ⟨L, w, p, xs, as2, S, r2, e3, fun bs2 f2 q2 => ?_⟩⟩
          rw [← setV_append]
          refine h _ ?_ ?_
          · rw [List.map_append, List.map_append, f1, f2]
          · rw [List.map_append, List.map_append]
            exact q1.append q2
def tgT (n : Nat) (gs : TL) : T1 := fun x => match x with
  | .tup xs => if xs.length = n then gs xs else none
  | _ => none
theorem rg_tup {es : List Expr} {k : Nat} {gs : TL} {n : Nat} (hc : X.calm = true) (hK : X.K = C.Γ.K) (h : RGs X C es gs) (hn : (assignEach es X.env).length = n := by rfl) (hst : (assignEach es X.env).findIdx? (·.1) = none := by rfl) : RG X C (.Tuple es k pos) (tgT n gs) :=
  (pg_tup hc h hn hst).imp fun v σ H Q ⟨L, w, p, x, as, S, r, e, h⟩ => by
    cases x with
    | tup xs =>
      obtain ⟨a, vs, e1, q, r⟩ := r
      unfold tgT at e
      dsimp only at e
      split at e
      · rename_i hl
        exact ⟨a, vs, e1, by rw [hK]; exact seqT_mono S.sub q, by rw [← r.length]; exact hl, L, w, p, xs, as, S, r, e, h⟩
      · cases e
    | _ => cases e
def sAsg (a : M PV) (g : T1) : S := fun en p => (a en p).run en fun x p1 => match g x with
  | some as => .next (en.sets as) p1
  | none => .stuck
theorem rs_asg {tg e : Expr} {a : M PV} {g : T1} (ha : RE X C e a) (hg : RG X C tg g) (h1 : swapsWithSole [tg] e pos.line X.env = pure false := by rfl) (h2 : swappedStores [tg] e X.env = pure none := by rfl)
    (h3 : (assignEach [tg] X.env).map (·.2) = [assign tg X.env] := by rfl) : RS X C (.Assign [tg] e pos) (sAsg a g) := (ps_asg ha hg h1 h2 h3).imp fun D σ H ⟨L, w, p, en, S, E, h⟩ => by
  refine ⟨L, w, p, en, S, E, h.run E fun x p1 w1 H1 v l1 S1 r1 h1 => ?_⟩
  split at h1
  · rename_i as e1
    exact ⟨L, w1, p1, x, as, S1, r1, e1, fun bs f q => h1 w1 H1 _ (Wd.le.refl w1) S1 ((E.mono l1).sets f q)⟩
  · exact h1.elim
def sSet (a : M PV) (i : Nat) : S := fun en p => (a en p).run en fun x p1 => .next (en.set i x) p1
theorem rs_set {i : Nat} {x : Str} {e : Expr} {a : M PV} {pos' : Pos} (hN : X.N.Nodup) (hi : X.N[i]? = some x) (hx : L2.Loc X.env.scope x) (ha : RE X C e a) (h1 : swapsWith e (some (.Name x pos')) pos.line X.env = pure false := by rfl)
    (hf : X.fn x = true ∨ X.env.scope.names.lookup x = some .local := by first | exact .inl rfl | exact .inr rfl | assumption) : RS X C (.Assign [.Name x pos'] e pos) (sSet a i) := (ps_set hN hi hx ha h1 hf).imp fun D σ H ⟨L, w, p, en, S, E, h⟩ => by
  refine ⟨L, w, p, en, S, E, h.run E fun x p1 w1 H1 v l1 S1 r1 h1 => ?_⟩
  exact h1 w1 H1 _ (Wd.le.refl w1) S1 ((E.mono l1).set r1)
/-- a, b = x, y -/
def sPar (i j : Nat) (a : M (List PV)) : S := fun en p => (a en p).run en fun xs p1 => match xs with
  | [x, y] => .next ((en.set i x).set j y) p1
  | _ => .stuck
theorem rs_par {i j : Nat} {x y : Str} {a b : Expr} {ma : M (List PV)} {px py pt : Pos} {kt k2 : Nat} {pt2 : Pos} (hc : X.calm = true) (hN : X.N.Nodup) (hi : X.N[i]? = some x) (hj : X.N[j]? = some y) (hij : i ≠ j) (lx : X.env.scope.names.lookup x = some .local) (ly : X.env.scope.names.lookup y = some .local)
    (ha : RA X C [a, b] ma) (h1 : swappedStores [.Tuple [.Name x px, .Name y py] kt pt] (.Tuple [a, b] k2 pt2) X.env = pure (some [x, y]))
    (h2 : swapsWithSole [.Tuple [.Name x px, .Name y py] kt pt] (.Tuple [a, b] k2 pt2) pos.line X.env = pure false := by rfl) : RS X C (.Assign [.Tuple [.Name x px, .Name y py] kt pt] (.Tuple [a, b] k2 pt2) pos) (sPar i j ma) :=
  (ps_par hc hN hi hj hij lx ly ha.pa h1 h2).imp fun D σ H ⟨L, w, p, en, S, E, h⟩ => by
    refine ⟨L, w, p, en, S, E, h.run E fun xs p1 w1 H1 vs l1 S1 r1 h1 => ?_⟩
    split at h1
    · rename_i x y
      obtain ⟨v, r, rfl, rx, r⟩ := r1
      obtain ⟨u, r', rfl, ry, r⟩ := r
      obtain rfl : r' = [] := r
      exact ⟨v, u, rfl, h1 w1 H1 _ (Wd.le.refl w1) S1 (((E.mono l1).set rx).set ry)⟩
    · exact h1.elim
def sAug (i : Nat) (f : F2) (a : M PV) : S := fun en p => match en.sl[i]? with
  | some (some x) => (a en p).run en fun y p1 => (f x y p1).run en fun z p2 => .next (en.set i z) p2
  | _ => .stuck
theorem rs_aug {i : Nat} {x : Str} {e : Expr} {op : Operator} {ti : TIp} {f : F2} {a : M PV} {pos' : Pos} (hN : X.N.Nodup) (hi : X.N[i]? = some x) (hx : L2.Loc X.env.scope x) (ha : RE X C e a) (hp : PIp X op ti) (hr : RefO C ti f)
    (hf : X.fn x = true ∨ X.env.scope.names.lookup x = some .local := by first | exact .inl rfl | exact .inr rfl | assumption) : RS X C (.AugAssign (.Name x pos') op e pos) (sAug i f a) := (ps_aug hN hi hx ha hp hf).imp fun D σ H ⟨L, w, p, en, S, E, h⟩ => by
  unfold sAug at h
  split at h
  · rename_i x e1
    obtain ⟨v, e2, rx⟩ := E.val i x e1
    refine ⟨v, e2, L, w, p, en, S, E, h.run E fun y p1 w1 H1 u l1 S1 r1 h1 => ?_⟩
    refine hr L w1 p1 H1 σ x y v u _ S1 (rx.mono l1) r1 (h1.run (E.mono l1) fun z p2 w2 H2 o l2 S2 r2 h2 => ?_)
    exact h2 w2 H2 _ (Wd.le.refl w2) S2 (((E.mono l1).mono l2).set r2)
  · exact h.elim
end
end R

/-! R3: operators, items, slices, values of objects, built-in functions, stores, loops -/
namespace R
open PySem L2

theorem OpR.or {X : Cx} {f : Value → Value → Sem Value} {r r' : R2} (h : OpR X f r) (h' : OpR X f r') : OpR X f (fun x y H Q => r x y H Q ∨ r' x y H Q) := fun pins s σ H x y v u Q I rx ry q => by
  rcases q with q | q
  · exact h pins s σ H x y v u Q I rx ry q
  · exact h' pins s σ H x y v u Q I rx ry q
theorem CallR.or {X : Cx} {f : Value} {r r' : List V → Hp → VK → Prop} (h : CallR X f r) (h' : CallR X f r') : CallR X f (fun xs H Q => r xs H Q ∨ r' xs H Q) := fun pins s σ H xs us Q I rx q => by
  rcases q with q | q
  · exact h pins s σ H xs us Q I rx q
  · exact h' pins s σ H xs us Q I rx q

/-! ### lists as they stand -/
def getL (p : Pool) : PV → Option (List PV)
  | .lst xs => some xs
  | .own k => match p[k]? with
    | some (.lst xs) => some xs
    | _ => none
  | _ => none
/-- .. or the script -/
def getR (p : Pool) : PV → Option (List PV)
  | .scr ns => some (ns.map .int)
  | x => getL p x
def getQ (p : Pool) : PV → Option (List PV)
  | .tup xs => some xs
  | x => getR p x
section
variable {Γ : Cfg} {L : Lv} {w : Wd} {p : Pool} {H : Hp}
theorem Rep.ownH (S : SimP Γ L w p H) {k : Nat} {v : V} {xs : List PV} (r : Rep Γ w (.own k) v) (e : p[k]? = some (.lst xs)) : ∃ a vs, v = .ref a ∧ w.ρ[k]? = some a ∧ w.G a = none ∧ H a = some (.lst vs) ∧ Reps Γ (w.low (L.lo k)) xs vs := by
  obtain ⟨a, ha, rfl⟩ := r
  obtain ⟨b, hb, hc⟩ := S.at e
  rw [ha] at hb
  cases hb
  obtain ⟨g, vs, eH, r⟩ := hc
  rw [Wd.low_G] at g
  exact ⟨a, vs, rfl, ha, g, eH, r⟩
/-- a list that is no other's: as it stands -/
theorem getL_at (S : SimP Γ L w p H) {x : PV} {v : V} {xs : List PV} (r : Rep Γ w x v) (e : getL p x = some xs) : ∃ a vs, v = .ref a ∧ H a = some (.lst vs) ∧ Reps Γ w xs vs := by
  cases x with
  | lst ys =>
    cases e
    obtain ⟨a, vs, ev, q, r⟩ := r
    exact ⟨a, vs, ev, S.sub _ _ q, r⟩
  | own k =>
    unfold getL at e
    dsimp only at e
    split at e
    · rename_i ys ey
      cases e
      obtain ⟨a, vs, ev, _, _, eH, r⟩ := Rep.ownH S r ey
      exact ⟨a, vs, ev, eH, r.mono (w.low_le _)⟩
    · cases e
  | _ => cases e
theorem getR_ok (S : SimP Γ L w p H) {x : PV} {v : V} {xs : List PV} (r : Rep Γ w x v) (e : getR p x = some xs) : ∃ a vs, v = .ref a ∧ SqL Γ.K H a vs ∧ Reps Γ w xs vs := by
  cases x with
  | scr ns =>
    cases e
    obtain ⟨a, ev, q⟩ := r
    exact ⟨a, _, ev, seqL_mono S.sub q, Reps.ints⟩
  | _ =>
    obtain ⟨a, vs, ev, q, r⟩ := getL_at S r e
    exact ⟨a, vs, ev, .inl (.inl q), r⟩
theorem getQ_ok (S : SimP Γ L w p H) {x : PV} {v : V} {xs : List PV} (r : Rep Γ w x v) (e : getQ p x = some xs) : ∃ a vs, v = .ref a ∧ (SqL Γ.K H a vs ∨ SqT Γ.K H a vs) ∧ Reps Γ w xs vs := by
  cases x with
  | tup ys =>
    cases e
    obtain ⟨a, vs, ev, q, r⟩ := r
    exact ⟨a, vs, ev, .inr (seqT_mono S.sub q), r⟩
  | _ =>
    obtain ⟨a, vs, ev, q, r⟩ := getR_ok S r e
    exact ⟨a, vs, ev, .inl q, r⟩
end

section
variable {X : Cx} {C : Cn} {pos : Pos}
/-! ### numbers -/
def f2I (g : Int → Int → PV) : F2 := fun x y p => match x, y with
  | .int i, .int j => .ok (g i j) p
  | _, _ => .stuck
def f2C (c : Int → Int → Bool) (g : Int → Int → PV) : F2 := fun x y p => match x, y with
  | .int i, .int j => if c i j = true then .ok (g i j) p else .stuck
  | _, _ => .stuck
theorem ref_I0 {g : Int → Int → PV} {h : Int → Int → V} (e : ∀ w i j, Rep C.Γ w (g i j) (h i j)) : RefO C (rI0 h) (f2I g) := fun L w p H σ x y vx vy Q S rx ry q => by
  unfold f2I at q
  split at q
  · rename_i i j
    exact ⟨i, j, rx, ry, q.ok S (e w i j)⟩
  · exact q.elim
theorem ref_I {c : Int → Int → Bool} {P : Int → Int → Prop} {g : Int → Int → PV} {h : Int → Int → V} (e : ∀ w i j, Rep C.Γ w (g i j) (h i j)) (hc : ∀ i j, c i j = true → P i j) : RefO C (rI P h) (f2C c g) := fun L w p H σ x y vx vy Q S rx ry q => by
  unfold f2C at q
  split at q
  · rename_i i j
    split at q
    · rename_i hh
      exact ⟨i, j, rx, ry, hc i j hh, q.ok S (e w i j)⟩
    · exact q.elim
  · exact q.elim
def pSub : F2 := f2I fun i j => .int (i - j)
theorem ref_sub : RefO C (rI0 fun i j => .int (i - j)) pSub := ref_I0 fun _ _ _ => rfl
def pLt : F2 := f2I fun i j => .bl (decide (i < j))
def pLe : F2 := f2I fun i j => .bl (decide (i ≤ j))
def pGt : F2 := f2I fun i j => .bl (decide (j < i))
def pGe : F2 := f2I fun i j => .bl (decide (j ≤ i))
def okMod (i j : Int) : Bool := decide (j ≠ 0)
def pMod : F2 := f2C okMod fun i j => .int (i.fmod j)
theorem ref_mod : RefO C (rI (fun i j => j ≠ 0) fun i j => .int (i.fmod j)) pMod := ref_I (fun _ _ _ => rfl) fun i j h => of_decide_eq_true h
def okDiv (i j : Int) : Bool := decide (j ≠ 0 ∧ (j.natAbs < 1073741824 ∨ (0 < j ∧ j.natAbs.log2 < 9000)))
def pDiv : F2 := f2C okDiv fun i j => .int (i.fdiv j)
def rDiv : R2 := fun x y H Q => rI CDivN (fun i j => .int (i.fdiv j)) x y H Q ∨ rI CDivW (fun i j => .int (i / j)) x y H Q
theorem op_div : OpR X (binaryOp .FloorDiv) rDiv := OpR.or op_fdivN op_fdivW
theorem ref_div : RefO C rDiv pDiv := fun L w p H σ x y vx vy Q S rx ry q => by
  unfold pDiv f2C at q
  split at q
  · rename_i i j
    split at q
    · rename_i hh
      obtain ⟨h0, h1 | ⟨h1, h2⟩⟩ := of_decide_eq_true hh
      · exact .inl ⟨i, j, rx, ry, ⟨h0, h1⟩, q.ok S rfl⟩
      · refine .inr ⟨i, j, rx, ry, ⟨h1, h2⟩, ?_⟩
        have e : i / j = i.fdiv j := (Int.fdiv_eq_ediv_of_nonneg i (by omega)).symm
        show Q (V.int (i / j)) H
        rw [e]
        exact q.ok S rfl
    · exact q.elim
  · exact q.elim
def okPow (i j : Int) : Bool := decide (0 ≤ j ∧ j ≤ 1000000 ∧ i.natAbs < 2 ^ 64)
def pPow : F2 := f2C okPow fun i j => .int (i ^ j.toNat)
theorem ref_pow : RefO C (rI CPow fun i j => .int (i ^ j.toNat)) pPow := ref_I (fun _ _ _ => rfl) fun i j h => show 0 ≤ j ∧ j ≤ 1000000 ∧ i.natAbs < 2 ^ 64 from of_decide_eq_true h
/-! ### +, *: numbers, lists, tuples -/
def rAdd : R2 := fun x y H Q => rI0 (fun i j => .int (i + j)) x y H Q ∨ (rCatA C.Γ.K x y H Q ∨ rCat x y H Q)
theorem op_addU (hK : X.K = C.Γ.K) : OpR X (binaryOp .Add) (rAdd (C := C)) := by
  have h : OpR X (binaryOp .Add) (rCatA C.Γ.K) := hK ▸ op_catA
  exact OpR.or op_add (OpR.or h op_cat)
def pAdd : F2 := fun x y p => match x, y with
  | .int i, .int j => .ok (.int (i + j)) p
  | .tup xs, .tup ys => if xs.length + ys.length ≤ big then .ok (.tup (xs ++ ys)) p else .stuck
  | x, y => match getL p x, getL p y with
    | some xs, some ys => if xs.length + ys.length ≤ big then .ok (.lst (xs ++ ys)) p else .stuck
    | _, _ => .stuck
theorem Reps.isNil {Γ : Cfg} {w : Wd} {xs : List PV} {vs : List V} (r : Reps Γ w xs vs) : xs = [] ↔ vs = [] := by
  have h := r.length
  constructor
  · rintro rfl
    exact List.eq_nil_of_length_eq_zero h.symm
  · rintro rfl
    exact List.eq_nil_of_length_eq_zero h
theorem ref_add : RefO C (rAdd (C := C)) pAdd := fun L w p H σ x y vx vy Q S rx ry q => by
  unfold pAdd at q
  split at q
  · rename_i i j
    exact .inl ⟨i, j, rx, ry, q.ok S rfl⟩
  · rename_i xs ys
    split at q
    · rename_i hl
      obtain ⟨a, vs, ea, sa, ra⟩ := rx
      obtain ⟨b, us, eb, sb, rb⟩ := ry
      refine .inr (.inl ⟨a, b, vs, us, ea, eb, seqT_mono S.sub sa, seqT_mono S.sub sb, ?_, fun z => ?_, fun z1 z2 => ?_, fun _ _ => ?_⟩)
      · rw [← ra.length, ← rb.length]
        exact big_le hl
      · have e := ra.isNil.mpr z
        subst e
        rw [← eb]
        exact q.ok S ⟨b, us, eb, sb, rb⟩
      · have e := rb.isNil.mpr z2
        subst e
        rw [← ea]
        refine q.ok S ⟨a, vs, ea, sa, ?_⟩
        rw [List.append_nil]
        exact ra
      · exact newTup S (ra.append rb) q
    · exact q.elim
  · rename_i x y _ _
    split at q
    · rename_i xs ys e1 e2
      split at q
      · rename_i hl
        obtain ⟨a, vs, ea, sa, ra⟩ := getL_at S rx e1
        obtain ⟨b, us, eb, sb, rb⟩ := getL_at S ry e2
        exact .inr (.inr ⟨a, b, vs, us, ea, eb, sa, sb, by rw [← ra.length, ← rb.length]; exact big_le hl, newLst S (ra.append rb) q⟩)
      · exact q.elim
    · exact q.elim
def okMul (i j : Int) : Bool := decide (((-(2 ^ 64) < i ∧ i < 2 ^ 64) ∨ (-(2 ^ 64) < j ∧ j < 2 ^ 64)) ∨ i.natAbs.log2 + j.natAbs.log2 < 1000000)
def rMul : R2 := fun x y H Q => rI CMul (fun i j => .int (i * j)) x y H Q ∨ rI CMulW (fun i j => .int (i * j)) x y H Q ∨ rRep x y H Q
theorem op_mulU : OpR X (binaryOp .Mult) rMul := OpR.or op_mul (OpR.or op_mulW op_rep)
/-- so many times the same -/
def times (n : Nat) (xs : List PV) : List PV := (List.replicate n xs).flatten
def pMul : F2 := fun x y p => match x, y with
  | .int i, .int j => if okMul i j = true then .ok (.int (i * j)) p else .stuck
  | x, .int k => match getL p x with
    | some xs => if k ≤ 1000 ∧ -1000 ≤ k ∧ xs.length * k.toNat ≤ big then .ok (.lst (times k.toNat xs)) p else .stuck
    | _ => .stuck
  | _, _ => .stuck
theorem Reps.times {Γ : Cfg} {w : Wd} {xs : List PV} {vs : List V} (r : Reps Γ w xs vs) : ∀ n : Nat, Reps Γ w (R.times n xs) (List.replicate n vs).flatten
  | 0 => rfl
  | n + 1 => by
    show Reps Γ w (List.replicate (n + 1) xs).flatten (List.replicate (n + 1) vs).flatten
    rw [List.replicate_succ, List.replicate_succ, List.flatten_cons, List.flatten_cons]
    exact r.append (Reps.times r n)
theorem ref_mul : RefO C rMul pMul := fun L w p H σ x y vx vy Q S rx ry q => by
  unfold pMul at q
  split at q
  · rename_i i j
    split at q
    · rename_i hh
      rcases of_decide_eq_true hh with h | h
      · exact .inl ⟨i, j, rx, ry, h, q.ok S rfl⟩
      · exact .inr (.inl ⟨i, j, rx, ry, h, q.ok S rfl⟩)
    · exact q.elim
  · rename_i k _
    split at q
    · rename_i xs e
      split at q
      · rename_i hl
        obtain ⟨a, vs, ea, sa, ra⟩ := getL_at S rx e
        exact .inr (.inr ⟨a, k, vs, ea, ry, sa, by omega, by omega, by rw [← ra.length]; exact big_le hl.2.2, newLst S (ra.times _) q⟩)
      · exact q.elim
    · exact q.elim
  · exact q.elim
/-! ### == -/
mutual
/-- as data -/
def toD : PV → Option PyData
  | .non => some .none
  | .bl b => some (.bool b)
  | .int i => some (.int i)
  | .str s => some (.str s)
  | .tup xs => match toDs xs with
    | some ds => some (.tuple ds)
    | none => none
  | .lst xs => match toDs xs with
    | some ds => some (.list ds)
    | none => none
  | _ => none
def toDs : List PV → Option (List PyData)
  | [] => some []
  | x :: xs => match toD x with
    | some d => match toDs xs with
      | some ds => some (d :: ds)
      | none => none
    | none => none
end
mutual
theorem toD_ok {L : Lv} {w : Wd} {p : Pool} {H : Hp} (S : SimP C.Γ L w p H) : ∀ {x : PV} {v : V} {d : PyData}, Rep C.Γ w x v → toD x = some d → Dp C.Γ.K H v d
  | .non, v, d, r, e => by
    cases e
    cases r
    exact .non
  | .bl b, v, d, r, e => by
    cases e
    cases r
    exact .bl _
  | .int i, v, d, r, e => by
    cases e
    cases r
    exact .int _
  | .str s, v, d, r, e => by
    cases e
    cases r
    exact .str _
  | .tup xs, v, d, r, e => by
    obtain ⟨a, vs, rfl, q, r⟩ := r
    unfold toD at e
    split at e
    · rename_i ds ed
      cases e
      exact .tup (seqT_mono S.sub q) (toDs_ok S r ed)
    · cases e
  | .lst xs, v, d, r, e => by
    obtain ⟨a, vs, rfl, q, r⟩ := r
    unfold toD at e
    split at e
    · rename_i ds ed
      cases e
      exact .lst (.inl (.inl (S.sub _ _ q))) (toDs_ok S r ed)
    · cases e
  | .obj _ _, _, _, _, e => by cases e
  | .own _, _, _, _, e => by cases e
  | .scr _, _, _, _, e => by cases e
theorem toDs_ok {L : Lv} {w : Wd} {p : Pool} {H : Hp} (S : SimP C.Γ L w p H) : ∀ {xs : List PV} {vs : List V} {ds : List PyData}, Reps C.Γ w xs vs → toDs xs = some ds → DpAll C.Γ.K H vs ds
  | [], vs, ds, r, e => by
    cases e
    cases r
    exact .nil
  | x :: xs, vs, ds, r, e => by
    obtain ⟨v, us, rfl, r1, r2⟩ := r
    unfold toDs at e
    split at e
    · rename_i d ed
      split at e
      · rename_i zs ez
        cases e
        exact .cons (toD_ok S r1 ed) (toDs_ok S r2 ez)
      · cases e
    · cases e
end
def eqD (x y : PV) : Option Bool := match toD x, toD y with
  | some d, some e => if SeqAt.shaped d = true ∧ SeqAt.shaped e = true then some (PyData.eqv d e) else none
  | _, _ => none
def pEq : F2 := fun x y p => match eqD x y with
  | some b => .ok (.bl b) p
  | none => .stuck
def pNe : F2 := fun x y p => match eqD x y with
  | some b => .ok (.bl (!b)) p
  | none => .stuck
theorem ref_eq : RefO C (rEqD C.Γ.K) pEq := fun L w p H σ x y vx vy Q S rx ry q => by
  unfold pEq eqD at q
  cases e1 : toD x with
  | none =>
    rw [e1] at q
    exact q.elim
  | some d =>
    cases e2 : toD y with
    | none =>
      rw [e1, e2] at q
      exact q.elim
    | some e =>
      rw [e1, e2] at q
      dsimp only at q
      by_cases hs : SeqAt.shaped d = true ∧ SeqAt.shaped e = true
      · rw [if_pos hs] at q
        exact ⟨d, e, toD_ok S rx e1, toD_ok S ry e2, hs.1, hs.2, q.ok S rfl⟩
      · rw [if_neg hs] at q
        exact q.elim
theorem ref_ne : RefO C (rNeD C.Γ.K) pNe := fun L w p H σ x y vx vy Q S rx ry q => by
  unfold pNe eqD at q
  cases e1 : toD x with
  | none =>
    rw [e1] at q
    exact q.elim
  | some d =>
    cases e2 : toD y with
    | none =>
      rw [e1, e2] at q
      exact q.elim
    | some e =>
      rw [e1, e2] at q
      dsimp only at q
      by_cases hs : SeqAt.shaped d = true ∧ SeqAt.shaped e = true
      · rw [if_pos hs] at q
        exact ⟨d, e, toD_ok S rx e1, toD_ok S ry e2, hs.1, hs.2, q.ok S rfl⟩
      · rw [if_neg hs] at q
        exact q.elim
/-- is None, is not None -/
def isNon : PV → Bool
  | .non => true
  | _ => false
theorem isNon_ok {Γ : Cfg} {w : Wd} {x : PV} {v : V} (r : Rep Γ w x v) : decide (v = .non) = isNon x := by
  cases x with
  | non =>
    cases r
    rfl
  | bl b =>
    cases r
    rfl
  | int i =>
    cases r
    rfl
  | str s =>
    cases r
    rfl
  | tup xs =>
    obtain ⟨a, vs, rfl, _⟩ := r
    rfl
  | lst xs =>
    obtain ⟨a, vs, rfl, _⟩ := r
    rfl
  | obj c xs =>
    obtain ⟨a, dx, vs, rfl, _⟩ := r
    rfl
  | own k =>
    obtain ⟨a, _, rfl⟩ := r
    rfl
  | scr ns =>
    obtain ⟨a, rfl, _⟩ := r
    rfl
  | xs c t =>
    obtain ⟨a, t1, rfl, _⟩ := r
    rfl
  | xv c x =>
    obtain ⟨a, d, u, rfl, _⟩ := r
    rfl
def pIsN : F2 := fun x _ p => .ok (.bl (isNon x)) p
def pNotN : F2 := fun x _ p => .ok (.bl (!isNon x)) p
theorem ref_isN : RefO C (fun x y H Q => y = V.non ∧ Q (V.bl (decide (x = V.non))) H) (fun x y p => match y with
  | .non => .ok (.bl (isNon x)) p
  | _ => .stuck) := fun L w p H σ x y vx vy Q S rx ry q => by
  cases y with
  | non =>
    cases ry
    exact ⟨rfl, by rw [isNon_ok rx]; exact q.ok S rfl⟩
  | _ => exact q.elim
/-! ### items -/
theorem atI_rep {Γ : Cfg} {w : Wd} {xs : List PV} {vs : List V} (r : Reps Γ w xs vs) {i : Int} {x : PV} (h : atI xs i = some x) : ∃ v, atI vs i = some v ∧ Rep Γ w x v := by
  unfold atI at h ⊢
  rw [← r.length]
  cases e : ixN xs.length i with
  | none =>
    rw [e] at h
    cases h
  | some j =>
    rw [e] at h
    exact r.get h
def pIx : F2 := fun x y p => match y with
  | .int i => match getQ p x with
    | some xs => match atI xs i with
      | some z => .ok z p
      | none => .stuck
    | none => .stuck
  | _ => .stuck
theorem ref_ix : RefO C (rIx C.Γ.K) pIx := fun L w p H σ x y vx vy Q S rx ry q => by
  unfold pIx at q
  split at q
  · rename_i i
    split at q
    · rename_i xs e
      split at q
      · rename_i z ez
        obtain ⟨a, vs, rfl, h, r⟩ := getQ_ok S rx e
        obtain ⟨v, ev, rv⟩ := atI_rep r ez
        rcases h with h | h
        · exact .inl ⟨a, vs, i, v, rfl, ry, h, ev, q.ok S rv⟩
        · exact .inr (.inl ⟨a, vs, i, v, rfl, ry, h, ev, q.ok S rv⟩)
      · exact q.elim
    · exact q.elim
  · exact q.elim
theorem re_ix {a b : Expr} {ma mb : M PV} (hK : X.K = C.Γ.K) (ha : RE X C a ma) (hb : RE X C b mb) (hp : PlainIx b := by exact fun _ _ => rfl) : RE X C (.Subscript a b pos) (mBin pIx ma mb) := by
  have h : IxR X (rIx C.Γ.K) := hK ▸ ix_seq
  exact (pe_ix h ha hb hp).imp (wE_op ref_ix)
/-! ### slices -/
def cut (xs : List PV) (lo hi : Option Int) : List PV := (xs.drop (HT.sIx xs.length 0 lo)).take (HT.sIx xs.length xs.length hi - HT.sIx xs.length 0 lo)
theorem cut_rep {Γ : Cfg} {w : Wd} {xs : List PV} {vs : List V} (r : Reps Γ w xs vs) (lo hi : Option Int) : Reps Γ w (cut xs lo hi) (cutV vs lo hi) := by
  unfold cut cutV
  rw [← r.length]
  exact (r.drop _).take _
def wO (C : Cn) (m : M (Option Int)) : TO := fun σ H Q => ∃ L w p en, SimP C.Γ L w p H ∧ EnR C L w en σ ∧ Post C L w σ (fun _ (a b : Option Int) => a = b) (m en p) Q
theorem _root_.L2.PO.imp {X : Cx} {e : Option Expr} {t t' : TO} (h : PO X e t) (i : ∀ σ H Q, t' σ H Q → t σ H Q) : PO X e t' := ⟨fun pins s σ H Q I hq => h.run pins s σ H Q I (i _ _ _ hq)⟩
def oNo : M (Option Int) := fun _ p => .ok none p
def oYes (a : M PV) : M (Option Int) := fun en p => (a en p).bind fun x p1 => match x with
  | .int i => .ok (some i) p1
  | _ => .stuck
abbrev RO (X : Cx) (C : Cn) (e : Option Expr) (m : M (Option Int)) : Prop := PO X e (wO C m)
theorem ro_none : RO X C none oNo := po_none.imp fun σ H Q ⟨L, w, p, en, S, E, h⟩ => h.ok S rfl
theorem ro_some {e : Expr} {a : M PV} (h : RE X C e a) : RO X C (some e) (oYes a) := (po_some h).imp fun σ H Q ⟨L, w, p, en, S, E, h⟩ => by
  refine ⟨L, w, p, en, S, E, h.bind fun x p1 w1 H1 v l1 S1 r1 h1 => ?_⟩
  cases x with
  | int i => exact ⟨i, r1, h1.ok S1 rfl⟩
  | _ => exact h1.elim
def mSl (a : M PV) (lo hi : M (Option Int)) : M PV := fun en p => (a en p).bind fun x p1 => (lo en p1).bind fun l p2 => (hi en p2).bind fun h p3 => match x with
  | .tup xs => .ok (.tup (cut xs l h)) p3
  | x => match getR p3 x with
    | some xs => .ok (.lst (cut xs l h)) p3
    | none => .stuck
theorem HT_whole {n : Nat} {lo hi : Option Int} {xs : List PV} (hn : xs.length = n) (h1 : HT.sIx n 0 lo = 0) (h2 : HT.sIx n n hi = n) : cut xs lo hi = xs := by
  subst hn
  unfold cut
  rw [h1, h2, List.drop_zero, Nat.sub_zero, List.take_length]
theorem re_sl {e : Expr} {lo hi : Option Expr} {a : M PV} {ml mh : M (Option Int)} {p2 : Pos} (hK : X.K = C.Γ.K) (ha : RE X C e a) (hl : RO X C lo ml) (hh : RO X C hi mh) : RE X C (.Subscript e (.Slice lo hi none p2) pos) (mSl a ml mh) := by
  have h1 : SlR X (rSlL C.Γ.K) := hK ▸ sl_list
  have h2 : SlR X (rSlA C.Γ.K) := hK ▸ sl_tupA
  refine (pe_slice (h1.or h2) ha hl hh).imp fun σ H Q ⟨L, w, p, en, S, E, h⟩ => ?_
  refine ⟨L, w, p, en, S, E, h.bind fun x p1 w1 H1 v l1 S1 r1 h1 => ?_⟩
  refine ⟨L, w1, p1, en, S1, E.mono l1, h1.bind fun lo p2 w2 H2 lo' l2 S2 r2 h2 => ?_⟩
  cases r2
  refine ⟨L, w2, p2, en, S2, E.mono (l1.trans l2), h2.bind fun hi p3 w3 H3 hi' l3 S3 r3 h3 => ?_⟩
  cases r3
  have r1 := (r1.mono l2).mono l3
  split at h3
  · rename_i xs
    obtain ⟨b, vs, eb, hq, rr⟩ := r1
    refine .inr ⟨b, vs, eb, seqT_mono S3.sub hq, fun z => ?_, fun _ => newTup S3 (cut_rep rr lo hi) h3⟩
    refine h3.ok S3 ?_
    rw [HT_whole rr.length z.1 z.2]
    exact ⟨b, vs, rfl, hq, rr⟩
  · rename_i x _
    split at h3
    · rename_i xs ex
      obtain ⟨b, vs, eb, hq, rr⟩ := getR_ok S3 r1 ex
      exact .inl ⟨b, vs, eb, hq, newLst S3 (cut_rep rr lo hi) h3⟩
    · exact h3.elim
end
end R

/-! R4: values of objects, built-in functions, methods of lists, stores, loops -/
namespace R
open PySem L2

mutual
/-- no cell's number below in it but those under n -/
def bel (n : Nat) : PV → Bool
  | .tup xs => bels n xs
  | .lst xs => bels n xs
  | .obj _ xs => bels n xs
  | .own k => decide (k < n)
  | .xv _ x => bel n x
  | _ => true
def bels (n : Nat) : List PV → Bool
  | [] => true
  | x :: xs => bel n x && bels n xs
end
mutual
theorem Rep.below {Γ : Cfg} {w : Wd} {n : Nat} : ∀ {x : PV} {v : V}, Rep Γ w x v → bel n x = true → Rep Γ ⟨w.G, w.ρ.take n⟩ x v
  | .non, _, h, _ => h
  | .bl _, _, h, _ => h
  | .int _, _, h, _ => h
  | .str _, _, h, _ => h
  | .tup xs, v, h, e => by
    obtain ⟨a, vs, ev, s, r⟩ := h
    exact ⟨a, vs, ev, s, Reps.below r e⟩
  | .lst xs, v, h, e => by
    obtain ⟨a, vs, ev, s, r⟩ := h
    exact ⟨a, vs, ev, s, Reps.below r e⟩
  | .obj c xs, v, h, e => by
    obtain ⟨a, dx, vs, ev, g, d, m, r⟩ := h
    exact ⟨a, dx, vs, ev, g, d, m, Reps.below r e⟩
  | .own k, v, h, e => by
    obtain ⟨a, ha, ev⟩ := h
    refine ⟨a, ?_, ev⟩
    show (w.ρ.take n)[k]? = some a
    rw [List.getElem?_take_of_lt (of_decide_eq_true e)]
    exact ha
  | .scr ns, v, h, _ => h
  | .xs c t, v, h, _ => h
  | .xv c x, v, h, e => by
    obtain ⟨a, d, u, ev, g, g2, r⟩ := h
    exact ⟨a, d, u, ev, g, g2, Rep.below r e⟩
theorem Reps.below {Γ : Cfg} {w : Wd} {n : Nat} : ∀ {xs : List PV} {vs : List V}, Reps Γ w xs vs → bels n xs = true → Reps Γ ⟨w.G, w.ρ.take n⟩ xs vs
  | [], _, h, _ => h
  | x :: xs, vs, h, e => by
    obtain ⟨v, r, ev, h1, h2⟩ := h
    unfold bels at e
    rw [Bool.and_eq_true] at e
    exact ⟨v, r, ev, Rep.below h1 e.1, Reps.below h2 e.2⟩
end
mutual
theorem bel_mono {m n : Nat} (h : m ≤ n) : ∀ {x : PV}, bel m x = true → bel n x = true
  | .non, _ => rfl
  | .bl _, _ => rfl
  | .int _, _ => rfl
  | .str _, _ => rfl
  | .tup xs, e => bels_mono h (xs := xs) e
  | .lst xs, e => bels_mono h (xs := xs) e
  | .obj c xs, e => bels_mono h (xs := xs) e
  | .own k, e => decide_eq_true (Nat.lt_of_lt_of_le (of_decide_eq_true e) h)
  | .scr _, _ => rfl
  | .xs _ _, _ => rfl
  | .xv _ x, e => bel_mono h (x := x) e
theorem bels_mono {m n : Nat} (h : m ≤ n) : ∀ {xs : List PV}, bels m xs = true → bels n xs = true
  | [], _ => rfl
  | x :: xs, e => by
    unfold bels at e ⊢
    rw [Bool.and_eq_true] at e ⊢
    exact ⟨bel_mono h e.1, bels_mono h e.2⟩
end
/-- may x be put into the k-th cell? into a callers' one only what has no cell in it -/
def may (b k : Nat) (x : PV) : Bool := decide (b ≤ k) || bel 0 x
theorem may_rep {Γ : Cfg} {L : Lv} {w : Wd} {p : Pool} {H : Hp} (S : SimP Γ L w p H) {k : Nat} {x : PV} {v : V} (r : Rep Γ w x v) (h : may L.b k x = true) : Rep Γ (w.low (L.lo k)) x v := by
  unfold may at h
  rw [Bool.or_eq_true] at h
  rcases h with h | h
  · rw [S.hlo k (of_decide_eq_true h)]
    exact r
  · cases e : L.lo k with
    | none => exact r
    | some m => exact r.below (bel_mono (Nat.zero_le m) h)

section
variable {X : Cx} {C : Cn} {pos : Pos}
/-! ### values of objects -/
/-- what the text's classes have: their instances are plain, no value's name is the class's own -/
structure ClsF (K : PySem.W.Frag) (Γ : Cfg) (c : Nat) : Prop where
  cls : Cls K (Γ.cls c)
  no : ∀ f ∈ Γ.fld c, NoAttr K (Γ.cls c) f
  nd : (Γ.fld c).Nodup
  few : (Γ.fld c).length < 1000
  at_ : PySem.W.findIn K (.ref (Γ.cls c)) "__class__" = some (some (.builtin "object.__class__"))
  mr : PySem.W.mroIn K (Γ.cls c) (.type "object") = some true
theorem lookup_zip {α : Type} {ns : List Str} (hn : ns.Nodup) {i : Nat} {f : Str} : ∀ {vs : List α}, ns[i]? = some f → (ns.zip vs).lookup f = vs[i]? := by
  induction ns generalizing i with
  | nil => intro vs h; simp at h
  | cons n r ih =>
    intro vs h
    cases vs with
    | nil => simp
    | cons v vs =>
      cases i with
      | zero =>
        have e : n = f := by simpa using h
        subst e
        simp [List.lookup]
      | succ i =>
        have h' : r[i]? = some f := by simpa using h
        have ne : f ≠ n := fun z => (List.nodup_cons.mp hn).1 (z ▸ List.mem_of_getElem? h')
        rw [List.zip_cons_cons, List.lookup_cons, show (f == n) = false from beq_eq_false_iff_ne.mpr ne]
        simp only [List.getElem?_cons_succ]
        exact ih (List.nodup_cons.mp hn).2 h'
theorem putF_zip {ns : List Str} (hn : ns.Nodup) {i : Nat} {f : Str} {v : V} : ∀ {vs : List V}, ns[i]? = some f → i ≤ vs.length → putF f v (ns.zip vs) = ns.zip (if i < vs.length then vs.set i v else vs ++ [v]) := by
  induction ns generalizing i with
  | nil => intro vs h; simp at h
  | cons n r ih =>
    intro vs h hi
    cases vs with
    | nil =>
      have e0 : i = 0 := by simpa using hi
      subst e0
      have e : n = f := by simpa using h
      subst e
      cases r <;> simp [putF]
    | cons u vs =>
      cases i with
      | zero =>
        have e : n = f := by simpa using h
        subst e
        simp [putF]
      | succ i =>
        have h' : r[i]? = some f := by simpa using h
        have ne : n ≠ f := fun z => (List.nodup_cons.mp hn).1 (z ▸ List.mem_of_getElem? h')
        have ih' := ih (List.nodup_cons.mp hn).2 (vs := vs) h' (by simpa using hi)
        rw [List.zip_cons_cons]
        show (if n = f then _ else (n, u) :: putF f v (r.zip vs)) = _
        rw [if_neg ne, ih']
        by_cases hl : i < vs.length
        · rw [if_pos hl, if_pos (by simpa using hl)]
          simp
        · rw [if_neg hl, if_neg (by simpa using hl)]
          simp
/-- the i-th value of an instance of the c-th class -/
def getF (c i : Nat) (p : Pool) : PV → Option PV
  | .obj d xs => if d = c then xs[i]? else none
  | .own k => match p[k]? with
    | some (.obj d xs) => if d = c then xs[i]? else none
    | _ => none
  | _ => none
def mFld (c i : Nat) (a : M PV) : M PV := fun en p => (a en p).bind fun x p1 => match getF c i p1 x with
  | some y => .ok y p1
  | none => .stuck
theorem Rep.objH {Γ : Cfg} {L : Lv} {w : Wd} {p : Pool} {H : Hp} (S : SimP Γ L w p H) {k c : Nat} {v : V} {xs : List PV} (r : Rep Γ w (.own k) v) (e : p[k]? = some (.obj c xs)) :
    ∃ a dx vs, v = .ref a ∧ w.ρ[k]? = some a ∧ w.G a = none ∧ H a = some (.ins (Γ.cls c) dx ((Γ.fld c).zip vs)) ∧ H dx = some (.own a) ∧ w.G dx = none ∧ vs.length ≤ (Γ.fld c).length ∧ Reps Γ (w.low (L.lo k)) xs vs := by
  obtain ⟨a, ha, rfl⟩ := r
  obtain ⟨b, hb, hc⟩ := S.at e
  rw [ha] at hb
  cases hb
  obtain ⟨g, dx, vs, eH, eD, gd, hl, r⟩ := hc
  rw [Wd.low_G] at g gd
  exact ⟨a, dx, vs, rfl, ha, g, eH, eD, gd, hl, r⟩
theorem re_fld {e : Expr} {f : Str} {c i : Nat} {a : M PV} (hK : X.K = C.Γ.K) (T : ClsF C.Γ.K C.Γ c) (hf : (C.Γ.fld c)[i]? = some f) (ha : RE X C e a) (hb : attributeBase e f X.env (eval e X.env) = eval e X.env := by rfl) : RE X C (.Attribute e f pos) (mFld c i a) :=
  (pe_fld ha hb).imp fun σ H Q ⟨L, w, p, en, S, E, h⟩ => by
    refine ⟨L, w, p, en, S, E, h.bind fun x p1 w1 H1 v l1 S1 r1 h1 => ?_⟩
    have hc : Cls X.K (C.Γ.cls c) := hK ▸ T.cls
    have hn : NoAttr X.K (C.Γ.cls c) f := hK ▸ T.no f (List.mem_of_getElem? hf)
    cases x with
    | obj d xs =>
      unfold getF at h1
      dsimp only at h1
      by_cases hd : d = c
      · subst hd
        rw [if_pos rfl] at h1
        obtain ⟨a, dx, vs, ev, g, _, _, r⟩ := r1
        cases ex : xs[i]? with
        | none =>
          rw [ex] at h1
          exact h1.elim
        | some y =>
          rw [ex] at h1
          obtain ⟨u, e1, ru⟩ := r.get ex
          exact ⟨a, _, dx, _, u, ev, S1.sub _ _ g, hc, hn, by rw [lookup_zip T.nd hf]; exact e1, h1.ok S1 ru⟩
      · rw [if_neg hd] at h1
        exact h1.elim
    | own k =>
      unfold getF at h1
      dsimp only at h1
      cases ek : p1[k]? with
      | none =>
        rw [ek] at h1
        exact h1.elim
      | some cell =>
        rw [ek] at h1
        cases cell with
        | obj d xs =>
          dsimp only at h1
          by_cases hd : d = c
          · subst hd
            rw [if_pos rfl] at h1
            obtain ⟨a, dx, vs, ev, _, _, eH, _, _, _, r⟩ := Rep.objH S1 r1 ek
            cases ex : xs[i]? with
            | none =>
              rw [ex] at h1
              exact h1.elim
            | some y =>
              rw [ex] at h1
              obtain ⟨u, e1, ru⟩ := r.get ex
              exact ⟨a, _, dx, _, u, ev, eH, hc, hn, by rw [lookup_zip T.nd hf]; exact e1, h1.ok S1 (ru.mono (w1.low_le _))⟩
          · rw [if_neg hd] at h1
            exact h1.elim
        | lst _ => exact h1.elim
        | dead => exact h1.elim
    | _ => exact h1.elim
/-- o.f = value, o an object that is being made (or may change) -/
def putC (c i : Nat) (y : PV) : Cell → Option Cell
  | .obj d xs => if d = c ∧ i ≤ xs.length then some (.obj d (if i < xs.length then xs.set i y else xs ++ [y])) else none
  | _ => none
def sFld (c i : Nat) (o a : M PV) : S := fun en p => (a en p).run en fun y p1 => (o en p1).run en fun x p2 => match x with
  | .own k => if may en.b k y = true then match p2[k]? with
      | some cell => match putC c i y cell with
        | some cell' => .next en (p2.set k cell')
        | none => .stuck
      | none => .stuck
    else .stuck
  | _ => .stuck
theorem Reps.put {Γ : Cfg} {w : Wd} {xs : List PV} {vs : List V} {i : Nat} {y : PV} {v : V} (r : Reps Γ w xs vs) (ry : Rep Γ w y v) : Reps Γ w (if i < xs.length then xs.set i y else xs ++ [y]) (if i < vs.length then vs.set i v else vs ++ [v]) := by
  rw [← r.length]
  split
  · exact r.set ry
  · exact r.append (Reps.cons ry Reps.nil)
theorem rs_fld {o value : Expr} {f : Str} {c i : Nat} {mo a : M PV} {pos' : Pos} (hK : X.K = C.Γ.K) (T : ClsF C.Γ.K C.Γ c) (hf : (C.Γ.fld c)[i]? = some f) (ho : RE X C o mo) (ha : RE X C value a)
    (hs : swapsWith value (some (.Attribute o f pos')) pos.line X.env = pure false := by rfl) : RS X C (.Assign [.Attribute o f pos'] value pos) (sFld c i mo a) := (ps_fld ho ha hs).imp fun D σ H ⟨L, w, p, en, S, E, h⟩ => by
  refine ⟨L, w, p, en, S, E, h.run E fun y p1 w1 H1 v l1 S1 r1 h1 => ?_⟩
  refine ⟨L, w1, p1, en, S1, E.mono l1, h1.run (E.mono l1) fun x p2 w2 H2 u l2 S2 r2 h2 => ?_⟩
  split at h2
  · rename_i k
    split at h2
    · rename_i hm
      cases ek : p2[k]? with
      | none =>
        rw [ek] at h2
        exact h2.elim
      | some cell =>
        rw [ek] at h2
        dsimp only at h2
        cases cell with
        | obj d xs =>
          unfold putC at h2
          dsimp only at h2
          by_cases hd : d = c ∧ i ≤ xs.length
          · rw [if_pos hd] at h2
            obtain ⟨hd, hi⟩ := hd
            subst hd
            obtain ⟨b, dx, vs, ev, hb, g, eH, eD, gd, hl, r⟩ := Rep.objH S2 r2 ek
            have hi' : i < (C.Γ.fld d).length := (List.getElem?_eq_some_iff.mp hf).1
            have hrl := r.length
            have hz : putF f v ((C.Γ.fld d).zip vs) = (C.Γ.fld d).zip (if i < vs.length then vs.set i v else vs ++ [v]) := putF_zip T.nd hf (by rw [← hrl]; exact hi)
            have nb : dx ≠ b := fun z => by
              rw [z, eH] at eD
              cases eD
            rw [E.b] at hm
            have ry := may_rep S2 (r1.mono l2) hm
            refine ⟨b, _, dx, _, ev, eH, hK ▸ T.cls, hK ▸ T.no f (List.mem_of_getElem? hf), ?_, ?_⟩
            · rw [List.length_zip]
              have := T.few
              omega
            · rw [hz]
              refine h2 w2 _ σ (Wd.le.refl w2) (S2.write hb g ⟨by rw [Wd.low_G]; exact g, dx, _, upd_same, by rw [upd_ne nb]; exact eD, by rw [Wd.low_G]; exact gd, ?_, r.put ry⟩) ((E.mono l1).mono l2)
              split
              · rw [List.length_set]
                exact hl
              · rw [List.length_append]
                simp
                omega
          · rw [if_neg hd] at h2
            exact h2.elim
        | lst _ => exact h2.elim
        | dead => exact h2.elim
    · exact h2.elim
  · exact h2.elim
/-! ### built-in functions -/
abbrev FC := List PV → Pool → Res PV
def mCall (f : FC) (a : M (List PV)) : M PV := fun en p => (a en p).bind fun xs p1 => f xs p1
def RefC (C : Cn) (r : List V → Hp → VK → Prop) (f : FC) : Prop := ∀ L w p H σ xs vs Q, SimP C.Γ L w p H → Reps C.Γ w xs vs → Post C L w σ (RV C) (f xs p) Q → r vs H Q
theorem wE_call {r : List V → Hp → VK → Prop} {f : FC} {a : M (List PV)} (hr : RefC C r f) : ∀ σ H Q, wE C (mCall f a) σ H Q → tCB r (wA C a) σ H Q := fun σ H Q ⟨L, w, p, en, S, E, h⟩ =>
  ⟨L, w, p, en, S, E, h.bind fun x p1 w1 H1 v l1 S1 r1 h1 => hr L w1 p1 H1 σ x v Q S1 r1 h1⟩
theorem re_callB {x : Str} {p : Pos} {e : Expr} {es : List Expr} {id : String} {r : List V → Hp → VK → Prop} {f : FC} {a : M (List PV)} (hc : CallR X (.builtin id) r) (hr : RefC C r f) (hg : Gl X x) (hm : X.mg x = none) (hv : bootBuiltins x = some (.builtin id)) (ha : RA X C (e :: es) a)
    (hn : x ≠ "__name__" := by decide) (hdb : (x == ("__debug__" : Str)) = false := by decide) (he : starEach (e :: es) X.env = (false, eval e X.env) :: starEach es X.env := by rfl) (hpl : (backTo pos (starEach es X.env)).any (·.1) = false := by rfl) :
    RE X C (.Call (.Name x p) (e :: es) [] pos) (mCall f a) := (pe_callB hc hg hm hv ha.pa hn hdb he hpl).imp (wE_call hr)
theorem re_callTy {x : Str} {p : Pos} {e : Expr} {es : List Expr} {T : String} {r : List V → Hp → VK → Prop} {f : FC} {a : M (List PV)} (hc : CallR X (.type T) r) (hr : RefC C r f) (hg : Gl X x) (hm : X.mg x = none) (hv : bootBuiltins x = some (.type T)) (ha : RA X C (e :: es) a)
    (hn : x ≠ "__name__" := by decide) (hdb : (x == ("__debug__" : Str)) = false := by decide) (he : starEach (e :: es) X.env = (false, eval e X.env) :: starEach es X.env := by rfl) (hpl : (backTo pos (starEach es X.env)).any (·.1) = false := by rfl) :
    RE X C (.Call (.Name x p) (e :: es) [] pos) (mCall f a) := (pe_callTy hc hg hm hv ha.pa hn hdb he hpl).imp (wE_call hr)
theorem reps1 {Γ : Cfg} {w : Wd} {x : PV} {vs : List V} (r : Reps Γ w [x] vs) : ∃ v, vs = [v] ∧ Rep Γ w x v := by
  obtain ⟨v, us, rfl, h, e⟩ := r
  cases e
  exact ⟨v, rfl, h⟩
theorem reps2 {Γ : Cfg} {w : Wd} {x y : PV} {vs : List V} (r : Reps Γ w [x, y] vs) : ∃ v u, vs = [v, u] ∧ Rep Γ w x v ∧ Rep Γ w y u := by
  obtain ⟨v, us, rfl, h, e⟩ := r
  obtain ⟨u, rfl, k⟩ := reps1 e
  exact ⟨v, u, rfl, h, k⟩
def cLen : FC := fun xs p => match xs with
  | [x] => match getQ p x with
    | some ys => .ok (.int ys.length) p
    | none => .stuck
  | _ => .stuck
theorem ref_len : RefC C (fun xs H Q => ∃ p ys, xs = [V.ref p] ∧ (SqL C.Γ.K H p ys ∨ SqT C.Γ.K H p ys) ∧ Q (V.int ys.length) H) cLen := fun L w p H σ xs vs Q S r q => by
  unfold cLen at q
  split at q
  · rename_i x
    obtain ⟨v, rfl, rq⟩ := reps1 r
    split at q
    · rename_i ys e
      obtain ⟨a, us, rfl, h, rr⟩ := getQ_ok S rq e
      refine ⟨a, us, rfl, h, ?_⟩
      rw [← rr.length]
      exact q.ok S rfl
    · exact q.elim
  · exact q.elim
theorem call_lenU (hK : X.K = C.Γ.K) : CallR X (.builtin "len") (fun xs H Q => ∃ p ys, xs = [V.ref p] ∧ (SqL C.Γ.K H p ys ∨ SqT C.Γ.K H p ys) ∧ Q (V.int ys.length) H) := hK ▸ call_len_seq
def cAbs : FC := fun xs p => match xs with
  | [.int i] => .ok (.int (if i < 0 then -i else i)) p
  | _ => .stuck
theorem ref_abs : RefC C (fun xs H Q => ∃ i, xs = [V.int i] ∧ Q (V.int (if i < 0 then -i else i)) H) cAbs := fun L w p H σ xs vs Q S r q => by
  unfold cAbs at q
  split at q
  · rename_i i
    obtain ⟨v, rfl, rq⟩ := reps1 r
    cases rq
    exact ⟨i, rfl, q.ok S rfl⟩
  · exact q.elim
def cMax : FC := fun xs p => match xs with
  | [.int i, .int j] => .ok (.int (if j > i then j else i)) p
  | _ => .stuck
def cMin : FC := fun xs p => match xs with
  | [.int i, .int j] => .ok (.int (if j < i then j else i)) p
  | _ => .stuck
theorem ref_max : RefC C (fun xs H Q => ∃ i j, xs = [V.int i, V.int j] ∧ Q (V.int (if j > i then j else i)) H) cMax := fun L w p H σ xs vs Q S r q => by
  unfold cMax at q
  split at q
  · rename_i i j
    obtain ⟨v, u, rfl, r1, r2⟩ := reps2 r
    cases r1
    cases r2
    exact ⟨i, j, rfl, q.ok S rfl⟩
  · exact q.elim
theorem ref_min : RefC C (fun xs H Q => ∃ i j, xs = [V.int i, V.int j] ∧ Q (V.int (if j < i then j else i)) H) cMin := fun L w p H σ xs vs Q S r q => by
  unfold cMin at q
  split at q
  · rename_i i j
    obtain ⟨v, u, rfl, r1, r2⟩ := reps2 r
    cases r1
    cases r2
    exact ⟨i, j, rfl, q.ok S rfl⟩
  · exact q.elim
def cInt : FC := fun xs p => match xs with
  | [.int i] => .ok (.int i) p
  | [.bl b] => .ok (.int (if b = true then 1 else 0)) p
  | _ => .stuck
theorem ref_int : RefC C (fun xs H Q => (∃ i, xs = [V.int i] ∧ Q (V.int i) H) ∨ ∃ k, xs = [V.bl k] ∧ Q (V.int (if k = true then 1 else 0)) H) cInt := fun L w p H σ xs vs Q S r q => by
  unfold cInt at q
  split at q
  · rename_i i
    obtain ⟨v, rfl, rq⟩ := reps1 r
    cases rq
    exact .inl ⟨i, rfl, q.ok S rfl⟩
  · rename_i b
    obtain ⟨v, rfl, rq⟩ := reps1 r
    cases rq
    exact .inr ⟨b, rfl, q.ok S rfl⟩
  · exact q.elim
/-- list(x): one that doesn't change; one that does -/
def cList : FC := fun xs p => match xs with
  | [x] => match getQ p x with
    | some ys => .ok (.lst ys) p
    | none => .stuck
  | _ => .stuck
def cListO : FC := fun xs p => match xs with
  | [x] => match getQ p x with
    | some ys => .ok (.own p.length) (p ++ [.lst ys])
    | none => .stuck
  | _ => .stuck
def rList (K : PySem.W.Frag) : List V → Hp → VK → Prop := fun xs H Q => ∃ p ys, xs = [V.ref p] ∧ (SqL K H p ys ∨ SqT K H p ys) ∧ ∀ l, H l = none → Q (V.ref l) (upd H l (.lst ys))
theorem call_listU (hK : X.K = C.Γ.K) : CallR X (.type "list") (rList C.Γ.K) := hK ▸ call_list_of
theorem ref_list : RefC C (rList C.Γ.K) cList := fun L w p H σ xs vs Q S r q => by
  unfold cList at q
  split at q
  · rename_i x
    obtain ⟨v, rfl, rq⟩ := reps1 r
    split at q
    · rename_i ys e
      obtain ⟨a, us, rfl, h, rr⟩ := getQ_ok S rq e
      exact ⟨a, us, rfl, h, newLst S rr q⟩
    · exact q.elim
  · exact q.elim
theorem ref_listO : RefC C (rList C.Γ.K) cListO := fun L w p H σ xs vs Q S r q => by
  unfold cListO at q
  split at q
  · rename_i x
    obtain ⟨v, rfl, rq⟩ := reps1 r
    split at q
    · rename_i ys e
      obtain ⟨a, us, rfl, h, rr⟩ := getQ_ok S rq e
      exact ⟨a, us, rfl, h, newOwn S rr q⟩
    · exact q.elim
  · exact q.elim
def cTuple : FC := fun xs p => match xs with
  | [.tup ys] => .ok (.tup ys) p
  | [x] => match getR p x with
    | some ys => .ok (.tup ys) p
    | none => .stuck
  | _ => .stuck
def rTuple (K : PySem.W.Frag) : List V → Hp → VK → Prop := fun xs H Q => ∃ p ys, xs = [V.ref p] ∧ ((SqL K H p ys ∧ ∀ l, H l = none → Q (V.ref l) (upd H l (.tup ys))) ∨ SqT K H p ys ∧ Q (V.ref p) H)
theorem call_tupleU (hK : X.K = C.Γ.K) : CallR X (.type "tuple") (rTuple C.Γ.K) := hK ▸ call_tuple_of
theorem ref_tuple : RefC C (rTuple C.Γ.K) cTuple := fun L w p H σ xs vs Q S r q => by
  unfold cTuple at q
  split at q
  · rename_i ys
    obtain ⟨v, rfl, rq⟩ := reps1 r
    obtain ⟨a, us, rfl, h, rr⟩ := rq
    exact ⟨a, us, rfl, .inr ⟨seqT_mono S.sub h, q.ok S ⟨a, us, rfl, h, rr⟩⟩⟩
  · rename_i x _
    obtain ⟨v, rfl, rq⟩ := reps1 r
    split at q
    · rename_i ys e
      obtain ⟨a, us, rfl, h, rr⟩ := getR_ok S rq e
      exact ⟨a, us, rfl, .inl ⟨h, newTup S rr q⟩⟩
    · exact q.elim
  · exact q.elim
/-- all truths, all numbers of a list -/
def bls : List PV → Option (List Bool)
  | [] => some []
  | .bl b :: r => match bls r with
    | some bs => some (b :: bs)
    | none => none
  | _ => none
def its : List PV → Option (List Int)
  | [] => some []
  | .int i :: r => match its r with
    | some is => some (i :: is)
    | none => none
  | _ => none
theorem bls_ok {Γ : Cfg} {w : Wd} : ∀ {xs : List PV} {vs : List V} {bs : List Bool}, Reps Γ w xs vs → bls xs = some bs → vs = bs.map V.bl
  | [], vs, bs, r, e => by
    cases e
    exact r
  | x :: xs, vs, bs, r, e => by
    obtain ⟨v, us, rfl, r1, r2⟩ := r
    cases x with
    | bl b =>
      unfold bls at e
      cases eb : bls xs with
      | none =>
        rw [eb] at e
        cases e
      | some cs =>
        rw [eb] at e
        cases e
        rw [bls_ok r2 eb, show v = V.bl b from r1]
        rfl
    | _ => cases e
theorem its_ok {Γ : Cfg} {w : Wd} : ∀ {xs : List PV} {vs : List V} {bs : List Int}, Reps Γ w xs vs → its xs = some bs → vs = bs.map V.int
  | [], vs, bs, r, e => by
    cases e
    exact r
  | x :: xs, vs, bs, r, e => by
    obtain ⟨v, us, rfl, r1, r2⟩ := r
    cases x with
    | int b =>
      unfold its at e
      cases eb : its xs with
      | none =>
        rw [eb] at e
        cases e
      | some cs =>
        rw [eb] at e
        cases e
        rw [its_ok r2 eb, show v = V.int b from r1]
        rfl
    | _ => cases e
def cFold {α : Type} (get : List PV → Option (List α)) (g : List α → PV) : FC := fun xs p => match xs with
  | [x] => match getL p x with
    | some ys => match get ys with
      | some bs => .ok (g bs) p
      | none => .stuck
    | none => .stuck
  | _ => .stuck
def cAll : FC := cFold bls fun bs => .bl (bs.all id)
def cAny : FC := cFold bls fun bs => .bl (bs.any id)
def cSum : FC := cFold its fun is => .int is.sum
theorem ref_fold {α : Type} {get : List PV → Option (List α)} {g : List α → PV} {h : α → V} {f : List α → V} (hg : ∀ w xs vs bs, Reps C.Γ w xs vs → get xs = some bs → vs = bs.map h) (hf : ∀ w bs, Rep C.Γ w (g bs) (f bs)) :
    RefC C (fun vs H Q => ∃ (a : Addr) (bs : List α), vs = [V.ref a] ∧ SqL C.Γ.K H a (bs.map h) ∧ Q (f bs) H) (cFold get g) := fun L w p H σ xs vs Q S r q => by
  unfold cFold at q
  split at q
  · rename_i x
    obtain ⟨v, rfl, rq⟩ := reps1 r
    split at q
    · rename_i ys e
      obtain ⟨a, us, rfl, hs, rr⟩ := getL_at S rq e
      split at q
      · rename_i bs eb
        have e2 := hg _ _ _ _ rr eb
        subst e2
        exact ⟨a, bs, rfl, .inl (.inl hs), q.ok S (hf _ _)⟩
      · exact q.elim
    · exact q.elim
  · exact q.elim
theorem ref_all : RefC C (rAll C.Γ.K) cAll := ref_fold (fun _ _ _ _ r e => bls_ok r e) fun _ _ => rfl
theorem ref_any : RefC C (rAny C.Γ.K) cAny := ref_fold (fun _ _ _ _ r e => bls_ok r e) fun _ _ => rfl
theorem ref_sum : RefC C (rSum C.Γ.K) cSum := ref_fold (fun _ _ _ _ r e => its_ok r e) fun _ _ => rfl
theorem call_allU (hc : X.calm = true) (hK : X.K = C.Γ.K) : CallR X (.builtin "all") (rAll C.Γ.K) := hK ▸ cr_all hc
theorem call_anyU (hc : X.calm = true) (hK : X.K = C.Γ.K) : CallR X (.builtin "any") (rAny C.Γ.K) := hK ▸ cr_any hc
theorem call_sumU (hc : X.calm = true) (hK : X.K = C.Γ.K) : CallR X (.builtin "sum") (rSum C.Γ.K) := hK ▸ cr_sum hc
end
end R

/-! R5: methods of lists, stores, while, for, comprehensions -/
namespace R
open PySem L2

def mayL (b k : Nat) (xs : List PV) : Bool := decide (b ≤ k) || bels 0 xs
theorem mayL_rep {Γ : Cfg} {L : Lv} {w : Wd} {p : Pool} {H : Hp} (S : SimP Γ L w p H) {k : Nat} {xs : List PV} {vs : List V} (r : Reps Γ w xs vs) (h : mayL L.b k xs = true) : Reps Γ (w.low (L.lo k)) xs vs := by
  unfold mayL at h
  rw [Bool.or_eq_true] at h
  rcases h with h | h
  · rw [S.hlo k (of_decide_eq_true h)]
    exact r
  · cases e : L.lo k with
    | none => exact r
    | some m => exact r.below (bels_mono (Nat.zero_le m) h)
section
variable {X : Cx} {C : Cn} {pos : Pos}
/-- f: what the cell holds behind it, by what it held and the arguments -/
def mMet (f : Pool → List PV → List PV → Option (List PV)) (o : M PV) (a : M (List PV)) : M PV := fun en p => (o en p).bind fun x p1 => match x with
  | .own k => match p1[k]? with
    | some (.lst _) => (a en p1).bind fun ys p2 => match p2[k]? with
      | some (.lst xs) => match f p2 xs ys with
        | some zs => if mayL en.b k zs = true ∧ zs.length ≤ big then .ok .non (p2.set k (.lst zs)) else .stuck
        | none => .stuck
      | _ => .stuck
    | _ => .stuck
  | _ => .stuck
def RefM (C : Cn) (r : V → List V → Hp → VK → Prop) (f : Pool → List PV → List PV → Option (List PV)) : Prop := ∀ L w p H a xs vs ys us zs Q, SimP C.Γ L w p H → H a = some (.lst vs) → Reps C.Γ w xs vs → Reps C.Γ w ys us → f p xs ys = some zs → zs.length ≤ big → (∀ ws, Reps C.Γ w zs ws → Q .non (upd H a (.lst ws))) → r (.ref a) us H Q
theorem wE_met {r : V → List V → Hp → VK → Prop} {f : Pool → List PV → List PV → Option (List PV)} {o : M PV} {a : M (List PV)} (hr : RefM C r f) : ∀ σ H Q, wE C (mMet f o a) σ H Q → tBM C.Γ.K "list" r (wE C o) (wA C a) σ H Q := fun σ H Q ⟨L, w, p, en, S, E, h⟩ => by
  refine ⟨L, w, p, en, S, E, h.bind fun x p1 w1 H1 v l1 S1 r1 h1 => ?_⟩
  split at h1
  · rename_i k
    split at h1
    · rename_i ys0 e0
      obtain ⟨b, vs0, rfl, hb, _, eH0, _⟩ := Rep.ownH S1 r1 e0
      refine ⟨.inl ⟨rfl, vs0, .inl (.inl eH0)⟩, L, w1, p1, en, S1, E.mono l1, h1.bind fun ys p2 w2 H2 us l2 S2 r2 h2 => ?_⟩
      split at h2
      · rename_i xs e2
        obtain ⟨b2, vs, e3, hb2, g, eH, rr⟩ := Rep.ownH S2 (r1.mono l2) e2
        cases e3
        split at h2
        · rename_i zs ez
          split at h2
          · rename_i hm
            refine hr L w2 p2 H2 b xs vs ys us zs Q S2 eH (rr.mono (w2.low_le _)) r2 ez hm.2 fun ws rw' => ?_
            have hm1 := hm.1
            rw [E.b] at hm1
            exact h2.ok (S2.write hb2 g ⟨by rw [Wd.low_G]; exact g, ws, upd_same, mayL_rep S2 rw' hm1⟩) rfl
          · exact h2.elim
        · exact h2.elim
      · exact h2.elim
    · exact h1.elim
  · exact h1.elim
theorem re_met {o e : Expr} {es : List Expr} {mo : M PV} {a : M (List PV)} {name : Str} {apos cpos : Pos} {id : String} {r : V → List V → Hp → VK → Prop} {f : Pool → List PV → List PV → Option (List PV)} (hK : X.K = C.Γ.K) (h1 : PlainAttrs "list") (h2 : Slot "list" name id) (h3 : typeOf (Value.builtin id) = pure (Value.type "method_descriptor"))
    (hm : MtR X id r) (hr : RefM C r f) (ho : RE X C o mo) (ha : RA X C (e :: es) a) (hb : attributeBase o name X.env (eval o X.env) = eval o X.env := by rfl)
    (h4 : ((backTo cpos (starEach (e :: es) X.env)).all (fun x => !x.1) && (backToKw cpos (keywordEach [] X.env)).all (fun x => x.1.isSome) && decide ((e :: es).length + ([] : List Keyword).length + (if ([] : List Keyword).isEmpty then 0 else 1) < 30)) = true := by rfl)
    (h5 : (apos.endLine == cpos.line) = true := by rfl) (he : starEach (e :: es) X.env = (false, eval e X.env) :: starEach es X.env := by rfl) (hpl : (backTo cpos (starEach es X.env)).any (·.1) = false := by rfl) :
    RE X C (.Call (.Attribute o name apos) (e :: es) [] cpos) (mMet f mo a) := (pe_bm h1 h2 h3 hm ho ha.pa hb h4 h5 he hpl).imp fun σ H Q h => by
  rw [hK]
  exact wE_met hr σ H Q h
def fAppend : Pool → List PV → List PV → Option (List PV) := fun _ xs ys => match ys with
  | [y] => some (xs ++ [y])
  | _ => none
theorem refm_append : RefM C rAppend fAppend := fun L w p H a xs vs ys us zs Q S eH r rs e hl k => by
  unfold fAppend at e
  split at e
  · rename_i y
    cases e
    obtain ⟨u, rfl, ru⟩ := reps1 rs
    refine ⟨a, vs, u, rfl, rfl, eH, ?_, k _ (r.append (Reps.cons ru Reps.nil))⟩
    rw [List.length_append] at hl
    have := r.length
    simp at hl
    exact big_lt (by omega)
  · cases e
def fExtend : Pool → List PV → List PV → Option (List PV) := fun p xs ys => match ys with
  | [y] => match getL p y with
    | some zs => some (xs ++ zs)
    | none => none
  | _ => none
theorem refm_extend : RefM C rExtend fExtend := fun L w p H a xs vs ys us zs Q S eH r rs e hl k => by
  unfold fExtend at e
  split at e
  · rename_i y
    obtain ⟨u, rfl, ru⟩ := reps1 rs
    split at e
    · rename_i ts et
      cases e
      obtain ⟨b, ws, rfl, eb, rb⟩ := getL_at S ru et
      refine ⟨a, b, vs, ws, rfl, rfl, eH, eb, ?_, k _ (r.append rb)⟩
      rw [List.length_append] at hl
      rw [← r.length, ← rb.length]
      exact big_le hl
    · cases e
  · cases e
/-! ### o[i] = e -/
def sIx (o i a : M PV) : S := fun en p => (a en p).run en fun y p1 => (o en p1).run en fun x p2 => (i en p2).run en fun j p3 => match x, j with
  | .own k, .int j => match p3[k]? with
    | some (.lst xs) => match ixN xs.length j with
      | some n => if may en.b k y = true then .next en (p3.set k (.lst (xs.set n y))) else .stuck
      | none => .stuck
    | _ => .stuck
  | _, _ => .stuck
theorem rs_ix {o i e : Expr} {mo mi a : M PV} {pos' : Pos} (ho : RE X C o mo) (hi : RE X C i mi) (ha : RE X C e a) (hs : ∀ (v : Value), assign (.Subscript o i pos') X.env v = (do
      let ov ← holding [v] (eval o X.env)
      let iv ← holding [v, ov] (eval i X.env)
      standAt pos'
      holding [v, ov, iv] (setItem ov iv v)
      release [v, ov, iv] []) := by intro _; rfl)
    (h1 : swapsWithSole [.Subscript o i pos'] e pos.line X.env = pure false := by rfl) (h2 : swappedStores [.Subscript o i pos'] e X.env = pure none := by rfl) (h3 : (assignEach [.Subscript o i pos'] X.env).map (·.2) = [assign (.Subscript o i pos') X.env] := by rfl) :
    RS X C (.Assign [.Subscript o i pos'] e pos) (sIx mo mi a) := (ps_asg ha (pg_sub ho hi set_list hs) h1 h2 h3).imp fun D σ H ⟨L, w, p, en, S, E, h⟩ => by
  refine ⟨L, w, p, en, S, E, h.run E fun y p1 w1 H1 v l1 S1 r1 h1 => ?_⟩
  refine ⟨L, w1, p1, en, S1, E.mono l1, h1.run (E.mono l1) fun x p2 w2 H2 u l2 S2 r2 h2 => ?_⟩
  refine ⟨L, w2, p2, en, S2, (E.mono l1).mono l2, h2.run ((E.mono l1).mono l2) fun j p3 w3 H3 t l3 S3 r3 h3 => ?_⟩
  split at h3
  · rename_i k j
    split at h3
    · rename_i xs e3
      split at h3
      · rename_i n en
        split at h3
        · rename_i hm
          obtain ⟨b, vs, e4, hb, g, eH, rr⟩ := Rep.ownH S3 (r2.mono l3) e3
          refine ⟨b, vs, j, n, e4, r3, eH, by rw [← rr.length]; exact en, ?_⟩
          rw [E.b] at hm
          exact h3 w3 _ σ (Wd.le.refl w3) (S3.write hb g ⟨by rw [Wd.low_G]; exact g, _, upd_same, rr.set (may_rep S3 ((r1.mono l2).mono l3) hm)⟩) (((E.mono l1).mono l2).mono l3)
        · exact h3.elim
      · exact h3.elim
    · exact h3.elim
  · exact h3.elim
/-! ### while -/
def loopW (t : M Bool) (body : S) : Nat → S
  | 0 => fun _ _ => .stuck
  | f + 1 => fun en p => (t en p).run en fun b p1 => if b = true then (match body en p1 with
      | .next en2 p2 => loopW t body f en2 p2
      | .cont en2 p2 => loopW t body f en2 p2
      | .brk en2 p2 => .next en2 p2
      | o => o) else .next en p1
theorem rs_while {c : Expr} {body : List Stmt} {t : M Bool} {b : S} (f : Nat) (hp : PassesOwn (model X.prog X.w) X.A X.env X.xe) (hc : RT X C c t) (hb : RSs X C body b) : RS X C (.While c body [] pos) (loopW t b f) := (ps_while hp hc hb).imp fun D σ H ⟨L, w, p, en, S, E, h⟩ => by
  refine ⟨fun m σ' H' => ∃ w' p' en', w.le w' ∧ SimP C.Γ L w' p' H' ∧ EnR C L w' en' σ' ∧ PostS C L w' D (loopW t b m en' p'), ⟨f, w, p, en, Wd.le.refl w, S, E, h⟩, fun m σ' H' ⟨w', p', en', l', S', E', h'⟩ => ?_⟩
  cases m with
  | zero => exact h'.elim
  | succ m =>
    refine ⟨L, w', p', en', S', E', h'.run E' fun k p1 w1 H1 v l1 S1 r1 h1 => ?_⟩
    cases r1
    cases k with
    | false => exact iteF (h1 w1 H1 σ' (Wd.le.refl w1) S1 (E'.mono l1))
    | true =>
      refine iteT ?_
      rw [if_pos rfl] at h1
      refine ⟨fun σ2 H2 => ∃ w2 p2 en2, w.le w2 ∧ SimP C.Γ L w2 p2 H2 ∧ EnR C L w2 en2 σ2 ∧ PostS C L w2 D (loopW t b m en2 p2), fun σ2 H2 q => ⟨m, Nat.lt_succ_self m, q⟩, L, w1, p1, en', S1, E'.mono l1, ?_⟩
      cases e : b en' p1 with
      | next en2 p2 =>
        rw [e] at h1
        exact fun w2 H2 σ2 l2 S2 E2 => ⟨w2, p2, en2, l'.trans (l1.trans l2), S2, E2, PostS.mono l2 h1⟩
      | cont en2 p2 =>
        rw [e] at h1
        exact fun w2 H2 σ2 l2 S2 E2 => ⟨w2, p2, en2, l'.trans (l1.trans l2), S2, E2, PostS.mono l2 h1⟩
      | brk en2 p2 =>
        rw [e] at h1
        exact h1
      | ret x p2 =>
        rw [e] at h1
        exact h1
      | exc c v en2 p2 =>
        rw [e] at h1
        exact h1
      | stuck =>
        rw [e] at h1
        exact h1.elim
/-! ### what is walked -/
mutual
/-- are two trees the same -/
def pvEq : PV → PV → Bool
  | .non, .non => true
  | .bl a, .bl b => a == b
  | .int a, .int b => a == b
  | .str a, .str b => decide (a = b)
  | .tup xs, .tup ys => pvEqs xs ys
  | .lst xs, .lst ys => pvEqs xs ys
  | .obj c xs, .obj d ys => c == d && pvEqs xs ys
  | .own a, .own b => a == b
  | .scr a, .scr b => decide (a = b)
  | .xs c a, .xs d b => c == d && decide (a = b)
  | .xv c x, .xv d y => c == d && pvEq x y
  | _, _ => false
def pvEqs : List PV → List PV → Bool
  | [], [] => true
  | x :: xs, y :: ys => pvEq x y && pvEqs xs ys
  | _, _ => false
end
mutual
theorem pvEq_eq : ∀ {x y : PV}, pvEq x y = true → x = y
  | .non, y, h => by cases y <;> first | rfl | cases h
  | .bl a, y, h => by cases y <;> first | (rw [eq_of_beq (show (a == _) = true from h)]) | cases h
  | .int a, y, h => by cases y <;> first | (rw [eq_of_beq (show (a == _) = true from h)]) | cases h
  | .str a, y, h => by cases y <;> first | (rw [of_decide_eq_true (show decide (a = _) = true from h)]) | cases h
  | .tup xs, y, h => by cases y <;> first | (rw [pvEqs_eq (show pvEqs xs _ = true from h)]) | cases h
  | .lst xs, y, h => by cases y <;> first | (rw [pvEqs_eq (show pvEqs xs _ = true from h)]) | cases h
  | .obj c xs, y, h => by
    cases y with
    | obj d ys =>
      have h : (c == d && pvEqs xs ys) = true := h
      rw [Bool.and_eq_true] at h
      rw [eq_of_beq h.1, pvEqs_eq h.2]
    | _ => cases h
  | .own a, y, h => by cases y <;> first | (rw [eq_of_beq (show (a == _) = true from h)]) | cases h
  | .scr a, y, h => by cases y <;> first | (rw [of_decide_eq_true (show decide (a = _) = true from h)]) | cases h
  | .xs c a, y, h => by
    cases y with
    | xs d b =>
      have h : (c == d && decide (a = b)) = true := h
      rw [Bool.and_eq_true] at h
      rw [eq_of_beq h.1, of_decide_eq_true h.2]
    | _ => cases h
  | .xv c x, y, h => by
    cases y with
    | xv d z =>
      have h : (c == d && pvEq x z) = true := h
      rw [Bool.and_eq_true] at h
      rw [eq_of_beq h.1, pvEq_eq h.2]
    | _ => cases h
theorem pvEqs_eq : ∀ {xs ys : List PV}, pvEqs xs ys = true → xs = ys
  | [], [], _ => rfl
  | [], _ :: _, h => by cases h
  | _ :: _, [], h => by cases h
  | x :: xs, y :: ys, h => by
    have h : (pvEq x y && pvEqs xs ys) = true := h
    rw [Bool.and_eq_true] at h
    rw [pvEq_eq h.1, pvEqs_eq h.2]
end
/-- what is walked, and what must still be so at each turn -/
structure It0 where
  xs : List PV
  ck : Pool → Bool
def noCk : Pool → Bool := fun _ => true
def ownCk (k : Nat) (xs : List PV) : Pool → Bool := fun q => match q[k]? with
  | some (.lst ys) => pvEqs ys xs
  | _ => false
/-- J yields xs, whatever changes but what doesn't change any more -/
def ItR (Γ : Cfg) (w : Wd) (ck : Pool → Bool) (xs : List PV) (J : It) : Prop := ∀ L w' p H, w.le w' → SimP Γ L w' p H → ck p = true → ∀ i : Nat, (xs[i]? = none → J.stop i H) ∧ ∀ x, xs[i]? = some x → J.go i H ∧ ∀ v H', J.yld i H v H' → ∃ w'', w'.le w'' ∧ SimP Γ L w'' p H' ∧ Rep Γ w'' x v
def wI (C : Cn) (it : M It0) : TI := fun σ H R => ∃ L w p en, SimP C.Γ L w p H ∧ EnR C L w en σ ∧ Post C L w σ (fun w (z : It0) J => ItR C.Γ w z.ck z.xs J) (it en p) (fun J H' => R J H')
abbrev RI (X : Cx) (C : Cn) (tg iter : Expr) (it : M It0) : Prop := PI X tg iter (wI C it)
theorem PI.imp {X : Cx} {tg it : Expr} {t t' : TI} (h : PI X tg it t) (i : ∀ σ H R, t' σ H R → t σ H R) : PI X tg it t' := ⟨fun pins s σ H R I hq => h.run pins s σ H R I (i _ _ _ hq)⟩
theorem PI.or {X : Cx} {tg it : Expr} {t t' : TI} (h : PI X tg it t) (h' : PI X tg it t') : PI X tg it (fun σ H R => t σ H R ∨ t' σ H R) := ⟨fun pins s σ H R I hq => by
  rcases hq with q | q
  · exact h.run pins s σ H R I q
  · exact h'.run pins s σ H R I q⟩
/-- a list or a tuple that doesn't change -/
def getZ : PV → Option (List PV)
  | .lst xs => some xs
  | .scr ns => some (ns.map .int)
  | .tup xs => some xs
  | _ => none
def getZL : PV → Option (List PV)
  | .lst xs => some xs
  | .scr ns => some (ns.map .int)
  | _ => none
theorem getZL_ok {Γ : Cfg} {w : Wd} {x : PV} {v : V} {xs : List PV} (r : Rep Γ w x v) (e : getZL x = some xs) : ∃ a vs, v = .ref a ∧ SqL Γ.K w.G a vs ∧ Reps Γ w xs vs := by
  cases x with
  | lst ys =>
    cases e
    obtain ⟨a, vs, ev, q, r⟩ := r
    exact ⟨a, vs, ev, .inl (.inl q), r⟩
  | scr ns =>
    cases e
    obtain ⟨a, ev, q⟩ := r
    exact ⟨a, _, ev, q, Reps.ints⟩
  | _ => cases e
def itS (a : M PV) : M It0 := fun en p => (a en p).bind fun x p1 => match x with
  | .own k => match p1[k]? with
    | some (.lst xs) => .ok ⟨xs, ownCk k xs⟩ p1
    | _ => .stuck
  | x => match getZ x with
    | some xs => .ok ⟨xs, noCk⟩ p1
    | none => .stuck
theorem itR_own {Γ : Cfg} {w : Wd} {a : Addr} {k : Nat} {xs : List PV} (ha : w.ρ[k]? = some a) : ItR Γ w (ownCk k xs) xs (Itl Γ.K a) := fun L w' p H l S hc i => by
  unfold ownCk at hc
  split at hc
  · rename_i ys ey
    have e := pvEqs_eq hc
    subst e
    obtain ⟨b, vs, eb, hb, _, eH, r⟩ := Rep.ownH S (v := .ref a) ⟨a, pre_get l.2 ha, rfl⟩ ey
    cases eb
    have h' : SqL Γ.K H a vs := .inl (.inl eH)
    refine ⟨fun e => ⟨vs, h', ?_⟩, fun x e => ?_⟩
    · rw [← r.length]
      exact List.getElem?_eq_none_iff.mp e
    · obtain ⟨v, ev, rv⟩ := r.get e
      refine ⟨⟨vs, v, h', ev⟩, fun u H' hy => ?_⟩
      obtain ⟨rfl, hu⟩ := hy
      have e2 : u = v := Option.some.inj ((hu vs h').symm.trans ev)
      subst e2
      exact ⟨w', Wd.le.refl w', S, rv.mono (w'.low_le _)⟩
  · cases hc
theorem itR_list {Γ : Cfg} {w : Wd} {a : Addr} {xs : List PV} {vs : List V} (h : SqL Γ.K w.G a vs) (r : Reps Γ w xs vs) : ItR Γ w noCk xs (Itl Γ.K a) := fun L w' p H l S _ i => by
  have h' : SqL Γ.K H a vs := seqL_mono (fun b o e => S.sub b o (l.1 b o e)) h
  refine ⟨fun e => ⟨vs, h', ?_⟩, fun x e => ?_⟩
  · rw [← r.length]
    exact List.getElem?_eq_none_iff.mp e
  · obtain ⟨v, ev, rv⟩ := r.get e
    refine ⟨⟨vs, v, h', ev⟩, fun u H' hy => ?_⟩
    obtain ⟨rfl, hu⟩ := hy
    have e2 : u = v := Option.some.inj ((hu vs h').symm.trans ev)
    subst e2
    exact ⟨w', Wd.le.refl w', S, rv.mono l⟩
theorem itR_tup {Γ : Cfg} {w : Wd} {a : Addr} {xs : List PV} {vs : List V} (h : SqT Γ.K w.G a vs) (r : Reps Γ w xs vs) : ItR Γ w noCk xs (Itt Γ.K a) := fun L w' p H l S _ i => by
  have h' : SqT Γ.K H a vs := seqT_mono (fun b o e => S.sub b o (l.1 b o e)) h
  refine ⟨fun e => ⟨vs, h', ?_⟩, fun x e => ?_⟩
  · rw [← r.length]
    exact List.getElem?_eq_none_iff.mp e
  · obtain ⟨v, ev, rv⟩ := r.get e
    refine ⟨⟨vs, v, h', ev⟩, fun u H' hy => ?_⟩
    obtain ⟨rfl, hu⟩ := hy
    have e2 : u = v := Option.some.inj ((hu vs h').symm.trans ev)
    subst e2
    exact ⟨w', Wd.le.refl w', S, rv.mono l⟩
theorem ri_seq {tg e : Expr} {a : M PV} (hK : X.K = C.Γ.K) (ha : RE X C e a) : RI X C tg e (itS a) := by
  have h1 : PI X tg e (iList C.Γ.K (wE C a)) := hK ▸ pi_list ha
  have h2 : PI X tg e (iTup C.Γ.K (wE C a)) := hK ▸ pi_tup ha
  refine PI.imp (PI.or h1 h2) fun σ H R ⟨L, w, p, en, S, E, h⟩ => ?_
  unfold itS at h
  cases e1 : a en p with
  | ok x p1 =>
    rw [e1] at h
    dsimp only [Res.bind] at h
    cases x with
    | tup xs =>
      refine .inr ⟨L, w, p, en, S, E, ?_⟩
      rw [e1]
      intro w' H' v l S' r
      obtain ⟨b, vs, rfl, hq, rr⟩ := r
      exact ⟨b, rfl, ⟨vs, seqT_mono S'.sub hq⟩, h w' H' _ l S' (itR_tup hq rr)⟩
    | lst xs =>
      refine .inl ⟨L, w, p, en, S, E, ?_⟩
      rw [e1]
      intro w' H' v l S' r
      obtain ⟨b, vs, rfl, hq, rr⟩ := getZL_ok r (show getZL (.lst xs) = some xs from rfl)
      exact ⟨b, rfl, ⟨vs, seqL_mono S'.sub hq⟩, h w' H' _ l S' (itR_list hq rr)⟩
    | scr ns =>
      refine .inl ⟨L, w, p, en, S, E, ?_⟩
      rw [e1]
      intro w' H' v l S' r
      obtain ⟨b, vs, rfl, hq, rr⟩ := getZL_ok r (show getZL (.scr ns) = some _ from rfl)
      exact ⟨b, rfl, ⟨vs, seqL_mono S'.sub hq⟩, h w' H' _ l S' (itR_list hq rr)⟩
    | own k =>
      dsimp only at h
      split at h
      · rename_i xs ex
        refine .inl ⟨L, w, p, en, S, E, ?_⟩
        rw [e1]
        intro w' H' v l S' r
        obtain ⟨b, vs, rfl, hb, _, eH, rr⟩ := Rep.ownH S' r ex
        exact ⟨b, rfl, ⟨vs, .inl (.inl eH)⟩, h w' H' _ l S' (itR_own hb)⟩
      · exact h.elim
    | _ => exact h.elim
  | exc c v p1 =>
    rw [e1] at h
    refine .inl ⟨L, w, p, en, S, E, ?_⟩
    rw [e1]
    exact h
  | stuck =>
    rw [e1] at h
    exact h.elim
/-- range(n), range(a, b) -/
def rng (lo : Int) (n : Nat) : List PV := (List.range n).map fun (i : Nat) => .int (lo + (i : Int))
theorem itR_range {Γ : Cfg} {w : Wd} {lo : Int} {n : Nat} : ItR Γ w noCk (rng lo n) (Itr lo n) := fun L w' p H l S _ i => by
  unfold rng
  refine ⟨fun e => ?_, fun x e => ?_⟩
  · have := List.getElem?_eq_none_iff.mp e
    rw [List.length_map, List.length_range] at this
    exact this
  · rw [List.getElem?_map] at e
    cases e1 : (List.range n)[i]? with
    | none =>
      rw [e1] at e
      cases e
    | some j =>
      rw [e1] at e
      obtain ⟨hi, e2⟩ := List.getElem?_eq_some_iff.mp e1
      rw [List.getElem_range] at e2
      subst e2
      rw [List.length_range] at hi
      cases e
      refine ⟨hi, fun v H' hy => ?_⟩
      obtain ⟨rfl, rfl⟩ := hy
      exact ⟨w', Wd.le.refl w', S, rfl⟩
def itR1 (a : M (List PV)) : M It0 := fun en p => (a en p).bind fun xs p1 => match xs with
  | [.int n] => if -(2 ^ 62) ≤ n ∧ n < 2 ^ 62 then .ok ⟨rng 0 n.toNat, noCk⟩ p1 else .stuck
  | _ => .stuck
def itR2 (a : M (List PV)) : M It0 := fun en p => (a en p).bind fun xs p1 => match xs with
  | [.int i, .int j] => if -(2 ^ 62) ≤ i ∧ i < 2 ^ 62 ∧ -(2 ^ 62) ≤ j ∧ j < 2 ^ 62 then .ok ⟨rng i (j - i).toNat, noCk⟩ p1 else .stuck
  | _ => .stuck
theorem ri_range1 {tg a : Expr} {m : M (List PV)} {p : Pos} (hg : Gl X "range") (hm : X.mg "range" = none) (ha : RA X C [a] m) (hs : starEach [a] X.env = [(false, eval a X.env)] := by rfl) : RI X C tg (.Call (.Name "range" p) [a] [] pos) (itR1 m) :=
  PI.imp (pi_range1 hg hm ha.pa hs) fun σ H R ⟨L, w, p, en, S, E, h⟩ => by
    refine ⟨L, w, p, en, S, E, h.bind fun xs p1 w1 H1 vs l1 S1 r1 h1 => ?_⟩
    split at h1
    · rename_i n
      split at h1
      · rename_i hn
        obtain ⟨v, rfl, rv⟩ := reps1 r1
        cases rv
        exact ⟨n, rfl, hn.1, hn.2, h1.ok S1 itR_range⟩
      · exact h1.elim
    · exact h1.elim
theorem ri_range2 {tg a b : Expr} {m : M (List PV)} {p : Pos} (hg : Gl X "range") (hm : X.mg "range" = none) (ha : RA X C [a, b] m) (hs : starEach [a, b] X.env = [(false, eval a X.env), (false, eval b X.env)] := by rfl) (hs2 : starEach [b] X.env = [(false, eval b X.env)] := by rfl) : RI X C tg (.Call (.Name "range" p) [a, b] [] pos) (itR2 m) :=
  PI.imp (pi_range2 hg hm ha.pa hs hs2) fun σ H R ⟨L, w, p, en, S, E, h⟩ => by
    refine ⟨L, w, p, en, S, E, h.bind fun xs p1 w1 H1 vs l1 S1 r1 h1 => ?_⟩
    split at h1
    · rename_i i j
      split at h1
      · rename_i hn
        obtain ⟨v, u, rfl, rv, ru⟩ := reps2 r1
        cases rv
        cases ru
        exact ⟨i, j, rfl, hn, h1.ok S1 itR_range⟩
      · exact h1.elim
    · exact h1.elim
/-- enumerate(xs), zip(xs, ys): lists that don't change -/
def enumZ (i : Nat) : List PV → List PV
  | [] => []
  | x :: xs => .tup [.int i, x] :: enumZ (i + 1) xs
theorem enumZ_get : ∀ (xs : List PV) (k i : Nat), (enumZ k xs)[i]? = xs[i]?.map fun x => .tup [.int ((k + i : Nat) : Int), x]
  | [], k, i => by simp [enumZ]
  | x :: xs, k, 0 => by simp [enumZ]
  | x :: xs, k, i + 1 => by
    show (enumZ (k + 1) xs)[i]? = _
    rw [enumZ_get xs (k + 1) i, List.getElem?_cons_succ, Nat.add_assoc, Nat.add_comm 1 i]
theorem new_tup {Γ : Cfg} {L : Lv} {w : Wd} {p : Pool} {H : Hp} (S : SimP Γ L w p H) {T : Addr} {xs : List PV} {vs : List V} (h : H T = none) (r : Reps Γ w xs vs) : ∃ w'', w.le w'' ∧ SimP Γ L w'' p (upd H T (.tup vs)) ∧ Rep Γ w'' (.tup xs) (.ref T) :=
  ⟨w.add T (.tup vs), S.le_add h, S.new h, T, vs, rfl, .inl (.inl add_at), r.mono (S.le_add h)⟩
theorem itR_enum {Γ : Cfg} {w : Wd} {a : Addr} {xs : List PV} {vs : List V} (h : SqL Γ.K w.G a vs) (r : Reps Γ w xs vs) : ItR Γ w noCk (enumZ 0 xs) (Ite Γ.K a) := fun L w' p H l S _ i => by
  have h' : SqL Γ.K H a vs := seqL_mono (fun b o e => S.sub b o (l.1 b o e)) h
  rw [enumZ_get]
  cases e : xs[i]? with
  | none => exact ⟨fun _ => ⟨vs, h', by rw [← r.length]; exact List.getElem?_eq_none_iff.mp e⟩, (fun _ z => nomatch z)⟩
  | some x =>
    refine ⟨(fun z => nomatch z), fun y ey => ?_⟩
    have ey : PV.tup [.int ((0 + i : Nat) : Int), x] = y := Option.some.inj ey
    subst ey
    obtain ⟨v, ev, rv⟩ := r.get e
    refine ⟨⟨vs, v, h', ev⟩, fun u H' hy => ?_⟩
    obtain ⟨T, z, rfl, hT, rfl, hu⟩ := hy
    have e2 : z = v := Option.some.inj ((hu vs h').symm.trans ev)
    subst e2
    refine new_tup S hT (Reps.cons ?_ (Reps.cons (rv.mono l) Reps.nil))
    rw [Nat.zero_add]
    exact rfl
def zipZ : List PV → List PV → List PV
  | x :: xs, y :: ys => .tup [x, y] :: zipZ xs ys
  | _, _ => []
theorem zipZ_get : ∀ (xs ys : List PV) (i : Nat), (zipZ xs ys)[i]? = match xs[i]?, ys[i]? with
    | some x, some y => some (.tup [x, y])
    | _, _ => none
  | [], ys, i => by simp [zipZ]
  | x :: xs, [], i => by
    simp [zipZ]
  | x :: xs, y :: ys, 0 => by simp [zipZ]
  | x :: xs, y :: ys, i + 1 => by
    show (zipZ xs ys)[i]? = _
    rw [zipZ_get xs ys i, List.getElem?_cons_succ, List.getElem?_cons_succ]
theorem itR_zip {Γ : Cfg} {w : Wd} {a b : Addr} {xs ys : List PV} {vs us : List V} (h : SqL Γ.K w.G a vs) (r : Reps Γ w xs vs) (k : SqL Γ.K w.G b us) (q : Reps Γ w ys us) : ItR Γ w noCk (zipZ xs ys) (Itz Γ.K a b) := fun L w' p H l S _ i => by
  have h' : SqL Γ.K H a vs := seqL_mono (fun b o e => S.sub b o (l.1 b o e)) h
  have k' : SqL Γ.K H b us := seqL_mono (fun b o e => S.sub b o (l.1 b o e)) k
  rw [zipZ_get]
  cases e : xs[i]? with
  | none => exact ⟨fun _ => ⟨vs, us, h', k', .inl (by rw [← r.length]; exact List.getElem?_eq_none_iff.mp e)⟩, (fun _ z => nomatch z)⟩
  | some x =>
    cases f : ys[i]? with
    | none => exact ⟨fun _ => ⟨vs, us, h', k', .inr (by rw [← q.length]; exact List.getElem?_eq_none_iff.mp f)⟩, (fun _ z => nomatch z)⟩
    | some y =>
      refine ⟨(fun z => nomatch z), fun t et => ?_⟩
      have et : PV.tup [x, y] = t := Option.some.inj et
      subst et
      obtain ⟨v, ev, rv⟩ := r.get e
      obtain ⟨u, eu, ru⟩ := q.get f
      refine ⟨⟨vs, us, v, u, h', k', ev, eu⟩, fun t H' hy => ?_⟩
      obtain ⟨T, z, z2, rfl, hT, rfl, hz, hz2⟩ := hy
      have e2 : z = v := Option.some.inj ((hz vs h').symm.trans ev)
      have e3 : z2 = u := Option.some.inj ((hz2 us k').symm.trans eu)
      subst e2
      subst e3
      exact new_tup S hT (Reps.cons (rv.mono l) (Reps.cons (ru.mono l) Reps.nil))
def itE (a : M (List PV)) : M It0 := fun en p => (a en p).bind fun xs p1 => match xs with
  | [x] => match getZL x with
    | some ys => .ok ⟨enumZ 0 ys, noCk⟩ p1
    | none => .stuck
  | _ => .stuck
def itZ (a : M (List PV)) : M It0 := fun en p => (a en p).bind fun xs p1 => match xs with
  | [x, y] => match getZL x, getZL y with
    | some xs, some ys => .ok ⟨zipZ xs ys, noCk⟩ p1
    | _, _ => .stuck
  | _ => .stuck
theorem ri_enum {e : Expr} {m : M (List PV)} {p tpos : Pos} {elts : List Expr} {kk : Nat} (hK : X.K = C.Γ.K) (hg : Gl X "enumerate") (hm : X.mg "enumerate" = none) (ha : RA X C [e] m) (hs : starEach [e] X.env = [(false, eval e X.env)] := by rfl) :
    RI X C (.Tuple elts kk tpos) (.Call (.Name "enumerate" p) [e] [] pos) (itE m) := PI.imp (pi_enum hg hm ha.pa hs) fun σ H R ⟨L, w, p, en, S, E, h⟩ => by
  refine ⟨L, w, p, en, S, E, h.bind fun xs p1 w1 H1 vs l1 S1 r1 h1 => ?_⟩
  split at h1
  · rename_i x
    obtain ⟨v, rfl, rv⟩ := reps1 r1
    split at h1
    · rename_i ys ey
      obtain ⟨a, us, rfl, hq, rr⟩ := getZL_ok rv ey
      rw [hK]
      exact ⟨a, us, rfl, seqL_mono S1.sub hq, h1.ok S1 (itR_enum hq rr)⟩
    · exact h1.elim
  · exact h1.elim
theorem ri_zip {e e2 : Expr} {m : M (List PV)} {p tpos : Pos} {elts : List Expr} {kk : Nat} (hK : X.K = C.Γ.K) (hg : Gl X "zip") (hm : X.mg "zip" = none) (ha : RA X C [e, e2] m) (hs : starEach [e, e2] X.env = (false, eval e X.env) :: starEach [e2] X.env := by rfl) (hs2 : ((backTo pos (starEach [e2] X.env)).any fun x => x.1) = false := by rfl) :
    RI X C (.Tuple elts kk tpos) (.Call (.Name "zip" p) [e, e2] [] pos) (itZ m) := PI.imp (pi_zip hg hm ha.pa hs hs2) fun σ H R ⟨L, w, p, en, S, E, h⟩ => by
  refine ⟨L, w, p, en, S, E, h.bind fun xs p1 w1 H1 vs l1 S1 r1 h1 => ?_⟩
  split at h1
  · rename_i x y
    obtain ⟨v, u, rfl, rv, ru⟩ := reps2 r1
    split at h1
    · rename_i xs ys ex ey
      obtain ⟨a, vs, rfl, hq, rr⟩ := getZL_ok rv ex
      obtain ⟨b, us, rfl, hq2, rr2⟩ := getZL_ok ru ey
      rw [hK]
      exact ⟨a, b, vs, us, rfl, seqL_mono S1.sub hq, seqL_mono S1.sub hq2, h1.ok S1 (itR_zip hq rr hq2 rr2)⟩
    · exact h1.elim
  · exact h1.elim
/-! ### for -/
def loopF (ck : Pool → Bool) (g : T1) (body : S) : List PV → S
  | [] => fun en p => if ck p = true then .next en p else .stuck
  | x :: r => fun en p => if ck p = true then match g x with
      | none => .stuck
      | some as => match body (en.sets as) p with
        | .next en2 p2 => loopF ck g body r en2 p2
        | .cont en2 p2 => loopF ck g body r en2 p2
        | .brk en2 p2 => .next en2 p2
        | o => o
    else .stuck
def sFor (it : M It0) (g : T1) (body : S) : S := fun en p => (it en p).run en fun z p1 => loopF z.ck g body z.xs en p1
theorem rs_for {tg iter : Expr} {body : List Stmt} {it : M It0} {g : T1} {b : S} (hp : PassesOwn (model X.prog X.w) X.A X.env X.xe) (hc : X.calm = true) (hi : RI X C tg iter it) (hg : RG X C tg g) (hb : RSs X C body b) (hf : ∀ x : Value, foldedSetIterable iter X.env x = pure x := by intro _; rfl) :
    RS X C (.For tg iter body [] pos) (sFor it g b) := (ps_for hp hc hi hg hb hf).imp fun D σ H ⟨L, w, p, en, S, E, h⟩ => by
  refine ⟨L, w, p, en, S, E, h.run E fun z p1 w1 H1 J l1 S1 rJ h1 => ?_⟩
  obtain ⟨xs, ck⟩ := z
  refine ⟨fun i m σ' H' => i ≤ xs.length ∧ m = xs.length - i ∧ ∃ w' p' en', w1.le w' ∧ SimP C.Γ L w' p' H' ∧ EnR C L w' en' σ' ∧ PostS C L w' D (loopF ck g b (xs.drop i) en' p'),
    ⟨xs.length, Nat.zero_le _, rfl, w1, p1, en, Wd.le.refl w1, S1, E.mono l1, h1⟩, fun i m σ' H' ⟨hi, hm, w', p', en', l', S', E', h'⟩ => ?_⟩
  have hk : ck p' = true := by
    cases e : ck p' with
    | true => rfl
    | false =>
      cases er : xs.drop i with
      | nil =>
        rw [er] at h'
        unfold loopF at h'
        rw [if_neg (by rw [e]; exact Bool.false_ne_true)] at h'
        exact h'.elim
      | cons y r =>
        rw [er] at h'
        unfold loopF at h'
        rw [if_neg (by rw [e]; exact Bool.false_ne_true)] at h'
        exact h'.elim
  obtain ⟨j1, j2⟩ := rJ L w' p' H' l' S' hk i
  cases ex : xs[i]? with
  | none =>
    have hlen : xs.length ≤ i := List.getElem?_eq_none_iff.mp ex
    rw [List.drop_eq_nil_of_le hlen] at h'
    unfold loopF at h'
    rw [if_pos hk] at h'
    exact .inl ⟨j1 ex, h' w' H' σ' (Wd.le.refl w') S' E'⟩
  | some x =>
    obtain ⟨hlt, ex'⟩ := List.getElem?_eq_some_iff.mp ex
    rw [List.drop_eq_getElem_cons hlt, ex'] at h'
    unfold loopF at h'
    rw [if_pos hk] at h'
    obtain ⟨go, yl⟩ := j2 x ex
    refine .inr ⟨go, fun σ2 H2 => ∃ w2 p2 en2, w1.le w2 ∧ SimP C.Γ L w2 p2 H2 ∧ EnR C L w2 en2 σ2 ∧ PostS C L w2 D (loopF ck g b (xs.drop (i + 1)) en2 p2), fun σ2 H2 q => ⟨m - 1, by omega, by omega, by omega, q⟩, fun v H2 hy => ?_⟩
    obtain ⟨w2, l2, S2, r2⟩ := yl v H2 hy
    cases eg : g x with
    | none =>
      rw [eg] at h'
      exact h'.elim
    | some as =>
      rw [eg] at h'
      dsimp only at h'
      refine ⟨L, w2, p', x, as, S2, r2, eg, fun bs f q => ?_⟩
      refine ⟨L, w2, p', en'.sets as, S2, (E'.mono l2).sets f q, ?_⟩
      cases e : b (en'.sets as) p' with
      | next en2 p2 =>
        rw [e] at h'
        exact fun w3 H3 σ3 l3 S3 E3 => ⟨w3, p2, en2, l'.trans (l2.trans l3), S3, E3, PostS.mono (l2.trans l3) h'⟩
      | cont en2 p2 =>
        rw [e] at h'
        exact fun w3 H3 σ3 l3 S3 E3 => ⟨w3, p2, en2, l'.trans (l2.trans l3), S3, E3, PostS.mono (l2.trans l3) h'⟩
      | brk en2 p2 =>
        rw [e] at h'
        exact PostS.mono l2 h'
      | ret y p2 =>
        rw [e] at h'
        exact PostS.mono l2 h'
      | exc c y en2 p2 =>
        rw [e] at h'
        exact PostS.mono l2 h'
      | stuck =>
        rw [e] at h'
        exact h'.elim
end
end R

/-! R6: comprehensions -/
namespace R
open PySem L2

section
variable {Γ : Cfg} {L L' : Lv} {w w' : Wd} {p q : Pool} {H : Hp}
theorem CellR.mono {c : Cell} {a : Addr} (h : CellR Γ w H c a) (l : w.le w') (g : w'.G = w.G) : CellR Γ w' H c a := by
  refine h.step l (fun b _ e => ?_) (fun _ _ e => e)
  rw [g]
  exact e
theorem SimP.level (S : SimP Γ L w p H) (hb : L'.b ≤ p.length) (hlo : ∀ k, L'.b ≤ k → L'.lo k = none) (hm : ∀ k m, L'.lo k = some m → m ≤ p.length)
    (hc : ∀ (k : Nat) c a, p[k]? = some c → w.ρ[k]? = some a → CellR Γ (w.low (L.lo k)) H c a → CellR Γ (w.low (L'.lo k)) H c a) : SimP Γ L' w p H :=
  ⟨S.sub, S.len, S.nd, hb, hlo, hm, fun k c a h1 h2 => hc k c a h1 h2 (S.cell k c a h1 h2)⟩
/-- a block that fills the n-th cell with what leans on the first n alone -/
def Lv.block (L : Lv) (n : Nat) : Lv := ⟨n + 1, fun k => if k < n then some (minO n (L.lo k)) else if k = n then some n else none⟩
theorem Lv.block_lt {n k : Nat} (h : k < n) : (L.block n).lo k = some (minO n (L.lo k)) := by
  show (if k < n then _ else _) = _
  rw [if_pos h]
theorem Lv.block_eq {n : Nat} : (L.block n).lo n = some n := by
  show (if n < n then _ else if n = n then _ else _) = _
  rw [if_neg (Nat.lt_irrefl n), if_pos rfl]
theorem Lv.block_gt {n k : Nat} (h : n < k) : (L.block n).lo k = none := by
  show (if k < n then _ else if k = n then _ else _) = _
  rw [if_neg (by omega), if_neg (by omega)]
theorem minO_le (n : Nat) : ∀ o : Option Nat, minO n o ≤ n
  | none => Nat.le_refl n
  | some m => Nat.min_le_right m n
theorem Lv.block_le {n k m : Nat} (h : (L.block n).lo k = some m) : m ≤ n := by
  rcases Nat.lt_trichotomy k n with hk | hk | hk
  · rw [Lv.block_lt hk] at h
    cases h
    exact minO_le n _
  · subst hk
    rw [Lv.block_eq] at h
    cases h
    exact Nat.le_refl _
  · rw [Lv.block_gt hk] at h
    cases h
theorem low_take {m : Nat} : w.low (some m) = ⟨w.G, w.ρ.take m⟩ := rfl
theorem SimP.block (S : SimP Γ L w p H) {D : Addr} (hD : H D = none) : SimP Γ (L.block p.length) (w.cell D) (p ++ [.lst []]) (upd H D (.lst [])) := by
  have S1 : SimP Γ (L.deeper p.length) (w.cell D) (p ++ [.lst []]) (upd H D (.lst [])) := S.enter.newCell hD ⟨S.free hD, [], upd_same, rfl⟩
  refine S1.level (by rw [List.length_append]; exact Nat.le_refl _) (fun k hk => Lv.block_gt (by exact hk)) (fun k m e => ?_) (fun k c a h1 h2 x => ?_)
  · have := Lv.block_le e
    rw [List.length_append]
    omega
  · rcases Nat.lt_trichotomy k p.length with hk | hk | hk
    · rw [Lv.block_lt hk]
      rw [Lv.deeper_lt hk] at x
      exact x
    · subst hk
      rw [Lv.block_eq]
      have e : c = .lst [] := by
        rw [List.getElem?_append_right (Nat.le_refl _)] at h1
        simp at h1
        exact h1.symm
      subst e
      have h2 : (w.ρ ++ [D])[p.length]? = some a := h2
      rw [← S.len] at h2
      have e2 : D = a := by simpa using h2
      subst e2
      exact ⟨S.free hD, [], upd_same, rfl⟩
    · have := (List.getElem?_eq_some_iff.mp h1).1
      rw [List.length_append] at this
      simp at this
      omega
/-- the block's cells but the n-th are forgotten -/
theorem SimP.turn {n : Nat} (S : SimP Γ (L.block n) w q H) : SimP Γ (L.block n) (w.ice (n + 1) H) (q.take (n + 1)) H := by
  have hb : n + 1 ≤ q.length := S.hb
  have S1 : SimP Γ ((L.block n).deeper (n + 1)) w q H := by
    refine S.level hb (fun k hk => ?_) (fun k m e => ?_) (fun k c a h1 h2 x => ?_)
    · show (if k < n + 1 then _ else none) = none
      rw [if_neg (by have : n + 1 ≤ k := hk; omega)]
    · by_cases hk : k < n + 1
      · rw [Lv.deeper_lt hk] at e
        cases e
        have := minO_le (n + 1) ((L.block n).lo k)
        omega
      · have e : (if k < n + 1 then some (minO (n + 1) ((L.block n).lo k)) else none) = some m := e
        rw [if_neg hk] at e
        cases e
    · by_cases hk : k < n + 1
      · rw [Lv.deeper_lt hk]
        cases e : (L.block n).lo k with
        | none =>
          rcases Nat.lt_trichotomy k n with h | h | h
          · rw [Lv.block_lt h] at e
            cases e
          · subst h
            rw [Lv.block_eq] at e
            cases e
          · omega
        | some m =>
          rw [e] at x
          have := Lv.block_le e
          show CellR Γ (w.low (some (min m (n + 1)))) H c a
          rw [Nat.min_eq_left (by omega)]
          exact x
      · have e1 : ((L.block n).deeper (n + 1)).lo k = none := by
          show (if k < n + 1 then _ else none) = none
          rw [if_neg hk]
        rw [e1]
        rw [Lv.block_gt (by omega)] at x
        exact x
  exact S1.ice (Nat.le_refl _) (fun k hk => Lv.block_gt hk) (fun k m e => by have := Lv.block_le e; omega)
theorem SimP.unblockD {n : Nat} (S : SimP Γ (L.block n) w q H) : SimP Γ (L.deeper n) w q H := by
  have hb : n + 1 ≤ q.length := S.hb
  refine S.level (by show n ≤ q.length; omega) (fun k hk => ?_) (fun k m e => ?_) (fun k c a h1 h2 x => ?_)
  · show (if k < n then _ else none) = none
    rw [if_neg (by have : n ≤ k := hk; omega)]
  · by_cases hk : k < n
    · rw [Lv.deeper_lt hk] at e
      cases e
      have := minO_le n (L.lo k)
      omega
    · have e : (if k < n then some (minO n (L.lo k)) else none) = some m := e
      rw [if_neg hk] at e
      cases e
  · by_cases hk : k < n
    · rw [Lv.deeper_lt hk]
      rw [Lv.block_lt hk] at x
      exact x
    · have e1 : (L.deeper n).lo k = none := by
        show (if k < n then _ else none) = none
        rw [if_neg hk]
      rw [e1]
      exact x.mono (w.low_le _) Wd.low_G.symm
/-- the n-th cell stays one that may change -/
theorem SimP.unblock {n : Nat} (S : SimP Γ (L.block n) w q H) (hb : L.b ≤ n) (hlo : ∀ k, L.b ≤ k → L.lo k = none) (hm : ∀ k m, L.lo k = some m → m ≤ n) : SimP Γ L w q H := by
  have hq : n + 1 ≤ q.length := S.hb
  refine S.level (by omega) hlo (fun k m e => by have := hm k m e; omega) (fun k c a h1 h2 x => ?_)
  by_cases hk : k < n
  · rw [Lv.block_lt hk] at x
    refine x.mono ?_ (by rw [Wd.low_G, Wd.low_G])
    cases e : L.lo k with
    | none => exact w.low_le _
    | some m =>
      show (w.low (some (min m n))).le (w.low (some m))
      rw [Nat.min_eq_left (hm k m e)]
      exact Wd.le.refl _
  · rw [hlo k (by omega)]
    exact x.mono (w.low_le _) Wd.low_G.symm
end
/-! ### the names of a block -/
def wipeE (sl : List (Option PV)) : List Nat → List (Option PV)
  | [] => sl
  | v :: vs => (wipeE sl vs).set v none
theorem setV_get (j : Nat) : ∀ (bs : List (Nat × V)) (σ : St), j ∉ bs.map (·.1) → (setV σ bs)[j]? = σ[j]?
  | [], _, _ => rfl
  | (i, v) :: r, σ, h => by
    show (setV (σ.set i (some v)) r)[j]? = _
    rw [setV_get j r _ fun z => h (List.mem_cons_of_mem _ z)]
    exact List.getElem?_set_ne fun z => h (by rw [← z]; exact List.mem_cons_self)
theorem setV_len : ∀ (bs : List (Nat × V)) (σ : St), (setV σ bs).length = σ.length
  | [], _ => rfl
  | (i, v) :: r, σ => by
    show (setV (σ.set i (some v)) r).length = _
    rw [setV_len r, List.length_set]
theorem wipe_get (σ : St) (j : Nat) : ∀ vs : List Nat, (wipe σ vs)[j]? = if j ∈ vs then (if j < σ.length then some none else none) else σ[j]?
  | [] => by simp [wipe]
  | v :: vs => by
    show ((wipe σ vs).set v none)[j]? = _
    by_cases hv : v = j
    · subst hv
      rw [if_pos (List.mem_cons_self)]
      by_cases hl : v < σ.length
      · rw [List.getElem?_set_self (by rw [wipe_length]; exact hl), if_pos hl]
      · rw [List.getElem?_eq_none (by rw [List.length_set, wipe_length]; omega), if_neg hl]
    · rw [List.getElem?_set_ne hv, wipe_get σ j vs]
      have e : (j ∈ v :: vs) ↔ j ∈ vs := by
        constructor
        · intro h
          rcases List.mem_cons.mp h with h | h
          · exact absurd h.symm hv
          · exact h
        · exact List.mem_cons_of_mem _
      by_cases hj : j ∈ vs
      · rw [if_pos hj, if_pos (e.mpr hj)]
      · rw [if_neg hj, if_neg (fun z => hj (e.mp z))]
theorem wipe_setV {σ : St} {vs : List Nat} {bs : List (Nat × V)} (h : ∀ i ∈ bs.map (·.1), i ∈ vs) : wipe (setV (wipe σ vs) bs) vs = wipe σ vs := by
  apply List.ext_getElem?
  intro j
  rw [wipe_get, wipe_get, setV_len, wipe_length]
  by_cases hj : j ∈ vs
  · rw [if_pos hj, if_pos hj]
  · rw [if_neg hj, if_neg hj, setV_get j bs _ fun z => hj (h j z), wipe_get, if_neg hj]
theorem EnR.wipe {C : Cn} {L : Lv} {w : Wd} {en : En} {σ : St} (E : EnR C L w en σ) {L' : Lv} : ∀ vs : List Nat, EnR C L' w ⟨L'.b, wipeE en.sl vs⟩ (L2.wipe σ vs)
  | [] => ⟨rfl, E.len, E.val⟩
  | v :: vs => by
    have ih := EnR.wipe E (L' := L') vs
    refine ⟨rfl, ?_, fun j y e => ?_⟩
    · show ((wipeE en.sl vs).set v none).length = ((L2.wipe σ vs).set v none).length
      rw [List.length_set, List.length_set]
      exact ih.len
    · have e : ((wipeE en.sl vs).set v none)[j]? = some (some y) := e
      have ne : v ≠ j := by
        rintro rfl
        by_cases hl : v < (wipeE en.sl vs).length
        · rw [List.getElem?_set_self hl] at e
          cases e
        · rw [List.getElem?_eq_none (by rw [List.length_set]; omega)] at e
          cases e
      rw [List.getElem?_set_ne ne] at e
      obtain ⟨u, e1, e2⟩ := ih.val j y e
      exact ⟨u, by show ((L2.wipe σ vs).set v none)[j]? = _; rw [List.getElem?_set_ne ne]; exact e1, e2⟩
/-! ### the block -/
def W0 : WX := fun _ _ _ _ => False
def loopC (ck : Pool → Bool) (g : T1) (tt : M Bool) (te : M PV) (vs : List Nat) (n : Nat) (en : En) : List PV → Pool → Res Unit
  | [], q => if ck q = true then .ok () q else .stuck
  | x :: r, q => if ck q = true then match g x with
    | none => .stuck
    | some as => if as.all (fun a => vs.elem a.1) = true then (tt (en.sets as) q).bind fun b q1 => if b = true then (te (en.sets as) q1).bind fun y q2 => match q2[n]? with
          | some (.lst acc) => if bel n y = true ∧ acc.length < big then loopC ck g tt te vs n en r ((q2.take (n + 1)).set n (.lst (acc ++ [y]))) else .stuck
          | _ => .stuck
        else loopC ck g tt te vs n en r (q1.take (n + 1))
      else .stuck
    else .stuck
def mLc (it : M It0) (g : T1) (tt : M Bool) (te : M PV) (vs : List Nat) : M PV := fun en p => (it en p).bind fun z p1 => match loopC z.ck g tt te vs p1.length ⟨p1.length + 1, wipeE en.sl vs⟩ z.xs (p1 ++ [.lst []]) with
  | .ok _ q => match q[p1.length]? with
    | some (.lst acc) => .ok (.lst acc) (q.take p1.length)
    | _ => .stuck
  | _ => .stuck
/-- a list that may change -/
def mLcO (it : M It0) (g : T1) (tt : M Bool) (te : M PV) (vs : List Nat) : M PV := fun en p => (it en p).bind fun z p1 => match loopC z.ck g tt te vs p1.length ⟨p1.length + 1, wipeE en.sl vs⟩ z.xs (p1 ++ [.lst []]) with
  | .ok _ q => .ok (.own p1.length) q
  | _ => .stuck
section
variable {C : Cn}
abbrev Cn.blk (C : Cn) : Cn := ⟨C.Γ, W0⟩
/-- fin: what is wanted of the filled cell -/
theorem wLc_core {g : T1} {tt : M Bool} {te : M PV} {vs : List Nat} {σ : St} {H1 : Hp} {L : Lv} {w1 : Wd} {p1 : Pool} {en : En} {xs : List PV} {ck : Pool → Bool} {J : It} {Q : VK} (S1 : SimP C.Γ L w1 p1 H1) (E : EnR C L w1 en σ) (rJ : ItR C.Γ w1 ck xs J)
    (fin : Res Unit → Prop) (hf : fin (loopC ck g tt te vs p1.length ⟨p1.length + 1, wipeE en.sl vs⟩ xs (p1 ++ [.lst []]))) (hx : ∀ c v p, ¬ fin (.exc c v p)) (hst : ¬ fin .stuck)
    (D : Addr) (hD : H1 D = none) (hfin : ∀ w' q H', w1.le w' → SimP C.Γ (L.block p1.length) w' q H' → q.length = p1.length + 1 → w'.ρ[p1.length]? = some D → fin (.ok () q) → Q (.ref D) H') :
    ∃ W : Nat → Nat → Hp → Prop, (∃ m, W 0 m (upd H1 D (.lst []))) ∧ ∀ i m H, W i m H →
      (J.stop i H ∧ Q (.ref D) H) ∨ (J.go i H ∧ ∃ Nx : Hp → Prop, (∀ H', Nx H' → ∃ m', m' < m ∧ W (i + 1) m' H') ∧ ∀ x H', J.yld i H x H' → wG C.blk g x (wipe σ vs) H' fun σ2 H2 => wipe σ2 vs = wipe σ vs ∧ wT C.blk tt σ2 H2 fun b H3 =>
        if b = true then wE C.blk te σ2 H3 fun y H4 => ∃ acc, H4 D = some (.lst acc) ∧ acc.length < sizeLine ∧ Nx (upd H4 D (.lst (acc ++ [y]))) else Nx H3) := by
  let n := p1.length
  have hn : n = p1.length := rfl
  let enB : En := ⟨n + 1, wipeE en.sl vs⟩
  have le0 : w1.le (w1.cell D) := w1.le_cell D
  have lenD : (w1.cell D).ρ.length = n + 1 := by
    show (w1.ρ ++ [D]).length = _
    rw [List.length_append, S1.len]
    rfl
  have atD : (w1.cell D).ρ[n]? = some D := by
    show (w1.ρ ++ [D])[p1.length]? = some D
    rw [← S1.len]
    simp
  refine ⟨fun i m H => i ≤ xs.length ∧ m = xs.length - i ∧ ∃ w' q, (w1.cell D).le w' ∧ SimP C.Γ (L.block n) w' q H ∧ q.length = n + 1 ∧ fin (loopC ck g tt te vs n enB (xs.drop i) q), ⟨xs.length, Nat.zero_le _, rfl, w1.cell D, _, Wd.le.refl _, S1.block hD, by rw [List.length_append]; rfl, hf⟩, fun i m H ⟨hi, hm, w', q, l', S', lq, f'⟩ => ?_⟩
  have hk : ck q = true := by
    cases e : ck q with
    | true => rfl
    | false =>
      cases er : xs.drop i with
      | nil =>
        rw [er] at f'
        unfold loopC at f'
        rw [if_neg (by rw [e]; exact Bool.false_ne_true)] at f'
        exact absurd f' hst
      | cons y r =>
        rw [er] at f'
        unfold loopC at f'
        rw [if_neg (by rw [e]; exact Bool.false_ne_true)] at f'
        exact absurd f' hst
  obtain ⟨j1, j2⟩ := rJ _ w' q H (le0.trans l') S' hk i
  cases ex : xs[i]? with
  | none =>
    have hlen : xs.length ≤ i := List.getElem?_eq_none_iff.mp ex
    rw [List.drop_eq_nil_of_le hlen] at f'
    unfold loopC at f'
    rw [if_pos hk] at f'
    exact .inl ⟨j1 ex, hfin w' q H (le0.trans l') S' lq (pre_get l'.2 atD) f'⟩
  | some x =>
    obtain ⟨hlt, ex'⟩ := List.getElem?_eq_some_iff.mp ex
    rw [List.drop_eq_getElem_cons hlt, ex'] at f'
    unfold loopC at f'
    rw [if_pos hk] at f'
    obtain ⟨go, yl⟩ := j2 x ex
    refine .inr ⟨go, fun H' => ∃ w2 q2, (w1.cell D).le w2 ∧ SimP C.Γ (L.block n) w2 q2 H' ∧ q2.length = n + 1 ∧ fin (loopC ck g tt te vs n enB (xs.drop (i + 1)) q2), fun H' z => ⟨m - 1, by omega, by omega, by omega, z⟩, fun v H2 hy => ?_⟩
    obtain ⟨w2, l2, S2, r2⟩ := yl v H2 hy
    cases eg : g x with
    | none =>
      rw [eg] at f'
      exact absurd f' hst
    | some as =>
      rw [eg] at f'
      dsimp only at f'
      by_cases ha : as.all (fun a => vs.elem a.1) = true
      · rw [if_pos ha] at f'
        refine ⟨L.block n, w2, q, x, as, S2, r2, eg, fun bs fb qb => ⟨wipe_setV fun j hj => ?_, ?_⟩⟩
        · rw [fb] at hj
          obtain ⟨a, ma, ea⟩ := List.mem_map.mp hj
          have := List.all_eq_true.mp ha a ma
          rw [ea] at this
          exact List.elem_iff.mp this
        · have E2 : EnR C.blk (L.block n) w2 (enB.sets as) (setV (wipe σ vs) bs) := by
            have E0 : EnR C.blk L w1 en σ := ⟨E.b, E.len, E.val⟩
            have E1 : EnR C.blk (L.block n) w1 enB (wipe σ vs) := E0.wipe (L' := L.block n) vs
            exact (E1.mono ((le0.trans l').trans l2)).sets fb qb
          refine ⟨L.block n, w2, q, enB.sets as, S2, E2, ?_⟩
          cases et : tt (enB.sets as) q with
          | stuck =>
            rw [et] at f'
            exact absurd f' hst
          | exc c v p2 =>
            rw [et] at f'
            exact absurd f' (hx _ _ _)
          | ok b q1 =>
            rw [et] at f'
            intro w3 H3 b' l3 S3 rb
            cases rb
            have f' : fin (if b = true then (te (enB.sets as) q1).bind fun y q2 => match q2[n]? with
              | some (.lst acc) => if bel n y = true ∧ acc.length < big then loopC ck g tt te vs n enB (xs.drop (i + 1)) ((q2.take (n + 1)).set n (.lst (acc ++ [y]))) else .stuck
              | _ => .stuck
              else loopC ck g tt te vs n enB (xs.drop (i + 1)) (q1.take (n + 1))) := f'
            have l03 : (w1.cell D).le w3 := (l'.trans l2).trans l3
            cases b with
            | false =>
              refine iteF ?_
              rw [if_neg Bool.false_ne_true] at f'
              have hl : n + 1 ≤ q1.length := S3.hb
              exact ⟨_, _, S3.le_ice l03 lenD, S3.turn, by rw [List.length_take]; omega, f'⟩
            | true =>
              refine iteT ?_
              rw [if_pos rfl] at f'
              refine ⟨L.block n, w3, q1, enB.sets as, S3, E2.mono l3, ?_⟩
              cases ee : te (enB.sets as) q1 with
              | stuck =>
                rw [ee] at f'
                exact absurd f' hst
              | exc c v p2 =>
                rw [ee] at f'
                exact absurd f' (hx _ _ _)
              | ok y q2 =>
                rw [ee] at f'
                intro w4 H4 u l4 S4 ru
                have f' : fin (match q2[n]? with
                  | some (.lst acc) => if bel n y = true ∧ acc.length < big then loopC ck g tt te vs n enB (xs.drop (i + 1)) ((q2.take (n + 1)).set n (.lst (acc ++ [y]))) else .stuck
                  | _ => .stuck) := f'
                split at f'
                · rename_i acc eacc
                  by_cases hk : bel n y = true ∧ acc.length < big
                  · rw [if_pos hk] at f'
                    have l04 : (w1.cell D).le w4 := l03.trans l4
                    have hl : n + 1 ≤ q2.length := S4.hb
                    have S5 := S4.turn
                    have l05 : (w1.cell D).le (w4.ice (n + 1) H4) := S4.le_ice l04 lenD
                    have e5 : (q2.take (n + 1))[n]? = some (.lst acc) := by
                      rw [List.getElem?_take_of_lt (Nat.lt_succ_self n)]
                      exact eacc
                    have d5 : (w4.ice (n + 1) H4).ρ[n]? = some D := pre_get l05.2 atD
                    obtain ⟨g5, zs, eH, rz⟩ := S5.cell n _ D e5 d5
                    rw [Lv.block_eq] at rz g5
                    refine ⟨zs, eH, by rw [← rz.length]; exact big_lt hk.2, _, _, l05, S5.write (c := .lst (acc ++ [y])) (o := .lst (zs ++ [u])) d5 (by rw [Wd.low_G] at g5; exact g5) ⟨by rw [Wd.low_G] at g5 ⊢; exact g5, _, upd_same, ?_⟩, by rw [List.length_set, List.length_take]; omega, f'⟩
                    rw [Lv.block_eq]
                    refine rz.append (Reps.cons ?_ Reps.nil)
                    refine (ru.below hk.1).mono ⟨S4.iced_le (n + 1), ?_⟩
                    show w4.ρ.take n <+: (w4.ρ.take (n + 1)).take n
                    rw [List.take_take, Nat.min_eq_left (Nat.le_succ n)]
                    exact List.prefix_refl _
                  · rw [if_neg hk] at f'
                    exact absurd f' hst
                · exact absurd f' hst
      · rw [if_neg ha] at f'
        exact absurd f' hst
theorem wE_lc {it : M It0} {g : T1} {tt : M Bool} {te : M PV} {vs : List Nat} : ∀ σ H Q, wE C (mLc it g tt te vs) σ H Q → tLc (wI C it) (wG C.blk g) (wT C.blk tt) (wE C.blk te) vs σ H Q := fun σ H Q ⟨L, w, p, en, S, E, h⟩ => by
  refine ⟨L, w, p, en, S, E, h.bind fun z p1 w1 H1 J l1 S1 rJ h1 => fun D hD => ?_⟩
  refine wLc_core (Q := Q) S1 (E.mono l1) rJ (fun r => Post C L w1 σ (RV C) (match r with
    | .ok _ q => match q[p1.length]? with
      | some (.lst acc) => .ok (.lst acc) (q.take p1.length)
      | _ => .stuck
    | _ => .stuck) Q) h1 (fun _ _ _ z => z) (fun z => z) D hD fun w' q H' l' S' lq dq f => ?_
  dsimp only at f
  split at f
  · rename_i acc eacc
    obtain ⟨g, vs, eH, r⟩ := S'.cell _ _ D eacc dq
    rw [Lv.block_eq] at r
    have S2 := S'.unblockD.ice S1.hb S1.hlo S1.hm
    have lw : (w'.low (some p1.length)).le (w'.ice p1.length H') := ⟨S'.iced_le p1.length, List.prefix_refl _⟩
    refine f _ H' _ (S'.le_ice l' S1.len) S2 ⟨D, vs, rfl, ?_, r.mono lw⟩
    show iced w' p1.length H' D = _
    rw [iced_at (Nat.le_refl _) dq]
    exact eH
  · exact f.elim
theorem wE_lcO {it : M It0} {g : T1} {tt : M Bool} {te : M PV} {vs : List Nat} : ∀ σ H Q, wE C (mLcO it g tt te vs) σ H Q → tLc (wI C it) (wG C.blk g) (wT C.blk tt) (wE C.blk te) vs σ H Q := fun σ H Q ⟨L, w, p, en, S, E, h⟩ => by
  refine ⟨L, w, p, en, S, E, h.bind fun z p1 w1 H1 J l1 S1 rJ h1 => fun D hD => ?_⟩
  refine wLc_core (Q := Q) S1 (E.mono l1) rJ (fun r => Post C L w1 σ (RV C) (match r with
    | .ok _ q => .ok (.own p1.length) q
    | _ => .stuck) Q) h1 (fun _ _ _ z => z) (fun z => z) D hD fun w' q H' l' S' lq dq f => ?_
  exact f w' H' _ l' (S'.unblock S1.hb S1.hlo S1.hm) ⟨D, dq, rfl⟩
end
section
variable {X : Cx} {C : Cn} {pos : Pos}
def mYes : M Bool := fun _ p => .ok true p
abbrev RTs (X : Cx) (C : Cn) (ifs : List Expr) (m : M Bool) : Prop := PTs X ifs (wT C m)
theorem rts_nil : RTs X C [] mYes := ⟨fun pins s σ H Q I ⟨L, w, p, en, S, E, h⟩ => pts_nil.run pins s σ H Q I (h.ok S rfl)⟩
theorem rts_one {c : Expr} {m : M Bool} (h : RT X C c m) : RTs X C [c] m := pts_one h
theorem re_lc {elt tg iter : Expr} {ifs : List Expr} {scope : Scope} {own : List (Str × Nat)} {it : M It0} {g : T1} {tt : M Bool} {te : M PV} (hc : X.calm = true) (hN : X.N.Nodup) (hi : RI X C tg iter it) (ok : BlkOk X.N X.env.scope scope own)
    (hg : ∀ (s : Shared) (H : Hp) (B : Addr) (cl : List (Str × Addr)) (fp : List Addr), RG (X.blk s H scope (compEnvC scope cl B X.env) fp) C.blk tg g) (ht : ∀ (s : Shared) (H : Hp) (B : Addr) (cl : List (Str × Addr)) (fp : List Addr), RTs (X.blk s H scope (compEnvC scope cl B X.env) fp) C.blk ifs tt)
    (he : ∀ (s : Shared) (H : Hp) (B : Addr) (cl : List (Str × Addr)) (fp : List Addr), RE (X.blk s H scope (compEnvC scope cl B X.env) fp) C.blk elt te) (hf : ∀ x : Value, foldedSetIterable iter X.env x = pure x := by intro _; rfl) :
    RE X C (.ListComp elt [{ target := tg, iter := iter, ifs := ifs, is_async := 0 }] scope pos) (mLc it g tt te (own.map (·.2))) := (pe_lc hc hN hi ok hg ht he hf).imp wE_lc
theorem rs_setLc {i : Nat} {y : Str} {py spos : Pos} {elt tg iter : Expr} {ifs : List Expr} {scope : Scope} {own : List (Str × Nat)} {it : M It0} {g : T1} {tt : M Bool} {te : M PV} (hc : X.calm = true) (hN : X.N.Nodup) (hy : X.N[i]? = some y) (hl : X.env.scope.names.lookup y = some .local)
    (hsw : swapsWith (.ListComp elt [{ target := tg, iter := iter, ifs := ifs, is_async := 0 }] scope pos) (some (.Name y py)) spos.line X.env = pure true) (hi : RI X C tg iter it) (ok : BlkOk X.N X.env.scope scope own)
    (hg : ∀ (s : Shared) (H : Hp) (B : Addr) (cl : List (Str × Addr)) (fp : List Addr), RG (X.blk s H scope (compEnvC scope cl B X.env) fp) C.blk tg g) (ht : ∀ (s : Shared) (H : Hp) (B : Addr) (cl : List (Str × Addr)) (fp : List Addr), RTs (X.blk s H scope (compEnvC scope cl B X.env) fp) C.blk ifs tt)
    (he : ∀ (s : Shared) (H : Hp) (B : Addr) (cl : List (Str × Addr)) (fp : List Addr), RE (X.blk s H scope (compEnvC scope cl B X.env) fp) C.blk elt te) (hf : ∀ x : Value, foldedSetIterable iter X.env x = pure x := by intro _; rfl) :
    RS X C (.Assign [.Name y py] (.ListComp elt [{ target := tg, iter := iter, ifs := ifs, is_async := 0 }] scope pos) spos) (sSet (mLc it g tt te (own.map (·.2))) i) := (ps_setLc hc hN hy hl hsw hi ok hg ht he hf).imp fun D σ H ⟨L, w, p, en, S, E, h⟩ =>
  wE_lc σ H _ ⟨L, w, p, en, S, E, h.run E fun x p1 w1 H1 v l1 S1 r1 h1 => h1 w1 H1 _ (Wd.le.refl w1) S1 ((E.mono l1).set r1)⟩
theorem rs_setLcO {i : Nat} {y : Str} {py spos : Pos} {elt tg iter : Expr} {ifs : List Expr} {scope : Scope} {own : List (Str × Nat)} {it : M It0} {g : T1} {tt : M Bool} {te : M PV} (hc : X.calm = true) (hN : X.N.Nodup) (hy : X.N[i]? = some y) (hl : X.env.scope.names.lookup y = some .local)
    (hsw : swapsWith (.ListComp elt [{ target := tg, iter := iter, ifs := ifs, is_async := 0 }] scope pos) (some (.Name y py)) spos.line X.env = pure true) (hi : RI X C tg iter it) (ok : BlkOk X.N X.env.scope scope own)
    (hg : ∀ (s : Shared) (H : Hp) (B : Addr) (cl : List (Str × Addr)) (fp : List Addr), RG (X.blk s H scope (compEnvC scope cl B X.env) fp) C.blk tg g) (ht : ∀ (s : Shared) (H : Hp) (B : Addr) (cl : List (Str × Addr)) (fp : List Addr), RTs (X.blk s H scope (compEnvC scope cl B X.env) fp) C.blk ifs tt)
    (he : ∀ (s : Shared) (H : Hp) (B : Addr) (cl : List (Str × Addr)) (fp : List Addr), RE (X.blk s H scope (compEnvC scope cl B X.env) fp) C.blk elt te) (hf : ∀ x : Value, foldedSetIterable iter X.env x = pure x := by intro _; rfl) :
    RS X C (.Assign [.Name y py] (.ListComp elt [{ target := tg, iter := iter, ifs := ifs, is_async := 0 }] scope pos) spos) (sSet (mLcO it g tt te (own.map (·.2))) i) := (ps_setLc hc hN hy hl hsw hi ok hg ht he hf).imp fun D σ H ⟨L, w, p, en, S, E, h⟩ =>
  wE_lcO σ H _ ⟨L, w, p, en, S, E, h.run E fun x p1 w1 H1 v l1 S1 r1 h1 => h1 w1 H1 _ (Wd.le.refl w1) S1 ((E.mono l1).set r1)⟩
end
end R

/-! R7: defs, calls, instances made, raise, try -/
namespace R
open PySem L2

abbrev FnM := List PV → Pool → Res PV
/-- what follows a call -/
def PostF (Γ : Cfg) (L : Lv) (w : Wd) (r : Res PV) (Q : VK) (E : XK) : Prop := match r with
  | .ok x p => ∀ w' H' v, w.le w' → SimP Γ L w' p H' → Rep Γ w' x v → Q v H'
  | .exc c ov p => ∀ w' H' d, w.le w' → SimP Γ L w' p H' → ExcR Γ w' c ov d → E (.ref (Γ.cls c)) d H'
  | .stuck => False
/-- a def's promise: it does what f says -/
def spM (Γ : Cfg) (n : Nat) (f : FnM) : Sp := fun vs H Q E => vs.length = n ∧ ∃ L w p xs, SimP Γ L w p H ∧ Reps Γ w xs vs ∧ PostF Γ L w (f xs p) Q E
/-- a def by its body; N: how many names -/
def fnM (fld : Nat → List Str) (N : Nat) (body : R.S) : FnM := fun xs p => match body ⟨p.length, xs.map some ++ List.replicate (N - xs.length) none⟩ p with
  | .ret x q => match thaw fld p.length q x with
    | some y => .ok y (q.take p.length)
    | none => .stuck
  | .next _ q => .ok .non (q.take p.length)
  | .exc c none _ q => .exc c none (q.take p.length)
  | .exc c (some x) _ q => match thaw fld p.length q x with
    | some y => .exc c (some y) (q.take p.length)
    | none => .stuck
  | _ => .stuck
/-- .. that hands back a list of its own, which may change -/
def fnO (N : Nat) (body : R.S) : FnM := fun xs p => match body ⟨p.length, xs.map some ++ List.replicate (N - xs.length) none⟩ p with
  | .ret (.own k) q => if k = p.length then match q[p.length]? with
      | some (.lst acc) => if bels p.length acc = true then .ok (.own p.length) (q.take (p.length + 1)) else .stuck
      | _ => .stuck
    else .stuck
  | _ => .stuck
theorem Reps.getS {Γ : Cfg} {w : Wd} {xs : List PV} {vs : List V} (r : Reps Γ w xs vs) (n m : Nat) (h : n - xs.length = m) : ∀ (i : Nat) x, (xs.map some ++ List.replicate m (none : Option PV))[i]? = some (some x) → ∃ v, (vs.map some ++ List.replicate (n - vs.length) (none : Option V))[i]? = some (some v) ∧ Rep Γ w x v := fun i x e => by
  by_cases hi : i < xs.length
  · rw [List.getElem?_append_left (by rw [List.length_map]; exact hi), List.getElem?_map] at e
    cases ex : xs[i]? with
    | none =>
      rw [ex] at e
      cases e
    | some y =>
      rw [ex] at e
      cases e
      obtain ⟨v, ev, rv⟩ := r.get ex
      exact ⟨v, by rw [List.getElem?_append_left (by rw [List.length_map, ← r.length]; exact hi), List.getElem?_map, ev]; rfl, rv⟩
  · rw [List.getElem?_append_right (by rw [List.length_map]; omega), List.getElem?_replicate] at e
    split at e <;> cases e
theorem EnR.start {C : Cn} {w : Wd} {L : Lv} {N : List Str} {xs : List PV} {vs : List V} (r : Reps C.Γ w xs vs) : EnR C L w ⟨L.b, xs.map some ++ List.replicate (N.length - xs.length) none⟩ (L2.start N vs) := by
  refine ⟨rfl, ?_, r.getS N.length _ rfl⟩
  show (xs.map some ++ List.replicate (N.length - xs.length) none).length = (vs.map some ++ List.replicate (N.length - vs.length) none).length
  rw [List.length_append, List.length_append, List.length_map, List.length_map, List.length_replicate, List.length_replicate, r.length]
theorem ExcR.sub {Γ : Cfg} {w w' : Wd} {c : Nat} {x y : PV} {d : Option Addr} (h : ExcR Γ w c (some x) d) (l : ∀ a o, w.G a = some o → w'.G a = some o) (hr : ∀ v, Rep Γ w x v → Rep Γ w' y v) : ExcR Γ w' c (some y) d := by
  obtain ⟨dx, v, e, g, r⟩ := h
  exact ⟨dx, v, e, l _ _ g, hr v r⟩
section
variable {P : Program} {w0 : World} {K : PySem.W.Frag} {mg : Str → Option Value} {base : Heap}
theorem fn_ret {Γ : Cfg} {L : Lv} {w : Wd} {p : Pool} {H : Hp} (S : SimP Γ L w p H) {N : Nat} {body : R.S} {xs : List PV} {Q : VK} {E : XK} (h : PostF Γ L w (fnM Γ.fld N body xs p) Q E) :
    PostS ⟨Γ, fun cls d _ H => E cls d H⟩ (L.deeper p.length) w { nx := fun _ H' => Q .non H', rt := Q } (body ⟨p.length, xs.map some ++ List.replicate (N - xs.length) none⟩ p) := by
  unfold fnM at h
  cases e : body ⟨p.length, xs.map some ++ List.replicate (N - xs.length) none⟩ p with
  | next en q =>
    rw [e] at h
    exact fun w' H' σ' l S' E' => h _ H' .non (S'.le_ice l S.len) (S'.ice S.hb S.hlo S.hm) rfl
  | ret x q =>
    rw [e] at h
    dsimp only at h
    split at h
    · rename_i y ey
      exact fun w' H' v l S' r => h _ H' v (S'.le_ice l S.len) (S'.ice S.hb S.hlo S.hm) (thaw_ok S' ey r)
    · exact h.elim
  | exc c ov en q =>
    rw [e] at h
    cases ov with
    | none => exact fun w' H' σ' d l S' E' x => h _ H' d (S'.le_ice l S.len) (S'.ice S.hb S.hlo S.hm) x
    | some x =>
      dsimp only at h
      split at h
      · rename_i y ey
        exact fun w' H' σ' d l S' E' z => h _ H' d (S'.le_ice l S.len) (S'.ice S.hb S.hlo S.hm) (z.sub (S'.iced_le _) fun v r => thaw_ok S' ey r)
      · exact h.elim
  | brk en q =>
    rw [e] at h
    exact h.elim
  | cont en q =>
    rw [e] at h
    exact h.elim
  | stuck =>
    rw [e] at h
    exact h.elim
theorem fn_retO {Γ : Cfg} {L : Lv} {w : Wd} {p : Pool} {H : Hp} (S : SimP Γ L w p H) {N : Nat} {body : R.S} {xs : List PV} {Q : VK} {E : XK} (h : PostF Γ L w (fnO N body xs p) Q E) :
    PostS ⟨Γ, fun cls d _ H => E cls d H⟩ (L.deeper p.length) w { nx := fun _ H' => Q .non H', rt := Q } (body ⟨p.length, xs.map some ++ List.replicate (N - xs.length) none⟩ p) := by
  unfold fnO at h
  cases e : body ⟨p.length, xs.map some ++ List.replicate (N - xs.length) none⟩ p with
  | ret x q =>
    rw [e] at h
    cases x with
    | own k =>
      dsimp only at h
      by_cases hk : k = p.length
      · subst hk
        rw [if_pos rfl] at h
        split at h
        · rename_i acc eacc
          by_cases hb : bels p.length acc = true
          · rw [if_pos hb] at h
            intro w' H' v l S' r
            obtain ⟨a, ha, rfl⟩ := r
            have hl : p.length + 1 ≤ q.length := (List.getElem?_eq_some_iff.mp eacc).1
            have S1 : SimP Γ (L.block p.length) w' q H' := by
              refine S'.level hl (fun k hk => Lv.block_gt (by exact hk)) (fun k m e => by have := Lv.block_le e; omega) (fun k c b h1 h2 x => ?_)
              rcases Nat.lt_trichotomy k p.length with hk | hk | hk
              · rw [Lv.block_lt hk]
                rw [Lv.deeper_lt hk] at x
                exact x
              · subst hk
                rw [Lv.block_eq]
                have e0 : (L.deeper p.length).lo p.length = none := by
                  show (if p.length < p.length then _ else none) = none
                  rw [if_neg (Nat.lt_irrefl _)]
                rw [e0] at x
                rw [eacc] at h1
                cases h1
                obtain ⟨g, vs, eH, rr⟩ := x
                exact ⟨g, vs, eH, rr.below hb⟩
              · rw [Lv.block_gt hk]
                have e0 : (L.deeper p.length).lo k = none := by
                  show (if k < p.length then _ else none) = none
                  rw [if_neg (by omega)]
                rw [e0] at x
                exact x
            have S2 := S1.turn.unblock S.hb S.hlo S.hm
            refine h (w'.ice (p.length + 1) H') H' (.ref a) ⟨fun b o eb => S1.iced_le _ b o (l.1 b o eb), ?_⟩ S2 ⟨a, ?_, rfl⟩
            · obtain ⟨t, et⟩ := l.2
              show w.ρ <+: w'.ρ.take (p.length + 1)
              rw [← et, ← S.len, List.take_append]
              exact ⟨_, by rw [List.take_of_length_le (Nat.le_succ _)]⟩
            · show (w'.ρ.take (p.length + 1))[p.length]? = some a
              rw [List.getElem?_take_of_lt (Nat.lt_succ_self _)]
              exact ha
          · rw [if_neg hb] at h
            exact h.elim
        · exact h.elim
      · rw [if_neg hk] at h
        exact h.elim
    | _ => exact h.elim
  | _ =>
    rw [e] at h
    exact h.elim
/-- THE RULE: a def by its body -/
theorem ok_fn {Γ : Cfg} {x qual : Str} {st : Stmt} {dvs : List V} {kws : List (Str × V)} {f : Addr} {fd : FuncData} {N ps : List Str} {k n : Nat} (F : FunD K x qual (defArgs st) (defBody st) (defScope st) dvs kws f fd) (S : FnScope N ps (defScope st)) (hn : ps.length = n) (body : R.S)
    (hb : ∀ (cdv : Value) (A : Around) (outer : List Env) (s : Shared) (H : Hp) (E : XK), Room k (A.deeper (PyProof.Rows.envOfC qual (defScope st) s.heap.objs.size f cdv)) →
      RSs (cxOf (L2.CX P w0) P w0 K mg base N qual (defScope st) f cdv A outer s H E) ⟨Γ, fun cls d _ H => E cls d H⟩ (defBody st) body) : FnOk P w0 K mg base (L2.CX P w0) (k + 1) f fd ps (spM Γ n (fnM Γ.fld N.length body)) := by
  refine F.ok (CX := L2.CX P w0) S (fun vs H Q E h => h.1.trans hn.symm) (fun cdv A outer s H vs Q E hr h => ⟨wS _ body, hb cdv A outer s H E hr, ?_⟩)
  obtain ⟨_, L, w, p, xs, S', r, h⟩ := h
  exact ⟨L.deeper p.length, w, p, ⟨p.length, xs.map some ++ List.replicate (N.length - xs.length) none⟩, S'.enter, EnR.start (L := L.deeper p.length) r, fn_ret S' h⟩
theorem ok_fnO {Γ : Cfg} {x qual : Str} {st : Stmt} {dvs : List V} {kws : List (Str × V)} {f : Addr} {fd : FuncData} {N ps : List Str} {k n : Nat} (F : FunD K x qual (defArgs st) (defBody st) (defScope st) dvs kws f fd) (S : FnScope N ps (defScope st)) (hn : ps.length = n) (body : R.S)
    (hb : ∀ (cdv : Value) (A : Around) (outer : List Env) (s : Shared) (H : Hp) (E : XK), Room k (A.deeper (PyProof.Rows.envOfC qual (defScope st) s.heap.objs.size f cdv)) →
      RSs (cxOf (L2.CX P w0) P w0 K mg base N qual (defScope st) f cdv A outer s H E) ⟨Γ, fun cls d _ H => E cls d H⟩ (defBody st) body) : FnOk P w0 K mg base (L2.CX P w0) (k + 1) f fd ps (spM Γ n (fnO N.length body)) := by
  refine F.ok (CX := L2.CX P w0) S (fun vs H Q E h => h.1.trans hn.symm) (fun cdv A outer s H vs Q E hr h => ⟨wS _ body, hb cdv A outer s H E hr, ?_⟩)
  obtain ⟨_, L, w, p, xs, S', r, h⟩ := h
  exact ⟨L.deeper p.length, w, p, ⟨p.length, xs.map some ++ List.replicate (N.length - xs.length) none⟩, S'.enter, EnR.start (L := L.deeper p.length) r, fn_retO S' h⟩
/-! ### __init__ -/
/-- C(..) by the body of __init__: what the new instance is -/
def iniM (fld : Nat → List Str) (c N : Nat) (body : R.S) : FnM := fun xs p => match body ⟨p.length, some (.own p.length) :: (xs.map some ++ List.replicate (N - (xs.length + 1)) none)⟩ (p ++ [.obj c []]) with
  | .next _ q => match thaw fld p.length q (.own p.length) with
    | some y => .ok y (q.take p.length)
    | none => .stuck
  | .exc e none _ q => .exc e none (q.take p.length)
  | .exc e (some x) _ q => match thaw fld p.length q x with
    | some y => .exc e (some y) (q.take p.length)
    | none => .stuck
  | _ => .stuck
/-- the promise of __init__; n: how many arguments, self too -/
def spI (Γ : Cfg) (c n : Nat) (f : FnM) : Sp := fun vs H Q E => vs.length = n ∧ ∃ L w p xs x us H0, vs = .ref x :: us ∧ SimP Γ L w p H0 ∧ Reps Γ w xs us ∧ H0 x = none ∧ (∃ dx, H0 dx = none ∧ dx ≠ x ∧ H = upd (upd H0 dx (.own x)) x (.ins (Γ.cls c) dx [])) ∧
  PostF Γ L w (f xs p) (fun v H' => v = .ref x → Q .non H') E
theorem newObj {Γ : Cfg} {L : Lv} {w : Wd} {p : Pool} {H0 : Hp} (S : SimP Γ L w p H0) {c : Nat} {x dx : Addr} (hx : H0 x = none) (hd : H0 dx = none) (ne : dx ≠ x) :
    SimP Γ (L.deeper p.length) (w.cell x) (p ++ [.obj c []]) (upd (upd H0 dx (.own x)) x (.ins (Γ.cls c) dx [])) := by
  have S1 : SimP Γ (L.deeper p.length) w p (upd H0 dx (.own x)) := by
    have S0 := S.enter
    refine ⟨fun a o e => ?_, S0.len, S0.nd, S0.hb, S0.hlo, S0.hm, fun k c a h1 h2 => ?_⟩
    · rw [upd_ne (ne_of_none (S0.sub a o e) hd)]
      exact S0.sub a o e
    · refine (S0.cell k c a h1 h2).step (Wd.le.refl _) (fun _ _ g => g) (up_new hd)
  have hx1 : upd H0 dx (.own x) x = none := by
    rw [upd_ne ne.symm]
    exact hx
  refine S1.newCell hx1 ⟨S.free hx, dx, [], ?_, ?_, S.free hd, Nat.zero_le _, rfl⟩
  · rw [upd_same]
    cases Γ.fld c <;> rfl
  · rw [upd_ne ne, upd_same]
theorem ok_init {Γ : Cfg} {x qual : Str} {st : Stmt} {dvs : List V} {kws : List (Str × V)} {f : Addr} {fd : FuncData} {N ps : List Str} {k n c : Nat} (F : FunD K x qual (defArgs st) (defBody st) (defScope st) dvs kws f fd) (S : FnScope N ps (defScope st)) (hn : ps.length = n) (body : R.S)
    (hb : ∀ (cdv : Value) (A : Around) (outer : List Env) (s : Shared) (H : Hp) (E : XK), Room k (A.deeper (PyProof.Rows.envOfC qual (defScope st) s.heap.objs.size f cdv)) →
      RSs (cxOf (L2.CX P w0) P w0 K mg base N qual (defScope st) f cdv A outer s H E) ⟨Γ, fun cls d _ H => E cls d H⟩ (defBody st) body) : FnOk P w0 K mg base (L2.CX P w0) (k + 1) f fd ps (spI Γ c n (iniM Γ.fld c N.length body)) := by
  refine F.ok (CX := L2.CX P w0) S (fun vs H Q E h => h.1.trans hn.symm) (fun cdv A outer s H vs Q E hr h => ⟨wS _ body, hb cdv A outer s H E hr, ?_⟩)
  obtain ⟨_, L, w, p, xs, x, us, H0, rfl, S', r, hx, ⟨dx, hd, ne, rfl⟩, h⟩ := h
  have S2 := newObj S' (c := c) hx hd ne
  have rx : Rep Γ (w.cell x) (.own p.length) (.ref x) := ⟨x, by show (w.ρ ++ [x])[p.length]? = some x; rw [← S'.len]; simp, rfl⟩
  have e1 : ((PV.own p.length :: xs).map some ++ List.replicate (N.length - (PV.own p.length :: xs).length) none) = some (.own p.length) :: (xs.map some ++ List.replicate (N.length - (xs.length + 1)) none) := by
    rw [List.map_cons, List.cons_append, List.length_cons]
  refine ⟨L.deeper p.length, w.cell x, p ++ [.obj c []], ⟨p.length, (PV.own p.length :: xs).map some ++ List.replicate (N.length - (PV.own p.length :: xs).length) none⟩, S2, EnR.start (L := L.deeper p.length) (Reps.cons rx (r.mono (w.le_cell x))), ?_⟩
  rw [e1]
  unfold iniM at h
  have lw := w.le_cell x
  cases e : body ⟨p.length, some (.own p.length) :: (xs.map some ++ List.replicate (N.length - (xs.length + 1)) none)⟩ (p ++ [.obj c []]) with
  | next en q =>
    rw [e] at h
    dsimp only at h
    split at h
    · rename_i y ey
      exact fun w' H' σ' l S3 E' => h _ H' (.ref x) (S3.le_ice (lw.trans l) S'.len) (S3.ice S'.hb S'.hlo S'.hm) (thaw_ok S3 ey (rx.mono l)) rfl
    · exact h.elim
  | exc ec ov en q =>
    rw [e] at h
    cases ov with
    | none => exact fun w' H' σ' d l S3 E' z => h _ H' d (S3.le_ice (lw.trans l) S'.len) (S3.ice S'.hb S'.hlo S'.hm) z
    | some z =>
      dsimp only at h
      split at h
      · rename_i y ey
        exact fun w' H' σ' d l S3 E' z => h _ H' d (S3.le_ice (lw.trans l) S'.len) (S3.ice S'.hb S'.hlo S'.hm) (z.sub (S3.iced_le _) fun v r => thaw_ok S3 ey r)
      · exact h.elim
  | _ =>
    rw [e] at h
    exact h.elim
end
/-! ### calls -/
section
variable {X : Cx} {C : Cn} {pos : Pos}
def mFn (f : FnM) (ds : List PV) (a : M (List PV)) : M PV := fun en p => (a en p).bind fun xs p1 => f (xs ++ ds) p1
/-- written default values -/
def DfR : List PV → List V → Prop
  | [], vs => vs = []
  | x :: xs, vs => ∃ v r, vs = v :: r ∧ DfR xs r ∧ match x with
    | .int i => v = .int i
    | .non => v = .non
    | .bl b => v = .bl b
    | .str s => v = .str s
    | _ => False
theorem DfR.reps {Γ : Cfg} {w : Wd} : ∀ {xs : List PV} {vs : List V}, DfR xs vs → Reps Γ w xs vs
  | [], _, h => h
  | x :: xs, vs, h => by
    obtain ⟨v, r, rfl, h1, h2⟩ := h
    refine Reps.cons ?_ (DfR.reps h1)
    cases x with
    | int i => exact h2
    | non => exact h2
    | bl b => exact h2
    | str s => exact h2
    | _ => exact h2.elim
theorem PostF.of {Γ : Cfg} {W : WX} {L : Lv} {w : Wd} {σ : St} {r : Res PV} {Q : VK} (h : Post ⟨Γ, W⟩ L w σ (RV ⟨Γ, W⟩) r Q) : PostF Γ L w r Q (WE W σ) := by
  cases r with
  | ok x p => exact h
  | exc c v p => exact h
  | stuck => exact h
theorem re_fn {k n : Nat} {f : Addr} {fd : FuncData} {ps : List Str} {g : FnM} {ds : List Value} {dvs : List V} {dps : List PV} {x : Str} {p : Pos} {e : Expr} {es : List Expr} {a : M (List PV)} (F : FnOk X.prog X.w X.K X.mg X.base (L2.CX X.prog X.w) k f fd ps (spM C.Γ n g)) (hr : Room k X.A) (hg : Gl X x)
    (hm : X.mg x = some (.ref f)) (hk : PySem.W.keepIn X.K (.ref f) = true) (hb : Binds X.K fd ps ds) (hd : Vals dvs ds) (hds : DfR dps dvs) (tk : Takes X C.W) (ha : RA X C (e :: es) a) (hl : es.length + 1 + dps.length = n) (hdb : (x == ("__debug__" : Str)) = false := by decide)
    (he : starEach (e :: es) X.env = (false, eval e X.env) :: starEach es X.env := by rfl) (hpl : (backTo pos (starEach es X.env)).any (·.1) = false := by rfl) : RE X C (.Call (.Name x p) (e :: es) [] pos) (mFn g dps a) :=
  (pe_callSD F hr hg hm hk hb hd (fun σ => passAt tk σ) ha.pa hdb he hpl).imp fun σ H Q ⟨L, w, p, en, S, E, h⟩ => by
    refine ⟨L, w, p, en, S, E, ?_⟩
    unfold mFn at h
    cases ea : a en p with
    | ok xs p1 =>
      rw [ea] at h
      intro w1 H1 vs l1 S1 r1
      refine ⟨?_, L, w1, p1, xs ++ dps, S1, r1.append hds.reps, PostF.of (Post.mono l1 h)⟩
      rw [List.length_append, ← r1.length, ha.len _ _ _ _ ea, ← (hds.reps (Γ := C.Γ) (w := w)).length]
      exact hl
    | exc c v p1 =>
      rw [ea] at h
      exact h
    | stuck =>
      rw [ea] at h
      exact h
/-! C(..) -/
theorem run_makeSD {CX : CXT} {k : Nat} {f Ca : Addr} {fd : FuncData} {ps : List Str} {sp : Sp} {dvs : List V} {ds : List Value} {E : XK} {pins : List (Addr × Obj)} {σ : St} {H : Hp} {s : Shared} {Q : VK} {us : List Value} {vs : List V} (M : Mk X.K Ca f) (F : FnOk X.prog X.w X.K X.mg X.base CX k f fd ps sp) (hr : Room (k + 1) X.A) (hb : Binds X.K fd ps ds) (hd : Vals dvs ds)
    (hx : PassesAt CX X σ E) (I : Inv X pins σ H s) (r : Vals vs us)
    (h : ∀ x dx, H x = none → H dx = none → dx ≠ x → sp (.ref x :: (vs ++ dvs)) (upd (upd H dx (.own x)) x (.ins Ca dx [])) (fun v H2 => v = .non ∧ Q (.ref x) H2) E) :
    wpAny (model X.prog X.w) X.A (call (.ref Ca) us) (EP X pins σ Q) X.xe s := by
  have hq := h (s.heap.objs.size + 1) s.heap.objs.size (I.hok.fresh (Nat.le_succ _)) (I.hok.fresh (Nat.le_refl _)) (Nat.ne_of_lt (Nat.lt_succ_self _))
  have I2 := Inv.made (C := Ca) I
  have r2 : Vals (V.ref (s.heap.objs.size + 1) :: (vs ++ dvs)) (Value.ref (s.heap.objs.size + 1) :: (us ++ ds)) := .cons rfl (r.append hd)
  have hl : (Value.ref (s.heap.objs.size + 1) :: us ++ ds).length = ps.length := by
    have e := r2.length
    rw [F.len _ _ _ _ hq] at e
    exact e.symm
  refine wpAny_call (make_map (f := f) I.kIn M.makes M.init (beq_iff_eq.mp M.fn) (codeAny_mono (F.run _ X.stack _ _ ⟨Value.ref (s.heap.objs.size + 1) :: us, []⟩ (Value.ref (s.heap.objs.size + 1) :: (us ++ ds)) _ _ E (hr.make Ca us [])
    (I2.env0.make Ca us []) (hb _ (Value.ref (s.heap.objs.size + 1) :: us) I2.kIn hl) r2 hq) fun r s' hq' => ?_))
  cases r with
  | error e => exact hx pins _ _ e s' I2 hq'
  | ok fl =>
    cases fl with
    | ret u =>
      obtain ⟨v, H', I3, rv, ev, q3⟩ := I2.after hq'
      subst ev
      exact ⟨rv, ⟨V.ref (s.heap.objs.size + 1), H', I3, rfl, q3⟩⟩
    | next => exact False.elim hq'
    | brk => exact False.elim hq'
    | cont => exact False.elim hq'
def tMakeSD (Ca : Addr) (sp : Sp) (dvs : List V) (E : St → XK) (t : TA) : TE := fun σ H Q => t σ H fun vs H1 => ∀ x dx, H1 x = none → H1 dx = none → dx ≠ x →
  sp (.ref x :: (vs ++ dvs)) (upd (upd H1 dx (.own x)) x (.ins Ca dx [])) (fun v H2 => v = .non ∧ Q (.ref x) H2) (E σ)
theorem pe_makeSD {CX : CXT} {k : Nat} {f Ca : Addr} {fd : FuncData} {ps : List Str} {sp : Sp} {dvs : List V} {ds : List Value} {E : St → XK} {x : Str} {p : Pos} {e : Expr} {es : List Expr} {t : TA} (M : Mk X.K Ca f) (F : FnOk X.prog X.w X.K X.mg X.base CX k f fd ps sp) (hr : Room (k + 1) X.A) (hg : Gl X x) (hm : X.mg x = some (.ref Ca)) (hb : Binds X.K fd ps ds) (hd : Vals dvs ds) (hx : ∀ σ, PassesAt CX X σ (E σ))
    (ha : PA X (e :: es) t) (hdb : (x == ("__debug__" : Str)) = false := by decide) (he : starEach (e :: es) X.env = (false, eval e X.env) :: starEach es X.env := by rfl) (hpl : (backTo pos (starEach es X.env)).any (·.1) = false := by rfl) :
    PE X (.Call (.Name x p) (e :: es) [] pos) (tMakeSD Ca sp dvs E t) := by
  refine ⟨fun pins s σ H Q I h => ?_⟩
  refine wpAny_Call_Name_kw (ld_glob I hg hm ?_ hdb)
  refine PySem.W.callWith_K (h₀ := X.base) I.ok.mod.kin M.kp (thn (ha.run pos pins s σ H _ I h) fun us s1 ⟨vs, H1, I1, r, q⟩ => ⟨I1.kIn, ?_⟩) he hpl
  exact run_makeSD M F hr hb hd (hx σ) I1 r q
theorem re_make {k n c : Nat} {f : Addr} {fd : FuncData} {ps : List Str} {g : FnM} {ds : List Value} {dvs : List V} {dps : List PV} {x : Str} {p : Pos} {e : Expr} {es : List Expr} {a : M (List PV)} (M : Mk X.K (C.Γ.cls c) f) (F : FnOk X.prog X.w X.K X.mg X.base (L2.CX X.prog X.w) k f fd ps (spI C.Γ c n g)) (hr : Room (k + 1) X.A) (hg : Gl X x)
    (hm : X.mg x = some (.ref (C.Γ.cls c))) (hb : Binds X.K fd ps ds) (hd : Vals dvs ds) (hds : DfR dps dvs) (tk : Takes X C.W) (ha : RA X C (e :: es) a) (hl : es.length + 2 + dps.length = n) (hdb : (x == ("__debug__" : Str)) = false := by decide)
    (he : starEach (e :: es) X.env = (false, eval e X.env) :: starEach es X.env := by rfl) (hpl : (backTo pos (starEach es X.env)).any (·.1) = false := by rfl) : RE X C (.Call (.Name x p) (e :: es) [] pos) (mFn g dps a) :=
  (pe_makeSD M F hr hg hm hb hd (fun σ => passAt tk σ) ha.pa hdb he hpl).imp fun σ H Q ⟨L, w, p, en, S, E, h⟩ => by
    refine ⟨L, w, p, en, S, E, ?_⟩
    unfold mFn at h
    cases ea : a en p with
    | ok xs p1 =>
      rw [ea] at h
      intro w1 H1 vs l1 S1 r1 y dy hy hdy ne
      refine ⟨?_, L, w1, p1, xs ++ dps, y, vs ++ dvs, H1, rfl, S1, r1.append hds.reps, hy, ⟨dy, hdy, ne, rfl⟩, ?_⟩
      · rw [List.length_cons, List.length_append, ← r1.length, ha.len _ _ _ _ ea, ← (hds.reps (Γ := C.Γ) (w := w)).length, List.length_cons]
        omega
      · have h1 := PostF.of (Post.mono l1 h)
        show PostF C.Γ L w1 (g (xs ++ dps) p1) _ _
        cases eg : g (xs ++ dps) p1 with
        | ok z p2 =>
          have h1 : PostF C.Γ L w1 (g (xs ++ dps) p1) Q (WE C.W σ) := h1
          rw [eg] at h1
          exact fun w' H' v l S' r ev => ⟨rfl, by rw [← ev]; exact h1 w' H' v l S' r⟩
        | exc c v p2 =>
          have h1 : PostF C.Γ L w1 (g (xs ++ dps) p1) Q (WE C.W σ) := h1
          rw [eg] at h1
          exact h1
        | stuck =>
          have h1 : PostF C.Γ L w1 (g (xs ++ dps) p1) Q (WE C.W σ) := h1
          rw [eg] at h1
          exact h1
    | exc c v p1 =>
      rw [ea] at h
      exact h
    | stuck =>
      rw [ea] at h
      exact h
/-! ### raise -/
def sRaise (c : Nat) : S := fun en p => .exc c none en p
theorem rs_raise {Ca : Addr} {c : Nat} {bmB : List Value} {B newId initId : String} {x m : Str} {j : Nat} {p p2 cpos : Pos} (hc : X.calm = true) (tk : Takes X C.W) (F : ExcBaseFacts B newId initId bmB) (q : PySem.W.excIn X.K (C.Γ.cls c) bmB newId = true) (gC : X.mg x = some (.ref (C.Γ.cls c))) (kC : PySem.W.keepIn X.K (.ref (C.Γ.cls c)) = true)
    (r : Raises X (.ref (C.Γ.cls c))) (hg : Gl X x) (hd : (x == ("__debug__" : Str)) = false := by decide) : RS X C (.Raise (some (.Call (.Name x p) [.Constant (.str m) j p2] [] cpos)) none pos) (sRaise c) :=
  (ps_raise hc tk (pmk_own F q gC kC r hg hd)).imp fun D σ H ⟨L, w, p, en, S, E, h⟩ => h w H σ none (Wd.le.refl w) S E rfl
end
end R

/-! R8: short names for the rules; isinstance; try; a list that doesn't change from here on -/
namespace R
open PySem L2
section
variable {X : Cx} {C : Cn} {pos : Pos}
theorem ref_lt : RefO C (rI0 fun i j => V.bl (decide (i < j))) pLt := ref_I0 fun _ _ _ => rfl
theorem ref_le : RefO C (rI0 fun i j => V.bl (decide (i ≤ j))) pLe := ref_I0 fun _ _ _ => rfl
theorem ref_gt : RefO C (rI0 fun i j => V.bl (decide (j < i))) pGt := ref_I0 fun _ _ _ => rfl
theorem ref_ge : RefO C (rI0 fun i j => V.bl (decide (j ≤ i))) pGe := ref_I0 fun _ _ _ => rfl
/-- x += e of numbers -/
def pIpAdd : F2 := f2I fun i j => .int (i + j)
def pIpSub : F2 := f2I fun i j => .int (i - j)
theorem ref_ipAdd : RefO C (ipI fun i j => i + j) pIpAdd := fun L w p H σ x y vx vy Q S rx ry q => by
  unfold pIpAdd f2I at q
  split at q
  · exact ⟨_, _, rx, ry, q.ok S rfl⟩
  · exact q.elim
theorem ref_ipSub : RefO C (ipI fun i j => i - j) pIpSub := fun L w p H σ x y vx vy Q S rx ry q => by
  unfold pIpSub f2I at q
  split at q
  · exact ⟨_, _, rx, ry, q.ok S rfl⟩
  · exact q.elim
def pIsN1 : F2 := fun x y p => match y with
  | .non => .ok (.bl (isNon x)) p
  | _ => .stuck
def pNotN1 : F2 := fun x y p => match y with
  | .non => .ok (.bl (!isNon x)) p
  | _ => .stuck
theorem ref_isN1 : RefO C (fun x y H Q => y = V.non ∧ Q (V.bl (decide (x = V.non))) H) pIsN1 := ref_isN
theorem ref_notN1 : RefO C (fun x y H Q => y = V.non ∧ Q (V.bl (!decide (x = V.non))) H) pNotN1 := fun L w p H σ x y vx vy Q S rx ry q => by
  cases y with
  | non =>
    cases ry
    exact ⟨rfl, by rw [isNon_ok rx]; exact q.ok S rfl⟩
  | _ => exact q.elim
/-! -x -/
def mNeg (a : M PV) : M PV := fun en p => (a en p).bind fun x p1 => match x with
  | .int i => .ok (.int (-i)) p1
  | _ => .stuck
theorem re_neg {a : Expr} {m : M PV} (h : RE X C a m) : RE X C (.UnaryOp .USub a pos) (mNeg m) := (pe_un un_neg h).imp fun σ H Q ⟨L, w, p, en, S, E, h⟩ => by
  refine ⟨L, w, p, en, S, E, h.bind fun x p1 w1 H1 v l1 S1 r1 h1 => ?_⟩
  cases x with
  | int i => exact ⟨i, r1, h1.ok S1 rfl⟩
  | _ => exact h1.elim
/-! ### from here on it doesn't change -/
def sIce (i : Nat) : S := fun en p => match en.sl[i]? with
  | some (some (.own k)) => match p[k]? with
    | some (.lst xs) => if bels 0 xs = true then .next (en.set i (.lst xs)) (p.set k .dead) else .stuck
    | _ => .stuck
  | _ => .stuck
theorem SimP.die {Γ : Cfg} {L : Lv} {w : Wd} {p : Pool} {H : Hp} (S : SimP Γ L w p H) {k : Nat} {a : Addr} {xs : List PV} {vs : List V} (ha : w.ρ[k]? = some a) (hg : w.G a = none) (eH : H a = some (.lst vs)) : w.le ⟨upd w.G a (.lst vs), w.ρ⟩ ∧ SimP Γ L ⟨upd w.G a (.lst vs), w.ρ⟩ (p.set k .dead) H := by
  have le : w.le ⟨upd w.G a (.lst vs), w.ρ⟩ := ⟨up_new hg, List.prefix_refl _⟩
  refine ⟨le, ⟨fun b o e => ?_, by rw [List.length_set]; exact S.len, S.nd, by rw [List.length_set]; exact S.hb, S.hlo, fun j m e => by rw [List.length_set]; exact S.hm j m e, fun j c b h1 h2 => ?_⟩⟩
  · by_cases hb : b = a
    · subst hb
      have e : upd w.G b (.lst vs) b = some o := e
      rw [upd_same] at e
      rw [eH]
      exact e
    · have e : upd w.G a (.lst vs) b = some o := e
      rw [upd_ne hb] at e
      exact S.sub b o e
  · by_cases hj : j = k
    · subst hj
      have e : b = a := Option.some.inj (h2.symm.trans ha)
      subst e
      have hl : j < p.length := by
        have := (List.getElem?_eq_some_iff.mp h1).1
        rw [List.length_set] at this
        exact this
      rw [List.getElem?_set_self hl] at h1
      cases h1
      exact ⟨_, eH, fun _ z => nomatch z⟩
    · rw [List.getElem?_set_ne (Ne.symm hj)] at h1
      have nb : b ≠ a := fun z => hj (nd_ix S.nd (z ▸ h2) ha)
      have x := S.cell j c b h1 h2
      have lw : (w.low (L.lo j)).le ((⟨upd w.G a (.lst vs), w.ρ⟩ : Wd).low (L.lo j)) := S.lows le j
      have gG : ((⟨upd w.G a (.lst vs), w.ρ⟩ : Wd).low (L.lo j)).G = upd w.G a (.lst vs) := Wd.low_G
      cases c with
      | lst ys =>
        obtain ⟨g, us, e, r⟩ := x
        rw [Wd.low_G] at g
        exact ⟨by rw [gG, upd_ne nb]; exact g, us, e, r.mono lw⟩
      | obj d ys =>
        obtain ⟨g, dx, us, e, ed, gd, hl, r⟩ := x
        rw [Wd.low_G] at g gd
        have ndx : dx ≠ a := fun z => by
          rw [z, eH] at ed
          cases ed
        exact ⟨by rw [gG, upd_ne nb]; exact g, dx, us, e, ed, by rw [gG, upd_ne ndx]; exact gd, hl, r.mono lw⟩
      | dead => exact x
theorem rss_ice {st : List Stmt} {m : S} (i : Nat) (h : RSs X C st m) : RSs X C st (sSeq (sIce i) m) := h.imp fun D σ H ⟨L, w, p, en, S, E, h⟩ => by
  unfold sSeq sIce at h
  split at h
  · rename_i k e1
    split at h
    · rename_i xs e2
      by_cases hb : bels 0 xs = true
      · rw [if_pos hb] at h
        obtain ⟨v, ev, rv⟩ := E.val i _ e1
        obtain ⟨a, vs, rfl, ha, hg, eH, r⟩ := Rep.ownH S rv e2
        obtain ⟨le, S2⟩ := S.die (xs := xs) ha hg eH
        refine ⟨L, _, p.set k .dead, en.set i (.lst xs), S2, ?_, PostS.mono le h⟩
        have E2 := (E.mono le).set (i := i) (x := .lst xs) (v := .ref a) ⟨a, vs, rfl, upd_same, (r.mono (w.low_le _)).mono le⟩
        have e3 : σ.set i (some (.ref a)) = σ := by
          apply List.ext_getElem?
          intro j
          by_cases hj : i = j
          · subst hj
            rw [List.getElem?_set_self (List.getElem?_eq_some_iff.mp ev).1, ev]
          · rw [List.getElem?_set_ne hj]
        rw [e3] at E2
        exact E2
      · rw [if_neg hb] at h
        exact h.elim
    · exact h.elim
  · exact h.elim
/-! ### isinstance -/
inductive Ty where
  | non | bl | int | str | tup | lst | cls (c : Nat)
  deriving DecidableEq
def Ty.val (Γ : Cfg) : Ty → Value
  | .non => .type "NoneType"
  | .bl => .type "bool"
  | .int => .type "int"
  | .str => .type "str"
  | .tup => .type "tuple"
  | .lst => .type "list"
  | .cls c => .ref (Γ.cls c)
/-- a value's type; n: how many classes -/
def tyP (n : Nat) (p : Pool) : PV → Option Ty
  | .non => some .non
  | .bl _ => some .bl
  | .int _ => some .int
  | .str _ => some .str
  | .tup _ => some .tup
  | .lst _ => some .lst
  | .scr _ => none
  | .xs _ _ => none
  | .xv _ _ => none
  | .obj c _ => if c < n then some (.cls c) else none
  | .own k => match p[k]? with
    | some (.lst _) => some .lst
    | some (.obj c _) => if c < n then some (.cls c) else none
    | _ => none
/-- what isinstance asks of the written part -/
structure IsF (Γ : Cfg) (n : Nat) : Prop where
  cl : ∀ c, c < n → ClsF Γ.K Γ c
  gn : PySem.W.specialIn Γ.K (.builtin "object.__class__") "__get__" = some (some (.builtin "getset_descriptor.__get__"))
  tk : PySem.W.takesIn Γ.K (.builtin "object.__class__") = some true
theorem tyP_ok {L : Lv} {w : Wd} {p : Pool} {H : Hp} {n : Nat} (I : IsF C.Γ n) (S : SimP C.Γ L w p H) {x : PV} {v : V} {t : Ty} (r : Rep C.Γ w x v) (e : tyP n p x = some t) : TyX C.Γ.K H v (t.val C.Γ) := by
  cases x with
  | non =>
    cases e
    cases r
    exact .base .non
  | bl b =>
    cases e
    cases r
    exact .base (.bl b)
  | int i =>
    cases e
    cases r
    exact .base (.int i)
  | str s =>
    cases e
    cases r
    exact .base (.str s)
  | tup xs =>
    cases e
    obtain ⟨a, vs, rfl, q, _⟩ := r
    rcases seqT_mono S.sub q with (h | ⟨o, h⟩) | ⟨o, its, m, h, hc, _⟩
    · exact .base (.tup h)
    · exact .fTuple h
    · exact .kTuple h hc
  | lst xs =>
    cases e
    obtain ⟨a, vs, rfl, q, _⟩ := r
    exact .base (.lst (S.sub _ _ q))
  | scr ns => cases e
  | xs c t => cases e
  | xv c x => cases e
  | obj c xs =>
    unfold tyP at e
    dsimp only at e
    split at e
    · rename_i hc
      cases e
      obtain ⟨a, dx, vs, rfl, g, _⟩ := r
      have T := I.cl c hc
      exact .base (.ins (S.sub _ _ g) T.cls T.at_ I.gn I.tk T.mr)
    · cases e
  | own k =>
    unfold tyP at e
    dsimp only at e
    split at e
    · rename_i ys ey
      cases e
      obtain ⟨a, vs, rfl, _, _, eH, _⟩ := Rep.ownH S r ey
      exact .base (.lst eH)
    · rename_i c ys ey
      split at e
      · rename_i hc
        cases e
        obtain ⟨a, dx, vs, rfl, _, _, eH, _⟩ := Rep.objH S r ey
        have T := I.cl c hc
        exact .base (.ins eH T.cls T.at_ I.gn I.tk T.mr)
      · cases e
    · cases e
/-- is what is of type t a T -/
def isT (T t : Ty) : Bool := decide (t = T) || (decide (t = .bl) && decide (T = .int))
def mIsi (n : Nat) (T : Ty) (a : M PV) : M PV := fun en p => (a en p).bind fun x p1 => match tyP n p1 x with
  | some t => .ok (.bl (isT T t)) p1
  | none => .stuck
/-- what is known of one class, as isinstance's second argument -/
def IsA (Γ : Cfg) (n : Nat) (T : Ty) : Prop := ∀ t : Ty, (∀ c, t = .cls c → c < n) → PySem.W.kitOne Γ.K (t.val Γ) (T.val Γ) = some (isT T t)
theorem tyP_lt {n : Nat} {p : Pool} {x : PV} {c : Nat} (e : tyP n p x = some (.cls c)) : c < n := by
  cases x with
  | obj d xs =>
    unfold tyP at e
    dsimp only at e
    split at e
    · rename_i h
      cases e
      exact h
    · cases e
  | own k =>
    unfold tyP at e
    dsimp only at e
    split at e
    · cases e
    · split at e
      · rename_i h
        cases e
        exact h
      · cases e
    · cases e
  | _ => cases e
theorem re_isi {x : Str} {p : Pos} {e ce : Expr} {a : M PV} {n : Nat} {T : Ty} {c : V} (hK : X.K = C.Γ.K) (I : IsF C.Γ n) (A : IsA C.Γ n T) (ha : RE X C e a) (hce : PE X ce (tC c)) (k : ClsV c (T.val C.Γ)) (hg : Gl X "isinstance") (hm : X.mg "isinstance" = none)
    (he : starEach (e :: [ce]) X.env = (false, eval e X.env) :: starEach [ce] X.env := by rfl) (he2 : starEach (ce :: []) X.env = (false, eval ce X.env) :: starEach [] X.env := by rfl) (hpl : (backTo pos (starEach [ce] X.env)).any (·.1) = false := by rfl) :
    RE X C (.Call (.Name "isinstance" p) [e, ce] [] pos) (mIsi n T a) :=
  (pe_callB call_isi hg hm (by decide +kernel) (pa_cons ha (pa_cons hce pa_nil he2) he) (by decide) (by decide) he hpl).imp fun σ H Q ⟨L, w, p, en, S, E, h⟩ => by
    refine ⟨L, w, p, en, S, E, h.bind fun x p1 w1 H1 v l1 S1 r1 h1 => ?_⟩
    split at h1
    · rename_i t et
      rw [hK]
      exact ⟨v, c, _, _, _, rfl, k, tyP_ok I S1 r1 et, A t (fun c ec => tyP_lt (by rw [← ec]; exact et)), h1.ok S1 rfl⟩
    · exact h1.elim
theorem pe_tyN {x : Str} {p : Pos} {T : String} (hg : Gl X x) (hm : X.mg x = none) (hv : bootBuiltins x = some (.type T)) (hn : x ≠ "__name__" := by decide) (hd : (x == ("__debug__" : Str)) = false := by decide) : PE X (.Name x p) (tC (.ty T)) := pe_bltn hg hm hv rfl hn hd
theorem pe_clsN {x : Str} {p : Pos} {a : Addr} (hg : Gl X x) (hm : X.mg x = some (.ref a)) (hd : (x == ("__debug__" : Str)) = false := by decide) : PE X (.Name x p) (tC (.ref a)) := pe_glob hg hm rfl hd
/-- a built-in class -/
theorem isA_b {Γ : Cfg} {n : Nat} {T : Ty} (hT : T = .int ∨ T = .bl ∨ T = .str ∨ T = .tup ∨ T = .lst) (h : ∀ c, c < n → PySem.W.kitOne Γ.K (.ref (Γ.cls c)) (T.val Γ) = some false) : IsA Γ n T := fun t ht => by
  cases t with
  | cls c =>
    have e : isT T (.cls c) = false := by
      rcases hT with rfl | rfl | rfl | rfl | rfl <;> rfl
    rw [e]
    exact h c (ht c rfl)
  | non => rcases hT with rfl | rfl | rfl | rfl | rfl <;> exact kit_ty (by decide +kernel)
  | bl => rcases hT with rfl | rfl | rfl | rfl | rfl <;> exact kit_ty (by decide +kernel)
  | int => rcases hT with rfl | rfl | rfl | rfl | rfl <;> exact kit_ty (by decide +kernel)
  | str => rcases hT with rfl | rfl | rfl | rfl | rfl <;> exact kit_ty (by decide +kernel)
  | tup => rcases hT with rfl | rfl | rfl | rfl | rfl <;> exact kit_ty (by decide +kernel)
  | lst => rcases hT with rfl | rfl | rfl | rfl | rfl <;> exact kit_ty (by decide +kernel)
/-- a class of the text's own -/
theorem isA_c {Γ : Cfg} {n c : Nat} (h1 : PySem.W.kitOne Γ.K (.type "NoneType") (.ref (Γ.cls c)) = some false) (h2 : PySem.W.kitOne Γ.K (.type "bool") (.ref (Γ.cls c)) = some false) (h3 : PySem.W.kitOne Γ.K (.type "int") (.ref (Γ.cls c)) = some false)
    (h4 : PySem.W.kitOne Γ.K (.type "str") (.ref (Γ.cls c)) = some false) (h5 : PySem.W.kitOne Γ.K (.type "tuple") (.ref (Γ.cls c)) = some false) (h6 : PySem.W.kitOne Γ.K (.type "list") (.ref (Γ.cls c)) = some false)
    (h7 : ∀ d, d < n → PySem.W.kitOne Γ.K (.ref (Γ.cls d)) (.ref (Γ.cls c)) = some (decide (d = c))) : IsA Γ n (.cls c) := fun t ht => by
  cases t with
  | cls d =>
    have e : isT (.cls c) (.cls d) = decide (d = c) := by
      unfold isT
      by_cases h : d = c
      · subst h
        simp
      · simp [h]
    rw [e]
    exact h7 d (ht d rfl)
  | non => exact h1
  | bl => exact h2
  | int => exact h3
  | str => exact h4
  | tup => exact h5
  | lst => exact h6
end
end R

/-! R9: == and != of lists and tuples, whatever their items are, both answers -/
namespace R
section
open PySem PySem.SeqAt
open AutoSeq1 (wpAny_loadPart')
open MeetsSeq MeetsSeq2 MeetsSeq3 SeqRoads2
variable {prog : Program} {w : World} {A : Around} {R0 : Result → Shared → Prop}
/-- at each turn two lists of N items each; the i-th two are equal, or they are not and Bad holds -/
def TwoL (prog : Program) (w : World) (A : Around) (E : Value → Shared → Prop) (l b : Addr) (N : Nat) (I : Nat → Shared → Prop) (Bad : Shared → Prop) : Prop :=
  ∀ i s, I i s → ∃ (xs ys : Array Value) (n m : Nat), s.heap.get? l = some { cls := .type "list", data := .seq xs n } ∧ s.heap.get? b = some { cls := .type "list", data := .seq ys m } ∧ xs.size = N ∧ ys.size = N ∧
    ∀ (h1 : i < xs.size) (h2 : i < ys.size), wpAny (model prog w) A.in1 (eqBool xs[i] ys[i]) (fun r t => (r = true ∧ I (i + 1) t) ∨ (r = false ∧ ∃ zs us n' m', t.heap.get? l = some { cls := .type "list", data := .seq zs n' } ∧ t.heap.get? b = some { cls := .type "list", data := .seq us m' } ∧ zs.size = N ∧ us.size = N ∧ Bad t)) E s
theorem loopE (l b : Addr) (N : Nat) (I : Nat → Shared → Prop) (Bad : Shared → Prop) (hl : TwoL prog w A (fun e t => R0 (.error e) t) l b N I Bad) (fin : ∀ s, I N s → R0 (.ok (.ret (.bool true))) s) (bad : ∀ s, Bad s → R0 (.ok (.ret (.bool false))) s) (k : Nat) :
    ∀ i : Nat, N - i = k → i ≤ N → ∀ s, I i s → wpAny (model prog w) A.in1 (Builtin.«list.__eq__.loop» ⟨[.ref l, .ref b, rawInt i, rawInt 2], []⟩) (GQ.FinOf prog w A R0) (fun e t => R0 (.error e) t) s := by
  induction k with
  | zero =>
    intro i hk hi s h
    obtain ⟨xs, ys, n, m, hl1, hb1, hs1, hs2, _⟩ := hl _ _ h
    have ei : i = N := by omega
    have hR : R0 (.ok (.ret (.bool true))) s := fin s (ei ▸ h)
    obtain ⟨hp, g, d, tk, os⟩ := s
    wp_walk using wpAny_loadPart' hl1, wpAny_loadPart' hb1
    have hx : xs[((i : Nat) : Int).toNat]? = none := by simp; omega
    have hy : ys[((i : Nat) : Int).toNat]? = none := by simp; omega
    rw [hx, hy]
    wp_walk using wpAny_loadPart' hl1, wpAny_loadPart' hb1
    show R0 (.ok (.ret (.bool (xs.size == ys.size)))) _
    rw [hs1, hs2]
    simpa using hR
  | succ k ih =>
    intro i hk hi s h
    obtain ⟨xs, ys, n, m, hl1, hb1, hs1, hs2, turn⟩ := hl _ _ h
    have h1 : i < xs.size := by omega
    have h2 : i < ys.size := by omega
    have ht := turn h1 h2
    obtain ⟨hp, g, d, tk, os⟩ := s
    wp_walk using wpAny_loadPart' hl1, wpAny_loadPart' hb1
    have hx : xs[((i : Nat) : Int).toNat]? = some xs[i] := by simp [h1]
    have hy : ys[((i : Nat) : Int).toNat]? = some ys[i] := by simp [h2]
    have ec : ((i : Int) + 1) = ((i + 1 : Nat) : Int) := by omega
    rw [hx, hy]
    refine wpAny_bind (wpAny_mono ht (fun r t q => ?_) fun _ _ x => x)
    rcases q with ⟨rfl, q⟩ | ⟨rfl, zs, us, n', m', hl2, hb2, hz, hu, q⟩
    · have hrec := ih (i + 1) (by omega) (by omega) t q
      obtain ⟨hp2, g2, d2, tk2, os2⟩ := t
      wp_walk
      rw [ec]
      exact ⟨plainId_quiet plain_eq_loop _, codeAny_builtin entry_eq_loop (by
        rw [Around.under_plainId plain_eq_loop _]; exact hrec)⟩
    · have hR := bad t q
      obtain ⟨hp2, g2, d2, tk2, os2⟩ := t
      have hx2 : zs[((i : Nat) : Int).toNat]? = some (zs[i]'(by omega)) := by simp
      have hy2 : us[((i : Nat) : Int).toNat]? = some (us[i]'(by omega)) := by simp
      wp_walk using wpAny_loadPart' hl2, wpAny_loadPart' hb2
      rw [hx2, hy2]
      wp_walk using wpAny_loadPart' hl2, wpAny_loadPart' hb2
      exact hR
theorem listE (l b : Addr) (N : Nat) (I : Nat → Shared → Prop) (Bad : Shared → Prop) (hl : TwoL prog w A (fun e t => R0 (.error e) t) l b N I Bad) (fin : ∀ s, I N s → R0 (.ok (.ret (.bool true))) s) (bad : ∀ s, Bad s → R0 (.ok (.ret (.bool false))) s) {s : Shared} (h : I 0 s) :
    wpAny (model prog w) A.in1 (Builtin.«list.__eq__» ⟨[.ref l, .ref b], []⟩) (GQ.FinOf prog w A R0) (fun e t => R0 (.error e) t) s := by
  obtain ⟨xs, ys, n, m, hl1, hb1, hs1, hs2, _⟩ := hl _ _ h
  have hrec := loopE (A := A) (R0 := R0) l b N I Bad hl fin bad _ 0 rfl (Nat.zero_le _) s h
  obtain ⟨hp, g, d, tk, os⟩ := s
  have f3 := AutoSeq1.sub_list_list
  have hne : ¬ (xs.size != ys.size) = true := by simp [hs1, hs2]
  wp_walk using wpAny_loadPart' hl1, wpAny_loadPart' hb1
  exact ⟨plainId_quiet plain_eq_loop _, codeAny_builtin entry_eq_loop (by
    rw [Around.under_plainId plain_eq_loop _]; exact hrec)⟩
theorem listNE (l b : Addr) (xs ys : Array Value) (n m : Nat) (hne : xs.size ≠ ys.size) {s : Shared} (hl1 : s.heap.get? l = some { cls := .type "list", data := .seq xs n }) (hb1 : s.heap.get? b = some { cls := .type "list", data := .seq ys m }) (hR : R0 (.ok (.ret (.bool false))) s) :
    wpAny (model prog w) A.in1 (Builtin.«list.__eq__» ⟨[.ref l, .ref b], []⟩) (GQ.FinOf prog w A R0) (fun e t => R0 (.error e) t) s := by
  obtain ⟨hp, g, d, tk, os⟩ := s
  have f3 := AutoSeq1.sub_list_list
  have hne' : (xs.size != ys.size) = true := by simpa using hne
  wp_walk using wpAny_loadPart' hl1, wpAny_loadPart' hb1
  exact hR
/-- tuples of any lengths -/
theorem tupE (l b : Addr) (xs ys : Array Value) (n m : Nat) (dd dd2 : Option Addr) (sl sl2 : Array (Option Value)) (I : Nat → Shared → Prop) (Bad : Shared → Prop)
    (turn : ∀ i (h1 : i < xs.size) (h2 : i < ys.size) s, I i s → wpAny (model prog w) A.in1 (eqBool xs[i] ys[i]) (fun r t => (r = true ∧ I (i + 1) t) ∨ (r = false ∧ Bad t)) (fun e t => R0 (.error e) t) s)
    (fin : ∀ s, I (min xs.size ys.size) s → R0 (.ok (.ret (.bool (xs.size == ys.size)))) s) (bad : ∀ s, Bad s → R0 (.ok (.ret (.bool false))) s) {s : Shared} (hl1 : s.heap.get? l = some { cls := .type "tuple", dict := dd, data := .seq xs n, slots := sl }) (hb1 : s.heap.get? b = some { cls := .type "tuple", dict := dd2, data := .seq ys m, slots := sl2 }) (h : I 0 s) :
    wpAny (model prog w) A.in1 (Builtin.«tuple.__eq__» ⟨[.ref l, .ref b], []⟩) (GQ.FinOf prog w A R0) (fun e t => R0 (.error e) t) s := by
  have f2 := AutoSeq1.sub_tuple_tuple
  have hZ : (xs.toList.zip ys.toList).length = min xs.size ys.size := by simp
  have h0 := h
  obtain ⟨hp, g, d, tk, os⟩ := s
  wp_walk using wpAny_loadPart' hl1, wpAny_loadPart' hb1, wpAny_forIn_list _ (fun rest b s' => (b.1 = none ∧ ∃ i, rest = (xs.toList.zip ys.toList).drop i ∧ i ≤ min xs.size ys.size ∧ I i s')) _
  case turn =>
    rintro ⟨y, x⟩ rest b s' ⟨hb', i, hz, hi, hI⟩
    have hlt : i < (xs.toList.zip ys.toList).length := by
      rcases Nat.lt_or_ge i (xs.toList.zip ys.toList).length with h' | h'
      · exact h'
      · rw [List.drop_of_length_le h'] at hz; cases hz
    have h1 : i < xs.size := by omega
    have h2 : i < ys.size := by omega
    rw [List.drop_eq_getElem_cons hlt] at hz
    injection hz with hyx hrest
    have ey : y = xs[i] := by have := congrArg Prod.fst hyx; simpa using this
    have ex : x = ys[i] := by have := congrArg Prod.snd hyx; simpa using this
    subst ey ex
    refine wpAny_bind (wpAny_mono (turn i h1 h2 s' hI) (fun r s2 q2 => ?_) fun _ _ x => x)
    rcases q2 with ⟨rfl, q2⟩ | ⟨rfl, q2⟩
    · wp_walk
      exact ⟨rfl, i + 1, hrest, by omega, q2⟩
    · have hR := bad s2 q2
      wp_walk
      exact hR
  case fin =>
    rintro ⟨b1, b2⟩ s' ⟨hb', i, hz, hi, hI⟩
    simp only at hb'
    subst hb'
    have hge : min xs.size ys.size ≤ i := by
      rcases Nat.lt_or_ge i (xs.toList.zip ys.toList).length with h' | h'
      · rw [List.drop_eq_getElem_cons h'] at hz; cases hz
      · exact hZ ▸ h'
    have ei : i = min xs.size ys.size := by omega
    have hR := fin s' (ei ▸ hI)
    wp_walk
    simpa [Builtin.Tuple.tupleCompareSizes] using hR
  case h =>
    exact ⟨rfl, 0, rfl, Nat.zero_le _, h0⟩
theorem loopN (l b : Addr) (N : Nat) (I : Nat → Shared → Prop) (Bad : Shared → Prop) (hl : TwoL prog w A (fun e t => R0 (.error e) t) l b N I Bad) (fin : ∀ s, I N s → R0 (.ok (.ret (.bool false))) s) (bad : ∀ s, Bad s → R0 (.ok (.ret (.bool true))) s) (k : Nat) :
    ∀ i : Nat, N - i = k → i ≤ N → ∀ s, I i s → wpAny (model prog w) A.in1 (Builtin.«list.__eq__.loop» ⟨[.ref l, .ref b, rawInt i, rawInt 3], []⟩) (GQ.FinOf prog w A R0) (fun e t => R0 (.error e) t) s := by
  induction k with
  | zero =>
    intro i hk hi s h
    obtain ⟨xs, ys, n, m, hl1, hb1, hs1, hs2, _⟩ := hl _ _ h
    have ei : i = N := by omega
    have hR : R0 (.ok (.ret (.bool false))) s := fin s (ei ▸ h)
    obtain ⟨hp, g, d, tk, os⟩ := s
    wp_walk using wpAny_loadPart' hl1, wpAny_loadPart' hb1
    have hx : xs[((i : Nat) : Int).toNat]? = none := by simp; omega
    have hy : ys[((i : Nat) : Int).toNat]? = none := by simp; omega
    rw [hx, hy]
    wp_walk using wpAny_loadPart' hl1, wpAny_loadPart' hb1
    show R0 (.ok (.ret (.bool (xs.size != ys.size)))) _
    rw [hs1, hs2]
    simpa using hR
  | succ k ih =>
    intro i hk hi s h
    obtain ⟨xs, ys, n, m, hl1, hb1, hs1, hs2, turn⟩ := hl _ _ h
    have h1 : i < xs.size := by omega
    have h2 : i < ys.size := by omega
    have ht := turn h1 h2
    obtain ⟨hp, g, d, tk, os⟩ := s
    wp_walk using wpAny_loadPart' hl1, wpAny_loadPart' hb1
    have hx : xs[((i : Nat) : Int).toNat]? = some xs[i] := by simp [h1]
    have hy : ys[((i : Nat) : Int).toNat]? = some ys[i] := by simp [h2]
    have ec : ((i : Int) + 1) = ((i + 1 : Nat) : Int) := by omega
    rw [hx, hy]
    refine wpAny_bind (wpAny_mono ht (fun r t q => ?_) fun _ _ x => x)
    rcases q with ⟨rfl, q⟩ | ⟨rfl, zs, us, n', m', hl2, hb2, hz, hu, q⟩
    · have hrec := ih (i + 1) (by omega) (by omega) t q
      obtain ⟨hp2, g2, d2, tk2, os2⟩ := t
      wp_walk
      rw [ec]
      exact ⟨plainId_quiet plain_eq_loop _, codeAny_builtin entry_eq_loop (by
        rw [Around.under_plainId plain_eq_loop _]; exact hrec)⟩
    · have hR := bad t q
      obtain ⟨hp2, g2, d2, tk2, os2⟩ := t
      have hx2 : zs[((i : Nat) : Int).toNat]? = some (zs[i]'(by omega)) := by simp
      have hy2 : us[((i : Nat) : Int).toNat]? = some (us[i]'(by omega)) := by simp
      wp_walk using wpAny_loadPart' hl2, wpAny_loadPart' hb2
      rw [hx2, hy2]
      wp_walk using wpAny_loadPart' hl2, wpAny_loadPart' hb2
      exact hR
theorem listN (l b : Addr) (N : Nat) (I : Nat → Shared → Prop) (Bad : Shared → Prop) (hl : TwoL prog w A (fun e t => R0 (.error e) t) l b N I Bad) (fin : ∀ s, I N s → R0 (.ok (.ret (.bool false))) s) (bad : ∀ s, Bad s → R0 (.ok (.ret (.bool true))) s) {s : Shared} (h : I 0 s) :
    wpAny (model prog w) A.in1 (Builtin.«list.__ne__» ⟨[.ref l, .ref b], []⟩) (GQ.FinOf prog w A R0) (fun e t => R0 (.error e) t) s := by
  obtain ⟨xs, ys, n, m, hl1, hb1, hs1, hs2, _⟩ := hl _ _ h
  have hrec := loopN (A := A) (R0 := R0) l b N I Bad hl fin bad _ 0 rfl (Nat.zero_le _) s h
  obtain ⟨hp, g, d, tk, os⟩ := s
  have f3 := AutoSeq1.sub_list_list
  have hne : ¬ (xs.size != ys.size) = true := by simp [hs1, hs2]
  wp_walk using wpAny_loadPart' hl1, wpAny_loadPart' hb1
  exact ⟨plainId_quiet plain_eq_loop _, codeAny_builtin entry_eq_loop (by
    rw [Around.under_plainId plain_eq_loop _]; exact hrec)⟩
theorem listNN (l b : Addr) (xs ys : Array Value) (n m : Nat) (hne : xs.size ≠ ys.size) {s : Shared} (hl1 : s.heap.get? l = some { cls := .type "list", data := .seq xs n }) (hb1 : s.heap.get? b = some { cls := .type "list", data := .seq ys m }) (hR : R0 (.ok (.ret (.bool true))) s) :
    wpAny (model prog w) A.in1 (Builtin.«list.__ne__» ⟨[.ref l, .ref b], []⟩) (GQ.FinOf prog w A R0) (fun e t => R0 (.error e) t) s := by
  obtain ⟨hp, g, d, tk, os⟩ := s
  have f3 := AutoSeq1.sub_list_list
  have hne' : (xs.size != ys.size) = true := by simpa using hne
  wp_walk using wpAny_loadPart' hl1, wpAny_loadPart' hb1
  exact hR
/-- tuples of any lengths -/
theorem tupN (l b : Addr) (xs ys : Array Value) (n m : Nat) (dd dd2 : Option Addr) (sl sl2 : Array (Option Value)) (I : Nat → Shared → Prop) (Bad : Shared → Prop)
    (turn : ∀ i (h1 : i < xs.size) (h2 : i < ys.size) s, I i s → wpAny (model prog w) A.in1 (eqBool xs[i] ys[i]) (fun r t => (r = true ∧ I (i + 1) t) ∨ (r = false ∧ Bad t)) (fun e t => R0 (.error e) t) s)
    (fin : ∀ s, I (min xs.size ys.size) s → R0 (.ok (.ret (.bool (xs.size != ys.size)))) s) (bad : ∀ s, Bad s → R0 (.ok (.ret (.bool true))) s) {s : Shared} (hl1 : s.heap.get? l = some { cls := .type "tuple", dict := dd, data := .seq xs n, slots := sl }) (hb1 : s.heap.get? b = some { cls := .type "tuple", dict := dd2, data := .seq ys m, slots := sl2 }) (h : I 0 s) :
    wpAny (model prog w) A.in1 (Builtin.«tuple.__ne__» ⟨[.ref l, .ref b], []⟩) (GQ.FinOf prog w A R0) (fun e t => R0 (.error e) t) s := by
  have f2 := AutoSeq1.sub_tuple_tuple
  have hZ : (xs.toList.zip ys.toList).length = min xs.size ys.size := by simp
  have h0 := h
  obtain ⟨hp, g, d, tk, os⟩ := s
  wp_walk using wpAny_loadPart' hl1, wpAny_loadPart' hb1, wpAny_forIn_list _ (fun rest b s' => (b.1 = none ∧ ∃ i, rest = (xs.toList.zip ys.toList).drop i ∧ i ≤ min xs.size ys.size ∧ I i s')) _
  case turn =>
    rintro ⟨y, x⟩ rest b s' ⟨hb', i, hz, hi, hI⟩
    have hlt : i < (xs.toList.zip ys.toList).length := by
      rcases Nat.lt_or_ge i (xs.toList.zip ys.toList).length with h' | h'
      · exact h'
      · rw [List.drop_of_length_le h'] at hz; cases hz
    have h1 : i < xs.size := by omega
    have h2 : i < ys.size := by omega
    rw [List.drop_eq_getElem_cons hlt] at hz
    injection hz with hyx hrest
    have ey : y = xs[i] := by have := congrArg Prod.fst hyx; simpa using this
    have ex : x = ys[i] := by have := congrArg Prod.snd hyx; simpa using this
    subst ey ex
    refine wpAny_bind (wpAny_mono (turn i h1 h2 s' hI) (fun r s2 q2 => ?_) fun _ _ x => x)
    rcases q2 with ⟨rfl, q2⟩ | ⟨rfl, q2⟩
    · wp_walk
      exact ⟨rfl, i + 1, hrest, by omega, q2⟩
    · have hR := bad s2 q2
      wp_walk
      exact hR
  case fin =>
    rintro ⟨b1, b2⟩ s' ⟨hb', i, hz, hi, hI⟩
    simp only at hb'
    subst hb'
    have hge : min xs.size ys.size ≤ i := by
      rcases Nat.lt_or_ge i (xs.toList.zip ys.toList).length with h' | h'
      · rw [List.drop_eq_getElem_cons h'] at hz; cases hz
      · exact hZ ▸ h'
    have ei : i = min xs.size ys.size := by omega
    have hR := fin s' (ei ▸ hI)
    wp_walk
    simpa [Builtin.Tuple.tupleCompareSizes] using hR
  case h =>
    exact ⟨rfl, 0, rfl, Nat.zero_le _, h0⟩
end
section
open PySem PySem.SeqAt
variable {prog : Program} {w : World} {A : Around} {E : Value → Shared → Prop} {s : Shared}
theorem rcLE {l b : Addr} {N : Nat} {Q : Value → Shared → Prop} (hu : A.units < cLine) (I : Nat → Shared → Prop) (Bad : Shared → Prop) (hl : TwoL prog w A E l b N I Bad)
    (fin : ∀ s, I N s → Q (.bool true) s) (bad : ∀ s, Bad s → Q (.bool false) s) (h : I 0 s) : wpAny (model prog w) A (richCompare .Eq (.ref l) (.ref b)) Q E s := by
  obtain ⟨xs, ys, n, m, hl1, hb1, _, _, _⟩ := hl _ _ h
  refine wpAny_richCompare_same_room (op := .Eq) ⟨_, hl1, rfl⟩ ⟨_, hb1, rfl⟩ F.slot_list_eq (GQ.call_here F.slot_list_eq ⟨_, hl1, rfl⟩ F.entry_list_eq (F.args_list_eq_2 _ _) ?_) hu
  exact listE (R0 := wants (fun v s' => v ≠ .notImplemented ∧ Q v s') E) l b N I Bad hl (fun s' q => ⟨(fun x => nomatch x), fin s' q⟩) (fun s' q => ⟨(fun x => nomatch x), bad s' q⟩) h
theorem rcLNE {l b : Addr} {xs ys : Array Value} {n m : Nat} {Q : Value → Shared → Prop} (hu : A.units < cLine) (hne : xs.size ≠ ys.size) (hl1 : s.heap.get? l = some { cls := .type "list", data := .seq xs n }) (hb1 : s.heap.get? b = some { cls := .type "list", data := .seq ys m })
    (h : Q (.bool false) s) : wpAny (model prog w) A (richCompare .Eq (.ref l) (.ref b)) Q E s := by
  refine wpAny_richCompare_same_room (op := .Eq) ⟨_, hl1, rfl⟩ ⟨_, hb1, rfl⟩ F.slot_list_eq (GQ.call_here F.slot_list_eq ⟨_, hl1, rfl⟩ F.entry_list_eq (F.args_list_eq_2 _ _) ?_) hu
  exact listNE (R0 := wants (fun v s' => v ≠ .notImplemented ∧ Q v s') E) l b xs ys n m hne hl1 hb1 ⟨(fun x => nomatch x), h⟩
theorem rcTE {l b : Addr} {xs ys : Array Value} {Q : Value → Shared → Prop} (hu : A.units < cLine) (I : Nat → Shared → Prop) (Bad : Shared → Prop) (hl : s.heap.IsTuple l xs) (hb : s.heap.IsTuple b ys)
    (turn : ∀ i (h1 : i < xs.size) (h2 : i < ys.size) s, I i s → wpAny (model prog w) A.in1 (eqBool xs[i] ys[i]) (fun r t => (r = true ∧ I (i + 1) t) ∨ (r = false ∧ Bad t)) E s)
    (fin : ∀ s, I (min xs.size ys.size) s → Q (.bool (xs.size == ys.size)) s) (bad : ∀ s, Bad s → Q (.bool false) s) (h : I 0 s) : wpAny (model prog w) A (richCompare .Eq (.ref l) (.ref b)) Q E s := by
  obtain ⟨⟨c1, d1, e1, s1⟩, ho, hc, n, hd⟩ := id hl
  obtain ⟨⟨c2, d2, e2, s2⟩, ho2, hc2, n2, hd2⟩ := id hb
  simp only at hc hd hc2 hd2
  subst hc hd hc2 hd2
  refine wpAny_richCompare_same_room (op := .Eq) ⟨_, ho, rfl⟩ ⟨_, ho2, rfl⟩ F.slot_tuple_eq (GQ.call_here F.slot_tuple_eq ⟨_, ho, rfl⟩ F.entry_tuple_eq (F.args_tuple_eq_2 _ _) ?_) hu
  exact tupE (R0 := wants (fun v s' => v ≠ .notImplemented ∧ Q v s') E) l b xs ys n n2 d1 d2 s1 s2 I Bad turn (fun s' q => ⟨(fun x => nomatch x), fin s' q⟩) (fun s' q => ⟨(fun x => nomatch x), bad s' q⟩) ho ho2 h
theorem rcLN {l b : Addr} {N : Nat} {Q : Value → Shared → Prop} (hu : A.units < cLine) (I : Nat → Shared → Prop) (Bad : Shared → Prop) (hl : TwoL prog w A E l b N I Bad)
    (fin : ∀ s, I N s → Q (.bool false) s) (bad : ∀ s, Bad s → Q (.bool true) s) (h : I 0 s) : wpAny (model prog w) A (richCompare .NotEq (.ref l) (.ref b)) Q E s := by
  obtain ⟨xs, ys, n, m, hl1, hb1, _, _, _⟩ := hl _ _ h
  refine wpAny_richCompare_same_room (op := .NotEq) ⟨_, hl1, rfl⟩ ⟨_, hb1, rfl⟩ F.slot_list_ne (GQ.call_here F.slot_list_ne ⟨_, hl1, rfl⟩ F.entry_list_ne (F.args_list_ne_2 _ _) ?_) hu
  exact listN (R0 := wants (fun v s' => v ≠ .notImplemented ∧ Q v s') E) l b N I Bad hl (fun s' q => ⟨(fun x => nomatch x), fin s' q⟩) (fun s' q => ⟨(fun x => nomatch x), bad s' q⟩) h
theorem rcLNN {l b : Addr} {xs ys : Array Value} {n m : Nat} {Q : Value → Shared → Prop} (hu : A.units < cLine) (hne : xs.size ≠ ys.size) (hl1 : s.heap.get? l = some { cls := .type "list", data := .seq xs n }) (hb1 : s.heap.get? b = some { cls := .type "list", data := .seq ys m })
    (h : Q (.bool true) s) : wpAny (model prog w) A (richCompare .NotEq (.ref l) (.ref b)) Q E s := by
  refine wpAny_richCompare_same_room (op := .NotEq) ⟨_, hl1, rfl⟩ ⟨_, hb1, rfl⟩ F.slot_list_ne (GQ.call_here F.slot_list_ne ⟨_, hl1, rfl⟩ F.entry_list_ne (F.args_list_ne_2 _ _) ?_) hu
  exact listNN (R0 := wants (fun v s' => v ≠ .notImplemented ∧ Q v s') E) l b xs ys n m hne hl1 hb1 ⟨(fun x => nomatch x), h⟩
theorem rcTN {l b : Addr} {xs ys : Array Value} {Q : Value → Shared → Prop} (hu : A.units < cLine) (I : Nat → Shared → Prop) (Bad : Shared → Prop) (hl : s.heap.IsTuple l xs) (hb : s.heap.IsTuple b ys)
    (turn : ∀ i (h1 : i < xs.size) (h2 : i < ys.size) s, I i s → wpAny (model prog w) A.in1 (eqBool xs[i] ys[i]) (fun r t => (r = true ∧ I (i + 1) t) ∨ (r = false ∧ Bad t)) E s)
    (fin : ∀ s, I (min xs.size ys.size) s → Q (.bool (xs.size != ys.size)) s) (bad : ∀ s, Bad s → Q (.bool true) s) (h : I 0 s) : wpAny (model prog w) A (richCompare .NotEq (.ref l) (.ref b)) Q E s := by
  obtain ⟨⟨c1, d1, e1, s1⟩, ho, hc, n, hd⟩ := id hl
  obtain ⟨⟨c2, d2, e2, s2⟩, ho2, hc2, n2, hd2⟩ := id hb
  simp only at hc hd hc2 hd2
  subst hc hd hc2 hd2
  refine wpAny_richCompare_same_room (op := .NotEq) ⟨_, ho, rfl⟩ ⟨_, ho2, rfl⟩ F.slot_tuple_ne (GQ.call_here F.slot_tuple_ne ⟨_, ho, rfl⟩ F.entry_tuple_ne (F.args_tuple_ne_2 _ _) ?_) hu
  exact tupN (R0 := wants (fun v s' => v ≠ .notImplemented ∧ Q v s') E) l b xs ys n n2 d1 d2 s1 s2 I Bad turn (fun s' q => ⟨(fun x => nomatch x), fin s' q⟩) (fun s' q => ⟨(fun x => nomatch x), bad s' q⟩) ho ho2 h
end
end R

/-! R10: == and != of trees in which shares may stand -/
namespace R
open PySem L2
open PySem.W (Looks)

/-! ### by trees -/
def toS : PV → Option V
  | .non => some .non
  | .bl b => some (.bl b)
  | .int i => some (.int i)
  | .str s => some (.str s)
  | _ => none
def eqS (x y : PV) : Option Bool := match toS x, toS y with
  | some a, some b => some (eqV a b)
  | _, _ => none
/-- two shares: class 0, top and bottom -/
def eqO : List PV → List PV → Option Bool
  | [.int a, .int b], [.int c, .int d] => some (decide (a = c) && decide (b = d))
  | _, _ => none
def eqT (f : PV → PV → Option Bool) : List PV → List PV → Option Bool
  | [], [] => some true
  | [], _ :: _ => some false
  | _ :: _, [] => some false
  | x :: xs, y :: ys => match f x y with
    | some true => eqT f xs ys
    | some false => some false
    | none => none
def eqv : Nat → PV → PV → Option Bool
  | 0, x, y => eqS x y
  | n + 1, x, y => match x, y with
    | .tup xs, .tup ys => eqT (eqv n) xs ys
    | .lst xs, .lst ys => if xs.length = ys.length then eqT (eqv n) xs ys else some false
    | .obj c xs, .obj d ys => if c = 0 ∧ d = 0 then eqO xs ys else none
    | x, y => eqS x y
abbrev ice0 (H : Hp) : Wd := ⟨H, []⟩
theorem toS_ok {Γ : Cfg} {w : Wd} {x : PV} {v a : V} (r : Rep Γ w x v) (e : toS x = some a) : v = a ∧ flatV a = true := by
  cases x with
  | non =>
    cases e
    exact ⟨r, rfl⟩
  | bl b =>
    cases e
    exact ⟨r, rfl⟩
  | int i =>
    cases e
    exact ⟨r, rfl⟩
  | str s =>
    cases e
    exact ⟨r, rfl⟩
  | _ => cases e
def EqB (X : Cx) (Γ : Cfg) (n : Nat) (f : PV → PV → Option Bool) : Prop := ∀ (A : Around) (pins : List (Addr × Obj)) (s : Shared) (σ : St) (H : Hp) (x y : PV) (b : Bool) (vx vy : V) (u v : Value), Sub X n A → Inv X pins σ H s → Rep Γ (ice0 H) x vx → Rep Γ (ice0 H) y vy → f x y = some b → RelV vx u → RelV vy v →
  wpAny (model X.prog X.w) A (eqBool u v) (fun r s' => r = b ∧ ∃ H', Inv X pins σ H' s' ∧ Ext H H') X.xe s
def RcB (X : Cx) (Γ : Cfg) (op : CmpOp) (n : Nat) (f : PV → PV → Option Bool) : Prop := ∀ (A : Around) (pins : List (Addr × Obj)) (s : Shared) (σ : St) (H : Hp) (x y : PV) (b : Bool) (vx vy : V) (u v : Value), Sub X n A → Inv X pins σ H s → Rep Γ (ice0 H) x vx → Rep Γ (ice0 H) y vy → f x y = some b → RelV vx u → RelV vy v →
  wpAny (model X.prog X.w) A (richCompare op u v) (fun r s' => r = .bool b ∧ ∃ H', Inv X pins σ H' s' ∧ Ext H H') X.xe s
theorem ice_le {H H' : Hp} (e : Ext H H') : (ice0 H).le (ice0 H') := ⟨e, List.prefix_refl _⟩
section
variable {X : Cx} {Γ : Cfg} {n : Nat}
theorem EqB.mono {m : Nat} {f : PV → PV → Option Bool} (h : EqB X Γ n f) (l : n ≤ m) : EqB X Γ m f := fun A pins s σ H x y b vx vy u v sb => h A pins s σ H x y b vx vy u v (sb.mono l)
theorem eqB_S : EqB X Γ 0 eqS := fun A pins s σ H x y b vx vy u v sb I rx ry e ru rv => by
  unfold eqS at e
  cases e1 : toS x with
  | none =>
    rw [e1] at e
    cases e
  | some a =>
    cases e2 : toS y with
    | none =>
      rw [e1, e2] at e
      cases e
    | some c =>
      rw [e1, e2] at e
      cases e
      obtain ⟨rfl, f1⟩ := toS_ok rx e1
      obtain ⟨rfl, f2⟩ := toS_ok ry e2
      exact eqAt_V (A := A) (s := s) ru rv f1 f2 X.prog X.w X.xe _ ⟨rfl, H, I, Ext.rfl'⟩
/-- what the loop keeps -/
def Lp (X : Cx) (pins : List (Addr × Obj)) (σ : St) (H : Hp) (s' : Shared) : Prop := ∃ H', Inv X pins σ H' s' ∧ Ext H H'
theorem eqT_at {f : PV → PV → Option Bool} {b : Bool} : ∀ {xs ys : List PV} {i : Nat}, eqT f (xs.drop i) (ys.drop i) = some b → (h1 : i < xs.length) → (h2 : i < ys.length) → (f xs[i] ys[i] = some true ∧ eqT f (xs.drop (i + 1)) (ys.drop (i + 1)) = some b) ∨ (f xs[i] ys[i] = some false ∧ b = false) := fun {xs ys i} e h1 h2 => by
  rw [List.drop_eq_getElem_cons h1, List.drop_eq_getElem_cons h2] at e
  unfold eqT at e
  split at e
  · rename_i q
    exact .inl ⟨q, e⟩
  · rename_i q
    cases e
    exact .inr ⟨q, rfl⟩
  · cases e
theorem eqT_end {f : PV → PV → Option Bool} {b : Bool} {xs ys : List PV} (e : eqT f (xs.drop (min xs.length ys.length)) (ys.drop (min xs.length ys.length)) = some b) : b = decide (xs.length = ys.length) := by
  rcases Nat.lt_trichotomy xs.length ys.length with h | h | h
  · rw [Nat.min_eq_left (by omega), List.drop_eq_nil_of_le (Nat.le_refl _), List.drop_eq_getElem_cons h] at e
    cases e
    exact (decide_eq_false (by omega)).symm
  · rw [h, Nat.min_self, ← h, List.drop_eq_nil_of_le (Nat.le_refl _), h, List.drop_eq_nil_of_le (Nat.le_refl _)] at e
    cases e
    exact (decide_eq_true h).symm
  · rw [Nat.min_eq_right (by omega), List.drop_eq_nil_of_le (Nat.le_refl ys.length), List.drop_eq_getElem_cons h] at e
    cases e
    exact (decide_eq_false (by omega)).symm
/-- one turn -/
theorem turnB {f : PV → PV → Option Bool} (h : EqB X Γ n f) {A : Around} (sb : Sub X (n + 1) A) {pins : List (Addr × Obj)} {σ : St} {H : Hp} {xs ys : List PV} {vs us : List V} {its its2 : List Value} {b : Bool} (rx : Reps Γ (ice0 H) xs vs) (ry : Reps Γ (ice0 H) ys us) (r : Vals vs its) (r2 : Vals us its2)
    (i : Nat) (h1 : i < its.toArray.size) (h2 : i < its2.toArray.size) (s' : Shared) (l : Lp X pins σ H s') (e : eqT f (xs.drop i) (ys.drop i) = some b) :
    wpAny (model X.prog X.w) A.in1 (eqBool its.toArray[i] its2.toArray[i]) (fun r s2 => (r = true ∧ Lp X pins σ H s2 ∧ eqT f (xs.drop (i + 1)) (ys.drop (i + 1)) = some b) ∨ (r = false ∧ Lp X pins σ H s2 ∧ b = false)) X.xe s' := by
  obtain ⟨H1, I1, e1⟩ := l
  have k1 : i < its.length := by simpa using h1
  have k2 : i < its2.length := by simpa using h2
  have x1 : i < xs.length := by rw [rx.length, r.length]; exact k1
  have x2 : i < ys.length := by rw [ry.length, r2.length]; exact k2
  obtain ⟨v, ev, rv⟩ := rx.get (List.getElem?_eq_getElem x1)
  obtain ⟨u, eu, ru⟩ := ry.get (List.getElem?_eq_getElem x2)
  obtain ⟨v', ev', rv'⟩ := r.get ev
  obtain ⟨u', eu', ru'⟩ := r2.get eu
  have g1 : v' = its.toArray[i] := by
    rw [List.getElem?_eq_getElem k1] at ev'
    rw [← Option.some.inj ev']
    simp
  have g2 : u' = its2.toArray[i] := by
    rw [List.getElem?_eq_getElem k2] at eu'
    rw [← Option.some.inj eu']
    simp
  rw [← g1, ← g2]
  rcases eqT_at e x1 x2 with ⟨q, q'⟩ | ⟨q, q'⟩
  · refine wpAny_mono (h A.in1 pins s' σ H1 xs[i] ys[i] true v u v' u' sb.in1 I1 (rv.mono (ice_le e1)) (ru.mono (ice_le e1)) q rv' ru') (fun r s2 z => ?_) fun _ _ x => x
    obtain ⟨rfl, H2, I2, e2⟩ := z
    exact .inl ⟨rfl, ⟨H2, I2, e1.trans e2⟩, q'⟩
  · refine wpAny_mono (h A.in1 pins s' σ H1 xs[i] ys[i] false v u v' u' sb.in1 I1 (rv.mono (ice_le e1)) (ru.mono (ice_le e1)) q rv' ru') (fun r s2 z => ?_) fun _ _ x => x
    obtain ⟨rfl, H2, I2, e2⟩ := z
    exact .inr ⟨rfl, ⟨H2, I2, e1.trans e2⟩, q'⟩
def neg (op : CmpOp) (b : Bool) : Bool := match op with
  | .NotEq => !b
  | _ => b
/-- two tuples -/
def fT (op : CmpOp) (f : PV → PV → Option Bool) : PV → PV → Option Bool
  | .tup xs, .tup ys => (eqT f xs ys).map (neg op)
  | _, _ => none
def fL (op : CmpOp) (f : PV → PV → Option Bool) : PV → PV → Option Bool
  | .lst xs, .lst ys => if xs.length = ys.length then (eqT f xs ys).map (neg op) else some (neg op false)
  | _, _ => none
theorem rcB_T {f : PV → PV → Option Bool} (hK : X.K = Γ.K) (h : EqB X Γ n f) : RcB X Γ .Eq (n + 1) (fT .Eq f) ∧ RcB X Γ .NotEq (n + 1) (fT .NotEq f) := by
  have main : ∀ (A : Around) (pins : List (Addr × Obj)) (s : Shared) (σ : St) (H : Hp) (xs ys : List PV) (b : Bool) (vx vy : V) (u v : Value), Sub X (n + 1) A → Inv X pins σ H s → Rep Γ (ice0 H) (.tup xs) vx → Rep Γ (ice0 H) (.tup ys) vy → eqT f xs ys = some b → RelV vx u → RelV vy v →
      wpAny (model X.prog X.w) A (richCompare .Eq u v) (fun r s' => r = .bool b ∧ Lp X pins σ H s') X.xe s ∧ wpAny (model X.prog X.w) A (richCompare .NotEq u v) (fun r s' => r = .bool (!b) ∧ Lp X pins σ H s') X.xe s := by
    intro A pins s σ H xs ys b vx vy u v sb I rx ry e ru rv
    obtain ⟨a1, vs, rfl, q1, r1⟩ := rx
    obtain ⟨a2, us, rfl, q2, r2⟩ := ry
    cases ru
    cases rv
    obtain ⟨its, t1, p1, z1⟩ := I.tuple (hK ▸ q1)
    obtain ⟨its2, t2, p2, z2⟩ := I.tuple (hK ▸ q2)
    have l1 : its.toArray.size = xs.length := by rw [List.size_toArray, r1.length, t1.length]
    have l2 : its2.toArray.size = ys.length := by rw [List.size_toArray, r2.length, t2.length]
    have start : Lp X pins σ H s ∧ eqT f (xs.drop 0) (ys.drop 0) = some b := ⟨⟨H, I, Ext.rfl'⟩, e⟩
    constructor
    · refine rcTE sb.room.units0 (fun i s' => Lp X pins σ H s' ∧ eqT f (xs.drop i) (ys.drop i) = some b) (fun s' => Lp X pins σ H s' ∧ b = false) p1 p2 (fun i h1 h2 s' q => turnB h sb r1 r2 t1 t2 i h1 h2 s' q.1 q.2) (fun s' q => ?_) (fun s' q => ⟨by rw [q.2], q.1⟩) start
      rw [l1, l2] at q ⊢
      rw [eqT_end q.2]
      exact ⟨rfl, q.1⟩
    · refine rcTN sb.room.units0 (fun i s' => Lp X pins σ H s' ∧ eqT f (xs.drop i) (ys.drop i) = some b) (fun s' => Lp X pins σ H s' ∧ b = false) p1 p2 (fun i h1 h2 s' q => turnB h sb r1 r2 t1 t2 i h1 h2 s' q.1 q.2) (fun s' q => ?_) (fun s' q => ⟨by rw [q.2]; rfl, q.1⟩) start
      rw [l1, l2] at q ⊢
      rw [eqT_end q.2]
      exact ⟨rfl, q.1⟩
  constructor
  · intro A pins s σ H x y b vx vy u v sb I rx ry e ru rv
    unfold fT at e
    split at e
    · rename_i xs ys
      cases e2 : eqT f xs ys with
      | none =>
        rw [e2] at e
        cases e
      | some c =>
        rw [e2] at e
        cases e
        exact (main A pins s σ H xs ys c vx vy u v sb I rx ry e2 ru rv).1
    · cases e
  · intro A pins s σ H x y b vx vy u v sb I rx ry e ru rv
    unfold fT at e
    split at e
    · rename_i xs ys
      cases e2 : eqT f xs ys with
      | none =>
        rw [e2] at e
        cases e
      | some c =>
        rw [e2] at e
        cases e
        exact (main A pins s σ H xs ys c vx vy u v sb I rx ry e2 ru rv).2
    · cases e
theorem rcB_L {f : PV → PV → Option Bool} (h : EqB X Γ n f) : RcB X Γ .Eq (n + 1) (fL .Eq f) ∧ RcB X Γ .NotEq (n + 1) (fL .NotEq f) := by
  have main : ∀ (A : Around) (pins : List (Addr × Obj)) (s : Shared) (σ : St) (H : Hp) (xs ys : List PV) (b : Bool) (vx vy : V) (u v : Value), Sub X (n + 1) A → Inv X pins σ H s → Rep Γ (ice0 H) (.lst xs) vx → Rep Γ (ice0 H) (.lst ys) vy → (if xs.length = ys.length then eqT f xs ys else some false) = some b → RelV vx u → RelV vy v →
      wpAny (model X.prog X.w) A (richCompare .Eq u v) (fun r s' => r = .bool b ∧ Lp X pins σ H s') X.xe s ∧ wpAny (model X.prog X.w) A (richCompare .NotEq u v) (fun r s' => r = .bool (!b) ∧ Lp X pins σ H s') X.xe s := by
    intro A pins s σ H xs ys b vx vy u v sb I rx ry e ru rv
    obtain ⟨a1, vs, rfl, q1, r1⟩ := rx
    obtain ⟨a2, us, rfl, q2, r2⟩ := ry
    cases ru
    cases rv
    by_cases hl : xs.length = ys.length
    · rw [if_pos hl] at e
      have two : ∀ (s' : Shared), Lp X pins σ H s' → ∃ (zs ts : Array Value) (n m : Nat), s'.heap.get? a1 = some { cls := .type "list", data := .seq zs n } ∧ s'.heap.get? a2 = some { cls := .type "list", data := .seq ts m } ∧ zs.size = xs.length ∧ ts.size = xs.length ∧ Vals vs zs.toList ∧ Vals us ts.toList := fun s' ⟨H1, I1, e1⟩ => by
        obtain ⟨_, its, k, t1, g1⟩ := I1.hok a1 _ (e1 _ _ q1)
        obtain ⟨_, its2, k2, t2, g2⟩ := I1.hok a2 _ (e1 _ _ q2)
        exact ⟨its.toArray, its2.toArray, k, k2, g1, g2, by rw [List.size_toArray, r1.length, t1.length], by rw [List.size_toArray, hl, r2.length, t2.length], by simpa using t1, by simpa using t2⟩
      have turns : TwoL X.prog X.w A X.xe a1 a2 xs.length (fun i s' => Lp X pins σ H s' ∧ eqT f (xs.drop i) (ys.drop i) = some b) (fun s' => Lp X pins σ H s' ∧ b = false) := fun i s' q => by
        obtain ⟨zs, ts, k, k2, g1, g2, n1, n2, t1, t2⟩ := two s' q.1
        refine ⟨zs, ts, k, k2, g1, g2, n1, n2, fun h1 h2 => ?_⟩
        refine wpAny_mono (turnB h sb r1 r2 t1 t2 i (by simpa using h1) (by simpa using h2) s' q.1 q.2) (fun r s2 z => ?_) fun _ _ x => x
        rcases z with ⟨rfl, l, q'⟩ | ⟨rfl, l, q'⟩
        · exact .inl ⟨rfl, l, q'⟩
        · obtain ⟨zs', ts', k', k2', g1', g2', n1', n2', _, _⟩ := two s2 l
          exact .inr ⟨rfl, zs', ts', k', k2', g1', g2', n1', n2', l, q'⟩
      have fin : ∀ s', Lp X pins σ H s' ∧ eqT f (xs.drop xs.length) (ys.drop xs.length) = some b → b = true := fun s' q => by
        have q2 := q.2
        rw [List.drop_eq_nil_of_le (Nat.le_refl _), List.drop_eq_nil_of_le (by omega)] at q2
        cases q2
        rfl
      constructor
      · exact rcLE sb.room.units0 _ _ turns (fun s' q => ⟨by rw [fin s' q], q.1⟩) (fun s' q => ⟨by rw [q.2], q.1⟩) ⟨⟨H, I, Ext.rfl'⟩, e⟩
      · exact rcLN sb.room.units0 _ _ turns (fun s' q => ⟨by rw [fin s' q]; rfl, q.1⟩) (fun s' q => ⟨by rw [q.2]; rfl, q.1⟩) ⟨⟨H, I, Ext.rfl'⟩, e⟩
    · rw [if_neg hl] at e
      cases e
      obtain ⟨_, its, k, t1, g1⟩ := I.hok a1 _ q1
      obtain ⟨_, its2, k2, t2, g2⟩ := I.hok a2 _ q2
      have ne : its.toArray.size ≠ its2.toArray.size := by
        rw [List.size_toArray, List.size_toArray, ← t1.length, ← t2.length, ← r1.length, ← r2.length]
        exact hl
      exact ⟨rcLNE sb.room.units0 ne g1 g2 ⟨rfl, H, I, Ext.rfl'⟩, rcLNN sb.room.units0 ne g1 g2 ⟨rfl, H, I, Ext.rfl'⟩⟩
  constructor
  · intro A pins s σ H x y b vx vy u v sb I rx ry e ru rv
    unfold fL at e
    split at e
    · rename_i xs ys
      refine (main A pins s σ H xs ys b vx vy u v sb I rx ry ?_ ru rv).1
      split at e
      · rename_i hl
        rw [if_pos hl]
        cases e2 : eqT f xs ys with
        | none =>
          rw [e2] at e
          cases e
        | some c =>
          rw [e2] at e
          exact e
      · rename_i hl
        rw [if_neg hl]
        exact e
    · cases e
  · intro A pins s σ H x y b vx vy u v sb I rx ry e ru rv
    unfold fL at e
    split at e
    · rename_i xs ys
      have q := fun c hc => (main A pins s σ H xs ys c vx vy u v sb I rx ry hc ru rv).2
      split at e
      · rename_i hl
        cases e2 : eqT f xs ys with
        | none =>
          rw [e2] at e
          cases e
        | some c =>
          rw [e2] at e
          cases e
          exact q c (by rw [if_pos hl]; exact e2)
      · rename_i hl
        cases e
        exact q false (by rw [if_neg hl])
    · cases e
/-! ### instances with an own == -/
/-- what has a type of its own that is not a class of the text -/
def plainV : PV → Bool
  | .non => true
  | .bl _ => true
  | .int _ => true
  | .str _ => true
  | .tup _ => true
  | .lst _ => true
  | _ => false
/-- an instance of class c and something else, by the own ==: q says what of two such instances -/
def fO (c : Nat) (q : List PV → List PV → Option Bool) : PV → PV → Option Bool := fun x y => match x with
  | .obj d xs => if d = c then match y with
      | .obj e ys => if e = c then q xs ys else none
      | y => if plainV y = true then some false else none
    else none
  | _ => none
theorem ins_ty {pins : List (Addr × Obj)} {σ : St} {s : Shared} {H : Hp} {a C dx : Addr} {fs : List (Str × V)} (I : Inv X pins σ H s) (h : H a = some (.ins C dx fs)) : ∃ od : Obj, PySem.W.InstAt s.heap a (PySem.W.instObj C dx) C (some od) := by
  obtain ⟨mA, J, _⟩ := ins_get I.hok h
  obtain ⟨od, J, _⟩ := J.look
  exact ⟨od, J⟩
/-- what the own == is known to do -/
structure EqF (X : Cx) (Γ : Cfg) (k c : Nat) (q : List PV → List PV → Option Bool) : Prop where
  ok : ∃ (f : Addr) (fd : FuncData) (ps : List Str) (g : FnM), FnOk X.prog X.w X.K X.mg X.base (L2.CX X.prog X.w) k f fd ps (spM Γ 2 g) ∧ PySem.W.findIn X.K (.ref (Γ.cls c)) "__eq__" = some (some (.ref f)) ∧ PySem.W.isFn X.K (.ref f) = true ∧ Binds X.K fd ps [] ∧
    ∀ x y b p, fO c q x y = some b → g [x, y] p = .ok (.bl b) p
  ne : PySem.W.findIn X.K (.ref (Γ.cls c)) "__ne__" = some (some (.builtin "object.__ne__"))
  om : PySem.W.mroIn X.K (Γ.cls c) (.type "object") = some true
  nf : ∀ T, T ∈ (["NoneType", "bool", "int", "str", "tuple", "list"] : List String) → PySem.W.notFirst X.K (Γ.cls c) (.type T) = true
  fn : ∀ T, T ∈ (["NoneType", "bool", "int", "str", "tuple", "list"] : List String) → PySem.W.subIn X.K (.ref (Γ.cls c)) (.type T) = some false
theorem plain_ty {pins : List (Addr × Obj)} {σ : St} {s : Shared} {H : Hp} (hK : X.K = Γ.K) (I : Inv X pins σ H s) {y : PV} {vy : V} {v : Value} (hp : plainV y = true) (ry : Rep Γ (ice0 H) y vy) (rv : RelV vy v) : ∃ T, T ∈ (["NoneType", "bool", "int", "str", "tuple", "list"] : List String) ∧ s.TypeIs v T := by
  cases y with
  | non =>
    cases ry
    cases rv
    exact ⟨"NoneType", by decide, rfl⟩
  | bl b =>
    cases ry
    cases rv
    exact ⟨"bool", by decide, rfl⟩
  | int i =>
    cases ry
    obtain ⟨t, rfl⟩ := rv
    exact ⟨"int", by decide, rfl⟩
  | str i =>
    cases ry
    obtain ⟨t, rfl⟩ := rv
    exact ⟨"str", by decide, rfl⟩
  | tup xs =>
    obtain ⟨a, vs, rfl, q, _⟩ := ry
    cases rv
    obtain ⟨its, t1, p1, z1⟩ := I.tuple (hK ▸ q)
    obtain ⟨o, ho, hc, n, hd⟩ := p1
    exact ⟨"tuple", by decide, o, ho, hc⟩
  | lst xs =>
    obtain ⟨a, vs, rfl, q, _⟩ := ry
    cases rv
    obtain ⟨_, its, k, t1, g1⟩ := I.hok a _ q
    exact ⟨"list", by decide, _, g1, rfl⟩
  | _ => cases hp
theorem looks_typeIs {M : Model} {s : Shared} {v : Value} {T : String} (h : s.TypeIs v T) : Looks M s.heap (typeOf v) (.type T) := by
  cases v with
  | ref a =>
    obtain ⟨o, ho, hc⟩ := h
    exact hc ▸ (Looks.ld ho).andThen .now
  | _ => exact Looks.of_pure h
/-- the call of the own == -/
theorem eqF_call {k : Nat} {A : Around} {pins : List (Addr × Obj)} {s : Shared} {σ : St} {H : Hp} {x y : PV} {b : Bool} {vy : V} {v : Value} {ax f : Addr} {fd : FuncData} {ps : List Str} {g : FnM} (G : FnOk X.prog X.w X.K X.mg X.base (L2.CX X.prog X.w) k f fd ps (spM Γ 2 g)) (hb : Binds X.K fd ps [])
    (hg : g [x, y] [] = .ok (.bl b) []) (sb : Sub X k A) (I : Inv X pins σ H s) (rx : Rep Γ (ice0 H) x (.ref ax)) (ry : Rep Γ (ice0 H) y vy) (rv : RelV vy v) {Q : Value → Shared → Prop} (hQ : ∀ s', (∃ H', Inv X pins σ H' s' ∧ Ext H H') → Q (.bool b) s') :
    wpAny (model X.prog X.w) A (call (.ref f) [.ref ax, v]) Q X.xe s := by
  have hsp : spM Γ 2 g [.ref ax, vy] H (fun v H' => v = .bl b ∧ Ext H H') E0 := by
    refine ⟨rfl, ⟨0, fun _ => none⟩, ice0 H, [], _, ⟨fun _ _ e => e, rfl, List.nodup_nil, Nat.le_refl _, fun _ _ => rfl, fun _ _ e => (nomatch e), fun k c a e _ => by simp at e⟩, Reps.cons rx (Reps.cons ry Reps.nil), ?_⟩
    rw [hg]
    exact fun w' H' v l S r => ⟨r, fun a o ea => S.sub a o (l.1 a o ea)⟩
  have e0 : Env0 X.prog X.w X.K X.mg X.base A X.stack s H := by
    have z := I.env0
    exact ⟨sb.fr.trans z.frames, z.mod, z.bs, z.bsz, z.funs, z.frf, z.hok, z.bare⟩
  have hl := G.len _ _ _ _ hsp
  have r2 : Vals [V.ref ax, vy] [Value.ref ax, v] := .cons rfl (.cons rv .nil)
  refine wpAny_call (codeAny_mono (G.run A X.stack s H ⟨[.ref ax, v], []⟩ [.ref ax, v] [.ref ax, vy] _ E0 sb.room e0 (by simpa using hb s [.ref ax, v] I.kIn (by simpa using hl)) r2 hsp) fun r s' hq => ?_)
  cases r with
  | error e => exact (passL pins σ H s e s' I hq)
  | ok fl =>
    cases fl with
    | ret t =>
      obtain ⟨z, H', I', rz, ez, ex⟩ := I.after hq
      subst ez
      cases rz
      exact hQ _ ⟨H', I', ex⟩
    | next => exact hq.elim
    | brk => exact hq.elim
    | cont => exact hq.elim
theorem fO_some {c : Nat} {q : List PV → List PV → Option Bool} {x y : PV} {b : Bool} (e : fO c q x y = some b) : ∃ xs, x = .obj c xs ∧ ((∃ ys, y = .obj c ys) ∨ plainV y = true) := by
  unfold fO at e
  split at e
  · rename_i d xs
    split at e
    · rename_i hd
      subst hd
      refine ⟨xs, rfl, ?_⟩
      split at e
      · rename_i d2 ys
        split at e
        · rename_i h2
          subst h2
          exact .inl ⟨ys, rfl⟩
        · cases e
      · split at e
        · rename_i hp
          exact .inr hp
        · cases e
    · cases e
  · cases e
theorem oth_ty {c : Nat} {pins : List (Addr × Obj)} {σ : St} {s : Shared} {H : Hp} (hK : X.K = Γ.K) {k : Nat} {q : List PV → List PV → Option Bool} (F : EqF X Γ k c q) (I : Inv X pins σ H s) {y : PV} {vy : V} {v : Value} (h : (∃ ys, y = .obj c ys) ∨ plainV y = true) (ry : Rep Γ (ice0 H) y vy) (rv : RelV vy v) :
    ∃ tb, Looks (model X.prog X.w) s.heap (typeOf v) tb ∧ PySem.W.notFirst X.K (Γ.cls c) tb = true := by
  rcases h with ⟨ys, rfl⟩ | hp
  · obtain ⟨ay, dy, us, rfl, hy, _⟩ := ry
    cases rv
    obtain ⟨od', J'⟩ := ins_ty I hy
    exact ⟨_, J'.type, by simp [PySem.W.notFirst]⟩
  · obtain ⟨T, hT, ht⟩ := plain_ty hK I hp ry rv
    exact ⟨.type T, looks_typeIs ht, F.nf T hT⟩
theorem rcB_O {k c : Nat} {q : List PV → List PV → Option Bool} (hK : X.K = Γ.K) (F : EqF X Γ k c q) : RcB X Γ .Eq k (fO c q) := by
  intro A pins s σ H x y b vx vy u v sb I rx ry e ru rv
  obtain ⟨f, fd, ps, g, G, hs, hf, hb, hg⟩ := F.ok
  obtain ⟨xs, rfl, hy⟩ := fO_some e
  have rx' := rx
  obtain ⟨ax, dx, vs, rfl, hx, _⟩ := rx
  cases ru
  obtain ⟨od, J⟩ := ins_ty I hx
  obtain ⟨tb, hl, hn⟩ := oth_ty hK F I hy ry rv
  obtain ⟨m, hF⟩ := I.fr
  refine PySem.W.cmp_K (op := .Eq) (tb := tb) sb.room.units0 hF I.ok.mod.kin J hl hn hs hf ?_
  exact eqF_call (G := G) hb (hg _ _ _ _ e) sb I rx' ry rv fun s' z => ⟨rfl, z⟩
section
variable {prog : Program} {w : World} {A : Around} {E : Value → Shared → Prop} {s : Shared} {K : PySem.W.Frag} {x C' f : Addr} {L : Addr} {h₀ : Heap} {m : Str → Option Value} {ox : Obj} {od : Option Obj} {bv tb : Value}
open PySem.W PyProof.Rows in
open Builtin in
/-- != of an instance whose class has an own == alone -/
theorem neq_K {Q : Value → Shared → Prop} (hu : A.units + 1 < cLine) (F : Fr h₀ L s.heap m) (X₀ : K.In h₀) (I : InstAt s.heap x ox C' od) (hb : Looks (model prog w) s.heap (typeOf bv) tb) (hn : notFirst K C' tb = true)
    (hne : findIn K (.ref C') "__ne__" = some (some (.builtin "object.__ne__"))) (hm : mroIn K C' (.type "object") = some true) (hs : findIn K (.ref C') "__eq__" = some (some (.ref f))) (hf : isFn K (.ref f) = true)
    (h : wpAny (model prog w) A.in1 (call (.ref f) [.ref x, bv]) (fun v s' => ∃ b, v = .bool b ∧ Q (.bool (!b)) s') E s) : wpAny (model prog w) A (richCompare .NotEq (.ref x) bv) Q E s := by
  have X := X₀.keeps F.keep
  have one : wpAny (model prog w) A (tryCompare (.ref x) "__ne__" bv) (fun r s' => ∃ v, r = some v ∧ Q v s') E s := by
    unfold tryCompare
    refine wpAny_bind ?_
    have core : wpAny (model prog w) A (call (.builtin "object.__ne__") ([.ref x] ++ [bv])) (fun v s' => ∃ b, v = .bool b ∧ Q (.bool b) s') E s := by
      refine wpAny_call (codeAny_call_builtin PySem.F.slot_object_ne.plain PySem.F.entry_object_ne (check_slot (i := "object.__ne__") (owner := "object") (n := "__ne__") (by decide +kernel) (by decide +kernel) (I.type.andThen (looks_mroIn X hm)) (PySem.F.args_object_ne_2 _ _) ?_))
      unfold Builtin.«object.__ne__»
      refine wpAny_bind (m := slotArgs "__ne__" 1 _) (wpAny_pure ?_)
      refine wpAny_bind (m := cRoomFor _ _) (wpAny_cRoomFor hu ?_)
      refine wpAny_bind (m := callSpecialIfBound? (.ref x) (Str.ofString "__eq__") _) (ifBound_K X I hs hf (wpAny_mono h (fun r s' hq => ?_) fun _ _ y => y))
      obtain ⟨b, rfl, hq⟩ := hq
      refine wpAny_bind (m := truthy (.bool _)) (wpAny_truthy_bool ?_)
      exact wpAny_pure ⟨_, rfl, hq⟩
    simp only [callSpecialIfBound?, bindSpecialIfBound?]
    refine wpAny_holding (wpAny_bind (wpAny_bind (wpAny_bind (I.type.here ((looks_findIn X hne).here ?_)))))
    refine wpAny_bind (wpAny_askSetting (wpAny_ite ?_))
    have fin : wpAny (model prog w) A (call (.builtin "object.__ne__") ([.ref x] ++ [bv]) >>= fun v => pure (some v)) (fun r s' => wpAny (model prog w) A (match r with | some .notImplemented => pure none | none => pure none | some x => pure (some x)) (fun r s' => ∃ v, r = some v ∧ Q v s') E s') E s :=
      wpAny_bind (wpAny_mono core (fun v s' h' => by
        obtain ⟨b, rfl, hq⟩ := h'
        exact wpAny_pure (wpAny_pure ⟨_, rfl, hq⟩)) fun _ _ h' => h')
    simp only [PySem.F.slot_object_ne.bind]
    split
    · exact wpAny_bind (wpAny_pure (wpAny_pure fin))
    · exact wpAny_tryCatch (wpAny_bind (wpAny_pure (wpAny_pure fin)))
  unfold richCompare
  simp only [oneThing_ref]
  refine wpAny_holding ?_
  refine wpAny_bind (wpAny_cRoomFor (Nat.lt_of_succ_lt hu) ?_)
  refine wpAny_bind (I.type.here (wpAny_bind (hb.here ?_)))
  split
  · rename_i q
    have e : subIn K tb (.ref C') = some false := by
      rcases Bool.or_eq_true_iff.mp hn with e | e
      · rw [beq_iff_eq.mp e] at q; simp at q
      · exact beq_iff_eq.mp e
    refine wpAny_bind ((looks_subIn X e).here ?_)
    simp only [Bool.false_eq_true, if_false]
    refine wpAny_bind (wpAny_mono one (fun r s' z => ?_) fun _ _ e => e)
    obtain ⟨v, rfl, hq⟩ := z
    exact wpAny_pure hq
  · refine wpAny_bind (wpAny_pure ?_)
    simp only [Bool.false_eq_true, if_false]
    refine wpAny_bind (wpAny_mono one (fun r s' z => ?_) fun _ _ e => e)
    obtain ⟨v, rfl, hq⟩ := z
    exact wpAny_pure hq
end
theorem rcB_ON {k c : Nat} {q : List PV → List PV → Option Bool} (hK : X.K = Γ.K) (F : EqF X Γ k c q) : RcB X Γ .NotEq (k + 1) (fun x y => (fO c q x y).map (!·)) := by
  intro A pins s σ H x y b vx vy u v sb I rx ry e ru rv
  obtain ⟨f, fd, ps, g, G, hs, hf, hb, hg⟩ := F.ok
  have e : (fO c q x y).map (!·) = some b := e
  cases e2 : fO c q x y with
  | none =>
    rw [e2] at e
    cases e
  | some b' =>
  rw [e2] at e
  cases e
  obtain ⟨xs, rfl, hy⟩ := fO_some e2
  have rx' := rx
  obtain ⟨ax, dx, vs, rfl, hx, _⟩ := rx
  cases ru
  obtain ⟨od, J⟩ := ins_ty I hx
  obtain ⟨tb, hl, hn⟩ := oth_ty hK F I hy ry rv
  obtain ⟨m, hF⟩ := I.fr
  refine neq_K (tb := tb) (by have := sb.room.un; omega) hF I.ok.mod.kin J hl hn F.ne F.om hs hf ?_
  exact eqF_call (G := G) hb (hg _ _ _ _ e2) sb.in1 I rx' ry rv fun s' z => ⟨_, rfl, rfl, z⟩
end
end R

/-! R11: == and != of any trees; in; try -/
namespace R
open PySem L2
open PySem.W (Looks)
theorem relV_inj {a b : V} {u : Value} (h1 : RelV a u) (h2 : RelV b u) : a = b := by
  cases a <;> cases b <;> first
    | rfl
    | (cases h1; cases h2; done)
    | (cases h1; cases h2; rfl)
    | (obtain ⟨t, rfl⟩ := h1; obtain ⟨t', h⟩ := h2; cases h; rfl)
    | (obtain ⟨t, rfl⟩ := h1; obtain ⟨t', h⟩ := h2; cases h; done)
    | (obtain ⟨t, rfl⟩ := h1; cases h2; done)
    | (obtain ⟨t, rfl⟩ := h2; cases h1; done)
section
variable {X : Cx} {Γ : Cfg}
theorem eqV_refl {a : V} (h : flatV a = true) : eqV a a = true := by
  cases a with
  | non => rfl
  | bl b => exact beq_self_eq_true b
  | int b => exact beq_self_eq_true b
  | str b => exact beq_self_eq_true b
  | _ => cases h
theorem eqS_same {w : Wd} {x y : PV} {v : V} {b : Bool} (e : eqS x y = some b) (rx : Rep Γ w x v) (ry : Rep Γ w y v) : b = true := by
  unfold eqS at e
  cases e1 : toS x with
  | none =>
    rw [e1] at e
    cases e
  | some a =>
    cases e2 : toS y with
    | none =>
      rw [e1, e2] at e
      cases e
    | some c =>
      rw [e1, e2] at e
      cases e
      obtain ⟨rfl, f1⟩ := toS_ok rx e1
      obtain ⟨rfl, f2⟩ := toS_ok ry e2
      exact eqV_refl f1
theorem eqT_same {w : Wd} {f : PV → PV → Option Bool} (hf : ∀ x y v b, f x y = some b → Rep Γ w x v → Rep Γ w y v → b = true) : ∀ {xs ys : List PV} {vs : List V} {b : Bool}, eqT f xs ys = some b → Reps Γ w xs vs → Reps Γ w ys vs → b = true
  | [], [], _, _, e, _, _ => by
    cases e
    rfl
  | [], y :: ys, vs, b, e, h, k => by
    obtain ⟨v, r, e1, _⟩ := k
    rw [show vs = [] from h] at e1
    cases e1
  | x :: xs, [], vs, b, e, h, k => by
    obtain ⟨v, r, e1, _⟩ := h
    rw [show vs = [] from k] at e1
    cases e1
  | x :: xs, y :: ys, vs, b, e, h, k => by
    obtain ⟨v, r, rfl, h1, h2⟩ := h
    obtain ⟨v', r', e1, k1, k2⟩ := k
    cases e1
    unfold eqT at e
    split at e
    · exact eqT_same hf e h2 k2
    · rename_i q
      have := hf _ _ _ _ q h1 k1
      cases this
    · cases e
theorem zip_inj {α β : Type} : ∀ {l : List α} {xs ys : List β}, l.zip xs = l.zip ys → xs.length = l.length → ys.length = l.length → xs = ys
  | [], xs, ys, _, h1, h2 => by
    rw [List.eq_nil_of_length_eq_zero h1, List.eq_nil_of_length_eq_zero h2]
  | a :: l, [], _, _, h1, _ => by cases h1
  | a :: l, _ :: _, [], _, _, h2 => by cases h2
  | a :: l, x :: xs, y :: ys, e, h1, h2 => by
    rw [List.zip_cons_cons, List.zip_cons_cons] at e
    injection e with e1 e2
    injection e1 with _ e1
    rw [e1, zip_inj e2 (Nat.succ.inj h1) (Nat.succ.inj h2)]
theorem eqv_same {pins : List (Addr × Obj)} {σ : St} {s : Shared} {H : Hp} (hK : X.K = Γ.K) (I : Inv X pins σ H s) : ∀ (n : Nat) (x y : PV) (v : V) (b : Bool), eqv n x y = some b → Rep Γ (ice0 H) x v → Rep Γ (ice0 H) y v → b = true
  | 0, x, y, v, b, e, rx, ry => eqS_same e rx ry
  | n + 1, x, y, v, b, e, rx, ry => by
    unfold eqv at e
    split at e
    · rename_i xs ys
      obtain ⟨a, vs, rfl, q, r⟩ := rx
      obtain ⟨a', us, ea, q', r'⟩ := ry
      cases ea
      have := I.tuple_inj (hK ▸ q) (hK ▸ q')
      subst this
      exact eqT_same (eqv_same hK I n) e r r'
    · rename_i xs ys
      obtain ⟨a, vs, rfl, q, r⟩ := rx
      obtain ⟨a', us, ea, q', r'⟩ := ry
      cases ea
      have q2 : (ice0 H).G a = some (.lst us) := q'
      rw [q] at q2
      cases q2
      rw [if_pos (r.length.trans r'.length.symm)] at e
      exact eqT_same (eqv_same hK I n) e r r'
    · rename_i c xs d ys
      split at e
      · rename_i h
        obtain ⟨rfl, rfl⟩ := h
        unfold eqO at e
        split at e
        · obtain ⟨a, dx, vs, rfl, g, g2, hl, r⟩ := rx
          obtain ⟨a', dx', us, ea, g', g2', hl', r'⟩ := ry
          cases ea
          rw [g] at g'
          injection g' with g'
          injection g' with _ _ g'
          have := zip_inj g' hl hl'
          subst this
          obtain ⟨v1, r1, e1, h1, v2, r2, e2, h2, h3⟩ := r
          obtain ⟨v1', r1', e1', h1', v2', r2', e2', h2', h3'⟩ := r'
          rw [e1] at e1'
          cases e1'
          rw [e2] at e2'
          cases e2'
          have z1 := h1.symm.trans h1'
          have z2 := h2.symm.trans h2'
          cases z1
          cases z2
          cases e
          simp
        · cases e
      · cases e
    · exact eqS_same e rx ry
/-- inside a list or tuple, from a rich comparison -/
theorem eqB_ref {n : Nat} {f : PV → PV → Option Bool} (h : RcB X Γ .Eq n f) {A : Around} {pins : List (Addr × Obj)} {s : Shared} {σ : St} {H : Hp} {x y : PV} {b : Bool} {a a' : Addr} (sb : Sub X n A) (I : Inv X pins σ H s) (rx : Rep Γ (ice0 H) x (.ref a)) (ry : Rep Γ (ice0 H) y (.ref a')) (e : f x y = some b) (hs : a = a' → b = true) :
    wpAny (model X.prog X.w) A (eqBool (.ref a) (.ref a')) (fun r s' => r = b ∧ ∃ H', Inv X pins σ H' s' ∧ Ext H H') X.xe s := by
  by_cases ha : a = a'
  · subst ha
    exact SeqAt.EqAt.same (A := A) (s := s) (Value.ref a) X.prog X.w X.xe _ ⟨(hs rfl).symm, H, I, Ext.rfl'⟩
  · refine GQ.eqBool_refG ha (wpAny_mono (h A pins s σ H x y b _ _ _ _ sb I rx ry e rfl rfl) (fun r s' q => ?_) fun _ _ x => x)
    obtain ⟨rfl, q⟩ := q
    exact ⟨b, rfl, rfl, q⟩
theorem RcB.mono {op : CmpOp} {n m : Nat} {f : PV → PV → Option Bool} (h : RcB X Γ op n f) (l : n ≤ m) : RcB X Γ op m f := fun A pins s σ H x y b vx vy u v sb => h A pins s σ H x y b vx vy u v (sb.mono l)
theorem eqB_v {k : Nat} (hK : X.K = Γ.K) (F : EqF X Γ k 0 eqO) : ∀ n, EqB X Γ (n + k) (eqv n)
  | 0 => eqB_S.mono (by omega)
  | n + 1 => by
    intro A pins s σ H x y b vx vy u v sb I rx ry e ru rv
    have same := fun vv (z1 : Rep Γ (ice0 H) x vv) (z2 : Rep Γ (ice0 H) y vv) => eqv_same hK I (n + 1) x y vv b e z1 z2
    unfold eqv at e
    split at e
    · rename_i xs ys
      have h := (rcB_T hK (eqB_v hK F n)).1
      obtain ⟨a, vs, rfl, q⟩ := id rx
      obtain ⟨a', us, rfl, q'⟩ := id ry
      cases ru
      cases rv
      refine eqB_ref (h.mono (by omega)) sb I rx ry (?_ : fT .Eq (eqv n) (.tup xs) (.tup ys) = some b) fun z => same _ rx (z ▸ ry)
      unfold fT
      dsimp only
      rw [e]
      rfl
    · rename_i xs ys
      have h := (rcB_L (X := X) (Γ := Γ) (eqB_v hK F n)).1
      obtain ⟨a, vs, rfl, q⟩ := id rx
      obtain ⟨a', us, rfl, q'⟩ := id ry
      cases ru
      cases rv
      refine eqB_ref (h.mono (by omega)) sb I rx ry (?_ : fL .Eq (eqv n) (.lst xs) (.lst ys) = some b) fun z => same _ rx (z ▸ ry)
      unfold fL
      dsimp only
      split at e
      · rename_i hl
        rw [if_pos hl, e]
        rfl
      · rename_i hl
        rw [if_neg hl]
        exact e
    · rename_i c xs d ys
      have h := rcB_O hK F
      obtain ⟨a, dx, vs, rfl, q⟩ := id rx
      obtain ⟨a', dx', us, rfl, q'⟩ := id ry
      cases ru
      cases rv
      split at e
      · rename_i hc
        obtain ⟨rfl, rfl⟩ := hc
        refine eqB_ref (h.mono (by omega)) sb I rx ry (?_ : fO 0 eqO (.obj 0 xs) (.obj 0 ys) = some b) fun z => same _ rx (z ▸ ry)
        exact e
      · cases e
    · exact eqB_S A pins s σ H _ _ b vx vy u v (sb.mono (by omega)) I rx ry e ru rv
/-! ### the operators -/
def vD : V → PyData
  | .bl b => .bool b
  | .int i => .int i
  | .str s => .str s
  | _ => .none
theorem vD_reads {h : Heap} {a : V} {u : Value} (f : flatV a = true) (r : RelV a u) : Reads h u (vD a) [] := by
  cases a with
  | non =>
    cases r
    exact Reads.none
  | bl b =>
    cases r
    exact Reads.bool b
  | int b =>
    obtain ⟨t, rfl⟩ := r
    exact Reads.int b t
  | str b =>
    obtain ⟨t, rfl⟩ := r
    exact Reads.str b t
  | _ => cases f
/-- no outsized text -/
def top : PV → Bool
  | .str s => SeqAt.shaped (.str s)
  | _ => true
theorem top_ok {x : PV} {a : V} (e : toS x = some a) (h : top x = true) : SeqAt.shaped (vD a) = true := by
  cases x with
  | str s =>
    cases e
    exact h
  | non =>
    cases e
    rfl
  | bl b =>
    cases e
    rfl
  | int i =>
    cases e
    rfl
  | _ => cases e
theorem vD_eq {a c : V} (f1 : flatV a = true) (f2 : flatV c = true) : PyData.eqv (vD a) (vD c) = eqV a c := by
  cases a <;> cases c <;> first | rfl | (cases f1; done) | (cases f2; done) | (rename_i a b; cases a <;> rfl) | (rename_i a b; cases b <;> rfl) | (simp [vD, PyData.eqv, eqV]; done)

theorem rcS (op : CmpOp) (hop : op = .Eq ∨ op = .NotEq) : RcB X Γ op 0 (fun x y => if top x = true ∧ top y = true then (eqS x y).map (neg op) else none) := by
  intro A pins s σ H x y b vx vy u v sb I rx ry e ru rv
  have e : (if top x = true ∧ top y = true then (eqS x y).map (neg op) else none) = some b := e
  split at e
  case isFalse => cases e
  rename_i ht
  unfold eqS at e
  cases e1 : toS x with
  | none =>
    rw [e1] at e
    cases e
  | some a =>
    cases e2 : toS y with
    | none =>
      rw [e1, e2] at e
      cases e
    | some c =>
      rw [e1, e2] at e
      cases e
      obtain ⟨ea, f1⟩ := toS_ok rx e1
      obtain ⟨ec, f2⟩ := toS_ok ry e2
      subst ea
      subst ec
      have s1 := top_ok e1 ht.1
      have s2 := top_ok e2 ht.2
      have h1 : Reads s.heap u (vD vx) [] := vD_reads f1 ru
      have h2 : Reads s.heap v (vD vy) [] := vD_reads f2 rv
      have hu : A.units + 64 < cLine := by have := sb.room.un; omega
      rcases hop with rfl | rfl
      · show wpAny (model X.prog X.w) A (compareOp .Eq u v) _ _ _
        exact SeqAt.compareEq_shaped h1 h2 s1 s2 hu ⟨by rw [vD_eq f1 f2]; rfl, H, I, Ext.rfl'⟩
      · show wpAny (model X.prog X.w) A (compareOp .NotEq u v) _ _ _
        exact SeqAt.compareNe_shaped h1 h2 s1 s2 hu ⟨by rw [vD_eq f1 f2]; rfl, H, I, Ext.rfl'⟩
/-- the answer of == or != -/
def eqvN (op : CmpOp) (n : Nat) : PV → PV → Option Bool := fun x y => if top x = true ∧ top y = true then (eqv n x y).map (neg op) else none
theorem map_id {o : Option Bool} : o.map (neg .Eq) = o := by cases o <;> rfl
theorem rcE {k : Nat} (hK : X.K = Γ.K) (F : EqF X Γ k 0 eqO) (n : Nat) : RcB X Γ .Eq (n + k + 1) (eqvN .Eq n) ∧ RcB X Γ .NotEq (n + k + 1) (eqvN .NotEq n) := by
  have main : ∀ (A : Around) (pins : List (Addr × Obj)) (s : Shared) (σ : St) (H : Hp) (x y : PV) (b : Bool) (vx vy : V) (u v : Value), Sub X (n + k + 1) A → Inv X pins σ H s → Rep Γ (ice0 H) x vx → Rep Γ (ice0 H) y vy → top x = true ∧ top y = true → eqv n x y = some b → RelV vx u → RelV vy v →
      wpAny (model X.prog X.w) A (richCompare .Eq u v) (fun r s' => r = .bool b ∧ Lp X pins σ H s') X.xe s ∧ wpAny (model X.prog X.w) A (richCompare .NotEq u v) (fun r s' => r = .bool (!b) ∧ Lp X pins σ H s') X.xe s := by
    intro A pins s σ H x y b vx vy u v sb I rx ry ht e ru rv
    have flat : ∀ x y, top x = true ∧ top y = true → eqS x y = some b → Rep Γ (ice0 H) x vx → Rep Γ (ice0 H) y vy → wpAny (model X.prog X.w) A (richCompare .Eq u v) (fun r s' => r = .bool b ∧ Lp X pins σ H s') X.xe s ∧ wpAny (model X.prog X.w) A (richCompare .NotEq u v) (fun r s' => r = .bool (!b) ∧ Lp X pins σ H s') X.xe s := fun x y ht e rx ry =>
      ⟨rcS .Eq (.inl rfl) A pins s σ H x y b vx vy u v (sb.mono (by omega)) I rx ry (by dsimp only; rw [if_pos ht, e]; rfl) ru rv, rcS .NotEq (.inr rfl) A pins s σ H x y (!b) vx vy u v (sb.mono (by omega)) I rx ry (by dsimp only; rw [if_pos ht, e]; rfl) ru rv⟩
    cases n with
    | zero => exact flat x y ht e rx ry
    | succ n =>
      unfold eqv at e
      split at e
      · rename_i xs ys
        have h := rcB_T (X := X) (Γ := Γ) hK (eqB_v hK F n)
        exact ⟨h.1 A pins s σ H _ _ b vx vy u v (sb.mono (by omega)) I rx ry (by show Option.map _ (eqT _ _ _) = _; rw [e]; rfl) ru rv, h.2 A pins s σ H _ _ (!b) vx vy u v (sb.mono (by omega)) I rx ry (by show Option.map _ (eqT _ _ _) = _; rw [e]; rfl) ru rv⟩
      · rename_i xs ys
        have h := rcB_L (X := X) (Γ := Γ) (eqB_v hK F n)
        have e1 : ∀ op, fL op (eqv n) (.lst xs) (.lst ys) = some (neg op b) := fun op => by
          unfold fL
          dsimp only
          split at e
          · rename_i hl
            rw [if_pos hl, e]
            rfl
          · rename_i hl
            cases e
            rw [if_neg hl]
        exact ⟨h.1 A pins s σ H _ _ b vx vy u v (sb.mono (by omega)) I rx ry (e1 _) ru rv, h.2 A pins s σ H _ _ (!b) vx vy u v (sb.mono (by omega)) I rx ry (e1 _) ru rv⟩
      · rename_i c xs d ys
        split at e
        · rename_i hc
          obtain ⟨rfl, rfl⟩ := hc
          have e1 : fO 0 eqO (.obj 0 xs) (.obj 0 ys) = some b := e
          exact ⟨rcB_O hK F A pins s σ H _ _ b vx vy u v (sb.mono (by omega)) I rx ry e1 ru rv, rcB_ON hK F A pins s σ H _ _ (!b) vx vy u v (sb.mono (by omega)) I rx ry (by show Option.map _ (fO 0 eqO _ _) = _; rw [e1]; rfl) ru rv⟩
        · cases e
      · exact flat _ _ ht e rx ry
  constructor
  · intro A pins s σ H x y b vx vy u v sb I rx ry e ru rv
    have e : (if top x = true ∧ top y = true then (eqv n x y).map (neg .Eq) else none) = some b := e
    split at e
    · rename_i ht
      rw [map_id] at e
      exact (main A pins s σ H x y b vx vy u v sb I rx ry ht e ru rv).1
    · cases e
  · intro A pins s σ H x y b vx vy u v sb I rx ry e ru rv
    have e : (if top x = true ∧ top y = true then (eqv n x y).map (neg .NotEq) else none) = some b := e
    split at e
    · rename_i ht
      cases e2 : eqv n x y with
      | none =>
        rw [e2] at e
        cases e
      | some c =>
        rw [e2] at e
        cases e
        exact (main A pins s σ H x y c vx vy u v sb I rx ry ht e2 ru rv).2
    · cases e
/-- as an operator on trees -/
def rTr (Γ : Cfg) (f : PV → PV → Option Bool) : R2 := fun vx vy H Q => ∃ x y b, Rep Γ (ice0 H) x vx ∧ Rep Γ (ice0 H) y vy ∧ f x y = some b ∧ ∀ H', Ext H H' → Q (.bl b) H'
theorem op_tr {op : CmpOp} (hop : op = .Eq ∨ op = .NotEq) {n : Nat} {f : PV → PV → Option Bool} (h : RcB X Γ op n f) (hr : Room n X.A) : OpR X (compareOp op) (rTr Γ f) := by
  intro pins s σ H vx vy v u Q I rx ry hq
  obtain ⟨x, y, b, hx, hy, e, q⟩ := hq
  have key : wpAny (model X.prog X.w) X.A (richCompare op v u) (EP X pins σ Q) X.xe s := by
    refine wpAny_mono (h X.A pins s σ H x y b vx vy v u ⟨hr, rfl⟩ I hx hy e rx ry) (fun r s' z => ?_) fun _ _ x => x
    obtain ⟨hr', H', I', e⟩ := z
    subst hr'
    exact ⟨.bl b, H', I', rfl, q H' e⟩
  rcases hop with rfl | rfl
  · exact key
  · exact key
def pTr (fld : Nat → List Str) (f : PV → PV → Option Bool) : F2 := fun x y p => match thaw fld 0 p x with
  | some x' => match thaw fld 0 p y with
    | some y' => match f x' y' with
      | some b => .ok (.bl b) p
      | none => .stuck
    | none => .stuck
  | none => .stuck
theorem SimP.ext {Γ : Cfg} {L : Lv} {w : Wd} {p : Pool} {H H' : Hp} (S : SimP Γ L w p H) (e : Ext H H') : SimP Γ L w p H' :=
  ⟨fun a o h => e a o (S.sub a o h), S.len, S.nd, S.hb, S.hlo, S.hm, fun k c a h1 h2 => (S.cell k c a h1 h2).step (Wd.le.refl _) (fun _ _ g => g) e⟩
theorem ice_ice0 {Γ : Cfg} {L : Lv} {w : Wd} {p : Pool} {H : Hp} (S : SimP Γ L w p H) : (w.ice 0 H).le (ice0 H) := ⟨S.iced_sub 0, by show w.ρ.take 0 <+: []; rw [List.take_zero]; exact List.prefix_refl _⟩
theorem ref_tr {C : Cn} {f : PV → PV → Option Bool} : RefO C (rTr C.Γ f) (pTr C.Γ.fld f) := fun L w p H σ x y vx vy Q S rx ry q => by
  unfold pTr at q
  split at q
  · rename_i x' ex
    split at q
    · rename_i y' ey
      split at q
      · rename_i b eb
        exact ⟨x', y', b, (thaw_ok S ex rx).mono (ice_ice0 S), (thaw_ok S ey ry).mono (ice_ice0 S), eb, fun H' e => q w H' _ (Wd.le.refl w) (S.ext e) rfl⟩
      · exact q.elim
    · exact q.elim
  · exact q.elim
end
end R

/-! R12: in a list whose items are of other types -/
namespace R
section
open PySem PySem.SeqAt PyProof.Rows
open AutoSeq1 (wpAny_loadPart')
open MeetsSeq MeetsSeq2 MeetsSeq3 SeqRoads2
open PySem.W (Looks Frag InstAt findIn isFn subIn looks_subIn ifBound_K)
variable {prog : Program} {w : World} {A : Around} {E : Value → Shared → Prop} {s : Shared} {K : Frag} {x C' f : Addr} {L : Addr} {h₀ : Heap} {m : Str → Option Value} {ox : Obj} {od : Option Obj} {av : Value}
/-- a == x, where a is of a built-in type that declines, and x's class has its own == -/
theorem rc_refl {T id : String} {Q : Value → Shared → Prop} (hu : A.units < cLine) (F : Fr h₀ L s.heap m) (X₀ : K.In h₀) (I : InstAt s.heap x ox C' od) (ha : s.TypeIs av T) (hsub : subIn K (.ref C') (.type T) = some false) (sl : Slot T (cmpInfo .Eq).2.1 id)
    (hd : ∀ Q' : Value → Shared → Prop, Q' .notImplemented s → wpAny (model prog w) A (call (.builtin id) [av, .ref x]) Q' E s)
    (hs : findIn K (.ref C') "__eq__" = some (some (.ref f))) (hf : isFn K (.ref f) = true) (h : wpAny (model prog w) A (call (.ref f) [.ref x, av]) (PySem.W.CmpBack Q) E s) : wpAny (model prog w) A (richCompare .Eq av (.ref x)) Q E s := by
  have X := X₀.keeps F.keep
  have one : wpAny (model prog w) A (tryCompare (.ref x) (cmpInfo .Eq).2.2 av) (fun r s' => ∃ v, r = some v ∧ Q v s') E s := by
    unfold tryCompare
    refine wpAny_bind (ifBound_K X I hs hf (wpAny_mono h (fun v s' hv => ?_) fun _ _ e => e))
    cases v <;> first | exact hv.elim | exact wpAny_pure ⟨_, rfl, hv⟩
  rcases hi : cmpInfo CmpOp.Eq with ⟨sym, fn, r⟩
  rw [hi] at sl one
  simp only [richCompare, hi, ha.oneThing_none]
  try with_reducible refine wpAny_holding ?_
  refine wpAny_bind (wpAny_cRoomFor_or (.inr hu) ?_)
  refine wpAny_bind (wpAny_typeOf ha (wpAny_bind (I.type.here ?_)))
  have hne : (Value.type T != Value.ref C') = true := rfl
  simp only [hne, if_true]
  refine wpAny_bind ((looks_subIn X hsub).here ?_)
  simp only [Bool.false_eq_true, if_false, Bool.not_false, if_true]
  refine wpAny_bind (m := tryCompare av _ (.ref x)) (wpAny_tryCompare_declines ha sl (hd _ ⟨rfl, ?_⟩))
  refine wpAny_bind (m := tryCompare (.ref x) _ av) (wpAny_mono one (fun r s' z => ?_) fun _ _ e => e)
  obtain ⟨v, rfl, hq⟩ := z
  exact wpAny_pure hq
theorem tup_declines {l : Addr} {items : Array Value} {n : Nat} {dd : Option Addr} {sl : Array (Option Value)} (X : K.In s.heap) (I : InstAt s.heap x ox C' od) (hsub : subIn K (.ref C') (.type "tuple") = some false) (ho : s.heap.get? l = some { cls := .type "tuple", dict := dd, data := .seq items n, slots := sl })
    {Q : Value → Shared → Prop} (hq : Q .notImplemented s) : wpAny (model prog w) A (call (.builtin "tuple.__eq__") [.ref l, .ref x]) Q E s := by
  refine GQ.call_here F.slot_tuple_eq ⟨_, ho, rfl⟩ F.entry_tuple_eq (F.args_tuple_eq_2 _ _) ?_
  have hx := I.at_
  have hc := I.cls
  have f1 : ∀ {M : Model} {A : Around} {E : Value → Shared → Prop} {Q : Bool → Shared → Prop}, Q false s → wpAny M A (isSubtype (.ref C') (.type "tuple")) Q E s := fun q => (looks_subIn X hsub).here q
  obtain ⟨hp, g, d, tk, os⟩ := s
  wp_walk using wpAny_loadPart' ho
  rw [hc]
  refine f1 ?_
  wp_walk
  exact hq
theorem int_declines {i : Int} {t : Tok} (I : InstAt s.heap x ox C' od) (hn : ∀ i t, ox.data ≠ .prim (.int i t)) {Q : Value → Shared → Prop} (hq : Q .notImplemented s) : wpAny (model prog w) A (call (.builtin "int.__eq__") [.int i t, .ref x]) Q E s := by
  refine GQ.call_here F.slot_int_eq (typeIs_int s i t) F.entry_int_eq (F.args_int_eq_2 _ _) ?_
  have hx := I.at_
  obtain ⟨hp, g, d, tk, os⟩ := s
  wp_walk using wpAny_loadPart' hx
  split
  · rename_i i t e
    exact absurd e (hn i t)
  · wp_walk
    exact hq
theorem non_declines {Q : Value → Shared → Prop} (hq : Q .notImplemented s) : wpAny (model prog w) A (call (.builtin "NoneType.__eq__") [.none, .ref x]) Q E s :=
  call_gives F.slot_NoneType_eq rfl F.entry_NoneType_eq (F.args_NoneType_eq_2 _ _) (NoneType___eq___none_ref_0 x) hq
/-- one list, whatever its items are: at each turn the i-th item is the one that is sought, or it is not -/
def OneL (prog : Program) (w : World) (A : Around) (E : Value → Shared → Prop) (l : Addr) (y : Value) (N : Nat) (I : Nat → Shared → Prop) (Good : Shared → Prop) : Prop :=
  ∀ i s, I i s → ∃ (xs : Array Value) (n : Nat), s.heap.get? l = some { cls := .type "list", data := .seq xs n } ∧ xs.size = N ∧
    ∀ (h1 : i < xs.size), wpAny (model prog w) A.in1 (eqBool xs[i] y) (fun r t => (r = false ∧ I (i + 1) t) ∨ (r = true ∧ Good t)) E s
theorem loopIn {R0 : Result → Shared → Prop} (l : Addr) (y : Value) (N : Nat) (I : Nat → Shared → Prop) (Good : Shared → Prop) (hl : OneL prog w A (fun e t => R0 (.error e) t) l y N I Good) (fin : ∀ s, I N s → R0 (.ok (.ret (.bool false))) s) (good : ∀ s, Good s → R0 (.ok (.ret (.bool true))) s) (k : Nat) :
    ∀ i : Nat, N - i = k → i ≤ N → ∀ s, I i s → wpAny (model prog w) A.in1 (Builtin.«list.__contains__.loop» ⟨[.ref l, y, rawInt i], []⟩) (GQ.FinOf prog w A R0) (fun e t => R0 (.error e) t) s := by
  induction k with
  | zero =>
    intro i hk hi s h
    obtain ⟨xs, n, hl1, hs1, _⟩ := hl _ _ h
    have ei : i = N := by omega
    have hR : R0 (.ok (.ret (.bool false))) s := fin s (ei ▸ h)
    obtain ⟨hp, g, d, tk, os⟩ := s
    wp_walk using wpAny_loadPart' hl1
    have hx : xs[((i : Nat) : Int).toNat]? = none := by simp; omega
    rw [hx]
    wp_walk
    exact hR
  | succ k ih =>
    intro i hk hi s h
    obtain ⟨xs, n, hl1, hs1, turn⟩ := hl _ _ h
    have h1 : i < xs.size := by omega
    have ht := turn h1
    obtain ⟨hp, g, d, tk, os⟩ := s
    wp_walk using wpAny_loadPart' hl1
    have hx : xs[((i : Nat) : Int).toNat]? = some xs[i] := by simp [h1]
    have ec : ((i : Int) + 1) = ((i + 1 : Nat) : Int) := by omega
    rw [hx]
    refine wpAny_bind (wpAny_mono ht (fun r t q => ?_) fun _ _ x => x)
    rcases q with ⟨rfl, q⟩ | ⟨rfl, q⟩
    · have hrec := ih (i + 1) (by omega) (by omega) t q
      obtain ⟨hp2, g2, d2, tk2, os2⟩ := t
      wp_walk
      rw [ec]
      exact ⟨plainId_quiet plain_contains_loop _, codeAny_builtin entry_contains_loop (by
        rw [Around.under_plainId plain_contains_loop _]; exact hrec)⟩
    · have hR := good t q
      obtain ⟨hp2, g2, d2, tk2, os2⟩ := t
      wp_walk
      exact hR
theorem inL {l : Addr} {y : Value} {N : Nat} {Q : Bool → Shared → Prop} (I : Nat → Shared → Prop) (Good : Shared → Prop) (hl : OneL prog w A E l y N I Good) (fin : ∀ s, I N s → Q false s) (good : ∀ s, Good s → Q true s) (h : I 0 s) :
    wpAny (model prog w) A (contains (.ref l) y) Q E s := by
  obtain ⟨xs, n, hl1, hs1, _⟩ := hl _ _ h
  refine wpAny_contains_slot ⟨_, hl1, rfl⟩ F.slot_list_contains (GQ.call_here F.slot_list_contains ⟨_, hl1, rfl⟩ F.entry_list_contains (F.args_list_contains_2 _ _) ?_)
  have hrec := loopIn (R0 := wants (fun v s' => wpAny (model prog w) A (truthy v) Q E s') E) l y N I Good hl (fun s q => wpAny_truthy_bool (fin s q)) (fun s q => wpAny_truthy_bool (good s q)) _ 0 rfl (Nat.zero_le _) s h
  obtain ⟨hp, g, d, tk, os⟩ := s
  wp_walk using wpAny_loadPart' hl1
  exact ⟨plainId_quiet plain_contains_loop _, codeAny_builtin entry_contains_loop (by
    rw [Around.under_plainId plain_contains_loop _]; exact hrec)⟩
end
section
open PySem L2
open PySem.W (Looks)
variable {X : Cx} {Γ : Cfg}
/-- an item that is no instance, and an instance of class c: its own == says no -/
def fR (c : Nat) : PV → PV → Option Bool := fun x y => match y with
  | .obj d _ => if d = c then match x with
      | .non => some false
      | .int _ => some false
      | .tup _ => some false
      | _ => none
    else none
  | _ => none
theorem rcB_R {k c : Nat} {q : List PV → List PV → Option Bool} (hK : X.K = Γ.K) (F : EqF X Γ k c q) : RcB X Γ .Eq k (fR c) := by
  intro A pins s σ H x y b vx vy u v sb I rx ry e ru rv
  obtain ⟨f, fd, ps, g, G, hs, hf, hb, hg⟩ := F.ok
  unfold fR at e
  split at e
  case h_2 => cases e
  rename_i d ys
  split at e
  case isFalse => cases e
  rename_i hd
  subst hd
  have ry' := ry
  obtain ⟨ay, dy, us, rfl, hy, _⟩ := ry
  cases rv
  obtain ⟨od, J⟩ := ins_ty I hy
  obtain ⟨m, hF⟩ := I.fr
  have go : ∀ {T id : String} (x' : PV), rx = rx → plainV x = true → b = false → s.TypeIs u T → T ∈ (["NoneType", "bool", "int", "str", "tuple", "list"] : List String) → Slot T (cmpInfo .Eq).2.1 id →
      (∀ Q' : Value → Shared → Prop, Q' .notImplemented s → wpAny (model X.prog X.w) A (call (.builtin id) [u, .ref ay]) Q' X.xe s) → wpAny (model X.prog X.w) A (richCompare .Eq u (.ref ay)) (fun r s' => r = .bool b ∧ Lp X pins σ H s') X.xe s := fun {T id} x' _ hp hb' ht hT sl hd => by
    subst hb'
    refine rc_refl sb.room.units0 hF I.ok.mod.kin J ht (F.fn T hT) sl hd hs hf ?_
    refine eqF_call (G := G) hb (hg (.obj d ys) x false [] ?_) sb I ry' rx ru fun s' z => ⟨rfl, z⟩
    unfold fO
    dsimp only
    rw [if_pos rfl]
    cases x <;> first | rfl | (cases hp; done)
  cases x with
  | non =>
    cases e
    cases rx
    cases ru
    exact go .non rfl rfl rfl rfl (by decide) PySem.F.slot_NoneType_eq fun Q' hq => non_declines hq
  | int i =>
    cases e
    cases rx
    obtain ⟨t, rfl⟩ := ru
    exact go .non rfl rfl rfl rfl (by decide) PySem.F.slot_int_eq fun Q' hq => int_declines J (fun _ _ z => nomatch z) hq
  | tup xs =>
    cases e
    obtain ⟨a, vs, ea, q', r⟩ := id rx
    subst ea
    cases ru
    obtain ⟨its, t1, p1, z1⟩ := I.tuple (hK ▸ q')
    obtain ⟨⟨cls, dd, data, sl⟩, ho, hc, n, hd⟩ := p1
    simp only at hc hd
    subst hc hd
    exact go .non rfl rfl rfl ⟨_, ho, rfl⟩ (by decide) PySem.F.slot_tuple_eq fun Q' hq => tup_declines (I.ok.mod.kin.keeps hF.keep) J (F.fn "tuple" (by decide)) ho hq
  | _ => cases e
theorem eqB_R {k c : Nat} {q : List PV → List PV → Option Bool} (hK : X.K = Γ.K) (F : EqF X Γ k c q) : EqB X Γ k (fR c) := by
  intro A pins s σ H x y b vx vy u v sb I rx ry e ru rv
  have h := rcB_R hK F A pins s σ H x y b vx vy u v sb I rx ry e ru rv
  have e' := e
  unfold fR at e
  split at e
  case h_2 => cases e
  rename_i d ys
  split at e
  case isFalse => cases e
  rename_i hd
  subst hd
  obtain ⟨ay, dy, us, rfl, hy, _⟩ := id ry
  cases rv
  obtain ⟨od, J⟩ := ins_ty I hy
  have h' : wpAny (model X.prog X.w) A (richCompare .Eq u (.ref ay)) (fun v s' => wpAny (model X.prog X.w) A (truthOfDropped v) (fun r s' => r = b ∧ Lp X pins σ H s') X.xe s') X.xe s := wpAny_mono h (fun r s' z => by
    obtain ⟨rfl, z⟩ := z
    exact wpAny_truthy_bool ⟨rfl, z⟩) fun _ _ x => x
  cases x with
  | non =>
    cases rx
    cases ru
    unfold eqBool
    refine wpAny_holding ?_
    refine wpAny_ite_split (fun hab => absurd (eq_of_beq hab) nofun) (fun _ => ?_)
    exact wpAny_bind h'
  | int i =>
    cases rx
    obtain ⟨t, rfl⟩ := ru
    unfold eqBool
    refine wpAny_holding ?_
    refine wpAny_ite_split (fun hab => absurd (eq_of_beq hab) nofun) (fun _ => ?_)
    exact wpAny_bind h'
  | tup xs =>
    obtain ⟨a, vs, ea, q', r⟩ := id rx
    subst ea
    cases ru
    obtain ⟨its, t1, p1, z1⟩ := I.tuple (hK ▸ q')
    obtain ⟨o, ho, hc, n, hd⟩ := p1
    refine eqB_ref (rcB_R hK F) sb I rx ry e' fun z => ?_
    subst z
    rw [J.at_] at ho
    cases ho
    cases hc
  | _ => cases e
/-- an item of a list and what is sought -/
def fI (n : Nat) : PV → PV → Option Bool := fun x y => match fR 0 x y with
  | some b => some b
  | none => eqv n x y
theorem eqB_I {k : Nat} (hK : X.K = Γ.K) (F : EqF X Γ k 0 eqO) (n : Nat) : EqB X Γ (n + k) (fI n) := by
  intro A pins s σ H x y b vx vy u v sb I rx ry e ru rv
  unfold fI at e
  split at e
  · rename_i c ec
    cases e
    exact eqB_R hK F A pins s σ H x y b vx vy u v (sb.mono (by omega)) I rx ry ec ru rv
  · exact eqB_v hK F n A pins s σ H x y b vx vy u v sb I rx ry e ru rv
def anyT (f : PV → PV → Option Bool) (y : PV) : List PV → Option Bool
  | [] => some false
  | x :: xs => match f x y with
    | some true => some true
    | some false => anyT f y xs
    | none => none
/-- y in a list -/
def fIn (f : PV → PV → Option Bool) : PV → PV → Option Bool := fun y l => match l with
  | .lst xs => anyT f y xs
  | _ => none
theorem op_inT {n : Nat} {f : PV → PV → Option Bool} (h : EqB X Γ n f) (hr : Room (n + 1) X.A) : OpR X (compareOp .In) (rTr Γ (fIn f)) ∧ OpR X (compareOp .NotIn) (rTr Γ (fun y l => (fIn f y l).map (!·))) := by
  have main : ∀ (pins : List (Addr × Obj)) (s : Shared) (σ : St) (H : Hp) (y : PV) (xs : List PV) (b : Bool) (vy vl : V) (v u : Value), Inv X pins σ H s → RelV vy v → RelV vl u → Rep Γ (ice0 H) y vy → Rep Γ (ice0 H) (.lst xs) vl → anyT f y xs = some b →
      wpAny (model X.prog X.w) X.A (contains u v) (fun r s' => r = b ∧ Lp X pins σ H s') X.xe s := by
    intro pins s σ H y xs b vy vl v u I ry rl hy hx e
    obtain ⟨a, vs, rfl, q, r⟩ := hx
    cases rl
    have sb : Sub X (n + 1) X.A := ⟨hr, rfl⟩
    refine inL (N := xs.length) (fun i s' => Lp X pins σ H s' ∧ anyT f y (xs.drop i) = some b) (fun s' => Lp X pins σ H s' ∧ b = true) (fun i s' q' => ?_) (fun s' q' => ?_) (fun s' q' => ⟨q'.2.symm, q'.1⟩) ⟨⟨H, I, Ext.rfl'⟩, e⟩
    · obtain ⟨⟨H1, I1, e1⟩, q2⟩ := q'
      obtain ⟨_, its, k, t1, g1⟩ := I1.hok a _ (e1 _ _ q)
      refine ⟨its.toArray, k, g1, by rw [List.size_toArray, ← t1.length, r.length], fun h1 => ?_⟩
      have k1 : i < its.length := by simpa using h1
      have x1 : i < xs.length := by rw [r.length, t1.length]; exact k1
      obtain ⟨vx, ev, rv⟩ := r.get (List.getElem?_eq_getElem x1)
      obtain ⟨v', ev', rv'⟩ := t1.get ev
      have gg : v' = its.toArray[i] := by
        rw [List.getElem?_eq_getElem k1] at ev'
        rw [← Option.some.inj ev']
        simp
      rw [← gg]
      rw [List.drop_eq_getElem_cons x1] at q2
      unfold anyT at q2
      split at q2
      · rename_i z
        cases q2
        refine wpAny_mono (h X.A.in1 pins s' σ H1 xs[i] y true vx vy v' v sb.in1 I1 (rv.mono (ice_le e1)) (hy.mono (ice_le e1)) z rv' ry) (fun r s2 z => ?_) fun _ _ x => x
        obtain ⟨rfl, H2, I2, e2⟩ := z
        exact .inr ⟨rfl, ⟨H2, I2, e1.trans e2⟩, rfl⟩
      · rename_i z
        refine wpAny_mono (h X.A.in1 pins s' σ H1 xs[i] y false vx vy v' v sb.in1 I1 (rv.mono (ice_le e1)) (hy.mono (ice_le e1)) z rv' ry) (fun r s2 z => ?_) fun _ _ x => x
        obtain ⟨rfl, H2, I2, e2⟩ := z
        exact .inl ⟨rfl, ⟨H2, I2, e1.trans e2⟩, q2⟩
      · cases q2
    · have q2 := q'.2
      rw [List.drop_eq_nil_of_le (Nat.le_refl _)] at q2
      cases q2
      exact ⟨rfl, q'.1⟩
  have shape : ∀ {y l : PV} {b : Bool}, fIn f y l = some b → ∃ xs, l = .lst xs ∧ anyT f y xs = some b := fun {y l b} e => by
    cases l with
    | lst xs => exact ⟨xs, rfl, e⟩
    | _ => cases e
  constructor
  · intro pins s σ H vx vy v u Q I rx ry hq
    obtain ⟨x, y, b, hx, hy, e, q⟩ := hq
    obtain ⟨xs, rfl, e⟩ := shape e
    show wpAny (model X.prog X.w) X.A (do return Value.bool (← contains u v)) (EP X pins σ Q) X.xe s
    refine wpAny_bind (wpAny_mono (main pins s σ H x xs b vx vy v u I rx ry hx hy e) (fun r s' z => ?_) fun _ _ x => x)
    obtain ⟨rfl, H', I', e'⟩ := z
    exact wpAny_pure ⟨.bl r, H', I', rfl, q H' e'⟩
  · intro pins s σ H vx vy v u Q I rx ry hq
    obtain ⟨x, y, b, hx, hy, e, q⟩ := hq
    cases e2 : fIn f x y with
    | none =>
      dsimp only at e
      rw [e2] at e
      cases e
    | some c =>
    dsimp only at e
    rw [e2] at e
    cases e
    obtain ⟨xs, rfl, e2⟩ := shape e2
    show wpAny (model X.prog X.w) X.A (do return Value.bool (!(← contains u v))) (EP X pins σ Q) X.xe s
    refine wpAny_bind (wpAny_mono (main pins s σ H x xs c vx vy v u I rx ry hx hy e2) (fun r s' z => ?_) fun _ _ x => x)
    obtain ⟨rfl, H', I', e'⟩ := z
    exact wpAny_pure ⟨.bl (!r), H', I', rfl, q H' e'⟩
end
end R

/-! R13: own exceptions as values -/
namespace R
open PySem L2 PySem.Spec PyProof.Rows
open PySem.W (Looks)
theorem exT_ok {P : Program} {w : World} {H : Hp} {h : Heap} {C a t1 : Addr} (e : h.get? a = some ({ cls := .ref C, dict := none, data := .fields #[.ref t1, .none, .none, .none, .bool false, .none] } : Obj)) : ObjOk P w H h a (exT C a t1) :=
  ⟨e, ⟨_, e⟩, fun _ _ e k => k _ e⟩
theorem laidN2 {X : Cx} {pins : List (Addr × Obj)} {σ : L2.St} {H : Hp} {s : Shared} {h' : Heap} {a b : Addr} {o u : HO} {t' : Nat} (I : Inv X pins σ H s) (k : ∀ b u, s.heap.get? b = some u → h'.get? b = some u) (hp : s.heap.get? a = none) (hp2 : s.heap.get? b = none) (ne : b ≠ a) (hn : H a = none) (hn2 : H b = none)
    (new : ObjOk X.prog X.w (upd H a o) h' a o) (new2 : ObjOk X.prog X.w (upd (upd H a o) b u) h' b u) : Inv X pins σ (upd (upd H a o) b u) { s with heap := h', toks := t' } := by
  have hn3 : upd H a o b = none := by
    rw [upd_ne ne]
    exact hn2
  have two : ∀ {c : Addr} {v : HO}, H c = some v → upd (upd H a o) b u c = some v := fun {c v} q => by
    rw [upd_ne (ne_of_none q hn2), upd_ne (ne_of_none q hn)]
    exact q
  have away : ∀ {c : Addr} {v : Obj}, s.heap.get? c = some v → upd (upd H a o) b u c = H c := fun {c v} q => by
    rw [upd_ne (fun z => by rw [z, hp2] at q; cases q), upd_ne (fun z => by rw [z, hp] at q; cases q)]
  refine I.un (t' := t') {
    keep := fun c v q _ _ _ => k c v q
    slot := fun c v q _ _ _ => ⟨v.slots, k c v q⟩
    free := fun c v q n _ => by rw [away q]; exact n
    there := fun c v q _ => ⟨v, k c v q⟩
    tups := fun c xs q => two q
    frzs := fun c v xs q => two q
    tbls := fun c ps q => ⟨#[], by rw [two q]; simp⟩ } (HOk.laidN (HOk.laidN I.hok k hn new) (fun _ _ q => q) hn3 new2)
section
variable {X : Cx} {C : Cn} {pos : Pos}
theorem newObjX {L : Lv} {w : Wd} {p : Pool} {H : Hp} (S : SimP C.Γ L w p H) {c : Nat} {t : Str} {σ : L2.St} {Q : VK} (h : Post C L w σ (RV C) (.ok (.xs c t) p) Q) : ∀ q t1, H q = none → H t1 = none → q ≠ t1 → Q (.ref q) (upd (upd H t1 (.tup [.str t])) q (exT (C.Γ.cls c) q t1)) := fun q t1 hq ht ne => by
  have hq2 : upd H t1 (.tup [.str t]) q = none := by
    rw [upd_ne ne]
    exact hq
  have l2 := S.le_add (o := .tup [.str t]) ht
  have l3 := (S.new (o := .tup [.str t]) ht).le_add (o := exT (C.Γ.cls c) q t1) hq2
  exact h _ _ _ (l2.trans l3) ((S.new ht).new hq2) ⟨q, t1, rfl, add_at, l3.1 _ _ add_at⟩
def mXs (c : Nat) (a : M PV) : M PV := fun en p => (a en p).bind fun x p1 => match x with
  | .str t => .ok (.xs c t) p1
  | _ => .stuck
/-- NoShare(text) -/
theorem re_xs {c : Nat} {bmB : List Value} {B newId initId : String} {x : Str} {e : Expr} {m : M PV} {p : Pos} (F : ExcBaseFacts B newId initId bmB) (q : PySem.W.excIn X.K (C.Γ.cls c) bmB newId = true) (gC : X.mg x = some (.ref (C.Γ.cls c))) (kC : PySem.W.keepIn X.K (.ref (C.Γ.cls c)) = true) (hg : Gl X x)
    (he : RE X C e m) (hs : starEach [e] X.env = (false, eval e X.env) :: starEach [] X.env := by rfl) (hdb : (x == ("__debug__" : Str)) = false := by decide) :
    RE X C (.Call (.Name x p) [e] [] pos) (mXs c m) := by
  refine ⟨fun pins s σ H Q I h => ?_⟩
  obtain ⟨L, w, pl, en, S, E, h⟩ := h
  refine wpAny_Call_Name_kw (ld_glob I hg gC ?_ hdb)
  refine PySem.W.callWith_K (h₀ := X.base) I.ok.mod.kin kC ?_ hs (by rfl)
  rw [hs]
  show wpAny _ _ (spliced ((false, eval e X.env) :: backTo pos (starEach [] X.env))) _ _ s
  have h2 : wE C m σ H (fun v H1 => ∃ t, v = .str t ∧ ∀ a t1, H1 a = none → H1 t1 = none → a ≠ t1 → Q (.ref a) (upd (upd H1 t1 (.tup [.str t])) a (exT (C.Γ.cls c) a t1))) := by
    refine ⟨L, w, pl, en, S, E, h.bind fun y p1 w1 H1 v l1 S1 r1 h1 => ?_⟩
    cases y with
    | str t => exact ⟨t, r1, newObjX S1 h1⟩
    | _ => exact h1.elim
  refine Calls.spliced_cons (thn (he.run pins s σ H _ I h2) fun u s1 ⟨v, H1, I1, r1, t, ev, q1⟩ => ?_)
  subst ev
  obtain ⟨tk, rfl⟩ := r1
  refine Calls.spliced_nil ⟨I1.kIn, ?_⟩
  show wpAny _ _ (call (.ref (C.Γ.cls c)) [.str t tk]) _ _ _
  obtain ⟨bm, N, nm, qn, bs, hdct, sn, sub, ab, col, dd, k0, k1, k2, k3, k5, mN, hC, hN, hni, T⟩ := exc_obj I1.kIn q
  refine wpAny_call_exc_subT F T hC hN hni (fun h' a hm => ?_) (by show 1 ≤ sizeLine; rw [sizeLine_eq]; omega)
  have hn : H1 a = none := I1.hok.gone hm.new
  obtain ⟨t1, ht, h2', h3⟩ := hm.there
  have hn2 : H1 t1 = none := I1.hok.gone h2'
  have ne : a ≠ t1 := fun z => by
    rw [z, h3] at ht
    cases ht
  exact ⟨.ref a, _, laidN2 (o := .tup [.str t]) (u := exT (C.Γ.cls c) a t1) I1 hm.keeps h2' hm.new ne hn2 hn ⟨by show 1 ≤ sizeLine; rw [sizeLine_eq]; omega, [.str t tk], .cons ⟨tk, rfl⟩ .nil, _, h3, rfl, 0, rfl⟩ (exT_ok ht), rfl, q1 a t1 hn hn2 ne⟩
/-! ### exceptions with a field of their own -/
/-- C.__init__(self, v): keeps v -/
def spX (C : Addr) (f : Str) : Sp := fun vs H Q _ => ∃ (a : Addr) (v : V), vs = [.ref a, v] ∧ H a = some (exo a C none) ∧ ∀ d, H d = none → d ≠ a → Q .non (upd (upd H d (exd d [(f, v)])) a (exo a C (some d)))
/-- B.__init__(self, ..), B an own class whose __init__ is ValueError's -/
theorem pe_owninit {x : Str} {B : Addr} {mc : Value} {e : Expr} {es : List Expr} {ta : TA} {p1 p2 : Pos} {pl : Sem Bool} (hg : Gl X x) (hm : X.mg x = some (.ref B)) (r : ClX.CRead X.K B mc) (vV : PySem.W.findCls X.K (.ref B) mc "__init__" = some (.val (.builtin "ValueError.__init__"))) (ha : PA X (e :: es) ta)
    (hc : eval (.Call (.Attribute (.Name x p1) "__init__" p2) (e :: es) [] pos) X.env = (do
      let ov ← eval (.Name x p1) X.env
      standAt p2.atName
      let (f, first) ← holding [ov] (getMethod ov "__init__" pl)
      callWith pos f first (backTo pos (starEach (e :: es) X.env)) (backToKw pos (keywordEach [] X.env))) := by rfl)
    (hdb : (x == ("__debug__" : Str)) = false := by decide) (he : starEach (e :: es) X.env = (false, eval e X.env) :: starEach es X.env := by rfl) (hpl : (backTo pos (starEach es X.env)).any (·.1) = false := by rfl) :
    PE X (.Call (.Attribute (.Name x p1) "__init__" p2) (e :: es) [] pos) (tVeI X.K ta) := by
  refine ⟨fun pins s σ H Q I h => ?_⟩
  refine PySem.W.methodCall_KW (ld_glob I hg hm ?_ hdb) hc
  refine PySem.W.method_cls I.kIn r.ga (PySem.W.cls_value I.kIn r.rd vV (by decide +kernel) ?_)
  show wpAny _ _ (callWith pos (Value.builtin "ValueError.__init__") [] (backTo pos (starEach (e :: es) X.env)) []) _ _ _
  refine PyProof.Rows.callWith_method1 (thn (ha.run pos pins _ σ H _ (I.tok _) h) fun us s1 ⟨vs, H1, I1, r1, a, C, ws, ev, hl, T, ea, q⟩ => ?_) he hpl
  subst ev
  cases r1 with
  | @cons _ u0 _ ur ra rw' =>
    obtain rfl : u0 = Value.ref a := ra
    have hlen : ur.length ≤ sizeLine := by
      rw [← Paired.length rw', sizeLine_eq]
      omega
    exact oinit_ok T I1 ea hlen fun s' J => ⟨.non, H1, J, rfl, q⟩
/-- what is known of an own exception class with a field f -/
structure XvF (K : PySem.W.Frag) (D : Addr) (f : Str) : Prop where
  oex : OexC K D
  ga : PySem.W.findIn K (.ref D) "__getattribute__" = some (some (.builtin "BaseException.__getattribute__"))
  gg : PySem.W.findIn K (.ref D) "__getattr__" = some none
  hd : PySem.W.hasDictIn K D = true
  no : PySem.W.findIn K (.ref D) f = some none
def mXv (c : Nat) (a : M PV) : M PV := fun en p => (a en p).bind fun x p1 => .ok (.xv c x) p1
/-- C(e) -/
theorem re_xv {c : Nat} {x : Str} {fI : Addr} {k : Nat} {fd : FuncData} {ps : List Str} {e : Expr} {m : M PV} {p : Pos} (T : OexC X.K (C.Γ.cls c)) (iC : PySem.W.findIn X.K (.ref (C.Γ.cls c)) "__init__" = some (some (.ref fI))) (tI : PySem.W.typeIn X.K (.ref fI) = some (.type "function"))
    (F1 : FnOk X.prog X.w X.K X.mg X.base (L2.CX X.prog X.w) k fI fd ps (spX (C.Γ.cls c) (C.Γ.exf c))) (hr : Room (k + 1) X.A) (hb : Binds X.K fd ps []) (hg : Gl X x) (hm : X.mg x = some (.ref (C.Γ.cls c))) (tk : Takes X C.W) (he : RE X C e m)
    (hdb : (x == ("__debug__" : Str)) = false := by decide) (hs : starEach [e] X.env = (false, eval e X.env) :: starEach [] X.env := by rfl) (hpl : (backTo pos (starEach [] X.env)).any (·.1) = false := by rfl) :
    RE X C (.Call (.Name x p) [e] [] pos) (mXv c m) := by
  refine ⟨fun pins s σ H Q I h => ?_⟩
  obtain ⟨L, w, pl, en, S, E, h⟩ := h
  obtain ⟨nm, q, N, bs, bm, sn, sub, ab, col, dd, k0, k1, k2, k3, k5, hC, hbm⟩ := T.cls
  refine wpAny_Call_Name_kw (ld_glob I hg hm ?_ hdb)
  refine PySem.W.callWith_K (h₀ := X.base) I.ok.mod.kin T.kC ?_ hs hpl
  have h2 : wE C m σ H (fun v H1 => ∀ a, H1 a = none → ∀ d, upd H1 a (exo a (C.Γ.cls c) none) d = none → d ≠ a → Q (.ref a) (upd (upd (upd H1 a (exo a (C.Γ.cls c) none)) d (exd d [(C.Γ.exf c, v)])) a (exo a (C.Γ.cls c) (some d)))) := by
    refine ⟨L, w, pl, en, S, E, h.bind fun y p1 w1 H1 v l1 S1 r1 h1 => ?_⟩
    intro a ha d hd ne
    have hd1 : H1 d = none := by
      rw [upd_ne ne] at hd
      exact hd
    have ha2 : upd H1 d (exd d [(C.Γ.exf c, v)]) a = none := by
      rw [upd_ne ne.symm]
      exact ha
    have S2 := (S1.new (o := exd d [(C.Γ.exf c, v)]) hd1).new (o := exo a (C.Γ.cls c) (some d)) ha2
    have l2 := S1.le_add (o := exd d [(C.Γ.exf c, v)]) hd1
    have l3 := (S1.new (o := exd d [(C.Γ.exf c, v)]) hd1).le_add (o := exo a (C.Γ.cls c) (some d)) ha2
    have eH : upd (upd (upd H1 a (exo a (C.Γ.cls c) none)) d (exd d [(C.Γ.exf c, v)])) a (exo a (C.Γ.cls c) (some d)) = upd (upd H1 d (exd d [(C.Γ.exf c, v)])) a (exo a (C.Γ.cls c) (some d)) := by
      funext b
      by_cases hb : b = a
      · subst hb
        rw [upd_same, upd_same]
      · rw [upd_ne hb, upd_ne hb]
        by_cases hb2 : b = d
        · subst hb2
          rw [upd_same, upd_same]
        · rw [upd_ne hb2, upd_ne hb2, upd_ne hb]
    rw [eH]
    exact h1 _ _ _ (l2.trans l3) S2 ⟨a, d, v, rfl, add_at, l3.1 _ _ add_at, r1.mono (l2.trans l3)⟩
  rw [hs]
  show wpAny _ _ (spliced ((false, eval e X.env) :: backTo pos (starEach [] X.env))) _ _ s
  refine Calls.spliced_cons (thn (he.run pins s σ H _ I h2) fun u s1 ⟨v, H1, I1, r1, q1⟩ => ?_)
  refine Calls.spliced_nil ⟨I1.kIn, ?_⟩
  show wpAny _ _ (call (.ref (C.Γ.cls c)) [u]) _ _ _
  obtain ⟨hp, g, dr, tk', os⟩ := s1
  have hsz : hp.objs.size ≤ hp.objs.size + 1 := Nat.le_succ _
  have hn : H1 (hp.objs.size + 1) = none := I1.hok.fresh hsz
  have hq := q1 (hp.objs.size + 1) hn
  have kk : ∀ b o, hp.get? b = some o → ((hp.push (PySem.W.kdv_tup [u])).push (PySem.HandSPX.excO (C.Γ.cls c) hp.objs.size)).get? b = some o := fun b o e => Heap.get?_push_of_some _ (Heap.get?_push_of_some _ e)
  have hget : ((hp.push (PySem.W.kdv_tup [u])).push (PySem.HandSPX.excO (C.Γ.cls c) hp.objs.size)).get? (hp.objs.size + 1) = some (PySem.HandSPX.excO (C.Γ.cls c) hp.objs.size) := by heap_get
  have I2 : Inv X pins σ (upd H1 (hp.objs.size + 1) (exo (hp.objs.size + 1) (C.Γ.cls c) none)) ⟨(hp.push (PySem.W.kdv_tup [u])).push (PySem.HandSPX.excO (C.Γ.cls c) hp.objs.size), g, dr, tk', os⟩ :=
    I1.laid (t' := tk') (a := hp.objs.size + 1) (o := exo (hp.objs.size + 1) (C.Γ.cls c) none) (h' := (hp.push (PySem.W.kdv_tup [u])).push (PySem.HandSPX.excO (C.Γ.cls c) hp.objs.size)) kk hsz (exo_ok hget)
  have r2 : Vals [V.ref (hp.objs.size + 1), v] [Value.ref (hp.objs.size + 1), u] := .cons rfl (.cons r1 .nil)
  have hsp : spX (C.Γ.cls c) (C.Γ.exf c) [V.ref (hp.objs.size + 1), v] (upd H1 (hp.objs.size + 1) (exo (hp.objs.size + 1) (C.Γ.cls c) none)) (fun x H' => x = .non ∧ Q (.ref (hp.objs.size + 1)) H') (WE C.W σ) := ⟨_, v, rfl, upd_same, fun d h1 h2 => ⟨rfl, hq d h1 h2⟩⟩
  have hl := F1.len _ _ _ _ hsp
  refine wpAny_call (PySem.HandSPX.call_own F.excBase_ValueError (fun Y => PySem.HandSPX.refsVE_contains Y bm hbm) (I1.kIn _ _ hC) (PySem.W.looks_findIn I1.kIn iC) (fun self => PySem.W.bind_fn I1.kIn self tI) (by show 1 ≤ sizeLine; rw [sizeLine_eq]; omega)
    (codeAny_mono (F1.run _ X.stack _ _ ⟨[Value.ref (hp.objs.size + 1), u], []⟩ [Value.ref (hp.objs.size + 1), u] _ _ (WE C.W σ) (hr.make (C.Γ.cls c) [u] []) (I2.env0.make (C.Γ.cls c) [u] []) (by simpa using hb _ [Value.ref (hp.objs.size + 1), u] I2.kIn (by simpa using hl)) r2 hsp) fun r s' hq' => ?_))
  cases r with
  | error er => exact passAt tk σ pins _ _ er s' I2 hq'
  | ok fl =>
    cases fl with
    | ret t =>
      obtain ⟨z, H', I', rz, ez, q'⟩ := I2.after hq'
      subst ez
      exact ⟨rz, .ref (hp.objs.size + 1), H', I', rfl, q'⟩
    | next => exact hq'.elim
    | brk => exact hq'.elim
    | cont => exact hq'.elim
/-! ### reading them -/
def mXf (c : Nat) (a : M PV) : M PV := fun en p => (a en p).bind fun x p1 => match x with
  | .xv d y => if d = c then .ok y p1 else .stuck
  | _ => .stuck
/-- e.f -/
theorem re_xf {e : Expr} {c : Nat} {f : Str} {m : M PV} (T : XvF X.K (C.Γ.cls c) f) (hf : C.Γ.exf c = f) (he : RE X C e m) (hb : attributeBase e f X.env (eval e X.env) = eval e X.env := by rfl) : RE X C (.Attribute e f pos) (mXf c m) := by
  subst hf
  refine ⟨fun pins s σ H Q I h => ?_⟩
  obtain ⟨L, w, pl, en, S, E, h⟩ := h
  have h2 : wE C m σ H (fun v H1 => ∃ a d u, v = .ref a ∧ H1 a = some (exo a (C.Γ.cls c) (some d)) ∧ H1 d = some (exd d [(C.Γ.exf c, u)]) ∧ Q u H1) := by
    refine ⟨L, w, pl, en, S, E, h.bind fun x p1 w1 H1 v l1 S1 r1 h1 => ?_⟩
    cases x with
    | xv d y =>
      dsimp only at h1
      by_cases hd : d = c
      · subst hd
        rw [if_pos rfl] at h1
        obtain ⟨a, dx, u, ev, g, g2, r⟩ := r1
        exact ⟨a, dx, u, ev, S1.sub _ _ g, S1.sub _ _ g2, h1.ok S1 r⟩
      · rw [if_neg hd] at h1
        exact h1.elim
    | _ => exact h1.elim
  refine attr_of hb (thn (he.run pins s σ H _ I h2) fun u0 s1 ⟨x, H1, I1, rx, a, d, v, ex, ea, ed, q⟩ => ?_)
  subst ex
  obtain rfl : u0 = Value.ref a := rx
  obtain ⟨t1, ha⟩ := exo_at I1.hok ea
  obtain ⟨mA, hns, hr⟩ := exd_at I1.hok ed
  obtain ⟨od, ho, hl⟩ := lookIn_ns hns
  have l : ([(C.Γ.exf c, v)] : List (Str × V)).lookup (C.Γ.exf c) = some v := by simp
  obtain ⟨u', hu, ru⟩ := RelO.some_of (v := v) (o := mA (C.Γ.exf c)) (by rw [← l]; exact hr _)
  have J : PySem.W.InstAt s1.heap a _ (C.Γ.cls c) (some od) := ⟨ha, rfl, rfl, ho⟩
  exact HandSPX.exc_get I1.kIn J T.ga T.gg T.oex.exC (PySem.W.findObj_own T.hd T.no rfl (by rw [hl, hu])) (handed_of ru) ⟨v, H1, I1.tok _, ru, q⟩
end
section
variable {X : Cx} {C : Cn} {pos : Pos}
/-- at a: an own exception of class D -/
def ExcAt (H : Hp) (a D : Addr) : Prop := (∃ t1, H a = some (exT D a t1)) ∨ ∃ d fs, H a = some (exo a D (some d)) ∧ H d = some (exd d fs)
def rIsX (K : PySem.W.Frag) : List V → Hp → VK → Prop := fun xs H Q => ∃ (a D : Addr) (c : V) (cv : Value) (b : Bool), xs = [.ref a, c] ∧ ClsV c cv ∧ ExcAt H a D ∧ L2.ExcC K D ∧ PySem.W.kitOne K (.ref D) cv = some b ∧ Q (.bl b) H
theorem call_isx : CallR X (.builtin "isinstance") (rIsX X.K) := by
  intro pins s σ H xs us Q I r h
  obtain ⟨a, D, c, cv, b, rfl, k, ea, T, e, q⟩ := h
  obtain ⟨u1, u2, rfl, r1, r2⟩ := vals2 r
  have e2 := k.eq r2
  subst e2
  cases r1
  have hc : (PySem.W.clsIn X.K D).isSome = true := by
    obtain ⟨cd, hc, _⟩ := PySem.W.any_some T.hd
    rw [hc]
    rfl
  rcases ea with ⟨t1, ea⟩ | ⟨d, fs, ea, ed⟩
  · have ho : s.heap.get? a = some ({ cls := .ref D, dict := none, data := .fields #[.ref t1, .none, .none, .none, .bool false, .none] } : Obj) := (I.hok a _ ea).1
    have J : PySem.W.InstAt s.heap a _ D none := ⟨ho, rfl, rfl, trivial⟩
    exact PySem.W.kia_one (PySem.W.kitx_exc hc T.hg T.hk T.hs T.ha T.hn T.ht T.hm) I.kIn J e (fun z => nomatch z) fun tk => ⟨.bl b, H, I.tok tk, rfl, q⟩
  · obtain ⟨t1, ho⟩ := exo_at I.hok ea
    obtain ⟨mA, hns, hr⟩ := exd_at I.hok ed
    obtain ⟨od, hod, hl⟩ := lookIn_ns hns
    have J : PySem.W.InstAt s.heap a _ D (some od) := ⟨ho, rfl, rfl, hod⟩
    exact PySem.W.kia_one (PySem.W.kitx_exc hc T.hg T.hk T.hs T.ha T.hn T.ht T.hm) I.kIn J e (fun z => nomatch z) fun tk => ⟨.bl b, H, I.tok tk, rfl, q⟩
/-- isinstance of an own exception: what the table says of its class -/
def mXi (f : Nat → Option Bool) (a : M PV) : M PV := fun en p => (a en p).bind fun x p1 => match x with
  | .xs c _ => match f c with
    | some b => .ok (.bl b) p1
    | none => .stuck
  | .xv c _ => match f c with
    | some b => .ok (.bl b) p1
    | none => .stuck
  | _ => .stuck
theorem re_isx {p : Pos} {e ce : Expr} {a : M PV} {f : Nat → Option Bool} {c : V} {cv : Value} (hT : ∀ d b, f d = some b → L2.ExcC X.K (C.Γ.cls d) ∧ PySem.W.kitOne X.K (.ref (C.Γ.cls d)) cv = some b) (ha : RE X C e a) (hce : PE X ce (tC c)) (k : ClsV c cv) (hg : Gl X "isinstance") (hm : X.mg "isinstance" = none)
    (he : starEach (e :: [ce]) X.env = (false, eval e X.env) :: starEach [ce] X.env := by rfl) (he2 : starEach (ce :: []) X.env = (false, eval ce X.env) :: starEach [] X.env := by rfl) (hpl : (backTo pos (starEach [ce] X.env)).any (·.1) = false := by rfl) :
    RE X C (.Call (.Name "isinstance" p) [e, ce] [] pos) (mXi f a) :=
  (pe_callB call_isx hg hm (by decide +kernel) (pa_cons ha (pa_cons hce pa_nil he2) he) (by decide) (by decide) he hpl).imp fun σ H Q ⟨L, w, p, en, S, E, h⟩ => by
    refine ⟨L, w, p, en, S, E, h.bind fun x p1 w1 H1 v l1 S1 r1 h1 => ?_⟩
    cases x with
    | xs d t =>
      dsimp only at h1
      split at h1
      · rename_i b eb
        obtain ⟨a, t1, rfl, g, g2⟩ := r1
        exact ⟨a, _, c, cv, b, rfl, k, .inl ⟨t1, S1.sub _ _ g⟩, (hT d b eb).1, (hT d b eb).2, h1.ok S1 rfl⟩
      · exact h1.elim
    | xv d y =>
      dsimp only at h1
      split at h1
      · rename_i b eb
        obtain ⟨a, dx, u, rfl, g, g2, r⟩ := r1
        exact ⟨a, _, c, cv, b, rfl, k, .inr ⟨dx, _, S1.sub _ _ g, S1.sub _ _ g2⟩, (hT d b eb).1, (hT d b eb).2, h1.ok S1 rfl⟩
      · exact h1.elim
    | _ => exact h1.elim
/-! ### str(e) -/
def rStX (K : PySem.W.Frag) : List V → Hp → VK → Prop := fun xs H Q => ∃ (a D t1 : Addr) (t : Str), xs = [.ref a] ∧ H a = some (exT D a t1) ∧ H t1 = some (.tup [.str t]) ∧ PySem.W.findIn K (.ref D) "__str__" = some (some (.builtin "BaseException.__str__")) ∧ PySem.W.subIn K (.ref D) (.type "BaseException") = some true ∧ Q (.str t) H
theorem call_stx (hu : X.A.units + 2 < cLine) : CallR X (.type "str") (rStX X.K) := by
  intro pins s σ H xs us Q I r h
  obtain ⟨a, D, t1, t, rfl, ea, et, h1, h2, q⟩ := h
  obtain ⟨u, rfl, rv⟩ := vals1 r
  cases rv
  have ho : s.heap.get? a = some ({ cls := .ref D, dict := none, data := .fields #[.ref t1, .none, .none, .none, .bool false, .none] } : Obj) := (I.hok a _ ea).1
  obtain ⟨_, its, rt, ot, hot, hct, n, hdt⟩ := I.hok t1 _ et
  obtain ⟨u, rfl, tk, rfl⟩ := vals1 rt
  exact PySem.P.str_of_C_one (K := X.K) (C := D) (t0 := t1) hu ⟨I.kIn, _, _, ho, rfl, rfl, rfl⟩ ⟨ot, n, hot, hct, hdt⟩ h1 h2 ⟨.str t, H, I, ⟨tk, rfl⟩, q⟩
def mXt (f : Nat → Bool) (a : M PV) : M PV := fun en p => (a en p).bind fun x p1 => match x with
  | .xs c t => if f c = true then .ok (.str t) p1 else .stuck
  | _ => .stuck
theorem re_stx {p : Pos} {e : Expr} {a : M PV} {f : Nat → Bool} (hu : X.A.units + 2 < cLine) (hT : ∀ d, f d = true → PySem.W.findIn X.K (.ref (C.Γ.cls d)) "__str__" = some (some (.builtin "BaseException.__str__")) ∧ PySem.W.subIn X.K (.ref (C.Γ.cls d)) (.type "BaseException") = some true) (ha : RE X C e a) (hg : Gl X "str") (hm : X.mg "str" = none)
    (he : starEach (e :: []) X.env = (false, eval e X.env) :: starEach [] X.env := by rfl) (hpl : (backTo pos (starEach [] X.env)).any (·.1) = false := by rfl) : RE X C (.Call (.Name "str" p) [e] [] pos) (mXt f a) :=
  (pe_callTy (call_stx hu) hg hm (by decide +kernel) (pa_cons ha pa_nil he) (by decide) (by decide) he hpl).imp fun σ H Q ⟨L, w, p, en, S, E, h⟩ => by
    refine ⟨L, w, p, en, S, E, h.bind fun x p1 w1 H1 v l1 S1 r1 h1 => ?_⟩
    cases x with
    | xs d t =>
      dsimp only at h1
      by_cases hd : f d = true
      · rw [if_pos hd] at h1
        obtain ⟨a, t1, rfl, g, g2⟩ := r1
        exact ⟨a, _, t1, t, rfl, S1.sub _ _ g, S1.sub _ _ g2, (hT d hd).1, (hT d hd).2, h1.ok S1 rfl⟩
      · rw [if_neg hd] at h1
        exact h1.elim
    | _ => exact h1.elim
end
end R

/-! R14: defs that hand back what they own, keywords, sorted, count, clear, turned lists -/
namespace R
open PySem L2
/-! ### a def whose lists live on behind it -/
/-- a def that hands out what it has made, as it stands: it may still change -/
def fnA (N : Nat) (body : R.S) : FnM := fun xs p => match body ⟨p.length, xs.map some ++ List.replicate (N - xs.length) none⟩ p with
  | .ret x q => .ok x q
  | _ => .stuck
theorem SimP.out {Γ : Cfg} {L : Lv} {w : Wd} {q : Pool} {H : Hp} {n : Nat} (S : SimP Γ (L.deeper n) w q H) (hb : L.b ≤ n) (hlo : ∀ k, L.b ≤ k → L.lo k = none) (hm : ∀ k m, L.lo k = some m → m ≤ n) : SimP Γ L w q H := by
  have hn : n ≤ q.length := S.hb
  refine S.level (Nat.le_trans hb hn) hlo (fun k m e => Nat.le_trans (hm k m e) hn) fun k c a h1 h2 x => ?_
  by_cases hk : k < n
  · rw [Lv.deeper_lt hk] at x
    refine x.step ?_ (fun _ _ g => ?_) fun _ _ z => z
    · cases e : L.lo k with
      | none => exact w.low_le _
      | some m =>
        refine ⟨fun _ _ z => z, ?_⟩
        show w.ρ.take (min m n) <+: w.ρ.take m
        have e2 : w.ρ.take (min m n) = (w.ρ.take m).take (min m n) := by
          rw [List.take_take]
          congr 1
          omega
        rw [e2]
        exact List.take_prefix _ _
    · rw [Wd.low_G] at g ⊢
      exact g
  · have e0 : (L.deeper n).lo k = none := by
      show (if k < n then _ else none) = none
      rw [if_neg hk]
    rw [e0] at x
    rw [hlo k (by omega)]
    exact x
theorem fn_retA {Γ : Cfg} {L : Lv} {w : Wd} {p : Pool} {H : Hp} (S : SimP Γ L w p H) {N : Nat} {body : R.S} {xs : List PV} {Q : VK} {E : XK} (h : PostF Γ L w (fnA N body xs p) Q E) :
    PostS ⟨Γ, fun cls d _ H => E cls d H⟩ (L.deeper p.length) w { nx := fun _ H' => Q .non H', rt := Q } (body ⟨p.length, xs.map some ++ List.replicate (N - xs.length) none⟩ p) := by
  unfold fnA at h
  cases e : body ⟨p.length, xs.map some ++ List.replicate (N - xs.length) none⟩ p with
  | ret x q =>
    rw [e] at h
    exact fun w' H' v l S' r => h w' H' v l (S'.out S.hb S.hlo S.hm) r
  | _ =>
    rw [e] at h
    exact h.elim
section
variable {P : Program} {w0 : World} {K : PySem.W.Frag} {mg : Str → Option Value} {base : Heap}
theorem ok_fnA {Γ : Cfg} {x qual : Str} {st : Stmt} {dvs : List V} {kws : List (Str × V)} {f : Addr} {fd : FuncData} {N ps : List Str} {k n : Nat} (F : FunD K x qual (defArgs st) (defBody st) (defScope st) dvs kws f fd) (S : FnScope N ps (defScope st)) (hn : ps.length = n) (body : R.S)
    (hb : ∀ (cdv : Value) (A : Around) (outer : List Env) (s : Shared) (H : Hp) (E : XK), Room k (A.deeper (PyProof.Rows.envOfC qual (defScope st) s.heap.objs.size f cdv)) →
      RSs (cxOf (L2.CX P w0) P w0 K mg base N qual (defScope st) f cdv A outer s H E) ⟨Γ, fun cls d _ H => E cls d H⟩ (defBody st) body) : FnOk P w0 K mg base (L2.CX P w0) (k + 1) f fd ps (spM Γ n (fnA N.length body)) := by
  refine F.ok (CX := L2.CX P w0) S (fun vs H Q E h => h.1.trans hn.symm) (fun cdv A outer s H vs Q E hr h => ⟨wS _ body, hb cdv A outer s H E hr, ?_⟩)
  obtain ⟨_, L, w, p, xs, S', r, h⟩ := h
  exact ⟨L.deeper p.length, w, p, ⟨p.length, xs.map some ++ List.replicate (N.length - xs.length) none⟩, S'.enter, EnR.start (L := L.deeper p.length) r, fn_retA S' h⟩
end
section
variable {X : Cx} {C : Cn} {pos : Pos}
/-! ### f(e, .., k = v) -/
structure RK (X : Cx) (C : Cn) (ks : List Keyword) (m : M (List PV)) : Prop where
  pk : PK X ks (wA C m)
  len : ∀ en p xs q, m en p = .ok xs q → xs.length = ks.length
theorem rk_one {k : Option Str} {e : Expr} {m : M PV} {p : Pos} (h : RE X C e m) : RK X C [⟨k, e, p⟩] (mCons m mNil) := by
  refine ⟨⟨fun pos pins s σ H Q I hq => (pk_cons h pk_nil).run pos pins s σ H Q I ?_⟩, fun en p xs q e => ?_⟩
  · obtain ⟨L, w, p, en, S, E, h⟩ := hq
    exact ⟨L, w, p, en, S, E, Post.bind h fun x p1 w1 H1 v l1 S1 r1 h1 => h1.ok S1 (Reps.cons r1 Reps.nil)⟩
  · unfold mCons mNil at e
    cases ea : m en p with
    | ok y p1 =>
      rw [ea] at e
      cases e
      rfl
    | exc c v p1 =>
      rw [ea] at e
      cases e
    | stuck =>
      rw [ea] at e
      cases e
def mKw (f : FnM) (a b : M (List PV)) : M PV := fun en p => (a en p).bind fun xs p1 => (b en p1).bind fun ys p2 => f (xs ++ ys) p2
theorem re_kw {k n n1 : Nat} {f : Addr} {fd : FuncData} {ps ks : List Str} {g : FnM} {x : Str} {p : Pos} {e : Expr} {es : List Expr} {kws : List Keyword} {a b : M (List PV)} (F : FnOk X.prog X.w X.K X.mg X.base (L2.CX X.prog X.w) k f fd ps (spM C.Γ n g)) (hr : Room k X.A) (hg : Gl X x)
    (hm : X.mg x = some (.ref f)) (hk : PySem.W.keepIn X.K (.ref f) = true) (hb : KBn X.K fd ps n1 ks (fun us ws => us ++ ws) (fun vs zs => vs ++ zs)) (tk : Takes X C.W) (ha : RA X C (e :: es) a) (hkw : RK X C kws b) (hl : es.length + 1 = n1) (hl2 : kws.length = ks.length) (hn : n1 + ks.length = n)
    (hall : (backToKw pos (keywordEach kws X.env)).all (·.1.isSome) = true := by rfl) (hks : (backToKw pos (keywordEach kws X.env)).filterMap (·.1) = ks := by rfl)
    (hdb : (x == ("__debug__" : Str)) = false := by decide) (he : starEach (e :: es) X.env = (false, eval e X.env) :: starEach es X.env := by rfl)
    (hpl : ((backTo pos (starEach (e :: es) X.env)).any (·.1) || (backToKw pos (keywordEach kws X.env)).any (·.1.isNone)) = false := by rfl) :
    RE X C (.Call (.Name x p) (e :: es) kws pos) (mKw g a b) := by
  refine ⟨fun pins s σ H Q I h => ?_⟩
  have h2 : wA C a σ H (fun vs H1 => wA C b σ H1 fun zs H2 => vs.length = n1 ∧ zs.length = ks.length ∧ spM C.Γ n g (vs ++ zs) H2 Q (WE C.W σ)) := by
    obtain ⟨L, w, p, en, S, E, h⟩ := h
    refine ⟨L, w, p, en, S, E, ?_⟩
    unfold mKw at h
    cases ea : a en p with
    | ok xs p1 =>
      rw [ea] at h
      intro w1 H1 vs l1 S1 r1
      refine ⟨L, w1, p1, en, S1, E.mono l1, ?_⟩
      have h := Post.mono l1 h
      dsimp only [Res.bind] at h
      cases eb : b en p1 with
      | ok ys p2 =>
        rw [eb] at h
        intro w2 H2 zs l2 S2 r2
        have e1 : vs.length = n1 := by rw [← r1.length, ha.len _ _ _ _ ea, List.length_cons]; exact hl
        have e2 : zs.length = ks.length := by rw [← r2.length, hkw.len _ _ _ _ eb]; exact hl2
        exact ⟨e1, e2, by rw [List.length_append, e1, e2]; exact hn, L, w2, p2, xs ++ ys, S2, (r1.mono l2).append r2, PostF.of (Post.mono l2 h)⟩
      | exc c v p2 =>
        rw [eb] at h
        exact h
      | stuck =>
        rw [eb] at h
        exact h
    | exc c v p1 =>
      rw [ea] at h
      exact h
    | stuck =>
      rw [ea] at h
      exact h
  refine wpAny_Call_Name_kw (ld_glob I hg hm ?_ hdb)
  refine PySem.W.callWith_KW (h₀ := X.base) I.ok.mod.kin hk hall (thn (ha.pa.run pos pins s σ H _ I h2) fun us s1 ⟨vs, H1, I1, r, q⟩ => ?_) hpl he
  refine thn (hkw.pk.run pos pins s1 σ H1 _ I1 q) fun ws s2 ⟨zs, H2, I2, rz, l1, l2, q2⟩ => ⟨I2.kIn, ?_⟩
  rw [hks]
  refine wpAny_call (codeAny_mono (F.run X.A X.stack s2 H2 ⟨us, ks.zip ws⟩ (us ++ ws) (vs ++ zs) Q (WE C.W σ) hr I2.env0 (hb.to s2 us ws I2.kIn (r.length.symm.trans l1) (rz.length.symm.trans l2)) (r.append rz) q2) fun r s' hq => ?_)
  cases r with
  | error e => exact passAt tk σ pins H2 s2 e s' I2 hq
  | ok fl =>
    cases fl with
    | ret u => exact I2.after hq
    | next => exact hq.elim
    | brk => exact hq.elim
    | cont => exact hq.elim
/-! ### sorted, count, clear -/
def isUp : List Int → Bool
  | [] => true
  | [_] => true
  | a :: b :: r => decide (a ≤ b) && isUp (b :: r)
theorem isUp_pw : ∀ {l : List Int}, isUp l = true → l.Pairwise (· ≤ ·)
  | [], _ => List.Pairwise.nil
  | [a], _ => List.pairwise_singleton _ _
  | a :: b :: r, h => by
    unfold isUp at h
    rw [Bool.and_eq_true] at h
    have h1 : a ≤ b := of_decide_eq_true h.1
    have h2 := isUp_pw h.2
    refine List.pairwise_cons.mpr ⟨fun c hc => ?_, h2⟩
    rcases List.mem_cons.mp hc with rfl | hc
    · exact h1
    · exact Int.le_trans h1 ((List.pairwise_cons.mp h2).1 c hc)
theorem perm_eq : ∀ {l m : List Int}, l.Perm m → l.Pairwise (· ≤ ·) → m.Pairwise (· ≤ ·) → l = m
  | [], m, h, _, _ => (List.nil_perm.mp h).symm ▸ rfl
  | a :: l, [], h, _, _ => by
    have := h.length_eq
    simp at this
  | a :: l, b :: m, h, h1, h2 => by
    have e : a = b := by
      have ha : a ∈ b :: m := h.subset List.mem_cons_self
      have hb : b ∈ a :: l := h.symm.subset List.mem_cons_self
      rcases List.mem_cons.mp ha with e | ha
      · exact e
      · rcases List.mem_cons.mp hb with e | hb
        · exact e.symm
        · have x := (List.pairwise_cons.mp h1).1 b hb
          have y := (List.pairwise_cons.mp h2).1 a ha
          omega
    subst e
    rw [perm_eq ((List.perm_cons a).mp h) (List.pairwise_cons.mp h1).2 (List.pairwise_cons.mp h2).2]
/-- sorted of numbers that stand in order already -/
def cSortUp : FC := fun xs p => match xs with
  | [x] => match getR p x with
    | some ys => match its ys with
      | some ns => if isUp ns = true then .ok (.lst (ns.map .int)) p else .stuck
      | none => .stuck
    | none => .stuck
  | _ => .stuck
theorem ref_sorted : RefC C (rSortedI C.Γ.K) cSortUp := fun L w p H σ xs vs Q S r q => by
  unfold cSortUp at q
  split at q
  · rename_i x
    obtain ⟨v, rfl, rv⟩ := reps1 r
    split at q
    · rename_i ys ey
      split at q
      · rename_i ns en
        split at q
        · rename_i hu
          obtain ⟨a, us, rfl, hs, ru⟩ := getR_ok S rv ey
          have e := its_ok ru en
          subst e
          refine ⟨a, ns, rfl, hs, fun ns' l hp hw hl => ?_⟩
          rw [perm_eq hp hw (isUp_pw hu)]
          exact newLst S Reps.ints q l hl
        · exact q.elim
      · exact q.elim
    · exact q.elim
  · exact q.elim
/-- xs.count(k), numbers -/
def mCnt (o : M PV) (a : M (List PV)) : M PV := fun en p => (o en p).bind fun x p1 => match getR p1 x with
  | some _ => (a en p1).bind fun ys p2 => match getR p2 x with
    | some xs => match its xs, ys with
      | some ns, [.int k] => .ok (.int ((ns.count k : Nat) : Int)) p2
      | _, _ => .stuck
    | none => .stuck
  | none => .stuck
theorem re_cnt {o e : Expr} {mo : M PV} {a : M (List PV)} {apos cpos : Pos} (hK : X.K = C.Γ.K) (ho : RE X C o mo) (ha : RA X C [e] a) (hb : attributeBase o "count" X.env (eval o X.env) = eval o X.env := by rfl)
    (h4 : ((backTo cpos (starEach (e :: []) X.env)).all (fun x => !x.1) && (backToKw cpos (keywordEach [] X.env)).all (fun x => x.1.isSome) && decide ((e :: ([] : List Expr)).length + ([] : List Keyword).length + (if ([] : List Keyword).isEmpty then 0 else 1) < 30)) = true := by rfl)
    (h5 : (apos.endLine == cpos.line) = true := by rfl) (he : starEach (e :: []) X.env = (false, eval e X.env) :: starEach [] X.env := by rfl) (hpl : (backTo cpos (starEach [] X.env)).any (·.1) = false := by rfl) :
    RE X C (.Call (.Attribute o "count" apos) [e] [] cpos) (mCnt mo a) := (pe_bm PySem.F.plainAttrs_list PySem.F.slot_list_count (by kernel_rfl) mt_lcount ho ha.pa hb h4 h5 he hpl).imp fun σ H Q ⟨L, w, p, en, S, E, h⟩ => by
  rw [hK]
  refine ⟨L, w, p, en, S, E, h.bind fun x p1 w1 H1 v l1 S1 r1 h1 => ?_⟩
  split at h1
  · rename_i ys0 e0
    obtain ⟨b, us0, rfl, hs0, _⟩ := getR_ok S1 r1 e0
    refine ⟨.inl ⟨rfl, us0, hs0⟩, L, w1, p1, en, S1, E.mono l1, h1.bind fun ys p2 w2 H2 us l2 S2 r2 h2 => ?_⟩
    split at h2
    · rename_i xs e2
      split at h2
      · rename_i ns k en2
        obtain ⟨b2, vs, e3, hs, rr⟩ := getR_ok S2 (r1.mono l2) e2
        cases e3
        have e := its_ok rr en2
        subst e
        obtain ⟨u, rfl, ru⟩ := reps1 r2
        have ru : u = V.int k := ru
        subst ru
        exact ⟨b, ns, k, rfl, rfl, hs, h2.ok S2 rfl⟩
      · exact h2.elim
    · exact h2.elim
  · exact h1.elim
/-- xs.clear() -/
def mClr (o : M PV) : M PV := fun en p => (o en p).bind fun x p1 => match x with
  | .own k => match p1[k]? with
    | some (.lst _) => .ok .non (p1.set k (.lst []))
    | _ => .stuck
  | _ => .stuck
theorem re_clr {o : Expr} {mo : M PV} {apos cpos : Pos} (hK : X.K = C.Γ.K) (ho : RE X C o mo) (hb : attributeBase o "clear" X.env (eval o X.env) = eval o X.env := by rfl) (h5 : (apos.endLine == cpos.line) = true := by rfl) :
    RE X C (.Call (.Attribute o "clear" apos) [] [] cpos) (mClr mo) := (pe_bm0 PySem.F.plainAttrs_list PySem.F.slot_list_clear (by kernel_rfl) mt_clear ho hb h5).imp fun σ H Q ⟨L, w, p, en, S, E, h⟩ => by
  rw [hK]
  refine ⟨L, w, p, en, S, E, h.bind fun x p1 w1 H1 v l1 S1 r1 h1 => ?_⟩
  split at h1
  · rename_i k
    split at h1
    · rename_i xs e0
      obtain ⟨b, vs, rfl, hb, g, eH, rr⟩ := Rep.ownH S1 r1 e0
      exact ⟨.inl ⟨rfl, vs, .inl (.inl eH)⟩, b, vs, rfl, rfl, eH, h1.ok (S1.write hb g ⟨by rw [Wd.low_G]; exact g, [], upd_same, Reps.nil⟩) rfl⟩
    · exact h1.elim
  · exact h1.elim
/-! ### xs * n as a list that may change -/
def pMulO : F2 := fun x y p => match y with
  | .int k => match getL p x with
    | some xs => if k ≤ 1000 ∧ -1000 ≤ k ∧ xs.length * k.toNat ≤ big then .ok (.own p.length) (p ++ [.lst (times k.toNat xs)]) else .stuck
    | _ => .stuck
  | _ => .stuck
theorem ref_mulO : RefO C rMul pMulO := fun L w p H σ x y vx vy Q S rx ry q => by
  unfold pMulO at q
  split at q
  · rename_i k
    split at q
    · rename_i xs e
      split at q
      · rename_i hl
        obtain ⟨a, vs, ea, sa, ra⟩ := getL_at S rx e
        exact .inr (.inr ⟨a, k, vs, ea, ry, sa, by omega, by omega, by rw [← ra.length]; exact big_le hl.2.2, newOwn S (ra.times _) q⟩)
      · exact q.elim
    · exact q.elim
  · exact q.elim
end
end R

/-! R15: enumerate of a tuple, zip of a tuple and a list, lists turned about -/
namespace R
open PySem L2 PySem.Spec PyProof.Rows
open AutoSeq1 (wpAny_loadPart')
set_option maxHeartbeats 1000000 in
/-- enumerate(v): how it begins -/
theorem enum_new1 {v : Value} {o : Obj} {Hp0 : Heap → Prop} (B : Begins v o Hp0) :
    Meets (Builtin.«enumerate.__new__» ⟨[.type "enumerate", v], []⟩) (fun _ R s => Hp0 s.heap ∧
      R (.ok (.ret (.ref (s.heap.push o).objs.size))) { s with heap := (s.heap.push o).push { cls := .type "enumerate", data := .fields #[.none, .bool false, .ref s.heap.objs.size, rawInt 0, .none, .none] } }) :=
  .of_wp fun prog w A R s h => by
    obtain ⟨hp, g, d, tk, os⟩ := s
    obtain ⟨h1, h⟩ := h
    have hsub := sub_enumerate
    have q1 : ∀ {A' : Around} {E : Value → Shared → Prop} {Q : Value → Shared → Prop}, Q (.ref hp.objs.size) ⟨hp.push o, g, d, tk, os⟩ → wpAny (model prog w) A' (pyIter v) Q E ⟨hp, g, d, tk, os⟩ :=
      fun q => B.iter prog w _ _ ⟨hp, g, d, tk, os⟩ _ h1 q
    wp_walk using q1
    refine wpAny_stack_any fun st => wpAny_pure ?_
    split
    · rename_i c _ _ _ _ _
      cases (c == Value.type "enumerate") <;> (wp_walk using q1; exact ⟨_, rfl, h⟩)
    · wp_walk using q1
      exact ⟨_, rfl, h⟩
theorem enum_call1 {prog : Program} {w : World} {A : Around} {E : Value → Shared → Prop} {s : Shared} {v : Value} {o : Obj} {Hp0 : Heap → Prop} {Q : Value → Shared → Prop} (B : Begins v o Hp0) (h1 : Hp0 s.heap)
    (h : ∀ h', IsEnum h' (s.heap.objs.size + 1) s.heap.objs.size 0 .none → h'.get? s.heap.objs.size = some o → (∀ b o, s.heap.get? b = some o → h'.get? b = some o) → Q (.ref (s.heap.objs.size + 1)) { s with heap := h' }) :
    wpAny (model prog w) A (call (.type "enumerate") [v]) Q E s := by
  refine callType_new F.called_enumerate (by decide) (F.typeCall_enumerate_1 _) (F.newCall_enumerate_1 _) (fun obj => F.args_object_init_2 obj _) F.entry_enumerate_new (enum_new1 B) ⟨h1, ?_⟩
  have hz : (s.heap.push o).objs.size = s.heap.objs.size + 1 := Heap.size_push ..
  show _ ∧ _
  rw [hz]
  have he := Heap.get?_push_size (s.heap.push o) (o := { cls := .type "enumerate", data := .fields #[.none, .bool false, .ref s.heap.objs.size, rawInt 0, .none, .none] }) rfl
  rw [hz] at he
  exact ⟨⟨_, he, rfl⟩, h _ he (Heap.get?_push_of_some _ (Heap.get?_push_size _ B.free)) fun b o x => Heap.get?_push_of_some _ (Heap.get?_push_of_some _ x)⟩
/-- the tuple at a, each item in a new pair -/
def IteT (K : PySem.W.Frag) (a : Addr) : It :=
  ⟨fun i H => ∃ (xs : List V) (x : V), SqT K H a xs ∧ xs[i]? = some x, fun i H v H' => ∃ T x, v = .ref T ∧ H T = none ∧ H' = upd H T (.tup [.int (i : Nat), x]) ∧ ∀ xs, SqT K H a xs → xs[i]? = some x, fun i H => ∃ xs : List V, SqT K H a xs ∧ xs.length ≤ i⟩
theorem turn_enumT {P : Program} {w : World} {K : PySem.W.Frag} {elts : List Expr} {kk : Nat} {tpos : Pos} (a e it : Addr) :
    Turn P w K (.Tuple elts kk tpos) (IteT K a) [e, it] e (fun i h => (∃ old, IsEnum h e it ((i : Nat) : Int) old) ∧ h.IsTupleIter it a i ∧ e ≠ it ∧ a ≠ it ∧ e ≠ a) where
  mem := List.mem_cons_self
  obj := fun i h st b hb => by
    obtain ⟨⟨old, he⟩, ⟨o, ho, hc, hd⟩, _⟩ := st
    rcases List.mem_cons.mp hb with rfl | hb
    · exact ⟨_, he, fun v q => nomatch q⟩
    · rw [List.mem_singleton.mp hb]
      exact ⟨o, ho, fun v q => by rw [hd] at q; cases q⟩
  keep := fun i h h' ⟨⟨old, he⟩, hi, r⟩ k => ⟨⟨old, k e List.mem_cons_self _ he⟩, hi.at fun o q => k it (List.mem_cons_of_mem _ List.mem_cons_self) o q, r⟩
  item := by
    intro X hP hw hK hc i pins s σ H E I hf st hg
    subst hP hw hK
    obtain ⟨⟨old, he⟩, hit, hne, hai, hea⟩ := st
    obtain ⟨xs, x, hq, hx⟩ := hg
    obtain ⟨its, rv, p, hz⟩ := I.tuple hq
    obtain ⟨u, hu, ru⟩ := rv.get hx
    have hel : e < s.heap.objs.size := Heap.lt_size he
    have hil : it < s.heap.objs.size := by obtain ⟨_, q, _⟩ := hit; exact Heap.lt_size q
    have hlt : i < its.toArray.size := by simpa using (List.getElem?_eq_some_iff.mp hu).1
    have D := Draws.tuple (prog := X.prog) (w := X.w) (A := X.A.in1) (I.ok.hd hc) it a hai its.toArray
    refine wpAny_pyNext_enum_itemD D he ⟨hit, p⟩ hlt hne (by simp [hne, hea]) fun x' h' tk hP ho hit' hT hsz hk => ?_
    have ex : x' = u := by
      have e1 : its.toArray[i]? = some u := by simpa using hu
      exact Option.some.inj (hP.symm.trans e1)
    subst ex
    refine ⟨_, rfl, wpAny_letOwnedTupleGo_enum (s := { s with heap := h', toks := tk + 1 }) ho fun h'' he' sb => ?_⟩
    have hT2 : h''.get? s.heap.objs.size = some { cls := .type "tuple", data := .seq #[.int i tk, x'] } := (sb.2 _ (Nat.ne_of_gt hel)).trans hT
    have new : ObjOk X.prog X.w (upd H s.heap.objs.size (.tup [.int (i : Nat), x])) h'' s.heap.objs.size (.tup [.int (i : Nat), x]) :=
      ⟨by show 2 ≤ sizeLine; decide, [.int i tk, x'], .cons ⟨_, rfl⟩ (.cons ru .nil), ⟨_, hT2, rfl, _, rfl⟩⟩
    have I1 : Inv X pins σ (upd H s.heap.objs.size (.tup [.int (i : Nat), x])) { s with heap := h'', toks := tk + 1 } :=
      I.turnedNew (ch := [e, it]) (fun b ob hb q => (sb.2 b (fun z => hb (by simp [z]))).trans (hk b ob (fun z => hb (by simp [z])) (fun z => hb (by simp [z])) q)) hf (Nat.le_refl _) new
    refine ⟨.ref s.heap.objs.size, _, I1, rfl, ⟨_, x, rfl, I.hok.fresh (Nat.le_refl _), rfl, fun ys hy => by rw [I.tuple_inj hy hq]; exact hx⟩, ⟨⟨x', ?_⟩, hit'.1.at fun o q => (sb.2 it (Ne.symm hne)).trans q, hne, hai, hea⟩, fun b hb => ?_⟩
    · rw [show ((i + 1 : Nat) : Int) = (i : Int) + 1 by omega]
      exact he'
    · have hb' : b < s.heap.objs.size := by
        rcases List.mem_cons.mp hb with rfl | hb
        · exact hel
        · rw [List.mem_singleton.mp hb]
          exact hil
      rw [upd_ne (Nat.ne_of_lt hb')]
      exact (hf b hb).1
  done := by
    intro X hP hw hK hc i pins s σ H E I hf st hg
    subst hP hw hK
    obtain ⟨⟨old, he⟩, hit, hne, hai, hea⟩ := st
    obtain ⟨xs, hq, hx⟩ := hg
    obtain ⟨its, rv, p, hz⟩ := I.tuple hq
    obtain ⟨f0, f1, f2, f3, f4, f5⟩ := hf it (List.mem_cons_of_mem _ List.mem_cons_self)
    have hl := rv.length
    have hTy : s.TypeIs (.ref e) "enumerate" := ⟨_, he, rfl⟩
    unfold pyNext
    refine wpAny_bind (wpAny_attempt (wpAny_callSpecial?_slot (name := Str.ofString "__next__") hTy F.slot_enumerate_next (wpAny_call_entry F.slot_enumerate_next hTy F.entry_enumerate_next ?_ (F.args_enumerate_next_1 _))))
    show wpAny _ _ (field (.ref e) 2 >>= _) _ _ _
    refine wpAny_bind (wpAny_field he rfl (x := .ref it) rfl ?_)
    refine wpAny_bind (wpAny_nextOf_tuple_end (I.ok.hd hc) hit p (by simp; omega) fun h' x he' hx' => ?_)
    obtain ⟨o, ho, hoc⟩ := hx'
    exact wpAny_bind (wpAny_isInstance (T := "StopIteration") (b := true) ⟨o, ho, hoc⟩ isSubtype_stop (wpAny_pure ⟨rfl, I.turned (t' := s.toks) (fun b o hb q => he' b o hb q) f0 f1 f3 f4 f5⟩))
  self := fun A i s Q E st h => let ⟨⟨_, he⟩, _⟩ := st; wpAny_pyIter_enum he h
section
variable {X : Cx} {C : Cn} {pos : Pos}
def iEnumT (K : PySem.W.Frag) (ta : TA) : TI := fun σ H R => ta σ H fun vs H1 => ∃ a xs, vs = [.ref a] ∧ SqT K H1 a xs ∧ R (IteT K a) H1
theorem pi_enumT {e : Expr} {ta : TA} {p tpos : Pos} {elts : List Expr} {kk : Nat} (hg : Gl X "enumerate") (hm : X.mg "enumerate" = none) (ha : PA X [e] ta) (hs : starEach [e] X.env = [(false, eval e X.env)] := by rfl) :
    PI X (.Tuple elts kk tpos) (.Call (.Name "enumerate" p) [e] [] pos) (iEnumT X.K ta) := by
  refine ⟨fun pins s σ H R I h => ?_⟩
  refine Call_ (ld_blt I hg hm Boot.«enumerate» (PyProof.Rows.callWith_type1 (thn (ha.run pos pins s σ H _ I h) fun us s1 ⟨vs, H1, I1, r1, a, xs, ex, hq, q⟩ => ?_) hs rfl))
  subst ex
  obtain ⟨u, rfl, r⟩ := vals1 r1
  cases r
  obtain ⟨its, rv, p', hz⟩ := I1.tuple hq
  have hal : a < s1.heap.objs.size := by obtain ⟨o, ho, _⟩ := id p'; exact Heap.lt_size ho
  refine enum_call1 (begins_tuple a its.toArray) p' fun h' he hit hk => wpAny_pyIter_enum he ?_
  have I2 : Inv X pins σ H1 { s1 with heap := h' } := I1.kept (t' := s1.toks) hk
  refine ⟨s1.heap.objs.size + 1, [s1.heap.objs.size + 1, s1.heap.objs.size], _, _, H1, rfl, I2, turn_enumT a (s1.heap.objs.size + 1) s1.heap.objs.size, ⟨⟨.none, he⟩, ⟨_, hit, rfl, rfl⟩, Nat.succ_ne_self _, Nat.ne_of_lt hal, fun z => absurd hal (by rw [← z]; exact Nat.not_lt_of_le (Nat.le_succ _))⟩, fun b hb => ?_, q⟩
  · have hle : s1.heap.objs.size ≤ b := by
      rcases List.mem_cons.mp hb with rfl | hb
      · exact Nat.le_add_right _ _
      · rw [List.mem_singleton.mp hb]
        exact Nat.le_refl _
    exact I1.fpOk hle (I1.hok.fresh hle)
theorem itR_enumT {Γ : Cfg} {w : Wd} {a : Addr} {xs : List PV} {vs : List V} (h : SqT Γ.K w.G a vs) (r : Reps Γ w xs vs) : ItR Γ w noCk (enumZ 0 xs) (IteT Γ.K a) := fun L w' p H l S _ i => by
  have h' : SqT Γ.K H a vs := seqT_mono (fun b o e => S.sub b o (l.1 b o e)) h
  rw [enumZ_get]
  cases e : xs[i]? with
  | none => exact ⟨fun _ => ⟨vs, h', by rw [← r.length]; exact List.getElem?_eq_none_iff.mp e⟩, (fun _ z => nomatch z)⟩
  | some x =>
    refine ⟨(fun z => nomatch z), fun y ey => ?_⟩
    have ey : PV.tup [.int ((0 + i : Nat) : Int), x] = y := Option.some.inj ey
    subst ey
    obtain ⟨v, ev, rv⟩ := r.get e
    refine ⟨⟨vs, v, h', ev⟩, fun u H' hy => ?_⟩
    obtain ⟨T, z, rfl, hT, rfl, hu⟩ := hy
    have e2 : z = v := Option.some.inj ((hu vs h').symm.trans ev)
    subst e2
    refine new_tup S hT (Reps.cons ?_ (Reps.cons (rv.mono l) Reps.nil))
    rw [Nat.zero_add]
    exact rfl
/-- enumerate of a list or a tuple that doesn't change -/
def itEA (a : M (List PV)) : M It0 := fun en p => (a en p).bind fun xs p1 => match xs with
  | [.tup ys] => .ok ⟨enumZ 0 ys, noCk⟩ p1
  | [x] => match getZL x with
    | some ys => .ok ⟨enumZ 0 ys, noCk⟩ p1
    | none => .stuck
  | _ => .stuck
theorem ri_enumA {e : Expr} {m : M (List PV)} {p tpos : Pos} {elts : List Expr} {kk : Nat} (hK : X.K = C.Γ.K) (hg : Gl X "enumerate") (hm : X.mg "enumerate" = none) (ha : RA X C [e] m) (hs : starEach [e] X.env = [(false, eval e X.env)] := by rfl) :
    RI X C (.Tuple elts kk tpos) (.Call (.Name "enumerate" p) [e] [] pos) (itEA m) := PI.imp (PI.or (pi_enum hg hm ha.pa hs) (pi_enumT hg hm ha.pa hs)) fun σ H R ⟨L, w, p, en, S, E, h⟩ => by
  rw [hK]
  unfold itEA at h
  cases ea : m en p with
  | exc c v p1 =>
    rw [ea] at h
    refine .inl ⟨L, w, p, en, S, E, ?_⟩
    rw [ea]
    exact h
  | stuck =>
    rw [ea] at h
    exact h.elim
  | ok xs p1 =>
    rw [ea] at h
    dsimp only [Res.bind] at h
    split at h
    · rename_i ys
      refine .inr ⟨L, w, p, en, S, E, ?_⟩
      rw [ea]
      intro w1 H1 vs l1 S1 r1
      obtain ⟨v, rfl, rv⟩ := reps1 r1
      obtain ⟨a, us, rfl, hq, rr⟩ := rv
      exact ⟨a, us, rfl, seqT_mono S1.sub hq, h w1 H1 _ l1 S1 (itR_enumT hq rr)⟩
    · rename_i x _
      split at h
      · rename_i ys ey
        refine .inl ⟨L, w, p, en, S, E, ?_⟩
        rw [ea]
        intro w1 H1 vs l1 S1 r1
        obtain ⟨v, rfl, rv⟩ := reps1 r1
        obtain ⟨a, us, rfl, hq, rr⟩ := getZL_ok rv ey
        exact ⟨a, us, rfl, seqL_mono S1.sub hq, h w1 H1 _ l1 S1 (itR_enum hq rr)⟩
      · exact h.elim
    · exact h.elim
/-! ### xs[::-1] -/
def mRev (a : M PV) : M PV := fun en p => (a en p).bind fun x p1 => match x with
  | .tup _ => .stuck
  | x => match getR p1 x with
    | some xs => .ok (.lst xs.reverse) p1
    | none => .stuck
theorem re_rev {e : Expr} {a : M PV} {j : Nat} {p1 p2 p3 : Pos} (hK : X.K = C.Γ.K) (ha : RE X C e a) : RE X C (.Subscript e (.Slice none none (some (.UnaryOp .USub (.Constant (.int 1) j p1) p2)) p3) pos) (mRev a) := by
  refine ⟨fun pins s σ H Q I h => ?_⟩
  have h2 : wE C a σ H (fun v H1 => ∃ (b : Addr) (vs : List V), v = .ref b ∧ SqL X.K H1 b vs ∧ ∀ q, H1 q = none → Q (.ref q) (upd H1 q (.lst vs.reverse))) := by
    obtain ⟨L, w, p, en, S, E, h⟩ := h
    refine ⟨L, w, p, en, S, E, h.bind fun x p1 w1 H1 v l1 S1 r1 h1 => ?_⟩
    split at h1
    · exact h1.elim
    · rename_i x _
      split at h1
      · rename_i xs ex
        obtain ⟨b, vs, eb, hq, rr⟩ := getR_ok S1 r1 ex
        exact ⟨b, vs, eb, hK ▸ hq, newLst S1 rr.reverse h1⟩
      · exact h1.elim
  refine Subscript_ (thn (ha.run pins s σ H _ I h2) fun v s1 ⟨x, H1, I1, r1, b, vs, ex, hq, q1⟩ => ?_)
  subst ex
  cases r1
  refine wpAny_Slice ?_
  rw [evalPart_none]
  refine wpAny_pure ?_
  refine wpAny_pure ?_
  have step : PO X (some (.UnaryOp .USub (.Constant (.int 1) j p1) p2)) (tPart (tUn (rU fun i => V.int (-i)) (tC (.int 1)))) := po_some (pe_un un_neg pe_int)
  refine thn (step.run pins s1 σ H1 (fun o H2 => o = some (-1) ∧ H2 = H1) I1 ⟨1, rfl, -1, rfl, rfl, rfl⟩) fun vst s2 ⟨o, H2, I2, po, eo, eH⟩ => ?_
  subst eo
  subst eH
  have I3 : Inv X pins σ H2 { s2 with heap := s2.heap.push { cls := .type "slice", data := .fields #[.none, .none, vst] } } := I2.kept (t' := s2.toks) fun b ob q => Heap.get?_push_of_some _ q
  obtain ⟨its, r, ht, hz⟩ := I3.list hq
  have hg : wpAny (model X.prog X.w) X.A (getItem (.ref b) (.ref s2.heap.objs.size)) (EP X pins σ Q) X.xe { s2 with heap := s2.heap.push { cls := .type "slice", data := .fields #[.none, .none, vst] } } := by
    refine wpAny_getItem_list_slice ht.isList (Heap.IsSliceOf.new ..) .none .none po (by decide) ?_ (by rw [List.size_toArray, ← r.length]; exact hz)
    rw [PySem.W.krv_pick]
    refine ⟨.ref _, _, I3.laid (t' := s2.toks) (o := .lst vs.reverse) (fun b ob q => Heap.get?_push_of_some _ q) (Nat.le_refl _) ?_, rfl, q1 _ (I3.hok.fresh (Nat.le_refl _))⟩
    exact ⟨by rw [List.length_reverse]; exact hz, _, 0, by simpa using r.reverse, Heap.get?_push_size _ rfl⟩
  show wpAny (model X.prog X.w) X.A (subscriptTail e (.Slice none none (some (.UnaryOp .USub (.Constant (.int 1) j p1) p2)) p3) (.ref b) (.ref s2.heap.objs.size)) (EP X pins σ Q) X.xe _
  exact tail_any (ops := [.ref b, .ref s2.heap.objs.size]) ht.isList.typeIs slot_list_getitem.lookup hg (by with_unfolding_all rfl)
end
end R

/-! R16: zip of a tuple and a list -/
namespace R
open PySem L2 PySem.Spec PyProof.Rows
/-- the tuple at a (n items) and the list at b (m items), two items in a new pair -/
def ItzM (K : PySem.W.Frag) (a b : Addr) (n m : Nat) : It :=
  ⟨fun i H => ∃ (xs ys : List V) (x y : V), SqT K H a xs ∧ SqL K H b ys ∧ xs.length = n ∧ ys.length = m ∧ xs[i]? = some x ∧ ys[i]? = some y,
    fun i H v H' => ∃ T x y, v = .ref T ∧ H T = none ∧ H' = upd H T (.tup [x, y]) ∧ (∀ xs, SqT K H a xs → xs[i]? = some x) ∧ ∀ ys, SqL K H b ys → ys[i]? = some y,
    fun i H => ∃ xs ys : List V, SqT K H a xs ∧ SqL K H b ys ∧ xs.length = n ∧ ys.length = m ∧ (n ≤ i ∨ m ≤ i)⟩
theorem turn_zipM {P : Program} {w : World} {K : PySem.W.Frag} {elts : List Expr} {kk : Nat} {tpos : Pos} {a b z TI TO i1 i2 : Addr} {n m : Nat} (D : ZipSep2 z TI TO i1 i2 [i1, a] [i2, b]) (na : a ≠ i1) (nb : b ≠ i2) :
    Turn P w K (.Tuple elts kk tpos) (ItzM K a b n m) [z, TI, TO, i1, i2] z (fun i h => IsZip h z TI TO .none ∧ IsTupOf2 h TI (.ref i1) (.ref i2) ∧ (∃ x y, IsTupOf2 h TO x y) ∧ h.IsTupleIter i1 a i ∧ h.IsListIter i2 b i ∧ i ≤ n ∧ i ≤ m) where
  mem := List.mem_cons_self
  obj := fun i h st c hc => by
    obtain ⟨hz, hTI, ⟨x, y, hTO⟩, ⟨o1, e1, _, d1⟩, ⟨o2, e2, _, d2⟩, _⟩ := st
    simp only [List.mem_cons, List.not_mem_nil, or_false] at hc
    rcases hc with rfl | rfl | rfl | rfl | rfl
    · exact ⟨_, hz, fun v q => nomatch q⟩
    · exact ⟨_, hTI, fun v q => nomatch q⟩
    · exact ⟨_, hTO, fun v q => nomatch q⟩
    · exact ⟨o1, e1, fun v q => by rw [d1] at q; cases q⟩
    · exact ⟨o2, e2, fun v q => by rw [d2] at q; cases q⟩
  keep := fun i h h' st k => by
    obtain ⟨hz, hTI, ⟨x, y, hTO⟩, h1, h2, l⟩ := st
    exact ⟨k z (by simp) _ hz, k TI (by simp) _ hTI, ⟨x, y, k TO (by simp) _ hTO⟩, h1.at fun o q => k i1 (by simp) o q, h2.at fun o q => k i2 (by simp) o q, l⟩
  item := by
    intro X hP hw hK hc i pins s σ H E I hf st hg
    subst hP hw hK
    obtain ⟨hz, hTI, ⟨x0, y0, hTO⟩, h1, h2, l1, l2⟩ := st
    obtain ⟨xs, ys, x, y, hqx, hqy, ln, lm, hx, hy⟩ := hg
    obtain ⟨its, rv, p, _⟩ := I.tuple hqx
    obtain ⟨its2, rv2, p2, _⟩ := I.list hqy
    obtain ⟨u, hu, ru⟩ := rv.get hx
    obtain ⟨u2, hu2, ru2⟩ := rv2.get hy
    have hzl : z < s.heap.objs.size := Heap.lt_size hz
    have k1 : i < its.toArray.size := by simpa using (List.getElem?_eq_some_iff.mp hu).1
    have k2 : i < its2.toArray.size := by simpa using (List.getElem?_eq_some_iff.mp hu2).1
    have D1 := Draws.tuple (prog := X.prog) (w := X.w) (A := X.A.in1) (I.ok.hd hc) i1 a na its.toArray
    have D2 := Draws.list (prog := X.prog) (w := X.w) (A := X.A.in1) (I.ok.hd hc) i2 b nb its2.toArray
    refine wpAny_pyNext_zipD2_item D D1 D2 hz hTI hTO ⟨h1, p⟩ ⟨h2, p2.isList⟩ k1 k2 fun x1 x2 h' tk P1 P2 z' TO' st1 st2 hT hsz hk => ?_
    have e1 : x1 = u := by
      have e : its.toArray[i]? = some u := by simpa using hu
      exact Option.some.inj (P1.symm.trans e)
    have e2 : x2 = u2 := by
      have e : its2.toArray[i]? = some u2 := by simpa using hu2
      exact Option.some.inj (P2.symm.trans e)
    subst e1
    subst e2
    refine ⟨_, rfl, wpAny_letOwnedTupleGo_zip (s := { s with heap := h', toks := tk }) z' fun h'' z'' sb => ?_⟩
    have hT2 : h''.get? s.heap.objs.size = some { cls := .type "tuple", data := .seq #[x1, x2] } := (sb.2 _ (Nat.ne_of_gt hzl)).trans hT
    have new : ObjOk X.prog X.w (upd H s.heap.objs.size (.tup [x, y])) h'' s.heap.objs.size (.tup [x, y]) :=
      ⟨by show 2 ≤ sizeLine; decide, [x1, x2], .cons ru (.cons ru2 .nil), ⟨_, hT2, rfl, _, rfl⟩⟩
    have I1 : Inv X pins σ (upd H s.heap.objs.size (.tup [x, y])) { s with heap := h'', toks := tk } :=
      I.turnedNew (t' := tk) (ch := [z, TI, TO, i1, i2]) (fun c o hb q => (sb.2 c (fun q' => hb (by simp [q']))).trans (hk c o (fun q' => hb (by simp [q'])) (fun q' => hb (by simp [q'])) (fun q' => hb (by simp [q'])) (fun q' => hb (by simp [q'])) q)) hf (Nat.le_refl _) new
    have i1z : i1 ≠ z := fun q => D.zf1 (by rw [← q]; exact List.mem_cons_self)
    have i2z : i2 ≠ z := fun q => D.zf2 (by rw [← q]; exact List.mem_cons_self)
    refine ⟨.ref s.heap.objs.size, _, I1, rfl, ⟨_, x, y, rfl, I.hok.fresh (Nat.le_refl _), rfl, fun l hl => by rw [I.tuple_inj hl hqx]; exact hx, fun l hl => by rw [I.list_inj hl hqy]; exact hy⟩, ⟨z'', ?_, ⟨x1, x2, ?_⟩, ?_, ?_, ?_, ?_⟩, fun c hcm => ?_⟩
    · exact (sb.2 _ D.TIz).trans (hk _ _ D.TIz D.TITO D.TIi1 D.TIi2 hTI)
    · exact (sb.2 _ D.TOz).trans TO'
    · exact st1.1.at fun o q => (sb.2 _ i1z).trans q
    · exact st2.1.at fun o q => (sb.2 _ i2z).trans q
    · rw [← ln]
      exact (List.getElem?_eq_some_iff.mp hx).1
    · rw [← lm]
      exact (List.getElem?_eq_some_iff.mp hy).1
    · have hlt : c < s.heap.objs.size := by
        simp only [List.mem_cons, List.not_mem_nil, or_false] at hcm
        rcases hcm with rfl | rfl | rfl | rfl | rfl
        · exact hzl
        · exact Heap.lt_size hTI
        · exact Heap.lt_size hTO
        · obtain ⟨_, e1, _⟩ := h1
          exact Heap.lt_size e1
        · obtain ⟨_, e2, _⟩ := h2
          exact Heap.lt_size e2
      rw [upd_ne (Nat.ne_of_lt hlt)]
      exact (hf c hcm).1
  done := by
    intro X hP hw hK hc i pins s σ H E I hf st hg
    subst hP hw hK
    obtain ⟨hz, hTI, ⟨x0, y0, hTO⟩, h1, h2, l1, l2⟩ := st
    obtain ⟨xs, ys, hqx, hqy, ln, lm, hend⟩ := hg
    obtain ⟨its, rv, p, _⟩ := I.tuple hqx
    obtain ⟨its2, rv2, p2, _⟩ := I.list hqy
    have D1 := Draws.tuple (prog := X.prog) (w := X.w) (A := X.A.in1) (I.ok.hd hc) i1 a na its.toArray
    have D2 := Draws.list (prog := X.prog) (w := X.w) (A := X.A.in1) (I.ok.hd hc) i2 b nb its2.toArray
    have s1 : its.toArray.size = n := by rw [List.size_toArray, ← rv.length, ln]
    have s2 : its2.toArray.size = m := by rw [List.size_toArray, ← rv2.length, lm]
    refine wpAny_pyNext_zipD2_end D D1 D2 hz hTI hTO ⟨h1, p⟩ ⟨h2, p2.isList⟩ (by omega) (by omega) (by omega) fun h' tk hk => ⟨rfl, I.turnedL (t' := tk) (ch := [z, TI, TO, i1, i2]) (fun c o hb q =>
      hk c o (fun q' => hb (by simp [q'])) (fun q' => hb (by simp [q'])) (fun q' => hb (by simp [q'])) (fun q' => hb (by simp [q'])) q) hf⟩
  self := fun A i s Q E st h => wpAny_pyIter_zip st.1 h
theorem sep5 (N a b : Nat) (la : a < N) (lb : b < N) : ZipSep2 (N + 4) (N + 2) (N + 3) N (N + 1) [N, a] [N + 1, b] where
  TIz := fun z => absurd (show N + 2 = N + 4 from z) (by omega)
  TOz := fun z => absurd (show N + 3 = N + 4 from z) (by omega)
  TITO := fun z => absurd (show N + 2 = N + 3 from z) (by omega)
  TIi1 := fun z => absurd (show N + 2 = N from z) (by omega)
  mem1 := List.mem_cons_self
  zf1 := fun z => by
    rcases List.mem_cons.mp z with z | z
    · exact absurd (show N + 4 = N from z) (by omega)
    · exact absurd (show N + 4 = a from List.mem_singleton.mp z) (by omega)
  Tf1 := fun z => by
    rcases List.mem_cons.mp z with z | z
    · exact absurd (show N + 3 = N from z) (by omega)
    · exact absurd (show N + 3 = a from List.mem_singleton.mp z) (by omega)
  TIi2 := fun z => absurd (show N + 2 = N + 1 from z) (by omega)
  mem2 := List.mem_cons_self
  zf2 := fun z => by
    rcases List.mem_cons.mp z with z | z
    · exact absurd (show N + 4 = N + 1 from z) (by omega)
    · exact absurd (show N + 4 = b from List.mem_singleton.mp z) (by omega)
  Tf2 := fun z => by
    rcases List.mem_cons.mp z with z | z
    · exact absurd (show N + 3 = N + 1 from z) (by omega)
    · exact absurd (show N + 3 = b from List.mem_singleton.mp z) (by omega)
  sep1_2 := fun z => by
    rcases List.mem_cons.mp z with z | z
    · exact absurd (show N = N + 1 from z) (by omega)
    · exact absurd (show N = b from List.mem_singleton.mp z) (by omega)
  sep2_1 := fun z => by
    rcases List.mem_cons.mp z with z | z
    · exact absurd (show N + 1 = N from z) (by omega)
    · exact absurd (show N + 1 = a from List.mem_singleton.mp z) (by omega)
section
variable {X : Cx} {C : Cn} {pos : Pos}
def iZipM (K : PySem.W.Frag) (ta : TA) : TI := fun σ H R => ta σ H fun vs H1 => ∃ a b xs ys, vs = [.ref a, .ref b] ∧ SqT K H1 a xs ∧ SqL K H1 b ys ∧ R (ItzM K a b xs.length ys.length) H1
theorem pi_zipM {e e2 : Expr} {ta : TA} {p tpos : Pos} {elts : List Expr} {kk : Nat} (hg : Gl X "zip") (hm : X.mg "zip" = none) (ha : PA X [e, e2] ta)
    (hs : starEach [e, e2] X.env = (false, eval e X.env) :: starEach [e2] X.env := by rfl) (hpl : (backTo pos (starEach [e2] X.env)).any (·.1) = false := by rfl) :
    PI X (.Tuple elts kk tpos) (.Call (.Name "zip" p) [e, e2] [] pos) (iZipM X.K ta) := by
  refine ⟨fun pins s σ H R I h => ?_⟩
  refine Call_ (ld_blt I hg hm Boot.«zip» (PyProof.Rows.callWith_type1 (thn (ha.run pos pins s σ H _ I h) fun us s1 ⟨vs, H1, I1, r1, a, b, xs, ys, ex, hqx, hqy, q⟩ => ?_) hs hpl))
  subst ex
  obtain ⟨u, u', rfl, r, r'⟩ := vals2 r1
  cases r
  cases r'
  obtain ⟨its, rv, p1, _⟩ := I1.tuple hqx
  obtain ⟨its2, rv2, p2, _⟩ := I1.list hqy
  have la : a < s1.heap.objs.size := by obtain ⟨o, ho, _⟩ := id p1; exact Heap.lt_size ho
  have lb : b < s1.heap.objs.size := p2.lt
  refine zip_begins2 (begins_tuple a its.toArray) (begins_list b its2.toArray) p1 p2.isList fun h' hz hTI hTO h1 h2 hsz hk => wpAny_pyIter_zip hz ?_
  have I2 : Inv X pins σ H1 { s1 with heap := h' } := I1.kept (t' := s1.toks) hk
  have D : ZipSep2 (s1.heap.objs.size + 4) (s1.heap.objs.size + 2) (s1.heap.objs.size + 3) s1.heap.objs.size (s1.heap.objs.size + 1) [s1.heap.objs.size, a] [s1.heap.objs.size + 1, b] := sep5 _ a b la lb
  refine ⟨s1.heap.objs.size + 4, [s1.heap.objs.size + 4, s1.heap.objs.size + 2, s1.heap.objs.size + 3, s1.heap.objs.size, s1.heap.objs.size + 1], _, _, H1, rfl, I2, turn_zipM D (Nat.ne_of_lt la) (Nat.ne_of_lt (Nat.lt_succ_of_lt lb)), ⟨hz, hTI, ⟨_, _, hTO⟩, ⟨_, h1, rfl, rfl⟩, ⟨_, h2, rfl, rfl⟩, Nat.zero_le _, Nat.zero_le _⟩, fun c hc => ?_, q⟩
  have hle : s1.heap.objs.size ≤ c := by
    simp only [List.mem_cons, List.not_mem_nil, or_false] at hc
    rcases hc with rfl | rfl | rfl | rfl | rfl
    · exact Nat.le_add_right _ _
    · exact Nat.le_add_right _ _
    · exact Nat.le_add_right _ _
    · exact Nat.le_refl _
    · exact Nat.le_add_right _ _
  exact I1.fpOk hle (I1.hok.fresh hle)
theorem itR_zipM {Γ : Cfg} {w : Wd} {a b : Addr} {xs ys : List PV} {vs us : List V} (h : SqT Γ.K w.G a vs) (r : Reps Γ w xs vs) (k : SqL Γ.K w.G b us) (q : Reps Γ w ys us) : ItR Γ w noCk (zipZ xs ys) (ItzM Γ.K a b vs.length us.length) := fun L w' p H l S _ i => by
  have h' : SqT Γ.K H a vs := seqT_mono (fun b o e => S.sub b o (l.1 b o e)) h
  have k' : SqL Γ.K H b us := seqL_mono (fun b o e => S.sub b o (l.1 b o e)) k
  rw [zipZ_get]
  cases e : xs[i]? with
  | none => exact ⟨fun _ => ⟨vs, us, h', k', rfl, rfl, .inl (by rw [← r.length]; exact List.getElem?_eq_none_iff.mp e)⟩, (fun _ z => nomatch z)⟩
  | some x =>
    cases f : ys[i]? with
    | none => exact ⟨fun _ => ⟨vs, us, h', k', rfl, rfl, .inr (by rw [← q.length]; exact List.getElem?_eq_none_iff.mp f)⟩, (fun _ z => nomatch z)⟩
    | some y =>
      refine ⟨(fun z => nomatch z), fun t et => ?_⟩
      have et : PV.tup [x, y] = t := Option.some.inj et
      subst et
      obtain ⟨v, ev, rv⟩ := r.get e
      obtain ⟨u, eu, ru⟩ := q.get f
      refine ⟨⟨vs, us, v, u, h', k', rfl, rfl, ev, eu⟩, fun t H' hy => ?_⟩
      obtain ⟨T, z, z2, rfl, hT, rfl, hz, hz2⟩ := hy
      have e2 : z = v := Option.some.inj ((hz vs h').symm.trans ev)
      have e3 : z2 = u := Option.some.inj ((hz2 us k').symm.trans eu)
      subst e2
      subst e3
      exact new_tup S hT (Reps.cons (rv.mono l) (Reps.cons (ru.mono l) Reps.nil))
/-- zip of two lists, or of a tuple and a list, that don't change -/
def itZA (a : M (List PV)) : M It0 := fun en p => (a en p).bind fun xs p1 => match xs with
  | [.tup xs, y] => match getZL y with
    | some ys => .ok ⟨zipZ xs ys, noCk⟩ p1
    | none => .stuck
  | [x, y] => match getZL x, getZL y with
    | some xs, some ys => .ok ⟨zipZ xs ys, noCk⟩ p1
    | _, _ => .stuck
  | _ => .stuck
theorem ri_zipA {e e2 : Expr} {m : M (List PV)} {p tpos : Pos} {elts : List Expr} {kk : Nat} (hK : X.K = C.Γ.K) (hg : Gl X "zip") (hm : X.mg "zip" = none) (ha : RA X C [e, e2] m) (hs : starEach [e, e2] X.env = (false, eval e X.env) :: starEach [e2] X.env := by rfl) (hs2 : ((backTo pos (starEach [e2] X.env)).any fun x => x.1) = false := by rfl) :
    RI X C (.Tuple elts kk tpos) (.Call (.Name "zip" p) [e, e2] [] pos) (itZA m) := PI.imp (PI.or (pi_zip hg hm ha.pa hs hs2) (pi_zipM hg hm ha.pa hs hs2)) fun σ H R ⟨L, w, p, en, S, E, h⟩ => by
  rw [hK]
  unfold itZA at h
  cases ea : m en p with
  | exc c v p1 =>
    rw [ea] at h
    refine .inl ⟨L, w, p, en, S, E, ?_⟩
    rw [ea]
    exact h
  | stuck =>
    rw [ea] at h
    exact h.elim
  | ok xs p1 =>
    rw [ea] at h
    dsimp only [Res.bind] at h
    split at h
    · rename_i xs y
      split at h
      · rename_i ys ey
        refine .inr ⟨L, w, p, en, S, E, ?_⟩
        rw [ea]
        intro w1 H1 vs l1 S1 r1
        obtain ⟨v, u, rfl, rv, ru⟩ := reps2 r1
        obtain ⟨a, vs, rfl, hq, rr⟩ := rv
        obtain ⟨b, us, rfl, hq2, rr2⟩ := getZL_ok ru ey
        exact ⟨a, b, vs, us, rfl, seqT_mono S1.sub hq, seqL_mono S1.sub hq2, h w1 H1 _ l1 S1 (itR_zipM hq rr hq2 rr2)⟩
      · exact h.elim
    · rename_i x y _
      split at h
      · rename_i xs ys ex ey
        refine .inl ⟨L, w, p, en, S, E, ?_⟩
        rw [ea]
        intro w1 H1 vs l1 S1 r1
        obtain ⟨v, u, rfl, rv, ru⟩ := reps2 r1
        obtain ⟨a, vs, rfl, hq, rr⟩ := getZL_ok rv ex
        obtain ⟨b, us, rfl, hq2, rr2⟩ := getZL_ok ru ey
        exact ⟨a, b, vs, us, rfl, seqL_mono S1.sub hq, seqL_mono S1.sub hq2, h w1 H1 _ l1 S1 (itR_zip hq rr hq2 rr2)⟩
      · exact h.elim
    · exact h.elim
end
end R

/-! R17: tools for the plain part: what a mirror answers -/
namespace R
open PySem L2
theorem get_last {α : Type} (p : List α) (c : α) : (p ++ [c])[p.length]? = some c := by simp
theorem set_last {α : Type} (p : List α) (c d : α) : (p ++ [c]).set p.length d = p ++ [d] := by simp
theorem take_last {α : Type} (p : List α) (c : α) : (p ++ [c]).take p.length = p := by simp
theorem take_all1 {α : Type} (p : List α) (c : α) : (p ++ [c]).take (p.length + 1) = p ++ [c] := by
  rw [List.take_of_length_le]
  simp
theorem len1 {α : Type} (p : List α) (c : α) : (p ++ [c]).length = p.length + 1 := by simp
theorem take_set {p : Pool} {k : Nat} {c : Cell} : (p.set k c).take p.length = p.set k c := by
  rw [List.take_of_length_le]
  rw [List.length_set]
  exact Nat.le_refl _
/-! ### what has no cell in it -/
mutual
theorem sub_bel {s : Nat → Option PV} : ∀ {x : PV}, bel 0 x = true → sub s x = some x
  | .non, _ => rfl
  | .bl _, _ => rfl
  | .int _, _ => rfl
  | .str _, _ => rfl
  | .tup xs, h => by
    unfold sub
    rw [subs_bel (xs := xs) h]
  | .lst xs, h => by
    unfold sub
    rw [subs_bel (xs := xs) h]
  | .obj _ xs, h => by
    unfold sub
    rw [subs_bel (xs := xs) h]
  | .own k, h => absurd (of_decide_eq_true h) (Nat.not_lt_zero k)
  | .scr _, _ => rfl
  | .xs _ _, _ => rfl
  | .xv _ x, h => by
    unfold sub
    rw [sub_bel (x := x) h]
theorem subs_bel {s : Nat → Option PV} : ∀ {xs : List PV}, bels 0 xs = true → subs s xs = some xs
  | [], _ => rfl
  | x :: xs, h => by
    have h : (bel 0 x && bels 0 xs) = true := h
    rw [Bool.and_eq_true] at h
    unfold subs
    rw [sub_bel h.1]
    dsimp only
    rw [subs_bel h.2]
end
theorem thaw_bel {fld : Nat → List Str} {n : Nat} {p : Pool} {x : PV} (h : bel 0 x = true) : thaw fld n p x = some x := sub_bel h
theorem bels_iff {n : Nat} : ∀ {xs : List PV}, bels n xs = true ↔ ∀ x ∈ xs, bel n x = true
  | [] => ⟨fun _ _ h => (nomatch h), fun _ => rfl⟩
  | x :: xs => by
    show (bel n x && bels n xs) = true ↔ _
    rw [Bool.and_eq_true, bels_iff (xs := xs)]
    constructor
    · rintro ⟨h1, h2⟩ y hy
      rcases List.mem_cons.mp hy with rfl | hy
      · exact h1
      · exact h2 y hy
    · intro h
      exact ⟨h x List.mem_cons_self, fun y hy => h y (List.mem_cons_of_mem _ hy)⟩
theorem bel_le {n : Nat} {x : PV} (h : bel 0 x = true) : bel n x = true := bel_mono (Nat.zero_le n) h
theorem may_bel {b k : Nat} {x : PV} (h : bel 0 x = true) : may b k x = true := by
  unfold may
  rw [h, Bool.or_true]
theorem may_le {b k : Nat} {x : PV} (h : b ≤ k) : may b k x = true := by
  unfold may
  rw [decide_eq_true h, Bool.true_or]
theorem may_int (b k : Nat) (i : Int) : may b k (.int i) = true := may_bel rfl
theorem thaw_int {fld : Nat → List Str} {n : Nat} {p : Pool} (i : Int) : thaw fld n p (.int i) = some (.int i) := rfl
theorem thaw_bl {fld : Nat → List Str} {n : Nat} {p : Pool} (i : Bool) : thaw fld n p (.bl i) = some (.bl i) := rfl
theorem thaw_non {fld : Nat → List Str} {n : Nat} {p : Pool} : thaw fld n p .non = some .non := rfl
theorem put0 (c : Nat) (y : PV) : putC c 0 y (.obj c []) = some (.obj c [y]) := by simp [putC]
theorem put1 (c : Nat) (x y : PV) : putC c 1 y (.obj c [x]) = some (.obj c [x, y]) := by simp [putC]
theorem put2 (c : Nat) (x z y : PV) : putC c 2 y (.obj c [x, z]) = some (.obj c [x, z, y]) := by simp [putC]
theorem thaw_obj {fld : Nat → List Str} {c : Nat} {xs : List PV} {p : Pool} (hl : xs.length = (fld c).length) (h : bels 0 xs = true) : thaw fld p.length (p ++ [.obj c xs]) (.own p.length) = some (.obj c xs) := by
  show thw fld p.length (p ++ [.obj c xs]) deep p.length = _
  unfold deep thw
  rw [if_neg (Nat.lt_irrefl _), get_last]
  dsimp only
  rw [if_pos hl, subs_bel h]
theorem thaw_lst {fld : Nat → List Str} {xs : List PV} {p : Pool} (h : bels 0 xs = true) : thaw fld p.length (p ++ [.lst xs]) (.own p.length) = some (.lst xs) := by
  show thw fld p.length (p ++ [.lst xs]) deep p.length = _
  unfold deep thw
  rw [if_neg (Nat.lt_irrefl _), get_last]
  dsimp only
  rw [subs_bel h]
/-! ### items -/
theorem atI_nat {α : Type} (xs : List α) (i : Nat) : atI xs (i : Int) = xs[i]? := by
  unfold atI ixN
  rw [if_pos (Int.natCast_nonneg i)]
  by_cases h : (i : Int) < xs.length
  · rw [if_pos h, Int.toNat_natCast]
    rfl
  · rw [if_neg h, List.getElem?_eq_none (by omega)]
    rfl
theorem atI_0 {α : Type} (x : α) (xs : List α) : atI (x :: xs) 0 = some x := atI_nat (x :: xs) 0
theorem atI_1 {α : Type} (x y : α) (xs : List α) : atI (x :: y :: xs) 1 = some y := atI_nat (x :: y :: xs) 1
theorem atI_2 {α : Type} (x y z : α) (xs : List α) : atI (x :: y :: z :: xs) 2 = some z := atI_nat (x :: y :: z :: xs) 2
theorem atI_3 {α : Type} (x y z t : α) (xs : List α) : atI (x :: y :: z :: t :: xs) 3 = some t := atI_nat (x :: y :: z :: t :: xs) 3
theorem atI_mem {α : Type} (xs : List α) (d : Int) (h0 : 0 ≤ d) (h1 : d < xs.length) : ∃ x, x ∈ xs ∧ atI xs d = some x := by
  have hl : d.toNat < xs.length := by omega
  refine ⟨xs[d.toNat], List.getElem_mem hl, ?_⟩
  have h := atI_nat xs d.toNat
  rw [Int.toNat_of_nonneg h0] at h
  rw [h]
  exact List.getElem?_eq_getElem hl
theorem ixN_30 : ixN (0 + 1 + 1 + 1) 0 = some 0 := rfl
theorem ixN_31 : ixN (0 + 1 + 1 + 1) 1 = some 1 := rfl
theorem ixN_32 : ixN (0 + 1 + 1 + 1) 2 = some 2 := rfl
theorem ixN_nat {n i : Nat} (h : i < n) : ixN n (i : Int) = some i := by
  unfold ixN
  rw [if_pos (Int.natCast_nonneg i), if_pos (by omega), Int.toNat_natCast]
/-! ### == of numbers -/
theorem pEq_int (a b : Int) (p : Pool) : pEq (.int a) (.int b) p = .ok (.bl (decide (a = b))) p := by
  have h : eqD (.int a) (.int b) = some (decide (a = b)) := by
    show (if SeqAt.shaped (.int a) = true ∧ SeqAt.shaped (.int b) = true then some (PyData.eqv (.int a) (.int b)) else none) = _
    rfl
  unfold pEq
  rw [h]
theorem pNe_int (a b : Int) (p : Pool) : pNe (.int a) (.int b) p = .ok (.bl (!decide (a = b))) p := by
  have h : eqD (.int a) (.int b) = some (decide (a = b)) := by
    show (if SeqAt.shaped (.int a) = true ∧ SeqAt.shaped (.int b) = true then some (PyData.eqv (.int a) (.int b)) else none) = _
    rfl
  unfold pNe
  rw [h]
/-! ### functions -/
theorem fnM_ret {fld : Nat → List Str} {N : Nat} {body : R.S} {xs : List PV} {p q : Pool} {x y : PV} (h : body ⟨p.length, xs.map some ++ List.replicate (N - xs.length) none⟩ p = .ret x q) (t : thaw fld p.length q x = some y) : fnM fld N body xs p = .ok y (q.take p.length) := by
  unfold fnM
  rw [h]
  dsimp only
  rw [t]
theorem fnM_nx {fld : Nat → List Str} {N : Nat} {body : R.S} {xs : List PV} {p q : Pool} {en : En} (h : body ⟨p.length, xs.map some ++ List.replicate (N - xs.length) none⟩ p = .next en q) : fnM fld N body xs p = .ok .non (q.take p.length) := by
  unfold fnM
  rw [h]
/-! ### comprehensions -/
theorem loopC_map {ck : Pool → Bool} {g : T1} {tt : M Bool} {te : M PV} {vs : List Nat} {en : En} {p : Pool} {f : PV → Option PV} (hck : ∀ acc, ck (p ++ [.lst acc]) = true) : ∀ (xs acc : List PV),
    (∀ x, x ∈ xs → ∃ as : As, g x = some as ∧ as.all (fun a => vs.elem a.1) = true ∧ ∀ acc, tt (en.sets as) (p ++ [.lst acc]) = .ok (f x).isSome (p ++ [.lst acc]) ∧ ∀ y, f x = some y → te (en.sets as) (p ++ [.lst acc]) = .ok y (p ++ [.lst acc]) ∧ bel p.length y = true) →
    acc.length + xs.length ≤ big → loopC ck g tt te vs p.length en xs (p ++ [.lst acc]) = .ok () (p ++ [.lst (acc ++ xs.filterMap f)])
  | [], acc, _, _ => by
    rw [List.filterMap_nil, List.append_nil]
    unfold loopC
    rw [if_pos (hck acc)]
  | x :: xs, acc, h, hl => by
    obtain ⟨as, eg, ea, ht⟩ := h x List.mem_cons_self
    obtain ⟨t1, t2⟩ := ht acc
    rw [List.length_cons] at hl
    unfold loopC
    rw [if_pos (hck acc), eg]
    dsimp only
    rw [if_pos ea, t1]
    dsimp only [Res.bind]
    cases ef : f x with
    | none =>
      rw [if_neg (by simp), take_all1, List.filterMap_cons_none ef]
      exact loopC_map hck xs acc (fun y hy => h y (List.mem_cons_of_mem _ hy)) (by omega)
    | some y =>
      obtain ⟨t3, t4⟩ := t2 y ef
      rw [if_pos (by simp), t3]
      dsimp only [Res.bind]
      rw [get_last]
      dsimp only
      rw [if_pos ⟨t4, by omega⟩, take_all1, set_last, loopC_map hck xs (acc ++ [y]) (fun y hy => h y (List.mem_cons_of_mem _ hy)) (by rw [List.length_append, List.length_singleton]; omega), List.filterMap_cons_some ef, List.append_assoc]
      rfl
theorem mLc_map {it : M It0} {g : T1} {tt : M Bool} {te : M PV} {vs : List Nat} {en : En} {p p1 : Pool} {z : It0} (f : PV → Option PV) (hi : it en p = .ok z p1) (hck : ∀ acc, z.ck (p1 ++ [.lst acc]) = true)
    (h : ∀ x, x ∈ z.xs → ∃ as : As, g x = some as ∧ as.all (fun a => vs.elem a.1) = true ∧ ∀ acc, tt (En.sets ⟨p1.length + 1, wipeE en.sl vs⟩ as) (p1 ++ [.lst acc]) = .ok (f x).isSome (p1 ++ [.lst acc]) ∧ ∀ y, f x = some y → te (En.sets ⟨p1.length + 1, wipeE en.sl vs⟩ as) (p1 ++ [.lst acc]) = .ok y (p1 ++ [.lst acc]) ∧ bel p1.length y = true)
    (hl : z.xs.length ≤ big) : mLc it g tt te vs en p = .ok (.lst (z.xs.filterMap f)) p1 := by
  unfold mLc
  rw [hi]
  dsimp only [Res.bind]
  rw [loopC_map hck z.xs [] h (by rw [List.length_nil]; omega)]
  dsimp only
  rw [get_last]
  dsimp only
  rw [List.nil_append, take_last]
theorem mLcO_map {it : M It0} {g : T1} {tt : M Bool} {te : M PV} {vs : List Nat} {en : En} {p p1 : Pool} {z : It0} (f : PV → Option PV) (hi : it en p = .ok z p1) (hck : ∀ acc, z.ck (p1 ++ [.lst acc]) = true)
    (h : ∀ x, x ∈ z.xs → ∃ as : As, g x = some as ∧ as.all (fun a => vs.elem a.1) = true ∧ ∀ acc, tt (En.sets ⟨p1.length + 1, wipeE en.sl vs⟩ as) (p1 ++ [.lst acc]) = .ok (f x).isSome (p1 ++ [.lst acc]) ∧ ∀ y, f x = some y → te (En.sets ⟨p1.length + 1, wipeE en.sl vs⟩ as) (p1 ++ [.lst acc]) = .ok y (p1 ++ [.lst acc]) ∧ bel p1.length y = true)
    (hl : z.xs.length ≤ big) : mLcO it g tt te vs en p = .ok (.own p1.length) (p1 ++ [.lst (z.xs.filterMap f)]) := by
  unfold mLcO
  rw [hi]
  dsimp only [Res.bind]
  rw [loopC_map hck z.xs [] h (by rw [List.length_nil]; omega)]
  dsimp only
  rw [List.nil_append]
/-- .. whose items change cells below: I says of what is left, what was gathered, the cells -/
theorem loopC_inv {ck : Pool → Bool} {g : T1} {tt : M Bool} {te : M PV} {vs : List Nat} {en : En} {n : Nat} (I : List PV → List PV → Pool → Prop) (hck : ∀ r acc p, p.length = n → I r acc p → ck (p ++ [.lst acc]) = true)
    (h : ∀ x r acc p, p.length = n → I (x :: r) acc p → ∃ as : As, g x = some as ∧ as.all (fun a => vs.elem a.1) = true ∧
      ((∃ p2, tt (en.sets as) (p ++ [.lst acc]) = .ok false (p2 ++ [.lst acc]) ∧ p2.length = n ∧ I r acc p2) ∨
       (∃ p2 y p3, tt (en.sets as) (p ++ [.lst acc]) = .ok true (p2 ++ [.lst acc]) ∧ te (en.sets as) (p2 ++ [.lst acc]) = .ok y (p3 ++ [.lst acc]) ∧ p3.length = n ∧ bel n y = true ∧ I r (acc ++ [y]) p3))) :
    ∀ (xs acc : List PV) (p : Pool), p.length = n → acc.length + xs.length ≤ big → I xs acc p → ∃ acc' p', loopC ck g tt te vs n en xs (p ++ [.lst acc]) = .ok () (p' ++ [.lst acc']) ∧ p'.length = n ∧ I [] acc' p'
  | [], acc, p, hp, _, hI => by
    refine ⟨acc, p, ?_, hp, hI⟩
    unfold loopC
    rw [if_pos (hck [] acc p hp hI)]
  | x :: xs, acc, p, hp, hl, hI => by
    obtain ⟨as, eg, ea, ht⟩ := h x xs acc p hp hI
    rw [List.length_cons] at hl
    unfold loopC
    rw [if_pos (hck _ acc p hp hI), eg]
    dsimp only
    rw [if_pos ea]
    rcases ht with ⟨p2, t1, e2, I2⟩ | ⟨p2, y, p3, t1, t2, e3, hb, I3⟩
    · rw [t1]
      dsimp only [Res.bind]
      subst e2
      rw [if_neg Bool.false_ne_true, take_all1]
      exact loopC_inv I hck h xs acc p2 rfl (by omega) I2
    · rw [t1]
      dsimp only [Res.bind]
      rw [if_pos rfl, t2]
      dsimp only [Res.bind]
      subst e3
      rw [get_last]
      dsimp only
      rw [if_pos ⟨hb, by omega⟩, take_all1, set_last]
      exact loopC_inv I hck h xs (acc ++ [y]) p3 rfl (by rw [List.length_append, List.length_singleton]; omega) I3
theorem mLc_inv {it : M It0} {g : T1} {tt : M Bool} {te : M PV} {vs : List Nat} {en : En} {p p1 : Pool} {z : It0} (I : List PV → List PV → Pool → Prop) (hi : it en p = .ok z p1) (hck : ∀ r acc q, q.length = p1.length → I r acc q → z.ck (q ++ [.lst acc]) = true)
    (h : ∀ x r acc q, q.length = p1.length → I (x :: r) acc q → ∃ as : As, g x = some as ∧ as.all (fun a => vs.elem a.1) = true ∧
      ((∃ p2, tt (En.sets ⟨p1.length + 1, wipeE en.sl vs⟩ as) (q ++ [.lst acc]) = .ok false (p2 ++ [.lst acc]) ∧ p2.length = p1.length ∧ I r acc p2) ∨
       (∃ p2 y p3, tt (En.sets ⟨p1.length + 1, wipeE en.sl vs⟩ as) (q ++ [.lst acc]) = .ok true (p2 ++ [.lst acc]) ∧ te (En.sets ⟨p1.length + 1, wipeE en.sl vs⟩ as) (p2 ++ [.lst acc]) = .ok y (p3 ++ [.lst acc]) ∧ p3.length = p1.length ∧ bel p1.length y = true ∧ I r (acc ++ [y]) p3)))
    (hl : z.xs.length ≤ big) (h0 : I z.xs [] p1) : ∃ acc p', mLc it g tt te vs en p = .ok (.lst acc) p' ∧ p'.length = p1.length ∧ I [] acc p' := by
  obtain ⟨acc, p', e, hp, hI⟩ := loopC_inv I hck h z.xs [] p1 rfl (by rw [List.length_nil]; omega) h0
  refine ⟨acc, p', ?_, hp, hI⟩
  unfold mLc
  rw [hi]
  dsimp only [Res.bind]
  rw [e]
  dsimp only
  rw [← hp, get_last]
  dsimp only
  rw [take_last]
/-! ### loops -/
theorem loopF_inv {ck : Pool → Bool} {g : T1} {body : S} (I : List PV → En → Pool → Prop) (hck : ∀ r en p, I r en p → ck p = true) (h : ∀ x r en p, I (x :: r) en p → ∃ as en2 p2, g x = some as ∧ body (en.sets as) p = .next en2 p2 ∧ I r en2 p2) :
    ∀ (xs : List PV) (en : En) (p : Pool), I xs en p → ∃ en2 p2, loopF ck g body xs en p = .next en2 p2 ∧ I [] en2 p2
  | [], en, p, hI => ⟨en, p, by unfold loopF; rw [if_pos (hck _ _ _ hI)], hI⟩
  | x :: xs, en, p, hI => by
    obtain ⟨as, en2, p2, eg, eb, h2⟩ := h x xs en p hI
    obtain ⟨en3, p3, e3, h3⟩ := loopF_inv I hck h xs en2 p2 h2
    refine ⟨en3, p3, ?_, h3⟩
    unfold loopF
    rw [if_pos (hck _ _ _ hI), eg]
    dsimp only
    rw [eb]
    exact e3
theorem sFor_inv {it : M It0} {g : T1} {body : S} {en : En} {p p1 : Pool} {z : It0} (I : List PV → En → Pool → Prop) (hi : it en p = .ok z p1) (hck : ∀ r en p, I r en p → z.ck p = true) (h : ∀ x r en p, I (x :: r) en p → ∃ as en2 p2, g x = some as ∧ body (en.sets as) p = .next en2 p2 ∧ I r en2 p2) (h0 : I z.xs en p1) :
    ∃ en2 p2, sFor it g body en p = .next en2 p2 ∧ I [] en2 p2 := by
  obtain ⟨en2, p2, e, hI⟩ := loopF_inv I hck h z.xs en p1 h0
  refine ⟨en2, p2, ?_, hI⟩
  unfold sFor
  rw [hi]
  exact e
/-- while: μ becomes less -/
theorem loopW_inv {t : M Bool} {body : S} (I : Nat → En → Pool → Prop) (J : En → Pool → Prop) (h : ∀ n en p, I n en p → ∃ b p1, t en p = .ok b p1 ∧ ((b = false ∧ J en p1) ∨ (b = true ∧ ∃ en2 p2 m, body en p1 = .next en2 p2 ∧ m < n ∧ I m en2 p2))) :
    ∀ (f n : Nat) (en : En) (p : Pool), n < f → I n en p → ∃ en2 p2, loopW t body f en p = .next en2 p2 ∧ J en2 p2
  | 0, n, en, p, hn, _ => absurd hn (Nat.not_lt_zero n)
  | f + 1, n, en, p, hn, hI => by
    obtain ⟨b, p1, et, hb⟩ := h n en p hI
    rcases hb with ⟨rfl, hJ⟩ | ⟨rfl, en2, p2, m, eb, hm, hI2⟩
    · refine ⟨en, p1, ?_, hJ⟩
      unfold loopW
      rw [et]
      rfl
    · obtain ⟨en3, p3, e3, hJ⟩ := loopW_inv I J h f m en2 p2 (by omega) hI2
      refine ⟨en3, p3, ?_, hJ⟩
      unfold loopW
      rw [et]
      dsimp only [Res.run]
      rw [if_pos rfl, eb]
      exact e3
end R

/-! R18: loops by index -/
namespace R
open PySem L2
theorem loopF_idx {ck : Pool → Bool} {g : T1} {body : S} (I : Nat → En → Pool → Prop) (xs : List PV) (hck : ∀ j en p, I j en p → ck p = true) (h : ∀ (j : Nat) (hj : j < xs.length) en p, I j en p → ∃ as en2 p2, g xs[j] = some as ∧ body (en.sets as) p = .next en2 p2 ∧ I (j + 1) en2 p2) :
    ∀ (n j : Nat) (en : En) (p : Pool), j + n = xs.length → I j en p → ∃ en2 p2, loopF ck g body (xs.drop j) en p = .next en2 p2 ∧ I xs.length en2 p2
  | 0, j, en, p, e, hI => by
    have e : j = xs.length := by omega
    subst e
    refine ⟨en, p, ?_, hI⟩
    rw [List.drop_length]
    unfold loopF
    rw [if_pos (hck _ _ _ hI)]
  | n + 1, j, en, p, e, hI => by
    have hj : j < xs.length := by omega
    obtain ⟨as, en2, p2, eg, eb, h2⟩ := h j hj en p hI
    obtain ⟨en3, p3, e3, h3⟩ := loopF_idx I xs hck h n (j + 1) en2 p2 (by omega) h2
    refine ⟨en3, p3, ?_, h3⟩
    rw [List.drop_eq_getElem_cons hj]
    unfold loopF
    rw [if_pos (hck _ _ _ hI), eg]
    dsimp only
    rw [eb]
    exact e3
theorem sFor_idx {it : M It0} {g : T1} {body : S} {en : En} {p p1 : Pool} {z : It0} (I : Nat → En → Pool → Prop) (hi : it en p = .ok z p1) (hck : ∀ j en p, I j en p → z.ck p = true) (h : ∀ (j : Nat) (hj : j < z.xs.length) en p, I j en p → ∃ as en2 p2, g z.xs[j] = some as ∧ body (en.sets as) p = .next en2 p2 ∧ I (j + 1) en2 p2) (h0 : I 0 en p1) :
    ∃ en2 p2, sFor it g body en p = .next en2 p2 ∧ I z.xs.length en2 p2 := by
  obtain ⟨en2, p2, e, hI⟩ := loopF_idx I z.xs hck h z.xs.length 0 en p1 (by omega) h0
  refine ⟨en2, p2, ?_, hI⟩
  unfold sFor
  rw [hi]
  exact e
theorem itR1_ok {a : M (List PV)} {en : En} {p p1 : Pool} {n : Nat} (ha : a en p = .ok [.int n] p1) (hn : n ≤ big) : itR1 a en p = .ok ⟨rng 0 n, noCk⟩ p1 := by
  have h2 : n < 2 ^ 62 := by
    have h3 : big ≤ 2 ^ 61 := by unfold big; omega
    omega
  have h1 : -(2 ^ 62) ≤ (n : Int) ∧ (n : Int) < 2 ^ 62 := ⟨by omega, by omega⟩
  have e : itR1 a en p = if -(2 ^ 62) ≤ (n : Int) ∧ (n : Int) < 2 ^ 62 then .ok ⟨rng 0 (n : Int).toNat, noCk⟩ p1 else .stuck := by
    simp only [itR1, ha, Res.bind]
  rw [e, if_pos h1, Int.toNat_natCast]
theorem rng_len (lo : Int) (n : Nat) : (rng lo n).length = n := by
  unfold rng
  rw [List.length_map, List.length_range]
theorem rng_get (n j : Nat) (h : j < (rng 0 n).length) : (rng 0 n)[j] = .int j := by
  have h' : j < n := by rw [rng_len] at h; exact h
  have e : (rng 0 n)[j]? = some (.int j) := by
    unfold rng
    rw [List.getElem?_map, List.getElem?_range h']
    show some (PV.int (0 + (j : Int))) = _
    rw [Int.zero_add]
  exact (List.getElem?_eq_some_iff.mp e).2
/-- for i in range(n) -/
theorem sFor_range {a : M (List PV)} {i : Nat} {body : S} {en : En} {p p1 : Pool} {n : Nat} (I : Nat → En → Pool → Prop) (ha : a en p = .ok [.int n] p1) (hn : n ≤ big) (h : ∀ (j : Nat) en p, j < n → I j en p → ∃ en2 p2, body (en.set i (.int j)) p = .next en2 p2 ∧ I (j + 1) en2 p2) (h0 : I 0 en p1) :
    ∃ en2 p2, sFor (itR1 a) (tgN i) body en p = .next en2 p2 ∧ I n en2 p2 := by
  obtain ⟨en2, p2, e, hI⟩ := sFor_idx (it := itR1 a) (g := tgN i) (body := body) I (itR1_ok ha hn) (fun _ _ _ _ => rfl) (fun j hj en p hI => by
    have hj' : j < n := by rw [rng_len] at hj; exact hj
    obtain ⟨en2, p2, e, h2⟩ := h j en p hj' hI
    exact ⟨[(i, .int j)], en2, p2, by rw [rng_get n j hj]; rfl, e, h2⟩) h0
  refine ⟨en2, p2, e, ?_⟩
  rw [rng_len] at hI
  exact hI
end R

/-! R19: the sum of a tuple -/
namespace R
open PySem L2
open PySem.Spec PySem.Calls PyProof.Rows PyProof.V
section
variable {prog : Program} {w : World} {A : Around} {E : Value → Shared → Prop} {s : Shared} {l : Addr} {its : List Value} {ns : List Int} {Q : Value → Shared → Prop}
theorem sum_rawT (hh : A.handled = none) (hl : s.heap.IsTuple l its.toArray) (hi : IntsAre its ns)
    (h : ∀ h' tk t', (∀ b o, s.heap.get? b = some o → h'.get? b = some o) → Q (.int ns.sum t') { s with heap := h', toks := tk }) : wpAny (model prog w) A (call (.builtin "sum") [.ref l]) Q E s := by
  obtain ⟨xs, e⟩ := hi.allInts.items
  have hn : numsOf (intItems xs).toList = ns := by rw [← e]; exact hi.numsOf
  rw [nums_intItems] at hn
  rw [e] at hl
  refine PySem.W.ktm_sumG hh hl fun h' tk t' hk => ?_
  have := h h' tk t' hk
  rw [preSum_eq, List.take_of_length_le (by simp), hn]; exact this
end
section
variable {X : Cx} {C : Cn}
def rSumT (K : PySem.W.Frag) : List V → Hp → VK → Prop := fun vs H Q => ∃ (a : Addr) (ns : List Int), vs = [V.ref a] ∧ SqT K H a (ns.map V.int) ∧ Q (.int ns.sum) H
theorem cr_sumT (hc : X.calm = true) : CallR X (.builtin "sum") (rSumT X.K) := by
  intro pins s σ H vs us Q I r h
  obtain ⟨a, ns, rfl, hs, q⟩ := h
  obtain ⟨its, rv, hl, _⟩ := I.tuple hs
  rw [Vals.ref1 r]
  exact sum_rawT (I.ok.hd hc) hl rv.ints fun h' tk t' hk => ⟨.int _, H, I.kept hk, ⟨_, rfl⟩, q⟩
/-- sum of a list or a tuple -/
def cSumA : FC := fun xs p => match xs with
  | [.tup ys] => match its ys with
    | some is => .ok (.int is.sum) p
    | none => .stuck
  | xs => cSum xs p
def rSumA (K : PySem.W.Frag) : List V → Hp → VK → Prop := fun xs H Q => rSum K xs H Q ∨ rSumT K xs H Q
theorem call_sumAU (hc : X.calm = true) (hK : X.K = C.Γ.K) : CallR X (.builtin "sum") (rSumA C.Γ.K) := hK ▸ CallR.or (cr_sum hc) (cr_sumT hc)
theorem ref_sumA : RefC C (rSumA C.Γ.K) cSumA := fun L w p H σ xs vs Q S r q => by
  unfold cSumA at q
  split at q
  · rename_i ys
    split at q
    · rename_i is e
      obtain ⟨v, rfl, rq⟩ := reps1 r
      obtain ⟨a, us, rfl, h, rr⟩ := rq
      have e2 := its_ok rr e
      subst e2
      exact .inr ⟨a, is, rfl, seqT_mono S.sub h, q.ok S rfl⟩
    · exact q.elim
  · exact .inl (ref_sum L w p H σ _ vs Q S r q)
theorem cSumA_tup (r : List Int) (p : Pool) : cSumA [.tup (r.map .int)] p = .ok (.int r.sum) p := by
  have h : ∀ r : List Int, its (r.map .int) = some r := fun r => by
    induction r with
    | nil => rfl
    | cons x r ih =>
      rw [List.map_cons]
      unfold its
      rw [ih]
  unfold cSumA
  dsimp only
  rw [h]
end
end R

/-! R20: statements and expressions one by one -/
namespace R
open PySem L2
section
variable {en en1 : En} {p p1 p2 p3 : Pool}
theorem seq_nx {a b : S} (h : a en p = .next en1 p1) : sSeq a b en p = b en1 p1 := by
  unfold sSeq
  rw [h]
  rfl
theorem seq_ret {a b : S} {x : PV} (h : a en p = .ret x p1) : sSeq a b en p = .ret x p1 := by
  unfold sSeq
  rw [h]
  rfl
theorem set_nx {m : M PV} {i : Nat} {x : PV} (h : m en p = .ok x p1) : sSet m i en p = .next (en.set i x) p1 := by
  unfold sSet
  rw [h]
  rfl
theorem asg_nx {m : M PV} {g : T1} {x : PV} {as : As} (h : m en p = .ok x p1) (hg : g x = some as) : sAsg m g en p = .next (en.sets as) p1 := by
  unfold sAsg
  rw [h]
  dsimp only [Res.run]
  rw [hg]
theorem if_t {t : M Bool} {a b : S} (h : t en p = .ok true p1) : sIf t a b en p = a en p1 := by
  unfold sIf
  rw [h]
  rfl
theorem if_f {t : M Bool} {a b : S} (h : t en p = .ok false p1) : sIf t a b en p = b en p1 := by
  unfold sIf
  rw [h]
  rfl
theorem ret_ok {m : M PV} {x : PV} (h : m en p = .ok x p1) : sRet m en p = .ret x p1 := by
  unfold sRet
  rw [h]
  rfl
theorem expr_nx {m : M PV} {x : PV} (h : m en p = .ok x p1) : sExpr m en p = .next en p1 := by
  unfold sExpr
  rw [h]
  rfl
theorem var_ok {i : Nat} {x : PV} (h : en.sl[i]? = some (some x)) : mVar i en p = .ok x p := by
  unfold mVar
  rw [h]
theorem cons_ok {a : M PV} {r : M (List PV)} {x : PV} {xs : List PV} (h1 : a en p = .ok x p1) (h2 : r en p1 = .ok xs p2) : mCons a r en p = .ok (x :: xs) p2 := by
  unfold mCons
  rw [h1]
  dsimp only [Res.bind]
  rw [h2]
theorem one_ok {a : M PV} {x : PV} (h1 : a en p = .ok x p1) : mCons a mNil en p = .ok [x] p1 := cons_ok h1 rfl
theorem two_ok {a b : M PV} {x y : PV} (h1 : a en p = .ok x p1) (h2 : b en p1 = .ok y p2) : mCons a (mCons b mNil) en p = .ok [x, y] p2 := cons_ok h1 (one_ok h2)
theorem three_ok {a b c : M PV} {x y z : PV} (h1 : a en p = .ok x p1) (h2 : b en p1 = .ok y p2) (h3 : c en p2 = .ok z p3) : mCons a (mCons b (mCons c mNil)) en p = .ok [x, y, z] p3 := cons_ok h1 (two_ok h2 h3)
theorem fn_ok {f : FnM} {ds xs : List PV} {a : M (List PV)} {r : Res PV} (h : a en p = .ok xs p1) (hf : f (xs ++ ds) p1 = r) : mFn f ds a en p = r := by
  unfold mFn
  rw [h]
  exact hf
theorem fn0_ok {f : FnM} {xs : List PV} {a : M (List PV)} {r : Res PV} (h : a en p = .ok xs p1) (hf : f xs p1 = r) : mFn f [] a en p = r := fn_ok h (by rw [List.append_nil]; exact hf)
theorem call_ok {f : FC} {xs : List PV} {a : M (List PV)} {r : Res PV} (h : a en p = .ok xs p1) (hf : f xs p1 = r) : mCall f a en p = r := by
  unfold mCall
  rw [h]
  exact hf
theorem bin_ok {f : F2} {a b : M PV} {x y : PV} {r : Res PV} (h1 : a en p = .ok x p1) (h2 : b en p1 = .ok y p2) (hf : f x y p2 = r) : mBin f a b en p = r := by
  unfold mBin
  rw [h1]
  dsimp only [Res.bind]
  rw [h2]
  exact hf
theorem tup_ok {xs : List PV} {a : M (List PV)} (h : a en p = .ok xs p1) : mTup a en p = .ok (.tup xs) p1 := by
  unfold mTup
  rw [h]
  rfl
theorem b_ok {m : M PV} {b : Bool} (h : m en p = .ok (.bl b) p1) : mB m en p = .ok b p1 := by
  unfold mB
  rw [h]
  rfl
theorem pIx_nat {x : PV} {xs : List PV} {i : Nat} {y : PV} (h : getQ p x = some xs) (e : xs[i]? = some y) : pIx x (.int (i : Int)) p = .ok y p := by
  unfold pIx
  dsimp only
  rw [h]
  dsimp only
  rw [atI_nat, e]
theorem pIx_int {x : PV} {xs : List PV} {i : Int} {y : PV} (h : getQ p x = some xs) (e : atI xs i = some y) : pIx x (.int i) p = .ok y p := by
  unfold pIx
  dsimp only
  rw [h]
  dsimp only
  rw [e]
theorem may_eq (n : Nat) (x : PV) : may n n x = true := may_le (Nat.le_refl n)
theorem mayL_le {b k : Nat} {xs : List PV} (h : b ≤ k) : mayL b k xs = true := by
  unfold mayL
  rw [decide_eq_true h, Bool.true_or]
theorem mayL_bels {b k : Nat} {xs : List PV} (h : bels 0 xs = true) : mayL b k xs = true := by
  unfold mayL
  rw [h, Bool.or_true]
/-- xs.append(y) -/
theorem app_ok {o a : M PV} {k : Nat} {xs0 xs : List PV} {y : PV} (h1 : o en p = .ok (.own k) p1) (h2 : p1[k]? = some (.lst xs0)) (ha : a en p1 = .ok y p2) (h3 : p2[k]? = some (.lst xs)) (hm : mayL en.b k (xs ++ [y]) = true) (hl : xs.length < big) :
    mMet fAppend o (mCons a mNil) en p = .ok .non (p2.set k (.lst (xs ++ [y]))) := by
  have hl2 : (xs ++ [y]).length ≤ big := by rw [List.length_append, List.length_singleton]; exact hl
  have e2 := one_ok ha
  unfold mMet
  rw [h1]
  dsimp only [Res.bind]
  rw [h2]
  dsimp only
  rw [e2]
  dsimp only [Res.bind]
  rw [h3]
  dsimp only [fAppend]
  rw [if_pos ⟨hm, hl2⟩]
theorem app_nx {i : Nat} {a : M PV} {k : Nat} {xs0 xs : List PV} {y : PV} (h1 : en.sl[i]? = some (some (.own k))) (h2 : p[k]? = some (.lst xs0)) (ha : a en p = .ok y p2) (h3 : p2[k]? = some (.lst xs)) (hm : mayL en.b k (xs ++ [y]) = true) (hl : xs.length < big) :
    sExpr (mMet fAppend (mVar i) (mCons a mNil)) en p = .next en (p2.set k (.lst (xs ++ [y]))) := expr_nx (app_ok (var_ok h1) h2 ha h3 hm hl)
/-- xs[i] = y -/
theorem ix_nx {o i a : M PV} {k n : Nat} {xs : List PV} {y : PV} (ha : a en p = .ok y p1) (ho : o en p1 = .ok (.own k) p2) (hi : i en p2 = .ok (.int n) p3) (hk : p3[k]? = some (.lst xs)) (hn : n < xs.length) (hm : may en.b k y = true) :
    sIx o i a en p = .next en (p3.set k (.lst (xs.set n y))) := by
  unfold sIx
  rw [ha]
  dsimp only [Res.run]
  rw [ho]
  dsimp only [Res.run]
  rw [hi]
  dsimp only [Res.run]
  rw [hk]
  dsimp only
  rw [ixN_nat hn]
  dsimp only
  rw [if_pos hm]
/-- a step of a loop -/
theorem for_nx {ck : Pool → Bool} {g : T1} {body : S} {x : PV} {xs : List PV} {as : As} (hc : ck p = true) (hg : g x = some as) (h : body (en.sets as) p = .next en1 p1) : loopF ck g body (x :: xs) en p = loopF ck g body xs en1 p1 := by
  rw [loopF]
  dsimp only
  rw [if_pos hc, hg]
  dsimp only
  rw [h]
theorem for_end {ck : Pool → Bool} {g : T1} {body : S} (hc : ck p = true) : loopF ck g body [] en p = .next en p := by
  rw [loopF]
  dsimp only
  rw [if_pos hc]
theorem sFor_ok {it : M It0} {g : T1} {body : S} {z : It0} {r : Ctl} (hi : it en p = .ok z p1) (h : loopF z.ck g body z.xs en p1 = r) : sFor it g body en p = r := by
  unfold sFor
  rw [hi]
  exact h
theorem itS_ok {m : M PV} {x : PV} {xs : List PV} (h : m en p = .ok x p1) (e : getZ x = some xs) (hx : ∀ k, x ≠ .own k) : itS m en p = .ok ⟨xs, noCk⟩ p1 := by
  unfold itS
  rw [h]
  dsimp only [Res.bind]
  cases x with
  | own k => exact absurd rfl (hx k)
  | _ =>
    dsimp only
    rw [e]
theorem itS_lst {m : M PV} {xs : List PV} (h : m en p = .ok (.lst xs) p1) : itS m en p = .ok ⟨xs, noCk⟩ p1 := itS_ok h rfl (fun _ z => nomatch z)
theorem itS_tup {m : M PV} {xs : List PV} (h : m en p = .ok (.tup xs) p1) : itS m en p = .ok ⟨xs, noCk⟩ p1 := itS_ok h rfl (fun _ z => nomatch z)
theorem itEA_lst {m : M PV} {xs : List PV} (h : m en p = .ok (.lst xs) p1) : itEA (mCons m mNil) en p = .ok ⟨enumZ 0 xs, noCk⟩ p1 := by
  unfold itEA
  rw [one_ok h]
  rfl
theorem itEA_tup {m : M PV} {xs : List PV} (h : m en p = .ok (.tup xs) p1) : itEA (mCons m mNil) en p = .ok ⟨enumZ 0 xs, noCk⟩ p1 := by
  unfold itEA
  rw [one_ok h]
  rfl
theorem enumZ_len : ∀ (xs : List PV) (i : Nat), (enumZ i xs).length = xs.length
  | [], _ => rfl
  | x :: xs, i => by
    rw [List.length_cons]
    show (enumZ (i + 1) xs).length + 1 = _
    rw [enumZ_len xs]
theorem enumZ_at {xs : List PV} {j : Nat} (h : j < (enumZ 0 xs).length) : ∃ h2 : j < xs.length, (enumZ 0 xs)[j] = .tup [.int j, xs[j]] := by
  have h2 : j < xs.length := by rw [enumZ_len] at h; exact h
  refine ⟨h2, ?_⟩
  have e := enumZ_get xs 0 j
  rw [List.getElem?_eq_getElem h2, List.getElem?_eq_getElem h] at e
  have e2 := Option.some.inj e
  rw [e2, Nat.zero_add]
theorem fnA_ret {N : Nat} {body : R.S} {xs : List PV} {q : Pool} {x : PV} (h : body ⟨p.length, xs.map some ++ List.replicate (N - xs.length) none⟩ p = .ret x q) : fnA N body xs p = .ok x q := by
  unfold fnA
  rw [h]
/-- a plain def that leaves the cells as they were -/
theorem fnM_pure {fld : Nat → List Str} {N : Nat} {body : R.S} {xs : List PV} {x : PV} (h : body ⟨p.length, xs.map some ++ List.replicate (N - xs.length) none⟩ p = .ret x p) (t : bel 0 x = true) : fnM fld N body xs p = .ok x p := by
  rw [fnM_ret h (thaw_bel t), List.take_length]
/-- .. that has made some of its own -/
theorem fnM_cells {fld : Nat → List Str} {N : Nat} {body : R.S} {xs : List PV} {x : PV} {q r : Pool} (h : body ⟨p.length, xs.map some ++ List.replicate (N - xs.length) none⟩ p = .ret x (q ++ r)) (hq : q.length = p.length) (t : bel 0 x = true) : fnM fld N body xs p = .ok x q := by
  rw [fnM_ret h (thaw_bel t), ← hq, List.take_left]
/-- a comprehension that goes over what doesn't change, each item told by f -/
theorem mLc_all {it : M It0} {g : T1} {te : M PV} {vs : List Nat} {z : It0} (f : PV → PV) (hi : it en p = .ok z p1) (hck : ∀ acc, z.ck (p1 ++ [.lst acc]) = true)
    (h : ∀ x, x ∈ z.xs → ∃ as : As, g x = some as ∧ as.all (fun a => vs.elem a.1) = true ∧ ∀ acc, te (En.sets ⟨p1.length + 1, wipeE en.sl vs⟩ as) (p1 ++ [.lst acc]) = .ok (f x) (p1 ++ [.lst acc]) ∧ bel p1.length (f x) = true)
    (hl : z.xs.length ≤ big) : mLc it g mYes te vs en p = .ok (.lst (z.xs.map f)) p1 := by
  have e := mLc_map (it := it) (g := g) (tt := mYes) (te := te) (vs := vs) (en := en) (p := p) (p1 := p1) (z := z) (fun x => some (f x)) hi hck (fun x hx => by
    obtain ⟨as, h1, h2, h3⟩ := h x hx
    exact ⟨as, h1, h2, fun acc => ⟨rfl, fun y hy => by
      cases hy
      exact h3 acc⟩⟩) hl
  rw [e]
  congr 2
  exact congrFun List.filterMap_eq_map _
end
/-! ### what is equal to itself -/
theorem eqV_int (a : Int) : eqV (.int a) (.int a) = true := by simp [eqV]
theorem eqv_int (n : Nat) (a : Int) : eqv n (.int a) (.int a) = some true := by
  have h : eqS (.int a) (.int a) = some true := by
    show some (eqV (.int a) (.int a)) = _
    rw [eqV_int]
  cases n with
  | zero => exact h
  | succ n => exact h
theorem eqT_self {f : PV → PV → Option Bool} : ∀ {xs : List PV}, (∀ x ∈ xs, f x x = some true) → eqT f xs xs = some true
  | [], _ => rfl
  | x :: xs, h => by
    unfold eqT
    rw [h x List.mem_cons_self]
    exact eqT_self fun y hy => h y (List.mem_cons_of_mem _ hy)
theorem eqv_tup {n : Nat} {xs : List PV} (h : ∀ x ∈ xs, eqv n x x = some true) : eqv (n + 1) (.tup xs) (.tup xs) = some true := eqT_self h
theorem eqv_lst {n : Nat} {xs : List PV} (h : ∀ x ∈ xs, eqv n x x = some true) : eqv (n + 1) (.lst xs) (.lst xs) = some true := by
  show (if xs.length = xs.length then eqT (eqv n) xs xs else some false) = _
  rw [if_pos rfl]
  exact eqT_self h
theorem eqv_obj (n : Nat) (a b : Int) : eqv (n + 1) (.obj 0 [.int a, .int b]) (.obj 0 [.int a, .int b]) = some true := by
  show (if (0 : Nat) = 0 ∧ (0 : Nat) = 0 then some (decide (a = a) && decide (b = b)) else none) = _
  rw [if_pos ⟨rfl, rfl⟩]
  simp
theorem eqv_ints {n : Nat} {xs : List Int} : ∀ x ∈ xs.map PV.int, eqv n x x = some true := fun x hx => by
  obtain ⟨a, _, rfl⟩ := List.mem_map.mp hx
  exact eqv_int n a
section
variable {p : Pool} {fld : Nat → List Str}
theorem pTr_eq {n : Nat} {x : PV} (b : bel 0 x = true) (t : R.top x = true) (h : eqv n x x = some true) : pTr fld (eqvN .Eq n) x x p = .ok (.bl true) p := by
  have e : eqvN .Eq n x x = some true := by
    unfold eqvN
    rw [if_pos ⟨t, t⟩, h]
    rfl
  unfold pTr
  rw [thaw_bel b]
  dsimp only
  rw [e]
theorem pTr_ne {n : Nat} {x : PV} (b : bel 0 x = true) (t : R.top x = true) (h : eqv n x x = some true) : pTr fld (eqvN .NotEq n) x x p = .ok (.bl false) p := by
  have e : eqvN .NotEq n x x = some false := by
    unfold eqvN
    rw [if_pos ⟨t, t⟩, h]
    rfl
  unfold pTr
  rw [thaw_bel b]
  dsimp only
  rw [e]
theorem bls_true {α : Type} : ∀ xs : List α, bls (xs.map fun _ => PV.bl true) = some (xs.map fun _ => true)
  | [] => rfl
  | _ :: xs => by
    rw [List.map_cons]
    unfold bls
    rw [bls_true xs]
    rfl
theorem bls_false {α : Type} : ∀ xs : List α, bls (xs.map fun _ => PV.bl false) = some (xs.map fun _ => false)
  | [] => rfl
  | _ :: xs => by
    rw [List.map_cons]
    unfold bls
    rw [bls_false xs]
    rfl
theorem cAll_true {α : Type} (xs : List α) : cAll [.lst (xs.map fun _ => PV.bl true)] p = .ok (.bl true) p := by
  have e : (xs.map fun _ => true).all id = true := by simp
  unfold cAll cFold
  dsimp only [getL]
  rw [bls_true]
  dsimp only
  rw [e]
theorem cAny_false {α : Type} (xs : List α) : cAny [.lst (xs.map fun _ => PV.bl false)] p = .ok (.bl false) p := by
  have e : (xs.map fun _ => false).any id = false := by simp
  unfold cAny cFold
  dsimp only [getL]
  rw [bls_false]
  dsimp only
  rw [e]
theorem its_ints : ∀ r : List Int, R.its (r.map .int) = some r
  | [] => rfl
  | x :: r => by
    rw [List.map_cons]
    unfold R.its
    rw [its_ints r]
theorem isUp_of : ∀ {l : List Int}, l.Pairwise (· ≤ ·) → isUp l = true
  | [], _ => rfl
  | [a], _ => rfl
  | a :: b :: r, h => by
    unfold isUp
    rw [decide_eq_true ((List.pairwise_cons.mp h).1 b List.mem_cons_self), isUp_of (List.pairwise_cons.mp h).2]
    rfl
theorem cSortUp_ok {ns : List Int} (h : ns.Pairwise (· ≤ ·)) : cSortUp [.lst (ns.map .int)] p = .ok (.lst (ns.map .int)) p := by
  unfold cSortUp
  dsimp only [getR, getL]
  rw [its_ints]
  dsimp only
  rw [if_pos (isUp_of h)]
theorem thaw_tup2 {n : Nat} {a b a' b' : PV} (h1 : thaw fld n p a = some a') (h2 : thaw fld n p b = some b') : thaw fld n p (.tup [a, b]) = some (.tup [a', b']) := by
  have g1 : sub (thw fld n p deep) a = some a' := h1
  have g2 : sub (thw fld n p deep) b = some b' := h2
  show (match subs (thw fld n p deep) [a, b] with | some ys => some (PV.tup ys) | none => none) = _
  rw [subs, g1]
  dsimp only
  rw [subs, g2]
  rfl
theorem thaw_tup3 {n : Nat} {a b c a' b' c' : PV} (h1 : thaw fld n p a = some a') (h2 : thaw fld n p b = some b') (h3 : thaw fld n p c = some c') : thaw fld n p (.tup [a, b, c]) = some (.tup [a', b', c']) := by
  have g1 : sub (thw fld n p deep) a = some a' := h1
  have g2 : sub (thw fld n p deep) b = some b' := h2
  have g3 : sub (thw fld n p deep) c = some c' := h3
  show (match subs (thw fld n p deep) [a, b, c] with | some ys => some (PV.tup ys) | none => none) = _
  rw [subs, g1]
  dsimp only
  rw [subs, g2]
  dsimp only
  rw [subs, g3]
  rfl
end
section
variable {en en1 : En} {p p1 p2 p3 : Pool}
theorem not_ok {t : M Bool} {b : Bool} (h : t en p = .ok b p1) : mNot t en p = .ok (!b) p1 := by
  unfold mNot
  rw [h]
  rfl
theorem not_t {t : M Bool} (h : t en p = .ok true p1) : mNot t en p = .ok false p1 := not_ok h
theorem not_f {t : M Bool} (h : t en p = .ok false p1) : mNot t en p = .ok true p1 := not_ok h
theorem or_f {a b : M Bool} (h : a en p = .ok false p1) : mOr a b en p = b en p1 := by
  unfold mOr
  rw [h]
  rfl
theorem or_t {a b : M Bool} (h : a en p = .ok true p1) : mOr a b en p = .ok true p1 := by
  unfold mOr
  rw [h]
  rfl
theorem and_t {a b : M Bool} (h : a en p = .ok true p1) : mAnd a b en p = b en p1 := by
  unfold mAnd
  rw [h]
  rfl
theorem and_f {a b : M Bool} (h : a en p = .ok false p1) : mAnd a b en p = .ok false p1 := by
  unfold mAnd
  rw [h]
  rfl
theorem andV_t {a b : M PV} (h : a en p = .ok (.bl true) p1) : mAndV a b en p = b en p1 := by
  unfold mAndV
  rw [h]
  rfl
theorem andV_f {a b : M PV} (h : a en p = .ok (.bl false) p1) : mAndV a b en p = .ok (.bl false) p1 := by
  unfold mAndV
  rw [h]
  rfl
theorem notV_ok {a : M PV} {b : Bool} (h : a en p = .ok (.bl b) p1) : mNotV a en p = .ok (.bl (!b)) p1 := by
  unfold mNotV
  rw [h]
  rfl
theorem isi_ok {n : Nat} {T t : Ty} {a : M PV} {x : PV} (h : a en p = .ok x p1) (e : tyP n p1 x = some t) : mIsi n T a en p = .ok (.bl (isT T t)) p1 := by
  unfold mIsi
  rw [h]
  dsimp only [Res.bind]
  rw [e]
theorem getF_ok {c i : Nat} {a : M PV} {x y : PV} (h : a en p = .ok x p1) (e : getF c i p1 x = some y) : mFld c i a en p = .ok y p1 := by
  unfold mFld
  rw [h]
  dsimp only [Res.bind]
  rw [e]
theorem cnt_ok {o a : M PV} {ns : List Int} {k : Int} (h1 : o en p = .ok (.lst (ns.map .int)) p1) (h2 : a en p1 = .ok (.int k) p2) : mCnt o (mCons a mNil) en p = .ok (.int ((ns.count k : Nat) : Int)) p2 := by
  unfold mCnt
  rw [h1]
  dsimp only [Res.bind, getR, getL]
  rw [one_ok h2]
  dsimp only [Res.bind, getR, getL]
  rw [its_ints]
theorem if_ok {α : Type} {t : M Bool} {a b : M α} {v : Bool} (h : t en p = .ok v p1) : mIf t a b en p = if v = true then a en p1 else b en p1 := by
  unfold mIf
  rw [h]
  rfl
theorem fld_nx {c i k : Nat} {o a : M PV} {y : PV} {cell cell' : Cell} (ha : a en p = .ok y p1) (ho : o en p1 = .ok (.own k) p2) (hm : may en.b k y = true) (hk : p2[k]? = some cell) (hc : putC c i y cell = some cell') : sFld c i o a en p = .next en (p2.set k cell') := by
  unfold sFld
  rw [ha]
  dsimp only [Res.run]
  rw [ho]
  dsimp only [Res.run]
  rw [if_pos hm, hk]
  dsimp only
  rw [hc]
theorem ice_nx {i k : Nat} {xs : List PV} (h : en.sl[i]? = some (some (.own k))) (hk : p[k]? = some (.lst xs)) (hb : bels 0 xs = true) : sIce i en p = .next (en.set i (.lst xs)) (p.set k .dead) := by
  unfold sIce
  rw [h]
  dsimp only
  rw [hk]
  dsimp only
  rw [if_pos hb]
theorem iniM_ok {fld : Nat → List Str} {c N : Nat} {body : R.S} {xs : List PV} {q : Pool} {y : PV} {en : En} (h : body ⟨p.length, some (.own p.length) :: (xs.map some ++ List.replicate (N - (xs.length + 1)) none)⟩ (p ++ [.obj c []]) = .next en q) (t : thaw fld p.length q (.own p.length) = some y) : iniM fld c N body xs p = .ok y (q.take p.length) := by
  unfold iniM
  rw [h]
  dsimp only
  rw [t]
theorem len_ok {a : M PV} {x : PV} {xs : List PV} (h : a en p = .ok x p1) (e : getQ p1 x = some xs) : mCall cLen (mCons a mNil) en p = .ok (.int xs.length) p1 := call_ok (one_ok h) (by
  show (match getQ p1 x with | some ys => Res.ok (PV.int ys.length) p1 | none => .stuck) = _
  rw [e])
theorem lt_ok {a b : M PV} {x y : Int} (h1 : a en p = .ok (.int x) p1) (h2 : b en p1 = .ok (.int y) p2) : mBin pLt a b en p = .ok (.bl (decide (x < y))) p2 := bin_ok h1 h2 rfl
theorem gt_ok {a b : M PV} {x y : Int} (h1 : a en p = .ok (.int x) p1) (h2 : b en p1 = .ok (.int y) p2) : mBin pGt a b en p = .ok (.bl (decide (y < x))) p2 := bin_ok h1 h2 rfl
theorem ge_ok {a b : M PV} {x y : Int} (h1 : a en p = .ok (.int x) p1) (h2 : b en p1 = .ok (.int y) p2) : mBin pGe a b en p = .ok (.bl (decide (y ≤ x))) p2 := bin_ok h1 h2 rfl
theorem eq_ok {a b : M PV} {x y : Int} (h1 : a en p = .ok (.int x) p1) (h2 : b en p1 = .ok (.int y) p2) : mBin pEq a b en p = .ok (.bl (decide (x = y))) p2 := bin_ok h1 h2 (pEq_int x y p2)
theorem ne_ok {a b : M PV} {x y : Int} (h1 : a en p = .ok (.int x) p1) (h2 : b en p1 = .ok (.int y) p2) : mBin pNe a b en p = .ok (.bl (!decide (x = y))) p2 := bin_ok h1 h2 (pNe_int x y p2)
theorem add_ok {a b : M PV} {x y : Int} (h1 : a en p = .ok (.int x) p1) (h2 : b en p1 = .ok (.int y) p2) : mBin pAdd a b en p = .ok (.int (x + y)) p2 := bin_ok h1 h2 rfl
theorem sub_ok {a b : M PV} {x y : Int} (h1 : a en p = .ok (.int x) p1) (h2 : b en p1 = .ok (.int y) p2) : mBin pSub a b en p = .ok (.int (x - y)) p2 := bin_ok h1 h2 rfl
theorem at_ok {a b : M PV} {x y : PV} {xs : List PV} {i : Nat} (h1 : a en p = .ok x p1) (h2 : b en p1 = .ok (.int (i : Int)) p2) (h : getQ p2 x = some xs) (e : xs[i]? = some y) : mBin pIx a b en p = .ok y p2 := bin_ok h1 h2 (pIx_nat h e)
theorem lt_yes {a b : M PV} {x y : Int} (h1 : a en p = .ok (.int x) p1) (h2 : b en p1 = .ok (.int y) p2) (h : x < y) : mBin pLt a b en p = .ok (.bl true) p2 := by
  rw [lt_ok h1 h2, decide_eq_true h]
theorem lt_no {a b : M PV} {x y : Int} (h1 : a en p = .ok (.int x) p1) (h2 : b en p1 = .ok (.int y) p2) (h : ¬ x < y) : mBin pLt a b en p = .ok (.bl false) p2 := by
  rw [lt_ok h1 h2, decide_eq_false h]
theorem gt_yes {a b : M PV} {x y : Int} (h1 : a en p = .ok (.int x) p1) (h2 : b en p1 = .ok (.int y) p2) (h : y < x) : mBin pGt a b en p = .ok (.bl true) p2 := by
  rw [gt_ok h1 h2, decide_eq_true h]
theorem gt_no {a b : M PV} {x y : Int} (h1 : a en p = .ok (.int x) p1) (h2 : b en p1 = .ok (.int y) p2) (h : ¬ y < x) : mBin pGt a b en p = .ok (.bl false) p2 := by
  rw [gt_ok h1 h2, decide_eq_false h]
theorem ge_yes {a b : M PV} {x y : Int} (h1 : a en p = .ok (.int x) p1) (h2 : b en p1 = .ok (.int y) p2) (h : y ≤ x) : mBin pGe a b en p = .ok (.bl true) p2 := by
  rw [ge_ok h1 h2, decide_eq_true h]
theorem ge_no {a b : M PV} {x y : Int} (h1 : a en p = .ok (.int x) p1) (h2 : b en p1 = .ok (.int y) p2) (h : ¬ y ≤ x) : mBin pGe a b en p = .ok (.bl false) p2 := by
  rw [ge_ok h1 h2, decide_eq_false h]
theorem eq_yes {a b : M PV} {x y : Int} (h1 : a en p = .ok (.int x) p1) (h2 : b en p1 = .ok (.int y) p2) (h : x = y) : mBin pEq a b en p = .ok (.bl true) p2 := by
  rw [eq_ok h1 h2, decide_eq_true h]
theorem eq_no {a b : M PV} {x y : Int} (h1 : a en p = .ok (.int x) p1) (h2 : b en p1 = .ok (.int y) p2) (h : ¬ x = y) : mBin pEq a b en p = .ok (.bl false) p2 := by
  rw [eq_ok h1 h2, decide_eq_false h]
theorem ne_no {a b : M PV} {x y : Int} (h1 : a en p = .ok (.int x) p1) (h2 : b en p1 = .ok (.int y) p2) (h : x = y) : mBin pNe a b en p = .ok (.bl false) p2 := by
  rw [ne_ok h1 h2, decide_eq_true h]
  rfl
theorem ne_yes {a b : M PV} {x y : Int} (h1 : a en p = .ok (.int x) p1) (h2 : b en p1 = .ok (.int y) p2) (h : ¬ x = y) : mBin pNe a b en p = .ok (.bl true) p2 := by
  rw [ne_ok h1 h2, decide_eq_false h]
  rfl
theorem bels_ints (n : Nat) (r : List Int) : bels n (r.map PV.int) = true := bels_iff.mpr fun y hy => by
  obtain ⟨a, _, rfl⟩ := List.mem_map.mp hy
  rfl
end
end R

/-! R21: sorted of a tuple of ints; a tuple told backwards -/
namespace R
open PySem L2
open PySem.Spec PyProof.Rows Srt SrtO HT
section
variable {prog : Program} {w : World} {A : Around} {E : Value → Shared → Prop} {s : Shared}
/-- what walking a tuple as a whole gathers -/
theorem collectT {t : Addr} {xs : List Value} {R : List Value → Shared → Prop} (ht : IsTup s.heap t xs.toArray) (hz : xs.length ≤ sizeLine)
    (k : R xs { s with heap := (s.heap.push (seqObj "list" #[] 0)).update s.heap.objs.size (Obj.mapSeq (· ++ xs.toArray)) }) : wpAny (model prog w) A (collect (.ref t)) R E s := by
  obtain ⟨ob, g0, gc, ep, gd⟩ := id ht
  have g1 : (s.heap.push (seqObj "list" #[] 0)).get? t = some ob := Heap.get?_push_of_some _ g0
  have g2 : (s.heap.push (seqObj "list" #[] 0)).get? s.heap.objs.size = some (seqObj "list" #[] 0) := Heap.get?_push_size _ rfl
  have z2 : (#[] ++ xs.toArray).size ≤ sizeLine + 1 := by
    simp only [Array.size_append, List.size_toArray, List.length_nil]
    omega
  unfold collect
  refine wpAny_bind (wpAny_runValue (codeAny_builtin entry_proto_collect' ?_)); show wpAny _ _ (do again (.builtin "list.__iadd__" ⟨[← newList [], .ref t], []⟩)) _ _ s
  refine wpAny_bind (wpAny_newList (wpAny_pure ⟨Code.quiet_builtin _ (by decide +kernel), codeAny_builtin entry_list_iadd' ?_⟩)); show wpAny _ _ (Builtin.List.listExtendWith (.ref s.heap.objs.size) (.ref t) (.ref s.heap.objs.size)) _ _ { s with heap := s.heap.push (seqObj "list" #[] 0) }
  unfold Builtin.List.listExtendWith
  refine wpAny_bind (wpAny_typeOf (T := "tuple") ⟨ob, g1, gc⟩ ?_)
  have tt : (Value.type "tuple" == Value.type "tuple") = true := rfl
  rw [if_pos (by rw [tt]; simp)]
  refine wpAny_bind (listItems_at g1 gd (wpAny_bind (listItems_at g2 rfl ?_)))
  rw [if_neg (by simp)]
  refine wpAny_bind (listUpdate_at g2 rfl ?_ (Nat.zero_le _) z2); refine wpAny_pure ?_
  show wpAny (model prog w) A (do
      let ob ← load s.heap.objs.size
      match ob.data with
      | .seq ys _ => pure ys.toList
      | _ => unsupported "internal:collect") R E _
  refine wpAny_bind (wpAny_load (get?_update_seq g2 _) ?_); show wpAny _ _ (pure ((#[] : Array Value) ++ xs.toArray).toList) R E _
  have e : ((#[] : Array Value) ++ xs.toArray).toList = xs := by simp
  rw [e]
  exact wpAny_pure k
theorem sortedT {t : Addr} {xs : List Value} {lt : Value → Value → Bool} {R : Value → Shared → Prop} (O : Swo lt) (ht : IsTup s.heap t xs.toArray) (hz : xs.length ≤ sizeLine)
    (hS : 2 ≤ xs.length → ∀ (g : Heap) (b : Addr), g.get? b = some (seqObj "list" xs.toArray 0) → (∀ c o, s.heap.get? c = some o → c ≠ b ∧ g.get? c = some o) → SortableO prog w A.in1.in1 { s with heap := g } b xs lt)
    (k : ∀ out : List Value, Srtd lt out → Stb lt out xs → R (.ref (s.heap.objs.size + 1)) { s with heap := sortedAll s.heap xs out.toArray }) : wpAny (model prog w) A (call (.builtin "sorted") [.ref t]) R E s := by
  refine Calls.call_function_entry kind_sorted plain_sorted entry_sorted (args_sorted1 _) ?_
  unfold Builtin.«sorted»
  refine wpAny_bind (m := checkCount "sorted" 1 1 _) (wpAny_pure (wpAny_bind (collectT ht hz (wpAny_bind (wpAny_newList ?_ hz)))))
  generalize eg : (s.heap.push (seqObj "list" #[] 0)).update s.heap.objs.size (Obj.mapSeq (· ++ xs.toArray)) = g
  have sz : g.objs.size = s.heap.objs.size + 1 := by rw [← eg, Heap.size_update, size_push']
  have old : ∀ c o, s.heap.get? c = some o → c < s.heap.objs.size ∧ g.get? c = some o := fun c o q => by
    have l : c < s.heap.objs.size := Heap.lt_size q
    refine ⟨l, ?_⟩
    rw [← eg, Heap.get?_update_ne _ _ _ _ (Nat.ne_of_lt l)]
    exact Heap.get?_push_of_some _ q
  have own : (g.push (seqObj "list" xs.toArray 0)).get? (s.heap.objs.size + 1) = some (seqObj "list" xs.toArray 0) := by rw [← sz]; exact Heap.get?_push_size _ rfl
  show wpAny _ _ _ _ _ { s with heap := g.push (seqObj "list" xs.toArray 0) }
  have ea : sortedAll s.heap xs = fun out => sortedHeap (g.push (seqObj "list" xs.toArray 0)) (s.heap.objs.size + 1) xs out := by rw [← eg]; rfl
  rw [ea] at k
  rw [sz]
  have keep : ∀ c o, s.heap.get? c = some o → c ≠ s.heap.objs.size + 1 ∧ (g.push (seqObj "list" xs.toArray 0)).get? c = some o := fun c o q => ⟨Nat.ne_of_lt (Nat.lt_succ_of_lt (old c o q).1), Heap.get?_push_of_some _ (old c o q).2⟩
  refine wpAny_bind (wpAny_holding (wpAny_call_entry slot_list_sort ⟨_, own, rfl⟩ entry_list_sort (list_sort_ord O own hz (fun z => hS z _ _ own keep) fun out a1 a2 => ⟨_, rfl, wpAny_pure ⟨_, rfl, k out a1 a2⟩⟩) (args_list_sort _)))
theorem intsT_sortable {a : Addr} {vs : List Value} {ns : List Int} (hI : IntsAre vs ns) (h2 : 2 ≤ vs.length) : SortableO prog w A s a vs ltIv := ints_sortable hI h2
end
section
variable {X : Cx} {C : Cn}
/-- sorted(t), a tuple of ints -/
def rSortedT (K : PySem.W.Frag) : List V → Hp → VK → Prop := fun vs H Q => ∃ (a : Addr) (ns : List Int), vs = [V.ref a] ∧ SqT K H a (ns.map V.int) ∧
  ∀ (ns' : List Int) (p : Addr), ns'.Perm ns → ns'.Pairwise (· ≤ ·) → H p = none → Q (.ref p) (upd H p (.lst (ns'.map V.int)))
theorem cr_sortedT : CallR X (.builtin "sorted") (rSortedT X.K) := by
  intro pins s σ H vs us Q I r h
  obtain ⟨a, ns, rfl, hs, q⟩ := h
  obtain ⟨xs, rv, ht, hz⟩ := I.tuple hs
  rw [Vals.ref1 r]
  have hi := rv.ints
  refine sortedT swo_int ht (by rw [← rv.length]; exact hz) (fun h2 g b _ _ => intsT_sortable hi h2) fun out o1 o2 => ?_
  obtain ⟨k1, k2, k3⟩ := ints_out hi o1 o2
  obtain ⟨ep, he⟩ := PyProof.Rows.sortedAll_at s.heap xs out.toArray
  have hn : ((out.map iv).map V.int).length ≤ sizeLine := by
    rw [List.length_map, k2.length_eq]
    rw [List.length_map] at hz
    exact hz
  have hw := I.laid (o := .lst ((out.map iv).map V.int)) (t' := s.toks) (fun _ _ => PyProof.Rows.sortedAll_old) (Nat.le_succ _) ⟨hn, out, ep, vals_of_ints k1, he⟩
  exact ⟨.ref _, _, hw, rfl, q _ _ k2 k3 (I.hok.fresh (Nat.le_succ _))⟩
/-- numbers in order -/
def insI (a : Int) : List Int → List Int
  | [] => [a]
  | b :: r => if a ≤ b then a :: b :: r else b :: insI a r
def srtI : List Int → List Int
  | [] => []
  | a :: r => insI a (srtI r)
theorem insI_perm (a : Int) : ∀ r : List Int, (insI a r).Perm (a :: r)
  | [] => List.Perm.refl _
  | b :: r => by
    unfold insI
    split
    · exact List.Perm.refl _
    · exact ((insI_perm a r).cons b).trans (List.Perm.swap a b r)
theorem insI_up (a : Int) : ∀ {r : List Int}, r.Pairwise (· ≤ ·) → (insI a r).Pairwise (· ≤ ·)
  | [], _ => List.pairwise_singleton _ _
  | b :: r, h => by
    obtain ⟨h1, h2⟩ := List.pairwise_cons.mp h
    unfold insI
    split
    · rename_i hab
      refine List.pairwise_cons.mpr ⟨fun c hc => ?_, h⟩
      rcases List.mem_cons.mp hc with rfl | hc
      · exact hab
      · exact Int.le_trans hab (h1 c hc)
    · refine List.pairwise_cons.mpr ⟨fun c hc => ?_, insI_up a h2⟩
      rcases List.mem_cons.mp ((insI_perm a r).subset hc) with rfl | hc
      · omega
      · exact h1 c hc
theorem srtI_perm : ∀ r : List Int, (srtI r).Perm r
  | [] => List.Perm.refl _
  | a :: r => (insI_perm a (srtI r)).trans ((srtI_perm r).cons a)
theorem srtI_up : ∀ r : List Int, (srtI r).Pairwise (· ≤ ·)
  | [] => List.Pairwise.nil
  | a :: r => insI_up a (srtI_up r)
/-- sorted of a list or a tuple of numbers -/
def cSortI : FC := fun xs p => match xs with
  | [x] => match getQ p x with
    | some ys => match its ys with
      | some ns => .ok (.lst ((srtI ns).map .int)) p
      | none => .stuck
    | none => .stuck
  | _ => .stuck
def rSortedU (K : PySem.W.Frag) : List V → Hp → VK → Prop := fun xs H Q => rSortedI K xs H Q ∨ rSortedT K xs H Q
theorem call_sortedU (hK : X.K = C.Γ.K) : CallR X (.builtin "sorted") (rSortedU C.Γ.K) := hK ▸ CallR.or cr_sortedI cr_sortedT
theorem ref_sortedU : RefC C (rSortedU C.Γ.K) cSortI := fun L w p H σ xs vs Q S r q => by
  unfold cSortI at q
  split at q
  · rename_i x
    obtain ⟨v, rfl, rv⟩ := reps1 r
    split at q
    · rename_i ys ey
      split at q
      · rename_i ns en
        obtain ⟨a, us, rfl, hs, ru⟩ := getQ_ok S rv ey
        have e := its_ok ru en
        subst e
        have fin : ∀ (ns' : List Int) (l : Addr), ns'.Perm ns → ns'.Pairwise (· ≤ ·) → H l = none → Q (.ref l) (upd H l (.lst (ns'.map V.int))) := fun ns' l hp hw hl => by
          rw [perm_eq (hp.trans (srtI_perm ns).symm) hw (srtI_up ns)]
          exact newLst S Reps.ints q l hl
        rcases hs with hs | hs
        · exact .inl ⟨a, ns, rfl, hs, fin⟩
        · exact .inr ⟨a, ns, rfl, hs, fin⟩
      · exact q.elim
    · exact q.elim
  · exact q.elim
end
end R

/-! R22: a tuple told backwards -/
namespace R
open PySem L2
open PySem.Spec PyProof.Rows HT
section
variable {prog : Program} {w : World} {A : Around} {E : Value → Shared → Prop} {s : Shared}
theorem back_adjust (n : Nat) : Builtin.Slice.sliceAdjust none none (-1) (n : Int) = ((n : Int) - 1, -1) := rfl
theorem back_places (n : Nat) : Builtin.Slice.slicePlaces ((n : Int) - 1) (-1) (-1) = n := by
  unfold Builtin.Slice.slicePlaces
  have h1 : ¬ ((-1 : Int) > 0) := by decide
  rw [if_neg h1]
  by_cases h : (n : Int) - 1 > -1
  · rw [if_pos h, show (-(-1) : Int) = 1 from rfl, Int.ediv_one]
    omega
  · rw [if_neg h]
    omega
theorem back_pick (xs : Array Value) : ((List.range xs.size).filterMap fun (m : Nat) => xs[((xs.size : Int) - 1 + (m : Int) * -1).toNat]?).toArray = xs.toList.reverse.toArray := by
  congr 1
  have e : (fun (m : Nat) => xs[((xs.size : Int) - 1 + (m : Int) * -1).toNat]?) = fun (m : Nat) => xs[xs.size - 1 - m]? := by
    funext m
    have z : ((xs.size : Int) - 1 + (m : Int) * -1).toNat = xs.size - 1 - m := by omega
    rw [z]
  have e2 : (fun (m : Nat) => xs[xs.size - 1 - m]?) = (fun m => xs[m]?) ∘ fun (m : Nat) => xs.size - 1 - m := rfl
  rw [e, e2, ← List.filterMap_map, PySem.W.krv_range, List.filterMap_reverse, PySem.W.krv_all]
theorem back_applied {sl : Addr} {vst : Value} {n : Nat} {R : Int × Int × Nat → Shared → Prop} (hs : s.heap.IsSliceOf sl .none .none vst) (pst : IsPart vst (some (-1)))
    (h : R ((n : Int) - 1, -1, n) s) : wpAny (model prog w) A (Builtin.Slice.sliceApplied (.ref sl) (pure (n : Int))) R E s := by
  obtain ⟨os, g, _, gd⟩ := id hs
  unfold Builtin.Slice.sliceApplied Builtin.Slice.sliceFields
  refine wpAny_bind (wpAny_bind (wpAny_field g gd (x := .none) rfl (wpAny_bind (wpAny_field g gd (x := .none) rfl (wpAny_bind (wpAny_field g gd (x := vst) rfl (wpAny_pure ?_)))))))
  refine wpAny_bind (slicePart_ pst ?_)
  show wpAny _ _ (if ((-1 : Int) == 0) = true then _ else _) _ _ s
  rw [if_neg (by decide)]
  refine wpAny_bind (slicePart_none (wpAny_bind (slicePart_none (wpAny_bind (wpAny_pure ?_)))))
  show wpAny _ _ (match Builtin.Slice.sliceAdjust none none (-1) (n : Int) with | (lo, hi) => pure (lo, (-1 : Int), Builtin.Slice.slicePlaces lo hi (-1))) _ _ s
  rw [back_adjust]
  show wpAny _ _ (pure ((n : Int) - 1, (-1 : Int), Builtin.Slice.slicePlaces ((n : Int) - 1) (-1) (-1))) _ _ s
  rw [back_places]
  exact wpAny_pure h
theorem back_item {t sl : Addr} {xs : Array Value} {vst : Value} {R : Value → Shared → Prop} (ht : IsTup s.heap t xs) (hs : s.heap.IsSliceOf sl .none .none vst) (pst : IsPart vst (some (-1)))
    (h : R (.ref s.heap.objs.size) { s with heap := s.heap.push { cls := .type "tuple", data := .seq xs.toList.reverse.toArray } }) (hz : xs.size ≤ sizeLine) : wpAny (model prog w) A (getItem (.ref t) (.ref sl)) R E s := by
  have fits : sizeOk (.seq xs.toList.reverse.toArray) := by
    show xs.toList.reverse.toArray.size ≤ sizeLine
    rw [List.size_toArray, List.length_reverse, Array.length_toList]
    exact hz
  have isS : s.TypeIs (.ref sl) "slice" := let ⟨os, g, gc, _⟩ := hs; ⟨os, g, gc⟩
  unfold getItem
  try with_reducible refine wpAny_holding ?_
  first | refine wpAny_bind (wpAny_pure ?_) | skip
  refine wpAny_bind (wpAny_sequenceKey ht.typeIs (by decide) (wpAny_bind (wpAny_callSpecial?_slot (name := Str.ofString "__getitem__") ht.typeIs PyProof.Rows.slot_tuple_getitem
    (wpAny_call_entry PyProof.Rows.slot_tuple_getitem ht.typeIs entry_tuple_getitem ?_ (args_tuple_getitem _ _)))))
  show wpAny _ _ (Builtin.Tuple.tupleItemsOf (.ref t) >>= _) _ _ s
  refine wpAny_bind (tupleItemsOf_ ht (wpAny_bind (wpAny_typeOf isS ?_)))
  rw [if_pos (by decide)]
  refine wpAny_bind (back_applied hs pst ?_)
  have no : ¬ ((((xs.size : Int) - 1) == 0 && (-1 : Int) == 1 && xs.size == xs.size) = true) := by
    intro q
    rw [Bool.and_eq_true, Bool.and_eq_true] at q
    have q1 : (-1 : Int) = 1 := eq_of_beq q.1.2
    omega
  show wpAny _ _ (if ((((xs.size : Int) - 1) == 0 && (-1 : Int) == 1 && xs.size == xs.size) = true) then _ else _) _ _ s
  rw [if_neg no, back_pick]
  first
    | exact wpAny_bind (m := Builtin.Tuple.tupleExact _) (wpAny_newObj_type (wpAny_pure ⟨_, rfl, wpAny_pure h⟩) fits)
    | exact wpAny_bind (m := Builtin.Tuple.tupleExact _) (wpAny_newObj_type (wpAny_bind (wpAny_pure (wpAny_pure ⟨_, rfl, wpAny_pure h⟩))) fits)
    | exact wpAny_bind (wpAny_bind (m := Builtin.Tuple.tupleExact _) (wpAny_newObj_type (wpAny_pure (wpAny_pure ⟨_, rfl, wpAny_pure h⟩)) fits))
    | exact wpAny_bind (wpAny_bind (m := Builtin.Tuple.tupleExact _) (wpAny_newObj_type (wpAny_pure ⟨_, rfl, wpAny_pure h⟩) fits))
end
section
variable {X : Cx} {C : Cn} {pos : Pos}
/-- xs[::-1], a list or a tuple -/
def mRevA (a : M PV) : M PV := fun en p => (a en p).bind fun x p1 => match x with
  | .tup xs => .ok (.tup xs.reverse) p1
  | x => match getR p1 x with
    | some xs => .ok (.lst xs.reverse) p1
    | none => .stuck
theorem re_revA {e : Expr} {a : M PV} {j : Nat} {p1 p2 p3 : Pos} (hK : X.K = C.Γ.K) (ha : RE X C e a) : RE X C (.Subscript e (.Slice none none (some (.UnaryOp .USub (.Constant (.int 1) j p1) p2)) p3) pos) (mRevA a) := by
  refine ⟨fun pins s σ H Q I h => ?_⟩
  have h2 : wE C a σ H (fun v H1 => (∃ (b : Addr) (vs : List V), v = .ref b ∧ SqL X.K H1 b vs ∧ ∀ q, H1 q = none → Q (.ref q) (upd H1 q (.lst vs.reverse))) ∨ ∃ (b : Addr) (vs : List V), v = .ref b ∧ SqT X.K H1 b vs ∧ ∀ q, H1 q = none → Q (.ref q) (upd H1 q (.tup vs.reverse))) := by
    obtain ⟨L, w, p, en, S, E, h⟩ := h
    refine ⟨L, w, p, en, S, E, h.bind fun x p1 w1 H1 v l1 S1 r1 h1 => ?_⟩
    split at h1
    · rename_i xs
      obtain ⟨b, vs, eb, hq, rr⟩ := r1
      exact .inr ⟨b, vs, eb, hK ▸ seqT_mono S1.sub hq, newTup S1 rr.reverse h1⟩
    · rename_i x _
      split at h1
      · rename_i xs ex
        obtain ⟨b, vs, eb, hq, rr⟩ := getR_ok S1 r1 ex
        exact .inl ⟨b, vs, eb, hK ▸ hq, newLst S1 rr.reverse h1⟩
      · exact h1.elim
  refine Subscript_ (thn (ha.run pins s σ H _ I h2) fun v s1 ⟨x, H1, I1, r1, hx⟩ => ?_)
  have step : PO X (some (.UnaryOp .USub (.Constant (.int 1) j p1) p2)) (tPart (tUn (rU fun i => V.int (-i)) (tC (.int 1)))) := po_some (pe_un un_neg pe_int)
  rcases hx with ⟨b, vs, ex, hq, q1⟩ | ⟨b, vs, ex, hq, q1⟩
  · subst ex
    cases r1
    refine wpAny_Slice ?_
    rw [evalPart_none]
    refine wpAny_pure (wpAny_pure ?_)
    refine thn (step.run pins s1 σ H1 (fun o H2 => o = some (-1) ∧ H2 = H1) I1 ⟨1, rfl, -1, rfl, rfl, rfl⟩) fun vst s2 ⟨o, H2, I2, po, eo, eH⟩ => ?_
    subst eo
    subst eH
    have I3 : Inv X pins σ H2 { s2 with heap := s2.heap.push { cls := .type "slice", data := .fields #[.none, .none, vst] } } := I2.kept (t' := s2.toks) fun b ob q => Heap.get?_push_of_some _ q
    obtain ⟨its, r, ht, hz⟩ := I3.list hq
    have hg : wpAny (model X.prog X.w) X.A (getItem (.ref b) (.ref s2.heap.objs.size)) (EP X pins σ Q) X.xe { s2 with heap := s2.heap.push { cls := .type "slice", data := .fields #[.none, .none, vst] } } := by
      refine wpAny_getItem_list_slice ht.isList (Heap.IsSliceOf.new ..) .none .none po (by decide) ?_ (by rw [List.size_toArray, ← r.length]; exact hz)
      rw [PySem.W.krv_pick]
      refine ⟨.ref _, _, I3.laid (t' := s2.toks) (o := .lst vs.reverse) (fun b ob q => Heap.get?_push_of_some _ q) (Nat.le_refl _) ?_, rfl, q1 _ (I3.hok.fresh (Nat.le_refl _))⟩
      exact ⟨by rw [List.length_reverse]; exact hz, _, 0, by simpa using r.reverse, Heap.get?_push_size _ rfl⟩
    show wpAny (model X.prog X.w) X.A (subscriptTail e (.Slice none none (some (.UnaryOp .USub (.Constant (.int 1) j p1) p2)) p3) (.ref b) (.ref s2.heap.objs.size)) (EP X pins σ Q) X.xe _
    exact tail_any (ops := [.ref b, .ref s2.heap.objs.size]) ht.isList.typeIs slot_list_getitem.lookup hg (by with_unfolding_all rfl)
  · subst ex
    cases r1
    refine wpAny_Slice ?_
    rw [evalPart_none]
    refine wpAny_pure (wpAny_pure ?_)
    refine thn (step.run pins s1 σ H1 (fun o H2 => o = some (-1) ∧ H2 = H1) I1 ⟨1, rfl, -1, rfl, rfl, rfl⟩) fun vst s2 ⟨o, H2, I2, po, eo, eH⟩ => ?_
    subst eo
    subst eH
    have I3 : Inv X pins σ H2 { s2 with heap := s2.heap.push { cls := .type "slice", data := .fields #[.none, .none, vst] } } := I2.kept (t' := s2.toks) fun b ob q => Heap.get?_push_of_some _ q
    obtain ⟨its, r, ht, hz⟩ := I3.tuple hq
    have hg : wpAny (model X.prog X.w) X.A (getItem (.ref b) (.ref s2.heap.objs.size)) (EP X pins σ Q) X.xe { s2 with heap := s2.heap.push { cls := .type "slice", data := .fields #[.none, .none, vst] } } := by
      refine back_item ht (Heap.IsSliceOf.new ..) po ?_ (by rw [List.size_toArray, ← r.length]; exact hz)
      refine ⟨.ref _, _, I3.laid (t' := s2.toks) (o := .tup vs.reverse) (fun b ob q => Heap.get?_push_of_some _ q) (Nat.le_refl _) ?_, rfl, q1 _ (I3.hok.fresh (Nat.le_refl _))⟩
      exact ⟨by rw [List.length_reverse]; exact hz, its.reverse, by simpa using r.reverse, _, Heap.get?_push_size _ rfl, rfl, 0, by simp⟩
    show wpAny (model X.prog X.w) X.A (subscriptTail e (.Slice none none (some (.UnaryOp .USub (.Constant (.int 1) j p1) p2)) p3) (.ref b) (.ref s2.heap.objs.size)) (EP X pins σ Q) X.xe _
    exact tail_any (ops := [.ref b, .ref s2.heap.objs.size]) ht.typeIs PyProof.Rows.slot_tuple_getitem.lookup hg (by with_unfolding_all rfl)
theorem revA_ok {m : M PV} {xs : List PV} {en : En} {p p1 : Pool} (h : m en p = .ok (.lst xs) p1) : mRevA m en p = .ok (.lst xs.reverse) p1 := by
  unfold mRevA
  rw [h]
  rfl
theorem revA_tup {m : M PV} {xs : List PV} {en : En} {p p1 : Pool} (h : m en p = .ok (.tup xs) p1) : mRevA m en p = .ok (.tup xs.reverse) p1 := by
  unfold mRevA
  rw [h]
  rfl
end
end R

/-! R23: zip of two tuples; list(range(n)); x[i], x[j] = a, b; len(set(t)); a number in a tuple -/
namespace R
open PySem L2 PySem.Spec PyProof.Rows
section
variable {X : Cx} {C : Cn} {pos : Pos}
/-! ### zip -/
theorem itR_zipT {Γ : Cfg} {w : Wd} {a b : Addr} {xs ys : List PV} {vs us : List V} (h : SqT Γ.K w.G a vs) (r : Reps Γ w xs vs) (k : SqT Γ.K w.G b us) (q : Reps Γ w ys us) : ItR Γ w noCk (zipZ xs ys) (RZ.ItzT Γ.K a b) := fun L w' p H l S _ i => by
  have h' : SqT Γ.K H a vs := seqT_mono (fun b o e => S.sub b o (l.1 b o e)) h
  have k' : SqT Γ.K H b us := seqT_mono (fun b o e => S.sub b o (l.1 b o e)) k
  rw [zipZ_get]
  cases e : xs[i]? with
  | none => exact ⟨fun _ => ⟨vs, us, h', k', .inl (by rw [← r.length]; exact List.getElem?_eq_none_iff.mp e)⟩, (fun _ z => nomatch z)⟩
  | some x =>
    cases f : ys[i]? with
    | none => exact ⟨fun _ => ⟨vs, us, h', k', .inr (by rw [← q.length]; exact List.getElem?_eq_none_iff.mp f)⟩, (fun _ z => nomatch z)⟩
    | some y =>
      refine ⟨(fun z => nomatch z), fun t et => ?_⟩
      have et : PV.tup [x, y] = t := Option.some.inj et
      subst et
      obtain ⟨v, ev, rv⟩ := r.get e
      obtain ⟨u, eu, ru⟩ := q.get f
      refine ⟨⟨vs, us, v, u, h', k', ev, eu⟩, fun t H' hy => ?_⟩
      obtain ⟨T, z, z2, rfl, hT, rfl, hz, hz2⟩ := hy
      have e2 : z = v := Option.some.inj ((hz vs h').symm.trans ev)
      have e3 : z2 = u := Option.some.inj ((hz2 us k').symm.trans eu)
      subst e2
      subst e3
      exact new_tup S hT (Reps.cons (rv.mono l) (Reps.cons (ru.mono l) Reps.nil))
/-- zip of two tuples, too -/
def itZU (a : M (List PV)) : M It0 := fun en p => match a en p with
  | .ok [.tup xs, .tup ys] p1 => .ok ⟨zipZ xs ys, noCk⟩ p1
  | _ => itZA a en p
theorem ri_zipU {e e2 : Expr} {m : M (List PV)} {p tpos : Pos} {elts : List Expr} {kk : Nat} (hK : X.K = C.Γ.K) (hg : Gl X "zip") (hm : X.mg "zip" = none) (ha : RA X C [e, e2] m) (hs : starEach [e, e2] X.env = (false, eval e X.env) :: starEach [e2] X.env := by rfl) (hs2 : ((backTo pos (starEach [e2] X.env)).any fun x => x.1) = false := by rfl) :
    RI X C (.Tuple elts kk tpos) (.Call (.Name "zip" p) [e, e2] [] pos) (itZU m) := PI.imp (PI.or (ri_zipA hK hg hm ha hs hs2) (RZ.pi_zipA hg hm ha.pa hs hs2)) fun σ H R ⟨L, w, p, en, S, E, h⟩ => by
  unfold itZU at h
  split at h
  · rename_i xs ys p1 ea
    refine .inr ⟨L, w, p, en, S, E, ?_⟩
    rw [ea]
    intro w1 H1 vs l1 S1 r1
    obtain ⟨v, u, rfl, rv, ru⟩ := reps2 r1
    obtain ⟨a, vs, rfl, hq, rr⟩ := rv
    obtain ⟨b, us, rfl, hq2, rr2⟩ := ru
    rw [hK]
    exact ⟨a, b, vs, us, rfl, .inr ⟨seqT_mono S1.sub hq, seqT_mono S1.sub hq2, h w1 H1 _ l1 S1 (itR_zipT hq rr hq2 rr2)⟩⟩
  · exact .inl ⟨L, w, p, en, S, E, h⟩
theorem itZU_tup {m1 m2 : M PV} {xs ys : List PV} {en : En} {p p1 p2 : Pool} (h1 : m1 en p = .ok (.tup xs) p1) (h2 : m2 en p1 = .ok (.tup ys) p2) : itZU (mCons m1 (mCons m2 mNil)) en p = .ok ⟨zipZ xs ys, noCk⟩ p2 := by
  unfold itZU
  rw [two_ok h1 h2]
/-! ### list(range(n)) -/
def mLRg (a : M PV) : M PV := fun en p => (a en p).bind fun x p1 => match x with
  | .int n => if 0 ≤ n ∧ n ≤ 1000 then .ok (.own p1.length) (p1 ++ [.lst (rng 0 n.toNat)]) else .stuck
  | _ => .stuck
theorem rng_rep {Γ : Cfg} {w : Wd} (n : Int) : Reps Γ w (rng 0 n.toNat) (rgV 0 n) := by
  have e1 : rng 0 n.toNat = ((List.range n.toNat).map fun (i : Nat) => (0 : Int) + (i : Int)).map PV.int := by
    unfold rng
    rw [List.map_map]
    rfl
  have e2 : rgV 0 n = ((List.range n.toNat).map fun (i : Nat) => (0 : Int) + (i : Int)).map V.int := by
    unfold rgV
    rw [List.map_map, Int.sub_zero]
    rfl
  rw [e1, e2]
  exact Reps.ints
theorem re_lrg {e : Expr} {a : M PV} {p q : Pos} (hc : X.calm = true) (hg : Gl X "list") (hm : X.mg "list" = none) (hg2 : Gl X "range") (hm2 : X.mg "range" = none) (ha : RE X C e a) (na2 : starEach [e] X.env = (false, eval e X.env) :: starEach [] X.env := by rfl)
    (na : starEach [.Call (.Name "range" p) [e] [] q] X.env = (false, eval (.Call (.Name "range" p) [e] [] q) X.env) :: starEach [] X.env := by rfl) {p2 : Pos} :
    RE X C (.Call (.Name "list" p2) [.Call (.Name "range" p) [e] [] q] [] pos) (mLRg a) := (pe_listRg hc hg hm (prg_1 hg2 hm2 ha na2) na).imp fun σ H Q ⟨L, w, p, en, S, E, h⟩ => by
  refine ⟨L, w, p, en, S, E, h.bind fun x p1 w1 H1 v l1 S1 r1 h1 => ?_⟩
  cases x with
  | int n =>
    dsimp only at h1
    split at h1
    · rename_i hn
      have r1 : v = V.int n := r1
      exact ⟨n, r1, ⟨by decide, by decide, by omega, by omega, by omega⟩, newOwn S1 (rng_rep n) h1⟩
    · exact h1.elim
  | _ => exact h1.elim
theorem lrg_ok {a : M PV} {en : En} {p p1 : Pool} {n : Nat} (h : a en p = .ok (.int n) p1) (hn : n ≤ 1000) : mLRg a en p = .ok (.own p1.length) (p1 ++ [.lst (rng 0 n)]) := by
  unfold mLRg
  rw [h]
  dsimp only [Res.bind]
  rw [if_pos ⟨by omega, by omega⟩, Int.toNat_natCast]
/-! ### x[i], y[j] = a, b -/
def stIx (en : En) (o i : M PV) (y : PV) (p : Pool) (k : Pool → Ctl) : Ctl := (o en p).run en fun x p2 => (i en p2).run en fun j p3 => match x, j with
  | .own n, .int j => match p3[n]? with
    | some (.lst xs) => match ixN xs.length j with
      | some m => if may en.b n y = true then k (p3.set n (.lst (xs.set m y))) else .stuck
      | none => .stuck
    | _ => .stuck
  | _, _ => .stuck
def sSwp (o1 i1 o2 i2 a : M PV) : S := fun en p => (a en p).run en fun x p1 => match x with
  | .tup [y, z] => stIx en o1 i1 y p1 fun p2 => stIx en o2 i2 z p2 fun p3 => .next en p3
  | _ => .stuck
theorem stIx_ok {o i : M PV} {L : Lv} {w : Wd} {p : Pool} {en : En} {σ : L2.St} {H : Hp} {D : Ends} {y : PV} {v : V} {k : Pool → Ctl} {Q : L2.St → Hp → Prop} (S : SimP C.Γ L w p H) (E : EnR C L w en σ) (ry : Rep C.Γ w y v) (h : PostS C L w D (stIx en o i y p k))
    (hQ : ∀ w' p' H', w.le w' → SimP C.Γ L w' p' H' → PostS C L w' D (k p') → Q σ H') : gSub (wE C o) (wE C i) rSetL v σ H Q := by
  refine ⟨L, w, p, en, S, E, h.run E fun x p2 w2 H2 u l2 S2 r2 h2 => ?_⟩
  refine ⟨L, w2, p2, en, S2, E.mono l2, h2.run (E.mono l2) fun j p3 w3 H3 t l3 S3 r3 h3 => ?_⟩
  split at h3
  · rename_i n j
    split at h3
    · rename_i xs e3
      split at h3
      · rename_i m em
        split at h3
        · rename_i hm
          obtain ⟨b, vs, e4, hb, g, eH, rr⟩ := Rep.ownH S3 (r2.mono l3) e3
          refine ⟨b, vs, j, m, e4, r3, eH, by rw [← rr.length]; exact em, ?_⟩
          rw [E.b] at hm
          exact hQ w3 (p3.set n (.lst (xs.set m y))) _ (l2.trans l3) (S3.write hb g ⟨by rw [Wd.low_G]; exact g, _, upd_same, rr.set (may_rep S3 (ry.mono (l2.trans l3)) hm)⟩) h3
        · exact h3.elim
      · exact h3.elim
    · exact h3.elim
  · exact h3.elim
theorem rs_swp {o1 i1 o2 i2 e : Expr} {m1 n1 m2 n2 a : M PV} {kk : Nat} {pa pb pt : Pos} (hc : X.calm = true) (hK : X.K = C.Γ.K) (ho1 : RE X C o1 m1) (hi1 : RE X C i1 n1) (ho2 : RE X C o2 m2) (hi2 : RE X C i2 n2) (ha : RE X C e a)
    (hs1 : ∀ (v : Value), assign (.Subscript o1 i1 pa) X.env v = (do
      let ov ← holding [v] (eval o1 X.env)
      let iv ← holding [v, ov] (eval i1 X.env)
      standAt pa
      holding [v, ov, iv] (setItem ov iv v)
      release [v, ov, iv] []) := by intro _; rfl)
    (hs2 : ∀ (v : Value), assign (.Subscript o2 i2 pb) X.env v = (do
      let ov ← holding [v] (eval o2 X.env)
      let iv ← holding [v, ov] (eval i2 X.env)
      standAt pb
      holding [v, ov, iv] (setItem ov iv v)
      release [v, ov, iv] []) := by intro _; rfl)
    (h1 : swapsWithSole [.Tuple [.Subscript o1 i1 pa, .Subscript o2 i2 pb] kk pt] e pos.line X.env = pure false := by rfl) (h2 : swappedStores [.Tuple [.Subscript o1 i1 pa, .Subscript o2 i2 pb] kk pt] e X.env = pure none := by rfl)
    (h3 : (assignEach [.Tuple [.Subscript o1 i1 pa, .Subscript o2 i2 pb] kk pt] X.env).map (·.2) = [assign (.Tuple [.Subscript o1 i1 pa, .Subscript o2 i2 pb] kk pt) X.env] := by rfl)
    (g1 : (assignEach [.Subscript o1 i1 pa, .Subscript o2 i2 pb] X.env).map (·.2) = assign (.Subscript o1 i1 pa) X.env :: (assignEach [.Subscript o2 i2 pb] X.env).map (·.2) := by rfl)
    (g2 : (assignEach [.Subscript o2 i2 pb] X.env).map (·.2) = assign (.Subscript o2 i2 pb) X.env :: (assignEach [] X.env).map (·.2) := by rfl)
    (g3 : (assignEach [.Subscript o1 i1 pa, .Subscript o2 i2 pb] X.env).length = 2 := by rfl) (g4 : (assignEach [.Subscript o1 i1 pa, .Subscript o2 i2 pb] X.env).findIdx? (·.1) = none := by rfl) :
    RS X C (.Assign [.Tuple [.Subscript o1 i1 pa, .Subscript o2 i2 pb] kk pt] e pos) (sSwp m1 n1 m2 n2 a) :=
  (ps_asg ha (pg_tup hc (pgs_cons (pg_sub ho1 hi1 set_list hs1) (pgs_cons (pg_sub ho2 hi2 set_list hs2) pgs_nil g2) g1) g3 g4) h1 h2 h3).imp fun D σ H ⟨L, w, p, en, S, E, h⟩ => by
    refine ⟨L, w, p, en, S, E, h.run E fun x p1 w1 H1 v l1 S1 r1 h1 => ?_⟩
    split at h1
    · rename_i y z
      obtain ⟨b, vs, rfl, hq, rr⟩ := r1
      obtain ⟨vy, vz, rfl, ry, rz⟩ := reps2 rr
      refine ⟨b, [vy, vz], rfl, by rw [hK]; exact seqT_mono S1.sub hq, rfl, vy, [vz], rfl, ?_⟩
      refine stIx_ok S1 (E.mono l1) ry h1 fun w2 p2 H2 l2 S2 k2 => ⟨vz, [], rfl, ?_⟩
      refine stIx_ok S2 ((E.mono l1).mono l2) (rz.mono l2) k2 fun w3 p3 H3 l3 S3 k3 => ⟨rfl, ?_⟩
      exact k3 w3 _ σ (Wd.le.refl w3) S3 (((E.mono l1).mono l2).mono l3)
    · exact h1.elim
theorem swp_nx {o1 i1 o2 i2 a : M PV} {en : En} {p p1 p2 p3 p4 p5 : Pool} {k1 n1 k2 n2 : Nat} {xs ys : List PV} {y z : PV} (ha : a en p = .ok (.tup [y, z]) p1) (ho1 : o1 en p1 = .ok (.own k1) p2) (hi1 : i1 en p2 = .ok (.int n1) p3) (hk1 : p3[k1]? = some (.lst xs)) (hn1 : n1 < xs.length) (hm1 : may en.b k1 y = true)
    (ho2 : o2 en (p3.set k1 (.lst (xs.set n1 y))) = .ok (.own k2) p4) (hi2 : i2 en p4 = .ok (.int n2) p5) (hk2 : p5[k2]? = some (.lst ys)) (hn2 : n2 < ys.length) (hm2 : may en.b k2 z = true) : sSwp o1 i1 o2 i2 a en p = .next en (p5.set k2 (.lst (ys.set n2 z))) := by
  unfold sSwp
  rw [ha]
  dsimp only [Res.run]
  unfold stIx
  rw [ho1]
  dsimp only [Res.run]
  rw [hi1]
  dsimp only [Res.run]
  rw [hk1]
  dsimp only
  rw [ixN_nat hn1]
  dsimp only
  rw [if_pos hm1, ho2]
  dsimp only [Res.run]
  rw [hi2]
  dsimp only [Res.run]
  rw [hk2]
  dsimp only
  rw [ixN_nat hn2]
  dsimp only
  rw [if_pos hm2]
/-! ### a number in a tuple of numbers -/
def pInI : F2 := fun x y p => match x with
  | .int i => match getQ p y with
    | some ys => match its ys with
      | some is => .ok (.bl (decide (i ∈ is))) p
      | none => .stuck
    | none => .stuck
  | _ => .stuck
def pNotInI : F2 := fun x y p => match x with
  | .int i => match getQ p y with
    | some ys => match its ys with
      | some is => .ok (.bl (!decide (i ∈ is))) p
      | none => .stuck
    | none => .stuck
  | _ => .stuck
theorem inV_ints (i : Int) : ∀ is : List Int, inV (.int i) (is.map V.int) = decide (i ∈ is)
  | [] => rfl
  | a :: is => by
    have ih := inV_ints i is
    unfold inV at ih ⊢
    rw [List.map_cons, List.any_cons, ih]
    show ((a == i) || decide (i ∈ is)) = _
    by_cases h : a = i
    · subst h
      simp
    · have h2 : ¬ i = a := fun e => h e.symm
      simp [h, h2]
theorem flat_ints (is : List Int) : (is.map V.int).all flatV = true := by
  rw [List.all_eq_true]
  intro v hv
  obtain ⟨a, _, rfl⟩ := List.mem_map.mp hv
  rfl
theorem op_inI (hK : X.K = C.Γ.K) : OpR X (compareOp .In) (rIn C.Γ.K false) := hK ▸ op_in_seq
theorem op_notInI (hK : X.K = C.Γ.K) : OpR X (compareOp .NotIn) (rIn C.Γ.K true) := hK ▸ op_notIn_seq
theorem ref_inI : RefO C (rIn C.Γ.K false) pInI := fun L w p H σ x y vx vy Q S rx ry q => by
  unfold pInI at q
  split at q
  · rename_i i
    split at q
    · rename_i ys ey
      split at q
      · rename_i is ei
        obtain ⟨a, us, rfl, hs, ru⟩ := getQ_ok S ry ey
        have e := its_ok ru ei
        subst e
        have rx : vx = V.int i := rx
        subst rx
        refine ⟨a, _, rfl, hs, rfl, flat_ints is, ?_⟩
        rw [if_neg Bool.false_ne_true, inV_ints]
        exact q.ok S rfl
      · exact q.elim
    · exact q.elim
  · exact q.elim
theorem ref_notInI : RefO C (rIn C.Γ.K true) pNotInI := fun L w p H σ x y vx vy Q S rx ry q => by
  unfold pNotInI at q
  split at q
  · rename_i i
    split at q
    · rename_i ys ey
      split at q
      · rename_i is ei
        obtain ⟨a, us, rfl, hs, ru⟩ := getQ_ok S ry ey
        have e := its_ok ru ei
        subst e
        have rx : vx = V.int i := rx
        subst rx
        refine ⟨a, _, rfl, hs, rfl, flat_ints is, ?_⟩
        rw [if_pos rfl, inV_ints]
        exact q.ok S rfl
      · exact q.elim
    · exact q.elim
  · exact q.elim
/-! ### len(set(t)) -/
/-- how many unlike numbers -/
def dnI : List Int → Nat
  | [] => 0
  | a :: r => if a ∈ r then dnI r else dnI r + 1
def ddI : List Int → List Int
  | [] => []
  | a :: r => if a ∈ r then ddI r else a :: ddI r
theorem ddI_mem : ∀ (r : List Int) (k : Int), k ∈ ddI r ↔ k ∈ r
  | [], _ => Iff.rfl
  | a :: r, k => by
    unfold ddI
    have ih := ddI_mem r k
    split
    · rename_i h
      rw [ih, List.mem_cons]
      exact ⟨.inr, fun z => z.elim (fun e => e ▸ h) id⟩
    · rw [List.mem_cons, List.mem_cons, ih]
theorem ddI_nd : ∀ r : List Int, (ddI r).Nodup
  | [] => List.nodup_nil
  | a :: r => by
    unfold ddI
    split
    · exact ddI_nd r
    · rename_i h
      exact List.nodup_cons.mpr ⟨fun z => h ((ddI_mem r a).mp z), ddI_nd r⟩
theorem ddI_len : ∀ r : List Int, (ddI r).length = dnI r
  | [] => rfl
  | a :: r => by
    unfold ddI dnI
    split
    · exact ddI_len r
    · rw [List.length_cons, ddI_len r]
theorem nodup_len : ∀ {l m : List Int}, l.Nodup → m.Nodup → (∀ k, k ∈ l ↔ k ∈ m) → l.length = m.length
  | [], [], _, _, _ => rfl
  | [], b :: m, _, _, h => nomatch (h b).mpr List.mem_cons_self
  | a :: l, m, hl, hm, h => by
    have ha : a ∈ m := (h a).mp List.mem_cons_self
    obtain ⟨h1, h2⟩ := List.nodup_cons.mp hl
    have e := nodup_len h2 (hm.erase a) fun k => by
      rw [List.Nodup.mem_erase_iff hm]
      constructor
      · intro z
        exact ⟨fun e => h1 (e ▸ z), (h k).mp (List.mem_cons_of_mem _ z)⟩
      · rintro ⟨z1, z2⟩
        rcases List.mem_cons.mp ((h k).mpr z2) with z | z
        · exact absurd z z1
        · exact z
    rw [List.length_cons, e, List.length_erase_of_mem ha]
    have := List.length_pos_of_mem ha
    omega
def mLSet (a : M PV) : M PV := fun en p => (a en p).bind fun x p1 => match x with
  | .tup ys => match its ys with
    | some ns => if ns.length ≤ 1000 then .ok (.int ((dnI ns : Nat) : Int)) p1 else .stuck
    | none => .stuck
  | _ => .stuck
def tLSet (K : PySem.W.Frag) (ta : TE) : TE := fun σ H Q => ta σ H fun x H1 => ∃ (l : Addr) (ns : List Int), x = .ref l ∧ SqT K H1 l (ns.map V.int) ∧ ns.length ≤ 1000 ∧ Q (.int ((dnI ns : Nat) : Int)) H1
theorem pe_lset {a : Expr} {ta : TE} {p p2 q : Pos} (hg : Gl X "len") (hm : X.mg "len" = none) (hg2 : Gl X "set") (hm2 : X.mg "set" = none) (ha : PE X a ta) (hc : X.calm = true)
    (na : starEach [a] X.env = (false, eval a X.env) :: starEach [] X.env := by rfl) (nb : starEach [.Call (.Name "set" p2) [a] [] q] X.env = (false, eval (.Call (.Name "set" p2) [a] [] q) X.env) :: starEach [] X.env := by rfl) : PE X (.Call (.Name "len" p) [.Call (.Name "set" p2) [a] [] q] [] pos) (tLSet X.K ta) := by
  refine ⟨fun pins s σ H Q I h => Call_ (ld_blt I hg hm boot_len (PyProof.Rows.callWith_builtin1 (PyProof.Rows.args_cons ?_ nb) nb rfl))⟩
  refine Call_ (ld_blt I hg2 hm2 boot_set (PyProof.Rows.callWith_type1 (PyProof.Rows.args_cons (thn (ha.run pins s σ H _ I h) fun v s1 ⟨x, H1, I1, r1, l, ns, ex, hq, hl, q1⟩ => PyProof.Rows.args_nil ?_) na) na rfl))
  subst ex
  cases r1
  obtain ⟨its, r, pt, hz⟩ := I1.tuple hq
  refine call_set_tupI ns (I1.ok.hd hc) pt (by simpa using r.ints) (by unfold scanBound; omega) fun h' tk c hS hcl hk => PyProof.Rows.args_nil ?_
  obtain ⟨o, es, ep, t, ho, hex, hd, hgood, hnd, hmem, hb, hf, hn, _⟩ := hS
  have I2 : Inv X pins σ H1 { s1 with heap := h', toks := tk } := I1.kept hk
  have ec : c = dnI ns := by
    rw [← ddI_len, ← hn]
    have e := nodup_len hnd (ddI_nd ns) fun k => by
      rw [ddI_mem, ← hmem k]
      exact decide_eq_true_iff
    rw [List.length_map, Array.length_toList] at e
    exact e
  exact call_len_set ho hex hd hf (by rw [hn] <;> omega) ⟨.int ((dnI ns : Nat) : Int), H1, I2.tok _, ⟨_, by rw [hn, ec]⟩, q1⟩
theorem re_lset {a : Expr} {m : M PV} {p p2 q : Pos} (hK : X.K = C.Γ.K) (hc : X.calm = true) (hg : Gl X "len") (hm : X.mg "len" = none) (hg2 : Gl X "set") (hm2 : X.mg "set" = none) (ha : RE X C a m)
    (na : starEach [a] X.env = (false, eval a X.env) :: starEach [] X.env := by rfl) (nb : starEach [.Call (.Name "set" p2) [a] [] q] X.env = (false, eval (.Call (.Name "set" p2) [a] [] q) X.env) :: starEach [] X.env := by rfl) : RE X C (.Call (.Name "len" p) [.Call (.Name "set" p2) [a] [] q] [] pos) (mLSet m) :=
  (pe_lset hg hm hg2 hm2 ha hc na nb).imp fun σ H Q ⟨L, w, p, en, S, E, h⟩ => by
    rw [hK]
    refine ⟨L, w, p, en, S, E, h.bind fun x p1 w1 H1 v l1 S1 r1 h1 => ?_⟩
    split at h1
    · rename_i ys
      split at h1
      · rename_i ns en
        split at h1
        · rename_i hl
          obtain ⟨b, vs, rfl, hq, rr⟩ := r1
          have e := its_ok rr en
          subst e
          exact ⟨b, ns, rfl, seqT_mono S1.sub hq, hl, h1.ok S1 rfl⟩
        · exact h1.elim
      · exact h1.elim
    · exact h1.elim
theorem lset_ok {a : M PV} {en : En} {p p1 : Pool} {ns : List Int} (h : a en p = .ok (.tup (ns.map .int)) p1) (hn : ns.length ≤ 1000) : mLSet a en p = .ok (.int ((dnI ns : Nat) : Int)) p1 := by
  unfold mLSet
  rw [h]
  dsimp only [Res.bind]
  rw [its_ints]
  dsimp only
  rw [if_pos hn]
end
end R

namespace K22
open PySem L2 R

def topS (i : Nat) : Stmt := PySem.Challenge.pw_rillweb_k22_whole_the_order_alone_choose.main.body.getD i (.Pass ⟨0, 0, 0, 0⟩)
abbrev s_is_whole : Stmt := topS 7
abbrev N_is_whole : List Str := ["thing"]
theorem sc_is_whole : FnScope N_is_whole ["thing"] (defScope s_is_whole) := ⟨rfl, rfl, rfl, by decide +kernel, rfl, by decide +kernel, by decide +kernel⟩
abbrev s_is_between : Stmt := topS 8
abbrev N_is_between : List Str := ["thing", "low", "high"]
theorem sc_is_between : FnScope N_is_between ["thing", "low", "high"] (defScope s_is_between) := ⟨rfl, rfl, rfl, by decide +kernel, rfl, by decide +kernel, by decide +kernel⟩
abbrev s_common_of : Stmt := topS 10
abbrev N_common_of : List Str := ["one", "other"]
theorem sc_common_of : FnScope N_common_of ["one", "other"] (defScope s_common_of) := ⟨rfl, rfl, rfl, by decide +kernel, rfl, by decide +kernel, by decide +kernel⟩
abbrev s_Share_init : Stmt := inClass (topS 11) 0
abbrev N_Share_init : List Str := ["self", "top", "bottom", "part"]
theorem sc_Share_init : FnScope N_Share_init ["self", "top", "bottom"] (defScope s_Share_init) := ⟨rfl, rfl, rfl, by decide +kernel, rfl, by decide +kernel, by decide +kernel⟩
abbrev s_Share_eq : Stmt := inClass (topS 11) 1
abbrev N_Share_eq : List Str := ["self", "other"]
theorem sc_Share_eq : FnScope N_Share_eq ["self", "other"] (defScope s_Share_eq) := ⟨rfl, rfl, rfl, by decide +kernel, rfl, by decide +kernel, by decide +kernel⟩
abbrev s_plus : Stmt := topS 12
abbrev N_plus : List Str := ["one", "other"]
theorem sc_plus : FnScope N_plus ["one", "other"] (defScope s_plus) := ⟨rfl, rfl, rfl, by decide +kernel, rfl, by decide +kernel, by decide +kernel⟩
abbrev s_times : Stmt := topS 13
abbrev N_times : List Str := ["one", "other"]
theorem sc_times : FnScope N_times ["one", "other"] (defScope s_times) := ⟨rfl, rfl, rfl, by decide +kernel, rfl, by decide +kernel, by decide +kernel⟩
abbrev s_less : Stmt := topS 14
abbrev N_less : List Str := ["one", "other"]
theorem sc_less : FnScope N_less ["one", "other"] (defScope s_less) := ⟨rfl, rfl, rfl, by decide +kernel, rfl, by decide +kernel, by decide +kernel⟩
abbrev s_is_bed : Stmt := topS 19
abbrev N_is_bed : List Str := ["thing", "many", "start", "end", "low", "high"]
theorem sc_is_bed : FnScope N_is_bed ["thing", "many"] (defScope s_is_bed) := ⟨rfl, rfl, rfl, by decide +kernel, rfl, by decide +kernel, by decide +kernel⟩
abbrev s_are_beds : Stmt := topS 20
abbrev N_are_beds : List Str := ["thing", "many", "starts", "bed", "start"]
theorem sc_are_beds : FnScope N_are_beds ["thing", "many"] (defScope s_are_beds) := ⟨rfl, rfl, rfl, by decide +kernel, rfl, by decide +kernel, by decide +kernel⟩
abbrev s_are_parts : Stmt := topS 21
abbrev N_are_parts : List Str := ["thing", "many", "beds", "place", "row", "wanted", "bed", "part"]
theorem sc_are_parts : FnScope N_are_parts ["thing", "many", "beds"] (defScope s_are_parts) := ⟨rfl, rfl, rfl, by decide +kernel, rfl, by decide +kernel, by decide +kernel⟩
abbrev s_Web_init : Stmt := inClass (topS 22) 0
abbrev N_Web_init : List Str := ["self", "many", "beds", "parts"]
theorem sc_Web_init : FnScope N_Web_init ["self", "many", "beds", "parts"] (defScope s_Web_init) := ⟨rfl, rfl, rfl, by decide +kernel, rfl, by decide +kernel, by decide +kernel⟩
abbrev s_Web_eq : Stmt := inClass (topS 22) 1
abbrev N_Web_eq : List Str := ["self", "other"]
theorem sc_Web_eq : FnScope N_Web_eq ["self", "other"] (defScope s_Web_eq) := ⟨rfl, rfl, rfl, by decide +kernel, rfl, by decide +kernel, by decide +kernel⟩
abbrev s_beds_from : Stmt := topS 23
abbrev N_beds_from : List Str := ["web", "place", "k", "bed"]
theorem sc_beds_from : FnScope N_beds_from ["web", "place"] (defScope s_beds_from) := ⟨rfl, rfl, rfl, by decide +kernel, rfl, by decide +kernel, by decide +kernel⟩
abbrev s_share_by_rank : Stmt := topS 24
abbrev N_share_by_rank : List Str := ["web", "place", "rank", "row"]
theorem sc_share_by_rank : FnScope N_share_by_rank ["web", "place", "rank"] (defScope s_share_by_rank) := ⟨rfl, rfl, rfl, by decide +kernel, rfl, by decide +kernel, by decide +kernel⟩
abbrev s_move_of : Stmt := topS 25
abbrev N_move_of : List Str := ["web", "bed", "amount", "start", "end", "low", "high"]
theorem sc_move_of : FnScope N_move_of ["web", "bed", "amount"] (defScope s_move_of) := ⟨rfl, rfl, rfl, by decide +kernel, rfl, by decide +kernel, by decide +kernel⟩
abbrev s_are_depths : Stmt := topS 26
abbrev N_are_depths : List Str := ["thing", "web", "one"]
theorem sc_are_depths : FnScope N_are_depths ["thing", "web"] (defScope s_are_depths) := ⟨rfl, rfl, rfl, by decide +kernel, rfl, by decide +kernel, by decide +kernel⟩
abbrev s_check_depths : Stmt := topS 27
abbrev N_check_depths : List Str := ["web", "depths"]
theorem sc_check_depths : FnScope N_check_depths ["web", "depths"] (defScope s_check_depths) := ⟨rfl, rfl, rfl, by decide +kernel, rfl, by decide +kernel, by decide +kernel⟩
abbrev s_check_rain : Stmt := topS 28
abbrev N_check_rain : List Str := ["web", "rain", "one"]
theorem sc_check_rain : FnScope N_check_rain ["web", "rain"] (defScope s_check_rain) := ⟨rfl, rfl, rfl, by decide +kernel, rfl, by decide +kernel, by decide +kernel⟩
abbrev s_ranked : Stmt := topS 29
abbrev N_ranked : List Str := ["web", "depths", "place", "beds"]
theorem sc_ranked : FnScope N_ranked ["web", "depths", "place"] (defScope s_ranked) := ⟨rfl, rfl, rfl, by decide +kernel, rfl, by decide +kernel, by decide +kernel⟩
abbrev s_flow : Stmt := topS 30
abbrev N_flow : List Str := ["web", "depths", "rain", "waters", "bed", "bears", "place", "rank", "end"]
theorem sc_flow : FnScope N_flow ["web", "depths", "rain"] (defScope s_flow) := ⟨rfl, rfl, rfl, by decide +kernel, rfl, by decide +kernel, by decide +kernel⟩
abbrev s_moved : Stmt := topS 31
abbrev N_moved : List Str := ["web", "depths", "bears", "bed", "depth"]
theorem sc_moved : FnScope N_moved ["web", "depths", "bears"] (defScope s_moved) := ⟨rfl, rfl, rfl, by decide +kernel, rfl, by decide +kernel, by decide +kernel⟩
abbrev s_borne : Stmt := topS 32
abbrev N_borne : List Str := ["web", "depths", "rain"]
theorem sc_borne : FnScope N_borne ["web", "depths", "rain"] (defScope s_borne) := ⟨rfl, rfl, rfl, by decide +kernel, rfl, by decide +kernel, by decide +kernel⟩
abbrev s_step : Stmt := topS 33
abbrev N_step : List Str := ["web", "depths", "rain"]
theorem sc_step : FnScope N_step ["web", "depths", "rain"] (defScope s_step) := ⟨rfl, rfl, rfl, by decide +kernel, rfl, by decide +kernel, by decide +kernel⟩
abbrev s_law_cell_at : Stmt := topS 35
abbrev N_law_cell_at : List Str := ["script", "k"]
theorem sc_law_cell_at : FnScope N_law_cell_at ["script", "k"] (defScope s_law_cell_at) := ⟨rfl, rfl, rfl, by decide +kernel, rfl, by decide +kernel, by decide +kernel⟩
abbrev s_law_mixed : Stmt := topS 36
abbrev N_law_mixed : List Str := ["cell", "k", "low"]
theorem sc_law_mixed : FnScope N_law_mixed ["cell", "k"] (defScope s_law_mixed) := ⟨rfl, rfl, rfl, by decide +kernel, rfl, by decide +kernel, by decide +kernel⟩
abbrev s_law_source : Stmt := topS 37
abbrev N_law_source : List Str := ["script", "k", "cell"]
theorem sc_law_source : FnScope N_law_source ["script", "k"] (defScope s_law_source) := ⟨rfl, rfl, rfl, by decide +kernel, rfl, by decide +kernel, by decide +kernel⟩
abbrev s_law_next : Stmt := topS 38
abbrev N_law_next : List Str := ["source", "many", "found"]
theorem sc_law_next : FnScope N_law_next ["source", "many"] (defScope s_law_next) := ⟨rfl, rfl, rfl, by decide +kernel, rfl, by decide +kernel, by decide +kernel⟩
abbrev s_law_pick : Stmt := topS 39
abbrev N_law_pick : List Str := ["source", "some"]
theorem sc_law_pick : FnScope N_law_pick ["source", "some"] (defScope s_law_pick) := ⟨rfl, rfl, rfl, by decide +kernel, rfl, by decide +kernel, by decide +kernel⟩
abbrev s_law_lowered : Stmt := topS 40
abbrev N_law_lowered : List Str := ["one", "other", "high", "low"]
theorem sc_law_lowered : FnScope N_law_lowered ["one", "other"] (defScope s_law_lowered) := ⟨rfl, rfl, rfl, by decide +kernel, rfl, by decide +kernel, by decide +kernel⟩
abbrev s_law_sum : Stmt := topS 41
abbrev N_law_sum : List Str := ["one", "other"]
theorem sc_law_sum : FnScope N_law_sum ["one", "other"] (defScope s_law_sum) := ⟨rfl, rfl, rfl, by decide +kernel, rfl, by decide +kernel, by decide +kernel⟩
abbrev s_law_product : Stmt := topS 42
abbrev N_law_product : List Str := ["one", "other"]
theorem sc_law_product : FnScope N_law_product ["one", "other"] (defScope s_law_product) := ⟨rfl, rfl, rfl, by decide +kernel, rfl, by decide +kernel, by decide +kernel⟩
abbrev s_law_mark : Stmt := topS 44
abbrev N_law_mark : List Str := ["source", "whole"]
theorem sc_law_mark : FnScope N_law_mark ["source"] (defScope s_law_mark) := ⟨rfl, rfl, rfl, by decide +kernel, rfl, by decide +kernel, by decide +kernel⟩
abbrev s_law_beds_of : Stmt := topS 45
abbrev N_law_beds_of : List Str := ["source", "many", "found", "place", "k", "finish", "low", "more"]
theorem sc_law_beds_of : FnScope N_law_beds_of ["source", "many"] (defScope s_law_beds_of) := ⟨rfl, rfl, rfl, by decide +kernel, rfl, by decide +kernel, by decide +kernel⟩
abbrev s_law_world : Stmt := topS 46
abbrev N_law_world : List Str := ["source", "most_places", "many", "rows", "shared", "place", "wanted", "some", "one", "k"]
theorem sc_law_world : FnScope N_law_world ["source", "most_places"] (defScope s_law_world) := ⟨rfl, rfl, rfl, by decide +kernel, rfl, by decide +kernel, by decide +kernel⟩
abbrev s_law_made : Stmt := topS 47
abbrev N_law_made : List Str := ["world", "many", "rows", "shared", "told", "start", "finish", "low", "high"]
theorem sc_law_made : FnScope N_law_made ["world"] (defScope s_law_made) := ⟨rfl, rfl, rfl, by decide +kernel, rfl, by decide +kernel, by decide +kernel⟩
abbrev s_law_depths : Stmt := topS 48
abbrev N_law_depths : List Str := ["source", "world", "found", "start", "finish", "low", "high", "deep"]
theorem sc_law_depths : FnScope N_law_depths ["source", "world"] (defScope s_law_depths) := ⟨rfl, rfl, rfl, by decide +kernel, rfl, by decide +kernel, by decide +kernel⟩
abbrev s_law_falls : Stmt := topS 49
abbrev N_law_falls : List Str := ["source", "world", "found", "place", "some", "mine", "mark", "part", "one", "k"]
theorem sc_law_falls : FnScope N_law_falls ["source", "world"] (defScope s_law_falls) := ⟨rfl, rfl, rfl, by decide +kernel, rfl, by decide +kernel, by decide +kernel⟩
abbrev s_law_shares : Stmt := topS 50
abbrev N_law_shares : List Str := ["told", "one"]
theorem sc_law_shares : FnScope N_law_shares ["told"] (defScope s_law_shares) := ⟨rfl, rfl, rfl, by decide +kernel, rfl, by decide +kernel, by decide +kernel⟩
abbrev s_law_same_order : Stmt := topS 51
abbrev N_law_same_order : List Str := ["source", "world", "depths", "found", "rows", "bed", "apart_by", "mine", "its", "way", "one"]
theorem sc_law_same_order : FnScope N_law_same_order ["source", "world", "depths"] (defScope s_law_same_order) := ⟨rfl, rfl, rfl, by decide +kernel, rfl, by decide +kernel, by decide +kernel⟩
abbrev s_law_twisted : Stmt := topS 52
abbrev N_law_twisted : List Str := ["world", "rows", "found", "bed"]
theorem sc_law_twisted : FnScope N_law_twisted ["world"] (defScope s_law_twisted) := ⟨rfl, rfl, rfl, by decide +kernel, rfl, by decide +kernel, by decide +kernel⟩
abbrev s_law_steps_of : Stmt := topS 53
abbrev N_law_steps_of : List Str := ["depths", "morning", "mine", "its"]
theorem sc_law_steps_of : FnScope N_law_steps_of ["depths", "morning"] (defScope s_law_steps_of) := ⟨rfl, rfl, rfl, by decide +kernel, rfl, by decide +kernel, by decide +kernel⟩
abbrev s_law_twist_right : Stmt := topS 54
abbrev N_law_twist_right : List Str := ["source", "world", "depths", "fall", "twist", "rows", "other", "there", "mine", "its", "ties", "bed", "is_tie", "morning", "back", "first", "at"]
theorem sc_law_twist_right : FnScope N_law_twist_right ["source", "world", "depths", "fall"] (defScope s_law_twist_right) := ⟨rfl, rfl, rfl, by decide +kernel, rfl, by decide +kernel, by decide +kernel⟩
abbrev s_law : Stmt := topS 55
abbrev N_law : List Str := ["script", "k", "source", "world", "made", "lap", "depths", "fall", "same", "steps_due", "one"]
theorem sc_law : FnScope N_law ["script"] (defScope s_law) := ⟨rfl, rfl, rfl, by decide +kernel, rfl, by decide +kernel, by decide +kernel⟩
theorem kit_own {K : PySem.W.Frag} {C D : Addr} {b : Bool} (i : PySem.W.isClsIn K C = true) (t : PySem.W.typeIn K (.ref C) = some (.type "type")) (r : PySem.W.subIn K (.ref C) (.ref C) = some true) (s : PySem.W.subIn K (.ref D) (.ref C) = some b) : PySem.W.kitOne K (.ref D) (.ref C) = some b := by
  unfold PySem.W.kitOne
  split
  · rename_i h
    have e : D = C := Value.ref.inj (eq_of_beq h)
    subst e
    exact r.symm.trans s
  · unfold PySem.W.kitCls
    have e2 : ((PySem.W.clsIn K C).isSome && PySem.W.typeIn K (.ref C) == some (.type "type")) = true := by
      have h2' : (PySem.W.clsIn K C).isSome = true := i
      rw [h2', t] <;> rfl
    dsimp only
    rw [if_pos e2]
    exact s
theorem kit_tyC {K : PySem.W.Frag} {C : Addr} {T : String} {b : Bool} (i : PySem.W.isClsIn K C = true) (t : PySem.W.typeIn K (.ref C) = some (.type "type")) (s : PySem.W.subIn K (.type T) (.ref C) = some b) : PySem.W.kitOne K (.type T) (.ref C) = some b := by
  unfold PySem.W.kitOne
  have e : (Value.type T == Value.ref C) = false := rfl
  rw [if_neg (by rw [e]; exact Bool.false_ne_true)]
  unfold PySem.W.kitCls
  have e2 : ((PySem.W.clsIn K C).isSome && PySem.W.typeIn K (.ref C) == some (.type "type")) = true := by
    have h2' : (PySem.W.clsIn K C).isSome = true := i
    rw [h2', t] <;> rfl
  dsimp only
  rw [if_pos e2]
  exact s
theorem kit_Cty {K : PySem.W.Frag} {D : Addr} {T : String} {b : Bool} (hm : PySem.W.kitMeta T = true) (s : PySem.W.subIn K (.ref D) (.type T) = some b) : PySem.W.kitOne K (.ref D) (.type T) = some b := by
  unfold PySem.W.kitOne
  have e : (Value.ref D == Value.type T) = false := rfl
  rw [if_neg (by rw [e]; exact Bool.false_ne_true)]
  unfold PySem.W.kitCls
  dsimp only
  rw [if_pos hm]
  exact s
theorem notFirst_of {K : PySem.W.Frag} {C : Addr} {T : String} (s : PySem.W.subIn K (.type T) (.ref C) = some false) : PySem.W.notFirst K C (.type T) = true := by
  unfold PySem.W.notFirst
  rw [s]
  simp
set_option maxHeartbeats 0 in
structure Facts (K : PySem.W.Frag) (mg : Str → Option Value) where
  c_Share : Addr
  gc_Share : mg "Share" = some (.ref c_Share)
  c_Web : Addr
  gc_Web : mg "Web" = some (.ref c_Web)
  f_is_whole : Addr
  d_is_whole : FuncData
  F_is_whole : FunD K "is_whole" "is_whole" (defArgs s_is_whole) (defBody s_is_whole) (defScope s_is_whole) [] [] f_is_whole d_is_whole
  b_is_whole : Binds K d_is_whole ["thing"] []
  g_is_whole : mg "is_whole" = some (.ref f_is_whole)
  f_is_between : Addr
  d_is_between : FuncData
  F_is_between : FunD K "is_between" "is_between" (defArgs s_is_between) (defBody s_is_between) (defScope s_is_between) [] [] f_is_between d_is_between
  b_is_between : Binds K d_is_between ["thing", "low", "high"] []
  g_is_between : mg "is_between" = some (.ref f_is_between)
  f_common_of : Addr
  d_common_of : FuncData
  F_common_of : FunD K "common_of" "common_of" (defArgs s_common_of) (defBody s_common_of) (defScope s_common_of) [] [] f_common_of d_common_of
  b_common_of : Binds K d_common_of ["one", "other"] []
  g_common_of : mg "common_of" = some (.ref f_common_of)
  f_Share_init : Addr
  d_Share_init : FuncData
  F_Share_init : FunD K "__init__" "Share.__init__" (defArgs s_Share_init) (defBody s_Share_init) (defScope s_Share_init) [V.int 1] [] f_Share_init d_Share_init
  w_Share_init_1 : ∃ ds, Vals [V.int 1] ds ∧ Binds K d_Share_init ["self", "top", "bottom"] ds
  w_Share_init_0 : ∃ ds, Vals [] ds ∧ Binds K d_Share_init ["self", "top", "bottom"] ds
  i_Share_init : PySem.W.findIn K (.ref c_Share) "__init__" = some (some (.ref f_Share_init))
  t_Share_init : PySem.W.isFn K (.ref f_Share_init) = true
  f_Share_eq : Addr
  d_Share_eq : FuncData
  F_Share_eq : FunD K "__eq__" "Share.__eq__" (defArgs s_Share_eq) (defBody s_Share_eq) (defScope s_Share_eq) [] [] f_Share_eq d_Share_eq
  b_Share_eq : Binds K d_Share_eq ["self", "other"] []
  i_Share_eq : PySem.W.findIn K (.ref c_Share) "__eq__" = some (some (.ref f_Share_eq))
  t_Share_eq : PySem.W.isFn K (.ref f_Share_eq) = true
  f_plus : Addr
  d_plus : FuncData
  F_plus : FunD K "plus" "plus" (defArgs s_plus) (defBody s_plus) (defScope s_plus) [] [] f_plus d_plus
  b_plus : Binds K d_plus ["one", "other"] []
  g_plus : mg "plus" = some (.ref f_plus)
  f_times : Addr
  d_times : FuncData
  F_times : FunD K "times" "times" (defArgs s_times) (defBody s_times) (defScope s_times) [] [] f_times d_times
  b_times : Binds K d_times ["one", "other"] []
  g_times : mg "times" = some (.ref f_times)
  f_less : Addr
  d_less : FuncData
  F_less : FunD K "less" "less" (defArgs s_less) (defBody s_less) (defScope s_less) [] [] f_less d_less
  b_less : Binds K d_less ["one", "other"] []
  g_less : mg "less" = some (.ref f_less)
  f_is_bed : Addr
  d_is_bed : FuncData
  F_is_bed : FunD K "is_bed" "is_bed" (defArgs s_is_bed) (defBody s_is_bed) (defScope s_is_bed) [] [] f_is_bed d_is_bed
  b_is_bed : Binds K d_is_bed ["thing", "many"] []
  g_is_bed : mg "is_bed" = some (.ref f_is_bed)
  f_are_beds : Addr
  d_are_beds : FuncData
  F_are_beds : FunD K "are_beds" "are_beds" (defArgs s_are_beds) (defBody s_are_beds) (defScope s_are_beds) [] [] f_are_beds d_are_beds
  b_are_beds : Binds K d_are_beds ["thing", "many"] []
  g_are_beds : mg "are_beds" = some (.ref f_are_beds)
  f_are_parts : Addr
  d_are_parts : FuncData
  F_are_parts : FunD K "are_parts" "are_parts" (defArgs s_are_parts) (defBody s_are_parts) (defScope s_are_parts) [] [] f_are_parts d_are_parts
  b_are_parts : Binds K d_are_parts ["thing", "many", "beds"] []
  g_are_parts : mg "are_parts" = some (.ref f_are_parts)
  f_Web_init : Addr
  d_Web_init : FuncData
  F_Web_init : FunD K "__init__" "Web.__init__" (defArgs s_Web_init) (defBody s_Web_init) (defScope s_Web_init) [] [] f_Web_init d_Web_init
  b_Web_init : Binds K d_Web_init ["self", "many", "beds", "parts"] []
  i_Web_init : PySem.W.findIn K (.ref c_Web) "__init__" = some (some (.ref f_Web_init))
  t_Web_init : PySem.W.isFn K (.ref f_Web_init) = true
  f_Web_eq : Addr
  d_Web_eq : FuncData
  F_Web_eq : FunD K "__eq__" "Web.__eq__" (defArgs s_Web_eq) (defBody s_Web_eq) (defScope s_Web_eq) [] [] f_Web_eq d_Web_eq
  b_Web_eq : Binds K d_Web_eq ["self", "other"] []
  i_Web_eq : PySem.W.findIn K (.ref c_Web) "__eq__" = some (some (.ref f_Web_eq))
  t_Web_eq : PySem.W.isFn K (.ref f_Web_eq) = true
  f_beds_from : Addr
  d_beds_from : FuncData
  F_beds_from : FunD K "beds_from" "beds_from" (defArgs s_beds_from) (defBody s_beds_from) (defScope s_beds_from) [] [] f_beds_from d_beds_from
  b_beds_from : Binds K d_beds_from ["web", "place"] []
  g_beds_from : mg "beds_from" = some (.ref f_beds_from)
  f_share_by_rank : Addr
  d_share_by_rank : FuncData
  F_share_by_rank : FunD K "share_by_rank" "share_by_rank" (defArgs s_share_by_rank) (defBody s_share_by_rank) (defScope s_share_by_rank) [] [] f_share_by_rank d_share_by_rank
  b_share_by_rank : Binds K d_share_by_rank ["web", "place", "rank"] []
  g_share_by_rank : mg "share_by_rank" = some (.ref f_share_by_rank)
  f_move_of : Addr
  d_move_of : FuncData
  F_move_of : FunD K "move_of" "move_of" (defArgs s_move_of) (defBody s_move_of) (defScope s_move_of) [] [] f_move_of d_move_of
  b_move_of : Binds K d_move_of ["web", "bed", "amount"] []
  g_move_of : mg "move_of" = some (.ref f_move_of)
  f_are_depths : Addr
  d_are_depths : FuncData
  F_are_depths : FunD K "are_depths" "are_depths" (defArgs s_are_depths) (defBody s_are_depths) (defScope s_are_depths) [] [] f_are_depths d_are_depths
  b_are_depths : Binds K d_are_depths ["thing", "web"] []
  g_are_depths : mg "are_depths" = some (.ref f_are_depths)
  f_check_depths : Addr
  d_check_depths : FuncData
  F_check_depths : FunD K "check_depths" "check_depths" (defArgs s_check_depths) (defBody s_check_depths) (defScope s_check_depths) [] [] f_check_depths d_check_depths
  b_check_depths : Binds K d_check_depths ["web", "depths"] []
  g_check_depths : mg "check_depths" = some (.ref f_check_depths)
  f_check_rain : Addr
  d_check_rain : FuncData
  F_check_rain : FunD K "check_rain" "check_rain" (defArgs s_check_rain) (defBody s_check_rain) (defScope s_check_rain) [] [] f_check_rain d_check_rain
  b_check_rain : Binds K d_check_rain ["web", "rain"] []
  g_check_rain : mg "check_rain" = some (.ref f_check_rain)
  f_ranked : Addr
  d_ranked : FuncData
  F_ranked : FunD K "ranked" "ranked" (defArgs s_ranked) (defBody s_ranked) (defScope s_ranked) [] [] f_ranked d_ranked
  b_ranked : Binds K d_ranked ["web", "depths", "place"] []
  g_ranked : mg "ranked" = some (.ref f_ranked)
  f_flow : Addr
  d_flow : FuncData
  F_flow : FunD K "flow" "flow" (defArgs s_flow) (defBody s_flow) (defScope s_flow) [] [] f_flow d_flow
  b_flow : Binds K d_flow ["web", "depths", "rain"] []
  g_flow : mg "flow" = some (.ref f_flow)
  f_moved : Addr
  d_moved : FuncData
  F_moved : FunD K "moved" "moved" (defArgs s_moved) (defBody s_moved) (defScope s_moved) [] [] f_moved d_moved
  b_moved : Binds K d_moved ["web", "depths", "bears"] []
  g_moved : mg "moved" = some (.ref f_moved)
  f_borne : Addr
  d_borne : FuncData
  F_borne : FunD K "borne" "borne" (defArgs s_borne) (defBody s_borne) (defScope s_borne) [] [] f_borne d_borne
  kb_borne : KBn K d_borne ["web", "depths", "rain"] 2 ["rain"] (fun us ws => us ++ ws) (fun vs zs => vs ++ zs)
  g_borne : mg "borne" = some (.ref f_borne)
  f_step : Addr
  d_step : FuncData
  F_step : FunD K "step" "step" (defArgs s_step) (defBody s_step) (defScope s_step) [] [] f_step d_step
  kb_step : KBn K d_step ["web", "depths", "rain"] 2 ["rain"] (fun us ws => us ++ ws) (fun vs zs => vs ++ zs)
  g_step : mg "step" = some (.ref f_step)
  f_law_cell_at : Addr
  d_law_cell_at : FuncData
  F_law_cell_at : FunD K "_law_cell_at" "_law_cell_at" (defArgs s_law_cell_at) (defBody s_law_cell_at) (defScope s_law_cell_at) [] [] f_law_cell_at d_law_cell_at
  b_law_cell_at : Binds K d_law_cell_at ["script", "k"] []
  g_law_cell_at : mg "_law_cell_at" = some (.ref f_law_cell_at)
  f_law_mixed : Addr
  d_law_mixed : FuncData
  F_law_mixed : FunD K "_law_mixed" "_law_mixed" (defArgs s_law_mixed) (defBody s_law_mixed) (defScope s_law_mixed) [] [] f_law_mixed d_law_mixed
  b_law_mixed : Binds K d_law_mixed ["cell", "k"] []
  g_law_mixed : mg "_law_mixed" = some (.ref f_law_mixed)
  f_law_source : Addr
  d_law_source : FuncData
  F_law_source : FunD K "_law_source" "_law_source" (defArgs s_law_source) (defBody s_law_source) (defScope s_law_source) [] [] f_law_source d_law_source
  b_law_source : Binds K d_law_source ["script", "k"] []
  g_law_source : mg "_law_source" = some (.ref f_law_source)
  f_law_next : Addr
  d_law_next : FuncData
  F_law_next : FunD K "_law_next" "_law_next" (defArgs s_law_next) (defBody s_law_next) (defScope s_law_next) [] [] f_law_next d_law_next
  b_law_next : Binds K d_law_next ["source", "many"] []
  g_law_next : mg "_law_next" = some (.ref f_law_next)
  f_law_pick : Addr
  d_law_pick : FuncData
  F_law_pick : FunD K "_law_pick" "_law_pick" (defArgs s_law_pick) (defBody s_law_pick) (defScope s_law_pick) [] [] f_law_pick d_law_pick
  b_law_pick : Binds K d_law_pick ["source", "some"] []
  g_law_pick : mg "_law_pick" = some (.ref f_law_pick)
  f_law_lowered : Addr
  d_law_lowered : FuncData
  F_law_lowered : FunD K "_law_lowered" "_law_lowered" (defArgs s_law_lowered) (defBody s_law_lowered) (defScope s_law_lowered) [] [] f_law_lowered d_law_lowered
  b_law_lowered : Binds K d_law_lowered ["one", "other"] []
  g_law_lowered : mg "_law_lowered" = some (.ref f_law_lowered)
  f_law_sum : Addr
  d_law_sum : FuncData
  F_law_sum : FunD K "_law_sum" "_law_sum" (defArgs s_law_sum) (defBody s_law_sum) (defScope s_law_sum) [] [] f_law_sum d_law_sum
  b_law_sum : Binds K d_law_sum ["one", "other"] []
  g_law_sum : mg "_law_sum" = some (.ref f_law_sum)
  f_law_product : Addr
  d_law_product : FuncData
  F_law_product : FunD K "_law_product" "_law_product" (defArgs s_law_product) (defBody s_law_product) (defScope s_law_product) [] [] f_law_product d_law_product
  b_law_product : Binds K d_law_product ["one", "other"] []
  g_law_product : mg "_law_product" = some (.ref f_law_product)
  f_law_mark : Addr
  d_law_mark : FuncData
  F_law_mark : FunD K "_law_mark" "_law_mark" (defArgs s_law_mark) (defBody s_law_mark) (defScope s_law_mark) [] [] f_law_mark d_law_mark
  b_law_mark : Binds K d_law_mark ["source"] []
  g_law_mark : mg "_law_mark" = some (.ref f_law_mark)
  f_law_beds_of : Addr
  d_law_beds_of : FuncData
  F_law_beds_of : FunD K "_law_beds_of" "_law_beds_of" (defArgs s_law_beds_of) (defBody s_law_beds_of) (defScope s_law_beds_of) [] [] f_law_beds_of d_law_beds_of
  b_law_beds_of : Binds K d_law_beds_of ["source", "many"] []
  g_law_beds_of : mg "_law_beds_of" = some (.ref f_law_beds_of)
  f_law_world : Addr
  d_law_world : FuncData
  F_law_world : FunD K "_law_world" "_law_world" (defArgs s_law_world) (defBody s_law_world) (defScope s_law_world) [] [] f_law_world d_law_world
  b_law_world : Binds K d_law_world ["source", "most_places"] []
  g_law_world : mg "_law_world" = some (.ref f_law_world)
  f_law_made : Addr
  d_law_made : FuncData
  F_law_made : FunD K "_law_made" "_law_made" (defArgs s_law_made) (defBody s_law_made) (defScope s_law_made) [] [] f_law_made d_law_made
  b_law_made : Binds K d_law_made ["world"] []
  g_law_made : mg "_law_made" = some (.ref f_law_made)
  f_law_depths : Addr
  d_law_depths : FuncData
  F_law_depths : FunD K "_law_depths" "_law_depths" (defArgs s_law_depths) (defBody s_law_depths) (defScope s_law_depths) [] [] f_law_depths d_law_depths
  b_law_depths : Binds K d_law_depths ["source", "world"] []
  g_law_depths : mg "_law_depths" = some (.ref f_law_depths)
  f_law_falls : Addr
  d_law_falls : FuncData
  F_law_falls : FunD K "_law_falls" "_law_falls" (defArgs s_law_falls) (defBody s_law_falls) (defScope s_law_falls) [] [] f_law_falls d_law_falls
  b_law_falls : Binds K d_law_falls ["source", "world"] []
  g_law_falls : mg "_law_falls" = some (.ref f_law_falls)
  f_law_shares : Addr
  d_law_shares : FuncData
  F_law_shares : FunD K "_law_shares" "_law_shares" (defArgs s_law_shares) (defBody s_law_shares) (defScope s_law_shares) [] [] f_law_shares d_law_shares
  b_law_shares : Binds K d_law_shares ["told"] []
  g_law_shares : mg "_law_shares" = some (.ref f_law_shares)
  f_law_same_order : Addr
  d_law_same_order : FuncData
  F_law_same_order : FunD K "_law_same_order" "_law_same_order" (defArgs s_law_same_order) (defBody s_law_same_order) (defScope s_law_same_order) [] [] f_law_same_order d_law_same_order
  b_law_same_order : Binds K d_law_same_order ["source", "world", "depths"] []
  g_law_same_order : mg "_law_same_order" = some (.ref f_law_same_order)
  f_law_twisted : Addr
  d_law_twisted : FuncData
  F_law_twisted : FunD K "_law_twisted" "_law_twisted" (defArgs s_law_twisted) (defBody s_law_twisted) (defScope s_law_twisted) [] [] f_law_twisted d_law_twisted
  b_law_twisted : Binds K d_law_twisted ["world"] []
  g_law_twisted : mg "_law_twisted" = some (.ref f_law_twisted)
  f_law_steps_of : Addr
  d_law_steps_of : FuncData
  F_law_steps_of : FunD K "_law_steps_of" "_law_steps_of" (defArgs s_law_steps_of) (defBody s_law_steps_of) (defScope s_law_steps_of) [] [] f_law_steps_of d_law_steps_of
  b_law_steps_of : Binds K d_law_steps_of ["depths", "morning"] []
  g_law_steps_of : mg "_law_steps_of" = some (.ref f_law_steps_of)
  f_law_twist_right : Addr
  d_law_twist_right : FuncData
  F_law_twist_right : FunD K "_law_twist_right" "_law_twist_right" (defArgs s_law_twist_right) (defBody s_law_twist_right) (defScope s_law_twist_right) [] [] f_law_twist_right d_law_twist_right
  b_law_twist_right : Binds K d_law_twist_right ["source", "world", "depths", "fall"] []
  g_law_twist_right : mg "_law_twist_right" = some (.ref f_law_twist_right)
  f_law : Addr
  d_law : FuncData
  F_law : FunD K "law" "law" (defArgs s_law) (defBody s_law) (defScope s_law) [] [] f_law d_law
  b_law : Binds K d_law ["script"] []
  g_law : mg "law" = some (.ref f_law)
  bl : ∀ (s : Shared) (u : Value), BindsTo s d_law ⟨[u], []⟩ [("script", u)]
  tk_MOST_BEDS : Tok
  g_MOST_BEDS : mg "MOST_BEDS" = some (.int 12 tk_MOST_BEDS)
  tk_MOST_PART : Tok
  g_MOST_PART : mg "MOST_PART" = some (.int 9 tk_MOST_PART)
  tk_MOST_PLACES : Tok
  g_MOST_PLACES : mg "MOST_PLACES" = some (.int 8 tk_MOST_PLACES)
  n_abs : mg "abs" = none
  n_all : mg "all" = none
  n_any : mg "any" = none
  n_bool : mg "bool" = none
  n_enumerate : mg "enumerate" = none
  n_int : mg "int" = none
  n_isinstance : mg "isinstance" = none
  n_len : mg "len" = none
  n_list : mg "list" = none
  n_max : mg "max" = none
  n_min : mg "min" = none
  n_range : mg "range" = none
  n_set : mg "set" = none
  n_sorted : mg "sorted" = none
  n_sum : mg "sum" = none
  n_tuple : mg "tuple" = none
  n_zip : mg "zip" = none
  mk_Share : PySem.W.makesIn K c_Share = true
  kc_Share : PySem.W.keepIn K (.ref c_Share) = true
  pg_Share : PySem.W.plainGet K c_Share Str.empty = true
  hd_Share : PySem.W.hasDictIn K c_Share = true
  po_Share : PySem.W.plainOver K c_Share = true
  sa_Share : PySem.W.findIn K (.ref c_Share) "__setattr__" = some (some (.builtin "object.__setattr__"))
  at_Share : PySem.W.findIn K (.ref c_Share) "__class__" = some (some (.builtin "object.__class__"))
  mr_Share : PySem.W.mroIn K c_Share (.type "object") = some true
  no_top_Share : PySem.W.findIn K (.ref c_Share) "top" = some none
  no_bottom_Share : PySem.W.findIn K (.ref c_Share) "bottom" = some none
  mk_Web : PySem.W.makesIn K c_Web = true
  kc_Web : PySem.W.keepIn K (.ref c_Web) = true
  pg_Web : PySem.W.plainGet K c_Web Str.empty = true
  hd_Web : PySem.W.hasDictIn K c_Web = true
  po_Web : PySem.W.plainOver K c_Web = true
  sa_Web : PySem.W.findIn K (.ref c_Web) "__setattr__" = some (some (.builtin "object.__setattr__"))
  at_Web : PySem.W.findIn K (.ref c_Web) "__class__" = some (some (.builtin "object.__class__"))
  mr_Web : PySem.W.mroIn K c_Web (.type "object") = some true
  no_many_Web : PySem.W.findIn K (.ref c_Web) "many" = some none
  no_beds_Web : PySem.W.findIn K (.ref c_Web) "beds" = some none
  no_parts_Web : PySem.W.findIn K (.ref c_Web) "parts" = some none
  hn : PySem.W.specialIn K (.builtin "object.__class__") "__get__" = some (some (.builtin "getset_descriptor.__get__"))
  ht : PySem.W.takesIn K (.builtin "object.__class__") = some true
  ic_Share : PySem.W.isClsIn K c_Share = true
  ty_Share : PySem.W.typeIn K (.ref c_Share) = some (.type "type")
  ne_Share : PySem.W.findIn K (.ref c_Share) "__ne__" = some (some (.builtin "object.__ne__"))
  sT_Share_NoneType : PySem.W.subIn K (.type "NoneType") (.ref c_Share) = some false
  sF_Share_NoneType : PySem.W.subIn K (.ref c_Share) (.type "NoneType") = some false
  sT_Share_bool : PySem.W.subIn K (.type "bool") (.ref c_Share) = some false
  sF_Share_bool : PySem.W.subIn K (.ref c_Share) (.type "bool") = some false
  sT_Share_int : PySem.W.subIn K (.type "int") (.ref c_Share) = some false
  sF_Share_int : PySem.W.subIn K (.ref c_Share) (.type "int") = some false
  sT_Share_str : PySem.W.subIn K (.type "str") (.ref c_Share) = some false
  sF_Share_str : PySem.W.subIn K (.ref c_Share) (.type "str") = some false
  sT_Share_tuple : PySem.W.subIn K (.type "tuple") (.ref c_Share) = some false
  sF_Share_tuple : PySem.W.subIn K (.ref c_Share) (.type "tuple") = some false
  sT_Share_list : PySem.W.subIn K (.type "list") (.ref c_Share) = some false
  sF_Share_list : PySem.W.subIn K (.ref c_Share) (.type "list") = some false
  ss_Share_Share : PySem.W.subIn K (.ref c_Share) (.ref c_Share) = some true
  ss_Share_Web : PySem.W.subIn K (.ref c_Share) (.ref c_Web) = some false
  ic_Web : PySem.W.isClsIn K c_Web = true
  ty_Web : PySem.W.typeIn K (.ref c_Web) = some (.type "type")
  ne_Web : PySem.W.findIn K (.ref c_Web) "__ne__" = some (some (.builtin "object.__ne__"))
  sT_Web_NoneType : PySem.W.subIn K (.type "NoneType") (.ref c_Web) = some false
  sF_Web_NoneType : PySem.W.subIn K (.ref c_Web) (.type "NoneType") = some false
  sT_Web_bool : PySem.W.subIn K (.type "bool") (.ref c_Web) = some false
  sF_Web_bool : PySem.W.subIn K (.ref c_Web) (.type "bool") = some false
  sT_Web_int : PySem.W.subIn K (.type "int") (.ref c_Web) = some false
  sF_Web_int : PySem.W.subIn K (.ref c_Web) (.type "int") = some false
  sT_Web_str : PySem.W.subIn K (.type "str") (.ref c_Web) = some false
  sF_Web_str : PySem.W.subIn K (.ref c_Web) (.type "str") = some false
  sT_Web_tuple : PySem.W.subIn K (.type "tuple") (.ref c_Web) = some false
  sF_Web_tuple : PySem.W.subIn K (.ref c_Web) (.type "tuple") = some false
  sT_Web_list : PySem.W.subIn K (.type "list") (.ref c_Web) = some false
  sF_Web_list : PySem.W.subIn K (.ref c_Web) (.type "list") = some false
  ss_Web_Share : PySem.W.subIn K (.ref c_Web) (.ref c_Share) = some false
  ss_Web_Web : PySem.W.subIn K (.ref c_Web) (.ref c_Web) = some true
def fldT : Nat → List Str := fun c => match c with | 0 => ["top", "bottom"] | 1 => ["many", "beds", "parts"] | _ => []
section
variable {P : Program} {w : World} {K : PySem.W.Frag} {mg : Str → Option Value} {base : Heap}
def Facts.cls (T : Facts K mg) : Nat → Addr := fun c => match c with | 0 => T.c_Share | _ => T.c_Web
abbrev cfg (T : Facts K mg) : Cfg := ⟨K, T.cls, fldT, fun _ => ""⟩
theorem Facts.k_Share (T : Facts K mg) : ClsF K (cfg T) 0 := ⟨⟨T.pg_Share, T.hd_Share, T.po_Share, T.sa_Share⟩, fun f h => by
  have h : f ∈ (["top", "bottom"] : List Str) := h
  simp only [List.mem_cons, List.not_mem_nil, or_false] at h
  rcases h with rfl | rfl
  · exact T.no_top_Share
  · exact T.no_bottom_Share, by show (["top", "bottom"] : List Str).Nodup; decide, by show (["top", "bottom"] : List Str).length < 1000; decide, T.at_Share, T.mr_Share⟩
theorem Facts.mkr_Share (T : Facts K mg) : Mk K T.c_Share T.f_Share_init := ⟨T.mk_Share, T.i_Share_init, T.t_Share_init, T.kc_Share⟩
theorem Facts.k_Web (T : Facts K mg) : ClsF K (cfg T) 1 := ⟨⟨T.pg_Web, T.hd_Web, T.po_Web, T.sa_Web⟩, fun f h => by
  have h : f ∈ (["many", "beds", "parts"] : List Str) := h
  simp only [List.mem_cons, List.not_mem_nil, or_false] at h
  rcases h with rfl | rfl | rfl
  · exact T.no_many_Web
  · exact T.no_beds_Web
  · exact T.no_parts_Web, by show (["many", "beds", "parts"] : List Str).Nodup; decide, by show (["many", "beds", "parts"] : List Str).length < 1000; decide, T.at_Web, T.mr_Web⟩
theorem Facts.mkr_Web (T : Facts K mg) : Mk K T.c_Web T.f_Web_init := ⟨T.mk_Web, T.i_Web_init, T.t_Web_init, T.kc_Web⟩
theorem Facts.isF (T : Facts K mg) : IsF (cfg T) 2 := ⟨fun c h => by
  match c, h with
  | 0, _ => exact T.k_Share
  | 1, _ => exact T.k_Web
  | n + 2, h => omega, T.hn, T.ht⟩
theorem Facts.isA_int (T : Facts K mg) : IsA (cfg T) 2 .int := isA_b (by simp) fun c h => by
  match c, h with
  | 0, _ => exact kit_Cty (by decide +kernel) T.sF_Share_int
  | 1, _ => exact kit_Cty (by decide +kernel) T.sF_Web_int
  | n + 2, h => omega
theorem Facts.isA_bool (T : Facts K mg) : IsA (cfg T) 2 .bl := isA_b (by simp) fun c h => by
  match c, h with
  | 0, _ => exact kit_Cty (by decide +kernel) T.sF_Share_bool
  | 1, _ => exact kit_Cty (by decide +kernel) T.sF_Web_bool
  | n + 2, h => omega
theorem Facts.isA_str (T : Facts K mg) : IsA (cfg T) 2 .str := isA_b (by simp) fun c h => by
  match c, h with
  | 0, _ => exact kit_Cty (by decide +kernel) T.sF_Share_str
  | 1, _ => exact kit_Cty (by decide +kernel) T.sF_Web_str
  | n + 2, h => omega
theorem Facts.isA_tuple (T : Facts K mg) : IsA (cfg T) 2 .tup := isA_b (by simp) fun c h => by
  match c, h with
  | 0, _ => exact kit_Cty (by decide +kernel) T.sF_Share_tuple
  | 1, _ => exact kit_Cty (by decide +kernel) T.sF_Web_tuple
  | n + 2, h => omega
theorem Facts.isA_list (T : Facts K mg) : IsA (cfg T) 2 .lst := isA_b (by simp) fun c h => by
  match c, h with
  | 0, _ => exact kit_Cty (by decide +kernel) T.sF_Share_list
  | 1, _ => exact kit_Cty (by decide +kernel) T.sF_Web_list
  | n + 2, h => omega
theorem Facts.isA_Share (T : Facts K mg) : IsA (cfg T) 2 (.cls 0) := isA_c (kit_tyC T.ic_Share T.ty_Share T.sT_Share_NoneType) (kit_tyC T.ic_Share T.ty_Share T.sT_Share_bool) (kit_tyC T.ic_Share T.ty_Share T.sT_Share_int) (kit_tyC T.ic_Share T.ty_Share T.sT_Share_str) (kit_tyC T.ic_Share T.ty_Share T.sT_Share_tuple) (kit_tyC T.ic_Share T.ty_Share T.sT_Share_list) fun d h => by
  match d, h with
  | 0, _ => exact kit_own T.ic_Share T.ty_Share T.ss_Share_Share T.ss_Share_Share
  | 1, _ => exact kit_own T.ic_Share T.ty_Share T.ss_Share_Share T.ss_Web_Share
  | n + 2, h => omega
theorem Facts.isA_Web (T : Facts K mg) : IsA (cfg T) 2 (.cls 1) := isA_c (kit_tyC T.ic_Web T.ty_Web T.sT_Web_NoneType) (kit_tyC T.ic_Web T.ty_Web T.sT_Web_bool) (kit_tyC T.ic_Web T.ty_Web T.sT_Web_int) (kit_tyC T.ic_Web T.ty_Web T.sT_Web_str) (kit_tyC T.ic_Web T.ty_Web T.sT_Web_tuple) (kit_tyC T.ic_Web T.ty_Web T.sT_Web_list) fun d h => by
  match d, h with
  | 0, _ => exact kit_own T.ic_Web T.ty_Web T.ss_Web_Web T.ss_Share_Web
  | 1, _ => exact kit_own T.ic_Web T.ty_Web T.ss_Web_Web T.ss_Web_Web
  | n + 2, h => omega
noncomputable def Facts.ds_Share_init_1 (T : Facts K mg) : List Value := Classical.choose T.w_Share_init_1
theorem Facts.v_Share_init_1 (T : Facts K mg) : Vals [V.int 1] (T.ds_Share_init_1) := (Classical.choose_spec T.w_Share_init_1).1
theorem Facts.b_Share_init_1 (T : Facts K mg) : Binds K T.d_Share_init ["self", "top", "bottom"] (T.ds_Share_init_1) := (Classical.choose_spec T.w_Share_init_1).2
noncomputable def Facts.ds_Share_init_0 (T : Facts K mg) : List Value := Classical.choose T.w_Share_init_0
theorem Facts.v_Share_init_0 (T : Facts K mg) : Vals [] (T.ds_Share_init_0) := (Classical.choose_spec T.w_Share_init_0).1
theorem Facts.b_Share_init_0 (T : Facts K mg) : Binds K T.d_Share_init ["self", "top", "bottom"] (T.ds_Share_init_0) := (Classical.choose_spec T.w_Share_init_0).2
end
def fuel : Nat := 2 ^ 4000
/-- two webs: their three fields -/
def qWeb (xs ys : List PV) : Option Bool := match xs, ys with
  | [a, b, c], [d, e, f] => if bels 0 [a, b, c] = true ∧ bels 0 [d, e, f] = true then eqvN .Eq 4 (.tup [a, b, c]) (.tup [d, e, f]) else none
  | _, _ => none
/-- is_whole -/
def b_is_whole : S :=
  (sRet (mAndV (mIsi 2 .int (mVar 0)) (mNotV (mIsi 2 .bl (mVar 0)))))
def m_is_whole : FnM := fnM fldT 1 b_is_whole
/-- is_between -/
def b_is_between : S :=
  (sRet (mAndV (mFn m_is_whole [] (mCons (mVar 0) mNil)) (mChain pLe pLe (mVar 1) (mVar 0) (mVar 2))))
def m_is_between : FnM := fnM fldT 3 b_is_between
/-- common_of -/
def b_common_of : S :=
  (sSeq (loopW (mB (mBin pNe (mVar 1) (mC (.int 0))))
    (sPar 0 1 (mCons (mVar 1) (mCons (mBin pMod (mVar 0) (mVar 1)) mNil))) fuel)
    (sRet (mCall cAbs (mCons (mVar 0) mNil))))
def m_common_of : FnM := fnM fldT 2 b_common_of
/-- Share.__init__ -/
def b_Share_init : S :=
  (sSeq (sIf (mOr (mNot (mB (mFn m_is_whole [] (mCons (mVar 1) mNil)))) (mOr (mNot (mB (mFn m_is_whole [] (mCons (mVar 2) mNil)))) (mB (mBin pEq (mVar 2) (mC (.int 0))))))
    sNo
    sNop)
    (sSeq (sSet (mFn m_common_of [] (mCons (mVar 1) (mCons (mVar 2) mNil))) 3)
    (sSeq (sIf (mB (mBin pLt (mVar 2) (mC (.int 0))))
    (sSet (mBin pSub (mC (.int 0)) (mVar 3)) 3)
    sNop)
    (sSeq (sFld 0 0 (mVar 0) (mBin pDiv (mVar 1) (mVar 3)))
    (sFld 0 1 (mVar 0) (mBin pDiv (mVar 2) (mVar 3)))))))
def m_Share_init : FnM := iniM fldT 0 4 b_Share_init
/-- Share.__eq__ -/
def b_Share_eq : S :=
  (sRet (mAndV (mIsi 2 (.cls 0) (mVar 1)) (mBin pEq (mTup (mCons (mFld 0 0 (mVar 0)) (mCons (mFld 0 1 (mVar 0)) mNil))) (mTup (mCons (mFld 0 0 (mVar 1)) (mCons (mFld 0 1 (mVar 1)) mNil))))))
def m_Share_eq : FnM := fnM fldT 2 b_Share_eq
/-- plus -/
def b_plus : S :=
  (sRet (mFn m_Share_init [] (mCons (mBin pAdd (mBin pMul (mFld 0 0 (mVar 0)) (mFld 0 1 (mVar 1))) (mBin pMul (mFld 0 0 (mVar 1)) (mFld 0 1 (mVar 0)))) (mCons (mBin pMul (mFld 0 1 (mVar 0)) (mFld 0 1 (mVar 1))) mNil))))
def m_plus : FnM := fnM fldT 2 b_plus
/-- times -/
def b_times : S :=
  (sRet (mFn m_Share_init [] (mCons (mBin pMul (mFld 0 0 (mVar 0)) (mFld 0 0 (mVar 1))) (mCons (mBin pMul (mFld 0 1 (mVar 0)) (mFld 0 1 (mVar 1))) mNil))))
def m_times : FnM := fnM fldT 2 b_times
/-- less -/
def b_less : S :=
  (sRet (mBin pLt (mBin pMul (mFld 0 0 (mVar 0)) (mFld 0 1 (mVar 1))) (mBin pMul (mFld 0 0 (mVar 1)) (mFld 0 1 (mVar 0)))))
def m_less : FnM := fnM fldT 2 b_less
/-- is_bed -/
def b_is_bed : S :=
  (sSeq (sIf (mOr (mNot (mB (mIsi 2 .tup (mVar 0)))) (mB (mBin pNe (mCall cLen (mCons (mVar 0) mNil)) (mC (.int 4)))))
    (sRet (mC (.bl false)))
    sNop)
    (sSeq (sAsg (mVar 0) (tgT 4 (tgCons (tgN 2) (tgCons (tgN 3) (tgCons (tgN 4) (tgCons (tgN 5) tgNil))))))
    (sSeq (sIf (mOr (mNot (mB (mFn m_is_between [] (mCons (mVar 2) (mCons (mC (.int 0)) (mCons (mBin pSub (mVar 1) (mC (.int 1))) mNil)))))) (mOr (mNot (mB (mFn m_is_between [] (mCons (mVar 3) (mCons (mC (.int 0)) (mCons (mBin pSub (mVar 1) (mC (.int 1))) mNil)))))) (mB (mBin pGe (mVar 2) (mVar 3)))))
    (sRet (mC (.bl false)))
    sNop)
    (sRet (mAndV (mIsi 2 (.cls 0) (mVar 4)) (mAndV (mIsi 2 (.cls 0) (mVar 5)) (mFn m_less [] (mCons (mVar 4) (mCons (mVar 5) mNil)))))))))
def m_is_bed : FnM := fnM fldT 6 b_is_bed
/-- are_beds -/
def b_are_beds : S :=
  (sSeq (sIf (mOr (mNot (mB (mIsi 2 .lst (mVar 0)))) (mOr (mB (mBin pGt (mCall cLen (mCons (mVar 0) mNil)) (mC (.int 12)))) (mNot (mB (mCall cAll (mCons (mLc (itS (mVar 0)) (tgN 3) mYes (mFn m_is_bed [] (mCons (mVar 3) (mCons (mVar 1) mNil))) [3]) mNil))))))
    (sRet (mC (.bl false)))
    sNop)
    (sSeq (sSet (mLc (itS (mVar 0)) (tgN 3) mYes (mBin pIx (mVar 3) (mC (.int 0))) [3]) 2)
    (sRet (mAndV (mBin (pTr fldT (eqvN .Eq 3)) (mVar 2) (mCall cSortUp (mCons (mVar 2) mNil))) (mCall cAll (mCons (mLc (itS (mVar 2)) (tgN 4) mYes (mBin pLt (mCnt (mVar 2) (mCons (mVar 4) mNil)) (mC (.int 3))) [4]) mNil))))))
def m_are_beds : FnM := fnM fldT 5 b_are_beds
/-- are_parts -/
def b_are_parts : S :=
  (sSeq (sIf (mOr (mNot (mB (mIsi 2 .lst (mVar 0)))) (mB (mBin pNe (mCall cLen (mCons (mVar 0) mNil)) (mVar 1))))
    (sRet (mC (.bl false)))
    sNop)
    (sSeq (sFor (itEA (mCons (mVar 0) mNil)) (tgT 2 (tgCons (tgN 3) (tgCons (tgN 4) tgNil)))
    (sSeq (sSet (mCall cLen (mCons (mLc (itS (mVar 2)) (tgN 6) (mB (mBin pEq (mBin pIx (mVar 6) (mC (.int 0))) (mVar 3))) (mVar 6) [6]) mNil)) 5)
    (sSeq (sIf (mOr (mNot (mB (mIsi 2 .tup (mVar 4)))) (mB (mBin pNe (mCall cLen (mCons (mVar 4) mNil)) (mVar 5))))
    (sRet (mC (.bl false)))
    sNop)
    (sIf (mOr (mNot (mB (mCall cAll (mCons (mLc (itS (mVar 4)) (tgN 7) mYes (mFn m_is_between [] (mCons (mVar 7) (mCons (mC (.int 0)) (mCons (mC (.int 9)) mNil)))) [7]) mNil)))) (mAnd (mB (mBin pGt (mVar 5) (mC (.int 0)))) (mB (mBin pEq (mCall cSumA (mCons (mVar 4) mNil)) (mC (.int 0))))))
    (sRet (mC (.bl false)))
    sNop))))
    (sRet (mC (.bl true)))))
def m_are_parts : FnM := fnM fldT 8 b_are_parts
/-- Web.__init__ -/
def b_Web_init : S :=
  (sSeq (sIf (mNot (mB (mFn m_is_between [] (mCons (mVar 1) (mCons (mC (.int 1)) (mCons (mC (.int 8)) mNil))))))
    sNo
    sNop)
    (sSeq (sIf (mNot (mB (mFn m_are_beds [] (mCons (mVar 2) (mCons (mVar 1) mNil)))))
    sNo
    sNop)
    (sSeq (sIf (mNot (mB (mFn m_are_parts [] (mCons (mVar 3) (mCons (mVar 1) (mCons (mVar 2) mNil))))))
    sNo
    sNop)
    (sSeq (sFld 1 0 (mVar 0) (mVar 1))
    (sSeq (sFld 1 1 (mVar 0) (mCall cList (mCons (mVar 2) mNil)))
    (sFld 1 2 (mVar 0) (mCall cList (mCons (mVar 3) mNil))))))))
def m_Web_init : FnM := iniM fldT 1 4 b_Web_init
/-- Web.__eq__ -/
def b_Web_eq : S :=
  (sSeq (sIf (mNot (mB (mIsi 2 (.cls 1) (mVar 1))))
    (sRet (mC (.bl false)))
    sNop)
    (sRet (mBin (pTr fldT (eqvN .Eq 4)) (mTup (mCons (mFld 1 0 (mVar 0)) (mCons (mFld 1 1 (mVar 0)) (mCons (mFld 1 2 (mVar 0)) mNil)))) (mTup (mCons (mFld 1 0 (mVar 1)) (mCons (mFld 1 1 (mVar 1)) (mCons (mFld 1 2 (mVar 1)) mNil)))))))
def m_Web_eq : FnM := fnM fldT 2 b_Web_eq
/-- beds_from -/
def b_beds_from : S :=
  (sRet (mLc (itEA (mCons (mFld 1 1 (mVar 0)) mNil)) (tgT 2 (tgCons (tgN 2) (tgCons (tgN 3) tgNil))) (mB (mBin pEq (mBin pIx (mVar 3) (mC (.int 0))) (mVar 1))) (mVar 2) [2, 3]))
def m_beds_from : FnM := fnM fldT 4 b_beds_from
/-- share_by_rank -/
def b_share_by_rank : S :=
  (sSeq (sSet (mBin pIx (mFld 1 2 (mVar 0)) (mVar 1)) 3)
    (sSeq (sIf (mB (mBin pEq (mCall cLen (mCons (mVar 3) mNil)) (mC (.int 1))))
    (sRet (mFn m_Share_init [.int 1] (mCons (mC (.int 1)) mNil)))
    sNop)
    (sRet (mFn m_Share_init [] (mCons (mBin pIx (mVar 3) (mVar 2)) (mCons (mCall cSumA (mCons (mVar 3) mNil)) mNil))))))
def m_share_by_rank : FnM := fnM fldT 4 b_share_by_rank
/-- move_of -/
def b_move_of : S :=
  (sSeq (sAsg (mBin pIx (mFld 1 1 (mVar 0)) (mVar 1)) (tgT 4 (tgCons (tgN 3) (tgCons (tgN 4) (tgCons (tgN 5) (tgCons (tgN 6) tgNil))))))
    (sSeq (sIf (mNot (mB (mFn m_less [] (mCons (mVar 2) (mCons (mVar 6) mNil)))))
    (sRet (mC (.int 1)))
    sNop)
    (sRet (mIf (mB (mFn m_less [] (mCons (mVar 5) (mCons (mVar 2) mNil)))) (mC (.int 0)) (mNeg (mC (.int 1)))))))
def m_move_of : FnM := fnM fldT 7 b_move_of
/-- are_depths -/
def b_are_depths : S :=
  (sRet (mAndV (mIsi 2 .tup (mVar 0)) (mAndV (mBin pEq (mCall cLen (mCons (mVar 0) mNil)) (mCall cLen (mCons (mFld 1 1 (mVar 1)) mNil))) (mCall cAll (mCons (mLc (itS (mVar 0)) (tgN 2) mYes (mFn m_is_whole [] (mCons (mVar 2) mNil)) [2]) mNil)))))
def m_are_depths : FnM := fnM fldT 3 b_are_depths
/-- check_depths -/
def b_check_depths : S :=
  (sIf (mNot (mB (mFn m_are_depths [] (mCons (mVar 1) (mCons (mVar 0) mNil)))))
    sNo
    sNop)
def m_check_depths : FnM := fnM fldT 2 b_check_depths
/-- check_rain -/
def b_check_rain : S :=
  (sSeq (sIf (mOr (mNot (mB (mIsi 2 .tup (mVar 1)))) (mOr (mB (mBin pNe (mCall cLen (mCons (mVar 1) mNil)) (mFld 1 0 (mVar 0)))) (mNot (mB (mCall cAll (mCons (mLc (itS (mVar 1)) (tgN 2) mYes (mIsi 2 (.cls 0) (mVar 2)) [2]) mNil))))))
    sNo
    sNop)
    (sIf (mB (mCall cAny (mCons (mLc (itS (mVar 1)) (tgN 2) mYes (mFn m_less [] (mCons (mVar 2) (mCons (mFn m_Share_init [.int 1] (mCons (mC (.int 0)) mNil)) mNil))) [2]) mNil)))
    sNo
    sNop))
def m_check_rain : FnM := fnM fldT 3 b_check_rain
/-- ranked -/
def b_ranked : S :=
  (sSeq (sSet (mFn m_beds_from [] (mCons (mVar 0) (mCons (mVar 2) mNil))) 3)
    (sSeq (sIf (mAnd (mB (mBin pEq (mCall cLen (mCons (mVar 3) mNil)) (mC (.int 2)))) (mB (mBin pLt (mBin pIx (mVar 1) (mBin pIx (mVar 3) (mC (.int 0)))) (mBin pIx (mVar 1) (mBin pIx (mVar 3) (mC (.int 1)))))))
    (sRet (mRev (mVar 3)))
    sNop)
    (sRet (mVar 3))))
def m_ranked : FnM := fnM fldT 4 b_ranked
/-- flow -/
def b_flow : S :=
  (sSeq (sSet (mCall cListO (mCons (mVar 2) mNil)) 3)
    (sSeq (sSet (mLcO (itS (mFld 1 1 (mVar 0))) (tgN 4) mYes (mFn m_Share_init [.int 1] (mCons (mC (.int 0)) mNil)) [4]) 5)
    (sSeq (sFor (itR1 (mCons (mFld 1 0 (mVar 0)) mNil)) (tgN 6)
    (sFor (itEA (mCons (mFn m_ranked [] (mCons (mVar 0) (mCons (mVar 1) (mCons (mVar 6) mNil)))) mNil)) (tgT 2 (tgCons (tgN 7) (tgCons (tgN 4) tgNil)))
    (sSeq (sIx (mVar 5) (mVar 4) (mFn m_times [] (mCons (mBin pIx (mVar 3) (mVar 6)) (mCons (mFn m_share_by_rank [] (mCons (mVar 0) (mCons (mVar 6) (mCons (mVar 7) mNil)))) mNil))))
    (sSeq (sSet (mBin pIx (mBin pIx (mFld 1 1 (mVar 0)) (mVar 4)) (mC (.int 1))) 8)
    (sIx (mVar 3) (mVar 8) (mFn m_plus [] (mCons (mBin pIx (mVar 3) (mVar 8)) (mCons (mBin pIx (mVar 5) (mVar 4)) mNil))))))))
    (sRet (mTup (mCons (mVar 3) (mCons (mVar 5) mNil)))))))
def m_flow : FnM := fnA 9 b_flow
/-- moved -/
def b_moved : S :=
  (sRet (mCall cTuple (mCons (mLc (itEA (mCons (mVar 1) mNil)) (tgT 2 (tgCons (tgN 3) (tgCons (tgN 4) tgNil))) mYes (mBin pAdd (mVar 4) (mFn m_move_of [] (mCons (mVar 0) (mCons (mVar 3) (mCons (mBin pIx (mVar 2) (mVar 3)) mNil))))) [3, 4]) mNil)))
def m_moved : FnM := fnM fldT 5 b_moved
/-- borne -/
def b_borne : S :=
  (sSeq (sExpr (mFn m_check_depths [] (mCons (mVar 0) (mCons (mVar 1) mNil))))
    (sSeq (sExpr (mFn m_check_rain [] (mCons (mVar 0) (mCons (mVar 2) mNil))))
    (sRet (mBin pIx (mFn m_flow [] (mCons (mVar 0) (mCons (mVar 1) (mCons (mVar 2) mNil)))) (mC (.int 1))))))
def m_borne : FnM := fnA 3 b_borne
/-- step -/
def b_step : S :=
  (sSeq (sExpr (mFn m_check_depths [] (mCons (mVar 0) (mCons (mVar 1) mNil))))
    (sSeq (sExpr (mFn m_check_rain [] (mCons (mVar 0) (mCons (mVar 2) mNil))))
    (sRet (mFn m_moved [] (mCons (mVar 0) (mCons (mVar 1) (mCons (mBin pIx (mFn m_flow [] (mCons (mVar 0) (mCons (mVar 1) (mCons (mVar 2) mNil)))) (mC (.int 1))) mNil)))))))
def m_step : FnM := fnM fldT 3 b_step
/-- _law_cell_at -/
def b_law_cell_at : S :=
  (sSeq (sIf (mB (mBin pLt (mVar 1) (mCall cLen (mCons (mVar 0) mNil))))
    (sRet (mBin pIx (mVar 0) (mVar 1)))
    sNop)
    (sRet (mC (.int 0))))
def m_law_cell_at : FnM := fnM fldT 2 b_law_cell_at
/-- _law_mixed -/
def b_law_mixed : S :=
  (sSeq (sSet (mBin pAdd (mBin pMod (mVar 0) (mC (.int 2147483629))) (mBin pMul (mBin pDiv (mVar 0) (mC (.int 2147483629))) (mC (.int 30011)))) 2)
    (sSeq (sSet (mBin pMod (mBin pMul (mBin pAdd (mBin pAdd (mVar 2) (mBin pMul (mC (.int 69621)) (mVar 1))) (mC (.int 1))) (mC (.int 48271))) (mC (.int 2147483629))) 2)
    (sSeq (sSet (mBin pMod (mBin pMul (mVar 2) (mBin pAdd (mBin pAdd (mBin pDiv (mVar 2) (mC (.int 907))) (mC (.int 16831))) (mVar 1))) (mC (.int 2147483587))) 2)
    (sRet (mBin pMod (mBin pMul (mVar 2) (mBin pAdd (mBin pDiv (mVar 2) (mC (.int 1201))) (mC (.int 30011)))) (mC (.int 2147483563)))))))
def m_law_mixed : FnM := fnM fldT 3 b_law_mixed
/-- _law_source -/
def b_law_source : S :=
  (sSeq (sIf (mB (mBin pLt (mVar 1) (mCall cLen (mCons (mVar 0) mNil))))
    (sRet (mLstO (mCons (mBin pIx (mVar 0) (mVar 1)) (mCons (mBin pIx (mVar 0) (mVar 1)) (mCons (mC (.int 0)) mNil)))))
    sNop)
    (sSeq (sSet (mFn m_law_mixed [] (mCons (mFn m_law_cell_at [] (mCons (mVar 0) (mCons (mC (.int 0)) mNil))) (mCons (mBin pAdd (mC (.int 1000)) (mVar 1)) mNil))) 2)
    (sRet (mLstO (mCons (mVar 2) (mCons (mVar 2) (mCons (mC (.int 0)) mNil)))))))
def m_law_source : FnM := fnO 3 b_law_source
/-- _law_next -/
def b_law_next : S :=
  (sSeq (sIf (mB (mBin pGe (mBin pIx (mVar 0) (mC (.int 0))) (mBin pPow (mC (.int 10)) (mC (.int 18)))))
    (sSeq (sSet (mBin pMod (mBin pIx (mVar 0) (mC (.int 0))) (mVar 1)) 2)
    (sSeq (sIx (mVar 0) (mC (.int 0)) (mBin pDiv (mBin pIx (mVar 0) (mC (.int 0))) (mVar 1)))
    (sRet (mVar 2))))
    sNop)
    (sSeq (sIx (mVar 0) (mC (.int 2)) (mBin pAdd (mBin pIx (mVar 0) (mC (.int 2))) (mC (.int 1))))
    (sRet (mBin pMod (mFn m_law_mixed [] (mCons (mBin pIx (mVar 0) (mC (.int 1))) (mCons (mBin pIx (mVar 0) (mC (.int 2))) mNil))) (mVar 1)))))
def m_law_next : FnM := fnM fldT 3 b_law_next
/-- _law_pick -/
def b_law_pick : S :=
  (sRet (mBin pIx (mVar 1) (mFn m_law_next [] (mCons (mVar 0) (mCons (mCall cLen (mCons (mVar 1) mNil)) mNil)))))
def m_law_pick : FnM := fnM fldT 2 b_law_pick
/-- _law_lowered -/
def b_law_lowered : S :=
  (sSeq (sPar 2 3 (mCons (mCall cAbs (mCons (mVar 0) mNil)) (mCons (mCall cAbs (mCons (mVar 1) mNil)) mNil)))
    (sSeq (loopW (mB (mBin pNe (mVar 3) (mC (.int 0))))
    (sPar 2 3 (mCons (mVar 3) (mCons (mBin pMod (mVar 2) (mVar 3)) mNil))) fuel)
    (sSeq (sIf (mB (mBin pLt (mVar 1) (mC (.int 0))))
    (sSet (mBin pSub (mC (.int 0)) (mVar 2)) 2)
    sNop)
    (sRet (mTup (mCons (mBin pDiv (mVar 0) (mVar 2)) (mCons (mBin pDiv (mVar 1) (mVar 2)) mNil)))))))
def m_law_lowered : FnM := fnM fldT 4 b_law_lowered
/-- _law_sum -/
def b_law_sum : S :=
  (sRet (mFn m_law_lowered [] (mCons (mBin pAdd (mBin pMul (mBin pIx (mVar 0) (mC (.int 0))) (mBin pIx (mVar 1) (mC (.int 1)))) (mBin pMul (mBin pIx (mVar 1) (mC (.int 0))) (mBin pIx (mVar 0) (mC (.int 1))))) (mCons (mBin pMul (mBin pIx (mVar 0) (mC (.int 1))) (mBin pIx (mVar 1) (mC (.int 1)))) mNil))))
def m_law_sum : FnM := fnM fldT 2 b_law_sum
/-- _law_product -/
def b_law_product : S :=
  (sRet (mFn m_law_lowered [] (mCons (mBin pMul (mBin pIx (mVar 0) (mC (.int 0))) (mBin pIx (mVar 1) (mC (.int 0)))) (mCons (mBin pMul (mBin pIx (mVar 0) (mC (.int 1))) (mBin pIx (mVar 1) (mC (.int 1)))) mNil))))
def m_law_product : FnM := fnM fldT 2 b_law_product
/-- _law_mark -/
def b_law_mark : S :=
  (sSeq (sSet (mBin pIx (mLst (mCons (mFn m_law_next [] (mCons (mVar 0) (mCons (mC (.int 5)) mNil))) (mCons (mFn m_law_next [] (mCons (mVar 0) (mCons (mC (.int 40)) mNil))) (mCons (mBin pSub (mC (.int 0)) (mFn m_law_next [] (mCons (mVar 0) (mCons (mC (.int 4)) mNil)))) mNil)))) (mBin pDiv (mFn m_law_next [] (mCons (mVar 0) (mCons (mC (.int 7)) mNil))) (mC (.int 3)))) 1)
    (sRet (mFn m_law_lowered [] (mCons (mVar 1) (mCons (mBin pIx (mLst (mCons (mC (.int 1)) (mCons (mC (.int 1)) (mCons (mC (.int 2)) (mCons (mC (.int 3)) (mCons (mC (.int 7)) mNil)))))) (mFn m_law_next [] (mCons (mVar 0) (mCons (mC (.int 5)) mNil)))) mNil)))))
def m_law_mark : FnM := fnM fldT 2 b_law_mark
/-- _law_beds_of -/
def b_law_beds_of : S :=
  (sSeq (sSet (mLstO mNil) 2)
    (sSeq (sFor (itR1 (mCons (mBin pSub (mVar 1) (mC (.int 1))) mNil)) (tgN 3)
    (sFor (itR1 (mCons (mCall cMin (mCons (mBin pSub (mC (.int 12)) (mCall cLen (mCons (mVar 2) mNil))) (mCons (mBin pIx (mLst (mCons (mC (.int 0)) (mCons (mC (.int 1)) (mCons (mC (.int 2)) (mCons (mC (.int 2)) mNil))))) (mFn m_law_next [] (mCons (mVar 0) (mCons (mC (.int 4)) mNil)))) mNil))) mNil)) (tgN 4)
    (sSeq (sSet (mBin pAdd (mBin pAdd (mVar 3) (mC (.int 1))) (mFn m_law_next [] (mCons (mVar 0) (mCons (mBin pSub (mBin pSub (mVar 1) (mC (.int 1))) (mVar 3)) mNil)))) 5)
    (sSeq (sPar 6 7 (mCons (mFn m_law_mark [] (mCons (mVar 0) mNil)) (mCons (mFn m_law_mark [] (mCons (mVar 0) mNil)) mNil)))
    (sSeq (sSet (mTup (mCons (mBin pAdd (mCall cAbs (mCons (mBin pIx (mVar 7) (mC (.int 0))) mNil)) (mCall cInt (mCons (mBin pEq (mBin pIx (mVar 7) (mC (.int 0))) (mC (.int 0))) mNil))) (mCons (mBin pIx (mVar 7) (mC (.int 1))) mNil))) 7)
    (sExpr (mMet fAppend (mVar 2) (mCons (mTup (mCons (mVar 3) (mCons (mVar 5) (mCons (mVar 6) (mCons (mFn m_law_sum [] (mCons (mVar 6) (mCons (mVar 7) mNil))) mNil))))) mNil))))))))
    (sRet (mVar 2))))
def m_law_beds_of : FnM := fnM fldT 8 b_law_beds_of
/-- _law_world -/
def b_law_world : S :=
  (sSeq (sSet (mBin pAdd (mC (.int 1)) (mFn m_law_next [] (mCons (mVar 0) (mCons (mVar 1) mNil)))) 2)
    (sSeq (sSet (mFn m_law_beds_of [] (mCons (mVar 0) (mCons (mVar 2) mNil))) 3)
    (sSeq (sSet (mLstO mNil) 4)
    (sSeq (sFor (itR1 (mCons (mVar 2) mNil)) (tgN 5)
    (sSeq (sSet (mCall cLen (mCons (mLc (itS (mVar 3)) (tgN 8) (mB (mBin pEq (mBin pIx (mVar 8) (mC (.int 0))) (mVar 5))) (mVar 8) [8]) mNil)) 6)
    (sSeq (sSet (mCall cTuple (mCons (mLc (itR1 (mCons (mVar 6) mNil)) (tgN 9) mYes (mFn m_law_next [] (mCons (mVar 0) (mCons (mBin pIx (mLst (mCons (mC (.int 2)) (mCons (mC (.int 10)) mNil))) (mFn m_law_next [] (mCons (mVar 0) (mCons (mC (.int 2)) mNil)))) mNil))) [9]) mNil)) 7)
    (sSeq (sIf (mAnd (mB (mBin pGt (mVar 6) (mC (.int 0)))) (mB (mBin pEq (mCall cSumA (mCons (mVar 7) mNil)) (mC (.int 0)))))
    (sSet (mBin pAdd (mTup (mCons (mBin pAdd (mC (.int 1)) (mFn m_law_next [] (mCons (mVar 0) (mCons (mC (.int 9)) mNil)))) mNil)) (mSl (mVar 7) (oYes (mC (.int 1))) oNo)) 7)
    sNop)
    (sExpr (mMet fAppend (mVar 4) (mCons (mVar 7) mNil)))))))
    (sRet (mTup (mCons (mVar 2) (mCons (mVar 3) (mCons (mVar 4) mNil)))))))))
def m_law_world : FnM := fnM fldT 10 b_law_world
/-- _law_made -/
def b_law_made : S :=
  (sSeq (sAsg (mVar 0) (tgT 3 (tgCons (tgN 1) (tgCons (tgN 2) (tgCons (tgN 3) tgNil)))))
    (sSeq (sSet (mLstO mNil) 4)
    (sSeq (sFor (itS (mVar 2)) (tgT 4 (tgCons (tgN 5) (tgCons (tgN 6) (tgCons (tgN 7) (tgCons (tgN 8) tgNil)))))
    (sExpr (mMet fAppend (mVar 4) (mCons (mTup (mCons (mVar 5) (mCons (mVar 6) (mCons (mFn m_Share_init [] (mCons (mBin pIx (mVar 7) (mC (.int 0))) (mCons (mBin pIx (mVar 7) (mC (.int 1))) mNil))) (mCons (mFn m_Share_init [] (mCons (mBin pIx (mVar 8) (mC (.int 0))) (mCons (mBin pIx (mVar 8) (mC (.int 1))) mNil))) mNil))))) mNil))))
    (sSeq (sIce 4)
    (sRet (mFn m_Web_init [] (mCons (mVar 1) (mCons (mVar 4) (mCons (mCall cList (mCons (mVar 3) mNil)) mNil)))))))))
def m_law_made : FnM := fnM fldT 9 b_law_made
/-- _law_depths -/
def b_law_depths : S :=
  (sSeq (sSet (mLstO mNil) 2)
    (sSeq (sFor (itS (mBin pIx (mVar 1) (mC (.int 1)))) (tgT 4 (tgCons (tgN 3) (tgCons (tgN 4) (tgCons (tgN 5) (tgCons (tgN 6) tgNil)))))
    (sSeq (sSet (mBin pIx (mLst (mCons (mC (.int 0)) (mCons (mC (.int 3)) (mCons (mBin pSub (mFn m_law_next [] (mCons (mVar 0) (mCons (mC (.int 7)) mNil))) (mC (.int 3))) (mCons (mBin pSub (mFn m_law_next [] (mCons (mVar 0) (mCons (mBin pPow (mC (.int 10)) (mC (.int 12))) mNil))) (mBin pPow (mC (.int 10)) (mC (.int 11)))) mNil))))) (mFn m_law_next [] (mCons (mVar 0) (mCons (mC (.int 4)) mNil)))) 7)
    (sExpr (mMet fAppend (mVar 2) (mCons (mVar 7) mNil)))))
    (sRet (mCall cTuple (mCons (mVar 2) mNil)))))
def m_law_depths : FnM := fnM fldT 8 b_law_depths
/-- _law_falls -/
def b_law_falls : S :=
  (sSeq (sSet (mLstO mNil) 2)
    (sSeq (sFor (itR1 (mCons (mBin pIx (mVar 1) (mC (.int 0))) mNil)) (tgN 3)
    (sSeq (sSet (mLst (mCons (mTup (mCons (mC (.int 0)) (mCons (mC (.int 1)) mNil))) (mCons (mFn m_law_lowered [] (mCons (mFn m_law_next [] (mCons (mVar 0) (mCons (mC (.int 40)) mNil))) (mCons (mBin pAdd (mC (.int 1)) (mFn m_law_next [] (mCons (mVar 0) (mCons (mC (.int 6)) mNil)))) mNil))) mNil))) 4)
    (sSeq (sSet (mLc (itR1 (mCons (mCall cLen (mCons (mBin pIx (mVar 1) (mC (.int 1))) mNil)) mNil)) (tgN 9) (mB (mBin (pTr fldT (eqvN .Eq 3)) (mBin pIx (mBin pIx (mBin pIx (mVar 1) (mC (.int 1))) (mVar 9)) (mC (.int 0))) (mVar 3))) (mVar 9) [9]) 5)
    (sSeq (sIf (mB (mBin (pTr fldT (eqvN .NotEq 3)) (mVar 5) (mLst mNil)))
    (sSeq (sSet (mBin pIx (mBin pIx (mBin pIx (mVar 1) (mC (.int 1))) (mFn m_law_pick [] (mCons (mVar 0) (mCons (mVar 5) mNil)))) (mBin pAdd (mC (.int 2)) (mFn m_law_next [] (mCons (mVar 0) (mCons (mC (.int 2)) mNil))))) 6)
    (sSeq (sSet (mCall cMax (mCons (mC (.int 1)) (mCons (mFn m_law_pick [] (mCons (mVar 0) (mCons (mBin pIx (mBin pIx (mVar 1) (mC (.int 2))) (mVar 3)) mNil))) mNil))) 7)
    (sSet (mBin pAdd (mVar 4) (mLst (mCons (mVar 6) (mCons (mFn m_law_product [] (mCons (mVar 6) (mCons (mTup (mCons (mCall cSumA (mCons (mBin pIx (mBin pIx (mVar 1) (mC (.int 2))) (mVar 3)) mNil)) (mCons (mVar 7) mNil))) mNil))) mNil)))) 4)))
    sNop)
    (sSeq (sSet (mFn m_law_pick [] (mCons (mVar 0) (mCons (mVar 4) mNil))) 8)
    (sExpr (mMet fAppend (mVar 2) (mCons (mTup (mCons (mCall cAbs (mCons (mBin pIx (mVar 8) (mC (.int 0))) mNil)) (mCons (mBin pIx (mVar 8) (mC (.int 1))) mNil))) mNil))))))))
    (sRet (mVar 2))))
def m_law_falls : FnM := fnM fldT 10 b_law_falls
/-- _law_shares -/
def b_law_shares : S :=
  (sRet (mCall cTuple (mCons (mLc (itS (mVar 0)) (tgN 1) mYes (mFn m_Share_init [] (mCons (mBin pIx (mVar 1) (mC (.int 0))) (mCons (mBin pIx (mVar 1) (mC (.int 1))) mNil))) [1]) mNil)))
def m_law_shares : FnM := fnM fldT 2 b_law_shares
/-- _law_same_order -/
def b_law_same_order : S :=
  (sSeq (sSet (mLcO (itS (mVar 2)) (tgN 10) mYes (mBin pSub (mFn m_law_next [] (mCons (mVar 0) (mCons (mBin pPow (mC (.int 10)) (mC (.int 9))) mNil))) (mBin pPow (mC (.int 10)) (mC (.int 8)))) [10]) 3)
    (sSeq (sSet (mBin pIx (mVar 1) (mC (.int 1))) 4)
    (sSeq (sFor (itR2 (mCons (mC (.int 1)) (mCons (mCall cLen (mCons (mVar 4) mNil)) mNil))) (tgN 5)
    (sIf (mB (mBin pEq (mBin pIx (mBin pIx (mVar 4) (mVar 5)) (mC (.int 0))) (mBin pIx (mBin pIx (mVar 4) (mBin pSub (mVar 5) (mC (.int 1)))) (mC (.int 0)))))
    (sSeq (sSet (mBin pAdd (mC (.int 1)) (mFn m_law_next [] (mCons (mVar 0) (mCons (mBin pIx (mLst (mCons (mC (.int 2)) (mCons (mBin pPow (mC (.int 10)) (mC (.int 6))) mNil))) (mFn m_law_next [] (mCons (mVar 0) (mCons (mC (.int 2)) mNil)))) mNil)))) 6)
    (sSeq (sPar 7 8 (mCons (mBin pIx (mVar 2) (mVar 5)) (mCons (mBin pIx (mVar 2) (mBin pSub (mVar 5) (mC (.int 1)))) mNil)))
    (sSeq (sSet (mBin pSub (mCall cInt (mCons (mBin pGt (mVar 7) (mVar 8)) mNil)) (mCall cInt (mCons (mBin pLt (mVar 7) (mVar 8)) mNil))) 9)
    (sSeq (sIx (mVar 3) (mVar 5) (mBin pAdd (mBin pIx (mVar 3) (mBin pSub (mVar 5) (mC (.int 1)))) (mBin pMul (mVar 9) (mVar 6))))
    (sIf (mB (mBin pEq (mVar 9) (mC (.int 0))))
    (sIx (mVar 3) (mVar 5) (mBin pSub (mBin pIx (mVar 3) (mBin pSub (mVar 5) (mC (.int 1)))) (mBin pIx (mLst (mCons (mC (.int 0)) (mCons (mVar 6) mNil))) (mFn m_law_next [] (mCons (mVar 0) (mCons (mC (.int 2)) mNil))))))
    sNop)))))
    sNop))
    (sRet (mCall cTuple (mCons (mVar 3) mNil))))))
def m_law_same_order : FnM := fnM fldT 11 b_law_same_order
/-- _law_twisted -/
def b_law_twisted : S :=
  (sSeq (sSet (mBin pIx (mVar 0) (mC (.int 1))) 1)
    (sSeq (sSet (mLRg (mCall cLen (mCons (mVar 1) mNil))) 2)
    (sSeq (sFor (itR2 (mCons (mC (.int 1)) (mCons (mCall cLen (mCons (mVar 1) mNil)) mNil))) (tgN 3)
    (sIf (mB (mBin pEq (mBin pIx (mBin pIx (mVar 1) (mVar 3)) (mC (.int 0))) (mBin pIx (mBin pIx (mVar 1) (mBin pSub (mVar 3) (mC (.int 1)))) (mC (.int 0)))))
    (sSwp (mVar 2) (mBin pSub (mVar 3) (mC (.int 1))) (mVar 2) (mVar 3) (mTup (mCons (mVar 3) (mCons (mBin pSub (mVar 3) (mC (.int 1))) mNil))))
    sNop))
    (sRet (mVar 2)))))
def m_law_twisted : FnM := fnM fldT 4 b_law_twisted
/-- _law_steps_of -/
def b_law_steps_of : S :=
  (sRet (mLc (itZU (mCons (mVar 0) (mCons (mVar 1) mNil))) (tgT 2 (tgCons (tgN 2) (tgCons (tgN 3) tgNil))) mYes (mBin pSub (mVar 3) (mVar 2)) [2, 3]))
def m_law_steps_of : FnM := fnM fldT 4 b_law_steps_of
/-- _law_twist_right -/
def b_law_twist_right : S :=
  (sSeq (sSet (mFn m_law_twisted [] (mCons (mVar 1) mNil)) 4)
    (sSeq (sSet (mBin pIx (mVar 1) (mC (.int 1))) 5)
    (sSeq (sSet (mFn m_law_made [] (mCons (mTup (mCons (mBin pIx (mVar 1) (mC (.int 0))) (mCons (mLc (itS (mVar 4)) (tgN 16) mYes (mBin pIx (mVar 5) (mVar 16)) [16]) (mCons (mBin pIx (mVar 1) (mC (.int 2))) mNil)))) mNil)) 6)
    (sSeq (sSet (mCall cTuple (mCons (mLc (itS (mVar 4)) (tgN 16) mYes (mBin pIx (mVar 2) (mVar 16)) [16]) mNil)) 7)
    (sSeq (sSet (mKw m_borne (mCons (mFn m_law_made [] (mCons (mVar 1) mNil)) (mCons (mVar 2) mNil)) (mCons (mVar 3) mNil)) 8)
    (sSeq (sSet (mKw m_borne (mCons (mVar 6) (mCons (mVar 7) mNil)) (mCons (mVar 3) mNil)) 9)
    (sSeq (sSet (mLstO mNil) 10)
    (sSeq (sFor (itR1 (mCons (mCall cLen (mCons (mVar 5) mNil)) mNil)) (tgN 11)
    (sSeq (sSet (mAndV (mBin (pTr fldT (eqvN .NotEq 3)) (mBin pIx (mVar 4) (mVar 11)) (mVar 11)) (mBin (pTr fldT (eqvN .Eq 3)) (mBin pIx (mVar 2) (mVar 11)) (mBin pIx (mVar 2) (mBin pIx (mVar 4) (mVar 11))))) 12)
    (sIf (mAnd (mB (mVar 12)) (mB (mBin pGt (mLSet (mBin pIx (mBin pIx (mVar 1) (mC (.int 2))) (mBin pIx (mBin pIx (mVar 5) (mVar 11)) (mC (.int 0))))) (mC (.int 1)))))
    (sExpr (mMet fAppend (mVar 10) (mCons (mVar 11) mNil)))
    sNop)))
    (sSeq (sIce 10)
    (sSeq (sIf (mB (mBin (pTr fldT (eqvN .Eq 3)) (mVar 10) (mLst mNil)))
    (sSeq (sSet (mKw m_step (mCons (mVar 6) (mCons (mVar 7) mNil)) (mCons (mVar 3) mNil)) 13)
    (sSeq (sSet (mCall cTuple (mCons (mLc (itS (mVar 4)) (tgN 16) mYes (mBin pIx (mVar 13) (mVar 16)) [16]) mNil)) 14)
    (sSeq (sIf (mB (mBin (pTr fldT (eqvN .NotEq 3)) (mVar 14) (mKw m_step (mCons (mFn m_law_made [] (mCons (mVar 1) mNil)) (mCons (mVar 2) mNil)) (mCons (mVar 3) mNil))))
    (sRet (mC (.bl false)))
    sNop)
    (sRet (mBin (pTr fldT (eqvN .Eq 3)) (mLc (itS (mVar 4)) (tgN 16) mYes (mBin pIx (mVar 9) (mVar 16)) [16]) (mVar 8))))))
    sNop)
    (sSeq (sSet (mBin pIx (mBin pIx (mVar 5) (mBin pIx (mVar 10) (mC (.int 0)))) (mC (.int 0))) 15)
    (sSeq (sFor (itS (mLc (itS (mVar 10)) (tgN 11) (mB (mBin (pTr fldT (eqvN .Eq 3)) (mBin pIx (mBin pIx (mVar 5) (mVar 11)) (mC (.int 0))) (mVar 15))) (mVar 11) [11])) (tgN 11)
    (sIf (mB (mBin (pTr fldT (eqvN .NotEq 3)) (mBin pIx (mVar 9) (mVar 11)) (mBin pIx (mVar 8) (mVar 11))))
    (sRet (mC (.bl false)))
    sNop))
    (sRet (mC (.bl true)))))))))))))))
def m_law_twist_right : FnM := fnM fldT 17 b_law_twist_right
/-- law -/
def b_law : S :=
  (sSeq (sFor (itR1 (mCons (mCall cMax (mCons (mC (.int 1)) (mCons (mCall cMin (mCons (mC (.int 6)) (mCons (mCall cLen (mCons (mVar 0) mNil)) mNil))) mNil))) mNil)) (tgN 1)
    (sSeq (sSet (mFn m_law_source [] (mCons (mVar 0) (mCons (mVar 1) mNil))) 2)
    (sSeq (sSet (mFn m_law_world [] (mCons (mVar 2) (mCons (mC (.int 8)) mNil))) 3)
    (sSeq (sSet (mFn m_law_made [] (mCons (mVar 3) mNil)) 4)
    (sFor (itR1 (mCons (mC (.int 3)) mNil)) (tgN 5)
    (sSeq (sPar 6 7 (mCons (mFn m_law_depths [] (mCons (mVar 2) (mCons (mVar 3) mNil))) (mCons (mFn m_law_shares [] (mCons (mFn m_law_falls [] (mCons (mVar 2) (mCons (mVar 3) mNil))) mNil)) mNil)))
    (sSeq (sSet (mFn m_law_same_order [] (mCons (mVar 2) (mCons (mVar 3) (mCons (mVar 6) mNil)))) 8)
    (sSeq (sIf (mB (mBin (pTr fldT (eqvN .NotEq 3)) (mKw m_borne (mCons (mVar 4) (mCons (mVar 8) mNil)) (mCons (mVar 7) mNil)) (mKw m_borne (mCons (mVar 4) (mCons (mVar 6) mNil)) (mCons (mVar 7) mNil))))
    (sRet (mC (.bl false)))
    sNop)
    (sSeq (sSet (mFn m_law_steps_of [] (mCons (mVar 6) (mCons (mKw m_step (mCons (mVar 4) (mCons (mVar 6) mNil)) (mCons (mVar 7) mNil)) mNil))) 9)
    (sSeq (sIf (mB (mBin (pTr fldT (eqvN .NotEq 3)) (mFn m_law_steps_of [] (mCons (mVar 8) (mCons (mKw m_step (mCons (mVar 4) (mCons (mVar 8) mNil)) (mCons (mVar 7) mNil)) mNil))) (mVar 9)))
    (sRet (mC (.bl false)))
    sNop)
    (sSeq (sIf (mB (mBin (pTr fldT (eqvN .NotEq 3)) (mLc (itS (mVar 9)) (tgN 10) (mB (mBin pNotInI (mVar 10) (mTup (mCons (mNeg (mC (.int 1))) (mCons (mC (.int 0)) (mCons (mC (.int 1)) mNil)))))) (mVar 10) [10]) (mLst mNil)))
    (sRet (mC (.bl false)))
    sNop)
    (sIf (mNot (mB (mFn m_law_twist_right [] (mCons (mVar 2) (mCons (mVar 3) (mCons (mVar 6) (mCons (mVar 7) mNil)))))))
    (sRet (mC (.bl false)))
    sNop))))))))))))
    (sRet (mC (.bl true))))
def m_law : FnM := fnM fldT 11 b_law
theorem eqD_pair (a b c d : Int) : eqD (.tup [.int a, .int b]) (.tup [.int c, .int d]) = some (decide (a = c) && decide (b = d)) := by
  show (if SeqAt.shaped (.tuple [.int a, .int b]) = true ∧ SeqAt.shaped (.tuple [.int c, .int d]) = true then some (PyData.eqv (.tuple [.int a, .int b]) (.tuple [.int c, .int d])) else none) = _
  rw [if_pos ⟨rfl, rfl⟩]
  by_cases h1 : a = c <;> by_cases h2 : b = d <;> simp [PyData.eqv, PyData.eqvAll, h1, h2]
theorem pq_Share : ∀ x y b p, fO 0 eqO x y = some b → m_Share_eq [x, y] p = .ok (.bl b) p := by
  intro x y b p h
  unfold fO at h
  split at h
  · rename_i d xs
    by_cases hd : d = 0
    · subst hd
      rw [if_pos rfl] at h
      have no : ∀ t, tyP 2 p y = some t → isT (.cls 0) t = false → b = false → m_Share_eq [.obj 0 xs, y] p = .ok (.bl b) p := fun t ht hf hb => by
        subst hb
        have e := isi_ok (n := 2) (T := .cls 0) (a := mVar 1) (en := ⟨p.length, [some (.obj 0 xs), some y]⟩) (p := p) (var_ok rfl) ht
        rw [hf] at e
        unfold m_Share_eq
        exact fnM_pure (ret_ok (andV_f e)) rfl
      cases y with
      | obj e ys =>
        dsimp only at h
        by_cases he : e = 0
        · subst he
          rw [if_pos rfl] at h
          unfold eqO at h
          split at h
          · rename_i a b' c d
            have h := Option.some.inj h
            subst h
            unfold m_Share_eq
            refine fnM_pure (ret_ok ((andV_t (isi_ok (t := .cls 0) (var_ok (x := .obj 0 [.int c, .int d]) rfl) rfl)).trans ?_)) rfl
            refine bin_ok (tup_ok (two_ok (getF_ok (x := .obj 0 [.int a, .int b']) (var_ok rfl) rfl) (getF_ok (x := .obj 0 [.int a, .int b']) (var_ok rfl) rfl))) (tup_ok (two_ok (getF_ok (x := .obj 0 [.int c, .int d]) (var_ok rfl) rfl) (getF_ok (x := .obj 0 [.int c, .int d]) (var_ok rfl) rfl))) ?_
            unfold pEq
            rw [eqD_pair]
          · cases h
        · rw [if_neg he] at h
          cases h
      | non => exact no .non rfl rfl (Option.some.inj h).symm
      | bl z => exact no .bl rfl rfl (Option.some.inj h).symm
      | int z => exact no .int rfl rfl (Option.some.inj h).symm
      | str z => exact no .str rfl rfl (Option.some.inj h).symm
      | tup z => exact no .tup rfl rfl (Option.some.inj h).symm
      | lst z => exact no .lst rfl rfl (Option.some.inj h).symm
      | own z => cases h
      | scr z => cases h
      | xs z z2 => cases h
      | xv z z2 => cases h
    · rw [if_neg hd] at h
      cases h
  · cases h
theorem pq_Web : ∀ x y b p, fO 1 qWeb x y = some b → m_Web_eq [x, y] p = .ok (.bl b) p := by
  intro x y b p h
  unfold fO at h
  split at h
  · rename_i d xs
    by_cases hd : d = 1
    · subst hd
      rw [if_pos rfl] at h
      have no : ∀ t, tyP 2 p y = some t → isT (.cls 1) t = false → b = false → m_Web_eq [.obj 1 xs, y] p = .ok (.bl b) p := fun t ht hf hb => by
        subst hb
        have e := isi_ok (n := 2) (T := .cls 1) (a := mVar 1) (en := ⟨p.length, [some (.obj 1 xs), some y]⟩) (p := p) (var_ok rfl) ht
        rw [hf] at e
        unfold m_Web_eq
        refine fnM_pure (x := .bl false) ?_ rfl
        exact seq_ret ((if_t (not_f (b_ok e))).trans (ret_ok rfl))
      cases y with
      | obj e ys =>
        dsimp only at h
        by_cases he : e = 1
        · subst he
          rw [if_pos rfl] at h
          unfold qWeb at h
          split at h
          · rename_i a1 a2 a3 b1 b2 b3
            by_cases hb : bels 0 [a1, a2, a3] = true ∧ bels 0 [b1, b2, b3] = true
            · rw [if_pos hb] at h
              unfold m_Web_eq
              refine fnM_pure (x := .bl b) ?_ rfl
              refine (seq_nx ((if_f (not_t (b_ok (isi_ok (t := .cls 1) (var_ok (x := .obj 1 [b1, b2, b3]) rfl) rfl)))).trans rfl)).trans (ret_ok ?_)
              refine bin_ok (tup_ok (three_ok (getF_ok (x := .obj 1 [a1, a2, a3]) (var_ok rfl) rfl) (getF_ok (x := .obj 1 [a1, a2, a3]) (var_ok rfl) rfl) (getF_ok (x := .obj 1 [a1, a2, a3]) (var_ok rfl) rfl))) (tup_ok (three_ok (getF_ok (x := .obj 1 [b1, b2, b3]) (var_ok rfl) rfl) (getF_ok (x := .obj 1 [b1, b2, b3]) (var_ok rfl) rfl) (getF_ok (x := .obj 1 [b1, b2, b3]) (var_ok rfl) rfl))) ?_
              unfold pTr
              rw [thaw_bel (x := .tup [a1, a2, a3]) hb.1, thaw_bel (x := .tup [b1, b2, b3]) hb.2]
              dsimp only
              rw [h]
            · rw [if_neg hb] at h
              cases h
          · cases h
        · rw [if_neg he] at h
          cases h
      | non => exact no .non rfl rfl (Option.some.inj h).symm
      | bl z => exact no .bl rfl rfl (Option.some.inj h).symm
      | int z => exact no .int rfl rfl (Option.some.inj h).symm
      | str z => exact no .str rfl rfl (Option.some.inj h).symm
      | tup z => exact no .tup rfl rfl (Option.some.inj h).symm
      | lst z => exact no .lst rfl rfl (Option.some.inj h).symm
      | own z => cases h
      | scr z => cases h
      | xs z z2 => cases h
      | xv z z2 => cases h
    · rw [if_neg hd] at h
      cases h
  · cases h

section
variable {P : Program} {w : World} {K : PySem.W.Frag} {mg : Str → Option Value} {base : Heap}
theorem ok_is_whole (T : Facts K mg) : FnOk P w K mg base (L2.CX P w) 1 T.f_is_whole T.d_is_whole ["thing"] (spM (cfg T) 1 m_is_whole) :=
  ok_fn (k := 0) T.F_is_whole sc_is_whole rfl b_is_whole (fun cdv A outer s H E hr => (rss_one (rs_ret (re_and (re_isi (x := "") (n := 2) (T := .int) rfl T.isF T.isA_int (rv 0) (pe_tyN rfl T.n_int PyProof.Rows.Boot.«int») (.ty _) rfl T.n_isinstance) (re_one (re_not (re_isi (x := "") (n := 2) (T := .bl) rfl T.isF T.isA_bool (rv 0) (pe_tyN rfl T.n_bool PyProof.Rows.Boot.«bool») (.ty _) rfl T.n_isinstance)))))))
theorem ok_is_between (T : Facts K mg) : FnOk P w K mg base (L2.CX P w) 2 T.f_is_between T.d_is_between ["thing", "low", "high"] (spM (cfg T) 3 m_is_between) :=
  ok_fn (k := 1) T.F_is_between sc_is_between rfl b_is_between (fun cdv A outer s H E hr => (rss_one (rs_ret (re_and (re_fn (ok_is_whole T) (hr.mono (by decide)) rfl T.g_is_whole T.F_is_whole.kp T.b_is_whole .nil rfl (takes_of rfl rfl rfl rfl) (ra_cons (rv 0) ra_nil) rfl) (re_one (re_chain op_le ref_le op_le ref_le (rv 1) (rv 0) (rv 2)))))))
theorem ok_common_of (T : Facts K mg) : FnOk P w K mg base (L2.CX P w) 1 T.f_common_of T.d_common_of ["one", "other"] (spM (cfg T) 2 m_common_of) :=
  ok_fn (k := 0) T.F_common_of sc_common_of rfl b_common_of (fun cdv A outer s H E hr => (rss_cons (rs_while fuel (passes_of rfl) (rt_cmp (op_neD hr.units) ref_ne (rv 1) re_int (nomark _)) (rss_one (rs_par (i := 0) (j := 1) rfl sc_common_of.nd rfl rfl (by decide) rfl rfl (ra_cons (rv 1) (ra_cons (re_bin op_modN ref_mod (rv 0) (rv 1)) ra_nil)) (by rfl)))) (rss_one (rs_ret (re_callB call_abs ref_abs (by rfl) T.n_abs PyProof.Rows.Boot.«abs» (ra_cons (rv 0) ra_nil))))))
theorem ok_Share_init (T : Facts K mg) : FnOk P w K mg base (L2.CX P w) 2 T.f_Share_init T.d_Share_init ["self", "top", "bottom"] (spI (cfg T) 0 3 m_Share_init) :=
  ok_init (c := 0) (k := 1) T.F_Share_init sc_Share_init rfl b_Share_init (fun cdv A outer s H E hr => (rss_cons (rs_if (rt_w (rw_or (rt_not (rt_val (re_fn (ok_is_whole T) (hr.mono (by decide)) rfl T.g_is_whole T.F_is_whole.kp T.b_is_whole .nil rfl (takes_of rfl rfl rfl rfl) (ra_cons (rv 1) ra_nil) rfl))) (rw_or (rt_not (rt_val (re_fn (ok_is_whole T) (hr.mono (by decide)) rfl T.g_is_whole T.F_is_whole.kp T.b_is_whole .nil rfl (takes_of rfl rfl rfl rfl) (ra_cons (rv 2) ra_nil) rfl))) (rw_or1 (rt_cmp (op_eqD hr.units) ref_eq (rv 2) re_int (nomark _)))))) (rss_one rs_no) rss_nil) (rss_cons (rs_set (i := 3) sc_Share_init.nd rfl (Or.inl rfl) (re_fn (ok_common_of T) (hr.mono (by decide)) rfl T.g_common_of T.F_common_of.kp T.b_common_of .nil rfl (takes_of rfl rfl rfl rfl) (ra_cons (rv 1) (ra_cons (rv 2) ra_nil)) rfl)) (rss_cons (rs_if (rt_cmp op_lt ref_lt (rv 2) re_int (nomark _)) (rss_one (rs_set (i := 3) sc_Share_init.nd rfl (Or.inl rfl) (re_bin op_sub ref_sub re_int (rv 3)))) rss_nil) (rss_cons (rs_fld rfl T.k_Share rfl (rv 0) (re_bin op_div ref_div (rv 1) (rv 3))) (rss_one (rs_fld rfl T.k_Share rfl (rv 0) (re_bin op_div ref_div (rv 2) (rv 3)))))))))
theorem ok_Share_eq (T : Facts K mg) : FnOk P w K mg base (L2.CX P w) 1 T.f_Share_eq T.d_Share_eq ["self", "other"] (spM (cfg T) 2 m_Share_eq) :=
  ok_fn (k := 0) T.F_Share_eq sc_Share_eq rfl b_Share_eq (fun cdv A outer s H E hr => (rss_one (rs_ret (re_and (re_isi (x := "") (n := 2) (T := .cls 0) rfl T.isF T.isA_Share (rv 1) (pe_clsN rfl T.gc_Share) (.own _) rfl T.n_isinstance) (re_one (re_cmp (op_eqD hr.units) ref_eq (re_tup (ra_cons (re_fld rfl T.k_Share rfl (rv 0)) (ra_cons (re_fld rfl T.k_Share rfl (rv 0)) ra_nil))) (re_tup (ra_cons (re_fld rfl T.k_Share rfl (rv 1)) (ra_cons (re_fld rfl T.k_Share rfl (rv 1)) ra_nil))) (nomark _)))))))
theorem eqf_Share {X : Cx} (T : Facts X.K X.mg) : EqF X (cfg T) 1 0 eqO :=
  ⟨⟨T.f_Share_eq, T.d_Share_eq, ["self", "other"], m_Share_eq, ok_Share_eq T, T.i_Share_eq, T.t_Share_eq, T.b_Share_eq, pq_Share⟩, T.ne_Share, T.mr_Share, fun t h => by
    simp only [List.mem_cons, List.not_mem_nil, or_false] at h
    rcases h with rfl | rfl | rfl | rfl | rfl | rfl
    · exact notFirst_of T.sT_Share_NoneType
    · exact notFirst_of T.sT_Share_bool
    · exact notFirst_of T.sT_Share_int
    · exact notFirst_of T.sT_Share_str
    · exact notFirst_of T.sT_Share_tuple
    · exact notFirst_of T.sT_Share_list,
  fun t h => by
    simp only [List.mem_cons, List.not_mem_nil, or_false] at h
    rcases h with rfl | rfl | rfl | rfl | rfl | rfl
    · exact T.sF_Share_NoneType
    · exact T.sF_Share_bool
    · exact T.sF_Share_int
    · exact T.sF_Share_str
    · exact T.sF_Share_tuple
    · exact T.sF_Share_list⟩
theorem ok_plus (T : Facts K mg) : FnOk P w K mg base (L2.CX P w) 4 T.f_plus T.d_plus ["one", "other"] (spM (cfg T) 2 m_plus) :=
  ok_fn (k := 3) T.F_plus sc_plus rfl b_plus (fun cdv A outer s H E hr => (rss_one (rs_ret (re_make (c := 0) T.mkr_Share (ok_Share_init T) (hr.mono (by decide)) rfl T.gc_Share T.b_Share_init_0 T.v_Share_init_0 rfl (takes_of rfl rfl rfl rfl) (ra_cons (re_bin (op_addU rfl) ref_add (re_bin op_mulU ref_mul (re_fld rfl T.k_Share rfl (rv 0)) (re_fld rfl T.k_Share rfl (rv 1))) (re_bin op_mulU ref_mul (re_fld rfl T.k_Share rfl (rv 1)) (re_fld rfl T.k_Share rfl (rv 0)))) (ra_cons (re_bin op_mulU ref_mul (re_fld rfl T.k_Share rfl (rv 0)) (re_fld rfl T.k_Share rfl (rv 1))) ra_nil)) rfl))))
theorem ok_times (T : Facts K mg) : FnOk P w K mg base (L2.CX P w) 4 T.f_times T.d_times ["one", "other"] (spM (cfg T) 2 m_times) :=
  ok_fn (k := 3) T.F_times sc_times rfl b_times (fun cdv A outer s H E hr => (rss_one (rs_ret (re_make (c := 0) T.mkr_Share (ok_Share_init T) (hr.mono (by decide)) rfl T.gc_Share T.b_Share_init_0 T.v_Share_init_0 rfl (takes_of rfl rfl rfl rfl) (ra_cons (re_bin op_mulU ref_mul (re_fld rfl T.k_Share rfl (rv 0)) (re_fld rfl T.k_Share rfl (rv 1))) (ra_cons (re_bin op_mulU ref_mul (re_fld rfl T.k_Share rfl (rv 0)) (re_fld rfl T.k_Share rfl (rv 1))) ra_nil)) rfl))))
theorem ok_less (T : Facts K mg) : FnOk P w K mg base (L2.CX P w) 1 T.f_less T.d_less ["one", "other"] (spM (cfg T) 2 m_less) :=
  ok_fn (k := 0) T.F_less sc_less rfl b_less (fun cdv A outer s H E hr => (rss_one (rs_ret (re_cmp op_lt ref_lt (re_bin op_mulU ref_mul (re_fld rfl T.k_Share rfl (rv 0)) (re_fld rfl T.k_Share rfl (rv 1))) (re_bin op_mulU ref_mul (re_fld rfl T.k_Share rfl (rv 1)) (re_fld rfl T.k_Share rfl (rv 0))) (nomark _)))))
theorem ok_is_bed (T : Facts K mg) : FnOk P w K mg base (L2.CX P w) 3 T.f_is_bed T.d_is_bed ["thing", "many"] (spM (cfg T) 2 m_is_bed) :=
  ok_fn (k := 2) T.F_is_bed sc_is_bed rfl b_is_bed (fun cdv A outer s H E hr => (rss_cons (rs_if (rt_w (rw_or (rt_not (rt_val (re_isi (x := "") (n := 2) (T := .tup) rfl T.isF T.isA_tuple (rv 0) (pe_tyN rfl T.n_tuple PyProof.Rows.Boot.«tuple») (.ty _) rfl T.n_isinstance))) (rw_or1 (rt_cmp (op_neD hr.units) ref_ne (re_callB (call_lenU rfl) ref_len (by rfl) T.n_len PyProof.Rows.Boot.«len» (ra_cons (rv 0) ra_nil)) re_int (nomark _))))) (rss_one (rs_ret re_bl)) rss_nil) (rss_cons (rs_asg (rv 0) (rg_tup rfl rfl (rgs_cons (rg_name (i := 2) sc_is_bed.nd rfl (Or.inl rfl)) (rgs_cons (rg_name (i := 3) sc_is_bed.nd rfl (Or.inl rfl)) (rgs_cons (rg_name (i := 4) sc_is_bed.nd rfl (Or.inl rfl)) (rgs_cons (rg_name (i := 5) sc_is_bed.nd rfl (Or.inl rfl)) rgs_nil)))))) (rss_cons (rs_if (rt_w (rw_or (rt_not (rt_val (re_fn (ok_is_between T) (hr.mono (by decide)) rfl T.g_is_between T.F_is_between.kp T.b_is_between .nil rfl (takes_of rfl rfl rfl rfl) (ra_cons (rv 2) (ra_cons re_int (ra_cons (re_bin op_sub ref_sub (rv 1) re_int) ra_nil))) rfl))) (rw_or (rt_not (rt_val (re_fn (ok_is_between T) (hr.mono (by decide)) rfl T.g_is_between T.F_is_between.kp T.b_is_between .nil rfl (takes_of rfl rfl rfl rfl) (ra_cons (rv 3) (ra_cons re_int (ra_cons (re_bin op_sub ref_sub (rv 1) re_int) ra_nil))) rfl))) (rw_or1 (rt_cmp op_ge ref_ge (rv 2) (rv 3) (nomark _)))))) (rss_one (rs_ret re_bl)) rss_nil) (rss_one (rs_ret (re_and (re_isi (x := "") (n := 2) (T := .cls 0) rfl T.isF T.isA_Share (rv 4) (pe_clsN rfl T.gc_Share) (.own _) rfl T.n_isinstance) (re_and (re_isi (x := "") (n := 2) (T := .cls 0) rfl T.isF T.isA_Share (rv 5) (pe_clsN rfl T.gc_Share) (.own _) rfl T.n_isinstance) (re_one (re_fn (ok_less T) (hr.mono (by decide)) rfl T.g_less T.F_less.kp T.b_less .nil rfl (takes_of rfl rfl rfl rfl) (ra_cons (rv 4) (ra_cons (rv 5) ra_nil)) rfl))))))))))
theorem ok_are_beds (T : Facts K mg) : FnOk P w K mg base (L2.CX P w) 6 T.f_are_beds T.d_are_beds ["thing", "many"] (spM (cfg T) 2 m_are_beds) :=
  ok_fn (k := 5) T.F_are_beds sc_are_beds rfl b_are_beds (fun cdv A outer s H E hr => (rss_cons (rs_if (rt_w (rw_or (rt_not (rt_val (re_isi (x := "") (n := 2) (T := .lst) rfl T.isF T.isA_list (rv 0) (pe_tyN rfl T.n_list PyProof.Rows.Boot.«list») (.ty _) rfl T.n_isinstance))) (rw_or (rt_cmp op_gt ref_gt (re_callB (call_lenU rfl) ref_len (by rfl) T.n_len PyProof.Rows.Boot.«len» (ra_cons (rv 0) ra_nil)) (re_globI rfl T.g_MOST_BEDS ⟨_, rfl⟩) (nomark _)) (rw_or1 (rt_not (rt_val (re_callB (call_allU rfl rfl) ref_all (by rfl) T.n_all PyProof.Rows.Boot.«all» (ra_cons (re_lc (own := [("bed", 3)]) rfl sc_are_beds.nd (ri_seq rfl (rv 0)) (blkOk_by (own := [("bed", 3)]) (N := N_are_beds) (sc := defScope s_are_beds) (by decide +kernel)) (fun _ _ _ _ _ => (rg_name (i := 3) sc_are_beds.nd rfl (Or.inl rfl))) (fun _ _ _ _ _ => rts_nil) (fun _ _ _ _ _ => (re_fn (ok_is_bed T) (hr.mono (by decide)) rfl T.g_is_bed T.F_is_bed.kp T.b_is_bed .nil rfl takes0 (ra_cons (rv 3) (ra_cons (rv 1) ra_nil)) rfl))) ra_nil)))))))) (rss_one (rs_ret re_bl)) rss_nil) (rss_cons (rs_set (i := 2) sc_are_beds.nd rfl (Or.inr rfl) (re_lc (own := [("bed", 3)]) rfl sc_are_beds.nd (ri_seq rfl (rv 0)) (blkOk_by (own := [("bed", 3)]) (N := N_are_beds) (sc := defScope s_are_beds) (by decide +kernel)) (fun _ _ _ _ _ => (rg_name (i := 3) sc_are_beds.nd rfl (Or.inl rfl))) (fun _ _ _ _ _ => rts_nil) (fun _ _ _ _ _ => (re_ix rfl (rv 3) re_int)))) (rss_one (rs_ret (re_and (re_cmp (op_tr (.inl rfl) (rcE rfl (eqf_Share T) 3).1 (hr.mono (by decide))) ref_tr (rv 2) (re_callB cr_sortedI ref_sorted (by rfl) T.n_sorted PyProof.Rows.Boot.«sorted» (ra_cons (rv 2) ra_nil)) (nomark _)) (re_one (re_callB (call_allU rfl rfl) ref_all (by rfl) T.n_all PyProof.Rows.Boot.«all» (ra_cons (re_lc (own := [("start", 4)]) rfl sc_are_beds.nd (ri_seq rfl (rv 2)) (blkOk_by (own := [("start", 4)]) (N := N_are_beds) (sc := defScope s_are_beds) (by decide +kernel)) (fun _ _ _ _ _ => (rg_name (i := 4) sc_are_beds.nd rfl (Or.inl rfl))) (fun _ _ _ _ _ => rts_nil) (fun _ _ _ _ _ => (re_cmp op_lt ref_lt (re_cnt rfl (rv 2) (ra_cons (rv 4) ra_nil)) re_int (nomark _)))) ra_nil)))))))))
theorem ok_are_parts (T : Facts K mg) : FnOk P w K mg base (L2.CX P w) 3 T.f_are_parts T.d_are_parts ["thing", "many", "beds"] (spM (cfg T) 3 m_are_parts) :=
  ok_fn (k := 2) T.F_are_parts sc_are_parts rfl b_are_parts (fun cdv A outer s H E hr => (rss_cons (rs_if (rt_w (rw_or (rt_not (rt_val (re_isi (x := "") (n := 2) (T := .lst) rfl T.isF T.isA_list (rv 0) (pe_tyN rfl T.n_list PyProof.Rows.Boot.«list») (.ty _) rfl T.n_isinstance))) (rw_or1 (rt_cmp (op_neD hr.units) ref_ne (re_callB (call_lenU rfl) ref_len (by rfl) T.n_len PyProof.Rows.Boot.«len» (ra_cons (rv 0) ra_nil)) (rv 1) (nomark _))))) (rss_one (rs_ret re_bl)) rss_nil) (rss_cons (rs_for (passes_of rfl) rfl (ri_enumA rfl (by rfl) T.n_enumerate (ra_cons (rv 0) ra_nil)) (rg_tup rfl rfl (rgs_cons (rg_name (i := 3) sc_are_parts.nd rfl (Or.inr rfl)) (rgs_cons (rg_name (i := 4) sc_are_parts.nd rfl (Or.inl rfl)) rgs_nil))) (rss_cons (rs_set (i := 5) sc_are_parts.nd rfl (Or.inl rfl) (re_callB (call_lenU rfl) ref_len (by rfl) T.n_len PyProof.Rows.Boot.«len» (ra_cons (re_lc (own := [("bed", 6)]) rfl sc_are_parts.nd (ri_seq rfl (rv 2)) (blkOk_by (own := [("bed", 6)]) (N := N_are_parts) (sc := defScope s_are_parts) (by decide +kernel)) (fun _ _ _ _ _ => (rg_name (i := 6) sc_are_parts.nd rfl (Or.inl rfl))) (fun _ _ _ _ _ => (rts_one (rt_cmp (op_eqD hr.units) ref_eq (re_ix rfl (rv 6) re_int) (rv 3) (nomark _)))) (fun _ _ _ _ _ => (rv 6))) ra_nil))) (rss_cons (rs_if (rt_w (rw_or (rt_not (rt_val (re_isi (x := "") (n := 2) (T := .tup) rfl T.isF T.isA_tuple (rv 4) (pe_tyN rfl T.n_tuple PyProof.Rows.Boot.«tuple») (.ty _) rfl T.n_isinstance))) (rw_or1 (rt_cmp (op_neD hr.units) ref_ne (re_callB (call_lenU rfl) ref_len (by rfl) T.n_len PyProof.Rows.Boot.«len» (ra_cons (rv 4) ra_nil)) (rv 5) (nomark _))))) (rss_one (rs_ret re_bl)) rss_nil) (rss_one (rs_if (rt_w (rw_or (rt_not (rt_val (re_callB (call_allU rfl rfl) ref_all (by rfl) T.n_all PyProof.Rows.Boot.«all» (ra_cons (re_lc (own := [("part", 7)]) rfl sc_are_parts.nd (ri_seq rfl (rv 4)) (blkOk_by (own := [("part", 7)]) (N := N_are_parts) (sc := defScope s_are_parts) (by decide +kernel)) (fun _ _ _ _ _ => (rg_name (i := 7) sc_are_parts.nd rfl (Or.inl rfl))) (fun _ _ _ _ _ => rts_nil) (fun _ _ _ _ _ => (re_fn (ok_is_between T) (hr.mono (by decide)) rfl T.g_is_between T.F_is_between.kp T.b_is_between .nil rfl takes0 (ra_cons (rv 7) (ra_cons re_int (ra_cons (re_globI rfl T.g_MOST_PART ⟨_, rfl⟩) ra_nil))) rfl))) ra_nil)))) (rw_or1 (rt_w (rw_and (rt_cmp op_gt ref_gt (rv 5) re_int (nomark _)) (rw_and1 (rt_cmp (op_eqD hr.units) ref_eq (re_callB (call_sumAU rfl rfl) ref_sumA (by rfl) T.n_sum PyProof.Rows.Boot.«sum» (ra_cons (rv 4) ra_nil)) re_int (nomark _)))))))) (rss_one (rs_ret re_bl)) rss_nil))))) (rss_one (rs_ret re_bl)))))
theorem ok_Web_init (T : Facts K mg) : FnOk P w K mg base (L2.CX P w) 7 T.f_Web_init T.d_Web_init ["self", "many", "beds", "parts"] (spI (cfg T) 1 4 m_Web_init) :=
  ok_init (c := 1) (k := 6) T.F_Web_init sc_Web_init rfl b_Web_init (fun cdv A outer s H E hr => (rss_cons (rs_if (rt_not (rt_val (re_fn (ok_is_between T) (hr.mono (by decide)) rfl T.g_is_between T.F_is_between.kp T.b_is_between .nil rfl (takes_of rfl rfl rfl rfl) (ra_cons (rv 1) (ra_cons re_int (ra_cons (re_globI rfl T.g_MOST_PLACES ⟨_, rfl⟩) ra_nil))) rfl))) (rss_one rs_no) rss_nil) (rss_cons (rs_if (rt_not (rt_val (re_fn (ok_are_beds T) (hr.mono (by decide)) rfl T.g_are_beds T.F_are_beds.kp T.b_are_beds .nil rfl (takes_of rfl rfl rfl rfl) (ra_cons (rv 2) (ra_cons (rv 1) ra_nil)) rfl))) (rss_one rs_no) rss_nil) (rss_cons (rs_if (rt_not (rt_val (re_fn (ok_are_parts T) (hr.mono (by decide)) rfl T.g_are_parts T.F_are_parts.kp T.b_are_parts .nil rfl (takes_of rfl rfl rfl rfl) (ra_cons (rv 3) (ra_cons (rv 1) (ra_cons (rv 2) ra_nil))) rfl))) (rss_one rs_no) rss_nil) (rss_cons (rs_fld rfl T.k_Web rfl (rv 0) (rv 1)) (rss_cons (rs_fld rfl T.k_Web rfl (rv 0) (re_callTy (call_listU rfl) ref_list (by rfl) T.n_list PyProof.Rows.Boot.«list» (ra_cons (rv 2) ra_nil))) (rss_one (rs_fld rfl T.k_Web rfl (rv 0) (re_callTy (call_listU rfl) ref_list (by rfl) T.n_list PyProof.Rows.Boot.«list» (ra_cons (rv 3) ra_nil))))))))))
theorem ok_Web_eq (T : Facts K mg) : FnOk P w K mg base (L2.CX P w) 7 T.f_Web_eq T.d_Web_eq ["self", "other"] (spM (cfg T) 2 m_Web_eq) :=
  ok_fn (k := 6) T.F_Web_eq sc_Web_eq rfl b_Web_eq (fun cdv A outer s H E hr => (rss_cons (rs_if (rt_not (rt_val (re_isi (x := "") (n := 2) (T := .cls 1) rfl T.isF T.isA_Web (rv 1) (pe_clsN rfl T.gc_Web) (.own _) rfl T.n_isinstance))) (rss_one (rs_ret re_bl)) rss_nil) (rss_one (rs_ret (re_cmp (op_tr (.inl rfl) (rcE rfl (eqf_Share T) 4).1 (hr.mono (by decide))) ref_tr (re_tup (ra_cons (re_fld rfl T.k_Web rfl (rv 0)) (ra_cons (re_fld rfl T.k_Web rfl (rv 0)) (ra_cons (re_fld rfl T.k_Web rfl (rv 0)) ra_nil)))) (re_tup (ra_cons (re_fld rfl T.k_Web rfl (rv 1)) (ra_cons (re_fld rfl T.k_Web rfl (rv 1)) (ra_cons (re_fld rfl T.k_Web rfl (rv 1)) ra_nil)))) (nomark _))))))
theorem eqf_Web {X : Cx} (T : Facts X.K X.mg) : EqF X (cfg T) 7 1 qWeb :=
  ⟨⟨T.f_Web_eq, T.d_Web_eq, ["self", "other"], m_Web_eq, ok_Web_eq T, T.i_Web_eq, T.t_Web_eq, T.b_Web_eq, pq_Web⟩, T.ne_Web, T.mr_Web, fun t h => by
    simp only [List.mem_cons, List.not_mem_nil, or_false] at h
    rcases h with rfl | rfl | rfl | rfl | rfl | rfl
    · exact notFirst_of T.sT_Web_NoneType
    · exact notFirst_of T.sT_Web_bool
    · exact notFirst_of T.sT_Web_int
    · exact notFirst_of T.sT_Web_str
    · exact notFirst_of T.sT_Web_tuple
    · exact notFirst_of T.sT_Web_list,
  fun t h => by
    simp only [List.mem_cons, List.not_mem_nil, or_false] at h
    rcases h with rfl | rfl | rfl | rfl | rfl | rfl
    · exact T.sF_Web_NoneType
    · exact T.sF_Web_bool
    · exact T.sF_Web_int
    · exact T.sF_Web_str
    · exact T.sF_Web_tuple
    · exact T.sF_Web_list⟩
theorem ok_beds_from (T : Facts K mg) : FnOk P w K mg base (L2.CX P w) 1 T.f_beds_from T.d_beds_from ["web", "place"] (spM (cfg T) 2 m_beds_from) :=
  ok_fn (k := 0) T.F_beds_from sc_beds_from rfl b_beds_from (fun cdv A outer s H E hr => (rss_one (rs_ret (re_lc (own := [("k", 2), ("bed", 3)]) rfl sc_beds_from.nd (ri_enumA rfl (by rfl) T.n_enumerate (ra_cons (re_fld rfl T.k_Web rfl (rv 0)) ra_nil)) (blkOk_by (own := [("k", 2), ("bed", 3)]) (N := N_beds_from) (sc := defScope s_beds_from) (by decide +kernel)) (fun _ _ _ _ _ => (rg_tup rfl rfl (rgs_cons (rg_name (i := 2) sc_beds_from.nd rfl (Or.inl rfl)) (rgs_cons (rg_name (i := 3) sc_beds_from.nd rfl (Or.inl rfl)) rgs_nil)))) (fun _ _ _ _ _ => (rts_one (rt_cmp (op_eqD hr.units) ref_eq (re_ix rfl (rv 3) re_int) (rv 1) (nomark _)))) (fun _ _ _ _ _ => (rv 2))))))
theorem ok_share_by_rank (T : Facts K mg) : FnOk P w K mg base (L2.CX P w) 4 T.f_share_by_rank T.d_share_by_rank ["web", "place", "rank"] (spM (cfg T) 3 m_share_by_rank) :=
  ok_fn (k := 3) T.F_share_by_rank sc_share_by_rank rfl b_share_by_rank (fun cdv A outer s H E hr => (rss_cons (rs_set (i := 3) sc_share_by_rank.nd rfl (Or.inl rfl) (re_ix rfl (re_fld rfl T.k_Web rfl (rv 0)) (rv 1))) (rss_cons (rs_if (rt_cmp (op_eqD hr.units) ref_eq (re_callB (call_lenU rfl) ref_len (by rfl) T.n_len PyProof.Rows.Boot.«len» (ra_cons (rv 3) ra_nil)) re_int (nomark _)) (rss_one (rs_ret (re_make (c := 0) T.mkr_Share (ok_Share_init T) (hr.mono (by decide)) rfl T.gc_Share T.b_Share_init_1 T.v_Share_init_1 ⟨_, _, rfl, rfl, rfl⟩ (takes_of rfl rfl rfl rfl) (ra_cons re_int ra_nil) rfl))) rss_nil) (rss_one (rs_ret (re_make (c := 0) T.mkr_Share (ok_Share_init T) (hr.mono (by decide)) rfl T.gc_Share T.b_Share_init_0 T.v_Share_init_0 rfl (takes_of rfl rfl rfl rfl) (ra_cons (re_ix rfl (rv 3) (rv 2)) (ra_cons (re_callB (call_sumAU rfl rfl) ref_sumA (by rfl) T.n_sum PyProof.Rows.Boot.«sum» (ra_cons (rv 3) ra_nil)) ra_nil)) rfl))))))
theorem ok_move_of (T : Facts K mg) : FnOk P w K mg base (L2.CX P w) 2 T.f_move_of T.d_move_of ["web", "bed", "amount"] (spM (cfg T) 3 m_move_of) :=
  ok_fn (k := 1) T.F_move_of sc_move_of rfl b_move_of (fun cdv A outer s H E hr => (rss_cons (rs_asg (re_ix rfl (re_fld rfl T.k_Web rfl (rv 0)) (rv 1)) (rg_tup rfl rfl (rgs_cons (rg_name (i := 3) sc_move_of.nd rfl (Or.inl rfl)) (rgs_cons (rg_name (i := 4) sc_move_of.nd rfl (Or.inl rfl)) (rgs_cons (rg_name (i := 5) sc_move_of.nd rfl (Or.inl rfl)) (rgs_cons (rg_name (i := 6) sc_move_of.nd rfl (Or.inl rfl)) rgs_nil)))))) (rss_cons (rs_if (rt_not (rt_val (re_fn (ok_less T) (hr.mono (by decide)) rfl T.g_less T.F_less.kp T.b_less .nil rfl (takes_of rfl rfl rfl rfl) (ra_cons (rv 2) (ra_cons (rv 6) ra_nil)) rfl))) (rss_one (rs_ret re_int)) rss_nil) (rss_one (rs_ret (re_if (rt_val (re_fn (ok_less T) (hr.mono (by decide)) rfl T.g_less T.F_less.kp T.b_less .nil rfl (takes_of rfl rfl rfl rfl) (ra_cons (rv 5) (ra_cons (rv 2) ra_nil)) rfl)) re_int (re_neg re_int)))))))
theorem ok_are_depths (T : Facts K mg) : FnOk P w K mg base (L2.CX P w) 2 T.f_are_depths T.d_are_depths ["thing", "web"] (spM (cfg T) 2 m_are_depths) :=
  ok_fn (k := 1) T.F_are_depths sc_are_depths rfl b_are_depths (fun cdv A outer s H E hr => (rss_one (rs_ret (re_and (re_isi (x := "") (n := 2) (T := .tup) rfl T.isF T.isA_tuple (rv 0) (pe_tyN rfl T.n_tuple PyProof.Rows.Boot.«tuple») (.ty _) rfl T.n_isinstance) (re_and (re_cmp (op_eqD hr.units) ref_eq (re_callB (call_lenU rfl) ref_len (by rfl) T.n_len PyProof.Rows.Boot.«len» (ra_cons (rv 0) ra_nil)) (re_callB (call_lenU rfl) ref_len (by rfl) T.n_len PyProof.Rows.Boot.«len» (ra_cons (re_fld rfl T.k_Web rfl (rv 1)) ra_nil)) (nomark _)) (re_one (re_callB (call_allU rfl rfl) ref_all (by rfl) T.n_all PyProof.Rows.Boot.«all» (ra_cons (re_lc (own := [("one", 2)]) rfl sc_are_depths.nd (ri_seq rfl (rv 0)) (blkOk_by (own := [("one", 2)]) (N := N_are_depths) (sc := defScope s_are_depths) (by decide +kernel)) (fun _ _ _ _ _ => (rg_name (i := 2) sc_are_depths.nd rfl (Or.inl rfl))) (fun _ _ _ _ _ => rts_nil) (fun _ _ _ _ _ => (re_fn (ok_is_whole T) (hr.mono (by decide)) rfl T.g_is_whole T.F_is_whole.kp T.b_is_whole .nil rfl takes0 (ra_cons (rv 2) ra_nil) rfl))) ra_nil))))))))
theorem ok_check_depths (T : Facts K mg) : FnOk P w K mg base (L2.CX P w) 3 T.f_check_depths T.d_check_depths ["web", "depths"] (spM (cfg T) 2 m_check_depths) :=
  ok_fn (k := 2) T.F_check_depths sc_check_depths rfl b_check_depths (fun cdv A outer s H E hr => (rss_one (rs_if (rt_not (rt_val (re_fn (ok_are_depths T) (hr.mono (by decide)) rfl T.g_are_depths T.F_are_depths.kp T.b_are_depths .nil rfl (takes_of rfl rfl rfl rfl) (ra_cons (rv 1) (ra_cons (rv 0) ra_nil)) rfl))) (rss_one rs_no) rss_nil)))
theorem ok_check_rain (T : Facts K mg) : FnOk P w K mg base (L2.CX P w) 4 T.f_check_rain T.d_check_rain ["web", "rain"] (spM (cfg T) 2 m_check_rain) :=
  ok_fn (k := 3) T.F_check_rain sc_check_rain rfl b_check_rain (fun cdv A outer s H E hr => (rss_cons (rs_if (rt_w (rw_or (rt_not (rt_val (re_isi (x := "") (n := 2) (T := .tup) rfl T.isF T.isA_tuple (rv 1) (pe_tyN rfl T.n_tuple PyProof.Rows.Boot.«tuple») (.ty _) rfl T.n_isinstance))) (rw_or (rt_cmp (op_neD hr.units) ref_ne (re_callB (call_lenU rfl) ref_len (by rfl) T.n_len PyProof.Rows.Boot.«len» (ra_cons (rv 1) ra_nil)) (re_fld rfl T.k_Web rfl (rv 0)) (nomark _)) (rw_or1 (rt_not (rt_val (re_callB (call_allU rfl rfl) ref_all (by rfl) T.n_all PyProof.Rows.Boot.«all» (ra_cons (re_lc (own := [("one", 2)]) rfl sc_check_rain.nd (ri_seq rfl (rv 1)) (blkOk_by (own := [("one", 2)]) (N := N_check_rain) (sc := defScope s_check_rain) (by decide +kernel)) (fun _ _ _ _ _ => (rg_name (i := 2) sc_check_rain.nd rfl (Or.inl rfl))) (fun _ _ _ _ _ => rts_nil) (fun _ _ _ _ _ => (re_isi (x := "") (n := 2) (T := .cls 0) rfl T.isF T.isA_Share (rv 2) (pe_clsN rfl T.gc_Share) (.own _) rfl T.n_isinstance))) ra_nil)))))))) (rss_one rs_no) rss_nil) (rss_one (rs_if (rt_val (re_callB (call_anyU rfl rfl) ref_any (by rfl) T.n_any PyProof.Rows.Boot.«any» (ra_cons (re_lc (own := [("one", 2)]) rfl sc_check_rain.nd (ri_seq rfl (rv 1)) (blkOk_by (own := [("one", 2)]) (N := N_check_rain) (sc := defScope s_check_rain) (by decide +kernel)) (fun _ _ _ _ _ => (rg_name (i := 2) sc_check_rain.nd rfl (Or.inl rfl))) (fun _ _ _ _ _ => rts_nil) (fun _ _ _ _ _ => (re_fn (ok_less T) (hr.mono (by decide)) rfl T.g_less T.F_less.kp T.b_less .nil rfl takes0 (ra_cons (rv 2) (ra_cons (re_make (c := 0) T.mkr_Share (ok_Share_init T) (hr.mono (by decide)) rfl T.gc_Share T.b_Share_init_1 T.v_Share_init_1 ⟨_, _, rfl, rfl, rfl⟩ takes0 (ra_cons re_int ra_nil) rfl) ra_nil)) rfl))) ra_nil))) (rss_one rs_no) rss_nil))))
theorem ok_ranked (T : Facts K mg) : FnOk P w K mg base (L2.CX P w) 2 T.f_ranked T.d_ranked ["web", "depths", "place"] (spM (cfg T) 3 m_ranked) :=
  ok_fn (k := 1) T.F_ranked sc_ranked rfl b_ranked (fun cdv A outer s H E hr => (rss_cons (rs_set (i := 3) sc_ranked.nd rfl (Or.inl rfl) (re_fn (ok_beds_from T) (hr.mono (by decide)) rfl T.g_beds_from T.F_beds_from.kp T.b_beds_from .nil rfl (takes_of rfl rfl rfl rfl) (ra_cons (rv 0) (ra_cons (rv 2) ra_nil)) rfl)) (rss_cons (rs_if (rt_w (rw_and (rt_cmp (op_eqD hr.units) ref_eq (re_callB (call_lenU rfl) ref_len (by rfl) T.n_len PyProof.Rows.Boot.«len» (ra_cons (rv 3) ra_nil)) re_int (nomark _)) (rw_and1 (rt_cmp op_lt ref_lt (re_ix rfl (rv 1) (re_ix rfl (rv 3) re_int)) (re_ix rfl (rv 1) (re_ix rfl (rv 3) re_int)) (nomark _))))) (rss_one (rs_ret (re_rev rfl (rv 3)))) rss_nil) (rss_one (rs_ret (rv 3))))))
theorem ok_flow (T : Facts K mg) : FnOk P w K mg base (L2.CX P w) 5 T.f_flow T.d_flow ["web", "depths", "rain"] (spM (cfg T) 3 m_flow) :=
  ok_fnA (k := 4) T.F_flow sc_flow rfl b_flow (fun cdv A outer s H E hr => (rss_cons (rs_set (i := 3) sc_flow.nd rfl (Or.inl rfl) (re_callTy (call_listU rfl) ref_listO (by rfl) T.n_list PyProof.Rows.Boot.«list» (ra_cons (rv 2) ra_nil))) (rss_cons (rs_setLcO (i := 5) (own := [("bed", 4)]) rfl sc_flow.nd rfl rfl (sw_true rfl rfl rfl (by decide +kernel)) (ri_seq rfl (re_fld rfl T.k_Web rfl (rv 0))) (blkOk_by (own := [("bed", 4)]) (N := N_flow) (sc := defScope s_flow) (by decide +kernel)) (fun _ _ _ _ _ => (rg_name (i := 4) sc_flow.nd rfl (Or.inl rfl))) (fun _ _ _ _ _ => rts_nil) (fun _ _ _ _ _ => (re_make (c := 0) T.mkr_Share (ok_Share_init T) (hr.mono (by decide)) rfl T.gc_Share T.b_Share_init_1 T.v_Share_init_1 ⟨_, _, rfl, rfl, rfl⟩ takes0 (ra_cons re_int ra_nil) rfl))) (rss_cons (rs_for (passes_of rfl) rfl (ri_range1 (by rfl) T.n_range (ra_cons (re_fld rfl T.k_Web rfl (rv 0)) ra_nil)) (rg_name (i := 6) sc_flow.nd rfl (Or.inl rfl)) (rss_one (rs_for (passes_of rfl) rfl (ri_enumA rfl (by rfl) T.n_enumerate (ra_cons (re_fn (ok_ranked T) (hr.mono (by decide)) rfl T.g_ranked T.F_ranked.kp T.b_ranked .nil rfl (takes_of rfl rfl rfl rfl) (ra_cons (rv 0) (ra_cons (rv 1) (ra_cons (rv 6) ra_nil))) rfl) ra_nil)) (rg_tup rfl rfl (rgs_cons (rg_name (i := 7) sc_flow.nd rfl (Or.inl rfl)) (rgs_cons (rg_name (i := 4) sc_flow.nd rfl (Or.inl rfl)) rgs_nil))) (rss_cons (rs_ix (rv 5) (rv 4) (re_fn (ok_times T) (hr.mono (by decide)) rfl T.g_times T.F_times.kp T.b_times .nil rfl (takes_of rfl rfl rfl rfl) (ra_cons (re_ix rfl (rv 3) (rv 6)) (ra_cons (re_fn (ok_share_by_rank T) (hr.mono (by decide)) rfl T.g_share_by_rank T.F_share_by_rank.kp T.b_share_by_rank .nil rfl (takes_of rfl rfl rfl rfl) (ra_cons (rv 0) (ra_cons (rv 6) (ra_cons (rv 7) ra_nil))) rfl) ra_nil)) rfl)) (rss_cons (rs_set (i := 8) sc_flow.nd rfl (Or.inl rfl) (re_ix rfl (re_ix rfl (re_fld rfl T.k_Web rfl (rv 0)) (rv 4)) re_int)) (rss_one (rs_ix (rv 3) (rv 8) (re_fn (ok_plus T) (hr.mono (by decide)) rfl T.g_plus T.F_plus.kp T.b_plus .nil rfl (takes_of rfl rfl rfl rfl) (ra_cons (re_ix rfl (rv 3) (rv 8)) (ra_cons (re_ix rfl (rv 5) (rv 4)) ra_nil)) rfl)))))))) (rss_one (rs_ret (re_tup (ra_cons (rv 3) (ra_cons (rv 5) ra_nil)))))))))
theorem ok_moved (T : Facts K mg) : FnOk P w K mg base (L2.CX P w) 3 T.f_moved T.d_moved ["web", "depths", "bears"] (spM (cfg T) 3 m_moved) :=
  ok_fn (k := 2) T.F_moved sc_moved rfl b_moved (fun cdv A outer s H E hr => (rss_one (rs_ret (re_callTy (call_tupleU rfl) ref_tuple (by rfl) T.n_tuple PyProof.Rows.Boot.«tuple» (ra_cons (re_lc (own := [("bed", 3), ("depth", 4)]) rfl sc_moved.nd (ri_enumA rfl (by rfl) T.n_enumerate (ra_cons (rv 1) ra_nil)) (blkOk_by (own := [("bed", 3), ("depth", 4)]) (N := N_moved) (sc := defScope s_moved) (by decide +kernel)) (fun _ _ _ _ _ => (rg_tup rfl rfl (rgs_cons (rg_name (i := 3) sc_moved.nd rfl (Or.inl rfl)) (rgs_cons (rg_name (i := 4) sc_moved.nd rfl (Or.inl rfl)) rgs_nil)))) (fun _ _ _ _ _ => rts_nil) (fun _ _ _ _ _ => (re_bin (op_addU rfl) ref_add (rv 4) (re_fn (ok_move_of T) (hr.mono (by decide)) rfl T.g_move_of T.F_move_of.kp T.b_move_of .nil rfl takes0 (ra_cons (rv 0) (ra_cons (rv 3) (ra_cons (re_ix rfl (rv 2) (rv 3)) ra_nil))) rfl)))) ra_nil)))))
theorem ok_borne (T : Facts K mg) : FnOk P w K mg base (L2.CX P w) 6 T.f_borne T.d_borne ["web", "depths", "rain"] (spM (cfg T) 3 m_borne) :=
  ok_fnA (k := 5) T.F_borne sc_borne rfl b_borne (fun cdv A outer s H E hr => (rss_cons (rs_expr (re_fn (ok_check_depths T) (hr.mono (by decide)) rfl T.g_check_depths T.F_check_depths.kp T.b_check_depths .nil rfl (takes_of rfl rfl rfl rfl) (ra_cons (rv 0) (ra_cons (rv 1) ra_nil)) rfl)) (rss_cons (rs_expr (re_fn (ok_check_rain T) (hr.mono (by decide)) rfl T.g_check_rain T.F_check_rain.kp T.b_check_rain .nil rfl (takes_of rfl rfl rfl rfl) (ra_cons (rv 0) (ra_cons (rv 2) ra_nil)) rfl)) (rss_one (rs_ret (re_ix rfl (re_fn (ok_flow T) (hr.mono (by decide)) rfl T.g_flow T.F_flow.kp T.b_flow .nil rfl (takes_of rfl rfl rfl rfl) (ra_cons (rv 0) (ra_cons (rv 1) (ra_cons (rv 2) ra_nil))) rfl) re_int))))))
theorem ok_step (T : Facts K mg) : FnOk P w K mg base (L2.CX P w) 6 T.f_step T.d_step ["web", "depths", "rain"] (spM (cfg T) 3 m_step) :=
  ok_fn (k := 5) T.F_step sc_step rfl b_step (fun cdv A outer s H E hr => (rss_cons (rs_expr (re_fn (ok_check_depths T) (hr.mono (by decide)) rfl T.g_check_depths T.F_check_depths.kp T.b_check_depths .nil rfl (takes_of rfl rfl rfl rfl) (ra_cons (rv 0) (ra_cons (rv 1) ra_nil)) rfl)) (rss_cons (rs_expr (re_fn (ok_check_rain T) (hr.mono (by decide)) rfl T.g_check_rain T.F_check_rain.kp T.b_check_rain .nil rfl (takes_of rfl rfl rfl rfl) (ra_cons (rv 0) (ra_cons (rv 2) ra_nil)) rfl)) (rss_one (rs_ret (re_fn (ok_moved T) (hr.mono (by decide)) rfl T.g_moved T.F_moved.kp T.b_moved .nil rfl (takes_of rfl rfl rfl rfl) (ra_cons (rv 0) (ra_cons (rv 1) (ra_cons (re_ix rfl (re_fn (ok_flow T) (hr.mono (by decide)) rfl T.g_flow T.F_flow.kp T.b_flow .nil rfl (takes_of rfl rfl rfl rfl) (ra_cons (rv 0) (ra_cons (rv 1) (ra_cons (rv 2) ra_nil))) rfl) re_int) ra_nil))) rfl))))))
theorem ok_law_cell_at (T : Facts K mg) : FnOk P w K mg base (L2.CX P w) 1 T.f_law_cell_at T.d_law_cell_at ["script", "k"] (spM (cfg T) 2 m_law_cell_at) :=
  ok_fn (k := 0) T.F_law_cell_at sc_law_cell_at rfl b_law_cell_at (fun cdv A outer s H E hr => (rss_cons (rs_if (rt_cmp op_lt ref_lt (rv 1) (re_callB (call_lenU rfl) ref_len (by rfl) T.n_len PyProof.Rows.Boot.«len» (ra_cons (rv 0) ra_nil)) (nomark _)) (rss_one (rs_ret (re_ix rfl (rv 0) (rv 1)))) rss_nil) (rss_one (rs_ret re_int))))
theorem ok_law_mixed (T : Facts K mg) : FnOk P w K mg base (L2.CX P w) 1 T.f_law_mixed T.d_law_mixed ["cell", "k"] (spM (cfg T) 2 m_law_mixed) :=
  ok_fn (k := 0) T.F_law_mixed sc_law_mixed rfl b_law_mixed (fun cdv A outer s H E hr => (rss_cons (rs_set (i := 2) sc_law_mixed.nd rfl (Or.inl rfl) (re_bin (op_addU rfl) ref_add (re_bin op_modN ref_mod (rv 0) re_int) (re_bin op_mulU ref_mul (re_bin op_div ref_div (rv 0) re_int) re_int))) (rss_cons (rs_set (i := 2) sc_law_mixed.nd rfl (Or.inl rfl) (re_bin op_modN ref_mod (re_bin op_mulU ref_mul (re_bin (op_addU rfl) ref_add (re_bin (op_addU rfl) ref_add (rv 2) (re_bin op_mulU ref_mul re_int (rv 1))) re_int) re_int) re_int)) (rss_cons (rs_set (i := 2) sc_law_mixed.nd rfl (Or.inl rfl) (re_bin op_modN ref_mod (re_bin op_mulU ref_mul (rv 2) (re_bin (op_addU rfl) ref_add (re_bin (op_addU rfl) ref_add (re_bin op_div ref_div (rv 2) re_int) re_int) (rv 1))) re_int)) (rss_one (rs_ret (re_bin op_modN ref_mod (re_bin op_mulU ref_mul (rv 2) (re_bin (op_addU rfl) ref_add (re_bin op_div ref_div (rv 2) re_int) re_int)) re_int)))))))
theorem ok_law_source (T : Facts K mg) : FnOk P w K mg base (L2.CX P w) 2 T.f_law_source T.d_law_source ["script", "k"] (spM (cfg T) 2 m_law_source) :=
  ok_fnO (k := 1) T.F_law_source sc_law_source rfl b_law_source (fun cdv A outer s H E hr => (rss_cons (rs_if (rt_cmp op_lt ref_lt (rv 1) (re_callB (call_lenU rfl) ref_len (by rfl) T.n_len PyProof.Rows.Boot.«len» (ra_cons (rv 0) ra_nil)) (nomark _)) (rss_one (rs_ret (re_lstO (ra_cons (re_ix rfl (rv 0) (rv 1)) (ra_cons (re_ix rfl (rv 0) (rv 1)) (ra_cons re_int ra_nil)))))) rss_nil) (rss_cons (rs_set (i := 2) sc_law_source.nd rfl (Or.inl rfl) (re_fn (ok_law_mixed T) (hr.mono (by decide)) rfl T.g_law_mixed T.F_law_mixed.kp T.b_law_mixed .nil rfl (takes_of rfl rfl rfl rfl) (ra_cons (re_fn (ok_law_cell_at T) (hr.mono (by decide)) rfl T.g_law_cell_at T.F_law_cell_at.kp T.b_law_cell_at .nil rfl (takes_of rfl rfl rfl rfl) (ra_cons (rv 0) (ra_cons re_int ra_nil)) rfl) (ra_cons (re_bin (op_addU rfl) ref_add re_int (rv 1)) ra_nil)) rfl)) (rss_one (rs_ret (re_lstO (ra_cons (rv 2) (ra_cons (rv 2) (ra_cons re_int ra_nil)))))))))
theorem ok_law_next (T : Facts K mg) : FnOk P w K mg base (L2.CX P w) 2 T.f_law_next T.d_law_next ["source", "many"] (spM (cfg T) 2 m_law_next) :=
  ok_fn (k := 1) T.F_law_next sc_law_next rfl b_law_next (fun cdv A outer s H E hr => (rss_cons (rs_if (rt_cmp op_ge ref_ge (re_ix rfl (rv 0) re_int) (re_bin op_pow ref_pow re_int re_int) (nomark _)) (rss_cons (rs_set (i := 2) sc_law_next.nd rfl (Or.inl rfl) (re_bin op_modN ref_mod (re_ix rfl (rv 0) re_int) (rv 1))) (rss_cons (rs_ix (rv 0) re_int (re_bin op_div ref_div (re_ix rfl (rv 0) re_int) (rv 1))) (rss_one (rs_ret (rv 2))))) rss_nil) (rss_cons (rs_ix (rv 0) re_int (re_bin (op_addU rfl) ref_add (re_ix rfl (rv 0) re_int) re_int)) (rss_one (rs_ret (re_bin op_modN ref_mod (re_fn (ok_law_mixed T) (hr.mono (by decide)) rfl T.g_law_mixed T.F_law_mixed.kp T.b_law_mixed .nil rfl (takes_of rfl rfl rfl rfl) (ra_cons (re_ix rfl (rv 0) re_int) (ra_cons (re_ix rfl (rv 0) re_int) ra_nil)) rfl) (rv 1)))))))
theorem ok_law_pick (T : Facts K mg) : FnOk P w K mg base (L2.CX P w) 3 T.f_law_pick T.d_law_pick ["source", "some"] (spM (cfg T) 2 m_law_pick) :=
  ok_fn (k := 2) T.F_law_pick sc_law_pick rfl b_law_pick (fun cdv A outer s H E hr => (rss_one (rs_ret (re_ix rfl (rv 1) (re_fn (ok_law_next T) (hr.mono (by decide)) rfl T.g_law_next T.F_law_next.kp T.b_law_next .nil rfl (takes_of rfl rfl rfl rfl) (ra_cons (rv 0) (ra_cons (re_callB (call_lenU rfl) ref_len (by rfl) T.n_len PyProof.Rows.Boot.«len» (ra_cons (rv 1) ra_nil)) ra_nil)) rfl)))))
theorem ok_law_lowered (T : Facts K mg) : FnOk P w K mg base (L2.CX P w) 1 T.f_law_lowered T.d_law_lowered ["one", "other"] (spM (cfg T) 2 m_law_lowered) :=
  ok_fn (k := 0) T.F_law_lowered sc_law_lowered rfl b_law_lowered (fun cdv A outer s H E hr => (rss_cons (rs_par (i := 2) (j := 3) rfl sc_law_lowered.nd rfl rfl (by decide) rfl rfl (ra_cons (re_callB call_abs ref_abs (by rfl) T.n_abs PyProof.Rows.Boot.«abs» (ra_cons (rv 0) ra_nil)) (ra_cons (re_callB call_abs ref_abs (by rfl) T.n_abs PyProof.Rows.Boot.«abs» (ra_cons (rv 1) ra_nil)) ra_nil)) (by rfl)) (rss_cons (rs_while fuel (passes_of rfl) (rt_cmp (op_neD hr.units) ref_ne (rv 3) re_int (nomark _)) (rss_one (rs_par (i := 2) (j := 3) rfl sc_law_lowered.nd rfl rfl (by decide) rfl rfl (ra_cons (rv 3) (ra_cons (re_bin op_modN ref_mod (rv 2) (rv 3)) ra_nil)) (by rfl)))) (rss_cons (rs_if (rt_cmp op_lt ref_lt (rv 1) re_int (nomark _)) (rss_one (rs_set (i := 2) sc_law_lowered.nd rfl (Or.inl rfl) (re_bin op_sub ref_sub re_int (rv 2)))) rss_nil) (rss_one (rs_ret (re_tup (ra_cons (re_bin op_div ref_div (rv 0) (rv 2)) (ra_cons (re_bin op_div ref_div (rv 1) (rv 2)) ra_nil)))))))))
theorem ok_law_sum (T : Facts K mg) : FnOk P w K mg base (L2.CX P w) 2 T.f_law_sum T.d_law_sum ["one", "other"] (spM (cfg T) 2 m_law_sum) :=
  ok_fn (k := 1) T.F_law_sum sc_law_sum rfl b_law_sum (fun cdv A outer s H E hr => (rss_one (rs_ret (re_fn (ok_law_lowered T) (hr.mono (by decide)) rfl T.g_law_lowered T.F_law_lowered.kp T.b_law_lowered .nil rfl (takes_of rfl rfl rfl rfl) (ra_cons (re_bin (op_addU rfl) ref_add (re_bin op_mulU ref_mul (re_ix rfl (rv 0) re_int) (re_ix rfl (rv 1) re_int)) (re_bin op_mulU ref_mul (re_ix rfl (rv 1) re_int) (re_ix rfl (rv 0) re_int))) (ra_cons (re_bin op_mulU ref_mul (re_ix rfl (rv 0) re_int) (re_ix rfl (rv 1) re_int)) ra_nil)) rfl))))
theorem ok_law_product (T : Facts K mg) : FnOk P w K mg base (L2.CX P w) 2 T.f_law_product T.d_law_product ["one", "other"] (spM (cfg T) 2 m_law_product) :=
  ok_fn (k := 1) T.F_law_product sc_law_product rfl b_law_product (fun cdv A outer s H E hr => (rss_one (rs_ret (re_fn (ok_law_lowered T) (hr.mono (by decide)) rfl T.g_law_lowered T.F_law_lowered.kp T.b_law_lowered .nil rfl (takes_of rfl rfl rfl rfl) (ra_cons (re_bin op_mulU ref_mul (re_ix rfl (rv 0) re_int) (re_ix rfl (rv 1) re_int)) (ra_cons (re_bin op_mulU ref_mul (re_ix rfl (rv 0) re_int) (re_ix rfl (rv 1) re_int)) ra_nil)) rfl))))
theorem ok_law_mark (T : Facts K mg) : FnOk P w K mg base (L2.CX P w) 3 T.f_law_mark T.d_law_mark ["source"] (spM (cfg T) 1 m_law_mark) :=
  ok_fn (k := 2) T.F_law_mark sc_law_mark rfl b_law_mark (fun cdv A outer s H E hr => (rss_cons (rs_set (i := 1) sc_law_mark.nd rfl (Or.inl rfl) (re_ix rfl (re_lst (ra_cons (re_fn (ok_law_next T) (hr.mono (by decide)) rfl T.g_law_next T.F_law_next.kp T.b_law_next .nil rfl (takes_of rfl rfl rfl rfl) (ra_cons (rv 0) (ra_cons re_int ra_nil)) rfl) (ra_cons (re_fn (ok_law_next T) (hr.mono (by decide)) rfl T.g_law_next T.F_law_next.kp T.b_law_next .nil rfl (takes_of rfl rfl rfl rfl) (ra_cons (rv 0) (ra_cons re_int ra_nil)) rfl) (ra_cons (re_bin op_sub ref_sub re_int (re_fn (ok_law_next T) (hr.mono (by decide)) rfl T.g_law_next T.F_law_next.kp T.b_law_next .nil rfl (takes_of rfl rfl rfl rfl) (ra_cons (rv 0) (ra_cons re_int ra_nil)) rfl)) ra_nil)))) (re_bin op_div ref_div (re_fn (ok_law_next T) (hr.mono (by decide)) rfl T.g_law_next T.F_law_next.kp T.b_law_next .nil rfl (takes_of rfl rfl rfl rfl) (ra_cons (rv 0) (ra_cons re_int ra_nil)) rfl) re_int))) (rss_one (rs_ret (re_fn (ok_law_lowered T) (hr.mono (by decide)) rfl T.g_law_lowered T.F_law_lowered.kp T.b_law_lowered .nil rfl (takes_of rfl rfl rfl rfl) (ra_cons (rv 1) (ra_cons (re_ix rfl (re_lst (ra_cons re_int (ra_cons re_int (ra_cons re_int (ra_cons re_int (ra_cons re_int ra_nil)))))) (re_fn (ok_law_next T) (hr.mono (by decide)) rfl T.g_law_next T.F_law_next.kp T.b_law_next .nil rfl (takes_of rfl rfl rfl rfl) (ra_cons (rv 0) (ra_cons re_int ra_nil)) rfl)) ra_nil)) rfl)))))
theorem ok_law_beds_of (T : Facts K mg) : FnOk P w K mg base (L2.CX P w) 4 T.f_law_beds_of T.d_law_beds_of ["source", "many"] (spM (cfg T) 2 m_law_beds_of) :=
  ok_fn (k := 3) T.F_law_beds_of sc_law_beds_of rfl b_law_beds_of (fun cdv A outer s H E hr => (rss_cons (rs_set (i := 2) sc_law_beds_of.nd rfl (Or.inl rfl) (re_lstO ra_nil)) (rss_cons (rs_for (passes_of rfl) rfl (ri_range1 (by rfl) T.n_range (ra_cons (re_bin op_sub ref_sub (rv 1) re_int) ra_nil)) (rg_name (i := 3) sc_law_beds_of.nd rfl (Or.inl rfl)) (rss_one (rs_for (passes_of rfl) rfl (ri_range1 (by rfl) T.n_range (ra_cons (re_callB (call_min2 rfl) ref_min (by rfl) T.n_min PyProof.Rows.Boot.«min» (ra_cons (re_bin op_sub ref_sub re_int (re_callB (call_lenU rfl) ref_len (by rfl) T.n_len PyProof.Rows.Boot.«len» (ra_cons (rv 2) ra_nil))) (ra_cons (re_ix rfl (re_lst (ra_cons re_int (ra_cons re_int (ra_cons re_int (ra_cons re_int ra_nil))))) (re_fn (ok_law_next T) (hr.mono (by decide)) rfl T.g_law_next T.F_law_next.kp T.b_law_next .nil rfl (takes_of rfl rfl rfl rfl) (ra_cons (rv 0) (ra_cons re_int ra_nil)) rfl)) ra_nil))) ra_nil)) (rg_name (i := 4) sc_law_beds_of.nd rfl (Or.inl rfl)) (rss_cons (rs_set (i := 5) sc_law_beds_of.nd rfl (Or.inl rfl) (re_bin (op_addU rfl) ref_add (re_bin (op_addU rfl) ref_add (rv 3) re_int) (re_fn (ok_law_next T) (hr.mono (by decide)) rfl T.g_law_next T.F_law_next.kp T.b_law_next .nil rfl (takes_of rfl rfl rfl rfl) (ra_cons (rv 0) (ra_cons (re_bin op_sub ref_sub (re_bin op_sub ref_sub (rv 1) re_int) (rv 3)) ra_nil)) rfl))) (rss_cons (rs_par (i := 6) (j := 7) rfl sc_law_beds_of.nd rfl rfl (by decide) rfl rfl (ra_cons (re_fn (ok_law_mark T) (hr.mono (by decide)) rfl T.g_law_mark T.F_law_mark.kp T.b_law_mark .nil rfl (takes_of rfl rfl rfl rfl) (ra_cons (rv 0) ra_nil) rfl) (ra_cons (re_fn (ok_law_mark T) (hr.mono (by decide)) rfl T.g_law_mark T.F_law_mark.kp T.b_law_mark .nil rfl (takes_of rfl rfl rfl rfl) (ra_cons (rv 0) ra_nil) rfl) ra_nil)) (by rfl)) (rss_cons (rs_set (i := 7) sc_law_beds_of.nd rfl (Or.inl rfl) (re_tup (ra_cons (re_bin (op_addU rfl) ref_add (re_callB call_abs ref_abs (by rfl) T.n_abs PyProof.Rows.Boot.«abs» (ra_cons (re_ix rfl (rv 7) re_int) ra_nil)) (re_callTy call_int1 ref_int (by rfl) T.n_int PyProof.Rows.Boot.«int» (ra_cons (re_cmp (op_eqD hr.units) ref_eq (re_ix rfl (rv 7) re_int) re_int (nomark _)) ra_nil))) (ra_cons (re_ix rfl (rv 7) re_int) ra_nil)))) (rss_one (rs_expr (re_met rfl PySem.F.plainAttrs_list PySem.F.slot_list_append PySem.F.type_list_append mt_append refm_append (rv 2) (ra_cons (re_tup (ra_cons (rv 3) (ra_cons (rv 5) (ra_cons (rv 6) (ra_cons (re_fn (ok_law_sum T) (hr.mono (by decide)) rfl T.g_law_sum T.F_law_sum.kp T.b_law_sum .nil rfl (takes_of rfl rfl rfl rfl) (ra_cons (rv 6) (ra_cons (rv 7) ra_nil)) rfl) ra_nil))))) ra_nil)))))))))) (rss_one (rs_ret (rv 2))))))
theorem ok_law_world (T : Facts K mg) : FnOk P w K mg base (L2.CX P w) 5 T.f_law_world T.d_law_world ["source", "most_places"] (spM (cfg T) 2 m_law_world) :=
  ok_fn (k := 4) T.F_law_world sc_law_world rfl b_law_world (fun cdv A outer s H E hr => (rss_cons (rs_set (i := 2) sc_law_world.nd rfl (Or.inl rfl) (re_bin (op_addU rfl) ref_add re_int (re_fn (ok_law_next T) (hr.mono (by decide)) rfl T.g_law_next T.F_law_next.kp T.b_law_next .nil rfl (takes_of rfl rfl rfl rfl) (ra_cons (rv 0) (ra_cons (rv 1) ra_nil)) rfl))) (rss_cons (rs_set (i := 3) sc_law_world.nd rfl (Or.inl rfl) (re_fn (ok_law_beds_of T) (hr.mono (by decide)) rfl T.g_law_beds_of T.F_law_beds_of.kp T.b_law_beds_of .nil rfl (takes_of rfl rfl rfl rfl) (ra_cons (rv 0) (ra_cons (rv 2) ra_nil)) rfl)) (rss_cons (rs_set (i := 4) sc_law_world.nd rfl (Or.inl rfl) (re_lstO ra_nil)) (rss_cons (rs_for (passes_of rfl) rfl (ri_range1 (by rfl) T.n_range (ra_cons (rv 2) ra_nil)) (rg_name (i := 5) sc_law_world.nd rfl (Or.inr rfl)) (rss_cons (rs_set (i := 6) sc_law_world.nd rfl (Or.inl rfl) (re_callB (call_lenU rfl) ref_len (by rfl) T.n_len PyProof.Rows.Boot.«len» (ra_cons (re_lc (own := [("one", 8)]) rfl sc_law_world.nd (ri_seq rfl (rv 3)) (blkOk_by (own := [("one", 8)]) (N := N_law_world) (sc := defScope s_law_world) (by decide +kernel)) (fun _ _ _ _ _ => (rg_name (i := 8) sc_law_world.nd rfl (Or.inl rfl))) (fun _ _ _ _ _ => (rts_one (rt_cmp (op_eqD hr.units) ref_eq (re_ix rfl (rv 8) re_int) (rv 5) (nomark _)))) (fun _ _ _ _ _ => (rv 8))) ra_nil))) (rss_cons (rs_set (i := 7) sc_law_world.nd rfl (Or.inl rfl) (re_callTy (call_tupleU rfl) ref_tuple (by rfl) T.n_tuple PyProof.Rows.Boot.«tuple» (ra_cons (re_lc (own := [("k", 9)]) rfl sc_law_world.nd (ri_range1 (by rfl) T.n_range (ra_cons (rv 6) ra_nil)) (blkOk_by (own := [("k", 9)]) (N := N_law_world) (sc := defScope s_law_world) (by decide +kernel)) (fun _ _ _ _ _ => (rg_name (i := 9) sc_law_world.nd rfl (Or.inl rfl))) (fun _ _ _ _ _ => rts_nil) (fun _ _ _ _ _ => (re_fn (ok_law_next T) (hr.mono (by decide)) rfl T.g_law_next T.F_law_next.kp T.b_law_next .nil rfl takes0 (ra_cons (rv 0) (ra_cons (re_ix rfl (re_lst (ra_cons re_int (ra_cons re_int ra_nil))) (re_fn (ok_law_next T) (hr.mono (by decide)) rfl T.g_law_next T.F_law_next.kp T.b_law_next .nil rfl takes0 (ra_cons (rv 0) (ra_cons re_int ra_nil)) rfl)) ra_nil)) rfl))) ra_nil))) (rss_cons (rs_if (rt_w (rw_and (rt_cmp op_gt ref_gt (rv 6) re_int (nomark _)) (rw_and1 (rt_cmp (op_eqD hr.units) ref_eq (re_callB (call_sumAU rfl rfl) ref_sumA (by rfl) T.n_sum PyProof.Rows.Boot.«sum» (ra_cons (rv 7) ra_nil)) re_int (nomark _))))) (rss_one (rs_set (i := 7) sc_law_world.nd rfl (Or.inl rfl) (re_bin (op_addU rfl) ref_add (re_tup (ra_cons (re_bin (op_addU rfl) ref_add re_int (re_fn (ok_law_next T) (hr.mono (by decide)) rfl T.g_law_next T.F_law_next.kp T.b_law_next .nil rfl (takes_of rfl rfl rfl rfl) (ra_cons (rv 0) (ra_cons re_int ra_nil)) rfl)) ra_nil)) (re_sl rfl (rv 7) (ro_some re_int) ro_none)))) rss_nil) (rss_one (rs_expr (re_met rfl PySem.F.plainAttrs_list PySem.F.slot_list_append PySem.F.type_list_append mt_append refm_append (rv 4) (ra_cons (rv 7) ra_nil)))))))) (rss_one (rs_ret (re_tup (ra_cons (rv 2) (ra_cons (rv 3) (ra_cons (rv 4) ra_nil)))))))))))
theorem ok_law_made (T : Facts K mg) : FnOk P w K mg base (L2.CX P w) 9 T.f_law_made T.d_law_made ["world"] (spM (cfg T) 1 m_law_made) :=
  ok_fn (k := 8) T.F_law_made sc_law_made rfl b_law_made (fun cdv A outer s H E hr => (rss_cons (rs_asg (rv 0) (rg_tup rfl rfl (rgs_cons (rg_name (i := 1) sc_law_made.nd rfl (Or.inl rfl)) (rgs_cons (rg_name (i := 2) sc_law_made.nd rfl (Or.inl rfl)) (rgs_cons (rg_name (i := 3) sc_law_made.nd rfl (Or.inl rfl)) rgs_nil))))) (rss_cons (rs_set (i := 4) sc_law_made.nd rfl (Or.inl rfl) (re_lstO ra_nil)) (rss_cons (rs_for (passes_of rfl) rfl (ri_seq rfl (rv 2)) (rg_tup rfl rfl (rgs_cons (rg_name (i := 5) sc_law_made.nd rfl (Or.inl rfl)) (rgs_cons (rg_name (i := 6) sc_law_made.nd rfl (Or.inl rfl)) (rgs_cons (rg_name (i := 7) sc_law_made.nd rfl (Or.inl rfl)) (rgs_cons (rg_name (i := 8) sc_law_made.nd rfl (Or.inl rfl)) rgs_nil))))) (rss_one (rs_expr (re_met rfl PySem.F.plainAttrs_list PySem.F.slot_list_append PySem.F.type_list_append mt_append refm_append (rv 4) (ra_cons (re_tup (ra_cons (rv 5) (ra_cons (rv 6) (ra_cons (re_make (c := 0) T.mkr_Share (ok_Share_init T) (hr.mono (by decide)) rfl T.gc_Share T.b_Share_init_0 T.v_Share_init_0 rfl (takes_of rfl rfl rfl rfl) (ra_cons (re_ix rfl (rv 7) re_int) (ra_cons (re_ix rfl (rv 7) re_int) ra_nil)) rfl) (ra_cons (re_make (c := 0) T.mkr_Share (ok_Share_init T) (hr.mono (by decide)) rfl T.gc_Share T.b_Share_init_0 T.v_Share_init_0 rfl (takes_of rfl rfl rfl rfl) (ra_cons (re_ix rfl (rv 8) re_int) (ra_cons (re_ix rfl (rv 8) re_int) ra_nil)) rfl) ra_nil))))) ra_nil))))) (rss_ice 4 (rss_one (rs_ret (re_make (c := 1) T.mkr_Web (ok_Web_init T) (hr.mono (by decide)) rfl T.gc_Web T.b_Web_init .nil rfl (takes_of rfl rfl rfl rfl) (ra_cons (rv 1) (ra_cons (rv 4) (ra_cons (re_callTy (call_listU rfl) ref_list (by rfl) T.n_list PyProof.Rows.Boot.«list» (ra_cons (rv 3) ra_nil)) ra_nil))) rfl))))))))
theorem ok_law_depths (T : Facts K mg) : FnOk P w K mg base (L2.CX P w) 3 T.f_law_depths T.d_law_depths ["source", "world"] (spM (cfg T) 2 m_law_depths) :=
  ok_fn (k := 2) T.F_law_depths sc_law_depths rfl b_law_depths (fun cdv A outer s H E hr => (rss_cons (rs_set (i := 2) sc_law_depths.nd rfl (Or.inl rfl) (re_lstO ra_nil)) (rss_cons (rs_for (passes_of rfl) rfl (ri_seq rfl (re_ix rfl (rv 1) re_int)) (rg_tup rfl rfl (rgs_cons (rg_name (i := 3) sc_law_depths.nd rfl (Or.inl rfl)) (rgs_cons (rg_name (i := 4) sc_law_depths.nd rfl (Or.inl rfl)) (rgs_cons (rg_name (i := 5) sc_law_depths.nd rfl (Or.inl rfl)) (rgs_cons (rg_name (i := 6) sc_law_depths.nd rfl (Or.inl rfl)) rgs_nil))))) (rss_cons (rs_set (i := 7) sc_law_depths.nd rfl (Or.inl rfl) (re_ix rfl (re_lst (ra_cons re_int (ra_cons re_int (ra_cons (re_bin op_sub ref_sub (re_fn (ok_law_next T) (hr.mono (by decide)) rfl T.g_law_next T.F_law_next.kp T.b_law_next .nil rfl (takes_of rfl rfl rfl rfl) (ra_cons (rv 0) (ra_cons re_int ra_nil)) rfl) re_int) (ra_cons (re_bin op_sub ref_sub (re_fn (ok_law_next T) (hr.mono (by decide)) rfl T.g_law_next T.F_law_next.kp T.b_law_next .nil rfl (takes_of rfl rfl rfl rfl) (ra_cons (rv 0) (ra_cons (re_bin op_pow ref_pow re_int re_int) ra_nil)) rfl) (re_bin op_pow ref_pow re_int re_int)) ra_nil))))) (re_fn (ok_law_next T) (hr.mono (by decide)) rfl T.g_law_next T.F_law_next.kp T.b_law_next .nil rfl (takes_of rfl rfl rfl rfl) (ra_cons (rv 0) (ra_cons re_int ra_nil)) rfl))) (rss_one (rs_expr (re_met rfl PySem.F.plainAttrs_list PySem.F.slot_list_append PySem.F.type_list_append mt_append refm_append (rv 2) (ra_cons (rv 7) ra_nil)))))) (rss_one (rs_ret (re_callTy (call_tupleU rfl) ref_tuple (by rfl) T.n_tuple PyProof.Rows.Boot.«tuple» (ra_cons (rv 2) ra_nil)))))))
theorem ok_law_falls (T : Facts K mg) : FnOk P w K mg base (L2.CX P w) 6 T.f_law_falls T.d_law_falls ["source", "world"] (spM (cfg T) 2 m_law_falls) :=
  ok_fn (k := 5) T.F_law_falls sc_law_falls rfl b_law_falls (fun cdv A outer s H E hr => (rss_cons (rs_set (i := 2) sc_law_falls.nd rfl (Or.inl rfl) (re_lstO ra_nil)) (rss_cons (rs_for (passes_of rfl) rfl (ri_range1 (by rfl) T.n_range (ra_cons (re_ix rfl (rv 1) re_int) ra_nil)) (rg_name (i := 3) sc_law_falls.nd rfl (Or.inr rfl)) (rss_cons (rs_set (i := 4) sc_law_falls.nd rfl (Or.inl rfl) (re_lst (ra_cons (re_tup (ra_cons re_int (ra_cons re_int ra_nil))) (ra_cons (re_fn (ok_law_lowered T) (hr.mono (by decide)) rfl T.g_law_lowered T.F_law_lowered.kp T.b_law_lowered .nil rfl (takes_of rfl rfl rfl rfl) (ra_cons (re_fn (ok_law_next T) (hr.mono (by decide)) rfl T.g_law_next T.F_law_next.kp T.b_law_next .nil rfl (takes_of rfl rfl rfl rfl) (ra_cons (rv 0) (ra_cons re_int ra_nil)) rfl) (ra_cons (re_bin (op_addU rfl) ref_add re_int (re_fn (ok_law_next T) (hr.mono (by decide)) rfl T.g_law_next T.F_law_next.kp T.b_law_next .nil rfl (takes_of rfl rfl rfl rfl) (ra_cons (rv 0) (ra_cons re_int ra_nil)) rfl)) ra_nil)) rfl) ra_nil)))) (rss_cons (rs_setLc (i := 5) (own := [("k", 9)]) rfl sc_law_falls.nd rfl rfl (sw_true rfl rfl rfl (by decide +kernel)) (ri_range1 (by rfl) T.n_range (ra_cons (re_callB (call_lenU rfl) ref_len (by rfl) T.n_len PyProof.Rows.Boot.«len» (ra_cons (re_ix rfl (rv 1) re_int) ra_nil)) ra_nil)) (blkOk_by (own := [("k", 9)]) (N := N_law_falls) (sc := defScope s_law_falls) (by decide +kernel)) (fun _ _ _ _ _ => (rg_name (i := 9) sc_law_falls.nd rfl (Or.inl rfl))) (fun _ _ _ _ _ => (rts_one (rt_cmp (op_tr (.inl rfl) (rcE rfl (eqf_Share T) 3).1 (hr.mono (by decide))) ref_tr (re_ix rfl (re_ix rfl (re_ix rfl (rv 1) re_int) (rv 9)) re_int) (rv 3) (nomark _)))) (fun _ _ _ _ _ => (rv 9))) (rss_cons (rs_if (rt_cmp (op_tr (.inr rfl) (rcE rfl (eqf_Share T) 3).2 (hr.mono (by decide))) ref_tr (rv 5) (re_lst ra_nil) (nomark _)) (rss_cons (rs_set (i := 6) sc_law_falls.nd rfl (Or.inl rfl) (re_ix rfl (re_ix rfl (re_ix rfl (rv 1) re_int) (re_fn (ok_law_pick T) (hr.mono (by decide)) rfl T.g_law_pick T.F_law_pick.kp T.b_law_pick .nil rfl (takes_of rfl rfl rfl rfl) (ra_cons (rv 0) (ra_cons (rv 5) ra_nil)) rfl)) (re_bin (op_addU rfl) ref_add re_int (re_fn (ok_law_next T) (hr.mono (by decide)) rfl T.g_law_next T.F_law_next.kp T.b_law_next .nil rfl (takes_of rfl rfl rfl rfl) (ra_cons (rv 0) (ra_cons re_int ra_nil)) rfl)))) (rss_cons (rs_set (i := 7) sc_law_falls.nd rfl (Or.inl rfl) (re_callB (call_max2 rfl) ref_max (by rfl) T.n_max PyProof.Rows.Boot.«max» (ra_cons re_int (ra_cons (re_fn (ok_law_pick T) (hr.mono (by decide)) rfl T.g_law_pick T.F_law_pick.kp T.b_law_pick .nil rfl (takes_of rfl rfl rfl rfl) (ra_cons (rv 0) (ra_cons (re_ix rfl (re_ix rfl (rv 1) re_int) (rv 3)) ra_nil)) rfl) ra_nil)))) (rss_one (rs_set (i := 4) sc_law_falls.nd rfl (Or.inl rfl) (re_bin (op_addU rfl) ref_add (rv 4) (re_lst (ra_cons (rv 6) (ra_cons (re_fn (ok_law_product T) (hr.mono (by decide)) rfl T.g_law_product T.F_law_product.kp T.b_law_product .nil rfl (takes_of rfl rfl rfl rfl) (ra_cons (rv 6) (ra_cons (re_tup (ra_cons (re_callB (call_sumAU rfl rfl) ref_sumA (by rfl) T.n_sum PyProof.Rows.Boot.«sum» (ra_cons (re_ix rfl (re_ix rfl (rv 1) re_int) (rv 3)) ra_nil)) (ra_cons (rv 7) ra_nil))) ra_nil)) rfl) ra_nil)))))))) rss_nil) (rss_cons (rs_set (i := 8) sc_law_falls.nd rfl (Or.inl rfl) (re_fn (ok_law_pick T) (hr.mono (by decide)) rfl T.g_law_pick T.F_law_pick.kp T.b_law_pick .nil rfl (takes_of rfl rfl rfl rfl) (ra_cons (rv 0) (ra_cons (rv 4) ra_nil)) rfl)) (rss_one (rs_expr (re_met rfl PySem.F.plainAttrs_list PySem.F.slot_list_append PySem.F.type_list_append mt_append refm_append (rv 2) (ra_cons (re_tup (ra_cons (re_callB call_abs ref_abs (by rfl) T.n_abs PyProof.Rows.Boot.«abs» (ra_cons (re_ix rfl (rv 8) re_int) ra_nil)) (ra_cons (re_ix rfl (rv 8) re_int) ra_nil))) ra_nil))))))))) (rss_one (rs_ret (rv 2))))))
theorem ok_law_shares (T : Facts K mg) : FnOk P w K mg base (L2.CX P w) 4 T.f_law_shares T.d_law_shares ["told"] (spM (cfg T) 1 m_law_shares) :=
  ok_fn (k := 3) T.F_law_shares sc_law_shares rfl b_law_shares (fun cdv A outer s H E hr => (rss_one (rs_ret (re_callTy (call_tupleU rfl) ref_tuple (by rfl) T.n_tuple PyProof.Rows.Boot.«tuple» (ra_cons (re_lc (own := [("one", 1)]) rfl sc_law_shares.nd (ri_seq rfl (rv 0)) (blkOk_by (own := [("one", 1)]) (N := N_law_shares) (sc := defScope s_law_shares) (by decide +kernel)) (fun _ _ _ _ _ => (rg_name (i := 1) sc_law_shares.nd rfl (Or.inl rfl))) (fun _ _ _ _ _ => rts_nil) (fun _ _ _ _ _ => (re_make (c := 0) T.mkr_Share (ok_Share_init T) (hr.mono (by decide)) rfl T.gc_Share T.b_Share_init_0 T.v_Share_init_0 rfl takes0 (ra_cons (re_ix rfl (rv 1) re_int) (ra_cons (re_ix rfl (rv 1) re_int) ra_nil)) rfl))) ra_nil)))))
theorem ok_law_same_order (T : Facts K mg) : FnOk P w K mg base (L2.CX P w) 3 T.f_law_same_order T.d_law_same_order ["source", "world", "depths"] (spM (cfg T) 3 m_law_same_order) :=
  ok_fn (k := 2) T.F_law_same_order sc_law_same_order rfl b_law_same_order (fun cdv A outer s H E hr => (rss_cons (rs_setLcO (i := 3) (own := [("one", 10)]) rfl sc_law_same_order.nd rfl rfl (sw_true rfl rfl rfl (by decide +kernel)) (ri_seq rfl (rv 2)) (blkOk_by (own := [("one", 10)]) (N := N_law_same_order) (sc := defScope s_law_same_order) (by decide +kernel)) (fun _ _ _ _ _ => (rg_name (i := 10) sc_law_same_order.nd rfl (Or.inl rfl))) (fun _ _ _ _ _ => rts_nil) (fun _ _ _ _ _ => (re_bin op_sub ref_sub (re_fn (ok_law_next T) (hr.mono (by decide)) rfl T.g_law_next T.F_law_next.kp T.b_law_next .nil rfl takes0 (ra_cons (rv 0) (ra_cons (re_bin op_pow ref_pow re_int re_int) ra_nil)) rfl) (re_bin op_pow ref_pow re_int re_int)))) (rss_cons (rs_set (i := 4) sc_law_same_order.nd rfl (Or.inl rfl) (re_ix rfl (rv 1) re_int)) (rss_cons (rs_for (passes_of rfl) rfl (ri_range2 (by rfl) T.n_range (ra_cons re_int (ra_cons (re_callB (call_lenU rfl) ref_len (by rfl) T.n_len PyProof.Rows.Boot.«len» (ra_cons (rv 4) ra_nil)) ra_nil))) (rg_name (i := 5) sc_law_same_order.nd rfl (Or.inl rfl)) (rss_one (rs_if (rt_cmp (op_eqD hr.units) ref_eq (re_ix rfl (re_ix rfl (rv 4) (rv 5)) re_int) (re_ix rfl (re_ix rfl (rv 4) (re_bin op_sub ref_sub (rv 5) re_int)) re_int) (nomark _)) (rss_cons (rs_set (i := 6) sc_law_same_order.nd rfl (Or.inl rfl) (re_bin (op_addU rfl) ref_add re_int (re_fn (ok_law_next T) (hr.mono (by decide)) rfl T.g_law_next T.F_law_next.kp T.b_law_next .nil rfl (takes_of rfl rfl rfl rfl) (ra_cons (rv 0) (ra_cons (re_ix rfl (re_lst (ra_cons re_int (ra_cons (re_bin op_pow ref_pow re_int re_int) ra_nil))) (re_fn (ok_law_next T) (hr.mono (by decide)) rfl T.g_law_next T.F_law_next.kp T.b_law_next .nil rfl (takes_of rfl rfl rfl rfl) (ra_cons (rv 0) (ra_cons re_int ra_nil)) rfl)) ra_nil)) rfl))) (rss_cons (rs_par (i := 7) (j := 8) rfl sc_law_same_order.nd rfl rfl (by decide) rfl rfl (ra_cons (re_ix rfl (rv 2) (rv 5)) (ra_cons (re_ix rfl (rv 2) (re_bin op_sub ref_sub (rv 5) re_int)) ra_nil)) (by rfl)) (rss_cons (rs_set (i := 9) sc_law_same_order.nd rfl (Or.inl rfl) (re_bin op_sub ref_sub (re_callTy call_int1 ref_int (by rfl) T.n_int PyProof.Rows.Boot.«int» (ra_cons (re_cmp op_gt ref_gt (rv 7) (rv 8) (nomark _)) ra_nil)) (re_callTy call_int1 ref_int (by rfl) T.n_int PyProof.Rows.Boot.«int» (ra_cons (re_cmp op_lt ref_lt (rv 7) (rv 8) (nomark _)) ra_nil)))) (rss_cons (rs_ix (rv 3) (rv 5) (re_bin (op_addU rfl) ref_add (re_ix rfl (rv 3) (re_bin op_sub ref_sub (rv 5) re_int)) (re_bin op_mulU ref_mul (rv 9) (rv 6)))) (rss_one (rs_if (rt_cmp (op_eqD hr.units) ref_eq (rv 9) re_int (nomark _)) (rss_one (rs_ix (rv 3) (rv 5) (re_bin op_sub ref_sub (re_ix rfl (rv 3) (re_bin op_sub ref_sub (rv 5) re_int)) (re_ix rfl (re_lst (ra_cons re_int (ra_cons (rv 6) ra_nil))) (re_fn (ok_law_next T) (hr.mono (by decide)) rfl T.g_law_next T.F_law_next.kp T.b_law_next .nil rfl (takes_of rfl rfl rfl rfl) (ra_cons (rv 0) (ra_cons re_int ra_nil)) rfl))))) rss_nil)))))) rss_nil))) (rss_one (rs_ret (re_callTy (call_tupleU rfl) ref_tuple (by rfl) T.n_tuple PyProof.Rows.Boot.«tuple» (ra_cons (rv 3) ra_nil))))))))
theorem ok_law_twisted (T : Facts K mg) : FnOk P w K mg base (L2.CX P w) 1 T.f_law_twisted T.d_law_twisted ["world"] (spM (cfg T) 1 m_law_twisted) :=
  ok_fn (k := 0) T.F_law_twisted sc_law_twisted rfl b_law_twisted (fun cdv A outer s H E hr => (rss_cons (rs_set (i := 1) sc_law_twisted.nd rfl (Or.inl rfl) (re_ix rfl (rv 0) re_int)) (rss_cons (rs_set (i := 2) sc_law_twisted.nd rfl (Or.inl rfl) (re_lrg rfl (by rfl) T.n_list (by rfl) T.n_range (re_callB (call_lenU rfl) ref_len (by rfl) T.n_len PyProof.Rows.Boot.«len» (ra_cons (rv 1) ra_nil)))) (rss_cons (rs_for (passes_of rfl) rfl (ri_range2 (by rfl) T.n_range (ra_cons re_int (ra_cons (re_callB (call_lenU rfl) ref_len (by rfl) T.n_len PyProof.Rows.Boot.«len» (ra_cons (rv 1) ra_nil)) ra_nil))) (rg_name (i := 3) sc_law_twisted.nd rfl (Or.inl rfl)) (rss_one (rs_if (rt_cmp (op_eqD hr.units) ref_eq (re_ix rfl (re_ix rfl (rv 1) (rv 3)) re_int) (re_ix rfl (re_ix rfl (rv 1) (re_bin op_sub ref_sub (rv 3) re_int)) re_int) (nomark _)) (rss_one (rs_swp rfl rfl (rv 2) (re_bin op_sub ref_sub (rv 3) re_int) (rv 2) (rv 3) (re_tup (ra_cons (rv 3) (ra_cons (re_bin op_sub ref_sub (rv 3) re_int) ra_nil))))) rss_nil))) (rss_one (rs_ret (rv 2)))))))
theorem ok_law_steps_of (T : Facts K mg) : FnOk P w K mg base (L2.CX P w) 1 T.f_law_steps_of T.d_law_steps_of ["depths", "morning"] (spM (cfg T) 2 m_law_steps_of) :=
  ok_fn (k := 0) T.F_law_steps_of sc_law_steps_of rfl b_law_steps_of (fun cdv A outer s H E hr => (rss_one (rs_ret (re_lc (own := [("mine", 2), ("its", 3)]) rfl sc_law_steps_of.nd (ri_zipU rfl (by rfl) T.n_zip (ra_cons (rv 0) (ra_cons (rv 1) ra_nil))) (blkOk_by (own := [("mine", 2), ("its", 3)]) (N := N_law_steps_of) (sc := defScope s_law_steps_of) (by decide +kernel)) (fun _ _ _ _ _ => (rg_tup rfl rfl (rgs_cons (rg_name (i := 2) sc_law_steps_of.nd rfl (Or.inl rfl)) (rgs_cons (rg_name (i := 3) sc_law_steps_of.nd rfl (Or.inl rfl)) rgs_nil)))) (fun _ _ _ _ _ => rts_nil) (fun _ _ _ _ _ => (re_bin op_sub ref_sub (rv 3) (rv 2)))))))
theorem ok_law_twist_right (T : Facts K mg) : FnOk P w K mg base (L2.CX P w) 10 T.f_law_twist_right T.d_law_twist_right ["source", "world", "depths", "fall"] (spM (cfg T) 4 m_law_twist_right) :=
  ok_fn (k := 9) T.F_law_twist_right sc_law_twist_right rfl b_law_twist_right (fun cdv A outer s H E hr => (rss_cons (rs_set (i := 4) sc_law_twist_right.nd rfl (Or.inl rfl) (re_fn (ok_law_twisted T) (hr.mono (by decide)) rfl T.g_law_twisted T.F_law_twisted.kp T.b_law_twisted .nil rfl (takes_of rfl rfl rfl rfl) (ra_cons (rv 1) ra_nil) rfl)) (rss_cons (rs_set (i := 5) sc_law_twist_right.nd rfl (Or.inr rfl) (re_ix rfl (rv 1) re_int)) (rss_cons (rs_set (i := 6) sc_law_twist_right.nd rfl (Or.inl rfl) (re_fn (ok_law_made T) (hr.mono (by decide)) rfl T.g_law_made T.F_law_made.kp T.b_law_made .nil rfl (takes_of rfl rfl rfl rfl) (ra_cons (re_tup (ra_cons (re_ix rfl (rv 1) re_int) (ra_cons (re_lc (own := [("at", 16)]) rfl sc_law_twist_right.nd (ri_seq rfl (rv 4)) (blkOk_by (own := [("at", 16)]) (N := N_law_twist_right) (sc := defScope s_law_twist_right) (by decide +kernel)) (fun _ _ _ _ _ => (rg_name (i := 16) sc_law_twist_right.nd rfl (Or.inl rfl))) (fun _ _ _ _ _ => rts_nil) (fun _ _ _ _ _ => (re_ix rfl (rv 5) (rv 16)))) (ra_cons (re_ix rfl (rv 1) re_int) ra_nil)))) ra_nil) rfl)) (rss_cons (rs_set (i := 7) sc_law_twist_right.nd rfl (Or.inl rfl) (re_callTy (call_tupleU rfl) ref_tuple (by rfl) T.n_tuple PyProof.Rows.Boot.«tuple» (ra_cons (re_lc (own := [("at", 16)]) rfl sc_law_twist_right.nd (ri_seq rfl (rv 4)) (blkOk_by (own := [("at", 16)]) (N := N_law_twist_right) (sc := defScope s_law_twist_right) (by decide +kernel)) (fun _ _ _ _ _ => (rg_name (i := 16) sc_law_twist_right.nd rfl (Or.inl rfl))) (fun _ _ _ _ _ => rts_nil) (fun _ _ _ _ _ => (re_ix rfl (rv 2) (rv 16)))) ra_nil))) (rss_cons (rs_set (i := 8) sc_law_twist_right.nd rfl (Or.inl rfl) (re_kw (ks := ["rain"]) (ok_borne T) (hr.mono (by decide)) rfl T.g_borne T.F_borne.kp T.kb_borne (takes_of rfl rfl rfl rfl) (ra_cons (re_fn (ok_law_made T) (hr.mono (by decide)) rfl T.g_law_made T.F_law_made.kp T.b_law_made .nil rfl (takes_of rfl rfl rfl rfl) (ra_cons (rv 1) ra_nil) rfl) (ra_cons (rv 2) ra_nil)) (rk_one (rv 3)) rfl rfl rfl)) (rss_cons (rs_set (i := 9) sc_law_twist_right.nd rfl (Or.inr rfl) (re_kw (ks := ["rain"]) (ok_borne T) (hr.mono (by decide)) rfl T.g_borne T.F_borne.kp T.kb_borne (takes_of rfl rfl rfl rfl) (ra_cons (rv 6) (ra_cons (rv 7) ra_nil)) (rk_one (rv 3)) rfl rfl rfl)) (rss_cons (rs_set (i := 10) sc_law_twist_right.nd rfl (Or.inl rfl) (re_lstO ra_nil)) (rss_cons (rs_for (passes_of rfl) rfl (ri_range1 (by rfl) T.n_range (ra_cons (re_callB (call_lenU rfl) ref_len (by rfl) T.n_len PyProof.Rows.Boot.«len» (ra_cons (rv 5) ra_nil)) ra_nil)) (rg_name (i := 11) sc_law_twist_right.nd rfl (Or.inl rfl)) (rss_cons (rs_set (i := 12) sc_law_twist_right.nd rfl (Or.inl rfl) (re_and (re_cmp (op_tr (.inr rfl) (rcE rfl (eqf_Share T) 3).2 (hr.mono (by decide))) ref_tr (re_ix rfl (rv 4) (rv 11)) (rv 11) (nomark _)) (re_one (re_cmp (op_tr (.inl rfl) (rcE rfl (eqf_Share T) 3).1 (hr.mono (by decide))) ref_tr (re_ix rfl (rv 2) (rv 11)) (re_ix rfl (rv 2) (re_ix rfl (rv 4) (rv 11))) (nomark _))))) (rss_one (rs_if (rt_w (rw_and (rt_val (rv 12)) (rw_and1 (rt_cmp op_gt ref_gt (re_lset rfl rfl (by rfl) T.n_len (by rfl) T.n_set (re_ix rfl (re_ix rfl (rv 1) re_int) (re_ix rfl (re_ix rfl (rv 5) (rv 11)) re_int))) re_int (nomark _))))) (rss_one (rs_expr (re_met rfl PySem.F.plainAttrs_list PySem.F.slot_list_append PySem.F.type_list_append mt_append refm_append (rv 10) (ra_cons (rv 11) ra_nil)))) rss_nil)))) (rss_ice 10 (rss_cons (rs_if (rt_cmp (op_tr (.inl rfl) (rcE rfl (eqf_Share T) 3).1 (hr.mono (by decide))) ref_tr (rv 10) (re_lst ra_nil) (nomark _)) (rss_cons (rs_set (i := 13) sc_law_twist_right.nd rfl (Or.inr rfl) (re_kw (ks := ["rain"]) (ok_step T) (hr.mono (by decide)) rfl T.g_step T.F_step.kp T.kb_step (takes_of rfl rfl rfl rfl) (ra_cons (rv 6) (ra_cons (rv 7) ra_nil)) (rk_one (rv 3)) rfl rfl rfl)) (rss_cons (rs_set (i := 14) sc_law_twist_right.nd rfl (Or.inl rfl) (re_callTy (call_tupleU rfl) ref_tuple (by rfl) T.n_tuple PyProof.Rows.Boot.«tuple» (ra_cons (re_lc (own := [("at", 16)]) rfl sc_law_twist_right.nd (ri_seq rfl (rv 4)) (blkOk_by (own := [("at", 16)]) (N := N_law_twist_right) (sc := defScope s_law_twist_right) (by decide +kernel)) (fun _ _ _ _ _ => (rg_name (i := 16) sc_law_twist_right.nd rfl (Or.inl rfl))) (fun _ _ _ _ _ => rts_nil) (fun _ _ _ _ _ => (re_ix rfl (rv 13) (rv 16)))) ra_nil))) (rss_cons (rs_if (rt_cmp (op_tr (.inr rfl) (rcE rfl (eqf_Share T) 3).2 (hr.mono (by decide))) ref_tr (rv 14) (re_kw (ks := ["rain"]) (ok_step T) (hr.mono (by decide)) rfl T.g_step T.F_step.kp T.kb_step (takes_of rfl rfl rfl rfl) (ra_cons (re_fn (ok_law_made T) (hr.mono (by decide)) rfl T.g_law_made T.F_law_made.kp T.b_law_made .nil rfl (takes_of rfl rfl rfl rfl) (ra_cons (rv 1) ra_nil) rfl) (ra_cons (rv 2) ra_nil)) (rk_one (rv 3)) rfl rfl rfl) (nomark _)) (rss_one (rs_ret re_bl)) rss_nil) (rss_one (rs_ret (re_cmp (op_tr (.inl rfl) (rcE rfl (eqf_Share T) 3).1 (hr.mono (by decide))) ref_tr (re_lc (own := [("at", 16)]) rfl sc_law_twist_right.nd (ri_seq rfl (rv 4)) (blkOk_by (own := [("at", 16)]) (N := N_law_twist_right) (sc := defScope s_law_twist_right) (by decide +kernel)) (fun _ _ _ _ _ => (rg_name (i := 16) sc_law_twist_right.nd rfl (Or.inl rfl))) (fun _ _ _ _ _ => rts_nil) (fun _ _ _ _ _ => (re_ix rfl (rv 9) (rv 16)))) (rv 8) (nomark _))))))) rss_nil) (rss_cons (rs_set (i := 15) sc_law_twist_right.nd rfl (Or.inr rfl) (re_ix rfl (re_ix rfl (rv 5) (re_ix rfl (rv 10) re_int)) re_int)) (rss_cons (rs_for (passes_of rfl) rfl (ri_seq rfl (re_lc (own := [("bed", 11)]) rfl sc_law_twist_right.nd (ri_seq rfl (rv 10)) (blkOk_by (own := [("bed", 11)]) (N := N_law_twist_right) (sc := defScope s_law_twist_right) (by decide +kernel)) (fun _ _ _ _ _ => (rg_name (i := 11) sc_law_twist_right.nd rfl (Or.inl rfl))) (fun _ _ _ _ _ => (rts_one (rt_cmp (op_tr (.inl rfl) (rcE rfl (eqf_Share T) 3).1 (hr.mono (by decide))) ref_tr (re_ix rfl (re_ix rfl (rv 5) (rv 11)) re_int) (rv 15) (nomark _)))) (fun _ _ _ _ _ => (rv 11)))) (rg_name (i := 11) sc_law_twist_right.nd rfl (Or.inl rfl)) (rss_one (rs_if (rt_cmp (op_tr (.inr rfl) (rcE rfl (eqf_Share T) 3).2 (hr.mono (by decide))) ref_tr (re_ix rfl (rv 9) (rv 11)) (re_ix rfl (rv 8) (rv 11)) (nomark _)) (rss_one (rs_ret re_bl)) rss_nil))) (rss_one (rs_ret re_bl)))))))))))))))
theorem ok_law (T : Facts K mg) : FnOk P w K mg base (L2.CX P w) 11 T.f_law T.d_law ["script"] (spM (cfg T) 1 m_law) :=
  ok_fn (k := 10) T.F_law sc_law rfl b_law (fun cdv A outer s H E hr => (rss_cons (rs_for (passes_of rfl) rfl (ri_range1 (by rfl) T.n_range (ra_cons (re_callB (call_max2 rfl) ref_max (by rfl) T.n_max PyProof.Rows.Boot.«max» (ra_cons re_int (ra_cons (re_callB (call_min2 rfl) ref_min (by rfl) T.n_min PyProof.Rows.Boot.«min» (ra_cons re_int (ra_cons (re_callB (call_lenU rfl) ref_len (by rfl) T.n_len PyProof.Rows.Boot.«len» (ra_cons (rv 0) ra_nil)) ra_nil))) ra_nil))) ra_nil)) (rg_name (i := 1) sc_law.nd rfl (Or.inl rfl)) (rss_cons (rs_set (i := 2) sc_law.nd rfl (Or.inl rfl) (re_fn (ok_law_source T) (hr.mono (by decide)) rfl T.g_law_source T.F_law_source.kp T.b_law_source .nil rfl (takes_of rfl rfl rfl rfl) (ra_cons (rv 0) (ra_cons (rv 1) ra_nil)) rfl)) (rss_cons (rs_set (i := 3) sc_law.nd rfl (Or.inl rfl) (re_fn (ok_law_world T) (hr.mono (by decide)) rfl T.g_law_world T.F_law_world.kp T.b_law_world .nil rfl (takes_of rfl rfl rfl rfl) (ra_cons (rv 2) (ra_cons re_int ra_nil)) rfl)) (rss_cons (rs_set (i := 4) sc_law.nd rfl (Or.inl rfl) (re_fn (ok_law_made T) (hr.mono (by decide)) rfl T.g_law_made T.F_law_made.kp T.b_law_made .nil rfl (takes_of rfl rfl rfl rfl) (ra_cons (rv 3) ra_nil) rfl)) (rss_one (rs_for (passes_of rfl) rfl (ri_range1 (by rfl) T.n_range (ra_cons re_int ra_nil)) (rg_name (i := 5) sc_law.nd rfl (Or.inl rfl)) (rss_cons (rs_par (i := 6) (j := 7) rfl sc_law.nd rfl rfl (by decide) rfl rfl (ra_cons (re_fn (ok_law_depths T) (hr.mono (by decide)) rfl T.g_law_depths T.F_law_depths.kp T.b_law_depths .nil rfl (takes_of rfl rfl rfl rfl) (ra_cons (rv 2) (ra_cons (rv 3) ra_nil)) rfl) (ra_cons (re_fn (ok_law_shares T) (hr.mono (by decide)) rfl T.g_law_shares T.F_law_shares.kp T.b_law_shares .nil rfl (takes_of rfl rfl rfl rfl) (ra_cons (re_fn (ok_law_falls T) (hr.mono (by decide)) rfl T.g_law_falls T.F_law_falls.kp T.b_law_falls .nil rfl (takes_of rfl rfl rfl rfl) (ra_cons (rv 2) (ra_cons (rv 3) ra_nil)) rfl) ra_nil) rfl) ra_nil)) (by rfl)) (rss_cons (rs_set (i := 8) sc_law.nd rfl (Or.inl rfl) (re_fn (ok_law_same_order T) (hr.mono (by decide)) rfl T.g_law_same_order T.F_law_same_order.kp T.b_law_same_order .nil rfl (takes_of rfl rfl rfl rfl) (ra_cons (rv 2) (ra_cons (rv 3) (ra_cons (rv 6) ra_nil))) rfl)) (rss_cons (rs_if (rt_cmp (op_tr (.inr rfl) (rcE rfl (eqf_Share T) 3).2 (hr.mono (by decide))) ref_tr (re_kw (ks := ["rain"]) (ok_borne T) (hr.mono (by decide)) rfl T.g_borne T.F_borne.kp T.kb_borne (takes_of rfl rfl rfl rfl) (ra_cons (rv 4) (ra_cons (rv 8) ra_nil)) (rk_one (rv 7)) rfl rfl rfl) (re_kw (ks := ["rain"]) (ok_borne T) (hr.mono (by decide)) rfl T.g_borne T.F_borne.kp T.kb_borne (takes_of rfl rfl rfl rfl) (ra_cons (rv 4) (ra_cons (rv 6) ra_nil)) (rk_one (rv 7)) rfl rfl rfl) (nomark _)) (rss_one (rs_ret re_bl)) rss_nil) (rss_cons (rs_set (i := 9) sc_law.nd rfl (Or.inl rfl) (re_fn (ok_law_steps_of T) (hr.mono (by decide)) rfl T.g_law_steps_of T.F_law_steps_of.kp T.b_law_steps_of .nil rfl (takes_of rfl rfl rfl rfl) (ra_cons (rv 6) (ra_cons (re_kw (ks := ["rain"]) (ok_step T) (hr.mono (by decide)) rfl T.g_step T.F_step.kp T.kb_step (takes_of rfl rfl rfl rfl) (ra_cons (rv 4) (ra_cons (rv 6) ra_nil)) (rk_one (rv 7)) rfl rfl rfl) ra_nil)) rfl)) (rss_cons (rs_if (rt_cmp (op_tr (.inr rfl) (rcE rfl (eqf_Share T) 3).2 (hr.mono (by decide))) ref_tr (re_fn (ok_law_steps_of T) (hr.mono (by decide)) rfl T.g_law_steps_of T.F_law_steps_of.kp T.b_law_steps_of .nil rfl (takes_of rfl rfl rfl rfl) (ra_cons (rv 8) (ra_cons (re_kw (ks := ["rain"]) (ok_step T) (hr.mono (by decide)) rfl T.g_step T.F_step.kp T.kb_step (takes_of rfl rfl rfl rfl) (ra_cons (rv 4) (ra_cons (rv 8) ra_nil)) (rk_one (rv 7)) rfl rfl rfl) ra_nil)) rfl) (rv 9) (nomark _)) (rss_one (rs_ret re_bl)) rss_nil) (rss_cons (rs_if (rt_cmp (op_tr (.inr rfl) (rcE rfl (eqf_Share T) 3).2 (hr.mono (by decide))) ref_tr (re_lc (own := [("one", 10)]) rfl sc_law.nd (ri_seq rfl (rv 9)) (blkOk_by (own := [("one", 10)]) (N := N_law) (sc := defScope s_law) (by decide +kernel)) (fun _ _ _ _ _ => (rg_name (i := 10) sc_law.nd rfl (Or.inl rfl))) (fun _ _ _ _ _ => (rts_one (rt_cmp (op_notInI rfl) ref_notInI (rv 10) (re_tup (ra_cons (re_neg re_int) (ra_cons re_int (ra_cons re_int ra_nil)))) rfl))) (fun _ _ _ _ _ => (rv 10))) (re_lst ra_nil) (nomark _)) (rss_one (rs_ret re_bl)) rss_nil) (rss_one (rs_if (rt_not (rt_val (re_fn (ok_law_twist_right T) (hr.mono (by decide)) rfl T.g_law_twist_right T.F_law_twist_right.kp T.b_law_twist_right .nil rfl (takes_of rfl rfl rfl rfl) (ra_cons (rv 2) (ra_cons (rv 3) (ra_cons (rv 6) (ra_cons (rv 7) ra_nil)))) rfl))) (rss_one (rs_ret re_bl)) rss_nil)))))))))))))) (rss_one (rs_ret re_bl))))
end
set_option maxHeartbeats 0 in
theorem facts_mk {K : PySem.W.Frag} {h : Heap} {mg : Str → Option Value} (X : K.In h) (G : h.Ns mainGlobals mg)
    {c_Share c_Web f_is_whole f_is_between f_common_of f_Share_init f_Share_eq f_plus f_times f_less f_is_bed f_are_beds f_are_parts f_Web_init f_Web_eq f_beds_from f_share_by_rank f_move_of f_are_depths f_check_depths f_check_rain f_ranked f_flow f_moved f_borne f_step f_law_cell_at f_law_mixed f_law_source f_law_next f_law_pick f_law_lowered f_law_sum f_law_product f_law_mark f_law_beds_of f_law_world f_law_made f_law_depths f_law_falls f_law_shares f_law_same_order f_law_twisted f_law_steps_of f_law_twist_right f_law : Addr}
    {oc_is_whole kV_is_whole dc_is_whole pm_is_whole cd_is_whole ct_is_whole : Value} {od_is_whole an_is_whole : Option Addr} {sl_is_whole : Array (Option Value)}
    {oc_is_between kV_is_between dc_is_between pm_is_between cd_is_between ct_is_between : Value} {od_is_between an_is_between : Option Addr} {sl_is_between : Array (Option Value)}
    {oc_common_of kV_common_of dc_common_of pm_common_of cd_common_of ct_common_of : Value} {od_common_of an_common_of : Option Addr} {sl_common_of : Array (Option Value)}
    {oc_Share_init kV_Share_init dc_Share_init pm_Share_init cd_Share_init ct_Share_init : Value} {od_Share_init an_Share_init : Option Addr} {sl_Share_init : Array (Option Value)}
    {T_Share_init : Addr} {o_Share_init : Obj} {n_Share_init : Nat} {t0_Share_init : Tok}
    {oc_Share_eq kV_Share_eq dc_Share_eq pm_Share_eq cd_Share_eq ct_Share_eq : Value} {od_Share_eq an_Share_eq : Option Addr} {sl_Share_eq : Array (Option Value)}
    {oc_plus kV_plus dc_plus pm_plus cd_plus ct_plus : Value} {od_plus an_plus : Option Addr} {sl_plus : Array (Option Value)}
    {oc_times kV_times dc_times pm_times cd_times ct_times : Value} {od_times an_times : Option Addr} {sl_times : Array (Option Value)}
    {oc_less kV_less dc_less pm_less cd_less ct_less : Value} {od_less an_less : Option Addr} {sl_less : Array (Option Value)}
    {oc_is_bed kV_is_bed dc_is_bed pm_is_bed cd_is_bed ct_is_bed : Value} {od_is_bed an_is_bed : Option Addr} {sl_is_bed : Array (Option Value)}
    {oc_are_beds kV_are_beds dc_are_beds pm_are_beds cd_are_beds ct_are_beds : Value} {od_are_beds an_are_beds : Option Addr} {sl_are_beds : Array (Option Value)}
    {oc_are_parts kV_are_parts dc_are_parts pm_are_parts cd_are_parts ct_are_parts : Value} {od_are_parts an_are_parts : Option Addr} {sl_are_parts : Array (Option Value)}
    {oc_Web_init kV_Web_init dc_Web_init pm_Web_init cd_Web_init ct_Web_init : Value} {od_Web_init an_Web_init : Option Addr} {sl_Web_init : Array (Option Value)}
    {oc_Web_eq kV_Web_eq dc_Web_eq pm_Web_eq cd_Web_eq ct_Web_eq : Value} {od_Web_eq an_Web_eq : Option Addr} {sl_Web_eq : Array (Option Value)}
    {oc_beds_from kV_beds_from dc_beds_from pm_beds_from cd_beds_from ct_beds_from : Value} {od_beds_from an_beds_from : Option Addr} {sl_beds_from : Array (Option Value)}
    {oc_share_by_rank kV_share_by_rank dc_share_by_rank pm_share_by_rank cd_share_by_rank ct_share_by_rank : Value} {od_share_by_rank an_share_by_rank : Option Addr} {sl_share_by_rank : Array (Option Value)}
    {oc_move_of kV_move_of dc_move_of pm_move_of cd_move_of ct_move_of : Value} {od_move_of an_move_of : Option Addr} {sl_move_of : Array (Option Value)}
    {oc_are_depths kV_are_depths dc_are_depths pm_are_depths cd_are_depths ct_are_depths : Value} {od_are_depths an_are_depths : Option Addr} {sl_are_depths : Array (Option Value)}
    {oc_check_depths kV_check_depths dc_check_depths pm_check_depths cd_check_depths ct_check_depths : Value} {od_check_depths an_check_depths : Option Addr} {sl_check_depths : Array (Option Value)}
    {oc_check_rain kV_check_rain dc_check_rain pm_check_rain cd_check_rain ct_check_rain : Value} {od_check_rain an_check_rain : Option Addr} {sl_check_rain : Array (Option Value)}
    {oc_ranked kV_ranked dc_ranked pm_ranked cd_ranked ct_ranked : Value} {od_ranked an_ranked : Option Addr} {sl_ranked : Array (Option Value)}
    {oc_flow kV_flow dc_flow pm_flow cd_flow ct_flow : Value} {od_flow an_flow : Option Addr} {sl_flow : Array (Option Value)}
    {oc_moved kV_moved dc_moved pm_moved cd_moved ct_moved : Value} {od_moved an_moved : Option Addr} {sl_moved : Array (Option Value)}
    {oc_borne kV_borne dc_borne pm_borne cd_borne ct_borne : Value} {od_borne an_borne : Option Addr} {sl_borne : Array (Option Value)}
    {oc_step kV_step dc_step pm_step cd_step ct_step : Value} {od_step an_step : Option Addr} {sl_step : Array (Option Value)}
    {oc_law_cell_at kV_law_cell_at dc_law_cell_at pm_law_cell_at cd_law_cell_at ct_law_cell_at : Value} {od_law_cell_at an_law_cell_at : Option Addr} {sl_law_cell_at : Array (Option Value)}
    {oc_law_mixed kV_law_mixed dc_law_mixed pm_law_mixed cd_law_mixed ct_law_mixed : Value} {od_law_mixed an_law_mixed : Option Addr} {sl_law_mixed : Array (Option Value)}
    {oc_law_source kV_law_source dc_law_source pm_law_source cd_law_source ct_law_source : Value} {od_law_source an_law_source : Option Addr} {sl_law_source : Array (Option Value)}
    {oc_law_next kV_law_next dc_law_next pm_law_next cd_law_next ct_law_next : Value} {od_law_next an_law_next : Option Addr} {sl_law_next : Array (Option Value)}
    {oc_law_pick kV_law_pick dc_law_pick pm_law_pick cd_law_pick ct_law_pick : Value} {od_law_pick an_law_pick : Option Addr} {sl_law_pick : Array (Option Value)}
    {oc_law_lowered kV_law_lowered dc_law_lowered pm_law_lowered cd_law_lowered ct_law_lowered : Value} {od_law_lowered an_law_lowered : Option Addr} {sl_law_lowered : Array (Option Value)}
    {oc_law_sum kV_law_sum dc_law_sum pm_law_sum cd_law_sum ct_law_sum : Value} {od_law_sum an_law_sum : Option Addr} {sl_law_sum : Array (Option Value)}
    {oc_law_product kV_law_product dc_law_product pm_law_product cd_law_product ct_law_product : Value} {od_law_product an_law_product : Option Addr} {sl_law_product : Array (Option Value)}
    {oc_law_mark kV_law_mark dc_law_mark pm_law_mark cd_law_mark ct_law_mark : Value} {od_law_mark an_law_mark : Option Addr} {sl_law_mark : Array (Option Value)}
    {oc_law_beds_of kV_law_beds_of dc_law_beds_of pm_law_beds_of cd_law_beds_of ct_law_beds_of : Value} {od_law_beds_of an_law_beds_of : Option Addr} {sl_law_beds_of : Array (Option Value)}
    {oc_law_world kV_law_world dc_law_world pm_law_world cd_law_world ct_law_world : Value} {od_law_world an_law_world : Option Addr} {sl_law_world : Array (Option Value)}
    {oc_law_made kV_law_made dc_law_made pm_law_made cd_law_made ct_law_made : Value} {od_law_made an_law_made : Option Addr} {sl_law_made : Array (Option Value)}
    {oc_law_depths kV_law_depths dc_law_depths pm_law_depths cd_law_depths ct_law_depths : Value} {od_law_depths an_law_depths : Option Addr} {sl_law_depths : Array (Option Value)}
    {oc_law_falls kV_law_falls dc_law_falls pm_law_falls cd_law_falls ct_law_falls : Value} {od_law_falls an_law_falls : Option Addr} {sl_law_falls : Array (Option Value)}
    {oc_law_shares kV_law_shares dc_law_shares pm_law_shares cd_law_shares ct_law_shares : Value} {od_law_shares an_law_shares : Option Addr} {sl_law_shares : Array (Option Value)}
    {oc_law_same_order kV_law_same_order dc_law_same_order pm_law_same_order cd_law_same_order ct_law_same_order : Value} {od_law_same_order an_law_same_order : Option Addr} {sl_law_same_order : Array (Option Value)}
    {oc_law_twisted kV_law_twisted dc_law_twisted pm_law_twisted cd_law_twisted ct_law_twisted : Value} {od_law_twisted an_law_twisted : Option Addr} {sl_law_twisted : Array (Option Value)}
    {oc_law_steps_of kV_law_steps_of dc_law_steps_of pm_law_steps_of cd_law_steps_of ct_law_steps_of : Value} {od_law_steps_of an_law_steps_of : Option Addr} {sl_law_steps_of : Array (Option Value)}
    {oc_law_twist_right kV_law_twist_right dc_law_twist_right pm_law_twist_right cd_law_twist_right ct_law_twist_right : Value} {od_law_twist_right an_law_twist_right : Option Addr} {sl_law_twist_right : Array (Option Value)}
    {oc_law kV_law dc_law pm_law cd_law ct_law : Value} {od_law an_law : Option Addr} {sl_law : Array (Option Value)}
    {tk_MOST_BEDS : Tok}
    {tk_MOST_PART : Tok}
    {tk_MOST_PLACES : Tok}
    (ac_Share : PySem.W.nsIn K mainGlobals "Share" = some (some (.ref c_Share)))
    (ac_Web : PySem.W.nsIn K mainGlobals "Web" = some (some (.ref c_Web)))
    (a_is_whole : PySem.W.nsIn K mainGlobals "is_whole" = some (some (.ref f_is_whole)))
    (l_is_whole : K.lookup f_is_whole = some ⟨oc_is_whole, od_is_whole, .func (PySem.W.fnOf "is_whole" "is_whole" (defArgs s_is_whole) (defBody s_is_whole) (defScope s_is_whole) .none kV_is_whole dc_is_whole pm_is_whole an_is_whole cd_is_whole ct_is_whole), sl_is_whole⟩)
    (e_is_whole : PySem.W.codeIn K cd_is_whole "is_whole" = true)
    (k_is_whole : PySem.W.keepIn K (.ref f_is_whole) = true)
    (a_is_between : PySem.W.nsIn K mainGlobals "is_between" = some (some (.ref f_is_between)))
    (l_is_between : K.lookup f_is_between = some ⟨oc_is_between, od_is_between, .func (PySem.W.fnOf "is_between" "is_between" (defArgs s_is_between) (defBody s_is_between) (defScope s_is_between) .none kV_is_between dc_is_between pm_is_between an_is_between cd_is_between ct_is_between), sl_is_between⟩)
    (e_is_between : PySem.W.codeIn K cd_is_between "is_between" = true)
    (k_is_between : PySem.W.keepIn K (.ref f_is_between) = true)
    (a_common_of : PySem.W.nsIn K mainGlobals "common_of" = some (some (.ref f_common_of)))
    (l_common_of : K.lookup f_common_of = some ⟨oc_common_of, od_common_of, .func (PySem.W.fnOf "common_of" "common_of" (defArgs s_common_of) (defBody s_common_of) (defScope s_common_of) .none kV_common_of dc_common_of pm_common_of an_common_of cd_common_of ct_common_of), sl_common_of⟩)
    (e_common_of : PySem.W.codeIn K cd_common_of "common_of" = true)
    (k_common_of : PySem.W.keepIn K (.ref f_common_of) = true)
    (a_Share_init : PySem.W.findIn K (.ref c_Share) "__init__" = some (some (.ref f_Share_init)))
    (i_Share_init : PySem.W.isFn K (.ref f_Share_init) = true)
    (l_Share_init : K.lookup f_Share_init = some ⟨oc_Share_init, od_Share_init, .func (PySem.W.fnOf "__init__" "Share.__init__" (defArgs s_Share_init) (defBody s_Share_init) (defScope s_Share_init) (.ref T_Share_init) kV_Share_init dc_Share_init pm_Share_init an_Share_init cd_Share_init ct_Share_init), sl_Share_init⟩)
    (to_Share_init : K.lookup T_Share_init = some o_Share_init)
    (td_Share_init : o_Share_init.data = .seq (#[.int 1 t0_Share_init] : Array Value) n_Share_init)
    (e_Share_init : PySem.W.codeIn K cd_Share_init "Share.__init__" = true)
    (k_Share_init : PySem.W.keepIn K (.ref f_Share_init) = true)
    (a_Share_eq : PySem.W.findIn K (.ref c_Share) "__eq__" = some (some (.ref f_Share_eq)))
    (i_Share_eq : PySem.W.isFn K (.ref f_Share_eq) = true)
    (l_Share_eq : K.lookup f_Share_eq = some ⟨oc_Share_eq, od_Share_eq, .func (PySem.W.fnOf "__eq__" "Share.__eq__" (defArgs s_Share_eq) (defBody s_Share_eq) (defScope s_Share_eq) .none kV_Share_eq dc_Share_eq pm_Share_eq an_Share_eq cd_Share_eq ct_Share_eq), sl_Share_eq⟩)
    (e_Share_eq : PySem.W.codeIn K cd_Share_eq "Share.__eq__" = true)
    (k_Share_eq : PySem.W.keepIn K (.ref f_Share_eq) = true)
    (a_plus : PySem.W.nsIn K mainGlobals "plus" = some (some (.ref f_plus)))
    (l_plus : K.lookup f_plus = some ⟨oc_plus, od_plus, .func (PySem.W.fnOf "plus" "plus" (defArgs s_plus) (defBody s_plus) (defScope s_plus) .none kV_plus dc_plus pm_plus an_plus cd_plus ct_plus), sl_plus⟩)
    (e_plus : PySem.W.codeIn K cd_plus "plus" = true)
    (k_plus : PySem.W.keepIn K (.ref f_plus) = true)
    (a_times : PySem.W.nsIn K mainGlobals "times" = some (some (.ref f_times)))
    (l_times : K.lookup f_times = some ⟨oc_times, od_times, .func (PySem.W.fnOf "times" "times" (defArgs s_times) (defBody s_times) (defScope s_times) .none kV_times dc_times pm_times an_times cd_times ct_times), sl_times⟩)
    (e_times : PySem.W.codeIn K cd_times "times" = true)
    (k_times : PySem.W.keepIn K (.ref f_times) = true)
    (a_less : PySem.W.nsIn K mainGlobals "less" = some (some (.ref f_less)))
    (l_less : K.lookup f_less = some ⟨oc_less, od_less, .func (PySem.W.fnOf "less" "less" (defArgs s_less) (defBody s_less) (defScope s_less) .none kV_less dc_less pm_less an_less cd_less ct_less), sl_less⟩)
    (e_less : PySem.W.codeIn K cd_less "less" = true)
    (k_less : PySem.W.keepIn K (.ref f_less) = true)
    (a_is_bed : PySem.W.nsIn K mainGlobals "is_bed" = some (some (.ref f_is_bed)))
    (l_is_bed : K.lookup f_is_bed = some ⟨oc_is_bed, od_is_bed, .func (PySem.W.fnOf "is_bed" "is_bed" (defArgs s_is_bed) (defBody s_is_bed) (defScope s_is_bed) .none kV_is_bed dc_is_bed pm_is_bed an_is_bed cd_is_bed ct_is_bed), sl_is_bed⟩)
    (e_is_bed : PySem.W.codeIn K cd_is_bed "is_bed" = true)
    (k_is_bed : PySem.W.keepIn K (.ref f_is_bed) = true)
    (a_are_beds : PySem.W.nsIn K mainGlobals "are_beds" = some (some (.ref f_are_beds)))
    (l_are_beds : K.lookup f_are_beds = some ⟨oc_are_beds, od_are_beds, .func (PySem.W.fnOf "are_beds" "are_beds" (defArgs s_are_beds) (defBody s_are_beds) (defScope s_are_beds) .none kV_are_beds dc_are_beds pm_are_beds an_are_beds cd_are_beds ct_are_beds), sl_are_beds⟩)
    (e_are_beds : PySem.W.codeIn K cd_are_beds "are_beds" = true)
    (k_are_beds : PySem.W.keepIn K (.ref f_are_beds) = true)
    (a_are_parts : PySem.W.nsIn K mainGlobals "are_parts" = some (some (.ref f_are_parts)))
    (l_are_parts : K.lookup f_are_parts = some ⟨oc_are_parts, od_are_parts, .func (PySem.W.fnOf "are_parts" "are_parts" (defArgs s_are_parts) (defBody s_are_parts) (defScope s_are_parts) .none kV_are_parts dc_are_parts pm_are_parts an_are_parts cd_are_parts ct_are_parts), sl_are_parts⟩)
    (e_are_parts : PySem.W.codeIn K cd_are_parts "are_parts" = true)
    (k_are_parts : PySem.W.keepIn K (.ref f_are_parts) = true)
    (a_Web_init : PySem.W.findIn K (.ref c_Web) "__init__" = some (some (.ref f_Web_init)))
    (i_Web_init : PySem.W.isFn K (.ref f_Web_init) = true)
    (l_Web_init : K.lookup f_Web_init = some ⟨oc_Web_init, od_Web_init, .func (PySem.W.fnOf "__init__" "Web.__init__" (defArgs s_Web_init) (defBody s_Web_init) (defScope s_Web_init) .none kV_Web_init dc_Web_init pm_Web_init an_Web_init cd_Web_init ct_Web_init), sl_Web_init⟩)
    (e_Web_init : PySem.W.codeIn K cd_Web_init "Web.__init__" = true)
    (k_Web_init : PySem.W.keepIn K (.ref f_Web_init) = true)
    (a_Web_eq : PySem.W.findIn K (.ref c_Web) "__eq__" = some (some (.ref f_Web_eq)))
    (i_Web_eq : PySem.W.isFn K (.ref f_Web_eq) = true)
    (l_Web_eq : K.lookup f_Web_eq = some ⟨oc_Web_eq, od_Web_eq, .func (PySem.W.fnOf "__eq__" "Web.__eq__" (defArgs s_Web_eq) (defBody s_Web_eq) (defScope s_Web_eq) .none kV_Web_eq dc_Web_eq pm_Web_eq an_Web_eq cd_Web_eq ct_Web_eq), sl_Web_eq⟩)
    (e_Web_eq : PySem.W.codeIn K cd_Web_eq "Web.__eq__" = true)
    (k_Web_eq : PySem.W.keepIn K (.ref f_Web_eq) = true)
    (a_beds_from : PySem.W.nsIn K mainGlobals "beds_from" = some (some (.ref f_beds_from)))
    (l_beds_from : K.lookup f_beds_from = some ⟨oc_beds_from, od_beds_from, .func (PySem.W.fnOf "beds_from" "beds_from" (defArgs s_beds_from) (defBody s_beds_from) (defScope s_beds_from) .none kV_beds_from dc_beds_from pm_beds_from an_beds_from cd_beds_from ct_beds_from), sl_beds_from⟩)
    (e_beds_from : PySem.W.codeIn K cd_beds_from "beds_from" = true)
    (k_beds_from : PySem.W.keepIn K (.ref f_beds_from) = true)
    (a_share_by_rank : PySem.W.nsIn K mainGlobals "share_by_rank" = some (some (.ref f_share_by_rank)))
    (l_share_by_rank : K.lookup f_share_by_rank = some ⟨oc_share_by_rank, od_share_by_rank, .func (PySem.W.fnOf "share_by_rank" "share_by_rank" (defArgs s_share_by_rank) (defBody s_share_by_rank) (defScope s_share_by_rank) .none kV_share_by_rank dc_share_by_rank pm_share_by_rank an_share_by_rank cd_share_by_rank ct_share_by_rank), sl_share_by_rank⟩)
    (e_share_by_rank : PySem.W.codeIn K cd_share_by_rank "share_by_rank" = true)
    (k_share_by_rank : PySem.W.keepIn K (.ref f_share_by_rank) = true)
    (a_move_of : PySem.W.nsIn K mainGlobals "move_of" = some (some (.ref f_move_of)))
    (l_move_of : K.lookup f_move_of = some ⟨oc_move_of, od_move_of, .func (PySem.W.fnOf "move_of" "move_of" (defArgs s_move_of) (defBody s_move_of) (defScope s_move_of) .none kV_move_of dc_move_of pm_move_of an_move_of cd_move_of ct_move_of), sl_move_of⟩)
    (e_move_of : PySem.W.codeIn K cd_move_of "move_of" = true)
    (k_move_of : PySem.W.keepIn K (.ref f_move_of) = true)
    (a_are_depths : PySem.W.nsIn K mainGlobals "are_depths" = some (some (.ref f_are_depths)))
    (l_are_depths : K.lookup f_are_depths = some ⟨oc_are_depths, od_are_depths, .func (PySem.W.fnOf "are_depths" "are_depths" (defArgs s_are_depths) (defBody s_are_depths) (defScope s_are_depths) .none kV_are_depths dc_are_depths pm_are_depths an_are_depths cd_are_depths ct_are_depths), sl_are_depths⟩)
    (e_are_depths : PySem.W.codeIn K cd_are_depths "are_depths" = true)
    (k_are_depths : PySem.W.keepIn K (.ref f_are_depths) = true)
    (a_check_depths : PySem.W.nsIn K mainGlobals "check_depths" = some (some (.ref f_check_depths)))
    (l_check_depths : K.lookup f_check_depths = some ⟨oc_check_depths, od_check_depths, .func (PySem.W.fnOf "check_depths" "check_depths" (defArgs s_check_depths) (defBody s_check_depths) (defScope s_check_depths) .none kV_check_depths dc_check_depths pm_check_depths an_check_depths cd_check_depths ct_check_depths), sl_check_depths⟩)
    (e_check_depths : PySem.W.codeIn K cd_check_depths "check_depths" = true)
    (k_check_depths : PySem.W.keepIn K (.ref f_check_depths) = true)
    (a_check_rain : PySem.W.nsIn K mainGlobals "check_rain" = some (some (.ref f_check_rain)))
    (l_check_rain : K.lookup f_check_rain = some ⟨oc_check_rain, od_check_rain, .func (PySem.W.fnOf "check_rain" "check_rain" (defArgs s_check_rain) (defBody s_check_rain) (defScope s_check_rain) .none kV_check_rain dc_check_rain pm_check_rain an_check_rain cd_check_rain ct_check_rain), sl_check_rain⟩)
    (e_check_rain : PySem.W.codeIn K cd_check_rain "check_rain" = true)
    (k_check_rain : PySem.W.keepIn K (.ref f_check_rain) = true)
    (a_ranked : PySem.W.nsIn K mainGlobals "ranked" = some (some (.ref f_ranked)))
    (l_ranked : K.lookup f_ranked = some ⟨oc_ranked, od_ranked, .func (PySem.W.fnOf "ranked" "ranked" (defArgs s_ranked) (defBody s_ranked) (defScope s_ranked) .none kV_ranked dc_ranked pm_ranked an_ranked cd_ranked ct_ranked), sl_ranked⟩)
    (e_ranked : PySem.W.codeIn K cd_ranked "ranked" = true)
    (k_ranked : PySem.W.keepIn K (.ref f_ranked) = true)
    (a_flow : PySem.W.nsIn K mainGlobals "flow" = some (some (.ref f_flow)))
    (l_flow : K.lookup f_flow = some ⟨oc_flow, od_flow, .func (PySem.W.fnOf "flow" "flow" (defArgs s_flow) (defBody s_flow) (defScope s_flow) .none kV_flow dc_flow pm_flow an_flow cd_flow ct_flow), sl_flow⟩)
    (e_flow : PySem.W.codeIn K cd_flow "flow" = true)
    (k_flow : PySem.W.keepIn K (.ref f_flow) = true)
    (a_moved : PySem.W.nsIn K mainGlobals "moved" = some (some (.ref f_moved)))
    (l_moved : K.lookup f_moved = some ⟨oc_moved, od_moved, .func (PySem.W.fnOf "moved" "moved" (defArgs s_moved) (defBody s_moved) (defScope s_moved) .none kV_moved dc_moved pm_moved an_moved cd_moved ct_moved), sl_moved⟩)
    (e_moved : PySem.W.codeIn K cd_moved "moved" = true)
    (k_moved : PySem.W.keepIn K (.ref f_moved) = true)
    (a_borne : PySem.W.nsIn K mainGlobals "borne" = some (some (.ref f_borne)))
    (l_borne : K.lookup f_borne = some ⟨oc_borne, od_borne, .func (PySem.W.fnOf "borne" "borne" (defArgs s_borne) (defBody s_borne) (defScope s_borne) .none kV_borne dc_borne pm_borne an_borne cd_borne ct_borne), sl_borne⟩)
    (e_borne : PySem.W.codeIn K cd_borne "borne" = true)
    (k_borne : PySem.W.keepIn K (.ref f_borne) = true)
    (a_step : PySem.W.nsIn K mainGlobals "step" = some (some (.ref f_step)))
    (l_step : K.lookup f_step = some ⟨oc_step, od_step, .func (PySem.W.fnOf "step" "step" (defArgs s_step) (defBody s_step) (defScope s_step) .none kV_step dc_step pm_step an_step cd_step ct_step), sl_step⟩)
    (e_step : PySem.W.codeIn K cd_step "step" = true)
    (k_step : PySem.W.keepIn K (.ref f_step) = true)
    (a_law_cell_at : PySem.W.nsIn K mainGlobals "_law_cell_at" = some (some (.ref f_law_cell_at)))
    (l_law_cell_at : K.lookup f_law_cell_at = some ⟨oc_law_cell_at, od_law_cell_at, .func (PySem.W.fnOf "_law_cell_at" "_law_cell_at" (defArgs s_law_cell_at) (defBody s_law_cell_at) (defScope s_law_cell_at) .none kV_law_cell_at dc_law_cell_at pm_law_cell_at an_law_cell_at cd_law_cell_at ct_law_cell_at), sl_law_cell_at⟩)
    (e_law_cell_at : PySem.W.codeIn K cd_law_cell_at "_law_cell_at" = true)
    (k_law_cell_at : PySem.W.keepIn K (.ref f_law_cell_at) = true)
    (a_law_mixed : PySem.W.nsIn K mainGlobals "_law_mixed" = some (some (.ref f_law_mixed)))
    (l_law_mixed : K.lookup f_law_mixed = some ⟨oc_law_mixed, od_law_mixed, .func (PySem.W.fnOf "_law_mixed" "_law_mixed" (defArgs s_law_mixed) (defBody s_law_mixed) (defScope s_law_mixed) .none kV_law_mixed dc_law_mixed pm_law_mixed an_law_mixed cd_law_mixed ct_law_mixed), sl_law_mixed⟩)
    (e_law_mixed : PySem.W.codeIn K cd_law_mixed "_law_mixed" = true)
    (k_law_mixed : PySem.W.keepIn K (.ref f_law_mixed) = true)
    (a_law_source : PySem.W.nsIn K mainGlobals "_law_source" = some (some (.ref f_law_source)))
    (l_law_source : K.lookup f_law_source = some ⟨oc_law_source, od_law_source, .func (PySem.W.fnOf "_law_source" "_law_source" (defArgs s_law_source) (defBody s_law_source) (defScope s_law_source) .none kV_law_source dc_law_source pm_law_source an_law_source cd_law_source ct_law_source), sl_law_source⟩)
    (e_law_source : PySem.W.codeIn K cd_law_source "_law_source" = true)
    (k_law_source : PySem.W.keepIn K (.ref f_law_source) = true)
    (a_law_next : PySem.W.nsIn K mainGlobals "_law_next" = some (some (.ref f_law_next)))
    (l_law_next : K.lookup f_law_next = some ⟨oc_law_next, od_law_next, .func (PySem.W.fnOf "_law_next" "_law_next" (defArgs s_law_next) (defBody s_law_next) (defScope s_law_next) .none kV_law_next dc_law_next pm_law_next an_law_next cd_law_next ct_law_next), sl_law_next⟩)
    (e_law_next : PySem.W.codeIn K cd_law_next "_law_next" = true)
    (k_law_next : PySem.W.keepIn K (.ref f_law_next) = true)
    (a_law_pick : PySem.W.nsIn K mainGlobals "_law_pick" = some (some (.ref f_law_pick)))
    (l_law_pick : K.lookup f_law_pick = some ⟨oc_law_pick, od_law_pick, .func (PySem.W.fnOf "_law_pick" "_law_pick" (defArgs s_law_pick) (defBody s_law_pick) (defScope s_law_pick) .none kV_law_pick dc_law_pick pm_law_pick an_law_pick cd_law_pick ct_law_pick), sl_law_pick⟩)
    (e_law_pick : PySem.W.codeIn K cd_law_pick "_law_pick" = true)
    (k_law_pick : PySem.W.keepIn K (.ref f_law_pick) = true)
    (a_law_lowered : PySem.W.nsIn K mainGlobals "_law_lowered" = some (some (.ref f_law_lowered)))
    (l_law_lowered : K.lookup f_law_lowered = some ⟨oc_law_lowered, od_law_lowered, .func (PySem.W.fnOf "_law_lowered" "_law_lowered" (defArgs s_law_lowered) (defBody s_law_lowered) (defScope s_law_lowered) .none kV_law_lowered dc_law_lowered pm_law_lowered an_law_lowered cd_law_lowered ct_law_lowered), sl_law_lowered⟩)
    (e_law_lowered : PySem.W.codeIn K cd_law_lowered "_law_lowered" = true)
    (k_law_lowered : PySem.W.keepIn K (.ref f_law_lowered) = true)
    (a_law_sum : PySem.W.nsIn K mainGlobals "_law_sum" = some (some (.ref f_law_sum)))
    (l_law_sum : K.lookup f_law_sum = some ⟨oc_law_sum, od_law_sum, .func (PySem.W.fnOf "_law_sum" "_law_sum" (defArgs s_law_sum) (defBody s_law_sum) (defScope s_law_sum) .none kV_law_sum dc_law_sum pm_law_sum an_law_sum cd_law_sum ct_law_sum), sl_law_sum⟩)
    (e_law_sum : PySem.W.codeIn K cd_law_sum "_law_sum" = true)
    (k_law_sum : PySem.W.keepIn K (.ref f_law_sum) = true)
    (a_law_product : PySem.W.nsIn K mainGlobals "_law_product" = some (some (.ref f_law_product)))
    (l_law_product : K.lookup f_law_product = some ⟨oc_law_product, od_law_product, .func (PySem.W.fnOf "_law_product" "_law_product" (defArgs s_law_product) (defBody s_law_product) (defScope s_law_product) .none kV_law_product dc_law_product pm_law_product an_law_product cd_law_product ct_law_product), sl_law_product⟩)
    (e_law_product : PySem.W.codeIn K cd_law_product "_law_product" = true)
    (k_law_product : PySem.W.keepIn K (.ref f_law_product) = true)
    (a_law_mark : PySem.W.nsIn K mainGlobals "_law_mark" = some (some (.ref f_law_mark)))
    (l_law_mark : K.lookup f_law_mark = some ⟨oc_law_mark, od_law_mark, .func (PySem.W.fnOf "_law_mark" "_law_mark" (defArgs s_law_mark) (defBody s_law_mark) (defScope s_law_mark) .none kV_law_mark dc_law_mark pm_law_mark an_law_mark cd_law_mark ct_law_mark), sl_law_mark⟩)
    (e_law_mark : PySem.W.codeIn K cd_law_mark "_law_mark" = true)
    (k_law_mark : PySem.W.keepIn K (.ref f_law_mark) = true)
    (a_law_beds_of : PySem.W.nsIn K mainGlobals "_law_beds_of" = some (some (.ref f_law_beds_of)))
    (l_law_beds_of : K.lookup f_law_beds_of = some ⟨oc_law_beds_of, od_law_beds_of, .func (PySem.W.fnOf "_law_beds_of" "_law_beds_of" (defArgs s_law_beds_of) (defBody s_law_beds_of) (defScope s_law_beds_of) .none kV_law_beds_of dc_law_beds_of pm_law_beds_of an_law_beds_of cd_law_beds_of ct_law_beds_of), sl_law_beds_of⟩)
    (e_law_beds_of : PySem.W.codeIn K cd_law_beds_of "_law_beds_of" = true)
    (k_law_beds_of : PySem.W.keepIn K (.ref f_law_beds_of) = true)
    (a_law_world : PySem.W.nsIn K mainGlobals "_law_world" = some (some (.ref f_law_world)))
    (l_law_world : K.lookup f_law_world = some ⟨oc_law_world, od_law_world, .func (PySem.W.fnOf "_law_world" "_law_world" (defArgs s_law_world) (defBody s_law_world) (defScope s_law_world) .none kV_law_world dc_law_world pm_law_world an_law_world cd_law_world ct_law_world), sl_law_world⟩)
    (e_law_world : PySem.W.codeIn K cd_law_world "_law_world" = true)
    (k_law_world : PySem.W.keepIn K (.ref f_law_world) = true)
    (a_law_made : PySem.W.nsIn K mainGlobals "_law_made" = some (some (.ref f_law_made)))
    (l_law_made : K.lookup f_law_made = some ⟨oc_law_made, od_law_made, .func (PySem.W.fnOf "_law_made" "_law_made" (defArgs s_law_made) (defBody s_law_made) (defScope s_law_made) .none kV_law_made dc_law_made pm_law_made an_law_made cd_law_made ct_law_made), sl_law_made⟩)
    (e_law_made : PySem.W.codeIn K cd_law_made "_law_made" = true)
    (k_law_made : PySem.W.keepIn K (.ref f_law_made) = true)
    (a_law_depths : PySem.W.nsIn K mainGlobals "_law_depths" = some (some (.ref f_law_depths)))
    (l_law_depths : K.lookup f_law_depths = some ⟨oc_law_depths, od_law_depths, .func (PySem.W.fnOf "_law_depths" "_law_depths" (defArgs s_law_depths) (defBody s_law_depths) (defScope s_law_depths) .none kV_law_depths dc_law_depths pm_law_depths an_law_depths cd_law_depths ct_law_depths), sl_law_depths⟩)
    (e_law_depths : PySem.W.codeIn K cd_law_depths "_law_depths" = true)
    (k_law_depths : PySem.W.keepIn K (.ref f_law_depths) = true)
    (a_law_falls : PySem.W.nsIn K mainGlobals "_law_falls" = some (some (.ref f_law_falls)))
    (l_law_falls : K.lookup f_law_falls = some ⟨oc_law_falls, od_law_falls, .func (PySem.W.fnOf "_law_falls" "_law_falls" (defArgs s_law_falls) (defBody s_law_falls) (defScope s_law_falls) .none kV_law_falls dc_law_falls pm_law_falls an_law_falls cd_law_falls ct_law_falls), sl_law_falls⟩)
    (e_law_falls : PySem.W.codeIn K cd_law_falls "_law_falls" = true)
    (k_law_falls : PySem.W.keepIn K (.ref f_law_falls) = true)
    (a_law_shares : PySem.W.nsIn K mainGlobals "_law_shares" = some (some (.ref f_law_shares)))
    (l_law_shares : K.lookup f_law_shares = some ⟨oc_law_shares, od_law_shares, .func (PySem.W.fnOf "_law_shares" "_law_shares" (defArgs s_law_shares) (defBody s_law_shares) (defScope s_law_shares) .none kV_law_shares dc_law_shares pm_law_shares an_law_shares cd_law_shares ct_law_shares), sl_law_shares⟩)
    (e_law_shares : PySem.W.codeIn K cd_law_shares "_law_shares" = true)
    (k_law_shares : PySem.W.keepIn K (.ref f_law_shares) = true)
    (a_law_same_order : PySem.W.nsIn K mainGlobals "_law_same_order" = some (some (.ref f_law_same_order)))
    (l_law_same_order : K.lookup f_law_same_order = some ⟨oc_law_same_order, od_law_same_order, .func (PySem.W.fnOf "_law_same_order" "_law_same_order" (defArgs s_law_same_order) (defBody s_law_same_order) (defScope s_law_same_order) .none kV_law_same_order dc_law_same_order pm_law_same_order an_law_same_order cd_law_same_order ct_law_same_order), sl_law_same_order⟩)
    (e_law_same_order : PySem.W.codeIn K cd_law_same_order "_law_same_order" = true)
    (k_law_same_order : PySem.W.keepIn K (.ref f_law_same_order) = true)
    (a_law_twisted : PySem.W.nsIn K mainGlobals "_law_twisted" = some (some (.ref f_law_twisted)))
    (l_law_twisted : K.lookup f_law_twisted = some ⟨oc_law_twisted, od_law_twisted, .func (PySem.W.fnOf "_law_twisted" "_law_twisted" (defArgs s_law_twisted) (defBody s_law_twisted) (defScope s_law_twisted) .none kV_law_twisted dc_law_twisted pm_law_twisted an_law_twisted cd_law_twisted ct_law_twisted), sl_law_twisted⟩)
    (e_law_twisted : PySem.W.codeIn K cd_law_twisted "_law_twisted" = true)
    (k_law_twisted : PySem.W.keepIn K (.ref f_law_twisted) = true)
    (a_law_steps_of : PySem.W.nsIn K mainGlobals "_law_steps_of" = some (some (.ref f_law_steps_of)))
    (l_law_steps_of : K.lookup f_law_steps_of = some ⟨oc_law_steps_of, od_law_steps_of, .func (PySem.W.fnOf "_law_steps_of" "_law_steps_of" (defArgs s_law_steps_of) (defBody s_law_steps_of) (defScope s_law_steps_of) .none kV_law_steps_of dc_law_steps_of pm_law_steps_of an_law_steps_of cd_law_steps_of ct_law_steps_of), sl_law_steps_of⟩)
    (e_law_steps_of : PySem.W.codeIn K cd_law_steps_of "_law_steps_of" = true)
    (k_law_steps_of : PySem.W.keepIn K (.ref f_law_steps_of) = true)
    (a_law_twist_right : PySem.W.nsIn K mainGlobals "_law_twist_right" = some (some (.ref f_law_twist_right)))
    (l_law_twist_right : K.lookup f_law_twist_right = some ⟨oc_law_twist_right, od_law_twist_right, .func (PySem.W.fnOf "_law_twist_right" "_law_twist_right" (defArgs s_law_twist_right) (defBody s_law_twist_right) (defScope s_law_twist_right) .none kV_law_twist_right dc_law_twist_right pm_law_twist_right an_law_twist_right cd_law_twist_right ct_law_twist_right), sl_law_twist_right⟩)
    (e_law_twist_right : PySem.W.codeIn K cd_law_twist_right "_law_twist_right" = true)
    (k_law_twist_right : PySem.W.keepIn K (.ref f_law_twist_right) = true)
    (a_law : PySem.W.nsIn K mainGlobals "law" = some (some (.ref f_law)))
    (l_law : K.lookup f_law = some ⟨oc_law, od_law, .func (PySem.W.fnOf "law" "law" (defArgs s_law) (defBody s_law) (defScope s_law) .none kV_law dc_law pm_law an_law cd_law ct_law), sl_law⟩)
    (e_law : PySem.W.codeIn K cd_law "law" = true)
    (k_law : PySem.W.keepIn K (.ref f_law) = true)
    (a_MOST_BEDS : PySem.W.nsIn K mainGlobals "MOST_BEDS" = some (some (.int 12 tk_MOST_BEDS)))
    (a_MOST_PART : PySem.W.nsIn K mainGlobals "MOST_PART" = some (some (.int 9 tk_MOST_PART)))
    (a_MOST_PLACES : PySem.W.nsIn K mainGlobals "MOST_PLACES" = some (some (.int 8 tk_MOST_PLACES)))
    (n_abs : PySem.W.nsIn K mainGlobals "abs" = some none)
    (n_all : PySem.W.nsIn K mainGlobals "all" = some none)
    (n_any : PySem.W.nsIn K mainGlobals "any" = some none)
    (n_bool : PySem.W.nsIn K mainGlobals "bool" = some none)
    (n_enumerate : PySem.W.nsIn K mainGlobals "enumerate" = some none)
    (n_int : PySem.W.nsIn K mainGlobals "int" = some none)
    (n_isinstance : PySem.W.nsIn K mainGlobals "isinstance" = some none)
    (n_len : PySem.W.nsIn K mainGlobals "len" = some none)
    (n_list : PySem.W.nsIn K mainGlobals "list" = some none)
    (n_max : PySem.W.nsIn K mainGlobals "max" = some none)
    (n_min : PySem.W.nsIn K mainGlobals "min" = some none)
    (n_range : PySem.W.nsIn K mainGlobals "range" = some none)
    (n_set : PySem.W.nsIn K mainGlobals "set" = some none)
    (n_sorted : PySem.W.nsIn K mainGlobals "sorted" = some none)
    (n_sum : PySem.W.nsIn K mainGlobals "sum" = some none)
    (n_tuple : PySem.W.nsIn K mainGlobals "tuple" = some none)
    (n_zip : PySem.W.nsIn K mainGlobals "zip" = some none)
    (mk_Share : PySem.W.makesIn K c_Share = true)
    (kc_Share : PySem.W.keepIn K (.ref c_Share) = true)
    (pg_Share : PySem.W.plainGet K c_Share Str.empty = true)
    (hd_Share : PySem.W.hasDictIn K c_Share = true)
    (po_Share : PySem.W.plainOver K c_Share = true)
    (sa_Share : PySem.W.findIn K (.ref c_Share) "__setattr__" = some (some (.builtin "object.__setattr__")))
    (at_Share : PySem.W.findIn K (.ref c_Share) "__class__" = some (some (.builtin "object.__class__")))
    (mr_Share : PySem.W.mroIn K c_Share (.type "object") = some true)
    (no_top_Share : PySem.W.findIn K (.ref c_Share) "top" = some none)
    (no_bottom_Share : PySem.W.findIn K (.ref c_Share) "bottom" = some none)
    (mk_Web : PySem.W.makesIn K c_Web = true)
    (kc_Web : PySem.W.keepIn K (.ref c_Web) = true)
    (pg_Web : PySem.W.plainGet K c_Web Str.empty = true)
    (hd_Web : PySem.W.hasDictIn K c_Web = true)
    (po_Web : PySem.W.plainOver K c_Web = true)
    (sa_Web : PySem.W.findIn K (.ref c_Web) "__setattr__" = some (some (.builtin "object.__setattr__")))
    (at_Web : PySem.W.findIn K (.ref c_Web) "__class__" = some (some (.builtin "object.__class__")))
    (mr_Web : PySem.W.mroIn K c_Web (.type "object") = some true)
    (no_many_Web : PySem.W.findIn K (.ref c_Web) "many" = some none)
    (no_beds_Web : PySem.W.findIn K (.ref c_Web) "beds" = some none)
    (no_parts_Web : PySem.W.findIn K (.ref c_Web) "parts" = some none)
    (hn : PySem.W.specialIn K (.builtin "object.__class__") "__get__" = some (some (.builtin "getset_descriptor.__get__")))
    (ht : PySem.W.takesIn K (.builtin "object.__class__") = some true)
    (ic_Share : PySem.W.isClsIn K c_Share = true)
    (ty_Share : PySem.W.typeIn K (.ref c_Share) = some (.type "type"))
    (ne_Share : PySem.W.findIn K (.ref c_Share) "__ne__" = some (some (.builtin "object.__ne__")))
    (sT_Share_NoneType : PySem.W.subIn K (.type "NoneType") (.ref c_Share) = some false)
    (sF_Share_NoneType : PySem.W.subIn K (.ref c_Share) (.type "NoneType") = some false)
    (sT_Share_bool : PySem.W.subIn K (.type "bool") (.ref c_Share) = some false)
    (sF_Share_bool : PySem.W.subIn K (.ref c_Share) (.type "bool") = some false)
    (sT_Share_int : PySem.W.subIn K (.type "int") (.ref c_Share) = some false)
    (sF_Share_int : PySem.W.subIn K (.ref c_Share) (.type "int") = some false)
    (sT_Share_str : PySem.W.subIn K (.type "str") (.ref c_Share) = some false)
    (sF_Share_str : PySem.W.subIn K (.ref c_Share) (.type "str") = some false)
    (sT_Share_tuple : PySem.W.subIn K (.type "tuple") (.ref c_Share) = some false)
    (sF_Share_tuple : PySem.W.subIn K (.ref c_Share) (.type "tuple") = some false)
    (sT_Share_list : PySem.W.subIn K (.type "list") (.ref c_Share) = some false)
    (sF_Share_list : PySem.W.subIn K (.ref c_Share) (.type "list") = some false)
    (ss_Share_Share : PySem.W.subIn K (.ref c_Share) (.ref c_Share) = some true)
    (ss_Share_Web : PySem.W.subIn K (.ref c_Share) (.ref c_Web) = some false)
    (ic_Web : PySem.W.isClsIn K c_Web = true)
    (ty_Web : PySem.W.typeIn K (.ref c_Web) = some (.type "type"))
    (ne_Web : PySem.W.findIn K (.ref c_Web) "__ne__" = some (some (.builtin "object.__ne__")))
    (sT_Web_NoneType : PySem.W.subIn K (.type "NoneType") (.ref c_Web) = some false)
    (sF_Web_NoneType : PySem.W.subIn K (.ref c_Web) (.type "NoneType") = some false)
    (sT_Web_bool : PySem.W.subIn K (.type "bool") (.ref c_Web) = some false)
    (sF_Web_bool : PySem.W.subIn K (.ref c_Web) (.type "bool") = some false)
    (sT_Web_int : PySem.W.subIn K (.type "int") (.ref c_Web) = some false)
    (sF_Web_int : PySem.W.subIn K (.ref c_Web) (.type "int") = some false)
    (sT_Web_str : PySem.W.subIn K (.type "str") (.ref c_Web) = some false)
    (sF_Web_str : PySem.W.subIn K (.ref c_Web) (.type "str") = some false)
    (sT_Web_tuple : PySem.W.subIn K (.type "tuple") (.ref c_Web) = some false)
    (sF_Web_tuple : PySem.W.subIn K (.ref c_Web) (.type "tuple") = some false)
    (sT_Web_list : PySem.W.subIn K (.type "list") (.ref c_Web) = some false)
    (sF_Web_list : PySem.W.subIn K (.ref c_Web) (.type "list") = some false)
    (ss_Web_Share : PySem.W.subIn K (.ref c_Web) (.ref c_Share) = some false)
    (ss_Web_Web : PySem.W.subIn K (.ref c_Web) (.ref c_Web) = some true) : Nonempty (Facts K mg) :=
  ⟨{ c_Share := c_Share, gc_Share := PySem.W.mg_of X G ac_Share,
     c_Web := c_Web, gc_Web := PySem.W.mg_of X G ac_Web,
     f_is_whole := f_is_whole, d_is_whole := _, F_is_whole := (⟨⟨_, _, _, _, _, _, _, _, _, _, rfl, l_is_whole, e_is_whole, .inl ⟨rfl, rfl⟩, .inl rfl⟩, k_is_whole⟩ : FunD K "is_whole" "is_whole" (defArgs s_is_whole) (defBody s_is_whole) (defScope s_is_whole) [] [] f_is_whole _), b_is_whole := FunD.bindsN (⟨⟨_, _, _, _, _, _, _, _, _, _, rfl, l_is_whole, e_is_whole, .inl ⟨rfl, rfl⟩, .inl rfl⟩, k_is_whole⟩ : FunD K "is_whole" "is_whole" (defArgs s_is_whole) (defBody s_is_whole) (defScope s_is_whole) [] [] f_is_whole _) fun _ _ _ _ _ _ us hl => match us, hl with | [_], _ => rfl, g_is_whole := PySem.W.mg_of X G a_is_whole,
     f_is_between := f_is_between, d_is_between := _, F_is_between := (⟨⟨_, _, _, _, _, _, _, _, _, _, rfl, l_is_between, e_is_between, .inl ⟨rfl, rfl⟩, .inl rfl⟩, k_is_between⟩ : FunD K "is_between" "is_between" (defArgs s_is_between) (defBody s_is_between) (defScope s_is_between) [] [] f_is_between _), b_is_between := FunD.bindsN (⟨⟨_, _, _, _, _, _, _, _, _, _, rfl, l_is_between, e_is_between, .inl ⟨rfl, rfl⟩, .inl rfl⟩, k_is_between⟩ : FunD K "is_between" "is_between" (defArgs s_is_between) (defBody s_is_between) (defScope s_is_between) [] [] f_is_between _) fun _ _ _ _ _ _ us hl => match us, hl with | [_, _, _], _ => rfl, g_is_between := PySem.W.mg_of X G a_is_between,
     f_common_of := f_common_of, d_common_of := _, F_common_of := (⟨⟨_, _, _, _, _, _, _, _, _, _, rfl, l_common_of, e_common_of, .inl ⟨rfl, rfl⟩, .inl rfl⟩, k_common_of⟩ : FunD K "common_of" "common_of" (defArgs s_common_of) (defBody s_common_of) (defScope s_common_of) [] [] f_common_of _), b_common_of := FunD.bindsN (⟨⟨_, _, _, _, _, _, _, _, _, _, rfl, l_common_of, e_common_of, .inl ⟨rfl, rfl⟩, .inl rfl⟩, k_common_of⟩ : FunD K "common_of" "common_of" (defArgs s_common_of) (defBody s_common_of) (defScope s_common_of) [] [] f_common_of _) fun _ _ _ _ _ _ us hl => match us, hl with | [_, _], _ => rfl, g_common_of := PySem.W.mg_of X G a_common_of,
     f_Share_init := f_Share_init, d_Share_init := _, F_Share_init := (⟨⟨_, _, _, _, _, _, _, _, _, _, rfl, l_Share_init, e_Share_init, .inr ⟨by decide, T_Share_init, o_Share_init, [.int 1 t0_Share_init], n_Share_init, rfl, to_Share_init, td_Share_init, (.cons ⟨_, rfl⟩ .nil)⟩, .inl rfl⟩, k_Share_init⟩ : FunD K "__init__" "Share.__init__" (defArgs s_Share_init) (defBody s_Share_init) (defScope s_Share_init) [V.int 1] [] f_Share_init _), w_Share_init_1 := FunD.binds1 (⟨⟨_, _, _, _, _, _, _, _, _, _, rfl, l_Share_init, e_Share_init, .inr ⟨by decide, T_Share_init, o_Share_init, [.int 1 t0_Share_init], n_Share_init, rfl, to_Share_init, td_Share_init, (.cons ⟨_, rfl⟩ .nil)⟩, .inl rfl⟩, k_Share_init⟩ : FunD K "__init__" "Share.__init__" (defArgs s_Share_init) (defBody s_Share_init) (defScope s_Share_init) [V.int 1] [] f_Share_init _) 2 0 (by decide) rfl fun _ _ _ _ _ _ _ us its hu hi => match us, its, hu, hi with | [_, _], [_], _, _ => ⟨_, rfl, rfl⟩,
     w_Share_init_0 := FunD.binds1 (⟨⟨_, _, _, _, _, _, _, _, _, _, rfl, l_Share_init, e_Share_init, .inr ⟨by decide, T_Share_init, o_Share_init, [.int 1 t0_Share_init], n_Share_init, rfl, to_Share_init, td_Share_init, (.cons ⟨_, rfl⟩ .nil)⟩, .inl rfl⟩, k_Share_init⟩ : FunD K "__init__" "Share.__init__" (defArgs s_Share_init) (defBody s_Share_init) (defScope s_Share_init) [V.int 1] [] f_Share_init _) 3 1 (by decide) rfl fun _ _ _ _ _ _ _ us its hu hi => match us, its, hu, hi with | [_, _, _], [_], _, _ => ⟨_, rfl, rfl⟩, i_Share_init := a_Share_init, t_Share_init := i_Share_init,
     f_Share_eq := f_Share_eq, d_Share_eq := _, F_Share_eq := (⟨⟨_, _, _, _, _, _, _, _, _, _, rfl, l_Share_eq, e_Share_eq, .inl ⟨rfl, rfl⟩, .inl rfl⟩, k_Share_eq⟩ : FunD K "__eq__" "Share.__eq__" (defArgs s_Share_eq) (defBody s_Share_eq) (defScope s_Share_eq) [] [] f_Share_eq _), b_Share_eq := FunD.bindsN (⟨⟨_, _, _, _, _, _, _, _, _, _, rfl, l_Share_eq, e_Share_eq, .inl ⟨rfl, rfl⟩, .inl rfl⟩, k_Share_eq⟩ : FunD K "__eq__" "Share.__eq__" (defArgs s_Share_eq) (defBody s_Share_eq) (defScope s_Share_eq) [] [] f_Share_eq _) fun _ _ _ _ _ _ us hl => match us, hl with | [_, _], _ => rfl, i_Share_eq := a_Share_eq, t_Share_eq := i_Share_eq,
     f_plus := f_plus, d_plus := _, F_plus := (⟨⟨_, _, _, _, _, _, _, _, _, _, rfl, l_plus, e_plus, .inl ⟨rfl, rfl⟩, .inl rfl⟩, k_plus⟩ : FunD K "plus" "plus" (defArgs s_plus) (defBody s_plus) (defScope s_plus) [] [] f_plus _), b_plus := FunD.bindsN (⟨⟨_, _, _, _, _, _, _, _, _, _, rfl, l_plus, e_plus, .inl ⟨rfl, rfl⟩, .inl rfl⟩, k_plus⟩ : FunD K "plus" "plus" (defArgs s_plus) (defBody s_plus) (defScope s_plus) [] [] f_plus _) fun _ _ _ _ _ _ us hl => match us, hl with | [_, _], _ => rfl, g_plus := PySem.W.mg_of X G a_plus,
     f_times := f_times, d_times := _, F_times := (⟨⟨_, _, _, _, _, _, _, _, _, _, rfl, l_times, e_times, .inl ⟨rfl, rfl⟩, .inl rfl⟩, k_times⟩ : FunD K "times" "times" (defArgs s_times) (defBody s_times) (defScope s_times) [] [] f_times _), b_times := FunD.bindsN (⟨⟨_, _, _, _, _, _, _, _, _, _, rfl, l_times, e_times, .inl ⟨rfl, rfl⟩, .inl rfl⟩, k_times⟩ : FunD K "times" "times" (defArgs s_times) (defBody s_times) (defScope s_times) [] [] f_times _) fun _ _ _ _ _ _ us hl => match us, hl with | [_, _], _ => rfl, g_times := PySem.W.mg_of X G a_times,
     f_less := f_less, d_less := _, F_less := (⟨⟨_, _, _, _, _, _, _, _, _, _, rfl, l_less, e_less, .inl ⟨rfl, rfl⟩, .inl rfl⟩, k_less⟩ : FunD K "less" "less" (defArgs s_less) (defBody s_less) (defScope s_less) [] [] f_less _), b_less := FunD.bindsN (⟨⟨_, _, _, _, _, _, _, _, _, _, rfl, l_less, e_less, .inl ⟨rfl, rfl⟩, .inl rfl⟩, k_less⟩ : FunD K "less" "less" (defArgs s_less) (defBody s_less) (defScope s_less) [] [] f_less _) fun _ _ _ _ _ _ us hl => match us, hl with | [_, _], _ => rfl, g_less := PySem.W.mg_of X G a_less,
     f_is_bed := f_is_bed, d_is_bed := _, F_is_bed := (⟨⟨_, _, _, _, _, _, _, _, _, _, rfl, l_is_bed, e_is_bed, .inl ⟨rfl, rfl⟩, .inl rfl⟩, k_is_bed⟩ : FunD K "is_bed" "is_bed" (defArgs s_is_bed) (defBody s_is_bed) (defScope s_is_bed) [] [] f_is_bed _), b_is_bed := FunD.bindsN (⟨⟨_, _, _, _, _, _, _, _, _, _, rfl, l_is_bed, e_is_bed, .inl ⟨rfl, rfl⟩, .inl rfl⟩, k_is_bed⟩ : FunD K "is_bed" "is_bed" (defArgs s_is_bed) (defBody s_is_bed) (defScope s_is_bed) [] [] f_is_bed _) fun _ _ _ _ _ _ us hl => match us, hl with | [_, _], _ => rfl, g_is_bed := PySem.W.mg_of X G a_is_bed,
     f_are_beds := f_are_beds, d_are_beds := _, F_are_beds := (⟨⟨_, _, _, _, _, _, _, _, _, _, rfl, l_are_beds, e_are_beds, .inl ⟨rfl, rfl⟩, .inl rfl⟩, k_are_beds⟩ : FunD K "are_beds" "are_beds" (defArgs s_are_beds) (defBody s_are_beds) (defScope s_are_beds) [] [] f_are_beds _), b_are_beds := FunD.bindsN (⟨⟨_, _, _, _, _, _, _, _, _, _, rfl, l_are_beds, e_are_beds, .inl ⟨rfl, rfl⟩, .inl rfl⟩, k_are_beds⟩ : FunD K "are_beds" "are_beds" (defArgs s_are_beds) (defBody s_are_beds) (defScope s_are_beds) [] [] f_are_beds _) fun _ _ _ _ _ _ us hl => match us, hl with | [_, _], _ => rfl, g_are_beds := PySem.W.mg_of X G a_are_beds,
     f_are_parts := f_are_parts, d_are_parts := _, F_are_parts := (⟨⟨_, _, _, _, _, _, _, _, _, _, rfl, l_are_parts, e_are_parts, .inl ⟨rfl, rfl⟩, .inl rfl⟩, k_are_parts⟩ : FunD K "are_parts" "are_parts" (defArgs s_are_parts) (defBody s_are_parts) (defScope s_are_parts) [] [] f_are_parts _), b_are_parts := FunD.bindsN (⟨⟨_, _, _, _, _, _, _, _, _, _, rfl, l_are_parts, e_are_parts, .inl ⟨rfl, rfl⟩, .inl rfl⟩, k_are_parts⟩ : FunD K "are_parts" "are_parts" (defArgs s_are_parts) (defBody s_are_parts) (defScope s_are_parts) [] [] f_are_parts _) fun _ _ _ _ _ _ us hl => match us, hl with | [_, _, _], _ => rfl, g_are_parts := PySem.W.mg_of X G a_are_parts,
     f_Web_init := f_Web_init, d_Web_init := _, F_Web_init := (⟨⟨_, _, _, _, _, _, _, _, _, _, rfl, l_Web_init, e_Web_init, .inl ⟨rfl, rfl⟩, .inl rfl⟩, k_Web_init⟩ : FunD K "__init__" "Web.__init__" (defArgs s_Web_init) (defBody s_Web_init) (defScope s_Web_init) [] [] f_Web_init _), b_Web_init := FunD.bindsN (⟨⟨_, _, _, _, _, _, _, _, _, _, rfl, l_Web_init, e_Web_init, .inl ⟨rfl, rfl⟩, .inl rfl⟩, k_Web_init⟩ : FunD K "__init__" "Web.__init__" (defArgs s_Web_init) (defBody s_Web_init) (defScope s_Web_init) [] [] f_Web_init _) fun _ _ _ _ _ _ us hl => match us, hl with | [_, _, _, _], _ => rfl, i_Web_init := a_Web_init, t_Web_init := i_Web_init,
     f_Web_eq := f_Web_eq, d_Web_eq := _, F_Web_eq := (⟨⟨_, _, _, _, _, _, _, _, _, _, rfl, l_Web_eq, e_Web_eq, .inl ⟨rfl, rfl⟩, .inl rfl⟩, k_Web_eq⟩ : FunD K "__eq__" "Web.__eq__" (defArgs s_Web_eq) (defBody s_Web_eq) (defScope s_Web_eq) [] [] f_Web_eq _), b_Web_eq := FunD.bindsN (⟨⟨_, _, _, _, _, _, _, _, _, _, rfl, l_Web_eq, e_Web_eq, .inl ⟨rfl, rfl⟩, .inl rfl⟩, k_Web_eq⟩ : FunD K "__eq__" "Web.__eq__" (defArgs s_Web_eq) (defBody s_Web_eq) (defScope s_Web_eq) [] [] f_Web_eq _) fun _ _ _ _ _ _ us hl => match us, hl with | [_, _], _ => rfl, i_Web_eq := a_Web_eq, t_Web_eq := i_Web_eq,
     f_beds_from := f_beds_from, d_beds_from := _, F_beds_from := (⟨⟨_, _, _, _, _, _, _, _, _, _, rfl, l_beds_from, e_beds_from, .inl ⟨rfl, rfl⟩, .inl rfl⟩, k_beds_from⟩ : FunD K "beds_from" "beds_from" (defArgs s_beds_from) (defBody s_beds_from) (defScope s_beds_from) [] [] f_beds_from _), b_beds_from := FunD.bindsN (⟨⟨_, _, _, _, _, _, _, _, _, _, rfl, l_beds_from, e_beds_from, .inl ⟨rfl, rfl⟩, .inl rfl⟩, k_beds_from⟩ : FunD K "beds_from" "beds_from" (defArgs s_beds_from) (defBody s_beds_from) (defScope s_beds_from) [] [] f_beds_from _) fun _ _ _ _ _ _ us hl => match us, hl with | [_, _], _ => rfl, g_beds_from := PySem.W.mg_of X G a_beds_from,
     f_share_by_rank := f_share_by_rank, d_share_by_rank := _, F_share_by_rank := (⟨⟨_, _, _, _, _, _, _, _, _, _, rfl, l_share_by_rank, e_share_by_rank, .inl ⟨rfl, rfl⟩, .inl rfl⟩, k_share_by_rank⟩ : FunD K "share_by_rank" "share_by_rank" (defArgs s_share_by_rank) (defBody s_share_by_rank) (defScope s_share_by_rank) [] [] f_share_by_rank _), b_share_by_rank := FunD.bindsN (⟨⟨_, _, _, _, _, _, _, _, _, _, rfl, l_share_by_rank, e_share_by_rank, .inl ⟨rfl, rfl⟩, .inl rfl⟩, k_share_by_rank⟩ : FunD K "share_by_rank" "share_by_rank" (defArgs s_share_by_rank) (defBody s_share_by_rank) (defScope s_share_by_rank) [] [] f_share_by_rank _) fun _ _ _ _ _ _ us hl => match us, hl with | [_, _, _], _ => rfl, g_share_by_rank := PySem.W.mg_of X G a_share_by_rank,
     f_move_of := f_move_of, d_move_of := _, F_move_of := (⟨⟨_, _, _, _, _, _, _, _, _, _, rfl, l_move_of, e_move_of, .inl ⟨rfl, rfl⟩, .inl rfl⟩, k_move_of⟩ : FunD K "move_of" "move_of" (defArgs s_move_of) (defBody s_move_of) (defScope s_move_of) [] [] f_move_of _), b_move_of := FunD.bindsN (⟨⟨_, _, _, _, _, _, _, _, _, _, rfl, l_move_of, e_move_of, .inl ⟨rfl, rfl⟩, .inl rfl⟩, k_move_of⟩ : FunD K "move_of" "move_of" (defArgs s_move_of) (defBody s_move_of) (defScope s_move_of) [] [] f_move_of _) fun _ _ _ _ _ _ us hl => match us, hl with | [_, _, _], _ => rfl, g_move_of := PySem.W.mg_of X G a_move_of,
     f_are_depths := f_are_depths, d_are_depths := _, F_are_depths := (⟨⟨_, _, _, _, _, _, _, _, _, _, rfl, l_are_depths, e_are_depths, .inl ⟨rfl, rfl⟩, .inl rfl⟩, k_are_depths⟩ : FunD K "are_depths" "are_depths" (defArgs s_are_depths) (defBody s_are_depths) (defScope s_are_depths) [] [] f_are_depths _), b_are_depths := FunD.bindsN (⟨⟨_, _, _, _, _, _, _, _, _, _, rfl, l_are_depths, e_are_depths, .inl ⟨rfl, rfl⟩, .inl rfl⟩, k_are_depths⟩ : FunD K "are_depths" "are_depths" (defArgs s_are_depths) (defBody s_are_depths) (defScope s_are_depths) [] [] f_are_depths _) fun _ _ _ _ _ _ us hl => match us, hl with | [_, _], _ => rfl, g_are_depths := PySem.W.mg_of X G a_are_depths,
     f_check_depths := f_check_depths, d_check_depths := _, F_check_depths := (⟨⟨_, _, _, _, _, _, _, _, _, _, rfl, l_check_depths, e_check_depths, .inl ⟨rfl, rfl⟩, .inl rfl⟩, k_check_depths⟩ : FunD K "check_depths" "check_depths" (defArgs s_check_depths) (defBody s_check_depths) (defScope s_check_depths) [] [] f_check_depths _), b_check_depths := FunD.bindsN (⟨⟨_, _, _, _, _, _, _, _, _, _, rfl, l_check_depths, e_check_depths, .inl ⟨rfl, rfl⟩, .inl rfl⟩, k_check_depths⟩ : FunD K "check_depths" "check_depths" (defArgs s_check_depths) (defBody s_check_depths) (defScope s_check_depths) [] [] f_check_depths _) fun _ _ _ _ _ _ us hl => match us, hl with | [_, _], _ => rfl, g_check_depths := PySem.W.mg_of X G a_check_depths,
     f_check_rain := f_check_rain, d_check_rain := _, F_check_rain := (⟨⟨_, _, _, _, _, _, _, _, _, _, rfl, l_check_rain, e_check_rain, .inl ⟨rfl, rfl⟩, .inl rfl⟩, k_check_rain⟩ : FunD K "check_rain" "check_rain" (defArgs s_check_rain) (defBody s_check_rain) (defScope s_check_rain) [] [] f_check_rain _), b_check_rain := FunD.bindsN (⟨⟨_, _, _, _, _, _, _, _, _, _, rfl, l_check_rain, e_check_rain, .inl ⟨rfl, rfl⟩, .inl rfl⟩, k_check_rain⟩ : FunD K "check_rain" "check_rain" (defArgs s_check_rain) (defBody s_check_rain) (defScope s_check_rain) [] [] f_check_rain _) fun _ _ _ _ _ _ us hl => match us, hl with | [_, _], _ => rfl, g_check_rain := PySem.W.mg_of X G a_check_rain,
     f_ranked := f_ranked, d_ranked := _, F_ranked := (⟨⟨_, _, _, _, _, _, _, _, _, _, rfl, l_ranked, e_ranked, .inl ⟨rfl, rfl⟩, .inl rfl⟩, k_ranked⟩ : FunD K "ranked" "ranked" (defArgs s_ranked) (defBody s_ranked) (defScope s_ranked) [] [] f_ranked _), b_ranked := FunD.bindsN (⟨⟨_, _, _, _, _, _, _, _, _, _, rfl, l_ranked, e_ranked, .inl ⟨rfl, rfl⟩, .inl rfl⟩, k_ranked⟩ : FunD K "ranked" "ranked" (defArgs s_ranked) (defBody s_ranked) (defScope s_ranked) [] [] f_ranked _) fun _ _ _ _ _ _ us hl => match us, hl with | [_, _, _], _ => rfl, g_ranked := PySem.W.mg_of X G a_ranked,
     f_flow := f_flow, d_flow := _, F_flow := (⟨⟨_, _, _, _, _, _, _, _, _, _, rfl, l_flow, e_flow, .inl ⟨rfl, rfl⟩, .inl rfl⟩, k_flow⟩ : FunD K "flow" "flow" (defArgs s_flow) (defBody s_flow) (defScope s_flow) [] [] f_flow _), b_flow := FunD.bindsN (⟨⟨_, _, _, _, _, _, _, _, _, _, rfl, l_flow, e_flow, .inl ⟨rfl, rfl⟩, .inl rfl⟩, k_flow⟩ : FunD K "flow" "flow" (defArgs s_flow) (defBody s_flow) (defScope s_flow) [] [] f_flow _) fun _ _ _ _ _ _ us hl => match us, hl with | [_, _, _], _ => rfl, g_flow := PySem.W.mg_of X G a_flow,
     f_moved := f_moved, d_moved := _, F_moved := (⟨⟨_, _, _, _, _, _, _, _, _, _, rfl, l_moved, e_moved, .inl ⟨rfl, rfl⟩, .inl rfl⟩, k_moved⟩ : FunD K "moved" "moved" (defArgs s_moved) (defBody s_moved) (defScope s_moved) [] [] f_moved _), b_moved := FunD.bindsN (⟨⟨_, _, _, _, _, _, _, _, _, _, rfl, l_moved, e_moved, .inl ⟨rfl, rfl⟩, .inl rfl⟩, k_moved⟩ : FunD K "moved" "moved" (defArgs s_moved) (defBody s_moved) (defScope s_moved) [] [] f_moved _) fun _ _ _ _ _ _ us hl => match us, hl with | [_, _, _], _ => rfl, g_moved := PySem.W.mg_of X G a_moved,
     f_borne := f_borne, d_borne := _, F_borne := (⟨⟨_, _, _, _, _, _, _, _, _, _, rfl, l_borne, e_borne, .inl ⟨rfl, rfl⟩, .inl rfl⟩, k_borne⟩ : FunD K "borne" "borne" (defArgs s_borne) (defBody s_borne) (defScope s_borne) [] [] f_borne _), kb_borne := ⟨fun s us ws _ h1 h2 => match us, ws, h1, h2 with | [_, _], [_], _, _ => .of_eq rfl, fun r1 r2 => r1.append r2⟩, g_borne := PySem.W.mg_of X G a_borne,
     f_step := f_step, d_step := _, F_step := (⟨⟨_, _, _, _, _, _, _, _, _, _, rfl, l_step, e_step, .inl ⟨rfl, rfl⟩, .inl rfl⟩, k_step⟩ : FunD K "step" "step" (defArgs s_step) (defBody s_step) (defScope s_step) [] [] f_step _), kb_step := ⟨fun s us ws _ h1 h2 => match us, ws, h1, h2 with | [_, _], [_], _, _ => .of_eq rfl, fun r1 r2 => r1.append r2⟩, g_step := PySem.W.mg_of X G a_step,
     f_law_cell_at := f_law_cell_at, d_law_cell_at := _, F_law_cell_at := (⟨⟨_, _, _, _, _, _, _, _, _, _, rfl, l_law_cell_at, e_law_cell_at, .inl ⟨rfl, rfl⟩, .inl rfl⟩, k_law_cell_at⟩ : FunD K "_law_cell_at" "_law_cell_at" (defArgs s_law_cell_at) (defBody s_law_cell_at) (defScope s_law_cell_at) [] [] f_law_cell_at _), b_law_cell_at := FunD.bindsN (⟨⟨_, _, _, _, _, _, _, _, _, _, rfl, l_law_cell_at, e_law_cell_at, .inl ⟨rfl, rfl⟩, .inl rfl⟩, k_law_cell_at⟩ : FunD K "_law_cell_at" "_law_cell_at" (defArgs s_law_cell_at) (defBody s_law_cell_at) (defScope s_law_cell_at) [] [] f_law_cell_at _) fun _ _ _ _ _ _ us hl => match us, hl with | [_, _], _ => rfl, g_law_cell_at := PySem.W.mg_of X G a_law_cell_at,
     f_law_mixed := f_law_mixed, d_law_mixed := _, F_law_mixed := (⟨⟨_, _, _, _, _, _, _, _, _, _, rfl, l_law_mixed, e_law_mixed, .inl ⟨rfl, rfl⟩, .inl rfl⟩, k_law_mixed⟩ : FunD K "_law_mixed" "_law_mixed" (defArgs s_law_mixed) (defBody s_law_mixed) (defScope s_law_mixed) [] [] f_law_mixed _), b_law_mixed := FunD.bindsN (⟨⟨_, _, _, _, _, _, _, _, _, _, rfl, l_law_mixed, e_law_mixed, .inl ⟨rfl, rfl⟩, .inl rfl⟩, k_law_mixed⟩ : FunD K "_law_mixed" "_law_mixed" (defArgs s_law_mixed) (defBody s_law_mixed) (defScope s_law_mixed) [] [] f_law_mixed _) fun _ _ _ _ _ _ us hl => match us, hl with | [_, _], _ => rfl, g_law_mixed := PySem.W.mg_of X G a_law_mixed,
     f_law_source := f_law_source, d_law_source := _, F_law_source := (⟨⟨_, _, _, _, _, _, _, _, _, _, rfl, l_law_source, e_law_source, .inl ⟨rfl, rfl⟩, .inl rfl⟩, k_law_source⟩ : FunD K "_law_source" "_law_source" (defArgs s_law_source) (defBody s_law_source) (defScope s_law_source) [] [] f_law_source _), b_law_source := FunD.bindsN (⟨⟨_, _, _, _, _, _, _, _, _, _, rfl, l_law_source, e_law_source, .inl ⟨rfl, rfl⟩, .inl rfl⟩, k_law_source⟩ : FunD K "_law_source" "_law_source" (defArgs s_law_source) (defBody s_law_source) (defScope s_law_source) [] [] f_law_source _) fun _ _ _ _ _ _ us hl => match us, hl with | [_, _], _ => rfl, g_law_source := PySem.W.mg_of X G a_law_source,
     f_law_next := f_law_next, d_law_next := _, F_law_next := (⟨⟨_, _, _, _, _, _, _, _, _, _, rfl, l_law_next, e_law_next, .inl ⟨rfl, rfl⟩, .inl rfl⟩, k_law_next⟩ : FunD K "_law_next" "_law_next" (defArgs s_law_next) (defBody s_law_next) (defScope s_law_next) [] [] f_law_next _), b_law_next := FunD.bindsN (⟨⟨_, _, _, _, _, _, _, _, _, _, rfl, l_law_next, e_law_next, .inl ⟨rfl, rfl⟩, .inl rfl⟩, k_law_next⟩ : FunD K "_law_next" "_law_next" (defArgs s_law_next) (defBody s_law_next) (defScope s_law_next) [] [] f_law_next _) fun _ _ _ _ _ _ us hl => match us, hl with | [_, _], _ => rfl, g_law_next := PySem.W.mg_of X G a_law_next,
     f_law_pick := f_law_pick, d_law_pick := _, F_law_pick := (⟨⟨_, _, _, _, _, _, _, _, _, _, rfl, l_law_pick, e_law_pick, .inl ⟨rfl, rfl⟩, .inl rfl⟩, k_law_pick⟩ : FunD K "_law_pick" "_law_pick" (defArgs s_law_pick) (defBody s_law_pick) (defScope s_law_pick) [] [] f_law_pick _), b_law_pick := FunD.bindsN (⟨⟨_, _, _, _, _, _, _, _, _, _, rfl, l_law_pick, e_law_pick, .inl ⟨rfl, rfl⟩, .inl rfl⟩, k_law_pick⟩ : FunD K "_law_pick" "_law_pick" (defArgs s_law_pick) (defBody s_law_pick) (defScope s_law_pick) [] [] f_law_pick _) fun _ _ _ _ _ _ us hl => match us, hl with | [_, _], _ => rfl, g_law_pick := PySem.W.mg_of X G a_law_pick,
     f_law_lowered := f_law_lowered, d_law_lowered := _, F_law_lowered := (⟨⟨_, _, _, _, _, _, _, _, _, _, rfl, l_law_lowered, e_law_lowered, .inl ⟨rfl, rfl⟩, .inl rfl⟩, k_law_lowered⟩ : FunD K "_law_lowered" "_law_lowered" (defArgs s_law_lowered) (defBody s_law_lowered) (defScope s_law_lowered) [] [] f_law_lowered _), b_law_lowered := FunD.bindsN (⟨⟨_, _, _, _, _, _, _, _, _, _, rfl, l_law_lowered, e_law_lowered, .inl ⟨rfl, rfl⟩, .inl rfl⟩, k_law_lowered⟩ : FunD K "_law_lowered" "_law_lowered" (defArgs s_law_lowered) (defBody s_law_lowered) (defScope s_law_lowered) [] [] f_law_lowered _) fun _ _ _ _ _ _ us hl => match us, hl with | [_, _], _ => rfl, g_law_lowered := PySem.W.mg_of X G a_law_lowered,
     f_law_sum := f_law_sum, d_law_sum := _, F_law_sum := (⟨⟨_, _, _, _, _, _, _, _, _, _, rfl, l_law_sum, e_law_sum, .inl ⟨rfl, rfl⟩, .inl rfl⟩, k_law_sum⟩ : FunD K "_law_sum" "_law_sum" (defArgs s_law_sum) (defBody s_law_sum) (defScope s_law_sum) [] [] f_law_sum _), b_law_sum := FunD.bindsN (⟨⟨_, _, _, _, _, _, _, _, _, _, rfl, l_law_sum, e_law_sum, .inl ⟨rfl, rfl⟩, .inl rfl⟩, k_law_sum⟩ : FunD K "_law_sum" "_law_sum" (defArgs s_law_sum) (defBody s_law_sum) (defScope s_law_sum) [] [] f_law_sum _) fun _ _ _ _ _ _ us hl => match us, hl with | [_, _], _ => rfl, g_law_sum := PySem.W.mg_of X G a_law_sum,
     f_law_product := f_law_product, d_law_product := _, F_law_product := (⟨⟨_, _, _, _, _, _, _, _, _, _, rfl, l_law_product, e_law_product, .inl ⟨rfl, rfl⟩, .inl rfl⟩, k_law_product⟩ : FunD K "_law_product" "_law_product" (defArgs s_law_product) (defBody s_law_product) (defScope s_law_product) [] [] f_law_product _), b_law_product := FunD.bindsN (⟨⟨_, _, _, _, _, _, _, _, _, _, rfl, l_law_product, e_law_product, .inl ⟨rfl, rfl⟩, .inl rfl⟩, k_law_product⟩ : FunD K "_law_product" "_law_product" (defArgs s_law_product) (defBody s_law_product) (defScope s_law_product) [] [] f_law_product _) fun _ _ _ _ _ _ us hl => match us, hl with | [_, _], _ => rfl, g_law_product := PySem.W.mg_of X G a_law_product,
     f_law_mark := f_law_mark, d_law_mark := _, F_law_mark := (⟨⟨_, _, _, _, _, _, _, _, _, _, rfl, l_law_mark, e_law_mark, .inl ⟨rfl, rfl⟩, .inl rfl⟩, k_law_mark⟩ : FunD K "_law_mark" "_law_mark" (defArgs s_law_mark) (defBody s_law_mark) (defScope s_law_mark) [] [] f_law_mark _), b_law_mark := FunD.bindsN (⟨⟨_, _, _, _, _, _, _, _, _, _, rfl, l_law_mark, e_law_mark, .inl ⟨rfl, rfl⟩, .inl rfl⟩, k_law_mark⟩ : FunD K "_law_mark" "_law_mark" (defArgs s_law_mark) (defBody s_law_mark) (defScope s_law_mark) [] [] f_law_mark _) fun _ _ _ _ _ _ us hl => match us, hl with | [_], _ => rfl, g_law_mark := PySem.W.mg_of X G a_law_mark,
     f_law_beds_of := f_law_beds_of, d_law_beds_of := _, F_law_beds_of := (⟨⟨_, _, _, _, _, _, _, _, _, _, rfl, l_law_beds_of, e_law_beds_of, .inl ⟨rfl, rfl⟩, .inl rfl⟩, k_law_beds_of⟩ : FunD K "_law_beds_of" "_law_beds_of" (defArgs s_law_beds_of) (defBody s_law_beds_of) (defScope s_law_beds_of) [] [] f_law_beds_of _), b_law_beds_of := FunD.bindsN (⟨⟨_, _, _, _, _, _, _, _, _, _, rfl, l_law_beds_of, e_law_beds_of, .inl ⟨rfl, rfl⟩, .inl rfl⟩, k_law_beds_of⟩ : FunD K "_law_beds_of" "_law_beds_of" (defArgs s_law_beds_of) (defBody s_law_beds_of) (defScope s_law_beds_of) [] [] f_law_beds_of _) fun _ _ _ _ _ _ us hl => match us, hl with | [_, _], _ => rfl, g_law_beds_of := PySem.W.mg_of X G a_law_beds_of,
     f_law_world := f_law_world, d_law_world := _, F_law_world := (⟨⟨_, _, _, _, _, _, _, _, _, _, rfl, l_law_world, e_law_world, .inl ⟨rfl, rfl⟩, .inl rfl⟩, k_law_world⟩ : FunD K "_law_world" "_law_world" (defArgs s_law_world) (defBody s_law_world) (defScope s_law_world) [] [] f_law_world _), b_law_world := FunD.bindsN (⟨⟨_, _, _, _, _, _, _, _, _, _, rfl, l_law_world, e_law_world, .inl ⟨rfl, rfl⟩, .inl rfl⟩, k_law_world⟩ : FunD K "_law_world" "_law_world" (defArgs s_law_world) (defBody s_law_world) (defScope s_law_world) [] [] f_law_world _) fun _ _ _ _ _ _ us hl => match us, hl with | [_, _], _ => rfl, g_law_world := PySem.W.mg_of X G a_law_world,
     f_law_made := f_law_made, d_law_made := _, F_law_made := (⟨⟨_, _, _, _, _, _, _, _, _, _, rfl, l_law_made, e_law_made, .inl ⟨rfl, rfl⟩, .inl rfl⟩, k_law_made⟩ : FunD K "_law_made" "_law_made" (defArgs s_law_made) (defBody s_law_made) (defScope s_law_made) [] [] f_law_made _), b_law_made := FunD.bindsN (⟨⟨_, _, _, _, _, _, _, _, _, _, rfl, l_law_made, e_law_made, .inl ⟨rfl, rfl⟩, .inl rfl⟩, k_law_made⟩ : FunD K "_law_made" "_law_made" (defArgs s_law_made) (defBody s_law_made) (defScope s_law_made) [] [] f_law_made _) fun _ _ _ _ _ _ us hl => match us, hl with | [_], _ => rfl, g_law_made := PySem.W.mg_of X G a_law_made,
     f_law_depths := f_law_depths, d_law_depths := _, F_law_depths := (⟨⟨_, _, _, _, _, _, _, _, _, _, rfl, l_law_depths, e_law_depths, .inl ⟨rfl, rfl⟩, .inl rfl⟩, k_law_depths⟩ : FunD K "_law_depths" "_law_depths" (defArgs s_law_depths) (defBody s_law_depths) (defScope s_law_depths) [] [] f_law_depths _), b_law_depths := FunD.bindsN (⟨⟨_, _, _, _, _, _, _, _, _, _, rfl, l_law_depths, e_law_depths, .inl ⟨rfl, rfl⟩, .inl rfl⟩, k_law_depths⟩ : FunD K "_law_depths" "_law_depths" (defArgs s_law_depths) (defBody s_law_depths) (defScope s_law_depths) [] [] f_law_depths _) fun _ _ _ _ _ _ us hl => match us, hl with | [_, _], _ => rfl, g_law_depths := PySem.W.mg_of X G a_law_depths,
     f_law_falls := f_law_falls, d_law_falls := _, F_law_falls := (⟨⟨_, _, _, _, _, _, _, _, _, _, rfl, l_law_falls, e_law_falls, .inl ⟨rfl, rfl⟩, .inl rfl⟩, k_law_falls⟩ : FunD K "_law_falls" "_law_falls" (defArgs s_law_falls) (defBody s_law_falls) (defScope s_law_falls) [] [] f_law_falls _), b_law_falls := FunD.bindsN (⟨⟨_, _, _, _, _, _, _, _, _, _, rfl, l_law_falls, e_law_falls, .inl ⟨rfl, rfl⟩, .inl rfl⟩, k_law_falls⟩ : FunD K "_law_falls" "_law_falls" (defArgs s_law_falls) (defBody s_law_falls) (defScope s_law_falls) [] [] f_law_falls _) fun _ _ _ _ _ _ us hl => match us, hl with | [_, _], _ => rfl, g_law_falls := PySem.W.mg_of X G a_law_falls,
     f_law_shares := f_law_shares, d_law_shares := _, F_law_shares := (⟨⟨_, _, _, _, _, _, _, _, _, _, rfl, l_law_shares, e_law_shares, .inl ⟨rfl, rfl⟩, .inl rfl⟩, k_law_shares⟩ : FunD K "_law_shares" "_law_shares" (defArgs s_law_shares) (defBody s_law_shares) (defScope s_law_shares) [] [] f_law_shares _), b_law_shares := FunD.bindsN (⟨⟨_, _, _, _, _, _, _, _, _, _, rfl, l_law_shares, e_law_shares, .inl ⟨rfl, rfl⟩, .inl rfl⟩, k_law_shares⟩ : FunD K "_law_shares" "_law_shares" (defArgs s_law_shares) (defBody s_law_shares) (defScope s_law_shares) [] [] f_law_shares _) fun _ _ _ _ _ _ us hl => match us, hl with | [_], _ => rfl, g_law_shares := PySem.W.mg_of X G a_law_shares,
     f_law_same_order := f_law_same_order, d_law_same_order := _, F_law_same_order := (⟨⟨_, _, _, _, _, _, _, _, _, _, rfl, l_law_same_order, e_law_same_order, .inl ⟨rfl, rfl⟩, .inl rfl⟩, k_law_same_order⟩ : FunD K "_law_same_order" "_law_same_order" (defArgs s_law_same_order) (defBody s_law_same_order) (defScope s_law_same_order) [] [] f_law_same_order _), b_law_same_order := FunD.bindsN (⟨⟨_, _, _, _, _, _, _, _, _, _, rfl, l_law_same_order, e_law_same_order, .inl ⟨rfl, rfl⟩, .inl rfl⟩, k_law_same_order⟩ : FunD K "_law_same_order" "_law_same_order" (defArgs s_law_same_order) (defBody s_law_same_order) (defScope s_law_same_order) [] [] f_law_same_order _) fun _ _ _ _ _ _ us hl => match us, hl with | [_, _, _], _ => rfl, g_law_same_order := PySem.W.mg_of X G a_law_same_order,
     f_law_twisted := f_law_twisted, d_law_twisted := _, F_law_twisted := (⟨⟨_, _, _, _, _, _, _, _, _, _, rfl, l_law_twisted, e_law_twisted, .inl ⟨rfl, rfl⟩, .inl rfl⟩, k_law_twisted⟩ : FunD K "_law_twisted" "_law_twisted" (defArgs s_law_twisted) (defBody s_law_twisted) (defScope s_law_twisted) [] [] f_law_twisted _), b_law_twisted := FunD.bindsN (⟨⟨_, _, _, _, _, _, _, _, _, _, rfl, l_law_twisted, e_law_twisted, .inl ⟨rfl, rfl⟩, .inl rfl⟩, k_law_twisted⟩ : FunD K "_law_twisted" "_law_twisted" (defArgs s_law_twisted) (defBody s_law_twisted) (defScope s_law_twisted) [] [] f_law_twisted _) fun _ _ _ _ _ _ us hl => match us, hl with | [_], _ => rfl, g_law_twisted := PySem.W.mg_of X G a_law_twisted,
     f_law_steps_of := f_law_steps_of, d_law_steps_of := _, F_law_steps_of := (⟨⟨_, _, _, _, _, _, _, _, _, _, rfl, l_law_steps_of, e_law_steps_of, .inl ⟨rfl, rfl⟩, .inl rfl⟩, k_law_steps_of⟩ : FunD K "_law_steps_of" "_law_steps_of" (defArgs s_law_steps_of) (defBody s_law_steps_of) (defScope s_law_steps_of) [] [] f_law_steps_of _), b_law_steps_of := FunD.bindsN (⟨⟨_, _, _, _, _, _, _, _, _, _, rfl, l_law_steps_of, e_law_steps_of, .inl ⟨rfl, rfl⟩, .inl rfl⟩, k_law_steps_of⟩ : FunD K "_law_steps_of" "_law_steps_of" (defArgs s_law_steps_of) (defBody s_law_steps_of) (defScope s_law_steps_of) [] [] f_law_steps_of _) fun _ _ _ _ _ _ us hl => match us, hl with | [_, _], _ => rfl, g_law_steps_of := PySem.W.mg_of X G a_law_steps_of,
     f_law_twist_right := f_law_twist_right, d_law_twist_right := _, F_law_twist_right := (⟨⟨_, _, _, _, _, _, _, _, _, _, rfl, l_law_twist_right, e_law_twist_right, .inl ⟨rfl, rfl⟩, .inl rfl⟩, k_law_twist_right⟩ : FunD K "_law_twist_right" "_law_twist_right" (defArgs s_law_twist_right) (defBody s_law_twist_right) (defScope s_law_twist_right) [] [] f_law_twist_right _), b_law_twist_right := FunD.bindsN (⟨⟨_, _, _, _, _, _, _, _, _, _, rfl, l_law_twist_right, e_law_twist_right, .inl ⟨rfl, rfl⟩, .inl rfl⟩, k_law_twist_right⟩ : FunD K "_law_twist_right" "_law_twist_right" (defArgs s_law_twist_right) (defBody s_law_twist_right) (defScope s_law_twist_right) [] [] f_law_twist_right _) fun _ _ _ _ _ _ us hl => match us, hl with | [_, _, _, _], _ => rfl, g_law_twist_right := PySem.W.mg_of X G a_law_twist_right,
     f_law := f_law, d_law := _, F_law := (⟨⟨_, _, _, _, _, _, _, _, _, _, rfl, l_law, e_law, .inl ⟨rfl, rfl⟩, .inl rfl⟩, k_law⟩ : FunD K "law" "law" (defArgs s_law) (defBody s_law) (defScope s_law) [] [] f_law _), b_law := FunD.bindsN (⟨⟨_, _, _, _, _, _, _, _, _, _, rfl, l_law, e_law, .inl ⟨rfl, rfl⟩, .inl rfl⟩, k_law⟩ : FunD K "law" "law" (defArgs s_law) (defBody s_law) (defScope s_law) [] [] f_law _) fun _ _ _ _ _ _ us hl => match us, hl with | [_], _ => rfl, g_law := PySem.W.mg_of X G a_law,
     bl := fun s u => .of_eq rfl,
     tk_MOST_BEDS := tk_MOST_BEDS, g_MOST_BEDS := PySem.W.mg_of X G a_MOST_BEDS,
     tk_MOST_PART := tk_MOST_PART, g_MOST_PART := PySem.W.mg_of X G a_MOST_PART,
     tk_MOST_PLACES := tk_MOST_PLACES, g_MOST_PLACES := PySem.W.mg_of X G a_MOST_PLACES,
     n_abs := PySem.W.mg_none_of X G n_abs,
     n_all := PySem.W.mg_none_of X G n_all,
     n_any := PySem.W.mg_none_of X G n_any,
     n_bool := PySem.W.mg_none_of X G n_bool,
     n_enumerate := PySem.W.mg_none_of X G n_enumerate,
     n_int := PySem.W.mg_none_of X G n_int,
     n_isinstance := PySem.W.mg_none_of X G n_isinstance,
     n_len := PySem.W.mg_none_of X G n_len,
     n_list := PySem.W.mg_none_of X G n_list,
     n_max := PySem.W.mg_none_of X G n_max,
     n_min := PySem.W.mg_none_of X G n_min,
     n_range := PySem.W.mg_none_of X G n_range,
     n_set := PySem.W.mg_none_of X G n_set,
     n_sorted := PySem.W.mg_none_of X G n_sorted,
     n_sum := PySem.W.mg_none_of X G n_sum,
     n_tuple := PySem.W.mg_none_of X G n_tuple,
     n_zip := PySem.W.mg_none_of X G n_zip,
     mk_Share := mk_Share,
     kc_Share := kc_Share,
     pg_Share := pg_Share,
     hd_Share := hd_Share,
     po_Share := po_Share,
     sa_Share := sa_Share,
     at_Share := at_Share,
     mr_Share := mr_Share,
     no_top_Share := no_top_Share,
     no_bottom_Share := no_bottom_Share,
     mk_Web := mk_Web,
     kc_Web := kc_Web,
     pg_Web := pg_Web,
     hd_Web := hd_Web,
     po_Web := po_Web,
     sa_Web := sa_Web,
     at_Web := at_Web,
     mr_Web := mr_Web,
     no_many_Web := no_many_Web,
     no_beds_Web := no_beds_Web,
     no_parts_Web := no_parts_Web,
     hn := hn,
     ht := ht,
     ic_Share := ic_Share,
     ty_Share := ty_Share,
     ne_Share := ne_Share,
     sT_Share_NoneType := sT_Share_NoneType,
     sF_Share_NoneType := sF_Share_NoneType,
     sT_Share_bool := sT_Share_bool,
     sF_Share_bool := sF_Share_bool,
     sT_Share_int := sT_Share_int,
     sF_Share_int := sF_Share_int,
     sT_Share_str := sT_Share_str,
     sF_Share_str := sF_Share_str,
     sT_Share_tuple := sT_Share_tuple,
     sF_Share_tuple := sF_Share_tuple,
     sT_Share_list := sT_Share_list,
     sF_Share_list := sF_Share_list,
     ss_Share_Share := ss_Share_Share,
     ss_Share_Web := ss_Share_Web,
     ic_Web := ic_Web,
     ty_Web := ty_Web,
     ne_Web := ne_Web,
     sT_Web_NoneType := sT_Web_NoneType,
     sF_Web_NoneType := sF_Web_NoneType,
     sT_Web_bool := sT_Web_bool,
     sF_Web_bool := sF_Web_bool,
     sT_Web_int := sT_Web_int,
     sF_Web_int := sF_Web_int,
     sT_Web_str := sT_Web_str,
     sF_Web_str := sF_Web_str,
     sT_Web_tuple := sT_Web_tuple,
     sF_Web_tuple := sF_Web_tuple,
     sT_Web_list := sT_Web_list,
     sF_Web_list := sF_Web_list,
     ss_Web_Share := ss_Web_Share,
     ss_Web_Web := ss_Web_Web }⟩
/-! ### fractions -/
/-- in lowest terms -/
def lw (a b : Int) : Int × Int := (a.fdiv (Int.gcd a b : Int), b.fdiv (Int.gcd a b : Int))
def sh (q : Int × Int) : PV := .obj 0 [.int q.1, .int q.2]
def pr (q : Int × Int) : PV := .tup [.int q.1, .int q.2]
theorem bel_sh (n : Nat) (q : Int × Int) : bel n (sh q) = true := rfl
theorem bel_pr (n : Nat) (q : Int × Int) : bel n (pr q) = true := rfl
theorem gcd_step (a b : Int) : Int.gcd b (a.fmod b) = Int.gcd a b := by
  have h : a.fmod b = a + b * (- a.fdiv b) := by
    have := Int.mul_fdiv_add_fmod a b
    rw [Int.mul_neg]
    omega
  rw [h, Int.gcd_add_mul_left_right, Int.gcd_comm]
theorem fmod_lt (a : Int) {b : Int} (h : b ≠ 0) : (a.fmod b).natAbs < b.natAbs := by
  rw [Int.fmod_eq_emod]
  have h1 := Int.emod_nonneg a h
  have h2 := Int.emod_lt a h
  split
  · omega
  · rename_i hn
    have h3 : a % b ≠ 0 := fun z => hn (.inr (Int.dvd_of_emod_eq_zero z))
    omega
theorem okMod_ne {a b : Int} (h : b ≠ 0) : okMod a b = true := decide_eq_true h
theorem common_ok (a b : Int) (p : Pool) (hb : b.natAbs < fuel) : m_common_of [.int a, .int b] p = .ok (.int (Int.gcd a b : Int)) p := by
  obtain ⟨en2, p2, e, x, hx, rfl, hp⟩ := loopW_inv (t := mB (mBin pNe (mVar 1) (mC (.int 0)))) (body := sPar 0 1 (mCons (mVar 1) (mCons (mBin pMod (mVar 0) (mVar 1)) mNil)))
    (fun n en q => ∃ x y : Int, en = ⟨p.length, [some (.int x), some (.int y)]⟩ ∧ q = p ∧ Int.gcd x y = Int.gcd a b ∧ n = y.natAbs)
    (fun en q => ∃ x : Int, x.natAbs = Int.gcd a b ∧ en = ⟨p.length, [some (.int x), some (.int 0)]⟩ ∧ q = p) (fun n en q h => by
      obtain ⟨x, y, rfl, rfl, hg, rfl⟩ := h
      refine ⟨!decide (y = 0), q, ?_, ?_⟩
      · simp only [fnM, fnO, sSeq, sAsg, sIf, sRet, sNop, sSet, sExpr, mBin, mB, mVar, mC, mCall, mCons, mNil, mTup, mLst, mLstO, mFn, mAnd, mOr, mNot, mNeg, mIsi, mYes, itS, itE, itR1, tgN, tgT, tgCons, tgNil, mSl, oNo, oYes, Res.bind, Res.run, Ctl.andThen, En.set, En.sets, f2I, f2C, wipeE, pAdd, pSub, pMul, pDiv, pMod, pPow, pLt, pLe, pGt, pGe, pIx, cLen, cInt, List.map_cons, List.map_nil, List.length_cons, List.length_nil, List.replicate, List.append_nil, List.nil_append, List.cons_append, List.getElem?_cons_zero, List.getElem?_cons_succ, List.set_cons_zero, List.set_cons_succ, List.take_length, get_last, set_last, take_last, take_all1, len1, getL, getR, getQ, mAndV, mOrV, mNotV, mNeg, iniM, fnA, mIf, mChain, sPar, tyP, isT, pEq_int, pNe_int, pIx, cAbs, cMax, cMin, mFld, getF, R.sFld, put0, put1, put2, may_int, thaw_int, thaw_bl, thaw_non, if_true, Bool.not_true, Bool.not_false, atI_0, atI_1, atI_2, atI_3, ixN_30, ixN_31, ixN_32, R.sIx, take_set, Bool.false_eq_true, if_false]
      by_cases hy : y = 0
      · subst hy
        refine .inl ⟨rfl, x, ?_, rfl, rfl⟩
        rw [← hg, Int.gcd_zero_right]
      · refine .inr ⟨by rw [decide_eq_false hy]; rfl, ⟨q.length, [some (.int y), some (.int (x.fmod y))]⟩, q, (x.fmod y).natAbs, ?_, fmod_lt x hy, y, x.fmod y, rfl, rfl, (gcd_step x y).trans hg, rfl⟩
        have e1 := okMod_ne (a := x) hy
        simp only [fnM, fnO, sSeq, sAsg, sIf, sRet, sNop, sSet, sExpr, mBin, mB, mVar, mC, mCall, mCons, mNil, mTup, mLst, mLstO, mFn, mAnd, mOr, mNot, mNeg, mIsi, mYes, itS, itE, itR1, tgN, tgT, tgCons, tgNil, mSl, oNo, oYes, Res.bind, Res.run, Ctl.andThen, En.set, En.sets, f2I, f2C, wipeE, pAdd, pSub, pMul, pDiv, pMod, pPow, pLt, pLe, pGt, pGe, pIx, cLen, cInt, List.map_cons, List.map_nil, List.length_cons, List.length_nil, List.replicate, List.append_nil, List.nil_append, List.cons_append, List.getElem?_cons_zero, List.getElem?_cons_succ, List.set_cons_zero, List.set_cons_succ, List.take_length, get_last, set_last, take_last, take_all1, len1, getL, getR, getQ, mAndV, mOrV, mNotV, mNeg, iniM, fnA, mIf, mChain, sPar, tyP, isT, pEq_int, pNe_int, pIx, cAbs, cMax, cMin, mFld, getF, R.sFld, put0, put1, put2, may_int, thaw_int, thaw_bl, thaw_non, if_true, Bool.not_true, Bool.not_false, atI_0, atI_1, atI_2, atI_3, ixN_30, ixN_31, ixN_32, R.sIx, take_set, Bool.false_eq_true, if_false, e1]
      )
    fuel b.natAbs ⟨p.length, [some (.int a), some (.int b)]⟩ p hb ⟨a, b, rfl, rfl, rfl, rfl⟩
  subst hp
  unfold m_common_of
  have h : b_common_of ⟨p2.length, [PV.int a, PV.int b].map some ++ List.replicate (2 - [PV.int a, PV.int b].length) none⟩ p2 = .ret (.int (Int.gcd a b : Int)) p2 := by
    show sSeq (loopW _ _ fuel) _ ⟨p2.length, [some (.int a), some (.int b)]⟩ p2 = _
    unfold sSeq
    rw [e]
    simp only [fnM, fnO, sSeq, sAsg, sIf, sRet, sNop, sSet, sExpr, mBin, mB, mVar, mC, mCall, mCons, mNil, mTup, mLst, mLstO, mFn, mAnd, mOr, mNot, mNeg, mIsi, mYes, itS, itE, itR1, tgN, tgT, tgCons, tgNil, mSl, oNo, oYes, Res.bind, Res.run, Ctl.andThen, En.set, En.sets, f2I, f2C, wipeE, pAdd, pSub, pMul, pDiv, pMod, pPow, pLt, pLe, pGt, pGe, pIx, cLen, cInt, List.map_cons, List.map_nil, List.length_cons, List.length_nil, List.replicate, List.append_nil, List.nil_append, List.cons_append, List.getElem?_cons_zero, List.getElem?_cons_succ, List.set_cons_zero, List.set_cons_succ, List.take_length, get_last, set_last, take_last, take_all1, len1, getL, getR, getQ, mAndV, mOrV, mNotV, mNeg, iniM, fnA, mIf, mChain, sPar, tyP, isT, pEq_int, pNe_int, pIx, cAbs, cMax, cMin, mFld, getF, R.sFld, put0, put1, put2, may_int, thaw_int, thaw_bl, thaw_non, if_true, Bool.not_true, Bool.not_false, atI_0, atI_1, atI_2, atI_3, ixN_30, ixN_31, ixN_32, R.sIx, take_set, Bool.false_eq_true, if_false]
    have h2 : (if x < 0 then -x else x) = (Int.gcd a b : Int) := by
      rw [← hx]
      split <;> omega
    rw [h2]
  rw [fnM_ret h (thaw_bel rfl), List.take_length]
theorem whole_ok (a : Int) (p : Pool) : m_is_whole [.int a] p = .ok (.bl true) p := by
  have h : m_is_whole [.int a] p = .ok (.bl true) (p.take p.length) := rfl
  rw [h, List.take_length]
theorem fuel_pos : (0 : Nat) < 2 ^ 4000 := Nat.two_pow_pos 4000
theorem gcd_pos {a b : Int} (h : b ≠ 0) : 0 < (Int.gcd a b : Int) := by
  have : 0 < Int.gcd a b := Int.gcd_pos_iff.mpr (.inr h)
  omega
theorem gcd_le {a b : Int} (h : b ≠ 0) : Int.gcd a b ≤ b.natAbs := Nat.le_of_dvd (by omega) (Nat.gcd_dvd_right _ _)
theorem okDiv_gcd {a b x : Int} (h : b ≠ 0) (hb : b.natAbs < fuel) : okDiv x (Int.gcd a b : Int) = true := by
  have h1 := gcd_pos (a := a) h
  have h2 := gcd_le (a := a) h
  refine decide_eq_true ⟨by omega, .inr ⟨h1, ?_⟩⟩
  have h3 : ((Int.gcd a b : Int)).natAbs < 2 ^ 4000 := by rw [Int.natAbs_natCast]; exact Nat.lt_of_le_of_lt h2 (show b.natAbs < 2 ^ 4000 from hb)
  have h4 := (Nat.log2_lt (n := ((Int.gcd a b : Int)).natAbs) (k := 4000) (by omega)).mpr h3
  omega
theorem okMul_of {a b : Int} (ha : a.natAbs < fuel) (hb : b.natAbs < fuel) : okMul a b = true := by
  refine decide_eq_true (.inr ?_)
  have l : ∀ n : Nat, n < 2 ^ 4000 → n.log2 < 4001 := fun n h => by
    by_cases hn : n = 0
    · subst hn
      decide
    · have := (Nat.log2_lt (n := n) (k := 4000) hn).mpr h
      omega
  have h1 := l _ ha
  have h2 := l _ hb
  clear ha hb l
  omega
theorem share_ok (a b : Int) (p : Pool) (h0 : 0 < b) (hb : b.natAbs < fuel) : m_Share_init [.int a, .int b] p = .ok (sh (lw a b)) p := by
  have e0 : decide (b = 0) = false := decide_eq_false (by omega)
  have e1 : decide (b < 0) = false := decide_eq_false (by omega)
  have e2 : ∀ q, m_common_of [.int a, .int b] q = .ok (.int (Int.gcd a b : Int)) q := fun q => common_ok a b q hb
  have e3 : ∀ x, okDiv x (Int.gcd a b : Int) = true := fun x => okDiv_gcd (by omega) hb
  have e4 : ∀ x p, m_is_whole [.int x] p = .ok (.bl true) p := whole_ok
  have e5 : thaw fldT p.length (p ++ [.obj 0 [.int (a.fdiv (Int.gcd a b : Int)), .int (b.fdiv (Int.gcd a b : Int))]]) (.own p.length) = some (sh (lw a b)) := thaw_obj rfl rfl
  unfold m_Share_init b_Share_init
  simp only [fnM, fnO, sSeq, sAsg, sIf, sRet, sNop, sSet, sExpr, mBin, mB, mVar, mC, mCall, mCons, mNil, mTup, mLst, mLstO, mFn, mAnd, mOr, mNot, mNeg, mIsi, mYes, itS, itE, itR1, tgN, tgT, tgCons, tgNil, mSl, oNo, oYes, Res.bind, Res.run, Ctl.andThen, En.set, En.sets, f2I, f2C, wipeE, pAdd, pSub, pMul, pDiv, pMod, pPow, pLt, pLe, pGt, pGe, pIx, cLen, cInt, List.map_cons, List.map_nil, List.length_cons, List.length_nil, List.replicate, List.append_nil, List.nil_append, List.cons_append, List.getElem?_cons_zero, List.getElem?_cons_succ, List.set_cons_zero, List.set_cons_succ, List.take_length, get_last, set_last, take_last, take_all1, len1, getL, getR, getQ, mAndV, mOrV, mNotV, mNeg, iniM, fnA, mIf, mChain, sPar, tyP, isT, pEq_int, pNe_int, pIx, cAbs, cMax, cMin, mFld, getF, R.sFld, put0, put1, put2, may_int, thaw_int, thaw_bl, thaw_non, if_true, Bool.not_true, Bool.not_false, atI_0, atI_1, atI_2, atI_3, ixN_30, ixN_31, ixN_32, R.sIx, take_set, Bool.false_eq_true, if_false, e0, e1, e2, e3, e4, e5, Bool.false_eq_true, if_false]
theorem less_ok (q r : Int × Int) (p : Pool) (h1 : q.1.natAbs < fuel) (h2 : q.2.natAbs < fuel) (h3 : r.1.natAbs < fuel) (h4 : r.2.natAbs < fuel) : m_less [sh q, sh r] p = .ok (.bl (decide (q.1 * r.2 < r.1 * q.2))) p := by
  have e1 := okMul_of h1 h4
  have e2 := okMul_of h3 h2
  unfold m_less b_less sh
  simp only [fnM, fnO, sSeq, sAsg, sIf, sRet, sNop, sSet, sExpr, mBin, mB, mVar, mC, mCall, mCons, mNil, mTup, mLst, mLstO, mFn, mAnd, mOr, mNot, mNeg, mIsi, mYes, itS, itE, itR1, tgN, tgT, tgCons, tgNil, mSl, oNo, oYes, Res.bind, Res.run, Ctl.andThen, En.set, En.sets, f2I, f2C, wipeE, pAdd, pSub, pMul, pDiv, pMod, pPow, pLt, pLe, pGt, pGe, pIx, cLen, cInt, List.map_cons, List.map_nil, List.length_cons, List.length_nil, List.replicate, List.append_nil, List.nil_append, List.cons_append, List.getElem?_cons_zero, List.getElem?_cons_succ, List.set_cons_zero, List.set_cons_succ, List.take_length, get_last, set_last, take_last, take_all1, len1, getL, getR, getQ, mAndV, mOrV, mNotV, mNeg, iniM, fnA, mIf, mChain, sPar, tyP, isT, pEq_int, pNe_int, pIx, cAbs, cMax, cMin, mFld, getF, R.sFld, put0, put1, put2, may_int, thaw_int, thaw_bl, thaw_non, if_true, Bool.not_true, Bool.not_false, atI_0, atI_1, atI_2, atI_3, ixN_30, ixN_31, ixN_32, R.sIx, take_set, Bool.false_eq_true, if_false, e1, e2]
theorem plus_ok (q r : Int × Int) (p : Pool) (h1 : q.1.natAbs < fuel) (h2 : q.2.natAbs < fuel) (h3 : r.1.natAbs < fuel) (h4 : r.2.natAbs < fuel) (h5 : 0 < q.2 * r.2) (h6 : (q.2 * r.2).natAbs < fuel) : m_plus [sh q, sh r] p = .ok (sh (lw (q.1 * r.2 + r.1 * q.2) (q.2 * r.2))) p := by
  have e1 := okMul_of h1 h4
  have e2 := okMul_of h3 h2
  have e3 := okMul_of h2 h4
  have e4 : ∀ p, m_Share_init [.int (q.1 * r.2 + r.1 * q.2), .int (q.2 * r.2)] p = _ := fun p => share_ok (q.1 * r.2 + r.1 * q.2) (q.2 * r.2) p h5 h6
  have e5 : ∀ n p x, thaw fldT n p (sh x) = some (sh x) := fun n p x => thaw_bel (bel_sh 0 x)
  have u : ∀ q, sh q = .obj 0 [.int q.1, .int q.2] := fun _ => rfl
  unfold m_plus b_plus
  rw [u q, u r]
  simp only [fnM, fnO, sSeq, sAsg, sIf, sRet, sNop, sSet, sExpr, mBin, mB, mVar, mC, mCall, mCons, mNil, mTup, mLst, mLstO, mFn, mAnd, mOr, mNot, mNeg, mIsi, mYes, itS, itE, itR1, tgN, tgT, tgCons, tgNil, mSl, oNo, oYes, Res.bind, Res.run, Ctl.andThen, En.set, En.sets, f2I, f2C, wipeE, pAdd, pSub, pMul, pDiv, pMod, pPow, pLt, pLe, pGt, pGe, pIx, cLen, cInt, List.map_cons, List.map_nil, List.length_cons, List.length_nil, List.replicate, List.append_nil, List.nil_append, List.cons_append, List.getElem?_cons_zero, List.getElem?_cons_succ, List.set_cons_zero, List.set_cons_succ, List.take_length, get_last, set_last, take_last, take_all1, len1, getL, getR, getQ, mAndV, mOrV, mNotV, mNeg, iniM, fnA, mIf, mChain, sPar, tyP, isT, pEq_int, pNe_int, pIx, cAbs, cMax, cMin, mFld, getF, R.sFld, put0, put1, put2, may_int, thaw_int, thaw_bl, thaw_non, if_true, Bool.not_true, Bool.not_false, atI_0, atI_1, atI_2, atI_3, ixN_30, ixN_31, ixN_32, R.sIx, take_set, Bool.false_eq_true, if_false, e1, e2, e3, e4, e5]
theorem times_ok (q r : Int × Int) (p : Pool) (h1 : q.1.natAbs < fuel) (h2 : q.2.natAbs < fuel) (h3 : r.1.natAbs < fuel) (h4 : r.2.natAbs < fuel) (h5 : 0 < q.2 * r.2) (h6 : (q.2 * r.2).natAbs < fuel) : m_times [sh q, sh r] p = .ok (sh (lw (q.1 * r.1) (q.2 * r.2))) p := by
  have e1 := okMul_of h1 h3
  have e3 := okMul_of h2 h4
  have e4 : ∀ p, m_Share_init [.int (q.1 * r.1), .int (q.2 * r.2)] p = _ := fun p => share_ok (q.1 * r.1) (q.2 * r.2) p h5 h6
  have e5 : ∀ n p x, thaw fldT n p (sh x) = some (sh x) := fun n p x => thaw_bel (bel_sh 0 x)
  have u : ∀ q, sh q = .obj 0 [.int q.1, .int q.2] := fun _ => rfl
  unfold m_times b_times
  rw [u q, u r]
  simp only [fnM, fnO, sSeq, sAsg, sIf, sRet, sNop, sSet, sExpr, mBin, mB, mVar, mC, mCall, mCons, mNil, mTup, mLst, mLstO, mFn, mAnd, mOr, mNot, mNeg, mIsi, mYes, itS, itE, itR1, tgN, tgT, tgCons, tgNil, mSl, oNo, oYes, Res.bind, Res.run, Ctl.andThen, En.set, En.sets, f2I, f2C, wipeE, pAdd, pSub, pMul, pDiv, pMod, pPow, pLt, pLe, pGt, pGe, pIx, cLen, cInt, List.map_cons, List.map_nil, List.length_cons, List.length_nil, List.replicate, List.append_nil, List.nil_append, List.cons_append, List.getElem?_cons_zero, List.getElem?_cons_succ, List.set_cons_zero, List.set_cons_succ, List.take_length, get_last, set_last, take_last, take_all1, len1, getL, getR, getQ, mAndV, mOrV, mNotV, mNeg, iniM, fnA, mIf, mChain, sPar, tyP, isT, pEq_int, pNe_int, pIx, cAbs, cMax, cMin, mFld, getF, R.sFld, put0, put1, put2, may_int, thaw_int, thaw_bl, thaw_non, if_true, Bool.not_true, Bool.not_false, atI_0, atI_1, atI_2, atI_3, ixN_30, ixN_31, ixN_32, R.sIx, take_set, Bool.false_eq_true, if_false, e1, e3, e4, e5]

/-- small enough to reckon with -/
structure Fr (q : Int × Int) : Prop where
  pos : 0 < q.2
  s1 : q.1.natAbs < 2 ^ 1900
  s2 : q.2.natAbs < 2 ^ 1900
def qadd (q r : Int × Int) : Int × Int := lw (q.1 * r.2 + r.1 * q.2) (q.2 * r.2)
def qmul (q r : Int × Int) : Int × Int := lw (q.1 * r.1) (q.2 * r.2)
def qlt (q r : Int × Int) : Bool := decide (q.1 * r.2 < r.1 * q.2)
theorem pow_fuel {n : Nat} (h : n < 2 ^ 1900) : n < fuel := Nat.lt_trans h (Nat.pow_lt_pow_right (by decide) (by decide : 1900 < 4000))
theorem mul_fuel {a b : Int} (h1 : a.natAbs < 2 ^ 1900) (h2 : b.natAbs < 2 ^ 1900) : (a * b).natAbs < fuel := by
  rw [Int.natAbs_mul]
  have h3 : a.natAbs * b.natAbs < 2 ^ 1900 * 2 ^ 1900 := Nat.mul_lt_mul'' h1 h2
  rw [← Nat.pow_add] at h3
  exact Nat.lt_trans h3 (Nat.pow_lt_pow_right (by decide) (by decide : 1900 + 1900 < 4000))
theorem plus_q {q r : Int × Int} (p : Pool) (a : Fr q) (b : Fr r) : m_plus [sh q, sh r] p = .ok (sh (qadd q r)) p :=
  plus_ok q r p (pow_fuel a.s1) (pow_fuel a.s2) (pow_fuel b.s1) (pow_fuel b.s2) (Int.mul_pos a.pos b.pos) (mul_fuel a.s2 b.s2)
theorem times_q {q r : Int × Int} (p : Pool) (a : Fr q) (b : Fr r) : m_times [sh q, sh r] p = .ok (sh (qmul q r)) p :=
  times_ok q r p (pow_fuel a.s1) (pow_fuel a.s2) (pow_fuel b.s1) (pow_fuel b.s2) (Int.mul_pos a.pos b.pos) (mul_fuel a.s2 b.s2)
theorem less_q {q r : Int × Int} (p : Pool) (a : Fr q) (b : Fr r) : m_less [sh q, sh r] p = .ok (.bl (qlt q r)) p :=
  less_ok q r p (pow_fuel a.s1) (pow_fuel a.s2) (pow_fuel b.s1) (pow_fuel b.s2)
theorem abs_eq (a : Int) : (if a < 0 then -a else a) = (a.natAbs : Int) := by split <;> omega
theorem lowered_ok (a b : Int) (p : Pool) (h0 : 0 < b) (hb : b.natAbs < fuel) : m_law_lowered [.int a, .int b] p = .ok (pr (lw a b)) p := by
  obtain ⟨en2, p2, e, rfl, hp⟩ := loopW_inv (t := mB (mBin pNe (mVar 3) (mC (.int 0)))) (body := sPar 2 3 (mCons (mVar 3) (mCons (mBin pMod (mVar 2) (mVar 3)) mNil)))
    (fun n en q => ∃ x y : Int, en = ⟨p.length, [some (.int a), some (.int b), some (.int x), some (.int y)]⟩ ∧ q = p ∧ 0 ≤ x ∧ 0 ≤ y ∧ Int.gcd x y = Int.gcd a b ∧ n = y.natAbs)
    (fun en q => en = ⟨p.length, [some (.int a), some (.int b), some (.int (Int.gcd a b : Int)), some (.int 0)]⟩ ∧ q = p) (fun n en q h => by
      obtain ⟨x, y, rfl, rfl, hx, hy0, hg, rfl⟩ := h
      refine ⟨!decide (y = 0), q, ?_, ?_⟩
      · simp only [fnM, fnO, sSeq, sAsg, sIf, sRet, sNop, sSet, sExpr, mBin, mB, mVar, mC, mCall, mCons, mNil, mTup, mLst, mLstO, mFn, mAnd, mOr, mNot, mNeg, mIsi, mYes, itS, itE, itR1, tgN, tgT, tgCons, tgNil, mSl, oNo, oYes, Res.bind, Res.run, Ctl.andThen, En.set, En.sets, f2I, f2C, wipeE, pAdd, pSub, pMul, pDiv, pMod, pPow, pLt, pLe, pGt, pGe, pIx, cLen, cInt, List.map_cons, List.map_nil, List.length_cons, List.length_nil, List.replicate, List.append_nil, List.nil_append, List.cons_append, List.getElem?_cons_zero, List.getElem?_cons_succ, List.set_cons_zero, List.set_cons_succ, List.take_length, get_last, set_last, take_last, take_all1, len1, getL, getR, getQ, mAndV, mOrV, mNotV, mNeg, iniM, fnA, mIf, mChain, sPar, tyP, isT, pEq_int, pNe_int, pIx, cAbs, cMax, cMin, mFld, getF, R.sFld, put0, put1, put2, may_int, thaw_int, thaw_bl, thaw_non, if_true, Bool.not_true, Bool.not_false, atI_0, atI_1, atI_2, atI_3, ixN_30, ixN_31, ixN_32, R.sIx, take_set, Bool.false_eq_true, if_false]
      by_cases hy : y = 0
      · subst hy
        refine .inl ⟨rfl, ?_, rfl⟩
        rw [← hg, Int.gcd_zero_right, Int.natAbs_of_nonneg hx]
      · refine .inr ⟨by rw [decide_eq_false hy]; rfl, ⟨q.length, [some (.int a), some (.int b), some (.int y), some (.int (x.fmod y))]⟩, q, (x.fmod y).natAbs, ?_, fmod_lt x hy, y, x.fmod y, rfl, rfl, hy0, Int.fmod_nonneg_of_pos _ (by omega), (gcd_step x y).trans hg, rfl⟩
        have e1 := okMod_ne (a := x) hy
        simp only [fnM, fnO, sSeq, sAsg, sIf, sRet, sNop, sSet, sExpr, mBin, mB, mVar, mC, mCall, mCons, mNil, mTup, mLst, mLstO, mFn, mAnd, mOr, mNot, mNeg, mIsi, mYes, itS, itE, itR1, tgN, tgT, tgCons, tgNil, mSl, oNo, oYes, Res.bind, Res.run, Ctl.andThen, En.set, En.sets, f2I, f2C, wipeE, pAdd, pSub, pMul, pDiv, pMod, pPow, pLt, pLe, pGt, pGe, pIx, cLen, cInt, List.map_cons, List.map_nil, List.length_cons, List.length_nil, List.replicate, List.append_nil, List.nil_append, List.cons_append, List.getElem?_cons_zero, List.getElem?_cons_succ, List.set_cons_zero, List.set_cons_succ, List.take_length, get_last, set_last, take_last, take_all1, len1, getL, getR, getQ, mAndV, mOrV, mNotV, mNeg, iniM, fnA, mIf, mChain, sPar, tyP, isT, pEq_int, pNe_int, pIx, cAbs, cMax, cMin, mFld, getF, R.sFld, put0, put1, put2, may_int, thaw_int, thaw_bl, thaw_non, if_true, Bool.not_true, Bool.not_false, atI_0, atI_1, atI_2, atI_3, ixN_30, ixN_31, ixN_32, R.sIx, take_set, Bool.false_eq_true, if_false, e1]
      )
    fuel b.natAbs ⟨p.length, [some (.int a), some (.int b), some (.int (a.natAbs : Int)), some (.int (b.natAbs : Int))]⟩ p hb ⟨a.natAbs, b.natAbs, rfl, rfl, by omega, by omega, by unfold Int.gcd; rw [Int.natAbs_natCast, Int.natAbs_natCast], by rw [Int.natAbs_natCast]⟩
  subst hp
  have e1 : decide (b < 0) = false := decide_eq_false (by omega)
  have e3 : ∀ x, okDiv x (Int.gcd a b : Int) = true := fun x => okDiv_gcd (by omega) hb
  have e5 : ∀ n p, thaw fldT n p (.tup [.int (a.fdiv (Int.gcd a b : Int)), .int (b.fdiv (Int.gcd a b : Int))]) = some (pr (lw a b)) := fun n p => thaw_bel rfl
  unfold m_law_lowered b_law_lowered
  generalize loopW _ _ fuel = W at e ⊢
  simp only [fnM, fnO, sSeq, sAsg, sIf, sRet, sNop, sSet, sExpr, mBin, mB, mVar, mC, mCall, mCons, mNil, mTup, mLst, mLstO, mFn, mAnd, mOr, mNot, mNeg, mIsi, mYes, itS, itE, itR1, tgN, tgT, tgCons, tgNil, mSl, oNo, oYes, Res.bind, Res.run, Ctl.andThen, En.set, En.sets, f2I, f2C, wipeE, pAdd, pSub, pMul, pDiv, pMod, pPow, pLt, pLe, pGt, pGe, pIx, cLen, cInt, List.map_cons, List.map_nil, List.length_cons, List.length_nil, List.replicate, List.append_nil, List.nil_append, List.cons_append, List.getElem?_cons_zero, List.getElem?_cons_succ, List.set_cons_zero, List.set_cons_succ, List.take_length, get_last, set_last, take_last, take_all1, len1, getL, getR, getQ, mAndV, mOrV, mNotV, mNeg, iniM, fnA, mIf, mChain, sPar, tyP, isT, pEq_int, pNe_int, pIx, cAbs, cMax, cMin, mFld, getF, R.sFld, put0, put1, put2, may_int, thaw_int, thaw_bl, thaw_non, if_true, Bool.not_true, Bool.not_false, atI_0, atI_1, atI_2, atI_3, ixN_30, ixN_31, ixN_32, R.sIx, take_set, Bool.false_eq_true, if_false, e, e1, e3, e5, abs_eq, Bool.false_eq_true, if_false]
theorem sum_q {q r : Int × Int} (p : Pool) (a : Fr q) (b : Fr r) : m_law_sum [pr q, pr r] p = .ok (pr (qadd q r)) p := by
  have e1 := okMul_of (pow_fuel a.s1) (pow_fuel b.s2)
  have e2 := okMul_of (pow_fuel b.s1) (pow_fuel a.s2)
  have e3 := okMul_of (pow_fuel a.s2) (pow_fuel b.s2)
  have e4 : ∀ p, m_law_lowered [.int (q.1 * r.2 + r.1 * q.2), .int (q.2 * r.2)] p = _ := fun p => lowered_ok (q.1 * r.2 + r.1 * q.2) (q.2 * r.2) p (Int.mul_pos a.pos b.pos) (mul_fuel a.s2 b.s2)
  have e5 : ∀ n p x, thaw fldT n p (pr x) = some (pr x) := fun n p x => thaw_bel (bel_pr 0 x)
  have u : ∀ q, pr q = .tup [.int q.1, .int q.2] := fun _ => rfl
  have a0 : ∀ x y : PV, atI [x, y] 0 = some x := fun _ _ => rfl
  have a1 : ∀ x y : PV, atI [x, y] 1 = some y := fun _ _ => rfl
  unfold m_law_sum b_law_sum
  rw [u q, u r]
  simp only [fnM, fnO, sSeq, sAsg, sIf, sRet, sNop, sSet, sExpr, mBin, mB, mVar, mC, mCall, mCons, mNil, mTup, mLst, mLstO, mFn, mAnd, mOr, mNot, mNeg, mIsi, mYes, itS, itE, itR1, tgN, tgT, tgCons, tgNil, mSl, oNo, oYes, Res.bind, Res.run, Ctl.andThen, En.set, En.sets, f2I, f2C, wipeE, pAdd, pSub, pMul, pDiv, pMod, pPow, pLt, pLe, pGt, pGe, pIx, cLen, cInt, List.map_cons, List.map_nil, List.length_cons, List.length_nil, List.replicate, List.append_nil, List.nil_append, List.cons_append, List.getElem?_cons_zero, List.getElem?_cons_succ, List.set_cons_zero, List.set_cons_succ, List.take_length, get_last, set_last, take_last, take_all1, len1, getL, getR, getQ, mAndV, mOrV, mNotV, mNeg, iniM, fnA, mIf, mChain, sPar, tyP, isT, pEq_int, pNe_int, pIx, cAbs, cMax, cMin, mFld, getF, R.sFld, put0, put1, put2, may_int, thaw_int, thaw_bl, thaw_non, if_true, Bool.not_true, Bool.not_false, atI_0, atI_1, atI_2, atI_3, ixN_30, ixN_31, ixN_32, R.sIx, take_set, Bool.false_eq_true, if_false, e1, e2, e3, e4, e5, a0, a1]
  rfl
theorem product_q {q r : Int × Int} (p : Pool) (a : Fr q) (b : Fr r) : m_law_product [pr q, pr r] p = .ok (pr (qmul q r)) p := by
  have e1 := okMul_of (pow_fuel a.s1) (pow_fuel b.s1)
  have e3 := okMul_of (pow_fuel a.s2) (pow_fuel b.s2)
  have e4 : ∀ p, m_law_lowered [.int (q.1 * r.1), .int (q.2 * r.2)] p = _ := fun p => lowered_ok (q.1 * r.1) (q.2 * r.2) p (Int.mul_pos a.pos b.pos) (mul_fuel a.s2 b.s2)
  have e5 : ∀ n p x, thaw fldT n p (pr x) = some (pr x) := fun n p x => thaw_bel (bel_pr 0 x)
  have u : ∀ q, pr q = .tup [.int q.1, .int q.2] := fun _ => rfl
  have a0 : ∀ x y : PV, atI [x, y] 0 = some x := fun _ _ => rfl
  have a1 : ∀ x y : PV, atI [x, y] 1 = some y := fun _ _ => rfl
  unfold m_law_product b_law_product
  rw [u q, u r]
  simp only [fnM, fnO, sSeq, sAsg, sIf, sRet, sNop, sSet, sExpr, mBin, mB, mVar, mC, mCall, mCons, mNil, mTup, mLst, mLstO, mFn, mAnd, mOr, mNot, mNeg, mIsi, mYes, itS, itE, itR1, tgN, tgT, tgCons, tgNil, mSl, oNo, oYes, Res.bind, Res.run, Ctl.andThen, En.set, En.sets, f2I, f2C, wipeE, pAdd, pSub, pMul, pDiv, pMod, pPow, pLt, pLe, pGt, pGe, pIx, cLen, cInt, List.map_cons, List.map_nil, List.length_cons, List.length_nil, List.replicate, List.append_nil, List.nil_append, List.cons_append, List.getElem?_cons_zero, List.getElem?_cons_succ, List.set_cons_zero, List.set_cons_succ, List.take_length, get_last, set_last, take_last, take_all1, len1, getL, getR, getQ, mAndV, mOrV, mNotV, mNeg, iniM, fnA, mIf, mChain, sPar, tyP, isT, pEq_int, pNe_int, pIx, cAbs, cMax, cMin, mFld, getF, R.sFld, put0, put1, put2, may_int, thaw_int, thaw_bl, thaw_non, if_true, Bool.not_true, Bool.not_false, atI_0, atI_1, atI_2, atI_3, ixN_30, ixN_31, ixN_32, R.sIx, take_set, Bool.false_eq_true, if_false, e1, e3, e4, e5, a0, a1]
  rfl
theorem mixed_ok (c k : Int) (p : Pool) : ∃ d : Int, m_law_mixed [.int c, .int k] p = .ok (.int d) p := by
  have e1 : ∀ x, okMod x 2147483629 = true := fun _ => rfl
  have e2 : ∀ x, okMod x 2147483587 = true := fun _ => rfl
  have e3 : ∀ x, okMod x 2147483563 = true := fun _ => rfl
  have e4 : ∀ x, okDiv x 2147483629 = true := fun _ => by
    unfold okDiv
    exact decide_eq_true ⟨by decide, .inr ⟨by decide, by decide⟩⟩
  have e5 : ∀ x, okDiv x 907 = true := fun _ => rfl
  have e6 : ∀ x, okDiv x 1201 = true := fun _ => rfl
  have e7 : ∀ x, okMul x 30011 = true := fun _ => decide_eq_true (.inl (.inr (by decide)))
  have e8 : ∀ x, okMul 69621 x = true := fun _ => decide_eq_true (.inl (.inl (by decide)))
  have e9 : ∀ x, okMul x 48271 = true := fun _ => decide_eq_true (.inl (.inr (by decide)))
  have f1 : ∀ x y : Int, okMul (x.fmod 2147483629) y = true := fun x y => by
    have h1 := Int.fmod_nonneg_of_pos x (b := 2147483629) (by decide)
    have h2 := Int.fmod_lt_of_pos x (b := 2147483629) (by decide)
    exact decide_eq_true (.inl (.inl (by omega)))
  have f2 : ∀ x y : Int, okMul (x.fmod 2147483587) y = true := fun x y => by
    have h1 := Int.fmod_nonneg_of_pos x (b := 2147483587) (by decide)
    have h2 := Int.fmod_lt_of_pos x (b := 2147483587) (by decide)
    exact decide_eq_true (.inl (.inl (by omega)))
  unfold m_law_mixed b_law_mixed
  simp only [fnM, fnO, sSeq, sAsg, sIf, sRet, sNop, sSet, sExpr, mBin, mB, mVar, mC, mCall, mCons, mNil, mTup, mLst, mLstO, mFn, mAnd, mOr, mNot, mNeg, mIsi, mYes, itS, itE, itR1, tgN, tgT, tgCons, tgNil, mSl, oNo, oYes, Res.bind, Res.run, Ctl.andThen, En.set, En.sets, f2I, f2C, wipeE, pAdd, pSub, pMul, pDiv, pMod, pPow, pLt, pLe, pGt, pGe, pIx, cLen, cInt, List.map_cons, List.map_nil, List.length_cons, List.length_nil, List.replicate, List.append_nil, List.nil_append, List.cons_append, List.getElem?_cons_zero, List.getElem?_cons_succ, List.set_cons_zero, List.set_cons_succ, List.take_length, get_last, set_last, take_last, take_all1, len1, getL, getR, getQ, mAndV, mOrV, mNotV, mNeg, iniM, fnA, mIf, mChain, sPar, tyP, isT, pEq_int, pNe_int, pIx, cAbs, cMax, cMin, mFld, getF, R.sFld, put0, put1, put2, may_int, thaw_int, thaw_bl, thaw_non, if_true, Bool.not_true, Bool.not_false, atI_0, atI_1, atI_2, atI_3, ixN_30, ixN_31, ixN_32, R.sIx, take_set, Bool.false_eq_true, if_false, e1, e2, e3, e4, e5, e6, e7, e8, e9, f1, f2]
  exact ⟨_, rfl⟩
/-- a source's cell -/
def IsSrc (s : Cell) : Prop := ∃ a b c : Int, s = .lst [.int a, .int b, .int c]
def Src (p : Pool) (k : Nat) : Prop := ∃ s, p[k]? = some s ∧ IsSrc s
theorem Src.lt {p : Pool} {k : Nat} (h : Src p k) : k < p.length := by
  obtain ⟨s, e, _⟩ := h
  exact (List.getElem?_eq_some_iff.mp e).1
theorem Src.set {p : Pool} {k : Nat} (h : Src p k) {s : Cell} (hs : IsSrc s) : Src (p.set k s) k := ⟨s, List.getElem?_set_self h.lt, hs⟩
theorem next_ok (p : Pool) (k : Nat) (many : Int) (h : Src p k) (h1 : 0 < many) (h2 : many < 2 ^ 200) : ∃ (d : Int) (s : Cell), m_law_next [.own k, .int many] p = .ok (.int d) (p.set k s) ∧ IsSrc s ∧ 0 ≤ d ∧ d < many := by
  have hl := h.lt
  obtain ⟨_, hk, a, b, c, rfl⟩ := h
  have g1 : ∀ c : Cell, (p.set k c)[k]? = some c := fun c => List.getElem?_set_self hl
  have em : ∀ x, okMod x many = true := fun x => decide_eq_true (by omega)
  have ed : ∀ x, okDiv x many = true := fun x => by
    refine decide_eq_true ⟨by omega, .inr ⟨h1, ?_⟩⟩
    have := (Nat.log2_lt (n := many.natAbs) (k := 200) (by omega)).mpr (by omega)
    omega
  have ep : okPow 10 18 = true := rfl
  by_cases h : (10 : Int) ^ (18 : Int).toNat ≤ a
  · have eh : decide ((10 : Int) ^ (18 : Int).toNat ≤ a) = true := decide_eq_true h
    refine ⟨a.fmod many, .lst [.int (a.fdiv many), .int b, .int c], ?_, ⟨_, _, _, rfl⟩, Int.fmod_nonneg_of_pos _ h1, Int.fmod_lt_of_pos _ h1⟩
    unfold m_law_next b_law_next
    simp only [fnM, fnO, sSeq, sAsg, sIf, sRet, sNop, sSet, sExpr, mBin, mB, mVar, mC, mCall, mCons, mNil, mTup, mLst, mLstO, mFn, mAnd, mOr, mNot, mNeg, mIsi, mYes, itS, itE, itR1, tgN, tgT, tgCons, tgNil, mSl, oNo, oYes, Res.bind, Res.run, Ctl.andThen, En.set, En.sets, f2I, f2C, wipeE, pAdd, pSub, pMul, pDiv, pMod, pPow, pLt, pLe, pGt, pGe, pIx, cLen, cInt, List.map_cons, List.map_nil, List.length_cons, List.length_nil, List.replicate, List.append_nil, List.nil_append, List.cons_append, List.getElem?_cons_zero, List.getElem?_cons_succ, List.set_cons_zero, List.set_cons_succ, List.take_length, get_last, set_last, take_last, take_all1, len1, getL, getR, getQ, mAndV, mOrV, mNotV, mNeg, iniM, fnA, mIf, mChain, sPar, tyP, isT, pEq_int, pNe_int, pIx, cAbs, cMax, cMin, mFld, getF, R.sFld, put0, put1, put2, may_int, thaw_int, thaw_bl, thaw_non, if_true, Bool.not_true, Bool.not_false, atI_0, atI_1, atI_2, atI_3, ixN_30, ixN_31, ixN_32, R.sIx, take_set, Bool.false_eq_true, if_false, hk, g1, em, ed, eh, ep]
  · have eh : decide ((10 : Int) ^ (18 : Int).toNat ≤ a) = false := decide_eq_false h
    obtain ⟨d, hd⟩ : ∃ d : Int, m_law_mixed [.int b, .int (c + 1)] (p.set k (.lst [.int a, .int b, .int (c + 1)])) = .ok (.int d) _ := mixed_ok b (c + 1) _
    refine ⟨d.fmod many, .lst [.int a, .int b, .int (c + 1)], ?_, ⟨_, _, _, rfl⟩, Int.fmod_nonneg_of_pos _ h1, Int.fmod_lt_of_pos _ h1⟩
    unfold m_law_next b_law_next
    simp only [fnM, fnO, sSeq, sAsg, sIf, sRet, sNop, sSet, sExpr, mBin, mB, mVar, mC, mCall, mCons, mNil, mTup, mLst, mLstO, mFn, mAnd, mOr, mNot, mNeg, mIsi, mYes, itS, itE, itR1, tgN, tgT, tgCons, tgNil, mSl, oNo, oYes, Res.bind, Res.run, Ctl.andThen, En.set, En.sets, f2I, f2C, wipeE, pAdd, pSub, pMul, pDiv, pMod, pPow, pLt, pLe, pGt, pGe, pIx, cLen, cInt, List.map_cons, List.map_nil, List.length_cons, List.length_nil, List.replicate, List.append_nil, List.nil_append, List.cons_append, List.getElem?_cons_zero, List.getElem?_cons_succ, List.set_cons_zero, List.set_cons_succ, List.take_length, get_last, set_last, take_last, take_all1, len1, getL, getR, getQ, mAndV, mOrV, mNotV, mNeg, iniM, fnA, mIf, mChain, sPar, tyP, isT, pEq_int, pNe_int, pIx, cAbs, cMax, cMin, mFld, getF, R.sFld, put0, put1, put2, may_int, thaw_int, thaw_bl, thaw_non, if_true, Bool.not_true, Bool.not_false, atI_0, atI_1, atI_2, atI_3, ixN_30, ixN_31, ixN_32, R.sIx, take_set, Bool.false_eq_true, if_false, hk, g1, em, ed, eh, ep, hd]
theorem getL_len {p : Pool} {x : PV} {xs : List PV} (e : getQ p x = some xs) : cLen [x] p = .ok (.int xs.length) p := by
  unfold cLen
  dsimp only
  rw [e]
theorem pick_ok (p : Pool) (k : Nat) (xs : List PV) (h : Src p k) (h1 : 0 < xs.length) (h2 : xs.length < 2 ^ 100) (hb : bels 0 xs = true) : ∃ (x : PV) (s : Cell), m_law_pick [.own k, .lst xs] p = .ok x (p.set k s) ∧ IsSrc s ∧ x ∈ xs := by
  obtain ⟨d, s, e, hs, d0, d1⟩ := next_ok p k xs.length h (by omega) (by omega)
  obtain ⟨x, hx, ex⟩ := atI_mem xs d d0 d1
  refine ⟨x, s, ?_, hs, hx⟩
  have et : ∀ n q, thaw fldT n q x = some x := fun n q => thaw_bel (bels_iff.mp hb x hx)
  unfold m_law_pick b_law_pick
  simp only [fnM, fnO, sSeq, sAsg, sIf, sRet, sNop, sSet, sExpr, mBin, mB, mVar, mC, mCall, mCons, mNil, mTup, mLst, mLstO, mFn, mAnd, mOr, mNot, mNeg, mIsi, mYes, itS, itE, itR1, tgN, tgT, tgCons, tgNil, mSl, oNo, oYes, Res.bind, Res.run, Ctl.andThen, En.set, En.sets, f2I, f2C, wipeE, pAdd, pSub, pMul, pDiv, pMod, pPow, pLt, pLe, pGt, pGe, pIx, cLen, cInt, List.map_cons, List.map_nil, List.length_cons, List.length_nil, List.replicate, List.append_nil, List.nil_append, List.cons_append, List.getElem?_cons_zero, List.getElem?_cons_succ, List.set_cons_zero, List.set_cons_succ, List.take_length, get_last, set_last, take_last, take_all1, len1, getL, getR, getQ, mAndV, mOrV, mNotV, mNeg, iniM, fnA, mIf, mChain, sPar, tyP, isT, pEq_int, pNe_int, pIx, cAbs, cMax, cMin, mFld, getF, R.sFld, put0, put1, put2, may_int, thaw_int, thaw_bl, thaw_non, if_true, Bool.not_true, Bool.not_false, atI_0, atI_1, atI_2, atI_3, ixN_30, ixN_31, ixN_32, R.sIx, take_set, Bool.false_eq_true, if_false, e, ex, et]
theorem source_ok (ns : List Int) (k : Nat) (p : Pool) : ∃ s, m_law_source [.scr ns, .int k] p = .ok (.own p.length) (p ++ [s]) ∧ IsSrc s := by
  have hb : ∀ a b c : Int, bels p.length [.int a, .int b, .int c] = true := fun _ _ _ => rfl
  have hlen : ((ns.map PV.int).length : Int) = ns.length := by rw [List.length_map]
  by_cases h : (k : Int) < ns.length
  · have eh : decide ((k : Int) < ns.length) = true := decide_eq_true h
    have hk : k < ns.length := by omega
    have ea : atI (ns.map PV.int) (k : Int) = some (.int ns[k]) := by
      rw [R.atI_nat, List.getElem?_map, List.getElem?_eq_getElem hk]
      rfl
    refine ⟨.lst [.int ns[k], .int ns[k], .int 0], ?_, ⟨_, _, _, rfl⟩⟩
    unfold m_law_source b_law_source
    simp only [fnM, fnO, sSeq, sAsg, sIf, sRet, sNop, sSet, sExpr, mBin, mB, mVar, mC, mCall, mCons, mNil, mTup, mLst, mLstO, mFn, mAnd, mOr, mNot, mNeg, mIsi, mYes, itS, itE, itR1, tgN, tgT, tgCons, tgNil, mSl, oNo, oYes, Res.bind, Res.run, Ctl.andThen, En.set, En.sets, f2I, f2C, wipeE, pAdd, pSub, pMul, pDiv, pMod, pPow, pLt, pLe, pGt, pGe, pIx, cLen, cInt, List.map_cons, List.map_nil, List.length_cons, List.length_nil, List.replicate, List.append_nil, List.nil_append, List.cons_append, List.getElem?_cons_zero, List.getElem?_cons_succ, List.set_cons_zero, List.set_cons_succ, List.take_length, get_last, set_last, take_last, take_all1, len1, getL, getR, getQ, mAndV, mOrV, mNotV, mNeg, iniM, fnA, mIf, mChain, sPar, tyP, isT, pEq_int, pNe_int, pIx, cAbs, cMax, cMin, mFld, getF, R.sFld, put0, put1, put2, may_int, thaw_int, thaw_bl, thaw_non, if_true, Bool.not_true, Bool.not_false, atI_0, atI_1, atI_2, atI_3, ixN_30, ixN_31, ixN_32, R.sIx, take_set, Bool.false_eq_true, if_false, List.length_map, eh, ea, hb]
  · have eh : decide ((k : Int) < ns.length) = false := decide_eq_false h
    obtain ⟨z, hz⟩ : ∃ z : Int, m_law_cell_at [.scr ns, .int 0] p = .ok (.int z) p := by
      by_cases h0 : (0 : Int) < ns.length
      · have e0 : decide ((0 : Int) < ns.length) = true := decide_eq_true h0
        have ea : atI (ns.map PV.int) 0 = some (.int (ns[0]'(by omega))) := by
          have := R.atI_nat (ns.map PV.int) 0
          rw [show ((0 : Nat) : Int) = 0 from rfl] at this
          rw [this, List.getElem?_map, List.getElem?_eq_getElem (by omega)]
          rfl
        refine ⟨ns[0]'(by omega), ?_⟩
        unfold m_law_cell_at b_law_cell_at
        simp only [fnM, fnO, sSeq, sAsg, sIf, sRet, sNop, sSet, sExpr, mBin, mB, mVar, mC, mCall, mCons, mNil, mTup, mLst, mLstO, mFn, mAnd, mOr, mNot, mNeg, mIsi, mYes, itS, itE, itR1, tgN, tgT, tgCons, tgNil, mSl, oNo, oYes, Res.bind, Res.run, Ctl.andThen, En.set, En.sets, f2I, f2C, wipeE, pAdd, pSub, pMul, pDiv, pMod, pPow, pLt, pLe, pGt, pGe, pIx, cLen, cInt, List.map_cons, List.map_nil, List.length_cons, List.length_nil, List.replicate, List.append_nil, List.nil_append, List.cons_append, List.getElem?_cons_zero, List.getElem?_cons_succ, List.set_cons_zero, List.set_cons_succ, List.take_length, get_last, set_last, take_last, take_all1, len1, getL, getR, getQ, mAndV, mOrV, mNotV, mNeg, iniM, fnA, mIf, mChain, sPar, tyP, isT, pEq_int, pNe_int, pIx, cAbs, cMax, cMin, mFld, getF, R.sFld, put0, put1, put2, may_int, thaw_int, thaw_bl, thaw_non, if_true, Bool.not_true, Bool.not_false, atI_0, atI_1, atI_2, atI_3, ixN_30, ixN_31, ixN_32, R.sIx, take_set, Bool.false_eq_true, if_false, List.length_map, e0, ea]
      · have e0 : decide ((0 : Int) < ns.length) = false := decide_eq_false h0
        refine ⟨0, ?_⟩
        unfold m_law_cell_at b_law_cell_at
        simp only [fnM, fnO, sSeq, sAsg, sIf, sRet, sNop, sSet, sExpr, mBin, mB, mVar, mC, mCall, mCons, mNil, mTup, mLst, mLstO, mFn, mAnd, mOr, mNot, mNeg, mIsi, mYes, itS, itE, itR1, tgN, tgT, tgCons, tgNil, mSl, oNo, oYes, Res.bind, Res.run, Ctl.andThen, En.set, En.sets, f2I, f2C, wipeE, pAdd, pSub, pMul, pDiv, pMod, pPow, pLt, pLe, pGt, pGe, pIx, cLen, cInt, List.map_cons, List.map_nil, List.length_cons, List.length_nil, List.replicate, List.append_nil, List.nil_append, List.cons_append, List.getElem?_cons_zero, List.getElem?_cons_succ, List.set_cons_zero, List.set_cons_succ, List.take_length, get_last, set_last, take_last, take_all1, len1, getL, getR, getQ, mAndV, mOrV, mNotV, mNeg, iniM, fnA, mIf, mChain, sPar, tyP, isT, pEq_int, pNe_int, pIx, cAbs, cMax, cMin, mFld, getF, R.sFld, put0, put1, put2, may_int, thaw_int, thaw_bl, thaw_non, if_true, Bool.not_true, Bool.not_false, atI_0, atI_1, atI_2, atI_3, ixN_30, ixN_31, ixN_32, R.sIx, take_set, Bool.false_eq_true, if_false, List.length_map, e0]
    obtain ⟨d, hd⟩ : ∃ d : Int, m_law_mixed [.int z, .int (1000 + k)] p = .ok (.int d) _ := mixed_ok z (1000 + k) p
    refine ⟨.lst [.int d, .int d, .int 0], ?_, ⟨_, _, _, rfl⟩⟩
    unfold m_law_source b_law_source
    simp only [fnM, fnO, sSeq, sAsg, sIf, sRet, sNop, sSet, sExpr, mBin, mB, mVar, mC, mCall, mCons, mNil, mTup, mLst, mLstO, mFn, mAnd, mOr, mNot, mNeg, mIsi, mYes, itS, itE, itR1, tgN, tgT, tgCons, tgNil, mSl, oNo, oYes, Res.bind, Res.run, Ctl.andThen, En.set, En.sets, f2I, f2C, wipeE, pAdd, pSub, pMul, pDiv, pMod, pPow, pLt, pLe, pGt, pGe, pIx, cLen, cInt, List.map_cons, List.map_nil, List.length_cons, List.length_nil, List.replicate, List.append_nil, List.nil_append, List.cons_append, List.getElem?_cons_zero, List.getElem?_cons_succ, List.set_cons_zero, List.set_cons_succ, List.take_length, get_last, set_last, take_last, take_all1, len1, getL, getR, getQ, mAndV, mOrV, mNotV, mNeg, iniM, fnA, mIf, mChain, sPar, tyP, isT, pEq_int, pNe_int, pIx, cAbs, cMax, cMin, mFld, getF, R.sFld, put0, put1, put2, may_int, thaw_int, thaw_bl, thaw_non, if_true, Bool.not_true, Bool.not_false, atI_0, atI_1, atI_2, atI_3, ixN_30, ixN_31, ixN_32, R.sIx, take_set, Bool.false_eq_true, if_false, List.length_map, eh, hz, hd, hb]

theorem next_set (p : Pool) (k : Nat) (s0 : Cell) (many : Int) (hl : k < p.length) (h0 : IsSrc s0) (h1 : 0 < many) (h2 : many < 2 ^ 200) : ∃ (d : Int) (s : Cell), m_law_next [.own k, .int many] (p.set k s0) = .ok (.int d) (p.set k s) ∧ IsSrc s ∧ 0 ≤ d ∧ d < many := by
  obtain ⟨d, s, e, hs, d0, d1⟩ := next_ok (p.set k s0) k many ⟨s0, List.getElem?_set_self hl, h0⟩ h1 h2
  rw [List.set_set] at e
  exact ⟨d, s, e, hs, d0, d1⟩
/-- in lowest terms, with a bottom above nothing -/
structure Co (q : Int × Int) : Prop where
  pos : 0 < q.2
  co : Int.gcd q.1 q.2 = 1
theorem fdiv_gcd {a b : Int} : (a.fdiv (Int.gcd a b : Int)) * (Int.gcd a b : Int) = a := Int.fdiv_mul_cancel (Int.gcd_dvd_left a b)
theorem fdiv_gcd2 {a b : Int} : (b.fdiv (Int.gcd a b : Int)) * (Int.gcd a b : Int) = b := Int.fdiv_mul_cancel (Int.gcd_dvd_right a b)
theorem lw_co {a b : Int} (h : 0 < b) : Co (lw a b) := by
  have hg := gcd_pos (a := a) (b := b) (by omega)
  have e1 := fdiv_gcd (a := a) (b := b)
  have e2 := fdiv_gcd2 (a := a) (b := b)
  refine ⟨?_, ?_⟩
  · show 0 < b.fdiv _
    rcases Int.lt_or_le 0 (b.fdiv (Int.gcd a b : Int)) with z | z
    · exact z
    · have := Int.mul_le_mul_of_nonneg_right z (Int.le_of_lt hg)
      rw [e2, Int.zero_mul] at this
      omega
  · have h3 : Int.gcd (a.fdiv (Int.gcd a b : Int) * (Int.gcd a b : Int)) (b.fdiv (Int.gcd a b : Int) * (Int.gcd a b : Int)) = Int.gcd (a.fdiv (Int.gcd a b : Int)) (b.fdiv (Int.gcd a b : Int)) * Int.gcd a b := by
      rw [Int.gcd_mul_right, Int.natAbs_natCast]
    rw [e1, e2] at h3
    have h4 : 0 < Int.gcd a b := by omega
    have h5 : 1 * Int.gcd a b = Int.gcd (a.fdiv (Int.gcd a b : Int)) (b.fdiv (Int.gcd a b : Int)) * Int.gcd a b := by rw [Nat.one_mul]; exact h3
    exact (Nat.eq_of_mul_eq_mul_right h4 h5).symm
theorem lw_self {q : Int × Int} (h : Co q) : lw q.1 q.2 = q := by
  unfold lw
  rw [h.co]
  show (q.1.fdiv 1, q.2.fdiv 1) = q
  rw [Int.fdiv_one, Int.fdiv_one]
/-- what a mark can be -/
structure Mark (q : Int × Int) : Prop where
  co : Co q
  b : q.2 ≤ 7
  t : q.1.natAbs ≤ 39
theorem lw_le {a b : Int} (h : 0 < b) : (lw a b).2 ≤ b ∧ (lw a b).1.natAbs ≤ a.natAbs := by
  have hg := gcd_pos (a := a) (b := b) (by omega)
  have e1 := fdiv_gcd (a := a) (b := b)
  have e2 := fdiv_gcd2 (a := a) (b := b)
  have hp := (lw_co (a := a) h).pos
  refine ⟨?_, ?_⟩
  · show b.fdiv (Int.gcd a b : Int) ≤ b
    have h1 : b.fdiv (Int.gcd a b : Int) * 1 ≤ b.fdiv (Int.gcd a b : Int) * (Int.gcd a b : Int) := Int.mul_le_mul_of_nonneg_left (by omega) (Int.le_of_lt hp)
    omega
  · show (a.fdiv (Int.gcd a b : Int)).natAbs ≤ a.natAbs
    have h1 : (a.fdiv (Int.gcd a b : Int)).natAbs * 1 ≤ (a.fdiv (Int.gcd a b : Int)).natAbs * Int.gcd a b := Nat.mul_le_mul_left _ (by omega)
    have h2 : (a.fdiv (Int.gcd a b : Int)).natAbs * Int.gcd a b = a.natAbs := by
      have h3 : (a.fdiv (Int.gcd a b : Int)).natAbs * ((Int.gcd a b : Int)).natAbs = a.natAbs := by rw [← Int.natAbs_mul, e1]
      rw [Int.natAbs_natCast] at h3
      exact h3
    omega
theorem small_fuel {n : Nat} (h : n < 2 ^ 64) : n < fuel := Nat.lt_trans h (Nat.pow_lt_pow_right (by decide) (by decide : 64 < 4000))
theorem mark_ok (p : Pool) (k : Nat) (s0 : Cell) (hl : k < p.length) (h0 : IsSrc s0) : ∃ (q : Int × Int) (s : Cell), m_law_mark [.own k] (p.set k s0) = .ok (pr q) (p.set k s) ∧ IsSrc s ∧ Mark q := by
  obtain ⟨d1, s1, e1, h1, a1, b1⟩ := next_set p k s0 5 hl h0 (by decide) (by decide)
  obtain ⟨d2, s2, e2, h2, a2, b2⟩ := next_set p k s1 40 hl h1 (by decide) (by decide)
  obtain ⟨d3, s3, e3, h3, a3, b3⟩ := next_set p k s2 4 hl h2 (by decide) (by decide)
  obtain ⟨d4, s4, e4, h4, a4, b4⟩ := next_set p k s3 7 hl h3 (by decide) (by decide)
  obtain ⟨d5, s5, e5, h5, a5, b5⟩ := next_set p k s4 5 hl h4 (by decide) (by decide)
  have f1 : d4.fdiv 3 = d4 / 3 := Int.fdiv_eq_ediv_of_nonneg _ (by decide)
  obtain ⟨x, hx, ex⟩ := atI_mem [PV.int d1, .int d2, .int (0 - d3)] (d4.fdiv 3) (by rw [f1]; omega) (by rw [f1]; show d4 / 3 < 3; omega)
  obtain ⟨y, hy, ey⟩ := atI_mem [PV.int 1, .int 1, .int 2, .int 3, .int 7] d5 a5 b5
  obtain ⟨w, rfl, hw⟩ : ∃ w : Int, x = .int w ∧ w.natAbs ≤ 39 := by
    simp only [List.mem_cons, List.not_mem_nil, or_false] at hx
    rcases hx with rfl | rfl | rfl
    · exact ⟨_, rfl, by omega⟩
    · exact ⟨_, rfl, by omega⟩
    · exact ⟨_, rfl, by omega⟩
  obtain ⟨z, rfl, hz1, hz2⟩ : ∃ w : Int, y = .int w ∧ 0 < w ∧ w ≤ 7 := by
    simp only [List.mem_cons, List.not_mem_nil, or_false] at hy
    rcases hy with rfl | rfl | rfl | rfl | rfl <;> exact ⟨_, rfl, by decide, by decide⟩
  have e6 := fun p => lowered_ok w z p hz1 (small_fuel (by omega))
  have ed : ∀ x, okDiv x 3 = true := fun _ => rfl
  have et : ∀ n p x, thaw fldT n p (pr x) = some (pr x) := fun n p x => thaw_bel (bel_pr 0 x)
  refine ⟨lw w z, s5, ?_, h5, lw_co hz1, ?_, ?_⟩
  · unfold m_law_mark b_law_mark
    simp only [fnM, fnO, sSeq, sAsg, sIf, sRet, sNop, sSet, sExpr, mBin, mB, mVar, mC, mCall, mCons, mNil, mTup, mLst, mLstO, mFn, mAnd, mOr, mNot, mNeg, mIsi, mYes, itS, itE, itR1, tgN, tgT, tgCons, tgNil, mSl, oNo, oYes, Res.bind, Res.run, Ctl.andThen, En.set, En.sets, f2I, f2C, wipeE, pAdd, pSub, pMul, pDiv, pMod, pPow, pLt, pLe, pGt, pGe, pIx, cLen, cInt, List.map_cons, List.map_nil, List.length_cons, List.length_nil, List.replicate, List.append_nil, List.nil_append, List.cons_append, List.getElem?_cons_zero, List.getElem?_cons_succ, List.set_cons_zero, List.set_cons_succ, List.take_length, get_last, set_last, take_last, take_all1, len1, getL, getR, getQ, mAndV, mOrV, mNotV, mNeg, iniM, fnA, mIf, mChain, sPar, tyP, isT, pEq_int, pNe_int, pIx, cAbs, cMax, cMin, mFld, getF, R.sFld, put0, put1, put2, may_int, thaw_int, thaw_bl, thaw_non, if_true, Bool.not_true, Bool.not_false, atI_0, atI_1, atI_2, atI_3, ixN_30, ixN_31, ixN_32, R.sIx, take_set, Bool.false_eq_true, if_false, e1, e2, e3, e4, e5, e6, ed, ex, ey, et, List.length_set]
  · have := (lw_le (a := w) hz1).1
    omega
  · have := (lw_le (a := w) hz1).2
    omega

theorem fr_small {q : Int × Int} (h0 : 0 < q.2) (h1 : q.1.natAbs < 2 ^ 200) (h2 : q.2.natAbs < 2 ^ 200) : Fr q := by
  have h3 : 2 ^ 200 < 2 ^ 1900 := Nat.pow_lt_pow_right (by decide) (by decide)
  exact ⟨h0, Nat.lt_trans h1 h3, Nat.lt_trans h2 h3⟩
theorem mul_abs {a b : Int} {n m : Nat} (h1 : a.natAbs ≤ n) (h2 : b.natAbs ≤ m) : (a * b).natAbs ≤ n * m := by
  rw [Int.natAbs_mul]
  exact Nat.mul_le_mul h1 h2
theorem qlt_lw {q : Int × Int} {a b : Int} (h0 : 0 < q.2) (hb : 0 < b) (h : q.1 * b < a * q.2) : qlt q (lw a b) = true := by
  have hg := gcd_pos (a := a) (b := b) (by omega)
  have e1 := fdiv_gcd (a := a) (b := b)
  have e2 := fdiv_gcd2 (a := a) (b := b)
  refine decide_eq_true ?_
  show q.1 * b.fdiv (Int.gcd a b : Int) < a.fdiv (Int.gcd a b : Int) * q.2
  rcases Int.lt_or_le (q.1 * b.fdiv (Int.gcd a b : Int)) (a.fdiv (Int.gcd a b : Int) * q.2) with z | z
  · exact z
  · exfalso
    have h3 := Int.mul_le_mul_of_nonneg_right z (Int.le_of_lt hg)
    have h4 : a.fdiv (Int.gcd a b : Int) * q.2 * (Int.gcd a b : Int) = a * q.2 := by
      rw [Int.mul_right_comm, e1]
    have h5 : q.1 * b.fdiv (Int.gcd a b : Int) * (Int.gcd a b : Int) = q.1 * b := by
      rw [Int.mul_assoc, e2]
    omega
theorem high_ok {q m : Int × Int} (hq : Mark q) (h1 : 0 < m.1) (h2 : m.1 ≤ 39) (h3 : 0 < m.2) (h4 : m.2 ≤ 7) : Co (qadd q m) ∧ (qadd q m).2 ≤ 49 ∧ (qadd q m).1.natAbs ≤ 546 ∧ qlt q (qadd q m) = true := by
  have hp := hq.co.pos
  have hb := hq.b
  have ht := hq.t
  have p1 : 0 < q.2 * m.2 := Int.mul_pos hp h3
  have b1 : (q.2 * m.2).natAbs ≤ 7 * 7 := mul_abs (by omega) (by omega)
  have b2 : (q.1 * m.2).natAbs ≤ 39 * 7 := mul_abs (by omega) (by omega)
  have b3 : (m.1 * q.2).natAbs ≤ 39 * 7 := mul_abs (by omega) (by omega)
  have l := lw_le (a := q.1 * m.2 + m.1 * q.2) p1
  refine ⟨lw_co p1, ?_, ?_, qlt_lw hp p1 ?_⟩
  · have : (qadd q m).2 ≤ q.2 * m.2 := l.1
    omega
  · have : (qadd q m).1.natAbs ≤ (q.1 * m.2 + m.1 * q.2).natAbs := l.2
    omega
  · have e : (q.1 * m.2 + m.1 * q.2) * q.2 = q.1 * (q.2 * m.2) + m.1 * q.2 * q.2 := by
      rw [Int.add_mul, Int.mul_assoc q.1, Int.mul_comm m.2]
    have : 0 < m.1 * q.2 * q.2 := Int.mul_pos (Int.mul_pos h1 hp) hp
    omega
/-- a bed as the law draws it -/
structure Bed where
  st : Nat
  fin : Nat
  low : Int × Int
  high : Int × Int
def Bed.pv (b : Bed) : PV := .tup [.int b.st, .int b.fin, pr b.low, pr b.high]
def Bed.sv (b : Bed) : PV := .tup [.int b.st, .int b.fin, sh b.low, sh b.high]
structure GB (many : Nat) (b : Bed) : Prop where
  lt : b.st < b.fin
  fin : b.fin < many
  low : Mark b.low
  hi : Co b.high
  hb : b.high.2 ≤ 49
  ht : b.high.1.natAbs ≤ 546
  less : qlt b.low b.high = true
def cnt (bs : List Bed) (j : Nat) : Nat := (bs.filter fun b => decide (b.st = j)).length
structure Beds (many : Nat) (bs : List Bed) : Prop where
  len : bs.length ≤ 12
  all : ∀ b ∈ bs, GB many b
  up : bs.Pairwise fun a b => a.st ≤ b.st
  two : ∀ j, cnt bs j ≤ 2
theorem Beds.snoc {many : Nat} {bs : List Bed} {b : Bed} (h : Beds many bs) (hl : bs.length < 12) (hb : GB many b) (hs : ∀ a ∈ bs, a.st ≤ b.st) (hc : cnt bs b.st < 2) : Beds many (bs ++ [b]) := by
  refine ⟨by rw [List.length_append, List.length_singleton]; omega, fun a ha => ?_, ?_, fun j => ?_⟩
  · rcases List.mem_append.mp ha with ha | ha
    · exact h.all a ha
    · rw [List.mem_singleton] at ha
      subst ha
      exact hb
  · rw [List.pairwise_append]
    refine ⟨h.up, List.pairwise_singleton _ _, fun a ha c hc => ?_⟩
    rw [List.mem_singleton] at hc
    subst hc
    exact hs a ha
  · unfold cnt
    rw [List.filter_append, List.length_append]
    by_cases hj : b.st = j
    · subst hj
      have : cnt bs b.st < 2 := hc
      unfold cnt at this
      simp
      omega
    · have : cnt bs j ≤ 2 := h.two j
      unfold cnt at this
      simp [hj]
      omega
theorem bel_pv (n : Nat) (b : Bed) : bel n b.pv = true := rfl
theorem bels_pv (n : Nat) (bs : List Bed) : bels n (bs.map Bed.pv) = true := by
  rw [bels_iff]
  intro x hx
  obtain ⟨b, _, rfl⟩ := List.mem_map.mp hx
  rfl

/-- one cell more; the source's cell set -/
abbrev two (p : Pool) (k : Nat) (c s : Cell) : Pool := (p ++ [c]).set k s
theorem two_get {p : Pool} {k : Nat} (hl : k < p.length) (c s : Cell) : (two p k c s)[p.length]? = some c := by
  unfold two
  rw [List.getElem?_set_ne (by omega), get_last]
theorem two_set {p : Pool} {k : Nat} (hl : k < p.length) (c s c' : Cell) : (two p k c s).set p.length c' = two p k c' s := by
  unfold two
  rw [List.set_comm _ _ (by omega), set_last]
theorem two_lt {p : Pool} {k : Nat} (hl : k < p.length) (c : Cell) : k < (p ++ [c]).length := by rw [len1]; omega
theorem mayL_self (n : Nat) (xs : List PV) : mayL n n xs = true := by
  unfold mayL
  rw [decide_eq_true (Nat.le_refl n), Bool.true_or]
def bedIn : S := sSeq (sSet (mBin pAdd (mBin pAdd (mVar 3) (mC (.int 1))) (mFn m_law_next [] (mCons (mVar 0) (mCons (mBin pSub (mBin pSub (mVar 1) (mC (.int 1))) (mVar 3)) mNil)))) 5)
    (sSeq (sPar 6 7 (mCons (mFn m_law_mark [] (mCons (mVar 0) mNil)) (mCons (mFn m_law_mark [] (mCons (mVar 0) mNil)) mNil)))
    (sSeq (sSet (mTup (mCons (mBin pAdd (mCall cAbs (mCons (mBin pIx (mVar 7) (mC (.int 0))) mNil)) (mCall cInt (mCons (mBin pEq (mBin pIx (mVar 7) (mC (.int 0))) (mC (.int 0))) mNil))) (mCons (mBin pIx (mVar 7) (mC (.int 1))) mNil))) 7)
    (sExpr (mMet fAppend (mVar 2) (mCons (mTup (mCons (mVar 3) (mCons (mVar 5) (mCons (mVar 6) (mCons (mFn m_law_sum [] (mCons (mVar 6) (mCons (mVar 7) mNil))) mNil))))) mNil)))))
theorem bed_step (p : Pool) (k : Nat) (hl : k < p.length) (many j : Nat) (hj : j + 1 < many) (hm : many ≤ 8) (bs : List Bed) (s0 : Cell) (h0 : IsSrc s0) (x4 x5 x6 x7 : Option PV) (hB : Beds many bs) (hlen : bs.length < 12) (hs : ∀ a ∈ bs, a.st ≤ j) (hc : cnt bs j < 2) :
    ∃ (s : Cell) (b : Bed) (y5 y6 y7 : Option PV), bedIn ⟨p.length, [some (.own k), some (.int many), some (.own p.length), some (.int j), x4, x5, x6, x7]⟩ (two p k (.lst (bs.map Bed.pv)) s0)
      = .next ⟨p.length, [some (.own k), some (.int many), some (.own p.length), some (.int j), x4, y5, y6, y7]⟩ (two p k (.lst ((bs ++ [b]).map Bed.pv)) s) ∧ IsSrc s ∧ Beds many (bs ++ [b]) ∧ b.st = j := by
  obtain ⟨d, s1, e1, h1, d0, d1⟩ := next_set (p ++ [.lst (bs.map Bed.pv)]) k s0 ((many : Int) - 1 - j) (two_lt hl _) h0 (by omega) (by omega)
  obtain ⟨q, s2, e2, h2, mq⟩ := mark_ok (p ++ [.lst (bs.map Bed.pv)]) k s1 (two_lt hl _) h1
  obtain ⟨m, s3, e3, h3, mm⟩ := mark_ok (p ++ [.lst (bs.map Bed.pv)]) k s2 (two_lt hl _) h2
  have a1 : ((if m.1 < 0 then -m.1 else m.1) : Int) = (m.1.natAbs : Int) := abs_eq _
  obtain ⟨t, ht0, ht1, ht2⟩ : ∃ t : Int, t = (m.1.natAbs : Int) + (if decide (m.1 = 0) = true then 1 else 0) ∧ 0 < t ∧ t ≤ 39 := by
    refine ⟨_, rfl, ?_, ?_⟩
    · split
      · omega
      · rename_i z
        have : m.1 ≠ 0 := fun e => z (decide_eq_true e)
        omega
    · have := mm.t
      split
      · rename_i z
        have : m.1 = 0 := of_decide_eq_true z
        omega
      · omega
  have hi := high_ok (m := (t, m.2)) mq ht1 ht2 mm.co.pos mm.b
  have fq : Fr q := fr_small mq.co.pos (Nat.lt_of_le_of_lt mq.t (by decide)) (Nat.lt_of_le_of_lt (by have := mq.b; have := mq.co.pos; omega : q.2.natAbs ≤ 7) (by decide))
  have fm : Fr (t, m.2) := fr_small mm.co.pos (Nat.lt_of_le_of_lt (by show t.natAbs ≤ 39; omega) (by decide)) (Nat.lt_of_le_of_lt (by have := mm.b; have := mm.co.pos; show m.2.natAbs ≤ 7; omega) (by decide))
  have e4 := fun p => sum_q p fq fm
  have um : pr m = .tup [.int m.1, .int m.2] := rfl
  have ut : pr (t, m.2) = .tup [.int t, .int m.2] := rfl
  rw [ut] at e4
  refine ⟨s3, ⟨j, ((j : Int) + 1 + d).toNat, q, qadd q (t, m.2)⟩, some (.int ((j : Int) + 1 + d)), some (pr q), some (.tup [.int t, .int m.2]), ?_, h3, ?_, rfl⟩
  · have g1 := two_get hl (.lst (bs.map Bed.pv)) s3
    have g2 := two_set hl (.lst (bs.map Bed.pv)) s3
    have hz : (bs.map Bed.pv).length + 1 ≤ big := by
      rw [List.length_map]
      unfold big
      omega
    have hf : (((j : Int) + 1 + d).toNat : Int) = (j : Int) + 1 + d := by omega
    have hpv : (Bed.pv ⟨j, ((j : Int) + 1 + d).toNat, q, qadd q (t, m.2)⟩) = .tup [.int j, .int ((j : Int) + 1 + d), pr q, pr (qadd q (t, m.2))] := by
      unfold Bed.pv
      rw [hf]
    rw [List.map_append, List.map_cons, List.map_nil, hpv]
    unfold bedIn
    simp only [fnM, fnO, sSeq, sAsg, sIf, sRet, sNop, sSet, sExpr, mBin, mB, mVar, mC, mCall, mCons, mNil, mTup, mLst, mLstO, mFn, mAnd, mOr, mNot, mNeg, mIsi, mYes, itS, itE, itR1, tgN, tgT, tgCons, tgNil, mSl, oNo, oYes, Res.bind, Res.run, Ctl.andThen, En.set, En.sets, f2I, f2C, wipeE, pAdd, pSub, pMul, pDiv, pMod, pPow, pLt, pLe, pGt, pGe, pIx, cLen, cInt, List.map_cons, List.map_nil, List.length_cons, List.length_nil, List.replicate, List.append_nil, List.nil_append, List.cons_append, List.getElem?_cons_zero, List.getElem?_cons_succ, List.set_cons_zero, List.set_cons_succ, List.take_length, get_last, set_last, take_last, take_all1, len1, getL, getR, getQ, mAndV, mOrV, mNotV, mNeg, iniM, fnA, mIf, mChain, sPar, tyP, isT, pEq_int, pNe_int, pIx, cAbs, cMax, cMin, mFld, getF, R.sFld, put0, put1, put2, may_int, thaw_int, thaw_bl, thaw_non, if_true, Bool.not_true, Bool.not_false, atI_0, atI_1, atI_2, atI_3, ixN_30, ixN_31, ixN_32, R.sIx, take_set, Bool.false_eq_true, if_false, e1, e2, e3, um, a1, ← ht0, e4, mMet, fAppend, mayL_self, g1, g2, hz, and_self]
  · refine hB.snoc hlen ⟨?_, ?_, mq, hi.1, hi.2.1, hi.2.2.1, hi.2.2.2⟩ hs hc
    · show j < ((j : Int) + 1 + d).toNat
      omega
    · show ((j : Int) + 1 + d).toNat < many
      omega
/-- so many beds more from one place -/
theorem beds_place (p : Pool) (k : Nat) (hl : k < p.length) (many j : Nat) (hj : j + 1 < many) (hm : many ≤ 8) (n : Nat) (hn : n ≤ 2) {a : M (List PV)} (bs : List Bed) (s0 : Cell) (h0 : IsSrc s0) (x4 x5 x6 x7 : Option PV) (q : Pool) {en : En}
    (hen : en = ⟨p.length, [some (.own k), some (.int many), some (.own p.length), some (.int j), x4, x5, x6, x7]⟩) (ha : a en q = .ok [.int n] (two p k (.lst (bs.map Bed.pv)) s0))
    (hB : Beds many bs) (hlen : bs.length + n ≤ 12) (hs : ∀ a ∈ bs, a.st < j) :
    ∃ (s : Cell) (cs : List Bed) (y4 y5 y6 y7 : Option PV), sFor (itR1 a) (tgN 4) bedIn en q
      = .next ⟨p.length, [some (.own k), some (.int many), some (.own p.length), some (.int j), y4, y5, y6, y7]⟩ (two p k (.lst (cs.map Bed.pv)) s) ∧ IsSrc s ∧ Beds many cs ∧ ∀ a ∈ cs, a.st ≤ j := by
  subst hen
  obtain ⟨en2, p2, e, s, cs, y4, y5, y6, y7, rfl, rfl, hS, hB2, _, hs2, _⟩ := sFor_range (body := bedIn) (i := 4) (fun i en q => ∃ (s : Cell) (cs : List Bed) (y4 y5 y6 y7 : Option PV), en = ⟨p.length, [some (.own k), some (.int many), some (.own p.length), some (.int j), y4, y5, y6, y7]⟩ ∧ q = two p k (.lst (cs.map Bed.pv)) s ∧ IsSrc s ∧ Beds many cs ∧ cs.length = bs.length + i ∧ (∀ a ∈ cs, a.st ≤ j) ∧ cnt cs j = i)
    ha (Nat.le_trans hn (by decide)) (fun i en q hi ⟨s, cs, y4, y5, y6, y7, he, hq, hS, hB, hl2, hs2, hc⟩ => by
      subst he
      subst hq
      obtain ⟨s', b, z5, z6, z7, e, hS', hB', hb⟩ := bed_step p k hl many j hj hm cs s hS (some (.int i)) y5 y6 y7 hB (by omega) hs2 (by omega)
      refine ⟨_, _, e, s', cs ++ [b], _, _, _, _, rfl, rfl, hS', hB', by rw [List.length_append, List.length_singleton]; omega, fun a ha => ?_, ?_⟩
      · rcases List.mem_append.mp ha with ha | ha
        · exact hs2 a ha
        · rw [List.mem_singleton] at ha
          subst ha
          omega
      · unfold cnt at hc ⊢
        rw [List.filter_append, List.length_append, hc]
        simp [hb]
      ) ⟨s0, bs, x4, x5, x6, x7, rfl, rfl, h0, hB, rfl, fun a ha => Nat.le_of_lt (hs a ha), by
        unfold cnt
        rw [List.filter_eq_nil_iff.mpr fun a ha => by
          have := hs a ha
          simp
          omega]
        rfl⟩
  exact ⟨s, cs, y4, y5, y6, y7, e, hS, hB2, hs2⟩

theorem two_eq {p : Pool} {k : Nat} (hl : k < p.length) (c s : Cell) : two p k c s = p.set k s ++ [c] := List.set_append_left k s hl
theorem thaw_two {p : Pool} {k : Nat} (hl : k < p.length) {xs : List PV} {s : Cell} (h : bels 0 xs = true) : thaw fldT p.length (two p k (.lst xs) s) (.own p.length) = some (.lst xs) := by
  rw [two_eq hl]
  have e : p.length = (p.set k s).length := List.length_set.symm
  rw [e]
  exact thaw_lst h
theorem take_two {p : Pool} {k : Nat} (hl : k < p.length) (c s : Cell) : (two p k c s).take p.length = p.set k s := by
  rw [two_eq hl]
  have e : p.length = (p.set k s).length := List.length_set.symm
  rw [e]
  exact take_last _ _
theorem beds_of_ok (p : Pool) (k : Nat) (hl : k < p.length) (many : Nat) (h1 : 1 ≤ many) (hm : many ≤ 8) (s0 : Cell) (h0 : IsSrc s0) :
    ∃ (s : Cell) (bs : List Bed), m_law_beds_of [.own k, .int many] (p.set k s0) = .ok (.lst (bs.map Bed.pv)) (p.set k s) ∧ IsSrc s ∧ Beds many bs := by
  have ec : ((many : Int) - 1) = ((many - 1 : Nat) : Int) := by omega
  obtain ⟨en2, p2, e, s, bs, y3, y4, y5, y6, y7, rfl, rfl, hS, hB, _⟩ := sFor_range (i := 3) (n := many - 1) (a := mCons (mBin pSub (mVar 1) (mC (.int 1))) mNil) (en := ⟨p.length, [some (.own k), some (.int many), some (.own p.length), none, none, none, none, none]⟩) (p := two p k (.lst []) s0)
    (body := sFor (itR1 (mCons (mCall cMin (mCons (mBin pSub (mC (.int 12)) (mCall cLen (mCons (mVar 2) mNil))) (mCons (mBin pIx (mLst (mCons (mC (.int 0)) (mCons (mC (.int 1)) (mCons (mC (.int 2)) (mCons (mC (.int 2)) mNil))))) (mFn m_law_next [] (mCons (mVar 0) (mCons (mC (.int 4)) mNil)))) mNil))) mNil)) (tgN 4) bedIn)
    (fun j en q => ∃ (s : Cell) (bs : List Bed) (y3 y4 y5 y6 y7 : Option PV), en = ⟨p.length, [some (.own k), some (.int many), some (.own p.length), y3, y4, y5, y6, y7]⟩ ∧ q = two p k (.lst (bs.map Bed.pv)) s ∧ IsSrc s ∧ Beds many bs ∧ ∀ a ∈ bs, a.st < j)
    (p1 := two p k (.lst []) s0) (by
      simp only [fnM, fnO, sSeq, sAsg, sIf, sRet, sNop, sSet, sExpr, mBin, mB, mVar, mC, mCall, mCons, mNil, mTup, mLst, mLstO, mFn, mAnd, mOr, mNot, mNeg, mIsi, mYes, itS, itE, itR1, tgN, tgT, tgCons, tgNil, mSl, oNo, oYes, Res.bind, Res.run, Ctl.andThen, En.set, En.sets, f2I, f2C, wipeE, pAdd, pSub, pMul, pDiv, pMod, pPow, pLt, pLe, pGt, pGe, pIx, cLen, cInt, List.map_cons, List.map_nil, List.length_cons, List.length_nil, List.replicate, List.append_nil, List.nil_append, List.cons_append, List.getElem?_cons_zero, List.getElem?_cons_succ, List.set_cons_zero, List.set_cons_succ, List.take_length, get_last, set_last, take_last, take_all1, len1, getL, getR, getQ, mAndV, mOrV, mNotV, mNeg, iniM, fnA, mIf, mChain, sPar, tyP, isT, pEq_int, pNe_int, pIx, cAbs, cMax, cMin, mFld, getF, R.sFld, put0, put1, put2, may_int, thaw_int, thaw_bl, thaw_non, if_true, Bool.not_true, Bool.not_false, atI_0, atI_1, atI_2, atI_3, ixN_30, ixN_31, ixN_32, R.sIx, take_set, Bool.false_eq_true, if_false, ec]
      ) (Nat.le_trans (by omega : many - 1 ≤ 8) (by decide)) (fun j en q hj ⟨s, bs, y3, y4, y5, y6, y7, he, hq, hS, hB, hs⟩ => by
      subst he
      subst hq
      obtain ⟨d, s1, e1, h1, d0, d1⟩ := next_set (p ++ [.lst (bs.map Bed.pv)]) k s 4 (two_lt hl _) hS (by decide) (by decide)
      obtain ⟨x, hx, ex⟩ := atI_mem [PV.int 0, .int 1, .int 2, .int 2] d d0 d1
      obtain ⟨n0, rfl, hn0⟩ : ∃ n : Nat, x = .int n ∧ n ≤ 2 := by
        simp only [List.mem_cons, List.not_mem_nil, or_false] at hx
        rcases hx with rfl | rfl | rfl | rfl
        · exact ⟨0, rfl, by decide⟩
        · exact ⟨1, rfl, by decide⟩
        · exact ⟨2, rfl, by decide⟩
        · exact ⟨2, rfl, by decide⟩
      have hlen := hB.len
      have em : (if (n0 : Int) < 12 - (bs.length : Int) then (n0 : Int) else 12 - (bs.length : Int)) = ((min n0 (12 - bs.length) : Nat) : Int) := by
        split <;> omega
      have g1 := two_get hl (.lst (bs.map Bed.pv)) s
      obtain ⟨s2, cs, z4, z5, z6, z7, e2, hS2, hB2, hs2⟩ := beds_place p k hl many j (by omega) hm (min n0 (12 - bs.length)) (by omega) bs s1 h1 y4 y5 y6 y7 (two p k (.lst (bs.map Bed.pv)) s) (en := ⟨p.length, [some (.own k), some (.int many), some (.own p.length), some (.int j), y4, y5, y6, y7]⟩) (a := mCons (mCall cMin (mCons (mBin pSub (mC (.int 12)) (mCall cLen (mCons (mVar 2) mNil))) (mCons (mBin pIx (mLst (mCons (mC (.int 0)) (mCons (mC (.int 1)) (mCons (mC (.int 2)) (mCons (mC (.int 2)) mNil))))) (mFn m_law_next [] (mCons (mVar 0) (mCons (mC (.int 4)) mNil)))) mNil))) mNil) rfl (by
          simp only [fnM, fnO, sSeq, sAsg, sIf, sRet, sNop, sSet, sExpr, mBin, mB, mVar, mC, mCall, mCons, mNil, mTup, mLst, mLstO, mFn, mAnd, mOr, mNot, mNeg, mIsi, mYes, itS, itE, itR1, tgN, tgT, tgCons, tgNil, mSl, oNo, oYes, Res.bind, Res.run, Ctl.andThen, En.set, En.sets, f2I, f2C, wipeE, pAdd, pSub, pMul, pDiv, pMod, pPow, pLt, pLe, pGt, pGe, pIx, cLen, cInt, List.map_cons, List.map_nil, List.length_cons, List.length_nil, List.replicate, List.append_nil, List.nil_append, List.cons_append, List.getElem?_cons_zero, List.getElem?_cons_succ, List.set_cons_zero, List.set_cons_succ, List.take_length, get_last, set_last, take_last, take_all1, len1, getL, getR, getQ, mAndV, mOrV, mNotV, mNeg, iniM, fnA, mIf, mChain, sPar, tyP, isT, pEq_int, pNe_int, pIx, cAbs, cMax, cMin, mFld, getF, R.sFld, put0, put1, put2, may_int, thaw_int, thaw_bl, thaw_non, if_true, Bool.not_true, Bool.not_false, atI_0, atI_1, atI_2, atI_3, ixN_30, ixN_31, ixN_32, R.sIx, take_set, Bool.false_eq_true, if_false, g1, e1, ex, em, List.length_map]
          ) hB (by omega) hs
      exact ⟨_, _, e2, s2, cs, _, _, _, _, _, rfl, rfl, hS2, hB2, fun a ha => by have := hs2 a ha; omega⟩
      ) ⟨s0, [], none, none, none, none, none, rfl, rfl, h0, ⟨by decide, fun _ h => (nomatch h), List.Pairwise.nil, fun _ => Nat.zero_le 2⟩, fun _ h => (nomatch h)⟩
  refine ⟨s, bs, ?_, hS, hB⟩
  have f1 : ∀ c s, p.set k s ++ [c] = two p k c s := fun c s => (two_eq hl c s).symm
  have f2 := thaw_two hl (s := s) (bels_pv 0 bs)
  have f3 := take_two hl (.lst (bs.map Bed.pv)) s
  unfold m_law_beds_of b_law_beds_of
  unfold bedIn at e
  generalize sFor _ _ _ = W at e ⊢
  simp only [fnM, fnO, sSeq, sAsg, sIf, sRet, sNop, sSet, sExpr, mBin, mB, mVar, mC, mCall, mCons, mNil, mTup, mLst, mLstO, mFn, mAnd, mOr, mNot, mNeg, mIsi, mYes, itS, itE, itR1, tgN, tgT, tgCons, tgNil, mSl, oNo, oYes, Res.bind, Res.run, Ctl.andThen, En.set, En.sets, f2I, f2C, wipeE, pAdd, pSub, pMul, pDiv, pMod, pPow, pLt, pLe, pGt, pGe, pIx, cLen, cInt, List.map_cons, List.map_nil, List.length_cons, List.length_nil, List.replicate, List.append_nil, List.nil_append, List.cons_append, List.getElem?_cons_zero, List.getElem?_cons_succ, List.set_cons_zero, List.set_cons_succ, List.take_length, get_last, set_last, take_last, take_all1, len1, getL, getR, getQ, mAndV, mOrV, mNotV, mNeg, iniM, fnA, mIf, mChain, sPar, tyP, isT, pEq_int, pNe_int, pIx, cAbs, cMax, cMin, mFld, getF, R.sFld, put0, put1, put2, may_int, thaw_int, thaw_bl, thaw_non, if_true, Bool.not_true, Bool.not_false, atI_0, atI_1, atI_2, atI_3, ixN_30, ixN_31, ixN_32, R.sIx, take_set, Bool.false_eq_true, if_false, List.length_set, f1, e, f2, f3]

/-- the items that start at j -/
def atSt (j : Nat) : PV → Option PV := fun x => match x with
  | .tup (.int i :: r) => if i = (j : Int) then some (.tup (.int i :: r)) else none
  | _ => none
theorem atSt_pv (j : Nat) (b : Bed) : atSt j b.pv = if b.st = j then some b.pv else none := by
  unfold Bed.pv atSt
  by_cases h : b.st = j
  · rw [if_pos h]
    dsimp only
    rw [if_pos (by omega)]
  · rw [if_neg h]
    dsimp only
    rw [if_neg (by omega)]
theorem atSt_map (j : Nat) : ∀ bs : List Bed, (bs.map Bed.pv).filterMap (atSt j) = (bs.filter fun b => decide (b.st = j)).map Bed.pv
  | [] => rfl
  | b :: bs => by
    rw [List.map_cons]
    by_cases h : b.st = j
    · rw [List.filterMap_cons_some (by rw [atSt_pv, if_pos h]), atSt_map j bs, List.filter_cons_of_pos (by simp [h]), List.map_cons]
    · rw [List.filterMap_cons_none (by rw [atSt_pv, if_neg h]), atSt_map j bs, List.filter_cons_of_neg (by simp [h])]
theorem wanted_ok {i1 i2 i3 : Nat} {en : En} {q : Pool} {bs : List Bed} {j : Nat} (h1 : en.sl[i1]? = some (some (.lst (bs.map Bed.pv)))) (h2 : en.sl[i2]? = some (some (.int j))) (hi : i3 < en.sl.length) (hne : i2 ≠ i3) (hl : bs.length ≤ big) :
    mLc (itS (mVar i1)) (tgN i3) (mB (mBin pEq (mBin pIx (mVar i3) (mC (.int 0))) (mVar i2))) (mVar i3) [i3] en q = .ok (.lst ((bs.filter fun b => decide (b.st = j)).map Bed.pv)) q := by
  have hz : itS (mVar i1) en q = .ok ⟨bs.map Bed.pv, noCk⟩ q := by
    simp only [itS, mVar, h1, Res.bind, getZ]
  rw [← atSt_map]
  refine mLc_map (atSt j) hz (fun _ => rfl) (fun x hx => ?_) (by rw [List.length_map]; exact hl)
  obtain ⟨b, hb, rfl⟩ := List.mem_map.mp hx
  refine ⟨[(i3, b.pv)], rfl, by simp, fun acc => ?_⟩
  have g1 : ((en.sl.set i3 none).set i3 (some b.pv))[i3]? = some (some b.pv) := List.getElem?_set_self (by rw [List.length_set]; exact hi)
  have g2 : ((en.sl.set i3 none).set i3 (some b.pv))[i2]? = some (some (.int j)) := by
    rw [List.getElem?_set_ne (Ne.symm hne), List.getElem?_set_ne (Ne.symm hne), h2]
  have ep : b.pv = .tup [.int b.st, .int b.fin, pr b.low, pr b.high] := rfl
  refine ⟨?_, fun y hy => ?_⟩
  · have e : (atSt j b.pv).isSome = decide ((b.st : Int) = j) := by
      rw [atSt_pv]
      by_cases h : b.st = j
      · rw [if_pos h, decide_eq_true (by omega)]
        rfl
      · rw [if_neg h, decide_eq_false (by omega)]
        rfl
    rw [e]
    rw [ep] at g1 g2 ⊢
    simp only [fnM, fnO, sSeq, sAsg, sIf, sRet, sNop, sSet, sExpr, mBin, mB, mVar, mC, mCall, mCons, mNil, mTup, mLst, mLstO, mFn, mAnd, mOr, mNot, mNeg, mIsi, mYes, itS, itE, itR1, tgN, tgT, tgCons, tgNil, mSl, oNo, oYes, Res.bind, Res.run, Ctl.andThen, En.set, En.sets, f2I, f2C, wipeE, pAdd, pSub, pMul, pDiv, pMod, pPow, pLt, pLe, pGt, pGe, pIx, cLen, cInt, List.map_cons, List.map_nil, List.length_cons, List.length_nil, List.replicate, List.append_nil, List.nil_append, List.cons_append, List.getElem?_cons_zero, List.getElem?_cons_succ, List.set_cons_zero, List.set_cons_succ, List.take_length, get_last, set_last, take_last, take_all1, len1, getL, getR, getQ, mAndV, mOrV, mNotV, mNeg, iniM, fnA, mIf, mChain, sPar, tyP, isT, pEq_int, pNe_int, pIx, cAbs, cMax, cMin, mFld, getF, R.sFld, put0, put1, put2, may_int, thaw_int, thaw_bl, thaw_non, if_true, Bool.not_true, Bool.not_false, atI_0, atI_1, atI_2, atI_3, ixN_30, ixN_31, ixN_32, R.sIx, take_set, Bool.false_eq_true, if_false, g1, g2]
  · rw [atSt_pv] at hy
    split at hy
    · cases hy
      refine ⟨?_, rfl⟩
      simp only [fnM, fnO, sSeq, sAsg, sIf, sRet, sNop, sSet, sExpr, mBin, mB, mVar, mC, mCall, mCons, mNil, mTup, mLst, mLstO, mFn, mAnd, mOr, mNot, mNeg, mIsi, mYes, itS, itE, itR1, tgN, tgT, tgCons, tgNil, mSl, oNo, oYes, Res.bind, Res.run, Ctl.andThen, En.set, En.sets, f2I, f2C, wipeE, pAdd, pSub, pMul, pDiv, pMod, pPow, pLt, pLe, pGt, pGe, pIx, cLen, cInt, List.map_cons, List.map_nil, List.length_cons, List.length_nil, List.replicate, List.append_nil, List.nil_append, List.cons_append, List.getElem?_cons_zero, List.getElem?_cons_succ, List.set_cons_zero, List.set_cons_succ, List.take_length, get_last, set_last, take_last, take_all1, len1, getL, getR, getQ, mAndV, mOrV, mNotV, mNeg, iniM, fnA, mIf, mChain, sPar, tyP, isT, pEq_int, pNe_int, pIx, cAbs, cMax, cMin, mFld, getF, R.sFld, put0, put1, put2, may_int, thaw_int, thaw_bl, thaw_non, if_true, Bool.not_true, Bool.not_false, atI_0, atI_1, atI_2, atI_3, ixN_30, ixN_31, ixN_32, R.sIx, take_set, Bool.false_eq_true, if_false, g1]
    · cases hy
/-- a place's parts -/
def rowPV (r : List Int) : PV := .tup (r.map .int)
structure GR (n : Nat) (r : List Int) : Prop where
  len : r.length = n
  all : ∀ x ∈ r, 0 ≤ x ∧ x ≤ 9
  sum : 0 < n → 0 < r.sum
theorem its_map : ∀ r : List Int, its (r.map .int) = some r
  | [] => rfl
  | x :: r => by
    rw [List.map_cons]
    unfold its
    rw [its_map r]
theorem sum_nonneg : ∀ r : List Int, (∀ x ∈ r, 0 ≤ x) → 0 ≤ r.sum
  | [], _ => by decide
  | x :: r, h => by
    rw [List.sum_cons]
    have h1 := h x List.mem_cons_self
    have h2 := sum_nonneg r fun y hy => h y (List.mem_cons_of_mem _ hy)
    omega

theorem set_app {p : Pool} {k : Nat} (hl : k < p.length) (c s : Cell) : p.set k s ++ [c] = (p ++ [c]).set k s := (List.set_append_left k s hl).symm
/-- drawn parts -/
theorem parts_draw (p : Pool) (k : Nat) (hl : k < p.length) (c s0 : Cell) (h0 : IsSrc s0) (n : Nat) (hn : n ≤ 2) (en : En) (e0 : en.sl[0]? = some (some (.own k))) (e6 : en.sl[6]? = some (some (.int n))) (hlen : en.sl.length = 10) :
    ∃ (s : Cell) (r : List Int), mLc (itR1 (mCons (mVar 6) mNil)) (tgN 9) mYes (mFn m_law_next [] (mCons (mVar 0) (mCons (mBin pIx (mLst (mCons (mC (.int 2)) (mCons (mC (.int 10)) mNil))) (mFn m_law_next [] (mCons (mVar 0) (mCons (mC (.int 2)) mNil)))) mNil))) [9] en (two p k c s0)
      = .ok (.lst (r.map .int)) (two p k c s) ∧ IsSrc s ∧ r.length = n ∧ ∀ x ∈ r, 0 ≤ x ∧ x ≤ 9 := by
  have ha : mCons (mVar 6) mNil en (two p k c s0) = .ok [.int n] (two p k c s0) := by
    simp only [fnM, fnO, sSeq, sAsg, sIf, sRet, sNop, sSet, sExpr, mBin, mB, mVar, mC, mCall, mCons, mNil, mTup, mLst, mLstO, mFn, mAnd, mOr, mNot, mNeg, mIsi, mYes, itS, itE, itR1, tgN, tgT, tgCons, tgNil, mSl, oNo, oYes, Res.bind, Res.run, Ctl.andThen, En.set, En.sets, f2I, f2C, wipeE, pAdd, pSub, pMul, pDiv, pMod, pPow, pLt, pLe, pGt, pGe, pIx, cLen, cInt, List.map_cons, List.map_nil, List.length_cons, List.length_nil, List.replicate, List.append_nil, List.nil_append, List.cons_append, List.getElem?_cons_zero, List.getElem?_cons_succ, List.set_cons_zero, List.set_cons_succ, List.take_length, get_last, set_last, take_last, take_all1, len1, getL, getR, getQ, mAndV, mOrV, mNotV, mNeg, iniM, fnA, mIf, mChain, sPar, tyP, isT, pEq_int, pNe_int, pIx, cAbs, cMax, cMin, mFld, getF, R.sFld, put0, put1, put2, may_int, thaw_int, thaw_bl, thaw_non, if_true, Bool.not_true, Bool.not_false, atI_0, atI_1, atI_2, atI_3, ixN_30, ixN_31, ixN_32, R.sIx, take_set, Bool.false_eq_true, if_false, e6]
  obtain ⟨acc, p', e, hp, s, r, rfl, hS, rfl, hr, hall⟩ := mLc_inv (g := tgN 9) (tt := mYes) (vs := [9]) (te := mFn m_law_next [] (mCons (mVar 0) (mCons (mBin pIx (mLst (mCons (mC (.int 2)) (mCons (mC (.int 10)) mNil))) (mFn m_law_next [] (mCons (mVar 0) (mCons (mC (.int 2)) mNil)))) mNil)))
    (fun rest acc q => ∃ (s : Cell) (r : List Int), q = two p k c s ∧ IsSrc s ∧ acc = r.map .int ∧ r.length + rest.length = n ∧ ∀ x ∈ r, 0 ≤ x ∧ x ≤ 9)
    (itR1_ok ha (Nat.le_trans hn (by decide))) (fun _ _ _ _ _ => rfl) (fun x rest acc q hq ⟨s, r, he, hS, hacc, hr, hall⟩ => by
      subst he
      subst hacc
      obtain ⟨d1, s1, e1, h1, a1, b1⟩ := next_set (p ++ [c] ++ [.lst (r.map .int)]) k s 2 (two_lt (by rw [len1]; omega) _) hS (by decide) (by decide)
      obtain ⟨y, hy, ey⟩ := atI_mem [PV.int 2, .int 10] d1 a1 b1
      obtain ⟨m, rfl, hm0, hm1⟩ : ∃ m : Int, y = .int m ∧ 0 < m ∧ m ≤ 10 := by
        simp only [List.mem_cons, List.not_mem_nil, or_false] at hy
        rcases hy with rfl | rfl
        · exact ⟨2, rfl, by decide, by decide⟩
        · exact ⟨10, rfl, by decide, by decide⟩
      obtain ⟨d2, s2, e2, h2, a2, b2⟩ := next_set (p ++ [c] ++ [.lst (r.map .int)]) k s1 m (two_lt (by rw [len1]; omega) _) h1 hm0 (by omega)
      have fa : ∀ s, two p k c s ++ [Cell.lst (r.map PV.int)] = (p ++ [c] ++ [Cell.lst (r.map PV.int)]).set k s := fun s => set_app (two_lt hl c) _ _
      have g0 : ((en.sl.set 9 none).set 9 (some x))[0]? = some (some (.own k)) := by
        rw [List.getElem?_set_ne (by decide), List.getElem?_set_ne (by decide), e0]
      refine ⟨[(9, x)], rfl, rfl, .inr ⟨two p k c s, .int d2, two p k c s2, rfl, ?_, by simp, rfl, s2, r ++ [d2], rfl, h2, by rw [List.map_append]; rfl, ?_, fun z hz => ?_⟩⟩
      · rw [fa, fa]
        simp only [fnM, fnO, sSeq, sAsg, sIf, sRet, sNop, sSet, sExpr, mBin, mB, mVar, mC, mCall, mCons, mNil, mTup, mLst, mLstO, mFn, mAnd, mOr, mNot, mNeg, mIsi, mYes, itS, itE, itR1, tgN, tgT, tgCons, tgNil, mSl, oNo, oYes, Res.bind, Res.run, Ctl.andThen, En.set, En.sets, f2I, f2C, wipeE, pAdd, pSub, pMul, pDiv, pMod, pPow, pLt, pLe, pGt, pGe, pIx, cLen, cInt, List.map_cons, List.map_nil, List.length_cons, List.length_nil, List.replicate, List.append_nil, List.nil_append, List.cons_append, List.getElem?_cons_zero, List.getElem?_cons_succ, List.set_cons_zero, List.set_cons_succ, List.take_length, get_last, set_last, take_last, take_all1, len1, getL, getR, getQ, mAndV, mOrV, mNotV, mNeg, iniM, fnA, mIf, mChain, sPar, tyP, isT, pEq_int, pNe_int, pIx, cAbs, cMax, cMin, mFld, getF, R.sFld, put0, put1, put2, may_int, thaw_int, thaw_bl, thaw_non, if_true, Bool.not_true, Bool.not_false, atI_0, atI_1, atI_2, atI_3, ixN_30, ixN_31, ixN_32, R.sIx, take_set, Bool.false_eq_true, if_false, g0, e1, ey, e2]
      · rw [List.length_append, List.length_singleton]
        rw [List.length_cons] at hr
        omega
      · rcases List.mem_append.mp hz with hz | hz
        · exact hall z hz
        · rw [List.mem_singleton] at hz
          subst hz
          omega
      ) (by rw [rng_len]; exact Nat.le_trans hn (by decide)) ⟨s0, [], rfl, h0, rfl, by rw [rng_len]; simp, fun _ h => (nomatch h)⟩
  exact ⟨s, r, e, hS, by simpa using hr, hall⟩

def rowIn : S := (sSeq (sSet (mCall cLen (mCons (mLc (itS (mVar 3)) (tgN 8) (mB (mBin pEq (mBin pIx (mVar 8) (mC (.int 0))) (mVar 5))) (mVar 8) [8]) mNil)) 6)
    (sSeq (sSet (mCall cTuple (mCons (mLc (itR1 (mCons (mVar 6) mNil)) (tgN 9) mYes (mFn m_law_next [] (mCons (mVar 0) (mCons (mBin pIx (mLst (mCons (mC (.int 2)) (mCons (mC (.int 10)) mNil))) (mFn m_law_next [] (mCons (mVar 0) (mCons (mC (.int 2)) mNil)))) mNil))) [9]) mNil)) 7)
    (sSeq (sIf (mAnd (mB (mBin pGt (mVar 6) (mC (.int 0)))) (mB (mBin pEq (mCall cSumA (mCons (mVar 7) mNil)) (mC (.int 0)))))
    (sSet (mBin pAdd (mTup (mCons (mBin pAdd (mC (.int 1)) (mFn m_law_next [] (mCons (mVar 0) (mCons (mC (.int 9)) mNil)))) mNil)) (mSl (mVar 7) (oYes (mC (.int 1))) oNo)) 7)
    sNop)
    (sExpr (mMet fAppend (mVar 4) (mCons (mVar 7) mNil))))))
theorem cut_tail (x : PV) (l : List PV) : cut (x :: l) (some 1) none = l := by
  have h1 : HT.sIx (x :: l).length 0 (some 1) = 1 := by
    unfold HT.sIx
    simp
  have h2 : HT.sIx (x :: l).length (x :: l).length none = (x :: l).length := rfl
  unfold cut
  rw [h1, h2, List.drop_succ_cons, List.drop_zero, List.length_cons, Nat.add_sub_cancel, List.take_length]
theorem sl_tup {m : M PV} {xs : List PV} {i : Int} {en : En} {p p1 : Pool} (h : m en p = .ok (.tup xs) p1) : mSl m (oYes (mC (.int i))) oNo en p = .ok (.tup (cut xs (some i) none)) p1 := by
  unfold mSl
  rw [h]
  rfl
theorem pAdd_tup {xs ys : List PV} {p : Pool} (h : xs.length + ys.length ≤ big) : pAdd (.tup xs) (.tup ys) p = .ok (.tup (xs ++ ys)) p := by
  unfold pAdd
  dsimp only
  rw [if_pos h]
theorem row_step (p : Pool) (k : Nat) (hl : k < p.length) (most many j : Nat) (bs : List Bed) (ps : List (List Int)) (hB : Beds many bs) (hps : ps.length ≤ 8) (s0 : Cell) (h0 : IsSrc s0) (x6 x7 x8 x9 : Option PV) :
    ∃ (s : Cell) (r : List Int) (y6 y7 y8 y9 : Option PV), rowIn ⟨p.length, [some (.own k), some (.int most), some (.int many), some (.lst (bs.map Bed.pv)), some (.own p.length), some (.int j), x6, x7, x8, x9]⟩ (two p k (.lst (ps.map rowPV)) s0)
      = .next ⟨p.length, [some (.own k), some (.int most), some (.int many), some (.lst (bs.map Bed.pv)), some (.own p.length), some (.int j), y6, y7, y8, y9]⟩ (two p k (.lst ((ps ++ [r]).map rowPV)) s) ∧ IsSrc s ∧ GR (cnt bs j) r := by
  have hc := hB.two j
  have e1 : ∀ (y6 y7 y8 y9 : Option PV) (q : Pool), mLc (itS (mVar 3)) (tgN 8) (mB (mBin pEq (mBin pIx (mVar 8) (mC (.int 0))) (mVar 5))) (mVar 8) [8] ⟨p.length, [some (.own k), some (.int most), some (.int many), some (.lst (bs.map Bed.pv)), some (.own p.length), some (.int j), y6, y7, y8, y9]⟩ q = .ok (.lst ((bs.filter fun b => decide (b.st = j)).map Bed.pv)) q :=
    fun _ _ _ _ q => wanted_ok rfl rfl (by show 8 < 10; decide) (by decide) (Nat.le_trans hB.len (by decide))
  have ec : ∀ q, cLen [.lst ((bs.filter fun b => decide (b.st = j)).map Bed.pv)] q = .ok (.int (cnt bs j)) q := fun q => by
    show Res.ok (PV.int ((((bs.filter fun b => decide (b.st = j)).map Bed.pv).length : Nat) : Int)) q = _
    rw [List.length_map]
    rfl
  obtain ⟨s1, r, e2, h1, hr, hall⟩ := parts_draw p k hl (.lst (ps.map rowPV)) s0 h0 (cnt bs j) hc ⟨p.length, [some (.own k), some (.int most), some (.int many), some (.lst (bs.map Bed.pv)), some (.own p.length), some (.int j), some (.int (cnt bs j)), x7, x8, x9]⟩ rfl rfl rfl
  have g1 : ∀ s, (two p k (.lst (ps.map rowPV)) s)[p.length]? = some (.lst (ps.map rowPV)) := fun s => two_get hl _ s
  have g2 : ∀ s c, (two p k (.lst (ps.map rowPV)) s).set p.length c = two p k c s := fun s c => two_set hl _ s c
  have hz : (ps.map rowPV).length < big := by
    rw [List.length_map]
    exact Nat.lt_of_le_of_lt hps (by decide)
  have es : ∀ q, cSumA [.tup (r.map .int)] q = .ok (.int r.sum) q := fun q => cSumA_tup r q
  have hs0 := sum_nonneg r fun x hx => (hall x hx).1
  have ap : ∀ (r' : List Int) (s : Cell), sExpr (mMet fAppend (mVar 4) (mCons (mVar 7) mNil)) ⟨p.length, [some (.own k), some (.int most), some (.int many), some (.lst (bs.map Bed.pv)), some (.own p.length), some (.int j), some (.int (cnt bs j)), some (.tup (r'.map .int)), x8, x9]⟩ (two p k (.lst (ps.map rowPV)) s)
      = .next ⟨p.length, [some (.own k), some (.int most), some (.int many), some (.lst (bs.map Bed.pv)), some (.own p.length), some (.int j), some (.int (cnt bs j)), some (.tup (r'.map .int)), x8, x9]⟩ (two p k (.lst ((ps ++ [r']).map rowPV)) s) := fun r' s => by
    rw [app_nx (k := p.length) rfl (g1 s) (var_ok rfl) (g1 s) (mayL_le (Nat.le_refl _)) hz, g2, List.map_append]
    rfl
  have f1 := set_nx (i := 6) (call_ok (one_ok (e1 x6 x7 x8 x9 (two p k (.lst (ps.map rowPV)) s0))) (ec _))
  have f2 := set_nx (i := 7) (call_ok (f := cTuple) (one_ok e2) rfl)
  unfold rowIn
  by_cases h : 0 < cnt bs j ∧ r.sum = 0
  · obtain ⟨d, s2, e3, h2, a2, b2⟩ := next_set (p ++ [.lst (ps.map rowPV)]) k s1 9 (two_lt hl _) h1 (by decide) (by decide)
    cases r with
    | nil =>
      rw [List.length_nil] at hr
      omega
    | cons x r =>
      refine ⟨s2, (1 + d) :: r, some (.int (cnt bs j)), some (.tup (((1 + d) :: r).map .int)), x8, x9, ?_, h2, by rw [← hr]; rfl, fun y hy => ?_, fun _ => ?_⟩
      · have t1 : (mAnd (mB (mBin pGt (mVar 6) (mC (.int 0)))) (mB (mBin pEq (mCall cSumA (mCons (mVar 7) mNil)) (mC (.int 0))))) ⟨p.length, [some (.own k), some (.int most), some (.int many), some (.lst (bs.map Bed.pv)), some (.own p.length), some (.int j), some (.int (cnt bs j)), some (.tup ((x :: r).map .int)), x8, x9]⟩ (two p k (.lst (ps.map rowPV)) s1) = .ok true (two p k (.lst (ps.map rowPV)) s1) := by
          have e5 : decide ((0 : Int) < (cnt bs j : Int)) = true := decide_eq_true (by omega)
          have e6 : decide ((x :: r).sum = 0) = true := decide_eq_true h.2
          generalize (x :: r).map PV.int = xr at es ⊢
          generalize (x :: r).sum = xs at es e6 ⊢
          simp only [fnM, fnO, sSeq, sAsg, sIf, sRet, sNop, sSet, sExpr, mBin, mB, mVar, mC, mCall, mCons, mNil, mTup, mLst, mLstO, mFn, mAnd, mOr, mNot, mNeg, mIsi, mYes, itS, itE, itR1, tgN, tgT, tgCons, tgNil, mSl, oNo, oYes, Res.bind, Res.run, Ctl.andThen, En.set, En.sets, f2I, f2C, wipeE, pAdd, pSub, pMul, pDiv, pMod, pPow, pLt, pLe, pGt, pGe, pIx, cLen, cInt, List.map_cons, List.map_nil, List.length_cons, List.length_nil, List.replicate, List.append_nil, List.nil_append, List.cons_append, List.getElem?_cons_zero, List.getElem?_cons_succ, List.set_cons_zero, List.set_cons_succ, List.take_length, get_last, set_last, take_last, take_all1, len1, getL, getR, getQ, mAndV, mOrV, mNotV, mNeg, iniM, fnA, mIf, mChain, sPar, tyP, isT, pEq_int, pNe_int, pIx, cAbs, cMax, cMin, mFld, getF, R.sFld, put0, put1, put2, may_int, thaw_int, thaw_bl, thaw_non, if_true, Bool.not_true, Bool.not_false, atI_0, atI_1, atI_2, atI_3, ixN_30, ixN_31, ixN_32, R.sIx, take_set, Bool.false_eq_true, if_false, es, e5, e6]
        have hz2 : [PV.int (1 + d)].length + (cut ((x :: r).map PV.int) (some 1) none).length ≤ big := by
          rw [List.map_cons, cut_tail, List.length_map, List.length_singleton]
          rw [List.length_cons] at hr
          exact Nat.le_trans (by omega : 1 + r.length ≤ 2) (by decide)
        have t2 := (set_nx (i := 7) (bin_ok (f := pAdd) (en := ⟨p.length, [some (.own k), some (.int most), some (.int many), some (.lst (bs.map Bed.pv)), some (.own p.length), some (.int j), some (.int (cnt bs j)), some (.tup ((x :: r).map .int)), x8, x9]⟩) (p := two p k (.lst (ps.map rowPV)) s1)
          (a := mTup (mCons (mBin pAdd (mC (.int 1)) (mFn m_law_next [] (mCons (mVar 0) (mCons (mC (.int 9)) mNil)))) mNil)) (b := mSl (mVar 7) (oYes (mC (.int 1))) oNo) (tup_ok (one_ok (bin_ok (f := pAdd) rfl (fn0_ok (two_ok (var_ok rfl) rfl) e3) rfl))) (sl_tup (var_ok rfl)) (pAdd_tup hz2)))
        rw [List.map_cons, cut_tail] at t2
        rw [seq_nx f1]
        refine (seq_nx f2).trans ((seq_nx ((if_t t1).trans t2)).trans (ap ((1 + d) :: r) s2))
      · rcases List.mem_cons.mp hy with rfl | hy
        · omega
        · exact hall y (List.mem_cons_of_mem _ hy)
      · have := sum_nonneg r fun y hy => (hall y (List.mem_cons_of_mem _ hy)).1
        rw [List.sum_cons]
        omega
  · refine ⟨s1, r, some (.int (cnt bs j)), some (.tup (r.map .int)), x8, x9, ?_, h1, hr, hall, fun hp => by
      have : r.sum ≠ 0 := fun e => h ⟨hp, e⟩
      omega⟩
    have t1 : (mAnd (mB (mBin pGt (mVar 6) (mC (.int 0)))) (mB (mBin pEq (mCall cSumA (mCons (mVar 7) mNil)) (mC (.int 0))))) ⟨p.length, [some (.own k), some (.int most), some (.int many), some (.lst (bs.map Bed.pv)), some (.own p.length), some (.int j), some (.int (cnt bs j)), some (.tup (r.map .int)), x8, x9]⟩ (two p k (.lst (ps.map rowPV)) s1) = .ok false (two p k (.lst (ps.map rowPV)) s1) := by
      by_cases hp : 0 < cnt bs j
      · have e5 : decide ((0 : Int) < (cnt bs j : Int)) = true := decide_eq_true (by omega)
        have e6 : decide (r.sum = 0) = false := decide_eq_false fun e => h ⟨hp, e⟩
        simp only [fnM, fnO, sSeq, sAsg, sIf, sRet, sNop, sSet, sExpr, mBin, mB, mVar, mC, mCall, mCons, mNil, mTup, mLst, mLstO, mFn, mAnd, mOr, mNot, mNeg, mIsi, mYes, itS, itE, itR1, tgN, tgT, tgCons, tgNil, mSl, oNo, oYes, Res.bind, Res.run, Ctl.andThen, En.set, En.sets, f2I, f2C, wipeE, pAdd, pSub, pMul, pDiv, pMod, pPow, pLt, pLe, pGt, pGe, pIx, cLen, cInt, List.map_cons, List.map_nil, List.length_cons, List.length_nil, List.replicate, List.append_nil, List.nil_append, List.cons_append, List.getElem?_cons_zero, List.getElem?_cons_succ, List.set_cons_zero, List.set_cons_succ, List.take_length, get_last, set_last, take_last, take_all1, len1, getL, getR, getQ, mAndV, mOrV, mNotV, mNeg, iniM, fnA, mIf, mChain, sPar, tyP, isT, pEq_int, pNe_int, pIx, cAbs, cMax, cMin, mFld, getF, R.sFld, put0, put1, put2, may_int, thaw_int, thaw_bl, thaw_non, if_true, Bool.not_true, Bool.not_false, atI_0, atI_1, atI_2, atI_3, ixN_30, ixN_31, ixN_32, R.sIx, take_set, Bool.false_eq_true, if_false, es, e5, e6]
      · have e5 : decide ((0 : Int) < (cnt bs j : Int)) = false := decide_eq_false (by omega)
        simp only [fnM, fnO, sSeq, sAsg, sIf, sRet, sNop, sSet, sExpr, mBin, mB, mVar, mC, mCall, mCons, mNil, mTup, mLst, mLstO, mFn, mAnd, mOr, mNot, mNeg, mIsi, mYes, itS, itE, itR1, tgN, tgT, tgCons, tgNil, mSl, oNo, oYes, Res.bind, Res.run, Ctl.andThen, En.set, En.sets, f2I, f2C, wipeE, pAdd, pSub, pMul, pDiv, pMod, pPow, pLt, pLe, pGt, pGe, pIx, cLen, cInt, List.map_cons, List.map_nil, List.length_cons, List.length_nil, List.replicate, List.append_nil, List.nil_append, List.cons_append, List.getElem?_cons_zero, List.getElem?_cons_succ, List.set_cons_zero, List.set_cons_succ, List.take_length, get_last, set_last, take_last, take_all1, len1, getL, getR, getQ, mAndV, mOrV, mNotV, mNeg, iniM, fnA, mIf, mChain, sPar, tyP, isT, pEq_int, pNe_int, pIx, cAbs, cMax, cMin, mFld, getF, R.sFld, put0, put1, put2, may_int, thaw_int, thaw_bl, thaw_non, if_true, Bool.not_true, Bool.not_false, atI_0, atI_1, atI_2, atI_3, ixN_30, ixN_31, ixN_32, R.sIx, take_set, Bool.false_eq_true, if_false, es, e5]
    rw [seq_nx f1]
    exact (seq_nx f2).trans ((seq_nx (if_f t1)).trans (ap r s1))

/-- the law's world, as the law has it -/
def wPV (many : Nat) (bs : List Bed) (ps : List (List Int)) : PV := .tup [.int many, .lst (bs.map Bed.pv), .lst (ps.map rowPV)]
structure Wrld (many : Nat) (bs : List Bed) (ps : List (List Int)) : Prop where
  m1 : 1 ≤ many
  m8 : many ≤ 8
  beds : Beds many bs
  len : ps.length = many
  row : ∀ j (h : j < ps.length), GR (cnt bs j) ps[j]
theorem bels_rows (n : Nat) : ∀ ps : List (List Int), bels n (ps.map rowPV) = true := fun ps => bels_iff.mpr fun x hx => by
  obtain ⟨r, _, rfl⟩ := List.mem_map.mp hx
  show bels n (r.map PV.int) = true
  rw [bels_iff]
  intro y hy
  obtain ⟨a, _, rfl⟩ := List.mem_map.mp hy
  rfl
theorem world_ok (mm : Nat) (mm0 : 0 < mm) (mm8 : mm ≤ 8) (p : Pool) (k : Nat) (hl : k < p.length) (s0 : Cell) (h0 : IsSrc s0) :
    ∃ (s : Cell) (many : Nat) (bs : List Bed) (ps : List (List Int)), m_law_world [.own k, .int mm] (p.set k s0) = .ok (wPV many bs ps) (p.set k s) ∧ IsSrc s ∧ Wrld many bs ps := by
  obtain ⟨d, s1, e1, h1, a1, b1⟩ := next_set p k s0 mm hl h0 (by omega) (Int.lt_of_le_of_lt (by omega : (mm : Int) ≤ 8) (by decide))
  obtain ⟨many, hm, m1, m8⟩ : ∃ many : Nat, (1 : Int) + d = many ∧ 1 ≤ many ∧ many ≤ 8 := ⟨(1 + d).toNat, by omega, by omega, by omega⟩
  obtain ⟨s2, bs, e2, h2, hB⟩ := beds_of_ok p k hl many m1 m8 s1 h1
  obtain ⟨en2, p2, e3, s, ps, y5, y6, y7, y8, y9, rfl, rfl, hS, hlen, hrow⟩ := sFor_range (i := 5) (body := rowIn) (n := many) (a := mCons (mVar 2) mNil) (en := ⟨p.length, [some (.own k), some (.int mm), some (.int many), some (.lst (bs.map Bed.pv)), some (.own p.length), none, none, none, none, none]⟩) (p := two p k (.lst ([].map rowPV)) s2) (p1 := two p k (.lst ([].map rowPV)) s2)
    (fun j en q => ∃ (s : Cell) (ps : List (List Int)) (y5 y6 y7 y8 y9 : Option PV), en = ⟨p.length, [some (.own k), some (.int mm), some (.int many), some (.lst (bs.map Bed.pv)), some (.own p.length), y5, y6, y7, y8, y9]⟩ ∧ q = two p k (.lst (ps.map rowPV)) s ∧ IsSrc s ∧ ps.length = j ∧ ∀ i (h : i < ps.length), GR (cnt bs i) ps[i])
    (one_ok (var_ok rfl)) (Nat.le_trans m8 (by decide)) (fun j en q hj ⟨s, ps, y5, y6, y7, y8, y9, he, hq, hS, hlen, hrow⟩ => by
      subst he
      subst hq
      obtain ⟨s', r, z6, z7, z8, z9, e, hS', hr⟩ := row_step p k hl mm many j bs ps hB (by omega) s hS y6 y7 y8 y9
      refine ⟨_, _, e, s', ps ++ [r], _, _, _, _, _, rfl, rfl, hS', by rw [List.length_append, hlen, List.length_singleton], fun i hi => ?_⟩
      by_cases h : i < ps.length
      · rw [List.getElem_append_left h]
        exact hrow i h
      · rw [List.length_append, List.length_singleton] at hi
        have hi2 : i = ps.length := by omega
        subst hi2
        rw [List.getElem_append_right (Nat.le_refl _)]
        simp only [Nat.sub_self, List.getElem_singleton]
        rw [hlen]
        exact hr) ⟨s2, [], _, _, _, _, _, rfl, rfl, h2, rfl, fun i hi => absurd hi (Nat.not_lt_zero i)⟩
  refine ⟨s, many, bs, ps, ?_, hS, m1, m8, hB, hlen, hrow⟩
  have hb : b_law_world ⟨(p.set k s0).length, [PV.own k, .int mm].map some ++ List.replicate (10 - [PV.own k, .int mm].length) none⟩ (p.set k s0) = .ret (.tup [.int many, .lst (bs.map Bed.pv), .own p.length]) (two p k (.lst (ps.map rowPV)) s) := by
    rw [List.length_set]
    show b_law_world ⟨p.length, [some (.own k), some (.int mm), none, none, none, none, none, none, none, none]⟩ _ = _
    have f1 := set_nx (i := 2) (bin_ok (f := pAdd) (a := mC (.int 1)) (en := ⟨p.length, [some (.own k), some (.int mm), none, none, none, none, none, none, none, none]⟩) rfl (fn0_ok (two_ok (var_ok (i := 0) rfl) (var_ok (i := 1) rfl)) e1) (show pAdd (.int 1) (.int d) _ = .ok (.int many) _ by rw [← hm]; rfl))
    have f2 := set_nx (i := 3) (fn0_ok (en := ⟨p.length, [some (.own k), some (.int mm), some (.int many), none, none, none, none, none, none, none]⟩) (two_ok (var_ok (i := 0) rfl) (var_ok (i := 2) rfl)) e2)
    have f3 : sSet (mLstO mNil) 4 ⟨p.length, [some (.own k), some (.int mm), some (.int many), some (.lst (bs.map Bed.pv)), none, none, none, none, none, none]⟩ (p.set k s2) = .next ⟨p.length, [some (.own k), some (.int mm), some (.int many), some (.lst (bs.map Bed.pv)), some (.own p.length), none, none, none, none, none]⟩ (two p k (.lst ([].map rowPV)) s2) := by
      rw [two_eq hl]
      refine (set_nx (x := .own (p.set k s2).length) rfl).trans ?_
      rw [List.length_set]
      rfl
    unfold b_law_world
    refine (seq_nx f1).trans ((seq_nx f2).trans ((seq_nx f3).trans ((seq_nx e3).trans ?_)))
    exact ret_ok (tup_ok (three_ok (var_ok rfl) (var_ok rfl) (var_ok rfl)))
  have ht : thaw fldT (p.set k s0).length (two p k (.lst (ps.map rowPV)) s) (.tup [.int many, .lst (bs.map Bed.pv), .own p.length]) = some (wPV many bs ps) := by
    rw [List.length_set]
    exact thaw_tup3 rfl (thaw_bel (bels_pv 0 bs)) (thaw_two hl (bels_rows 0 ps))
  unfold m_law_world
  rw [fnM_ret hb ht, List.length_set, take_two hl]

/-- the program's web -/
def webPV (many : Nat) (bs : List Bed) (ps : List (List Int)) : PV := .obj 1 [.int many, .lst (bs.map Bed.sv), .lst (ps.map rowPV)]
theorem bels_sv (n : Nat) (bs : List Bed) : bels n (bs.map Bed.sv) = true := bels_iff.mpr fun x hx => by
  obtain ⟨b, _, rfl⟩ := List.mem_map.mp hx
  rfl
theorem mark_fr {q : Int × Int} (h : Mark q) : Fr q := fr_small h.co.pos (Nat.lt_of_le_of_lt h.t (by decide)) (Nat.lt_of_le_of_lt (by have := h.b; have := h.co.pos; omega : q.2.natAbs ≤ 7) (by decide))
theorem GB.fh {many : Nat} {b : Bed} (h : GB many b) : Fr b.high := fr_small h.hi.pos (Nat.lt_of_le_of_lt h.ht (by decide)) (Nat.lt_of_le_of_lt (by have := h.hb; have := h.hi.pos; omega : b.high.2.natAbs ≤ 49) (by decide))
theorem GB.fl {many : Nat} {b : Bed} (h : GB many b) : Fr b.low := mark_fr h.low
theorem between_ok (a lo hi : Int) (p : Pool) (h1 : lo ≤ a) (h2 : a ≤ hi) : m_is_between [.int a, .int lo, .int hi] p = .ok (.bl true) p := by
  have e1 := decide_eq_true h1
  have e2 := decide_eq_true h2
  have e4 := whole_ok
  unfold m_is_between b_is_between
  simp only [fnM, fnO, sSeq, sAsg, sIf, sRet, sNop, sSet, sExpr, mBin, mB, mVar, mC, mCall, mCons, mNil, mTup, mLst, mLstO, mFn, mAnd, mOr, mNot, mNeg, mIsi, mYes, itS, itE, itR1, tgN, tgT, tgCons, tgNil, mSl, oNo, oYes, Res.bind, Res.run, Ctl.andThen, En.set, En.sets, f2I, f2C, wipeE, pAdd, pSub, pMul, pDiv, pMod, pPow, pLt, pLe, pGt, pGe, pIx, cLen, cInt, List.map_cons, List.map_nil, List.length_cons, List.length_nil, List.replicate, List.append_nil, List.nil_append, List.cons_append, List.getElem?_cons_zero, List.getElem?_cons_succ, List.set_cons_zero, List.set_cons_succ, List.take_length, get_last, set_last, take_last, take_all1, len1, getL, getR, getQ, mAndV, mOrV, mNotV, mNeg, iniM, fnA, mIf, mChain, sPar, tyP, isT, pEq_int, pNe_int, pIx, cAbs, cMax, cMin, mFld, getF, R.sFld, put0, put1, put2, may_int, thaw_int, thaw_bl, thaw_non, if_true, Bool.not_true, Bool.not_false, atI_0, atI_1, atI_2, atI_3, ixN_30, ixN_31, ixN_32, R.sIx, take_set, Bool.false_eq_true, if_false, e1, e2, e4, mChain]
theorem is_bed_ok {many : Nat} {b : Bed} (hb : GB many b) (p : Pool) : m_is_bed [b.sv, .int many] p = .ok (.bl true) p := by
  have h1 := hb.lt
  have h2 := hb.fin
  unfold m_is_bed
  refine fnM_pure (x := .bl true) ?_ rfl
  show b_is_bed ⟨p.length, [some b.sv, some (.int many), none, none, none, none]⟩ p = _
  unfold b_is_bed
  refine (seq_nx ((if_f ((or_f (not_t (b_ok (isi_ok (t := .tup) (var_ok rfl) rfl)))).trans (b_ok (ne_no (len_ok (var_ok rfl) rfl) rfl rfl)))).trans rfl)).trans ?_
  refine (seq_nx (asg_nx (as := [(2, .int b.st), (3, .int b.fin), (4, sh b.low), (5, sh b.high)]) (var_ok rfl) rfl)).trans ?_
  have c2 : mOr (mNot (mB (mFn m_is_between [] (mCons (mVar 2) (mCons (mC (.int 0)) (mCons (mBin pSub (mVar 1) (mC (.int 1))) mNil)))))) (mOr (mNot (mB (mFn m_is_between [] (mCons (mVar 3) (mCons (mC (.int 0)) (mCons (mBin pSub (mVar 1) (mC (.int 1))) mNil)))))) (mB (mBin pGe (mVar 2) (mVar 3))))
      ⟨p.length, [some b.sv, some (.int many), some (.int b.st), some (.int b.fin), some (sh b.low), some (sh b.high)]⟩ p = .ok false p := by
    refine (or_f (not_t (b_ok (fn0_ok (three_ok (var_ok rfl) rfl (sub_ok (var_ok rfl) rfl)) (between_ok _ _ _ _ (by omega) (by omega)))))).trans ?_
    refine (or_f (not_t (b_ok (fn0_ok (three_ok (var_ok rfl) rfl (sub_ok (var_ok rfl) rfl)) (between_ok _ _ _ _ (by omega) (by omega)))))).trans ?_
    rw [b_ok (ge_ok (x := b.st) (y := b.fin) (var_ok rfl) (var_ok rfl)), decide_eq_false (by omega)]
  refine (seq_nx ((if_f c2).trans rfl)).trans ?_
  refine ret_ok ((andV_t (isi_ok (t := .cls 0) (var_ok (x := sh b.low) rfl) rfl)).trans ((andV_t (isi_ok (t := .cls 0) (var_ok (x := sh b.high) rfl) rfl)).trans (fn0_ok (two_ok (var_ok rfl) (var_ok rfl)) ?_)))
  rw [less_q p hb.fl hb.fh, hb.less]
theorem cnt_count (bs : List Bed) (j : Nat) : (bs.map fun b => (b.st : Int)).count (j : Int) = cnt bs j := by
  unfold cnt
  rw [List.count, List.countP_map, List.countP_eq_length_filter]
  congr 1
  apply List.filter_congr
  intro b _
  simp
  by_cases h : b.st = j
  · simp [h]
  · have h2 : ¬ (b.st : Int) = j := by omega
    simp [h, h2]
def st1 : PV → PV := fun x => match x with
  | .tup (a :: _) => a
  | _ => .non
theorem are_beds_ok {many : Nat} {bs : List Bed} (hB : Beds many bs) (p : Pool) : m_are_beds [.lst (bs.map Bed.sv), .int many] p = .ok (.bl true) p := by
  have hlen := hB.len
  have hbig : (bs.map Bed.sv).length ≤ big := by rw [List.length_map]; exact Nat.le_trans hlen (by decide)
  unfold m_are_beds
  refine fnM_pure (x := .bl true) ?_ rfl
  show b_are_beds ⟨p.length, [some (.lst (bs.map Bed.sv)), some (.int many), none, none, none]⟩ p = _
  have c1 : mLc (itS (mVar 0)) (tgN 3) mYes (mFn m_is_bed [] (mCons (mVar 3) (mCons (mVar 1) mNil))) [3] ⟨p.length, [some (.lst (bs.map Bed.sv)), some (.int many), none, none, none]⟩ p = .ok (.lst ((bs.map Bed.sv).map fun _ => .bl true)) p :=
    mLc_all (fun _ => .bl true) (itS_lst (var_ok rfl)) (fun _ => rfl) (fun x hx => by
      obtain ⟨b, hb, rfl⟩ := List.mem_map.mp hx
      exact ⟨[(3, b.sv)], rfl, rfl, fun acc => ⟨fn0_ok (two_ok (var_ok rfl) (var_ok rfl)) (is_bed_ok (hB.all b hb) _), rfl⟩⟩) hbig
  have c2 : mLc (itS (mVar 0)) (tgN 3) mYes (mBin pIx (mVar 3) (mC (.int 0))) [3] ⟨p.length, [some (.lst (bs.map Bed.sv)), some (.int many), none, none, none]⟩ p = .ok (.lst ((bs.map fun b => (b.st : Int)).map .int)) p := by
    have e := mLc_all (te := mBin pIx (mVar 3) (mC (.int 0))) (g := tgN 3) (vs := [3]) st1 (itS_lst (m := mVar 0) (en := ⟨p.length, [some (.lst (bs.map Bed.sv)), some (.int many), none, none, none]⟩) (p := p) (var_ok rfl)) (fun _ => rfl) (fun x hx => by
      obtain ⟨b, hb, rfl⟩ := List.mem_map.mp hx
      exact ⟨[(3, b.sv)], rfl, rfl, fun acc => ⟨at_ok (i := 0) (x := b.sv) (var_ok rfl) rfl rfl rfl, rfl⟩⟩) hbig
    rw [e, List.map_map, List.map_map]
    rfl
  have c3 : mLc (itS (mVar 2)) (tgN 4) mYes (mBin pLt (mCnt (mVar 2) (mCons (mVar 4) mNil)) (mC (.int 3))) [4] ⟨p.length, [some (.lst (bs.map Bed.sv)), some (.int many), some (.lst ((bs.map fun b => (b.st : Int)).map .int)), none, none]⟩ p = .ok (.lst (((bs.map fun b => (b.st : Int)).map PV.int).map fun _ => .bl true)) p :=
    mLc_all (fun _ => .bl true) (itS_lst (var_ok rfl)) (fun _ => rfl) (fun x hx => by
      obtain ⟨y, hy, rfl⟩ := List.mem_map.mp hx
      obtain ⟨b, hb, rfl⟩ := List.mem_map.mp hy
      refine ⟨[(4, .int b.st)], rfl, rfl, fun acc => ⟨?_, rfl⟩⟩
      have h2 := hB.two b.st
      rw [lt_ok (cnt_ok (ns := bs.map fun b => (b.st : Int)) (k := b.st) (var_ok rfl) (var_ok rfl)) rfl, cnt_count, decide_eq_true (by omega)]) (by rw [List.length_map, List.length_map]; exact Nat.le_trans hlen (by decide))
  unfold b_are_beds
  generalize mLc _ _ _ (mFn m_is_bed _ _) _ = W1 at c1 ⊢
  generalize mLc _ _ _ (mBin pIx _ _) _ = W2 at c2 ⊢
  generalize mLc _ _ _ (mBin pLt _ _) _ = W3 at c3 ⊢
  have t1 : mOr (mNot (mB (mIsi 2 .lst (mVar 0)))) (mOr (mB (mBin pGt (mCall cLen (mCons (mVar 0) mNil)) (mC (.int 12)))) (mNot (mB (mCall cAll (mCons W1 mNil))))) ⟨p.length, [some (.lst (bs.map Bed.sv)), some (.int many), none, none, none]⟩ p = .ok false p := by
    refine (or_f (not_t (b_ok (isi_ok (t := .lst) (var_ok rfl) rfl)))).trans ?_
    have e := b_ok (gt_ok (len_ok (a := mVar 0) (en := ⟨p.length, [some (.lst (bs.map Bed.sv)), some (.int many), none, none, none]⟩) (p := p) (x := .lst (bs.map Bed.sv)) (var_ok rfl) rfl) (b := mC (.int 12)) rfl)
    rw [List.length_map, decide_eq_false (by omega)] at e
    exact (or_f e).trans (not_t (b_ok (call_ok (one_ok c1) (cAll_true _))))
  refine (seq_nx ((if_f t1).trans rfl)).trans ?_
  refine (seq_nx (set_nx c2)).trans ?_
  have hup : (bs.map fun b => (b.st : Int)).Pairwise (· ≤ ·) := by
    rw [List.pairwise_map]
    exact hB.up.imp fun h => by omega
  refine ret_ok ((andV_t (bin_ok (var_ok rfl) (call_ok (one_ok (var_ok rfl)) (cSortUp_ok hup)) (pTr_eq (bels_ints 0 _) rfl (eqv_lst eqv_ints)))).trans (call_ok (one_ok c3) (cAll_true _)))

theorem atSt_sv (j : Nat) (b : Bed) : atSt j b.sv = if b.st = j then some b.sv else none := by
  unfold Bed.sv atSt
  by_cases h : b.st = j
  · rw [if_pos h]
    dsimp only
    rw [if_pos (by omega)]
  · rw [if_neg h]
    dsimp only
    rw [if_neg (by omega)]
theorem atSt_maps (j : Nat) : ∀ bs : List Bed, (bs.map Bed.sv).filterMap (atSt j) = (bs.filter fun b => decide (b.st = j)).map Bed.sv
  | [] => rfl
  | b :: bs => by
    rw [List.map_cons]
    by_cases h : b.st = j
    · rw [List.filterMap_cons_some (by rw [atSt_sv, if_pos h]), atSt_maps j bs, List.filter_cons_of_pos (by simp [h]), List.map_cons]
    · rw [List.filterMap_cons_none (by rw [atSt_sv, if_neg h]), atSt_maps j bs, List.filter_cons_of_neg (by simp [h])]
theorem wanted_sv {i1 i2 i3 : Nat} {en : En} {q : Pool} {bs : List Bed} {j : Nat} (h1 : en.sl[i1]? = some (some (.lst (bs.map Bed.sv)))) (h2 : en.sl[i2]? = some (some (.int j))) (hi : i3 < en.sl.length) (hne : i2 ≠ i3) (hl : bs.length ≤ big) :
    mLc (itS (mVar i1)) (tgN i3) (mB (mBin pEq (mBin pIx (mVar i3) (mC (.int 0))) (mVar i2))) (mVar i3) [i3] en q = .ok (.lst ((bs.filter fun b => decide (b.st = j)).map Bed.sv)) q := by
  rw [← atSt_maps]
  refine mLc_map (atSt j) (itS_lst (var_ok h1)) (fun _ => rfl) (fun x hx => ?_) (by rw [List.length_map]; exact hl)
  obtain ⟨b, hb, rfl⟩ := List.mem_map.mp hx
  refine ⟨[(i3, b.sv)], rfl, by simp, fun acc => ?_⟩
  have g1 : ((en.sl.set i3 none).set i3 (some b.sv))[i3]? = some (some b.sv) := List.getElem?_set_self (by rw [List.length_set]; exact hi)
  have g2 : ((en.sl.set i3 none).set i3 (some b.sv))[i2]? = some (some (.int j)) := by
    rw [List.getElem?_set_ne (Ne.symm hne), List.getElem?_set_ne (Ne.symm hne), h2]
  refine ⟨?_, fun y hy => ?_⟩
  · have e : (atSt j b.sv).isSome = decide ((b.st : Int) = j) := by
      rw [atSt_sv]
      by_cases h : b.st = j
      · rw [if_pos h, decide_eq_true (by omega)]
        rfl
      · rw [if_neg h, decide_eq_false (by omega)]
        rfl
    rw [e]
    exact b_ok (eq_ok (at_ok (i := 0) (x := b.sv) (var_ok g1) rfl rfl rfl) (var_ok g2))
  · rw [atSt_sv] at hy
    split at hy
    · cases hy
      exact ⟨var_ok g1, rfl⟩
    · cases hy
theorem are_parts_ok {many : Nat} {bs : List Bed} {ps : List (List Int)} (h : Wrld many bs ps) (p : Pool) : m_are_parts [.lst (ps.map rowPV), .int many, .lst (bs.map Bed.sv)] p = .ok (.bl true) p := by
  have hlen := h.beds.len
  unfold m_are_parts
  refine fnM_pure (x := .bl true) ?_ rfl
  show b_are_parts ⟨p.length, [some (.lst (ps.map rowPV)), some (.int many), some (.lst (bs.map Bed.sv)), none, none, none, none, none]⟩ p = _
  unfold b_are_parts
  have hn : (((ps.map rowPV).length : Nat) : Int) = many := by rw [List.length_map, h.len]
  refine (seq_nx ((if_f ((or_f (not_t (b_ok (isi_ok (t := .lst) (var_ok rfl) rfl)))).trans (b_ok (ne_no (len_ok (var_ok rfl) rfl) (var_ok rfl) hn)))).trans rfl)).trans ?_
  obtain ⟨en2, p2, e, y3, y4, y5, y6, y7, rfl, rfl⟩ := sFor_idx (it := itEA (mCons (mVar 0) mNil)) (g := tgT 2 (tgCons (tgN 3) (tgCons (tgN 4) tgNil)))
    (body := (sSeq (sSet (mCall cLen (mCons (mLc (itS (mVar 2)) (tgN 6) (mB (mBin pEq (mBin pIx (mVar 6) (mC (.int 0))) (mVar 3))) (mVar 6) [6]) mNil)) 5)
    (sSeq (sIf (mOr (mNot (mB (mIsi 2 .tup (mVar 4)))) (mB (mBin pNe (mCall cLen (mCons (mVar 4) mNil)) (mVar 5))))
    (sRet (mC (.bl false)))
    sNop)
    (sIf (mOr (mNot (mB (mCall cAll (mCons (mLc (itS (mVar 4)) (tgN 7) mYes (mFn m_is_between [] (mCons (mVar 7) (mCons (mC (.int 0)) (mCons (mC (.int 9)) mNil)))) [7]) mNil)))) (mAnd (mB (mBin pGt (mVar 5) (mC (.int 0)))) (mB (mBin pEq (mCall cSumA (mCons (mVar 4) mNil)) (mC (.int 0))))))
    (sRet (mC (.bl false)))
    sNop))))
    (en := ⟨p.length, [some (.lst (ps.map rowPV)), some (.int many), some (.lst (bs.map Bed.sv)), none, none, none, none, none]⟩) (p := p)
    (fun j en q => ∃ y3 y4 y5 y6 y7 : Option PV, en = ⟨p.length, [some (.lst (ps.map rowPV)), some (.int many), some (.lst (bs.map Bed.sv)), y3, y4, y5, y6, y7]⟩ ∧ q = p)
    (itEA_lst (var_ok rfl)) (fun _ _ _ _ => rfl) (fun j hj en q ⟨y3, y4, y5, y6, y7, he, hq⟩ => by
      subst he
      subst hq
      obtain ⟨h2, e⟩ := enumZ_at hj
      have hj2 : j < ps.length := by rw [List.length_map] at h2; exact h2
      have g := h.row j hj2
      rw [List.getElem_map] at e
      rw [e]
      generalize ps[j] = r at g
      have gl := g.len
      have c1 := wanted_sv (i1 := 2) (i2 := 3) (i3 := 6) (j := j) (bs := bs) (en := ⟨q.length, [some (.lst (ps.map rowPV)), some (.int many), some (.lst (bs.map Bed.sv)), some (.int j), some (rowPV r), y5, y6, y7]⟩) (q := q) rfl rfl (by show 6 < 8; decide) (by decide) (Nat.le_trans hlen (by decide))
      have c2 := len_ok c1 rfl
      rw [List.length_map] at c2
      have c3 : mLc (itS (mVar 4)) (tgN 7) mYes (mFn m_is_between [] (mCons (mVar 7) (mCons (mC (.int 0)) (mCons (mC (.int 9)) mNil)))) [7] ⟨q.length, [some (.lst (ps.map rowPV)), some (.int many), some (.lst (bs.map Bed.sv)), some (.int j), some (rowPV r), some (.int (cnt bs j)), y6, y7]⟩ q = .ok (.lst ((r.map PV.int).map fun _ => .bl true)) q :=
        mLc_all (fun _ => .bl true) (itS_tup (var_ok rfl)) (fun _ => rfl) (fun x hx => by
          obtain ⟨a, ha, rfl⟩ := List.mem_map.mp hx
          have hb := g.all a ha
          exact ⟨[(7, .int a)], rfl, rfl, fun acc => ⟨fn0_ok (three_ok (var_ok rfl) rfl rfl) (between_ok _ _ _ _ hb.1 hb.2), rfl⟩⟩) (by
          rw [List.length_map, gl]
          exact Nat.le_trans (h.beds.two j) (by decide))
      refine ⟨[(3, .int j), (4, rowPV r)], _, _, rfl, ?_, some (.int j), some (rowPV r), some (.int (cnt bs j)), y6, y7, rfl, rfl⟩
      refine (seq_nx (set_nx c2)).trans ?_
      refine (seq_nx ((if_f ((or_f (not_t (b_ok (isi_ok (t := .tup) (var_ok (x := rowPV r) rfl) rfl)))).trans (b_ok (ne_no (len_ok (x := rowPV r) (xs := r.map PV.int) (var_ok rfl) rfl) (var_ok (x := .int (cnt bs j)) rfl) (by rw [List.length_map, gl]))))).trans rfl)).trans ?_
      refine (if_f ((or_f (not_t (b_ok (call_ok (one_ok c3) (cAll_true _))))).trans ?_)).trans rfl
      by_cases hp : 0 < cnt bs j
      · have := g.sum hp
        exact (and_t (b_ok (gt_yes (x := (cnt bs j : Int)) (y := 0) (var_ok rfl) rfl (by omega)))).trans (b_ok (eq_no (x := r.sum) (y := 0) (call_ok (one_ok (var_ok rfl)) (cSumA_tup r _)) rfl (by omega)))
      · exact and_f (b_ok (gt_no (x := (cnt bs j : Int)) (y := 0) (var_ok rfl) rfl (by omega)))) ⟨_, _, _, _, _, rfl, rfl⟩
  exact (seq_nx e).trans rfl
theorem Web_ok {many : Nat} {bs : List Bed} {ps : List (List Int)} (h : Wrld many bs ps) (p : Pool) : m_Web_init [.int many, .lst (bs.map Bed.sv), .lst (ps.map rowPV)] p = .ok (webPV many bs ps) p := by
  have m1 := h.m1
  have m8 := h.m8
  have ht : thaw fldT p.length (p ++ [.obj 1 [.int many, .lst (bs.map Bed.sv), .lst (ps.map rowPV)]]) (.own p.length) = some (webPV many bs ps) := thaw_obj rfl (by
    show (true && (bels 0 (bs.map Bed.sv) && (bels 0 (ps.map rowPV) && true))) = true
    rw [bels_sv, bels_rows]
    rfl)
  unfold m_Web_init
  have hb : b_Web_init ⟨p.length, some (.own p.length) :: ([PV.int many, .lst (bs.map Bed.sv), .lst (ps.map rowPV)].map some ++ List.replicate (4 - ([PV.int many, .lst (bs.map Bed.sv), .lst (ps.map rowPV)].length + 1)) none)⟩ (p ++ [.obj 1 []])
      = .next ⟨p.length, [some (.own p.length), some (.int many), some (.lst (bs.map Bed.sv)), some (.lst (ps.map rowPV))]⟩ (p ++ [.obj 1 [.int many, .lst (bs.map Bed.sv), .lst (ps.map rowPV)]]) := by
    simp only [List.map_cons, List.map_nil, List.length_cons, List.length_nil, List.cons_append, List.nil_append, Nat.reduceAdd, Nat.reduceSub, List.replicate_zero, List.append_nil]
    unfold b_Web_init
    refine (seq_nx ((if_f (not_t (b_ok (fn0_ok (three_ok (var_ok rfl) rfl rfl) (between_ok _ _ _ _ (by omega) (by omega)))))).trans rfl)).trans ?_
    refine (seq_nx ((if_f (not_t (b_ok (fn0_ok (two_ok (var_ok rfl) (var_ok rfl)) (are_beds_ok h.beds _))))).trans rfl)).trans ?_
    refine (seq_nx ((if_f (not_t (b_ok (fn0_ok (three_ok (var_ok rfl) (var_ok rfl) (var_ok rfl)) (are_parts_ok h _))))).trans rfl)).trans ?_
    refine (seq_nx (fld_nx (k := p.length) (var_ok rfl) (var_ok rfl) (may_eq _ _) (get_last p _) (put0 1 _))).trans ?_
    rw [set_last]
    refine (seq_nx (fld_nx (k := p.length) (y := .lst (bs.map Bed.sv)) (call_ok (one_ok (var_ok rfl)) rfl) (var_ok rfl) (may_eq _ _) (get_last p _) (put1 1 _ _))).trans ?_
    rw [set_last]
    refine (fld_nx (k := p.length) (y := .lst (ps.map rowPV)) (call_ok (one_ok (var_ok rfl)) rfl) (var_ok rfl) (may_eq _ _) (get_last p _) (put2 1 _ _ _)).trans ?_
    rw [set_last]
  rw [iniM_ok hb ht, take_last]

theorem bel_web (n : Nat) (many : Nat) (bs : List Bed) (ps : List (List Int)) : bel n (webPV many bs ps) = true := by
  show (true && (bels n (bs.map Bed.sv) && (bels n (ps.map rowPV) && true))) = true
  rw [bels_sv, bels_rows]
  rfl
theorem bel_w (n : Nat) (many : Nat) (bs : List Bed) (ps : List (List Int)) : bel n (wPV many bs ps) = true := by
  show (true && (bels n (bs.map Bed.pv) && (bels n (ps.map rowPV) && true))) = true
  rw [bels_pv, bels_rows]
  rfl
theorem take_map {α β : Type} (f : α → β) (xs : List α) {j : Nat} (h : j < xs.length) : (xs.take (j + 1)).map f = (xs.take j).map f ++ [f xs[j]] := by
  rw [List.take_succ_eq_append_getElem h, List.map_append]
  rfl
theorem share_self {q : Int × Int} (p : Pool) (c : Co q) (f : Fr q) : m_Share_init [.int q.1, .int q.2] p = .ok (sh q) p := by
  rw [share_ok q.1 q.2 p c.pos (pow_fuel f.s2), lw_self c]
theorem made_ok {many : Nat} {bs : List Bed} {ps : List (List Int)} (h : Wrld many bs ps) (p : Pool) : m_law_made [wPV many bs ps] p = .ok (webPV many bs ps) p := by
  have hlen := h.beds.len
  unfold m_law_made
  refine fnM_cells (q := p) (r := [.dead]) ?_ rfl (bel_web 0 many bs ps)
  show b_law_made ⟨p.length, [some (wPV many bs ps), none, none, none, none, none, none, none, none]⟩ p = _
  unfold b_law_made
  refine (seq_nx (asg_nx (as := [(1, .int many), (2, .lst (bs.map Bed.pv)), (3, .lst (ps.map rowPV))]) (var_ok (x := wPV many bs ps) rfl) rfl)).trans ?_
  refine (seq_nx (set_nx (x := .own p.length) (p1 := p ++ [.lst []]) rfl)).trans ?_
  obtain ⟨en2, p2, e, y5, y6, y7, y8, rfl, rfl⟩ := sFor_idx (it := itS (mVar 2)) (g := tgT 4 (tgCons (tgN 5) (tgCons (tgN 6) (tgCons (tgN 7) (tgCons (tgN 8) tgNil)))))
    (body := sExpr (mMet fAppend (mVar 4) (mCons (mTup (mCons (mVar 5) (mCons (mVar 6) (mCons (mFn m_Share_init [] (mCons (mBin pIx (mVar 7) (mC (.int 0))) (mCons (mBin pIx (mVar 7) (mC (.int 1))) mNil))) (mCons (mFn m_Share_init [] (mCons (mBin pIx (mVar 8) (mC (.int 0))) (mCons (mBin pIx (mVar 8) (mC (.int 1))) mNil))) mNil))))) mNil)))
    (en := ⟨p.length, [some (wPV many bs ps), some (.int many), some (.lst (bs.map Bed.pv)), some (.lst (ps.map rowPV)), some (.own p.length), none, none, none, none]⟩) (p := p ++ [.lst []])
    (fun j en q => ∃ y5 y6 y7 y8 : Option PV, en = ⟨p.length, [some (wPV many bs ps), some (.int many), some (.lst (bs.map Bed.pv)), some (.lst (ps.map rowPV)), some (.own p.length), y5, y6, y7, y8]⟩ ∧ q = p ++ [.lst ((bs.take j).map Bed.sv)])
    (itS_lst (var_ok rfl)) (fun _ _ _ _ => rfl) (fun j hj en q ⟨y5, y6, y7, y8, he, hq⟩ => by
      subst he
      subst hq
      have hj : j < (bs.map Bed.pv).length := hj
      have hj2 : j < bs.length := by rw [List.length_map] at hj; exact hj
      have g := h.beds.all bs[j] (List.getElem_mem hj2)
      show ∃ as en2 p2, tgT 4 (tgCons (tgN 5) (tgCons (tgN 6) (tgCons (tgN 7) (tgCons (tgN 8) tgNil)))) (bs.map Bed.pv)[j] = some as ∧ _
      rw [List.getElem_map, take_map Bed.sv bs hj2]
      generalize bs[j] = b at g
      refine ⟨[(5, .int b.st), (6, .int b.fin), (7, pr b.low), (8, pr b.high)], _, _, rfl, ?_, some (.int b.st), some (.int b.fin), some (pr b.low), some (pr b.high), rfl, rfl⟩
      refine (app_nx (k := p.length) (y := b.sv) rfl (get_last p _) (tup_ok (cons_ok (var_ok rfl) (three_ok (var_ok rfl) (fn0_ok (two_ok (at_ok (i := 0) (x := pr b.low) (var_ok rfl) rfl rfl rfl) (at_ok (i := 1) (x := pr b.low) (var_ok rfl) rfl rfl rfl)) (share_self _ g.low.co g.fl)) (fn0_ok (two_ok (at_ok (i := 0) (x := pr b.high) (var_ok rfl) rfl rfl rfl) (at_ok (i := 1) (x := pr b.high) (var_ok rfl) rfl rfl rfl)) (share_self _ g.hi g.fh))))) (get_last p _) (mayL_le (Nat.le_refl _)) ?_).trans ?_
      · rw [List.length_map, List.length_take]
        exact Nat.lt_of_le_of_lt (Nat.le_trans (Nat.min_le_right _ _) hlen) (by decide)
      · rw [set_last]
        rfl) ⟨none, none, none, none, rfl, rfl⟩
  have e2 : (bs.take (bs.map Bed.pv).length) = bs := by rw [List.length_map, List.take_length]
  rw [e2] at e
  refine (seq_nx e).trans ?_
  refine (seq_nx (ice_nx (k := p.length) rfl (get_last p _) (bels_sv 0 bs))).trans ?_
  rw [set_last]
  exact ret_ok (fn0_ok (three_ok (var_ok rfl) (var_ok rfl) (call_ok (one_ok (var_ok rfl)) rfl)) (Web_ok h _))

theorem draw_four (p : Pool) (k : Nat) (hl : k < p.length) (s0 : Cell) (h0 : IsSrc s0) (a b c d : Int) : ∃ (x z : Int) (s : Cell), m_law_next [.own k, .int 4] (p.set k s0) = .ok (.int z) (p.set k s) ∧ IsSrc s ∧ atI [PV.int a, .int b, .int c, .int d] z = some (.int x) := by
  obtain ⟨z, s, e, hs, a1, b1⟩ := next_set p k s0 4 hl h0 (by decide) (by decide)
  obtain ⟨x, hx, ex⟩ := atI_mem [PV.int a, .int b, .int c, .int d] z a1 b1
  simp only [List.mem_cons, List.not_mem_nil, or_false] at hx
  rcases hx with rfl | rfl | rfl | rfl
  · exact ⟨_, z, s, e, hs, ex⟩
  · exact ⟨_, z, s, e, hs, ex⟩
  · exact ⟨_, z, s, e, hs, ex⟩
  · exact ⟨_, z, s, e, hs, ex⟩
theorem ints_snoc (ds : List Int) (d : Int) : (ds ++ [d]).map PV.int = ds.map PV.int ++ [.int d] := by rw [List.map_append]; rfl
theorem lst_ok {xs : List PV} {a : M (List PV)} {en : En} {p p1 : Pool} (h : a en p = .ok xs p1) : mLst a en p = .ok (.lst xs) p1 := by
  unfold mLst
  rw [h]
  rfl
theorem bin_at {a b : M PV} {xs : List PV} {i : Int} {y : PV} {en : En} {p p1 p2 : Pool} (h1 : a en p = .ok (.lst xs) p1) (h2 : b en p1 = .ok (.int i) p2) (h : atI xs i = some y) : mBin pIx a b en p = .ok y p2 := bin_ok h1 h2 (pIx_int rfl h)
theorem depths_ok (p : Pool) (k : Nat) (hl : k < p.length) (s0 : Cell) (h0 : IsSrc s0) {many : Nat} {bs : List Bed} {ps : List (List Int)} (h : Wrld many bs ps) :
    ∃ (s : Cell) (ds : List Int), m_law_depths [.own k, wPV many bs ps] (p.set k s0) = .ok (.tup (ds.map .int)) (p.set k s) ∧ IsSrc s ∧ ds.length = bs.length := by
  have hlen := h.beds.len
  obtain ⟨en2, p2, e, s, ds, y3, y4, y5, y6, y7, rfl, rfl, hS, hd⟩ := sFor_idx (it := itS (mBin pIx (mVar 1) (mC (.int 1)))) (g := tgT 4 (tgCons (tgN 3) (tgCons (tgN 4) (tgCons (tgN 5) (tgCons (tgN 6) tgNil)))))
    (body := (sSeq (sSet (mBin pIx (mLst (mCons (mC (.int 0)) (mCons (mC (.int 3)) (mCons (mBin pSub (mFn m_law_next [] (mCons (mVar 0) (mCons (mC (.int 7)) mNil))) (mC (.int 3))) (mCons (mBin pSub (mFn m_law_next [] (mCons (mVar 0) (mCons (mBin pPow (mC (.int 10)) (mC (.int 12))) mNil))) (mBin pPow (mC (.int 10)) (mC (.int 11)))) mNil))))) (mFn m_law_next [] (mCons (mVar 0) (mCons (mC (.int 4)) mNil)))) 7)
    (sExpr (mMet fAppend (mVar 2) (mCons (mVar 7) mNil)))))
    (en := ⟨p.length, [some (.own k), some (wPV many bs ps), some (.own p.length), none, none, none, none, none]⟩) (p := two p k (.lst []) s0)
    (fun j en q => ∃ (s : Cell) (ds : List Int) (y3 y4 y5 y6 y7 : Option PV), en = ⟨p.length, [some (.own k), some (wPV many bs ps), some (.own p.length), y3, y4, y5, y6, y7]⟩ ∧ q = two p k (.lst (ds.map .int)) s ∧ IsSrc s ∧ ds.length = j)
    (itS_lst (at_ok (i := 1) (x := wPV many bs ps) (y := .lst (bs.map Bed.pv)) (var_ok rfl) rfl rfl rfl)) (fun _ _ _ _ => rfl) (fun j hj en q ⟨s, ds, y3, y4, y5, y6, y7, he, hq, hS, hd⟩ => by
      subst he
      subst hq
      have hj : j < (bs.map Bed.pv).length := hj
      have hj2 : j < bs.length := by rw [List.length_map] at hj; exact hj
      show ∃ as en2 p2, tgT 4 (tgCons (tgN 3) (tgCons (tgN 4) (tgCons (tgN 5) (tgCons (tgN 6) tgNil)))) (bs.map Bed.pv)[j] = some as ∧ _
      rw [List.getElem_map]
      generalize bs[j] = b
      obtain ⟨d1, s1, e1, h1, _⟩ := next_set (p ++ [.lst (ds.map .int)]) k s 7 (two_lt hl _) hS (by decide) (by decide)
      obtain ⟨d2, s2, e2, h2, _⟩ := next_set (p ++ [.lst (ds.map .int)]) k s1 (10 ^ (12 : Int).toNat) (two_lt hl _) h1 (by decide) (by decide)
      obtain ⟨x, z, s3, e3, h3, ex⟩ := draw_four (p ++ [.lst (ds.map .int)]) k (two_lt hl _) s2 h2 0 3 (d1 - 3) (d2 - 10 ^ (11 : Int).toNat)
      refine ⟨[(3, .int b.st), (4, .int b.fin), (5, pr b.low), (6, pr b.high)], _, _, rfl, ?_, s3, ds ++ [x], some (.int b.st), some (.int b.fin), some (pr b.low), some (pr b.high), some (.int x), rfl, rfl, h3, by rw [List.length_append, hd, List.length_singleton]⟩
      have c1 := bin_at (en := ⟨p.length, [some (.own k), some (wPV many bs ps), some (.own p.length), some (.int b.st), some (.int b.fin), some (pr b.low), some (pr b.high), y7]⟩) (lst_ok (cons_ok (a := mC (.int 0)) rfl (three_ok (a := mC (.int 3)) rfl (sub_ok (fn0_ok (two_ok (var_ok (i := 0) rfl) (b := mC (.int 7)) rfl) e1) (b := mC (.int 3)) rfl) (sub_ok (fn0_ok (two_ok (var_ok (i := 0) rfl) (b := mBin pPow (mC (.int 10)) (mC (.int 12))) rfl) e2) (b := mBin pPow (mC (.int 10)) (mC (.int 11))) rfl)))) (fn0_ok (two_ok (var_ok (i := 0) rfl) (b := mC (.int 4)) rfl) e3) ex
      refine (seq_nx (set_nx c1)).trans ?_
      refine (app_nx (k := p.length) (y := .int x) rfl (two_get hl _ _) (var_ok rfl) (two_get hl _ _) (mayL_le (Nat.le_refl _)) ?_).trans ?_
      · rw [List.length_map, hd]
        exact Nat.lt_of_lt_of_le hj2 (Nat.le_trans hlen (by decide))
      · rw [two_set hl, ints_snoc]
        rfl) ⟨s0, [], none, none, none, none, none, rfl, rfl, h0, rfl⟩
  have hd2 : ds.length = bs.length := hd.trans (List.length_map _)
  refine ⟨s, ds, ?_, hS, hd2⟩
  unfold m_law_depths
  refine fnM_cells (q := p.set k s) (r := [.lst (ds.map .int)]) ?_ (by rw [List.length_set, List.length_set]) (bels_ints 0 ds)
  rw [List.length_set]
  show b_law_depths ⟨p.length, [some (.own k), some (wPV many bs ps), none, none, none, none, none, none]⟩ _ = _
  unfold b_law_depths
  rw [← two_eq hl]
  have f1 : sSet (mLstO mNil) 2 ⟨p.length, [some (.own k), some (wPV many bs ps), none, none, none, none, none, none]⟩ (p.set k s0) = .next ⟨p.length, [some (.own k), some (wPV many bs ps), some (.own p.length), none, none, none, none, none]⟩ (two p k (.lst []) s0) := by
    rw [two_eq hl]
    refine (set_nx (x := .own (p.set k s0).length) rfl).trans ?_
    rw [List.length_set]
    rfl
  refine (seq_nx f1).trans ((seq_nx e).trans ?_)
  refine ret_ok (call_ok (one_ok (var_ok rfl)) ?_)
  show (match getR (two p k (.lst (ds.map .int)) s) (.own p.length) with | some ys => Res.ok (PV.tup ys) (two p k (.lst (ds.map .int)) s) | none => Res.stuck) = _
  have g : getR (two p k (.lst (ds.map .int)) s) (.own p.length) = some (ds.map .int) := by
    show (match (two p k (.lst (ds.map .int)) s)[p.length]? with | some (.lst xs) => some xs | _ => none) = _
    rw [two_get hl]
  rw [g]
theorem pows_ok (p : Pool) : mBin pPow (mC (.int 10)) (mC (.int 30)) (⟨0, []⟩ : En) p = .ok (.int (10 ^ (30 : Int).toNat)) p := rfl
theorem by_draw (p : Pool) (k : Nat) (hl : k < p.length) (s0 : Cell) (h0 : IsSrc s0) {en : En} (e0 : en.sl[0]? = some (some (.own k))) {a : M (List PV)} {n : Nat} (ha : a en (p.set k s0) = .ok [.int n] (p.set k s0)) (hn : n ≤ 8) :
    ∃ (s : Cell) (bys : List Int), mLc (itR1 a) (tgN 4) mYes (mBin pIx (mLst (mCons (mC (.int 0)) (mCons (mC (.int 0)) (mCons (mBin pPow (mC (.int 10)) (mC (.int 30))) (mCons (mBin pSub (mC (.int 0)) (mBin pPow (mC (.int 10)) (mC (.int 41)))) mNil))))) (mFn m_law_next [] (mCons (mVar 0) (mCons (mC (.int 4)) mNil)))) [4] en (p.set k s0) = .ok (.lst (bys.map .int)) (p.set k s) ∧ IsSrc s ∧ bys.length = n := by
  obtain ⟨acc, p', e, hp, s, r, rfl, hS, rfl, hr⟩ := mLc_inv (g := tgN 4) (tt := mYes) (vs := [4]) (te := mBin pIx (mLst (mCons (mC (.int 0)) (mCons (mC (.int 0)) (mCons (mBin pPow (mC (.int 10)) (mC (.int 30))) (mCons (mBin pSub (mC (.int 0)) (mBin pPow (mC (.int 10)) (mC (.int 41)))) mNil))))) (mFn m_law_next [] (mCons (mVar 0) (mCons (mC (.int 4)) mNil))))
    (fun rest acc q => ∃ (s : Cell) (r : List Int), q = p.set k s ∧ IsSrc s ∧ acc = r.map .int ∧ r.length + rest.length = n)
    (itR1_ok ha (Nat.le_trans hn (by decide))) (fun _ _ _ _ _ => rfl) (fun x rest acc q hq ⟨s, r, he, hS, hacc, hr⟩ => by
      subst he
      subst hacc
      obtain ⟨y, z, s1, e1, h1, ex⟩ := draw_four (p ++ [.lst (r.map .int)]) k (two_lt hl _) s hS 0 0 (10 ^ (30 : Int).toNat) (0 - 10 ^ (41 : Int).toNat)
      have fa : ∀ s, p.set k s ++ [Cell.lst (r.map PV.int)] = (p ++ [Cell.lst (r.map PV.int)]).set k s := fun s => set_app hl _ _
      have g0 : ((en.sl.set 4 none).set 4 (some x))[0]? = some (some (.own k)) := by
        rw [List.getElem?_set_ne (by decide), List.getElem?_set_ne (by decide), e0]
      refine ⟨[(4, x)], rfl, rfl, .inr ⟨p.set k s, .int y, p.set k s1, rfl, ?_, by rw [List.length_set, List.length_set], rfl, s1, r ++ [y], rfl, h1, by rw [List.map_append]; rfl, ?_⟩⟩
      · rw [fa, fa]
        exact bin_at (lst_ok (cons_ok (a := mC (.int 0)) rfl (three_ok (a := mC (.int 0)) rfl (b := mBin pPow (mC (.int 10)) (mC (.int 30))) rfl (sub_ok (a := mC (.int 0)) rfl (b := mBin pPow (mC (.int 10)) (mC (.int 41))) rfl)))) (fn0_ok (two_ok (var_ok (i := 0) g0) (b := mC (.int 4)) rfl) e1) ex
      · rw [List.length_append, List.length_singleton]
        rw [List.length_cons] at hr
        omega
      ) (by rw [rng_len]; exact Nat.le_trans hn (by decide)) ⟨s0, [], rfl, h0, rfl, by rw [rng_len]; simp⟩
  exact ⟨s, r, e, hS, by simpa using hr⟩

theorem zipZ_len : ∀ {xs ys : List PV}, xs.length = ys.length → (zipZ xs ys).length = xs.length
  | [], [], _ => rfl
  | [], _ :: _, h => by cases h
  | _ :: _, [], h => by cases h
  | x :: xs, y :: ys, h => by
    show (zipZ xs ys).length + 1 = xs.length + 1
    rw [zipZ_len (Nat.succ.inj h)]
theorem zipZ_mem : ∀ {xs ys : List PV} {z : PV}, z ∈ zipZ xs ys → ∃ x y, x ∈ xs ∧ y ∈ ys ∧ z = .tup [x, y]
  | [], _, _, h => by cases h
  | _ :: _, [], _, h => by cases h
  | x :: xs, y :: ys, z, h => by
    have h : z ∈ PV.tup [x, y] :: zipZ xs ys := h
    rcases List.mem_cons.mp h with rfl | h
    · exact ⟨x, y, List.mem_cons_self, List.mem_cons_self, rfl⟩
    · obtain ⟨a, b, h1, h2, h3⟩ := zipZ_mem h
      exact ⟨a, b, List.mem_cons_of_mem _ h1, List.mem_cons_of_mem _ h2, h3⟩
def shOf : PV → PV := fun x => match x with
  | .tup [a, b] => .obj 0 [a, b]
  | _ => .non
def prOf : PV → PV := fun x => match x with
  | .obj _ [a, b] => .tup [a, b]
  | _ => .non
theorem shares_ok (fs : List (Int × Int)) (p : Pool) (hf : ∀ f ∈ fs, Co f ∧ Fr f) (hl : fs.length ≤ 12) : m_law_shares [.lst (fs.map pr)] p = .ok (.tup (fs.map sh)) p := by
  have c1 : mLc (itS (mVar 0)) (tgN 1) mYes (mFn m_Share_init [] (mCons (mBin pIx (mVar 1) (mC (.int 0))) (mCons (mBin pIx (mVar 1) (mC (.int 1))) mNil))) [1] ⟨p.length, [some (.lst (fs.map pr)), none]⟩ p = .ok (.lst ((fs.map pr).map shOf)) p :=
    mLc_all shOf (itS_lst (var_ok rfl)) (fun _ => rfl) (fun x hx => by
      obtain ⟨f, hf2, rfl⟩ := List.mem_map.mp hx
      have g := hf f hf2
      exact ⟨[(1, pr f)], rfl, rfl, fun acc => ⟨fn0_ok (two_ok (at_ok (i := 0) (x := pr f) (var_ok rfl) rfl rfl rfl) (at_ok (i := 1) (x := pr f) (var_ok rfl) rfl rfl rfl)) (share_self _ g.1 g.2), rfl⟩⟩) (by rw [List.length_map]; exact Nat.le_trans hl (by decide))
  unfold m_law_shares
  refine fnM_pure ?_ (bels_iff.mpr fun x hx => by
    obtain ⟨f, _, rfl⟩ := List.mem_map.mp hx
    rfl)
  show b_law_shares ⟨p.length, [some (.lst (fs.map pr)), none]⟩ p = _
  unfold b_law_shares
  refine ret_ok (call_ok (f := cTuple) (one_ok c1) ?_)
  rw [List.map_map]
  rfl
theorem bels_pr (n : Nat) (fs : List (Int × Int)) : bels n (fs.map pr) = true := bels_iff.mpr fun x hx => by
  obtain ⟨f, _, rfl⟩ := List.mem_map.mp hx
  rfl
theorem bels_sh (n : Nat) (fs : List (Int × Int)) : bels n (fs.map sh) = true := bels_iff.mpr fun x hx => by
  obtain ⟨f, _, rfl⟩ := List.mem_map.mp hx
  rfl
mutual
theorem pvEq_refl : ∀ x : PV, pvEq x x = true
  | .non => rfl
  | .bl a => by unfold pvEq; simp
  | .int a => by unfold pvEq; simp
  | .str a => by unfold pvEq; simp
  | .tup xs => pvEqs_refl xs
  | .lst xs => pvEqs_refl xs
  | .obj c xs => by unfold pvEq; rw [pvEqs_refl xs]; simp
  | .own a => by unfold pvEq; simp
  | .scr a => by unfold pvEq; simp
  | .xs c a => by unfold pvEq; simp
  | .xv c x => by unfold pvEq; rw [pvEq_refl x]; simp
theorem pvEqs_refl : ∀ xs : List PV, pvEqs xs xs = true
  | [] => rfl
  | x :: xs => by unfold pvEqs; rw [pvEq_refl x, pvEqs_refl xs]; rfl
end
theorem ownCk_ok {k : Nat} {xs : List PV} {q : Pool} (h : q[k]? = some (.lst xs)) : ownCk k xs q = true := by
  unfold ownCk
  rw [h]
  exact pvEqs_refl xs
/-- the numbers of the beds that begin at j -/
def mineA (j : Nat) : Nat → List Bed → List Nat
  | _, [] => []
  | i, b :: bs => if b.st = j then i :: mineA j (i + 1) bs else mineA j (i + 1) bs
def mine (bs : List Bed) (j : Nat) : List Nat := mineA j 0 bs
def idx (l : List Nat) : List PV := l.map fun (i : Nat) => PV.int i
theorem mineA_len (j : Nat) : ∀ (bs : List Bed) (i : Nat), (mineA j i bs).length = cnt bs j
  | [], _ => rfl
  | b :: bs, i => by
    unfold mineA cnt
    have ih := mineA_len j bs (i + 1)
    unfold cnt at ih
    by_cases h : b.st = j
    · rw [if_pos h, List.filter_cons_of_pos (by simp [h]), List.length_cons, List.length_cons, ih]
    · rw [if_neg h, List.filter_cons_of_neg (by simp [h]), ih]
theorem mine_len (bs : List Bed) (j : Nat) : (mine bs j).length = cnt bs j := mineA_len j bs 0
theorem mineA_mem (j : Nat) : ∀ (bs : List Bed) (i x : Nat), x ∈ mineA j i bs → ∃ y, x = i + y ∧ ∃ h : y < bs.length, bs[y].st = j
  | [], _, _, h => nomatch h
  | b :: bs, i, x, h => by
    unfold mineA at h
    by_cases hb : b.st = j
    · rw [if_pos hb] at h
      rcases List.mem_cons.mp h with rfl | h
      · exact ⟨0, rfl, Nat.succ_pos _, hb⟩
      · obtain ⟨y, rfl, hy, e⟩ := mineA_mem j bs (i + 1) x h
        exact ⟨y + 1, by omega, by rw [List.length_cons]; omega, e⟩
    · rw [if_neg hb] at h
      obtain ⟨y, rfl, hy, e⟩ := mineA_mem j bs (i + 1) x h
      exact ⟨y + 1, by omega, by rw [List.length_cons]; omega, e⟩
theorem mine_mem {bs : List Bed} {j x : Nat} (h : x ∈ mine bs j) : ∃ h : x < bs.length, bs[x].st = j := by
  obtain ⟨y, rfl, hy, e⟩ := mineA_mem j bs 0 x h
  rw [Nat.zero_add]
  exact ⟨hy, e⟩
theorem mineA_rng (j : Nat) : ∀ (bs : List Bed) (i : Nat) (F : Nat → Option PV), (∀ y (h : y < bs.length), F (i + y) = if bs[y].st = j then some (.int ((i + y : Nat) : Int)) else none) → (List.range' i bs.length).filterMap F = idx (mineA j i bs)
  | [], _, _, _ => rfl
  | b :: bs, i, F, h => by
    have h0 := h 0 (Nat.succ_pos _)
    rw [Nat.add_zero] at h0
    have h0 : F i = if b.st = j then some (.int (i : Int)) else none := h0
    have ih := mineA_rng j bs (i + 1) F fun y hy => by
      have := h (y + 1) (by rw [List.length_cons]; omega)
      rw [show i + 1 + y = i + (y + 1) from by omega]
      exact this
    rw [List.length_cons, List.range'_succ]
    unfold mineA
    by_cases hb : b.st = j
    · rw [if_pos hb] at h0
      rw [if_pos hb, List.filterMap_cons_some h0, ih]
      rfl
    · rw [if_neg hb] at h0
      rw [if_neg hb, List.filterMap_cons_none h0, ih]
def stF (bs : List Bed) (j : Nat) : PV → Option PV := fun x => match x with
  | .int i => match bs[i.toNat]? with
    | some b => if b.st = j then some (.int i) else none
    | none => none
  | _ => none
theorem stF_at {bs : List Bed} {j y : Nat} (h : y < bs.length) : stF bs j (.int y) = if bs[y].st = j then some (.int y) else none := by
  show (match bs[((y : Nat) : Int).toNat]? with | some b => if b.st = j then some (PV.int y) else none | none => none) = _
  rw [Int.toNat_natCast, List.getElem?_eq_getElem h]
theorem stF_rng (bs : List Bed) (j : Nat) : (rng 0 bs.length).filterMap (stF bs j) = idx (mine bs j) := by
  unfold rng mine
  rw [List.filterMap_map, List.range_eq_range']
  refine mineA_rng j bs 0 _ fun y hy => ?_
  show stF bs j (.int (0 + ((0 + y : Nat) : Int))) = _
  rw [Int.zero_add, Nat.zero_add]
  exact stF_at hy
/-- [k for k in range(len(rows)) if rows[k][0] == place] -/
theorem mine_ok {tt : M Bool} {i : Nat} {a : M (List PV)} {en : En} {q : Pool} {bs : List Bed} {j : Nat} (ha : a en q = .ok [.int bs.length] q)
    (ht : ∀ x (h : x < bs.length) acc, tt (En.sets ⟨q.length + 1, wipeE en.sl [i]⟩ [(i, .int x)]) (q ++ [.lst acc]) = .ok (decide (bs[x].st = j)) (q ++ [.lst acc])) (hi : i < en.sl.length) (hl : bs.length ≤ big) :
    mLc (itR1 a) (tgN i) tt (mVar i) [i] en q = .ok (.lst (idx (mine bs j))) q := by
  rw [← stF_rng]
  refine mLc_map (stF bs j) (itR1_ok ha hl) (fun _ => rfl) (fun x hx => ?_) (by
    show (rng 0 bs.length).length ≤ big
    rw [rng_len]
    exact hl)
  obtain ⟨y, hy, rfl⟩ := List.getElem_of_mem hx
  have hy : y < (rng 0 bs.length).length := hy
  have hy2 : y < bs.length := by rw [rng_len] at hy; exact hy
  show ∃ as : As, tgN i (rng 0 bs.length)[y] = some as ∧ _
  rw [rng_get _ _ hy]
  refine ⟨[(i, .int y)], rfl, by simp, fun acc => ?_⟩
  rw [stF_at hy2, ht y hy2 acc]
  refine ⟨?_, fun z hz => ?_⟩
  · by_cases h : bs[y].st = j
    · rw [if_pos h, decide_eq_true h]
      rfl
    · rw [if_neg h, decide_eq_false h]
      rfl
  · split at hz
    · cases hz
      refine ⟨var_ok ?_, rfl⟩
      exact List.getElem?_set_self (by
        show i < (en.sl.set i none).length
        rw [List.length_set]
        exact hi)
    · cases hz
/-! ### what falls -/
structure Dr (q : Int × Int) : Prop where
  co : Co q
  t : q.1.natAbs ≤ 9828
  b : q.2 ≤ 441
structure Fall (q : Int × Int) : Prop where
  co : Co q
  nn : 0 ≤ q.1
  t : q.1 ≤ 9828
  b : q.2 ≤ 441
theorem dr_lw {a b : Int} (h : 0 < b) (h1 : a.natAbs ≤ 9828) (h2 : b ≤ 441) : Dr (lw a b) := by
  have l := lw_le (a := a) h
  exact ⟨lw_co h, by omega, by omega⟩
theorem dr_fr {q : Int × Int} (h : Dr q) : Fr q := fr_small h.co.pos (Nat.lt_of_le_of_lt h.t (by decide)) (Nat.lt_of_le_of_lt (by have := h.b; have := h.co.pos; omega : q.2.natAbs ≤ 441) (by decide))
theorem fall_abs {q : Int × Int} (h : Dr q) : Fall ((q.1.natAbs : Int), q.2) := by
  refine ⟨⟨h.co.pos, ?_⟩, by show (0 : Int) ≤ (q.1.natAbs : Int); omega, by show (q.1.natAbs : Int) ≤ 9828; have := h.t; omega, h.b⟩
  show Int.gcd (q.1.natAbs : Int) q.2 = 1
  have := h.co.co
  unfold Int.gcd at this ⊢
  rw [Int.natAbs_natCast]
  exact this
theorem pick_set (p : Pool) (k : Nat) (s0 : Cell) (x : PV) (xs : List PV) (hl : k < p.length) (h0 : IsSrc s0) (hx : ∀ q, getQ q x = some xs) (h1 : 0 < xs.length) (h2 : xs.length < 2 ^ 100) (hb : bels 0 xs = true) : ∃ (y : PV) (s : Cell), m_law_pick [.own k, x] (p.set k s0) = .ok y (p.set k s) ∧ IsSrc s ∧ y ∈ xs := by
  obtain ⟨d, s, e, hs, d0, d1⟩ := next_set p k s0 xs.length hl h0 (by omega) (by omega)
  obtain ⟨y, hy, ey⟩ := atI_mem xs d d0 d1
  refine ⟨y, s, ?_, hs, hy⟩
  unfold m_law_pick
  refine fnM_cells (q := p.set k s) (r := []) ?_ (by rw [List.length_set, List.length_set]) (bels_iff.mp hb y hy)
  rw [List.append_nil]
  exact ret_ok (bin_ok (var_ok (i := 1) (x := x) rfl) (fn0_ok (two_ok (var_ok (i := 0) (x := .own k) rfl) (len_ok (var_ok (i := 1) (x := x) rfl) (hx _))) e) (pIx_int (hx _) ey))

theorem pTr_int {fld : Nat → List Str} {p : Pool} (n : Nat) (a b : Int) : pTr fld (eqvN .Eq n) (.int a) (.int b) p = .ok (.bl (decide (a = b))) p := by
  have h : eqv n (.int a) (.int b) = some (decide (a = b)) := by
    have h1 : eqS (.int a) (.int b) = some (decide (a = b)) := by
      show some (a == b) = _
      by_cases z : a = b
      · rw [decide_eq_true z, z]
        simp
      · rw [decide_eq_false z]
        simp [z]
    cases n with
    | zero => exact h1
    | succ n => exact h1
  have e : eqvN .Eq n (.int a) (.int b) = some (decide (a = b)) := by
    unfold eqvN
    rw [if_pos ⟨rfl, rfl⟩, h]
    rfl
  unfold pTr
  rw [thaw_int, thaw_int]
  dsimp only
  rw [e]
theorem pTr_nil {fld : Nat → List Str} {p : Pool} (xs : List PV) (hb : bels 0 xs = true) : pTr fld (eqvN .NotEq 3) (.lst xs) (.lst []) p = .ok (.bl (!decide (xs = []))) p := by
  have e : eqvN .NotEq 3 (.lst xs) (.lst []) = some (!decide (xs = [])) := by
    unfold eqvN
    rw [if_pos ⟨rfl, rfl⟩]
    cases xs with
    | nil => rfl
    | cons x xs =>
      rw [decide_eq_false (by simp)]
      show Option.map (neg .NotEq) (if (x :: xs).length = ([] : List PV).length then eqT (eqv 2) (x :: xs) [] else some false) = _
      rw [if_neg (by simp)]
      rfl
  unfold pTr
  rw [thaw_bel (x := .lst xs) hb, thaw_bel (x := .lst []) rfl]
  dsimp only
  rw [e]
theorem pAdd_lst {xs ys : List PV} {p : Pool} (h : xs.length + ys.length ≤ big) : pAdd (.lst xs) (.lst ys) p = .ok (.lst (xs ++ ys)) p := by
  unfold pAdd
  dsimp only [getL]
  rw [if_pos h]
theorem dr_prod {m : Int × Int} {S x : Int} (h0 : 0 < m.2) (h1 : m.1.natAbs ≤ 546) (h2 : m.2 ≤ 49) (hS0 : 0 ≤ S) (hS : S ≤ 18) (hx0 : 0 < x) (hx : x ≤ 9) : Dr (qmul m (S, x)) := by
  have a1 : (m.1 * S).natAbs ≤ 546 * 18 := mul_abs h1 (by omega)
  have a2 : (m.2 * x).natAbs ≤ 49 * 9 := mul_abs (by omega) (by omega)
  have a3 : 0 < m.2 * x := Int.mul_pos h0 hx0
  exact dr_lw (a := m.1 * S) (b := m.2 * x) a3 a1 (by omega)
theorem sum_le : ∀ (r : List Int) (n : Nat), r.length ≤ n → (∀ x ∈ r, 0 ≤ x ∧ x ≤ 9) → r.sum ≤ 9 * n
  | [], n, _, _ => by
    show (0 : Int) ≤ 9 * n
    omega
  | x :: r, 0, h, _ => by simp at h
  | x :: r, n + 1, h, hx => by
    rw [List.sum_cons]
    have h1 := (hx x List.mem_cons_self).2
    have h2 := sum_le r n (by simpa using h) fun y hy => hx y (List.mem_cons_of_mem _ hy)
    omega
def fIf : S := (sSeq (sSet (mBin pIx (mBin pIx (mBin pIx (mVar 1) (mC (.int 1))) (mFn m_law_pick [] (mCons (mVar 0) (mCons (mVar 5) mNil)))) (mBin pAdd (mC (.int 2)) (mFn m_law_next [] (mCons (mVar 0) (mCons (mC (.int 2)) mNil))))) 6)
    (sSeq (sSet (mCall cMax (mCons (mC (.int 1)) (mCons (mFn m_law_pick [] (mCons (mVar 0) (mCons (mBin pIx (mBin pIx (mVar 1) (mC (.int 2))) (mVar 3)) mNil))) mNil))) 7)
    (sSet (mBin pAdd (mVar 4) (mLst (mCons (mVar 6) (mCons (mFn m_law_product [] (mCons (mVar 6) (mCons (mTup (mCons (mCall cSumA (mCons (mBin pIx (mBin pIx (mVar 1) (mC (.int 2))) (mVar 3)) mNil)) (mCons (mVar 7) mNil))) mNil))) mNil)))) 4)))
theorem fIf_ok (p : Pool) (k : Nat) (hl : k < p.length) (s0 : Cell) (h0 : IsSrc s0) {many : Nat} {bs : List Bed} {ps : List (List Int)} (h : Wrld many bs ps) (B : Nat) (x2 y6 y7 y8 y9 : Option PV) (j : Nat) (hj : j < many) (l : List (Int × Int)) (hll : l.length = 2) (hne : mine bs j ≠ []) :
    ∃ (s : Cell) (q1 q2 : Int × Int) (z6 z7 : Option PV), fIf ⟨B, [some (.own k), some (wPV many bs ps), x2, some (.int j), some (.lst (l.map pr)), some (.lst (idx (mine bs j))), y6, y7, y8, y9]⟩ (p.set k s0)
      = .next ⟨B, [some (.own k), some (wPV many bs ps), x2, some (.int j), some (.lst ((l ++ [q1, q2]).map pr)), some (.lst (idx (mine bs j))), z6, z7, y8, y9]⟩ (p.set k s) ∧ IsSrc s ∧ Dr q1 ∧ Dr q2 := by
  have hc2 := h.beds.two j
  have hml : (idx (mine bs j)).length = cnt bs j := by
    unfold idx
    rw [List.length_map, mine_len]
  have hpos : 0 < cnt bs j := by
    rw [← mine_len]
    exact List.length_pos_iff.mpr hne
  obtain ⟨y, s1, e1, h1, hy⟩ := pick_set p k s0 (.lst (idx (mine bs j))) (idx (mine bs j)) hl h0 (fun _ => rfl) (by omega) (by rw [hml]; exact Nat.lt_of_le_of_lt hc2 (by decide)) (bels_iff.mpr fun x hx => by
    obtain ⟨a, _, rfl⟩ := List.mem_map.mp hx
    rfl)
  obtain ⟨i, hi, rfl⟩ := List.mem_map.mp hy
  obtain ⟨hi2, hst⟩ := mine_mem hi
  have g := h.beds.all bs[i] (List.getElem_mem hi2)
  have eb : (bs.map Bed.pv)[i]? = some bs[i].pv := by rw [List.getElem?_map, List.getElem?_eq_getElem hi2]; rfl
  generalize bs[i] = b at g eb
  obtain ⟨d, s2, e2, h2, d0, d1⟩ := next_set p k s1 2 hl h1 (by decide) (by decide)
  obtain ⟨m, hm1, hm2, hm3, hm4⟩ : ∃ m : Int × Int, [PV.int b.st, .int b.fin, pr b.low, pr b.high][(2 + d).toNat]? = some (pr m) ∧ Co m ∧ m.1.natAbs ≤ 546 ∧ m.2 ≤ 49 := by
    have := g.low.t
    have := g.low.b
    rcases (by omega : d = 0 ∨ d = 1) with rfl | rfl
    · exact ⟨b.low, rfl, g.low.co, by omega, by omega⟩
    · exact ⟨b.high, rfl, g.hi, g.ht, g.hb⟩
  have hj2 : j < ps.length := by rw [h.len]; exact hj
  have gr := h.row j hj2
  have er : (ps.map rowPV)[j]? = some (rowPV ps[j]) := by rw [List.getElem?_map, List.getElem?_eq_getElem hj2]; rfl
  generalize ps[j] = r at gr er
  have grl := gr.len
  obtain ⟨y, s3, e3, h3, hy3⟩ := pick_set p k s2 (rowPV r) (r.map .int) hl h2 (fun _ => rfl) (by rw [List.length_map]; omega) (by rw [List.length_map, grl]; exact Nat.lt_of_le_of_lt hc2 (by decide)) (bels_ints 0 r)
  obtain ⟨x, hx, rfl⟩ := List.mem_map.mp hy3
  have hxb := gr.all x hx
  have hs0 := sum_nonneg r fun x hx => (gr.all x hx).1
  have hs1 := sum_le r 2 (by omega) gr.all
  obtain ⟨c, hc, hc0, hc1⟩ : ∃ c : Int, (if x > 1 then x else 1) = c ∧ 0 < c ∧ c ≤ 9 := ⟨_, rfl, by split <;> omega, by split <;> omega⟩
  have fm : Fr m := fr_small hm2.pos (Nat.lt_of_le_of_lt hm3 (by decide)) (Nat.lt_of_le_of_lt (by have := hm2.pos; omega : m.2.natAbs ≤ 49) (by decide))
  have fS : Fr (r.sum, c) := fr_small hc0 (Nat.lt_of_le_of_lt (by show r.sum.natAbs ≤ 18; omega) (by decide)) (Nat.lt_of_le_of_lt (by show c.natAbs ≤ 9; omega) (by decide))
  refine ⟨s3, m, qmul m (r.sum, c), some (pr m), some (.int c), ?_, h3, ⟨hm2, by omega, by omega⟩, dr_prod hm2.pos hm3 hm4 hs0 (by omega) hc0 hc1⟩
  unfold fIf
  have c1 : mBin pIx (mBin pIx (mBin pIx (mVar 1) (mC (.int 1))) (mFn m_law_pick [] (mCons (mVar 0) (mCons (mVar 5) mNil)))) (mBin pAdd (mC (.int 2)) (mFn m_law_next [] (mCons (mVar 0) (mCons (mC (.int 2)) mNil))))
      ⟨B, [some (.own k), some (wPV many bs ps), x2, some (.int j), some (.lst (l.map pr)), some (.lst (idx (mine bs j))), y6, y7, y8, y9]⟩ (p.set k s0) = .ok (pr m) (p.set k s2) := by
    refine bin_ok (at_ok (i := i) (x := .lst (bs.map Bed.pv)) (at_ok (i := 1) (x := wPV many bs ps) (var_ok rfl) rfl rfl rfl) (fn0_ok (two_ok (var_ok rfl) (var_ok rfl)) e1) rfl eb) (add_ok (a := mC (.int 2)) rfl (fn0_ok (two_ok (var_ok rfl) (b := mC (.int 2)) rfl) e2)) ?_
    have hd : (2 + d) = (((2 + d).toNat : Nat) : Int) := by omega
    rw [hd]
    exact pIx_nat (x := b.pv) rfl hm1
  refine (seq_nx (set_nx c1)).trans ?_
  have c2 : mCall cMax (mCons (mC (.int 1)) (mCons (mFn m_law_pick [] (mCons (mVar 0) (mCons (mBin pIx (mBin pIx (mVar 1) (mC (.int 2))) (mVar 3)) mNil))) mNil))
      ⟨B, [some (.own k), some (wPV many bs ps), x2, some (.int j), some (.lst (l.map pr)), some (.lst (idx (mine bs j))), some (pr m), y7, y8, y9]⟩ (p.set k s2) = .ok (.int c) (p.set k s3) := by
    refine call_ok (two_ok (a := mC (.int 1)) rfl (fn0_ok (two_ok (var_ok rfl) (at_ok (i := j) (x := .lst (ps.map rowPV)) (at_ok (i := 2) (x := wPV many bs ps) (var_ok rfl) rfl rfl rfl) (var_ok rfl) rfl er)) e3)) ?_
    show Res.ok (PV.int (if x > 1 then x else 1)) _ = _
    rw [hc]
  refine (seq_nx (set_nx c2)).trans ?_
  have c3 : mBin pAdd (mVar 4) (mLst (mCons (mVar 6) (mCons (mFn m_law_product [] (mCons (mVar 6) (mCons (mTup (mCons (mCall cSumA (mCons (mBin pIx (mBin pIx (mVar 1) (mC (.int 2))) (mVar 3)) mNil)) (mCons (mVar 7) mNil))) mNil))) mNil)))
      ⟨B, [some (.own k), some (wPV many bs ps), x2, some (.int j), some (.lst (l.map pr)), some (.lst (idx (mine bs j))), some (pr m), some (.int c), y8, y9]⟩ (p.set k s3) = .ok (.lst ((l ++ [m, qmul m (r.sum, c)]).map pr)) (p.set k s3) := by
    rw [List.map_append]
    refine bin_ok (var_ok rfl) (lst_ok (two_ok (var_ok (x := pr m) rfl) (fn0_ok (two_ok (var_ok (x := pr m) rfl) (tup_ok (two_ok (call_ok (one_ok (at_ok (i := j) (x := .lst (ps.map rowPV)) (at_ok (i := 2) (x := wPV many bs ps) (var_ok rfl) rfl rfl rfl) (var_ok rfl) rfl er)) (cSumA_tup r _)) (var_ok (x := .int c) rfl)))) (product_q _ fm fS)))) (pAdd_lst ?_)
    rw [List.length_map, hll]
    show 2 + 2 ≤ big
    decide
  exact set_nx c3

theorem app_two {i k : Nat} {a : M PV} {en : En} {p : Pool} {xs : List PV} {s0 s1 : Cell} {y : PV} (hl : k < p.length) (h1 : en.sl[i]? = some (some (.own p.length))) (hb : en.b ≤ p.length) (ha : a en (two p k (.lst xs) s0) = .ok y (two p k (.lst xs) s1)) (hn : xs.length < big) :
    sExpr (mMet fAppend (mVar i) (mCons a mNil)) en (two p k (.lst xs) s0) = .next en (two p k (.lst (xs ++ [y])) s1) := by
  rw [app_nx (k := p.length) h1 (two_get hl _ _) ha (two_get hl _ _) (mayL_le hb) hn, two_set hl]
theorem falls_ok (p : Pool) (k : Nat) (hl : k < p.length) (s0 : Cell) (h0 : IsSrc s0) {many : Nat} {bs : List Bed} {ps : List (List Int)} (h : Wrld many bs ps) :
    ∃ (s : Cell) (fs : List (Int × Int)), m_law_falls [.own k, wPV many bs ps] (p.set k s0) = .ok (.lst (fs.map pr)) (p.set k s) ∧ IsSrc s ∧ fs.length = many ∧ ∀ f ∈ fs, Fall f := by
  have hlen := h.beds.len
  have hm8 := h.m8
  obtain ⟨en2, p2, e, s, fs, y3, y4, y5, y6, y7, y8, y9, rfl, rfl, hS, hd, hall⟩ := sFor_range (i := 3) (n := many) (a := mCons (mBin pIx (mVar 1) (mC (.int 0))) mNil)
    (body := (sSeq (sSet (mLst (mCons (mTup (mCons (mC (.int 0)) (mCons (mC (.int 1)) mNil))) (mCons (mFn m_law_lowered [] (mCons (mFn m_law_next [] (mCons (mVar 0) (mCons (mC (.int 40)) mNil))) (mCons (mBin pAdd (mC (.int 1)) (mFn m_law_next [] (mCons (mVar 0) (mCons (mC (.int 6)) mNil)))) mNil))) mNil))) 4)
    (sSeq (sSet (mLc (itR1 (mCons (mCall cLen (mCons (mBin pIx (mVar 1) (mC (.int 1))) mNil)) mNil)) (tgN 9) (mB (mBin (pTr fldT (eqvN .Eq 3)) (mBin pIx (mBin pIx (mBin pIx (mVar 1) (mC (.int 1))) (mVar 9)) (mC (.int 0))) (mVar 3))) (mVar 9) [9]) 5)
    (sSeq (sIf (mB (mBin (pTr fldT (eqvN .NotEq 3)) (mVar 5) (mLst mNil)))
    fIf
    sNop)
    (sSeq (sSet (mFn m_law_pick [] (mCons (mVar 0) (mCons (mVar 4) mNil))) 8)
    (sExpr (mMet fAppend (mVar 2) (mCons (mTup (mCons (mCall cAbs (mCons (mBin pIx (mVar 8) (mC (.int 0))) mNil)) (mCons (mBin pIx (mVar 8) (mC (.int 1))) mNil))) mNil))))))))
    (en := ⟨p.length, [some (.own k), some (wPV many bs ps), some (.own p.length), none, none, none, none, none, none, none]⟩) (p := two p k (.lst []) s0) (p1 := two p k (.lst []) s0)
    (fun j en q => ∃ (s : Cell) (fs : List (Int × Int)) (y3 y4 y5 y6 y7 y8 y9 : Option PV), en = ⟨p.length, [some (.own k), some (wPV many bs ps), some (.own p.length), y3, y4, y5, y6, y7, y8, y9]⟩ ∧ q = two p k (.lst (fs.map pr)) s ∧ IsSrc s ∧ fs.length = j ∧ ∀ f ∈ fs, Fall f)
    (one_ok (at_ok (i := 0) (x := wPV many bs ps) (var_ok rfl) rfl rfl rfl)) (Nat.le_trans hm8 (by decide)) (fun j en q hj ⟨s, fs, y3, y4, y5, y6, y7, y8, y9, he, hq, hS, hd, hall⟩ => by
      subst he
      subst hq
      obtain ⟨d1, s1, e1, h1, a1, b1⟩ := next_set (p ++ [.lst (fs.map pr)]) k s 40 (two_lt hl _) hS (by decide) (by decide)
      obtain ⟨d2, s2, e2, h2, a2, b2⟩ := next_set (p ++ [.lst (fs.map pr)]) k s1 6 (two_lt hl _) h1 (by decide) (by decide)
      have q0 : Dr (lw d1 (1 + d2)) := dr_lw (by omega) (by omega) (by omega)
      have qz : Dr (0, 1) := ⟨⟨by decide, by decide⟩, by decide, by decide⟩
      have el := lowered_ok d1 (1 + d2) (two p k (.lst (fs.map pr)) s2) (by omega) (small_fuel (by omega))
      have c1 : mLst (mCons (mTup (mCons (mC (.int 0)) (mCons (mC (.int 1)) mNil))) (mCons (mFn m_law_lowered [] (mCons (mFn m_law_next [] (mCons (mVar 0) (mCons (mC (.int 40)) mNil))) (mCons (mBin pAdd (mC (.int 1)) (mFn m_law_next [] (mCons (mVar 0) (mCons (mC (.int 6)) mNil)))) mNil))) mNil))
          ⟨p.length, [some (.own k), some (wPV many bs ps), some (.own p.length), some (.int j), y4, y5, y6, y7, y8, y9]⟩ (two p k (.lst (fs.map pr)) s) = .ok (.lst ([(0, 1), lw d1 (1 + d2)].map pr)) (two p k (.lst (fs.map pr)) s2) :=
        lst_ok (two_ok (tup_ok (two_ok (a := mC (.int 0)) rfl (b := mC (.int 1)) rfl)) (fn0_ok (two_ok (fn0_ok (two_ok (var_ok rfl) (b := mC (.int 40)) rfl) e1) (add_ok (a := mC (.int 1)) rfl (fn0_ok (two_ok (var_ok rfl) (b := mC (.int 6)) rfl) e2))) el))
      have c2 : mLc (itR1 (mCons (mCall cLen (mCons (mBin pIx (mVar 1) (mC (.int 1))) mNil)) mNil)) (tgN 9) (mB (mBin (pTr fldT (eqvN .Eq 3)) (mBin pIx (mBin pIx (mBin pIx (mVar 1) (mC (.int 1))) (mVar 9)) (mC (.int 0))) (mVar 3))) (mVar 9) [9]
          ⟨p.length, [some (.own k), some (wPV many bs ps), some (.own p.length), some (.int j), some (.lst ([(0, 1), lw d1 (1 + d2)].map pr)), y5, y6, y7, y8, y9]⟩ (two p k (.lst (fs.map pr)) s2) = .ok (.lst (idx (mine bs j))) (two p k (.lst (fs.map pr)) s2) := by
        have e3 := len_ok (en := ⟨p.length, [some (.own k), some (wPV many bs ps), some (.own p.length), some (.int j), some (.lst ([(0, 1), lw d1 (1 + d2)].map pr)), y5, y6, y7, y8, y9]⟩) (p := two p k (.lst (fs.map pr)) s2) (at_ok (i := 1) (x := wPV many bs ps) (y := .lst (bs.map Bed.pv)) (a := mVar 1) (b := mC (.int 1)) (var_ok rfl) rfl rfl rfl) rfl
        rw [List.length_map] at e3
        refine mine_ok (one_ok e3) (fun x hx acc => ?_) (by show 9 < 10; decide) (Nat.le_trans hlen (by decide))
        have eb : (bs.map Bed.pv)[x]? = some bs[x].pv := by rw [List.getElem?_map, List.getElem?_eq_getElem hx]; rfl
        rw [b_ok (bin_ok (at_ok (i := 0) (x := bs[x].pv) (at_ok (i := x) (x := .lst (bs.map Bed.pv)) (at_ok (i := 1) (x := wPV many bs ps) (var_ok rfl) rfl rfl rfl) (var_ok rfl) rfl eb) rfl rfl rfl) (var_ok rfl) (pTr_int 3 (bs[x].st : Int) (j : Int)))]
        by_cases z : bs[x].st = j
        · rw [decide_eq_true z, decide_eq_true (by omega)]
        · rw [decide_eq_false z, decide_eq_false (by omega)]
      have c3 : ∃ (s3 : Cell) (l : List (Int × Int)) (z6 z7 : Option PV), sIf (mB (mBin (pTr fldT (eqvN .NotEq 3)) (mVar 5) (mLst mNil))) fIf sNop ⟨p.length, [some (.own k), some (wPV many bs ps), some (.own p.length), some (.int j), some (.lst ([(0, 1), lw d1 (1 + d2)].map pr)), some (.lst (idx (mine bs j))), y6, y7, y8, y9]⟩ (two p k (.lst (fs.map pr)) s2)
          = .next ⟨p.length, [some (.own k), some (wPV many bs ps), some (.own p.length), some (.int j), some (.lst (l.map pr)), some (.lst (idx (mine bs j))), z6, z7, y8, y9]⟩ (two p k (.lst (fs.map pr)) s3) ∧ IsSrc s3 ∧ (∀ q ∈ l, Dr q) ∧ 0 < l.length ∧ l.length ≤ 4 := by
        have t := b_ok (bin_ok (en := ⟨p.length, [some (.own k), some (wPV many bs ps), some (.own p.length), some (.int j), some (.lst ([(0, 1), lw d1 (1 + d2)].map pr)), some (.lst (idx (mine bs j))), y6, y7, y8, y9]⟩) (p := two p k (.lst (fs.map pr)) s2) (a := mVar 5) (b := mLst mNil) (var_ok (x := .lst (idx (mine bs j))) rfl) rfl (pTr_nil (fld := fldT) (idx (mine bs j)) (bels_iff.mpr fun x hx => by
          obtain ⟨a, _, rfl⟩ := List.mem_map.mp hx
          rfl)))
        by_cases hm : mine bs j = []
        · have hi : idx (mine bs j) = [] := by rw [hm]; rfl
          rw [decide_eq_true hi] at t
          refine ⟨s2, [(0, 1), lw d1 (1 + d2)], y6, y7, (if_f t).trans rfl, h2, fun q hq => ?_, Nat.succ_pos _, by show 2 ≤ 4; decide⟩
          simp only [List.mem_cons, List.not_mem_nil, or_false] at hq
          rcases hq with rfl | rfl
          · exact qz
          · exact q0
        · have hi : ¬ idx (mine bs j) = [] := fun z => hm (List.map_eq_nil_iff.mp z)
          rw [decide_eq_false hi] at t
          obtain ⟨s3, q1, q2, z6, z7, e3, h3, r1, r2⟩ := fIf_ok (p ++ [.lst (fs.map pr)]) k (two_lt hl _) s2 h2 h p.length (some (.own p.length)) y6 y7 y8 y9 j hj [(0, 1), lw d1 (1 + d2)] rfl hm
          refine ⟨s3, _, z6, z7, (if_t t).trans e3, h3, fun q hq => ?_, by show 0 < 4; decide, by show 4 ≤ 4; decide⟩
          simp only [List.mem_append, List.mem_cons, List.not_mem_nil, or_false] at hq
          rcases hq with (rfl | rfl) | rfl | rfl
          · exact qz
          · exact q0
          · exact r1
          · exact r2
      obtain ⟨s3, l, z6, z7, e3, h3, hl4, hl0, hl1⟩ := c3
      obtain ⟨y, s4, e4, h4, hy⟩ := pick_set (p ++ [.lst (fs.map pr)]) k s3 (.lst (l.map pr)) (l.map pr) (two_lt hl _) h3 (fun _ => rfl) (by rw [List.length_map]; exact hl0) (by rw [List.length_map]; exact Nat.lt_of_le_of_lt hl1 (by decide)) (bels_pr 0 l)
      obtain ⟨f, hf, rfl⟩ := List.mem_map.mp hy
      have hF := fall_abs (hl4 f hf)
      refine ⟨_, _, ?_, s4, fs ++ [((f.1.natAbs : Int), f.2)], some (.int j), some (.lst (l.map pr)), some (.lst (idx (mine bs j))), z6, z7, some (pr f), y9, rfl, rfl, h4, by rw [List.length_append, hd, List.length_singleton], fun g hg => ?_⟩
      · refine (seq_nx (set_nx c1)).trans ?_
        refine (seq_nx (set_nx c2)).trans ?_
        refine (seq_nx e3).trans ?_
        refine (seq_nx (set_nx (fn0_ok (two_ok (var_ok rfl) (var_ok rfl)) e4))).trans ?_
        have c5 : mTup (mCons (mCall cAbs (mCons (mBin pIx (mVar 8) (mC (.int 0))) mNil)) (mCons (mBin pIx (mVar 8) (mC (.int 1))) mNil))
            ⟨p.length, [some (.own k), some (wPV many bs ps), some (.own p.length), some (.int j), some (.lst (l.map pr)), some (.lst (idx (mine bs j))), z6, z7, some (pr f), y9]⟩ (two p k (.lst (fs.map pr)) s4) = .ok (pr ((f.1.natAbs : Int), f.2)) (two p k (.lst (fs.map pr)) s4) := by
          have c4 := call_ok (f := cAbs) (r := .ok (.int (if f.1 < 0 then -f.1 else f.1)) (two p k (.lst (fs.map pr)) s4)) (one_ok (at_ok (i := 0) (a := mVar 8) (b := mC (.int 0)) (en := ⟨p.length, [some (.own k), some (wPV many bs ps), some (.own p.length), some (.int j), some (.lst (l.map pr)), some (.lst (idx (mine bs j))), z6, z7, some (pr f), y9]⟩) (p := two p k (.lst (fs.map pr)) s4) (x := pr f) (y := .int f.1) (var_ok rfl) rfl rfl rfl)) rfl
          rw [abs_eq] at c4
          exact tup_ok (two_ok c4 (at_ok (i := 1) (x := pr f) (var_ok rfl) rfl rfl rfl))
        refine (app_two hl rfl (Nat.le_refl _) c5 ?_).trans ?_
        · rw [List.length_map, hd]
          exact Nat.lt_of_lt_of_le hj (Nat.le_trans hm8 (by decide))
        · rw [← List.map_singleton (f := pr), ← List.map_append]
      · rcases List.mem_append.mp hg with hg | hg
        · exact hall g hg
        · rw [List.mem_singleton] at hg
          subst hg
          exact hF) ⟨s0, [], none, none, none, none, none, none, none, rfl, rfl, h0, rfl, fun _ hf => nomatch hf⟩
  refine ⟨s, fs, ?_, hS, hd, hall⟩
  unfold m_law_falls
  have ht : thaw fldT (p.set k s0).length (two p k (.lst (fs.map pr)) s) (.own p.length) = some (.lst (fs.map pr)) := by
    rw [List.length_set]
    exact thaw_two hl (bels_pr 0 fs)
  have hb : b_law_falls ⟨(p.set k s0).length, [PV.own k, wPV many bs ps].map some ++ List.replicate (10 - [PV.own k, wPV many bs ps].length) none⟩ (p.set k s0) = .ret (.own p.length) (two p k (.lst (fs.map pr)) s) := by
    rw [List.length_set]
    show b_law_falls ⟨p.length, [some (.own k), some (wPV many bs ps), none, none, none, none, none, none, none, none]⟩ _ = _
    have f1 : sSet (mLstO mNil) 2 ⟨p.length, [some (.own k), some (wPV many bs ps), none, none, none, none, none, none, none, none]⟩ (p.set k s0) = .next ⟨p.length, [some (.own k), some (wPV many bs ps), some (.own p.length), none, none, none, none, none, none, none]⟩ (two p k (.lst []) s0) := by
      rw [two_eq hl]
      refine (set_nx (x := .own (p.set k s0).length) rfl).trans ?_
      rw [List.length_set]
      rfl
    unfold b_law_falls
    exact (seq_nx f1).trans ((seq_nx e).trans (ret_ok (var_ok rfl)))
  rw [fnM_ret hb ht, List.length_set, take_two hl]

theorem cop_dvd {x y D : Int} (h : Int.gcd x y = 1) (d : y ∣ x * D) : y ∣ D := by
  rw [← Int.natAbs_dvd_natAbs] at d ⊢
  rw [Int.natAbs_mul] at d
  have c : Nat.Coprime y.natAbs x.natAbs := by
    show Nat.gcd y.natAbs x.natAbs = 1
    rw [Nat.gcd_comm]
    exact h
  exact c.dvd_of_dvd_mul_left d
theorem lw_dvd {a b D : Int} (h : 0 < b) (d : b ∣ a * D) : (lw a b).2 ∣ D := by
  have hg := gcd_pos (a := a) (b := b) (by omega)
  have e1 := fdiv_gcd (a := a) (b := b)
  have e2 := fdiv_gcd2 (a := a) (b := b)
  refine cop_dvd (lw_co h).co ?_
  show b.fdiv (Int.gcd a b : Int) ∣ a.fdiv (Int.gcd a b : Int) * D
  refine Int.dvd_of_mul_dvd_mul_right (a := (Int.gcd a b : Int)) (by omega) ?_
  rw [e2, Int.mul_right_comm, e1]
  exact d
theorem lw_bd {a b M : Int} (h : 0 < b) (h0 : 0 ≤ a) (h1 : a ≤ M * b) : 0 ≤ (lw a b).1 ∧ (lw a b).1 ≤ M * (lw a b).2 := by
  have hg := gcd_pos (a := a) (b := b) (by omega)
  have e1 := fdiv_gcd (a := a) (b := b)
  have e2 := fdiv_gcd2 (a := a) (b := b)
  refine ⟨?_, ?_⟩
  · show 0 ≤ a.fdiv (Int.gcd a b : Int)
    refine Int.le_of_mul_le_mul_right (a := (Int.gcd a b : Int)) ?_ hg
    rw [e1, Int.zero_mul]
    exact h0
  · show a.fdiv (Int.gcd a b : Int) ≤ M * b.fdiv (Int.gcd a b : Int)
    refine Int.le_of_mul_le_mul_right (a := (Int.gcd a b : Int)) ?_ hg
    rw [e1, Int.mul_assoc, e2]
    exact h1
theorem lw_scale {a b c : Int} (hc : 0 < c) (hb : 0 < b) : lw (a * c) (b * c) = lw a b := by
  have hg := gcd_pos (a := a) (b := b) (by omega)
  have e : ((Int.gcd (a * c) (b * c) : Nat) : Int) = (Int.gcd a b : Int) * c := by
    rw [Int.gcd_mul_right, Int.natCast_mul]
    congr 1
    omega
  unfold lw
  rw [e, Int.mul_fdiv_mul_of_pos_left _ _ hc, Int.mul_fdiv_mul_of_pos_left _ _ hc]
theorem qmul_lw {q : Int × Int} {a b : Int} (hq : 0 < q.2) (hb : 0 < b) : qmul q (lw a b) = qmul q (a, b) := by
  have hg := gcd_pos (a := a) (b := b) (by omega)
  have e1 := fdiv_gcd (a := a) (b := b)
  have e2 := fdiv_gcd2 (a := a) (b := b)
  have h2 := (lw_co (a := a) hb).pos
  have e := lw_scale (a := q.1 * (lw a b).1) (b := q.2 * (lw a b).2) hg (Int.mul_pos hq h2)
  unfold qmul
  rw [← e, Int.mul_assoc, Int.mul_assoc]
  show lw (q.1 * (a.fdiv (Int.gcd a b : Int) * (Int.gcd a b : Int))) (q.2 * (b.fdiv (Int.gcd a b : Int) * (Int.gcd a b : Int))) = _
  rw [e1, e2]
theorem lw_one {s : Int} (h : 0 < s) : lw s s = (1, 1) := by
  unfold lw
  rw [Int.gcd_self, Int.natAbs_of_nonneg (by omega), Int.fdiv_self (by omega)]
/-- in lowest terms, from 0 to M, with a bottom that divides D -/
structure FS (M D : Int) (q : Int × Int) : Prop where
  co : Co q
  nn : 0 ≤ q.1
  le : q.1 ≤ M * q.2
  dv : q.2 ∣ D
theorem FS.mono {M D M' D' : Int} {q : Int × Int} (h : FS M D q) (hM : M ≤ M') (hD : D ∣ D') : FS M' D' q :=
  ⟨h.co, h.nn, Int.le_trans h.le (Int.mul_le_mul_of_nonneg_right hM (Int.le_of_lt h.co.pos)), Int.dvd_trans h.dv hD⟩
theorem FS.fr {M D : Int} {q : Int × Int} (h : FS M D q) (h0 : 0 < D) (hM0 : 0 ≤ M) (hM : M ≤ 2 ^ 64) (hD : D ≤ 2 ^ 130) : Fr q := by
  have hp := h.co.pos
  have h1 : q.2 ≤ 2 ^ 130 := Int.le_trans (Int.le_of_dvd h0 h.dv) hD
  have h2 : q.1 ≤ 2 ^ 64 * 2 ^ 130 := Int.le_trans h.le (Int.mul_le_mul hM h1 (Int.le_of_lt hp) (by decide))
  have h3 := h.nn
  refine fr_small hp ?_ ?_
  · have : (2 : Int) ^ 64 * 2 ^ 130 < 2 ^ 200 := by decide
    omega
  · have : (2 : Int) ^ 130 < 2 ^ 200 := by decide
    omega
theorem fs_mul {M D a S : Int} {w : Int × Int} (h : FS M D w) (h0 : 0 ≤ a) (h1 : a ≤ S) (hS : 0 < S) (hM : 0 ≤ M) : FS M (D * S) (qmul w (a, S)) := by
  have hp : 0 < w.2 * S := Int.mul_pos h.co.pos hS
  obtain ⟨c, hc⟩ := h.dv
  have b := lw_bd (a := w.1 * a) (b := w.2 * S) (M := M) hp (Int.mul_nonneg h.nn h0) (by
    have x1 : w.1 * a ≤ w.1 * S := Int.mul_le_mul_of_nonneg_left h1 h.nn
    have x2 : w.1 * S ≤ M * w.2 * S := Int.mul_le_mul_of_nonneg_right h.le (Int.le_of_lt hS)
    rw [← Int.mul_assoc]
    exact Int.le_trans x1 x2)
  refine ⟨lw_co hp, b.1, b.2, lw_dvd hp ⟨w.1 * a * c, ?_⟩⟩
  show w.1 * a * (D * S) = w.2 * S * (w.1 * a * c)
  rw [hc]
  simp only [Int.mul_assoc, Int.mul_comm, Int.mul_left_comm]
theorem fs_add {M N D : Int} {u v : Int × Int} (h : FS M D u) (k : FS N D v) : FS (M + N) D (qadd u v) := by
  have hp : 0 < u.2 * v.2 := Int.mul_pos h.co.pos k.co.pos
  obtain ⟨c, hc⟩ := h.dv
  obtain ⟨d, hd⟩ := k.dv
  have hu := Int.le_of_lt h.co.pos
  have hv := Int.le_of_lt k.co.pos
  have b := lw_bd (a := u.1 * v.2 + v.1 * u.2) (b := u.2 * v.2) (M := M + N) hp (Int.add_nonneg (Int.mul_nonneg h.nn hv) (Int.mul_nonneg k.nn hu)) (by
    have x1 : u.1 * v.2 ≤ M * u.2 * v.2 := Int.mul_le_mul_of_nonneg_right h.le hv
    have x2 : v.1 * u.2 ≤ N * v.2 * u.2 := Int.mul_le_mul_of_nonneg_right k.le hu
    have e : (M + N) * (u.2 * v.2) = M * u.2 * v.2 + N * v.2 * u.2 := by
      rw [Int.add_mul, Int.mul_assoc M, Int.mul_assoc N, Int.mul_comm v.2]
    omega)
  refine ⟨lw_co hp, b.1, b.2, lw_dvd hp ?_⟩
  show u.2 * v.2 ∣ (u.1 * v.2 + v.1 * u.2) * D
  rw [Int.add_mul]
  refine Int.dvd_add ⟨u.1 * c, ?_⟩ ⟨v.1 * d, ?_⟩
  · rw [hc]
    simp only [Int.mul_assoc, Int.mul_comm, Int.mul_left_comm]
  · rw [hd]
    simp only [Int.mul_assoc, Int.mul_comm, Int.mul_left_comm]
/-- the bottoms' product -/
def dprod : List (Int × Int) → Int
  | [] => 1
  | q :: l => q.2 * dprod l
theorem dprod_dvd : ∀ {l : List (Int × Int)} {q : Int × Int}, q ∈ l → q.2 ∣ dprod l
  | r :: l, q, h => by
    rcases List.mem_cons.mp h with rfl | h
    · exact Int.dvd_mul_right _ _
    · exact Int.dvd_trans (dprod_dvd h) (Int.dvd_mul_left _ _)
theorem dprod_bd : ∀ {l : List (Int × Int)}, (∀ q ∈ l, Fall q) → 0 < dprod l ∧ dprod l ≤ 441 ^ l.length
  | [], _ => ⟨by decide, by decide⟩
  | q :: l, h => by
    have hq := h q List.mem_cons_self
    have ih := dprod_bd fun r hr => h r (List.mem_cons_of_mem _ hr)
    refine ⟨Int.mul_pos hq.co.pos ih.1, ?_⟩
    show q.2 * dprod l ≤ 441 ^ (l.length + 1)
    rw [Int.pow_succ, Int.mul_comm (441 ^ l.length)]
    exact Int.mul_le_mul hq.b ih.2 (Int.le_of_lt ih.1) (by decide)

abbrev Fq := Int × Int
abbrev St2 := List Fq × List Fq
/-- what one bed does -/
def bedQ (bs : List Bed) (ps : List (List Int)) (j rank bed : Nat) (st : St2) : St2 :=
  (st.1.set (((bs[bed]?).map Bed.fin).getD 0) (qadd ((st.1[((bs[bed]?).map Bed.fin).getD 0]?).getD (0, 1)) (qmul ((st.1[j]?).getD (0, 1)) ((((ps[j]?).getD [])[rank]?).getD 0, ((ps[j]?).getD []).sum))),
   st.2.set bed (qmul ((st.1[j]?).getD (0, 1)) ((((ps[j]?).getD [])[rank]?).getD 0, ((ps[j]?).getD []).sum)))
structure StepOK (bs : List Bed) (ps : List (List Int)) (j rank bed : Nat) (st : St2) (b : Bed) (r : List Int) (w : Fq) (a : Int) (u : Fq) : Prop where
  hb : bs[bed]? = some b
  hp : ps[j]? = some r
  hw : st.1[j]? = some w
  ha : r[rank]? = some a
  hu : st.1[b.fin]? = some u
  hl : bed < st.2.length
  r9 : ∀ x ∈ r, 0 ≤ x ∧ x ≤ 9
  S0 : 0 < r.sum
  fw : Fr w
  fS : Fr (a, r.sum)
  fu : Fr u
  fv : Fr (qmul w (a, r.sum))
theorem bedQ_eq {bs : List Bed} {ps : List (List Int)} {j rank bed : Nat} {st : St2} {b : Bed} {r : List Int} {w : Fq} {a : Int} {u : Fq} (h : StepOK bs ps j rank bed st b r w a u) : bedQ bs ps j rank bed st = (st.1.set b.fin (qadd u (qmul w (a, r.sum))), st.2.set bed (qmul w (a, r.sum))) := by
  simp only [bedQ, h.hb, h.hp, h.hw, h.ha, h.hu, Option.getD_some, Option.map_some]
def order (bs : List Bed) (ds : List Int) (j : Nat) : List Nat := match mine bs j with
  | [a, b] => if (ds[a]?).getD 0 < (ds[b]?).getD 0 then [b, a] else [a, b]
  | l => l
def placeQ (bs : List Bed) (ps : List (List Int)) (ds : List Int) (j : Nat) (st : St2) : St2 := match order bs ds j with
  | [a] => bedQ bs ps j 0 a st
  | [a, b] => bedQ bs ps j 1 b (bedQ bs ps j 0 a st)
  | _ => st
def flowQ (bs : List Bed) (ps : List (List Int)) (ds : List Int) (fs : List Fq) : Nat → St2
  | 0 => (fs, List.replicate bs.length (0, 1))
  | j + 1 => placeQ bs ps ds j (flowQ bs ps ds fs j)
structure FI (many : Nat) (bs : List Bed) (M D : Int) (st : St2) : Prop where
  l1 : st.1.length = many
  l2 : st.2.length = bs.length
  f1 : ∀ q ∈ st.1, FS M D q
  f2 : ∀ q ∈ st.2, Co q ∧ Fr q
theorem FI.mono {many : Nat} {bs : List Bed} {M D M' D' : Int} {st : St2} (h : FI many bs M D st) (hM : M ≤ M') (hD : D ∣ D') : FI many bs M' D' st := ⟨h.l1, h.l2, fun q hq => (h.f1 q hq).mono hM hD, h.f2⟩
theorem le_sum : ∀ {r : List Int} {a : Int}, (∀ x ∈ r, 0 ≤ x ∧ x ≤ 9) → a ∈ r → a ≤ r.sum
  | x :: r, a, h, ha => by
    rw [List.sum_cons]
    have h0 := sum_nonneg r fun y hy => (h y (List.mem_cons_of_mem _ hy)).1
    rcases List.mem_cons.mp ha with rfl | ha
    · omega
    · have := le_sum (fun y hy => h y (List.mem_cons_of_mem _ hy)) ha
      have := (h x List.mem_cons_self).1
      omega
theorem bed_inv {many : Nat} {bs : List Bed} {ps : List (List Int)} (h : Wrld many bs ps) {j rank bed : Nat} {st : St2} {r : List Int} {w : Fq} {M M0 D : Int} (hr : ps[j]? = some r) (gr : GR (cnt bs j) r) (hrank : rank < cnt bs j) (hbed : bed ∈ mine bs j)
    (F : FI many bs M (D * r.sum) st) (hw : st.1[j]? = some w) (fw : FS M0 D w) (m0 : 0 ≤ M0) (m1 : 0 ≤ M) (m2 : M + M0 ≤ 2 ^ 64) (d0 : 0 < D) (d1 : D * r.sum ≤ 2 ^ 130) :
    (∃ b a u, StepOK bs ps j rank bed st b r w a u) ∧ FI many bs (M + M0) (D * r.sum) (bedQ bs ps j rank bed st) ∧ (bedQ bs ps j rank bed st).1[j]? = some w := by
  obtain ⟨hb, hst⟩ := mine_mem hbed
  have g := h.beds.all bs[bed] (List.getElem_mem hb)
  have eb : bs[bed]? = some bs[bed] := List.getElem?_eq_getElem hb
  generalize bs[bed] = b at g eb hst
  have gl := gr.len
  have hc2 := h.beds.two j
  have hS := gr.sum (by omega)
  have hrk : rank < r.length := by omega
  have ea : r[rank]? = some r[rank] := List.getElem?_eq_getElem hrk
  have ham : r[rank] ∈ r := List.getElem_mem hrk
  generalize r[rank] = a at ea ham
  have ha0 := gr.all a ham
  have haS := le_sum gr.all ham
  have hfin : b.fin < st.1.length := by rw [F.l1]; exact g.fin
  have eu : st.1[b.fin]? = some st.1[b.fin] := List.getElem?_eq_getElem hfin
  have hum : st.1[b.fin] ∈ st.1 := List.getElem_mem hfin
  generalize st.1[b.fin] = u at eu hum
  have fu := F.f1 u hum
  have dS : 0 < D * r.sum := Int.mul_pos d0 hS
  have fv : FS M0 (D * r.sum) (qmul w (a, r.sum)) := fs_mul fw ha0.1 haS hS m0
  have dD : D ≤ D * r.sum := by
    have : D * 1 ≤ D * r.sum := Int.mul_le_mul_of_nonneg_left (by omega) (Int.le_of_lt d0)
    omega
  have hs1 := sum_le r 2 (by omega) gr.all
  have ok : StepOK bs ps j rank bed st b r w a u := ⟨eb, hr, hw, ea, eu, by rw [F.l2]; exact hb, gr.all, hS, fw.fr d0 m0 (by omega) (by omega),
    fr_small hS (Nat.lt_of_le_of_lt (by show a.natAbs ≤ 9; omega) (by decide)) (Nat.lt_of_le_of_lt (by show r.sum.natAbs ≤ 18; omega) (by decide)), fu.fr dS m1 (by omega) d1, fv.fr dS m0 (by omega) d1⟩
  refine ⟨⟨b, a, u, ok⟩, ?_, ?_⟩
  · rw [bedQ_eq ok]
    refine ⟨by rw [List.length_set]; exact F.l1, by rw [List.length_set]; exact F.l2, fun q hq => ?_, fun q hq => ?_⟩
    · rcases List.mem_or_eq_of_mem_set hq with hq | rfl
      · exact (F.f1 q hq).mono (by omega) (Int.dvd_refl _)
      · exact fs_add fu fv
    · rcases List.mem_or_eq_of_mem_set hq with hq | rfl
      · exact F.f2 q hq
      · exact ⟨fv.co, ok.fv⟩
  · rw [bedQ_eq ok]
    have := g.lt
    show (st.1.set b.fin _)[j]? = _
    rw [List.getElem?_set_ne (by omega), hw]
def PlaceOK (bs : List Bed) (ps : List (List Int)) (ds : List Int) (j : Nat) (st : St2) : Prop := match order bs ds j with
  | [] => True
  | [a] => ∃ b r w x u, StepOK bs ps j 0 a st b r w x u
  | [a, c] => (∃ b r w x u, StepOK bs ps j 0 a st b r w x u) ∧ ∃ b r w x u, StepOK bs ps j 1 c (bedQ bs ps j 0 a st) b r w x u
  | _ => False
theorem order_cases (bs : List Bed) (ds : List Int) (j : Nat) (hc : cnt bs j ≤ 2) : (mine bs j = [] ∧ order bs ds j = []) ∨ (∃ a, mine bs j = [a] ∧ order bs ds j = [a]) ∨ ∃ a b, mine bs j = [a, b] ∧ ((decide ((ds[a]?).getD 0 < (ds[b]?).getD 0) = true ∧ order bs ds j = [b, a]) ∨ (decide ((ds[a]?).getD 0 < (ds[b]?).getD 0) = false ∧ order bs ds j = [a, b])) := by
  have hl := mine_len bs j
  unfold order
  generalize mine bs j = l at hl
  match l, hl with
  | [], _ => exact .inl ⟨rfl, rfl⟩
  | [a], _ => exact .inr (.inl ⟨a, rfl, rfl⟩)
  | [a, b], _ =>
    refine .inr (.inr ⟨a, b, rfl, ?_⟩)
    by_cases h : (ds[a]?).getD 0 < (ds[b]?).getD 0
    · exact .inl ⟨decide_eq_true h, if_pos h⟩
    · exact .inr ⟨decide_eq_false h, if_neg h⟩
  | _ :: _ :: _ :: _, hl =>
    simp only [List.length_cons] at hl
    omega
theorem place_inv {many : Nat} {bs : List Bed} {ps : List (List Int)} (h : Wrld many bs ps) (ds : List Int) {j : Nat} (hj : j < many) {st : St2} {M D : Int} (F : FI many bs M D st) (m0 : 0 ≤ M) (m1 : M * 4 ≤ 2 ^ 64) (d0 : 0 < D) (d1 : D * 18 ≤ 2 ^ 130) :
    PlaceOK bs ps ds j st ∧ ∃ D', 0 < D' ∧ D' ≤ D * 18 ∧ FI many bs (M * 4) D' (placeQ bs ps ds j st) := by
  have hjp : j < ps.length := by rw [h.len]; exact hj
  have gr := h.row j hjp
  have er : ps[j]? = some ps[j] := List.getElem?_eq_getElem hjp
  generalize ps[j] = r at gr er
  have hjw : j < st.1.length := by rw [F.l1]; exact hj
  have ew : st.1[j]? = some st.1[j] := List.getElem?_eq_getElem hjw
  have fw := F.f1 _ (List.getElem_mem hjw)
  generalize st.1[j] = w at ew fw
  have gl := gr.len
  have hc2 := h.beds.two j
  have hs1 := sum_le r 2 (by omega) gr.all
  have key : ∀ o : List Nat, (∀ x ∈ o, x ∈ mine bs j) → o.length = cnt bs j → (match o with
      | [] => True
      | [a] => ∃ b r w x u, StepOK bs ps j 0 a st b r w x u
      | [a, c] => (∃ b r w x u, StepOK bs ps j 0 a st b r w x u) ∧ ∃ b r w x u, StepOK bs ps j 1 c (bedQ bs ps j 0 a st) b r w x u
      | _ => False) ∧ ∃ D', 0 < D' ∧ D' ≤ D * 18 ∧ FI many bs (M * 4) D' (match o with
        | [a] => bedQ bs ps j 0 a st
        | [a, b] => bedQ bs ps j 1 b (bedQ bs ps j 0 a st)
        | _ => st) := fun o ho hl => by
    match o, ho, hl with
    | [], _, _ => exact ⟨trivial, D, d0, by omega, F.mono (by omega) (Int.dvd_refl _)⟩
    | [a], ho, hl =>
      have hl : 1 = cnt bs j := hl
      have hS := gr.sum (by omega)
      have dS : D * r.sum ≤ D * 18 := Int.mul_le_mul_of_nonneg_left (by omega) (Int.le_of_lt d0)
      obtain ⟨⟨b, x, u, s1⟩, F1, w1⟩ := bed_inv h (M := M) (M0 := M) (D := D) (rank := 0) er gr (by omega) (ho a List.mem_cons_self) (F.mono (Int.le_refl _) (Int.dvd_mul_right _ _)) ew fw m0 m0 (by omega) d0 (by omega)
      exact ⟨⟨b, r, w, x, u, s1⟩, D * r.sum, Int.mul_pos d0 hS, dS, F1.mono (by omega) (Int.dvd_refl _)⟩
    | [a, c], ho, hl =>
      have hl : 2 = cnt bs j := hl
      have hS := gr.sum (by omega)
      have dS : D * r.sum ≤ D * 18 := Int.mul_le_mul_of_nonneg_left (by omega) (Int.le_of_lt d0)
      obtain ⟨⟨b, x, u, s1⟩, F1, w1⟩ := bed_inv h (M := M) (M0 := M) (D := D) (rank := 0) er gr (by omega) (ho a List.mem_cons_self) (F.mono (Int.le_refl _) (Int.dvd_mul_right _ _)) ew fw m0 m0 (by omega) d0 (by omega)
      obtain ⟨⟨b2, x2, u2, s2⟩, F2, w2⟩ := bed_inv h (M := M + M) (M0 := M) (D := D) (rank := 1) er gr (by omega) (ho c (List.mem_cons_of_mem _ List.mem_cons_self)) F1 w1 fw m0 (by omega) (by omega) d0 (by omega)
      exact ⟨⟨⟨b, r, w, x, u, s1⟩, b2, r, w, x2, u2, s2⟩, D * r.sum, Int.mul_pos d0 hS, dS, F2.mono (by omega) (Int.dvd_refl _)⟩
    | _ :: _ :: _ :: _, _, hl =>
      simp only [List.length_cons] at hl
      omega
  have hm : (∀ x ∈ order bs ds j, x ∈ mine bs j) ∧ (order bs ds j).length = cnt bs j := by
    have hl := mine_len bs j
    rcases order_cases bs ds j hc2 with ⟨e1, e2⟩ | ⟨a, e1, e2⟩ | ⟨a, b, e1, ⟨_, e2⟩ | ⟨_, e2⟩⟩
    · rw [e1] at hl ⊢
      rw [e2]
      exact ⟨fun _ hx => hx, hl⟩
    · rw [e1] at hl ⊢
      rw [e2]
      exact ⟨fun _ hx => hx, hl⟩
    · rw [e1] at hl ⊢
      rw [e2]
      refine ⟨fun x hx => ?_, hl⟩
      simp only [List.mem_cons, List.not_mem_nil, or_false] at hx ⊢
      exact hx.symm
    · rw [e1] at hl ⊢
      rw [e2]
      exact ⟨fun _ hx => hx, hl⟩
  exact key (order bs ds j) hm.1 hm.2
theorem flow_inv {many : Nat} {bs : List Bed} {ps : List (List Int)} (h : Wrld many bs ps) (ds : List Int) {fs : List Fq} (hl : fs.length = many) (hf : ∀ f ∈ fs, Fall f) : ∀ j : Nat, j ≤ many → ∃ D, 0 < D ∧ D ≤ 441 ^ 8 * 18 ^ j ∧ FI many bs (9828 * 4 ^ j) D (flowQ bs ps ds fs j)
  | 0, _ => by
    have hd := dprod_bd hf
    have hm8 := h.m8
    refine ⟨dprod fs, hd.1, ?_, hl, List.length_replicate, fun q hq => ?_, fun q hq => ?_⟩
    · rw [Int.pow_zero, Int.mul_one]
      refine Int.le_trans hd.2 ?_
      have : (441 : Nat) ^ fs.length ≤ 441 ^ 8 := Nat.pow_le_pow_right (by decide) (by omega)
      exact_mod_cast this
    · have F := hf q hq
      have hp := F.co.pos
      refine ⟨F.co, F.nn, ?_, dprod_dvd hq⟩
      have h1 := F.t
      rw [Int.pow_zero, Int.mul_one]
      omega
    · have e := List.eq_of_mem_replicate hq
      subst e
      exact ⟨⟨by decide, by decide⟩, fr_small (by decide) (by decide) (by decide)⟩
  | j + 1, hj => by
    obtain ⟨D, d0, d1, F⟩ := flow_inv h ds hl hf j (by omega)
    have hm8 := h.m8
    have p4 : (9828 : Int) * 4 ^ j * 4 ≤ 2 ^ 64 := by
      have : (9828 : Nat) * 4 ^ j * 4 ≤ 9828 * 4 ^ 7 * 4 := Nat.mul_le_mul_right _ (Nat.mul_le_mul_left _ (Nat.pow_le_pow_right (by decide) (by omega)))
      have h2 : (9828 : Int) * 4 ^ j * 4 ≤ 9828 * 4 ^ 7 * 4 := by exact_mod_cast this
      exact Int.le_trans h2 (by decide)
    have p0 : (0 : Int) ≤ 9828 * 4 ^ j := by
      have : 0 ≤ (9828 : Nat) * 4 ^ j := Nat.zero_le _
      exact_mod_cast this
    have q4 : D * 18 ≤ 441 ^ 8 * 18 ^ (j + 1) := by
      have e : (441 : Int) ^ 8 * 18 ^ (j + 1) = 441 ^ 8 * 18 ^ j * 18 := by rw [Int.pow_succ 18 j, ← Int.mul_assoc]
      rw [e]
      exact Int.mul_le_mul_of_nonneg_right d1 (by decide)
    have q5 : (441 : Int) ^ 8 * 18 ^ (j + 1) ≤ 2 ^ 130 := by
      have : (441 : Nat) ^ 8 * 18 ^ (j + 1) ≤ 441 ^ 8 * 18 ^ 8 := Nat.mul_le_mul_left _ (Nat.pow_le_pow_right (by decide) (by omega))
      have h2 : (441 : Int) ^ 8 * 18 ^ (j + 1) ≤ 441 ^ 8 * 18 ^ 8 := by exact_mod_cast this
      exact Int.le_trans h2 (by decide)
    obtain ⟨_, D', e0, e1, F'⟩ := place_inv h ds (j := j) (by omega) F p0 p4 d0 (by omega)
    refine ⟨D', e0, by omega, ?_⟩
    rw [Int.pow_succ, ← Int.mul_assoc]
    exact F'
theorem flow_place {many : Nat} {bs : List Bed} {ps : List (List Int)} (h : Wrld many bs ps) (ds : List Int) {fs : List Fq} (hl : fs.length = many) (hf : ∀ f ∈ fs, Fall f) (j : Nat) (hj : j < many) : PlaceOK bs ps ds j (flowQ bs ps ds fs j) := by
  obtain ⟨D, d0, d1, F⟩ := flow_inv h ds hl hf j (by omega)
  have hm8 := h.m8
  have p4 : (9828 : Int) * 4 ^ j * 4 ≤ 2 ^ 64 := by
    have : (9828 : Nat) * 4 ^ j * 4 ≤ 9828 * 4 ^ 7 * 4 := Nat.mul_le_mul_right _ (Nat.mul_le_mul_left _ (Nat.pow_le_pow_right (by decide) (by omega)))
    have h2 : (9828 : Int) * 4 ^ j * 4 ≤ 9828 * 4 ^ 7 * 4 := by exact_mod_cast this
    exact Int.le_trans h2 (by decide)
  have p0 : (0 : Int) ≤ 9828 * 4 ^ j := by
    have : 0 ≤ (9828 : Nat) * 4 ^ j := Nat.zero_le _
    exact_mod_cast this
  have q5 : (441 : Int) ^ 8 * 18 ^ j * 18 ≤ 2 ^ 130 := by
    have : (441 : Nat) ^ 8 * 18 ^ j * 18 ≤ 441 ^ 8 * 18 ^ 8 * 18 := Nat.mul_le_mul_right _ (Nat.mul_le_mul_left _ (Nat.pow_le_pow_right (by decide) (by omega)))
    have h2 : (441 : Int) ^ 8 * 18 ^ j * 18 ≤ 441 ^ 8 * 18 ^ 8 * 18 := by exact_mod_cast this
    exact Int.le_trans h2 (by decide)
  exact (place_inv h ds (j := j) hj F p0 p4 d0 (by omega)).1

/-- two cells more -/
abbrev pp (p : Pool) (c d : Cell) : Pool := p ++ [c, d]
theorem pp_get0 {p : Pool} (c d : Cell) : (pp p c d)[p.length]? = some c := by simp [pp]
theorem pp_get1 {p : Pool} (c d : Cell) : (pp p c d)[p.length + 1]? = some d := by simp [pp]
theorem pp_set0 {p : Pool} (c d e : Cell) : (pp p c d).set p.length e = pp p e d := by simp [pp]
theorem pp_set1 {p : Pool} (c d e : Cell) : (pp p c d).set (p.length + 1) e = pp p c e := by simp [pp]
theorem getQ_own {p : Pool} {k : Nat} {xs : List PV} (h : p[k]? = some (.lst xs)) : getQ p (.own k) = some xs := by
  show (match p[k]? with | some (.lst xs) => some xs | _ => none) = _
  rw [h]
theorem map_get {α β : Type} {f : α → β} {l : List α} {i : Nat} {x : α} (h : l[i]? = some x) : (l.map f)[i]? = some (f x) := by
  rw [List.getElem?_map, h]
  rfl
theorem lt_of_get {α : Type} {l : List α} {i : Nat} {x : α} (h : l[i]? = some x) : i < l.length := (List.getElem?_eq_some_iff.mp h).1
theorem rev_ok {m : M PV} {xs : List PV} {en : En} {p p1 : Pool} (h : m en p = .ok (.lst xs) p1) : mRev m en p = .ok (.lst xs.reverse) p1 := by
  unfold mRev
  rw [h]
  rfl
theorem thaw_own {fld : Nat → List Str} {n k : Nat} {p : Pool} {xs : List PV} (h : n ≤ k) (hk : p[k]? = some (.lst xs)) (hb : bels 0 xs = true) : thaw fld n p (.own k) = some (.lst xs) := by
  show thw fld n p deep k = _
  unfold deep thw
  rw [if_neg (by omega), hk]
  dsimp only
  rw [subs_bel hb]
theorem pp_take {p : Pool} (c d : Cell) : (pp p c d).take p.length = p := by simp [pp]
theorem times_one (n : Nat) (x : PV) : R.times n [x] = List.replicate n x := by
  unfold R.times
  induction n with
  | zero => rfl
  | succ n ih => rw [List.replicate_succ, List.flatten_cons, ih, List.replicate_succ]; rfl
theorem mulO_ok {x : PV} {n : Nat} {p : Pool} (h : n ≤ 12) : pMulO (.lst [x]) (.int (n : Int)) p = .ok (.own p.length) (p ++ [.lst (List.replicate n x)]) := by
  have hb : [x].length * ((n : Int)).toNat ≤ big := by
    rw [Int.toNat_natCast, List.length_singleton, Nat.one_mul]
    exact Nat.le_trans h (by decide)
  show (if (n : Int) ≤ 1000 ∧ -1000 ≤ (n : Int) ∧ [x].length * ((n : Int)).toNat ≤ big then Res.ok (PV.own p.length) (p ++ [.lst (R.times ((n : Int)).toNat [x])]) else Res.stuck) = _
  rw [if_pos ⟨by omega, by omega, hb⟩, Int.toNat_natCast, times_one]
/-! ### the program's own -/
def bfF (j : Nat) : PV → Option PV := fun x => match x with
  | .tup [.int i, .tup (.int s :: _)] => if s = (j : Int) then some (.int i) else none
  | _ => none
theorem bfF_at (j i : Nat) (b : Bed) : bfF j (.tup [.int i, b.sv]) = if b.st = j then some (.int i) else none := by
  show (if (b.st : Int) = (j : Int) then some (PV.int i) else none) = _
  by_cases h : b.st = j
  · rw [if_pos h, if_pos (by omega)]
  · rw [if_neg h, if_neg (by omega)]
theorem bf_enum (j : Nat) : ∀ (bs : List Bed) (i : Nat), (enumZ i (bs.map Bed.sv)).filterMap (bfF j) = idx (mineA j i bs)
  | [], _ => rfl
  | b :: bs, i => by
    have ih := bf_enum j bs (i + 1)
    show (PV.tup [.int i, b.sv] :: enumZ (i + 1) (bs.map Bed.sv)).filterMap (bfF j) = _
    have e := bfF_at j i b
    unfold mineA
    by_cases h : b.st = j
    · rw [if_pos h] at e
      rw [if_pos h, List.filterMap_cons_some e, ih]
      rfl
    · rw [if_neg h] at e
      rw [if_neg h, List.filterMap_cons_none e, ih]
theorem beds_from_ok {many : Nat} {bs : List Bed} {ps : List (List Int)} (h : Wrld many bs ps) (j : Nat) (p : Pool) : m_beds_from [webPV many bs ps, .int j] p = .ok (.lst (idx (mine bs j))) p := by
  have hlen := h.beds.len
  have c1 : mLc (itEA (mCons (mFld 1 1 (mVar 0)) mNil)) (tgT 2 (tgCons (tgN 2) (tgCons (tgN 3) tgNil))) (mB (mBin pEq (mBin pIx (mVar 3) (mC (.int 0))) (mVar 1))) (mVar 2) [2, 3]
      ⟨p.length, [some (webPV many bs ps), some (.int j), none, none]⟩ p = .ok (.lst (idx (mine bs j))) p := by
    unfold mine
    rw [← bf_enum]
    refine mLc_map (z := ⟨enumZ 0 (bs.map Bed.sv), noCk⟩) (bfF j) (itEA_lst (getF_ok (x := webPV many bs ps) (var_ok rfl) rfl)) (fun _ => rfl) (fun x hx => ?_) (by
      show (enumZ 0 (bs.map Bed.sv)).length ≤ big
      rw [enumZ_len, List.length_map]
      exact Nat.le_trans hlen (by decide))
    obtain ⟨y, hy, rfl⟩ := List.getElem_of_mem hx
    have hy : y < (enumZ 0 (bs.map Bed.sv)).length := hy
    obtain ⟨h2, e⟩ := enumZ_at hy
    show ∃ as : As, tgT 2 (tgCons (tgN 2) (tgCons (tgN 3) tgNil)) (enumZ 0 (bs.map Bed.sv))[y] = some as ∧ _
    have e2 : ((⟨enumZ 0 (bs.map Bed.sv), noCk⟩ : It0).xs)[y] = PV.tup [.int y, (bs.map Bed.sv)[y]] := e
    rw [e2, List.getElem_map]
    have hy2 : y < bs.length := by rw [List.length_map] at h2; exact h2
    generalize bs[y] = b
    refine ⟨[(2, .int y), (3, b.sv)], rfl, rfl, fun acc => ?_⟩
    rw [bfF_at]
    refine ⟨?_, fun z hz => ?_⟩
    · have c := b_ok (eq_ok (x := (b.st : Int)) (y := (j : Int)) (en := En.sets ⟨p.length + 1, wipeE [some (webPV many bs ps), some (.int j), none, none] [2, 3]⟩ [(2, .int y), (3, b.sv)]) (p := p ++ [.lst acc]) (a := mBin pIx (mVar 3) (mC (.int 0))) (b := mVar 1) (at_ok (i := 0) (x := b.sv) (var_ok rfl) rfl rfl rfl) (var_ok rfl))
      rw [c]
      by_cases z : b.st = j
      · rw [if_pos z, decide_eq_true (by omega)]
        rfl
      · rw [if_neg z, decide_eq_false (by omega)]
        rfl
    · split at hz
      · cases hz
        exact ⟨var_ok rfl, rfl⟩
      · cases hz
  unfold m_beds_from
  exact fnM_pure (ret_ok c1) (bels_iff.mpr fun x hx => by
    obtain ⟨a, _, rfl⟩ := List.mem_map.mp hx
    rfl)

theorem ranked_ok {many : Nat} {bs : List Bed} {ps : List (List Int)} (h : Wrld many bs ps) (ds : List Int) (hd : ds.length = bs.length) (j : Nat) (p : Pool) : m_ranked [webPV many bs ps, .tup (ds.map .int), .int j] p = .ok (.lst (idx (order bs ds j))) p := by
  unfold m_ranked
  refine fnM_pure ?_ (bels_iff.mpr fun x hx => by
    obtain ⟨a, _, rfl⟩ := List.mem_map.mp hx
    rfl)
  show b_ranked ⟨p.length, [some (webPV many bs ps), some (.tup (ds.map .int)), some (.int j), none]⟩ p = _
  unfold b_ranked
  refine (seq_nx (set_nx (fn0_ok (two_ok (var_ok rfl) (var_ok rfl)) (beds_from_ok h j p)))).trans ?_
  rcases order_cases bs ds j (h.beds.two j) with ⟨e1, e2⟩ | ⟨a, e1, e2⟩ | ⟨a, b, e1, ho⟩
  · rw [e1, e2]
    exact (seq_nx ((if_f (and_f (b_ok (eq_no (x := ((0 : Nat) : Int)) (y := 2) (len_ok (x := .lst []) (var_ok rfl) rfl) rfl (by decide))))).trans rfl)).trans (ret_ok (var_ok rfl))
  · rw [e1, e2]
    exact (seq_nx ((if_f (and_f (b_ok (eq_no (x := ((1 : Nat) : Int)) (y := 2) (len_ok (x := .lst (idx [a])) (var_ok rfl) rfl) rfl (by decide))))).trans rfl)).trans (ret_ok (var_ok rfl))
  · have ha := (mine_mem (bs := bs) (j := j) (x := a) (by rw [e1]; exact List.mem_cons_self)).1
    have hb := (mine_mem (bs := bs) (j := j) (x := b) (by rw [e1]; exact List.mem_cons_of_mem _ List.mem_cons_self)).1
    have ea : ds[a]? = some (ds[a]'(by omega)) := List.getElem?_eq_getElem _
    have eb : ds[b]? = some (ds[b]'(by omega)) := List.getElem?_eq_getElem _
    generalize ds[a]'_ = da at ea
    generalize ds[b]'_ = db at eb
    rw [ea, eb] at ho
    simp only [Option.getD_some] at ho
    have t : (mAnd (mB (mBin pEq (mCall cLen (mCons (mVar 3) mNil)) (mC (.int 2)))) (mB (mBin pLt (mBin pIx (mVar 1) (mBin pIx (mVar 3) (mC (.int 0)))) (mBin pIx (mVar 1) (mBin pIx (mVar 3) (mC (.int 1)))))))
        ⟨p.length, [some (webPV many bs ps), some (.tup (ds.map .int)), some (.int j), some (.lst (idx [a, b]))]⟩ p = .ok (decide (da < db)) p :=
      (and_t (b_ok (eq_yes (x := ((2 : Nat) : Int)) (y := 2) (len_ok (x := .lst (idx [a, b])) (var_ok rfl) rfl) rfl rfl))).trans
        (b_ok (lt_ok (at_ok (i := a) (x := .tup (ds.map .int)) (var_ok rfl) (at_ok (i := 0) (x := .lst (idx [a, b])) (var_ok rfl) rfl rfl rfl) rfl (map_get ea)) (at_ok (i := b) (x := .tup (ds.map .int)) (var_ok rfl) (at_ok (i := 1) (x := .lst (idx [a, b])) (var_ok rfl) rfl rfl rfl) rfl (map_get eb))))
    rcases ho with ⟨e3, e2⟩ | ⟨e3, e2⟩
    · rw [e1, e2]
      rw [e3] at t
      exact seq_ret ((if_t t).trans (ret_ok (x := .lst (idx [a, b]).reverse) (rev_ok (xs := idx [a, b]) (var_ok rfl))))
    · rw [e1, e2]
      rw [e3] at t
      exact (seq_nx ((if_f t).trans rfl)).trans (ret_ok (var_ok rfl))
theorem fr_lw {a b : Int} (h : Fr (a, b)) : Fr (lw a b) := by
  have hp : 0 < b := h.pos
  have l := lw_le (a := a) hp
  have hp2 := (lw_co (a := a) hp).pos
  exact ⟨hp2, Nat.lt_of_le_of_lt l.2 h.s1, Nat.lt_of_le_of_lt (by omega) h.s2⟩
theorem share_by_rank_ok {many : Nat} {bs : List Bed} {ps : List (List Int)} {j rank : Nat} {r : List Int} {a : Int} (hp : ps[j]? = some r) (ha : r[rank]? = some a) (S0 : 0 < r.sum) (fS : Fr (a, r.sum)) (p : Pool) : m_share_by_rank [webPV many bs ps, .int j, .int rank] p = .ok (sh (lw a r.sum)) p := by
  unfold m_share_by_rank
  refine fnM_pure ?_ rfl
  show b_share_by_rank ⟨p.length, [some (webPV many bs ps), some (.int j), some (.int rank), none]⟩ p = _
  unfold b_share_by_rank
  refine (seq_nx (set_nx (at_ok (i := j) (x := .lst (ps.map rowPV)) (getF_ok (x := webPV many bs ps) (var_ok rfl) rfl) (var_ok rfl) rfl (map_get hp)))).trans ?_
  by_cases h1 : r.length = 1
  · obtain ⟨x, rfl⟩ := List.length_eq_one_iff.mp h1
    have e0 : rank = 0 := by
      have := lt_of_get ha
      rw [List.length_singleton] at this
      omega
    subst e0
    have e1 : x = a := Option.some.inj ha
    subst e1
    have e2 : [x].sum = x := by simp
    rw [e2] at S0 ⊢
    rw [lw_one S0]
    have e3 : m_Share_init ([.int 1] ++ [.int 1]) p = .ok (sh (lw 1 1)) p := share_ok 1 1 p (by decide) (small_fuel (by decide))
    exact seq_ret ((if_t (b_ok (eq_yes (x := ((1 : Nat) : Int)) (y := 1) (len_ok (x := rowPV [x]) (var_ok rfl) rfl) rfl rfl))).trans (ret_ok (fn_ok (one_ok (a := mC (.int 1)) rfl) e3)))
  · refine (seq_nx ((if_f (b_ok (eq_no (x := (((r.map PV.int).length : Nat) : Int)) (y := 1) (len_ok (x := rowPV r) (var_ok rfl) rfl) rfl (by rw [List.length_map]; omega)))).trans rfl)).trans ?_
    exact ret_ok (fn0_ok (two_ok (at_ok (i := rank) (x := rowPV r) (var_ok rfl) (var_ok rfl) rfl (map_get ha)) (call_ok (one_ok (var_ok rfl)) (cSumA_tup r _))) (share_ok a r.sum p S0 (pow_fuel fS.s2)))
def proB : S := (sSeq (sIx (mVar 5) (mVar 4) (mFn m_times [] (mCons (mBin pIx (mVar 3) (mVar 6)) (mCons (mFn m_share_by_rank [] (mCons (mVar 0) (mCons (mVar 6) (mCons (mVar 7) mNil)))) mNil))))
    (sSeq (sSet (mBin pIx (mBin pIx (mFld 1 1 (mVar 0)) (mVar 4)) (mC (.int 1))) 8)
    (sIx (mVar 3) (mVar 8) (mFn m_plus [] (mCons (mBin pIx (mVar 3) (mVar 8)) (mCons (mBin pIx (mVar 5) (mVar 4)) mNil))))))
theorem proB_ok (p : Pool) {n : Nat} (hn : n ≤ p.length) (D F : Option PV) {many : Nat} {bs : List Bed} {ps : List (List Int)} {j rank bed : Nat} {st : St2} {b : Bed} {r : List Int} {w : Fq} {a : Int} {u : Fq} (h : StepOK bs ps j rank bed st b r w a u) (x8 : Option PV) :
    ∃ y8 : Option PV, proB ⟨n, [some (webPV many bs ps), D, F, some (.own p.length), some (.int bed), some (.own (p.length + 1)), some (.int j), some (.int rank), x8]⟩ (pp p (.lst (st.1.map sh)) (.lst (st.2.map sh)))
      = .next ⟨n, [some (webPV many bs ps), D, F, some (.own p.length), some (.int bed), some (.own (p.length + 1)), some (.int j), some (.int rank), y8]⟩ (pp p (.lst ((bedQ bs ps j rank bed st).1.map sh)) (.lst ((bedQ bs ps j rank bed st).2.map sh))) := by
  rw [bedQ_eq h]
  generalize hv : qmul w (a, r.sum) = v
  have fv : Fr v := by rw [← hv]; exact h.fv
  have c1 : mFn m_times [] (mCons (mBin pIx (mVar 3) (mVar 6)) (mCons (mFn m_share_by_rank [] (mCons (mVar 0) (mCons (mVar 6) (mCons (mVar 7) mNil)))) mNil))
      ⟨n, [some (webPV many bs ps), D, F, some (.own p.length), some (.int bed), some (.own (p.length + 1)), some (.int j), some (.int rank), x8]⟩ (pp p (.lst (st.1.map sh)) (.lst (st.2.map sh))) = .ok (sh v) (pp p (.lst (st.1.map sh)) (.lst (st.2.map sh))) := by
    rw [← hv, ← qmul_lw h.fw.pos h.S0]
    exact fn0_ok (two_ok (at_ok (i := j) (x := .own p.length) (var_ok rfl) (var_ok rfl) (getQ_own (pp_get0 _ _)) (map_get h.hw))
      (fn0_ok (three_ok (var_ok rfl) (var_ok rfl) (var_ok rfl)) (share_by_rank_ok h.hp h.ha h.S0 h.fS _))) (times_q _ h.fw (fr_lw h.fS))
  have s1 := ix_nx (o := mVar 5) (i := mVar 4) (k := p.length + 1) (n := bed) c1 (var_ok rfl) (var_ok rfl) (pp_get1 _ _) (by rw [List.length_map]; exact h.hl) (may_le (by show n ≤ _; omega))
  rw [pp_set1, ← List.map_set] at s1
  refine ⟨some (.int b.fin), ?_⟩
  unfold proB
  refine (seq_nx s1).trans ?_
  have hset : (st.2.set bed v)[bed]? = some v := List.getElem?_set_self h.hl
  refine (seq_nx (set_nx (x := .int b.fin) (at_ok (i := 1) (x := b.sv) (at_ok (i := bed) (x := .lst (bs.map Bed.sv)) (getF_ok (x := webPV many bs ps) (var_ok rfl) rfl) (var_ok rfl) rfl (map_get h.hb)) rfl rfl rfl))).trans ?_
  have s2 := ix_nx (o := mVar 3) (i := mVar 8) (k := p.length) (n := b.fin) (en := ⟨n, [some (webPV many bs ps), D, F, some (.own p.length), some (.int bed), some (.own (p.length + 1)), some (.int j), some (.int rank), some (.int b.fin)]⟩) (fn0_ok (two_ok (at_ok (i := b.fin) (x := .own p.length) (a := mVar 3) (b := mVar 8) (p := pp p (.lst (st.1.map sh)) (.lst ((st.2.set bed v).map sh))) (var_ok rfl) (var_ok rfl) (getQ_own (pp_get0 _ _)) (map_get h.hu)) (at_ok (i := bed) (x := .own (p.length + 1)) (a := mVar 5) (b := mVar 4) (var_ok rfl) (var_ok rfl) (getQ_own (pp_get1 _ _)) (map_get hset))) (plus_q _ h.fu fv)) (var_ok rfl) (var_ok rfl) (pp_get0 _ _) (by rw [List.length_map]; exact lt_of_get h.hu) (may_le hn)
  rw [pp_set0, ← List.map_set] at s2
  exact s2

def proP : S := (sFor (itEA (mCons (mFn m_ranked [] (mCons (mVar 0) (mCons (mVar 1) (mCons (mVar 6) mNil)))) mNil)) (tgT 2 (tgCons (tgN 7) (tgCons (tgN 4) tgNil)))
    proB)
theorem proP_ok (p : Pool) {n : Nat} (hn : n ≤ p.length) (F : Option PV) {many : Nat} {bs : List Bed} {ps : List (List Int)} (hW : Wrld many bs ps) (ds : List Int) (hd : ds.length = bs.length) {j : Nat} {st : St2} (h : PlaceOK bs ps ds j st) (x4 x7 x8 : Option PV) :
    ∃ y4 y7 y8 : Option PV, proP ⟨n, [some (webPV many bs ps), some (.tup (ds.map .int)), F, some (.own p.length), x4, some (.own (p.length + 1)), some (.int j), x7, x8]⟩ (pp p (.lst (st.1.map sh)) (.lst (st.2.map sh)))
      = .next ⟨n, [some (webPV many bs ps), some (.tup (ds.map .int)), F, some (.own p.length), y4, some (.own (p.length + 1)), some (.int j), y7, y8]⟩ (pp p (.lst ((placeQ bs ps ds j st).1.map sh)) (.lst ((placeQ bs ps ds j st).2.map sh))) := by
  have c1 := itEA_lst (fn0_ok (f := m_ranked) (en := ⟨n, [some (webPV many bs ps), some (.tup (ds.map .int)), F, some (.own p.length), x4, some (.own (p.length + 1)), some (.int j), x7, x8]⟩) (p := pp p (.lst (st.1.map sh)) (.lst (st.2.map sh))) (three_ok (a := mVar 0) (b := mVar 1) (c := mVar 6) (var_ok rfl) (var_ok rfl) (var_ok rfl)) (ranked_ok hW ds hd j _))
  have key : ∀ (o : List Nat), (match o with
      | [] => True
      | [a] => ∃ b r w x u, StepOK bs ps j 0 a st b r w x u
      | [a, c] => (∃ b r w x u, StepOK bs ps j 0 a st b r w x u) ∧ ∃ b r w x u, StepOK bs ps j 1 c (bedQ bs ps j 0 a st) b r w x u
      | _ => False) → ∃ y4 y7 y8 : Option PV, loopF noCk (tgT 2 (tgCons (tgN 7) (tgCons (tgN 4) tgNil))) proB (enumZ 0 (idx o)) ⟨n, [some (webPV many bs ps), some (.tup (ds.map .int)), F, some (.own p.length), x4, some (.own (p.length + 1)), some (.int j), x7, x8]⟩ (pp p (.lst (st.1.map sh)) (.lst (st.2.map sh)))
        = .next ⟨n, [some (webPV many bs ps), some (.tup (ds.map .int)), F, some (.own p.length), y4, some (.own (p.length + 1)), some (.int j), y7, y8]⟩ (pp p (.lst ((match o with
        | [a] => bedQ bs ps j 0 a st
        | [a, b] => bedQ bs ps j 1 b (bedQ bs ps j 0 a st)
        | _ => st).1.map sh)) (.lst ((match o with
        | [a] => bedQ bs ps j 0 a st
        | [a, b] => bedQ bs ps j 1 b (bedQ bs ps j 0 a st)
        | _ => st).2.map sh))) := fun o ho => by
    match o, ho with
    | [], _ => exact ⟨x4, x7, x8, for_end rfl⟩
    | [a], ho =>
      obtain ⟨b, r, w, x, u, s1⟩ := ho
      obtain ⟨y8, e1⟩ := proB_ok p hn (some (.tup (ds.map .int))) F (many := many) s1 x8
      exact ⟨some (.int a), some (.int ((0 : Nat) : Int)), y8, (for_nx (as := [(7, .int ((0 : Nat) : Int)), (4, .int a)]) rfl rfl e1).trans (for_end rfl)⟩
    | [a, c], ho =>
      obtain ⟨⟨b, r, w, x, u, s1⟩, b2, r2, w2, x2, u2, s2⟩ := ho
      obtain ⟨y8, e1⟩ := proB_ok p hn (some (.tup (ds.map .int))) F (many := many) s1 x8
      obtain ⟨z8, e2⟩ := proB_ok p hn (some (.tup (ds.map .int))) F (many := many) s2 y8
      refine ⟨some (.int c), some (.int ((1 : Nat) : Int)), z8, (for_nx (as := [(7, .int ((0 : Nat) : Int)), (4, .int a)]) rfl rfl e1).trans ?_⟩
      exact (for_nx (as := [(7, .int ((1 : Nat) : Int)), (4, .int c)]) rfl rfl e2).trans (for_end rfl)
    | _ :: _ :: _ :: _, ho => exact ho.elim
  obtain ⟨y4, y7, y8, e⟩ := key (order bs ds j) h
  exact ⟨y4, y7, y8, sFor_ok c1 e⟩
theorem replicate_fm {α β : Type} (c : β) (l : List α) : (l.filterMap fun _ => some c) = List.replicate l.length c := by
  induction l with
  | nil => rfl
  | cons x l ih => rw [List.filterMap_cons_some (f := fun _ : α => some c) (a := x) (l := l) (b := c) rfl, ih, List.length_cons, List.replicate_succ]
theorem pflow_ok {many : Nat} {bs : List Bed} {ps : List (List Int)} (h : Wrld many bs ps) (ds : List Int) (hd : ds.length = bs.length) {fs : List Fq} (hl : fs.length = many) (hf : ∀ f ∈ fs, Fall f) (p : Pool) :
    m_flow [webPV many bs ps, .tup (ds.map .int), .tup (fs.map sh)] p = .ok (.tup [.own p.length, .own (p.length + 1)]) (pp p (.lst ((flowQ bs ps ds fs many).1.map sh)) (.lst ((flowQ bs ps ds fs many).2.map sh))) := by
  have hlen := h.beds.len
  have hm8 := h.m8
  unfold m_flow
  refine fnA_ret ?_
  show b_flow ⟨p.length, [some (webPV many bs ps), some (.tup (ds.map .int)), some (.tup (fs.map sh)), none, none, none, none, none, none]⟩ p = _
  unfold b_flow
  refine (seq_nx (set_nx (x := .own p.length) (p1 := p ++ [.lst (fs.map sh)]) (call_ok (one_ok (var_ok (x := .tup (fs.map sh)) rfl)) rfl))).trans ?_
  have e4 : mLcO (itS (mFld 1 1 (mVar 0))) (tgN 4) mYes (mFn m_Share_init [.int 1] (mCons (mC (.int 0)) mNil)) [4] ⟨p.length, [some (webPV many bs ps), some (.tup (ds.map .int)), some (.tup (fs.map sh)), some (.own p.length), none, none, none, none, none]⟩ (p ++ [.lst (fs.map sh)])
      = .ok (.own (p.length + 1)) (pp p (.lst ((flowQ bs ps ds fs 0).1.map sh)) (.lst ((flowQ bs ps ds fs 0).2.map sh))) := by
    have e := mLcO_map (it := itS (mFld 1 1 (mVar 0))) (g := tgN 4) (tt := mYes) (te := mFn m_Share_init [.int 1] (mCons (mC (.int 0)) mNil)) (vs := [4]) (en := ⟨p.length, [some (webPV many bs ps), some (.tup (ds.map .int)), some (.tup (fs.map sh)), some (.own p.length), none, none, none, none, none]⟩) (p := p ++ [.lst (fs.map sh)])
      (fun _ => some (sh (0, 1))) (itS_lst (getF_ok (x := webPV many bs ps) (y := .lst (bs.map Bed.sv)) (var_ok rfl) rfl)) (fun _ => rfl) (fun x hx => ⟨[(4, x)], rfl, rfl, fun acc => ⟨rfl, fun y hy => by
        cases hy
        refine ⟨fn_ok (one_ok (a := mC (.int 0)) rfl) ?_, rfl⟩
        exact share_ok 0 1 _ (by decide) (small_fuel (by decide))⟩⟩) (by
        show (bs.map Bed.sv).length ≤ big
        rw [List.length_map]
        exact Nat.le_trans hlen (by decide))
    rw [e, len1, List.append_assoc]
    show Res.ok _ (p ++ [.lst (fs.map sh), .lst ((bs.map Bed.sv).filterMap fun _ => some (sh (0, 1)))]) = Res.ok _ (p ++ [.lst (fs.map sh), .lst ((List.replicate bs.length (0, 1)).map sh)])
    rw [replicate_fm, List.length_map, List.map_replicate]
  refine (seq_nx (set_nx e4)).trans ?_
  obtain ⟨en2, p2, e, y4, y6, y7, y8, rfl, rfl⟩ := sFor_range (i := 6) (n := many) (a := mCons (mFld 1 0 (mVar 0)) mNil) (body := proP) (en := ⟨p.length, [some (webPV many bs ps), some (.tup (ds.map .int)), some (.tup (fs.map sh)), some (.own p.length), none, some (.own (p.length + 1)), none, none, none]⟩)
    (p := pp p (.lst ((flowQ bs ps ds fs 0).1.map sh)) (.lst ((flowQ bs ps ds fs 0).2.map sh)))
    (p1 := pp p (.lst ((flowQ bs ps ds fs 0).1.map sh)) (.lst ((flowQ bs ps ds fs 0).2.map sh)))
    (fun j en q => ∃ y4 y6 y7 y8 : Option PV, en = ⟨p.length, [some (webPV many bs ps), some (.tup (ds.map .int)), some (.tup (fs.map sh)), some (.own p.length), y4, some (.own (p.length + 1)), y6, y7, y8]⟩ ∧ q = pp p (.lst ((flowQ bs ps ds fs j).1.map sh)) (.lst ((flowQ bs ps ds fs j).2.map sh)))
    (one_ok (getF_ok (x := webPV many bs ps) (var_ok rfl) rfl)) (Nat.le_trans hm8 (by decide)) (fun j en q hj ⟨y4, y6, y7, y8, he, hq⟩ => by
      subst he
      subst hq
      obtain ⟨z4, z7, z8, e⟩ := proP_ok p (Nat.le_refl _) (some (.tup (fs.map sh))) h ds hd (flow_place h ds hl hf j hj) y4 y7 y8
      exact ⟨_, _, e, z4, some (.int j), z7, z8, rfl, rfl⟩) ⟨none, none, none, none, rfl, rfl⟩
  exact (seq_nx e).trans (ret_ok (tup_ok (two_ok (var_ok rfl) (var_ok rfl))))
/-! ### checks -/
theorem are_depths_ok {many : Nat} {bs : List Bed} {ps : List (List Int)} (h : Wrld many bs ps) (ds : List Int) (hd : ds.length = bs.length) (p : Pool) : m_are_depths [.tup (ds.map .int), webPV many bs ps] p = .ok (.bl true) p := by
  have hlen := h.beds.len
  have c1 : mLc (itS (mVar 0)) (tgN 2) mYes (mFn m_is_whole [] (mCons (mVar 2) mNil)) [2] ⟨p.length, [some (.tup (ds.map .int)), some (webPV many bs ps), none]⟩ p = .ok (.lst ((ds.map PV.int).map fun _ => .bl true)) p :=
    mLc_all (fun _ => .bl true) (itS_tup (var_ok rfl)) (fun _ => rfl) (fun x hx => by
      obtain ⟨d, _, rfl⟩ := List.mem_map.mp hx
      exact ⟨[(2, .int d)], rfl, rfl, fun acc => ⟨fn0_ok (one_ok (var_ok rfl)) (whole_ok d _), rfl⟩⟩) (by
      show (ds.map PV.int).length ≤ big
      rw [List.length_map, hd]
      exact Nat.le_trans hlen (by decide))
  unfold m_are_depths
  refine fnM_pure (x := .bl true) ?_ rfl
  show b_are_depths ⟨p.length, [some (.tup (ds.map .int)), some (webPV many bs ps), none]⟩ p = _
  unfold b_are_depths
  exact ret_ok ((andV_t (isi_ok (t := .tup) (var_ok (x := .tup (ds.map .int)) rfl) rfl)).trans ((andV_t (eq_yes (len_ok (x := .tup (ds.map .int)) (var_ok rfl) rfl) (len_ok (x := .lst (bs.map Bed.sv)) (getF_ok (x := webPV many bs ps) (var_ok rfl) rfl) rfl) (by rw [List.length_map, List.length_map, hd]))).trans (call_ok (one_ok c1) (cAll_true _))))
theorem check_depths_ok {many : Nat} {bs : List Bed} {ps : List (List Int)} (h : Wrld many bs ps) (ds : List Int) (hd : ds.length = bs.length) (p : Pool) : m_check_depths [webPV many bs ps, .tup (ds.map .int)] p = .ok .non p := by
  have e : b_check_depths ⟨p.length, [webPV many bs ps, .tup (ds.map .int)].map some ++ List.replicate (2 - [webPV many bs ps, .tup (ds.map .int)].length) none⟩ p = .next ⟨p.length, [some (webPV many bs ps), some (.tup (ds.map .int))]⟩ p := by
    show b_check_depths ⟨p.length, [some (webPV many bs ps), some (.tup (ds.map .int))]⟩ p = _
    unfold b_check_depths
    exact (if_f (not_t (b_ok (fn0_ok (two_ok (var_ok rfl) (var_ok rfl)) (are_depths_ok h ds hd p))))).trans rfl
  unfold m_check_depths
  rw [fnM_nx e, List.take_length]
theorem fall_fr {f : Fq} (h : Fall f) : Fr f := by
  have h1 := h.nn
  have h2 := h.t
  have h3 := h.b
  have h4 := h.co.pos
  exact fr_small h4 (Nat.lt_of_le_of_lt (by omega : f.1.natAbs ≤ 9828) (by decide)) (Nat.lt_of_le_of_lt (by omega : f.2.natAbs ≤ 441) (by decide))
theorem check_rain_ok {many : Nat} {bs : List Bed} {ps : List (List Int)} (h : Wrld many bs ps) {fs : List Fq} (hl : fs.length = many) (hf : ∀ f ∈ fs, Fall f) (p : Pool) : m_check_rain [webPV many bs ps, .tup (fs.map sh)] p = .ok .non p := by
  have hm8 := h.m8
  have hbig : (fs.map sh).length ≤ big := by
    rw [List.length_map, hl]
    exact Nat.le_trans hm8 (by decide)
  have c1 : mLc (itS (mVar 1)) (tgN 2) mYes (mIsi 2 (.cls 0) (mVar 2)) [2] ⟨p.length, [some (webPV many bs ps), some (.tup (fs.map sh)), none]⟩ p = .ok (.lst ((fs.map sh).map fun _ => .bl true)) p :=
    mLc_all (fun _ => .bl true) (itS_tup (var_ok rfl)) (fun _ => rfl) (fun x hx => by
      obtain ⟨d, _, rfl⟩ := List.mem_map.mp hx
      exact ⟨[(2, sh d)], rfl, rfl, fun acc => ⟨isi_ok (t := .cls 0) (var_ok (x := sh d) rfl) rfl, rfl⟩⟩) hbig
  have c2 : mLc (itS (mVar 1)) (tgN 2) mYes (mFn m_less [] (mCons (mVar 2) (mCons (mFn m_Share_init [.int 1] (mCons (mC (.int 0)) mNil)) mNil))) [2] ⟨p.length, [some (webPV many bs ps), some (.tup (fs.map sh)), none]⟩ p = .ok (.lst ((fs.map sh).map fun _ => .bl false)) p :=
    mLc_all (fun _ => .bl false) (itS_tup (var_ok rfl)) (fun _ => rfl) (fun x hx => by
      obtain ⟨d, hd, rfl⟩ := List.mem_map.mp hx
      have F := hf d hd
      refine ⟨[(2, sh d)], rfl, rfl, fun acc => ⟨fn0_ok (two_ok (var_ok rfl) (fn_ok (one_ok (a := mC (.int 0)) rfl) (share_ok 0 1 _ (by decide) (small_fuel (by decide))))) ?_, rfl⟩⟩
      have e := less_q (q := d) (r := (0, 1)) (p ++ [.lst acc]) (fall_fr F) (fr_small (by decide) (by decide) (by decide))
      have e2 : qlt d (0, 1) = false := decide_eq_false (by
        have := F.nn
        show ¬ d.1 * 1 < 0 * d.2
        omega)
      rw [e2] at e
      exact e) hbig
  have e : b_check_rain ⟨p.length, [webPV many bs ps, .tup (fs.map sh)].map some ++ List.replicate (3 - [webPV many bs ps, .tup (fs.map sh)].length) none⟩ p = .next ⟨p.length, [some (webPV many bs ps), some (.tup (fs.map sh)), none]⟩ p := by
    show b_check_rain ⟨p.length, [some (webPV many bs ps), some (.tup (fs.map sh)), none]⟩ p = _
    unfold b_check_rain
    refine (seq_nx ((if_f ((or_f (not_t (b_ok (isi_ok (t := .tup) (var_ok (x := .tup (fs.map sh)) rfl) rfl)))).trans ((or_f (b_ok (ne_no (y := (many : Int)) (len_ok (x := .tup (fs.map sh)) (var_ok rfl) rfl) (getF_ok (x := webPV many bs ps) (var_ok rfl) rfl) (by rw [List.length_map, hl])))).trans (not_t (b_ok (call_ok (one_ok c1) (cAll_true _))))))).trans rfl)).trans ?_
    exact (if_f (b_ok (call_ok (one_ok c2) (cAny_false _)))).trans rfl
  unfold m_check_rain
  rw [fnM_nx e, List.take_length]

/-- by how much a bed moves -/
def mvQ (b : Bed) (q : Fq) : Int := if qlt q b.high = true then (if qlt b.low q = true then 0 else -1) else 1
def mvs (bs : List Bed) (ds : List Int) (qs : List Fq) (i : Nat) : Int := (ds[i]?).getD 0 + match bs[i]?, qs[i]? with
  | some b, some q => mvQ b q
  | _, _ => 0
def behindQ (bs : List Bed) (ds : List Int) (qs : List Fq) : List Int := (List.range bs.length).map (mvs bs ds qs)
theorem qlt_tr {l h q : Fq} (hl : 0 < l.2) (hh : 0 < h.2) (hq : 0 < q.2) (a : qlt l h = true) (b : qlt q h = false) : qlt l q = true := by
  have a : l.1 * h.2 < h.1 * l.2 := of_decide_eq_true a
  have b : ¬ q.1 * h.2 < h.1 * q.2 := of_decide_eq_false b
  refine decide_eq_true ?_
  rcases Int.lt_or_le (l.1 * q.2) (q.1 * l.2) with z | z
  · exact z
  · exfalso
    have b : h.1 * q.2 ≤ q.1 * h.2 := by omega
    have x1 := Int.mul_lt_mul_of_pos_right a hq
    have x2 := Int.mul_le_mul_of_nonneg_right b (Int.le_of_lt hl)
    have x3 := Int.mul_le_mul_of_nonneg_right z (Int.le_of_lt hh)
    have e1 : l.1 * h.2 * q.2 = l.1 * q.2 * h.2 := Int.mul_right_comm _ _ _
    have e2 : h.1 * l.2 * q.2 = h.1 * q.2 * l.2 := Int.mul_right_comm _ _ _
    have e3 : q.1 * h.2 * l.2 = q.1 * l.2 * h.2 := Int.mul_right_comm _ _ _
    omega
theorem move_of_ok {many : Nat} {bs : List Bed} {ps : List (List Int)} {i : Nat} {b : Bed} (hb : bs[i]? = some b) (g : GB many b) {q : Fq} (fq : Fr q) (p : Pool) : m_move_of [webPV many bs ps, .int i, sh q] p = .ok (.int (mvQ b q)) p := by
  unfold m_move_of
  refine fnM_pure ?_ rfl
  show b_move_of ⟨p.length, [some (webPV many bs ps), some (.int i), some (sh q), none, none, none, none]⟩ p = _
  unfold b_move_of
  refine (seq_nx (asg_nx (as := [(3, .int b.st), (4, .int b.fin), (5, sh b.low), (6, sh b.high)]) (at_ok (i := i) (x := .lst (bs.map Bed.sv)) (y := b.sv) (getF_ok (x := webPV many bs ps) (var_ok rfl) rfl) (var_ok rfl) rfl (map_get hb)) rfl)).trans ?_
  have c1 := b_ok (fn0_ok (f := m_less) (en := ⟨p.length, [some (webPV many bs ps), some (.int i), some (sh q), some (.int b.st), some (.int b.fin), some (sh b.low), some (sh b.high)]⟩) (p := p) (two_ok (a := mVar 2) (b := mVar 6) (var_ok (x := sh q) rfl) (var_ok (x := sh b.high) rfl)) (less_q p fq g.fh))
  have c2 := b_ok (fn0_ok (f := m_less) (en := ⟨p.length, [some (webPV many bs ps), some (.int i), some (sh q), some (.int b.st), some (.int b.fin), some (sh b.low), some (sh b.high)]⟩) (p := p) (two_ok (a := mVar 5) (b := mVar 2) (var_ok (x := sh b.low) rfl) (var_ok (x := sh q) rfl)) (less_q p g.fl fq))
  unfold mvQ
  cases e1 : qlt q b.high with
  | false =>
    rw [e1] at c1
    rw [if_neg Bool.false_ne_true]
    exact seq_ret ((if_t (not_f c1)).trans (ret_ok rfl))
  | true =>
    rw [e1] at c1
    rw [if_pos rfl]
    refine (seq_nx ((if_f (not_t c1)).trans rfl)).trans (ret_ok ((if_ok c2).trans ?_))
    cases qlt b.low q with
    | true => rfl
    | false => rfl
theorem enum_map (g : Nat → PV) (xs : List PV) : (enumZ 0 xs).map (fun x => match x with | .tup (.int i :: _) => g i.toNat | _ => .non) = (List.range xs.length).map g := by
  refine List.ext_getElem (by rw [List.length_map, List.length_map, enumZ_len, List.length_range]) fun i h1 h2 => ?_
  rw [List.getElem_map, List.getElem_map, List.getElem_range]
  have h3 : i < (enumZ 0 xs).length := by rw [List.length_map] at h1; exact h1
  obtain ⟨h4, e⟩ := enumZ_at h3
  rw [e]
  show g ((i : Nat) : Int).toNat = g i
  rw [Int.toNat_natCast]
theorem moved_ok {many : Nat} {bs : List Bed} {ps : List (List Int)} (h : Wrld many bs ps) (ds : List Int) (hd : ds.length = bs.length) (qs : List Fq) (hq : qs.length = bs.length) (hqf : ∀ q ∈ qs, Fr q) (k : Nat) (p : Pool) (hk : p[k]? = some (.lst (qs.map sh))) :
    m_moved [webPV many bs ps, .tup (ds.map .int), .own k] p = .ok (.tup ((behindQ bs ds qs).map .int)) p := by
  have hlen := h.beds.len
  have hkl := lt_of_get hk
  have c1 : mLc (itEA (mCons (mVar 1) mNil)) (tgT 2 (tgCons (tgN 3) (tgCons (tgN 4) tgNil))) mYes (mBin pAdd (mVar 4) (mFn m_move_of [] (mCons (mVar 0) (mCons (mVar 3) (mCons (mBin pIx (mVar 2) (mVar 3)) mNil))))) [3, 4]
      ⟨p.length, [some (webPV many bs ps), some (.tup (ds.map .int)), some (.own k), none, none]⟩ p = .ok (.lst ((behindQ bs ds qs).map .int)) p := by
    have e0 : (behindQ bs ds qs).map PV.int = (enumZ 0 (ds.map PV.int)).map (fun x => match x with | .tup (.int i :: _) => PV.int (mvs bs ds qs i.toNat) | _ => .non) := by
      rw [enum_map (fun i => PV.int (mvs bs ds qs i)), List.length_map, hd]
      unfold behindQ
      rw [List.map_map]
      rfl
    rw [e0]
    refine mLc_all (z := ⟨enumZ 0 (ds.map PV.int), noCk⟩) _ (itEA_tup (var_ok rfl)) (fun _ => rfl) (fun x hx => ?_) (by
      show (enumZ 0 (ds.map PV.int)).length ≤ big
      rw [enumZ_len, List.length_map, hd]
      exact Nat.le_trans hlen (by decide))
    obtain ⟨y, hy, rfl⟩ := List.getElem_of_mem hx
    have hy : y < (enumZ 0 (ds.map PV.int)).length := hy
    obtain ⟨h2, e⟩ := enumZ_at hy
    have e2 : ((⟨enumZ 0 (ds.map PV.int), noCk⟩ : It0).xs)[y] = PV.tup [.int y, (ds.map PV.int)[y]] := e
    rw [e2, List.getElem_map]
    have hy2 : y < ds.length := by rw [List.length_map] at h2; exact h2
    have hb2 : y < bs.length := by omega
    have hq2 : y < qs.length := by omega
    have eb : bs[y]? = some bs[y] := List.getElem?_eq_getElem hb2
    have eq : qs[y]? = some qs[y] := List.getElem?_eq_getElem hq2
    have ed : ds[y]? = some ds[y] := List.getElem?_eq_getElem hy2
    have g := h.beds.all bs[y] (List.getElem_mem hb2)
    have fq := hqf qs[y] (List.getElem_mem hq2)
    generalize bs[y] = b at eb g
    generalize qs[y] = q at eq fq
    generalize ds[y] = d at ed
    refine ⟨[(3, .int y), (4, .int d)], rfl, rfl, fun acc => ⟨?_, rfl⟩⟩
    have ev : mvs bs ds qs ((y : Nat) : Int).toNat = d + mvQ b q := by
      unfold mvs
      rw [Int.toNat_natCast, eb, eq, ed]
      rfl
    show _ = Res.ok (PV.int (mvs bs ds qs ((y : Nat) : Int).toNat)) _
    rw [ev]
    refine add_ok (var_ok rfl) (fn0_ok (three_ok (var_ok rfl) (var_ok rfl) (at_ok (i := y) (x := .own k) (var_ok rfl) (var_ok rfl) (getQ_own ?_) (map_get eq))) (move_of_ok eb g fq _))
    rw [List.getElem?_append_left hkl, hk]
  unfold m_moved
  exact fnM_pure (ret_ok (call_ok (f := cTuple) (one_ok c1) rfl)) (bels_ints 0 _)
section
variable {many : Nat} {bs : List Bed} {ps : List (List Int)} (h : Wrld many bs ps) (ds : List Int) (hd : ds.length = bs.length) {fs : List Fq} (hl : fs.length = many) (hf : ∀ f ∈ fs, Fall f) (p : Pool)
include h hd hl hf
theorem borne_ok : m_borne [webPV many bs ps, .tup (ds.map .int), .tup (fs.map sh)] p = .ok (.own (p.length + 1)) (pp p (.lst ((flowQ bs ps ds fs many).1.map sh)) (.lst ((flowQ bs ps ds fs many).2.map sh))) := by
  unfold m_borne
  refine fnA_ret ?_
  show b_borne ⟨p.length, [some (webPV many bs ps), some (.tup (ds.map .int)), some (.tup (fs.map sh))]⟩ p = _
  unfold b_borne
  refine (seq_nx (expr_nx (fn0_ok (two_ok (var_ok rfl) (var_ok rfl)) (check_depths_ok h ds hd p)))).trans ?_
  refine (seq_nx (expr_nx (fn0_ok (two_ok (var_ok rfl) (var_ok rfl)) (check_rain_ok h hl hf p)))).trans ?_
  exact ret_ok (at_ok (i := 1) (x := .tup [.own p.length, .own (p.length + 1)]) (fn0_ok (three_ok (var_ok rfl) (var_ok rfl) (var_ok rfl)) (pflow_ok h ds hd hl hf p)) rfl rfl rfl)
theorem flow_end : (flowQ bs ps ds fs many).1.length = many ∧ (flowQ bs ps ds fs many).2.length = bs.length ∧ ∀ q ∈ (flowQ bs ps ds fs many).2, Fr q := by
  obtain ⟨D, _, _, F⟩ := flow_inv h ds hl hf many (Nat.le_refl _)
  exact ⟨F.l1, F.l2, fun q hq => (F.f2 q hq).2⟩
theorem step_ok : m_step [webPV many bs ps, .tup (ds.map .int), .tup (fs.map sh)] p = .ok (.tup ((behindQ bs ds (flowQ bs ps ds fs many).2).map .int)) p := by
  have fe := flow_end h ds hd hl hf
  unfold m_step
  refine fnM_cells (q := p) (r := [.lst ((flowQ bs ps ds fs many).1.map sh), .lst ((flowQ bs ps ds fs many).2.map sh)]) ?_ rfl (bels_ints 0 _)
  show b_step ⟨p.length, [some (webPV many bs ps), some (.tup (ds.map .int)), some (.tup (fs.map sh))]⟩ p = _
  unfold b_step
  refine (seq_nx (expr_nx (fn0_ok (two_ok (var_ok rfl) (var_ok rfl)) (check_depths_ok h ds hd p)))).trans ?_
  refine (seq_nx (expr_nx (fn0_ok (two_ok (var_ok rfl) (var_ok rfl)) (check_rain_ok h hl hf p)))).trans ?_
  exact ret_ok (fn0_ok (three_ok (var_ok rfl) (var_ok rfl) (at_ok (i := 1) (x := .tup [.own p.length, .own (p.length + 1)]) (fn0_ok (three_ok (var_ok rfl) (var_ok rfl) (var_ok rfl)) (pflow_ok h ds hd hl hf p)) rfl rfl rfl)) (moved_ok h ds hd _ fe.2.1 fe.2.2 (p.length + 1) _ (pp_get1 _ _)))
end

theorem kw_ok {f : FnM} {a b : M (List PV)} {xs ys : List PV} {en : En} {p p1 p2 : Pool} {r : Res PV} (h1 : a en p = .ok xs p1) (h2 : b en p1 = .ok ys p2) (hf : f (xs ++ ys) p2 = r) : mKw f a b en p = r := by
  unfold mKw
  rw [h1]
  dsimp only [Res.bind]
  rw [h2]
  exact hf
/-! ### a web whose places' two beds have the same marks -/
def bd0 : Bed := ⟨0, 0, (0, 1), (0, 1)⟩
def bAt (bs : List Bed) (j : Nat) : Bed := (bs[j]?).getD bd0
theorem bAt_get {bs : List Bed} {j : Nat} (h : j < bs.length) : bAt bs j = bs[j] := by
  unfold bAt
  rw [List.getElem?_eq_getElem h]
  rfl
theorem cnt_st (bs : List Bed) (j : Nat) : cnt bs j = ((bs.map Bed.st).filter fun s => decide (s = j)).length := by
  unfold cnt
  rw [List.filter_map, List.length_map]
  rfl
theorem mineA_up (j : Nat) : ∀ (bs : List Bed) (i : Nat), (mineA j i bs).Pairwise (· < ·) ∧ ∀ x ∈ mineA j i bs, i ≤ x
  | [], _ => ⟨List.Pairwise.nil, fun _ h => nomatch h⟩
  | b :: bs, i => by
    have ih := mineA_up j bs (i + 1)
    unfold mineA
    by_cases h : b.st = j
    · rw [if_pos h]
      refine ⟨List.pairwise_cons.mpr ⟨fun x hx => by have := ih.2 x hx; omega, ih.1⟩, fun x hx => ?_⟩
      rcases List.mem_cons.mp hx with rfl | hx
      · exact Nat.le_refl _
      · have := ih.2 x hx
        omega
    · rw [if_neg h]
      exact ⟨ih.1, fun x hx => by have := ih.2 x hx; omega⟩
theorem mineA_in (j : Nat) : ∀ (bs : List Bed) (i y : Nat) (h : y < bs.length), bs[y].st = j → i + y ∈ mineA j i bs
  | b :: bs, i, 0, _, e => by
    unfold mineA
    have e : b.st = j := e
    rw [if_pos e]
    exact List.mem_cons_self
  | b :: bs, i, y + 1, h, e => by
    have ih := mineA_in j bs (i + 1) y (by rw [List.length_cons] at h; omega) e
    rw [show i + 1 + y = i + (y + 1) from by omega] at ih
    unfold mineA
    split
    · exact List.mem_cons_of_mem _ ih
    · exact ih
theorem mine_in {bs : List Bed} {j y : Nat} (h : y < bs.length) (e : bs[y].st = j) : y ∈ mine bs j := by
  have := mineA_in j bs 0 y h e
  rw [Nat.zero_add] at this
  exact this
theorem mine_pair {bs : List Bed} {j i : Nat} (hc : cnt bs j ≤ 2) (h : i + 1 < bs.length) (e0 : (bs[i]'(by omega)).st = j) (e1 : bs[i + 1].st = j) : mine bs j = [i, i + 1] := by
  have m0 := mine_in (bs := bs) (by omega) e0
  have m1 := mine_in h e1
  have hl := mine_len bs j
  have hu := (mineA_up j bs 0).1
  have hu : (mine bs j).Pairwise (· < ·) := hu
  generalize mine bs j = l at m0 m1 hl hu
  match l, m0, m1, hl, hu with
  | [a], m0, m1, _, _ =>
    have z0 := List.mem_singleton.mp m0
    have z1 := List.mem_singleton.mp m1
    omega
  | [a, b], m0, m1, _, hu =>
    have hab : a < b := (List.pairwise_cons.mp hu).1 b List.mem_cons_self
    simp only [List.mem_cons, List.not_mem_nil, or_false] at m0 m1
    have ea : a = i := by omega
    have eb : b = i + 1 := by omega
    rw [ea, eb]
  | _ :: _ :: _ :: _, _, _, hl, _ =>
    simp only [List.length_cons] at hl
    omega
theorem order_mine (bs : List Bed) (ds : List Int) (j : Nat) (x : Nat) (h : x ∈ order bs ds j) : x ∈ mine bs j := by
  unfold order at h
  split at h
  · rename_i a b e
    rw [e]
    split at h
    · simp only [List.mem_cons, List.not_mem_nil, or_false] at h ⊢
      exact h.symm
    · exact h
  · exact h
/-- a place changes what its own beds bear alone -/
theorem place_far (bs : List Bed) (ps : List (List Int)) (ds : List Int) (j x : Nat) (st : St2) (h : x ∉ mine bs j) : (placeQ bs ps ds j st).2[x]? = st.2[x]? := by
  have ho : x ∉ order bs ds j := fun z => h (order_mine bs ds j x z)
  unfold placeQ
  split
  · rename_i a e
    rw [e] at ho
    show (st.2.set a _)[x]? = _
    rw [List.getElem?_set_ne fun z => ho (by rw [← z]; exact List.mem_cons_self)]
  · rename_i a b e
    rw [e] at ho
    show ((st.2.set a _).set b _)[x]? = _
    rw [List.getElem?_set_ne fun z => ho (by rw [← z]; exact List.mem_cons_of_mem _ List.mem_cons_self), List.getElem?_set_ne fun z => ho (by rw [← z]; exact List.mem_cons_self)]
  · rfl
theorem flow_far (bs : List Bed) (ps : List (List Int)) (ds : List Int) (fs : List Fq) {j x : Nat} (h : x ∈ mine bs j) : ∀ n, (flowQ bs ps ds fs (j + 1 + n)).2[x]? = (flowQ bs ps ds fs (j + 1)).2[x]?
  | 0 => rfl
  | n + 1 => by
    rw [← flow_far bs ps ds fs h n]
    show (placeQ bs ps ds (j + 1 + n) (flowQ bs ps ds fs (j + 1 + n))).2[x]? = _
    refine place_far bs ps ds _ x _ fun z => ?_
    obtain ⟨_, e1⟩ := mine_mem h
    obtain ⟨_, e2⟩ := mine_mem z
    omega
theorem pair_bears {many : Nat} {bs : List Bed} {ps : List (List Int)} (h : Wrld many bs ps) (ds : List Int) {fs : List Fq} (hl : fs.length = many) (hf : ∀ f ∈ fs, Fall f) {j a c : Nat} (hj : j < many) (ho : order bs ds j = [a, c]) (hac : a ≠ c) :
    ∃ (w : Fq) (r : List Int) (x0 x1 : Int), ps[j]? = some r ∧ r[0]? = some x0 ∧ r[1]? = some x1 ∧ 0 < r.sum ∧ 0 ≤ w.1 ∧ 0 < w.2 ∧ (flowQ bs ps ds fs many).2[a]? = some (qmul w (x0, r.sum)) ∧ (flowQ bs ps ds fs many).2[c]? = some (qmul w (x1, r.sum)) ∧ (flowQ bs ps ds fs j).1[j]? = some w := by
  obtain ⟨D, _, _, F⟩ := flow_inv h ds hl hf j (by omega)
  have P := flow_place h ds hl hf j hj
  have ma : a ∈ mine bs j := order_mine bs ds j a (by rw [ho]; exact List.mem_cons_self)
  have mc : c ∈ mine bs j := order_mine bs ds j c (by rw [ho]; exact List.mem_cons_of_mem _ List.mem_cons_self)
  unfold PlaceOK at P
  rw [ho] at P
  obtain ⟨⟨b, r, w, x0, u, s1⟩, b2, r2, w2, x1, u2, s2⟩ := P
  have er : r2 = r := Option.some.inj (s2.hp.symm.trans s1.hp)
  subst er
  have q1 := bedQ_eq s1
  have q2 := bedQ_eq s2
  have ew : w2 = w := by
    have e := s2.hw
    rw [q1] at e
    obtain ⟨ha, hst⟩ := mine_mem ma
    have g := h.beds.all bs[a] (List.getElem_mem ha)
    have eb : bs[a] = b := Option.some.inj ((List.getElem?_eq_getElem ha).symm.trans s1.hb)
    rw [eb] at g hst
    have := g.lt
    have e : ((flowQ bs ps ds fs j).1.set b.fin (qadd u (qmul w (x0, r2.sum))))[j]? = some w2 := e
    rw [List.getElem?_set_ne (by omega), s1.hw] at e
    exact (Option.some.inj e).symm
  subst ew
  have nn := (F.f1 w2 (List.mem_of_getElem? s1.hw)).nn
  have hl1 := s1.hl
  have hl2 : c < (flowQ bs ps ds fs j).2.length := by
    have := s2.hl
    rw [q1] at this
    rw [List.length_set] at this
    exact this
  have e1 : (flowQ bs ps ds fs (j + 1)).2 = ((flowQ bs ps ds fs j).2.set a (qmul w2 (x0, r2.sum))).set c (qmul w2 (x1, r2.sum)) := by
    show (placeQ bs ps ds j (flowQ bs ps ds fs j)).2 = _
    unfold placeQ
    rw [ho]
    dsimp only
    rw [q2, q1]
  have en : many = j + 1 + (many - (j + 1)) := by omega
  refine ⟨w2, r2, x0, x1, s1.hp, s1.ha, s2.ha, s1.S0, nn, s1.fw.pos, ?_, ?_, s1.hw⟩
  · rw [en, flow_far bs ps ds fs ma, e1, List.getElem?_set_ne (Ne.symm hac), List.getElem?_set_self hl1]
  · rw [en, flow_far bs ps ds fs mc, e1, List.getElem?_set_self (by rw [List.length_set]; exact hl2)]
theorem qmul_le {w : Fq} {x0 x1 S : Int} (h0 : 0 ≤ w.1) (hw : 0 < w.2) (hS : 0 < S) (h : x1 ≤ x0) : qlt (qmul w (x0, S)) (qmul w (x1, S)) = false := by
  have hB : 0 < w.2 * S := Int.mul_pos hw hS
  have g0 := gcd_pos (a := w.1 * x0) (b := w.2 * S) (by omega)
  have g1 := gcd_pos (a := w.1 * x1) (b := w.2 * S) (by omega)
  have a0 : (qmul w (x0, S)).1 * (Int.gcd (w.1 * x0) (w.2 * S) : Int) = w.1 * x0 := fdiv_gcd
  have b0 : (qmul w (x0, S)).2 * (Int.gcd (w.1 * x0) (w.2 * S) : Int) = w.2 * S := fdiv_gcd2
  have a1 : (qmul w (x1, S)).1 * (Int.gcd (w.1 * x1) (w.2 * S) : Int) = w.1 * x1 := fdiv_gcd
  have b1 : (qmul w (x1, S)).2 * (Int.gcd (w.1 * x1) (w.2 * S) : Int) = w.2 * S := fdiv_gcd2
  generalize (Int.gcd (w.1 * x0) (w.2 * S) : Int) = G0 at g0 a0 b0
  generalize (Int.gcd (w.1 * x1) (w.2 * S) : Int) = G1 at g1 a1 b1
  generalize qmul w (x0, S) = v0 at a0 b0 ⊢
  generalize qmul w (x1, S) = v1 at a1 b1 ⊢
  refine decide_eq_false fun z => ?_
  have z1 := Int.mul_lt_mul_of_pos_right z g0
  have z2 := Int.mul_lt_mul_of_pos_right z1 g1
  have e1 : v0.1 * v1.2 * G0 * G1 = (v0.1 * G0) * (v1.2 * G1) := by simp only [Int.mul_assoc, Int.mul_comm, Int.mul_left_comm]
  have e2 : v1.1 * v0.2 * G0 * G1 = (v1.1 * G1) * (v0.2 * G0) := by simp only [Int.mul_assoc, Int.mul_comm, Int.mul_left_comm]
  rw [e1, e2, a0, b1, a1, b0] at z2
  have x2 : w.1 * x1 ≤ w.1 * x0 := Int.mul_le_mul_of_nonneg_left h h0
  have x3 := Int.mul_le_mul_of_nonneg_right x2 (Int.le_of_lt hB)
  omega
theorem le_lt {v0 v1 h : Fq} (p0 : 0 < v0.2) (p1 : 0 < v1.2) (ph : 0 < h.2) (a : qlt v0 v1 = false) (b : qlt v0 h = true) : qlt v1 h = true := by
  have a : ¬ v0.1 * v1.2 < v1.1 * v0.2 := of_decide_eq_false a
  have b : v0.1 * h.2 < h.1 * v0.2 := of_decide_eq_true b
  refine decide_eq_true ?_
  rcases Int.lt_or_le (v1.1 * h.2) (h.1 * v1.2) with z | z
  · exact z
  · exfalso
    have x1 := Int.mul_le_mul_of_nonneg_right (by omega : v1.1 * v0.2 ≤ v0.1 * v1.2) (Int.le_of_lt ph)
    have x2 := Int.mul_lt_mul_of_pos_right b p1
    have x3 := Int.mul_le_mul_of_nonneg_right z (Int.le_of_lt p0)
    have e1 : v1.1 * v0.2 * h.2 = v1.1 * h.2 * v0.2 := Int.mul_right_comm _ _ _
    have e2 : v0.1 * v1.2 * h.2 = v0.1 * h.2 * v1.2 := Int.mul_right_comm _ _ _
    have e3 : h.1 * v0.2 * v1.2 = h.1 * v1.2 * v0.2 := Int.mul_right_comm _ _ _
    omega
theorem lt_le {v0 v1 l : Fq} (p0 : 0 < v0.2) (p1 : 0 < v1.2) (pl : 0 < l.2) (a : qlt v0 v1 = false) (b : qlt l v1 = true) : qlt l v0 = true := by
  have a : ¬ v0.1 * v1.2 < v1.1 * v0.2 := of_decide_eq_false a
  have b : l.1 * v1.2 < v1.1 * l.2 := of_decide_eq_true b
  refine decide_eq_true ?_
  rcases Int.lt_or_le (l.1 * v0.2) (v0.1 * l.2) with z | z
  · exact z
  · exfalso
    have x1 := Int.mul_le_mul_of_nonneg_right (by omega : v1.1 * v0.2 ≤ v0.1 * v1.2) (Int.le_of_lt pl)
    have x2 := Int.mul_lt_mul_of_pos_right b p0
    have x3 := Int.mul_le_mul_of_nonneg_right z (Int.le_of_lt p1)
    have e1 : l.1 * v1.2 * v0.2 = l.1 * v0.2 * v1.2 := Int.mul_right_comm _ _ _
    have e2 : v1.1 * l.2 * v0.2 = v1.1 * v0.2 * l.2 := Int.mul_right_comm _ _ _
    have e3 : v0.1 * v1.2 * l.2 = v0.1 * l.2 * v1.2 := Int.mul_right_comm _ _ _
    omega
theorem mv_mono {b b' : Bed} {v0 v1 : Fq} (el : b'.low = b.low) (eh : b'.high = b.high) (pl : 0 < b.low.2) (ph : 0 < b.high.2) (p0 : 0 < v0.2) (p1 : 0 < v1.2) (a : qlt v0 v1 = false) : mvQ b' v1 ≤ mvQ b v0 := by
  unfold mvQ
  rw [el, eh]
  have h1 := le_lt p0 p1 ph a
  have h2 := lt_le p0 p1 pl a
  cases e1 : qlt v0 b.high with
  | true =>
    rw [h1 e1, if_pos rfl, if_pos rfl]
    cases e2 : qlt b.low v1 with
    | true =>
      rw [h2 e2]
      decide
    | false =>
      rw [if_neg Bool.false_ne_true]
      split <;> decide
  | false =>
    rw [if_neg Bool.false_ne_true]
    split
    · split <;> decide
    · decide
theorem mv_range (b : Bed) (q : Fq) : -1 ≤ mvQ b q ∧ mvQ b q ≤ 1 := by
  unfold mvQ
  split
  · split <;> decide
  · decide

theorem itR2_ok {a : M (List PV)} {en : En} {p p1 : Pool} {n : Nat} (ha : a en p = .ok [.int 1, .int n] p1) (hn : n ≤ 100) : itR2 a en p = .ok ⟨rng 1 (n - 1), noCk⟩ p1 := by
  have h1 : -(2 ^ 62) ≤ (1 : Int) ∧ (1 : Int) < 2 ^ 62 ∧ -(2 ^ 62) ≤ (n : Int) ∧ (n : Int) < 2 ^ 62 := ⟨by decide, by decide, by omega, by omega⟩
  have e : itR2 a en p = if -(2 ^ 62) ≤ (1 : Int) ∧ (1 : Int) < 2 ^ 62 ∧ -(2 ^ 62) ≤ (n : Int) ∧ (n : Int) < 2 ^ 62 then .ok ⟨rng 1 ((n : Int) - 1).toNat, noCk⟩ p1 else .stuck := by
    simp only [itR2, ha, Res.bind]
  have e2 : ((n : Int) - 1).toNat = n - 1 := by omega
  rw [e, if_pos h1, e2]
theorem rng1_get (n j : Nat) (h : j < (rng 1 n).length) : (rng 1 n)[j] = .int ((j + 1 : Nat) : Int) := by
  have h' : j < n := by rw [rng_len] at h; exact h
  have e : (rng 1 n)[j]? = some (.int ((j + 1 : Nat) : Int)) := by
    unfold rng
    rw [List.getElem?_map, List.getElem?_range h']
    show some (PV.int (1 + (j : Int))) = _
    congr 2
    omega
  exact (List.getElem?_eq_some_iff.mp e).2
theorem src_self {p : Pool} {k : Nat} (h : Src p k) : ∃ s, IsSrc s ∧ p = p.set k s := by
  obtain ⟨s, e, hs⟩ := h
  refine ⟨s, hs, ?_⟩
  obtain ⟨hl, e2⟩ := List.getElem?_eq_some_iff.mp e
  rw [← e2]
  exact (List.set_getElem_self hl).symm
theorem behind_get {bs : List Bed} {ds : List Int} {qs : List Fq} {i : Nat} (h : i < bs.length) : ((behindQ bs ds qs)[i]?).getD 0 = mvs bs ds qs i := by
  unfold behindQ
  rw [List.getElem?_map, List.getElem?_range h]
  rfl
/-! ### other depths in the same order -/
theorem mLcO_inv {it : M It0} {g : T1} {tt : M Bool} {te : M PV} {vs : List Nat} {en : En} {p p1 : Pool} {z : It0} (I : List PV → List PV → Pool → Prop) (hi : it en p = .ok z p1) (hck : ∀ r acc q, q.length = p1.length → I r acc q → z.ck (q ++ [.lst acc]) = true)
    (h : ∀ x r acc q, q.length = p1.length → I (x :: r) acc q → ∃ as : As, g x = some as ∧ as.all (fun a => vs.elem a.1) = true ∧
      ((∃ p2, tt (En.sets ⟨p1.length + 1, wipeE en.sl vs⟩ as) (q ++ [.lst acc]) = .ok false (p2 ++ [.lst acc]) ∧ p2.length = p1.length ∧ I r acc p2) ∨
       (∃ p2 y p3, tt (En.sets ⟨p1.length + 1, wipeE en.sl vs⟩ as) (q ++ [.lst acc]) = .ok true (p2 ++ [.lst acc]) ∧ te (En.sets ⟨p1.length + 1, wipeE en.sl vs⟩ as) (p2 ++ [.lst acc]) = .ok y (p3 ++ [.lst acc]) ∧ p3.length = p1.length ∧ bel p1.length y = true ∧ I r (acc ++ [y]) p3)))
    (hl : z.xs.length ≤ big) (h0 : I z.xs [] p1) : ∃ acc p', mLcO it g tt te vs en p = .ok (.own p1.length) (p' ++ [.lst acc]) ∧ p'.length = p1.length ∧ I [] acc p' := by
  obtain ⟨acc, p', e, hp, hI⟩ := loopC_inv I hck h z.xs [] p1 rfl (by rw [List.length_nil]; omega) h0
  refine ⟨acc, p', ?_, hp, hI⟩
  unfold mLcO
  rw [hi]
  dsimp only [Res.bind]
  rw [e]
def sameIn : S := (sIf (mB (mBin pEq (mBin pIx (mBin pIx (mVar 4) (mVar 5)) (mC (.int 0))) (mBin pIx (mBin pIx (mVar 4) (mBin pSub (mVar 5) (mC (.int 1)))) (mC (.int 0)))))
    (sSeq (sSet (mBin pAdd (mC (.int 1)) (mFn m_law_next [] (mCons (mVar 0) (mCons (mBin pIx (mLst (mCons (mC (.int 2)) (mCons (mBin pPow (mC (.int 10)) (mC (.int 6))) mNil))) (mFn m_law_next [] (mCons (mVar 0) (mCons (mC (.int 2)) mNil)))) mNil)))) 6)
    (sSeq (sPar 7 8 (mCons (mBin pIx (mVar 2) (mVar 5)) (mCons (mBin pIx (mVar 2) (mBin pSub (mVar 5) (mC (.int 1)))) mNil)))
    (sSeq (sSet (mBin pSub (mCall cInt (mCons (mBin pGt (mVar 7) (mVar 8)) mNil)) (mCall cInt (mCons (mBin pLt (mVar 7) (mVar 8)) mNil))) 9)
    (sSeq (sIx (mVar 3) (mVar 5) (mBin pAdd (mBin pIx (mVar 3) (mBin pSub (mVar 5) (mC (.int 1)))) (mBin pMul (mVar 9) (mVar 6))))
    (sIf (mB (mBin pEq (mVar 9) (mC (.int 0))))
    (sIx (mVar 3) (mVar 5) (mBin pSub (mBin pIx (mVar 3) (mBin pSub (mVar 5) (mC (.int 1)))) (mBin pIx (mLst (mCons (mC (.int 0)) (mCons (mVar 6) mNil))) (mFn m_law_next [] (mCons (mVar 0) (mCons (mC (.int 2)) mNil))))))
    sNop)))))
    sNop)
theorem par_nx {i j : Nat} {a : M (List PV)} {x y : PV} {en : En} {p p1 : Pool} (h : a en p = .ok [x, y] p1) : sPar i j a en p = .next ((en.set i x).set j y) p1 := by
  unfold sPar
  rw [h]
  rfl
/-- unlike just as the old ones are -/
def Alike (ds es : List Int) (i : Nat) : Prop := (ds[i]?).getD 0 < (ds[i + 1]?).getD 0 ↔ (es[i]?).getD 0 < (es[i + 1]?).getD 0
theorem same_step (p : Pool) (k : Nat) (hl : k < p.length) (W : Option PV) (bs : List Bed) (ds es : List Int) (hd : ds.length = bs.length) (he : es.length = bs.length) (j : Nat) (hj : j + 1 < bs.length) (s0 : Cell) (h0 : IsSrc s0) (x6 x7 x8 x9 x10 : Option PV) (B : Nat) (hB : B ≤ p.length) :
    ∃ (s : Cell) (v : Int) (y6 y7 y8 y9 : Option PV) (es' : List Int), sameIn ⟨B, [some (.own k), W, some (.tup (ds.map .int)), some (.own p.length), some (.lst (bs.map Bed.pv)), some (.int ((j + 1 : Nat) : Int)), x6, x7, x8, x9, x10]⟩ (two p k (.lst (es.map .int)) s0)
      = .next ⟨B, [some (.own k), W, some (.tup (ds.map .int)), some (.own p.length), some (.lst (bs.map Bed.pv)), some (.int ((j + 1 : Nat) : Int)), y6, y7, y8, y9, x10]⟩ (two p k (.lst (es'.map .int)) s) ∧ IsSrc s ∧ (es' = es ∨ es' = es.set (j + 1) v) ∧ ((bAt bs j).st = (bAt bs (j + 1)).st → Alike ds es' j) := by
  have eb0 : (bs.map Bed.pv)[j]? = some (bAt bs j).pv := by rw [List.getElem?_map, List.getElem?_eq_getElem (by omega), bAt_get (by omega)]; rfl
  have eb1 : (bs.map Bed.pv)[j + 1]? = some (bAt bs (j + 1)).pv := by rw [List.getElem?_map, List.getElem?_eq_getElem hj, bAt_get hj]; rfl
  have ed0 : (ds.map PV.int)[j]? = some (.int ((ds[j]?).getD 0)) := by rw [List.getElem?_map, List.getElem?_eq_getElem (by omega)]; rfl
  have ed1 : (ds.map PV.int)[j + 1]? = some (.int ((ds[j + 1]?).getD 0)) := by rw [List.getElem?_map, List.getElem?_eq_getElem (by omega)]; rfl
  have cs : ∀ (z6 z7 z8 z9 : Option PV) P, mBin pSub (mVar 5) (mC (.int 1)) ⟨B, [some (.own k), W, some (.tup (ds.map .int)), some (.own p.length), some (.lst (bs.map Bed.pv)), some (.int ((j + 1 : Nat) : Int)), z6, z7, z8, z9, x10]⟩ P = .ok (.int (j : Int)) P := fun _ _ _ _ P => by
    rw [sub_ok (x := ((j + 1 : Nat) : Int)) (y := 1) (var_ok rfl) rfl]
    congr 2
    omega
  have t := b_ok (eq_ok (x := ((bAt bs (j + 1)).st : Int)) (y := ((bAt bs j).st : Int)) (en := ⟨B, [some (.own k), W, some (.tup (ds.map .int)), some (.own p.length), some (.lst (bs.map Bed.pv)), some (.int ((j + 1 : Nat) : Int)), x6, x7, x8, x9, x10]⟩) (p := two p k (.lst (es.map .int)) s0)
    (at_ok (i := 0) (x := (bAt bs (j + 1)).pv) (at_ok (i := j + 1) (x := .lst (bs.map Bed.pv)) (a := mVar 4) (b := mVar 5) (var_ok rfl) (var_ok rfl) rfl eb1) (b := mC (.int 0)) rfl rfl rfl)
    (at_ok (i := 0) (x := (bAt bs j).pv) (at_ok (i := j) (x := .lst (bs.map Bed.pv)) (a := mVar 4) (b := mBin pSub (mVar 5) (mC (.int 1))) (var_ok rfl) (cs _ _ _ _ _) rfl eb0) (b := mC (.int 0)) rfl rfl rfl))
  by_cases hs : (bAt bs j).st = (bAt bs (j + 1)).st
  · rw [decide_eq_true (by omega)] at t
    obtain ⟨d1, s1, e1, h1, a1, b1⟩ := next_set (p ++ [.lst (es.map .int)]) k s0 2 (two_lt hl _) h0 (by decide) (by decide)
    obtain ⟨m, hm, em⟩ : ∃ m : Int, (0 < m ∧ m ≤ 1000000) ∧ atI [PV.int 2, .int (10 ^ (6 : Int).toNat)] d1 = some (.int m) := by
      obtain ⟨y, hy, ey⟩ := atI_mem [PV.int 2, .int (10 ^ (6 : Int).toNat)] d1 a1 b1
      simp only [List.mem_cons, List.not_mem_nil, or_false] at hy
      rcases hy with rfl | rfl
      · exact ⟨2, ⟨by decide, by decide⟩, ey⟩
      · exact ⟨10 ^ (6 : Int).toNat, ⟨by decide, by decide⟩, ey⟩
    obtain ⟨d2, s2, e2, h2, a2, b2⟩ := next_set (p ++ [.lst (es.map .int)]) k s1 m (two_lt hl _) h1 hm.1 (Int.lt_of_le_of_lt hm.2 (by decide))
    obtain ⟨ap, hap, hap0, hap1⟩ : ∃ ap : Int, 1 + d2 = ap ∧ 0 < ap ∧ ap ≤ 1000000 := ⟨_, rfl, by omega, by omega⟩
    have c6 : mBin pAdd (mC (.int 1)) (mFn m_law_next [] (mCons (mVar 0) (mCons (mBin pIx (mLst (mCons (mC (.int 2)) (mCons (mBin pPow (mC (.int 10)) (mC (.int 6))) mNil))) (mFn m_law_next [] (mCons (mVar 0) (mCons (mC (.int 2)) mNil)))) mNil)))
        ⟨B, [some (.own k), W, some (.tup (ds.map .int)), some (.own p.length), some (.lst (bs.map Bed.pv)), some (.int ((j + 1 : Nat) : Int)), x6, x7, x8, x9, x10]⟩ (two p k (.lst (es.map .int)) s0) = .ok (.int ap) (two p k (.lst (es.map .int)) s2) := by
      rw [← hap]
      exact add_ok (a := mC (.int 1)) rfl (fn0_ok (two_ok (var_ok rfl) (bin_at (lst_ok (two_ok (a := mC (.int 2)) rfl (b := mBin pPow (mC (.int 10)) (mC (.int 6))) rfl)) (fn0_ok (two_ok (var_ok rfl) (b := mC (.int 2)) rfl) e1) em)) e2)
    have f6 := set_nx (i := 6) c6
    have f7 := par_nx (i := 7) (j := 8) (two_ok (en := ⟨B, [some (.own k), W, some (.tup (ds.map .int)), some (.own p.length), some (.lst (bs.map Bed.pv)), some (.int ((j + 1 : Nat) : Int)), some (.int ap), x7, x8, x9, x10]⟩) (p := two p k (.lst (es.map .int)) s2)
      (at_ok (i := j + 1) (x := .tup (ds.map .int)) (a := mVar 2) (b := mVar 5) (var_ok rfl) (var_ok rfl) rfl ed1) (at_ok (i := j) (x := .tup (ds.map .int)) (a := mVar 2) (b := mBin pSub (mVar 5) (mC (.int 1))) (var_ok rfl) (cs _ _ _ _ _) rfl ed0))
    generalize hA : (ds[j]?).getD 0 = A at f7
    generalize hD : (ds[j + 1]?).getD 0 = D at f7
    obtain ⟨w, hw⟩ : ∃ w : Int, (if decide (A < D) = true then 1 else 0) - (if decide (D < A) = true then 1 else 0) = w := ⟨_, rfl⟩
    have hw3 : (A < D ∧ w = 1) ∨ (D < A ∧ w = -1) ∨ (A = D ∧ w = 0) := by
      rcases Int.lt_trichotomy A D with z | z | z
      · refine .inl ⟨z, ?_⟩
        rw [← hw, decide_eq_true z, decide_eq_false (by omega)]
        rfl
      · refine .inr (.inr ⟨z, ?_⟩)
        rw [← hw, decide_eq_false (by omega), decide_eq_false (by omega)]
        rfl
      · refine .inr (.inl ⟨z, ?_⟩)
        rw [← hw, decide_eq_false (by omega), decide_eq_true z]
        rfl
    have c9 : mBin pSub (mCall cInt (mCons (mBin pGt (mVar 7) (mVar 8)) mNil)) (mCall cInt (mCons (mBin pLt (mVar 7) (mVar 8)) mNil))
        ⟨B, [some (.own k), W, some (.tup (ds.map .int)), some (.own p.length), some (.lst (bs.map Bed.pv)), some (.int ((j + 1 : Nat) : Int)), some (.int ap), some (.int D), some (.int A), x9, x10]⟩ (two p k (.lst (es.map .int)) s2) = .ok (.int w) (two p k (.lst (es.map .int)) s2) := by
      rw [← hw]
      exact sub_ok (call_ok (f := cInt) (one_ok (gt_ok (x := D) (y := A) (var_ok rfl) (var_ok rfl))) rfl) (call_ok (f := cInt) (one_ok (lt_ok (x := D) (y := A) (var_ok rfl) (var_ok rfl))) rfl)
    have f9 := set_nx (i := 9) c9
    have g3 := two_get hl (.lst (es.map .int)) s2
    have ee0 : (es.map PV.int)[j]? = some (.int ((es[j]?).getD 0)) := by rw [List.getElem?_map, List.getElem?_eq_getElem (by omega)]; rfl
    have hmul : pMul (.int w) (.int ap) (two p k (.lst (es.map .int)) s2) = .ok (.int (w * ap)) (two p k (.lst (es.map .int)) s2) := by
      have ok : okMul w ap = true := decide_eq_true (.inl (.inl (by omega)))
      show (if okMul w ap = true then Res.ok (PV.int (w * ap)) (two p k (.lst (es.map .int)) s2) else Res.stuck) = _
      rw [if_pos ok]
    have cv : mBin pAdd (mBin pIx (mVar 3) (mBin pSub (mVar 5) (mC (.int 1)))) (mBin pMul (mVar 9) (mVar 6))
        ⟨B, [some (.own k), W, some (.tup (ds.map .int)), some (.own p.length), some (.lst (bs.map Bed.pv)), some (.int ((j + 1 : Nat) : Int)), some (.int ap), some (.int D), some (.int A), some (.int w), x10]⟩ (two p k (.lst (es.map .int)) s2) = .ok (.int ((es[j]?).getD 0 + w * ap)) (two p k (.lst (es.map .int)) s2) :=
      add_ok (at_ok (i := j) (x := .own p.length) (var_ok rfl) (cs _ _ _ _ _) (getQ_own g3) ee0) (bin_ok (var_ok rfl) (var_ok rfl) hmul)
    have fx := ix_nx (o := mVar 3) (i := mVar 5) (k := p.length) (n := j + 1) cv (var_ok rfl) (var_ok rfl) g3 (by rw [List.length_map]; omega) (may_le hB)
    rw [two_set hl, ← List.map_set] at fx
    have g4 := two_get hl (.lst ((es.set (j + 1) ((es[j]?).getD 0 + w * ap)).map .int)) s2
    have n0 : ∀ v : Int, ((es.set (j + 1) v)[j]?).getD 0 = (es[j]?).getD 0 := fun v => by rw [List.getElem?_set_ne (by omega)]
    have n1 : ∀ v : Int, ((es.set (j + 1) v)[j + 1]?).getD 0 = v := fun v => by rw [List.getElem?_set_self (by omega)]; rfl
    have t9 := b_ok (eq_ok (x := w) (y := 0) (a := mVar 9) (b := mC (.int 0)) (en := ⟨B, [some (.own k), W, some (.tup (ds.map .int)), some (.own p.length), some (.lst (bs.map Bed.pv)), some (.int ((j + 1 : Nat) : Int)), some (.int ap), some (.int D), some (.int A), some (.int w), x10]⟩) (p := two p k (.lst ((es.set (j + 1) ((es[j]?).getD 0 + w * ap)).map .int)) s2) (var_ok rfl) rfl)
    by_cases hw0 : w = 0
    · rw [decide_eq_true hw0] at t9
      obtain ⟨d3, s3, e3, h3, a3, b3⟩ := next_set (p ++ [.lst ((es.set (j + 1) ((es[j]?).getD 0 + w * ap)).map .int)]) k s2 2 (two_lt hl _) h2 (by decide) (by decide)
      obtain ⟨q, hq, eq⟩ : ∃ q : Int, 0 ≤ q ∧ atI [PV.int 0, .int ap] d3 = some (.int q) := by
        obtain ⟨y, hy, ey⟩ := atI_mem [PV.int 0, .int ap] d3 a3 b3
        simp only [List.mem_cons, List.not_mem_nil, or_false] at hy
        rcases hy with rfl | rfl
        · exact ⟨0, by decide, ey⟩
        · exact ⟨ap, by omega, ey⟩
      have ee2 : ((es.set (j + 1) ((es[j]?).getD 0 + w * ap)).map PV.int)[j]? = some (.int ((es[j]?).getD 0)) := by rw [List.getElem?_map, List.getElem?_set_ne (by omega), List.getElem?_eq_getElem (by omega)]; rfl
      have cv2 : mBin pSub (mBin pIx (mVar 3) (mBin pSub (mVar 5) (mC (.int 1)))) (mBin pIx (mLst (mCons (mC (.int 0)) (mCons (mVar 6) mNil))) (mFn m_law_next [] (mCons (mVar 0) (mCons (mC (.int 2)) mNil))))
          ⟨B, [some (.own k), W, some (.tup (ds.map .int)), some (.own p.length), some (.lst (bs.map Bed.pv)), some (.int ((j + 1 : Nat) : Int)), some (.int ap), some (.int D), some (.int A), some (.int w), x10]⟩ (two p k (.lst ((es.set (j + 1) ((es[j]?).getD 0 + w * ap)).map .int)) s2) = .ok (.int ((es[j]?).getD 0 - q)) (two p k (.lst ((es.set (j + 1) ((es[j]?).getD 0 + w * ap)).map .int)) s3) :=
        sub_ok (at_ok (i := j) (x := .own p.length) (var_ok rfl) (cs _ _ _ _ _) (getQ_own g4) ee2) (bin_at (lst_ok (two_ok (a := mC (.int 0)) rfl (var_ok rfl))) (fn0_ok (two_ok (var_ok rfl) (b := mC (.int 2)) rfl) e3) eq)
      have g5 := two_get hl (.lst ((es.set (j + 1) ((es[j]?).getD 0 + w * ap)).map .int)) s3
      have fy := ix_nx (o := mVar 3) (i := mVar 5) (k := p.length) (n := j + 1) cv2 (var_ok rfl) (var_ok rfl) g5 (by rw [List.length_map, List.length_set]; omega) (may_le hB)
      rw [two_set hl, ← List.map_set, List.set_set] at fy
      refine ⟨s3, (es[j]?).getD 0 - q, some (.int ap), some (.int D), some (.int A), some (.int w), es.set (j + 1) ((es[j]?).getD 0 - q), ?_, h3, .inr rfl, fun _ => ?_⟩
      · unfold sameIn
        exact (if_t t).trans ((seq_nx f6).trans ((seq_nx f7).trans ((seq_nx f9).trans ((seq_nx fx).trans ((if_t t9).trans fy)))))
      · unfold Alike
        rw [n0, n1, hA, hD]
        constructor
        · intro z
          omega
        · intro z
          omega
    · rw [decide_eq_false hw0] at t9
      refine ⟨s2, (es[j]?).getD 0 + w * ap, some (.int ap), some (.int D), some (.int A), some (.int w), es.set (j + 1) ((es[j]?).getD 0 + w * ap), ?_, h2, .inr rfl, fun _ => ?_⟩
      · unfold sameIn
        exact (if_t t).trans ((seq_nx f6).trans ((seq_nx f7).trans ((seq_nx f9).trans ((seq_nx fx).trans ((if_f t9).trans rfl)))))
      · unfold Alike
        rw [n0, n1, hA, hD]
        rcases hw3 with ⟨z, e⟩ | ⟨z, e⟩ | ⟨z, e⟩
        · subst e
          constructor
          · intro _
            omega
          · intro _
            exact z
        · subst e
          constructor
          · intro z2
            omega
          · intro z2
            omega
        · exact absurd e hw0
  · rw [decide_eq_false (by omega)] at t
    refine ⟨s0, 0, x6, x7, x8, x9, es, ?_, h0, .inl rfl, fun z => absurd z hs⟩
    unfold sameIn
    exact (if_f t).trans rfl

theorem same_ok (p : Pool) (k : Nat) (hl : k < p.length) (s0 : Cell) (h0 : IsSrc s0) {many : Nat} {bs : List Bed} {ps : List (List Int)} (h : Wrld many bs ps) (ds : List Int) (hd : ds.length = bs.length) :
    ∃ (s : Cell) (es : List Int), m_law_same_order [.own k, wPV many bs ps, .tup (ds.map .int)] (p.set k s0) = .ok (.tup (es.map .int)) (p.set k s) ∧ IsSrc s ∧ es.length = bs.length ∧ ∀ i, i + 1 < bs.length → (bAt bs i).st = (bAt bs (i + 1)).st → Alike ds es i := by
  have hlen := h.beds.len
  obtain ⟨acc, p', e1, hp', s1, es0, rfl, h1, rfl, hl0⟩ := mLcO_inv (it := itS (mVar 2)) (g := tgN 10) (tt := mYes) (te := mBin pSub (mFn m_law_next [] (mCons (mVar 0) (mCons (mBin pPow (mC (.int 10)) (mC (.int 9))) mNil))) (mBin pPow (mC (.int 10)) (mC (.int 8)))) (vs := [10])
    (en := ⟨p.length, [some (.own k), some (wPV many bs ps), some (.tup (ds.map .int)), none, none, none, none, none, none, none, none]⟩) (p := p.set k s0)
    (fun rest acc q => ∃ (s : Cell) (r : List Int), q = p.set k s ∧ IsSrc s ∧ acc = r.map .int ∧ r.length + rest.length = bs.length)
    (itS_tup (var_ok rfl)) (fun _ _ _ _ _ => rfl) (fun x rest acc q hq ⟨s, r, he, hS, hacc, hr⟩ => by
      subst he
      subst hacc
      obtain ⟨d, s1, e1, h1, _⟩ := next_set (p ++ [.lst (r.map .int)]) k s (10 ^ (9 : Int).toNat) (two_lt hl _) hS (by decide) (by decide)
      have fa : ∀ s, p.set k s ++ [Cell.lst (r.map PV.int)] = (p ++ [Cell.lst (r.map PV.int)]).set k s := fun s => set_app hl _ _
      refine ⟨[(10, x)], rfl, rfl, .inr ⟨p.set k s, .int (d - 10 ^ (8 : Int).toNat), p.set k s1, rfl, ?_, by rw [List.length_set, List.length_set], rfl, s1, r ++ [d - 10 ^ (8 : Int).toNat], rfl, h1, by rw [List.map_append]; rfl, ?_⟩⟩
      · rw [fa, fa]
        exact sub_ok (fn0_ok (two_ok (var_ok rfl) (b := mBin pPow (mC (.int 10)) (mC (.int 9))) rfl) e1) (b := mBin pPow (mC (.int 10)) (mC (.int 8))) rfl
      · rw [List.length_append, List.length_singleton]
        rw [List.length_cons] at hr
        omega) (by
      show (ds.map PV.int).length ≤ big
      rw [List.length_map, hd]
      exact Nat.le_trans hlen (by decide)) ⟨s0, [], rfl, h0, rfl, by
      show 0 + (ds.map PV.int).length = bs.length
      rw [List.length_map, hd, Nat.zero_add]⟩
  have hl0 : es0.length = bs.length := by simpa using hl0
  rw [← two_eq hl, List.length_set] at e1
  have en3 : ∀ P, mCall cLen (mCons (mVar 4) mNil) ⟨p.length, [some (.own k), some (wPV many bs ps), some (.tup (ds.map .int)), some (.own p.length), some (.lst (bs.map Bed.pv)), none, none, none, none, none, none]⟩ P = .ok (.int bs.length) P := fun P => by
    rw [len_ok (x := .lst (bs.map Bed.pv)) (var_ok rfl) rfl, List.length_map]
  obtain ⟨en2, p2, e, s, es, y5, y6, y7, y8, y9, rfl, rfl, hS, hel, hA⟩ := sFor_idx (it := itR2 (mCons (mC (.int 1)) (mCons (mCall cLen (mCons (mVar 4) mNil)) mNil))) (g := tgN 5) (body := sameIn)
    (en := ⟨p.length, [some (.own k), some (wPV many bs ps), some (.tup (ds.map .int)), some (.own p.length), some (.lst (bs.map Bed.pv)), none, none, none, none, none, none]⟩) (p := two p k (.lst (es0.map .int)) s1)
    (fun j en q => ∃ (s : Cell) (es : List Int) (y5 y6 y7 y8 y9 : Option PV), en = ⟨p.length, [some (.own k), some (wPV many bs ps), some (.tup (ds.map .int)), some (.own p.length), some (.lst (bs.map Bed.pv)), y5, y6, y7, y8, y9, none]⟩ ∧ q = two p k (.lst (es.map .int)) s ∧ IsSrc s ∧ es.length = bs.length ∧ ∀ i, i < j → (bAt bs i).st = (bAt bs (i + 1)).st → Alike ds es i)
    (itR2_ok (two_ok (a := mC (.int 1)) rfl (en3 _)) (by omega)) (fun _ _ _ _ => rfl) (fun j hj en q ⟨s, es, y5, y6, y7, y8, y9, he, hq, hS, hel, hA⟩ => by
      subst he
      subst hq
      have hj : j < (rng 1 (bs.length - 1)).length := hj
      have hj2 : j + 1 < bs.length := by
        rw [rng_len] at hj
        omega
      have e : ((⟨rng 1 (bs.length - 1), noCk⟩ : It0).xs)[j] = PV.int ((j + 1 : Nat) : Int) := rng1_get _ _ hj
      rw [e]
      obtain ⟨s', v, z6, z7, z8, z9, es', e2, hS', hes, hA'⟩ := same_step p k hl (some (wPV many bs ps)) bs ds es hd hel j hj2 s hS y6 y7 y8 y9 none p.length (Nat.le_refl _)
      refine ⟨[(5, .int ((j + 1 : Nat) : Int))], _, _, rfl, e2, s', es', _, _, _, _, _, rfl, rfl, hS', ?_, fun i hi hst => ?_⟩
      · rcases hes with rfl | rfl
        · exact hel
        · rw [List.length_set]
          exact hel
      · by_cases hij : i = j
        · subst hij
          exact hA' hst
        · have a := hA i (by omega) hst
          rcases hes with rfl | rfl
          · exact a
          · unfold Alike at a ⊢
            rw [List.getElem?_set_ne (by omega), List.getElem?_set_ne (by omega)]
            exact a) ⟨s1, es0, none, none, none, none, none, rfl, rfl, h1, hl0, fun i hi => absurd hi (Nat.not_lt_zero i)⟩
  have e1' : (rng 1 (bs.length - 1)).length = bs.length - 1 := rng_len _ _
  refine ⟨s, es, ?_, hS, hel, fun i hi hst => hA i (by
    show i < (rng 1 (bs.length - 1)).length
    rw [e1']
    omega) hst⟩
  unfold m_law_same_order
  refine fnM_cells (q := p.set k s) (r := [.lst (es.map .int)]) ?_ (by rw [List.length_set, List.length_set]) (bels_ints 0 es)
  rw [List.length_set, ← two_eq hl]
  show b_law_same_order ⟨p.length, [some (.own k), some (wPV many bs ps), some (.tup (ds.map .int)), none, none, none, none, none, none, none, none]⟩ _ = _
  unfold b_law_same_order
  refine (seq_nx (set_nx e1)).trans ?_
  refine (seq_nx (set_nx (at_ok (i := 1) (x := wPV many bs ps) (y := .lst (bs.map Bed.pv)) (var_ok rfl) rfl rfl rfl))).trans ?_
  refine (seq_nx e).trans ?_
  refine ret_ok (call_ok (one_ok (var_ok rfl)) ?_)
  have g : getR (two p k (.lst (es.map .int)) s) (.own p.length) = some (es.map .int) := by
    show (match (two p k (.lst (es.map .int)) s)[p.length]? with | some (.lst xs) => some xs | _ => none) = _
    rw [two_get hl]
  show (match getR (two p k (.lst (es.map .int)) s) (.own p.length) with | some ys => Res.ok (PV.tup ys) (two p k (.lst (es.map .int)) s) | none => Res.stuck) = _
  rw [g]
/-! ### the order alone -/
theorem mine_two {many : Nat} {bs : List Bed} (hB : Beds many bs) {j a b : Nat} (e : mine bs j = [a, b]) : b = a + 1 ∧ b < bs.length ∧ (bAt bs a).st = j ∧ (bAt bs (a + 1)).st = j := by
  obtain ⟨ha, sa⟩ := mine_mem (bs := bs) (j := j) (x := a) (by rw [e]; exact List.mem_cons_self)
  obtain ⟨hb, sb⟩ := mine_mem (bs := bs) (j := j) (x := b) (by rw [e]; exact List.mem_cons_of_mem _ List.mem_cons_self)
  have hu : (mine bs j).Pairwise (· < ·) := (mineA_up j bs 0).1
  rw [e] at hu
  have hab : a < b := (List.pairwise_cons.mp hu).1 b List.mem_cons_self
  have up := List.pairwise_iff_getElem.mp hB.up
  have s1 : (bs[a + 1]'(by omega)).st = j := by
    have u1 := up a (a + 1) ha (by omega) (by omega)
    by_cases z : a + 1 = b
    · subst z
      exact sb
    · have u2 := up (a + 1) b (by omega) hb (by omega)
      omega
  have m := mine_pair (hB.two j) (by omega : a + 1 < bs.length) sa s1
  rw [m] at e
  have eb : a + 1 = b := (List.cons.inj (List.cons.inj e).2).1
  refine ⟨eb.symm, hb, ?_, ?_⟩
  · rw [bAt_get ha]
    exact sa
  · rw [bAt_get (by omega)]
    exact s1
theorem order_alike {many : Nat} {bs : List Bed} (hB : Beds many bs) {ds es : List Int} (h : ∀ i, i + 1 < bs.length → (bAt bs i).st = (bAt bs (i + 1)).st → Alike ds es i) (j : Nat) : order bs ds j = order bs es j := by
  rcases order_cases bs ds j (hB.two j) with ⟨e1, e2⟩ | ⟨a, e1, e2⟩ | ⟨a, b, e1, ho⟩
  · rw [e2]
    unfold order
    rw [e1]
  · rw [e2]
    unfold order
    rw [e1]
  · obtain ⟨hb, hlt, s0, s1⟩ := mine_two hB e1
    subst hb
    have A := h a hlt (by rw [s0, s1])
    unfold Alike at A
    unfold order
    rw [e1]
    dsimp only
    by_cases z : (ds[a]?).getD 0 < (ds[a + 1]?).getD 0
    · rw [if_pos z, if_pos (A.mp z)]
    · rw [if_neg z, if_neg fun y => z (A.mpr y)]
theorem flow_alike {many : Nat} {bs : List Bed} (hB : Beds many bs) (ps : List (List Int)) {ds es : List Int} (fs : List Fq) (h : ∀ i, i + 1 < bs.length → (bAt bs i).st = (bAt bs (i + 1)).st → Alike ds es i) : ∀ n, flowQ bs ps ds fs n = flowQ bs ps es fs n
  | 0 => rfl
  | n + 1 => by
    show placeQ bs ps ds n (flowQ bs ps ds fs n) = placeQ bs ps es n (flowQ bs ps es fs n)
    rw [flow_alike hB ps fs h n]
    unfold placeQ
    rw [order_alike hB h n]
/-! ### steps -/
def stG : PV → PV := fun x => match x with
  | .tup [.int a, .int b] => .int (b - a)
  | _ => .non
theorem zip_range (n : Nat) (f g : Nat → Int) : zipZ ((List.range n).map fun i => PV.int (f i)) ((List.range n).map fun i => PV.int (g i)) = (List.range n).map fun i => PV.tup [.int (f i), .int (g i)] := by
  have h : ∀ l : List Nat, zipZ (l.map fun i => PV.int (f i)) (l.map fun i => PV.int (g i)) = l.map fun i => PV.tup [.int (f i), .int (g i)] := fun l => by
    induction l with
    | nil => rfl
    | cons x l ih =>
      rw [List.map_cons, List.map_cons, List.map_cons, ← ih]
      rfl
  exact h _
theorem ints_range {es : List Int} {n : Nat} (h : es.length = n) : es.map PV.int = (List.range n).map fun i => PV.int ((es[i]?).getD 0) := by
  refine List.ext_getElem (by rw [List.length_map, List.length_map, List.length_range, h]) fun i h1 h2 => ?_
  have h3 : i < es.length := by rw [List.length_map] at h1; exact h1
  rw [List.getElem_map, List.getElem_map, List.getElem_range, List.getElem?_eq_getElem h3]
  rfl
def stepsL (n : Nat) (ds es : List Int) : List Int := (List.range n).map fun i => (es[i]?).getD 0 - (ds[i]?).getD 0
theorem steps_ok (n : Nat) (hn : n ≤ 12) (ds es : List Int) (hd : ds.length = n) (he : es.length = n) (p : Pool) : m_law_steps_of [.tup (ds.map .int), .tup (es.map .int)] p = .ok (.lst ((stepsL n ds es).map .int)) p := by
  have ez : zipZ (ds.map PV.int) (es.map PV.int) = (List.range n).map fun i => PV.tup [.int ((ds[i]?).getD 0), .int ((es[i]?).getD 0)] := by
    rw [ints_range hd, ints_range he, zip_range]
  have c1 : mLc (itZU (mCons (mVar 0) (mCons (mVar 1) mNil))) (tgT 2 (tgCons (tgN 2) (tgCons (tgN 3) tgNil))) mYes (mBin pSub (mVar 3) (mVar 2)) [2, 3] ⟨p.length, [some (.tup (ds.map .int)), some (.tup (es.map .int)), none, none]⟩ p = .ok (.lst ((zipZ (ds.map PV.int) (es.map PV.int)).map stG)) p :=
    mLc_all (z := ⟨zipZ (ds.map PV.int) (es.map PV.int), noCk⟩) stG (itZU_tup (var_ok rfl) (var_ok rfl)) (fun _ => rfl) (fun x hx => by
      have hx : x ∈ zipZ (ds.map PV.int) (es.map PV.int) := hx
      rw [ez] at hx
      obtain ⟨i, _, rfl⟩ := List.mem_map.mp hx
      exact ⟨[(2, .int ((ds[i]?).getD 0)), (3, .int ((es[i]?).getD 0))], rfl, rfl, fun acc => ⟨sub_ok (var_ok rfl) (var_ok rfl), rfl⟩⟩) (by
      show (zipZ (ds.map PV.int) (es.map PV.int)).length ≤ big
      rw [ez, List.length_map, List.length_range]
      exact Nat.le_trans hn (by decide))
  have e2 : (zipZ (ds.map PV.int) (es.map PV.int)).map stG = (stepsL n ds es).map .int := by
    rw [ez]
    unfold stepsL
    rw [List.map_map, List.map_map]
    rfl
  rw [e2] at c1
  unfold m_law_steps_of
  exact fnM_pure (ret_ok c1) (bels_ints 0 _)

/-! ### each place's two beds told the other way about -/
def twU (bs : List Bed) (m i : Nat) : Nat := if i + 1 < m ∧ (bAt bs i).st = (bAt bs (i + 1)).st then i + 1 else if 0 < i ∧ i < m ∧ (bAt bs (i - 1)).st = (bAt bs i).st then i - 1 else i
def tw (bs : List Bed) (i : Nat) : Nat := twU bs bs.length i
def twL (bs : List Bed) : List Nat := (List.range bs.length).map (tw bs)
theorem tw_one {bs : List Bed} {j a : Nat} (e : mine bs j = [a]) : tw bs a = a := by
  obtain ⟨ha, sa⟩ := mine_mem (bs := bs) (j := j) (x := a) (by rw [e]; exact List.mem_cons_self)
  have sa2 : (bAt bs a).st = j := by rw [bAt_get ha]; exact sa
  unfold tw twU
  rw [if_neg, if_neg]
  · rintro ⟨h0, _, h⟩
    have h1 : a - 1 < bs.length := by omega
    have m := mine_in (j := j) h1 (by rw [← bAt_get h1, h, sa2])
    rw [e] at m
    have := List.mem_singleton.mp m
    omega
  · rintro ⟨h1, h⟩
    have m := mine_in (j := j) h1 (by rw [← bAt_get h1, ← h, sa2])
    rw [e] at m
    have := List.mem_singleton.mp m
    omega
theorem tw_two {many : Nat} {bs : List Bed} (hB : Beds many bs) {j a b : Nat} (e : mine bs j = [a, b]) : tw bs a = b ∧ tw bs b = a := by
  obtain ⟨hb, hlt, s0, s1⟩ := mine_two hB e
  subst hb
  constructor
  · unfold tw twU
    rw [if_pos ⟨hlt, by rw [s0, s1]⟩]
  · unfold tw twU
    rw [if_neg, if_pos ⟨by omega, hlt, by rw [Nat.add_sub_cancel, s0, s1]⟩]
    · omega
    · rintro ⟨h1, h⟩
      have m := mine_in (j := j) h1 (by rw [← bAt_get h1, ← h, s1])
      rw [e] at m
      simp only [List.mem_cons, List.not_mem_nil, or_false] at m
      omega
theorem tw_facts {many : Nat} {bs : List Bed} (hB : Beds many bs) {i : Nat} (hi : i < bs.length) : tw bs i < bs.length ∧ (bAt bs (tw bs i)).st = (bAt bs i).st ∧ tw bs (tw bs i) = i := by
  have m := mine_in (j := (bAt bs i).st) hi (by rw [bAt_get hi])
  rcases order_cases bs [] (bAt bs i).st (hB.two _) with ⟨e, _⟩ | ⟨a, e, _⟩ | ⟨a, b, e, _⟩
  · rw [e] at m
    cases m
  · rw [e] at m
    have hia := List.mem_singleton.mp m
    have t := tw_one e
    rw [← hia] at t
    rw [t, t]
    exact ⟨hi, rfl, rfl⟩
  · obtain ⟨t0, t1⟩ := tw_two hB e
    obtain ⟨hb, hlt, s0, s1⟩ := mine_two hB e
    subst hb
    rw [e] at m
    simp only [List.mem_cons, List.not_mem_nil, or_false] at m
    rcases m with hm | hm
    · rw [hm, t0, t1]
      rw [hm] at s1
      exact ⟨hlt, s1, rfl⟩
    · rw [hm, t1, t0]
      rw [hm] at s0
      exact ⟨by omega, s0, rfl⟩
def twB (bs : List Bed) : List Bed := (List.range bs.length).map fun i => bAt bs (tw bs i)
def twD (bs : List Bed) (ds : List Int) : List Int := (List.range bs.length).map fun i => (ds[tw bs i]?).getD 0
theorem twB_len (bs : List Bed) : (twB bs).length = bs.length := by
  unfold twB
  rw [List.length_map, List.length_range]
theorem twD_len (bs : List Bed) (ds : List Int) : (twD bs ds).length = bs.length := by
  unfold twD
  rw [List.length_map, List.length_range]
theorem twB_get {bs : List Bed} {i : Nat} (h : i < bs.length) : (twB bs)[i]? = some (bAt bs (tw bs i)) := by
  unfold twB
  rw [List.getElem?_map, List.getElem?_range h]
  rfl
theorem twD_get {bs : List Bed} {ds : List Int} {i : Nat} (h : i < bs.length) : ((twD bs ds)[i]?).getD 0 = (ds[tw bs i]?).getD 0 := by
  unfold twD
  rw [List.getElem?_map, List.getElem?_range h]
  rfl
theorem twB_st {many : Nat} {bs : List Bed} (hB : Beds many bs) : (twB bs).map Bed.st = bs.map Bed.st := by
  refine List.ext_getElem (by rw [List.length_map, List.length_map, twB_len]) fun i h1 h2 => ?_
  have h3 : i < bs.length := by rw [List.length_map] at h2; exact h2
  have e := twB_get h3
  have h4 : i < (twB bs).length := by rw [twB_len]; exact h3
  rw [List.getElem?_eq_getElem h4] at e
  rw [List.getElem_map, List.getElem_map, Option.some.inj e, (tw_facts hB h3).2.1, bAt_get h3]
theorem mineA_st (j : Nat) : ∀ (bs cs : List Bed) (i : Nat), bs.map Bed.st = cs.map Bed.st → mineA j i bs = mineA j i cs
  | [], [], _, _ => rfl
  | [], _ :: _, _, h => by cases h
  | _ :: _, [], _, h => by cases h
  | b :: bs, c :: cs, i, h => by
    rw [List.map_cons, List.map_cons] at h
    have h1 := (List.cons.inj h).1
    have h2 := mineA_st j bs cs (i + 1) (List.cons.inj h).2
    unfold mineA
    rw [h1, h2]
theorem tw_world {many : Nat} {bs : List Bed} {ps : List (List Int)} (h : Wrld many bs ps) : Wrld many (twB bs) ps := by
  have e := twB_st h.beds
  refine ⟨h.m1, h.m8, ⟨by rw [twB_len]; exact h.beds.len, fun b hb => ?_, ?_, fun j => ?_⟩, h.len, fun j hj => ?_⟩
  · obtain ⟨i, hi, rfl⟩ := List.mem_map.mp hb
    have hi := List.mem_range.mp hi
    have t := (tw_facts h.beds hi).1
    rw [bAt_get t]
    exact h.beds.all _ (List.getElem_mem t)
  · have a : (bs.map Bed.st).Pairwise (· ≤ ·) := List.pairwise_map.mpr h.beds.up
    rw [← e] at a
    exact List.pairwise_map.mp a
  · rw [cnt_st, e, ← cnt_st]
    exact h.beds.two j
  · rw [cnt_st, e, ← cnt_st]
    exact h.row j hj
theorem tw_mine {many : Nat} {bs : List Bed} (hB : Beds many bs) (j : Nat) : mine (twB bs) j = mine bs j := mineA_st j _ _ 0 (twB_st hB)
/-- waters alike; what beds bear alike, told the other way about -/
structure TwR (bs : List Bed) (st st' : St2) : Prop where
  l : st.2.length = bs.length
  l' : st'.2.length = bs.length
  w : st'.1 = st.1
  b : ∀ i, i < bs.length → st'.2[i]? = st.2[tw bs i]?
theorem bed_tw {many : Nat} {bs : List Bed} (hB : Beds many bs) (ps : List (List Int)) (j rank : Nat) {x : Nat} (hx : x < bs.length) {st st' : St2} (R : TwR bs st st') : TwR bs (bedQ bs ps j rank (tw bs x) st) (bedQ (twB bs) ps j rank x st') := by
  obtain ⟨t1, _, _⟩ := tw_facts hB hx
  have ef : (((twB bs)[x]?).map Bed.fin).getD 0 = ((bs[tw bs x]?).map Bed.fin).getD 0 := by
    rw [twB_get hx, bAt_get t1, List.getElem?_eq_getElem t1]
  refine ⟨?_, ?_, ?_, fun i hi => ?_⟩
  · show (st.2.set _ _).length = _
    rw [List.length_set]
    exact R.l
  · show (st'.2.set _ _).length = _
    rw [List.length_set]
    exact R.l'
  · show st'.1.set _ _ = st.1.set _ _
    rw [ef, R.w]
  · show (st'.2.set x (qmul ((st'.1[j]?).getD (0, 1)) ((((ps[j]?).getD [])[rank]?).getD 0, ((ps[j]?).getD []).sum)))[i]? = (st.2.set (tw bs x) (qmul ((st.1[j]?).getD (0, 1)) ((((ps[j]?).getD [])[rank]?).getD 0, ((ps[j]?).getD []).sum)))[tw bs i]?
    rw [R.w]
    by_cases hix : i = x
    · subst hix
      rw [List.getElem?_set_self (by rw [R.l']; exact hi), List.getElem?_set_self (by rw [R.l]; exact t1)]
    · have hne : tw bs x ≠ tw bs i := fun z => hix (by
        have a := (tw_facts hB hx).2.2
        have c := (tw_facts hB hi).2.2
        rw [← a, ← c, z])
      rw [List.getElem?_set_ne (Ne.symm hix), List.getElem?_set_ne hne, R.b i hi]
/-- by parts alike it doesn't matter which one is first -/
theorem bed_comm (bs : List Bed) (ps : List (List Int)) {j a b : Nat} (hab : a ≠ b) (ha : ((bs[a]?).map Bed.fin).getD 0 ≠ j) (hb : ((bs[b]?).map Bed.fin).getD 0 ≠ j) (hp : (((ps[j]?).getD [])[0]?).getD 0 = (((ps[j]?).getD [])[1]?).getD 0) (st : St2) :
    bedQ bs ps j 1 b (bedQ bs ps j 0 a st) = bedQ bs ps j 1 a (bedQ bs ps j 0 b st) := by
  unfold bedQ
  rw [← hp]
  dsimp only
  generalize ((bs[a]?).map Bed.fin).getD 0 = fa at ha
  generalize ((bs[b]?).map Bed.fin).getD 0 = fb at hb
  rw [List.getElem?_set_ne ha, List.getElem?_set_ne hb]
  generalize qmul ((st.1[j]?).getD (0, 1)) ((((ps[j]?).getD [])[0]?).getD 0, ((ps[j]?).getD []).sum) = v
  refine Prod.ext ?_ (List.set_comm _ _ hab)
  show (st.1.set fa _).set fb _ = (st.1.set fb _).set fa _
  by_cases z : fa = fb
  · subst z
    rfl
  · rw [List.getElem?_set_ne z, List.getElem?_set_ne (Ne.symm z)]
    exact List.set_comm _ _ z
/-- a place where no tie chooses -/
def Calm (bs : List Bed) (ps : List (List Int)) (ds : List Int) (j : Nat) : Prop := ∀ a b, mine bs j = [a, b] → (ds[a]?).getD 0 = (ds[b]?).getD 0 → (((ps[j]?).getD [])[0]?).getD 0 = (((ps[j]?).getD [])[1]?).getD 0
theorem place_tw {many : Nat} {bs : List Bed} (hB : Beds many bs) (ps : List (List Int)) (ds : List Int) (j : Nat) (hc : Calm bs ps ds j) {st st' : St2} (R : TwR bs st st') : TwR bs (placeQ bs ps ds j st) (placeQ (twB bs) ps (twD bs ds) j st') := by
  have hm := tw_mine hB j
  rcases order_cases bs ds j (hB.two j) with ⟨e1, e2⟩ | ⟨a, e1, e2⟩ | ⟨a, b, e1, ho⟩
  · have e3 : order (twB bs) (twD bs ds) j = [] := by
      unfold order
      rw [hm, e1]
    unfold placeQ
    rw [e2, e3]
    exact R
  · have e3 : order (twB bs) (twD bs ds) j = [a] := by
      unfold order
      rw [hm, e1]
    obtain ⟨ha, _⟩ := mine_mem (bs := bs) (j := j) (x := a) (by rw [e1]; exact List.mem_cons_self)
    have t := bed_tw hB ps j 0 ha R
    rw [tw_one e1] at t
    unfold placeQ
    rw [e2, e3]
    exact t
  · obtain ⟨ha, sa⟩ := mine_mem (bs := bs) (j := j) (x := a) (by rw [e1]; exact List.mem_cons_self)
    obtain ⟨hb, sb⟩ := mine_mem (bs := bs) (j := j) (x := b) (by rw [e1]; exact List.mem_cons_of_mem _ List.mem_cons_self)
    obtain ⟨t0, t1⟩ := tw_two hB e1
    have d0 : ((twD bs ds)[a]?).getD 0 = (ds[b]?).getD 0 := by rw [twD_get ha, t0]
    have d1 : ((twD bs ds)[b]?).getD 0 = (ds[a]?).getD 0 := by rw [twD_get hb, t1]
    have e3 : order (twB bs) (twD bs ds) j = if (ds[b]?).getD 0 < (ds[a]?).getD 0 then [b, a] else [a, b] := by
      unfold order
      rw [hm, e1]
      dsimp only
      rw [d0, d1]
    rcases ho with ⟨hlt, e2⟩ | ⟨hlt, e2⟩
    · have hlt := of_decide_eq_true hlt
      rw [if_neg (by omega)] at e3
      have u := bed_tw hB ps j 1 hb (bed_tw hB ps j 0 ha R)
      rw [t0, t1] at u
      unfold placeQ
      rw [e2, e3]
      exact u
    · have hlt := of_decide_eq_false hlt
      by_cases hgt : (ds[b]?).getD 0 < (ds[a]?).getD 0
      · rw [if_pos hgt] at e3
        have u := bed_tw hB ps j 1 ha (bed_tw hB ps j 0 hb R)
        rw [t0, t1] at u
        unfold placeQ
        rw [e2, e3]
        exact u
      · rw [if_neg hgt] at e3
        have hp := hc a b e1 (by omega)
        have ga := hB.all _ (List.getElem_mem ha)
        have gb := hB.all _ (List.getElem_mem hb)
        have fa : ((bs[a]?).map Bed.fin).getD 0 ≠ j := by
          rw [List.getElem?_eq_getElem ha]
          have := ga.lt
          show (bs[a]).fin ≠ j
          omega
        have fb : ((bs[b]?).map Bed.fin).getD 0 ≠ j := by
          rw [List.getElem?_eq_getElem hb]
          have := gb.lt
          show (bs[b]).fin ≠ j
          omega
        have hab : a ≠ b := by
          have := (mine_two hB e1).1
          omega
        have u := bed_tw hB ps j 1 hb (bed_tw hB ps j 0 ha R)
        rw [t0, t1, ← bed_comm bs ps hab fa fb hp] at u
        unfold placeQ
        rw [e2, e3]
        exact u
theorem flow_tw {many : Nat} {bs : List Bed} (hB : Beds many bs) (ps : List (List Int)) (ds : List Int) (fs : List Fq) : ∀ n, (∀ j, j < n → Calm bs ps ds j) → TwR bs (flowQ bs ps ds fs n) (flowQ (twB bs) ps (twD bs ds) fs n)
  | 0, _ => by
    refine ⟨List.length_replicate, ?_, rfl, fun i hi => ?_⟩
    · show (List.replicate (twB bs).length ((0 : Int), (1 : Int))).length = _
      rw [List.length_replicate, twB_len]
    · show (List.replicate (twB bs).length ((0 : Int), (1 : Int)))[i]? = (List.replicate bs.length ((0 : Int), (1 : Int)))[tw bs i]?
      rw [twB_len, List.getElem?_replicate, List.getElem?_replicate, if_pos hi, if_pos (tw_facts hB hi).1]
  | n + 1, h => place_tw hB ps ds n (h n (Nat.lt_succ_self n)) (flow_tw hB ps ds fs n fun j hj => h j (Nat.lt_succ_of_lt hj))
/-- a tie at a place, none above: those two bear alike at their numbers -/
theorem tie_bears {many : Nat} {bs : List Bed} {ps : List (List Int)} (h : Wrld many bs ps) (ds : List Int) {fs : List Fq} (hl : fs.length = many) (hf : ∀ f ∈ fs, Fall f) {j a b : Nat} (hj : j < many) (e : mine bs j = [a, b]) (hd : (ds[a]?).getD 0 = (ds[b]?).getD 0) (hc : ∀ i, i < j → Calm bs ps ds i) :
    ∀ x, x = a ∨ x = b → (flowQ (twB bs) ps (twD bs ds) fs many).2[x]? = (flowQ bs ps ds fs many).2[x]? := by
  obtain ⟨hb, hlt, s0, s1⟩ := mine_two h.beds e
  obtain ⟨t0, t1⟩ := tw_two h.beds e
  have hab : a ≠ b := by omega
  have o1 : order bs ds j = [a, b] := by
    unfold order
    rw [e]
    dsimp only
    rw [if_neg (by omega)]
  have o2 : order (twB bs) (twD bs ds) j = [a, b] := by
    unfold order
    rw [tw_mine h.beds, e]
    dsimp only
    rw [twD_get (by omega), twD_get (by omega), t0, t1, if_neg (by omega)]
  obtain ⟨w, r, x0, x1, hp, h0, h1, _, _, _, b0, b1, hw⟩ := pair_bears h ds hl hf hj o1 hab
  obtain ⟨w', r', x0', x1', hp', h0', h1', _, _, _, b0', b1', hw'⟩ := pair_bears (tw_world h) (twD bs ds) hl hf hj o2 hab
  have er : r' = r := Option.some.inj (hp'.symm.trans hp)
  subst er
  have R := flow_tw h.beds ps ds fs j hc
  rw [R.w] at hw'
  have ew : w' = w := Option.some.inj (hw'.symm.trans hw)
  have e0 : x0' = x0 := Option.some.inj (h0'.symm.trans h0)
  have e1 : x1' = x1 := Option.some.inj (h1'.symm.trans h1)
  subst ew
  subst e0
  subst e1
  rintro x (rfl | rfl)
  · rw [b0, b0']
  · rw [b1, b1']

theorem pTr_nint {fld : Nat → List Str} {p : Pool} (n : Nat) (a b : Int) : pTr fld (eqvN .NotEq n) (.int a) (.int b) p = .ok (.bl (!decide (a = b))) p := by
  have h1 : eqS (.int a) (.int b) = some (decide (a = b)) := by
    show some (a == b) = _
    by_cases z : a = b
    · rw [decide_eq_true z, z]
      simp
    · rw [decide_eq_false z]
      simp [z]
  have h : eqv n (.int a) (.int b) = some (decide (a = b)) := by
    cases n with
    | zero => exact h1
    | succ n => exact h1
  have e : eqvN .NotEq n (.int a) (.int b) = some (!decide (a = b)) := by
    unfold eqvN
    rw [if_pos ⟨rfl, rfl⟩, h]
    rfl
  unfold pTr
  rw [thaw_int, thaw_int]
  dsimp only
  rw [e]
theorem pTr_nilE {fld : Nat → List Str} {p : Pool} (xs : List PV) (hb : bels 0 xs = true) : pTr fld (eqvN .Eq 3) (.lst xs) (.lst []) p = .ok (.bl (decide (xs = []))) p := by
  have e : eqvN .Eq 3 (.lst xs) (.lst []) = some (decide (xs = [])) := by
    unfold eqvN
    rw [if_pos ⟨rfl, rfl⟩]
    cases xs with
    | nil => rfl
    | cons x xs =>
      rw [decide_eq_false (by simp)]
      show Option.map (neg .Eq) (if (x :: xs).length = ([] : List PV).length then eqT (eqv 2) (x :: xs) [] else some false) = _
      rw [if_neg (by simp)]
      rfl
  unfold pTr
  rw [thaw_bel (x := .lst xs) hb, thaw_bel (x := .lst []) rfl]
  dsimp only
  rw [e]
theorem pTr_same {fld : Nat → List Str} {p : Pool} {n : Nat} {x y z : PV} (h1 : thaw fld 0 p x = some z) (h2 : thaw fld 0 p y = some z) (t : R.top z = true) (h : eqv n z z = some true) : pTr fld (eqvN .Eq n) x y p = .ok (.bl true) p ∧ pTr fld (eqvN .NotEq n) x y p = .ok (.bl false) p := by
  constructor
  · have e : eqvN .Eq n z z = some true := by
      unfold eqvN
      rw [if_pos ⟨t, t⟩, h]
      rfl
    unfold pTr
    rw [h1]
    dsimp only
    rw [h2]
    dsimp only
    rw [e]
  · have e : eqvN .NotEq n z z = some false := by
      unfold eqvN
      rw [if_pos ⟨t, t⟩, h]
      rfl
    unfold pTr
    rw [h1]
    dsimp only
    rw [h2]
    dsimp only
    rw [e]
theorem eqv_shs (n : Nat) (fs : List Fq) : eqv (n + 2) (.lst (fs.map sh)) (.lst (fs.map sh)) = some true := eqv_lst fun x hx => by
  obtain ⟨f, _, rfl⟩ := List.mem_map.mp hx
  exact eqv_obj _ _ _
theorem bels_idx (n : Nat) (l : List Nat) : bels n (idx l) = true := bels_iff.mpr fun x hx => by
  obtain ⟨a, _, rfl⟩ := List.mem_map.mp hx
  rfl
theorem rng_idx (n : Nat) : rng 0 n = idx (List.range n) := by
  unfold rng idx
  refine List.map_congr_left fun i _ => ?_
  rw [Int.zero_add]
theorem twisted_ok {many : Nat} {bs : List Bed} {ps : List (List Int)} (h : Wrld many bs ps) (p : Pool) : m_law_twisted [wPV many bs ps] p = .ok (.lst (idx (twL bs))) p := by
  have hlen := h.beds.len
  have en3 : ∀ (z2 z3 : Option PV) P, mCall cLen (mCons (mVar 1) mNil) ⟨p.length, [some (wPV many bs ps), some (.lst (bs.map Bed.pv)), z2, z3]⟩ P = .ok (.int bs.length) P := fun _ _ P => by
    rw [len_ok (x := .lst (bs.map Bed.pv)) (var_ok rfl) rfl, List.length_map]
  have eL : ∀ m, (List.range bs.length).map (twU bs m) = List.ofFn (n := bs.length) fun i => twU bs m i := fun m => by
    refine List.ext_getElem (by simp) fun i h1 h2 => ?_
    simp
  obtain ⟨en2, p2, e, y3, rfl, rfl⟩ := sFor_idx (it := itR2 (mCons (mC (.int 1)) (mCons (mCall cLen (mCons (mVar 1) mNil)) mNil))) (g := tgN 3)
    (body := (sIf (mB (mBin pEq (mBin pIx (mBin pIx (mVar 1) (mVar 3)) (mC (.int 0))) (mBin pIx (mBin pIx (mVar 1) (mBin pSub (mVar 3) (mC (.int 1)))) (mC (.int 0)))))
    (sSwp (mVar 2) (mBin pSub (mVar 3) (mC (.int 1))) (mVar 2) (mVar 3) (mTup (mCons (mVar 3) (mCons (mBin pSub (mVar 3) (mC (.int 1))) mNil))))
    sNop))
    (en := ⟨p.length, [some (wPV many bs ps), some (.lst (bs.map Bed.pv)), some (.own p.length), none]⟩) (p := p ++ [.lst (idx ((List.range bs.length).map (twU bs 1)))])
    (fun j en q => ∃ y3 : Option PV, en = ⟨p.length, [some (wPV many bs ps), some (.lst (bs.map Bed.pv)), some (.own p.length), y3]⟩ ∧ q = p ++ [.lst (idx ((List.range bs.length).map (twU bs (j + 1))))])
    (itR2_ok (two_ok (a := mC (.int 1)) rfl (en3 _ _ _)) (by omega)) (fun _ _ _ _ => rfl) (fun j hj en q ⟨y3, he, hq⟩ => by
      subst he
      subst hq
      have hj : j < (rng 1 (bs.length - 1)).length := hj
      have hj2 : j + 1 < bs.length := by
        rw [rng_len] at hj
        omega
      have e : ((⟨rng 1 (bs.length - 1), noCk⟩ : It0).xs)[j] = PV.int ((j + 1 : Nat) : Int) := rng1_get _ _ hj
      rw [e]
      have eb0 : (bs.map Bed.pv)[j]? = some (bAt bs j).pv := by rw [List.getElem?_map, List.getElem?_eq_getElem (by omega), bAt_get (by omega)]; rfl
      have eb1 : (bs.map Bed.pv)[j + 1]? = some (bAt bs (j + 1)).pv := by rw [List.getElem?_map, List.getElem?_eq_getElem hj2, bAt_get hj2]; rfl
      have cs : ∀ P, mBin pSub (mVar 3) (mC (.int 1)) ⟨p.length, [some (wPV many bs ps), some (.lst (bs.map Bed.pv)), some (.own p.length), some (.int ((j + 1 : Nat) : Int))]⟩ P = .ok (.int (j : Int)) P := fun P => by
        rw [sub_ok (x := ((j + 1 : Nat) : Int)) (y := 1) (var_ok rfl) rfl]
        congr 2
        omega
      have t := b_ok (eq_ok (x := ((bAt bs (j + 1)).st : Int)) (y := ((bAt bs j).st : Int)) (en := ⟨p.length, [some (wPV many bs ps), some (.lst (bs.map Bed.pv)), some (.own p.length), some (.int ((j + 1 : Nat) : Int))]⟩) (p := p ++ [.lst (idx ((List.range bs.length).map (twU bs (j + 1))))])
        (at_ok (i := 0) (x := (bAt bs (j + 1)).pv) (at_ok (i := j + 1) (x := .lst (bs.map Bed.pv)) (a := mVar 1) (b := mVar 3) (var_ok rfl) (var_ok rfl) rfl eb1) (b := mC (.int 0)) rfl rfl rfl)
        (at_ok (i := 0) (x := (bAt bs j).pv) (at_ok (i := j) (x := .lst (bs.map Bed.pv)) (a := mVar 1) (b := mBin pSub (mVar 3) (mC (.int 1))) (var_ok rfl) (cs _) rfl eb0) (b := mC (.int 0)) rfl rfl rfl))
      have hln : ∀ m, (idx ((List.range bs.length).map (twU bs m))).length = bs.length := fun m => by
        unfold idx
        rw [List.length_map, List.length_map, List.length_range]
      by_cases hs : (bAt bs j).st = (bAt bs (j + 1)).st
      · rw [decide_eq_true (by omega)] at t
        refine ⟨[(3, .int ((j + 1 : Nat) : Int))], _, _, rfl, (if_t t).trans (swp_nx (k1 := p.length) (n1 := j) (k2 := p.length) (n2 := j + 1) (tup_ok (two_ok (var_ok rfl) (cs _))) (var_ok rfl) (cs _) (get_last p _) (by rw [hln]; omega) (may_eq _ _) (var_ok rfl) (var_ok rfl) (by rw [set_last]; exact get_last p _) (by rw [List.length_set, hln]; omega) (may_eq _ _)), some (.int ((j + 1 : Nat) : Int)), rfl, ?_⟩
        rw [set_last, set_last]
        congr 3
        refine List.ext_getElem (by rw [List.length_set, List.length_set, hln, hln]) fun i h1 h2 => ?_
        have hi : i < bs.length := by rw [hln] at h2; exact h2
        have r2 : (idx ((List.range bs.length).map (twU bs (j + 1 + 1))))[i] = .int ((twU bs (j + 1 + 1) i : Nat) : Int) := by
          simp [idx]
        rw [r2]
        by_cases i1 : i = j + 1
        · subst i1
          rw [List.getElem_set_self]
          have : twU bs (j + 1 + 1) (j + 1) = j := by
            unfold twU
            rw [if_neg (by omega), if_pos ⟨by omega, by omega, by rw [Nat.add_sub_cancel]; exact hs⟩]
            omega
          rw [this]
        · rw [List.getElem_set_ne (Ne.symm i1)]
          by_cases i0 : i = j
          · subst i0
            rw [List.getElem_set_self]
            have : twU bs (i + 1 + 1) i = i + 1 := by
              unfold twU
              rw [if_pos ⟨by omega, hs⟩]
            rw [this]
          · rw [List.getElem_set_ne (Ne.symm i0)]
            have r1 : (idx ((List.range bs.length).map (twU bs (j + 1))))[i]'(by rw [hln]; exact hi) = .int ((twU bs (j + 1) i : Nat) : Int) := by
              simp [idx]
            rw [r1]
            have : twU bs (j + 1 + 1) i = twU bs (j + 1) i := by
              unfold twU
              have a1 : (i + 1 < j + 1 + 1 ∧ (bAt bs i).st = (bAt bs (i + 1)).st) ↔ (i + 1 < j + 1 ∧ (bAt bs i).st = (bAt bs (i + 1)).st) := ⟨fun z => ⟨by omega, z.2⟩, fun z => ⟨by omega, z.2⟩⟩
              have a2 : (0 < i ∧ i < j + 1 + 1 ∧ (bAt bs (i - 1)).st = (bAt bs i).st) ↔ (0 < i ∧ i < j + 1 ∧ (bAt bs (i - 1)).st = (bAt bs i).st) := ⟨fun z => ⟨z.1, by omega, z.2.2⟩, fun z => ⟨z.1, by omega, z.2.2⟩⟩
              simp only [a1, a2]
            rw [this]
      · rw [decide_eq_false (by omega)] at t
        refine ⟨[(3, .int ((j + 1 : Nat) : Int))], _, _, rfl, (if_f t).trans rfl, some (.int ((j + 1 : Nat) : Int)), rfl, ?_⟩
        congr 4
        refine List.map_congr_left fun i hi => ?_
        have hi := List.mem_range.mp hi
        unfold twU
        have a1 : (i + 1 < j + 1 ∧ (bAt bs i).st = (bAt bs (i + 1)).st) ↔ (i + 1 < j + 1 + 1 ∧ (bAt bs i).st = (bAt bs (i + 1)).st) := by
          refine ⟨fun z => ⟨by omega, z.2⟩, fun z => ⟨?_, z.2⟩⟩
          by_cases i0 : i = j
          · subst i0
            exact absurd z.2 hs
          · omega
        have a2 : (0 < i ∧ i < j + 1 ∧ (bAt bs (i - 1)).st = (bAt bs i).st) ↔ (0 < i ∧ i < j + 1 + 1 ∧ (bAt bs (i - 1)).st = (bAt bs i).st) := by
          refine ⟨fun z => ⟨z.1, by omega, z.2.2⟩, fun z => ⟨z.1, ?_, z.2.2⟩⟩
          by_cases i0 : i = j + 1
          · subst i0
            have := z.2.2
            rw [Nat.add_sub_cancel] at this
            exact absurd this hs
          · omega
        simp only [a1, a2]) ⟨none, rfl, rfl⟩
  have e1 : (rng 1 (bs.length - 1)).length = bs.length - 1 := rng_len _ _
  have e : sFor (itR2 _) _ _ _ _ = .next _ (p ++ [.lst (idx ((List.range bs.length).map (twU bs ((rng 1 (bs.length - 1)).length + 1))))]) := e
  rw [e1] at e
  have eT : (List.range bs.length).map (twU bs (bs.length - 1 + 1)) = twL bs := by
    unfold twL tw
    by_cases z : bs.length = 0
    · rw [z]
      rfl
    · have : bs.length - 1 + 1 = bs.length := by omega
      rw [this]
  rw [eT] at e
  have e0 : (List.range bs.length).map (twU bs 1) = List.range bs.length := by
    have : ∀ i ∈ List.range bs.length, twU bs 1 i = i := fun i _ => by
      unfold twU
      rw [if_neg (by omega), if_neg (by omega)]
    rw [List.map_congr_left this]
    exact List.map_id _
  rw [e0] at e
  unfold m_law_twisted
  have hb : b_law_twisted ⟨p.length, [wPV many bs ps].map some ++ List.replicate (4 - [wPV many bs ps].length) none⟩ p = .ret (.own p.length) (p ++ [.lst (idx (twL bs))]) := by
    show b_law_twisted ⟨p.length, [some (wPV many bs ps), none, none, none]⟩ p = _
    unfold b_law_twisted
    refine (seq_nx (set_nx (at_ok (i := 1) (x := wPV many bs ps) (y := .lst (bs.map Bed.pv)) (var_ok rfl) rfl rfl rfl))).trans ?_
    have el := lrg_ok (en3 none none p) (by omega : bs.length ≤ 1000)
    rw [rng_idx] at el
    refine (seq_nx (set_nx el)).trans ?_
    exact (seq_nx e).trans (ret_ok (var_ok rfl))
  rw [fnM_ret hb (thaw_lst (bels_idx 0 _)), take_last]

/-! ### ties -/
theorem dnI_two {r : List Int} (h : r.length ≤ 2) (hd : dnI r ≤ 1) : (r[0]?).getD 0 = (r[1]?).getD 0 ∨ r.length < 2 := by
  match r, h, hd with
  | [], _, _ => exact .inr (by show 0 < 2; decide)
  | [a], _, _ => exact .inr (by show 1 < 2; decide)
  | [a, b], _, hd =>
    refine .inl ?_
    show a = b
    by_cases z : a = b
    · exact z
    · exfalso
      have e : dnI [a, b] = 2 := by
        unfold dnI
        rw [if_neg (by simpa using z)]
        rfl
      omega
  | _ :: _ :: _ :: _, h, _ =>
    simp only [List.length_cons] at h
    omega
def rowAt (ps : List (List Int)) (j : Nat) : List Int := (ps[j]?).getD []
/-- an unlike tie -/
def tieB (bs : List Bed) (ps : List (List Int)) (ds : List Int) (i : Nat) : Bool := ((!decide ((tw bs i : Int) = (i : Int))) && decide ((ds[i]?).getD 0 = (ds[tw bs i]?).getD 0)) && decide ((1 : Int) < ((dnI (rowAt ps (bAt bs i).st) : Nat) : Int))
def tiesL (bs : List Bed) (ps : List (List Int)) (ds : List Int) : List Nat := (List.range bs.length).filter (tieB bs ps ds)
theorem tie_calm {many : Nat} {bs : List Bed} {ps : List (List Int)} (h : Wrld many bs ps) (ds : List Int) {j : Nat} (hj : ∀ i, i < bs.length → (bAt bs i).st = j → tieB bs ps ds i = false) : Calm bs ps ds j := fun a b e hd => by
  obtain ⟨hb, hlt, s0, s1⟩ := mine_two h.beds e
  obtain ⟨t0, t1⟩ := tw_two h.beds e
  have f := hj a (by omega) s0
  unfold tieB at f
  rw [t0, s0, hd, decide_eq_false (by omega), decide_eq_true rfl] at f
  have f : decide ((1 : Int) < ((dnI (rowAt ps j) : Nat) : Int)) = false := f
  have f := of_decide_eq_false f
  have hj2 : j < ps.length := by
    have g := h.beds.all _ (List.getElem_mem (by omega : a < bs.length))
    rw [← bAt_get (by omega)] at g
    have := g.lt
    have := g.fin
    rw [h.len]
    omega
  have gr := h.row j hj2
  have er : rowAt ps j = ps[j] := by
    unfold rowAt
    rw [List.getElem?_eq_getElem hj2]
    rfl
  have er2 : (ps[j]?).getD [] = ps[j] := er
  rw [er] at f
  rw [er2]
  have hl : ps[j].length = cnt bs j := gr.len
  have hc := mine_len bs j
  rw [e] at hc
  have hc : 2 = cnt bs j := hc
  rcases dnI_two (r := ps[j]) (by omega) (by omega) with z | z
  · exact z
  · omega
def natG (F : Nat → PV) : PV → PV := fun x => match x with
  | .int i => F i.toNat
  | _ => .non
/-- [xs[at] for at in some] -/
theorem comp_at {i s v : Nat} {en : En} {q : Pool} {T : List Nat} {x : PV} {xs : List PV} (F : Nat → PV) (h1 : en.sl[i]? = some (some (.lst (idx T)))) (h2 : en.sl[s]? = some (some x)) (hv : v < en.sl.length) (hne : s ≠ v) (hq : ∀ acc, getQ (q ++ [.lst acc]) x = some xs) (hF : ∀ t ∈ T, xs[t]? = some (F t) ∧ bel q.length (F t) = true) (hl : T.length ≤ big) :
    mLc (itS (mVar i)) (tgN v) mYes (mBin pIx (mVar s) (mVar v)) [v] en q = .ok (.lst (T.map F)) q := by
  have e : (idx T).map (natG F) = T.map F := by
    unfold idx
    rw [List.map_map]
    refine List.map_congr_left fun t _ => ?_
    show F ((t : Nat) : Int).toNat = F t
    rw [Int.toNat_natCast]
  rw [← e]
  refine mLc_all (natG F) (itS_lst (var_ok h1)) (fun _ => rfl) (fun y hy => ?_) (by
    show (idx T).length ≤ big
    unfold idx
    rw [List.length_map]
    exact hl)
  obtain ⟨t, ht, rfl⟩ := List.mem_map.mp hy
  obtain ⟨f1, f2⟩ := hF t ht
  refine ⟨[(v, .int t)], rfl, by simp, fun acc => ?_⟩
  have ef : natG F (.int t) = F t := by
    show F ((t : Nat) : Int).toNat = F t
    rw [Int.toNat_natCast]
  rw [ef]
  refine ⟨at_ok (i := t) (x := x) (var_ok ?_) (var_ok ?_) (hq acc) f1, f2⟩
  · show ((en.sl.set v none).set v (some (PV.int t)))[s]? = _
    rw [List.getElem?_set_ne (Ne.symm hne), List.getElem?_set_ne (Ne.symm hne), h2]
  · show ((en.sl.set v none).set v (some (PV.int t)))[v]? = _
    exact List.getElem?_set_self (by rw [List.length_set]; exact hv)
theorem twL_mem {bs : List Bed} {many : Nat} (hB : Beds many bs) {t : Nat} (h : t ∈ twL bs) : t < bs.length := by
  obtain ⟨i, hi, rfl⟩ := List.mem_map.mp h
  exact (tw_facts hB (List.mem_range.mp hi)).1
theorem twL_len (bs : List Bed) : (twL bs).length = bs.length := by
  unfold twL
  rw [List.length_map, List.length_range]
theorem twL_get {bs : List Bed} {i : Nat} (h : i < bs.length) : (idx (twL bs))[i]? = some (.int (tw bs i : Nat)) := by
  unfold idx twL
  rw [List.getElem?_map, List.getElem?_map, List.getElem?_range h]
  rfl
def tieIn : S := (sSeq (sSet (mAndV (mBin (pTr fldT (eqvN .NotEq 3)) (mBin pIx (mVar 4) (mVar 11)) (mVar 11)) (mBin (pTr fldT (eqvN .Eq 3)) (mBin pIx (mVar 2) (mVar 11)) (mBin pIx (mVar 2) (mBin pIx (mVar 4) (mVar 11))))) 12)
    (sIf (mAnd (mB (mVar 12)) (mB (mBin pGt (mLSet (mBin pIx (mBin pIx (mVar 1) (mC (.int 2))) (mBin pIx (mBin pIx (mVar 5) (mVar 11)) (mC (.int 0))))) (mC (.int 1)))))
    (sExpr (mMet fAppend (mVar 10) (mCons (mVar 11) mNil)))
    sNop))
theorem tie_step {many : Nat} {bs : List Bed} {ps : List (List Int)} (h : Wrld many bs ps) (ds : List Int) (hd : ds.length = bs.length) (q : Pool) (B : Nat) (hB : B ≤ q.length) (x0 x3 x6 x7 x8 x9 x12 x13 x14 x15 x16 : Option PV) (j : Nat) (hj : j < bs.length) (l : List Nat) (hll : l.length ≤ 12) :
    ∃ y12 : Option PV, tieIn ⟨B, [x0, some (wPV many bs ps), some (.tup (ds.map .int)), x3, some (.lst (idx (twL bs))), some (.lst (bs.map Bed.pv)), x6, x7, x8, x9, some (.own q.length), some (.int j), x12, x13, x14, x15, x16]⟩ (q ++ [.lst (idx l)])
      = .next ⟨B, [x0, some (wPV many bs ps), some (.tup (ds.map .int)), x3, some (.lst (idx (twL bs))), some (.lst (bs.map Bed.pv)), x6, x7, x8, x9, some (.own q.length), some (.int j), y12, x13, x14, x15, x16]⟩ (q ++ [.lst (idx (l ++ if tieB bs ps ds j = true then [j] else []))]) := by
  obtain ⟨t1, t2, _⟩ := tw_facts h.beds hj
  have ej : (ds.map PV.int)[j]? = some (.int ((ds[j]?).getD 0)) := by rw [List.getElem?_map, List.getElem?_eq_getElem (by omega)]; rfl
  have et : (ds.map PV.int)[tw bs j]? = some (.int ((ds[tw bs j]?).getD 0)) := by rw [List.getElem?_map, List.getElem?_eq_getElem (by omega)]; rfl
  have eb : (bs.map Bed.pv)[j]? = some (bAt bs j).pv := by rw [List.getElem?_map, List.getElem?_eq_getElem hj, bAt_get hj]; rfl
  have g := h.beds.all _ (List.getElem_mem hj)
  rw [← bAt_get hj] at g
  have hjp : (bAt bs j).st < ps.length := by
    have := g.lt
    have := g.fin
    rw [h.len]
    omega
  have er : (ps.map rowPV)[(bAt bs j).st]? = some (rowPV (rowAt ps (bAt bs j).st)) := by
    unfold rowAt
    rw [List.getElem?_map, List.getElem?_eq_getElem hjp]
    rfl
  have hrl : (rowAt ps (bAt bs j).st).length ≤ 1000 := by
    have gr := h.row _ hjp
    have hc := h.beds.two (bAt bs j).st
    have : rowAt ps (bAt bs j).st = ps[(bAt bs j).st] := by
      unfold rowAt
      rw [List.getElem?_eq_getElem hjp]
      rfl
    rw [this, gr.len]
    omega
  have cT : ∀ P, mBin pIx (mVar 4) (mVar 11) ⟨B, [x0, some (wPV many bs ps), some (.tup (ds.map .int)), x3, some (.lst (idx (twL bs))), some (.lst (bs.map Bed.pv)), x6, x7, x8, x9, some (.own q.length), some (.int j), x12, x13, x14, x15, x16]⟩ P = .ok (.int (tw bs j : Nat)) P := fun P => at_ok (i := j) (x := .lst (idx (twL bs))) (var_ok rfl) (var_ok rfl) rfl (twL_get hj)
  have c1 := bin_ok (cT (q ++ [.lst (idx l)])) (b := mVar 11) (var_ok rfl) (pTr_nint (fld := fldT) 3 (tw bs j : Int) (j : Int))
  have c2 := bin_ok (at_ok (i := j) (x := .tup (ds.map .int)) (a := mVar 2) (b := mVar 11) (en := ⟨B, [x0, some (wPV many bs ps), some (.tup (ds.map .int)), x3, some (.lst (idx (twL bs))), some (.lst (bs.map Bed.pv)), x6, x7, x8, x9, some (.own q.length), some (.int j), x12, x13, x14, x15, x16]⟩) (p := q ++ [.lst (idx l)]) (var_ok rfl) (var_ok rfl) rfl ej)
    (at_ok (i := tw bs j) (x := .tup (ds.map .int)) (a := mVar 2) (b := mBin pIx (mVar 4) (mVar 11)) (var_ok rfl) (cT _) rfl et) (pTr_int (fld := fldT) 3 ((ds[j]?).getD 0) ((ds[tw bs j]?).getD 0))
  have c3 : mAndV (mBin (pTr fldT (eqvN .NotEq 3)) (mBin pIx (mVar 4) (mVar 11)) (mVar 11)) (mBin (pTr fldT (eqvN .Eq 3)) (mBin pIx (mVar 2) (mVar 11)) (mBin pIx (mVar 2) (mBin pIx (mVar 4) (mVar 11))))
      ⟨B, [x0, some (wPV many bs ps), some (.tup (ds.map .int)), x3, some (.lst (idx (twL bs))), some (.lst (bs.map Bed.pv)), x6, x7, x8, x9, some (.own q.length), some (.int j), x12, x13, x14, x15, x16]⟩ (q ++ [.lst (idx l)]) = .ok (.bl ((!decide ((tw bs j : Int) = (j : Int))) && decide ((ds[j]?).getD 0 = (ds[tw bs j]?).getD 0))) (q ++ [.lst (idx l)]) := by
    cases z : (!decide ((tw bs j : Int) = (j : Int))) with
    | true =>
      rw [z] at c1
      exact (andV_t c1).trans c2
    | false =>
      rw [z] at c1
      exact andV_f c1
  have c4 := b_ok (gt_ok (y := 1) (lset_ok (at_ok (i := (bAt bs j).st) (x := .lst (ps.map rowPV)) (y := .tup ((rowAt ps (bAt bs j).st).map .int)) (at_ok (i := 2) (x := wPV many bs ps) (a := mVar 1) (b := mC (.int 2)) (en := ⟨B, [x0, some (wPV many bs ps), some (.tup (ds.map .int)), x3, some (.lst (idx (twL bs))), some (.lst (bs.map Bed.pv)), x6, x7, x8, x9, some (.own q.length), some (.int j), some (.bl ((!decide ((tw bs j : Int) = (j : Int))) && decide ((ds[j]?).getD 0 = (ds[tw bs j]?).getD 0))), x13, x14, x15, x16]⟩) (p := q ++ [.lst (idx l)]) (var_ok rfl) rfl rfl rfl)
    (at_ok (i := 0) (x := (bAt bs j).pv) (at_ok (i := j) (x := .lst (bs.map Bed.pv)) (a := mVar 5) (b := mVar 11) (var_ok rfl) (var_ok rfl) rfl eb) (b := mC (.int 0)) rfl rfl rfl) rfl er) hrl) (b := mC (.int 1)) rfl)
  refine ⟨some (.bl ((!decide ((tw bs j : Int) = (j : Int))) && decide ((ds[j]?).getD 0 = (ds[tw bs j]?).getD 0))), ?_⟩
  unfold tieIn
  refine (seq_nx (set_nx c3)).trans ?_
  have hi : (idx l).length < big := by
    unfold idx
    rw [List.length_map]
    exact Nat.lt_of_le_of_lt hll (by decide)
  have v12 : ∀ (b : Bool), mB (mVar 12) ⟨B, [x0, some (wPV many bs ps), some (.tup (ds.map .int)), x3, some (.lst (idx (twL bs))), some (.lst (bs.map Bed.pv)), x6, x7, x8, x9, some (.own q.length), some (.int j), some (.bl b), x13, x14, x15, x16]⟩ (q ++ [.lst (idx l)]) = .ok b (q ++ [.lst (idx l)]) := fun b => b_ok (var_ok rfl)
  unfold tieB
  cases z1 : ((!decide ((tw bs j : Int) = (j : Int))) && decide ((ds[j]?).getD 0 = (ds[tw bs j]?).getD 0)) with
  | false =>
    rw [Bool.false_and, if_neg Bool.false_ne_true, List.append_nil]
    exact (if_f (and_f (v12 false))).trans rfl
  | true =>
    rw [z1] at c4
    rw [Bool.true_and]
    cases z2 : decide ((1 : Int) < ((dnI (rowAt ps (bAt bs j).st) : Nat) : Int)) with
    | false =>
      rw [z2] at c4
      rw [if_neg Bool.false_ne_true, List.append_nil]
      exact (if_f ((and_t (v12 true)).trans c4)).trans rfl
    | true =>
      rw [z2] at c4
      rw [if_pos rfl]
      refine (if_t ((and_t (v12 true)).trans c4)).trans ((app_nx (k := q.length) (y := .int j) rfl (get_last q _) (var_ok rfl) (get_last q _) (mayL_le hB) hi).trans ?_)
      rw [set_last]
      have e : idx (l ++ [j]) = idx l ++ [.int j] := by
        unfold idx
        rw [List.map_append]
        rfl
      rw [e]

theorem ints_get {es : List Int} {n t : Nat} (h : es.length = n) (ht : t < n) : (es.map PV.int)[t]? = some (.int ((es[t]?).getD 0)) := by
  rw [List.getElem?_map, List.getElem?_eq_getElem (by omega)]
  rfl
theorem twL_map {many : Nat} {bs : List Bed} (hB : Beds many bs) {α : Type} (f g : Nat → α) (h : ∀ i, i < bs.length → f (tw bs i) = g i) : (twL bs).map f = (List.range bs.length).map g := by
  unfold twL
  rw [List.map_map]
  exact List.map_congr_left fun i hi => h i (List.mem_range.mp hi)
theorem dead_get {q : Pool} {c : Cell} {k : Nat} {x : Cell} (h : q[k]? = some x) : (q ++ [c])[k]? = some x := by
  rw [List.getElem?_append_left (List.getElem?_eq_some_iff.mp h).1, h]
theorem behind_len (bs : List Bed) (ds : List Int) (qs : List Fq) : (behindQ bs ds qs).length = bs.length := by
  unfold behindQ
  rw [List.length_map, List.length_range]
def stP (bs : List Bed) (s : Nat) : PV → Option PV := fun x => match x with
  | .int i => if (bAt bs i.toNat).st = s then some (.int i) else none
  | _ => none
theorem stP_at (bs : List Bed) (s i : Nat) : stP bs s (.int (i : Int)) = if (bAt bs i).st = s then some (.int i) else none := by
  show (if (bAt bs ((i : Nat) : Int).toNat).st = s then some (PV.int i) else none) = _
  rw [Int.toNat_natCast]
theorem stP_idx (bs : List Bed) (s : Nat) : ∀ l : List Nat, (idx l).filterMap (stP bs s) = idx (l.filter fun i => decide ((bAt bs i).st = s))
  | [] => rfl
  | i :: l => by
    have ih := stP_idx bs s l
    have c := stP_at bs s i
    have e0 : idx (i :: l) = .int i :: idx l := rfl
    rw [e0]
    by_cases z : (bAt bs i).st = s
    · rw [if_pos z] at c
      rw [List.filterMap_cons_some c, List.filter_cons_of_pos (by simp [z]), ih]
      rfl
    · rw [if_neg z] at c
      rw [List.filterMap_cons_none c, List.filter_cons_of_neg (by simp [z]), ih]
theorem twist_right_ok {many : Nat} {bs : List Bed} {ps : List (List Int)} (h : Wrld many bs ps) (ds : List Int) (hd : ds.length = bs.length) {fs : List Fq} (hl : fs.length = many) (hf : ∀ f ∈ fs, Fall f) (k : Nat) (p : Pool) :
    m_law_twist_right [.own k, wPV many bs ps, .tup (ds.map .int), .tup (fs.map sh)] p = .ok (.bl true) p := by
  have hlen := h.beds.len
  have h' := tw_world h
  have hd' : (twD bs ds).length = (twB bs).length := by rw [twD_len, twB_len]
  have fe := flow_end h ds hd hl hf
  have fe' := flow_end h' (twD bs ds) hd' hl hf
  have R : (∀ j, j < many → Calm bs ps ds j) → ∀ i, i < bs.length → (flowQ (twB bs) ps (twD bs ds) fs many).2[i]? = (flowQ bs ps ds fs many).2[tw bs i]? := fun c => (flow_tw h.beds ps ds fs many c).b
  have Tb := fun j a b => tie_bears h ds hl hf (j := j) (a := a) (b := b)
  have eB := borne_ok h ds hd hl hf p
  generalize hp1 : pp p (.lst ((flowQ bs ps ds fs many).1.map sh)) (.lst ((flowQ bs ps ds fs many).2.map sh)) = p1 at eB
  have l1 : p1.length = p.length + 2 := by rw [← hp1]; simp [pp]
  have eB' := borne_ok h' (twD bs ds) hd' hl hf p1
  generalize hp2 : pp p1 (.lst ((flowQ (twB bs) ps (twD bs ds) fs many).1.map sh)) (.lst ((flowQ (twB bs) ps (twD bs ds) fs many).2.map sh)) = p2 at eB'
  have sS := fun P => step_ok h ds hd hl hf P
  have sS' := fun P => step_ok h' (twD bs ds) hd' hl hf P
  have gB : p2[p.length + 1]? = some (.lst ((flowQ bs ps ds fs many).2.map sh)) := by
    rw [← hp2]
    show (p1 ++ _)[p.length + 1]? = _
    rw [List.getElem?_append_left (by omega), ← hp1]
    exact pp_get1 _ _
  have gB' : p2[p1.length + 1]? = some (.lst ((flowQ (twB bs) ps (twD bs ds) fs many).2.map sh)) := by
    rw [← hp2]
    exact pp_get1 _ _
  have ep2 : ∃ r, p2 = p ++ r := by
    refine ⟨[.lst ((flowQ bs ps ds fs many).1.map sh), .lst ((flowQ bs ps ds fs many).2.map sh), .lst ((flowQ (twB bs) ps (twD bs ds) fs many).1.map sh), .lst ((flowQ (twB bs) ps (twD bs ds) fs many).2.map sh)], ?_⟩
    rw [← hp2, ← hp1]
    show (p ++ [_, _]) ++ [_, _] = _
    rw [List.append_assoc]
    rfl
  generalize (flowQ bs ps ds fs many).2 = Q at fe R Tb sS gB
  generalize (flowQ (twB bs) ps (twD bs ds) fs many).2 = Q' at fe' R Tb sS' gB'
  obtain ⟨r, er⟩ := ep2
  have hT : (twL bs).length ≤ big := by rw [twL_len]; exact Nat.le_trans hlen (by decide)
  have c6 : ∀ (z4 z5 z6 z7 z8 z9 z10 z11 z12 z13 z14 z15 z16 : Option PV), z4 = some (.lst (idx (twL bs))) → z5 = some (.lst (bs.map Bed.pv)) → mTup (mCons (mBin pIx (mVar 1) (mC (.int 0))) (mCons (mLc (itS (mVar 4)) (tgN 16) mYes (mBin pIx (mVar 5) (mVar 16)) [16]) (mCons (mBin pIx (mVar 1) (mC (.int 2))) mNil)))
      ⟨p.length, [some (.own k), some (wPV many bs ps), some (.tup (ds.map .int)), some (.tup (fs.map sh)), z4, z5, z6, z7, z8, z9, z10, z11, z12, z13, z14, z15, z16]⟩ p = .ok (wPV many (twB bs) ps) p := fun z4 z5 z6 z7 z8 z9 z10 z11 z12 z13 z14 z15 z16 e4 e5 => by
    subst e4
    subst e5
    have c := comp_at (i := 4) (s := 5) (v := 16) (T := twL bs) (x := .lst (bs.map Bed.pv)) (xs := bs.map Bed.pv) (en := ⟨p.length, [some (.own k), some (wPV many bs ps), some (.tup (ds.map .int)), some (.tup (fs.map sh)), some (.lst (idx (twL bs))), some (.lst (bs.map Bed.pv)), z6, z7, z8, z9, z10, z11, z12, z13, z14, z15, z16]⟩) (q := p)
      (fun t => (bAt bs t).pv) rfl rfl (by show 16 < 17; decide) (by decide) (fun _ => rfl) (fun t ht => ⟨by rw [List.getElem?_map, List.getElem?_eq_getElem (twL_mem h.beds ht), bAt_get (twL_mem h.beds ht)]; rfl, rfl⟩) hT
    have e : (twL bs).map (fun t => (bAt bs t).pv) = (twB bs).map Bed.pv := by
      unfold twL twB
      rw [List.map_map, List.map_map]
      rfl
    rw [e] at c
    exact tup_ok (three_ok (at_ok (i := 0) (x := wPV many bs ps) (var_ok rfl) rfl rfl rfl) c (at_ok (i := 2) (x := wPV many bs ps) (var_ok rfl) rfl rfl rfl))
  have c7 := comp_at (i := 4) (s := 2) (v := 16) (T := twL bs) (x := .tup (ds.map .int)) (xs := ds.map .int) (en := ⟨p.length, [some (.own k), some (wPV many bs ps), some (.tup (ds.map .int)), some (.tup (fs.map sh)), some (.lst (idx (twL bs))), some (.lst (bs.map Bed.pv)), some (webPV many (twB bs) ps), none, none, none, none, none, none, none, none, none, none]⟩) (q := p)
    (fun t => .int ((ds[t]?).getD 0)) rfl rfl (by show 16 < 17; decide) (by decide) (fun _ => rfl) (fun t ht => ⟨ints_get hd (twL_mem h.beds ht), rfl⟩) hT
  have e7 : (twL bs).map (fun t => PV.int ((ds[t]?).getD 0)) = (twD bs ds).map .int := by
    unfold twL twD
    rw [List.map_map, List.map_map]
    rfl
  rw [e7] at c7
  obtain ⟨en2, q3, e8, y11, y12, rfl, rfl⟩ := sFor_range (i := 11) (n := bs.length) (a := mCons (mCall cLen (mCons (mVar 5) mNil)) mNil) (body := tieIn)
    (en := ⟨p.length, [some (.own k), some (wPV many bs ps), some (.tup (ds.map .int)), some (.tup (fs.map sh)), some (.lst (idx (twL bs))), some (.lst (bs.map Bed.pv)), some (webPV many (twB bs) ps), some (.tup ((twD bs ds).map .int)), some (.own (p.length + 1)), some (.own (p1.length + 1)), some (.own p2.length), none, none, none, none, none, none]⟩) (p := p2 ++ [.lst (idx [])]) (p1 := p2 ++ [.lst (idx [])])
    (fun j en q => ∃ y11 y12 : Option PV, en = ⟨p.length, [some (.own k), some (wPV many bs ps), some (.tup (ds.map .int)), some (.tup (fs.map sh)), some (.lst (idx (twL bs))), some (.lst (bs.map Bed.pv)), some (webPV many (twB bs) ps), some (.tup ((twD bs ds).map .int)), some (.own (p.length + 1)), some (.own (p1.length + 1)), some (.own p2.length), y11, y12, none, none, none, none]⟩ ∧ q = p2 ++ [.lst (idx ((List.range j).filter (tieB bs ps ds)))])
    (one_ok (by
      have e := len_ok (a := mVar 5) (x := .lst (bs.map Bed.pv)) (en := ⟨p.length, [some (.own k), some (wPV many bs ps), some (.tup (ds.map .int)), some (.tup (fs.map sh)), some (.lst (idx (twL bs))), some (.lst (bs.map Bed.pv)), some (webPV many (twB bs) ps), some (.tup ((twD bs ds).map .int)), some (.own (p.length + 1)), some (.own (p1.length + 1)), some (.own p2.length), none, none, none, none, none, none]⟩) (p := p2 ++ [.lst (idx [])]) (var_ok rfl) rfl
      rw [List.length_map] at e
      exact e)) (Nat.le_trans hlen (by decide)) (fun j en q hj ⟨y11, y12, he, hq⟩ => by
      subst he
      subst hq
      obtain ⟨z12, e⟩ := tie_step h ds hd p2 p.length (by rw [er, List.length_append]; omega) (some (.own k)) (some (.tup (fs.map sh))) (some (webPV many (twB bs) ps)) (some (.tup ((twD bs ds).map .int))) (some (.own (p.length + 1))) (some (.own (p1.length + 1))) y12 none none none none j hj ((List.range j).filter (tieB bs ps ds)) (by
        have := List.length_filter_le (tieB bs ps ds) (List.range j)
        rw [List.length_range] at this
        omega)
      refine ⟨_, _, e, some (.int j), z12, rfl, ?_⟩
      rw [List.range_succ, List.filter_append]
      congr 4
      rw [List.filter_cons]
      rfl) ⟨none, none, rfl, rfl⟩
  have e8 : sFor (itR1 _) _ tieIn _ _ = .next _ (p2 ++ [.lst (idx (tiesL bs ps ds))]) := e8
  have gB3 : (p2 ++ [Cell.dead])[p.length + 1]? = some (.lst (Q.map sh)) := dead_get gB
  have gB3' : (p2 ++ [Cell.dead])[p1.length + 1]? = some (.lst (Q'.map sh)) := dead_get gB'
  unfold m_law_twist_right
  refine fnM_cells (q := p) (r := r ++ [.dead]) ?_ rfl rfl
  rw [← List.append_assoc, ← er]
  show b_law_twist_right ⟨p.length, [some (.own k), some (wPV many bs ps), some (.tup (ds.map .int)), some (.tup (fs.map sh)), none, none, none, none, none, none, none, none, none, none, none, none, none]⟩ p = _
  unfold b_law_twist_right
  refine (seq_nx (set_nx (fn0_ok (one_ok (var_ok rfl)) (twisted_ok h p)))).trans ?_
  refine (seq_nx (set_nx (at_ok (i := 1) (x := wPV many bs ps) (y := .lst (bs.map Bed.pv)) (var_ok rfl) rfl rfl rfl))).trans ?_
  refine (seq_nx (set_nx (fn0_ok (one_ok (c6 _ _ none none none none none none none none none none none rfl rfl)) (made_ok h' p)))).trans ?_
  refine (seq_nx (set_nx (call_ok (f := cTuple) (one_ok c7) rfl))).trans ?_
  refine (seq_nx (set_nx (kw_ok (two_ok (fn0_ok (one_ok (var_ok rfl)) (made_ok h p)) (var_ok rfl)) (one_ok (var_ok rfl)) eB))).trans ?_
  refine (seq_nx (set_nx (kw_ok (two_ok (var_ok rfl) (var_ok rfl)) (one_ok (var_ok rfl)) eB'))).trans ?_
  refine (seq_nx (set_nx (x := .own p2.length) (p1 := p2 ++ [.lst (idx [])]) rfl)).trans ?_
  refine (seq_nx e8).trans ?_
  refine (seq_nx (ice_nx (k := p2.length) rfl (get_last p2 _) (bels_idx 0 _))).trans ?_
  rw [set_last]
  have tE := bin_ok (a := mVar 10) (b := mLst mNil) (en := ⟨p.length, [some (.own k), some (wPV many bs ps), some (.tup (ds.map .int)), some (.tup (fs.map sh)), some (.lst (idx (twL bs))), some (.lst (bs.map Bed.pv)), some (webPV many (twB bs) ps), some (.tup ((twD bs ds).map .int)), some (.own (p.length + 1)), some (.own (p1.length + 1)), some (.lst (idx (tiesL bs ps ds))), y11, y12, none, none, none, none]⟩) (p := p2 ++ [.dead]) (var_ok rfl) rfl (pTr_nilE (fld := fldT) (idx (tiesL bs ps ds)) (bels_idx 0 _))
  by_cases ht : tiesL bs ps ds = []
  · have hi : idx (tiesL bs ps ds) = [] := by rw [ht]; rfl
    rw [decide_eq_true hi] at tE
    have calm : ∀ j, j < many → Calm bs ps ds j := fun j _ => tie_calm h ds fun i hi _ => by
      cases z : tieB bs ps ds i with
      | false => rfl
      | true =>
        have m : i ∈ tiesL bs ps ds := List.mem_filter.mpr ⟨List.mem_range.mpr hi, z⟩
        rw [ht] at m
        cases m
    have TR : ∀ i, i < bs.length → Q'[i]? = Q[tw bs i]? := R calm
    refine seq_ret ((if_t (b_ok tE)).trans ?_)
    refine (seq_nx (set_nx (kw_ok (two_ok (var_ok rfl) (var_ok rfl)) (one_ok (var_ok rfl)) (sS' _)))).trans ?_
    have c14 := comp_at (i := 4) (s := 13) (v := 16) (T := twL bs) (x := .tup ((behindQ (twB bs) (twD bs ds) Q').map .int)) (xs := (behindQ (twB bs) (twD bs ds) Q').map .int)
      (en := ⟨p.length, [some (.own k), some (wPV many bs ps), some (.tup (ds.map .int)), some (.tup (fs.map sh)), some (.lst (idx (twL bs))), some (.lst (bs.map Bed.pv)), some (webPV many (twB bs) ps), some (.tup ((twD bs ds).map .int)), some (.own (p.length + 1)), some (.own (p1.length + 1)), some (.lst (idx (tiesL bs ps ds))), y11, y12, some (.tup ((behindQ (twB bs) (twD bs ds) Q').map .int)), none, none, none]⟩) (q := p2 ++ [.dead])
      (fun t => .int (((behindQ (twB bs) (twD bs ds) Q')[t]?).getD 0)) rfl rfl (by show 16 < 17; decide) (by decide) (fun _ => rfl) (fun t ht => ⟨ints_get (by rw [behind_len, twB_len]) (twL_mem h.beds ht), rfl⟩) hT
    have e14 : (twL bs).map (fun t => PV.int (((behindQ (twB bs) (twD bs ds) Q')[t]?).getD 0)) = (behindQ bs ds Q).map .int := by
      rw [twL_map h.beds _ (fun i => PV.int (mvs bs ds Q i)) fun i hi => ?_]
      · unfold behindQ
        rw [List.map_map]
        rfl
      · obtain ⟨t1, t2, t3⟩ := tw_facts h.beds hi
        rw [behind_get (by rw [twB_len]; exact t1)]
        unfold mvs
        rw [twD_get t1, twB_get t1, TR _ t1, t3, bAt_get hi, List.getElem?_eq_getElem hi]
    rw [e14] at c14
    refine (seq_nx (set_nx (call_ok (f := cTuple) (one_ok c14) rfl))).trans ?_
    have t1 : pTr fldT (eqvN .NotEq 3) (.tup ((behindQ bs ds Q).map .int)) (.tup ((behindQ bs ds Q).map .int)) (p2 ++ [.dead]) = .ok (.bl false) (p2 ++ [.dead]) := pTr_ne (bels_ints 0 _) rfl (eqv_tup eqv_ints)
    refine (seq_nx ((if_f (b_ok (bin_ok (var_ok rfl) (kw_ok (two_ok (fn0_ok (one_ok (var_ok rfl)) (made_ok h _)) (var_ok rfl)) (one_ok (var_ok rfl)) (sS _)) t1))).trans rfl)).trans ?_
    have c9 := comp_at (i := 4) (s := 9) (v := 16) (T := twL bs) (x := .own (p1.length + 1)) (xs := Q'.map sh)
      (en := ⟨p.length, [some (.own k), some (wPV many bs ps), some (.tup (ds.map .int)), some (.tup (fs.map sh)), some (.lst (idx (twL bs))), some (.lst (bs.map Bed.pv)), some (webPV many (twB bs) ps), some (.tup ((twD bs ds).map .int)), some (.own (p.length + 1)), some (.own (p1.length + 1)), some (.lst (idx (tiesL bs ps ds))), y11, y12, some (.tup ((behindQ (twB bs) (twD bs ds) Q').map .int)), some (.tup ((behindQ bs ds Q).map .int)), none, none]⟩) (q := p2 ++ [.dead])
      (fun t => sh ((Q'[t]?).getD (0, 1))) rfl rfl (by show 16 < 17; decide) (by decide) (fun acc => getQ_own (dead_get gB3')) (fun t ht => by
        have hb := twL_mem h.beds ht
        have hq : t < Q'.length := by rw [fe'.2.1, twB_len]; exact hb
        refine ⟨?_, rfl⟩
        rw [List.getElem?_map, List.getElem?_eq_getElem hq]
        rfl) hT
    have e9 : (twL bs).map (fun t => sh ((Q'[t]?).getD (0, 1))) = Q.map sh := by
      rw [twL_map h.beds _ (fun i => sh ((Q[i]?).getD (0, 1))) fun i hi => ?_]
      · refine List.ext_getElem (by rw [List.length_map, List.length_map, List.length_range, fe.2.1]) fun i h1 h2 => ?_
        have h3 : i < Q.length := by rw [List.length_map] at h2; exact h2
        rw [List.getElem_map, List.getElem_map, List.getElem_range, List.getElem?_eq_getElem h3]
        rfl
      · obtain ⟨t1, t2, t3⟩ := tw_facts h.beds hi
        rw [TR _ t1, t3]
    rw [e9] at c9
    have t2 := (pTr_same (n := 3) (fld := fldT) (p := p2 ++ [.dead]) (x := .lst (Q.map sh)) (y := .own (p.length + 1)) (thaw_bel (bels_sh 0 Q)) (thaw_own (Nat.zero_le _) gB3 (bels_sh 0 Q)) rfl (eqv_shs 1 Q)).1
    exact ret_ok (bin_ok c9 (var_ok rfl) t2)
  · have hi : ¬ idx (tiesL bs ps ds) = [] := fun z => ht (List.map_eq_nil_iff.mp z)
    rw [decide_eq_false hi] at tE
    refine (seq_nx ((if_f (b_ok tE)).trans rfl)).trans ?_
    obtain ⟨t0, rest, et⟩ : ∃ t0 rest, tiesL bs ps ds = t0 :: rest := by
      cases z : tiesL bs ps ds with
      | nil => exact absurd z ht
      | cons a b => exact ⟨a, b, rfl⟩
    have mem : ∀ i, i ∈ tiesL bs ps ds → i < bs.length ∧ tieB bs ps ds i = true := fun i hi => by
      have := List.mem_filter.mp hi
      exact ⟨List.mem_range.mp this.1, this.2⟩
    have m0 := mem t0 (by rw [et]; exact List.mem_cons_self)
    have low : ∀ i, i ∈ tiesL bs ps ds → t0 ≤ i := fun i hi => by
      have pw : (tiesL bs ps ds).Pairwise (· < ·) := List.Pairwise.filter _ List.pairwise_lt_range
      rw [et] at pw hi
      rcases List.mem_cons.mp hi with rfl | hi
      · exact Nat.le_refl _
      · exact Nat.le_of_lt ((List.pairwise_cons.mp pw).1 i hi)
    have up := List.pairwise_iff_getElem.mp h.beds.up
    have calm : ∀ j, j < (bAt bs t0).st → Calm bs ps ds j := fun j hj => tie_calm h ds fun i hi hst => by
      cases z : tieB bs ps ds i with
      | false => rfl
      | true =>
        have m : i ∈ tiesL bs ps ds := List.mem_filter.mpr ⟨List.mem_range.mpr hi, z⟩
        have l := low i m
        exfalso
        by_cases e : t0 = i
        · subst e
          omega
        · have u := up t0 i m0.1 hi (by omega)
          rw [← bAt_get m0.1, ← bAt_get hi] at u
          omega
    have hjm : (bAt bs t0).st < many := by
      have g := h.beds.all _ (List.getElem_mem m0.1)
      rw [← bAt_get m0.1] at g
      have := g.lt
      have := g.fin
      omega
    have same : ∀ i, i ∈ tiesL bs ps ds → (bAt bs i).st = (bAt bs t0).st → Q'[i]? = Q[i]? := fun i hi hst => by
      obtain ⟨hib, htie⟩ := mem i hi
      have hm := mine_in (j := (bAt bs t0).st) hib (by rw [← bAt_get hib, hst])
      unfold tieB at htie
      rw [Bool.and_eq_true, Bool.and_eq_true] at htie
      have hne : ¬ ((tw bs i : Int) = (i : Int)) := by
        have := htie.1.1
        simpa using this
      have hds := of_decide_eq_true htie.1.2
      rcases order_cases bs ds (bAt bs t0).st (h.beds.two _) with ⟨e1, _⟩ | ⟨a, e1, _⟩ | ⟨a, b, e1, _⟩
      · rw [e1] at hm
        cases hm
      · rw [e1] at hm
        have := List.mem_singleton.mp hm
        have t := tw_one e1
        rw [← this] at t
        rw [t] at hne
        exact absurd rfl hne
      · obtain ⟨t1, t2⟩ := tw_two h.beds e1
        rw [e1] at hm
        simp only [List.mem_cons, List.not_mem_nil, or_false] at hm
        have hdd : (ds[a]?).getD 0 = (ds[b]?).getD 0 := by
          rcases hm with hm | hm
          · rw [hm, t1] at hds
            exact hds
          · rw [hm, t2] at hds
            exact hds.symm
        exact Tb _ a b hjm e1 hdd calm i hm
    have eb0 : (bs.map Bed.pv)[t0]? = some (bAt bs t0).pv := by rw [List.getElem?_map, List.getElem?_eq_getElem m0.1, bAt_get m0.1]; rfl
    have ei0 : (idx (tiesL bs ps ds))[0]? = some (.int t0) := by
      rw [et]
      rfl
    refine (seq_nx (set_nx (at_ok (i := 0) (x := (bAt bs t0).pv) (y := .int (bAt bs t0).st) (at_ok (i := t0) (x := .lst (bs.map Bed.pv)) (var_ok rfl) (at_ok (i := 0) (x := .lst (idx (tiesL bs ps ds))) (var_ok rfl) rfl rfl ei0) rfl eb0) rfl rfl rfl))).trans ?_
    have cL : mLc (itS (mVar 10)) (tgN 11) (mB (mBin (pTr fldT (eqvN .Eq 3)) (mBin pIx (mBin pIx (mVar 5) (mVar 11)) (mC (.int 0))) (mVar 15))) (mVar 11) [11]
        ⟨p.length, [some (.own k), some (wPV many bs ps), some (.tup (ds.map .int)), some (.tup (fs.map sh)), some (.lst (idx (twL bs))), some (.lst (bs.map Bed.pv)), some (webPV many (twB bs) ps), some (.tup ((twD bs ds).map .int)), some (.own (p.length + 1)), some (.own (p1.length + 1)), some (.lst (idx (tiesL bs ps ds))), y11, y12, none, none, some (.int (bAt bs t0).st), none]⟩ (p2 ++ [.dead])
        = .ok (.lst (idx ((tiesL bs ps ds).filter fun i => decide ((bAt bs i).st = (bAt bs t0).st)))) (p2 ++ [.dead]) := by
      have e := mLc_map (it := itS (mVar 10)) (g := tgN 11) (tt := mB (mBin (pTr fldT (eqvN .Eq 3)) (mBin pIx (mBin pIx (mVar 5) (mVar 11)) (mC (.int 0))) (mVar 15))) (te := mVar 11) (vs := [11])
        (en := ⟨p.length, [some (.own k), some (wPV many bs ps), some (.tup (ds.map .int)), some (.tup (fs.map sh)), some (.lst (idx (twL bs))), some (.lst (bs.map Bed.pv)), some (webPV many (twB bs) ps), some (.tup ((twD bs ds).map .int)), some (.own (p.length + 1)), some (.own (p1.length + 1)), some (.lst (idx (tiesL bs ps ds))), y11, y12, none, none, some (.int (bAt bs t0).st), none]⟩) (p := p2 ++ [.dead])
        (stP bs (bAt bs t0).st) (itS_lst (var_ok rfl)) (fun _ => rfl) (fun x hx => by
          obtain ⟨i, hi, rfl⟩ := List.mem_map.mp hx
          obtain ⟨hib, _⟩ := mem i hi
          have eb : (bs.map Bed.pv)[i]? = some (bAt bs i).pv := by rw [List.getElem?_map, List.getElem?_eq_getElem hib, bAt_get hib]; rfl
          refine ⟨[(11, .int i)], rfl, rfl, fun acc => ?_⟩
          rw [stP_at]
          refine ⟨?_, fun y hy => ?_⟩
          · rw [b_ok (bin_ok (at_ok (i := 0) (x := (bAt bs i).pv) (at_ok (i := i) (x := .lst (bs.map Bed.pv)) (var_ok rfl) (var_ok rfl) rfl eb) rfl rfl rfl) (var_ok rfl) (pTr_int (fld := fldT) 3 ((bAt bs i).st : Int) ((bAt bs t0).st : Int)))]
            by_cases z : (bAt bs i).st = (bAt bs t0).st
            · rw [if_pos z, decide_eq_true (by omega)]
              rfl
            · rw [if_neg z, decide_eq_false (by omega)]
              rfl
          · split at hy
            · cases hy
              exact ⟨var_ok rfl, rfl⟩
            · cases hy) (by
          show (idx (tiesL bs ps ds)).length ≤ big
          have h1 : (tiesL bs ps ds).length ≤ bs.length := by
            have := List.length_filter_le (tieB bs ps ds) (List.range bs.length)
            rw [List.length_range] at this
            exact this
          unfold idx
          rw [List.length_map]
          exact Nat.le_trans (Nat.le_trans h1 hlen) (by decide))
      rw [e, stP_idx]
    obtain ⟨en4, q4, e4, y11', rfl, rfl⟩ := sFor_idx (it := itS (mLc (itS (mVar 10)) (tgN 11) (mB (mBin (pTr fldT (eqvN .Eq 3)) (mBin pIx (mBin pIx (mVar 5) (mVar 11)) (mC (.int 0))) (mVar 15))) (mVar 11) [11])) (g := tgN 11)
      (body := (sIf (mB (mBin (pTr fldT (eqvN .NotEq 3)) (mBin pIx (mVar 9) (mVar 11)) (mBin pIx (mVar 8) (mVar 11))))
    (sRet (mC (.bl false)))
    sNop))
      (en := ⟨p.length, [some (.own k), some (wPV many bs ps), some (.tup (ds.map .int)), some (.tup (fs.map sh)), some (.lst (idx (twL bs))), some (.lst (bs.map Bed.pv)), some (webPV many (twB bs) ps), some (.tup ((twD bs ds).map .int)), some (.own (p.length + 1)), some (.own (p1.length + 1)), some (.lst (idx (tiesL bs ps ds))), y11, y12, none, none, some (.int (bAt bs t0).st), none]⟩) (p := p2 ++ [.dead])
      (fun j en q => ∃ y11 : Option PV, en = ⟨p.length, [some (.own k), some (wPV many bs ps), some (.tup (ds.map .int)), some (.tup (fs.map sh)), some (.lst (idx (twL bs))), some (.lst (bs.map Bed.pv)), some (webPV many (twB bs) ps), some (.tup ((twD bs ds).map .int)), some (.own (p.length + 1)), some (.own (p1.length + 1)), some (.lst (idx (tiesL bs ps ds))), y11, y12, none, none, some (.int (bAt bs t0).st), none]⟩ ∧ q = p2 ++ [.dead])
      (itS_lst cL) (fun _ _ _ _ => rfl) (fun j hj en q ⟨y11, he, hq⟩ => by
        subst he
        subst hq
        have hj : j < (idx ((tiesL bs ps ds).filter fun i => decide ((bAt bs i).st = (bAt bs t0).st))).length := hj
        obtain ⟨i, hi, ei⟩ := List.mem_map.mp (List.getElem_mem hj)
        have ei : ((⟨idx ((tiesL bs ps ds).filter fun i => decide ((bAt bs i).st = (bAt bs t0).st)), noCk⟩ : It0).xs)[j] = PV.int i := ei.symm
        rw [ei]
        have hi := List.mem_filter.mp hi
        have hst := of_decide_eq_true hi.2
        obtain ⟨hib, _⟩ := mem i hi.1
        have sm := same i hi.1 hst
        have hq : Q[i]? = some (Q[i]'(by rw [fe.2.1]; exact hib)) := List.getElem?_eq_getElem _
        generalize Q[i]'_ = v at hq
        have hq' : Q'[i]? = some v := by rw [sm, hq]
        have t := (pTr_same (n := 3) (fld := fldT) (p := p2 ++ [.dead]) (x := sh v) (y := sh v) (thaw_bel (bel_sh 0 v)) (thaw_bel (bel_sh 0 v)) rfl (eqv_obj 2 v.1 v.2)).2
        exact ⟨[(11, .int i)], _, _, rfl, (if_f (b_ok (bin_ok (at_ok (i := i) (x := .own (p1.length + 1)) (var_ok rfl) (var_ok rfl) (getQ_own gB3') (map_get hq')) (at_ok (i := i) (x := .own (p.length + 1)) (var_ok rfl) (var_ok rfl) (getQ_own gB3) (map_get hq)) t))).trans rfl, some (.int i), rfl, rfl⟩) ⟨y11, rfl, rfl⟩
    exact (seq_nx e4).trans rfl

def mvAt (bs : List Bed) (qs : List Fq) (i : Nat) : Int := match bs[i]?, qs[i]? with
  | some b, some q => mvQ b q
  | _, _ => 0
theorem steps_mv (bs : List Bed) (ds : List Int) (qs : List Fq) : stepsL bs.length ds (behindQ bs ds qs) = (List.range bs.length).map (mvAt bs qs) := by
  unfold stepsL
  refine List.map_congr_left fun i hi => ?_
  rw [behind_get (List.mem_range.mp hi)]
  show (ds[i]?).getD 0 + mvAt bs qs i - (ds[i]?).getD 0 = mvAt bs qs i
  omega
theorem mvAt_range (bs : List Bed) (qs : List Fq) (i : Nat) : mvAt bs qs i = -1 ∨ mvAt bs qs i = 0 ∨ mvAt bs qs i = 1 := by
  have key : ∀ m : Int, -1 ≤ m → m ≤ 1 → m = -1 ∨ m = 0 ∨ m = 1 := fun m h1 h2 => by omega
  unfold mvAt
  split
  · rename_i b q _ _
    have := mv_range b q
    exact key _ this.1 this.2
  · exact .inr (.inl rfl)
theorem notin_ok (v : Int) (h : v = -1 ∨ v = 0 ∨ v = 1) (p : Pool) : pNotInI (.int v) (.tup [.int (-1), .int 0, .int 1]) p = .ok (.bl false) p := by
  have e : decide (v ∈ ([-1, 0, 1] : List Int)) = true := decide_eq_true (by simp only [List.mem_cons, List.not_mem_nil, or_false]; exact h)
  show Res.ok (PV.bl (!decide (v ∈ ([-1, 0, 1] : List Int)))) p = _
  rw [e]
  rfl
def lapS : S := (sSeq (sPar 6 7 (mCons (mFn m_law_depths [] (mCons (mVar 2) (mCons (mVar 3) mNil))) (mCons (mFn m_law_shares [] (mCons (mFn m_law_falls [] (mCons (mVar 2) (mCons (mVar 3) mNil))) mNil)) mNil)))
    (sSeq (sSet (mFn m_law_same_order [] (mCons (mVar 2) (mCons (mVar 3) (mCons (mVar 6) mNil)))) 8)
    (sSeq (sIf (mB (mBin (pTr fldT (eqvN .NotEq 3)) (mKw m_borne (mCons (mVar 4) (mCons (mVar 8) mNil)) (mCons (mVar 7) mNil)) (mKw m_borne (mCons (mVar 4) (mCons (mVar 6) mNil)) (mCons (mVar 7) mNil))))
    (sRet (mC (.bl false)))
    sNop)
    (sSeq (sSet (mFn m_law_steps_of [] (mCons (mVar 6) (mCons (mKw m_step (mCons (mVar 4) (mCons (mVar 6) mNil)) (mCons (mVar 7) mNil)) mNil))) 9)
    (sSeq (sIf (mB (mBin (pTr fldT (eqvN .NotEq 3)) (mFn m_law_steps_of [] (mCons (mVar 8) (mCons (mKw m_step (mCons (mVar 4) (mCons (mVar 8) mNil)) (mCons (mVar 7) mNil)) mNil))) (mVar 9)))
    (sRet (mC (.bl false)))
    sNop)
    (sSeq (sIf (mB (mBin (pTr fldT (eqvN .NotEq 3)) (mLc (itS (mVar 9)) (tgN 10) (mB (mBin pNotInI (mVar 10) (mTup (mCons (mNeg (mC (.int 1))) (mCons (mC (.int 0)) (mCons (mC (.int 1)) mNil)))))) (mVar 10) [10]) (mLst mNil)))
    (sRet (mC (.bl false)))
    sNop)
    (sIf (mNot (mB (mFn m_law_twist_right [] (mCons (mVar 2) (mCons (mVar 3) (mCons (mVar 6) (mCons (mVar 7) mNil)))))))
    (sRet (mC (.bl false)))
    sNop)))))))
theorem lapS_ok {many : Nat} {bs : List Bed} {ps : List (List Int)} (h : Wrld many bs ps) (p : Pool) (kk : Nat) (hS : Src p kk) (x0 x1 x5 x6 x7 x8 x9 x10 : Option PV) :
    ∃ (y6 y7 y8 y9 : Option PV) (q : Pool), lapS ⟨0, [x0, x1, some (.own kk), some (wPV many bs ps), some (webPV many bs ps), x5, x6, x7, x8, x9, x10]⟩ p
      = .next ⟨0, [x0, x1, some (.own kk), some (wPV many bs ps), some (webPV many bs ps), x5, y6, y7, y8, y9, x10]⟩ q ∧ Src q kk := by
  have hlen := h.beds.len
  have hm8 := h.m8
  have hl := hS.lt
  obtain ⟨s0, h0, ep⟩ := src_self hS
  rw [ep]
  obtain ⟨s1, ds, e1, h1, hd⟩ := depths_ok p kk hl s0 h0 h
  obtain ⟨s2, fs, e2, h2, hfl, hf⟩ := falls_ok p kk hl s1 h1 h
  have e3 := shares_ok fs (p.set kk s2) (fun f hF => ⟨(hf f hF).co, fall_fr (hf f hF)⟩) (by omega)
  obtain ⟨s3, es, e4, h3, he, hA⟩ := same_ok p kk hl s2 h2 h ds hd
  have hflow := flow_alike h.beds ps fs hA many
  have fe := flow_end h ds hd hfl hf
  have src3 : Src (p.set kk s3) kk := hS.set h3
  generalize hP : p.set kk s3 = P at e4 src3
  have eb := borne_ok h es he hfl hf P
  rw [← hflow] at eb
  generalize hP1 : pp P (.lst ((flowQ bs ps ds fs many).1.map sh)) (.lst ((flowQ bs ps ds fs many).2.map sh)) = P1 at eb
  have l1 : P1.length = P.length + 2 := by rw [← hP1]; simp [pp]
  have g1 : P1[P.length + 1]? = some (.lst ((flowQ bs ps ds fs many).2.map sh)) := by rw [← hP1]; exact pp_get1 _ _
  have ec := borne_ok h ds hd hfl hf P1
  generalize hP2 : pp P1 (.lst ((flowQ bs ps ds fs many).1.map sh)) (.lst ((flowQ bs ps ds fs many).2.map sh)) = P2 at ec
  have g2 : P2[P.length + 1]? = some (.lst ((flowQ bs ps ds fs many).2.map sh)) := by
    rw [← hP2]
    show (P1 ++ _)[P.length + 1]? = _
    rw [List.getElem?_append_left (by omega), g1]
  have g3 : P2[P1.length + 1]? = some (.lst ((flowQ bs ps ds fs many).2.map sh)) := by rw [← hP2]; exact pp_get1 _ _
  have src4 : Src P2 kk := by
    obtain ⟨c, hc, hs⟩ := src3
    have hk := (List.getElem?_eq_some_iff.mp hc).1
    refine ⟨c, ?_, hs⟩
    rw [← hP2]
    show (P1 ++ _)[kk]? = _
    rw [List.getElem?_append_left (by omega), ← hP1]
    show (P ++ _)[kk]? = _
    rw [List.getElem?_append_left hk, hc]
  have t1 := (pTr_same (n := 3) (fld := fldT) (p := P2) (x := .own (P.length + 1)) (y := .own (P1.length + 1)) (thaw_own (Nat.zero_le _) g2 (bels_sh 0 _)) (thaw_own (Nat.zero_le _) g3 (bels_sh 0 _)) rfl (eqv_shs 1 (flowQ bs ps ds fs many).2)).2
  have e5 := step_ok h ds hd hfl hf P2
  have e6 := step_ok h es he hfl hf P2
  rw [← hflow] at e6
  have e7 := steps_ok bs.length hlen ds (behindQ bs ds (flowQ bs ps ds fs many).2) hd (behind_len _ _ _) P2
  have e8 := steps_ok bs.length hlen es (behindQ bs es (flowQ bs ps ds fs many).2) he (behind_len _ _ _) P2
  rw [steps_mv] at e7 e8
  generalize hM : (List.range bs.length).map (mvAt bs (flowQ bs ps ds fs many).2) = ms at e7 e8
  have hms : ∀ v ∈ ms, v = -1 ∨ v = 0 ∨ v = 1 := fun v hv => by
    rw [← hM] at hv
    obtain ⟨i, _, rfl⟩ := List.mem_map.mp hv
    exact mvAt_range _ _ _
  have hml : ms.length ≤ big := by
    rw [← hM, List.length_map, List.length_range]
    exact Nat.le_trans hlen (by decide)
  have t2 : pTr fldT (eqvN .NotEq 3) (.lst (ms.map .int)) (.lst (ms.map .int)) P2 = .ok (.bl false) P2 := pTr_ne (bels_ints 0 _) rfl (eqv_lst eqv_ints)
  have c10 := mLc_map (it := itS (mVar 9)) (g := tgN 10) (tt := mB (mBin pNotInI (mVar 10) (mTup (mCons (mNeg (mC (.int 1))) (mCons (mC (.int 0)) (mCons (mC (.int 1)) mNil)))))) (te := mVar 10) (vs := [10])
    (en := ⟨0, [x0, x1, some (.own kk), some (wPV many bs ps), some (webPV many bs ps), x5, some (.tup (ds.map .int)), some (.tup (fs.map sh)), some (.tup (es.map .int)), some (.lst (ms.map .int)), x10]⟩) (p := P2)
    (fun _ => none) (itS_lst (var_ok rfl)) (fun _ => rfl) (fun x hx => by
      obtain ⟨v, hv, rfl⟩ := List.mem_map.mp hx
      refine ⟨[(10, .int v)], rfl, rfl, fun acc => ⟨b_ok (bin_ok (var_ok rfl) (tup_ok (three_ok (a := mNeg (mC (.int 1))) rfl (b := mC (.int 0)) rfl (c := mC (.int 1)) rfl)) (notin_ok v (hms v hv) _)), fun y hy => nomatch hy⟩⟩) (by
      show (ms.map PV.int).length ≤ big
      rw [List.length_map]
      exact hml)
  have en : ∀ l : List PV, l.filterMap (fun _ => (none : Option PV)) = [] := fun l => by
    induction l with
    | nil => rfl
    | cons x l ih => rw [List.filterMap_cons_none (f := fun _ => (none : Option PV)) (a := x) (l := l) rfl, ih]
  have en2 : (⟨ms.map PV.int, noCk⟩ : It0).xs.filterMap (fun _ => (none : Option PV)) = [] := en _
  rw [en2] at c10
  have t3 := pTr_nil (fld := fldT) (p := P2) [] rfl
  refine ⟨some (.tup (ds.map .int)), some (.tup (fs.map sh)), some (.tup (es.map .int)), some (.lst (ms.map .int)), P2, ?_, src4⟩
  unfold lapS
  refine (seq_nx (par_nx (two_ok (fn0_ok (two_ok (var_ok rfl) (var_ok rfl)) e1) (fn0_ok (one_ok (fn0_ok (two_ok (var_ok rfl) (var_ok rfl)) e2)) e3)))).trans ?_
  refine (seq_nx (set_nx (fn0_ok (three_ok (var_ok rfl) (var_ok rfl) (var_ok rfl)) e4))).trans ?_
  refine (seq_nx ((if_f (b_ok (bin_ok (kw_ok (two_ok (var_ok rfl) (var_ok rfl)) (one_ok (var_ok rfl)) eb) (kw_ok (two_ok (var_ok rfl) (var_ok rfl)) (one_ok (var_ok rfl)) ec) t1))).trans rfl)).trans ?_
  refine (seq_nx (set_nx (fn0_ok (two_ok (var_ok rfl) (kw_ok (two_ok (var_ok rfl) (var_ok rfl)) (one_ok (var_ok rfl)) e5)) e7))).trans ?_
  refine (seq_nx ((if_f (b_ok (bin_ok (fn0_ok (two_ok (var_ok rfl) (kw_ok (two_ok (var_ok rfl) (var_ok rfl)) (one_ok (var_ok rfl)) e6)) e8) (var_ok rfl) t2))).trans rfl)).trans ?_
  refine (seq_nx ((if_f (b_ok (bin_ok c10 rfl t3))).trans rfl)).trans ?_
  exact (if_f (not_t (b_ok (fn0_ok (cons_ok (var_ok rfl) (three_ok (var_ok rfl) (var_ok rfl) (var_ok rfl))) (twist_right_ok h ds hd hfl hf kk P2))))).trans rfl
theorem law_ok (ns : List Int) (hn : ns.length ≤ 63) : m_law [.scr ns] [] = .ok (.bl true) [] := by
  obtain ⟨n, hn1, hn2⟩ : ∃ n : Nat, (if (if (ns.length : Int) < 6 then (ns.length : Int) else 6) > 1 then (if (ns.length : Int) < 6 then (ns.length : Int) else 6) else 1) = (n : Int) ∧ n ≤ 8 := by
    refine ⟨((if (if (ns.length : Int) < 6 then (ns.length : Int) else 6) > 1 then (if (ns.length : Int) < 6 then (ns.length : Int) else 6) else 1) : Int).toNat, ?_, ?_⟩
    · split <;> split <;> omega
    · split <;> split <;> omega
  have c0 : mCons (mCall cMax (mCons (mC (.int 1)) (mCons (mCall cMin (mCons (mC (.int 6)) (mCons (mCall cLen (mCons (mVar 0) mNil)) mNil))) mNil))) mNil ⟨0, [some (.scr ns), none, none, none, none, none, none, none, none, none, none]⟩ [] = .ok [.int n] [] := by
    have e1 := len_ok (a := mVar 0) (en := ⟨0, [some (.scr ns), none, none, none, none, none, none, none, none, none, none]⟩) (p := []) (x := .scr ns) (var_ok rfl) rfl
    rw [List.length_map] at e1
    have e2 := call_ok (f := cMin) (r := .ok (.int (if (ns.length : Int) < 6 then (ns.length : Int) else 6)) []) (two_ok (a := mC (.int 6)) rfl e1) rfl
    have e3 := call_ok (f := cMax) (r := .ok (.int (if (if (ns.length : Int) < 6 then (ns.length : Int) else 6) > 1 then (if (ns.length : Int) < 6 then (ns.length : Int) else 6) else 1)) []) (two_ok (a := mC (.int 1)) rfl e2) rfl
    rw [hn1] at e3
    exact one_ok e3
  obtain ⟨en2, q, e, y1, y2, y3, y4, y5, y6, y7, y8, y9, y10, rfl⟩ := sFor_range (i := 1) (n := n) (a := mCons (mCall cMax (mCons (mC (.int 1)) (mCons (mCall cMin (mCons (mC (.int 6)) (mCons (mCall cLen (mCons (mVar 0) mNil)) mNil))) mNil))) mNil)
    (body := (sSeq (sSet (mFn m_law_source [] (mCons (mVar 0) (mCons (mVar 1) mNil))) 2)
    (sSeq (sSet (mFn m_law_world [] (mCons (mVar 2) (mCons (mC (.int 8)) mNil))) 3)
    (sSeq (sSet (mFn m_law_made [] (mCons (mVar 3) mNil)) 4)
    (sFor (itR1 (mCons (mC (.int 3)) mNil)) (tgN 5)
    lapS)))))
    (en := ⟨0, [some (.scr ns), none, none, none, none, none, none, none, none, none, none]⟩) (p := []) (p1 := [])
    (fun j en q => ∃ y1 y2 y3 y4 y5 y6 y7 y8 y9 y10 : Option PV, en = ⟨0, [some (.scr ns), y1, y2, y3, y4, y5, y6, y7, y8, y9, y10]⟩)
    c0 (Nat.le_trans hn2 (by decide)) (fun j en q hj ⟨y1, y2, y3, y4, y5, y6, y7, y8, y9, y10, he⟩ => by
      subst he
      obtain ⟨s, e1, h1⟩ := source_ok ns j q
      have e1s : q ++ [s] = (q ++ [s]).set q.length s := (set_last q s s).symm
      have hl : q.length < (q ++ [s]).length := by rw [len1]; omega
      obtain ⟨s2, many, bs, ps, e2, h2, hW⟩ := world_ok 8 (by decide) (by decide) (q ++ [s]) q.length hl s h1
      rw [← e1s] at e2
      have e3 := made_ok hW ((q ++ [s]).set q.length s2)
      obtain ⟨en3, q3, e4, z5, z6, z7, z8, z9, rfl, _⟩ := sFor_range (i := 5) (n := 3) (a := mCons (mC (.int 3)) mNil) (body := lapS)
        (en := ⟨0, [some (.scr ns), some (.int j), some (.own q.length), some (wPV many bs ps), some (webPV many bs ps), y5, y6, y7, y8, y9, y10]⟩) (p := (q ++ [s]).set q.length s2) (p1 := (q ++ [s]).set q.length s2)
        (fun _ en q' => ∃ z5 z6 z7 z8 z9 : Option PV, en = ⟨0, [some (.scr ns), some (.int j), some (.own q.length), some (wPV many bs ps), some (webPV many bs ps), z5, z6, z7, z8, z9, y10]⟩ ∧ Src q' q.length)
        rfl (by decide) (fun i en q' hi ⟨z5, z6, z7, z8, z9, he, hq⟩ => by
          subst he
          obtain ⟨w6, w7, w8, w9, q4, e, hq4⟩ := lapS_ok hW q' q.length hq (some (.scr ns)) (some (.int j)) (some (.int i)) z6 z7 z8 z9 y10
          exact ⟨_, _, e, some (.int i), w6, w7, w8, w9, rfl, hq4⟩) ⟨y5, y6, y7, y8, y9, rfl, ⟨s2, List.getElem?_set_self hl, h2⟩⟩
      refine ⟨_, q3, ?_, some (.int j), some (.own q.length), some (wPV many bs ps), some (webPV many bs ps), z5, z6, z7, z8, z9, y10, rfl⟩
      refine (seq_nx (set_nx (fn0_ok (two_ok (var_ok rfl) (var_ok rfl)) e1))).trans ?_
      refine (seq_nx (set_nx (fn0_ok (two_ok (var_ok rfl) (b := mC (.int 8)) rfl) e2))).trans ?_
      refine (seq_nx (set_nx (fn0_ok (one_ok (var_ok rfl)) e3))).trans ?_
      exact e4) ⟨none, none, none, none, none, none, none, none, none, none, rfl⟩
  have hb : b_law ⟨([] : Pool).length, [PV.scr ns].map some ++ List.replicate (11 - [PV.scr ns].length) none⟩ [] = .ret (.bl true) q := by
    show b_law ⟨0, [some (.scr ns), none, none, none, none, none, none, none, none, none, none]⟩ [] = _
    unfold b_law
    exact (seq_nx e).trans rfl
  unfold m_law
  rw [fnM_ret hb (thaw_bl true)]
  rfl

/-- what is asked of the law -/
def spLaw (K : PySem.W.Frag) : Sp := fun vs H Q _ => ∃ (a : Addr) (ns : List Int), vs = [.ref a] ∧ SqL K H a (ns.map V.int) ∧ ns.length ≤ 63 ∧ ∀ H', Q (.bl true) H'
theorem law_imp {P : Program} {w : World} {K : PySem.W.Frag} {mg : Str → Option Value} {base : Heap} (T : Facts K mg) : FnOk P w K mg base (L2.CX P w) 11 T.f_law T.d_law ["script"] (spLaw K) := (ok_law T).imp fun vs H Q E ⟨a, ns, e, hS, hl, k⟩ => by
  subst e
  refine ⟨rfl, ⟨0, fun _ => none⟩, (⟨H, []⟩ : Wd), [], [.scr ns], ⟨fun _ _ e => e, rfl, List.nodup_nil, Nat.le_refl _, fun _ _ => rfl, fun _ _ e => (nomatch e), fun k c a e _ => by simp at e⟩, Reps.cons ⟨a, rfl, hS⟩ Reps.nil, ?_⟩
  rw [law_ok ns hl]
  intro w' H' v l S r
  have r : v = .bl true := r
  rw [r]
  exact k H'
theorem fin {l : PySem.W.OpenLaw} {w : World} {K : PySem.W.Frag} {mg : Str → Option Value} {fa : Addr} (hfa : mg "law" = some (.ref fa)) (N : Nonempty (Facts K mg)) :
    ∃ fd : FuncData, (∀ (s : Shared) (v : Value), BindsTo s fd ⟨[v], []⟩ [("script", v)]) ∧ ∀ base : Heap, K.In base → base.Ns mainGlobals mg → FnOk l.prog w K mg base (L2.CX l.prog w) 11 fa fd ["script"] (spLaw K) := by
  obtain ⟨T⟩ := N
  have e := hfa.symm.trans T.g_law
  cases e
  exact ⟨T.d_law, T.bl, fun base _ _ => law_imp T⟩
theorem walk {l : PySem.W.OpenLaw} {q : Program} {loose : List Str} {XP : (Str → Option Value) → Heap → Prop} {YP : World → Heap → Prop} {d : DefRec} {K : Params → PySem.W.Frag} (hn : l.most = some 63) (hdf : d.params.defaults = [])
    (hY : ∀ (w : World) (h : Heap), YP w h → (K w.params).In h)
    (F : ∀ (w : World) (mg : Str → Option Value) (fa : Addr) (h : Heap), (K w.params).In h → h.Ns mainGlobals mg → mg d.name = some (.ref fa) →
      ∃ fd : FuncData, (∀ (s : Shared) (u : Value), BindsTo s fd ⟨[u], []⟩ [("script", u)]) ∧ ∀ base : Heap, (K w.params).In base → base.Ns mainGlobals mg → FnOk l.prog w (K w.params) mg base (L2.CX l.prog w) 11 fa fd ["script"] (spLaw (K w.params))) :
    PySem.W.WalkO q loose XP YP l.row.toRowW d [] (fun f vs => PySem.call f vs) :=
  L2.walk_of (n := 63) (k := 11) (x := "script") (CX := fun w => L2.CX l.prog w) (sp := fun w => spLaw (K w.params)) hn (by decide) hdf ⟨rfl, by decide, by decide⟩ hY F (fun _ _ a ns hl _ hS => ⟨a, ns, rfl, hS, hl, fun _ => rfl⟩) fun _ _ _ _ _ ⟨_, _, _, _, _, _, _, _, _, _, _, _, z⟩ => z

end K22
open PySem PySem.W PyProof.Rows in
set_option maxRecDepth 100000 in
set_option maxHeartbeats 0 in
theorem PySem.Challenge.cw_rillweb_k22_whole_the_order_alone_choose_holds : PySem.Challenge.rw_rillweb_k22_whole_the_order_alone_choose.Holds := by
  w_on; o_law; k_head; (case hw => w_witness2)
  k_fill
  refine K22.walk (l := PySem.Challenge.rw_rillweb_k22_whole_the_order_alone_choose) rfl rfl (fun w h Y => PySem.W.kIn_of Y) ?F
  case F =>
    intro w mg fa h KX G hmg
    refine' K22.fin hmg (K22.facts_mk KX G ?ac_Share ?ac_Web ?a_is_whole ?l_is_whole ?e_is_whole ?k_is_whole ?a_is_between ?l_is_between ?e_is_between ?k_is_between ?a_common_of ?l_common_of ?e_common_of ?k_common_of ?a_Share_init ?i_Share_init ?l_Share_init ?to_Share_init ?td_Share_init ?e_Share_init ?k_Share_init ?a_Share_eq ?i_Share_eq ?l_Share_eq ?e_Share_eq ?k_Share_eq ?a_plus ?l_plus ?e_plus ?k_plus ?a_times ?l_times ?e_times ?k_times ?a_less ?l_less ?e_less ?k_less ?a_is_bed ?l_is_bed ?e_is_bed ?k_is_bed ?a_are_beds ?l_are_beds ?e_are_beds ?k_are_beds ?a_are_parts ?l_are_parts ?e_are_parts ?k_are_parts ?a_Web_init ?i_Web_init ?l_Web_init ?e_Web_init ?k_Web_init ?a_Web_eq ?i_Web_eq ?l_Web_eq ?e_Web_eq ?k_Web_eq ?a_beds_from ?l_beds_from ?e_beds_from ?k_beds_from ?a_share_by_rank ?l_share_by_rank ?e_share_by_rank ?k_share_by_rank ?a_move_of ?l_move_of ?e_move_of ?k_move_of ?a_are_depths ?l_are_depths ?e_are_depths ?k_are_depths ?a_check_depths ?l_check_depths ?e_check_depths ?k_check_depths ?a_check_rain ?l_check_rain ?e_check_rain ?k_check_rain ?a_ranked ?l_ranked ?e_ranked ?k_ranked ?a_flow ?l_flow ?e_flow ?k_flow ?a_moved ?l_moved ?e_moved ?k_moved ?a_borne ?l_borne ?e_borne ?k_borne ?a_step ?l_step ?e_step ?k_step ?a_law_cell_at ?l_law_cell_at ?e_law_cell_at ?k_law_cell_at ?a_law_mixed ?l_law_mixed ?e_law_mixed ?k_law_mixed ?a_law_source ?l_law_source ?e_law_source ?k_law_source ?a_law_next ?l_law_next ?e_law_next ?k_law_next ?a_law_pick ?l_law_pick ?e_law_pick ?k_law_pick ?a_law_lowered ?l_law_lowered ?e_law_lowered ?k_law_lowered ?a_law_sum ?l_law_sum ?e_law_sum ?k_law_sum ?a_law_product ?l_law_product ?e_law_product ?k_law_product ?a_law_mark ?l_law_mark ?e_law_mark ?k_law_mark ?a_law_beds_of ?l_law_beds_of ?e_law_beds_of ?k_law_beds_of ?a_law_world ?l_law_world ?e_law_world ?k_law_world ?a_law_made ?l_law_made ?e_law_made ?k_law_made ?a_law_depths ?l_law_depths ?e_law_depths ?k_law_depths ?a_law_falls ?l_law_falls ?e_law_falls ?k_law_falls ?a_law_shares ?l_law_shares ?e_law_shares ?k_law_shares ?a_law_same_order ?l_law_same_order ?e_law_same_order ?k_law_same_order ?a_law_twisted ?l_law_twisted ?e_law_twisted ?k_law_twisted ?a_law_steps_of ?l_law_steps_of ?e_law_steps_of ?k_law_steps_of ?a_law_twist_right ?l_law_twist_right ?e_law_twist_right ?k_law_twist_right ?a_law ?l_law ?e_law ?k_law ?a_MOST_BEDS ?a_MOST_PART ?a_MOST_PLACES ?n_abs ?n_all ?n_any ?n_bool ?n_enumerate ?n_int ?n_isinstance ?n_len ?n_list ?n_max ?n_min ?n_range ?n_set ?n_sorted ?n_sum ?n_tuple ?n_zip ?mk_Share ?kc_Share ?pg_Share ?hd_Share ?po_Share ?sa_Share ?at_Share ?mr_Share ?no_top_Share ?no_bottom_Share ?mk_Web ?kc_Web ?pg_Web ?hd_Web ?po_Web ?sa_Web ?at_Web ?mr_Web ?no_many_Web ?no_beds_Web ?no_parts_Web ?hn ?ht ?ic_Share ?ty_Share ?ne_Share ?sT_Share_NoneType ?sF_Share_NoneType ?sT_Share_bool ?sF_Share_bool ?sT_Share_int ?sF_Share_int ?sT_Share_str ?sF_Share_str ?sT_Share_tuple ?sF_Share_tuple ?sT_Share_list ?sF_Share_list ?ss_Share_Share ?ss_Share_Web ?ic_Web ?ty_Web ?ne_Web ?sT_Web_NoneType ?sF_Web_NoneType ?sT_Web_bool ?sF_Web_bool ?sT_Web_int ?sF_Web_int ?sT_Web_str ?sF_Web_str ?sT_Web_tuple ?sF_Web_tuple ?sT_Web_list ?sF_Web_list ?ss_Web_Share ?ss_Web_Web)
    (case ac_Share => first | rfl | k_is)
    (case ac_Web => first | rfl | k_is)
    (case a_is_whole => first | rfl | k_is)
    (case l_is_whole => first | rfl | k_is)
    (case e_is_whole => first | rfl | k_is)
    (case k_is_whole => first | rfl | k_is)
    (case a_is_between => first | rfl | k_is)
    (case l_is_between => first | rfl | k_is)
    (case e_is_between => first | rfl | k_is)
    (case k_is_between => first | rfl | k_is)
    (case a_common_of => first | rfl | k_is)
    (case l_common_of => first | rfl | k_is)
    (case e_common_of => first | rfl | k_is)
    (case k_common_of => first | rfl | k_is)
    (case a_Share_init => first | rfl | k_is)
    (case i_Share_init => first | rfl | k_is)
    (case l_Share_init => first | rfl | k_is)
    (case to_Share_init => first | rfl | k_is)
    (case td_Share_init => first | rfl | k_is)
    (case e_Share_init => first | rfl | k_is)
    (case k_Share_init => first | rfl | k_is)
    (case a_Share_eq => first | rfl | k_is)
    (case i_Share_eq => first | rfl | k_is)
    (case l_Share_eq => first | rfl | k_is)
    (case e_Share_eq => first | rfl | k_is)
    (case k_Share_eq => first | rfl | k_is)
    (case a_plus => first | rfl | k_is)
    (case l_plus => first | rfl | k_is)
    (case e_plus => first | rfl | k_is)
    (case k_plus => first | rfl | k_is)
    (case a_times => first | rfl | k_is)
    (case l_times => first | rfl | k_is)
    (case e_times => first | rfl | k_is)
    (case k_times => first | rfl | k_is)
    (case a_less => first | rfl | k_is)
    (case l_less => first | rfl | k_is)
    (case e_less => first | rfl | k_is)
    (case k_less => first | rfl | k_is)
    (case a_is_bed => first | rfl | k_is)
    (case l_is_bed => first | rfl | k_is)
    (case e_is_bed => first | rfl | k_is)
    (case k_is_bed => first | rfl | k_is)
    (case a_are_beds => first | rfl | k_is)
    (case l_are_beds => first | rfl | k_is)
    (case e_are_beds => first | rfl | k_is)
    (case k_are_beds => first | rfl | k_is)
    (case a_are_parts => first | rfl | k_is)
    (case l_are_parts => first | rfl | k_is)
    (case e_are_parts => first | rfl | k_is)
    (case k_are_parts => first | rfl | k_is)
    (case a_Web_init => first | rfl | k_is)
    (case i_Web_init => first | rfl | k_is)
    (case l_Web_init => first | rfl | k_is)
    (case e_Web_init => first | rfl | k_is)
    (case k_Web_init => first | rfl | k_is)
    (case a_Web_eq => first | rfl | k_is)
    (case i_Web_eq => first | rfl | k_is)
    (case l_Web_eq => first | rfl | k_is)
    (case e_Web_eq => first | rfl | k_is)
    (case k_Web_eq => first | rfl | k_is)
    (case a_beds_from => first | rfl | k_is)
    (case l_beds_from => first | rfl | k_is)
    (case e_beds_from => first | rfl | k_is)
    (case k_beds_from => first | rfl | k_is)
    (case a_share_by_rank => first | rfl | k_is)
    (case l_share_by_rank => first | rfl | k_is)
    (case e_share_by_rank => first | rfl | k_is)
    (case k_share_by_rank => first | rfl | k_is)
    (case a_move_of => first | rfl | k_is)
    (case l_move_of => first | rfl | k_is)
    (case e_move_of => first | rfl | k_is)
    (case k_move_of => first | rfl | k_is)
    (case a_are_depths => first | rfl | k_is)
    (case l_are_depths => first | rfl | k_is)
    (case e_are_depths => first | rfl | k_is)
    (case k_are_depths => first | rfl | k_is)
    (case a_check_depths => first | rfl | k_is)
    (case l_check_depths => first | rfl | k_is)
    (case e_check_depths => first | rfl | k_is)
    (case k_check_depths => first | rfl | k_is)
    (case a_check_rain => first | rfl | k_is)
    (case l_check_rain => first | rfl | k_is)
    (case e_check_rain => first | rfl | k_is)
    (case k_check_rain => first | rfl | k_is)
    (case a_ranked => first | rfl | k_is)
    (case l_ranked => first | rfl | k_is)
    (case e_ranked => first | rfl | k_is)
    (case k_ranked => first | rfl | k_is)
    (case a_flow => first | rfl | k_is)
    (case l_flow => first | rfl | k_is)
    (case e_flow => first | rfl | k_is)
    (case k_flow => first | rfl | k_is)
    (case a_moved => first | rfl | k_is)
    (case l_moved => first | rfl | k_is)
    (case e_moved => first | rfl | k_is)
    (case k_moved => first | rfl | k_is)
    (case a_borne => first | rfl | k_is)
    (case l_borne => first | rfl | k_is)
    (case e_borne => first | rfl | k_is)
    (case k_borne => first | rfl | k_is)
    (case a_step => first | rfl | k_is)
    (case l_step => first | rfl | k_is)
    (case e_step => first | rfl | k_is)
    (case k_step => first | rfl | k_is)
    (case a_law_cell_at => first | rfl | k_is)
    (case l_law_cell_at => first | rfl | k_is)
    (case e_law_cell_at => first | rfl | k_is)
    (case k_law_cell_at => first | rfl | k_is)
    (case a_law_mixed => first | rfl | k_is)
    (case l_law_mixed => first | rfl | k_is)
    (case e_law_mixed => first | rfl | k_is)
    (case k_law_mixed => first | rfl | k_is)
    (case a_law_source => first | rfl | k_is)
    (case l_law_source => first | rfl | k_is)
    (case e_law_source => first | rfl | k_is)
    (case k_law_source => first | rfl | k_is)
    (case a_law_next => first | rfl | k_is)
    (case l_law_next => first | rfl | k_is)
    (case e_law_next => first | rfl | k_is)
    (case k_law_next => first | rfl | k_is)
    (case a_law_pick => first | rfl | k_is)
    (case l_law_pick => first | rfl | k_is)
    (case e_law_pick => first | rfl | k_is)
    (case k_law_pick => first | rfl | k_is)
    (case a_law_lowered => first | rfl | k_is)
    (case l_law_lowered => first | rfl | k_is)
    (case e_law_lowered => first | rfl | k_is)
    (case k_law_lowered => first | rfl | k_is)
    (case a_law_sum => first | rfl | k_is)
    (case l_law_sum => first | rfl | k_is)
    (case e_law_sum => first | rfl | k_is)
    (case k_law_sum => first | rfl | k_is)
    (case a_law_product => first | rfl | k_is)
    (case l_law_product => first | rfl | k_is)
    (case e_law_product => first | rfl | k_is)
    (case k_law_product => first | rfl | k_is)
    (case a_law_mark => first | rfl | k_is)
    (case l_law_mark => first | rfl | k_is)
    (case e_law_mark => first | rfl | k_is)
    (case k_law_mark => first | rfl | k_is)
    (case a_law_beds_of => first | rfl | k_is)
    (case l_law_beds_of => first | rfl | k_is)
    (case e_law_beds_of => first | rfl | k_is)
    (case k_law_beds_of => first | rfl | k_is)
    (case a_law_world => first | rfl | k_is)
    (case l_law_world => first | rfl | k_is)
    (case e_law_world => first | rfl | k_is)
    (case k_law_world => first | rfl | k_is)
    (case a_law_made => first | rfl | k_is)
    (case l_law_made => first | rfl | k_is)
    (case e_law_made => first | rfl | k_is)
    (case k_law_made => first | rfl | k_is)
    (case a_law_depths => first | rfl | k_is)
    (case l_law_depths => first | rfl | k_is)
    (case e_law_depths => first | rfl | k_is)
    (case k_law_depths => first | rfl | k_is)
    (case a_law_falls => first | rfl | k_is)
    (case l_law_falls => first | rfl | k_is)
    (case e_law_falls => first | rfl | k_is)
    (case k_law_falls => first | rfl | k_is)
    (case a_law_shares => first | rfl | k_is)
    (case l_law_shares => first | rfl | k_is)
    (case e_law_shares => first | rfl | k_is)
    (case k_law_shares => first | rfl | k_is)
    (case a_law_same_order => first | rfl | k_is)
    (case l_law_same_order => first | rfl | k_is)
    (case e_law_same_order => first | rfl | k_is)
    (case k_law_same_order => first | rfl | k_is)
    (case a_law_twisted => first | rfl | k_is)
    (case l_law_twisted => first | rfl | k_is)
    (case e_law_twisted => first | rfl | k_is)
    (case k_law_twisted => first | rfl | k_is)
    (case a_law_steps_of => first | rfl | k_is)
    (case l_law_steps_of => first | rfl | k_is)
    (case e_law_steps_of => first | rfl | k_is)
    (case k_law_steps_of => first | rfl | k_is)
    (case a_law_twist_right => first | rfl | k_is)
    (case l_law_twist_right => first | rfl | k_is)
    (case e_law_twist_right => first | rfl | k_is)
    (case k_law_twist_right => first | rfl | k_is)
    (case a_law => first | rfl | k_is)
    (case l_law => first | rfl | k_is)
    (case e_law => first | rfl | k_is)
    (case k_law => first | rfl | k_is)
    (case a_MOST_BEDS => first | rfl | k_is)
    (case a_MOST_PART => first | rfl | k_is)
    (case a_MOST_PLACES => first | rfl | k_is)
    (case n_abs => first | rfl | k_is)
    (case n_all => first | rfl | k_is)
    (case n_any => first | rfl | k_is)
    (case n_bool => first | rfl | k_is)
    (case n_enumerate => first | rfl | k_is)
    (case n_int => first | rfl | k_is)
    (case n_isinstance => first | rfl | k_is)
    (case n_len => first | rfl | k_is)
    (case n_list => first | rfl | k_is)
    (case n_max => first | rfl | k_is)
    (case n_min => first | rfl | k_is)
    (case n_range => first | rfl | k_is)
    (case n_set => first | rfl | k_is)
    (case n_sorted => first | rfl | k_is)
    (case n_sum => first | rfl | k_is)
    (case n_tuple => first | rfl | k_is)
    (case n_zip => first | rfl | k_is)
    (case mk_Share => first | rfl | k_is)
    (case kc_Share => first | rfl | k_is)
    (case pg_Share => first | rfl | k_is)
    (case hd_Share => first | rfl | k_is)
    (case po_Share => first | rfl | k_is)
    (case sa_Share => first | rfl | k_is)
    (case at_Share => first | rfl | k_is)
    (case mr_Share => first | rfl | k_is)
    (case no_top_Share => first | rfl | k_is)
    (case no_bottom_Share => first | rfl | k_is)
    (case mk_Web => first | rfl | k_is)
    (case kc_Web => first | rfl | k_is)
    (case pg_Web => first | rfl | k_is)
    (case hd_Web => first | rfl | k_is)
    (case po_Web => first | rfl | k_is)
    (case sa_Web => first | rfl | k_is)
    (case at_Web => first | rfl | k_is)
    (case mr_Web => first | rfl | k_is)
    (case no_many_Web => first | rfl | k_is)
    (case no_beds_Web => first | rfl | k_is)
    (case no_parts_Web => first | rfl | k_is)
    (case hn => first | rfl | k_is)
    (case ht => first | rfl | k_is)
    (case ic_Share => first | rfl | k_is)
    (case ty_Share => first | rfl | k_is)
    (case ne_Share => first | rfl | k_is)
    (case sT_Share_NoneType => first | rfl | k_is)
    (case sF_Share_NoneType => first | rfl | k_is)
    (case sT_Share_bool => first | rfl | k_is)
    (case sF_Share_bool => first | rfl | k_is)
    (case sT_Share_int => first | rfl | k_is)
    (case sF_Share_int => first | rfl | k_is)
    (case sT_Share_str => first | rfl | k_is)
    (case sF_Share_str => first | rfl | k_is)
    (case sT_Share_tuple => first | rfl | k_is)
    (case sF_Share_tuple => first | rfl | k_is)
    (case sT_Share_list => first | rfl | k_is)
    (case sF_Share_list => first | rfl | k_is)
    (case ss_Share_Share => first | rfl | k_is)
    (case ss_Share_Web => first | rfl | k_is)
    (case ic_Web => first | rfl | k_is)
    (case ty_Web => first | rfl | k_is)
    (case ne_Web => first | rfl | k_is)
    (case sT_Web_NoneType => first | rfl | k_is)
    (case sF_Web_NoneType => first | rfl | k_is)
    (case sT_Web_bool => first | rfl | k_is)
    (case sF_Web_bool => first | rfl | k_is)
    (case sT_Web_int => first | rfl | k_is)
    (case sF_Web_int => first | rfl | k_is)
    (case sT_Web_str => first | rfl | k_is)
    (case sF_Web_str => first | rfl | k_is)
    (case sT_Web_tuple => first | rfl | k_is)
    (case sF_Web_tuple => first | rfl | k_is)
    (case sT_Web_list => first | rfl | k_is)
    (case sF_Web_list => first | rfl | k_is)
    (case ss_Web_Share => first | rfl | k_is)
    (case ss_Web_Web => first | rfl | k_is)
#print axioms PySem.Challenge.cw_rillweb_k22_whole_the_order_alone_choose_holds
