import PyProof.Rows.All
import Wide.All
import OpenK.AllK
import Wide.FinOn
import HandS.ForMost
import HandS.ForExc
import HandS.Wide
import HandS.Zip
import HandS.RevRange
import HandS.Rev
import HandS.Defaults
import HandS.MakeKw
import HandS.IsInst
import HandS.Flow
import HandS.ExcValue
import HandS.ExcInit
import HandS.ExcIs
import HandS.ExcField
import HandS.RaiseMore
import KE.KExcStr
import HandS.TupAny
import HandS.CallSlots
import HandS.Comp
import HandS.TryOnly
import HandS.ClsMeth
import KE.KExcIs
import PySem.Challenge.RW_rillweb_k03_refusals_made_by_hand
set_option Elab.async false
set_option linter.all false
set_option maxRecDepth 100000
set_option autoImplicit false
/-! R1: values as trees, a pool of lists and objects that may still change, what a heap has of them -/
namespace R
open PySem L2

inductive PV where
  | non | bl (b : Bool) | int (i : Int) | str (s : Str)
  | tup (xs : List PV) | lst (xs : List PV) | obj (c : Nat) (xs : List PV) | own (k : Nat)
  /-- a list of numbers that is only read: the script -/
  | scr (ns : List Int)
  /-- an own exception that has a text; one that has a field -/
  | xs (c : Nat) (t : Str) | xv (c : Nat) (x : PV)

/-- the classes of the text: where each stands, the names of its instances' values, the name of the value that an exception keeps -/
structure Cfg where
  K : PySem.W.Frag
  cls : Nat → Addr
  fld : Nat → List Str
  exf : Nat → Str

/-- what doesn't change any more; where the pool's cells stand -/
structure Wd where
  G : Hp
  ρ : List Addr
def Wd.le (w w' : Wd) : Prop := (∀ a o, w.G a = some o → w'.G a = some o) ∧ w.ρ <+: w'.ρ
theorem Wd.le.refl (w : Wd) : w.le w := ⟨fun _ _ h => h, List.prefix_refl _⟩
theorem Wd.le.trans {a b c : Wd} (h : a.le b) (k : b.le c) : a.le c := ⟨fun x o e => k.1 x o (h.1 x o e), h.2.trans k.2⟩

inductive Cell where
  | lst (xs : List PV) | obj (c : Nat) (xs : List PV) | dead
abbrev Pool := List Cell

/-- at a: an exception of class C, its arguments at t1 -/
def exT (C a t1 : Addr) : HO := .ext fun h => h.get? a = some ({ cls := .ref C, dict := none, data := .fields #[.ref t1, .none, .none, .none, .bool false, .none] } : Obj)
section
variable (Γ : Cfg) (w : Wd)
mutual
def Rep : PV → V → Prop
  | .non, v => v = .non
  | .bl b, v => v = .bl b
  | .int i, v => v = .int i
  | .str s, v => v = .str s
  | .tup xs, v => ∃ a vs, v = .ref a ∧ SqT Γ.K w.G a vs ∧ Reps xs vs
  | .lst xs, v => ∃ a vs, v = .ref a ∧ w.G a = some (.lst vs) ∧ Reps xs vs
  | .scr ns, v => ∃ a, v = .ref a ∧ SqL Γ.K w.G a (ns.map V.int)
  | .obj c xs, v => ∃ a dx vs, v = .ref a ∧ w.G a = some (.ins (Γ.cls c) dx ((Γ.fld c).zip vs)) ∧ w.G dx = some (.own a) ∧ vs.length = (Γ.fld c).length ∧ Reps xs vs
  | .own k, v => ∃ a, w.ρ[k]? = some a ∧ v = .ref a
  | .xs c t, v => ∃ a t1, v = .ref a ∧ w.G a = some (exT (Γ.cls c) a t1) ∧ w.G t1 = some (.tup [.str t])
  | .xv c x, v => ∃ a d u, v = .ref a ∧ w.G a = some (exo a (Γ.cls c) (some d)) ∧ w.G d = some (exd d [(Γ.exf c, u)]) ∧ Rep x u
def Reps : List PV → List V → Prop
  | [], vs => vs = []
  | x :: xs, vs => ∃ v r, vs = v :: r ∧ Rep x v ∧ Reps xs r
end
end

section
variable {Γ : Cfg} {w w' : Wd}
theorem seqL_mono {K : PySem.W.Frag} {H H' : Hp} {a : Addr} {xs : List V} (e : ∀ a o, H a = some o → H' a = some o) (h : SqL K H a xs) : SqL K H' a xs := by
  rcases h with (h | ⟨o, h⟩) | h
  · exact .inl (.inl (e _ _ h))
  · exact .inl (.inr ⟨o, e _ _ h⟩)
  · exact .inr h
theorem seqT_mono {K : PySem.W.Frag} {H H' : Hp} {a : Addr} {xs : List V} (e : ∀ a o, H a = some o → H' a = some o) (h : SqT K H a xs) : SqT K H' a xs := by
  rcases h with (h | ⟨o, h⟩) | h
  · exact .inl (.inl (e _ _ h))
  · exact .inl (.inr ⟨o, e _ _ h⟩)
  · exact .inr h
theorem pre_get {α : Type} {l l' : List α} (h : l <+: l') {k : Nat} {a : α} (e : l[k]? = some a) : l'[k]? = some a := by
  obtain ⟨t, rfl⟩ := h
  rw [List.getElem?_append_left (List.getElem?_eq_some_iff.mp e).1]
  exact e
mutual
theorem Rep.mono (l : w.le w') : ∀ {x : PV} {v : V}, Rep Γ w x v → Rep Γ w' x v
  | .non, _, h => h
  | .bl _, _, h => h
  | .int _, _, h => h
  | .str _, _, h => h
  | .tup xs, v, h => by
    obtain ⟨a, vs, e, s, r⟩ := h
    exact ⟨a, vs, e, seqT_mono l.1 s, Reps.mono l r⟩
  | .lst xs, v, h => by
    obtain ⟨a, vs, e, s, r⟩ := h
    exact ⟨a, vs, e, l.1 _ _ s, Reps.mono l r⟩
  | .scr ns, v, h => by
    obtain ⟨a, e, s⟩ := h
    exact ⟨a, e, seqL_mono l.1 s⟩
  | .obj c xs, v, h => by
    obtain ⟨a, dx, vs, e, g, d, n, r⟩ := h
    exact ⟨a, dx, vs, e, l.1 _ _ g, l.1 _ _ d, n, Reps.mono l r⟩
  | .own k, v, h => by
    obtain ⟨a, e, z⟩ := h
    exact ⟨a, pre_get l.2 e, z⟩
  | .xs c t, v, h => by
    obtain ⟨a, t1, e, g, g2⟩ := h
    exact ⟨a, t1, e, l.1 _ _ g, l.1 _ _ g2⟩
  | .xv c x, v, h => by
    obtain ⟨a, d, u, e, g, g2, r⟩ := h
    exact ⟨a, d, u, e, l.1 _ _ g, l.1 _ _ g2, Rep.mono l r⟩
theorem Reps.mono (l : w.le w') : ∀ {xs : List PV} {vs : List V}, Reps Γ w xs vs → Reps Γ w' xs vs
  | [], _, h => h
  | x :: xs, vs, h => by
    obtain ⟨v, r, e, h1, h2⟩ := h
    exact ⟨v, r, e, Rep.mono l h1, Reps.mono l h2⟩
end
theorem Reps.nil : Reps Γ w [] [] := rfl
theorem Reps.cons {x : PV} {v : V} {xs : List PV} {vs : List V} (h : Rep Γ w x v) (r : Reps Γ w xs vs) : Reps Γ w (x :: xs) (v :: vs) := ⟨v, vs, rfl, h, r⟩
theorem Reps.length : ∀ {xs : List PV} {vs : List V}, Reps Γ w xs vs → xs.length = vs.length
  | [], vs, h => by
    rw [show vs = [] from h]
    rfl
  | x :: xs, vs, h => by
    obtain ⟨v, r, e, _, h2⟩ := h
    rw [e, List.length_cons, List.length_cons, Reps.length h2]
theorem Reps.get : ∀ {xs : List PV} {vs : List V} {i : Nat} {x : PV}, Reps Γ w xs vs → xs[i]? = some x → ∃ v, vs[i]? = some v ∧ Rep Γ w x v
  | [], _, _, _, _, e => by simp at e
  | x :: xs, vs, 0, y, h, e => by
    obtain ⟨v, r, rfl, h1, h2⟩ := h
    simp at e
    subst e
    exact ⟨v, rfl, h1⟩
  | x :: xs, vs, i + 1, y, h, e => by
    obtain ⟨v, r, rfl, h1, h2⟩ := h
    obtain ⟨u, e1, e2⟩ := Reps.get (i := i) h2 (by simpa using e)
    exact ⟨u, by simpa using e1, e2⟩
theorem Reps.getV : ∀ {xs : List PV} {vs : List V} {i : Nat} {v : V}, Reps Γ w xs vs → vs[i]? = some v → ∃ x, xs[i]? = some x ∧ Rep Γ w x v
  | [], vs, _, _, h, e => by
    rw [show vs = [] from h] at e
    simp at e
  | x :: xs, vs, 0, y, h, e => by
    obtain ⟨v, r, rfl, h1, h2⟩ := h
    simp at e
    subst e
    exact ⟨x, rfl, h1⟩
  | x :: xs, vs, i + 1, y, h, e => by
    obtain ⟨v, r, rfl, h1, h2⟩ := h
    obtain ⟨u, e1, e2⟩ := Reps.getV (i := i) h2 (by simpa using e)
    exact ⟨u, by simpa using e1, e2⟩
theorem Reps.append : ∀ {xs ys : List PV} {vs us : List V}, Reps Γ w xs vs → Reps Γ w ys us → Reps Γ w (xs ++ ys) (vs ++ us)
  | [], _, vs, _, h, k => by
    rw [show vs = [] from h]
    exact k
  | x :: xs, _, vs, _, h, k => by
    obtain ⟨v, r, rfl, h1, h2⟩ := h
    exact ⟨v, _, rfl, h1, Reps.append h2 k⟩
theorem Reps.set : ∀ {xs : List PV} {vs : List V} {i : Nat} {x : PV} {v : V}, Reps Γ w xs vs → Rep Γ w x v → Reps Γ w (xs.set i x) (vs.set i v)
  | [], vs, _, _, _, h, _ => by
    rw [show vs = [] from h]
    exact rfl
  | x :: xs, vs, 0, y, u, h, k => by
    obtain ⟨v, r, rfl, h1, h2⟩ := h
    exact ⟨u, _, rfl, k, h2⟩
  | x :: xs, vs, i + 1, y, u, h, k => by
    obtain ⟨v, r, rfl, h1, h2⟩ := h
    exact ⟨v, _, rfl, h1, Reps.set h2 k⟩
theorem Reps.take : ∀ {xs : List PV} {vs : List V} (n : Nat), Reps Γ w xs vs → Reps Γ w (xs.take n) (vs.take n)
  | xs, vs, 0, _ => by
    rw [List.take_zero, List.take_zero]
    exact rfl
  | [], vs, n + 1, h => by
    rw [show vs = [] from h]
    exact rfl
  | x :: xs, vs, n + 1, h => by
    obtain ⟨v, r, rfl, h1, h2⟩ := h
    exact ⟨v, _, rfl, h1, Reps.take n h2⟩
theorem Reps.drop : ∀ {xs : List PV} {vs : List V} (n : Nat), Reps Γ w xs vs → Reps Γ w (xs.drop n) (vs.drop n)
  | xs, vs, 0, h => h
  | [], vs, n + 1, h => by
    rw [show vs = [] from h]
    exact rfl
  | x :: xs, vs, n + 1, h => by
    obtain ⟨v, r, rfl, h1, h2⟩ := h
    exact Reps.drop n h2
theorem Reps.reverse : ∀ {xs : List PV} {vs : List V}, Reps Γ w xs vs → Reps Γ w xs.reverse vs.reverse
  | [], vs, h => by
    rw [show vs = [] from h]
    exact rfl
  | x :: xs, vs, h => by
    obtain ⟨v, r, rfl, h1, h2⟩ := h
    rw [List.reverse_cons, List.reverse_cons]
    exact Reps.append (Reps.reverse h2) (Reps.cons h1 Reps.nil)
theorem Reps.ints : ∀ {ns : List Int}, Reps Γ w (ns.map PV.int) (ns.map V.int)
  | [] => rfl
  | n :: ns => ⟨.int n, _, rfl, rfl, Reps.ints⟩
theorem Reps.ints_of : ∀ {ns : List Int} {vs : List V}, Reps Γ w (ns.map PV.int) vs → vs = ns.map V.int
  | [], vs, h => h
  | n :: ns, vs, h => by
    obtain ⟨v, r, rfl, h1, h2⟩ := h
    rw [show v = V.int n from h1, Reps.ints_of h2]
    rfl
end

/-! ### cells -/
def CellR (Γ : Cfg) (w : Wd) (H : Hp) : Cell → Addr → Prop
  | .lst xs, a => w.G a = none ∧ ∃ vs, H a = some (.lst vs) ∧ Reps Γ w xs vs
  | .obj c xs, a => w.G a = none ∧ ∃ dx vs, H a = some (.ins (Γ.cls c) dx ((Γ.fld c).zip vs)) ∧ H dx = some (.own a) ∧ w.G dx = none ∧ vs.length ≤ (Γ.fld c).length ∧ Reps Γ w xs vs
  | .dead, a => ∃ o, H a = some o ∧ ∀ x, o ≠ .own x
theorem CellR.there {Γ : Cfg} {w : Wd} {H : Hp} {c : Cell} {a : Addr} (h : CellR Γ w H c a) : ∃ o, H a = some o ∧ ∀ x, o ≠ .own x := by
  cases c with
  | lst xs =>
    obtain ⟨_, vs, e, _⟩ := h
    exact ⟨_, e, fun _ z => nomatch z⟩
  | obj c fs =>
    obtain ⟨_, dx, vs, e, _⟩ := h
    exact ⟨_, e, fun _ z => nomatch z⟩
  | dead => exact h

/-- b: how many cells are the callers'; lo: a callers' cell leans on so many first cells alone -/
structure Lv where
  b : Nat
  lo : Nat → Option Nat
/-- what a cell may lean on -/
def Wd.low (w : Wd) : Option Nat → Wd
  | none => w
  | some m => ⟨w.G, w.ρ.take m⟩
theorem Wd.low_le (w : Wd) (m : Option Nat) : (w.low m).le w := by
  cases m with
  | none => exact Wd.le.refl w
  | some m => exact ⟨fun _ _ h => h, List.take_prefix _ _⟩
theorem Wd.low_G {w : Wd} {m : Option Nat} : (w.low m).G = w.G := by
  cases m <;> rfl

structure SimP (Γ : Cfg) (L : Lv) (w : Wd) (p : Pool) (H : Hp) : Prop where
  sub : ∀ a o, w.G a = some o → H a = some o
  len : w.ρ.length = p.length
  nd : w.ρ.Nodup
  hb : L.b ≤ p.length
  hlo : ∀ k, L.b ≤ k → L.lo k = none
  hm : ∀ k m, L.lo k = some m → m ≤ p.length
  cell : ∀ (k : Nat) c a, p[k]? = some c → w.ρ[k]? = some a → CellR Γ (w.low (L.lo k)) H c a

section
variable {Γ : Cfg} {L : Lv} {w w' : Wd} {p : Pool} {H H' : Hp}
theorem SimP.at (S : SimP Γ L w p H) {k : Nat} {c : Cell} (h : p[k]? = some c) : ∃ a, w.ρ[k]? = some a ∧ CellR Γ (w.low (L.lo k)) H c a := by
  have hk : k < w.ρ.length := by
    rw [S.len]
    exact (List.getElem?_eq_some_iff.mp h).1
  exact ⟨w.ρ[k], List.getElem?_eq_getElem hk, S.cell k c _ h (List.getElem?_eq_getElem hk)⟩
theorem SimP.live (S : SimP Γ L w p H) {a : Addr} (h : a ∈ w.ρ) : ∃ o, H a = some o ∧ ∀ x, o ≠ .own x := by
  obtain ⟨k, hk, e⟩ := List.getElem_of_mem h
  have hp : k < p.length := by
    rw [← S.len]
    exact hk
  exact (S.cell k p[k] a (List.getElem?_eq_getElem hp) (by rw [List.getElem?_eq_getElem hk, e])).there
theorem CellR.step {c : Cell} {a : Addr} (h : CellR Γ w H c a) (l : w.le w') (hn : ∀ b, H b ≠ none → w.G b = none → w'.G b = none) (hh : ∀ b o, H b = some o → H' b = some o) : CellR Γ w' H' c a := by
  cases c with
  | lst xs =>
    obtain ⟨g, vs, e, r⟩ := h
    exact ⟨hn a (by rw [e]; exact fun z => nomatch z) g, vs, hh _ _ e, Reps.mono l r⟩
  | obj c fs =>
    obtain ⟨g, dx, vs, e, d, gd, n, r⟩ := h
    exact ⟨hn a (by rw [e]; exact fun z => nomatch z) g, dx, vs, hh _ _ e, hh _ _ d, hn dx (by rw [d]; exact fun z => nomatch z) gd, n, Reps.mono l r⟩
  | dead =>
    obtain ⟨o, e, z⟩ := h
    exact ⟨o, hh _ _ e, z⟩
/-- a cell off its address -/
theorem CellR.same {c : Cell} {a : Addr} (h : CellR Γ w H c a) (ha : H' a = H a) (hd : ∀ dx, H dx = some (.own a) → H' dx = some (.own a)) : CellR Γ w H' c a := by
  cases c with
  | lst xs =>
    obtain ⟨g, vs, e, r⟩ := h
    exact ⟨g, vs, ha.trans e, r⟩
  | obj c fs =>
    obtain ⟨g, dx, vs, e, d, gd, n, r⟩ := h
    exact ⟨g, dx, vs, ha.trans e, hd _ d, gd, n, r⟩
  | dead =>
    obtain ⟨o, e, z⟩ := h
    exact ⟨o, ha.trans e, z⟩
/-- a new object that doesn't change any more -/
def Wd.add (w : Wd) (q : Addr) (o : HO) : Wd := ⟨upd w.G q o, w.ρ⟩
theorem SimP.free (S : SimP Γ L w p H) {q : Addr} (h : H q = none) : w.G q = none := by
  cases e : w.G q with
  | none => rfl
  | some o =>
    rw [S.sub q o e] at h
    cases h
theorem up_new {H : Hp} {q : Addr} {o : HO} (h : H q = none) : ∀ b u, H b = some u → upd H q o b = some u := fun b u e => by
  rw [upd_ne (ne_of_none e h)]
  exact e
theorem SimP.le_add (S : SimP Γ L w p H) {q : Addr} {o : HO} (h : H q = none) : w.le (w.add q o) := ⟨up_new (S.free h), List.prefix_refl _⟩
theorem low_le_low {w w' : Wd} {m : Option Nat} (l : w.le w') (hb : ∀ n, m = some n → n ≤ w.ρ.length) : (w.low m).le (w'.low m) := by
  cases m with
  | none => exact l
  | some m =>
    refine ⟨l.1, ?_⟩
    obtain ⟨t, e⟩ := l.2
    show w.ρ.take m <+: w'.ρ.take m
    rw [← e, List.take_append_of_le_length (hb m rfl)]
    exact List.prefix_refl _
theorem SimP.lows (S : SimP Γ L w p H) (l : w.le w') (k : Nat) : (w.low (L.lo k)).le (w'.low (L.lo k)) := low_le_low l fun n e => by
  rw [S.len]
  exact S.hm k n e
theorem SimP.new (S : SimP Γ L w p H) {q : Addr} {o : HO} (h : H q = none) : SimP Γ L (w.add q o) p (upd H q o) := by
  refine ⟨fun a u e => ?_, S.len, S.nd, S.hb, S.hlo, S.hm, fun k c a hc ha => ?_⟩
  · by_cases ea : a = q
    · subst ea
      have e' : upd w.G a o a = some u := e
      rw [upd_same] at e'
      rw [upd_same]
      exact e'
    · have e' : upd w.G q o a = some u := e
      rw [upd_ne ea] at e'
      rw [upd_ne ea]
      exact S.sub a u e'
  · refine (S.cell k c a hc ha).step (S.lows (S.le_add h) k) (fun d hb g => ?_) (up_new h)
    rw [Wd.low_G] at g ⊢
    show upd w.G q o d = none
    rw [upd_ne (fun z => hb (by rw [z]; exact h))]
    exact g
theorem add_at {w : Wd} {q : Addr} {o : HO} : (w.add q o).G q = some o := upd_same
/-- a new cell -/
def Wd.cell (w : Wd) (q : Addr) : Wd := ⟨w.G, w.ρ ++ [q]⟩
theorem Wd.le_cell (w : Wd) (q : Addr) : w.le (w.cell q) := ⟨fun _ _ h => h, List.prefix_append _ _⟩
theorem SimP.newCell (S : SimP Γ L w p H) {q : Addr} {o : HO} {c : Cell} (h : H q = none) (hc : CellR Γ (w.cell q) (upd H q o) c q) : SimP Γ L (w.cell q) (p ++ [c]) (upd H q o) := by
  have nq : q ∉ w.ρ := fun z => by
    obtain ⟨u, e, _⟩ := S.live z
    rw [h] at e
    cases e
  refine ⟨fun a u e => up_new h a u (S.sub a u e), ?_, ?_, ?_, S.hlo, fun k m e => ?_, fun k c' a h1 h2 => ?_⟩
  · show (w.ρ ++ [q]).length = (p ++ [c]).length
    rw [List.length_append, List.length_append, S.len]
    rfl
  · show (w.ρ ++ [q]).Nodup
    refine List.nodup_append.mpr ⟨S.nd, by simp, fun a ha b hb => ?_⟩
    have : b = q := by simpa using hb
    subst this
    exact fun z => nq (z ▸ ha)
  · rw [List.length_append]
    exact Nat.le_trans S.hb (Nat.le_add_right _ _)
  · rw [List.length_append]
    exact Nat.le_trans (S.hm k m e) (Nat.le_add_right _ _)
  · by_cases hk : k < p.length
    · have h1' : p[k]? = some c' := by
        rw [List.getElem?_append_left hk] at h1
        exact h1
      have h2' : w.ρ[k]? = some a := by
        have h2 : (w.ρ ++ [q])[k]? = some a := h2
        rw [List.getElem?_append_left (by rw [S.len]; exact hk)] at h2
        exact h2
      refine (S.cell k c' a h1' h2').step (S.lows (w.le_cell q) k) (fun _ _ g => ?_) (up_new h)
      rw [Wd.low_G] at g ⊢
      exact g
    · have hk2 : k = p.length := by
        have := (List.getElem?_eq_some_iff.mp h1).1
        rw [List.length_append] at this
        simp at this
        omega
      subst hk2
      have e1 : c = c' := by simpa using h1
      have h2 : (w.ρ ++ [q])[p.length]? = some a := h2
      rw [← S.len] at h2
      have e2 : q = a := by simpa using h2
      subst e1
      subst e2
      rw [S.hlo _ S.hb]
      exact hc
theorem nd_ix {l : List Addr} (h : l.Nodup) {i j : Nat} {a : Addr} (e1 : l[i]? = some a) (e2 : l[j]? = some a) : i = j := by
  obtain ⟨l1, e1⟩ := List.getElem?_eq_some_iff.mp e1
  obtain ⟨l2, e2⟩ := List.getElem?_eq_some_iff.mp e2
  exact (List.getElem_inj h).mp (e1.trans e2.symm)
/-- a cell is written -/
theorem SimP.write (S : SimP Γ L w p H) {k : Nat} {a : Addr} {c : Cell} {o : HO} (ha : w.ρ[k]? = some a) (hg : w.G a = none) (hc : CellR Γ (w.low (L.lo k)) (upd H a o) c a) : SimP Γ L w (p.set k c) (upd H a o) := by
  have ho : ∀ x, H a ≠ some (.own x) := fun x z => by
    obtain ⟨u, e, n⟩ := S.live (List.mem_of_getElem? ha)
    rw [z] at e
    cases e
    exact n x rfl
  refine ⟨fun d u e => ?_, by rw [List.length_set]; exact S.len, S.nd, by rw [List.length_set]; exact S.hb, S.hlo, fun j m e => by rw [List.length_set]; exact S.hm j m e, fun j c' d h1 h2 => ?_⟩
  · have nb : d ≠ a := fun z => by
      rw [z, hg] at e
      cases e
    rw [upd_ne nb]
    exact S.sub d u e
  · by_cases hj : j = k
    · subst hj
      rw [ha] at h2
      cases h2
      have hl : j < p.length := by
        have := (List.getElem?_eq_some_iff.mp h1).1
        rw [List.length_set] at this
        exact this
      rw [List.getElem?_set_self hl] at h1
      cases h1
      exact hc
    · rw [List.getElem?_set_ne (Ne.symm hj)] at h1
      have nb : d ≠ a := fun z => by
        subst z
        exact hj (nd_ix S.nd h2 ha)
      refine (S.cell j c' d h1 h2).same (upd_ne nb) fun dx hdx => ?_
      have nd : dx ≠ a := fun z => ho d (by rw [← z]; exact hdx)
      rw [upd_ne nd]
      exact hdx
def minO (n : Nat) : Option Nat → Nat
  | none => n
  | some m => min m n
/-- a callee's cells begin behind the caller's -/
def Lv.deeper (L : Lv) (n : Nat) : Lv := ⟨n, fun k => if k < n then some (minO n (L.lo k)) else none⟩
theorem Lv.deeper_lt {L : Lv} {n k : Nat} (h : k < n) : (L.deeper n).lo k = some (minO n (L.lo k)) := by
  show (if k < n then _ else _) = _
  rw [if_pos h]
theorem SimP.enter (S : SimP Γ L w p H) : SimP Γ (L.deeper p.length) w p H := by
  refine ⟨S.sub, S.len, S.nd, Nat.le_refl _, fun k hk => ?_, fun k m e => ?_, fun k c a h1 h2 => ?_⟩
  · show (if k < p.length then _ else _) = _
    rw [if_neg (by show ¬ k < p.length; have : p.length ≤ k := hk; omega)]
  · have e : (if k < p.length then some (minO p.length (L.lo k)) else none) = some m := e
    split at e
    · cases e
      cases L.lo k with
      | none => exact Nat.le_refl _
      | some j => exact Nat.min_le_right _ _
    · cases e
  · have hk := (List.getElem?_eq_some_iff.mp h1).1
    have x := S.cell k c a h1 h2
    rw [Lv.deeper_lt hk]
    have hm := S.hm k
    cases e : L.lo k with
    | none =>
      rw [e] at x
      show CellR Γ ⟨w.G, w.ρ.take p.length⟩ H c a
      rw [← S.len, List.take_length]
      exact x
    | some m =>
      rw [e] at x
      show CellR Γ ⟨w.G, w.ρ.take (min m p.length)⟩ H c a
      rw [Nat.min_eq_left (hm m e)]
      exact x
end
/-! ### what a def has made is handed out: its cells don't change any more -/
section
mutual
/-- the tree with each cell's number read off s -/
def sub (s : Nat → Option PV) : PV → Option PV
  | .non => some .non
  | .bl b => some (.bl b)
  | .int i => some (.int i)
  | .str x => some (.str x)
  | .tup xs => match subs s xs with
    | some ys => some (.tup ys)
    | none => none
  | .lst xs => match subs s xs with
    | some ys => some (.lst ys)
    | none => none
  | .obj c xs => match subs s xs with
    | some ys => some (.obj c ys)
    | none => none
  | .own k => s k
  | .scr ns => some (.scr ns)
  | .xs c t => some (.xs c t)
  | .xv c x => match sub s x with
    | some y => some (.xv c y)
    | none => none
def subs (s : Nat → Option PV) : List PV → Option (List PV)
  | [] => some []
  | x :: xs => match sub s x with
    | some y => match subs s xs with
      | some ys => some (y :: ys)
      | none => none
    | none => none
end
/-- the cells below n stay cells; others are read, f deep -/
def thw (fld : Nat → List Str) (n : Nat) (p : Pool) : Nat → Nat → Option PV
  | 0, k => if k < n then some (.own k) else none
  | f + 1, k => if k < n then some (.own k) else match p[k]? with
    | some (.lst xs) => match subs (thw fld n p f) xs with
      | some ys => some (.lst ys)
      | none => none
    | some (.obj c xs) => if xs.length = (fld c).length then match subs (thw fld n p f) xs with
        | some ys => some (.obj c ys)
        | none => none
      else none
    | _ => none
/-- how deep cells may stand in cells -/
abbrev deep : Nat := 12
def thaw (fld : Nat → List Str) (n : Nat) (p : Pool) (x : PV) : Option PV := sub (thw fld n p deep) x

variable {Γ : Cfg} {L : Lv} {w w' : Wd} {p : Pool} {H H' : Hp}
mutual
theorem Rep.sub {s : Nat → Option PV} (lw : ∀ a o, w.G a = some o → w'.G a = some o) (hs : ∀ k y v, s k = some y → Rep Γ w (.own k) v → Rep Γ w' y v) : ∀ {x y : PV} {v : V}, R.sub s x = some y → Rep Γ w x v → Rep Γ w' y v
  | .non, y, v, e, h => by
    cases e
    exact h
  | .bl _, y, v, e, h => by
    cases e
    exact h
  | .int _, y, v, e, h => by
    cases e
    exact h
  | .str _, y, v, e, h => by
    cases e
    exact h
  | .tup xs, y, v, e, h => by
    obtain ⟨a, vs, ev, q, r⟩ := h
    unfold R.sub at e
    split at e
    · rename_i ys ey
      cases e
      exact ⟨a, vs, ev, seqT_mono lw q, Reps.sub lw hs ey r⟩
    · cases e
  | .lst xs, y, v, e, h => by
    obtain ⟨a, vs, ev, q, r⟩ := h
    unfold R.sub at e
    split at e
    · rename_i ys ey
      cases e
      exact ⟨a, vs, ev, lw _ _ q, Reps.sub lw hs ey r⟩
    · cases e
  | .scr ns, y, v, e, h => by
    cases e
    obtain ⟨a, ev, q⟩ := h
    exact ⟨a, ev, seqL_mono lw q⟩
  | .obj c xs, y, v, e, h => by
    obtain ⟨a, dx, vs, ev, g, d, n, r⟩ := h
    unfold R.sub at e
    split at e
    · rename_i ys ey
      cases e
      exact ⟨a, dx, vs, ev, lw _ _ g, lw _ _ d, n, Reps.sub lw hs ey r⟩
    · cases e
  | .own k, y, v, e, h => hs k y v e h
  | .xs c t, y, v, e, h => by
    cases e
    obtain ⟨a, t1, ev, g, g2⟩ := h
    exact ⟨a, t1, ev, lw _ _ g, lw _ _ g2⟩
  | .xv c x, y, v, e, h => by
    obtain ⟨a, d, u, ev, g, g2, r⟩ := h
    unfold R.sub at e
    split at e
    · rename_i y' ey
      cases e
      exact ⟨a, d, u, ev, lw _ _ g, lw _ _ g2, Rep.sub lw hs ey r⟩
    · cases e
theorem Reps.sub {s : Nat → Option PV} (lw : ∀ a o, w.G a = some o → w'.G a = some o) (hs : ∀ k y v, s k = some y → Rep Γ w (.own k) v → Rep Γ w' y v) : ∀ {xs ys : List PV} {vs : List V}, subs s xs = some ys → Reps Γ w xs vs → Reps Γ w' ys vs
  | [], ys, vs, e, h => by
    cases e
    exact h
  | x :: xs, ys, vs, e, h => by
    obtain ⟨v, r, ev, h1, h2⟩ := h
    unfold subs at e
    split at e
    · rename_i y ey
      split at e
      · rename_i zs ez
        cases e
        exact ⟨v, r, ev, Rep.sub lw hs ey h1, Reps.sub lw hs ez h2⟩
      · cases e
    · cases e
end
open Classical in
/-- the heap of what doesn't change any more, with all cells from the n-th on -/
noncomputable def iced (w : Wd) (n : Nat) (H : Hp) : Hp := fun a =>
  if (∃ k, n ≤ k ∧ w.ρ[k]? = some a) ∨ (∃ k b, n ≤ k ∧ w.ρ[k]? = some b ∧ H a = some (.own b)) then H a else w.G a
noncomputable def Wd.ice (w : Wd) (n : Nat) (H : Hp) : Wd := ⟨iced w n H, w.ρ.take n⟩
theorem iced_no {n : Nat} {a : Addr} (h : ¬ ((∃ k, n ≤ k ∧ w.ρ[k]? = some a) ∨ (∃ k b, n ≤ k ∧ w.ρ[k]? = some b ∧ H a = some (.own b)))) : iced w n H a = w.G a := by
  unfold iced
  rw [if_neg h]
theorem iced_at {n k : Nat} {a : Addr} (hk : n ≤ k) (h : w.ρ[k]? = some a) : iced w n H a = H a := by
  unfold iced
  rw [if_pos (.inl ⟨k, hk, h⟩)]
theorem iced_own {n k : Nat} {a b : Addr} (hk : n ≤ k) (h : w.ρ[k]? = some b) (e : H a = some (.own b)) : iced w n H a = H a := by
  unfold iced
  rw [if_pos (.inr ⟨k, b, hk, h, e⟩)]
theorem SimP.iced_le (S : SimP Γ L w p H) (n : Nat) : ∀ a o, w.G a = some o → iced w n H a = some o := fun a o e => by
  unfold iced
  split
  · exact S.sub a o e
  · exact e
theorem SimP.iced_sub (S : SimP Γ L w p H) (n : Nat) : ∀ a o, iced w n H a = some o → H a = some o := fun a o e => by
  unfold iced at e
  split at e
  · exact e
  · exact S.sub a o e
theorem thw_ok (S : SimP Γ L w p H) (n : Nat) : ∀ (f k : Nat) (y : PV) (v : V), thw Γ.fld n p f k = some y → Rep Γ w (.own k) v → Rep Γ (w.ice n H) y v
  | 0, k, y, v, e, h => by
    obtain ⟨a, ha, rfl⟩ := h
    unfold thw at e
    split at e
    · rename_i hk
      cases e
      exact ⟨a, by show (w.ρ.take n)[k]? = _; rw [List.getElem?_take_of_lt hk]; exact ha, rfl⟩
    · cases e
  | f + 1, k, y, v, e, h => by
    obtain ⟨a, ha, rfl⟩ := h
    unfold thw at e
    split at e
    · rename_i hk
      cases e
      exact ⟨a, by show (w.ρ.take n)[k]? = _; rw [List.getElem?_take_of_lt hk]; exact ha, rfl⟩
    · rename_i hk
      have hnk : n ≤ k := by omega
      split at e
      · rename_i xs hp
        obtain ⟨b', hb, hc⟩ := S.at hp
        rw [ha] at hb
        cases hb
        obtain ⟨_, vs, eH, r⟩ := hc
        replace r := Reps.mono (w.low_le (L.lo k)) r
        split at e
        · rename_i ys ey
          cases e
          refine ⟨a, vs, rfl, ?_, Reps.sub (w' := w.ice n H) (S.iced_le n) (thw_ok S n f) ey r⟩
          show iced w n H a = _
          rw [iced_at hnk ha]
          exact eH
        · cases e
      · rename_i c fs hp
        obtain ⟨b', hb, hc⟩ := S.at hp
        rw [ha] at hb
        cases hb
        obtain ⟨_, dx, vs, eH, eD, _, hl, r⟩ := hc
        replace r := Reps.mono (w.low_le (L.lo k)) r
        split at e
        · rename_i hf
          split at e
          · rename_i ys ey
            cases e
            refine ⟨a, dx, vs, rfl, ?_, ?_, ?_, Reps.sub (w' := w.ice n H) (S.iced_le n) (thw_ok S n f) ey r⟩
            · show iced w n H a = _
              rw [iced_at hnk ha, eH]
            · show iced w n H dx = _
              rw [iced_own hnk ha eD]
              exact eD
            · rw [← r.length, hf]
          · cases e
        · cases e
      · cases e
theorem thaw_ok (S : SimP Γ L w p H) {n : Nat} {x y : PV} {v : V} (e : thaw Γ.fld n p x = some y) (h : Rep Γ w x v) : Rep Γ (w.ice n H) y v :=
  Rep.sub (S.iced_le n) (thw_ok S n deep) e h
/-- behind a callee: L the caller's -/
theorem SimP.ice {n : Nat} (S : SimP Γ (L.deeper n) w p H) (hb : L.b ≤ n) (hlo : ∀ k, L.b ≤ k → L.lo k = none) (hm : ∀ k m, L.lo k = some m → m ≤ n) : SimP Γ L (w.ice n H) (p.take n) H := by
  have hn : n ≤ p.length := S.hb
  have hl : (p.take n).length = n := by
    rw [List.length_take]
    omega
  refine ⟨S.iced_sub n, ?_, S.nd.sublist (List.take_sublist _ _), by rw [hl]; exact hb, hlo, fun k m e => by rw [hl]; exact hm k m e, fun k c a h1 h2 => ?_⟩
  · show (w.ρ.take n).length = _
    rw [List.length_take, List.length_take, S.len]
  · have hk : k < n := by
      have := (List.getElem?_eq_some_iff.mp h1).1
      rw [hl] at this
      exact this
    have h2 : (w.ρ.take n)[k]? = some a := h2
    rw [List.getElem?_take_of_lt hk] at h1 h2
    have x := S.cell k c a h1 h2
    have apart : ∀ j, n ≤ j → w.ρ[j]? ≠ some a := fun j hj ej => by
      have := nd_ix S.nd h2 ej
      omega
    rw [Lv.deeper_lt hk] at x
    have lw : (w.low (some (minO n (L.lo k)))).le ((w.ice n H).low (L.lo k)) := by
      cases e : L.lo k with
      | none => exact ⟨S.iced_le n, List.prefix_refl _⟩
      | some m =>
        refine ⟨S.iced_le n, ?_⟩
        show w.ρ.take (min m n) <+: (w.ρ.take n).take m
        rw [List.take_take]
        exact List.prefix_refl _
    have gG : ((w.ice n H).low (L.lo k)).G = iced w n H := Wd.low_G
    cases c with
    | lst xs =>
      obtain ⟨g, vs, eH, r⟩ := x
      rw [Wd.low_G] at g
      refine ⟨?_, vs, eH, Reps.mono lw r⟩
      rw [gG, iced_no]
      · exact g
      · rintro (⟨j, hj, e⟩ | ⟨j, c', hj, e1, e2⟩)
        · exact apart j hj e
        · rw [eH] at e2
          cases e2
    | obj cl fs =>
      obtain ⟨g, dx, vs, eH, eD, gd, hl, r⟩ := x
      rw [Wd.low_G] at g gd
      refine ⟨?_, dx, vs, eH, eD, ?_, hl, Reps.mono lw r⟩
      · rw [gG, iced_no]
        · exact g
        · rintro (⟨j, hj, e⟩ | ⟨j, c', hj, e1, e2⟩)
          · exact apart j hj e
          · rw [eH] at e2
            cases e2
      · rw [gG, iced_no]
        · exact gd
        · rintro (⟨j, hj, e⟩ | ⟨j, c', hj, e1, e2⟩)
          · obtain ⟨o, eo, no'⟩ := S.live (List.mem_of_getElem? e)
            rw [eD] at eo
            cases eo
            exact no' a rfl
          · rw [eD] at e2
            cases e2
            exact apart j hj e1
    | dead => exact x
theorem SimP.le_ice {w0 : Wd} (S : SimP Γ L w p H) {n : Nat} (l : w0.le w) (hn : w0.ρ.length = n) : w0.le (w.ice n H) := by
  refine ⟨fun a o e => S.iced_le n a o (l.1 a o e), ?_⟩
  obtain ⟨t, e⟩ := l.2
  show w0.ρ <+: w.ρ.take n
  rw [← e, ← hn, List.take_left]
  exact List.prefix_refl _
end
end R

/-! R2: what an expression, a test, a list of arguments, a statement comes to: by functions over values as trees and a pool -/
namespace R
open PySem L2

inductive Res (α : Type) where
  | ok (x : α) (p : Pool) | exc (c : Nat) (v : Option PV) (p : Pool) | stuck
/-- the names' values; b: how many cells are the callers' -/
structure En where
  b : Nat
  sl : List (Option PV)
abbrev M (α : Type) := En → Pool → Res α
def Res.bind {α β : Type} (r : Res α) (f : α → Pool → Res β) : Res β := match r with
  | .ok x p => f x p
  | .exc c v p => .exc c v p
  | .stuck => .stuck
inductive Ctl where
  | next (en : En) (p : Pool) | ret (x : PV) (p : Pool) | brk (en : En) (p : Pool) | cont (en : En) (p : Pool) | exc (c : Nat) (v : Option PV) (en : En) (p : Pool) | stuck
abbrev S := En → Pool → Ctl
def Res.run {α : Type} (r : Res α) (en : En) (f : α → Pool → Ctl) : Ctl := match r with
  | .ok x p => f x p
  | .exc c v p => .exc c v en p
  | .stuck => .stuck
def Ctl.andThen (r : Ctl) (f : S) : Ctl := match r with
  | .next en p => f en p
  | r => r

structure Cn where
  Γ : Cfg
  W : WX
def ExcR (Γ : Cfg) (w : Wd) (c : Nat) (ov : Option PV) (d : Option Addr) : Prop := match ov with
  | none => d = none
  | some x => ∃ dx v, d = some dx ∧ w.G dx = some (.xd [(Γ.exf c, v)]) ∧ Rep Γ w x v
theorem ExcR.mono {Γ : Cfg} {w w' : Wd} {c : Nat} {ov : Option PV} {d : Option Addr} (l : w.le w') (h : ExcR Γ w c ov d) : ExcR Γ w' c ov d := by
  cases ov with
  | none => exact h
  | some x =>
    obtain ⟨dx, v, e, g, r⟩ := h
    exact ⟨dx, v, e, l.1 _ _ g, r.mono l⟩
structure EnR (C : Cn) (L : Lv) (w : Wd) (en : En) (σ : St) : Prop where
  b : en.b = L.b
  len : en.sl.length = σ.length
  val : ∀ (i : Nat) x, en.sl[i]? = some (some x) → ∃ v, σ[i]? = some (some v) ∧ Rep C.Γ w x v
theorem EnR.mono {C : Cn} {L : Lv} {w w' : Wd} {en : En} {σ : St} (l : w.le w') (h : EnR C L w en σ) : EnR C L w' en σ :=
  ⟨h.b, h.len, fun i x e => let ⟨v, a, r⟩ := h.val i x e; ⟨v, a, r.mono l⟩⟩
theorem EnR.set {C : Cn} {L : Lv} {w : Wd} {en : En} {σ : St} (h : EnR C L w en σ) {i : Nat} {x : PV} {v : V} (r : Rep C.Γ w x v) : EnR C L w ⟨en.b, en.sl.set i (some x)⟩ (σ.set i (some v)) := by
  refine ⟨h.b, by rw [List.length_set, List.length_set]; exact h.len, fun j y e => ?_⟩
  have e : (en.sl.set i (some x))[j]? = some (some y) := e
  by_cases hj : j = i
  · subst hj
    have hl : j < en.sl.length := by
      have := (List.getElem?_eq_some_iff.mp e).1
      rw [List.length_set] at this
      exact this
    rw [List.getElem?_set_self hl] at e
    cases e
    exact ⟨v, List.getElem?_set_self (by rw [← h.len]; exact hl), r⟩
  · rw [List.getElem?_set_ne (Ne.symm hj)] at e
    obtain ⟨u, e1, e2⟩ := h.val j y e
    exact ⟨u, by rw [List.getElem?_set_ne (Ne.symm hj)]; exact e1, e2⟩

/-- what follows, of a thing that α's stand for -/
def Post {α β : Type} (C : Cn) (L : Lv) (w : Wd) (σ : St) (R : Wd → α → β → Prop) (r : Res α) (Q : β → Hp → Prop) : Prop := match r with
  | .ok x p => ∀ w' H' v, w.le w' → SimP C.Γ L w' p H' → R w' x v → Q v H'
  | .exc c ov p => ∀ w' H' d, w.le w' → SimP C.Γ L w' p H' → ExcR C.Γ w' c ov d → C.W (.ref (C.Γ.cls c)) d σ H'
  | .stuck => False
theorem Post.mono {α β : Type} {C : Cn} {L : Lv} {w w' : Wd} {σ : St} {R : Wd → α → β → Prop} {r : Res α} {Q : β → Hp → Prop} (l : w.le w') (h : Post C L w σ R r Q) : Post C L w' σ R r Q := by
  cases r with
  | ok x p => exact fun w2 H2 v l2 => h w2 H2 v (l.trans l2)
  | exc c v p => exact fun w2 H2 d l2 => h w2 H2 d (l.trans l2)
  | stuck => exact h
theorem Post.bind {α β γ δ : Type} {C : Cn} {L : Lv} {w : Wd} {σ : St} {R : Wd → α → β → Prop} {R' : Wd → γ → δ → Prop} {r : Res α} {f : α → Pool → Res γ} {Q : δ → Hp → Prop} {Q' : β → Hp → Prop} (h : Post C L w σ R' (r.bind f) Q)
    (k : ∀ x p w' H' v, w.le w' → SimP C.Γ L w' p H' → R w' x v → Post C L w' σ R' (f x p) Q → Q' v H') : Post C L w σ R r Q' := by
  cases r with
  | ok x p => exact fun w' H' v l S r => k x p w' H' v l S r (Post.mono l h)
  | exc c v p => exact h
  | stuck => exact h
theorem Post.ok {α β : Type} {C : Cn} {L : Lv} {w : Wd} {σ : St} {R : Wd → α → β → Prop} {x : α} {p : Pool} {Q : β → Hp → Prop} (h : Post C L w σ R (.ok x p) Q) {H : Hp} {v : β} (S : SimP C.Γ L w p H) (r : R w x v) : Q v H := h w H v (Wd.le.refl w) S r

abbrev RV (C : Cn) : Wd → PV → V → Prop := Rep C.Γ
abbrev RB : Wd → Bool → Bool → Prop := fun _ b c => b = c
abbrev RL (C : Cn) : Wd → List PV → List V → Prop := Reps C.Γ

/-! ### the judgements -/
def wE (C : Cn) (m : M PV) : TE := fun σ H Q => ∃ L w p en, SimP C.Γ L w p H ∧ EnR C L w en σ ∧ Post C L w σ (RV C) (m en p) Q
def wT (C : Cn) (m : M Bool) : TT := fun σ H Q => ∃ L w p en, SimP C.Γ L w p H ∧ EnR C L w en σ ∧ Post C L w σ RB (m en p) Q
def wA (C : Cn) (m : M (List PV)) : TA := fun σ H Q => ∃ L w p en, SimP C.Γ L w p H ∧ EnR C L w en σ ∧ Post C L w σ (RL C) (m en p) Q
def PostS (C : Cn) (L : Lv) (w : Wd) (D : Ends) (r : Ctl) : Prop := match r with
  | .next en p => ∀ w' H' σ', w.le w' → SimP C.Γ L w' p H' → EnR C L w' en σ' → D.nx σ' H'
  | .ret x p => ∀ w' H' v, w.le w' → SimP C.Γ L w' p H' → Rep C.Γ w' x v → D.rt v H'
  | .brk en p => ∀ w' H' σ', w.le w' → SimP C.Γ L w' p H' → EnR C L w' en σ' → D.bk σ' H'
  | .cont en p => ∀ w' H' σ', w.le w' → SimP C.Γ L w' p H' → EnR C L w' en σ' → D.ct σ' H'
  | .exc c ov en p => ∀ w' H' σ' d, w.le w' → SimP C.Γ L w' p H' → EnR C L w' en σ' → ExcR C.Γ w' c ov d → C.W (.ref (C.Γ.cls c)) d σ' H'
  | .stuck => False
def wS (C : Cn) (m : S) : TS := fun D σ H => ∃ L w p en, SimP C.Γ L w p H ∧ EnR C L w en σ ∧ PostS C L w D (m en p)
theorem PostS.mono {C : Cn} {L : Lv} {w w' : Wd} {D : Ends} {r : Ctl} (l : w.le w') (h : PostS C L w D r) : PostS C L w' D r := by
  cases r with
  | next en p => exact fun w2 H2 s l2 => h w2 H2 s (l.trans l2)
  | ret x p => exact fun w2 H2 s l2 => h w2 H2 s (l.trans l2)
  | brk en p => exact fun w2 H2 s l2 => h w2 H2 s (l.trans l2)
  | cont en p => exact fun w2 H2 s l2 => h w2 H2 s (l.trans l2)
  | exc c v en p => exact fun w2 H2 s d l2 => h w2 H2 s d (l.trans l2)
  | stuck => exact h
/-- off an expression into a statement -/
theorem PostS.run {α β : Type} {C : Cn} {L : Lv} {w : Wd} {en : En} {σ : St} {R : Wd → α → β → Prop} {r : Res α} {f : α → Pool → Ctl} {D : Ends} {Q' : β → Hp → Prop} (E : EnR C L w en σ) (h : PostS C L w D (r.run en f))
    (k : ∀ x p w' H' v, w.le w' → SimP C.Γ L w' p H' → R w' x v → PostS C L w' D (f x p) → Q' v H') : Post C L w σ R r Q' := by
  cases r with
  | ok x p => exact fun w' H' v l S r => k x p w' H' v l S r (PostS.mono l h)
  | exc c v p => exact fun w' H' d l S x => h w' H' σ d l S (E.mono l) x
  | stuck => exact h
theorem _root_.L2.PE.imp {X : Cx} {e : Expr} {t t' : TE} (h : PE X e t) (i : ∀ σ H Q, t' σ H Q → t σ H Q) : PE X e t' := ⟨fun pins s σ H Q I hq => h.run pins s σ H Q I (i _ _ _ hq)⟩
theorem _root_.L2.PT.imp {X : Cx} {e : Expr} {t t' : TT} (h : PT X e t) (i : ∀ σ H Q, t' σ H Q → t σ H Q) : PT X e t' := ⟨fun pins s σ H Q I hq => h.run pins s σ H Q I (i _ _ _ hq)⟩
theorem _root_.L2.PW.imp {X : Cx} {e : Expr} {t t' : TT} (h : PW X e t) (i : ∀ σ H Q, t' σ H Q → t σ H Q) : PW X e t' := ⟨fun wh pins s σ H Q I hq => h.run wh pins s σ H Q I (i _ _ _ hq)⟩
theorem _root_.L2.PA.imp {X : Cx} {e : List Expr} {t t' : TA} (h : PA X e t) (i : ∀ σ H Q, t' σ H Q → t σ H Q) : PA X e t' := ⟨fun pos pins s σ H Q I hq => h.run pos pins s σ H Q I (i _ _ _ hq)⟩
theorem _root_.L2.PS.imp {X : Cx} {e : Stmt} {t t' : TS} (h : PS X e t) (i : ∀ D σ H, t' D σ H → t D σ H) : PS X e t' := ⟨fun pins s σ H D I hq => h.run pins s σ H D I (i _ _ _ hq)⟩
theorem _root_.L2.PSs.imp {X : Cx} {e : List Stmt} {t t' : TS} (h : PSs X e t) (i : ∀ D σ H, t' D σ H → t D σ H) : PSs X e t' := ⟨fun pins s σ H D I hq => h.run pins s σ H D I (i _ _ _ hq)⟩
abbrev RE (X : Cx) (C : Cn) (e : Expr) (m : M PV) : Prop := PE X e (wE C m)
abbrev RT (X : Cx) (C : Cn) (e : Expr) (m : M Bool) : Prop := PT X e (wT C m)
abbrev RW (X : Cx) (C : Cn) (e : Expr) (m : M Bool) : Prop := PW X e (wT C m)
structure RA (X : Cx) (C : Cn) (es : List Expr) (m : M (List PV)) : Prop where
  pa : PA X es (wA C m)
  len : ∀ en p xs p1, m en p = .ok xs p1 → xs.length = es.length
abbrev RS (X : Cx) (C : Cn) (st : Stmt) (m : S) : Prop := PS X st (wS C m)
abbrev RSs (X : Cx) (C : Cn) (st : List Stmt) (m : S) : Prop := PSs X st (wS C m)

section
variable {X : Cx} {C : Cn} {pos : Pos}
/-! ### names, constants -/
def mVar (i : Nat) : M PV := fun en p => match en.sl[i]? with
  | some (some x) => .ok x p
  | _ => .stuck
def mC (x : PV) : M PV := fun _ p => .ok x p
theorem rv (i : Nat) {x : Str} (hN : X.N[i]? = some x := by rfl) (hv : Vis X.env.scope x := by first | exact Or.inl rfl | exact Or.inr (Or.inl rfl) | exact Or.inr (Or.inr rfl)) (hd : (x == ("__debug__" : Str)) = false := by decide)
    (hcd : (x == ("__classdict__" : Str)) = false := by decide) : RE X C (.Name x pos) (mVar i) := by
  refine (pe_var hN hv hd hcd).imp fun σ H Q ⟨L, w, p, en, S, E, h⟩ => ?_
  unfold mVar at h
  split at h
  · rename_i y e
    obtain ⟨v, e1, r⟩ := E.val i y e
    exact ⟨v, e1, h.ok S r⟩
  · exact h.elim
theorem re_int {i j} : RE X C (.Constant (.int i) j pos) (mC (.int i)) := pe_int.imp fun σ H Q ⟨L, w, p, en, S, E, h⟩ => h.ok S (rfl : Rep C.Γ w (.int i) (.int i))
theorem re_bl {b j} : RE X C (.Constant (.bool b) j pos) (mC (.bl b)) := pe_bl.imp fun σ H Q ⟨L, w, p, en, S, E, h⟩ => h.ok S (rfl : Rep C.Γ w (.bl b) (.bl b))
theorem re_non {j} : RE X C (.Constant .none j pos) (mC .non) := pe_non.imp fun σ H Q ⟨L, w, p, en, S, E, h⟩ => h.ok S (rfl : Rep C.Γ w .non .non)
theorem re_str {x j} : RE X C (.Constant (.str x) j pos) (mC (.str x)) := pe_str.imp fun σ H Q ⟨L, w, p, en, S, E, h⟩ => h.ok S (rfl : Rep C.Γ w (.str x) (.str x))
/-- a module's constant that is a number -/
theorem re_globI {x : Str} {i : Int} {u : Value} (hg : Gl X x) (hm : X.mg x = some u) (r : RelV (.int i) u) (hd : (x == ("__debug__" : Str)) = false := by decide) : RE X C (.Name x pos) (mC (.int i)) :=
  (pe_glob hg hm r hd).imp fun σ H Q ⟨L, w, p, en, S, E, h⟩ => h.ok S (rfl : Rep C.Γ w (.int i) (.int i))
/-- what is never come to -/
def mNo {α : Type} : M α := fun _ _ => .stuck
theorem re_no {e : Expr} : RE X C e mNo := ⟨fun _ _ _ _ _ _ ⟨_, _, _, _, _, _, h⟩ => h.elim⟩
theorem rt_no {e : Expr} : RT X C e mNo := ⟨fun _ _ _ _ _ _ ⟨_, _, _, _, _, _, h⟩ => h.elim⟩
/-! ### arguments, displays -/
def mNil : M (List PV) := fun _ p => .ok [] p
def mCons (a : M PV) (r : M (List PV)) : M (List PV) := fun en p => (a en p).bind fun x p1 => (r en p1).bind fun xs p2 => .ok (x :: xs) p2
theorem ra_nil : RA X C [] mNil := ⟨pa_nil.imp fun σ H Q ⟨L, w, p, en, S, E, h⟩ => h.ok S (Reps.nil), fun _ _ _ _ e => by
  cases e
  rfl⟩
theorem ra_cons {e : Expr} {es : List Expr} {a : M PV} {r : M (List PV)} (ha : RE X C e a) (hr : RA X C es r) (hs : starEach (e :: es) X.env = (false, eval e X.env) :: starEach es X.env := by rfl) : RA X C (e :: es) (mCons a r) := by
  refine ⟨(pa_cons ha hr.pa hs).imp fun σ H Q ⟨L, w, p, en, S, E, h⟩ => ?_, fun en p xs p1 q => ?_⟩
  · refine ⟨L, w, p, en, S, E, h.bind fun x p1 w1 H1 v l1 S1 r1 h1 => ?_⟩
    refine ⟨L, w1, p1, en, S1, E.mono l1, h1.bind fun xs p2 w2 H2 vs l2 S2 r2 h2 => ?_⟩
    exact h2.ok S2 (Reps.cons (r1.mono l2) r2)
  · unfold mCons at q
    cases e : a en p with
    | ok x p2 =>
      rw [e] at q
      have q : (r en p2).bind (fun xs p2 => Res.ok (x :: xs) p2) = Res.ok xs p1 := q
      cases e2 : r en p2 with
      | ok ys p3 =>
        rw [e2] at q
        cases q
        rw [List.length_cons, List.length_cons, hr.len _ _ _ _ e2]
      | exc c v p3 =>
        rw [e2] at q
        cases q
      | stuck =>
        rw [e2] at q
        cases q
    | exc c v p2 =>
      rw [e] at q
      cases q
    | stuck =>
      rw [e] at q
      cases q
def big : Nat := 100000
theorem big_le {n : Nat} (h : n ≤ big) : n ≤ sizeLine := Nat.le_trans h (by decide)
theorem big_lt {n : Nat} (h : n < big) : n < sizeLine := Nat.lt_of_lt_of_le h (by decide)
/-- a written tuple; a written list that doesn't change; one that does -/
def mTup (a : M (List PV)) : M PV := fun en p => (a en p).bind fun xs p1 => .ok (.tup xs) p1
def mLst (a : M (List PV)) : M PV := fun en p => (a en p).bind fun xs p1 => .ok (.lst xs) p1
def mLstO (a : M (List PV)) : M PV := fun en p => (a en p).bind fun xs p1 => .ok (.own p1.length) (p1 ++ [.lst xs])
theorem newTup {L : Lv} {w : Wd} {p : Pool} {H : Hp} (S : SimP C.Γ L w p H) {xs : List PV} {vs : List V} (r : Reps C.Γ w xs vs) {σ : St} {Q : VK} (h : Post C L w σ (RV C) (.ok (.tup xs) p) Q) : ∀ q, H q = none → Q (.ref q) (upd H q (.tup vs)) := fun q hq =>
  h _ _ _ (S.le_add hq) (S.new hq) ⟨q, vs, rfl, .inl (.inl add_at), r.mono (S.le_add hq)⟩
theorem newLst {L : Lv} {w : Wd} {p : Pool} {H : Hp} (S : SimP C.Γ L w p H) {xs : List PV} {vs : List V} (r : Reps C.Γ w xs vs) {σ : St} {Q : VK} (h : Post C L w σ (RV C) (.ok (.lst xs) p) Q) : ∀ q, H q = none → Q (.ref q) (upd H q (.lst vs)) := fun q hq =>
  h _ _ _ (S.le_add hq) (S.new hq) ⟨q, vs, rfl, add_at, r.mono (S.le_add hq)⟩
theorem newOwn {L : Lv} {w : Wd} {p : Pool} {H : Hp} (S : SimP C.Γ L w p H) {xs : List PV} {vs : List V} (r : Reps C.Γ w xs vs) {σ : St} {Q : VK} (h : Post C L w σ (RV C) (.ok (.own p.length) (p ++ [.lst xs])) Q) : ∀ q, H q = none → Q (.ref q) (upd H q (.lst vs)) := fun q hq => by
  refine h _ _ _ (w.le_cell q) (S.newCell hq ⟨S.free hq, vs, upd_same, r.mono (w.le_cell q)⟩) ⟨q, ?_, rfl⟩
  show (w.ρ ++ [q])[p.length]? = some q
  rw [← S.len]
  simp
theorem re_tup {es : List Expr} {x1} {a : M (List PV)} (h : RA X C es a) (hl : es.length ≤ sizeLine := by decide) : RE X C (.Tuple es x1 pos) (mTup a) := by
  refine (pe_tup h.pa).imp fun σ H Q ⟨L, w, p, en, S, E, q⟩ => ⟨L, w, p, en, S, E, ?_⟩
  unfold mTup at q
  cases e : a en p with
  | ok xs p1 =>
    rw [e] at q
    exact fun w' H' vs l S' r => ⟨by rw [← Reps.length r, h.len _ _ _ _ e]; exact hl, newTup S' r (Post.mono l q)⟩
  | exc c v p1 =>
    rw [e] at q
    exact q
  | stuck =>
    rw [e] at q
    exact q
theorem re_lst {es : List Expr} {a : M (List PV)} (h : RA X C es a) (hl : es.length ≤ sizeLine := by decide) : RE X C (.List es pos) (mLst a) := by
  refine (pe_lst h.pa).imp fun σ H Q ⟨L, w, p, en, S, E, q⟩ => ⟨L, w, p, en, S, E, ?_⟩
  unfold mLst at q
  cases e : a en p with
  | ok xs p1 =>
    rw [e] at q
    exact fun w' H' vs l S' r => ⟨by rw [← Reps.length r, h.len _ _ _ _ e]; exact hl, newLst S' r (Post.mono l q)⟩
  | exc c v p1 =>
    rw [e] at q
    exact q
  | stuck =>
    rw [e] at q
    exact q
theorem re_lstO {es : List Expr} {a : M (List PV)} (h : RA X C es a) (hl : es.length ≤ sizeLine := by decide) : RE X C (.List es pos) (mLstO a) := by
  refine (pe_lst h.pa).imp fun σ H Q ⟨L, w, p, en, S, E, q⟩ => ⟨L, w, p, en, S, E, ?_⟩
  unfold mLstO at q
  cases e : a en p with
  | ok xs p1 =>
    rw [e] at q
    exact fun w' H' vs l S' r => ⟨by rw [← Reps.length r, h.len _ _ _ _ e]; exact hl, newOwn S' r (Post.mono l q)⟩
  | exc c v p1 =>
    rw [e] at q
    exact q
  | stuck =>
    rw [e] at q
    exact q
/-! ### operators -/
abbrev F2 := PV → PV → Pool → Res PV
def mBin (f : F2) (a b : M PV) : M PV := fun en p => (a en p).bind fun x p1 => (b en p1).bind fun y p2 => f x y p2
def RefO (C : Cn) (r : R2) (f : F2) : Prop := ∀ L w p H σ x y vx vy Q, SimP C.Γ L w p H → Rep C.Γ w x vx → Rep C.Γ w y vy → Post C L w σ (RV C) (f x y p) Q → r vx vy H Q
theorem wE_op {r : R2} {f : F2} {ma mb : M PV} (hr : RefO C r f) : ∀ σ H Q, wE C (mBin f ma mb) σ H Q → tOp r (wE C ma) (wE C mb) σ H Q := fun σ H Q ⟨L, w, p, en, S, E, h⟩ => by
  refine ⟨L, w, p, en, S, E, h.bind fun x p1 w1 H1 v l1 S1 r1 h1 => ?_⟩
  refine ⟨L, w1, p1, en, S1, E.mono l1, h1.bind fun y p2 w2 H2 u l2 S2 r2 h2 => ?_⟩
  exact hr L w2 p2 H2 σ x y v u Q S2 (r1.mono l2) r2 h2
theorem re_bin {a b : Expr} {op : Operator} {r : R2} {f : F2} {ma mb : M PV} (ho : OpR X (binaryOp op) r) (hr : RefO C r f) (ha : RE X C a ma) (hb : RE X C b mb) : RE X C (.BinOp a op b pos) (mBin f ma mb) := (pe_op ho ha hb).imp (wE_op hr)
theorem re_cmp {a b : Expr} {op : CmpOp} {r : R2} {f : F2} {ma mb : M PV} (ho : OpR X (compareOp op) r) (hr : RefO C r f) (ha : RE X C a ma) (hb : RE X C b mb) (hm : behindInMarks op b = false) : RE X C (.Compare a [op] [b] pos) (mBin f ma mb) := (pe_cmpR ho ha hb hm).imp (wE_op hr)
/-- an expression that gives a truth, as a test -/
def mB (a : M PV) : M Bool := fun en p => (a en p).bind fun x p1 => match x with
  | .bl b => .ok b p1
  | _ => .stuck
theorem wT_test {t : TE} {m : M PV} (i : ∀ σ H Q, wE C m σ H Q → t σ H Q) : ∀ σ H Q, wT C (mB m) σ H Q → tTest t σ H Q := fun σ H Q ⟨L, w, p, en, S, E, h⟩ => by
  refine i σ H _ ⟨L, w, p, en, S, E, h.bind fun x p1 w1 H1 v l1 S1 r1 h1 => ?_⟩
  cases x with
  | bl b => exact ⟨b, r1, h1.ok S1 rfl⟩
  | _ => exact h1.elim
theorem rt_cmp {a b : Expr} {op : CmpOp} {r : R2} {f : F2} {ma mb : M PV} (ho : OpR X (compareOp op) r) (hr : RefO C r f) (ha : RE X C a ma) (hb : RE X C b mb) (hm : behindInMarks op b = false) : RT X C (.Compare a [op] [b] pos) (mB (mBin f ma mb)) := (pt_cmpR ho ha hb hm).imp (wT_test (wE_op hr))
theorem rt_val {e : Expr} {m : M PV} (h : RE X C e m) (he : ∀ whole, isTrue e X.env whole = (do let v ← whole; standAt e.pos; holding [v] (truthy v)) := by intro _; rfl) : RT X C e (mB m) := (pt_val h he).imp fun σ H Q q => wT_test (t := wE C m) (fun _ _ _ z => z) σ H Q q
/-- a < b < c -/
def mChain (f g : F2) (a b c : M PV) : M PV := fun en p => (a en p).bind fun x p1 => (b en p1).bind fun y p2 => (f x y p2).bind fun z p3 => match z with
  | .bl true => (c en p3).bind fun u p4 => g y u p4
  | .bl false => .ok (.bl false) p3
  | _ => .stuck
theorem wE_chain {r r' : R2} {f g : F2} {ma mb mc : M PV} (hr : RefO C r f) (hr' : RefO C r' g) : ∀ σ H Q, wE C (mChain f g ma mb mc) σ H Q → tChain r r' (wE C ma) (wE C mb) (wE C mc) σ H Q := fun σ H Q ⟨L, w, p, en, S, E, h⟩ => by
  refine ⟨L, w, p, en, S, E, h.bind fun x p1 w1 H1 v l1 S1 r1 h1 => ?_⟩
  refine ⟨L, w1, p1, en, S1, E.mono l1, h1.bind fun y p2 w2 H2 u l2 S2 r2 h2 => ?_⟩
  refine hr L w2 p2 H2 σ x y v u _ S2 (r1.mono l2) r2 (h2.bind fun z p3 w3 H3 o l3 S3 r3 h3 => ?_)
  cases z with
  | bl b =>
    refine ⟨b, r3, ?_⟩
    cases b with
    | true =>
      refine iteT ?_
      refine ⟨L, w3, p3, en, S3, E.mono ((l1.trans l2).trans l3), h3.bind fun t p4 w4 H4 e l4 S4 r4 h4 => ?_⟩
      exact hr' L w4 p4 H4 σ y t u e Q S4 (r2.mono (l3.trans l4)) r4 h4
    | false =>
      have e : o = V.bl false := r3
      subst e
      exact iteF (h3.ok S3 r3)
  | _ => exact h3.elim
theorem re_chain {a b c : Expr} {op op' : CmpOp} {r r' : R2} {f g : F2} {ma mb mc : M PV} (ho : OpR X (compareOp op) r) (hr : RefO C r f) (ho' : OpR X (compareOp op') r') (hr' : RefO C r' g) (ha : RE X C a ma) (hb : RE X C b mb) (hc : RE X C c mc)
    (hl : lastMarks [op, op'] [b, c] = false := by rfl) : RE X C (.Compare a [op, op'] [b, c] pos) (mChain f g ma mb mc) := (pe_chain ho ho' ha hb hc hl).imp (wE_chain hr hr')
theorem rt_chain {a b c : Expr} {op op' : CmpOp} {r r' : R2} {f g : F2} {ma mb mc : M PV} (ho : OpR X (compareOp op) r) (hr : RefO C r f) (ho' : OpR X (compareOp op') r') (hr' : RefO C r' g) (ha : RE X C a ma) (hb : RE X C b mb) (hc : RE X C c mc)
    (hl : lastMarks [op, op'] [b, c] = false := by rfl) : RT X C (.Compare a [op, op'] [b, c] pos) (mB (mChain f g ma mb mc)) := (pt_chain ho ho' ha hb hc hl).imp (wT_test (wE_chain hr hr'))
/-! ### and, or, not, if else -/
def mAnd (a b : M Bool) : M Bool := fun en p => (a en p).bind fun x p1 => if x = true then b en p1 else .ok false p1
def mOr (a b : M Bool) : M Bool := fun en p => (a en p).bind fun x p1 => if x = true then .ok true p1 else b en p1
def mNot (a : M Bool) : M Bool := fun en p => (a en p).bind fun x p1 => .ok (!x) p1
theorem rw_and1 {a : Expr} {m : M Bool} (h : RT X C a m) : RW X C (.BoolOp .And [a] pos) m := pw_and1 h
theorem rw_or1 {a : Expr} {m : M Bool} (h : RT X C a m) : RW X C (.BoolOp .Or [a] pos) m := pw_or1 h
theorem rw_and {a b : Expr} {rest : List Expr} {ma mb : M Bool} (ha : RT X C a ma) (hb : RW X C (.BoolOp .And (b :: rest) pos) mb) : RW X C (.BoolOp .And (a :: b :: rest) pos) (mAnd ma mb) :=
  (pw_and ha hb).imp fun σ H Q ⟨L, w, p, en, S, E, h⟩ => by
    refine ⟨L, w, p, en, S, E, h.bind fun x p1 w1 H1 v l1 S1 r1 h1 => ?_⟩
    cases r1
    cases x with
    | true => exact iteT ⟨L, w1, p1, en, S1, E.mono l1, h1⟩
    | false => exact iteF (h1.ok S1 rfl)
theorem rw_or {a b : Expr} {rest : List Expr} {ma mb : M Bool} (ha : RT X C a ma) (hb : RW X C (.BoolOp .Or (b :: rest) pos) mb) : RW X C (.BoolOp .Or (a :: b :: rest) pos) (mOr ma mb) :=
  (pw_or ha hb).imp fun σ H Q ⟨L, w, p, en, S, E, h⟩ => by
    refine ⟨L, w, p, en, S, E, h.bind fun x p1 w1 H1 v l1 S1 r1 h1 => ?_⟩
    cases r1
    cases x with
    | false => exact iteF ⟨L, w1, p1, en, S1, E.mono l1, h1⟩
    | true => exact iteT (h1.ok S1 rfl)
theorem rt_w {e : Expr} {m : M Bool} (h : RW X C e m) : RT X C e m := h.pt
theorem rt_not {a : Expr} {m : M Bool} (h : RT X C a m) : RT X C (.UnaryOp .Not a pos) (mNot m) := (pt_not h).imp fun σ H Q ⟨L, w, p, en, S, E, h⟩ => by
  refine ⟨L, w, p, en, S, E, h.bind fun x p1 w1 H1 v l1 S1 r1 h1 => ?_⟩
  cases r1
  exact h1.ok S1 rfl
/-- .. as values: all but the last one truths -/
def mAndV (a b : M PV) : M PV := fun en p => (a en p).bind fun x p1 => match x with
  | .bl true => b en p1
  | .bl false => .ok (.bl false) p1
  | _ => .stuck
def mOrV (a b : M PV) : M PV := fun en p => (a en p).bind fun x p1 => match x with
  | .bl true => .ok (.bl true) p1
  | .bl false => b en p1
  | _ => .stuck
def mNotV (a : M PV) : M PV := fun en p => (a en p).bind fun x p1 => match x with
  | .bl b => .ok (.bl (!b)) p1
  | _ => .stuck
theorem re_one {a : Expr} {op} {m : M PV} (h : RE X C a m) : RE X C (.BoolOp op [a] pos) m := pe_one h
theorem re_and {a b : Expr} {rest : List Expr} {ma mb : M PV} (ha : RE X C a ma) (hb : RE X C (.BoolOp .And (b :: rest) pos) mb) : RE X C (.BoolOp .And (a :: b :: rest) pos) (mAndV ma mb) :=
  (pe_and ha hb).imp fun σ H Q ⟨L, w, p, en, S, E, h⟩ => by
    refine ⟨L, w, p, en, S, E, h.bind fun x p1 w1 H1 v l1 S1 r1 h1 => ?_⟩
    cases x with
    | bl b =>
      refine ⟨b, r1, ?_⟩
      cases b with
      | true => exact iteT ⟨L, w1, p1, en, S1, E.mono l1, h1⟩
      | false => exact iteF (h1.ok S1 rfl)
    | _ => exact h1.elim
theorem re_or {a b : Expr} {rest : List Expr} {ma mb : M PV} (ha : RE X C a ma) (hb : RE X C (.BoolOp .Or (b :: rest) pos) mb) : RE X C (.BoolOp .Or (a :: b :: rest) pos) (mOrV ma mb) :=
  (pe_or ha hb).imp fun σ H Q ⟨L, w, p, en, S, E, h⟩ => by
    refine ⟨L, w, p, en, S, E, h.bind fun x p1 w1 H1 v l1 S1 r1 h1 => ?_⟩
    cases x with
    | bl b =>
      refine ⟨b, r1, ?_⟩
      cases b with
      | false => exact iteF ⟨L, w1, p1, en, S1, E.mono l1, h1⟩
      | true => exact iteT (h1.ok S1 rfl)
    | _ => exact h1.elim
theorem re_not {a : Expr} {ma : M PV} (ha : RE X C a ma) : RE X C (.UnaryOp .Not a pos) (mNotV ma) :=
  (pe_not ha).imp fun σ H Q ⟨L, w, p, en, S, E, h⟩ => by
    refine ⟨L, w, p, en, S, E, h.bind fun x p1 w1 H1 v l1 S1 r1 h1 => ?_⟩
    cases x with
    | bl b => exact ⟨b, r1, h1.ok S1 rfl⟩
    | _ => exact h1.elim
def mIf {α : Type} (t : M Bool) (a b : M α) : M α := fun en p => (t en p).bind fun x p1 => if x = true then a en p1 else b en p1
theorem re_if {c a b : Expr} {t : M Bool} {ma mb : M PV} (hc : RT X C c t) (ha : RE X C a ma) (hb : RE X C b mb) : RE X C (.IfExp c a b pos) (mIf t ma mb) := (pe_ifExp hc ha hb).imp fun σ H Q ⟨L, w, p, en, S, E, h⟩ => by
  refine ⟨L, w, p, en, S, E, h.bind fun x p1 w1 H1 v l1 S1 r1 h1 => ?_⟩
  cases r1
  cases x with
  | true => exact iteT ⟨L, w1, p1, en, S1, E.mono l1, h1⟩
  | false => exact iteF ⟨L, w1, p1, en, S1, E.mono l1, h1⟩
/-! ### statements -/
def sNop : S := fun en p => .next en p
def sSeq (a b : S) : S := fun en p => (a en p).andThen b
theorem PostS.andThen {L : Lv} {w : Wd} {D : Ends} {r : Ctl} {f : S} {t : TS} (h : PostS C L w D (r.andThen f)) (k : ∀ en p w' H' σ', w.le w' → SimP C.Γ L w' p H' → EnR C L w' en σ' → PostS C L w' D (f en p) → t D σ' H') : PostS C L w { D with nx := t D } r := by
  cases r with
  | next en p => exact fun w' H' σ' l S E => k en p w' H' σ' l S E (PostS.mono l h)
  | _ => exact h
theorem rss_nil : RSs X C [] sNop := pss_nil.imp fun D σ H ⟨L, w, p, en, S, E, h⟩ => h w H σ (Wd.le.refl w) S E
theorem rss_cons {st : Stmt} {rest : List Stmt} {a b : S} (ha : RS X C st a) (hb : RSs X C rest b) : RSs X C (st :: rest) (sSeq a b) := (pss_cons ha hb).imp fun D σ H ⟨L, w, p, en, S, E, h⟩ =>
  ⟨L, w, p, en, S, E, h.andThen fun en p w' H' σ' _ S' E' h' => ⟨L, w', p, en, S', E', h'⟩⟩
theorem rss_one {st : Stmt} {a : S} (ha : RS X C st a) : RSs X C [st] a := pss_one ha
def sNo : S := fun _ _ => .stuck
theorem rs_no {st : Stmt} : RS X C st sNo := ⟨fun _ _ _ _ _ _ ⟨_, _, _, _, _, _, h⟩ => h.elim⟩
theorem rss_no {st : List Stmt} : RSs X C st sNo := ⟨fun _ _ _ _ _ _ ⟨_, _, _, _, _, _, h⟩ => h.elim⟩
def sBrk : S := fun en p => .brk en p
def sCont : S := fun en p => .cont en p
theorem rs_pass : RS X C (.Pass pos) sNop := ps_pass.imp fun D σ H ⟨L, w, p, en, S, E, h⟩ => h w H σ (Wd.le.refl w) S E
theorem rs_break : RS X C (.Break pos) sBrk := ps_break.imp fun D σ H ⟨L, w, p, en, S, E, h⟩ => h w H σ (Wd.le.refl w) S E
theorem rs_continue : RS X C (.Continue pos) sCont := ps_continue.imp fun D σ H ⟨L, w, p, en, S, E, h⟩ => h w H σ (Wd.le.refl w) S E
theorem rs_doc {x j pos'} : RS X C (.Expr (.Constant (.str x) j pos) pos') sNop := ps_doc.imp fun D σ H ⟨L, w, p, en, S, E, h⟩ => h w H σ (Wd.le.refl w) S E
def sExpr (a : M PV) : S := fun en p => (a en p).run en fun _ p1 => .next en p1
theorem rs_expr {e : Expr} {a : M PV} (h : RE X C e a) (hs : swapsWith e none pos.line X.env = pure false := by rfl) : RS X C (.Expr e pos) (sExpr a) := (ps_expr h hs).imp fun D σ H ⟨L, w, p, en, S, E, h⟩ =>
  ⟨L, w, p, en, S, E, h.run E fun x p1 w1 H1 v l1 S1 r1 h1 => h1 w1 H1 σ (Wd.le.refl w1) S1 (E.mono l1)⟩
def sRet (a : M PV) : S := fun en p => (a en p).run en fun x p1 => .ret x p1
theorem rs_ret {e : Expr} {a : M PV} (h : RE X C e a) : RS X C (.Return (some e) pos) (sRet a) := (ps_ret h).imp fun D σ H ⟨L, w, p, en, S, E, h⟩ =>
  ⟨L, w, p, en, S, E, h.run E fun x p1 w1 H1 v l1 S1 r1 h1 => h1 w1 H1 v (Wd.le.refl w1) S1 r1⟩
theorem rs_retN : RS X C (.Return none pos) (sRet (mC .non)) := ps_retN.imp fun D σ H ⟨L, w, p, en, S, E, h⟩ => h w H .non (Wd.le.refl w) S rfl
def sIf (t : M Bool) (a b : S) : S := fun en p => (t en p).run en fun x p1 => if x = true then a en p1 else b en p1
theorem rs_if {c : Expr} {a b : List Stmt} {t : M Bool} {ma mb : S} (hc : RT X C c t) (ha : RSs X C a ma) (hb : RSs X C b mb) : RS X C (.If c a b pos) (sIf t ma mb) := (ps_if hc ha hb).imp fun D σ H ⟨L, w, p, en, S, E, h⟩ => by
  refine ⟨L, w, p, en, S, E, h.run E fun x p1 w1 H1 v l1 S1 r1 h1 => ?_⟩
  cases r1
  cases x with
  | true => exact iteT ⟨L, w1, p1, en, S1, E.mono l1, h1⟩
  | false => exact iteF ⟨L, w1, p1, en, S1, E.mono l1, h1⟩
/-! ### targets -/
/-- a target: the names' places and what they hold behind it -/
abbrev As := List (Nat × PV)
abbrev T1 := PV → Option As
abbrev TL := List PV → Option As
def En.set (en : En) (i : Nat) (x : PV) : En := ⟨en.b, en.sl.set i (some x)⟩
def En.sets (en : En) : As → En
  | [] => en
  | (i, x) :: r => (en.set i x).sets r
def setV (σ : St) : List (Nat × V) → St
  | [] => σ
  | (i, v) :: r => setV (σ.set i (some v)) r
theorem setV_append (σ : St) : ∀ as bs : List (Nat × V), setV σ (as ++ bs) = setV (setV σ as) bs
  | [], _ => rfl
  | (i, v) :: r, bs => setV_append _ r bs
theorem EnR.sets {L : Lv} {w : Wd} : ∀ {as : As} {bs : List (Nat × V)} {en : En} {σ : St}, EnR C L w en σ → bs.map (·.1) = as.map (·.1) → Reps C.Γ w (as.map (·.2)) (bs.map (·.2)) → EnR C L w (en.sets as) (setV σ bs)
  | [], [], _, _, E, _, _ => E
  | [], _ :: _, _, _, _, e, _ => by cases e
  | (i, x) :: as, [], _, _, _, e, _ => by cases e
  | (i, x) :: as, (j, v) :: bs, en, σ, E, e, r => by
    obtain ⟨u, us, eu, r1, r2⟩ := r
    rw [List.map_cons, List.cons.injEq] at eu
    obtain ⟨rfl, e2⟩ := eu
    rw [List.map_cons, List.map_cons, List.cons.injEq] at e
    obtain ⟨rfl, e3⟩ := e
    exact EnR.sets (bs := bs) (σ := σ.set j (some v)) (en := en.set j x) (E.set r1) e3 (by rw [show bs.map (·.2) = us from e2]; exact r2)
def wG (C : Cn) (m : T1) : TG := fun v σ H Q => ∃ L w p x as, SimP C.Γ L w p H ∧ Rep C.Γ w x v ∧ m x = some as ∧ ∀ bs : List (Nat × V), bs.map (·.1) = as.map (·.1) → Reps C.Γ w (as.map (·.2)) (bs.map (·.2)) → Q (setV σ bs) H
def wGs (C : Cn) (m : TL) : TGs := fun vs σ H Q => ∃ L w p xs as, SimP C.Γ L w p H ∧ Reps C.Γ w xs vs ∧ m xs = some as ∧ ∀ bs : List (Nat × V), bs.map (·.1) = as.map (·.1) → Reps C.Γ w (as.map (·.2)) (bs.map (·.2)) → Q (setV σ bs) H
abbrev RG (X : Cx) (C : Cn) (tg : Expr) (m : T1) : Prop := PG X tg (wG C m)
abbrev RGs (X : Cx) (C : Cn) (tg : List Expr) (m : TL) : Prop := PGs X tg (wGs C m)
theorem _root_.L2.PG.imp {X : Cx} {e : Expr} {t t' : TG} (h : PG X e t) (i : ∀ v σ H Q, t' v σ H Q → t v σ H Q) : PG X e t' := ⟨fun pins s σ H v u Q I r hq => h.run pins s σ H v u Q I r (i _ _ _ _ hq)⟩
theorem _root_.L2.PGs.imp {X : Cx} {e : List Expr} {t t' : TGs} (h : PGs X e t) (i : ∀ v σ H Q, t' v σ H Q → t v σ H Q) : PGs X e t' := ⟨fun pins s σ H v u Q I r hq => h.run pins s σ H v u Q I r (i _ _ _ _ hq)⟩
def tgN (i : Nat) : T1 := fun x => some [(i, x)]
theorem rg_name {i : Nat} {x : Str} (hN : X.N.Nodup) (hi : X.N[i]? = some x) (hx : L2.Loc X.env.scope x) (hf : X.fn x = true ∨ X.env.scope.names.lookup x = some .local := by first | exact .inl rfl | exact .inr rfl | assumption) : RG X C (.Name x pos) (tgN i) :=
  (pg_name hN hi hx hf).imp fun v σ H Q ⟨L, w, p, x, as, S, r, e, h⟩ => by
    cases e
    exact h [(i, v)] rfl ⟨v, [], rfl, r, rfl⟩
def tgNil : TL := fun xs => match xs with
  | [] => some []
  | _ => none
def tgCons (g : T1) (gs : TL) : TL := fun xs => match xs with
  | x :: r => match g x with
    | some as => match gs r with
      | some bs => some (as ++ bs)
      | none => none
    | none => none
  | [] => none
theorem rgs_nil : RGs X C [] tgNil := pgs_nil.imp fun v σ H Q ⟨L, w, p, xs, as, S, r, e, h⟩ => by
  cases xs with
  | nil =>
    cases e
    exact ⟨r, h [] rfl rfl⟩
  | cons _ _ => cases e
theorem rgs_cons {e : Expr} {es : List Expr} {g : T1} {gs : TL} (h1 : RG X C e g) (h2 : RGs X C es gs) (hs : (assignEach (e :: es) X.env).map (·.2) = assign e X.env :: (assignEach es X.env).map (·.2) := by rfl) : RGs X C (e :: es) (tgCons g gs) :=
  (pgs_cons h1 h2 hs).imp fun v σ H Q ⟨L, w, p, xs, as, S, r, e, h⟩ => by
    cases xs with
    | nil => cases e
    | cons x xs =>
      obtain ⟨u, us, e1, r1, r2⟩ := r
      refine ⟨u, us, e1, ?_⟩
      unfold tgCons at e
      dsimp only at e
      cases e2 : g x with
      | none =>
        rw [e2] at e
        cases e
      | some as1 =>
        cases e3 : gs xs with
        | none =>
          rw [e2, e3] at e
          cases e
        | some as2 =>
          rw [e2, e3] at e
          cases e
          refine ⟨L, w, p, x, as1, S, r1, e2, fun bs1 f1 q1 => ⟨L, w, p, xs, as2, S, r2, e3, fun bs2 f2 q2 => ?_⟩⟩
          rw [← setV_append]
          refine h _ ?_ ?_
          · rw [List.map_append, List.map_append, f1, f2]
          · rw [List.map_append, List.map_append]
            exact q1.append q2
def tgT (n : Nat) (gs : TL) : T1 := fun x => match x with
  | .tup xs => if xs.length = n then gs xs else none
  | _ => none
theorem rg_tup {es : List Expr} {k : Nat} {gs : TL} {n : Nat} (hc : X.calm = true) (hK : X.K = C.Γ.K) (h : RGs X C es gs) (hn : (assignEach es X.env).length = n := by rfl) (hst : (assignEach es X.env).findIdx? (·.1) = none := by rfl) : RG X C (.Tuple es k pos) (tgT n gs) :=
  (pg_tup hc h hn hst).imp fun v σ H Q ⟨L, w, p, x, as, S, r, e, h⟩ => by
    cases x with
    | tup xs =>
      obtain ⟨a, vs, e1, q, r⟩ := r
      unfold tgT at e
      dsimp only at e
      split at e
      · rename_i hl
        exact ⟨a, vs, e1, by rw [hK]; exact seqT_mono S.sub q, by rw [← r.length]; exact hl, L, w, p, xs, as, S, r, e, h⟩
      · cases e
    | _ => cases e
def sAsg (a : M PV) (g : T1) : S := fun en p => (a en p).run en fun x p1 => match g x with
  | some as => .next (en.sets as) p1
  | none => .stuck
theorem rs_asg {tg e : Expr} {a : M PV} {g : T1} (ha : RE X C e a) (hg : RG X C tg g) (h1 : swapsWithSole [tg] e pos.line X.env = pure false := by rfl) (h2 : swappedStores [tg] e X.env = pure none := by rfl)
    (h3 : (assignEach [tg] X.env).map (·.2) = [assign tg X.env] := by rfl) : RS X C (.Assign [tg] e pos) (sAsg a g) := (ps_asg ha hg h1 h2 h3).imp fun D σ H ⟨L, w, p, en, S, E, h⟩ => by
  refine ⟨L, w, p, en, S, E, h.run E fun x p1 w1 H1 v l1 S1 r1 h1 => ?_⟩
  split at h1
  · rename_i as e1
    exact ⟨L, w1, p1, x, as, S1, r1, e1, fun bs f q => h1 w1 H1 _ (Wd.le.refl w1) S1 ((E.mono l1).sets f q)⟩
  · exact h1.elim
def sSet (a : M PV) (i : Nat) : S := fun en p => (a en p).run en fun x p1 => .next (en.set i x) p1
theorem rs_set {i : Nat} {x : Str} {e : Expr} {a : M PV} {pos' : Pos} (hN : X.N.Nodup) (hi : X.N[i]? = some x) (hx : L2.Loc X.env.scope x) (ha : RE X C e a) (h1 : swapsWith e (some (.Name x pos')) pos.line X.env = pure false := by rfl)
    (hf : X.fn x = true ∨ X.env.scope.names.lookup x = some .local := by first | exact .inl rfl | exact .inr rfl | assumption) : RS X C (.Assign [.Name x pos'] e pos) (sSet a i) := (ps_set hN hi hx ha h1 hf).imp fun D σ H ⟨L, w, p, en, S, E, h⟩ => by
  refine ⟨L, w, p, en, S, E, h.run E fun x p1 w1 H1 v l1 S1 r1 h1 => ?_⟩
  exact h1 w1 H1 _ (Wd.le.refl w1) S1 ((E.mono l1).set r1)
/-- a, b = x, y -/
def sPar (i j : Nat) (a : M (List PV)) : S := fun en p => (a en p).run en fun xs p1 => match xs with
  | [x, y] => .next ((en.set i x).set j y) p1
  | _ => .stuck
theorem rs_par {i j : Nat} {x y : Str} {a b : Expr} {ma : M (List PV)} {px py pt : Pos} {kt k2 : Nat} {pt2 : Pos} (hc : X.calm = true) (hN : X.N.Nodup) (hi : X.N[i]? = some x) (hj : X.N[j]? = some y) (hij : i ≠ j) (lx : X.env.scope.names.lookup x = some .local) (ly : X.env.scope.names.lookup y = some .local)
    (ha : RA X C [a, b] ma) (h1 : swappedStores [.Tuple [.Name x px, .Name y py] kt pt] (.Tuple [a, b] k2 pt2) X.env = pure (some [x, y]))
    (h2 : swapsWithSole [.Tuple [.Name x px, .Name y py] kt pt] (.Tuple [a, b] k2 pt2) pos.line X.env = pure false := by rfl) : RS X C (.Assign [.Tuple [.Name x px, .Name y py] kt pt] (.Tuple [a, b] k2 pt2) pos) (sPar i j ma) :=
  (ps_par hc hN hi hj hij lx ly ha.pa h1 h2).imp fun D σ H ⟨L, w, p, en, S, E, h⟩ => by
    refine ⟨L, w, p, en, S, E, h.run E fun xs p1 w1 H1 vs l1 S1 r1 h1 => ?_⟩
    split at h1
    · rename_i x y
      obtain ⟨v, r, rfl, rx, r⟩ := r1
      obtain ⟨u, r', rfl, ry, r⟩ := r
      obtain rfl : r' = [] := r
      exact ⟨v, u, rfl, h1 w1 H1 _ (Wd.le.refl w1) S1 (((E.mono l1).set rx).set ry)⟩
    · exact h1.elim
def sAug (i : Nat) (f : F2) (a : M PV) : S := fun en p => match en.sl[i]? with
  | some (some x) => (a en p).run en fun y p1 => (f x y p1).run en fun z p2 => .next (en.set i z) p2
  | _ => .stuck
theorem rs_aug {i : Nat} {x : Str} {e : Expr} {op : Operator} {ti : TIp} {f : F2} {a : M PV} {pos' : Pos} (hN : X.N.Nodup) (hi : X.N[i]? = some x) (hx : L2.Loc X.env.scope x) (ha : RE X C e a) (hp : PIp X op ti) (hr : RefO C ti f)
    (hf : X.fn x = true ∨ X.env.scope.names.lookup x = some .local := by first | exact .inl rfl | exact .inr rfl | assumption) : RS X C (.AugAssign (.Name x pos') op e pos) (sAug i f a) := (ps_aug hN hi hx ha hp hf).imp fun D σ H ⟨L, w, p, en, S, E, h⟩ => by
  unfold sAug at h
  split at h
  · rename_i x e1
    obtain ⟨v, e2, rx⟩ := E.val i x e1
    refine ⟨v, e2, L, w, p, en, S, E, h.run E fun y p1 w1 H1 u l1 S1 r1 h1 => ?_⟩
    refine hr L w1 p1 H1 σ x y v u _ S1 (rx.mono l1) r1 (h1.run (E.mono l1) fun z p2 w2 H2 o l2 S2 r2 h2 => ?_)
    exact h2 w2 H2 _ (Wd.le.refl w2) S2 (((E.mono l1).mono l2).set r2)
  · exact h.elim
end
end R

/-! R3: operators, items, slices, values of objects, built-in functions, stores, loops -/
namespace R
open PySem L2

theorem OpR.or {X : Cx} {f : Value → Value → Sem Value} {r r' : R2} (h : OpR X f r) (h' : OpR X f r') : OpR X f (fun x y H Q => r x y H Q ∨ r' x y H Q) := fun pins s σ H x y v u Q I rx ry q => by
  rcases q with q | q
  · exact h pins s σ H x y v u Q I rx ry q
  · exact h' pins s σ H x y v u Q I rx ry q
theorem CallR.or {X : Cx} {f : Value} {r r' : List V → Hp → VK → Prop} (h : CallR X f r) (h' : CallR X f r') : CallR X f (fun xs H Q => r xs H Q ∨ r' xs H Q) := fun pins s σ H xs us Q I rx q => by
  rcases q with q | q
  · exact h pins s σ H xs us Q I rx q
  · exact h' pins s σ H xs us Q I rx q

/-! ### lists as they stand -/
def getL (p : Pool) : PV → Option (List PV)
  | .lst xs => some xs
  | .own k => match p[k]? with
    | some (.lst xs) => some xs
    | _ => none
  | _ => none
/-- .. or the script -/
def getR (p : Pool) : PV → Option (List PV)
  | .scr ns => some (ns.map .int)
  | x => getL p x
def getQ (p : Pool) : PV → Option (List PV)
  | .tup xs => some xs
  | x => getR p x
section
variable {Γ : Cfg} {L : Lv} {w : Wd} {p : Pool} {H : Hp}
theorem Rep.ownH (S : SimP Γ L w p H) {k : Nat} {v : V} {xs : List PV} (r : Rep Γ w (.own k) v) (e : p[k]? = some (.lst xs)) : ∃ a vs, v = .ref a ∧ w.ρ[k]? = some a ∧ w.G a = none ∧ H a = some (.lst vs) ∧ Reps Γ (w.low (L.lo k)) xs vs := by
  obtain ⟨a, ha, rfl⟩ := r
  obtain ⟨b, hb, hc⟩ := S.at e
  rw [ha] at hb
  cases hb
  obtain ⟨g, vs, eH, r⟩ := hc
  rw [Wd.low_G] at g
  exact ⟨a, vs, rfl, ha, g, eH, r⟩
/-- a list that is no other's: as it stands -/
theorem getL_at (S : SimP Γ L w p H) {x : PV} {v : V} {xs : List PV} (r : Rep Γ w x v) (e : getL p x = some xs) : ∃ a vs, v = .ref a ∧ H a = some (.lst vs) ∧ Reps Γ w xs vs := by
  cases x with
  | lst ys =>
    cases e
    obtain ⟨a, vs, ev, q, r⟩ := r
    exact ⟨a, vs, ev, S.sub _ _ q, r⟩
  | own k =>
    unfold getL at e
    dsimp only at e
    split at e
    · rename_i ys ey
      cases e
      obtain ⟨a, vs, ev, _, _, eH, r⟩ := Rep.ownH S r ey
      exact ⟨a, vs, ev, eH, r.mono (w.low_le _)⟩
    · cases e
  | _ => cases e
theorem getR_ok (S : SimP Γ L w p H) {x : PV} {v : V} {xs : List PV} (r : Rep Γ w x v) (e : getR p x = some xs) : ∃ a vs, v = .ref a ∧ SqL Γ.K H a vs ∧ Reps Γ w xs vs := by
  cases x with
  | scr ns =>
    cases e
    obtain ⟨a, ev, q⟩ := r
    exact ⟨a, _, ev, seqL_mono S.sub q, Reps.ints⟩
  | _ =>
    obtain ⟨a, vs, ev, q, r⟩ := getL_at S r e
    exact ⟨a, vs, ev, .inl (.inl q), r⟩
theorem getQ_ok (S : SimP Γ L w p H) {x : PV} {v : V} {xs : List PV} (r : Rep Γ w x v) (e : getQ p x = some xs) : ∃ a vs, v = .ref a ∧ (SqL Γ.K H a vs ∨ SqT Γ.K H a vs) ∧ Reps Γ w xs vs := by
  cases x with
  | tup ys =>
    cases e
    obtain ⟨a, vs, ev, q, r⟩ := r
    exact ⟨a, vs, ev, .inr (seqT_mono S.sub q), r⟩
  | _ =>
    obtain ⟨a, vs, ev, q, r⟩ := getR_ok S r e
    exact ⟨a, vs, ev, .inl q, r⟩
end

section
variable {X : Cx} {C : Cn} {pos : Pos}
/-! ### numbers -/
def f2I (g : Int → Int → PV) : F2 := fun x y p => match x, y with
  | .int i, .int j => .ok (g i j) p
  | _, _ => .stuck
def f2C (c : Int → Int → Bool) (g : Int → Int → PV) : F2 := fun x y p => match x, y with
  | .int i, .int j => if c i j = true then .ok (g i j) p else .stuck
  | _, _ => .stuck
theorem ref_I0 {g : Int → Int → PV} {h : Int → Int → V} (e : ∀ w i j, Rep C.Γ w (g i j) (h i j)) : RefO C (rI0 h) (f2I g) := fun L w p H σ x y vx vy Q S rx ry q => by
  unfold f2I at q
  split at q
  · rename_i i j
    exact ⟨i, j, rx, ry, q.ok S (e w i j)⟩
  · exact q.elim
theorem ref_I {c : Int → Int → Bool} {P : Int → Int → Prop} {g : Int → Int → PV} {h : Int → Int → V} (e : ∀ w i j, Rep C.Γ w (g i j) (h i j)) (hc : ∀ i j, c i j = true → P i j) : RefO C (rI P h) (f2C c g) := fun L w p H σ x y vx vy Q S rx ry q => by
  unfold f2C at q
  split at q
  · rename_i i j
    split at q
    · rename_i hh
      exact ⟨i, j, rx, ry, hc i j hh, q.ok S (e w i j)⟩
    · exact q.elim
  · exact q.elim
def pSub : F2 := f2I fun i j => .int (i - j)
theorem ref_sub : RefO C (rI0 fun i j => .int (i - j)) pSub := ref_I0 fun _ _ _ => rfl
def pLt : F2 := f2I fun i j => .bl (decide (i < j))
def pLe : F2 := f2I fun i j => .bl (decide (i ≤ j))
def pGt : F2 := f2I fun i j => .bl (decide (j < i))
def pGe : F2 := f2I fun i j => .bl (decide (j ≤ i))
def okMod (i j : Int) : Bool := decide (j ≠ 0)
def pMod : F2 := f2C okMod fun i j => .int (i.fmod j)
theorem ref_mod : RefO C (rI (fun i j => j ≠ 0) fun i j => .int (i.fmod j)) pMod := ref_I (fun _ _ _ => rfl) fun i j h => of_decide_eq_true h
def okDiv (i j : Int) : Bool := decide (j ≠ 0 ∧ (j.natAbs < 1073741824 ∨ (0 < j ∧ j.natAbs.log2 < 9000)))
def pDiv : F2 := f2C okDiv fun i j => .int (i.fdiv j)
def rDiv : R2 := fun x y H Q => rI CDivN (fun i j => .int (i.fdiv j)) x y H Q ∨ rI CDivW (fun i j => .int (i / j)) x y H Q
theorem op_div : OpR X (binaryOp .FloorDiv) rDiv := OpR.or op_fdivN op_fdivW
theorem ref_div : RefO C rDiv pDiv := fun L w p H σ x y vx vy Q S rx ry q => by
  unfold pDiv f2C at q
  split at q
  · rename_i i j
    split at q
    · rename_i hh
      obtain ⟨h0, h1 | ⟨h1, h2⟩⟩ := of_decide_eq_true hh
      · exact .inl ⟨i, j, rx, ry, ⟨h0, h1⟩, q.ok S rfl⟩
      · refine .inr ⟨i, j, rx, ry, ⟨h1, h2⟩, ?_⟩
        have e : i / j = i.fdiv j := (Int.fdiv_eq_ediv_of_nonneg i (by omega)).symm
        show Q (V.int (i / j)) H
        rw [e]
        exact q.ok S rfl
    · exact q.elim
  · exact q.elim
def okPow (i j : Int) : Bool := decide (0 ≤ j ∧ j ≤ 1000000 ∧ i.natAbs < 2 ^ 64)
def pPow : F2 := f2C okPow fun i j => .int (i ^ j.toNat)
theorem ref_pow : RefO C (rI CPow fun i j => .int (i ^ j.toNat)) pPow := ref_I (fun _ _ _ => rfl) fun i j h => show 0 ≤ j ∧ j ≤ 1000000 ∧ i.natAbs < 2 ^ 64 from of_decide_eq_true h
/-! ### +, *: numbers, lists, tuples -/
def rAdd : R2 := fun x y H Q => rI0 (fun i j => .int (i + j)) x y H Q ∨ (rCatA C.Γ.K x y H Q ∨ rCat x y H Q)
theorem op_addU (hK : X.K = C.Γ.K) : OpR X (binaryOp .Add) (rAdd (C := C)) := by
  have h : OpR X (binaryOp .Add) (rCatA C.Γ.K) := hK ▸ op_catA
  exact OpR.or op_add (OpR.or h op_cat)
def pAdd : F2 := fun x y p => match x, y with
  | .int i, .int j => .ok (.int (i + j)) p
  | .tup xs, .tup ys => if xs.length + ys.length ≤ big then .ok (.tup (xs ++ ys)) p else .stuck
  | x, y => match getL p x, getL p y with
    | some xs, some ys => if xs.length + ys.length ≤ big then .ok (.lst (xs ++ ys)) p else .stuck
    | _, _ => .stuck
theorem Reps.isNil {Γ : Cfg} {w : Wd} {xs : List PV} {vs : List V} (r : Reps Γ w xs vs) : xs = [] ↔ vs = [] := by
  have h := r.length
  constructor
  · rintro rfl
    exact List.eq_nil_of_length_eq_zero h.symm
  · rintro rfl
    exact List.eq_nil_of_length_eq_zero h
theorem ref_add : RefO C (rAdd (C := C)) pAdd := fun L w p H σ x y vx vy Q S rx ry q => by
  unfold pAdd at q
  split at q
  · rename_i i j
    exact .inl ⟨i, j, rx, ry, q.ok S rfl⟩
  · rename_i xs ys
    split at q
    · rename_i hl
      obtain ⟨a, vs, ea, sa, ra⟩ := rx
      obtain ⟨b, us, eb, sb, rb⟩ := ry
      refine .inr (.inl ⟨a, b, vs, us, ea, eb, seqT_mono S.sub sa, seqT_mono S.sub sb, ?_, fun z => ?_, fun z1 z2 => ?_, fun _ _ => ?_⟩)
      · rw [← ra.length, ← rb.length]
        exact big_le hl
      · have e := ra.isNil.mpr z
        subst e
        rw [← eb]
        exact q.ok S ⟨b, us, eb, sb, rb⟩
      · have e := rb.isNil.mpr z2
        subst e
        rw [← ea]
        refine q.ok S ⟨a, vs, ea, sa, ?_⟩
        rw [List.append_nil]
        exact ra
      · exact newTup S (ra.append rb) q
    · exact q.elim
  · rename_i x y _ _
    split at q
    · rename_i xs ys e1 e2
      split at q
      · rename_i hl
        obtain ⟨a, vs, ea, sa, ra⟩ := getL_at S rx e1
        obtain ⟨b, us, eb, sb, rb⟩ := getL_at S ry e2
        exact .inr (.inr ⟨a, b, vs, us, ea, eb, sa, sb, by rw [← ra.length, ← rb.length]; exact big_le hl, newLst S (ra.append rb) q⟩)
      · exact q.elim
    · exact q.elim
def okMul (i j : Int) : Bool := decide (((-(2 ^ 64) < i ∧ i < 2 ^ 64) ∨ (-(2 ^ 64) < j ∧ j < 2 ^ 64)) ∨ i.natAbs.log2 + j.natAbs.log2 < 1000000)
def rMul : R2 := fun x y H Q => rI CMul (fun i j => .int (i * j)) x y H Q ∨ rI CMulW (fun i j => .int (i * j)) x y H Q ∨ rRep x y H Q
theorem op_mulU : OpR X (binaryOp .Mult) rMul := OpR.or op_mul (OpR.or op_mulW op_rep)
/-- so many times the same -/
def times (n : Nat) (xs : List PV) : List PV := (List.replicate n xs).flatten
def pMul : F2 := fun x y p => match x, y with
  | .int i, .int j => if okMul i j = true then .ok (.int (i * j)) p else .stuck
  | x, .int k => match getL p x with
    | some xs => if k ≤ 1000 ∧ -1000 ≤ k ∧ xs.length * k.toNat ≤ big then .ok (.lst (times k.toNat xs)) p else .stuck
    | _ => .stuck
  | _, _ => .stuck
theorem Reps.times {Γ : Cfg} {w : Wd} {xs : List PV} {vs : List V} (r : Reps Γ w xs vs) : ∀ n : Nat, Reps Γ w (R.times n xs) (List.replicate n vs).flatten
  | 0 => rfl
  | n + 1 => by
    show Reps Γ w (List.replicate (n + 1) xs).flatten (List.replicate (n + 1) vs).flatten
    rw [List.replicate_succ, List.replicate_succ, List.flatten_cons, List.flatten_cons]
    exact r.append (Reps.times r n)
theorem ref_mul : RefO C rMul pMul := fun L w p H σ x y vx vy Q S rx ry q => by
  unfold pMul at q
  split at q
  · rename_i i j
    split at q
    · rename_i hh
      rcases of_decide_eq_true hh with h | h
      · exact .inl ⟨i, j, rx, ry, h, q.ok S rfl⟩
      · exact .inr (.inl ⟨i, j, rx, ry, h, q.ok S rfl⟩)
    · exact q.elim
  · rename_i k _
    split at q
    · rename_i xs e
      split at q
      · rename_i hl
        obtain ⟨a, vs, ea, sa, ra⟩ := getL_at S rx e
        exact .inr (.inr ⟨a, k, vs, ea, ry, sa, by omega, by omega, by rw [← ra.length]; exact big_le hl.2.2, newLst S (ra.times _) q⟩)
      · exact q.elim
    · exact q.elim
  · exact q.elim
/-! ### == -/
mutual
/-- as data -/
def toD : PV → Option PyData
  | .non => some .none
  | .bl b => some (.bool b)
  | .int i => some (.int i)
  | .str s => some (.str s)
  | .tup xs => match toDs xs with
    | some ds => some (.tuple ds)
    | none => none
  | .lst xs => match toDs xs with
    | some ds => some (.list ds)
    | none => none
  | _ => none
def toDs : List PV → Option (List PyData)
  | [] => some []
  | x :: xs => match toD x with
    | some d => match toDs xs with
      | some ds => some (d :: ds)
      | none => none
    | none => none
end
mutual
theorem toD_ok {L : Lv} {w : Wd} {p : Pool} {H : Hp} (S : SimP C.Γ L w p H) : ∀ {x : PV} {v : V} {d : PyData}, Rep C.Γ w x v → toD x = some d → Dp C.Γ.K H v d
  | .non, v, d, r, e => by
    cases e
    cases r
    exact .non
  | .bl b, v, d, r, e => by
    cases e
    cases r
    exact .bl _
  | .int i, v, d, r, e => by
    cases e
    cases r
    exact .int _
  | .str s, v, d, r, e => by
    cases e
    cases r
    exact .str _
  | .tup xs, v, d, r, e => by
    obtain ⟨a, vs, rfl, q, r⟩ := r
    unfold toD at e
    split at e
    · rename_i ds ed
      cases e
      exact .tup (seqT_mono S.sub q) (toDs_ok S r ed)
    · cases e
  | .lst xs, v, d, r, e => by
    obtain ⟨a, vs, rfl, q, r⟩ := r
    unfold toD at e
    split at e
    · rename_i ds ed
      cases e
      exact .lst (.inl (.inl (S.sub _ _ q))) (toDs_ok S r ed)
    · cases e
  | .obj _ _, _, _, _, e => by cases e
  | .own _, _, _, _, e => by cases e
  | .scr _, _, _, _, e => by cases e
theorem toDs_ok {L : Lv} {w : Wd} {p : Pool} {H : Hp} (S : SimP C.Γ L w p H) : ∀ {xs : List PV} {vs : List V} {ds : List PyData}, Reps C.Γ w xs vs → toDs xs = some ds → DpAll C.Γ.K H vs ds
  | [], vs, ds, r, e => by
    cases e
    cases r
    exact .nil
  | x :: xs, vs, ds, r, e => by
    obtain ⟨v, us, rfl, r1, r2⟩ := r
    unfold toDs at e
    split at e
    · rename_i d ed
      split at e
      · rename_i zs ez
        cases e
        exact .cons (toD_ok S r1 ed) (toDs_ok S r2 ez)
      · cases e
    · cases e
end
def eqD (x y : PV) : Option Bool := match toD x, toD y with
  | some d, some e => if SeqAt.shaped d = true ∧ SeqAt.shaped e = true then some (PyData.eqv d e) else none
  | _, _ => none
def pEq : F2 := fun x y p => match eqD x y with
  | some b => .ok (.bl b) p
  | none => .stuck
def pNe : F2 := fun x y p => match eqD x y with
  | some b => .ok (.bl (!b)) p
  | none => .stuck
theorem ref_eq : RefO C (rEqD C.Γ.K) pEq := fun L w p H σ x y vx vy Q S rx ry q => by
  unfold pEq eqD at q
  cases e1 : toD x with
  | none =>
    rw [e1] at q
    exact q.elim
  | some d =>
    cases e2 : toD y with
    | none =>
      rw [e1, e2] at q
      exact q.elim
    | some e =>
      rw [e1, e2] at q
      dsimp only at q
      by_cases hs : SeqAt.shaped d = true ∧ SeqAt.shaped e = true
      · rw [if_pos hs] at q
        exact ⟨d, e, toD_ok S rx e1, toD_ok S ry e2, hs.1, hs.2, q.ok S rfl⟩
      · rw [if_neg hs] at q
        exact q.elim
theorem ref_ne : RefO C (rNeD C.Γ.K) pNe := fun L w p H σ x y vx vy Q S rx ry q => by
  unfold pNe eqD at q
  cases e1 : toD x with
  | none =>
    rw [e1] at q
    exact q.elim
  | some d =>
    cases e2 : toD y with
    | none =>
      rw [e1, e2] at q
      exact q.elim
    | some e =>
      rw [e1, e2] at q
      dsimp only at q
      by_cases hs : SeqAt.shaped d = true ∧ SeqAt.shaped e = true
      · rw [if_pos hs] at q
        exact ⟨d, e, toD_ok S rx e1, toD_ok S ry e2, hs.1, hs.2, q.ok S rfl⟩
      · rw [if_neg hs] at q
        exact q.elim
/-- is None, is not None -/
def isNon : PV → Bool
  | .non => true
  | _ => false
theorem isNon_ok {Γ : Cfg} {w : Wd} {x : PV} {v : V} (r : Rep Γ w x v) : decide (v = .non) = isNon x := by
  cases x with
  | non =>
    cases r
    rfl
  | bl b =>
    cases r
    rfl
  | int i =>
    cases r
    rfl
  | str s =>
    cases r
    rfl
  | tup xs =>
    obtain ⟨a, vs, rfl, _⟩ := r
    rfl
  | lst xs =>
    obtain ⟨a, vs, rfl, _⟩ := r
    rfl
  | obj c xs =>
    obtain ⟨a, dx, vs, rfl, _⟩ := r
    rfl
  | own k =>
    obtain ⟨a, _, rfl⟩ := r
    rfl
  | scr ns =>
    obtain ⟨a, rfl, _⟩ := r
    rfl
  | xs c t =>
    obtain ⟨a, t1, rfl, _⟩ := r
    rfl
  | xv c x =>
    obtain ⟨a, d, u, rfl, _⟩ := r
    rfl
def pIsN : F2 := fun x _ p => .ok (.bl (isNon x)) p
def pNotN : F2 := fun x _ p => .ok (.bl (!isNon x)) p
theorem ref_isN : RefO C (fun x y H Q => y = V.non ∧ Q (V.bl (decide (x = V.non))) H) (fun x y p => match y with
  | .non => .ok (.bl (isNon x)) p
  | _ => .stuck) := fun L w p H σ x y vx vy Q S rx ry q => by
  cases y with
  | non =>
    cases ry
    exact ⟨rfl, by rw [isNon_ok rx]; exact q.ok S rfl⟩
  | _ => exact q.elim
/-! ### items -/
theorem atI_rep {Γ : Cfg} {w : Wd} {xs : List PV} {vs : List V} (r : Reps Γ w xs vs) {i : Int} {x : PV} (h : atI xs i = some x) : ∃ v, atI vs i = some v ∧ Rep Γ w x v := by
  unfold atI at h ⊢
  rw [← r.length]
  cases e : ixN xs.length i with
  | none =>
    rw [e] at h
    cases h
  | some j =>
    rw [e] at h
    exact r.get h
def pIx : F2 := fun x y p => match y with
  | .int i => match getQ p x with
    | some xs => match atI xs i with
      | some z => .ok z p
      | none => .stuck
    | none => .stuck
  | _ => .stuck
theorem ref_ix : RefO C (rIx C.Γ.K) pIx := fun L w p H σ x y vx vy Q S rx ry q => by
  unfold pIx at q
  split at q
  · rename_i i
    split at q
    · rename_i xs e
      split at q
      · rename_i z ez
        obtain ⟨a, vs, rfl, h, r⟩ := getQ_ok S rx e
        obtain ⟨v, ev, rv⟩ := atI_rep r ez
        rcases h with h | h
        · exact .inl ⟨a, vs, i, v, rfl, ry, h, ev, q.ok S rv⟩
        · exact .inr (.inl ⟨a, vs, i, v, rfl, ry, h, ev, q.ok S rv⟩)
      · exact q.elim
    · exact q.elim
  · exact q.elim
theorem re_ix {a b : Expr} {ma mb : M PV} (hK : X.K = C.Γ.K) (ha : RE X C a ma) (hb : RE X C b mb) (hp : PlainIx b := by exact fun _ _ => rfl) : RE X C (.Subscript a b pos) (mBin pIx ma mb) := by
  have h : IxR X (rIx C.Γ.K) := hK ▸ ix_seq
  exact (pe_ix h ha hb hp).imp (wE_op ref_ix)
/-! ### slices -/
def cut (xs : List PV) (lo hi : Option Int) : List PV := (xs.drop (HT.sIx xs.length 0 lo)).take (HT.sIx xs.length xs.length hi - HT.sIx xs.length 0 lo)
theorem cut_rep {Γ : Cfg} {w : Wd} {xs : List PV} {vs : List V} (r : Reps Γ w xs vs) (lo hi : Option Int) : Reps Γ w (cut xs lo hi) (cutV vs lo hi) := by
  unfold cut cutV
  rw [← r.length]
  exact (r.drop _).take _
def wO (C : Cn) (m : M (Option Int)) : TO := fun σ H Q => ∃ L w p en, SimP C.Γ L w p H ∧ EnR C L w en σ ∧ Post C L w σ (fun _ (a b : Option Int) => a = b) (m en p) Q
theorem _root_.L2.PO.imp {X : Cx} {e : Option Expr} {t t' : TO} (h : PO X e t) (i : ∀ σ H Q, t' σ H Q → t σ H Q) : PO X e t' := ⟨fun pins s σ H Q I hq => h.run pins s σ H Q I (i _ _ _ hq)⟩
def oNo : M (Option Int) := fun _ p => .ok none p
def oYes (a : M PV) : M (Option Int) := fun en p => (a en p).bind fun x p1 => match x with
  | .int i => .ok (some i) p1
  | _ => .stuck
abbrev RO (X : Cx) (C : Cn) (e : Option Expr) (m : M (Option Int)) : Prop := PO X e (wO C m)
theorem ro_none : RO X C none oNo := po_none.imp fun σ H Q ⟨L, w, p, en, S, E, h⟩ => h.ok S rfl
theorem ro_some {e : Expr} {a : M PV} (h : RE X C e a) : RO X C (some e) (oYes a) := (po_some h).imp fun σ H Q ⟨L, w, p, en, S, E, h⟩ => by
  refine ⟨L, w, p, en, S, E, h.bind fun x p1 w1 H1 v l1 S1 r1 h1 => ?_⟩
  cases x with
  | int i => exact ⟨i, r1, h1.ok S1 rfl⟩
  | _ => exact h1.elim
def mSl (a : M PV) (lo hi : M (Option Int)) : M PV := fun en p => (a en p).bind fun x p1 => (lo en p1).bind fun l p2 => (hi en p2).bind fun h p3 => match x with
  | .tup xs => .ok (.tup (cut xs l h)) p3
  | x => match getR p3 x with
    | some xs => .ok (.lst (cut xs l h)) p3
    | none => .stuck
theorem HT_whole {n : Nat} {lo hi : Option Int} {xs : List PV} (hn : xs.length = n) (h1 : HT.sIx n 0 lo = 0) (h2 : HT.sIx n n hi = n) : cut xs lo hi = xs := by
  subst hn
  unfold cut
  rw [h1, h2, List.drop_zero, Nat.sub_zero, List.take_length]
theorem re_sl {e : Expr} {lo hi : Option Expr} {a : M PV} {ml mh : M (Option Int)} {p2 : Pos} (hK : X.K = C.Γ.K) (ha : RE X C e a) (hl : RO X C lo ml) (hh : RO X C hi mh) : RE X C (.Subscript e (.Slice lo hi none p2) pos) (mSl a ml mh) := by
  have h1 : SlR X (rSlL C.Γ.K) := hK ▸ sl_list
  have h2 : SlR X (rSlA C.Γ.K) := hK ▸ sl_tupA
  refine (pe_slice (h1.or h2) ha hl hh).imp fun σ H Q ⟨L, w, p, en, S, E, h⟩ => ?_
  refine ⟨L, w, p, en, S, E, h.bind fun x p1 w1 H1 v l1 S1 r1 h1 => ?_⟩
  refine ⟨L, w1, p1, en, S1, E.mono l1, h1.bind fun lo p2 w2 H2 lo' l2 S2 r2 h2 => ?_⟩
  cases r2
  refine ⟨L, w2, p2, en, S2, E.mono (l1.trans l2), h2.bind fun hi p3 w3 H3 hi' l3 S3 r3 h3 => ?_⟩
  cases r3
  have r1 := (r1.mono l2).mono l3
  split at h3
  · rename_i xs
    obtain ⟨b, vs, eb, hq, rr⟩ := r1
    refine .inr ⟨b, vs, eb, seqT_mono S3.sub hq, fun z => ?_, fun _ => newTup S3 (cut_rep rr lo hi) h3⟩
    refine h3.ok S3 ?_
    rw [HT_whole rr.length z.1 z.2]
    exact ⟨b, vs, rfl, hq, rr⟩
  · rename_i x _
    split at h3
    · rename_i xs ex
      obtain ⟨b, vs, eb, hq, rr⟩ := getR_ok S3 r1 ex
      exact .inl ⟨b, vs, eb, hq, newLst S3 (cut_rep rr lo hi) h3⟩
    · exact h3.elim
end
end R

/-! R4: values of objects, built-in functions, methods of lists, stores, loops -/
namespace R
open PySem L2

mutual
/-- no cell's number below in it but those under n -/
def bel (n : Nat) : PV → Bool
  | .tup xs => bels n xs
  | .lst xs => bels n xs
  | .obj _ xs => bels n xs
  | .own k => decide (k < n)
  | .xv _ x => bel n x
  | _ => true
def bels (n : Nat) : List PV → Bool
  | [] => true
  | x :: xs => bel n x && bels n xs
end
mutual
theorem Rep.below {Γ : Cfg} {w : Wd} {n : Nat} : ∀ {x : PV} {v : V}, Rep Γ w x v → bel n x = true → Rep Γ ⟨w.G, w.ρ.take n⟩ x v
  | .non, _, h, _ => h
  | .bl _, _, h, _ => h
  | .int _, _, h, _ => h
  | .str _, _, h, _ => h
  | .tup xs, v, h, e => by
    obtain ⟨a, vs, ev, s, r⟩ := h
    exact ⟨a, vs, ev, s, Reps.below r e⟩
  | .lst xs, v, h, e => by
    obtain ⟨a, vs, ev, s, r⟩ := h
    exact ⟨a, vs, ev, s, Reps.below r e⟩
  | .obj c xs, v, h, e => by
    obtain ⟨a, dx, vs, ev, g, d, m, r⟩ := h
    exact ⟨a, dx, vs, ev, g, d, m, Reps.below r e⟩
  | .own k, v, h, e => by
    obtain ⟨a, ha, ev⟩ := h
    refine ⟨a, ?_, ev⟩
    show (w.ρ.take n)[k]? = some a
    rw [List.getElem?_take_of_lt (of_decide_eq_true e)]
    exact ha
  | .scr ns, v, h, _ => h
  | .xs c t, v, h, _ => h
  | .xv c x, v, h, e => by
    obtain ⟨a, d, u, ev, g, g2, r⟩ := h
    exact ⟨a, d, u, ev, g, g2, Rep.below r e⟩
theorem Reps.below {Γ : Cfg} {w : Wd} {n : Nat} : ∀ {xs : List PV} {vs : List V}, Reps Γ w xs vs → bels n xs = true → Reps Γ ⟨w.G, w.ρ.take n⟩ xs vs
  | [], _, h, _ => h
  | x :: xs, vs, h, e => by
    obtain ⟨v, r, ev, h1, h2⟩ := h
    unfold bels at e
    rw [Bool.and_eq_true] at e
    exact ⟨v, r, ev, Rep.below h1 e.1, Reps.below h2 e.2⟩
end
mutual
theorem bel_mono {m n : Nat} (h : m ≤ n) : ∀ {x : PV}, bel m x = true → bel n x = true
  | .non, _ => rfl
  | .bl _, _ => rfl
  | .int _, _ => rfl
  | .str _, _ => rfl
  | .tup xs, e => bels_mono h (xs := xs) e
  | .lst xs, e => bels_mono h (xs := xs) e
  | .obj c xs, e => bels_mono h (xs := xs) e
  | .own k, e => decide_eq_true (Nat.lt_of_lt_of_le (of_decide_eq_true e) h)
  | .scr _, _ => rfl
  | .xs _ _, _ => rfl
  | .xv _ x, e => bel_mono h (x := x) e
theorem bels_mono {m n : Nat} (h : m ≤ n) : ∀ {xs : List PV}, bels m xs = true → bels n xs = true
  | [], _ => rfl
  | x :: xs, e => by
    unfold bels at e ⊢
    rw [Bool.and_eq_true] at e ⊢
    exact ⟨bel_mono h e.1, bels_mono h e.2⟩
end
/-- may x be put into the k-th cell? into a callers' one only what has no cell in it -/
def may (b k : Nat) (x : PV) : Bool := decide (b ≤ k) || bel 0 x
theorem may_rep {Γ : Cfg} {L : Lv} {w : Wd} {p : Pool} {H : Hp} (S : SimP Γ L w p H) {k : Nat} {x : PV} {v : V} (r : Rep Γ w x v) (h : may L.b k x = true) : Rep Γ (w.low (L.lo k)) x v := by
  unfold may at h
  rw [Bool.or_eq_true] at h
  rcases h with h | h
  · rw [S.hlo k (of_decide_eq_true h)]
    exact r
  · cases e : L.lo k with
    | none => exact r
    | some m => exact r.below (bel_mono (Nat.zero_le m) h)

section
variable {X : Cx} {C : Cn} {pos : Pos}
/-! ### values of objects -/
/-- what the text's classes have: their instances are plain, no value's name is the class's own -/
structure ClsF (K : PySem.W.Frag) (Γ : Cfg) (c : Nat) : Prop where
  cls : Cls K (Γ.cls c)
  no : ∀ f ∈ Γ.fld c, NoAttr K (Γ.cls c) f
  nd : (Γ.fld c).Nodup
  few : (Γ.fld c).length < 1000
  at_ : PySem.W.findIn K (.ref (Γ.cls c)) "__class__" = some (some (.builtin "object.__class__"))
  mr : PySem.W.mroIn K (Γ.cls c) (.type "object") = some true
theorem lookup_zip {α : Type} {ns : List Str} (hn : ns.Nodup) {i : Nat} {f : Str} : ∀ {vs : List α}, ns[i]? = some f → (ns.zip vs).lookup f = vs[i]? := by
  induction ns generalizing i with
  | nil => intro vs h; simp at h
  | cons n r ih =>
    intro vs h
    cases vs with
    | nil => simp
    | cons v vs =>
      cases i with
      | zero =>
        have e : n = f := by simpa using h
        subst e
        simp [List.lookup]
      | succ i =>
        have h' : r[i]? = some f := by simpa using h
        have ne : f ≠ n := fun z => (List.nodup_cons.mp hn).1 (z ▸ List.mem_of_getElem? h')
        rw [List.zip_cons_cons, List.lookup_cons, show (f == n) = false from beq_eq_false_iff_ne.mpr ne]
        simp only [List.getElem?_cons_succ]
        exact ih (List.nodup_cons.mp hn).2 h'
theorem putF_zip {ns : List Str} (hn : ns.Nodup) {i : Nat} {f : Str} {v : V} : ∀ {vs : List V}, ns[i]? = some f → i ≤ vs.length → putF f v (ns.zip vs) = ns.zip (if i < vs.length then vs.set i v else vs ++ [v]) := by
  induction ns generalizing i with
  | nil => intro vs h; simp at h
  | cons n r ih =>
    intro vs h hi
    cases vs with
    | nil =>
      have e0 : i = 0 := by simpa using hi
      subst e0
      have e : n = f := by simpa using h
      subst e
      cases r <;> simp [putF]
    | cons u vs =>
      cases i with
      | zero =>
        have e : n = f := by simpa using h
        subst e
        simp [putF]
      | succ i =>
        have h' : r[i]? = some f := by simpa using h
        have ne : n ≠ f := fun z => (List.nodup_cons.mp hn).1 (z ▸ List.mem_of_getElem? h')
        have ih' := ih (List.nodup_cons.mp hn).2 (vs := vs) h' (by simpa using hi)
        rw [List.zip_cons_cons]
        show (if n = f then _ else (n, u) :: putF f v (r.zip vs)) = _
        rw [if_neg ne, ih']
        by_cases hl : i < vs.length
        · rw [if_pos hl, if_pos (by simpa using hl)]
          simp
        · rw [if_neg hl, if_neg (by simpa using hl)]
          simp
/-- the i-th value of an instance of the c-th class -/
def getF (c i : Nat) (p : Pool) : PV → Option PV
  | .obj d xs => if d = c then xs[i]? else none
  | .own k => match p[k]? with
    | some (.obj d xs) => if d = c then xs[i]? else none
    | _ => none
  | _ => none
def mFld (c i : Nat) (a : M PV) : M PV := fun en p => (a en p).bind fun x p1 => match getF c i p1 x with
  | some y => .ok y p1
  | none => .stuck
theorem Rep.objH {Γ : Cfg} {L : Lv} {w : Wd} {p : Pool} {H : Hp} (S : SimP Γ L w p H) {k c : Nat} {v : V} {xs : List PV} (r : Rep Γ w (.own k) v) (e : p[k]? = some (.obj c xs)) :
    ∃ a dx vs, v = .ref a ∧ w.ρ[k]? = some a ∧ w.G a = none ∧ H a = some (.ins (Γ.cls c) dx ((Γ.fld c).zip vs)) ∧ H dx = some (.own a) ∧ w.G dx = none ∧ vs.length ≤ (Γ.fld c).length ∧ Reps Γ (w.low (L.lo k)) xs vs := by
  obtain ⟨a, ha, rfl⟩ := r
  obtain ⟨b, hb, hc⟩ := S.at e
  rw [ha] at hb
  cases hb
  obtain ⟨g, dx, vs, eH, eD, gd, hl, r⟩ := hc
  rw [Wd.low_G] at g gd
  exact ⟨a, dx, vs, rfl, ha, g, eH, eD, gd, hl, r⟩
theorem re_fld {e : Expr} {f : Str} {c i : Nat} {a : M PV} (hK : X.K = C.Γ.K) (T : ClsF C.Γ.K C.Γ c) (hf : (C.Γ.fld c)[i]? = some f) (ha : RE X C e a) (hb : attributeBase e f X.env (eval e X.env) = eval e X.env := by rfl) : RE X C (.Attribute e f pos) (mFld c i a) :=
  (pe_fld ha hb).imp fun σ H Q ⟨L, w, p, en, S, E, h⟩ => by
    refine ⟨L, w, p, en, S, E, h.bind fun x p1 w1 H1 v l1 S1 r1 h1 => ?_⟩
    have hc : Cls X.K (C.Γ.cls c) := hK ▸ T.cls
    have hn : NoAttr X.K (C.Γ.cls c) f := hK ▸ T.no f (List.mem_of_getElem? hf)
    cases x with
    | obj d xs =>
      unfold getF at h1
      dsimp only at h1
      by_cases hd : d = c
      · subst hd
        rw [if_pos rfl] at h1
        obtain ⟨a, dx, vs, ev, g, _, _, r⟩ := r1
        cases ex : xs[i]? with
        | none =>
          rw [ex] at h1
          exact h1.elim
        | some y =>
          rw [ex] at h1
          obtain ⟨u, e1, ru⟩ := r.get ex
          exact ⟨a, _, dx, _, u, ev, S1.sub _ _ g, hc, hn, by rw [lookup_zip T.nd hf]; exact e1, h1.ok S1 ru⟩
      · rw [if_neg hd] at h1
        exact h1.elim
    | own k =>
      unfold getF at h1
      dsimp only at h1
      cases ek : p1[k]? with
      | none =>
        rw [ek] at h1
        exact h1.elim
      | some cell =>
        rw [ek] at h1
        cases cell with
        | obj d xs =>
          dsimp only at h1
          by_cases hd : d = c
          · subst hd
            rw [if_pos rfl] at h1
            obtain ⟨a, dx, vs, ev, _, _, eH, _, _, _, r⟩ := Rep.objH S1 r1 ek
            cases ex : xs[i]? with
            | none =>
              rw [ex] at h1
              exact h1.elim
            | some y =>
              rw [ex] at h1
              obtain ⟨u, e1, ru⟩ := r.get ex
              exact ⟨a, _, dx, _, u, ev, eH, hc, hn, by rw [lookup_zip T.nd hf]; exact e1, h1.ok S1 (ru.mono (w1.low_le _))⟩
          · rw [if_neg hd] at h1
            exact h1.elim
        | lst _ => exact h1.elim
        | dead => exact h1.elim
    | _ => exact h1.elim
/-- o.f = value, o an object that is being made (or may change) -/
def putC (c i : Nat) (y : PV) : Cell → Option Cell
  | .obj d xs => if d = c ∧ i ≤ xs.length then some (.obj d (if i < xs.length then xs.set i y else xs ++ [y])) else none
  | _ => none
def sFld (c i : Nat) (o a : M PV) : S := fun en p => (a en p).run en fun y p1 => (o en p1).run en fun x p2 => match x with
  | .own k => if may en.b k y = true then match p2[k]? with
      | some cell => match putC c i y cell with
        | some cell' => .next en (p2.set k cell')
        | none => .stuck
      | none => .stuck
    else .stuck
  | _ => .stuck
theorem Reps.put {Γ : Cfg} {w : Wd} {xs : List PV} {vs : List V} {i : Nat} {y : PV} {v : V} (r : Reps Γ w xs vs) (ry : Rep Γ w y v) : Reps Γ w (if i < xs.length then xs.set i y else xs ++ [y]) (if i < vs.length then vs.set i v else vs ++ [v]) := by
  rw [← r.length]
  split
  · exact r.set ry
  · exact r.append (Reps.cons ry Reps.nil)
theorem rs_fld {o value : Expr} {f : Str} {c i : Nat} {mo a : M PV} {pos' : Pos} (hK : X.K = C.Γ.K) (T : ClsF C.Γ.K C.Γ c) (hf : (C.Γ.fld c)[i]? = some f) (ho : RE X C o mo) (ha : RE X C value a)
    (hs : swapsWith value (some (.Attribute o f pos')) pos.line X.env = pure false := by rfl) : RS X C (.Assign [.Attribute o f pos'] value pos) (sFld c i mo a) := (ps_fld ho ha hs).imp fun D σ H ⟨L, w, p, en, S, E, h⟩ => by
  refine ⟨L, w, p, en, S, E, h.run E fun y p1 w1 H1 v l1 S1 r1 h1 => ?_⟩
  refine ⟨L, w1, p1, en, S1, E.mono l1, h1.run (E.mono l1) fun x p2 w2 H2 u l2 S2 r2 h2 => ?_⟩
  split at h2
  · rename_i k
    split at h2
    · rename_i hm
      cases ek : p2[k]? with
      | none =>
        rw [ek] at h2
        exact h2.elim
      | some cell =>
        rw [ek] at h2
        dsimp only at h2
        cases cell with
        | obj d xs =>
          unfold putC at h2
          dsimp only at h2
          by_cases hd : d = c ∧ i ≤ xs.length
          · rw [if_pos hd] at h2
            obtain ⟨hd, hi⟩ := hd
            subst hd
            obtain ⟨b, dx, vs, ev, hb, g, eH, eD, gd, hl, r⟩ := Rep.objH S2 r2 ek
            have hi' : i < (C.Γ.fld d).length := (List.getElem?_eq_some_iff.mp hf).1
            have hrl := r.length
            have hz : putF f v ((C.Γ.fld d).zip vs) = (C.Γ.fld d).zip (if i < vs.length then vs.set i v else vs ++ [v]) := putF_zip T.nd hf (by rw [← hrl]; exact hi)
            have nb : dx ≠ b := fun z => by
              rw [z, eH] at eD
              cases eD
            rw [E.b] at hm
            have ry := may_rep S2 (r1.mono l2) hm
            refine ⟨b, _, dx, _, ev, eH, hK ▸ T.cls, hK ▸ T.no f (List.mem_of_getElem? hf), ?_, ?_⟩
            · rw [List.length_zip]
              have := T.few
              omega
            · rw [hz]
              refine h2 w2 _ σ (Wd.le.refl w2) (S2.write hb g ⟨by rw [Wd.low_G]; exact g, dx, _, upd_same, by rw [upd_ne nb]; exact eD, by rw [Wd.low_G]; exact gd, ?_, r.put ry⟩) ((E.mono l1).mono l2)
              split
              · rw [List.length_set]
                exact hl
              · rw [List.length_append]
                simp
                omega
          · rw [if_neg hd] at h2
            exact h2.elim
        | lst _ => exact h2.elim
        | dead => exact h2.elim
    · exact h2.elim
  · exact h2.elim
/-! ### built-in functions -/
abbrev FC := List PV → Pool → Res PV
def mCall (f : FC) (a : M (List PV)) : M PV := fun en p => (a en p).bind fun xs p1 => f xs p1
def RefC (C : Cn) (r : List V → Hp → VK → Prop) (f : FC) : Prop := ∀ L w p H σ xs vs Q, SimP C.Γ L w p H → Reps C.Γ w xs vs → Post C L w σ (RV C) (f xs p) Q → r vs H Q
theorem wE_call {r : List V → Hp → VK → Prop} {f : FC} {a : M (List PV)} (hr : RefC C r f) : ∀ σ H Q, wE C (mCall f a) σ H Q → tCB r (wA C a) σ H Q := fun σ H Q ⟨L, w, p, en, S, E, h⟩ =>
  ⟨L, w, p, en, S, E, h.bind fun x p1 w1 H1 v l1 S1 r1 h1 => hr L w1 p1 H1 σ x v Q S1 r1 h1⟩
theorem re_callB {x : Str} {p : Pos} {e : Expr} {es : List Expr} {id : String} {r : List V → Hp → VK → Prop} {f : FC} {a : M (List PV)} (hc : CallR X (.builtin id) r) (hr : RefC C r f) (hg : Gl X x) (hm : X.mg x = none) (hv : bootBuiltins x = some (.builtin id)) (ha : RA X C (e :: es) a)
    (hn : x ≠ "__name__" := by decide) (hdb : (x == ("__debug__" : Str)) = false := by decide) (he : starEach (e :: es) X.env = (false, eval e X.env) :: starEach es X.env := by rfl) (hpl : (backTo pos (starEach es X.env)).any (·.1) = false := by rfl) :
    RE X C (.Call (.Name x p) (e :: es) [] pos) (mCall f a) := (pe_callB hc hg hm hv ha.pa hn hdb he hpl).imp (wE_call hr)
theorem re_callTy {x : Str} {p : Pos} {e : Expr} {es : List Expr} {T : String} {r : List V → Hp → VK → Prop} {f : FC} {a : M (List PV)} (hc : CallR X (.type T) r) (hr : RefC C r f) (hg : Gl X x) (hm : X.mg x = none) (hv : bootBuiltins x = some (.type T)) (ha : RA X C (e :: es) a)
    (hn : x ≠ "__name__" := by decide) (hdb : (x == ("__debug__" : Str)) = false := by decide) (he : starEach (e :: es) X.env = (false, eval e X.env) :: starEach es X.env := by rfl) (hpl : (backTo pos (starEach es X.env)).any (·.1) = false := by rfl) :
    RE X C (.Call (.Name x p) (e :: es) [] pos) (mCall f a) := (pe_callTy hc hg hm hv ha.pa hn hdb he hpl).imp (wE_call hr)
theorem reps1 {Γ : Cfg} {w : Wd} {x : PV} {vs : List V} (r : Reps Γ w [x] vs) : ∃ v, vs = [v] ∧ Rep Γ w x v := by
  obtain ⟨v, us, rfl, h, e⟩ := r
  cases e
  exact ⟨v, rfl, h⟩
theorem reps2 {Γ : Cfg} {w : Wd} {x y : PV} {vs : List V} (r : Reps Γ w [x, y] vs) : ∃ v u, vs = [v, u] ∧ Rep Γ w x v ∧ Rep Γ w y u := by
  obtain ⟨v, us, rfl, h, e⟩ := r
  obtain ⟨u, rfl, k⟩ := reps1 e
  exact ⟨v, u, rfl, h, k⟩
def cLen : FC := fun xs p => match xs with
  | [x] => match getQ p x with
    | some ys => .ok (.int ys.length) p
    | none => .stuck
  | _ => .stuck
theorem ref_len : RefC C (fun xs H Q => ∃ p ys, xs = [V.ref p] ∧ (SqL C.Γ.K H p ys ∨ SqT C.Γ.K H p ys) ∧ Q (V.int ys.length) H) cLen := fun L w p H σ xs vs Q S r q => by
  unfold cLen at q
  split at q
  · rename_i x
    obtain ⟨v, rfl, rq⟩ := reps1 r
    split at q
    · rename_i ys e
      obtain ⟨a, us, rfl, h, rr⟩ := getQ_ok S rq e
      refine ⟨a, us, rfl, h, ?_⟩
      rw [← rr.length]
      exact q.ok S rfl
    · exact q.elim
  · exact q.elim
theorem call_lenU (hK : X.K = C.Γ.K) : CallR X (.builtin "len") (fun xs H Q => ∃ p ys, xs = [V.ref p] ∧ (SqL C.Γ.K H p ys ∨ SqT C.Γ.K H p ys) ∧ Q (V.int ys.length) H) := hK ▸ call_len_seq
def cAbs : FC := fun xs p => match xs with
  | [.int i] => .ok (.int (if i < 0 then -i else i)) p
  | _ => .stuck
theorem ref_abs : RefC C (fun xs H Q => ∃ i, xs = [V.int i] ∧ Q (V.int (if i < 0 then -i else i)) H) cAbs := fun L w p H σ xs vs Q S r q => by
  unfold cAbs at q
  split at q
  · rename_i i
    obtain ⟨v, rfl, rq⟩ := reps1 r
    cases rq
    exact ⟨i, rfl, q.ok S rfl⟩
  · exact q.elim
def cMax : FC := fun xs p => match xs with
  | [.int i, .int j] => .ok (.int (if j > i then j else i)) p
  | _ => .stuck
def cMin : FC := fun xs p => match xs with
  | [.int i, .int j] => .ok (.int (if j < i then j else i)) p
  | _ => .stuck
theorem ref_max : RefC C (fun xs H Q => ∃ i j, xs = [V.int i, V.int j] ∧ Q (V.int (if j > i then j else i)) H) cMax := fun L w p H σ xs vs Q S r q => by
  unfold cMax at q
  split at q
  · rename_i i j
    obtain ⟨v, u, rfl, r1, r2⟩ := reps2 r
    cases r1
    cases r2
    exact ⟨i, j, rfl, q.ok S rfl⟩
  · exact q.elim
theorem ref_min : RefC C (fun xs H Q => ∃ i j, xs = [V.int i, V.int j] ∧ Q (V.int (if j < i then j else i)) H) cMin := fun L w p H σ xs vs Q S r q => by
  unfold cMin at q
  split at q
  · rename_i i j
    obtain ⟨v, u, rfl, r1, r2⟩ := reps2 r
    cases r1
    cases r2
    exact ⟨i, j, rfl, q.ok S rfl⟩
  · exact q.elim
def cInt : FC := fun xs p => match xs with
  | [.int i] => .ok (.int i) p
  | [.bl b] => .ok (.int (if b = true then 1 else 0)) p
  | _ => .stuck
theorem ref_int : RefC C (fun xs H Q => (∃ i, xs = [V.int i] ∧ Q (V.int i) H) ∨ ∃ k, xs = [V.bl k] ∧ Q (V.int (if k = true then 1 else 0)) H) cInt := fun L w p H σ xs vs Q S r q => by
  unfold cInt at q
  split at q
  · rename_i i
    obtain ⟨v, rfl, rq⟩ := reps1 r
    cases rq
    exact .inl ⟨i, rfl, q.ok S rfl⟩
  · rename_i b
    obtain ⟨v, rfl, rq⟩ := reps1 r
    cases rq
    exact .inr ⟨b, rfl, q.ok S rfl⟩
  · exact q.elim
/-- list(x): one that doesn't change; one that does -/
def cList : FC := fun xs p => match xs with
  | [x] => match getQ p x with
    | some ys => .ok (.lst ys) p
    | none => .stuck
  | _ => .stuck
def cListO : FC := fun xs p => match xs with
  | [x] => match getQ p x with
    | some ys => .ok (.own p.length) (p ++ [.lst ys])
    | none => .stuck
  | _ => .stuck
def rList (K : PySem.W.Frag) : List V → Hp → VK → Prop := fun xs H Q => ∃ p ys, xs = [V.ref p] ∧ (SqL K H p ys ∨ SqT K H p ys) ∧ ∀ l, H l = none → Q (V.ref l) (upd H l (.lst ys))
theorem call_listU (hK : X.K = C.Γ.K) : CallR X (.type "list") (rList C.Γ.K) := hK ▸ call_list_of
theorem ref_list : RefC C (rList C.Γ.K) cList := fun L w p H σ xs vs Q S r q => by
  unfold cList at q
  split at q
  · rename_i x
    obtain ⟨v, rfl, rq⟩ := reps1 r
    split at q
    · rename_i ys e
      obtain ⟨a, us, rfl, h, rr⟩ := getQ_ok S rq e
      exact ⟨a, us, rfl, h, newLst S rr q⟩
    · exact q.elim
  · exact q.elim
theorem ref_listO : RefC C (rList C.Γ.K) cListO := fun L w p H σ xs vs Q S r q => by
  unfold cListO at q
  split at q
  · rename_i x
    obtain ⟨v, rfl, rq⟩ := reps1 r
    split at q
    · rename_i ys e
      obtain ⟨a, us, rfl, h, rr⟩ := getQ_ok S rq e
      exact ⟨a, us, rfl, h, newOwn S rr q⟩
    · exact q.elim
  · exact q.elim
def cTuple : FC := fun xs p => match xs with
  | [.tup ys] => .ok (.tup ys) p
  | [x] => match getR p x with
    | some ys => .ok (.tup ys) p
    | none => .stuck
  | _ => .stuck
def rTuple (K : PySem.W.Frag) : List V → Hp → VK → Prop := fun xs H Q => ∃ p ys, xs = [V.ref p] ∧ ((SqL K H p ys ∧ ∀ l, H l = none → Q (V.ref l) (upd H l (.tup ys))) ∨ SqT K H p ys ∧ Q (V.ref p) H)
theorem call_tupleU (hK : X.K = C.Γ.K) : CallR X (.type "tuple") (rTuple C.Γ.K) := hK ▸ call_tuple_of
theorem ref_tuple : RefC C (rTuple C.Γ.K) cTuple := fun L w p H σ xs vs Q S r q => by
  unfold cTuple at q
  split at q
  · rename_i ys
    obtain ⟨v, rfl, rq⟩ := reps1 r
    obtain ⟨a, us, rfl, h, rr⟩ := rq
    exact ⟨a, us, rfl, .inr ⟨seqT_mono S.sub h, q.ok S ⟨a, us, rfl, h, rr⟩⟩⟩
  · rename_i x _
    obtain ⟨v, rfl, rq⟩ := reps1 r
    split at q
    · rename_i ys e
      obtain ⟨a, us, rfl, h, rr⟩ := getR_ok S rq e
      exact ⟨a, us, rfl, .inl ⟨h, newTup S rr q⟩⟩
    · exact q.elim
  · exact q.elim
/-- all truths, all numbers of a list -/
def bls : List PV → Option (List Bool)
  | [] => some []
  | .bl b :: r => match bls r with
    | some bs => some (b :: bs)
    | none => none
  | _ => none
def its : List PV → Option (List Int)
  | [] => some []
  | .int i :: r => match its r with
    | some is => some (i :: is)
    | none => none
  | _ => none
theorem bls_ok {Γ : Cfg} {w : Wd} : ∀ {xs : List PV} {vs : List V} {bs : List Bool}, Reps Γ w xs vs → bls xs = some bs → vs = bs.map V.bl
  | [], vs, bs, r, e => by
    cases e
    exact r
  | x :: xs, vs, bs, r, e => by
    obtain ⟨v, us, rfl, r1, r2⟩ := r
    cases x with
    | bl b =>
      unfold bls at e
      cases eb : bls xs with
      | none =>
        rw [eb] at e
        cases e
      | some cs =>
        rw [eb] at e
        cases e
        rw [bls_ok r2 eb, show v = V.bl b from r1]
        rfl
    | _ => cases e
theorem its_ok {Γ : Cfg} {w : Wd} : ∀ {xs : List PV} {vs : List V} {bs : List Int}, Reps Γ w xs vs → its xs = some bs → vs = bs.map V.int
  | [], vs, bs, r, e => by
    cases e
    exact r
  | x :: xs, vs, bs, r, e => by
    obtain ⟨v, us, rfl, r1, r2⟩ := r
    cases x with
    | int b =>
      unfold its at e
      cases eb : its xs with
      | none =>
        rw [eb] at e
        cases e
      | some cs =>
        rw [eb] at e
        cases e
        rw [its_ok r2 eb, show v = V.int b from r1]
        rfl
    | _ => cases e
def cFold {α : Type} (get : List PV → Option (List α)) (g : List α → PV) : FC := fun xs p => match xs with
  | [x] => match getL p x with
    | some ys => match get ys with
      | some bs => .ok (g bs) p
      | none => .stuck
    | none => .stuck
  | _ => .stuck
def cAll : FC := cFold bls fun bs => .bl (bs.all id)
def cAny : FC := cFold bls fun bs => .bl (bs.any id)
def cSum : FC := cFold its fun is => .int is.sum
theorem ref_fold {α : Type} {get : List PV → Option (List α)} {g : List α → PV} {h : α → V} {f : List α → V} (hg : ∀ w xs vs bs, Reps C.Γ w xs vs → get xs = some bs → vs = bs.map h) (hf : ∀ w bs, Rep C.Γ w (g bs) (f bs)) :
    RefC C (fun vs H Q => ∃ (a : Addr) (bs : List α), vs = [V.ref a] ∧ SqL C.Γ.K H a (bs.map h) ∧ Q (f bs) H) (cFold get g) := fun L w p H σ xs vs Q S r q => by
  unfold cFold at q
  split at q
  · rename_i x
    obtain ⟨v, rfl, rq⟩ := reps1 r
    split at q
    · rename_i ys e
      obtain ⟨a, us, rfl, hs, rr⟩ := getL_at S rq e
      split at q
      · rename_i bs eb
        have e2 := hg _ _ _ _ rr eb
        subst e2
        exact ⟨a, bs, rfl, .inl (.inl hs), q.ok S (hf _ _)⟩
      · exact q.elim
    · exact q.elim
  · exact q.elim
theorem ref_all : RefC C (rAll C.Γ.K) cAll := ref_fold (fun _ _ _ _ r e => bls_ok r e) fun _ _ => rfl
theorem ref_any : RefC C (rAny C.Γ.K) cAny := ref_fold (fun _ _ _ _ r e => bls_ok r e) fun _ _ => rfl
theorem ref_sum : RefC C (rSum C.Γ.K) cSum := ref_fold (fun _ _ _ _ r e => its_ok r e) fun _ _ => rfl
theorem call_allU (hc : X.calm = true) (hK : X.K = C.Γ.K) : CallR X (.builtin "all") (rAll C.Γ.K) := hK ▸ cr_all hc
theorem call_anyU (hc : X.calm = true) (hK : X.K = C.Γ.K) : CallR X (.builtin "any") (rAny C.Γ.K) := hK ▸ cr_any hc
theorem call_sumU (hc : X.calm = true) (hK : X.K = C.Γ.K) : CallR X (.builtin "sum") (rSum C.Γ.K) := hK ▸ cr_sum hc
end
end R

/-! R5: methods of lists, stores, while, for, comprehensions -/
namespace R
open PySem L2

def mayL (b k : Nat) (xs : List PV) : Bool := decide (b ≤ k) || bels 0 xs
theorem mayL_rep {Γ : Cfg} {L : Lv} {w : Wd} {p : Pool} {H : Hp} (S : SimP Γ L w p H) {k : Nat} {xs : List PV} {vs : List V} (r : Reps Γ w xs vs) (h : mayL L.b k xs = true) : Reps Γ (w.low (L.lo k)) xs vs := by
  unfold mayL at h
  rw [Bool.or_eq_true] at h
  rcases h with h | h
  · rw [S.hlo k (of_decide_eq_true h)]
    exact r
  · cases e : L.lo k with
    | none => exact r
    | some m => exact r.below (bels_mono (Nat.zero_le m) h)
section
variable {X : Cx} {C : Cn} {pos : Pos}
/-- f: what the cell holds behind it, by what it held and the arguments -/
def mMet (f : Pool → List PV → List PV → Option (List PV)) (o : M PV) (a : M (List PV)) : M PV := fun en p => (o en p).bind fun x p1 => match x with
  | .own k => match p1[k]? with
    | some (.lst _) => (a en p1).bind fun ys p2 => match p2[k]? with
      | some (.lst xs) => match f p2 xs ys with
        | some zs => if mayL en.b k zs = true ∧ zs.length ≤ big then .ok .non (p2.set k (.lst zs)) else .stuck
        | none => .stuck
      | _ => .stuck
    | _ => .stuck
  | _ => .stuck
def RefM (C : Cn) (r : V → List V → Hp → VK → Prop) (f : Pool → List PV → List PV → Option (List PV)) : Prop := ∀ L w p H a xs vs ys us zs Q, SimP C.Γ L w p H → H a = some (.lst vs) → Reps C.Γ w xs vs → Reps C.Γ w ys us → f p xs ys = some zs → zs.length ≤ big → (∀ ws, Reps C.Γ w zs ws → Q .non (upd H a (.lst ws))) → r (.ref a) us H Q
theorem wE_met {r : V → List V → Hp → VK → Prop} {f : Pool → List PV → List PV → Option (List PV)} {o : M PV} {a : M (List PV)} (hr : RefM C r f) : ∀ σ H Q, wE C (mMet f o a) σ H Q → tBM C.Γ.K "list" r (wE C o) (wA C a) σ H Q := fun σ H Q ⟨L, w, p, en, S, E, h⟩ => by
  refine ⟨L, w, p, en, S, E, h.bind fun x p1 w1 H1 v l1 S1 r1 h1 => ?_⟩
  split at h1
  · rename_i k
    split at h1
    · rename_i ys0 e0
      obtain ⟨b, vs0, rfl, hb, _, eH0, _⟩ := Rep.ownH S1 r1 e0
      refine ⟨.inl ⟨rfl, vs0, .inl (.inl eH0)⟩, L, w1, p1, en, S1, E.mono l1, h1.bind fun ys p2 w2 H2 us l2 S2 r2 h2 => ?_⟩
      split at h2
      · rename_i xs e2
        obtain ⟨b2, vs, e3, hb2, g, eH, rr⟩ := Rep.ownH S2 (r1.mono l2) e2
        cases e3
        split at h2
        · rename_i zs ez
          split at h2
          · rename_i hm
            refine hr L w2 p2 H2 b xs vs ys us zs Q S2 eH (rr.mono (w2.low_le _)) r2 ez hm.2 fun ws rw' => ?_
            have hm1 := hm.1
            rw [E.b] at hm1
            exact h2.ok (S2.write hb2 g ⟨by rw [Wd.low_G]; exact g, ws, upd_same, mayL_rep S2 rw' hm1⟩) rfl
          · exact h2.elim
        · exact h2.elim
      · exact h2.elim
    · exact h1.elim
  · exact h1.elim
theorem re_met {o e : Expr} {es : List Expr} {mo : M PV} {a : M (List PV)} {name : Str} {apos cpos : Pos} {id : String} {r : V → List V → Hp → VK → Prop} {f : Pool → List PV → List PV → Option (List PV)} (hK : X.K = C.Γ.K) (h1 : PlainAttrs "list") (h2 : Slot "list" name id) (h3 : typeOf (Value.builtin id) = pure (Value.type "method_descriptor"))
    (hm : MtR X id r) (hr : RefM C r f) (ho : RE X C o mo) (ha : RA X C (e :: es) a) (hb : attributeBase o name X.env (eval o X.env) = eval o X.env := by rfl)
    (h4 : ((backTo cpos (starEach (e :: es) X.env)).all (fun x => !x.1) && (backToKw cpos (keywordEach [] X.env)).all (fun x => x.1.isSome) && decide ((e :: es).length + ([] : List Keyword).length + (if ([] : List Keyword).isEmpty then 0 else 1) < 30)) = true := by rfl)
    (h5 : (apos.endLine == cpos.line) = true := by rfl) (he : starEach (e :: es) X.env = (false, eval e X.env) :: starEach es X.env := by rfl) (hpl : (backTo cpos (starEach es X.env)).any (·.1) = false := by rfl) :
    RE X C (.Call (.Attribute o name apos) (e :: es) [] cpos) (mMet f mo a) := (pe_bm h1 h2 h3 hm ho ha.pa hb h4 h5 he hpl).imp fun σ H Q h => by
  rw [hK]
  exact wE_met hr σ H Q h
def fAppend : Pool → List PV → List PV → Option (List PV) := fun _ xs ys => match ys with
  | [y] => some (xs ++ [y])
  | _ => none
theorem refm_append : RefM C rAppend fAppend := fun L w p H a xs vs ys us zs Q S eH r rs e hl k => by
  unfold fAppend at e
  split at e
  · rename_i y
    cases e
    obtain ⟨u, rfl, ru⟩ := reps1 rs
    refine ⟨a, vs, u, rfl, rfl, eH, ?_, k _ (r.append (Reps.cons ru Reps.nil))⟩
    rw [List.length_append] at hl
    have := r.length
    simp at hl
    exact big_lt (by omega)
  · cases e
def fExtend : Pool → List PV → List PV → Option (List PV) := fun p xs ys => match ys with
  | [y] => match getL p y with
    | some zs => some (xs ++ zs)
    | none => none
  | _ => none
theorem refm_extend : RefM C rExtend fExtend := fun L w p H a xs vs ys us zs Q S eH r rs e hl k => by
  unfold fExtend at e
  split at e
  · rename_i y
    obtain ⟨u, rfl, ru⟩ := reps1 rs
    split at e
    · rename_i ts et
      cases e
      obtain ⟨b, ws, rfl, eb, rb⟩ := getL_at S ru et
      refine ⟨a, b, vs, ws, rfl, rfl, eH, eb, ?_, k _ (r.append rb)⟩
      rw [List.length_append] at hl
      rw [← r.length, ← rb.length]
      exact big_le hl
    · cases e
  · cases e
/-! ### o[i] = e -/
def sIx (o i a : M PV) : S := fun en p => (a en p).run en fun y p1 => (o en p1).run en fun x p2 => (i en p2).run en fun j p3 => match x, j with
  | .own k, .int j => match p3[k]? with
    | some (.lst xs) => match ixN xs.length j with
      | some n => if may en.b k y = true then .next en (p3.set k (.lst (xs.set n y))) else .stuck
      | none => .stuck
    | _ => .stuck
  | _, _ => .stuck
theorem rs_ix {o i e : Expr} {mo mi a : M PV} {pos' : Pos} (ho : RE X C o mo) (hi : RE X C i mi) (ha : RE X C e a) (hs : ∀ (v : Value), assign (.Subscript o i pos') X.env v = (do
      let ov ← holding [v] (eval o X.env)
      let iv ← holding [v, ov] (eval i X.env)
      standAt pos'
      holding [v, ov, iv] (setItem ov iv v)
      release [v, ov, iv] []) := by intro _; rfl)
    (h1 : swapsWithSole [.Subscript o i pos'] e pos.line X.env = pure false := by rfl) (h2 : swappedStores [.Subscript o i pos'] e X.env = pure none := by rfl) (h3 : (assignEach [.Subscript o i pos'] X.env).map (·.2) = [assign (.Subscript o i pos') X.env] := by rfl) :
    RS X C (.Assign [.Subscript o i pos'] e pos) (sIx mo mi a) := (ps_asg ha (pg_sub ho hi set_list hs) h1 h2 h3).imp fun D σ H ⟨L, w, p, en, S, E, h⟩ => by
  refine ⟨L, w, p, en, S, E, h.run E fun y p1 w1 H1 v l1 S1 r1 h1 => ?_⟩
  refine ⟨L, w1, p1, en, S1, E.mono l1, h1.run (E.mono l1) fun x p2 w2 H2 u l2 S2 r2 h2 => ?_⟩
  refine ⟨L, w2, p2, en, S2, (E.mono l1).mono l2, h2.run ((E.mono l1).mono l2) fun j p3 w3 H3 t l3 S3 r3 h3 => ?_⟩
  split at h3
  · rename_i k j
    split at h3
    · rename_i xs e3
      split at h3
      · rename_i n en
        split at h3
        · rename_i hm
          obtain ⟨b, vs, e4, hb, g, eH, rr⟩ := Rep.ownH S3 (r2.mono l3) e3
          refine ⟨b, vs, j, n, e4, r3, eH, by rw [← rr.length]; exact en, ?_⟩
          rw [E.b] at hm
          exact h3 w3 _ σ (Wd.le.refl w3) (S3.write hb g ⟨by rw [Wd.low_G]; exact g, _, upd_same, rr.set (may_rep S3 ((r1.mono l2).mono l3) hm)⟩) (((E.mono l1).mono l2).mono l3)
        · exact h3.elim
      · exact h3.elim
    · exact h3.elim
  · exact h3.elim
/-! ### while -/
def loopW (t : M Bool) (body : S) : Nat → S
  | 0 => fun _ _ => .stuck
  | f + 1 => fun en p => (t en p).run en fun b p1 => if b = true then (match body en p1 with
      | .next en2 p2 => loopW t body f en2 p2
      | .cont en2 p2 => loopW t body f en2 p2
      | .brk en2 p2 => .next en2 p2
      | o => o) else .next en p1
theorem rs_while {c : Expr} {body : List Stmt} {t : M Bool} {b : S} (f : Nat) (hp : PassesOwn (model X.prog X.w) X.A X.env X.xe) (hc : RT X C c t) (hb : RSs X C body b) : RS X C (.While c body [] pos) (loopW t b f) := (ps_while hp hc hb).imp fun D σ H ⟨L, w, p, en, S, E, h⟩ => by
  refine ⟨fun m σ' H' => ∃ w' p' en', w.le w' ∧ SimP C.Γ L w' p' H' ∧ EnR C L w' en' σ' ∧ PostS C L w' D (loopW t b m en' p'), ⟨f, w, p, en, Wd.le.refl w, S, E, h⟩, fun m σ' H' ⟨w', p', en', l', S', E', h'⟩ => ?_⟩
  cases m with
  | zero => exact h'.elim
  | succ m =>
    refine ⟨L, w', p', en', S', E', h'.run E' fun k p1 w1 H1 v l1 S1 r1 h1 => ?_⟩
    cases r1
    cases k with
    | false => exact iteF (h1 w1 H1 σ' (Wd.le.refl w1) S1 (E'.mono l1))
    | true =>
      refine iteT ?_
      rw [if_pos rfl] at h1
      refine ⟨fun σ2 H2 => ∃ w2 p2 en2, w.le w2 ∧ SimP C.Γ L w2 p2 H2 ∧ EnR C L w2 en2 σ2 ∧ PostS C L w2 D (loopW t b m en2 p2), fun σ2 H2 q => ⟨m, Nat.lt_succ_self m, q⟩, L, w1, p1, en', S1, E'.mono l1, ?_⟩
      cases e : b en' p1 with
      | next en2 p2 =>
        rw [e] at h1
        exact fun w2 H2 σ2 l2 S2 E2 => ⟨w2, p2, en2, l'.trans (l1.trans l2), S2, E2, PostS.mono l2 h1⟩
      | cont en2 p2 =>
        rw [e] at h1
        exact fun w2 H2 σ2 l2 S2 E2 => ⟨w2, p2, en2, l'.trans (l1.trans l2), S2, E2, PostS.mono l2 h1⟩
      | brk en2 p2 =>
        rw [e] at h1
        exact h1
      | ret x p2 =>
        rw [e] at h1
        exact h1
      | exc c v en2 p2 =>
        rw [e] at h1
        exact h1
      | stuck =>
        rw [e] at h1
        exact h1.elim
/-! ### what is walked -/
/-- J yields xs, whatever changes but what doesn't change any more -/
def ItR (Γ : Cfg) (w : Wd) (xs : List PV) (J : It) : Prop := ∀ L w' p H, w.le w' → SimP Γ L w' p H → ∀ i : Nat, (xs[i]? = none → J.stop i H) ∧ ∀ x, xs[i]? = some x → J.go i H ∧ ∀ v H', J.yld i H v H' → ∃ w'', w'.le w'' ∧ SimP Γ L w'' p H' ∧ Rep Γ w'' x v
def wI (C : Cn) (it : M (List PV)) : TI := fun σ H R => ∃ L w p en, SimP C.Γ L w p H ∧ EnR C L w en σ ∧ Post C L w σ (fun w xs J => ItR C.Γ w xs J) (it en p) (fun J H' => R J H')
abbrev RI (X : Cx) (C : Cn) (tg iter : Expr) (it : M (List PV)) : Prop := PI X tg iter (wI C it)
theorem PI.imp {X : Cx} {tg it : Expr} {t t' : TI} (h : PI X tg it t) (i : ∀ σ H R, t' σ H R → t σ H R) : PI X tg it t' := ⟨fun pins s σ H R I hq => h.run pins s σ H R I (i _ _ _ hq)⟩
theorem PI.or {X : Cx} {tg it : Expr} {t t' : TI} (h : PI X tg it t) (h' : PI X tg it t') : PI X tg it (fun σ H R => t σ H R ∨ t' σ H R) := ⟨fun pins s σ H R I hq => by
  rcases hq with q | q
  · exact h.run pins s σ H R I q
  · exact h'.run pins s σ H R I q⟩
/-- a list or a tuple that doesn't change -/
def getZ : PV → Option (List PV)
  | .lst xs => some xs
  | .scr ns => some (ns.map .int)
  | .tup xs => some xs
  | _ => none
def getZL : PV → Option (List PV)
  | .lst xs => some xs
  | .scr ns => some (ns.map .int)
  | _ => none
theorem getZL_ok {Γ : Cfg} {w : Wd} {x : PV} {v : V} {xs : List PV} (r : Rep Γ w x v) (e : getZL x = some xs) : ∃ a vs, v = .ref a ∧ SqL Γ.K w.G a vs ∧ Reps Γ w xs vs := by
  cases x with
  | lst ys =>
    cases e
    obtain ⟨a, vs, ev, q, r⟩ := r
    exact ⟨a, vs, ev, .inl (.inl q), r⟩
  | scr ns =>
    cases e
    obtain ⟨a, ev, q⟩ := r
    exact ⟨a, _, ev, q, Reps.ints⟩
  | _ => cases e
def itS (a : M PV) : M (List PV) := fun en p => (a en p).bind fun x p1 => match getZ x with
  | some xs => .ok xs p1
  | none => .stuck
theorem itR_list {Γ : Cfg} {w : Wd} {a : Addr} {xs : List PV} {vs : List V} (h : SqL Γ.K w.G a vs) (r : Reps Γ w xs vs) : ItR Γ w xs (Itl Γ.K a) := fun L w' p H l S i => by
  have h' : SqL Γ.K H a vs := seqL_mono (fun b o e => S.sub b o (l.1 b o e)) h
  refine ⟨fun e => ⟨vs, h', ?_⟩, fun x e => ?_⟩
  · rw [← r.length]
    exact List.getElem?_eq_none_iff.mp e
  · obtain ⟨v, ev, rv⟩ := r.get e
    refine ⟨⟨vs, v, h', ev⟩, fun u H' hy => ?_⟩
    obtain ⟨rfl, hu⟩ := hy
    have e2 : u = v := Option.some.inj ((hu vs h').symm.trans ev)
    subst e2
    exact ⟨w', Wd.le.refl w', S, rv.mono l⟩
theorem itR_tup {Γ : Cfg} {w : Wd} {a : Addr} {xs : List PV} {vs : List V} (h : SqT Γ.K w.G a vs) (r : Reps Γ w xs vs) : ItR Γ w xs (Itt Γ.K a) := fun L w' p H l S i => by
  have h' : SqT Γ.K H a vs := seqT_mono (fun b o e => S.sub b o (l.1 b o e)) h
  refine ⟨fun e => ⟨vs, h', ?_⟩, fun x e => ?_⟩
  · rw [← r.length]
    exact List.getElem?_eq_none_iff.mp e
  · obtain ⟨v, ev, rv⟩ := r.get e
    refine ⟨⟨vs, v, h', ev⟩, fun u H' hy => ?_⟩
    obtain ⟨rfl, hu⟩ := hy
    have e2 : u = v := Option.some.inj ((hu vs h').symm.trans ev)
    subst e2
    exact ⟨w', Wd.le.refl w', S, rv.mono l⟩
theorem ri_seq {tg e : Expr} {a : M PV} (hK : X.K = C.Γ.K) (ha : RE X C e a) : RI X C tg e (itS a) := by
  have h1 : PI X tg e (iList C.Γ.K (wE C a)) := hK ▸ pi_list ha
  have h2 : PI X tg e (iTup C.Γ.K (wE C a)) := hK ▸ pi_tup ha
  refine PI.imp (PI.or h1 h2) fun σ H R ⟨L, w, p, en, S, E, h⟩ => ?_
  unfold itS at h
  cases e1 : a en p with
  | ok x p1 =>
    rw [e1] at h
    have h : Post C L w σ (fun w xs J => ItR C.Γ w xs J) (match getZ x with | some xs => Res.ok xs p1 | none => .stuck) (fun J H' => R J H') := h
    cases x with
    | tup xs =>
      refine .inr ⟨L, w, p, en, S, E, ?_⟩
      rw [e1]
      intro w' H' v l S' r
      obtain ⟨b, vs, rfl, hq, rr⟩ := r
      exact ⟨b, rfl, ⟨vs, seqT_mono S'.sub hq⟩, h w' H' _ l S' (itR_tup hq rr)⟩
    | lst xs =>
      refine .inl ⟨L, w, p, en, S, E, ?_⟩
      rw [e1]
      intro w' H' v l S' r
      obtain ⟨b, vs, rfl, hq, rr⟩ := getZL_ok r (show getZL (.lst xs) = some xs from rfl)
      exact ⟨b, rfl, ⟨vs, seqL_mono S'.sub hq⟩, h w' H' _ l S' (itR_list hq rr)⟩
    | scr ns =>
      refine .inl ⟨L, w, p, en, S, E, ?_⟩
      rw [e1]
      intro w' H' v l S' r
      obtain ⟨b, vs, rfl, hq, rr⟩ := getZL_ok r (show getZL (.scr ns) = some _ from rfl)
      exact ⟨b, rfl, ⟨vs, seqL_mono S'.sub hq⟩, h w' H' _ l S' (itR_list hq rr)⟩
    | _ => exact h.elim
  | exc c v p1 =>
    rw [e1] at h
    refine .inl ⟨L, w, p, en, S, E, ?_⟩
    rw [e1]
    exact h
  | stuck =>
    rw [e1] at h
    exact h.elim
/-- range(n), range(a, b) -/
def rng (lo : Int) (n : Nat) : List PV := (List.range n).map fun (i : Nat) => .int (lo + (i : Int))
theorem itR_range {Γ : Cfg} {w : Wd} {lo : Int} {n : Nat} : ItR Γ w (rng lo n) (Itr lo n) := fun L w' p H l S i => by
  unfold rng
  refine ⟨fun e => ?_, fun x e => ?_⟩
  · have := List.getElem?_eq_none_iff.mp e
    rw [List.length_map, List.length_range] at this
    exact this
  · rw [List.getElem?_map] at e
    cases e1 : (List.range n)[i]? with
    | none =>
      rw [e1] at e
      cases e
    | some j =>
      rw [e1] at e
      obtain ⟨hi, e2⟩ := List.getElem?_eq_some_iff.mp e1
      rw [List.getElem_range] at e2
      subst e2
      rw [List.length_range] at hi
      cases e
      refine ⟨hi, fun v H' hy => ?_⟩
      obtain ⟨rfl, rfl⟩ := hy
      exact ⟨w', Wd.le.refl w', S, rfl⟩
def itR1 (a : M (List PV)) : M (List PV) := fun en p => (a en p).bind fun xs p1 => match xs with
  | [.int n] => if -(2 ^ 62) ≤ n ∧ n < 2 ^ 62 then .ok (rng 0 n.toNat) p1 else .stuck
  | _ => .stuck
def itR2 (a : M (List PV)) : M (List PV) := fun en p => (a en p).bind fun xs p1 => match xs with
  | [.int i, .int j] => if -(2 ^ 62) ≤ i ∧ i < 2 ^ 62 ∧ -(2 ^ 62) ≤ j ∧ j < 2 ^ 62 then .ok (rng i (j - i).toNat) p1 else .stuck
  | _ => .stuck
theorem ri_range1 {tg a : Expr} {m : M (List PV)} {p : Pos} (hg : Gl X "range") (hm : X.mg "range" = none) (ha : RA X C [a] m) (hs : starEach [a] X.env = [(false, eval a X.env)] := by rfl) : RI X C tg (.Call (.Name "range" p) [a] [] pos) (itR1 m) :=
  PI.imp (pi_range1 hg hm ha.pa hs) fun σ H R ⟨L, w, p, en, S, E, h⟩ => by
    refine ⟨L, w, p, en, S, E, h.bind fun xs p1 w1 H1 vs l1 S1 r1 h1 => ?_⟩
    split at h1
    · rename_i n
      split at h1
      · rename_i hn
        obtain ⟨v, rfl, rv⟩ := reps1 r1
        cases rv
        exact ⟨n, rfl, hn.1, hn.2, h1.ok S1 itR_range⟩
      · exact h1.elim
    · exact h1.elim
theorem ri_range2 {tg a b : Expr} {m : M (List PV)} {p : Pos} (hg : Gl X "range") (hm : X.mg "range" = none) (ha : RA X C [a, b] m) (hs : starEach [a, b] X.env = [(false, eval a X.env), (false, eval b X.env)] := by rfl) (hs2 : starEach [b] X.env = [(false, eval b X.env)] := by rfl) : RI X C tg (.Call (.Name "range" p) [a, b] [] pos) (itR2 m) :=
  PI.imp (pi_range2 hg hm ha.pa hs hs2) fun σ H R ⟨L, w, p, en, S, E, h⟩ => by
    refine ⟨L, w, p, en, S, E, h.bind fun xs p1 w1 H1 vs l1 S1 r1 h1 => ?_⟩
    split at h1
    · rename_i i j
      split at h1
      · rename_i hn
        obtain ⟨v, u, rfl, rv, ru⟩ := reps2 r1
        cases rv
        cases ru
        exact ⟨i, j, rfl, hn, h1.ok S1 itR_range⟩
      · exact h1.elim
    · exact h1.elim
/-- enumerate(xs), zip(xs, ys): lists that don't change -/
def enumZ (i : Nat) : List PV → List PV
  | [] => []
  | x :: xs => .tup [.int i, x] :: enumZ (i + 1) xs
theorem enumZ_get : ∀ (xs : List PV) (k i : Nat), (enumZ k xs)[i]? = xs[i]?.map fun x => .tup [.int ((k + i : Nat) : Int), x]
  | [], k, i => by simp [enumZ]
  | x :: xs, k, 0 => by simp [enumZ]
  | x :: xs, k, i + 1 => by
    show (enumZ (k + 1) xs)[i]? = _
    rw [enumZ_get xs (k + 1) i, List.getElem?_cons_succ, Nat.add_assoc, Nat.add_comm 1 i]
theorem new_tup {Γ : Cfg} {L : Lv} {w : Wd} {p : Pool} {H : Hp} (S : SimP Γ L w p H) {T : Addr} {xs : List PV} {vs : List V} (h : H T = none) (r : Reps Γ w xs vs) : ∃ w'', w.le w'' ∧ SimP Γ L w'' p (upd H T (.tup vs)) ∧ Rep Γ w'' (.tup xs) (.ref T) :=
  ⟨w.add T (.tup vs), S.le_add h, S.new h, T, vs, rfl, .inl (.inl add_at), r.mono (S.le_add h)⟩
theorem itR_enum {Γ : Cfg} {w : Wd} {a : Addr} {xs : List PV} {vs : List V} (h : SqL Γ.K w.G a vs) (r : Reps Γ w xs vs) : ItR Γ w (enumZ 0 xs) (Ite Γ.K a) := fun L w' p H l S i => by
  have h' : SqL Γ.K H a vs := seqL_mono (fun b o e => S.sub b o (l.1 b o e)) h
  rw [enumZ_get]
  cases e : xs[i]? with
  | none => exact ⟨fun _ => ⟨vs, h', by rw [← r.length]; exact List.getElem?_eq_none_iff.mp e⟩, (fun _ z => nomatch z)⟩
  | some x =>
    refine ⟨(fun z => nomatch z), fun y ey => ?_⟩
    have ey : PV.tup [.int ((0 + i : Nat) : Int), x] = y := Option.some.inj ey
    subst ey
    obtain ⟨v, ev, rv⟩ := r.get e
    refine ⟨⟨vs, v, h', ev⟩, fun u H' hy => ?_⟩
    obtain ⟨T, z, rfl, hT, rfl, hu⟩ := hy
    have e2 : z = v := Option.some.inj ((hu vs h').symm.trans ev)
    subst e2
    refine new_tup S hT (Reps.cons ?_ (Reps.cons (rv.mono l) Reps.nil))
    rw [Nat.zero_add]
    exact rfl
def zipZ : List PV → List PV → List PV
  | x :: xs, y :: ys => .tup [x, y] :: zipZ xs ys
  | _, _ => []
theorem zipZ_get : ∀ (xs ys : List PV) (i : Nat), (zipZ xs ys)[i]? = match xs[i]?, ys[i]? with
    | some x, some y => some (.tup [x, y])
    | _, _ => none
  | [], ys, i => by simp [zipZ]
  | x :: xs, [], i => by
    simp [zipZ]
  | x :: xs, y :: ys, 0 => by simp [zipZ]
  | x :: xs, y :: ys, i + 1 => by
    show (zipZ xs ys)[i]? = _
    rw [zipZ_get xs ys i, List.getElem?_cons_succ, List.getElem?_cons_succ]
theorem itR_zip {Γ : Cfg} {w : Wd} {a b : Addr} {xs ys : List PV} {vs us : List V} (h : SqL Γ.K w.G a vs) (r : Reps Γ w xs vs) (k : SqL Γ.K w.G b us) (q : Reps Γ w ys us) : ItR Γ w (zipZ xs ys) (Itz Γ.K a b) := fun L w' p H l S i => by
  have h' : SqL Γ.K H a vs := seqL_mono (fun b o e => S.sub b o (l.1 b o e)) h
  have k' : SqL Γ.K H b us := seqL_mono (fun b o e => S.sub b o (l.1 b o e)) k
  rw [zipZ_get]
  cases e : xs[i]? with
  | none => exact ⟨fun _ => ⟨vs, us, h', k', .inl (by rw [← r.length]; exact List.getElem?_eq_none_iff.mp e)⟩, (fun _ z => nomatch z)⟩
  | some x =>
    cases f : ys[i]? with
    | none => exact ⟨fun _ => ⟨vs, us, h', k', .inr (by rw [← q.length]; exact List.getElem?_eq_none_iff.mp f)⟩, (fun _ z => nomatch z)⟩
    | some y =>
      refine ⟨(fun z => nomatch z), fun t et => ?_⟩
      have et : PV.tup [x, y] = t := Option.some.inj et
      subst et
      obtain ⟨v, ev, rv⟩ := r.get e
      obtain ⟨u, eu, ru⟩ := q.get f
      refine ⟨⟨vs, us, v, u, h', k', ev, eu⟩, fun t H' hy => ?_⟩
      obtain ⟨T, z, z2, rfl, hT, rfl, hz, hz2⟩ := hy
      have e2 : z = v := Option.some.inj ((hz vs h').symm.trans ev)
      have e3 : z2 = u := Option.some.inj ((hz2 us k').symm.trans eu)
      subst e2
      subst e3
      exact new_tup S hT (Reps.cons (rv.mono l) (Reps.cons (ru.mono l) Reps.nil))
def itE (a : M (List PV)) : M (List PV) := fun en p => (a en p).bind fun xs p1 => match xs with
  | [x] => match getZL x with
    | some ys => .ok (enumZ 0 ys) p1
    | none => .stuck
  | _ => .stuck
def itZ (a : M (List PV)) : M (List PV) := fun en p => (a en p).bind fun xs p1 => match xs with
  | [x, y] => match getZL x, getZL y with
    | some xs, some ys => .ok (zipZ xs ys) p1
    | _, _ => .stuck
  | _ => .stuck
theorem ri_enum {e : Expr} {m : M (List PV)} {p tpos : Pos} {elts : List Expr} {kk : Nat} (hK : X.K = C.Γ.K) (hg : Gl X "enumerate") (hm : X.mg "enumerate" = none) (ha : RA X C [e] m) (hs : starEach [e] X.env = [(false, eval e X.env)] := by rfl) :
    RI X C (.Tuple elts kk tpos) (.Call (.Name "enumerate" p) [e] [] pos) (itE m) := PI.imp (pi_enum hg hm ha.pa hs) fun σ H R ⟨L, w, p, en, S, E, h⟩ => by
  refine ⟨L, w, p, en, S, E, h.bind fun xs p1 w1 H1 vs l1 S1 r1 h1 => ?_⟩
  split at h1
  · rename_i x
    obtain ⟨v, rfl, rv⟩ := reps1 r1
    split at h1
    · rename_i ys ey
      obtain ⟨a, us, rfl, hq, rr⟩ := getZL_ok rv ey
      rw [hK]
      exact ⟨a, us, rfl, seqL_mono S1.sub hq, h1.ok S1 (itR_enum hq rr)⟩
    · exact h1.elim
  · exact h1.elim
theorem ri_zip {e e2 : Expr} {m : M (List PV)} {p tpos : Pos} {elts : List Expr} {kk : Nat} (hK : X.K = C.Γ.K) (hg : Gl X "zip") (hm : X.mg "zip" = none) (ha : RA X C [e, e2] m) (hs : starEach [e, e2] X.env = (false, eval e X.env) :: starEach [e2] X.env := by rfl) (hs2 : ((backTo pos (starEach [e2] X.env)).any fun x => x.1) = false := by rfl) :
    RI X C (.Tuple elts kk tpos) (.Call (.Name "zip" p) [e, e2] [] pos) (itZ m) := PI.imp (pi_zip hg hm ha.pa hs hs2) fun σ H R ⟨L, w, p, en, S, E, h⟩ => by
  refine ⟨L, w, p, en, S, E, h.bind fun xs p1 w1 H1 vs l1 S1 r1 h1 => ?_⟩
  split at h1
  · rename_i x y
    obtain ⟨v, u, rfl, rv, ru⟩ := reps2 r1
    split at h1
    · rename_i xs ys ex ey
      obtain ⟨a, vs, rfl, hq, rr⟩ := getZL_ok rv ex
      obtain ⟨b, us, rfl, hq2, rr2⟩ := getZL_ok ru ey
      rw [hK]
      exact ⟨a, b, vs, us, rfl, seqL_mono S1.sub hq, seqL_mono S1.sub hq2, h1.ok S1 (itR_zip hq rr hq2 rr2)⟩
    · exact h1.elim
  · exact h1.elim
/-! ### for -/
def loopF (g : T1) (body : S) : List PV → S
  | [] => fun en p => .next en p
  | x :: r => fun en p => match g x with
    | none => .stuck
    | some as => match body (en.sets as) p with
      | .next en2 p2 => loopF g body r en2 p2
      | .cont en2 p2 => loopF g body r en2 p2
      | .brk en2 p2 => .next en2 p2
      | o => o
def sFor (it : M (List PV)) (g : T1) (body : S) : S := fun en p => (it en p).run en fun xs p1 => loopF g body xs en p1
theorem rs_for {tg iter : Expr} {body : List Stmt} {it : M (List PV)} {g : T1} {b : S} (hp : PassesOwn (model X.prog X.w) X.A X.env X.xe) (hc : X.calm = true) (hi : RI X C tg iter it) (hg : RG X C tg g) (hb : RSs X C body b) (hf : ∀ x : Value, foldedSetIterable iter X.env x = pure x := by intro _; rfl) :
    RS X C (.For tg iter body [] pos) (sFor it g b) := (ps_for hp hc hi hg hb hf).imp fun D σ H ⟨L, w, p, en, S, E, h⟩ => by
  refine ⟨L, w, p, en, S, E, h.run E fun xs p1 w1 H1 J l1 S1 rJ h1 => ?_⟩
  refine ⟨fun i m σ' H' => i ≤ xs.length ∧ m = xs.length - i ∧ ∃ w' p' en', w1.le w' ∧ SimP C.Γ L w' p' H' ∧ EnR C L w' en' σ' ∧ PostS C L w' D (loopF g b (xs.drop i) en' p'),
    ⟨xs.length, Nat.zero_le _, rfl, w1, p1, en, Wd.le.refl w1, S1, E.mono l1, h1⟩, fun i m σ' H' ⟨hi, hm, w', p', en', l', S', E', h'⟩ => ?_⟩
  obtain ⟨j1, j2⟩ := rJ L w' p' H' l' S' i
  cases ex : xs[i]? with
  | none =>
    have hlen : xs.length ≤ i := List.getElem?_eq_none_iff.mp ex
    rw [List.drop_eq_nil_of_le hlen] at h'
    exact .inl ⟨j1 ex, h' w' H' σ' (Wd.le.refl w') S' E'⟩
  | some x =>
    obtain ⟨hlt, ex'⟩ := List.getElem?_eq_some_iff.mp ex
    rw [List.drop_eq_getElem_cons hlt, ex'] at h'
    unfold loopF at h'
    obtain ⟨go, yl⟩ := j2 x ex
    refine .inr ⟨go, fun σ2 H2 => ∃ w2 p2 en2, w1.le w2 ∧ SimP C.Γ L w2 p2 H2 ∧ EnR C L w2 en2 σ2 ∧ PostS C L w2 D (loopF g b (xs.drop (i + 1)) en2 p2), fun σ2 H2 q => ⟨m - 1, by omega, by omega, by omega, q⟩, fun v H2 hy => ?_⟩
    obtain ⟨w2, l2, S2, r2⟩ := yl v H2 hy
    cases eg : g x with
    | none =>
      rw [eg] at h'
      exact h'.elim
    | some as =>
      rw [eg] at h'
      dsimp only at h'
      refine ⟨L, w2, p', x, as, S2, r2, eg, fun bs f q => ?_⟩
      refine ⟨L, w2, p', en'.sets as, S2, (E'.mono l2).sets f q, ?_⟩
      cases e : b (en'.sets as) p' with
      | next en2 p2 =>
        rw [e] at h'
        exact fun w3 H3 σ3 l3 S3 E3 => ⟨w3, p2, en2, l'.trans (l2.trans l3), S3, E3, PostS.mono (l2.trans l3) h'⟩
      | cont en2 p2 =>
        rw [e] at h'
        exact fun w3 H3 σ3 l3 S3 E3 => ⟨w3, p2, en2, l'.trans (l2.trans l3), S3, E3, PostS.mono (l2.trans l3) h'⟩
      | brk en2 p2 =>
        rw [e] at h'
        exact PostS.mono l2 h'
      | ret y p2 =>
        rw [e] at h'
        exact PostS.mono l2 h'
      | exc c y en2 p2 =>
        rw [e] at h'
        exact PostS.mono l2 h'
      | stuck =>
        rw [e] at h'
        exact h'.elim
end
end R

/-! R6: comprehensions -/
namespace R
open PySem L2

section
variable {Γ : Cfg} {L L' : Lv} {w w' : Wd} {p q : Pool} {H : Hp}
theorem CellR.mono {c : Cell} {a : Addr} (h : CellR Γ w H c a) (l : w.le w') (g : w'.G = w.G) : CellR Γ w' H c a := by
  refine h.step l (fun b _ e => ?_) (fun _ _ e => e)
  rw [g]
  exact e
theorem SimP.level (S : SimP Γ L w p H) (hb : L'.b ≤ p.length) (hlo : ∀ k, L'.b ≤ k → L'.lo k = none) (hm : ∀ k m, L'.lo k = some m → m ≤ p.length)
    (hc : ∀ (k : Nat) c a, p[k]? = some c → w.ρ[k]? = some a → CellR Γ (w.low (L.lo k)) H c a → CellR Γ (w.low (L'.lo k)) H c a) : SimP Γ L' w p H :=
  ⟨S.sub, S.len, S.nd, hb, hlo, hm, fun k c a h1 h2 => hc k c a h1 h2 (S.cell k c a h1 h2)⟩
/-- a block that fills the n-th cell with what leans on the first n alone -/
def Lv.block (L : Lv) (n : Nat) : Lv := ⟨n + 1, fun k => if k < n then some (minO n (L.lo k)) else if k = n then some n else none⟩
theorem Lv.block_lt {n k : Nat} (h : k < n) : (L.block n).lo k = some (minO n (L.lo k)) := by
  show (if k < n then _ else _) = _
  rw [if_pos h]
theorem Lv.block_eq {n : Nat} : (L.block n).lo n = some n := by
  show (if n < n then _ else if n = n then _ else _) = _
  rw [if_neg (Nat.lt_irrefl n), if_pos rfl]
theorem Lv.block_gt {n k : Nat} (h : n < k) : (L.block n).lo k = none := by
  show (if k < n then _ else if k = n then _ else _) = _
  rw [if_neg (by omega), if_neg (by omega)]
theorem minO_le (n : Nat) : ∀ o : Option Nat, minO n o ≤ n
  | none => Nat.le_refl n
  | some m => Nat.min_le_right m n
theorem Lv.block_le {n k m : Nat} (h : (L.block n).lo k = some m) : m ≤ n := by
  rcases Nat.lt_trichotomy k n with hk | hk | hk
  · rw [Lv.block_lt hk] at h
    cases h
    exact minO_le n _
  · subst hk
    rw [Lv.block_eq] at h
    cases h
    exact Nat.le_refl _
  · rw [Lv.block_gt hk] at h
    cases h
theorem low_take {m : Nat} : w.low (some m) = ⟨w.G, w.ρ.take m⟩ := rfl
theorem SimP.block (S : SimP Γ L w p H) {D : Addr} (hD : H D = none) : SimP Γ (L.block p.length) (w.cell D) (p ++ [.lst []]) (upd H D (.lst [])) := by
  have S1 : SimP Γ (L.deeper p.length) (w.cell D) (p ++ [.lst []]) (upd H D (.lst [])) := S.enter.newCell hD ⟨S.free hD, [], upd_same, rfl⟩
  refine S1.level (by rw [List.length_append]; exact Nat.le_refl _) (fun k hk => Lv.block_gt (by exact hk)) (fun k m e => ?_) (fun k c a h1 h2 x => ?_)
  · have := Lv.block_le e
    rw [List.length_append]
    omega
  · rcases Nat.lt_trichotomy k p.length with hk | hk | hk
    · rw [Lv.block_lt hk]
      rw [Lv.deeper_lt hk] at x
      exact x
    · subst hk
      rw [Lv.block_eq]
      have e : c = .lst [] := by
        rw [List.getElem?_append_right (Nat.le_refl _)] at h1
        simp at h1
        exact h1.symm
      subst e
      have h2 : (w.ρ ++ [D])[p.length]? = some a := h2
      rw [← S.len] at h2
      have e2 : D = a := by simpa using h2
      subst e2
      exact ⟨S.free hD, [], upd_same, rfl⟩
    · have := (List.getElem?_eq_some_iff.mp h1).1
      rw [List.length_append] at this
      simp at this
      omega
/-- the block's cells but the n-th are forgotten -/
theorem SimP.turn {n : Nat} (S : SimP Γ (L.block n) w q H) : SimP Γ (L.block n) (w.ice (n + 1) H) (q.take (n + 1)) H := by
  have hb : n + 1 ≤ q.length := S.hb
  have S1 : SimP Γ ((L.block n).deeper (n + 1)) w q H := by
    refine S.level hb (fun k hk => ?_) (fun k m e => ?_) (fun k c a h1 h2 x => ?_)
    · show (if k < n + 1 then _ else none) = none
      rw [if_neg (by have : n + 1 ≤ k := hk; omega)]
    · by_cases hk : k < n + 1
      · rw [Lv.deeper_lt hk] at e
        cases e
        have := minO_le (n + 1) ((L.block n).lo k)
        omega
      · have e : (if k < n + 1 then some (minO (n + 1) ((L.block n).lo k)) else none) = some m := e
        rw [if_neg hk] at e
        cases e
    · by_cases hk : k < n + 1
      · rw [Lv.deeper_lt hk]
        cases e : (L.block n).lo k with
        | none =>
          rcases Nat.lt_trichotomy k n with h | h | h
          · rw [Lv.block_lt h] at e
            cases e
          · subst h
            rw [Lv.block_eq] at e
            cases e
          · omega
        | some m =>
          rw [e] at x
          have := Lv.block_le e
          show CellR Γ (w.low (some (min m (n + 1)))) H c a
          rw [Nat.min_eq_left (by omega)]
          exact x
      · have e1 : ((L.block n).deeper (n + 1)).lo k = none := by
          show (if k < n + 1 then _ else none) = none
          rw [if_neg hk]
        rw [e1]
        rw [Lv.block_gt (by omega)] at x
        exact x
  exact S1.ice (Nat.le_refl _) (fun k hk => Lv.block_gt hk) (fun k m e => by have := Lv.block_le e; omega)
theorem SimP.unblockD {n : Nat} (S : SimP Γ (L.block n) w q H) : SimP Γ (L.deeper n) w q H := by
  have hb : n + 1 ≤ q.length := S.hb
  refine S.level (by show n ≤ q.length; omega) (fun k hk => ?_) (fun k m e => ?_) (fun k c a h1 h2 x => ?_)
  · show (if k < n then _ else none) = none
    rw [if_neg (by have : n ≤ k := hk; omega)]
  · by_cases hk : k < n
    · rw [Lv.deeper_lt hk] at e
      cases e
      have := minO_le n (L.lo k)
      omega
    · have e : (if k < n then some (minO n (L.lo k)) else none) = some m := e
      rw [if_neg hk] at e
      cases e
  · by_cases hk : k < n
    · rw [Lv.deeper_lt hk]
      rw [Lv.block_lt hk] at x
      exact x
    · have e1 : (L.deeper n).lo k = none := by
        show (if k < n then _ else none) = none
        rw [if_neg hk]
      rw [e1]
      exact x.mono (w.low_le _) Wd.low_G.symm
/-- the n-th cell stays one that may change -/
theorem SimP.unblock {n : Nat} (S : SimP Γ (L.block n) w q H) (hb : L.b ≤ n) (hlo : ∀ k, L.b ≤ k → L.lo k = none) (hm : ∀ k m, L.lo k = some m → m ≤ n) : SimP Γ L w q H := by
  have hq : n + 1 ≤ q.length := S.hb
  refine S.level (by omega) hlo (fun k m e => by have := hm k m e; omega) (fun k c a h1 h2 x => ?_)
  by_cases hk : k < n
  · rw [Lv.block_lt hk] at x
    refine x.mono ?_ (by rw [Wd.low_G, Wd.low_G])
    cases e : L.lo k with
    | none => exact w.low_le _
    | some m =>
      show (w.low (some (min m n))).le (w.low (some m))
      rw [Nat.min_eq_left (hm k m e)]
      exact Wd.le.refl _
  · rw [hlo k (by omega)]
    exact x.mono (w.low_le _) Wd.low_G.symm
end
/-! ### the names of a block -/
def wipeE (sl : List (Option PV)) : List Nat → List (Option PV)
  | [] => sl
  | v :: vs => (wipeE sl vs).set v none
theorem setV_get (j : Nat) : ∀ (bs : List (Nat × V)) (σ : St), j ∉ bs.map (·.1) → (setV σ bs)[j]? = σ[j]?
  | [], _, _ => rfl
  | (i, v) :: r, σ, h => by
    show (setV (σ.set i (some v)) r)[j]? = _
    rw [setV_get j r _ fun z => h (List.mem_cons_of_mem _ z)]
    exact List.getElem?_set_ne fun z => h (by rw [← z]; exact List.mem_cons_self)
theorem setV_len : ∀ (bs : List (Nat × V)) (σ : St), (setV σ bs).length = σ.length
  | [], _ => rfl
  | (i, v) :: r, σ => by
    show (setV (σ.set i (some v)) r).length = _
    rw [setV_len r, List.length_set]
theorem wipe_get (σ : St) (j : Nat) : ∀ vs : List Nat, (wipe σ vs)[j]? = if j ∈ vs then (if j < σ.length then some none else none) else σ[j]?
  | [] => by simp [wipe]
  | v :: vs => by
    show ((wipe σ vs).set v none)[j]? = _
    by_cases hv : v = j
    · subst hv
      rw [if_pos (List.mem_cons_self)]
      by_cases hl : v < σ.length
      · rw [List.getElem?_set_self (by rw [wipe_length]; exact hl), if_pos hl]
      · rw [List.getElem?_eq_none (by rw [List.length_set, wipe_length]; omega), if_neg hl]
    · rw [List.getElem?_set_ne hv, wipe_get σ j vs]
      have e : (j ∈ v :: vs) ↔ j ∈ vs := by
        constructor
        · intro h
          rcases List.mem_cons.mp h with h | h
          · exact absurd h.symm hv
          · exact h
        · exact List.mem_cons_of_mem _
      by_cases hj : j ∈ vs
      · rw [if_pos hj, if_pos (e.mpr hj)]
      · rw [if_neg hj, if_neg (fun z => hj (e.mp z))]
theorem wipe_setV {σ : St} {vs : List Nat} {bs : List (Nat × V)} (h : ∀ i ∈ bs.map (·.1), i ∈ vs) : wipe (setV (wipe σ vs) bs) vs = wipe σ vs := by
  apply List.ext_getElem?
  intro j
  rw [wipe_get, wipe_get, setV_len, wipe_length]
  by_cases hj : j ∈ vs
  · rw [if_pos hj, if_pos hj]
  · rw [if_neg hj, if_neg hj, setV_get j bs _ fun z => hj (h j z), wipe_get, if_neg hj]
theorem EnR.wipe {C : Cn} {L : Lv} {w : Wd} {en : En} {σ : St} (E : EnR C L w en σ) {L' : Lv} : ∀ vs : List Nat, EnR C L' w ⟨L'.b, wipeE en.sl vs⟩ (L2.wipe σ vs)
  | [] => ⟨rfl, E.len, E.val⟩
  | v :: vs => by
    have ih := EnR.wipe E (L' := L') vs
    refine ⟨rfl, ?_, fun j y e => ?_⟩
    · show ((wipeE en.sl vs).set v none).length = ((L2.wipe σ vs).set v none).length
      rw [List.length_set, List.length_set]
      exact ih.len
    · have e : ((wipeE en.sl vs).set v none)[j]? = some (some y) := e
      have ne : v ≠ j := by
        rintro rfl
        by_cases hl : v < (wipeE en.sl vs).length
        · rw [List.getElem?_set_self hl] at e
          cases e
        · rw [List.getElem?_eq_none (by rw [List.length_set]; omega)] at e
          cases e
      rw [List.getElem?_set_ne ne] at e
      obtain ⟨u, e1, e2⟩ := ih.val j y e
      exact ⟨u, by show ((L2.wipe σ vs).set v none)[j]? = _; rw [List.getElem?_set_ne ne]; exact e1, e2⟩
/-! ### the block -/
def W0 : WX := fun _ _ _ _ => False
def loopC (g : T1) (tt : M Bool) (te : M PV) (vs : List Nat) (n : Nat) (en : En) : List PV → Pool → Res Unit
  | [], q => .ok () q
  | x :: r, q => match g x with
    | none => .stuck
    | some as => if as.all (fun a => vs.elem a.1) = true then (tt (en.sets as) q).bind fun b q1 => if b = true then (te (en.sets as) q1).bind fun y q2 => match q2[n]? with
          | some (.lst acc) => if bel n y = true ∧ acc.length < big then loopC g tt te vs n en r ((q2.take (n + 1)).set n (.lst (acc ++ [y]))) else .stuck
          | _ => .stuck
        else loopC g tt te vs n en r (q1.take (n + 1))
      else .stuck
def mLc (it : M (List PV)) (g : T1) (tt : M Bool) (te : M PV) (vs : List Nat) : M PV := fun en p => (it en p).bind fun xs p1 => match loopC g tt te vs p1.length ⟨p1.length + 1, wipeE en.sl vs⟩ xs (p1 ++ [.lst []]) with
  | .ok _ q => match q[p1.length]? with
    | some (.lst acc) => .ok (.lst acc) (q.take p1.length)
    | _ => .stuck
  | _ => .stuck
/-- a list that may change -/
def mLcO (it : M (List PV)) (g : T1) (tt : M Bool) (te : M PV) (vs : List Nat) : M PV := fun en p => (it en p).bind fun xs p1 => match loopC g tt te vs p1.length ⟨p1.length + 1, wipeE en.sl vs⟩ xs (p1 ++ [.lst []]) with
  | .ok _ q => .ok (.own p1.length) q
  | _ => .stuck
section
variable {C : Cn}
abbrev Cn.blk (C : Cn) : Cn := ⟨C.Γ, W0⟩
/-- fin: what is wanted of the filled cell -/
theorem wLc_core {g : T1} {tt : M Bool} {te : M PV} {vs : List Nat} {σ : St} {H1 : Hp} {L : Lv} {w1 : Wd} {p1 : Pool} {en : En} {xs : List PV} {J : It} {Q : VK} (S1 : SimP C.Γ L w1 p1 H1) (E : EnR C L w1 en σ) (rJ : ItR C.Γ w1 xs J)
    (fin : Res Unit → Prop) (hf : fin (loopC g tt te vs p1.length ⟨p1.length + 1, wipeE en.sl vs⟩ xs (p1 ++ [.lst []]))) (hx : ∀ c v p, ¬ fin (.exc c v p)) (hst : ¬ fin .stuck)
    (D : Addr) (hD : H1 D = none) (hfin : ∀ w' q H', w1.le w' → SimP C.Γ (L.block p1.length) w' q H' → q.length = p1.length + 1 → w'.ρ[p1.length]? = some D → fin (.ok () q) → Q (.ref D) H') :
    ∃ W : Nat → Nat → Hp → Prop, (∃ m, W 0 m (upd H1 D (.lst []))) ∧ ∀ i m H, W i m H →
      (J.stop i H ∧ Q (.ref D) H) ∨ (J.go i H ∧ ∃ Nx : Hp → Prop, (∀ H', Nx H' → ∃ m', m' < m ∧ W (i + 1) m' H') ∧ ∀ x H', J.yld i H x H' → wG C.blk g x (wipe σ vs) H' fun σ2 H2 => wipe σ2 vs = wipe σ vs ∧ wT C.blk tt σ2 H2 fun b H3 =>
        if b = true then wE C.blk te σ2 H3 fun y H4 => ∃ acc, H4 D = some (.lst acc) ∧ acc.length < sizeLine ∧ Nx (upd H4 D (.lst (acc ++ [y]))) else Nx H3) := by
  let n := p1.length
  have hn : n = p1.length := rfl
  let enB : En := ⟨n + 1, wipeE en.sl vs⟩
  have le0 : w1.le (w1.cell D) := w1.le_cell D
  have lenD : (w1.cell D).ρ.length = n + 1 := by
    show (w1.ρ ++ [D]).length = _
    rw [List.length_append, S1.len]
    rfl
  have atD : (w1.cell D).ρ[n]? = some D := by
    show (w1.ρ ++ [D])[p1.length]? = some D
    rw [← S1.len]
    simp
  refine ⟨fun i m H => i ≤ xs.length ∧ m = xs.length - i ∧ ∃ w' q, (w1.cell D).le w' ∧ SimP C.Γ (L.block n) w' q H ∧ q.length = n + 1 ∧ fin (loopC g tt te vs n enB (xs.drop i) q), ⟨xs.length, Nat.zero_le _, rfl, w1.cell D, _, Wd.le.refl _, S1.block hD, by rw [List.length_append]; rfl, hf⟩, fun i m H ⟨hi, hm, w', q, l', S', lq, f'⟩ => ?_⟩
  obtain ⟨j1, j2⟩ := rJ _ w' q H (le0.trans l') S' i
  cases ex : xs[i]? with
  | none =>
    have hlen : xs.length ≤ i := List.getElem?_eq_none_iff.mp ex
    rw [List.drop_eq_nil_of_le hlen] at f'
    exact .inl ⟨j1 ex, hfin w' q H (le0.trans l') S' lq (pre_get l'.2 atD) f'⟩
  | some x =>
    obtain ⟨hlt, ex'⟩ := List.getElem?_eq_some_iff.mp ex
    rw [List.drop_eq_getElem_cons hlt, ex'] at f'
    unfold loopC at f'
    obtain ⟨go, yl⟩ := j2 x ex
    refine .inr ⟨go, fun H' => ∃ w2 q2, (w1.cell D).le w2 ∧ SimP C.Γ (L.block n) w2 q2 H' ∧ q2.length = n + 1 ∧ fin (loopC g tt te vs n enB (xs.drop (i + 1)) q2), fun H' z => ⟨m - 1, by omega, by omega, by omega, z⟩, fun v H2 hy => ?_⟩
    obtain ⟨w2, l2, S2, r2⟩ := yl v H2 hy
    cases eg : g x with
    | none =>
      rw [eg] at f'
      exact absurd f' hst
    | some as =>
      rw [eg] at f'
      dsimp only at f'
      by_cases ha : as.all (fun a => vs.elem a.1) = true
      · rw [if_pos ha] at f'
        refine ⟨L.block n, w2, q, x, as, S2, r2, eg, fun bs fb qb => ⟨wipe_setV fun j hj => ?_, ?_⟩⟩
        · rw [fb] at hj
          obtain ⟨a, ma, ea⟩ := List.mem_map.mp hj
          have := List.all_eq_true.mp ha a ma
          rw [ea] at this
          exact List.elem_iff.mp this
        · have E2 : EnR C.blk (L.block n) w2 (enB.sets as) (setV (wipe σ vs) bs) := by
            have E0 : EnR C.blk L w1 en σ := ⟨E.b, E.len, E.val⟩
            have E1 : EnR C.blk (L.block n) w1 enB (wipe σ vs) := E0.wipe (L' := L.block n) vs
            exact (E1.mono ((le0.trans l').trans l2)).sets fb qb
          refine ⟨L.block n, w2, q, enB.sets as, S2, E2, ?_⟩
          cases et : tt (enB.sets as) q with
          | stuck =>
            rw [et] at f'
            exact absurd f' hst
          | exc c v p2 =>
            rw [et] at f'
            exact absurd f' (hx _ _ _)
          | ok b q1 =>
            rw [et] at f'
            intro w3 H3 b' l3 S3 rb
            cases rb
            have f' : fin (if b = true then (te (enB.sets as) q1).bind fun y q2 => match q2[n]? with
              | some (.lst acc) => if bel n y = true ∧ acc.length < big then loopC g tt te vs n enB (xs.drop (i + 1)) ((q2.take (n + 1)).set n (.lst (acc ++ [y]))) else .stuck
              | _ => .stuck
              else loopC g tt te vs n enB (xs.drop (i + 1)) (q1.take (n + 1))) := f'
            have l03 : (w1.cell D).le w3 := (l'.trans l2).trans l3
            cases b with
            | false =>
              refine iteF ?_
              rw [if_neg Bool.false_ne_true] at f'
              have hl : n + 1 ≤ q1.length := S3.hb
              exact ⟨_, _, S3.le_ice l03 lenD, S3.turn, by rw [List.length_take]; omega, f'⟩
            | true =>
              refine iteT ?_
              rw [if_pos rfl] at f'
              refine ⟨L.block n, w3, q1, enB.sets as, S3, E2.mono l3, ?_⟩
              cases ee : te (enB.sets as) q1 with
              | stuck =>
                rw [ee] at f'
                exact absurd f' hst
              | exc c v p2 =>
                rw [ee] at f'
                exact absurd f' (hx _ _ _)
              | ok y q2 =>
                rw [ee] at f'
                intro w4 H4 u l4 S4 ru
                have f' : fin (match q2[n]? with
                  | some (.lst acc) => if bel n y = true ∧ acc.length < big then loopC g tt te vs n enB (xs.drop (i + 1)) ((q2.take (n + 1)).set n (.lst (acc ++ [y]))) else .stuck
                  | _ => .stuck) := f'
                split at f'
                · rename_i acc eacc
                  by_cases hk : bel n y = true ∧ acc.length < big
                  · rw [if_pos hk] at f'
                    have l04 : (w1.cell D).le w4 := l03.trans l4
                    have hl : n + 1 ≤ q2.length := S4.hb
                    have S5 := S4.turn
                    have l05 : (w1.cell D).le (w4.ice (n + 1) H4) := S4.le_ice l04 lenD
                    have e5 : (q2.take (n + 1))[n]? = some (.lst acc) := by
                      rw [List.getElem?_take_of_lt (Nat.lt_succ_self n)]
                      exact eacc
                    have d5 : (w4.ice (n + 1) H4).ρ[n]? = some D := pre_get l05.2 atD
                    obtain ⟨g5, zs, eH, rz⟩ := S5.cell n _ D e5 d5
                    rw [Lv.block_eq] at rz g5
                    refine ⟨zs, eH, by rw [← rz.length]; exact big_lt hk.2, _, _, l05, S5.write (c := .lst (acc ++ [y])) (o := .lst (zs ++ [u])) d5 (by rw [Wd.low_G] at g5; exact g5) ⟨by rw [Wd.low_G] at g5 ⊢; exact g5, _, upd_same, ?_⟩, by rw [List.length_set, List.length_take]; omega, f'⟩
                    rw [Lv.block_eq]
                    refine rz.append (Reps.cons ?_ Reps.nil)
                    refine (ru.below hk.1).mono ⟨S4.iced_le (n + 1), ?_⟩
                    show w4.ρ.take n <+: (w4.ρ.take (n + 1)).take n
                    rw [List.take_take, Nat.min_eq_left (Nat.le_succ n)]
                    exact List.prefix_refl _
                  · rw [if_neg hk] at f'
                    exact absurd f' hst
                · exact absurd f' hst
      · rw [if_neg ha] at f'
        exact absurd f' hst
theorem wE_lc {it : M (List PV)} {g : T1} {tt : M Bool} {te : M PV} {vs : List Nat} : ∀ σ H Q, wE C (mLc it g tt te vs) σ H Q → tLc (wI C it) (wG C.blk g) (wT C.blk tt) (wE C.blk te) vs σ H Q := fun σ H Q ⟨L, w, p, en, S, E, h⟩ => by
  refine ⟨L, w, p, en, S, E, h.bind fun xs p1 w1 H1 J l1 S1 rJ h1 => fun D hD => ?_⟩
  refine wLc_core (Q := Q) S1 (E.mono l1) rJ (fun r => Post C L w1 σ (RV C) (match r with
    | .ok _ q => match q[p1.length]? with
      | some (.lst acc) => .ok (.lst acc) (q.take p1.length)
      | _ => .stuck
    | _ => .stuck) Q) h1 (fun _ _ _ z => z) (fun z => z) D hD fun w' q H' l' S' lq dq f => ?_
  dsimp only at f
  split at f
  · rename_i acc eacc
    obtain ⟨g, vs, eH, r⟩ := S'.cell _ _ D eacc dq
    rw [Lv.block_eq] at r
    have S2 := S'.unblockD.ice S1.hb S1.hlo S1.hm
    have lw : (w'.low (some p1.length)).le (w'.ice p1.length H') := ⟨S'.iced_le p1.length, List.prefix_refl _⟩
    refine f _ H' _ (S'.le_ice l' S1.len) S2 ⟨D, vs, rfl, ?_, r.mono lw⟩
    show iced w' p1.length H' D = _
    rw [iced_at (Nat.le_refl _) dq]
    exact eH
  · exact f.elim
theorem wE_lcO {it : M (List PV)} {g : T1} {tt : M Bool} {te : M PV} {vs : List Nat} : ∀ σ H Q, wE C (mLcO it g tt te vs) σ H Q → tLc (wI C it) (wG C.blk g) (wT C.blk tt) (wE C.blk te) vs σ H Q := fun σ H Q ⟨L, w, p, en, S, E, h⟩ => by
  refine ⟨L, w, p, en, S, E, h.bind fun xs p1 w1 H1 J l1 S1 rJ h1 => fun D hD => ?_⟩
  refine wLc_core (Q := Q) S1 (E.mono l1) rJ (fun r => Post C L w1 σ (RV C) (match r with
    | .ok _ q => .ok (.own p1.length) q
    | _ => .stuck) Q) h1 (fun _ _ _ z => z) (fun z => z) D hD fun w' q H' l' S' lq dq f => ?_
  exact f w' H' _ l' (S'.unblock S1.hb S1.hlo S1.hm) ⟨D, dq, rfl⟩
end
section
variable {X : Cx} {C : Cn} {pos : Pos}
def mYes : M Bool := fun _ p => .ok true p
abbrev RTs (X : Cx) (C : Cn) (ifs : List Expr) (m : M Bool) : Prop := PTs X ifs (wT C m)
theorem rts_nil : RTs X C [] mYes := ⟨fun pins s σ H Q I ⟨L, w, p, en, S, E, h⟩ => pts_nil.run pins s σ H Q I (h.ok S rfl)⟩
theorem rts_one {c : Expr} {m : M Bool} (h : RT X C c m) : RTs X C [c] m := pts_one h
theorem re_lc {elt tg iter : Expr} {ifs : List Expr} {scope : Scope} {own : List (Str × Nat)} {it : M (List PV)} {g : T1} {tt : M Bool} {te : M PV} (hc : X.calm = true) (hN : X.N.Nodup) (hi : RI X C tg iter it) (ok : BlkOk X.N X.env.scope scope own)
    (hg : ∀ (s : Shared) (H : Hp) (B : Addr) (cl : List (Str × Addr)) (fp : List Addr), RG (X.blk s H scope (compEnvC scope cl B X.env) fp) C.blk tg g) (ht : ∀ (s : Shared) (H : Hp) (B : Addr) (cl : List (Str × Addr)) (fp : List Addr), RTs (X.blk s H scope (compEnvC scope cl B X.env) fp) C.blk ifs tt)
    (he : ∀ (s : Shared) (H : Hp) (B : Addr) (cl : List (Str × Addr)) (fp : List Addr), RE (X.blk s H scope (compEnvC scope cl B X.env) fp) C.blk elt te) (hf : ∀ x : Value, foldedSetIterable iter X.env x = pure x := by intro _; rfl) :
    RE X C (.ListComp elt [{ target := tg, iter := iter, ifs := ifs, is_async := 0 }] scope pos) (mLc it g tt te (own.map (·.2))) := (pe_lc hc hN hi ok hg ht he hf).imp wE_lc
theorem rs_setLc {i : Nat} {y : Str} {py spos : Pos} {elt tg iter : Expr} {ifs : List Expr} {scope : Scope} {own : List (Str × Nat)} {it : M (List PV)} {g : T1} {tt : M Bool} {te : M PV} (hc : X.calm = true) (hN : X.N.Nodup) (hy : X.N[i]? = some y) (hl : X.env.scope.names.lookup y = some .local)
    (hsw : swapsWith (.ListComp elt [{ target := tg, iter := iter, ifs := ifs, is_async := 0 }] scope pos) (some (.Name y py)) spos.line X.env = pure true) (hi : RI X C tg iter it) (ok : BlkOk X.N X.env.scope scope own)
    (hg : ∀ (s : Shared) (H : Hp) (B : Addr) (cl : List (Str × Addr)) (fp : List Addr), RG (X.blk s H scope (compEnvC scope cl B X.env) fp) C.blk tg g) (ht : ∀ (s : Shared) (H : Hp) (B : Addr) (cl : List (Str × Addr)) (fp : List Addr), RTs (X.blk s H scope (compEnvC scope cl B X.env) fp) C.blk ifs tt)
    (he : ∀ (s : Shared) (H : Hp) (B : Addr) (cl : List (Str × Addr)) (fp : List Addr), RE (X.blk s H scope (compEnvC scope cl B X.env) fp) C.blk elt te) (hf : ∀ x : Value, foldedSetIterable iter X.env x = pure x := by intro _; rfl) :
    RS X C (.Assign [.Name y py] (.ListComp elt [{ target := tg, iter := iter, ifs := ifs, is_async := 0 }] scope pos) spos) (sSet (mLc it g tt te (own.map (·.2))) i) := (ps_setLc hc hN hy hl hsw hi ok hg ht he hf).imp fun D σ H ⟨L, w, p, en, S, E, h⟩ =>
  wE_lc σ H _ ⟨L, w, p, en, S, E, h.run E fun x p1 w1 H1 v l1 S1 r1 h1 => h1 w1 H1 _ (Wd.le.refl w1) S1 ((E.mono l1).set r1)⟩
theorem rs_setLcO {i : Nat} {y : Str} {py spos : Pos} {elt tg iter : Expr} {ifs : List Expr} {scope : Scope} {own : List (Str × Nat)} {it : M (List PV)} {g : T1} {tt : M Bool} {te : M PV} (hc : X.calm = true) (hN : X.N.Nodup) (hy : X.N[i]? = some y) (hl : X.env.scope.names.lookup y = some .local)
    (hsw : swapsWith (.ListComp elt [{ target := tg, iter := iter, ifs := ifs, is_async := 0 }] scope pos) (some (.Name y py)) spos.line X.env = pure true) (hi : RI X C tg iter it) (ok : BlkOk X.N X.env.scope scope own)
    (hg : ∀ (s : Shared) (H : Hp) (B : Addr) (cl : List (Str × Addr)) (fp : List Addr), RG (X.blk s H scope (compEnvC scope cl B X.env) fp) C.blk tg g) (ht : ∀ (s : Shared) (H : Hp) (B : Addr) (cl : List (Str × Addr)) (fp : List Addr), RTs (X.blk s H scope (compEnvC scope cl B X.env) fp) C.blk ifs tt)
    (he : ∀ (s : Shared) (H : Hp) (B : Addr) (cl : List (Str × Addr)) (fp : List Addr), RE (X.blk s H scope (compEnvC scope cl B X.env) fp) C.blk elt te) (hf : ∀ x : Value, foldedSetIterable iter X.env x = pure x := by intro _; rfl) :
    RS X C (.Assign [.Name y py] (.ListComp elt [{ target := tg, iter := iter, ifs := ifs, is_async := 0 }] scope pos) spos) (sSet (mLcO it g tt te (own.map (·.2))) i) := (ps_setLc hc hN hy hl hsw hi ok hg ht he hf).imp fun D σ H ⟨L, w, p, en, S, E, h⟩ =>
  wE_lcO σ H _ ⟨L, w, p, en, S, E, h.run E fun x p1 w1 H1 v l1 S1 r1 h1 => h1 w1 H1 _ (Wd.le.refl w1) S1 ((E.mono l1).set r1)⟩
end
end R

/-! R7: defs, calls, instances made, raise, try -/
namespace R
open PySem L2

abbrev FnM := List PV → Pool → Res PV
/-- what follows a call -/
def PostF (Γ : Cfg) (L : Lv) (w : Wd) (r : Res PV) (Q : VK) (E : XK) : Prop := match r with
  | .ok x p => ∀ w' H' v, w.le w' → SimP Γ L w' p H' → Rep Γ w' x v → Q v H'
  | .exc c ov p => ∀ w' H' d, w.le w' → SimP Γ L w' p H' → ExcR Γ w' c ov d → E (.ref (Γ.cls c)) d H'
  | .stuck => False
/-- a def's promise: it does what f says -/
def spM (Γ : Cfg) (n : Nat) (f : FnM) : Sp := fun vs H Q E => vs.length = n ∧ ∃ L w p xs, SimP Γ L w p H ∧ Reps Γ w xs vs ∧ PostF Γ L w (f xs p) Q E
/-- a def by its body; N: how many names -/
def fnM (fld : Nat → List Str) (N : Nat) (body : R.S) : FnM := fun xs p => match body ⟨p.length, xs.map some ++ List.replicate (N - xs.length) none⟩ p with
  | .ret x q => match thaw fld p.length q x with
    | some y => .ok y (q.take p.length)
    | none => .stuck
  | .next _ q => .ok .non (q.take p.length)
  | .exc c none _ q => .exc c none (q.take p.length)
  | .exc c (some x) _ q => match thaw fld p.length q x with
    | some y => .exc c (some y) (q.take p.length)
    | none => .stuck
  | _ => .stuck
/-- .. that hands back a list of its own, which may change -/
def fnO (N : Nat) (body : R.S) : FnM := fun xs p => match body ⟨p.length, xs.map some ++ List.replicate (N - xs.length) none⟩ p with
  | .ret (.own k) q => if k = p.length then match q[p.length]? with
      | some (.lst acc) => if bels p.length acc = true then .ok (.own p.length) (q.take (p.length + 1)) else .stuck
      | _ => .stuck
    else .stuck
  | _ => .stuck
theorem Reps.getS {Γ : Cfg} {w : Wd} {xs : List PV} {vs : List V} (r : Reps Γ w xs vs) (n m : Nat) (h : n - xs.length = m) : ∀ (i : Nat) x, (xs.map some ++ List.replicate m (none : Option PV))[i]? = some (some x) → ∃ v, (vs.map some ++ List.replicate (n - vs.length) (none : Option V))[i]? = some (some v) ∧ Rep Γ w x v := fun i x e => by
  by_cases hi : i < xs.length
  · rw [List.getElem?_append_left (by rw [List.length_map]; exact hi), List.getElem?_map] at e
    cases ex : xs[i]? with
    | none =>
      rw [ex] at e
      cases e
    | some y =>
      rw [ex] at e
      cases e
      obtain ⟨v, ev, rv⟩ := r.get ex
      exact ⟨v, by rw [List.getElem?_append_left (by rw [List.length_map, ← r.length]; exact hi), List.getElem?_map, ev]; rfl, rv⟩
  · rw [List.getElem?_append_right (by rw [List.length_map]; omega), List.getElem?_replicate] at e
    split at e <;> cases e
theorem EnR.start {C : Cn} {w : Wd} {L : Lv} {N : List Str} {xs : List PV} {vs : List V} (r : Reps C.Γ w xs vs) : EnR C L w ⟨L.b, xs.map some ++ List.replicate (N.length - xs.length) none⟩ (L2.start N vs) := by
  refine ⟨rfl, ?_, r.getS N.length _ rfl⟩
  show (xs.map some ++ List.replicate (N.length - xs.length) none).length = (vs.map some ++ List.replicate (N.length - vs.length) none).length
  rw [List.length_append, List.length_append, List.length_map, List.length_map, List.length_replicate, List.length_replicate, r.length]
theorem ExcR.sub {Γ : Cfg} {w w' : Wd} {c : Nat} {x y : PV} {d : Option Addr} (h : ExcR Γ w c (some x) d) (l : ∀ a o, w.G a = some o → w'.G a = some o) (hr : ∀ v, Rep Γ w x v → Rep Γ w' y v) : ExcR Γ w' c (some y) d := by
  obtain ⟨dx, v, e, g, r⟩ := h
  exact ⟨dx, v, e, l _ _ g, hr v r⟩
section
variable {P : Program} {w0 : World} {K : PySem.W.Frag} {mg : Str → Option Value} {base : Heap}
theorem fn_ret {Γ : Cfg} {L : Lv} {w : Wd} {p : Pool} {H : Hp} (S : SimP Γ L w p H) {N : Nat} {body : R.S} {xs : List PV} {Q : VK} {E : XK} (h : PostF Γ L w (fnM Γ.fld N body xs p) Q E) :
    PostS ⟨Γ, fun cls d _ H => E cls d H⟩ (L.deeper p.length) w { nx := fun _ H' => Q .non H', rt := Q } (body ⟨p.length, xs.map some ++ List.replicate (N - xs.length) none⟩ p) := by
  unfold fnM at h
  cases e : body ⟨p.length, xs.map some ++ List.replicate (N - xs.length) none⟩ p with
  | next en q =>
    rw [e] at h
    exact fun w' H' σ' l S' E' => h _ H' .non (S'.le_ice l S.len) (S'.ice S.hb S.hlo S.hm) rfl
  | ret x q =>
    rw [e] at h
    dsimp only at h
    split at h
    · rename_i y ey
      exact fun w' H' v l S' r => h _ H' v (S'.le_ice l S.len) (S'.ice S.hb S.hlo S.hm) (thaw_ok S' ey r)
    · exact h.elim
  | exc c ov en q =>
    rw [e] at h
    cases ov with
    | none => exact fun w' H' σ' d l S' E' x => h _ H' d (S'.le_ice l S.len) (S'.ice S.hb S.hlo S.hm) x
    | some x =>
      dsimp only at h
      split at h
      · rename_i y ey
        exact fun w' H' σ' d l S' E' z => h _ H' d (S'.le_ice l S.len) (S'.ice S.hb S.hlo S.hm) (z.sub (S'.iced_le _) fun v r => thaw_ok S' ey r)
      · exact h.elim
  | brk en q =>
    rw [e] at h
    exact h.elim
  | cont en q =>
    rw [e] at h
    exact h.elim
  | stuck =>
    rw [e] at h
    exact h.elim
theorem fn_retO {Γ : Cfg} {L : Lv} {w : Wd} {p : Pool} {H : Hp} (S : SimP Γ L w p H) {N : Nat} {body : R.S} {xs : List PV} {Q : VK} {E : XK} (h : PostF Γ L w (fnO N body xs p) Q E) :
    PostS ⟨Γ, fun cls d _ H => E cls d H⟩ (L.deeper p.length) w { nx := fun _ H' => Q .non H', rt := Q } (body ⟨p.length, xs.map some ++ List.replicate (N - xs.length) none⟩ p) := by
  unfold fnO at h
  cases e : body ⟨p.length, xs.map some ++ List.replicate (N - xs.length) none⟩ p with
  | ret x q =>
    rw [e] at h
    cases x with
    | own k =>
      dsimp only at h
      by_cases hk : k = p.length
      · subst hk
        rw [if_pos rfl] at h
        split at h
        · rename_i acc eacc
          by_cases hb : bels p.length acc = true
          · rw [if_pos hb] at h
            intro w' H' v l S' r
            obtain ⟨a, ha, rfl⟩ := r
            have hl : p.length + 1 ≤ q.length := (List.getElem?_eq_some_iff.mp eacc).1
            have S1 : SimP Γ (L.block p.length) w' q H' := by
              refine S'.level hl (fun k hk => Lv.block_gt (by exact hk)) (fun k m e => by have := Lv.block_le e; omega) (fun k c b h1 h2 x => ?_)
              rcases Nat.lt_trichotomy k p.length with hk | hk | hk
              · rw [Lv.block_lt hk]
                rw [Lv.deeper_lt hk] at x
                exact x
              · subst hk
                rw [Lv.block_eq]
                have e0 : (L.deeper p.length).lo p.length = none := by
                  show (if p.length < p.length then _ else none) = none
                  rw [if_neg (Nat.lt_irrefl _)]
                rw [e0] at x
                rw [eacc] at h1
                cases h1
                obtain ⟨g, vs, eH, rr⟩ := x
                exact ⟨g, vs, eH, rr.below hb⟩
              · rw [Lv.block_gt hk]
                have e0 : (L.deeper p.length).lo k = none := by
                  show (if k < p.length then _ else none) = none
                  rw [if_neg (by omega)]
                rw [e0] at x
                exact x
            have S2 := S1.turn.unblock S.hb S.hlo S.hm
            refine h (w'.ice (p.length + 1) H') H' (.ref a) ⟨fun b o eb => S1.iced_le _ b o (l.1 b o eb), ?_⟩ S2 ⟨a, ?_, rfl⟩
            · obtain ⟨t, et⟩ := l.2
              show w.ρ <+: w'.ρ.take (p.length + 1)
              rw [← et, ← S.len, List.take_append]
              exact ⟨_, by rw [List.take_of_length_le (Nat.le_succ _)]⟩
            · show (w'.ρ.take (p.length + 1))[p.length]? = some a
              rw [List.getElem?_take_of_lt (Nat.lt_succ_self _)]
              exact ha
          · rw [if_neg hb] at h
            exact h.elim
        · exact h.elim
      · rw [if_neg hk] at h
        exact h.elim
    | _ => exact h.elim
  | _ =>
    rw [e] at h
    exact h.elim
/-- THE RULE: a def by its body -/
theorem ok_fn {Γ : Cfg} {x qual : Str} {st : Stmt} {dvs : List V} {kws : List (Str × V)} {f : Addr} {fd : FuncData} {N ps : List Str} {k n : Nat} (F : FunD K x qual (defArgs st) (defBody st) (defScope st) dvs kws f fd) (S : FnScope N ps (defScope st)) (hn : ps.length = n) (body : R.S)
    (hb : ∀ (cdv : Value) (A : Around) (outer : List Env) (s : Shared) (H : Hp) (E : XK), Room k (A.deeper (PyProof.Rows.envOfC qual (defScope st) s.heap.objs.size f cdv)) →
      RSs (cxOf (L2.CX P w0) P w0 K mg base N qual (defScope st) f cdv A outer s H E) ⟨Γ, fun cls d _ H => E cls d H⟩ (defBody st) body) : FnOk P w0 K mg base (L2.CX P w0) (k + 1) f fd ps (spM Γ n (fnM Γ.fld N.length body)) := by
  refine F.ok (CX := L2.CX P w0) S (fun vs H Q E h => h.1.trans hn.symm) (fun cdv A outer s H vs Q E hr h => ⟨wS _ body, hb cdv A outer s H E hr, ?_⟩)
  obtain ⟨_, L, w, p, xs, S', r, h⟩ := h
  exact ⟨L.deeper p.length, w, p, ⟨p.length, xs.map some ++ List.replicate (N.length - xs.length) none⟩, S'.enter, EnR.start (L := L.deeper p.length) r, fn_ret S' h⟩
theorem ok_fnO {Γ : Cfg} {x qual : Str} {st : Stmt} {dvs : List V} {kws : List (Str × V)} {f : Addr} {fd : FuncData} {N ps : List Str} {k n : Nat} (F : FunD K x qual (defArgs st) (defBody st) (defScope st) dvs kws f fd) (S : FnScope N ps (defScope st)) (hn : ps.length = n) (body : R.S)
    (hb : ∀ (cdv : Value) (A : Around) (outer : List Env) (s : Shared) (H : Hp) (E : XK), Room k (A.deeper (PyProof.Rows.envOfC qual (defScope st) s.heap.objs.size f cdv)) →
      RSs (cxOf (L2.CX P w0) P w0 K mg base N qual (defScope st) f cdv A outer s H E) ⟨Γ, fun cls d _ H => E cls d H⟩ (defBody st) body) : FnOk P w0 K mg base (L2.CX P w0) (k + 1) f fd ps (spM Γ n (fnO N.length body)) := by
  refine F.ok (CX := L2.CX P w0) S (fun vs H Q E h => h.1.trans hn.symm) (fun cdv A outer s H vs Q E hr h => ⟨wS _ body, hb cdv A outer s H E hr, ?_⟩)
  obtain ⟨_, L, w, p, xs, S', r, h⟩ := h
  exact ⟨L.deeper p.length, w, p, ⟨p.length, xs.map some ++ List.replicate (N.length - xs.length) none⟩, S'.enter, EnR.start (L := L.deeper p.length) r, fn_retO S' h⟩
/-! ### __init__ -/
/-- C(..) by the body of __init__: what the new instance is -/
def iniM (fld : Nat → List Str) (c N : Nat) (body : R.S) : FnM := fun xs p => match body ⟨p.length, some (.own p.length) :: (xs.map some ++ List.replicate (N - (xs.length + 1)) none)⟩ (p ++ [.obj c []]) with
  | .next _ q => match thaw fld p.length q (.own p.length) with
    | some y => .ok y (q.take p.length)
    | none => .stuck
  | .exc e none _ q => .exc e none (q.take p.length)
  | .exc e (some x) _ q => match thaw fld p.length q x with
    | some y => .exc e (some y) (q.take p.length)
    | none => .stuck
  | _ => .stuck
/-- the promise of __init__; n: how many arguments, self too -/
def spI (Γ : Cfg) (c n : Nat) (f : FnM) : Sp := fun vs H Q E => vs.length = n ∧ ∃ L w p xs x us H0, vs = .ref x :: us ∧ SimP Γ L w p H0 ∧ Reps Γ w xs us ∧ H0 x = none ∧ (∃ dx, H0 dx = none ∧ dx ≠ x ∧ H = upd (upd H0 dx (.own x)) x (.ins (Γ.cls c) dx [])) ∧
  PostF Γ L w (f xs p) (fun v H' => v = .ref x → Q .non H') E
theorem newObj {Γ : Cfg} {L : Lv} {w : Wd} {p : Pool} {H0 : Hp} (S : SimP Γ L w p H0) {c : Nat} {x dx : Addr} (hx : H0 x = none) (hd : H0 dx = none) (ne : dx ≠ x) :
    SimP Γ (L.deeper p.length) (w.cell x) (p ++ [.obj c []]) (upd (upd H0 dx (.own x)) x (.ins (Γ.cls c) dx [])) := by
  have S1 : SimP Γ (L.deeper p.length) w p (upd H0 dx (.own x)) := by
    have S0 := S.enter
    refine ⟨fun a o e => ?_, S0.len, S0.nd, S0.hb, S0.hlo, S0.hm, fun k c a h1 h2 => ?_⟩
    · rw [upd_ne (ne_of_none (S0.sub a o e) hd)]
      exact S0.sub a o e
    · refine (S0.cell k c a h1 h2).step (Wd.le.refl _) (fun _ _ g => g) (up_new hd)
  have hx1 : upd H0 dx (.own x) x = none := by
    rw [upd_ne ne.symm]
    exact hx
  refine S1.newCell hx1 ⟨S.free hx, dx, [], ?_, ?_, S.free hd, Nat.zero_le _, rfl⟩
  · rw [upd_same]
    cases Γ.fld c <;> rfl
  · rw [upd_ne ne, upd_same]
theorem ok_init {Γ : Cfg} {x qual : Str} {st : Stmt} {dvs : List V} {kws : List (Str × V)} {f : Addr} {fd : FuncData} {N ps : List Str} {k n c : Nat} (F : FunD K x qual (defArgs st) (defBody st) (defScope st) dvs kws f fd) (S : FnScope N ps (defScope st)) (hn : ps.length = n) (body : R.S)
    (hb : ∀ (cdv : Value) (A : Around) (outer : List Env) (s : Shared) (H : Hp) (E : XK), Room k (A.deeper (PyProof.Rows.envOfC qual (defScope st) s.heap.objs.size f cdv)) →
      RSs (cxOf (L2.CX P w0) P w0 K mg base N qual (defScope st) f cdv A outer s H E) ⟨Γ, fun cls d _ H => E cls d H⟩ (defBody st) body) : FnOk P w0 K mg base (L2.CX P w0) (k + 1) f fd ps (spI Γ c n (iniM Γ.fld c N.length body)) := by
  refine F.ok (CX := L2.CX P w0) S (fun vs H Q E h => h.1.trans hn.symm) (fun cdv A outer s H vs Q E hr h => ⟨wS _ body, hb cdv A outer s H E hr, ?_⟩)
  obtain ⟨_, L, w, p, xs, x, us, H0, rfl, S', r, hx, ⟨dx, hd, ne, rfl⟩, h⟩ := h
  have S2 := newObj S' (c := c) hx hd ne
  have rx : Rep Γ (w.cell x) (.own p.length) (.ref x) := ⟨x, by show (w.ρ ++ [x])[p.length]? = some x; rw [← S'.len]; simp, rfl⟩
  have e1 : ((PV.own p.length :: xs).map some ++ List.replicate (N.length - (PV.own p.length :: xs).length) none) = some (.own p.length) :: (xs.map some ++ List.replicate (N.length - (xs.length + 1)) none) := by
    rw [List.map_cons, List.cons_append, List.length_cons]
  refine ⟨L.deeper p.length, w.cell x, p ++ [.obj c []], ⟨p.length, (PV.own p.length :: xs).map some ++ List.replicate (N.length - (PV.own p.length :: xs).length) none⟩, S2, EnR.start (L := L.deeper p.length) (Reps.cons rx (r.mono (w.le_cell x))), ?_⟩
  rw [e1]
  unfold iniM at h
  have lw := w.le_cell x
  cases e : body ⟨p.length, some (.own p.length) :: (xs.map some ++ List.replicate (N.length - (xs.length + 1)) none)⟩ (p ++ [.obj c []]) with
  | next en q =>
    rw [e] at h
    dsimp only at h
    split at h
    · rename_i y ey
      exact fun w' H' σ' l S3 E' => h _ H' (.ref x) (S3.le_ice (lw.trans l) S'.len) (S3.ice S'.hb S'.hlo S'.hm) (thaw_ok S3 ey (rx.mono l)) rfl
    · exact h.elim
  | exc ec ov en q =>
    rw [e] at h
    cases ov with
    | none => exact fun w' H' σ' d l S3 E' z => h _ H' d (S3.le_ice (lw.trans l) S'.len) (S3.ice S'.hb S'.hlo S'.hm) z
    | some z =>
      dsimp only at h
      split at h
      · rename_i y ey
        exact fun w' H' σ' d l S3 E' z => h _ H' d (S3.le_ice (lw.trans l) S'.len) (S3.ice S'.hb S'.hlo S'.hm) (z.sub (S3.iced_le _) fun v r => thaw_ok S3 ey r)
      · exact h.elim
  | _ =>
    rw [e] at h
    exact h.elim
end
/-! ### calls -/
section
variable {X : Cx} {C : Cn} {pos : Pos}
def mFn (f : FnM) (ds : List PV) (a : M (List PV)) : M PV := fun en p => (a en p).bind fun xs p1 => f (xs ++ ds) p1
/-- written default values -/
def DfR : List PV → List V → Prop
  | [], vs => vs = []
  | x :: xs, vs => ∃ v r, vs = v :: r ∧ DfR xs r ∧ match x with
    | .int i => v = .int i
    | .non => v = .non
    | .bl b => v = .bl b
    | .str s => v = .str s
    | _ => False
theorem DfR.reps {Γ : Cfg} {w : Wd} : ∀ {xs : List PV} {vs : List V}, DfR xs vs → Reps Γ w xs vs
  | [], _, h => h
  | x :: xs, vs, h => by
    obtain ⟨v, r, rfl, h1, h2⟩ := h
    refine Reps.cons ?_ (DfR.reps h1)
    cases x with
    | int i => exact h2
    | non => exact h2
    | bl b => exact h2
    | str s => exact h2
    | _ => exact h2.elim
theorem PostF.of {Γ : Cfg} {W : WX} {L : Lv} {w : Wd} {σ : St} {r : Res PV} {Q : VK} (h : Post ⟨Γ, W⟩ L w σ (RV ⟨Γ, W⟩) r Q) : PostF Γ L w r Q (WE W σ) := by
  cases r with
  | ok x p => exact h
  | exc c v p => exact h
  | stuck => exact h
theorem re_fn {k n : Nat} {f : Addr} {fd : FuncData} {ps : List Str} {g : FnM} {ds : List Value} {dvs : List V} {dps : List PV} {x : Str} {p : Pos} {e : Expr} {es : List Expr} {a : M (List PV)} (F : FnOk X.prog X.w X.K X.mg X.base (L2.CX X.prog X.w) k f fd ps (spM C.Γ n g)) (hr : Room k X.A) (hg : Gl X x)
    (hm : X.mg x = some (.ref f)) (hk : PySem.W.keepIn X.K (.ref f) = true) (hb : Binds X.K fd ps ds) (hd : Vals dvs ds) (hds : DfR dps dvs) (tk : Takes X C.W) (ha : RA X C (e :: es) a) (hl : es.length + 1 + dps.length = n) (hdb : (x == ("__debug__" : Str)) = false := by decide)
    (he : starEach (e :: es) X.env = (false, eval e X.env) :: starEach es X.env := by rfl) (hpl : (backTo pos (starEach es X.env)).any (·.1) = false := by rfl) : RE X C (.Call (.Name x p) (e :: es) [] pos) (mFn g dps a) :=
  (pe_callSD F hr hg hm hk hb hd (fun σ => passAt tk σ) ha.pa hdb he hpl).imp fun σ H Q ⟨L, w, p, en, S, E, h⟩ => by
    refine ⟨L, w, p, en, S, E, ?_⟩
    unfold mFn at h
    cases ea : a en p with
    | ok xs p1 =>
      rw [ea] at h
      intro w1 H1 vs l1 S1 r1
      refine ⟨?_, L, w1, p1, xs ++ dps, S1, r1.append hds.reps, PostF.of (Post.mono l1 h)⟩
      rw [List.length_append, ← r1.length, ha.len _ _ _ _ ea, ← (hds.reps (Γ := C.Γ) (w := w)).length]
      exact hl
    | exc c v p1 =>
      rw [ea] at h
      exact h
    | stuck =>
      rw [ea] at h
      exact h
/-! C(..) -/
theorem run_makeSD {CX : CXT} {k : Nat} {f Ca : Addr} {fd : FuncData} {ps : List Str} {sp : Sp} {dvs : List V} {ds : List Value} {E : XK} {pins : List (Addr × Obj)} {σ : St} {H : Hp} {s : Shared} {Q : VK} {us : List Value} {vs : List V} (M : Mk X.K Ca f) (F : FnOk X.prog X.w X.K X.mg X.base CX k f fd ps sp) (hr : Room (k + 1) X.A) (hb : Binds X.K fd ps ds) (hd : Vals dvs ds)
    (hx : PassesAt CX X σ E) (I : Inv X pins σ H s) (r : Vals vs us)
    (h : ∀ x dx, H x = none → H dx = none → dx ≠ x → sp (.ref x :: (vs ++ dvs)) (upd (upd H dx (.own x)) x (.ins Ca dx [])) (fun v H2 => v = .non ∧ Q (.ref x) H2) E) :
    wpAny (model X.prog X.w) X.A (call (.ref Ca) us) (EP X pins σ Q) X.xe s := by
  have hq := h (s.heap.objs.size + 1) s.heap.objs.size (I.hok.fresh (Nat.le_succ _)) (I.hok.fresh (Nat.le_refl _)) (Nat.ne_of_lt (Nat.lt_succ_self _))
  have I2 := Inv.made (C := Ca) I
  have r2 : Vals (V.ref (s.heap.objs.size + 1) :: (vs ++ dvs)) (Value.ref (s.heap.objs.size + 1) :: (us ++ ds)) := .cons rfl (r.append hd)
  have hl : (Value.ref (s.heap.objs.size + 1) :: us ++ ds).length = ps.length := by
    have e := r2.length
    rw [F.len _ _ _ _ hq] at e
    exact e.symm
  refine wpAny_call (make_map (f := f) I.kIn M.makes M.init (beq_iff_eq.mp M.fn) (codeAny_mono (F.run _ X.stack _ _ ⟨Value.ref (s.heap.objs.size + 1) :: us, []⟩ (Value.ref (s.heap.objs.size + 1) :: (us ++ ds)) _ _ E (hr.make Ca us [])
    (I2.env0.make Ca us []) (hb _ (Value.ref (s.heap.objs.size + 1) :: us) I2.kIn hl) r2 hq) fun r s' hq' => ?_))
  cases r with
  | error e => exact hx pins _ _ e s' I2 hq'
  | ok fl =>
    cases fl with
    | ret u =>
      obtain ⟨v, H', I3, rv, ev, q3⟩ := I2.after hq'
      subst ev
      exact ⟨rv, ⟨V.ref (s.heap.objs.size + 1), H', I3, rfl, q3⟩⟩
    | next => exact False.elim hq'
    | brk => exact False.elim hq'
    | cont => exact False.elim hq'
def tMakeSD (Ca : Addr) (sp : Sp) (dvs : List V) (E : St → XK) (t : TA) : TE := fun σ H Q => t σ H fun vs H1 => ∀ x dx, H1 x = none → H1 dx = none → dx ≠ x →
  sp (.ref x :: (vs ++ dvs)) (upd (upd H1 dx (.own x)) x (.ins Ca dx [])) (fun v H2 => v = .non ∧ Q (.ref x) H2) (E σ)
theorem pe_makeSD {CX : CXT} {k : Nat} {f Ca : Addr} {fd : FuncData} {ps : List Str} {sp : Sp} {dvs : List V} {ds : List Value} {E : St → XK} {x : Str} {p : Pos} {e : Expr} {es : List Expr} {t : TA} (M : Mk X.K Ca f) (F : FnOk X.prog X.w X.K X.mg X.base CX k f fd ps sp) (hr : Room (k + 1) X.A) (hg : Gl X x) (hm : X.mg x = some (.ref Ca)) (hb : Binds X.K fd ps ds) (hd : Vals dvs ds) (hx : ∀ σ, PassesAt CX X σ (E σ))
    (ha : PA X (e :: es) t) (hdb : (x == ("__debug__" : Str)) = false := by decide) (he : starEach (e :: es) X.env = (false, eval e X.env) :: starEach es X.env := by rfl) (hpl : (backTo pos (starEach es X.env)).any (·.1) = false := by rfl) :
    PE X (.Call (.Name x p) (e :: es) [] pos) (tMakeSD Ca sp dvs E t) := by
  refine ⟨fun pins s σ H Q I h => ?_⟩
  refine wpAny_Call_Name_kw (ld_glob I hg hm ?_ hdb)
  refine PySem.W.callWith_K (h₀ := X.base) I.ok.mod.kin M.kp (thn (ha.run pos pins s σ H _ I h) fun us s1 ⟨vs, H1, I1, r, q⟩ => ⟨I1.kIn, ?_⟩) he hpl
  exact run_makeSD M F hr hb hd (hx σ) I1 r q
theorem re_make {k n c : Nat} {f : Addr} {fd : FuncData} {ps : List Str} {g : FnM} {ds : List Value} {dvs : List V} {dps : List PV} {x : Str} {p : Pos} {e : Expr} {es : List Expr} {a : M (List PV)} (M : Mk X.K (C.Γ.cls c) f) (F : FnOk X.prog X.w X.K X.mg X.base (L2.CX X.prog X.w) k f fd ps (spI C.Γ c n g)) (hr : Room (k + 1) X.A) (hg : Gl X x)
    (hm : X.mg x = some (.ref (C.Γ.cls c))) (hb : Binds X.K fd ps ds) (hd : Vals dvs ds) (hds : DfR dps dvs) (tk : Takes X C.W) (ha : RA X C (e :: es) a) (hl : es.length + 2 + dps.length = n) (hdb : (x == ("__debug__" : Str)) = false := by decide)
    (he : starEach (e :: es) X.env = (false, eval e X.env) :: starEach es X.env := by rfl) (hpl : (backTo pos (starEach es X.env)).any (·.1) = false := by rfl) : RE X C (.Call (.Name x p) (e :: es) [] pos) (mFn g dps a) :=
  (pe_makeSD M F hr hg hm hb hd (fun σ => passAt tk σ) ha.pa hdb he hpl).imp fun σ H Q ⟨L, w, p, en, S, E, h⟩ => by
    refine ⟨L, w, p, en, S, E, ?_⟩
    unfold mFn at h
    cases ea : a en p with
    | ok xs p1 =>
      rw [ea] at h
      intro w1 H1 vs l1 S1 r1 y dy hy hdy ne
      refine ⟨?_, L, w1, p1, xs ++ dps, y, vs ++ dvs, H1, rfl, S1, r1.append hds.reps, hy, ⟨dy, hdy, ne, rfl⟩, ?_⟩
      · rw [List.length_cons, List.length_append, ← r1.length, ha.len _ _ _ _ ea, ← (hds.reps (Γ := C.Γ) (w := w)).length, List.length_cons]
        omega
      · have h1 := PostF.of (Post.mono l1 h)
        show PostF C.Γ L w1 (g (xs ++ dps) p1) _ _
        cases eg : g (xs ++ dps) p1 with
        | ok z p2 =>
          have h1 : PostF C.Γ L w1 (g (xs ++ dps) p1) Q (WE C.W σ) := h1
          rw [eg] at h1
          exact fun w' H' v l S' r ev => ⟨rfl, by rw [← ev]; exact h1 w' H' v l S' r⟩
        | exc c v p2 =>
          have h1 : PostF C.Γ L w1 (g (xs ++ dps) p1) Q (WE C.W σ) := h1
          rw [eg] at h1
          exact h1
        | stuck =>
          have h1 : PostF C.Γ L w1 (g (xs ++ dps) p1) Q (WE C.W σ) := h1
          rw [eg] at h1
          exact h1
    | exc c v p1 =>
      rw [ea] at h
      exact h
    | stuck =>
      rw [ea] at h
      exact h
/-! ### raise -/
def sRaise (c : Nat) : S := fun en p => .exc c none en p
theorem rs_raise {Ca : Addr} {c : Nat} {bmB : List Value} {B newId initId : String} {x m : Str} {j : Nat} {p p2 cpos : Pos} (hc : X.calm = true) (tk : Takes X C.W) (F : ExcBaseFacts B newId initId bmB) (q : PySem.W.excIn X.K (C.Γ.cls c) bmB newId = true) (gC : X.mg x = some (.ref (C.Γ.cls c))) (kC : PySem.W.keepIn X.K (.ref (C.Γ.cls c)) = true)
    (r : Raises X (.ref (C.Γ.cls c))) (hg : Gl X x) (hd : (x == ("__debug__" : Str)) = false := by decide) : RS X C (.Raise (some (.Call (.Name x p) [.Constant (.str m) j p2] [] cpos)) none pos) (sRaise c) :=
  (ps_raise hc tk (pmk_own F q gC kC r hg hd)).imp fun D σ H ⟨L, w, p, en, S, E, h⟩ => h w H σ none (Wd.le.refl w) S E rfl
end
end R

/-! R8: short names for the rules; isinstance; try; a list that doesn't change from here on -/
namespace R
open PySem L2
section
variable {X : Cx} {C : Cn} {pos : Pos}
theorem ref_lt : RefO C (rI0 fun i j => V.bl (decide (i < j))) pLt := ref_I0 fun _ _ _ => rfl
theorem ref_le : RefO C (rI0 fun i j => V.bl (decide (i ≤ j))) pLe := ref_I0 fun _ _ _ => rfl
theorem ref_gt : RefO C (rI0 fun i j => V.bl (decide (j < i))) pGt := ref_I0 fun _ _ _ => rfl
theorem ref_ge : RefO C (rI0 fun i j => V.bl (decide (j ≤ i))) pGe := ref_I0 fun _ _ _ => rfl
/-- x += e of numbers -/
def pIpAdd : F2 := f2I fun i j => .int (i + j)
def pIpSub : F2 := f2I fun i j => .int (i - j)
theorem ref_ipAdd : RefO C (ipI fun i j => i + j) pIpAdd := fun L w p H σ x y vx vy Q S rx ry q => by
  unfold pIpAdd f2I at q
  split at q
  · exact ⟨_, _, rx, ry, q.ok S rfl⟩
  · exact q.elim
theorem ref_ipSub : RefO C (ipI fun i j => i - j) pIpSub := fun L w p H σ x y vx vy Q S rx ry q => by
  unfold pIpSub f2I at q
  split at q
  · exact ⟨_, _, rx, ry, q.ok S rfl⟩
  · exact q.elim
def pIsN1 : F2 := fun x y p => match y with
  | .non => .ok (.bl (isNon x)) p
  | _ => .stuck
def pNotN1 : F2 := fun x y p => match y with
  | .non => .ok (.bl (!isNon x)) p
  | _ => .stuck
theorem ref_isN1 : RefO C (fun x y H Q => y = V.non ∧ Q (V.bl (decide (x = V.non))) H) pIsN1 := ref_isN
theorem ref_notN1 : RefO C (fun x y H Q => y = V.non ∧ Q (V.bl (!decide (x = V.non))) H) pNotN1 := fun L w p H σ x y vx vy Q S rx ry q => by
  cases y with
  | non =>
    cases ry
    exact ⟨rfl, by rw [isNon_ok rx]; exact q.ok S rfl⟩
  | _ => exact q.elim
/-! -x -/
def mNeg (a : M PV) : M PV := fun en p => (a en p).bind fun x p1 => match x with
  | .int i => .ok (.int (-i)) p1
  | _ => .stuck
theorem re_neg {a : Expr} {m : M PV} (h : RE X C a m) : RE X C (.UnaryOp .USub a pos) (mNeg m) := (pe_un un_neg h).imp fun σ H Q ⟨L, w, p, en, S, E, h⟩ => by
  refine ⟨L, w, p, en, S, E, h.bind fun x p1 w1 H1 v l1 S1 r1 h1 => ?_⟩
  cases x with
  | int i => exact ⟨i, r1, h1.ok S1 rfl⟩
  | _ => exact h1.elim
/-! ### from here on it doesn't change -/
def sIce (i : Nat) : S := fun en p => match en.sl[i]? with
  | some (some (.own k)) => match p[k]? with
    | some (.lst xs) => if bels 0 xs = true then .next (en.set i (.lst xs)) (p.set k .dead) else .stuck
    | _ => .stuck
  | _ => .stuck
theorem SimP.die {Γ : Cfg} {L : Lv} {w : Wd} {p : Pool} {H : Hp} (S : SimP Γ L w p H) {k : Nat} {a : Addr} {xs : List PV} {vs : List V} (ha : w.ρ[k]? = some a) (hg : w.G a = none) (eH : H a = some (.lst vs)) : w.le ⟨upd w.G a (.lst vs), w.ρ⟩ ∧ SimP Γ L ⟨upd w.G a (.lst vs), w.ρ⟩ (p.set k .dead) H := by
  have le : w.le ⟨upd w.G a (.lst vs), w.ρ⟩ := ⟨up_new hg, List.prefix_refl _⟩
  refine ⟨le, ⟨fun b o e => ?_, by rw [List.length_set]; exact S.len, S.nd, by rw [List.length_set]; exact S.hb, S.hlo, fun j m e => by rw [List.length_set]; exact S.hm j m e, fun j c b h1 h2 => ?_⟩⟩
  · by_cases hb : b = a
    · subst hb
      have e : upd w.G b (.lst vs) b = some o := e
      rw [upd_same] at e
      rw [eH]
      exact e
    · have e : upd w.G a (.lst vs) b = some o := e
      rw [upd_ne hb] at e
      exact S.sub b o e
  · by_cases hj : j = k
    · subst hj
      have e : b = a := Option.some.inj (h2.symm.trans ha)
      subst e
      have hl : j < p.length := by
        have := (List.getElem?_eq_some_iff.mp h1).1
        rw [List.length_set] at this
        exact this
      rw [List.getElem?_set_self hl] at h1
      cases h1
      exact ⟨_, eH, fun _ z => nomatch z⟩
    · rw [List.getElem?_set_ne (Ne.symm hj)] at h1
      have nb : b ≠ a := fun z => hj (nd_ix S.nd (z ▸ h2) ha)
      have x := S.cell j c b h1 h2
      have lw : (w.low (L.lo j)).le ((⟨upd w.G a (.lst vs), w.ρ⟩ : Wd).low (L.lo j)) := S.lows le j
      have gG : ((⟨upd w.G a (.lst vs), w.ρ⟩ : Wd).low (L.lo j)).G = upd w.G a (.lst vs) := Wd.low_G
      cases c with
      | lst ys =>
        obtain ⟨g, us, e, r⟩ := x
        rw [Wd.low_G] at g
        exact ⟨by rw [gG, upd_ne nb]; exact g, us, e, r.mono lw⟩
      | obj d ys =>
        obtain ⟨g, dx, us, e, ed, gd, hl, r⟩ := x
        rw [Wd.low_G] at g gd
        have ndx : dx ≠ a := fun z => by
          rw [z, eH] at ed
          cases ed
        exact ⟨by rw [gG, upd_ne nb]; exact g, dx, us, e, ed, by rw [gG, upd_ne ndx]; exact gd, hl, r.mono lw⟩
      | dead => exact x
theorem rss_ice {st : List Stmt} {m : S} (i : Nat) (h : RSs X C st m) : RSs X C st (sSeq (sIce i) m) := h.imp fun D σ H ⟨L, w, p, en, S, E, h⟩ => by
  unfold sSeq sIce at h
  split at h
  · rename_i k e1
    split at h
    · rename_i xs e2
      by_cases hb : bels 0 xs = true
      · rw [if_pos hb] at h
        obtain ⟨v, ev, rv⟩ := E.val i _ e1
        obtain ⟨a, vs, rfl, ha, hg, eH, r⟩ := Rep.ownH S rv e2
        obtain ⟨le, S2⟩ := S.die (xs := xs) ha hg eH
        refine ⟨L, _, p.set k .dead, en.set i (.lst xs), S2, ?_, PostS.mono le h⟩
        have E2 := (E.mono le).set (i := i) (x := .lst xs) (v := .ref a) ⟨a, vs, rfl, upd_same, (r.mono (w.low_le _)).mono le⟩
        have e3 : σ.set i (some (.ref a)) = σ := by
          apply List.ext_getElem?
          intro j
          by_cases hj : i = j
          · subst hj
            rw [List.getElem?_set_self (List.getElem?_eq_some_iff.mp ev).1, ev]
          · rw [List.getElem?_set_ne hj]
        rw [e3] at E2
        exact E2
      · rw [if_neg hb] at h
        exact h.elim
    · exact h.elim
  · exact h.elim
/-! ### isinstance -/
inductive Ty where
  | non | bl | int | str | tup | lst | cls (c : Nat)
  deriving DecidableEq
def Ty.val (Γ : Cfg) : Ty → Value
  | .non => .type "NoneType"
  | .bl => .type "bool"
  | .int => .type "int"
  | .str => .type "str"
  | .tup => .type "tuple"
  | .lst => .type "list"
  | .cls c => .ref (Γ.cls c)
/-- a value's type; n: how many classes -/
def tyP (n : Nat) (p : Pool) : PV → Option Ty
  | .non => some .non
  | .bl _ => some .bl
  | .int _ => some .int
  | .str _ => some .str
  | .tup _ => some .tup
  | .lst _ => some .lst
  | .scr _ => none
  | .xs _ _ => none
  | .xv _ _ => none
  | .obj c _ => if c < n then some (.cls c) else none
  | .own k => match p[k]? with
    | some (.lst _) => some .lst
    | some (.obj c _) => if c < n then some (.cls c) else none
    | _ => none
/-- what isinstance asks of the written part -/
structure IsF (Γ : Cfg) (n : Nat) : Prop where
  cl : ∀ c, c < n → ClsF Γ.K Γ c
  gn : PySem.W.specialIn Γ.K (.builtin "object.__class__") "__get__" = some (some (.builtin "getset_descriptor.__get__"))
  tk : PySem.W.takesIn Γ.K (.builtin "object.__class__") = some true
theorem tyP_ok {L : Lv} {w : Wd} {p : Pool} {H : Hp} {n : Nat} (I : IsF C.Γ n) (S : SimP C.Γ L w p H) {x : PV} {v : V} {t : Ty} (r : Rep C.Γ w x v) (e : tyP n p x = some t) : TyX C.Γ.K H v (t.val C.Γ) := by
  cases x with
  | non =>
    cases e
    cases r
    exact .base .non
  | bl b =>
    cases e
    cases r
    exact .base (.bl b)
  | int i =>
    cases e
    cases r
    exact .base (.int i)
  | str s =>
    cases e
    cases r
    exact .base (.str s)
  | tup xs =>
    cases e
    obtain ⟨a, vs, rfl, q, _⟩ := r
    rcases seqT_mono S.sub q with (h | ⟨o, h⟩) | ⟨o, its, m, h, hc, _⟩
    · exact .base (.tup h)
    · exact .fTuple h
    · exact .kTuple h hc
  | lst xs =>
    cases e
    obtain ⟨a, vs, rfl, q, _⟩ := r
    exact .base (.lst (S.sub _ _ q))
  | scr ns => cases e
  | xs c t => cases e
  | xv c x => cases e
  | obj c xs =>
    unfold tyP at e
    dsimp only at e
    split at e
    · rename_i hc
      cases e
      obtain ⟨a, dx, vs, rfl, g, _⟩ := r
      have T := I.cl c hc
      exact .base (.ins (S.sub _ _ g) T.cls T.at_ I.gn I.tk T.mr)
    · cases e
  | own k =>
    unfold tyP at e
    dsimp only at e
    split at e
    · rename_i ys ey
      cases e
      obtain ⟨a, vs, rfl, _, _, eH, _⟩ := Rep.ownH S r ey
      exact .base (.lst eH)
    · rename_i c ys ey
      split at e
      · rename_i hc
        cases e
        obtain ⟨a, dx, vs, rfl, _, _, eH, _⟩ := Rep.objH S r ey
        have T := I.cl c hc
        exact .base (.ins eH T.cls T.at_ I.gn I.tk T.mr)
      · cases e
    · cases e
/-- is what is of type t a T -/
def isT (T t : Ty) : Bool := decide (t = T) || (decide (t = .bl) && decide (T = .int))
def mIsi (n : Nat) (T : Ty) (a : M PV) : M PV := fun en p => (a en p).bind fun x p1 => match tyP n p1 x with
  | some t => .ok (.bl (isT T t)) p1
  | none => .stuck
/-- what is known of one class, as isinstance's second argument -/
def IsA (Γ : Cfg) (n : Nat) (T : Ty) : Prop := ∀ t : Ty, (∀ c, t = .cls c → c < n) → PySem.W.kitOne Γ.K (t.val Γ) (T.val Γ) = some (isT T t)
theorem tyP_lt {n : Nat} {p : Pool} {x : PV} {c : Nat} (e : tyP n p x = some (.cls c)) : c < n := by
  cases x with
  | obj d xs =>
    unfold tyP at e
    dsimp only at e
    split at e
    · rename_i h
      cases e
      exact h
    · cases e
  | own k =>
    unfold tyP at e
    dsimp only at e
    split at e
    · cases e
    · split at e
      · rename_i h
        cases e
        exact h
      · cases e
    · cases e
  | _ => cases e
theorem re_isi {x : Str} {p : Pos} {e ce : Expr} {a : M PV} {n : Nat} {T : Ty} {c : V} (hK : X.K = C.Γ.K) (I : IsF C.Γ n) (A : IsA C.Γ n T) (ha : RE X C e a) (hce : PE X ce (tC c)) (k : ClsV c (T.val C.Γ)) (hg : Gl X "isinstance") (hm : X.mg "isinstance" = none)
    (he : starEach (e :: [ce]) X.env = (false, eval e X.env) :: starEach [ce] X.env := by rfl) (he2 : starEach (ce :: []) X.env = (false, eval ce X.env) :: starEach [] X.env := by rfl) (hpl : (backTo pos (starEach [ce] X.env)).any (·.1) = false := by rfl) :
    RE X C (.Call (.Name "isinstance" p) [e, ce] [] pos) (mIsi n T a) :=
  (pe_callB call_isi hg hm (by decide +kernel) (pa_cons ha (pa_cons hce pa_nil he2) he) (by decide) (by decide) he hpl).imp fun σ H Q ⟨L, w, p, en, S, E, h⟩ => by
    refine ⟨L, w, p, en, S, E, h.bind fun x p1 w1 H1 v l1 S1 r1 h1 => ?_⟩
    split at h1
    · rename_i t et
      rw [hK]
      exact ⟨v, c, _, _, _, rfl, k, tyP_ok I S1 r1 et, A t (fun c ec => tyP_lt (by rw [← ec]; exact et)), h1.ok S1 rfl⟩
    · exact h1.elim
theorem pe_tyN {x : Str} {p : Pos} {T : String} (hg : Gl X x) (hm : X.mg x = none) (hv : bootBuiltins x = some (.type T)) (hn : x ≠ "__name__" := by decide) (hd : (x == ("__debug__" : Str)) = false := by decide) : PE X (.Name x p) (tC (.ty T)) := pe_bltn hg hm hv rfl hn hd
theorem pe_clsN {x : Str} {p : Pos} {a : Addr} (hg : Gl X x) (hm : X.mg x = some (.ref a)) (hd : (x == ("__debug__" : Str)) = false := by decide) : PE X (.Name x p) (tC (.ref a)) := pe_glob hg hm rfl hd
/-- a built-in class -/
theorem isA_b {Γ : Cfg} {n : Nat} {T : Ty} (hT : T = .int ∨ T = .bl ∨ T = .str ∨ T = .tup ∨ T = .lst) (h : ∀ c, c < n → PySem.W.kitOne Γ.K (.ref (Γ.cls c)) (T.val Γ) = some false) : IsA Γ n T := fun t ht => by
  cases t with
  | cls c =>
    have e : isT T (.cls c) = false := by
      rcases hT with rfl | rfl | rfl | rfl | rfl <;> rfl
    rw [e]
    exact h c (ht c rfl)
  | non => rcases hT with rfl | rfl | rfl | rfl | rfl <;> exact kit_ty (by decide +kernel)
  | bl => rcases hT with rfl | rfl | rfl | rfl | rfl <;> exact kit_ty (by decide +kernel)
  | int => rcases hT with rfl | rfl | rfl | rfl | rfl <;> exact kit_ty (by decide +kernel)
  | str => rcases hT with rfl | rfl | rfl | rfl | rfl <;> exact kit_ty (by decide +kernel)
  | tup => rcases hT with rfl | rfl | rfl | rfl | rfl <;> exact kit_ty (by decide +kernel)
  | lst => rcases hT with rfl | rfl | rfl | rfl | rfl <;> exact kit_ty (by decide +kernel)
/-- a class of the text's own -/
theorem isA_c {Γ : Cfg} {n c : Nat} (h1 : PySem.W.kitOne Γ.K (.type "NoneType") (.ref (Γ.cls c)) = some false) (h2 : PySem.W.kitOne Γ.K (.type "bool") (.ref (Γ.cls c)) = some false) (h3 : PySem.W.kitOne Γ.K (.type "int") (.ref (Γ.cls c)) = some false)
    (h4 : PySem.W.kitOne Γ.K (.type "str") (.ref (Γ.cls c)) = some false) (h5 : PySem.W.kitOne Γ.K (.type "tuple") (.ref (Γ.cls c)) = some false) (h6 : PySem.W.kitOne Γ.K (.type "list") (.ref (Γ.cls c)) = some false)
    (h7 : ∀ d, d < n → PySem.W.kitOne Γ.K (.ref (Γ.cls d)) (.ref (Γ.cls c)) = some (decide (d = c))) : IsA Γ n (.cls c) := fun t ht => by
  cases t with
  | cls d =>
    have e : isT (.cls c) (.cls d) = decide (d = c) := by
      unfold isT
      by_cases h : d = c
      · subst h
        simp
      · simp [h]
    rw [e]
    exact h7 d (ht d rfl)
  | non => exact h1
  | bl => exact h2
  | int => exact h3
  | str => exact h4
  | tup => exact h5
  | lst => exact h6
end
end R

/-! R13: own exceptions as values -/
namespace R
open PySem L2 PySem.Spec PyProof.Rows
open PySem.W (Looks)
theorem exT_ok {P : Program} {w : World} {H : Hp} {h : Heap} {C a t1 : Addr} (e : h.get? a = some ({ cls := .ref C, dict := none, data := .fields #[.ref t1, .none, .none, .none, .bool false, .none] } : Obj)) : ObjOk P w H h a (exT C a t1) :=
  ⟨e, ⟨_, e⟩, fun _ _ e k => k _ e⟩
theorem laidN2 {X : Cx} {pins : List (Addr × Obj)} {σ : L2.St} {H : Hp} {s : Shared} {h' : Heap} {a b : Addr} {o u : HO} {t' : Nat} (I : Inv X pins σ H s) (k : ∀ b u, s.heap.get? b = some u → h'.get? b = some u) (hp : s.heap.get? a = none) (hp2 : s.heap.get? b = none) (ne : b ≠ a) (hn : H a = none) (hn2 : H b = none)
    (new : ObjOk X.prog X.w (upd H a o) h' a o) (new2 : ObjOk X.prog X.w (upd (upd H a o) b u) h' b u) : Inv X pins σ (upd (upd H a o) b u) { s with heap := h', toks := t' } := by
  have hn3 : upd H a o b = none := by
    rw [upd_ne ne]
    exact hn2
  have two : ∀ {c : Addr} {v : HO}, H c = some v → upd (upd H a o) b u c = some v := fun {c v} q => by
    rw [upd_ne (ne_of_none q hn2), upd_ne (ne_of_none q hn)]
    exact q
  have away : ∀ {c : Addr} {v : Obj}, s.heap.get? c = some v → upd (upd H a o) b u c = H c := fun {c v} q => by
    rw [upd_ne (fun z => by rw [z, hp2] at q; cases q), upd_ne (fun z => by rw [z, hp] at q; cases q)]
  refine I.un (t' := t') {
    keep := fun c v q _ _ _ => k c v q
    slot := fun c v q _ _ _ => ⟨v.slots, k c v q⟩
    free := fun c v q n _ => by rw [away q]; exact n
    there := fun c v q _ => ⟨v, k c v q⟩
    tups := fun c xs q => two q
    frzs := fun c v xs q => two q
    tbls := fun c ps q => ⟨#[], by rw [two q]; simp⟩ } (HOk.laidN (HOk.laidN I.hok k hn new) (fun _ _ q => q) hn3 new2)
section
variable {X : Cx} {C : Cn} {pos : Pos}
theorem newObjX {L : Lv} {w : Wd} {p : Pool} {H : Hp} (S : SimP C.Γ L w p H) {c : Nat} {t : Str} {σ : L2.St} {Q : VK} (h : Post C L w σ (RV C) (.ok (.xs c t) p) Q) : ∀ q t1, H q = none → H t1 = none → q ≠ t1 → Q (.ref q) (upd (upd H t1 (.tup [.str t])) q (exT (C.Γ.cls c) q t1)) := fun q t1 hq ht ne => by
  have hq2 : upd H t1 (.tup [.str t]) q = none := by
    rw [upd_ne ne]
    exact hq
  have l2 := S.le_add (o := .tup [.str t]) ht
  have l3 := (S.new (o := .tup [.str t]) ht).le_add (o := exT (C.Γ.cls c) q t1) hq2
  exact h _ _ _ (l2.trans l3) ((S.new ht).new hq2) ⟨q, t1, rfl, add_at, l3.1 _ _ add_at⟩
def mXs (c : Nat) (a : M PV) : M PV := fun en p => (a en p).bind fun x p1 => match x with
  | .str t => .ok (.xs c t) p1
  | _ => .stuck
/-- NoShare(text) -/
theorem re_xs {c : Nat} {bmB : List Value} {B newId initId : String} {x : Str} {e : Expr} {m : M PV} {p : Pos} (F : ExcBaseFacts B newId initId bmB) (q : PySem.W.excIn X.K (C.Γ.cls c) bmB newId = true) (gC : X.mg x = some (.ref (C.Γ.cls c))) (kC : PySem.W.keepIn X.K (.ref (C.Γ.cls c)) = true) (hg : Gl X x)
    (he : RE X C e m) (hs : starEach [e] X.env = (false, eval e X.env) :: starEach [] X.env := by rfl) (hdb : (x == ("__debug__" : Str)) = false := by decide) :
    RE X C (.Call (.Name x p) [e] [] pos) (mXs c m) := by
  refine ⟨fun pins s σ H Q I h => ?_⟩
  obtain ⟨L, w, pl, en, S, E, h⟩ := h
  refine wpAny_Call_Name_kw (ld_glob I hg gC ?_ hdb)
  refine PySem.W.callWith_K (h₀ := X.base) I.ok.mod.kin kC ?_ hs (by rfl)
  rw [hs]
  show wpAny _ _ (spliced ((false, eval e X.env) :: backTo pos (starEach [] X.env))) _ _ s
  have h2 : wE C m σ H (fun v H1 => ∃ t, v = .str t ∧ ∀ a t1, H1 a = none → H1 t1 = none → a ≠ t1 → Q (.ref a) (upd (upd H1 t1 (.tup [.str t])) a (exT (C.Γ.cls c) a t1))) := by
    refine ⟨L, w, pl, en, S, E, h.bind fun y p1 w1 H1 v l1 S1 r1 h1 => ?_⟩
    cases y with
    | str t => exact ⟨t, r1, newObjX S1 h1⟩
    | _ => exact h1.elim
  refine Calls.spliced_cons (thn (he.run pins s σ H _ I h2) fun u s1 ⟨v, H1, I1, r1, t, ev, q1⟩ => ?_)
  subst ev
  obtain ⟨tk, rfl⟩ := r1
  refine Calls.spliced_nil ⟨I1.kIn, ?_⟩
  show wpAny _ _ (call (.ref (C.Γ.cls c)) [.str t tk]) _ _ _
  obtain ⟨bm, N, nm, qn, bs, hdct, sn, sub, ab, col, dd, k0, k1, k2, k3, k5, mN, hC, hN, hni, T⟩ := exc_obj I1.kIn q
  refine wpAny_call_exc_subT F T hC hN hni (fun h' a hm => ?_) (by show 1 ≤ sizeLine; rw [sizeLine_eq]; omega)
  have hn : H1 a = none := I1.hok.gone hm.new
  obtain ⟨t1, ht, h2', h3⟩ := hm.there
  have hn2 : H1 t1 = none := I1.hok.gone h2'
  have ne : a ≠ t1 := fun z => by
    rw [z, h3] at ht
    cases ht
  exact ⟨.ref a, _, laidN2 (o := .tup [.str t]) (u := exT (C.Γ.cls c) a t1) I1 hm.keeps h2' hm.new ne hn2 hn ⟨by show 1 ≤ sizeLine; rw [sizeLine_eq]; omega, [.str t tk], .cons ⟨tk, rfl⟩ .nil, _, h3, rfl, 0, rfl⟩ (exT_ok ht), rfl, q1 a t1 hn hn2 ne⟩
/-! ### exceptions with a field of their own -/
/-- C.__init__(self, v): keeps v -/
def spX (C : Addr) (f : Str) : Sp := fun vs H Q _ => ∃ (a : Addr) (v : V), vs = [.ref a, v] ∧ H a = some (exo a C none) ∧ ∀ d, H d = none → d ≠ a → Q .non (upd (upd H d (exd d [(f, v)])) a (exo a C (some d)))
/-- B.__init__(self, ..), B an own class whose __init__ is ValueError's -/
theorem pe_owninit {x : Str} {B : Addr} {mc : Value} {e : Expr} {es : List Expr} {ta : TA} {p1 p2 : Pos} {pl : Sem Bool} (hg : Gl X x) (hm : X.mg x = some (.ref B)) (r : ClX.CRead X.K B mc) (vV : PySem.W.findCls X.K (.ref B) mc "__init__" = some (.val (.builtin "ValueError.__init__"))) (ha : PA X (e :: es) ta)
    (hc : eval (.Call (.Attribute (.Name x p1) "__init__" p2) (e :: es) [] pos) X.env = (do
      let ov ← eval (.Name x p1) X.env
      standAt p2.atName
      let (f, first) ← holding [ov] (getMethod ov "__init__" pl)
      callWith pos f first (backTo pos (starEach (e :: es) X.env)) (backToKw pos (keywordEach [] X.env))) := by rfl)
    (hdb : (x == ("__debug__" : Str)) = false := by decide) (he : starEach (e :: es) X.env = (false, eval e X.env) :: starEach es X.env := by rfl) (hpl : (backTo pos (starEach es X.env)).any (·.1) = false := by rfl) :
    PE X (.Call (.Attribute (.Name x p1) "__init__" p2) (e :: es) [] pos) (tVeI X.K ta) := by
  refine ⟨fun pins s σ H Q I h => ?_⟩
  refine PySem.W.methodCall_KW (ld_glob I hg hm ?_ hdb) hc
  refine PySem.W.method_cls I.kIn r.ga (PySem.W.cls_value I.kIn r.rd vV (by decide +kernel) ?_)
  show wpAny _ _ (callWith pos (Value.builtin "ValueError.__init__") [] (backTo pos (starEach (e :: es) X.env)) []) _ _ _
  refine PyProof.Rows.callWith_method1 (thn (ha.run pos pins _ σ H _ (I.tok _) h) fun us s1 ⟨vs, H1, I1, r1, a, C, ws, ev, hl, T, ea, q⟩ => ?_) he hpl
  subst ev
  cases r1 with
  | @cons _ u0 _ ur ra rw' =>
    obtain rfl : u0 = Value.ref a := ra
    have hlen : ur.length ≤ sizeLine := by
      rw [← Paired.length rw', sizeLine_eq]
      omega
    exact oinit_ok T I1 ea hlen fun s' J => ⟨.non, H1, J, rfl, q⟩
/-- what is known of an own exception class with a field f -/
structure XvF (K : PySem.W.Frag) (D : Addr) (f : Str) : Prop where
  oex : OexC K D
  ga : PySem.W.findIn K (.ref D) "__getattribute__" = some (some (.builtin "BaseException.__getattribute__"))
  gg : PySem.W.findIn K (.ref D) "__getattr__" = some none
  hd : PySem.W.hasDictIn K D = true
  no : PySem.W.findIn K (.ref D) f = some none
def mXv (c : Nat) (a : M PV) : M PV := fun en p => (a en p).bind fun x p1 => .ok (.xv c x) p1
/-- C(e) -/
theorem re_xv {c : Nat} {x : Str} {fI : Addr} {k : Nat} {fd : FuncData} {ps : List Str} {e : Expr} {m : M PV} {p : Pos} (T : OexC X.K (C.Γ.cls c)) (iC : PySem.W.findIn X.K (.ref (C.Γ.cls c)) "__init__" = some (some (.ref fI))) (tI : PySem.W.typeIn X.K (.ref fI) = some (.type "function"))
    (F1 : FnOk X.prog X.w X.K X.mg X.base (L2.CX X.prog X.w) k fI fd ps (spX (C.Γ.cls c) (C.Γ.exf c))) (hr : Room (k + 1) X.A) (hb : Binds X.K fd ps []) (hg : Gl X x) (hm : X.mg x = some (.ref (C.Γ.cls c))) (tk : Takes X C.W) (he : RE X C e m)
    (hdb : (x == ("__debug__" : Str)) = false := by decide) (hs : starEach [e] X.env = (false, eval e X.env) :: starEach [] X.env := by rfl) (hpl : (backTo pos (starEach [] X.env)).any (·.1) = false := by rfl) :
    RE X C (.Call (.Name x p) [e] [] pos) (mXv c m) := by
  refine ⟨fun pins s σ H Q I h => ?_⟩
  obtain ⟨L, w, pl, en, S, E, h⟩ := h
  obtain ⟨nm, q, N, bs, bm, sn, sub, ab, col, dd, k0, k1, k2, k3, k5, hC, hbm⟩ := T.cls
  refine wpAny_Call_Name_kw (ld_glob I hg hm ?_ hdb)
  refine PySem.W.callWith_K (h₀ := X.base) I.ok.mod.kin T.kC ?_ hs hpl
  have h2 : wE C m σ H (fun v H1 => ∀ a, H1 a = none → ∀ d, upd H1 a (exo a (C.Γ.cls c) none) d = none → d ≠ a → Q (.ref a) (upd (upd (upd H1 a (exo a (C.Γ.cls c) none)) d (exd d [(C.Γ.exf c, v)])) a (exo a (C.Γ.cls c) (some d)))) := by
    refine ⟨L, w, pl, en, S, E, h.bind fun y p1 w1 H1 v l1 S1 r1 h1 => ?_⟩
    intro a ha d hd ne
    have hd1 : H1 d = none := by
      rw [upd_ne ne] at hd
      exact hd
    have ha2 : upd H1 d (exd d [(C.Γ.exf c, v)]) a = none := by
      rw [upd_ne ne.symm]
      exact ha
    have S2 := (S1.new (o := exd d [(C.Γ.exf c, v)]) hd1).new (o := exo a (C.Γ.cls c) (some d)) ha2
    have l2 := S1.le_add (o := exd d [(C.Γ.exf c, v)]) hd1
    have l3 := (S1.new (o := exd d [(C.Γ.exf c, v)]) hd1).le_add (o := exo a (C.Γ.cls c) (some d)) ha2
    have eH : upd (upd (upd H1 a (exo a (C.Γ.cls c) none)) d (exd d [(C.Γ.exf c, v)])) a (exo a (C.Γ.cls c) (some d)) = upd (upd H1 d (exd d [(C.Γ.exf c, v)])) a (exo a (C.Γ.cls c) (some d)) := by
      funext b
      by_cases hb : b = a
      · subst hb
        rw [upd_same, upd_same]
      · rw [upd_ne hb, upd_ne hb]
        by_cases hb2 : b = d
        · subst hb2
          rw [upd_same, upd_same]
        · rw [upd_ne hb2, upd_ne hb2, upd_ne hb]
    rw [eH]
    exact h1 _ _ _ (l2.trans l3) S2 ⟨a, d, v, rfl, add_at, l3.1 _ _ add_at, r1.mono (l2.trans l3)⟩
  rw [hs]
  show wpAny _ _ (spliced ((false, eval e X.env) :: backTo pos (starEach [] X.env))) _ _ s
  refine Calls.spliced_cons (thn (he.run pins s σ H _ I h2) fun u s1 ⟨v, H1, I1, r1, q1⟩ => ?_)
  refine Calls.spliced_nil ⟨I1.kIn, ?_⟩
  show wpAny _ _ (call (.ref (C.Γ.cls c)) [u]) _ _ _
  obtain ⟨hp, g, dr, tk', os⟩ := s1
  have hsz : hp.objs.size ≤ hp.objs.size + 1 := Nat.le_succ _
  have hn : H1 (hp.objs.size + 1) = none := I1.hok.fresh hsz
  have hq := q1 (hp.objs.size + 1) hn
  have kk : ∀ b o, hp.get? b = some o → ((hp.push (PySem.W.kdv_tup [u])).push (PySem.HandSPX.excO (C.Γ.cls c) hp.objs.size)).get? b = some o := fun b o e => Heap.get?_push_of_some _ (Heap.get?_push_of_some _ e)
  have hget : ((hp.push (PySem.W.kdv_tup [u])).push (PySem.HandSPX.excO (C.Γ.cls c) hp.objs.size)).get? (hp.objs.size + 1) = some (PySem.HandSPX.excO (C.Γ.cls c) hp.objs.size) := by heap_get
  have I2 : Inv X pins σ (upd H1 (hp.objs.size + 1) (exo (hp.objs.size + 1) (C.Γ.cls c) none)) ⟨(hp.push (PySem.W.kdv_tup [u])).push (PySem.HandSPX.excO (C.Γ.cls c) hp.objs.size), g, dr, tk', os⟩ :=
    I1.laid (t' := tk') (a := hp.objs.size + 1) (o := exo (hp.objs.size + 1) (C.Γ.cls c) none) (h' := (hp.push (PySem.W.kdv_tup [u])).push (PySem.HandSPX.excO (C.Γ.cls c) hp.objs.size)) kk hsz (exo_ok hget)
  have r2 : Vals [V.ref (hp.objs.size + 1), v] [Value.ref (hp.objs.size + 1), u] := .cons rfl (.cons r1 .nil)
  have hsp : spX (C.Γ.cls c) (C.Γ.exf c) [V.ref (hp.objs.size + 1), v] (upd H1 (hp.objs.size + 1) (exo (hp.objs.size + 1) (C.Γ.cls c) none)) (fun x H' => x = .non ∧ Q (.ref (hp.objs.size + 1)) H') (WE C.W σ) := ⟨_, v, rfl, upd_same, fun d h1 h2 => ⟨rfl, hq d h1 h2⟩⟩
  have hl := F1.len _ _ _ _ hsp
  refine wpAny_call (PySem.HandSPX.call_own F.excBase_ValueError (fun Y => PySem.HandSPX.refsVE_contains Y bm hbm) (I1.kIn _ _ hC) (PySem.W.looks_findIn I1.kIn iC) (fun self => PySem.W.bind_fn I1.kIn self tI) (by show 1 ≤ sizeLine; rw [sizeLine_eq]; omega)
    (codeAny_mono (F1.run _ X.stack _ _ ⟨[Value.ref (hp.objs.size + 1), u], []⟩ [Value.ref (hp.objs.size + 1), u] _ _ (WE C.W σ) (hr.make (C.Γ.cls c) [u] []) (I2.env0.make (C.Γ.cls c) [u] []) (by simpa using hb _ [Value.ref (hp.objs.size + 1), u] I2.kIn (by simpa using hl)) r2 hsp) fun r s' hq' => ?_))
  cases r with
  | error er => exact passAt tk σ pins _ _ er s' I2 hq'
  | ok fl =>
    cases fl with
    | ret t =>
      obtain ⟨z, H', I', rz, ez, q'⟩ := I2.after hq'
      subst ez
      exact ⟨rz, .ref (hp.objs.size + 1), H', I', rfl, q'⟩
    | next => exact hq'.elim
    | brk => exact hq'.elim
    | cont => exact hq'.elim
/-! ### reading them -/
def mXf (c : Nat) (a : M PV) : M PV := fun en p => (a en p).bind fun x p1 => match x with
  | .xv d y => if d = c then .ok y p1 else .stuck
  | _ => .stuck
/-- e.f -/
theorem re_xf {e : Expr} {c : Nat} {f : Str} {m : M PV} (T : XvF X.K (C.Γ.cls c) f) (hf : C.Γ.exf c = f) (he : RE X C e m) (hb : attributeBase e f X.env (eval e X.env) = eval e X.env := by rfl) : RE X C (.Attribute e f pos) (mXf c m) := by
  subst hf
  refine ⟨fun pins s σ H Q I h => ?_⟩
  obtain ⟨L, w, pl, en, S, E, h⟩ := h
  have h2 : wE C m σ H (fun v H1 => ∃ a d u, v = .ref a ∧ H1 a = some (exo a (C.Γ.cls c) (some d)) ∧ H1 d = some (exd d [(C.Γ.exf c, u)]) ∧ Q u H1) := by
    refine ⟨L, w, pl, en, S, E, h.bind fun x p1 w1 H1 v l1 S1 r1 h1 => ?_⟩
    cases x with
    | xv d y =>
      dsimp only at h1
      by_cases hd : d = c
      · subst hd
        rw [if_pos rfl] at h1
        obtain ⟨a, dx, u, ev, g, g2, r⟩ := r1
        exact ⟨a, dx, u, ev, S1.sub _ _ g, S1.sub _ _ g2, h1.ok S1 r⟩
      · rw [if_neg hd] at h1
        exact h1.elim
    | _ => exact h1.elim
  refine attr_of hb (thn (he.run pins s σ H _ I h2) fun u0 s1 ⟨x, H1, I1, rx, a, d, v, ex, ea, ed, q⟩ => ?_)
  subst ex
  obtain rfl : u0 = Value.ref a := rx
  obtain ⟨t1, ha⟩ := exo_at I1.hok ea
  obtain ⟨mA, hns, hr⟩ := exd_at I1.hok ed
  obtain ⟨od, ho, hl⟩ := lookIn_ns hns
  have l : ([(C.Γ.exf c, v)] : List (Str × V)).lookup (C.Γ.exf c) = some v := by simp
  obtain ⟨u', hu, ru⟩ := RelO.some_of (v := v) (o := mA (C.Γ.exf c)) (by rw [← l]; exact hr _)
  have J : PySem.W.InstAt s1.heap a _ (C.Γ.cls c) (some od) := ⟨ha, rfl, rfl, ho⟩
  exact HandSPX.exc_get I1.kIn J T.ga T.gg T.oex.exC (PySem.W.findObj_own T.hd T.no rfl (by rw [hl, hu])) (handed_of ru) ⟨v, H1, I1.tok _, ru, q⟩
end
section
variable {X : Cx} {C : Cn} {pos : Pos}
/-- at a: an own exception of class D -/
def ExcAt (H : Hp) (a D : Addr) : Prop := (∃ t1, H a = some (exT D a t1)) ∨ ∃ d fs, H a = some (exo a D (some d)) ∧ H d = some (exd d fs)
def rIsX (K : PySem.W.Frag) : List V → Hp → VK → Prop := fun xs H Q => ∃ (a D : Addr) (c : V) (cv : Value) (b : Bool), xs = [.ref a, c] ∧ ClsV c cv ∧ ExcAt H a D ∧ L2.ExcC K D ∧ PySem.W.kitOne K (.ref D) cv = some b ∧ Q (.bl b) H
theorem call_isx : CallR X (.builtin "isinstance") (rIsX X.K) := by
  intro pins s σ H xs us Q I r h
  obtain ⟨a, D, c, cv, b, rfl, k, ea, T, e, q⟩ := h
  obtain ⟨u1, u2, rfl, r1, r2⟩ := vals2 r
  have e2 := k.eq r2
  subst e2
  cases r1
  have hc : (PySem.W.clsIn X.K D).isSome = true := by
    obtain ⟨cd, hc, _⟩ := PySem.W.any_some T.hd
    rw [hc]
    rfl
  rcases ea with ⟨t1, ea⟩ | ⟨d, fs, ea, ed⟩
  · have ho : s.heap.get? a = some ({ cls := .ref D, dict := none, data := .fields #[.ref t1, .none, .none, .none, .bool false, .none] } : Obj) := (I.hok a _ ea).1
    have J : PySem.W.InstAt s.heap a _ D none := ⟨ho, rfl, rfl, trivial⟩
    exact PySem.W.kia_one (PySem.W.kitx_exc hc T.hg T.hk T.hs T.ha T.hn T.ht T.hm) I.kIn J e (fun z => nomatch z) fun tk => ⟨.bl b, H, I.tok tk, rfl, q⟩
  · obtain ⟨t1, ho⟩ := exo_at I.hok ea
    obtain ⟨mA, hns, hr⟩ := exd_at I.hok ed
    obtain ⟨od, hod, hl⟩ := lookIn_ns hns
    have J : PySem.W.InstAt s.heap a _ D (some od) := ⟨ho, rfl, rfl, hod⟩
    exact PySem.W.kia_one (PySem.W.kitx_exc hc T.hg T.hk T.hs T.ha T.hn T.ht T.hm) I.kIn J e (fun z => nomatch z) fun tk => ⟨.bl b, H, I.tok tk, rfl, q⟩
/-- isinstance of an own exception: what the table says of its class -/
def mXi (f : Nat → Option Bool) (a : M PV) : M PV := fun en p => (a en p).bind fun x p1 => match x with
  | .xs c _ => match f c with
    | some b => .ok (.bl b) p1
    | none => .stuck
  | .xv c _ => match f c with
    | some b => .ok (.bl b) p1
    | none => .stuck
  | _ => .stuck
theorem re_isx {p : Pos} {e ce : Expr} {a : M PV} {f : Nat → Option Bool} {c : V} {cv : Value} (hT : ∀ d b, f d = some b → L2.ExcC X.K (C.Γ.cls d) ∧ PySem.W.kitOne X.K (.ref (C.Γ.cls d)) cv = some b) (ha : RE X C e a) (hce : PE X ce (tC c)) (k : ClsV c cv) (hg : Gl X "isinstance") (hm : X.mg "isinstance" = none)
    (he : starEach (e :: [ce]) X.env = (false, eval e X.env) :: starEach [ce] X.env := by rfl) (he2 : starEach (ce :: []) X.env = (false, eval ce X.env) :: starEach [] X.env := by rfl) (hpl : (backTo pos (starEach [ce] X.env)).any (·.1) = false := by rfl) :
    RE X C (.Call (.Name "isinstance" p) [e, ce] [] pos) (mXi f a) :=
  (pe_callB call_isx hg hm (by decide +kernel) (pa_cons ha (pa_cons hce pa_nil he2) he) (by decide) (by decide) he hpl).imp fun σ H Q ⟨L, w, p, en, S, E, h⟩ => by
    refine ⟨L, w, p, en, S, E, h.bind fun x p1 w1 H1 v l1 S1 r1 h1 => ?_⟩
    cases x with
    | xs d t =>
      dsimp only at h1
      split at h1
      · rename_i b eb
        obtain ⟨a, t1, rfl, g, g2⟩ := r1
        exact ⟨a, _, c, cv, b, rfl, k, .inl ⟨t1, S1.sub _ _ g⟩, (hT d b eb).1, (hT d b eb).2, h1.ok S1 rfl⟩
      · exact h1.elim
    | xv d y =>
      dsimp only at h1
      split at h1
      · rename_i b eb
        obtain ⟨a, dx, u, rfl, g, g2, r⟩ := r1
        exact ⟨a, _, c, cv, b, rfl, k, .inr ⟨dx, _, S1.sub _ _ g, S1.sub _ _ g2⟩, (hT d b eb).1, (hT d b eb).2, h1.ok S1 rfl⟩
      · exact h1.elim
    | _ => exact h1.elim
/-! ### str(e) -/
def rStX (K : PySem.W.Frag) : List V → Hp → VK → Prop := fun xs H Q => ∃ (a D t1 : Addr) (t : Str), xs = [.ref a] ∧ H a = some (exT D a t1) ∧ H t1 = some (.tup [.str t]) ∧ PySem.W.findIn K (.ref D) "__str__" = some (some (.builtin "BaseException.__str__")) ∧ PySem.W.subIn K (.ref D) (.type "BaseException") = some true ∧ Q (.str t) H
theorem call_stx (hu : X.A.units + 2 < cLine) : CallR X (.type "str") (rStX X.K) := by
  intro pins s σ H xs us Q I r h
  obtain ⟨a, D, t1, t, rfl, ea, et, h1, h2, q⟩ := h
  obtain ⟨u, rfl, rv⟩ := vals1 r
  cases rv
  have ho : s.heap.get? a = some ({ cls := .ref D, dict := none, data := .fields #[.ref t1, .none, .none, .none, .bool false, .none] } : Obj) := (I.hok a _ ea).1
  obtain ⟨_, its, rt, ot, hot, hct, n, hdt⟩ := I.hok t1 _ et
  obtain ⟨u, rfl, tk, rfl⟩ := vals1 rt
  exact PySem.P.str_of_C_one (K := X.K) (C := D) (t0 := t1) hu ⟨I.kIn, _, _, ho, rfl, rfl, rfl⟩ ⟨ot, n, hot, hct, hdt⟩ h1 h2 ⟨.str t, H, I, ⟨tk, rfl⟩, q⟩
def mXt (f : Nat → Bool) (a : M PV) : M PV := fun en p => (a en p).bind fun x p1 => match x with
  | .xs c t => if f c = true then .ok (.str t) p1 else .stuck
  | _ => .stuck
theorem re_stx {p : Pos} {e : Expr} {a : M PV} {f : Nat → Bool} (hu : X.A.units + 2 < cLine) (hT : ∀ d, f d = true → PySem.W.findIn X.K (.ref (C.Γ.cls d)) "__str__" = some (some (.builtin "BaseException.__str__")) ∧ PySem.W.subIn X.K (.ref (C.Γ.cls d)) (.type "BaseException") = some true) (ha : RE X C e a) (hg : Gl X "str") (hm : X.mg "str" = none)
    (he : starEach (e :: []) X.env = (false, eval e X.env) :: starEach [] X.env := by rfl) (hpl : (backTo pos (starEach [] X.env)).any (·.1) = false := by rfl) : RE X C (.Call (.Name "str" p) [e] [] pos) (mXt f a) :=
  (pe_callTy (call_stx hu) hg hm (by decide +kernel) (pa_cons ha pa_nil he) (by decide) (by decide) he hpl).imp fun σ H Q ⟨L, w, p, en, S, E, h⟩ => by
    refine ⟨L, w, p, en, S, E, h.bind fun x p1 w1 H1 v l1 S1 r1 h1 => ?_⟩
    cases x with
    | xs d t =>
      dsimp only at h1
      by_cases hd : f d = true
      · rw [if_pos hd] at h1
        obtain ⟨a, t1, rfl, g, g2⟩ := r1
        exact ⟨a, _, t1, t, rfl, S1.sub _ _ g, S1.sub _ _ g2, (hT d hd).1, (hT d hd).2, h1.ok S1 rfl⟩
      · rw [if_neg hd] at h1
        exact h1.elim
    | _ => exact h1.elim
end
end R

namespace K03
open PySem L2 R

def topS (i : Nat) : Stmt := PySem.Challenge.pw_rillweb_k03_refusals_made_by_hand.main.body.getD i (.Pass ⟨0, 0, 0, 0⟩)
abbrev s_TooLong_init : Stmt := inClass (topS 5) 0
abbrev N_TooLong_init : List Str := ["self", "place"]
theorem sc_TooLong_init : FnScope N_TooLong_init ["self", "place"] (defScope s_TooLong_init) := ⟨rfl, rfl, rfl, by decide +kernel, rfl, by decide +kernel, by decide +kernel⟩
abbrev s_NoWeb_init : Stmt := inClass (topS 6) 0
abbrev N_NoWeb_init : List Str := ["self", "part"]
theorem sc_NoWeb_init : FnScope N_NoWeb_init ["self", "part"] (defScope s_NoWeb_init) := ⟨rfl, rfl, rfl, by decide +kernel, rfl, by decide +kernel, by decide +kernel⟩
abbrev s_NoPlace_init : Stmt := inClass (topS 11) 0
abbrev N_NoPlace_init : List Str := ["self", "place"]
theorem sc_NoPlace_init : FnScope N_NoPlace_init ["self", "place"] (defScope s_NoPlace_init) := ⟨rfl, rfl, rfl, by decide +kernel, rfl, by decide +kernel, by decide +kernel⟩
abbrev s_NoBed_init : Stmt := inClass (topS 12) 0
abbrev N_NoBed_init : List Str := ["self", "bed"]
theorem sc_NoBed_init : FnScope N_NoBed_init ["self", "bed"] (defScope s_NoBed_init) := ⟨rfl, rfl, rfl, by decide +kernel, rfl, by decide +kernel, by decide +kernel⟩
abbrev s_law_well : Stmt := topS 16
abbrev N_law_well : List Str := ["cell"]
theorem sc_law_well : FnScope N_law_well ["cell"] (defScope s_law_well) := ⟨rfl, rfl, rfl, by decide +kernel, rfl, by decide +kernel, by decide +kernel⟩
abbrev s_law_draw : Stmt := topS 17
abbrev N_law_draw : List Str := ["well", "many", "digit", "prime", "number"]
theorem sc_law_draw : FnScope N_law_draw ["well", "many"] (defScope s_law_draw) := ⟨rfl, rfl, rfl, by decide +kernel, rfl, by decide +kernel, by decide +kernel⟩
abbrev s_law_one : Stmt := topS 18
abbrev N_law_one : List Str := ["well", "some"]
theorem sc_law_one : FnScope N_law_one ["well", "some"] (defScope s_law_one) := ⟨rfl, rfl, rfl, by decide +kernel, rfl, by decide +kernel, by decide +kernel⟩
abbrev s_law_plain : Stmt := topS 19
abbrev N_law_plain : List Str := ["text", "first"]
theorem sc_law_plain : FnScope N_law_plain ["text"] (defScope s_law_plain) := ⟨rfl, rfl, rfl, by decide +kernel, rfl, by decide +kernel, by decide +kernel⟩
abbrev s_law_with : Stmt := topS 20
abbrev N_law_with : List Str := ["thing", "one", "other", "third", "last"]
theorem sc_law_with : FnScope N_law_with ["thing"] (defScope s_law_with) := ⟨rfl, rfl, rfl, by decide +kernel, rfl, by decide +kernel, by decide +kernel⟩
abbrev s_law_kinds : Stmt := topS 21
abbrev N_law_kinds : List Str := ["error", "first", "second"]
theorem sc_law_kinds : FnScope N_law_kinds ["error"] (defScope s_law_kinds) := ⟨rfl, rfl, rfl, by decide +kernel, rfl, by decide +kernel, by decide +kernel⟩
abbrev s_law : Stmt := topS 22
abbrev N_law : List Str := ["script", "cell", "well", "thing", "text", "error", "value", "errors", "k", "at"]
theorem sc_law : FnScope N_law ["script"] (defScope s_law) := ⟨rfl, rfl, rfl, by decide +kernel, rfl, by decide +kernel, by decide +kernel⟩
theorem kit_own {K : PySem.W.Frag} {C D : Addr} {b : Bool} (i : PySem.W.isClsIn K C = true) (t : PySem.W.typeIn K (.ref C) = some (.type "type")) (r : PySem.W.subIn K (.ref C) (.ref C) = some true) (s : PySem.W.subIn K (.ref D) (.ref C) = some b) : PySem.W.kitOne K (.ref D) (.ref C) = some b := by
  unfold PySem.W.kitOne
  split
  · rename_i h
    have e : D = C := Value.ref.inj (eq_of_beq h)
    subst e
    exact r.symm.trans s
  · unfold PySem.W.kitCls
    have e2 : ((PySem.W.clsIn K C).isSome && PySem.W.typeIn K (.ref C) == some (.type "type")) = true := by
      have h2' : (PySem.W.clsIn K C).isSome = true := i
      rw [h2', t] <;> rfl
    dsimp only
    rw [if_pos e2]
    exact s
theorem kit_VE {K : PySem.W.Frag} {D : Addr} {b : Bool} (s : PySem.W.subIn K (.ref D) (.type "ValueError") = some b) : PySem.W.kitOne K (.ref D) (.type "ValueError") = some b := by
  unfold PySem.W.kitOne
  have e : (Value.ref D == Value.type "ValueError") = false := rfl
  rw [if_neg (by rw [e]; exact Bool.false_ne_true)]
  unfold PySem.W.kitCls
  dsimp only
  rw [if_pos (by decide +kernel)]
  exact s
structure Facts (K : PySem.W.Frag) (mg : Str → Option Value) where
  x_RillError : Addr
  gx_RillError : mg "RillError" = some (.ref x_RillError)
  x_NoShare : Addr
  gx_NoShare : mg "NoShare" = some (.ref x_NoShare)
  x_NoCourse : Addr
  gx_NoCourse : mg "NoCourse" = some (.ref x_NoCourse)
  x_NoDay : Addr
  gx_NoDay : mg "NoDay" = some (.ref x_NoDay)
  x_TooLong : Addr
  gx_TooLong : mg "TooLong" = some (.ref x_TooLong)
  x_NoWeb : Addr
  gx_NoWeb : mg "NoWeb" = some (.ref x_NoWeb)
  x_NoDepths : Addr
  gx_NoDepths : mg "NoDepths" = some (.ref x_NoDepths)
  x_NoRain : Addr
  gx_NoRain : mg "NoRain" = some (.ref x_NoRain)
  x_NoDigs : Addr
  gx_NoDigs : mg "NoDigs" = some (.ref x_NoDigs)
  x_NoTurned : Addr
  gx_NoTurned : mg "NoTurned" = some (.ref x_NoTurned)
  x_NoPlace : Addr
  gx_NoPlace : mg "NoPlace" = some (.ref x_NoPlace)
  x_NoBed : Addr
  gx_NoBed : mg "NoBed" = some (.ref x_NoBed)
  x_NoTie : Addr
  gx_NoTie : mg "NoTie" = some (.ref x_NoTie)
  f_TooLong_init : Addr
  d_TooLong_init : FuncData
  F_TooLong_init : FunD K "__init__" "TooLong.__init__" (defArgs s_TooLong_init) (defBody s_TooLong_init) (defScope s_TooLong_init) [] [] f_TooLong_init d_TooLong_init
  b_TooLong_init : Binds K d_TooLong_init ["self", "place"] []
  i_TooLong_init : PySem.W.findIn K (.ref x_TooLong) "__init__" = some (some (.ref f_TooLong_init))
  t_TooLong_init : PySem.W.isFn K (.ref f_TooLong_init) = true
  f_NoWeb_init : Addr
  d_NoWeb_init : FuncData
  F_NoWeb_init : FunD K "__init__" "NoWeb.__init__" (defArgs s_NoWeb_init) (defBody s_NoWeb_init) (defScope s_NoWeb_init) [] [] f_NoWeb_init d_NoWeb_init
  b_NoWeb_init : Binds K d_NoWeb_init ["self", "part"] []
  i_NoWeb_init : PySem.W.findIn K (.ref x_NoWeb) "__init__" = some (some (.ref f_NoWeb_init))
  t_NoWeb_init : PySem.W.isFn K (.ref f_NoWeb_init) = true
  f_NoPlace_init : Addr
  d_NoPlace_init : FuncData
  F_NoPlace_init : FunD K "__init__" "NoPlace.__init__" (defArgs s_NoPlace_init) (defBody s_NoPlace_init) (defScope s_NoPlace_init) [] [] f_NoPlace_init d_NoPlace_init
  b_NoPlace_init : Binds K d_NoPlace_init ["self", "place"] []
  i_NoPlace_init : PySem.W.findIn K (.ref x_NoPlace) "__init__" = some (some (.ref f_NoPlace_init))
  t_NoPlace_init : PySem.W.isFn K (.ref f_NoPlace_init) = true
  f_NoBed_init : Addr
  d_NoBed_init : FuncData
  F_NoBed_init : FunD K "__init__" "NoBed.__init__" (defArgs s_NoBed_init) (defBody s_NoBed_init) (defScope s_NoBed_init) [] [] f_NoBed_init d_NoBed_init
  b_NoBed_init : Binds K d_NoBed_init ["self", "bed"] []
  i_NoBed_init : PySem.W.findIn K (.ref x_NoBed) "__init__" = some (some (.ref f_NoBed_init))
  t_NoBed_init : PySem.W.isFn K (.ref f_NoBed_init) = true
  f_law_well : Addr
  d_law_well : FuncData
  F_law_well : FunD K "_law_well" "_law_well" (defArgs s_law_well) (defBody s_law_well) (defScope s_law_well) [] [] f_law_well d_law_well
  b_law_well : Binds K d_law_well ["cell"] []
  g_law_well : mg "_law_well" = some (.ref f_law_well)
  f_law_draw : Addr
  d_law_draw : FuncData
  F_law_draw : FunD K "_law_draw" "_law_draw" (defArgs s_law_draw) (defBody s_law_draw) (defScope s_law_draw) [] [] f_law_draw d_law_draw
  b_law_draw : Binds K d_law_draw ["well", "many"] []
  g_law_draw : mg "_law_draw" = some (.ref f_law_draw)
  f_law_one : Addr
  d_law_one : FuncData
  F_law_one : FunD K "_law_one" "_law_one" (defArgs s_law_one) (defBody s_law_one) (defScope s_law_one) [] [] f_law_one d_law_one
  b_law_one : Binds K d_law_one ["well", "some"] []
  g_law_one : mg "_law_one" = some (.ref f_law_one)
  f_law_plain : Addr
  d_law_plain : FuncData
  F_law_plain : FunD K "_law_plain" "_law_plain" (defArgs s_law_plain) (defBody s_law_plain) (defScope s_law_plain) [] [] f_law_plain d_law_plain
  b_law_plain : Binds K d_law_plain ["text"] []
  g_law_plain : mg "_law_plain" = some (.ref f_law_plain)
  f_law_with : Addr
  d_law_with : FuncData
  F_law_with : FunD K "_law_with" "_law_with" (defArgs s_law_with) (defBody s_law_with) (defScope s_law_with) [] [] f_law_with d_law_with
  b_law_with : Binds K d_law_with ["thing"] []
  g_law_with : mg "_law_with" = some (.ref f_law_with)
  f_law_kinds : Addr
  d_law_kinds : FuncData
  F_law_kinds : FunD K "_law_kinds" "_law_kinds" (defArgs s_law_kinds) (defBody s_law_kinds) (defScope s_law_kinds) [] [] f_law_kinds d_law_kinds
  b_law_kinds : Binds K d_law_kinds ["error"] []
  g_law_kinds : mg "_law_kinds" = some (.ref f_law_kinds)
  f_law : Addr
  d_law : FuncData
  F_law : FunD K "law" "law" (defArgs s_law) (defBody s_law) (defScope s_law) [] [] f_law d_law
  b_law : Binds K d_law ["script"] []
  g_law : mg "law" = some (.ref f_law)
  bl : ∀ (s : Shared) (u : Value), BindsTo s d_law ⟨[u], []⟩ [("script", u)]
  n_ValueError : mg "ValueError" = none
  n_bool : mg "bool" = none
  n_enumerate : mg "enumerate" = none
  n_int : mg "int" = none
  n_isinstance : mg "isinstance" = none
  n_len : mg "len" = none
  n_range : mg "range" = none
  n_str : mg "str" = none
  ty_RillError : PySem.W.typeIn K (.ref x_RillError) = some (.type "type")
  ty_NoShare : PySem.W.typeIn K (.ref x_NoShare) = some (.type "type")
  ty_NoCourse : PySem.W.typeIn K (.ref x_NoCourse) = some (.type "type")
  ty_NoDay : PySem.W.typeIn K (.ref x_NoDay) = some (.type "type")
  ty_TooLong : PySem.W.typeIn K (.ref x_TooLong) = some (.type "type")
  ty_NoWeb : PySem.W.typeIn K (.ref x_NoWeb) = some (.type "type")
  ty_NoDepths : PySem.W.typeIn K (.ref x_NoDepths) = some (.type "type")
  ty_NoRain : PySem.W.typeIn K (.ref x_NoRain) = some (.type "type")
  ty_NoDigs : PySem.W.typeIn K (.ref x_NoDigs) = some (.type "type")
  ty_NoTurned : PySem.W.typeIn K (.ref x_NoTurned) = some (.type "type")
  ty_NoPlace : PySem.W.typeIn K (.ref x_NoPlace) = some (.type "type")
  ty_NoBed : PySem.W.typeIn K (.ref x_NoBed) = some (.type "type")
  ty_NoTie : PySem.W.typeIn K (.ref x_NoTie) = some (.type "type")
  is_NoShare_RillError : PySem.W.kitOne K (.ref x_NoShare) (.ref x_RillError) = some true
  is_NoShare_NoShare : PySem.W.kitOne K (.ref x_NoShare) (.ref x_NoShare) = some true
  is_NoShare_NoCourse : PySem.W.kitOne K (.ref x_NoShare) (.ref x_NoCourse) = some false
  is_NoShare_NoDay : PySem.W.kitOne K (.ref x_NoShare) (.ref x_NoDay) = some false
  is_NoShare_TooLong : PySem.W.kitOne K (.ref x_NoShare) (.ref x_TooLong) = some false
  is_NoShare_NoWeb : PySem.W.kitOne K (.ref x_NoShare) (.ref x_NoWeb) = some false
  is_NoShare_NoDepths : PySem.W.kitOne K (.ref x_NoShare) (.ref x_NoDepths) = some false
  is_NoShare_NoRain : PySem.W.kitOne K (.ref x_NoShare) (.ref x_NoRain) = some false
  is_NoShare_NoDigs : PySem.W.kitOne K (.ref x_NoShare) (.ref x_NoDigs) = some false
  is_NoShare_NoTurned : PySem.W.kitOne K (.ref x_NoShare) (.ref x_NoTurned) = some false
  is_NoShare_NoPlace : PySem.W.kitOne K (.ref x_NoShare) (.ref x_NoPlace) = some false
  is_NoShare_NoBed : PySem.W.kitOne K (.ref x_NoShare) (.ref x_NoBed) = some false
  is_NoShare_NoTie : PySem.W.kitOne K (.ref x_NoShare) (.ref x_NoTie) = some false
  is_NoShare_VE : PySem.W.kitOne K (.ref x_NoShare) (.type "ValueError") = some true
  is_NoCourse_RillError : PySem.W.kitOne K (.ref x_NoCourse) (.ref x_RillError) = some true
  is_NoCourse_NoShare : PySem.W.kitOne K (.ref x_NoCourse) (.ref x_NoShare) = some false
  is_NoCourse_NoCourse : PySem.W.kitOne K (.ref x_NoCourse) (.ref x_NoCourse) = some true
  is_NoCourse_NoDay : PySem.W.kitOne K (.ref x_NoCourse) (.ref x_NoDay) = some false
  is_NoCourse_TooLong : PySem.W.kitOne K (.ref x_NoCourse) (.ref x_TooLong) = some false
  is_NoCourse_NoWeb : PySem.W.kitOne K (.ref x_NoCourse) (.ref x_NoWeb) = some false
  is_NoCourse_NoDepths : PySem.W.kitOne K (.ref x_NoCourse) (.ref x_NoDepths) = some false
  is_NoCourse_NoRain : PySem.W.kitOne K (.ref x_NoCourse) (.ref x_NoRain) = some false
  is_NoCourse_NoDigs : PySem.W.kitOne K (.ref x_NoCourse) (.ref x_NoDigs) = some false
  is_NoCourse_NoTurned : PySem.W.kitOne K (.ref x_NoCourse) (.ref x_NoTurned) = some false
  is_NoCourse_NoPlace : PySem.W.kitOne K (.ref x_NoCourse) (.ref x_NoPlace) = some false
  is_NoCourse_NoBed : PySem.W.kitOne K (.ref x_NoCourse) (.ref x_NoBed) = some false
  is_NoCourse_NoTie : PySem.W.kitOne K (.ref x_NoCourse) (.ref x_NoTie) = some false
  is_NoCourse_VE : PySem.W.kitOne K (.ref x_NoCourse) (.type "ValueError") = some true
  is_NoDay_RillError : PySem.W.kitOne K (.ref x_NoDay) (.ref x_RillError) = some true
  is_NoDay_NoShare : PySem.W.kitOne K (.ref x_NoDay) (.ref x_NoShare) = some false
  is_NoDay_NoCourse : PySem.W.kitOne K (.ref x_NoDay) (.ref x_NoCourse) = some false
  is_NoDay_NoDay : PySem.W.kitOne K (.ref x_NoDay) (.ref x_NoDay) = some true
  is_NoDay_TooLong : PySem.W.kitOne K (.ref x_NoDay) (.ref x_TooLong) = some false
  is_NoDay_NoWeb : PySem.W.kitOne K (.ref x_NoDay) (.ref x_NoWeb) = some false
  is_NoDay_NoDepths : PySem.W.kitOne K (.ref x_NoDay) (.ref x_NoDepths) = some false
  is_NoDay_NoRain : PySem.W.kitOne K (.ref x_NoDay) (.ref x_NoRain) = some false
  is_NoDay_NoDigs : PySem.W.kitOne K (.ref x_NoDay) (.ref x_NoDigs) = some false
  is_NoDay_NoTurned : PySem.W.kitOne K (.ref x_NoDay) (.ref x_NoTurned) = some false
  is_NoDay_NoPlace : PySem.W.kitOne K (.ref x_NoDay) (.ref x_NoPlace) = some false
  is_NoDay_NoBed : PySem.W.kitOne K (.ref x_NoDay) (.ref x_NoBed) = some false
  is_NoDay_NoTie : PySem.W.kitOne K (.ref x_NoDay) (.ref x_NoTie) = some false
  is_NoDay_VE : PySem.W.kitOne K (.ref x_NoDay) (.type "ValueError") = some true
  cl_TooLong : ∃ nm q N bs bm sn sub ab col dd k0 k1 k2 k3 k5, K.lookup x_TooLong = some (excClassObj nm q x_TooLong N bs bm true sn sub ab col dd k0 k1 k2 k3 k5 "ValueError.__new__") ∧ PySem.HandSPX.refsVE bm = true
  is_TooLong_RillError : PySem.W.kitOne K (.ref x_TooLong) (.ref x_RillError) = some true
  is_TooLong_NoShare : PySem.W.kitOne K (.ref x_TooLong) (.ref x_NoShare) = some false
  is_TooLong_NoCourse : PySem.W.kitOne K (.ref x_TooLong) (.ref x_NoCourse) = some false
  is_TooLong_NoDay : PySem.W.kitOne K (.ref x_TooLong) (.ref x_NoDay) = some false
  is_TooLong_TooLong : PySem.W.kitOne K (.ref x_TooLong) (.ref x_TooLong) = some true
  is_TooLong_NoWeb : PySem.W.kitOne K (.ref x_TooLong) (.ref x_NoWeb) = some false
  is_TooLong_NoDepths : PySem.W.kitOne K (.ref x_TooLong) (.ref x_NoDepths) = some false
  is_TooLong_NoRain : PySem.W.kitOne K (.ref x_TooLong) (.ref x_NoRain) = some false
  is_TooLong_NoDigs : PySem.W.kitOne K (.ref x_TooLong) (.ref x_NoDigs) = some false
  is_TooLong_NoTurned : PySem.W.kitOne K (.ref x_TooLong) (.ref x_NoTurned) = some false
  is_TooLong_NoPlace : PySem.W.kitOne K (.ref x_TooLong) (.ref x_NoPlace) = some false
  is_TooLong_NoBed : PySem.W.kitOne K (.ref x_TooLong) (.ref x_NoBed) = some false
  is_TooLong_NoTie : PySem.W.kitOne K (.ref x_TooLong) (.ref x_NoTie) = some false
  is_TooLong_VE : PySem.W.kitOne K (.ref x_TooLong) (.type "ValueError") = some true
  cl_NoWeb : ∃ nm q N bs bm sn sub ab col dd k0 k1 k2 k3 k5, K.lookup x_NoWeb = some (excClassObj nm q x_NoWeb N bs bm true sn sub ab col dd k0 k1 k2 k3 k5 "ValueError.__new__") ∧ PySem.HandSPX.refsVE bm = true
  is_NoWeb_RillError : PySem.W.kitOne K (.ref x_NoWeb) (.ref x_RillError) = some true
  is_NoWeb_NoShare : PySem.W.kitOne K (.ref x_NoWeb) (.ref x_NoShare) = some false
  is_NoWeb_NoCourse : PySem.W.kitOne K (.ref x_NoWeb) (.ref x_NoCourse) = some false
  is_NoWeb_NoDay : PySem.W.kitOne K (.ref x_NoWeb) (.ref x_NoDay) = some false
  is_NoWeb_TooLong : PySem.W.kitOne K (.ref x_NoWeb) (.ref x_TooLong) = some false
  is_NoWeb_NoWeb : PySem.W.kitOne K (.ref x_NoWeb) (.ref x_NoWeb) = some true
  is_NoWeb_NoDepths : PySem.W.kitOne K (.ref x_NoWeb) (.ref x_NoDepths) = some false
  is_NoWeb_NoRain : PySem.W.kitOne K (.ref x_NoWeb) (.ref x_NoRain) = some false
  is_NoWeb_NoDigs : PySem.W.kitOne K (.ref x_NoWeb) (.ref x_NoDigs) = some false
  is_NoWeb_NoTurned : PySem.W.kitOne K (.ref x_NoWeb) (.ref x_NoTurned) = some false
  is_NoWeb_NoPlace : PySem.W.kitOne K (.ref x_NoWeb) (.ref x_NoPlace) = some false
  is_NoWeb_NoBed : PySem.W.kitOne K (.ref x_NoWeb) (.ref x_NoBed) = some false
  is_NoWeb_NoTie : PySem.W.kitOne K (.ref x_NoWeb) (.ref x_NoTie) = some false
  is_NoWeb_VE : PySem.W.kitOne K (.ref x_NoWeb) (.type "ValueError") = some true
  is_NoDepths_RillError : PySem.W.kitOne K (.ref x_NoDepths) (.ref x_RillError) = some true
  is_NoDepths_NoShare : PySem.W.kitOne K (.ref x_NoDepths) (.ref x_NoShare) = some false
  is_NoDepths_NoCourse : PySem.W.kitOne K (.ref x_NoDepths) (.ref x_NoCourse) = some false
  is_NoDepths_NoDay : PySem.W.kitOne K (.ref x_NoDepths) (.ref x_NoDay) = some false
  is_NoDepths_TooLong : PySem.W.kitOne K (.ref x_NoDepths) (.ref x_TooLong) = some false
  is_NoDepths_NoWeb : PySem.W.kitOne K (.ref x_NoDepths) (.ref x_NoWeb) = some false
  is_NoDepths_NoDepths : PySem.W.kitOne K (.ref x_NoDepths) (.ref x_NoDepths) = some true
  is_NoDepths_NoRain : PySem.W.kitOne K (.ref x_NoDepths) (.ref x_NoRain) = some false
  is_NoDepths_NoDigs : PySem.W.kitOne K (.ref x_NoDepths) (.ref x_NoDigs) = some false
  is_NoDepths_NoTurned : PySem.W.kitOne K (.ref x_NoDepths) (.ref x_NoTurned) = some false
  is_NoDepths_NoPlace : PySem.W.kitOne K (.ref x_NoDepths) (.ref x_NoPlace) = some false
  is_NoDepths_NoBed : PySem.W.kitOne K (.ref x_NoDepths) (.ref x_NoBed) = some false
  is_NoDepths_NoTie : PySem.W.kitOne K (.ref x_NoDepths) (.ref x_NoTie) = some false
  is_NoDepths_VE : PySem.W.kitOne K (.ref x_NoDepths) (.type "ValueError") = some true
  is_NoRain_RillError : PySem.W.kitOne K (.ref x_NoRain) (.ref x_RillError) = some true
  is_NoRain_NoShare : PySem.W.kitOne K (.ref x_NoRain) (.ref x_NoShare) = some false
  is_NoRain_NoCourse : PySem.W.kitOne K (.ref x_NoRain) (.ref x_NoCourse) = some false
  is_NoRain_NoDay : PySem.W.kitOne K (.ref x_NoRain) (.ref x_NoDay) = some false
  is_NoRain_TooLong : PySem.W.kitOne K (.ref x_NoRain) (.ref x_TooLong) = some false
  is_NoRain_NoWeb : PySem.W.kitOne K (.ref x_NoRain) (.ref x_NoWeb) = some false
  is_NoRain_NoDepths : PySem.W.kitOne K (.ref x_NoRain) (.ref x_NoDepths) = some false
  is_NoRain_NoRain : PySem.W.kitOne K (.ref x_NoRain) (.ref x_NoRain) = some true
  is_NoRain_NoDigs : PySem.W.kitOne K (.ref x_NoRain) (.ref x_NoDigs) = some false
  is_NoRain_NoTurned : PySem.W.kitOne K (.ref x_NoRain) (.ref x_NoTurned) = some false
  is_NoRain_NoPlace : PySem.W.kitOne K (.ref x_NoRain) (.ref x_NoPlace) = some false
  is_NoRain_NoBed : PySem.W.kitOne K (.ref x_NoRain) (.ref x_NoBed) = some false
  is_NoRain_NoTie : PySem.W.kitOne K (.ref x_NoRain) (.ref x_NoTie) = some false
  is_NoRain_VE : PySem.W.kitOne K (.ref x_NoRain) (.type "ValueError") = some true
  is_NoDigs_RillError : PySem.W.kitOne K (.ref x_NoDigs) (.ref x_RillError) = some true
  is_NoDigs_NoShare : PySem.W.kitOne K (.ref x_NoDigs) (.ref x_NoShare) = some false
  is_NoDigs_NoCourse : PySem.W.kitOne K (.ref x_NoDigs) (.ref x_NoCourse) = some false
  is_NoDigs_NoDay : PySem.W.kitOne K (.ref x_NoDigs) (.ref x_NoDay) = some false
  is_NoDigs_TooLong : PySem.W.kitOne K (.ref x_NoDigs) (.ref x_TooLong) = some false
  is_NoDigs_NoWeb : PySem.W.kitOne K (.ref x_NoDigs) (.ref x_NoWeb) = some false
  is_NoDigs_NoDepths : PySem.W.kitOne K (.ref x_NoDigs) (.ref x_NoDepths) = some false
  is_NoDigs_NoRain : PySem.W.kitOne K (.ref x_NoDigs) (.ref x_NoRain) = some false
  is_NoDigs_NoDigs : PySem.W.kitOne K (.ref x_NoDigs) (.ref x_NoDigs) = some true
  is_NoDigs_NoTurned : PySem.W.kitOne K (.ref x_NoDigs) (.ref x_NoTurned) = some false
  is_NoDigs_NoPlace : PySem.W.kitOne K (.ref x_NoDigs) (.ref x_NoPlace) = some false
  is_NoDigs_NoBed : PySem.W.kitOne K (.ref x_NoDigs) (.ref x_NoBed) = some false
  is_NoDigs_NoTie : PySem.W.kitOne K (.ref x_NoDigs) (.ref x_NoTie) = some false
  is_NoDigs_VE : PySem.W.kitOne K (.ref x_NoDigs) (.type "ValueError") = some true
  is_NoTurned_RillError : PySem.W.kitOne K (.ref x_NoTurned) (.ref x_RillError) = some true
  is_NoTurned_NoShare : PySem.W.kitOne K (.ref x_NoTurned) (.ref x_NoShare) = some false
  is_NoTurned_NoCourse : PySem.W.kitOne K (.ref x_NoTurned) (.ref x_NoCourse) = some false
  is_NoTurned_NoDay : PySem.W.kitOne K (.ref x_NoTurned) (.ref x_NoDay) = some false
  is_NoTurned_TooLong : PySem.W.kitOne K (.ref x_NoTurned) (.ref x_TooLong) = some false
  is_NoTurned_NoWeb : PySem.W.kitOne K (.ref x_NoTurned) (.ref x_NoWeb) = some false
  is_NoTurned_NoDepths : PySem.W.kitOne K (.ref x_NoTurned) (.ref x_NoDepths) = some false
  is_NoTurned_NoRain : PySem.W.kitOne K (.ref x_NoTurned) (.ref x_NoRain) = some false
  is_NoTurned_NoDigs : PySem.W.kitOne K (.ref x_NoTurned) (.ref x_NoDigs) = some false
  is_NoTurned_NoTurned : PySem.W.kitOne K (.ref x_NoTurned) (.ref x_NoTurned) = some true
  is_NoTurned_NoPlace : PySem.W.kitOne K (.ref x_NoTurned) (.ref x_NoPlace) = some false
  is_NoTurned_NoBed : PySem.W.kitOne K (.ref x_NoTurned) (.ref x_NoBed) = some false
  is_NoTurned_NoTie : PySem.W.kitOne K (.ref x_NoTurned) (.ref x_NoTie) = some false
  is_NoTurned_VE : PySem.W.kitOne K (.ref x_NoTurned) (.type "ValueError") = some true
  cl_NoPlace : ∃ nm q N bs bm sn sub ab col dd k0 k1 k2 k3 k5, K.lookup x_NoPlace = some (excClassObj nm q x_NoPlace N bs bm true sn sub ab col dd k0 k1 k2 k3 k5 "ValueError.__new__") ∧ PySem.HandSPX.refsVE bm = true
  is_NoPlace_RillError : PySem.W.kitOne K (.ref x_NoPlace) (.ref x_RillError) = some true
  is_NoPlace_NoShare : PySem.W.kitOne K (.ref x_NoPlace) (.ref x_NoShare) = some false
  is_NoPlace_NoCourse : PySem.W.kitOne K (.ref x_NoPlace) (.ref x_NoCourse) = some false
  is_NoPlace_NoDay : PySem.W.kitOne K (.ref x_NoPlace) (.ref x_NoDay) = some false
  is_NoPlace_TooLong : PySem.W.kitOne K (.ref x_NoPlace) (.ref x_TooLong) = some false
  is_NoPlace_NoWeb : PySem.W.kitOne K (.ref x_NoPlace) (.ref x_NoWeb) = some false
  is_NoPlace_NoDepths : PySem.W.kitOne K (.ref x_NoPlace) (.ref x_NoDepths) = some false
  is_NoPlace_NoRain : PySem.W.kitOne K (.ref x_NoPlace) (.ref x_NoRain) = some false
  is_NoPlace_NoDigs : PySem.W.kitOne K (.ref x_NoPlace) (.ref x_NoDigs) = some false
  is_NoPlace_NoTurned : PySem.W.kitOne K (.ref x_NoPlace) (.ref x_NoTurned) = some false
  is_NoPlace_NoPlace : PySem.W.kitOne K (.ref x_NoPlace) (.ref x_NoPlace) = some true
  is_NoPlace_NoBed : PySem.W.kitOne K (.ref x_NoPlace) (.ref x_NoBed) = some false
  is_NoPlace_NoTie : PySem.W.kitOne K (.ref x_NoPlace) (.ref x_NoTie) = some false
  is_NoPlace_VE : PySem.W.kitOne K (.ref x_NoPlace) (.type "ValueError") = some true
  cl_NoBed : ∃ nm q N bs bm sn sub ab col dd k0 k1 k2 k3 k5, K.lookup x_NoBed = some (excClassObj nm q x_NoBed N bs bm true sn sub ab col dd k0 k1 k2 k3 k5 "ValueError.__new__") ∧ PySem.HandSPX.refsVE bm = true
  is_NoBed_RillError : PySem.W.kitOne K (.ref x_NoBed) (.ref x_RillError) = some true
  is_NoBed_NoShare : PySem.W.kitOne K (.ref x_NoBed) (.ref x_NoShare) = some false
  is_NoBed_NoCourse : PySem.W.kitOne K (.ref x_NoBed) (.ref x_NoCourse) = some false
  is_NoBed_NoDay : PySem.W.kitOne K (.ref x_NoBed) (.ref x_NoDay) = some false
  is_NoBed_TooLong : PySem.W.kitOne K (.ref x_NoBed) (.ref x_TooLong) = some false
  is_NoBed_NoWeb : PySem.W.kitOne K (.ref x_NoBed) (.ref x_NoWeb) = some false
  is_NoBed_NoDepths : PySem.W.kitOne K (.ref x_NoBed) (.ref x_NoDepths) = some false
  is_NoBed_NoRain : PySem.W.kitOne K (.ref x_NoBed) (.ref x_NoRain) = some false
  is_NoBed_NoDigs : PySem.W.kitOne K (.ref x_NoBed) (.ref x_NoDigs) = some false
  is_NoBed_NoTurned : PySem.W.kitOne K (.ref x_NoBed) (.ref x_NoTurned) = some false
  is_NoBed_NoPlace : PySem.W.kitOne K (.ref x_NoBed) (.ref x_NoPlace) = some false
  is_NoBed_NoBed : PySem.W.kitOne K (.ref x_NoBed) (.ref x_NoBed) = some true
  is_NoBed_NoTie : PySem.W.kitOne K (.ref x_NoBed) (.ref x_NoTie) = some false
  is_NoBed_VE : PySem.W.kitOne K (.ref x_NoBed) (.type "ValueError") = some true
  is_NoTie_RillError : PySem.W.kitOne K (.ref x_NoTie) (.ref x_RillError) = some true
  is_NoTie_NoShare : PySem.W.kitOne K (.ref x_NoTie) (.ref x_NoShare) = some false
  is_NoTie_NoCourse : PySem.W.kitOne K (.ref x_NoTie) (.ref x_NoCourse) = some false
  is_NoTie_NoDay : PySem.W.kitOne K (.ref x_NoTie) (.ref x_NoDay) = some false
  is_NoTie_TooLong : PySem.W.kitOne K (.ref x_NoTie) (.ref x_TooLong) = some false
  is_NoTie_NoWeb : PySem.W.kitOne K (.ref x_NoTie) (.ref x_NoWeb) = some false
  is_NoTie_NoDepths : PySem.W.kitOne K (.ref x_NoTie) (.ref x_NoDepths) = some false
  is_NoTie_NoRain : PySem.W.kitOne K (.ref x_NoTie) (.ref x_NoRain) = some false
  is_NoTie_NoDigs : PySem.W.kitOne K (.ref x_NoTie) (.ref x_NoDigs) = some false
  is_NoTie_NoTurned : PySem.W.kitOne K (.ref x_NoTie) (.ref x_NoTurned) = some false
  is_NoTie_NoPlace : PySem.W.kitOne K (.ref x_NoTie) (.ref x_NoPlace) = some false
  is_NoTie_NoBed : PySem.W.kitOne K (.ref x_NoTie) (.ref x_NoBed) = some false
  is_NoTie_NoTie : PySem.W.kitOne K (.ref x_NoTie) (.ref x_NoTie) = some true
  is_NoTie_VE : PySem.W.kitOne K (.ref x_NoTie) (.type "ValueError") = some true
  kx_NoShare : PySem.W.keepIn K (.ref x_NoShare) = true
  hg_NoShare : PySem.W.findIn K (.ref x_NoShare) "__getattribute__" = some (some (.builtin "BaseException.__getattribute__"))
  hk_NoShare : PySem.W.findIn K (.ref x_NoShare) "__getattr__" = some none
  hs_NoShare : PySem.W.subIn K (.ref x_NoShare) (.type "BaseException") = some true
  hd_NoShare : PySem.W.hasDictIn K x_NoShare = true
  ha_NoShare : PySem.W.findIn K (.ref x_NoShare) "__class__" = some (some (.builtin "object.__class__"))
  hm_NoShare : PySem.W.mroIn K x_NoShare (.type "object") = some true
  q_NoShare : PySem.W.excIn K x_NoShare [.type "ValueError", .type "Exception", .type "BaseException", .type "object"] "ValueError.__new__" = true
  st_NoShare : PySem.W.findIn K (.ref x_NoShare) "__str__" = some (some (.builtin "BaseException.__str__"))
  kx_NoCourse : PySem.W.keepIn K (.ref x_NoCourse) = true
  hg_NoCourse : PySem.W.findIn K (.ref x_NoCourse) "__getattribute__" = some (some (.builtin "BaseException.__getattribute__"))
  hk_NoCourse : PySem.W.findIn K (.ref x_NoCourse) "__getattr__" = some none
  hs_NoCourse : PySem.W.subIn K (.ref x_NoCourse) (.type "BaseException") = some true
  hd_NoCourse : PySem.W.hasDictIn K x_NoCourse = true
  ha_NoCourse : PySem.W.findIn K (.ref x_NoCourse) "__class__" = some (some (.builtin "object.__class__"))
  hm_NoCourse : PySem.W.mroIn K x_NoCourse (.type "object") = some true
  q_NoCourse : PySem.W.excIn K x_NoCourse [.type "ValueError", .type "Exception", .type "BaseException", .type "object"] "ValueError.__new__" = true
  st_NoCourse : PySem.W.findIn K (.ref x_NoCourse) "__str__" = some (some (.builtin "BaseException.__str__"))
  kx_NoDay : PySem.W.keepIn K (.ref x_NoDay) = true
  hg_NoDay : PySem.W.findIn K (.ref x_NoDay) "__getattribute__" = some (some (.builtin "BaseException.__getattribute__"))
  hk_NoDay : PySem.W.findIn K (.ref x_NoDay) "__getattr__" = some none
  hs_NoDay : PySem.W.subIn K (.ref x_NoDay) (.type "BaseException") = some true
  hd_NoDay : PySem.W.hasDictIn K x_NoDay = true
  ha_NoDay : PySem.W.findIn K (.ref x_NoDay) "__class__" = some (some (.builtin "object.__class__"))
  hm_NoDay : PySem.W.mroIn K x_NoDay (.type "object") = some true
  q_NoDay : PySem.W.excIn K x_NoDay [.type "ValueError", .type "Exception", .type "BaseException", .type "object"] "ValueError.__new__" = true
  st_NoDay : PySem.W.findIn K (.ref x_NoDay) "__str__" = some (some (.builtin "BaseException.__str__"))
  kx_TooLong : PySem.W.keepIn K (.ref x_TooLong) = true
  hg_TooLong : PySem.W.findIn K (.ref x_TooLong) "__getattribute__" = some (some (.builtin "BaseException.__getattribute__"))
  hk_TooLong : PySem.W.findIn K (.ref x_TooLong) "__getattr__" = some none
  hs_TooLong : PySem.W.subIn K (.ref x_TooLong) (.type "BaseException") = some true
  hd_TooLong : PySem.W.hasDictIn K x_TooLong = true
  ha_TooLong : PySem.W.findIn K (.ref x_TooLong) "__class__" = some (some (.builtin "object.__class__"))
  hm_TooLong : PySem.W.mroIn K x_TooLong (.type "object") = some true
  sa_TooLong : PySem.W.findIn K (.ref x_TooLong) "__setattr__" = some (some (.builtin "object.__setattr__"))
  no_TooLong : PySem.W.findIn K (.ref x_TooLong) "place" = some none
  kx_NoWeb : PySem.W.keepIn K (.ref x_NoWeb) = true
  hg_NoWeb : PySem.W.findIn K (.ref x_NoWeb) "__getattribute__" = some (some (.builtin "BaseException.__getattribute__"))
  hk_NoWeb : PySem.W.findIn K (.ref x_NoWeb) "__getattr__" = some none
  hs_NoWeb : PySem.W.subIn K (.ref x_NoWeb) (.type "BaseException") = some true
  hd_NoWeb : PySem.W.hasDictIn K x_NoWeb = true
  ha_NoWeb : PySem.W.findIn K (.ref x_NoWeb) "__class__" = some (some (.builtin "object.__class__"))
  hm_NoWeb : PySem.W.mroIn K x_NoWeb (.type "object") = some true
  sa_NoWeb : PySem.W.findIn K (.ref x_NoWeb) "__setattr__" = some (some (.builtin "object.__setattr__"))
  no_NoWeb : PySem.W.findIn K (.ref x_NoWeb) "part" = some none
  kx_NoDepths : PySem.W.keepIn K (.ref x_NoDepths) = true
  hg_NoDepths : PySem.W.findIn K (.ref x_NoDepths) "__getattribute__" = some (some (.builtin "BaseException.__getattribute__"))
  hk_NoDepths : PySem.W.findIn K (.ref x_NoDepths) "__getattr__" = some none
  hs_NoDepths : PySem.W.subIn K (.ref x_NoDepths) (.type "BaseException") = some true
  hd_NoDepths : PySem.W.hasDictIn K x_NoDepths = true
  ha_NoDepths : PySem.W.findIn K (.ref x_NoDepths) "__class__" = some (some (.builtin "object.__class__"))
  hm_NoDepths : PySem.W.mroIn K x_NoDepths (.type "object") = some true
  q_NoDepths : PySem.W.excIn K x_NoDepths [.type "ValueError", .type "Exception", .type "BaseException", .type "object"] "ValueError.__new__" = true
  st_NoDepths : PySem.W.findIn K (.ref x_NoDepths) "__str__" = some (some (.builtin "BaseException.__str__"))
  kx_NoRain : PySem.W.keepIn K (.ref x_NoRain) = true
  hg_NoRain : PySem.W.findIn K (.ref x_NoRain) "__getattribute__" = some (some (.builtin "BaseException.__getattribute__"))
  hk_NoRain : PySem.W.findIn K (.ref x_NoRain) "__getattr__" = some none
  hs_NoRain : PySem.W.subIn K (.ref x_NoRain) (.type "BaseException") = some true
  hd_NoRain : PySem.W.hasDictIn K x_NoRain = true
  ha_NoRain : PySem.W.findIn K (.ref x_NoRain) "__class__" = some (some (.builtin "object.__class__"))
  hm_NoRain : PySem.W.mroIn K x_NoRain (.type "object") = some true
  q_NoRain : PySem.W.excIn K x_NoRain [.type "ValueError", .type "Exception", .type "BaseException", .type "object"] "ValueError.__new__" = true
  st_NoRain : PySem.W.findIn K (.ref x_NoRain) "__str__" = some (some (.builtin "BaseException.__str__"))
  kx_NoDigs : PySem.W.keepIn K (.ref x_NoDigs) = true
  hg_NoDigs : PySem.W.findIn K (.ref x_NoDigs) "__getattribute__" = some (some (.builtin "BaseException.__getattribute__"))
  hk_NoDigs : PySem.W.findIn K (.ref x_NoDigs) "__getattr__" = some none
  hs_NoDigs : PySem.W.subIn K (.ref x_NoDigs) (.type "BaseException") = some true
  hd_NoDigs : PySem.W.hasDictIn K x_NoDigs = true
  ha_NoDigs : PySem.W.findIn K (.ref x_NoDigs) "__class__" = some (some (.builtin "object.__class__"))
  hm_NoDigs : PySem.W.mroIn K x_NoDigs (.type "object") = some true
  q_NoDigs : PySem.W.excIn K x_NoDigs [.type "ValueError", .type "Exception", .type "BaseException", .type "object"] "ValueError.__new__" = true
  st_NoDigs : PySem.W.findIn K (.ref x_NoDigs) "__str__" = some (some (.builtin "BaseException.__str__"))
  kx_NoTurned : PySem.W.keepIn K (.ref x_NoTurned) = true
  hg_NoTurned : PySem.W.findIn K (.ref x_NoTurned) "__getattribute__" = some (some (.builtin "BaseException.__getattribute__"))
  hk_NoTurned : PySem.W.findIn K (.ref x_NoTurned) "__getattr__" = some none
  hs_NoTurned : PySem.W.subIn K (.ref x_NoTurned) (.type "BaseException") = some true
  hd_NoTurned : PySem.W.hasDictIn K x_NoTurned = true
  ha_NoTurned : PySem.W.findIn K (.ref x_NoTurned) "__class__" = some (some (.builtin "object.__class__"))
  hm_NoTurned : PySem.W.mroIn K x_NoTurned (.type "object") = some true
  q_NoTurned : PySem.W.excIn K x_NoTurned [.type "ValueError", .type "Exception", .type "BaseException", .type "object"] "ValueError.__new__" = true
  st_NoTurned : PySem.W.findIn K (.ref x_NoTurned) "__str__" = some (some (.builtin "BaseException.__str__"))
  kx_NoPlace : PySem.W.keepIn K (.ref x_NoPlace) = true
  hg_NoPlace : PySem.W.findIn K (.ref x_NoPlace) "__getattribute__" = some (some (.builtin "BaseException.__getattribute__"))
  hk_NoPlace : PySem.W.findIn K (.ref x_NoPlace) "__getattr__" = some none
  hs_NoPlace : PySem.W.subIn K (.ref x_NoPlace) (.type "BaseException") = some true
  hd_NoPlace : PySem.W.hasDictIn K x_NoPlace = true
  ha_NoPlace : PySem.W.findIn K (.ref x_NoPlace) "__class__" = some (some (.builtin "object.__class__"))
  hm_NoPlace : PySem.W.mroIn K x_NoPlace (.type "object") = some true
  sa_NoPlace : PySem.W.findIn K (.ref x_NoPlace) "__setattr__" = some (some (.builtin "object.__setattr__"))
  no_NoPlace : PySem.W.findIn K (.ref x_NoPlace) "place" = some none
  kx_NoBed : PySem.W.keepIn K (.ref x_NoBed) = true
  hg_NoBed : PySem.W.findIn K (.ref x_NoBed) "__getattribute__" = some (some (.builtin "BaseException.__getattribute__"))
  hk_NoBed : PySem.W.findIn K (.ref x_NoBed) "__getattr__" = some none
  hs_NoBed : PySem.W.subIn K (.ref x_NoBed) (.type "BaseException") = some true
  hd_NoBed : PySem.W.hasDictIn K x_NoBed = true
  ha_NoBed : PySem.W.findIn K (.ref x_NoBed) "__class__" = some (some (.builtin "object.__class__"))
  hm_NoBed : PySem.W.mroIn K x_NoBed (.type "object") = some true
  sa_NoBed : PySem.W.findIn K (.ref x_NoBed) "__setattr__" = some (some (.builtin "object.__setattr__"))
  no_NoBed : PySem.W.findIn K (.ref x_NoBed) "bed" = some none
  kx_NoTie : PySem.W.keepIn K (.ref x_NoTie) = true
  hg_NoTie : PySem.W.findIn K (.ref x_NoTie) "__getattribute__" = some (some (.builtin "BaseException.__getattribute__"))
  hk_NoTie : PySem.W.findIn K (.ref x_NoTie) "__getattr__" = some none
  hs_NoTie : PySem.W.subIn K (.ref x_NoTie) (.type "BaseException") = some true
  hd_NoTie : PySem.W.hasDictIn K x_NoTie = true
  ha_NoTie : PySem.W.findIn K (.ref x_NoTie) "__class__" = some (some (.builtin "object.__class__"))
  hm_NoTie : PySem.W.mroIn K x_NoTie (.type "object") = some true
  q_NoTie : PySem.W.excIn K x_NoTie [.type "ValueError", .type "Exception", .type "BaseException", .type "object"] "ValueError.__new__" = true
  st_NoTie : PySem.W.findIn K (.ref x_NoTie) "__str__" = some (some (.builtin "BaseException.__str__"))
  hn : PySem.W.specialIn K (.builtin "object.__class__") "__get__" = some (some (.builtin "getset_descriptor.__get__"))
  ht : PySem.W.takesIn K (.builtin "object.__class__") = some true
  rd : PySem.W.readsIn K x_RillError (.type "type") = true
  rg : PySem.W.specialIn K (.ref x_RillError) "__getattribute__" = some (some (.builtin "type.__getattribute__"))
  vi : PySem.W.findCls K (.ref x_RillError) (.type "type") "__init__" = some (.val (.builtin "ValueError.__init__"))
def fldT : Nat → List Str := fun _ => []
def exfT : Nat → Str := fun c => match c with | 4 => "place" | 5 => "part" | 10 => "place" | _ => "bed"
def isx (i : Nat) : Nat → Option Bool := fun d => if 1 ≤ d ∧ d ≤ 12 then some (decide (i = 0) || decide (d = i)) else none
def stx : Nat → Bool := fun d => decide (d ∈ ([1, 2, 3, 6, 7, 8, 9, 12] : List Nat))
theorem room2 {k : Nat} {A : Around} (hr : Room k A) : A.units + 2 < cLine := by have := hr.un; omega
theorem isFn_type {K : PySem.W.Frag} {f : Addr} (h : PySem.W.isFn K (.ref f) = true) : PySem.W.typeIn K (.ref f) = some (.type "function") := beq_iff_eq.mp h
section
variable {P : Program} {w : World} {K : PySem.W.Frag} {mg : Str → Option Value} {base : Heap}
def Facts.cls (T : Facts K mg) : Nat → Addr := fun c => match c with | 0 => T.x_RillError | 1 => T.x_NoShare | 2 => T.x_NoCourse | 3 => T.x_NoDay | 4 => T.x_TooLong | 5 => T.x_NoWeb | 6 => T.x_NoDepths | 7 => T.x_NoRain | 8 => T.x_NoDigs | 9 => T.x_NoTurned | 10 => T.x_NoPlace | 11 => T.x_NoBed | 12 => T.x_NoTie | _ => T.x_RillError
abbrev cfg (T : Facts K mg) : Cfg := ⟨K, T.cls, fldT, exfT⟩
theorem Facts.e_NoShare (T : Facts K mg) : L2.ExcC K T.x_NoShare := ⟨T.hg_NoShare, T.hk_NoShare, T.hs_NoShare, T.hd_NoShare, T.ha_NoShare, T.hn, T.ht, T.hm_NoShare⟩
theorem Facts.e_NoCourse (T : Facts K mg) : L2.ExcC K T.x_NoCourse := ⟨T.hg_NoCourse, T.hk_NoCourse, T.hs_NoCourse, T.hd_NoCourse, T.ha_NoCourse, T.hn, T.ht, T.hm_NoCourse⟩
theorem Facts.e_NoDay (T : Facts K mg) : L2.ExcC K T.x_NoDay := ⟨T.hg_NoDay, T.hk_NoDay, T.hs_NoDay, T.hd_NoDay, T.ha_NoDay, T.hn, T.ht, T.hm_NoDay⟩
theorem Facts.e_TooLong (T : Facts K mg) : L2.ExcC K T.x_TooLong := ⟨T.hg_TooLong, T.hk_TooLong, T.hs_TooLong, T.hd_TooLong, T.ha_TooLong, T.hn, T.ht, T.hm_TooLong⟩
theorem Facts.o_TooLong (T : Facts K mg) : OexC K T.x_TooLong := ⟨T.cl_TooLong, T.sa_TooLong, T.hs_TooLong, T.ty_TooLong, T.kx_TooLong⟩
theorem Facts.v_TooLong (T : Facts K mg) : XvF K T.x_TooLong "place" := ⟨T.o_TooLong, T.hg_TooLong, T.hk_TooLong, T.hd_TooLong, T.no_TooLong⟩
theorem Facts.e_NoWeb (T : Facts K mg) : L2.ExcC K T.x_NoWeb := ⟨T.hg_NoWeb, T.hk_NoWeb, T.hs_NoWeb, T.hd_NoWeb, T.ha_NoWeb, T.hn, T.ht, T.hm_NoWeb⟩
theorem Facts.o_NoWeb (T : Facts K mg) : OexC K T.x_NoWeb := ⟨T.cl_NoWeb, T.sa_NoWeb, T.hs_NoWeb, T.ty_NoWeb, T.kx_NoWeb⟩
theorem Facts.v_NoWeb (T : Facts K mg) : XvF K T.x_NoWeb "part" := ⟨T.o_NoWeb, T.hg_NoWeb, T.hk_NoWeb, T.hd_NoWeb, T.no_NoWeb⟩
theorem Facts.e_NoDepths (T : Facts K mg) : L2.ExcC K T.x_NoDepths := ⟨T.hg_NoDepths, T.hk_NoDepths, T.hs_NoDepths, T.hd_NoDepths, T.ha_NoDepths, T.hn, T.ht, T.hm_NoDepths⟩
theorem Facts.e_NoRain (T : Facts K mg) : L2.ExcC K T.x_NoRain := ⟨T.hg_NoRain, T.hk_NoRain, T.hs_NoRain, T.hd_NoRain, T.ha_NoRain, T.hn, T.ht, T.hm_NoRain⟩
theorem Facts.e_NoDigs (T : Facts K mg) : L2.ExcC K T.x_NoDigs := ⟨T.hg_NoDigs, T.hk_NoDigs, T.hs_NoDigs, T.hd_NoDigs, T.ha_NoDigs, T.hn, T.ht, T.hm_NoDigs⟩
theorem Facts.e_NoTurned (T : Facts K mg) : L2.ExcC K T.x_NoTurned := ⟨T.hg_NoTurned, T.hk_NoTurned, T.hs_NoTurned, T.hd_NoTurned, T.ha_NoTurned, T.hn, T.ht, T.hm_NoTurned⟩
theorem Facts.e_NoPlace (T : Facts K mg) : L2.ExcC K T.x_NoPlace := ⟨T.hg_NoPlace, T.hk_NoPlace, T.hs_NoPlace, T.hd_NoPlace, T.ha_NoPlace, T.hn, T.ht, T.hm_NoPlace⟩
theorem Facts.o_NoPlace (T : Facts K mg) : OexC K T.x_NoPlace := ⟨T.cl_NoPlace, T.sa_NoPlace, T.hs_NoPlace, T.ty_NoPlace, T.kx_NoPlace⟩
theorem Facts.v_NoPlace (T : Facts K mg) : XvF K T.x_NoPlace "place" := ⟨T.o_NoPlace, T.hg_NoPlace, T.hk_NoPlace, T.hd_NoPlace, T.no_NoPlace⟩
theorem Facts.e_NoBed (T : Facts K mg) : L2.ExcC K T.x_NoBed := ⟨T.hg_NoBed, T.hk_NoBed, T.hs_NoBed, T.hd_NoBed, T.ha_NoBed, T.hn, T.ht, T.hm_NoBed⟩
theorem Facts.o_NoBed (T : Facts K mg) : OexC K T.x_NoBed := ⟨T.cl_NoBed, T.sa_NoBed, T.hs_NoBed, T.ty_NoBed, T.kx_NoBed⟩
theorem Facts.v_NoBed (T : Facts K mg) : XvF K T.x_NoBed "bed" := ⟨T.o_NoBed, T.hg_NoBed, T.hk_NoBed, T.hd_NoBed, T.no_NoBed⟩
theorem Facts.e_NoTie (T : Facts K mg) : L2.ExcC K T.x_NoTie := ⟨T.hg_NoTie, T.hk_NoTie, T.hs_NoTie, T.hd_NoTie, T.ha_NoTie, T.hn, T.ht, T.hm_NoTie⟩
theorem Facts.isF0 (T : Facts K mg) : IsF (cfg T) 0 := ⟨fun c h => absurd h (Nat.not_lt_zero c), T.hn, T.ht⟩
theorem Facts.isA0 (T : Facts K mg) : IsA (cfg T) 0 .bl := isA_b (.inr (.inl rfl)) fun c h => absurd h (Nat.not_lt_zero c)
theorem Facts.isx_RillError (T : Facts K mg) : ∀ d b, isx 0 d = some b → L2.ExcC K ((cfg T).cls d) ∧ PySem.W.kitOne K (.ref ((cfg T).cls d)) (.ref T.x_RillError) = some b := fun d b e => by
  match d, e with
  | 0, e => cases e
  | 1, e => cases e; exact ⟨T.e_NoShare, T.is_NoShare_RillError⟩
  | 2, e => cases e; exact ⟨T.e_NoCourse, T.is_NoCourse_RillError⟩
  | 3, e => cases e; exact ⟨T.e_NoDay, T.is_NoDay_RillError⟩
  | 4, e => cases e; exact ⟨T.e_TooLong, T.is_TooLong_RillError⟩
  | 5, e => cases e; exact ⟨T.e_NoWeb, T.is_NoWeb_RillError⟩
  | 6, e => cases e; exact ⟨T.e_NoDepths, T.is_NoDepths_RillError⟩
  | 7, e => cases e; exact ⟨T.e_NoRain, T.is_NoRain_RillError⟩
  | 8, e => cases e; exact ⟨T.e_NoDigs, T.is_NoDigs_RillError⟩
  | 9, e => cases e; exact ⟨T.e_NoTurned, T.is_NoTurned_RillError⟩
  | 10, e => cases e; exact ⟨T.e_NoPlace, T.is_NoPlace_RillError⟩
  | 11, e => cases e; exact ⟨T.e_NoBed, T.is_NoBed_RillError⟩
  | 12, e => cases e; exact ⟨T.e_NoTie, T.is_NoTie_RillError⟩
  | n + 13, e =>
    unfold isx at e
    rw [if_neg (by omega)] at e
    cases e
theorem Facts.isx_NoShare (T : Facts K mg) : ∀ d b, isx 1 d = some b → L2.ExcC K ((cfg T).cls d) ∧ PySem.W.kitOne K (.ref ((cfg T).cls d)) (.ref T.x_NoShare) = some b := fun d b e => by
  match d, e with
  | 0, e => cases e
  | 1, e => cases e; exact ⟨T.e_NoShare, T.is_NoShare_NoShare⟩
  | 2, e => cases e; exact ⟨T.e_NoCourse, T.is_NoCourse_NoShare⟩
  | 3, e => cases e; exact ⟨T.e_NoDay, T.is_NoDay_NoShare⟩
  | 4, e => cases e; exact ⟨T.e_TooLong, T.is_TooLong_NoShare⟩
  | 5, e => cases e; exact ⟨T.e_NoWeb, T.is_NoWeb_NoShare⟩
  | 6, e => cases e; exact ⟨T.e_NoDepths, T.is_NoDepths_NoShare⟩
  | 7, e => cases e; exact ⟨T.e_NoRain, T.is_NoRain_NoShare⟩
  | 8, e => cases e; exact ⟨T.e_NoDigs, T.is_NoDigs_NoShare⟩
  | 9, e => cases e; exact ⟨T.e_NoTurned, T.is_NoTurned_NoShare⟩
  | 10, e => cases e; exact ⟨T.e_NoPlace, T.is_NoPlace_NoShare⟩
  | 11, e => cases e; exact ⟨T.e_NoBed, T.is_NoBed_NoShare⟩
  | 12, e => cases e; exact ⟨T.e_NoTie, T.is_NoTie_NoShare⟩
  | n + 13, e =>
    unfold isx at e
    rw [if_neg (by omega)] at e
    cases e
theorem Facts.isx_NoCourse (T : Facts K mg) : ∀ d b, isx 2 d = some b → L2.ExcC K ((cfg T).cls d) ∧ PySem.W.kitOne K (.ref ((cfg T).cls d)) (.ref T.x_NoCourse) = some b := fun d b e => by
  match d, e with
  | 0, e => cases e
  | 1, e => cases e; exact ⟨T.e_NoShare, T.is_NoShare_NoCourse⟩
  | 2, e => cases e; exact ⟨T.e_NoCourse, T.is_NoCourse_NoCourse⟩
  | 3, e => cases e; exact ⟨T.e_NoDay, T.is_NoDay_NoCourse⟩
  | 4, e => cases e; exact ⟨T.e_TooLong, T.is_TooLong_NoCourse⟩
  | 5, e => cases e; exact ⟨T.e_NoWeb, T.is_NoWeb_NoCourse⟩
  | 6, e => cases e; exact ⟨T.e_NoDepths, T.is_NoDepths_NoCourse⟩
  | 7, e => cases e; exact ⟨T.e_NoRain, T.is_NoRain_NoCourse⟩
  | 8, e => cases e; exact ⟨T.e_NoDigs, T.is_NoDigs_NoCourse⟩
  | 9, e => cases e; exact ⟨T.e_NoTurned, T.is_NoTurned_NoCourse⟩
  | 10, e => cases e; exact ⟨T.e_NoPlace, T.is_NoPlace_NoCourse⟩
  | 11, e => cases e; exact ⟨T.e_NoBed, T.is_NoBed_NoCourse⟩
  | 12, e => cases e; exact ⟨T.e_NoTie, T.is_NoTie_NoCourse⟩
  | n + 13, e =>
    unfold isx at e
    rw [if_neg (by omega)] at e
    cases e
theorem Facts.isx_NoDay (T : Facts K mg) : ∀ d b, isx 3 d = some b → L2.ExcC K ((cfg T).cls d) ∧ PySem.W.kitOne K (.ref ((cfg T).cls d)) (.ref T.x_NoDay) = some b := fun d b e => by
  match d, e with
  | 0, e => cases e
  | 1, e => cases e; exact ⟨T.e_NoShare, T.is_NoShare_NoDay⟩
  | 2, e => cases e; exact ⟨T.e_NoCourse, T.is_NoCourse_NoDay⟩
  | 3, e => cases e; exact ⟨T.e_NoDay, T.is_NoDay_NoDay⟩
  | 4, e => cases e; exact ⟨T.e_TooLong, T.is_TooLong_NoDay⟩
  | 5, e => cases e; exact ⟨T.e_NoWeb, T.is_NoWeb_NoDay⟩
  | 6, e => cases e; exact ⟨T.e_NoDepths, T.is_NoDepths_NoDay⟩
  | 7, e => cases e; exact ⟨T.e_NoRain, T.is_NoRain_NoDay⟩
  | 8, e => cases e; exact ⟨T.e_NoDigs, T.is_NoDigs_NoDay⟩
  | 9, e => cases e; exact ⟨T.e_NoTurned, T.is_NoTurned_NoDay⟩
  | 10, e => cases e; exact ⟨T.e_NoPlace, T.is_NoPlace_NoDay⟩
  | 11, e => cases e; exact ⟨T.e_NoBed, T.is_NoBed_NoDay⟩
  | 12, e => cases e; exact ⟨T.e_NoTie, T.is_NoTie_NoDay⟩
  | n + 13, e =>
    unfold isx at e
    rw [if_neg (by omega)] at e
    cases e
theorem Facts.isx_TooLong (T : Facts K mg) : ∀ d b, isx 4 d = some b → L2.ExcC K ((cfg T).cls d) ∧ PySem.W.kitOne K (.ref ((cfg T).cls d)) (.ref T.x_TooLong) = some b := fun d b e => by
  match d, e with
  | 0, e => cases e
  | 1, e => cases e; exact ⟨T.e_NoShare, T.is_NoShare_TooLong⟩
  | 2, e => cases e; exact ⟨T.e_NoCourse, T.is_NoCourse_TooLong⟩
  | 3, e => cases e; exact ⟨T.e_NoDay, T.is_NoDay_TooLong⟩
  | 4, e => cases e; exact ⟨T.e_TooLong, T.is_TooLong_TooLong⟩
  | 5, e => cases e; exact ⟨T.e_NoWeb, T.is_NoWeb_TooLong⟩
  | 6, e => cases e; exact ⟨T.e_NoDepths, T.is_NoDepths_TooLong⟩
  | 7, e => cases e; exact ⟨T.e_NoRain, T.is_NoRain_TooLong⟩
  | 8, e => cases e; exact ⟨T.e_NoDigs, T.is_NoDigs_TooLong⟩
  | 9, e => cases e; exact ⟨T.e_NoTurned, T.is_NoTurned_TooLong⟩
  | 10, e => cases e; exact ⟨T.e_NoPlace, T.is_NoPlace_TooLong⟩
  | 11, e => cases e; exact ⟨T.e_NoBed, T.is_NoBed_TooLong⟩
  | 12, e => cases e; exact ⟨T.e_NoTie, T.is_NoTie_TooLong⟩
  | n + 13, e =>
    unfold isx at e
    rw [if_neg (by omega)] at e
    cases e
theorem Facts.isx_NoWeb (T : Facts K mg) : ∀ d b, isx 5 d = some b → L2.ExcC K ((cfg T).cls d) ∧ PySem.W.kitOne K (.ref ((cfg T).cls d)) (.ref T.x_NoWeb) = some b := fun d b e => by
  match d, e with
  | 0, e => cases e
  | 1, e => cases e; exact ⟨T.e_NoShare, T.is_NoShare_NoWeb⟩
  | 2, e => cases e; exact ⟨T.e_NoCourse, T.is_NoCourse_NoWeb⟩
  | 3, e => cases e; exact ⟨T.e_NoDay, T.is_NoDay_NoWeb⟩
  | 4, e => cases e; exact ⟨T.e_TooLong, T.is_TooLong_NoWeb⟩
  | 5, e => cases e; exact ⟨T.e_NoWeb, T.is_NoWeb_NoWeb⟩
  | 6, e => cases e; exact ⟨T.e_NoDepths, T.is_NoDepths_NoWeb⟩
  | 7, e => cases e; exact ⟨T.e_NoRain, T.is_NoRain_NoWeb⟩
  | 8, e => cases e; exact ⟨T.e_NoDigs, T.is_NoDigs_NoWeb⟩
  | 9, e => cases e; exact ⟨T.e_NoTurned, T.is_NoTurned_NoWeb⟩
  | 10, e => cases e; exact ⟨T.e_NoPlace, T.is_NoPlace_NoWeb⟩
  | 11, e => cases e; exact ⟨T.e_NoBed, T.is_NoBed_NoWeb⟩
  | 12, e => cases e; exact ⟨T.e_NoTie, T.is_NoTie_NoWeb⟩
  | n + 13, e =>
    unfold isx at e
    rw [if_neg (by omega)] at e
    cases e
theorem Facts.isx_NoDepths (T : Facts K mg) : ∀ d b, isx 6 d = some b → L2.ExcC K ((cfg T).cls d) ∧ PySem.W.kitOne K (.ref ((cfg T).cls d)) (.ref T.x_NoDepths) = some b := fun d b e => by
  match d, e with
  | 0, e => cases e
  | 1, e => cases e; exact ⟨T.e_NoShare, T.is_NoShare_NoDepths⟩
  | 2, e => cases e; exact ⟨T.e_NoCourse, T.is_NoCourse_NoDepths⟩
  | 3, e => cases e; exact ⟨T.e_NoDay, T.is_NoDay_NoDepths⟩
  | 4, e => cases e; exact ⟨T.e_TooLong, T.is_TooLong_NoDepths⟩
  | 5, e => cases e; exact ⟨T.e_NoWeb, T.is_NoWeb_NoDepths⟩
  | 6, e => cases e; exact ⟨T.e_NoDepths, T.is_NoDepths_NoDepths⟩
  | 7, e => cases e; exact ⟨T.e_NoRain, T.is_NoRain_NoDepths⟩
  | 8, e => cases e; exact ⟨T.e_NoDigs, T.is_NoDigs_NoDepths⟩
  | 9, e => cases e; exact ⟨T.e_NoTurned, T.is_NoTurned_NoDepths⟩
  | 10, e => cases e; exact ⟨T.e_NoPlace, T.is_NoPlace_NoDepths⟩
  | 11, e => cases e; exact ⟨T.e_NoBed, T.is_NoBed_NoDepths⟩
  | 12, e => cases e; exact ⟨T.e_NoTie, T.is_NoTie_NoDepths⟩
  | n + 13, e =>
    unfold isx at e
    rw [if_neg (by omega)] at e
    cases e
theorem Facts.isx_NoRain (T : Facts K mg) : ∀ d b, isx 7 d = some b → L2.ExcC K ((cfg T).cls d) ∧ PySem.W.kitOne K (.ref ((cfg T).cls d)) (.ref T.x_NoRain) = some b := fun d b e => by
  match d, e with
  | 0, e => cases e
  | 1, e => cases e; exact ⟨T.e_NoShare, T.is_NoShare_NoRain⟩
  | 2, e => cases e; exact ⟨T.e_NoCourse, T.is_NoCourse_NoRain⟩
  | 3, e => cases e; exact ⟨T.e_NoDay, T.is_NoDay_NoRain⟩
  | 4, e => cases e; exact ⟨T.e_TooLong, T.is_TooLong_NoRain⟩
  | 5, e => cases e; exact ⟨T.e_NoWeb, T.is_NoWeb_NoRain⟩
  | 6, e => cases e; exact ⟨T.e_NoDepths, T.is_NoDepths_NoRain⟩
  | 7, e => cases e; exact ⟨T.e_NoRain, T.is_NoRain_NoRain⟩
  | 8, e => cases e; exact ⟨T.e_NoDigs, T.is_NoDigs_NoRain⟩
  | 9, e => cases e; exact ⟨T.e_NoTurned, T.is_NoTurned_NoRain⟩
  | 10, e => cases e; exact ⟨T.e_NoPlace, T.is_NoPlace_NoRain⟩
  | 11, e => cases e; exact ⟨T.e_NoBed, T.is_NoBed_NoRain⟩
  | 12, e => cases e; exact ⟨T.e_NoTie, T.is_NoTie_NoRain⟩
  | n + 13, e =>
    unfold isx at e
    rw [if_neg (by omega)] at e
    cases e
theorem Facts.isx_NoDigs (T : Facts K mg) : ∀ d b, isx 8 d = some b → L2.ExcC K ((cfg T).cls d) ∧ PySem.W.kitOne K (.ref ((cfg T).cls d)) (.ref T.x_NoDigs) = some b := fun d b e => by
  match d, e with
  | 0, e => cases e
  | 1, e => cases e; exact ⟨T.e_NoShare, T.is_NoShare_NoDigs⟩
  | 2, e => cases e; exact ⟨T.e_NoCourse, T.is_NoCourse_NoDigs⟩
  | 3, e => cases e; exact ⟨T.e_NoDay, T.is_NoDay_NoDigs⟩
  | 4, e => cases e; exact ⟨T.e_TooLong, T.is_TooLong_NoDigs⟩
  | 5, e => cases e; exact ⟨T.e_NoWeb, T.is_NoWeb_NoDigs⟩
  | 6, e => cases e; exact ⟨T.e_NoDepths, T.is_NoDepths_NoDigs⟩
  | 7, e => cases e; exact ⟨T.e_NoRain, T.is_NoRain_NoDigs⟩
  | 8, e => cases e; exact ⟨T.e_NoDigs, T.is_NoDigs_NoDigs⟩
  | 9, e => cases e; exact ⟨T.e_NoTurned, T.is_NoTurned_NoDigs⟩
  | 10, e => cases e; exact ⟨T.e_NoPlace, T.is_NoPlace_NoDigs⟩
  | 11, e => cases e; exact ⟨T.e_NoBed, T.is_NoBed_NoDigs⟩
  | 12, e => cases e; exact ⟨T.e_NoTie, T.is_NoTie_NoDigs⟩
  | n + 13, e =>
    unfold isx at e
    rw [if_neg (by omega)] at e
    cases e
theorem Facts.isx_NoTurned (T : Facts K mg) : ∀ d b, isx 9 d = some b → L2.ExcC K ((cfg T).cls d) ∧ PySem.W.kitOne K (.ref ((cfg T).cls d)) (.ref T.x_NoTurned) = some b := fun d b e => by
  match d, e with
  | 0, e => cases e
  | 1, e => cases e; exact ⟨T.e_NoShare, T.is_NoShare_NoTurned⟩
  | 2, e => cases e; exact ⟨T.e_NoCourse, T.is_NoCourse_NoTurned⟩
  | 3, e => cases e; exact ⟨T.e_NoDay, T.is_NoDay_NoTurned⟩
  | 4, e => cases e; exact ⟨T.e_TooLong, T.is_TooLong_NoTurned⟩
  | 5, e => cases e; exact ⟨T.e_NoWeb, T.is_NoWeb_NoTurned⟩
  | 6, e => cases e; exact ⟨T.e_NoDepths, T.is_NoDepths_NoTurned⟩
  | 7, e => cases e; exact ⟨T.e_NoRain, T.is_NoRain_NoTurned⟩
  | 8, e => cases e; exact ⟨T.e_NoDigs, T.is_NoDigs_NoTurned⟩
  | 9, e => cases e; exact ⟨T.e_NoTurned, T.is_NoTurned_NoTurned⟩
  | 10, e => cases e; exact ⟨T.e_NoPlace, T.is_NoPlace_NoTurned⟩
  | 11, e => cases e; exact ⟨T.e_NoBed, T.is_NoBed_NoTurned⟩
  | 12, e => cases e; exact ⟨T.e_NoTie, T.is_NoTie_NoTurned⟩
  | n + 13, e =>
    unfold isx at e
    rw [if_neg (by omega)] at e
    cases e
theorem Facts.isx_NoPlace (T : Facts K mg) : ∀ d b, isx 10 d = some b → L2.ExcC K ((cfg T).cls d) ∧ PySem.W.kitOne K (.ref ((cfg T).cls d)) (.ref T.x_NoPlace) = some b := fun d b e => by
  match d, e with
  | 0, e => cases e
  | 1, e => cases e; exact ⟨T.e_NoShare, T.is_NoShare_NoPlace⟩
  | 2, e => cases e; exact ⟨T.e_NoCourse, T.is_NoCourse_NoPlace⟩
  | 3, e => cases e; exact ⟨T.e_NoDay, T.is_NoDay_NoPlace⟩
  | 4, e => cases e; exact ⟨T.e_TooLong, T.is_TooLong_NoPlace⟩
  | 5, e => cases e; exact ⟨T.e_NoWeb, T.is_NoWeb_NoPlace⟩
  | 6, e => cases e; exact ⟨T.e_NoDepths, T.is_NoDepths_NoPlace⟩
  | 7, e => cases e; exact ⟨T.e_NoRain, T.is_NoRain_NoPlace⟩
  | 8, e => cases e; exact ⟨T.e_NoDigs, T.is_NoDigs_NoPlace⟩
  | 9, e => cases e; exact ⟨T.e_NoTurned, T.is_NoTurned_NoPlace⟩
  | 10, e => cases e; exact ⟨T.e_NoPlace, T.is_NoPlace_NoPlace⟩
  | 11, e => cases e; exact ⟨T.e_NoBed, T.is_NoBed_NoPlace⟩
  | 12, e => cases e; exact ⟨T.e_NoTie, T.is_NoTie_NoPlace⟩
  | n + 13, e =>
    unfold isx at e
    rw [if_neg (by omega)] at e
    cases e
theorem Facts.isx_NoBed (T : Facts K mg) : ∀ d b, isx 11 d = some b → L2.ExcC K ((cfg T).cls d) ∧ PySem.W.kitOne K (.ref ((cfg T).cls d)) (.ref T.x_NoBed) = some b := fun d b e => by
  match d, e with
  | 0, e => cases e
  | 1, e => cases e; exact ⟨T.e_NoShare, T.is_NoShare_NoBed⟩
  | 2, e => cases e; exact ⟨T.e_NoCourse, T.is_NoCourse_NoBed⟩
  | 3, e => cases e; exact ⟨T.e_NoDay, T.is_NoDay_NoBed⟩
  | 4, e => cases e; exact ⟨T.e_TooLong, T.is_TooLong_NoBed⟩
  | 5, e => cases e; exact ⟨T.e_NoWeb, T.is_NoWeb_NoBed⟩
  | 6, e => cases e; exact ⟨T.e_NoDepths, T.is_NoDepths_NoBed⟩
  | 7, e => cases e; exact ⟨T.e_NoRain, T.is_NoRain_NoBed⟩
  | 8, e => cases e; exact ⟨T.e_NoDigs, T.is_NoDigs_NoBed⟩
  | 9, e => cases e; exact ⟨T.e_NoTurned, T.is_NoTurned_NoBed⟩
  | 10, e => cases e; exact ⟨T.e_NoPlace, T.is_NoPlace_NoBed⟩
  | 11, e => cases e; exact ⟨T.e_NoBed, T.is_NoBed_NoBed⟩
  | 12, e => cases e; exact ⟨T.e_NoTie, T.is_NoTie_NoBed⟩
  | n + 13, e =>
    unfold isx at e
    rw [if_neg (by omega)] at e
    cases e
theorem Facts.isx_NoTie (T : Facts K mg) : ∀ d b, isx 12 d = some b → L2.ExcC K ((cfg T).cls d) ∧ PySem.W.kitOne K (.ref ((cfg T).cls d)) (.ref T.x_NoTie) = some b := fun d b e => by
  match d, e with
  | 0, e => cases e
  | 1, e => cases e; exact ⟨T.e_NoShare, T.is_NoShare_NoTie⟩
  | 2, e => cases e; exact ⟨T.e_NoCourse, T.is_NoCourse_NoTie⟩
  | 3, e => cases e; exact ⟨T.e_NoDay, T.is_NoDay_NoTie⟩
  | 4, e => cases e; exact ⟨T.e_TooLong, T.is_TooLong_NoTie⟩
  | 5, e => cases e; exact ⟨T.e_NoWeb, T.is_NoWeb_NoTie⟩
  | 6, e => cases e; exact ⟨T.e_NoDepths, T.is_NoDepths_NoTie⟩
  | 7, e => cases e; exact ⟨T.e_NoRain, T.is_NoRain_NoTie⟩
  | 8, e => cases e; exact ⟨T.e_NoDigs, T.is_NoDigs_NoTie⟩
  | 9, e => cases e; exact ⟨T.e_NoTurned, T.is_NoTurned_NoTie⟩
  | 10, e => cases e; exact ⟨T.e_NoPlace, T.is_NoPlace_NoTie⟩
  | 11, e => cases e; exact ⟨T.e_NoBed, T.is_NoBed_NoTie⟩
  | 12, e => cases e; exact ⟨T.e_NoTie, T.is_NoTie_NoTie⟩
  | n + 13, e =>
    unfold isx at e
    rw [if_neg (by omega)] at e
    cases e
theorem Facts.isx_VE (T : Facts K mg) : ∀ d b, isx 0 d = some b → L2.ExcC K ((cfg T).cls d) ∧ PySem.W.kitOne K (.ref ((cfg T).cls d)) (.type "ValueError") = some b := fun d b e => by
  match d, e with
  | 0, e => cases e
  | 1, e => cases e; exact ⟨T.e_NoShare, T.is_NoShare_VE⟩
  | 2, e => cases e; exact ⟨T.e_NoCourse, T.is_NoCourse_VE⟩
  | 3, e => cases e; exact ⟨T.e_NoDay, T.is_NoDay_VE⟩
  | 4, e => cases e; exact ⟨T.e_TooLong, T.is_TooLong_VE⟩
  | 5, e => cases e; exact ⟨T.e_NoWeb, T.is_NoWeb_VE⟩
  | 6, e => cases e; exact ⟨T.e_NoDepths, T.is_NoDepths_VE⟩
  | 7, e => cases e; exact ⟨T.e_NoRain, T.is_NoRain_VE⟩
  | 8, e => cases e; exact ⟨T.e_NoDigs, T.is_NoDigs_VE⟩
  | 9, e => cases e; exact ⟨T.e_NoTurned, T.is_NoTurned_VE⟩
  | 10, e => cases e; exact ⟨T.e_NoPlace, T.is_NoPlace_VE⟩
  | 11, e => cases e; exact ⟨T.e_NoBed, T.is_NoBed_VE⟩
  | 12, e => cases e; exact ⟨T.e_NoTie, T.is_NoTie_VE⟩
  | n + 13, e =>
    unfold isx at e
    rw [if_neg (by omega)] at e
    cases e
theorem Facts.stx_ok (T : Facts K mg) : ∀ d, stx d = true → PySem.W.findIn K (.ref ((cfg T).cls d)) "__str__" = some (some (.builtin "BaseException.__str__")) ∧ PySem.W.subIn K (.ref ((cfg T).cls d)) (.type "BaseException") = some true := fun d e => by
  have e := of_decide_eq_true e
  simp only [List.mem_cons, List.not_mem_nil, or_false] at e
  rcases e with rfl | rfl | rfl | rfl | rfl | rfl | rfl | rfl
  · exact ⟨T.st_NoShare, T.hs_NoShare⟩
  · exact ⟨T.st_NoCourse, T.hs_NoCourse⟩
  · exact ⟨T.st_NoDay, T.hs_NoDay⟩
  · exact ⟨T.st_NoDepths, T.hs_NoDepths⟩
  · exact ⟨T.st_NoRain, T.hs_NoRain⟩
  · exact ⟨T.st_NoDigs, T.hs_NoDigs⟩
  · exact ⟨T.st_NoTurned, T.hs_NoTurned⟩
  · exact ⟨T.st_NoTie, T.hs_NoTie⟩
theorem okx_TooLong (T : Facts K mg) : FnOk P w K mg base (L2.CX P w) 1 T.f_TooLong_init T.d_TooLong_init ["self", "place"] (spX T.x_TooLong "place") := by
  refine T.F_TooLong_init.ok (CX := L2.CX P w) sc_TooLong_init (fun vs H Q E h => ?_) (fun cdv A outer s H vs Q E hr h => ?_)
  · obtain ⟨a, v, rfl, _⟩ := h
    rfl
  · obtain ⟨a, v, rfl, ha, h⟩ := h
    refine ⟨_, pss_cons (ps_expr (pe_owninit rfl T.gx_RillError ⟨T.rd, T.rg⟩ T.vi (pa_cons (pv 0) (pa_cons pe_str pa_nil)))) (pss_one (ps_ost (pv 0) (pv 1))), ?_⟩
    exact ⟨_, rfl, a, _, _, rfl, by show 1 ≤ 1000; decide, T.o_TooLong, ha, _, rfl, _, rfl, a, _, rfl, T.o_TooLong, T.no_TooLong, .inl ⟨ha, h⟩⟩
theorem okx_NoWeb (T : Facts K mg) : FnOk P w K mg base (L2.CX P w) 1 T.f_NoWeb_init T.d_NoWeb_init ["self", "part"] (spX T.x_NoWeb "part") := by
  refine T.F_NoWeb_init.ok (CX := L2.CX P w) sc_NoWeb_init (fun vs H Q E h => ?_) (fun cdv A outer s H vs Q E hr h => ?_)
  · obtain ⟨a, v, rfl, _⟩ := h
    rfl
  · obtain ⟨a, v, rfl, ha, h⟩ := h
    refine ⟨_, pss_cons (ps_expr (pe_owninit rfl T.gx_RillError ⟨T.rd, T.rg⟩ T.vi (pa_cons (pv 0) (pa_cons pe_str pa_nil)))) (pss_one (ps_ost (pv 0) (pv 1))), ?_⟩
    exact ⟨_, rfl, a, _, _, rfl, by show 1 ≤ 1000; decide, T.o_NoWeb, ha, _, rfl, _, rfl, a, _, rfl, T.o_NoWeb, T.no_NoWeb, .inl ⟨ha, h⟩⟩
theorem okx_NoPlace (T : Facts K mg) : FnOk P w K mg base (L2.CX P w) 1 T.f_NoPlace_init T.d_NoPlace_init ["self", "place"] (spX T.x_NoPlace "place") := by
  refine T.F_NoPlace_init.ok (CX := L2.CX P w) sc_NoPlace_init (fun vs H Q E h => ?_) (fun cdv A outer s H vs Q E hr h => ?_)
  · obtain ⟨a, v, rfl, _⟩ := h
    rfl
  · obtain ⟨a, v, rfl, ha, h⟩ := h
    refine ⟨_, pss_cons (ps_expr (pe_owninit rfl T.gx_RillError ⟨T.rd, T.rg⟩ T.vi (pa_cons (pv 0) (pa_cons pe_str pa_nil)))) (pss_one (ps_ost (pv 0) (pv 1))), ?_⟩
    exact ⟨_, rfl, a, _, _, rfl, by show 1 ≤ 1000; decide, T.o_NoPlace, ha, _, rfl, _, rfl, a, _, rfl, T.o_NoPlace, T.no_NoPlace, .inl ⟨ha, h⟩⟩
theorem okx_NoBed (T : Facts K mg) : FnOk P w K mg base (L2.CX P w) 1 T.f_NoBed_init T.d_NoBed_init ["self", "bed"] (spX T.x_NoBed "bed") := by
  refine T.F_NoBed_init.ok (CX := L2.CX P w) sc_NoBed_init (fun vs H Q E h => ?_) (fun cdv A outer s H vs Q E hr h => ?_)
  · obtain ⟨a, v, rfl, _⟩ := h
    rfl
  · obtain ⟨a, v, rfl, ha, h⟩ := h
    refine ⟨_, pss_cons (ps_expr (pe_owninit rfl T.gx_RillError ⟨T.rd, T.rg⟩ T.vi (pa_cons (pv 0) (pa_cons pe_str pa_nil)))) (pss_one (ps_ost (pv 0) (pv 1))), ?_⟩
    exact ⟨_, rfl, a, _, _, rfl, by show 1 ≤ 1000; decide, T.o_NoBed, ha, _, rfl, _, rfl, a, _, rfl, T.o_NoBed, T.no_NoBed, .inl ⟨ha, h⟩⟩
/-- _law_well -/
def b_law_well : S :=
  (sRet (mLstO (mCons (mBin pMul (mVar 0) (mCall cInt (mCons (mBin pGe (mVar 0) (mBin pPow (mC (.int 10)) (mC (.int 18)))) mNil))) (mCons (mBin pMod (mVar 0) (mC (.int 2147483647))) (mCons (mC (.int 0)) mNil)))))
def m_law_well : FnM := fnO 1 b_law_well
/-- _law_draw -/
def b_law_draw : S :=
  (sSeq (sIf (mB (mBin pGt (mBin pIx (mVar 0) (mC (.int 0))) (mC (.int 0))))
    (sSeq (sSet (mBin pMod (mBin pIx (mVar 0) (mC (.int 0))) (mVar 1)) 2)
    (sSeq (sIx (mVar 0) (mC (.int 0)) (mBin pDiv (mBin pIx (mVar 0) (mC (.int 0))) (mVar 1)))
    (sRet (mVar 2))))
    sNop)
    (sSeq (sIx (mVar 0) (mC (.int 2)) (mBin pAdd (mBin pIx (mVar 0) (mC (.int 2))) (mC (.int 1))))
    (sSeq (sSet (mBin pIx (mLst (mCons (mC (.int 2147483647)) (mCons (mC (.int 2147483629)) (mCons (mC (.int 2147483587)) (mCons (mC (.int 2147483579)) (mCons (mC (.int 2147483563)) (mCons (mC (.int 2147483549)) (mCons (mC (.int 2147483543)) mNil)))))))) (mBin pMod (mBin pIx (mVar 0) (mC (.int 2))) (mC (.int 7)))) 3)
    (sSeq (sSet (mBin pMod (mBin pPow (mBin pAdd (mBin pAdd (mBin pIx (mVar 0) (mC (.int 1))) (mBin pMul (mC (.int 7919)) (mBin pIx (mVar 0) (mC (.int 2))))) (mC (.int 1))) (mC (.int 5))) (mVar 3)) 4)
    (sSeq (sSet (mBin pMod (mBin pMul (mBin pAdd (mVar 4) (mBin pIx (mVar 0) (mC (.int 2)))) (mBin pAdd (mBin pDiv (mVar 4) (mC (.int 1009))) (mC (.int 69621)))) (mVar 3)) 4)
    (sRet (mBin pMod (mBin pDiv (mVar 4) (mC (.int 7))) (mVar 1))))))))
def m_law_draw : FnM := fnM fldT 5 b_law_draw
/-- _law_one -/
def b_law_one : S :=
  (sRet (mBin pIx (mVar 1) (mFn m_law_draw [] (mCons (mVar 0) (mCons (mCall cLen (mCons (mVar 1) mNil)) mNil)))))
def m_law_one : FnM := fnM fldT 2 b_law_one
/-- _law_plain -/
def b_law_plain : S :=
  (sSeq (sSet (mLst (mCons (mXs 1 (mVar 0)) (mCons (mXs 2 (mVar 0)) (mCons (mXs 3 (mVar 0)) (mCons (mXs 6 (mVar 0)) mNil))))) 1)
    (sRet (mBin pAdd (mVar 1) (mLst (mCons (mXs 7 (mVar 0)) (mCons (mXs 8 (mVar 0)) (mCons (mXs 9 (mVar 0)) (mCons (mXs 12 (mVar 0)) mNil))))))))
def m_law_plain : FnM := fnM fldT 2 b_law_plain
/-- _law_with -/
def b_law_with : S :=
  (sSeq (sAsg (mTup (mCons (mXv 4 (mVar 0)) (mCons (mXv 5 (mVar 0)) (mCons (mXv 10 (mVar 0)) (mCons (mXv 11 (mVar 0)) mNil))))) (tgT 4 (tgCons (tgN 1) (tgCons (tgN 2) (tgCons (tgN 3) (tgCons (tgN 4) tgNil))))))
    (sRet (mLst (mCons (mTup (mCons (mVar 1) (mCons (mXf 4 (mVar 1)) mNil))) (mCons (mTup (mCons (mVar 2) (mCons (mXf 5 (mVar 2)) mNil))) (mCons (mTup (mCons (mVar 3) (mCons (mXf 10 (mVar 3)) mNil))) (mCons (mTup (mCons (mVar 4) (mCons (mXf 11 (mVar 4)) mNil))) mNil)))))))
def m_law_with : FnM := fnM fldT 5 b_law_with
/-- _law_kinds -/
def b_law_kinds : S :=
  (sSeq (sSet (mLst (mCons (mXi (isx 1) (mVar 0)) (mCons (mXi (isx 2) (mVar 0)) (mCons (mXi (isx 3) (mVar 0)) mNil)))) 1)
    (sSeq (sSet (mBin pAdd (mVar 1) (mLst (mCons (mXi (isx 6) (mVar 0)) (mCons (mXi (isx 7) (mVar 0)) (mCons (mXi (isx 8) (mVar 0)) mNil))))) 1)
    (sSeq (sSet (mLst (mCons (mXi (isx 9) (mVar 0)) (mCons (mXi (isx 12) (mVar 0)) (mCons (mXi (isx 4) (mVar 0)) mNil)))) 2)
    (sRet (mBin pAdd (mBin pAdd (mVar 1) (mVar 2)) (mLst (mCons (mXi (isx 5) (mVar 0)) (mCons (mXi (isx 10) (mVar 0)) (mCons (mXi (isx 11) (mVar 0)) mNil)))))))))
def m_law_kinds : FnM := fnM fldT 3 b_law_kinds
/-- law -/
def b_law : S :=
  (sSeq (sFor (itS (mBin pAdd (mSl (mVar 0) oNo (oYes (mC (.int 6)))) (mLst (mCons (mC (.int 0)) mNil)))) (tgN 1)
    (sSeq (sSet (mFn m_law_well [] (mCons (mVar 1) mNil)) 2)
    (sSeq (sSet (mFn m_law_one [] (mCons (mVar 2) (mCons (mLst (mCons (mC .non) (mCons (mC (.int 0)) (mCons (mNeg (mC (.int 1))) (mCons (mC (.str "")) (mCons (mC (.str "beds")) (mCons (mTup (mCons (mC (.int 0)) (mCons (mC (.int 3)) mNil))) (mCons (mBin pEq (mC (.int 1)) (mC (.int 1))) (mCons (mBin pPow (mC (.int 10)) (mC (.int 12))) (mCons (mTup mNil) (mCons (mC (.str "a b")) mNil))))))))))) mNil))) 3)
    (sSeq (sSet (mFn m_law_one [] (mCons (mVar 2) (mCons (mLst (mCons (mC (.str "")) (mCons (mC (.str "no")) (mCons (mC (.str "a text of its own")) (mCons (mC (.str "0")) mNil))))) mNil))) 4)
    (sSeq (sSet (mBin pAdd (mFn m_law_plain [] (mCons (mVar 4) mNil)) (mLc (itS (mFn m_law_with [] (mCons (mVar 3) mNil))) (tgT 2 (tgCons (tgN 5) (tgCons (tgN 6) tgNil))) mYes (mVar 5) [5, 6])) 7)
    (sSeq (sFor (itE (mCons (mVar 7) mNil)) (tgT 2 (tgCons (tgN 8) (tgCons (tgN 5) tgNil)))
    (sSeq (sIf (mOr (mNot (mB (mXi (isx 0) (mVar 5)))) (mNot (mB (mXi (isx 0) (mVar 5)))))
    (sRet (mC (.bl false)))
    sNop)
    (sIf (mOr (mB (mBin pNe (mFn m_law_kinds [] (mCons (mVar 5) mNil)) (mLc (itR1 (mCons (mC (.int 12)) mNil)) (tgN 9) mYes (mBin pEq (mVar 8) (mVar 9)) [9]))) (mAnd (mB (mBin pLt (mVar 8) (mC (.int 8)))) (mB (mBin pNe (mXt stx (mVar 5)) (mVar 4)))))
    (sRet (mC (.bl false)))
    sNop)))
    (sFor (itS (mFn m_law_with [] (mCons (mVar 3) mNil))) (tgT 2 (tgCons (tgN 5) (tgCons (tgN 6) tgNil)))
    (sIf (mOr (mB (mBin pNe (mVar 6) (mVar 3))) (mB (mBin pNe (mIsi 0 .bl (mVar 6)) (mIsi 0 .bl (mVar 3)))))
    (sRet (mC (.bl false)))
    sNop))))))))
    (sRet (mC (.bl true))))
def m_law : FnM := fnM fldT 10 b_law
theorem ok_law_well (T : Facts K mg) : FnOk P w K mg base (L2.CX P w) 1 T.f_law_well T.d_law_well ["cell"] (spM (cfg T) 1 m_law_well) :=
  ok_fnO (k := 0) T.F_law_well sc_law_well rfl b_law_well (fun cdv A outer s H E hr => (rss_one (rs_ret (re_lstO (ra_cons (re_bin op_mulU ref_mul (rv 0) (re_callTy call_int1 ref_int (by rfl) T.n_int PyProof.Rows.Boot.«int» (ra_cons (re_cmp op_ge ref_ge (rv 0) (re_bin op_pow ref_pow re_int re_int) (nomark _)) ra_nil))) (ra_cons (re_bin op_modN ref_mod (rv 0) re_int) (ra_cons re_int ra_nil)))))))
theorem ok_law_draw (T : Facts K mg) : FnOk P w K mg base (L2.CX P w) 1 T.f_law_draw T.d_law_draw ["well", "many"] (spM (cfg T) 2 m_law_draw) :=
  ok_fn (k := 0) T.F_law_draw sc_law_draw rfl b_law_draw (fun cdv A outer s H E hr => (rss_cons (rs_if (rt_cmp op_gt ref_gt (re_ix rfl (rv 0) re_int) re_int (nomark _)) (rss_cons (rs_set (i := 2) sc_law_draw.nd rfl (Or.inl rfl) (re_bin op_modN ref_mod (re_ix rfl (rv 0) re_int) (rv 1))) (rss_cons (rs_ix (rv 0) re_int (re_bin op_div ref_div (re_ix rfl (rv 0) re_int) (rv 1))) (rss_one (rs_ret (rv 2))))) rss_nil) (rss_cons (rs_ix (rv 0) re_int (re_bin (op_addU rfl) ref_add (re_ix rfl (rv 0) re_int) re_int)) (rss_cons (rs_set (i := 3) sc_law_draw.nd rfl (Or.inl rfl) (re_ix rfl (re_lst (ra_cons re_int (ra_cons re_int (ra_cons re_int (ra_cons re_int (ra_cons re_int (ra_cons re_int (ra_cons re_int ra_nil)))))))) (re_bin op_modN ref_mod (re_ix rfl (rv 0) re_int) re_int))) (rss_cons (rs_set (i := 4) sc_law_draw.nd rfl (Or.inl rfl) (re_bin op_modN ref_mod (re_bin op_pow ref_pow (re_bin (op_addU rfl) ref_add (re_bin (op_addU rfl) ref_add (re_ix rfl (rv 0) re_int) (re_bin op_mulU ref_mul re_int (re_ix rfl (rv 0) re_int))) re_int) re_int) (rv 3))) (rss_cons (rs_set (i := 4) sc_law_draw.nd rfl (Or.inl rfl) (re_bin op_modN ref_mod (re_bin op_mulU ref_mul (re_bin (op_addU rfl) ref_add (rv 4) (re_ix rfl (rv 0) re_int)) (re_bin (op_addU rfl) ref_add (re_bin op_div ref_div (rv 4) re_int) re_int)) (rv 3))) (rss_one (rs_ret (re_bin op_modN ref_mod (re_bin op_div ref_div (rv 4) re_int) (rv 1))))))))))
theorem ok_law_one (T : Facts K mg) : FnOk P w K mg base (L2.CX P w) 2 T.f_law_one T.d_law_one ["well", "some"] (spM (cfg T) 2 m_law_one) :=
  ok_fn (k := 1) T.F_law_one sc_law_one rfl b_law_one (fun cdv A outer s H E hr => (rss_one (rs_ret (re_ix rfl (rv 1) (re_fn (ok_law_draw T) (hr.mono (by decide)) rfl T.g_law_draw T.F_law_draw.kp T.b_law_draw .nil rfl (takes_of rfl rfl rfl rfl) (ra_cons (rv 0) (ra_cons (re_callB (call_lenU rfl) ref_len (by rfl) T.n_len PyProof.Rows.Boot.«len» (ra_cons (rv 1) ra_nil)) ra_nil)) rfl)))))
theorem ok_law_plain (T : Facts K mg) : FnOk P w K mg base (L2.CX P w) 1 T.f_law_plain T.d_law_plain ["text"] (spM (cfg T) 1 m_law_plain) :=
  ok_fn (k := 0) T.F_law_plain sc_law_plain rfl b_law_plain (fun cdv A outer s H E hr => (rss_cons (rs_set (i := 1) sc_law_plain.nd rfl (Or.inl rfl) (re_lst (ra_cons (re_xs (c := 1) PySem.F.excBase_ValueError T.q_NoShare T.gx_NoShare T.kx_NoShare rfl (rv 0)) (ra_cons (re_xs (c := 2) PySem.F.excBase_ValueError T.q_NoCourse T.gx_NoCourse T.kx_NoCourse rfl (rv 0)) (ra_cons (re_xs (c := 3) PySem.F.excBase_ValueError T.q_NoDay T.gx_NoDay T.kx_NoDay rfl (rv 0)) (ra_cons (re_xs (c := 6) PySem.F.excBase_ValueError T.q_NoDepths T.gx_NoDepths T.kx_NoDepths rfl (rv 0)) ra_nil)))))) (rss_one (rs_ret (re_bin (op_addU rfl) ref_add (rv 1) (re_lst (ra_cons (re_xs (c := 7) PySem.F.excBase_ValueError T.q_NoRain T.gx_NoRain T.kx_NoRain rfl (rv 0)) (ra_cons (re_xs (c := 8) PySem.F.excBase_ValueError T.q_NoDigs T.gx_NoDigs T.kx_NoDigs rfl (rv 0)) (ra_cons (re_xs (c := 9) PySem.F.excBase_ValueError T.q_NoTurned T.gx_NoTurned T.kx_NoTurned rfl (rv 0)) (ra_cons (re_xs (c := 12) PySem.F.excBase_ValueError T.q_NoTie T.gx_NoTie T.kx_NoTie rfl (rv 0)) ra_nil))))))))))
theorem ok_law_with (T : Facts K mg) : FnOk P w K mg base (L2.CX P w) 4 T.f_law_with T.d_law_with ["thing"] (spM (cfg T) 1 m_law_with) :=
  ok_fn (k := 3) T.F_law_with sc_law_with rfl b_law_with (fun cdv A outer s H E hr => (rss_cons (rs_asg (re_tup (ra_cons (re_xv (c := 4) T.o_TooLong T.i_TooLong_init (isFn_type T.t_TooLong_init) (okx_TooLong T) (hr.mono (by decide)) T.b_TooLong_init rfl T.gx_TooLong (takes_of rfl rfl rfl rfl) (rv 0)) (ra_cons (re_xv (c := 5) T.o_NoWeb T.i_NoWeb_init (isFn_type T.t_NoWeb_init) (okx_NoWeb T) (hr.mono (by decide)) T.b_NoWeb_init rfl T.gx_NoWeb (takes_of rfl rfl rfl rfl) (rv 0)) (ra_cons (re_xv (c := 10) T.o_NoPlace T.i_NoPlace_init (isFn_type T.t_NoPlace_init) (okx_NoPlace T) (hr.mono (by decide)) T.b_NoPlace_init rfl T.gx_NoPlace (takes_of rfl rfl rfl rfl) (rv 0)) (ra_cons (re_xv (c := 11) T.o_NoBed T.i_NoBed_init (isFn_type T.t_NoBed_init) (okx_NoBed T) (hr.mono (by decide)) T.b_NoBed_init rfl T.gx_NoBed (takes_of rfl rfl rfl rfl) (rv 0)) ra_nil))))) (rg_tup rfl rfl (rgs_cons (rg_name (i := 1) sc_law_with.nd rfl (Or.inl rfl)) (rgs_cons (rg_name (i := 2) sc_law_with.nd rfl (Or.inl rfl)) (rgs_cons (rg_name (i := 3) sc_law_with.nd rfl (Or.inl rfl)) (rgs_cons (rg_name (i := 4) sc_law_with.nd rfl (Or.inl rfl)) rgs_nil)))))) (rss_one (rs_ret (re_lst (ra_cons (re_tup (ra_cons (rv 1) (ra_cons (re_xf (c := 4) T.v_TooLong rfl (rv 1)) ra_nil))) (ra_cons (re_tup (ra_cons (rv 2) (ra_cons (re_xf (c := 5) T.v_NoWeb rfl (rv 2)) ra_nil))) (ra_cons (re_tup (ra_cons (rv 3) (ra_cons (re_xf (c := 10) T.v_NoPlace rfl (rv 3)) ra_nil))) (ra_cons (re_tup (ra_cons (rv 4) (ra_cons (re_xf (c := 11) T.v_NoBed rfl (rv 4)) ra_nil))) ra_nil)))))))))
theorem ok_law_kinds (T : Facts K mg) : FnOk P w K mg base (L2.CX P w) 1 T.f_law_kinds T.d_law_kinds ["error"] (spM (cfg T) 1 m_law_kinds) :=
  ok_fn (k := 0) T.F_law_kinds sc_law_kinds rfl b_law_kinds (fun cdv A outer s H E hr => (rss_cons (rs_set (i := 1) sc_law_kinds.nd rfl (Or.inl rfl) (re_lst (ra_cons (re_isx (f := isx 1) (c := .ref T.x_NoShare) (T.isx_NoShare) (rv 0) (pe_clsN rfl T.gx_NoShare) (.own _) rfl T.n_isinstance) (ra_cons (re_isx (f := isx 2) (c := .ref T.x_NoCourse) (T.isx_NoCourse) (rv 0) (pe_clsN rfl T.gx_NoCourse) (.own _) rfl T.n_isinstance) (ra_cons (re_isx (f := isx 3) (c := .ref T.x_NoDay) (T.isx_NoDay) (rv 0) (pe_clsN rfl T.gx_NoDay) (.own _) rfl T.n_isinstance) ra_nil))))) (rss_cons (rs_set (i := 1) sc_law_kinds.nd rfl (Or.inl rfl) (re_bin (op_addU rfl) ref_add (rv 1) (re_lst (ra_cons (re_isx (f := isx 6) (c := .ref T.x_NoDepths) (T.isx_NoDepths) (rv 0) (pe_clsN rfl T.gx_NoDepths) (.own _) rfl T.n_isinstance) (ra_cons (re_isx (f := isx 7) (c := .ref T.x_NoRain) (T.isx_NoRain) (rv 0) (pe_clsN rfl T.gx_NoRain) (.own _) rfl T.n_isinstance) (ra_cons (re_isx (f := isx 8) (c := .ref T.x_NoDigs) (T.isx_NoDigs) (rv 0) (pe_clsN rfl T.gx_NoDigs) (.own _) rfl T.n_isinstance) ra_nil)))))) (rss_cons (rs_set (i := 2) sc_law_kinds.nd rfl (Or.inl rfl) (re_lst (ra_cons (re_isx (f := isx 9) (c := .ref T.x_NoTurned) (T.isx_NoTurned) (rv 0) (pe_clsN rfl T.gx_NoTurned) (.own _) rfl T.n_isinstance) (ra_cons (re_isx (f := isx 12) (c := .ref T.x_NoTie) (T.isx_NoTie) (rv 0) (pe_clsN rfl T.gx_NoTie) (.own _) rfl T.n_isinstance) (ra_cons (re_isx (f := isx 4) (c := .ref T.x_TooLong) (T.isx_TooLong) (rv 0) (pe_clsN rfl T.gx_TooLong) (.own _) rfl T.n_isinstance) ra_nil))))) (rss_one (rs_ret (re_bin (op_addU rfl) ref_add (re_bin (op_addU rfl) ref_add (rv 1) (rv 2)) (re_lst (ra_cons (re_isx (f := isx 5) (c := .ref T.x_NoWeb) (T.isx_NoWeb) (rv 0) (pe_clsN rfl T.gx_NoWeb) (.own _) rfl T.n_isinstance) (ra_cons (re_isx (f := isx 10) (c := .ref T.x_NoPlace) (T.isx_NoPlace) (rv 0) (pe_clsN rfl T.gx_NoPlace) (.own _) rfl T.n_isinstance) (ra_cons (re_isx (f := isx 11) (c := .ref T.x_NoBed) (T.isx_NoBed) (rv 0) (pe_clsN rfl T.gx_NoBed) (.own _) rfl T.n_isinstance) ra_nil)))))))))))
theorem ok_law (T : Facts K mg) : FnOk P w K mg base (L2.CX P w) 5 T.f_law T.d_law ["script"] (spM (cfg T) 1 m_law) :=
  ok_fn (k := 4) T.F_law sc_law rfl b_law (fun cdv A outer s H E hr => (rss_cons (rs_for (passes_of rfl) rfl (ri_seq rfl (re_bin (op_addU rfl) ref_add (re_sl rfl (rv 0) ro_none (ro_some re_int)) (re_lst (ra_cons re_int ra_nil)))) (rg_name (i := 1) sc_law.nd rfl (Or.inl rfl)) (rss_cons (rs_set (i := 2) sc_law.nd rfl (Or.inl rfl) (re_fn (ok_law_well T) (hr.mono (by decide)) rfl T.g_law_well T.F_law_well.kp T.b_law_well .nil rfl (takes_of rfl rfl rfl rfl) (ra_cons (rv 1) ra_nil) rfl)) (rss_cons (rs_set (i := 3) sc_law.nd rfl (Or.inl rfl) (re_fn (ok_law_one T) (hr.mono (by decide)) rfl T.g_law_one T.F_law_one.kp T.b_law_one .nil rfl (takes_of rfl rfl rfl rfl) (ra_cons (rv 2) (ra_cons (re_lst (ra_cons re_non (ra_cons re_int (ra_cons (re_neg re_int) (ra_cons re_str (ra_cons re_str (ra_cons (re_tup (ra_cons re_int (ra_cons re_int ra_nil))) (ra_cons (re_cmp (op_eqD hr.units) ref_eq re_int re_int (nomark _)) (ra_cons (re_bin op_pow ref_pow re_int re_int) (ra_cons (re_tup ra_nil) (ra_cons re_str ra_nil))))))))))) ra_nil)) rfl)) (rss_cons (rs_set (i := 4) sc_law.nd rfl (Or.inl rfl) (re_fn (ok_law_one T) (hr.mono (by decide)) rfl T.g_law_one T.F_law_one.kp T.b_law_one .nil rfl (takes_of rfl rfl rfl rfl) (ra_cons (rv 2) (ra_cons (re_lst (ra_cons re_str (ra_cons re_str (ra_cons re_str (ra_cons re_str ra_nil))))) ra_nil)) rfl)) (rss_cons (rs_set (i := 7) sc_law.nd rfl (Or.inl rfl) (re_bin (op_addU rfl) ref_add (re_fn (ok_law_plain T) (hr.mono (by decide)) rfl T.g_law_plain T.F_law_plain.kp T.b_law_plain .nil rfl (takes_of rfl rfl rfl rfl) (ra_cons (rv 4) ra_nil) rfl) (re_lc (own := [("error", 5), ("value", 6)]) rfl sc_law.nd (ri_seq rfl (re_fn (ok_law_with T) (hr.mono (by decide)) rfl T.g_law_with T.F_law_with.kp T.b_law_with .nil rfl (takes_of rfl rfl rfl rfl) (ra_cons (rv 3) ra_nil) rfl)) (blkOk_by (own := [("error", 5), ("value", 6)]) (N := N_law) (sc := defScope s_law) (by decide +kernel)) (fun _ _ _ _ _ => (rg_tup rfl rfl (rgs_cons (rg_name (i := 5) sc_law.nd rfl (Or.inl rfl)) (rgs_cons (rg_name (i := 6) sc_law.nd rfl (Or.inl rfl)) rgs_nil)))) (fun _ _ _ _ _ => rts_nil) (fun _ _ _ _ _ => (rv 5))))) (rss_cons (rs_for (passes_of rfl) rfl (ri_enum rfl (by rfl) T.n_enumerate (ra_cons (rv 7) ra_nil)) (rg_tup rfl rfl (rgs_cons (rg_name (i := 8) sc_law.nd rfl (Or.inr rfl)) (rgs_cons (rg_name (i := 5) sc_law.nd rfl (Or.inl rfl)) rgs_nil))) (rss_cons (rs_if (rt_w (rw_or (rt_not (rt_val (re_isx (f := isx 0) (c := .ref T.x_RillError) (T.isx_RillError) (rv 5) (pe_clsN rfl T.gx_RillError) (.own _) rfl T.n_isinstance))) (rw_or1 (rt_not (rt_val (re_isx (f := isx 0) (c := .ty "ValueError") (T.isx_VE) (rv 5) (pe_tyN rfl T.n_ValueError PyProof.Rows.Boot.«ValueError») (.ty _) rfl T.n_isinstance)))))) (rss_one (rs_ret re_bl)) rss_nil) (rss_one (rs_if (rt_w (rw_or (rt_cmp (op_neD hr.units) ref_ne (re_fn (ok_law_kinds T) (hr.mono (by decide)) rfl T.g_law_kinds T.F_law_kinds.kp T.b_law_kinds .nil rfl (takes_of rfl rfl rfl rfl) (ra_cons (rv 5) ra_nil) rfl) (re_lc (own := [("at", 9)]) rfl sc_law.nd (ri_range1 (by rfl) T.n_range (ra_cons re_int ra_nil)) (blkOk_by (own := [("at", 9)]) (N := N_law) (sc := defScope s_law) (by decide +kernel)) (fun _ _ _ _ _ => (rg_name (i := 9) sc_law.nd rfl (Or.inl rfl))) (fun _ _ _ _ _ => rts_nil) (fun _ _ _ _ _ => (re_cmp (op_eqD hr.units) ref_eq (rv 8) (rv 9) (nomark _)))) (nomark _)) (rw_or1 (rt_w (rw_and (rt_cmp op_lt ref_lt (rv 8) re_int (nomark _)) (rw_and1 (rt_cmp (op_neD hr.units) ref_ne (re_stx (f := stx) (room2 hr) T.stx_ok (rv 5) rfl T.n_str) (rv 4) (nomark _)))))))) (rss_one (rs_ret re_bl)) rss_nil)))) (rss_one (rs_for (passes_of rfl) rfl (ri_seq rfl (re_fn (ok_law_with T) (hr.mono (by decide)) rfl T.g_law_with T.F_law_with.kp T.b_law_with .nil rfl (takes_of rfl rfl rfl rfl) (ra_cons (rv 3) ra_nil) rfl)) (rg_tup rfl rfl (rgs_cons (rg_name (i := 5) sc_law.nd rfl (Or.inl rfl)) (rgs_cons (rg_name (i := 6) sc_law.nd rfl (Or.inl rfl)) rgs_nil))) (rss_one (rs_if (rt_w (rw_or (rt_cmp (op_neD hr.units) ref_ne (rv 6) (rv 3) (nomark _)) (rw_or1 (rt_cmp (op_neD hr.units) ref_ne (re_isi (x := "") (n := 0) (T := .bl) rfl T.isF0 T.isA0 (rv 6) (pe_tyN rfl T.n_bool PyProof.Rows.Boot.«bool») (.ty _) rfl T.n_isinstance) (re_isi (x := "") (n := 0) (T := .bl) rfl T.isF0 T.isA0 (rv 3) (pe_tyN rfl T.n_bool PyProof.Rows.Boot.«bool») (.ty _) rfl T.n_isinstance) (nomark _))))) (rss_one (rs_ret re_bl)) rss_nil)))))))))) (rss_one (rs_ret re_bl))))
end
theorem facts_mk {K : PySem.W.Frag} {h : Heap} {mg : Str → Option Value} (X : K.In h) (G : h.Ns mainGlobals mg)
    {x_RillError x_NoShare x_NoCourse x_NoDay x_TooLong x_NoWeb x_NoDepths x_NoRain x_NoDigs x_NoTurned x_NoPlace x_NoBed x_NoTie f_TooLong_init f_NoWeb_init f_NoPlace_init f_NoBed_init f_law_well f_law_draw f_law_one f_law_plain f_law_with f_law_kinds f_law : Addr}
    {oc_TooLong_init kV_TooLong_init dc_TooLong_init pm_TooLong_init cd_TooLong_init ct_TooLong_init : Value} {od_TooLong_init an_TooLong_init : Option Addr} {sl_TooLong_init : Array (Option Value)}
    {oc_NoWeb_init kV_NoWeb_init dc_NoWeb_init pm_NoWeb_init cd_NoWeb_init ct_NoWeb_init : Value} {od_NoWeb_init an_NoWeb_init : Option Addr} {sl_NoWeb_init : Array (Option Value)}
    {oc_NoPlace_init kV_NoPlace_init dc_NoPlace_init pm_NoPlace_init cd_NoPlace_init ct_NoPlace_init : Value} {od_NoPlace_init an_NoPlace_init : Option Addr} {sl_NoPlace_init : Array (Option Value)}
    {oc_NoBed_init kV_NoBed_init dc_NoBed_init pm_NoBed_init cd_NoBed_init ct_NoBed_init : Value} {od_NoBed_init an_NoBed_init : Option Addr} {sl_NoBed_init : Array (Option Value)}
    {oc_law_well kV_law_well dc_law_well pm_law_well cd_law_well ct_law_well : Value} {od_law_well an_law_well : Option Addr} {sl_law_well : Array (Option Value)}
    {oc_law_draw kV_law_draw dc_law_draw pm_law_draw cd_law_draw ct_law_draw : Value} {od_law_draw an_law_draw : Option Addr} {sl_law_draw : Array (Option Value)}
    {oc_law_one kV_law_one dc_law_one pm_law_one cd_law_one ct_law_one : Value} {od_law_one an_law_one : Option Addr} {sl_law_one : Array (Option Value)}
    {oc_law_plain kV_law_plain dc_law_plain pm_law_plain cd_law_plain ct_law_plain : Value} {od_law_plain an_law_plain : Option Addr} {sl_law_plain : Array (Option Value)}
    {oc_law_with kV_law_with dc_law_with pm_law_with cd_law_with ct_law_with : Value} {od_law_with an_law_with : Option Addr} {sl_law_with : Array (Option Value)}
    {oc_law_kinds kV_law_kinds dc_law_kinds pm_law_kinds cd_law_kinds ct_law_kinds : Value} {od_law_kinds an_law_kinds : Option Addr} {sl_law_kinds : Array (Option Value)}
    {oc_law kV_law dc_law pm_law cd_law ct_law : Value} {od_law an_law : Option Addr} {sl_law : Array (Option Value)}
    {nm_TooLong q_TooLong : Str} {N_TooLong : Addr} {bs_TooLong bm_TooLong : List Value} {sn_TooLong : List Str} {sub_TooLong : List Value} {ab_TooLong : Bool} {col_TooLong : Option Bool} {dd_TooLong : Option Addr} {m0_TooLong m1_TooLong m2_TooLong m3_TooLong m5_TooLong : Option Value}
    {nm_NoWeb q_NoWeb : Str} {N_NoWeb : Addr} {bs_NoWeb bm_NoWeb : List Value} {sn_NoWeb : List Str} {sub_NoWeb : List Value} {ab_NoWeb : Bool} {col_NoWeb : Option Bool} {dd_NoWeb : Option Addr} {m0_NoWeb m1_NoWeb m2_NoWeb m3_NoWeb m5_NoWeb : Option Value}
    {nm_NoPlace q_NoPlace : Str} {N_NoPlace : Addr} {bs_NoPlace bm_NoPlace : List Value} {sn_NoPlace : List Str} {sub_NoPlace : List Value} {ab_NoPlace : Bool} {col_NoPlace : Option Bool} {dd_NoPlace : Option Addr} {m0_NoPlace m1_NoPlace m2_NoPlace m3_NoPlace m5_NoPlace : Option Value}
    {nm_NoBed q_NoBed : Str} {N_NoBed : Addr} {bs_NoBed bm_NoBed : List Value} {sn_NoBed : List Str} {sub_NoBed : List Value} {ab_NoBed : Bool} {col_NoBed : Option Bool} {dd_NoBed : Option Addr} {m0_NoBed m1_NoBed m2_NoBed m3_NoBed m5_NoBed : Option Value}
    (ax_RillError : PySem.W.nsIn K mainGlobals "RillError" = some (some (.ref x_RillError)))
    (ax_NoShare : PySem.W.nsIn K mainGlobals "NoShare" = some (some (.ref x_NoShare)))
    (ax_NoCourse : PySem.W.nsIn K mainGlobals "NoCourse" = some (some (.ref x_NoCourse)))
    (ax_NoDay : PySem.W.nsIn K mainGlobals "NoDay" = some (some (.ref x_NoDay)))
    (ax_TooLong : PySem.W.nsIn K mainGlobals "TooLong" = some (some (.ref x_TooLong)))
    (ax_NoWeb : PySem.W.nsIn K mainGlobals "NoWeb" = some (some (.ref x_NoWeb)))
    (ax_NoDepths : PySem.W.nsIn K mainGlobals "NoDepths" = some (some (.ref x_NoDepths)))
    (ax_NoRain : PySem.W.nsIn K mainGlobals "NoRain" = some (some (.ref x_NoRain)))
    (ax_NoDigs : PySem.W.nsIn K mainGlobals "NoDigs" = some (some (.ref x_NoDigs)))
    (ax_NoTurned : PySem.W.nsIn K mainGlobals "NoTurned" = some (some (.ref x_NoTurned)))
    (ax_NoPlace : PySem.W.nsIn K mainGlobals "NoPlace" = some (some (.ref x_NoPlace)))
    (ax_NoBed : PySem.W.nsIn K mainGlobals "NoBed" = some (some (.ref x_NoBed)))
    (ax_NoTie : PySem.W.nsIn K mainGlobals "NoTie" = some (some (.ref x_NoTie)))
    (a_TooLong_init : PySem.W.findIn K (.ref x_TooLong) "__init__" = some (some (.ref f_TooLong_init)))
    (i_TooLong_init : PySem.W.isFn K (.ref f_TooLong_init) = true)
    (l_TooLong_init : K.lookup f_TooLong_init = some ⟨oc_TooLong_init, od_TooLong_init, .func (PySem.W.fnOf "__init__" "TooLong.__init__" (defArgs s_TooLong_init) (defBody s_TooLong_init) (defScope s_TooLong_init) .none kV_TooLong_init dc_TooLong_init pm_TooLong_init an_TooLong_init cd_TooLong_init ct_TooLong_init), sl_TooLong_init⟩)
    (e_TooLong_init : PySem.W.codeIn K cd_TooLong_init "TooLong.__init__" = true)
    (k_TooLong_init : PySem.W.keepIn K (.ref f_TooLong_init) = true)
    (a_NoWeb_init : PySem.W.findIn K (.ref x_NoWeb) "__init__" = some (some (.ref f_NoWeb_init)))
    (i_NoWeb_init : PySem.W.isFn K (.ref f_NoWeb_init) = true)
    (l_NoWeb_init : K.lookup f_NoWeb_init = some ⟨oc_NoWeb_init, od_NoWeb_init, .func (PySem.W.fnOf "__init__" "NoWeb.__init__" (defArgs s_NoWeb_init) (defBody s_NoWeb_init) (defScope s_NoWeb_init) .none kV_NoWeb_init dc_NoWeb_init pm_NoWeb_init an_NoWeb_init cd_NoWeb_init ct_NoWeb_init), sl_NoWeb_init⟩)
    (e_NoWeb_init : PySem.W.codeIn K cd_NoWeb_init "NoWeb.__init__" = true)
    (k_NoWeb_init : PySem.W.keepIn K (.ref f_NoWeb_init) = true)
    (a_NoPlace_init : PySem.W.findIn K (.ref x_NoPlace) "__init__" = some (some (.ref f_NoPlace_init)))
    (i_NoPlace_init : PySem.W.isFn K (.ref f_NoPlace_init) = true)
    (l_NoPlace_init : K.lookup f_NoPlace_init = some ⟨oc_NoPlace_init, od_NoPlace_init, .func (PySem.W.fnOf "__init__" "NoPlace.__init__" (defArgs s_NoPlace_init) (defBody s_NoPlace_init) (defScope s_NoPlace_init) .none kV_NoPlace_init dc_NoPlace_init pm_NoPlace_init an_NoPlace_init cd_NoPlace_init ct_NoPlace_init), sl_NoPlace_init⟩)
    (e_NoPlace_init : PySem.W.codeIn K cd_NoPlace_init "NoPlace.__init__" = true)
    (k_NoPlace_init : PySem.W.keepIn K (.ref f_NoPlace_init) = true)
    (a_NoBed_init : PySem.W.findIn K (.ref x_NoBed) "__init__" = some (some (.ref f_NoBed_init)))
    (i_NoBed_init : PySem.W.isFn K (.ref f_NoBed_init) = true)
    (l_NoBed_init : K.lookup f_NoBed_init = some ⟨oc_NoBed_init, od_NoBed_init, .func (PySem.W.fnOf "__init__" "NoBed.__init__" (defArgs s_NoBed_init) (defBody s_NoBed_init) (defScope s_NoBed_init) .none kV_NoBed_init dc_NoBed_init pm_NoBed_init an_NoBed_init cd_NoBed_init ct_NoBed_init), sl_NoBed_init⟩)
    (e_NoBed_init : PySem.W.codeIn K cd_NoBed_init "NoBed.__init__" = true)
    (k_NoBed_init : PySem.W.keepIn K (.ref f_NoBed_init) = true)
    (a_law_well : PySem.W.nsIn K mainGlobals "_law_well" = some (some (.ref f_law_well)))
    (l_law_well : K.lookup f_law_well = some ⟨oc_law_well, od_law_well, .func (PySem.W.fnOf "_law_well" "_law_well" (defArgs s_law_well) (defBody s_law_well) (defScope s_law_well) .none kV_law_well dc_law_well pm_law_well an_law_well cd_law_well ct_law_well), sl_law_well⟩)
    (e_law_well : PySem.W.codeIn K cd_law_well "_law_well" = true)
    (k_law_well : PySem.W.keepIn K (.ref f_law_well) = true)
    (a_law_draw : PySem.W.nsIn K mainGlobals "_law_draw" = some (some (.ref f_law_draw)))
    (l_law_draw : K.lookup f_law_draw = some ⟨oc_law_draw, od_law_draw, .func (PySem.W.fnOf "_law_draw" "_law_draw" (defArgs s_law_draw) (defBody s_law_draw) (defScope s_law_draw) .none kV_law_draw dc_law_draw pm_law_draw an_law_draw cd_law_draw ct_law_draw), sl_law_draw⟩)
    (e_law_draw : PySem.W.codeIn K cd_law_draw "_law_draw" = true)
    (k_law_draw : PySem.W.keepIn K (.ref f_law_draw) = true)
    (a_law_one : PySem.W.nsIn K mainGlobals "_law_one" = some (some (.ref f_law_one)))
    (l_law_one : K.lookup f_law_one = some ⟨oc_law_one, od_law_one, .func (PySem.W.fnOf "_law_one" "_law_one" (defArgs s_law_one) (defBody s_law_one) (defScope s_law_one) .none kV_law_one dc_law_one pm_law_one an_law_one cd_law_one ct_law_one), sl_law_one⟩)
    (e_law_one : PySem.W.codeIn K cd_law_one "_law_one" = true)
    (k_law_one : PySem.W.keepIn K (.ref f_law_one) = true)
    (a_law_plain : PySem.W.nsIn K mainGlobals "_law_plain" = some (some (.ref f_law_plain)))
    (l_law_plain : K.lookup f_law_plain = some ⟨oc_law_plain, od_law_plain, .func (PySem.W.fnOf "_law_plain" "_law_plain" (defArgs s_law_plain) (defBody s_law_plain) (defScope s_law_plain) .none kV_law_plain dc_law_plain pm_law_plain an_law_plain cd_law_plain ct_law_plain), sl_law_plain⟩)
    (e_law_plain : PySem.W.codeIn K cd_law_plain "_law_plain" = true)
    (k_law_plain : PySem.W.keepIn K (.ref f_law_plain) = true)
    (a_law_with : PySem.W.nsIn K mainGlobals "_law_with" = some (some (.ref f_law_with)))
    (l_law_with : K.lookup f_law_with = some ⟨oc_law_with, od_law_with, .func (PySem.W.fnOf "_law_with" "_law_with" (defArgs s_law_with) (defBody s_law_with) (defScope s_law_with) .none kV_law_with dc_law_with pm_law_with an_law_with cd_law_with ct_law_with), sl_law_with⟩)
    (e_law_with : PySem.W.codeIn K cd_law_with "_law_with" = true)
    (k_law_with : PySem.W.keepIn K (.ref f_law_with) = true)
    (a_law_kinds : PySem.W.nsIn K mainGlobals "_law_kinds" = some (some (.ref f_law_kinds)))
    (l_law_kinds : K.lookup f_law_kinds = some ⟨oc_law_kinds, od_law_kinds, .func (PySem.W.fnOf "_law_kinds" "_law_kinds" (defArgs s_law_kinds) (defBody s_law_kinds) (defScope s_law_kinds) .none kV_law_kinds dc_law_kinds pm_law_kinds an_law_kinds cd_law_kinds ct_law_kinds), sl_law_kinds⟩)
    (e_law_kinds : PySem.W.codeIn K cd_law_kinds "_law_kinds" = true)
    (k_law_kinds : PySem.W.keepIn K (.ref f_law_kinds) = true)
    (a_law : PySem.W.nsIn K mainGlobals "law" = some (some (.ref f_law)))
    (l_law : K.lookup f_law = some ⟨oc_law, od_law, .func (PySem.W.fnOf "law" "law" (defArgs s_law) (defBody s_law) (defScope s_law) .none kV_law dc_law pm_law an_law cd_law ct_law), sl_law⟩)
    (e_law : PySem.W.codeIn K cd_law "law" = true)
    (k_law : PySem.W.keepIn K (.ref f_law) = true)
    (n_ValueError : PySem.W.nsIn K mainGlobals "ValueError" = some none)
    (n_bool : PySem.W.nsIn K mainGlobals "bool" = some none)
    (n_enumerate : PySem.W.nsIn K mainGlobals "enumerate" = some none)
    (n_int : PySem.W.nsIn K mainGlobals "int" = some none)
    (n_isinstance : PySem.W.nsIn K mainGlobals "isinstance" = some none)
    (n_len : PySem.W.nsIn K mainGlobals "len" = some none)
    (n_range : PySem.W.nsIn K mainGlobals "range" = some none)
    (n_str : PySem.W.nsIn K mainGlobals "str" = some none)
    (ty_RillError : PySem.W.typeIn K (.ref x_RillError) = some (.type "type"))
    (ic_RillError : PySem.W.isClsIn K x_RillError = true)
    (ss_RillError_RillError : PySem.W.subIn K (.ref x_RillError) (.ref x_RillError) = some true)
    (ty_NoShare : PySem.W.typeIn K (.ref x_NoShare) = some (.type "type"))
    (ic_NoShare : PySem.W.isClsIn K x_NoShare = true)
    (ss_NoShare_NoShare : PySem.W.subIn K (.ref x_NoShare) (.ref x_NoShare) = some true)
    (ty_NoCourse : PySem.W.typeIn K (.ref x_NoCourse) = some (.type "type"))
    (ic_NoCourse : PySem.W.isClsIn K x_NoCourse = true)
    (ss_NoCourse_NoCourse : PySem.W.subIn K (.ref x_NoCourse) (.ref x_NoCourse) = some true)
    (ty_NoDay : PySem.W.typeIn K (.ref x_NoDay) = some (.type "type"))
    (ic_NoDay : PySem.W.isClsIn K x_NoDay = true)
    (ss_NoDay_NoDay : PySem.W.subIn K (.ref x_NoDay) (.ref x_NoDay) = some true)
    (ty_TooLong : PySem.W.typeIn K (.ref x_TooLong) = some (.type "type"))
    (ic_TooLong : PySem.W.isClsIn K x_TooLong = true)
    (ss_TooLong_TooLong : PySem.W.subIn K (.ref x_TooLong) (.ref x_TooLong) = some true)
    (ty_NoWeb : PySem.W.typeIn K (.ref x_NoWeb) = some (.type "type"))
    (ic_NoWeb : PySem.W.isClsIn K x_NoWeb = true)
    (ss_NoWeb_NoWeb : PySem.W.subIn K (.ref x_NoWeb) (.ref x_NoWeb) = some true)
    (ty_NoDepths : PySem.W.typeIn K (.ref x_NoDepths) = some (.type "type"))
    (ic_NoDepths : PySem.W.isClsIn K x_NoDepths = true)
    (ss_NoDepths_NoDepths : PySem.W.subIn K (.ref x_NoDepths) (.ref x_NoDepths) = some true)
    (ty_NoRain : PySem.W.typeIn K (.ref x_NoRain) = some (.type "type"))
    (ic_NoRain : PySem.W.isClsIn K x_NoRain = true)
    (ss_NoRain_NoRain : PySem.W.subIn K (.ref x_NoRain) (.ref x_NoRain) = some true)
    (ty_NoDigs : PySem.W.typeIn K (.ref x_NoDigs) = some (.type "type"))
    (ic_NoDigs : PySem.W.isClsIn K x_NoDigs = true)
    (ss_NoDigs_NoDigs : PySem.W.subIn K (.ref x_NoDigs) (.ref x_NoDigs) = some true)
    (ty_NoTurned : PySem.W.typeIn K (.ref x_NoTurned) = some (.type "type"))
    (ic_NoTurned : PySem.W.isClsIn K x_NoTurned = true)
    (ss_NoTurned_NoTurned : PySem.W.subIn K (.ref x_NoTurned) (.ref x_NoTurned) = some true)
    (ty_NoPlace : PySem.W.typeIn K (.ref x_NoPlace) = some (.type "type"))
    (ic_NoPlace : PySem.W.isClsIn K x_NoPlace = true)
    (ss_NoPlace_NoPlace : PySem.W.subIn K (.ref x_NoPlace) (.ref x_NoPlace) = some true)
    (ty_NoBed : PySem.W.typeIn K (.ref x_NoBed) = some (.type "type"))
    (ic_NoBed : PySem.W.isClsIn K x_NoBed = true)
    (ss_NoBed_NoBed : PySem.W.subIn K (.ref x_NoBed) (.ref x_NoBed) = some true)
    (ty_NoTie : PySem.W.typeIn K (.ref x_NoTie) = some (.type "type"))
    (ic_NoTie : PySem.W.isClsIn K x_NoTie = true)
    (ss_NoTie_NoTie : PySem.W.subIn K (.ref x_NoTie) (.ref x_NoTie) = some true)
    (ss_NoShare_RillError : PySem.W.subIn K (.ref x_NoShare) (.ref x_RillError) = some true)
    (ss_NoShare_NoCourse : PySem.W.subIn K (.ref x_NoShare) (.ref x_NoCourse) = some false)
    (ss_NoShare_NoDay : PySem.W.subIn K (.ref x_NoShare) (.ref x_NoDay) = some false)
    (ss_NoShare_TooLong : PySem.W.subIn K (.ref x_NoShare) (.ref x_TooLong) = some false)
    (ss_NoShare_NoWeb : PySem.W.subIn K (.ref x_NoShare) (.ref x_NoWeb) = some false)
    (ss_NoShare_NoDepths : PySem.W.subIn K (.ref x_NoShare) (.ref x_NoDepths) = some false)
    (ss_NoShare_NoRain : PySem.W.subIn K (.ref x_NoShare) (.ref x_NoRain) = some false)
    (ss_NoShare_NoDigs : PySem.W.subIn K (.ref x_NoShare) (.ref x_NoDigs) = some false)
    (ss_NoShare_NoTurned : PySem.W.subIn K (.ref x_NoShare) (.ref x_NoTurned) = some false)
    (ss_NoShare_NoPlace : PySem.W.subIn K (.ref x_NoShare) (.ref x_NoPlace) = some false)
    (ss_NoShare_NoBed : PySem.W.subIn K (.ref x_NoShare) (.ref x_NoBed) = some false)
    (ss_NoShare_NoTie : PySem.W.subIn K (.ref x_NoShare) (.ref x_NoTie) = some false)
    (ss_NoShare_VE : PySem.W.subIn K (.ref x_NoShare) (.type "ValueError") = some true)
    (ss_NoCourse_RillError : PySem.W.subIn K (.ref x_NoCourse) (.ref x_RillError) = some true)
    (ss_NoCourse_NoShare : PySem.W.subIn K (.ref x_NoCourse) (.ref x_NoShare) = some false)
    (ss_NoCourse_NoDay : PySem.W.subIn K (.ref x_NoCourse) (.ref x_NoDay) = some false)
    (ss_NoCourse_TooLong : PySem.W.subIn K (.ref x_NoCourse) (.ref x_TooLong) = some false)
    (ss_NoCourse_NoWeb : PySem.W.subIn K (.ref x_NoCourse) (.ref x_NoWeb) = some false)
    (ss_NoCourse_NoDepths : PySem.W.subIn K (.ref x_NoCourse) (.ref x_NoDepths) = some false)
    (ss_NoCourse_NoRain : PySem.W.subIn K (.ref x_NoCourse) (.ref x_NoRain) = some false)
    (ss_NoCourse_NoDigs : PySem.W.subIn K (.ref x_NoCourse) (.ref x_NoDigs) = some false)
    (ss_NoCourse_NoTurned : PySem.W.subIn K (.ref x_NoCourse) (.ref x_NoTurned) = some false)
    (ss_NoCourse_NoPlace : PySem.W.subIn K (.ref x_NoCourse) (.ref x_NoPlace) = some false)
    (ss_NoCourse_NoBed : PySem.W.subIn K (.ref x_NoCourse) (.ref x_NoBed) = some false)
    (ss_NoCourse_NoTie : PySem.W.subIn K (.ref x_NoCourse) (.ref x_NoTie) = some false)
    (ss_NoCourse_VE : PySem.W.subIn K (.ref x_NoCourse) (.type "ValueError") = some true)
    (ss_NoDay_RillError : PySem.W.subIn K (.ref x_NoDay) (.ref x_RillError) = some true)
    (ss_NoDay_NoShare : PySem.W.subIn K (.ref x_NoDay) (.ref x_NoShare) = some false)
    (ss_NoDay_NoCourse : PySem.W.subIn K (.ref x_NoDay) (.ref x_NoCourse) = some false)
    (ss_NoDay_TooLong : PySem.W.subIn K (.ref x_NoDay) (.ref x_TooLong) = some false)
    (ss_NoDay_NoWeb : PySem.W.subIn K (.ref x_NoDay) (.ref x_NoWeb) = some false)
    (ss_NoDay_NoDepths : PySem.W.subIn K (.ref x_NoDay) (.ref x_NoDepths) = some false)
    (ss_NoDay_NoRain : PySem.W.subIn K (.ref x_NoDay) (.ref x_NoRain) = some false)
    (ss_NoDay_NoDigs : PySem.W.subIn K (.ref x_NoDay) (.ref x_NoDigs) = some false)
    (ss_NoDay_NoTurned : PySem.W.subIn K (.ref x_NoDay) (.ref x_NoTurned) = some false)
    (ss_NoDay_NoPlace : PySem.W.subIn K (.ref x_NoDay) (.ref x_NoPlace) = some false)
    (ss_NoDay_NoBed : PySem.W.subIn K (.ref x_NoDay) (.ref x_NoBed) = some false)
    (ss_NoDay_NoTie : PySem.W.subIn K (.ref x_NoDay) (.ref x_NoTie) = some false)
    (ss_NoDay_VE : PySem.W.subIn K (.ref x_NoDay) (.type "ValueError") = some true)
    (xl_TooLong : K.lookup x_TooLong = some (excClassObj nm_TooLong q_TooLong x_TooLong N_TooLong bs_TooLong bm_TooLong true sn_TooLong sub_TooLong ab_TooLong col_TooLong dd_TooLong m0_TooLong m1_TooLong m2_TooLong m3_TooLong m5_TooLong "ValueError.__new__"))
    (re_TooLong : PySem.HandSPX.refsVE bm_TooLong = true)
    (ss_TooLong_RillError : PySem.W.subIn K (.ref x_TooLong) (.ref x_RillError) = some true)
    (ss_TooLong_NoShare : PySem.W.subIn K (.ref x_TooLong) (.ref x_NoShare) = some false)
    (ss_TooLong_NoCourse : PySem.W.subIn K (.ref x_TooLong) (.ref x_NoCourse) = some false)
    (ss_TooLong_NoDay : PySem.W.subIn K (.ref x_TooLong) (.ref x_NoDay) = some false)
    (ss_TooLong_NoWeb : PySem.W.subIn K (.ref x_TooLong) (.ref x_NoWeb) = some false)
    (ss_TooLong_NoDepths : PySem.W.subIn K (.ref x_TooLong) (.ref x_NoDepths) = some false)
    (ss_TooLong_NoRain : PySem.W.subIn K (.ref x_TooLong) (.ref x_NoRain) = some false)
    (ss_TooLong_NoDigs : PySem.W.subIn K (.ref x_TooLong) (.ref x_NoDigs) = some false)
    (ss_TooLong_NoTurned : PySem.W.subIn K (.ref x_TooLong) (.ref x_NoTurned) = some false)
    (ss_TooLong_NoPlace : PySem.W.subIn K (.ref x_TooLong) (.ref x_NoPlace) = some false)
    (ss_TooLong_NoBed : PySem.W.subIn K (.ref x_TooLong) (.ref x_NoBed) = some false)
    (ss_TooLong_NoTie : PySem.W.subIn K (.ref x_TooLong) (.ref x_NoTie) = some false)
    (ss_TooLong_VE : PySem.W.subIn K (.ref x_TooLong) (.type "ValueError") = some true)
    (xl_NoWeb : K.lookup x_NoWeb = some (excClassObj nm_NoWeb q_NoWeb x_NoWeb N_NoWeb bs_NoWeb bm_NoWeb true sn_NoWeb sub_NoWeb ab_NoWeb col_NoWeb dd_NoWeb m0_NoWeb m1_NoWeb m2_NoWeb m3_NoWeb m5_NoWeb "ValueError.__new__"))
    (re_NoWeb : PySem.HandSPX.refsVE bm_NoWeb = true)
    (ss_NoWeb_RillError : PySem.W.subIn K (.ref x_NoWeb) (.ref x_RillError) = some true)
    (ss_NoWeb_NoShare : PySem.W.subIn K (.ref x_NoWeb) (.ref x_NoShare) = some false)
    (ss_NoWeb_NoCourse : PySem.W.subIn K (.ref x_NoWeb) (.ref x_NoCourse) = some false)
    (ss_NoWeb_NoDay : PySem.W.subIn K (.ref x_NoWeb) (.ref x_NoDay) = some false)
    (ss_NoWeb_TooLong : PySem.W.subIn K (.ref x_NoWeb) (.ref x_TooLong) = some false)
    (ss_NoWeb_NoDepths : PySem.W.subIn K (.ref x_NoWeb) (.ref x_NoDepths) = some false)
    (ss_NoWeb_NoRain : PySem.W.subIn K (.ref x_NoWeb) (.ref x_NoRain) = some false)
    (ss_NoWeb_NoDigs : PySem.W.subIn K (.ref x_NoWeb) (.ref x_NoDigs) = some false)
    (ss_NoWeb_NoTurned : PySem.W.subIn K (.ref x_NoWeb) (.ref x_NoTurned) = some false)
    (ss_NoWeb_NoPlace : PySem.W.subIn K (.ref x_NoWeb) (.ref x_NoPlace) = some false)
    (ss_NoWeb_NoBed : PySem.W.subIn K (.ref x_NoWeb) (.ref x_NoBed) = some false)
    (ss_NoWeb_NoTie : PySem.W.subIn K (.ref x_NoWeb) (.ref x_NoTie) = some false)
    (ss_NoWeb_VE : PySem.W.subIn K (.ref x_NoWeb) (.type "ValueError") = some true)
    (ss_NoDepths_RillError : PySem.W.subIn K (.ref x_NoDepths) (.ref x_RillError) = some true)
    (ss_NoDepths_NoShare : PySem.W.subIn K (.ref x_NoDepths) (.ref x_NoShare) = some false)
    (ss_NoDepths_NoCourse : PySem.W.subIn K (.ref x_NoDepths) (.ref x_NoCourse) = some false)
    (ss_NoDepths_NoDay : PySem.W.subIn K (.ref x_NoDepths) (.ref x_NoDay) = some false)
    (ss_NoDepths_TooLong : PySem.W.subIn K (.ref x_NoDepths) (.ref x_TooLong) = some false)
    (ss_NoDepths_NoWeb : PySem.W.subIn K (.ref x_NoDepths) (.ref x_NoWeb) = some false)
    (ss_NoDepths_NoRain : PySem.W.subIn K (.ref x_NoDepths) (.ref x_NoRain) = some false)
    (ss_NoDepths_NoDigs : PySem.W.subIn K (.ref x_NoDepths) (.ref x_NoDigs) = some false)
    (ss_NoDepths_NoTurned : PySem.W.subIn K (.ref x_NoDepths) (.ref x_NoTurned) = some false)
    (ss_NoDepths_NoPlace : PySem.W.subIn K (.ref x_NoDepths) (.ref x_NoPlace) = some false)
    (ss_NoDepths_NoBed : PySem.W.subIn K (.ref x_NoDepths) (.ref x_NoBed) = some false)
    (ss_NoDepths_NoTie : PySem.W.subIn K (.ref x_NoDepths) (.ref x_NoTie) = some false)
    (ss_NoDepths_VE : PySem.W.subIn K (.ref x_NoDepths) (.type "ValueError") = some true)
    (ss_NoRain_RillError : PySem.W.subIn K (.ref x_NoRain) (.ref x_RillError) = some true)
    (ss_NoRain_NoShare : PySem.W.subIn K (.ref x_NoRain) (.ref x_NoShare) = some false)
    (ss_NoRain_NoCourse : PySem.W.subIn K (.ref x_NoRain) (.ref x_NoCourse) = some false)
    (ss_NoRain_NoDay : PySem.W.subIn K (.ref x_NoRain) (.ref x_NoDay) = some false)
    (ss_NoRain_TooLong : PySem.W.subIn K (.ref x_NoRain) (.ref x_TooLong) = some false)
    (ss_NoRain_NoWeb : PySem.W.subIn K (.ref x_NoRain) (.ref x_NoWeb) = some false)
    (ss_NoRain_NoDepths : PySem.W.subIn K (.ref x_NoRain) (.ref x_NoDepths) = some false)
    (ss_NoRain_NoDigs : PySem.W.subIn K (.ref x_NoRain) (.ref x_NoDigs) = some false)
    (ss_NoRain_NoTurned : PySem.W.subIn K (.ref x_NoRain) (.ref x_NoTurned) = some false)
    (ss_NoRain_NoPlace : PySem.W.subIn K (.ref x_NoRain) (.ref x_NoPlace) = some false)
    (ss_NoRain_NoBed : PySem.W.subIn K (.ref x_NoRain) (.ref x_NoBed) = some false)
    (ss_NoRain_NoTie : PySem.W.subIn K (.ref x_NoRain) (.ref x_NoTie) = some false)
    (ss_NoRain_VE : PySem.W.subIn K (.ref x_NoRain) (.type "ValueError") = some true)
    (ss_NoDigs_RillError : PySem.W.subIn K (.ref x_NoDigs) (.ref x_RillError) = some true)
    (ss_NoDigs_NoShare : PySem.W.subIn K (.ref x_NoDigs) (.ref x_NoShare) = some false)
    (ss_NoDigs_NoCourse : PySem.W.subIn K (.ref x_NoDigs) (.ref x_NoCourse) = some false)
    (ss_NoDigs_NoDay : PySem.W.subIn K (.ref x_NoDigs) (.ref x_NoDay) = some false)
    (ss_NoDigs_TooLong : PySem.W.subIn K (.ref x_NoDigs) (.ref x_TooLong) = some false)
    (ss_NoDigs_NoWeb : PySem.W.subIn K (.ref x_NoDigs) (.ref x_NoWeb) = some false)
    (ss_NoDigs_NoDepths : PySem.W.subIn K (.ref x_NoDigs) (.ref x_NoDepths) = some false)
    (ss_NoDigs_NoRain : PySem.W.subIn K (.ref x_NoDigs) (.ref x_NoRain) = some false)
    (ss_NoDigs_NoTurned : PySem.W.subIn K (.ref x_NoDigs) (.ref x_NoTurned) = some false)
    (ss_NoDigs_NoPlace : PySem.W.subIn K (.ref x_NoDigs) (.ref x_NoPlace) = some false)
    (ss_NoDigs_NoBed : PySem.W.subIn K (.ref x_NoDigs) (.ref x_NoBed) = some false)
    (ss_NoDigs_NoTie : PySem.W.subIn K (.ref x_NoDigs) (.ref x_NoTie) = some false)
    (ss_NoDigs_VE : PySem.W.subIn K (.ref x_NoDigs) (.type "ValueError") = some true)
    (ss_NoTurned_RillError : PySem.W.subIn K (.ref x_NoTurned) (.ref x_RillError) = some true)
    (ss_NoTurned_NoShare : PySem.W.subIn K (.ref x_NoTurned) (.ref x_NoShare) = some false)
    (ss_NoTurned_NoCourse : PySem.W.subIn K (.ref x_NoTurned) (.ref x_NoCourse) = some false)
    (ss_NoTurned_NoDay : PySem.W.subIn K (.ref x_NoTurned) (.ref x_NoDay) = some false)
    (ss_NoTurned_TooLong : PySem.W.subIn K (.ref x_NoTurned) (.ref x_TooLong) = some false)
    (ss_NoTurned_NoWeb : PySem.W.subIn K (.ref x_NoTurned) (.ref x_NoWeb) = some false)
    (ss_NoTurned_NoDepths : PySem.W.subIn K (.ref x_NoTurned) (.ref x_NoDepths) = some false)
    (ss_NoTurned_NoRain : PySem.W.subIn K (.ref x_NoTurned) (.ref x_NoRain) = some false)
    (ss_NoTurned_NoDigs : PySem.W.subIn K (.ref x_NoTurned) (.ref x_NoDigs) = some false)
    (ss_NoTurned_NoPlace : PySem.W.subIn K (.ref x_NoTurned) (.ref x_NoPlace) = some false)
    (ss_NoTurned_NoBed : PySem.W.subIn K (.ref x_NoTurned) (.ref x_NoBed) = some false)
    (ss_NoTurned_NoTie : PySem.W.subIn K (.ref x_NoTurned) (.ref x_NoTie) = some false)
    (ss_NoTurned_VE : PySem.W.subIn K (.ref x_NoTurned) (.type "ValueError") = some true)
    (xl_NoPlace : K.lookup x_NoPlace = some (excClassObj nm_NoPlace q_NoPlace x_NoPlace N_NoPlace bs_NoPlace bm_NoPlace true sn_NoPlace sub_NoPlace ab_NoPlace col_NoPlace dd_NoPlace m0_NoPlace m1_NoPlace m2_NoPlace m3_NoPlace m5_NoPlace "ValueError.__new__"))
    (re_NoPlace : PySem.HandSPX.refsVE bm_NoPlace = true)
    (ss_NoPlace_RillError : PySem.W.subIn K (.ref x_NoPlace) (.ref x_RillError) = some true)
    (ss_NoPlace_NoShare : PySem.W.subIn K (.ref x_NoPlace) (.ref x_NoShare) = some false)
    (ss_NoPlace_NoCourse : PySem.W.subIn K (.ref x_NoPlace) (.ref x_NoCourse) = some false)
    (ss_NoPlace_NoDay : PySem.W.subIn K (.ref x_NoPlace) (.ref x_NoDay) = some false)
    (ss_NoPlace_TooLong : PySem.W.subIn K (.ref x_NoPlace) (.ref x_TooLong) = some false)
    (ss_NoPlace_NoWeb : PySem.W.subIn K (.ref x_NoPlace) (.ref x_NoWeb) = some false)
    (ss_NoPlace_NoDepths : PySem.W.subIn K (.ref x_NoPlace) (.ref x_NoDepths) = some false)
    (ss_NoPlace_NoRain : PySem.W.subIn K (.ref x_NoPlace) (.ref x_NoRain) = some false)
    (ss_NoPlace_NoDigs : PySem.W.subIn K (.ref x_NoPlace) (.ref x_NoDigs) = some false)
    (ss_NoPlace_NoTurned : PySem.W.subIn K (.ref x_NoPlace) (.ref x_NoTurned) = some false)
    (ss_NoPlace_NoBed : PySem.W.subIn K (.ref x_NoPlace) (.ref x_NoBed) = some false)
    (ss_NoPlace_NoTie : PySem.W.subIn K (.ref x_NoPlace) (.ref x_NoTie) = some false)
    (ss_NoPlace_VE : PySem.W.subIn K (.ref x_NoPlace) (.type "ValueError") = some true)
    (xl_NoBed : K.lookup x_NoBed = some (excClassObj nm_NoBed q_NoBed x_NoBed N_NoBed bs_NoBed bm_NoBed true sn_NoBed sub_NoBed ab_NoBed col_NoBed dd_NoBed m0_NoBed m1_NoBed m2_NoBed m3_NoBed m5_NoBed "ValueError.__new__"))
    (re_NoBed : PySem.HandSPX.refsVE bm_NoBed = true)
    (ss_NoBed_RillError : PySem.W.subIn K (.ref x_NoBed) (.ref x_RillError) = some true)
    (ss_NoBed_NoShare : PySem.W.subIn K (.ref x_NoBed) (.ref x_NoShare) = some false)
    (ss_NoBed_NoCourse : PySem.W.subIn K (.ref x_NoBed) (.ref x_NoCourse) = some false)
    (ss_NoBed_NoDay : PySem.W.subIn K (.ref x_NoBed) (.ref x_NoDay) = some false)
    (ss_NoBed_TooLong : PySem.W.subIn K (.ref x_NoBed) (.ref x_TooLong) = some false)
    (ss_NoBed_NoWeb : PySem.W.subIn K (.ref x_NoBed) (.ref x_NoWeb) = some false)
    (ss_NoBed_NoDepths : PySem.W.subIn K (.ref x_NoBed) (.ref x_NoDepths) = some false)
    (ss_NoBed_NoRain : PySem.W.subIn K (.ref x_NoBed) (.ref x_NoRain) = some false)
    (ss_NoBed_NoDigs : PySem.W.subIn K (.ref x_NoBed) (.ref x_NoDigs) = some false)
    (ss_NoBed_NoTurned : PySem.W.subIn K (.ref x_NoBed) (.ref x_NoTurned) = some false)
    (ss_NoBed_NoPlace : PySem.W.subIn K (.ref x_NoBed) (.ref x_NoPlace) = some false)
    (ss_NoBed_NoTie : PySem.W.subIn K (.ref x_NoBed) (.ref x_NoTie) = some false)
    (ss_NoBed_VE : PySem.W.subIn K (.ref x_NoBed) (.type "ValueError") = some true)
    (ss_NoTie_RillError : PySem.W.subIn K (.ref x_NoTie) (.ref x_RillError) = some true)
    (ss_NoTie_NoShare : PySem.W.subIn K (.ref x_NoTie) (.ref x_NoShare) = some false)
    (ss_NoTie_NoCourse : PySem.W.subIn K (.ref x_NoTie) (.ref x_NoCourse) = some false)
    (ss_NoTie_NoDay : PySem.W.subIn K (.ref x_NoTie) (.ref x_NoDay) = some false)
    (ss_NoTie_TooLong : PySem.W.subIn K (.ref x_NoTie) (.ref x_TooLong) = some false)
    (ss_NoTie_NoWeb : PySem.W.subIn K (.ref x_NoTie) (.ref x_NoWeb) = some false)
    (ss_NoTie_NoDepths : PySem.W.subIn K (.ref x_NoTie) (.ref x_NoDepths) = some false)
    (ss_NoTie_NoRain : PySem.W.subIn K (.ref x_NoTie) (.ref x_NoRain) = some false)
    (ss_NoTie_NoDigs : PySem.W.subIn K (.ref x_NoTie) (.ref x_NoDigs) = some false)
    (ss_NoTie_NoTurned : PySem.W.subIn K (.ref x_NoTie) (.ref x_NoTurned) = some false)
    (ss_NoTie_NoPlace : PySem.W.subIn K (.ref x_NoTie) (.ref x_NoPlace) = some false)
    (ss_NoTie_NoBed : PySem.W.subIn K (.ref x_NoTie) (.ref x_NoBed) = some false)
    (ss_NoTie_VE : PySem.W.subIn K (.ref x_NoTie) (.type "ValueError") = some true)
    (kx_NoShare : PySem.W.keepIn K (.ref x_NoShare) = true)
    (hg_NoShare : PySem.W.findIn K (.ref x_NoShare) "__getattribute__" = some (some (.builtin "BaseException.__getattribute__")))
    (hk_NoShare : PySem.W.findIn K (.ref x_NoShare) "__getattr__" = some none)
    (hs_NoShare : PySem.W.subIn K (.ref x_NoShare) (.type "BaseException") = some true)
    (hd_NoShare : PySem.W.hasDictIn K x_NoShare = true)
    (ha_NoShare : PySem.W.findIn K (.ref x_NoShare) "__class__" = some (some (.builtin "object.__class__")))
    (hm_NoShare : PySem.W.mroIn K x_NoShare (.type "object") = some true)
    (q_NoShare : PySem.W.excIn K x_NoShare [.type "ValueError", .type "Exception", .type "BaseException", .type "object"] "ValueError.__new__" = true)
    (st_NoShare : PySem.W.findIn K (.ref x_NoShare) "__str__" = some (some (.builtin "BaseException.__str__")))
    (kx_NoCourse : PySem.W.keepIn K (.ref x_NoCourse) = true)
    (hg_NoCourse : PySem.W.findIn K (.ref x_NoCourse) "__getattribute__" = some (some (.builtin "BaseException.__getattribute__")))
    (hk_NoCourse : PySem.W.findIn K (.ref x_NoCourse) "__getattr__" = some none)
    (hs_NoCourse : PySem.W.subIn K (.ref x_NoCourse) (.type "BaseException") = some true)
    (hd_NoCourse : PySem.W.hasDictIn K x_NoCourse = true)
    (ha_NoCourse : PySem.W.findIn K (.ref x_NoCourse) "__class__" = some (some (.builtin "object.__class__")))
    (hm_NoCourse : PySem.W.mroIn K x_NoCourse (.type "object") = some true)
    (q_NoCourse : PySem.W.excIn K x_NoCourse [.type "ValueError", .type "Exception", .type "BaseException", .type "object"] "ValueError.__new__" = true)
    (st_NoCourse : PySem.W.findIn K (.ref x_NoCourse) "__str__" = some (some (.builtin "BaseException.__str__")))
    (kx_NoDay : PySem.W.keepIn K (.ref x_NoDay) = true)
    (hg_NoDay : PySem.W.findIn K (.ref x_NoDay) "__getattribute__" = some (some (.builtin "BaseException.__getattribute__")))
    (hk_NoDay : PySem.W.findIn K (.ref x_NoDay) "__getattr__" = some none)
    (hs_NoDay : PySem.W.subIn K (.ref x_NoDay) (.type "BaseException") = some true)
    (hd_NoDay : PySem.W.hasDictIn K x_NoDay = true)
    (ha_NoDay : PySem.W.findIn K (.ref x_NoDay) "__class__" = some (some (.builtin "object.__class__")))
    (hm_NoDay : PySem.W.mroIn K x_NoDay (.type "object") = some true)
    (q_NoDay : PySem.W.excIn K x_NoDay [.type "ValueError", .type "Exception", .type "BaseException", .type "object"] "ValueError.__new__" = true)
    (st_NoDay : PySem.W.findIn K (.ref x_NoDay) "__str__" = some (some (.builtin "BaseException.__str__")))
    (kx_TooLong : PySem.W.keepIn K (.ref x_TooLong) = true)
    (hg_TooLong : PySem.W.findIn K (.ref x_TooLong) "__getattribute__" = some (some (.builtin "BaseException.__getattribute__")))
    (hk_TooLong : PySem.W.findIn K (.ref x_TooLong) "__getattr__" = some none)
    (hs_TooLong : PySem.W.subIn K (.ref x_TooLong) (.type "BaseException") = some true)
    (hd_TooLong : PySem.W.hasDictIn K x_TooLong = true)
    (ha_TooLong : PySem.W.findIn K (.ref x_TooLong) "__class__" = some (some (.builtin "object.__class__")))
    (hm_TooLong : PySem.W.mroIn K x_TooLong (.type "object") = some true)
    (sa_TooLong : PySem.W.findIn K (.ref x_TooLong) "__setattr__" = some (some (.builtin "object.__setattr__")))
    (no_TooLong : PySem.W.findIn K (.ref x_TooLong) "place" = some none)
    (kx_NoWeb : PySem.W.keepIn K (.ref x_NoWeb) = true)
    (hg_NoWeb : PySem.W.findIn K (.ref x_NoWeb) "__getattribute__" = some (some (.builtin "BaseException.__getattribute__")))
    (hk_NoWeb : PySem.W.findIn K (.ref x_NoWeb) "__getattr__" = some none)
    (hs_NoWeb : PySem.W.subIn K (.ref x_NoWeb) (.type "BaseException") = some true)
    (hd_NoWeb : PySem.W.hasDictIn K x_NoWeb = true)
    (ha_NoWeb : PySem.W.findIn K (.ref x_NoWeb) "__class__" = some (some (.builtin "object.__class__")))
    (hm_NoWeb : PySem.W.mroIn K x_NoWeb (.type "object") = some true)
    (sa_NoWeb : PySem.W.findIn K (.ref x_NoWeb) "__setattr__" = some (some (.builtin "object.__setattr__")))
    (no_NoWeb : PySem.W.findIn K (.ref x_NoWeb) "part" = some none)
    (kx_NoDepths : PySem.W.keepIn K (.ref x_NoDepths) = true)
    (hg_NoDepths : PySem.W.findIn K (.ref x_NoDepths) "__getattribute__" = some (some (.builtin "BaseException.__getattribute__")))
    (hk_NoDepths : PySem.W.findIn K (.ref x_NoDepths) "__getattr__" = some none)
    (hs_NoDepths : PySem.W.subIn K (.ref x_NoDepths) (.type "BaseException") = some true)
    (hd_NoDepths : PySem.W.hasDictIn K x_NoDepths = true)
    (ha_NoDepths : PySem.W.findIn K (.ref x_NoDepths) "__class__" = some (some (.builtin "object.__class__")))
    (hm_NoDepths : PySem.W.mroIn K x_NoDepths (.type "object") = some true)
    (q_NoDepths : PySem.W.excIn K x_NoDepths [.type "ValueError", .type "Exception", .type "BaseException", .type "object"] "ValueError.__new__" = true)
    (st_NoDepths : PySem.W.findIn K (.ref x_NoDepths) "__str__" = some (some (.builtin "BaseException.__str__")))
    (kx_NoRain : PySem.W.keepIn K (.ref x_NoRain) = true)
    (hg_NoRain : PySem.W.findIn K (.ref x_NoRain) "__getattribute__" = some (some (.builtin "BaseException.__getattribute__")))
    (hk_NoRain : PySem.W.findIn K (.ref x_NoRain) "__getattr__" = some none)
    (hs_NoRain : PySem.W.subIn K (.ref x_NoRain) (.type "BaseException") = some true)
    (hd_NoRain : PySem.W.hasDictIn K x_NoRain = true)
    (ha_NoRain : PySem.W.findIn K (.ref x_NoRain) "__class__" = some (some (.builtin "object.__class__")))
    (hm_NoRain : PySem.W.mroIn K x_NoRain (.type "object") = some true)
    (q_NoRain : PySem.W.excIn K x_NoRain [.type "ValueError", .type "Exception", .type "BaseException", .type "object"] "ValueError.__new__" = true)
    (st_NoRain : PySem.W.findIn K (.ref x_NoRain) "__str__" = some (some (.builtin "BaseException.__str__")))
    (kx_NoDigs : PySem.W.keepIn K (.ref x_NoDigs) = true)
    (hg_NoDigs : PySem.W.findIn K (.ref x_NoDigs) "__getattribute__" = some (some (.builtin "BaseException.__getattribute__")))
    (hk_NoDigs : PySem.W.findIn K (.ref x_NoDigs) "__getattr__" = some none)
    (hs_NoDigs : PySem.W.subIn K (.ref x_NoDigs) (.type "BaseException") = some true)
    (hd_NoDigs : PySem.W.hasDictIn K x_NoDigs = true)
    (ha_NoDigs : PySem.W.findIn K (.ref x_NoDigs) "__class__" = some (some (.builtin "object.__class__")))
    (hm_NoDigs : PySem.W.mroIn K x_NoDigs (.type "object") = some true)
    (q_NoDigs : PySem.W.excIn K x_NoDigs [.type "ValueError", .type "Exception", .type "BaseException", .type "object"] "ValueError.__new__" = true)
    (st_NoDigs : PySem.W.findIn K (.ref x_NoDigs) "__str__" = some (some (.builtin "BaseException.__str__")))
    (kx_NoTurned : PySem.W.keepIn K (.ref x_NoTurned) = true)
    (hg_NoTurned : PySem.W.findIn K (.ref x_NoTurned) "__getattribute__" = some (some (.builtin "BaseException.__getattribute__")))
    (hk_NoTurned : PySem.W.findIn K (.ref x_NoTurned) "__getattr__" = some none)
    (hs_NoTurned : PySem.W.subIn K (.ref x_NoTurned) (.type "BaseException") = some true)
    (hd_NoTurned : PySem.W.hasDictIn K x_NoTurned = true)
    (ha_NoTurned : PySem.W.findIn K (.ref x_NoTurned) "__class__" = some (some (.builtin "object.__class__")))
    (hm_NoTurned : PySem.W.mroIn K x_NoTurned (.type "object") = some true)
    (q_NoTurned : PySem.W.excIn K x_NoTurned [.type "ValueError", .type "Exception", .type "BaseException", .type "object"] "ValueError.__new__" = true)
    (st_NoTurned : PySem.W.findIn K (.ref x_NoTurned) "__str__" = some (some (.builtin "BaseException.__str__")))
    (kx_NoPlace : PySem.W.keepIn K (.ref x_NoPlace) = true)
    (hg_NoPlace : PySem.W.findIn K (.ref x_NoPlace) "__getattribute__" = some (some (.builtin "BaseException.__getattribute__")))
    (hk_NoPlace : PySem.W.findIn K (.ref x_NoPlace) "__getattr__" = some none)
    (hs_NoPlace : PySem.W.subIn K (.ref x_NoPlace) (.type "BaseException") = some true)
    (hd_NoPlace : PySem.W.hasDictIn K x_NoPlace = true)
    (ha_NoPlace : PySem.W.findIn K (.ref x_NoPlace) "__class__" = some (some (.builtin "object.__class__")))
    (hm_NoPlace : PySem.W.mroIn K x_NoPlace (.type "object") = some true)
    (sa_NoPlace : PySem.W.findIn K (.ref x_NoPlace) "__setattr__" = some (some (.builtin "object.__setattr__")))
    (no_NoPlace : PySem.W.findIn K (.ref x_NoPlace) "place" = some none)
    (kx_NoBed : PySem.W.keepIn K (.ref x_NoBed) = true)
    (hg_NoBed : PySem.W.findIn K (.ref x_NoBed) "__getattribute__" = some (some (.builtin "BaseException.__getattribute__")))
    (hk_NoBed : PySem.W.findIn K (.ref x_NoBed) "__getattr__" = some none)
    (hs_NoBed : PySem.W.subIn K (.ref x_NoBed) (.type "BaseException") = some true)
    (hd_NoBed : PySem.W.hasDictIn K x_NoBed = true)
    (ha_NoBed : PySem.W.findIn K (.ref x_NoBed) "__class__" = some (some (.builtin "object.__class__")))
    (hm_NoBed : PySem.W.mroIn K x_NoBed (.type "object") = some true)
    (sa_NoBed : PySem.W.findIn K (.ref x_NoBed) "__setattr__" = some (some (.builtin "object.__setattr__")))
    (no_NoBed : PySem.W.findIn K (.ref x_NoBed) "bed" = some none)
    (kx_NoTie : PySem.W.keepIn K (.ref x_NoTie) = true)
    (hg_NoTie : PySem.W.findIn K (.ref x_NoTie) "__getattribute__" = some (some (.builtin "BaseException.__getattribute__")))
    (hk_NoTie : PySem.W.findIn K (.ref x_NoTie) "__getattr__" = some none)
    (hs_NoTie : PySem.W.subIn K (.ref x_NoTie) (.type "BaseException") = some true)
    (hd_NoTie : PySem.W.hasDictIn K x_NoTie = true)
    (ha_NoTie : PySem.W.findIn K (.ref x_NoTie) "__class__" = some (some (.builtin "object.__class__")))
    (hm_NoTie : PySem.W.mroIn K x_NoTie (.type "object") = some true)
    (q_NoTie : PySem.W.excIn K x_NoTie [.type "ValueError", .type "Exception", .type "BaseException", .type "object"] "ValueError.__new__" = true)
    (st_NoTie : PySem.W.findIn K (.ref x_NoTie) "__str__" = some (some (.builtin "BaseException.__str__")))
    (hn : PySem.W.specialIn K (.builtin "object.__class__") "__get__" = some (some (.builtin "getset_descriptor.__get__")))
    (ht : PySem.W.takesIn K (.builtin "object.__class__") = some true)
    (rd : PySem.W.readsIn K x_RillError (.type "type") = true)
    (rg : PySem.W.specialIn K (.ref x_RillError) "__getattribute__" = some (some (.builtin "type.__getattribute__")))
    (vi : PySem.W.findCls K (.ref x_RillError) (.type "type") "__init__" = some (.val (.builtin "ValueError.__init__"))) : Nonempty (Facts K mg) :=
  ⟨{ x_RillError := x_RillError, gx_RillError := PySem.W.mg_of X G ax_RillError,
     x_NoShare := x_NoShare, gx_NoShare := PySem.W.mg_of X G ax_NoShare,
     x_NoCourse := x_NoCourse, gx_NoCourse := PySem.W.mg_of X G ax_NoCourse,
     x_NoDay := x_NoDay, gx_NoDay := PySem.W.mg_of X G ax_NoDay,
     x_TooLong := x_TooLong, gx_TooLong := PySem.W.mg_of X G ax_TooLong,
     x_NoWeb := x_NoWeb, gx_NoWeb := PySem.W.mg_of X G ax_NoWeb,
     x_NoDepths := x_NoDepths, gx_NoDepths := PySem.W.mg_of X G ax_NoDepths,
     x_NoRain := x_NoRain, gx_NoRain := PySem.W.mg_of X G ax_NoRain,
     x_NoDigs := x_NoDigs, gx_NoDigs := PySem.W.mg_of X G ax_NoDigs,
     x_NoTurned := x_NoTurned, gx_NoTurned := PySem.W.mg_of X G ax_NoTurned,
     x_NoPlace := x_NoPlace, gx_NoPlace := PySem.W.mg_of X G ax_NoPlace,
     x_NoBed := x_NoBed, gx_NoBed := PySem.W.mg_of X G ax_NoBed,
     x_NoTie := x_NoTie, gx_NoTie := PySem.W.mg_of X G ax_NoTie,
     f_TooLong_init := f_TooLong_init, d_TooLong_init := _, F_TooLong_init := (⟨⟨_, _, _, _, _, _, _, _, _, _, rfl, l_TooLong_init, e_TooLong_init, .inl ⟨rfl, rfl⟩, .inl rfl⟩, k_TooLong_init⟩ : FunD K "__init__" "TooLong.__init__" (defArgs s_TooLong_init) (defBody s_TooLong_init) (defScope s_TooLong_init) [] [] f_TooLong_init _), b_TooLong_init := FunD.bindsN (⟨⟨_, _, _, _, _, _, _, _, _, _, rfl, l_TooLong_init, e_TooLong_init, .inl ⟨rfl, rfl⟩, .inl rfl⟩, k_TooLong_init⟩ : FunD K "__init__" "TooLong.__init__" (defArgs s_TooLong_init) (defBody s_TooLong_init) (defScope s_TooLong_init) [] [] f_TooLong_init _) fun _ _ _ _ _ _ us hl => match us, hl with | [_, _], _ => rfl, i_TooLong_init := a_TooLong_init, t_TooLong_init := i_TooLong_init,
     f_NoWeb_init := f_NoWeb_init, d_NoWeb_init := _, F_NoWeb_init := (⟨⟨_, _, _, _, _, _, _, _, _, _, rfl, l_NoWeb_init, e_NoWeb_init, .inl ⟨rfl, rfl⟩, .inl rfl⟩, k_NoWeb_init⟩ : FunD K "__init__" "NoWeb.__init__" (defArgs s_NoWeb_init) (defBody s_NoWeb_init) (defScope s_NoWeb_init) [] [] f_NoWeb_init _), b_NoWeb_init := FunD.bindsN (⟨⟨_, _, _, _, _, _, _, _, _, _, rfl, l_NoWeb_init, e_NoWeb_init, .inl ⟨rfl, rfl⟩, .inl rfl⟩, k_NoWeb_init⟩ : FunD K "__init__" "NoWeb.__init__" (defArgs s_NoWeb_init) (defBody s_NoWeb_init) (defScope s_NoWeb_init) [] [] f_NoWeb_init _) fun _ _ _ _ _ _ us hl => match us, hl with | [_, _], _ => rfl, i_NoWeb_init := a_NoWeb_init, t_NoWeb_init := i_NoWeb_init,
     f_NoPlace_init := f_NoPlace_init, d_NoPlace_init := _, F_NoPlace_init := (⟨⟨_, _, _, _, _, _, _, _, _, _, rfl, l_NoPlace_init, e_NoPlace_init, .inl ⟨rfl, rfl⟩, .inl rfl⟩, k_NoPlace_init⟩ : FunD K "__init__" "NoPlace.__init__" (defArgs s_NoPlace_init) (defBody s_NoPlace_init) (defScope s_NoPlace_init) [] [] f_NoPlace_init _), b_NoPlace_init := FunD.bindsN (⟨⟨_, _, _, _, _, _, _, _, _, _, rfl, l_NoPlace_init, e_NoPlace_init, .inl ⟨rfl, rfl⟩, .inl rfl⟩, k_NoPlace_init⟩ : FunD K "__init__" "NoPlace.__init__" (defArgs s_NoPlace_init) (defBody s_NoPlace_init) (defScope s_NoPlace_init) [] [] f_NoPlace_init _) fun _ _ _ _ _ _ us hl => match us, hl with | [_, _], _ => rfl, i_NoPlace_init := a_NoPlace_init, t_NoPlace_init := i_NoPlace_init,
     f_NoBed_init := f_NoBed_init, d_NoBed_init := _, F_NoBed_init := (⟨⟨_, _, _, _, _, _, _, _, _, _, rfl, l_NoBed_init, e_NoBed_init, .inl ⟨rfl, rfl⟩, .inl rfl⟩, k_NoBed_init⟩ : FunD K "__init__" "NoBed.__init__" (defArgs s_NoBed_init) (defBody s_NoBed_init) (defScope s_NoBed_init) [] [] f_NoBed_init _), b_NoBed_init := FunD.bindsN (⟨⟨_, _, _, _, _, _, _, _, _, _, rfl, l_NoBed_init, e_NoBed_init, .inl ⟨rfl, rfl⟩, .inl rfl⟩, k_NoBed_init⟩ : FunD K "__init__" "NoBed.__init__" (defArgs s_NoBed_init) (defBody s_NoBed_init) (defScope s_NoBed_init) [] [] f_NoBed_init _) fun _ _ _ _ _ _ us hl => match us, hl with | [_, _], _ => rfl, i_NoBed_init := a_NoBed_init, t_NoBed_init := i_NoBed_init,
     f_law_well := f_law_well, d_law_well := _, F_law_well := (⟨⟨_, _, _, _, _, _, _, _, _, _, rfl, l_law_well, e_law_well, .inl ⟨rfl, rfl⟩, .inl rfl⟩, k_law_well⟩ : FunD K "_law_well" "_law_well" (defArgs s_law_well) (defBody s_law_well) (defScope s_law_well) [] [] f_law_well _), b_law_well := FunD.bindsN (⟨⟨_, _, _, _, _, _, _, _, _, _, rfl, l_law_well, e_law_well, .inl ⟨rfl, rfl⟩, .inl rfl⟩, k_law_well⟩ : FunD K "_law_well" "_law_well" (defArgs s_law_well) (defBody s_law_well) (defScope s_law_well) [] [] f_law_well _) fun _ _ _ _ _ _ us hl => match us, hl with | [_], _ => rfl, g_law_well := PySem.W.mg_of X G a_law_well,
     f_law_draw := f_law_draw, d_law_draw := _, F_law_draw := (⟨⟨_, _, _, _, _, _, _, _, _, _, rfl, l_law_draw, e_law_draw, .inl ⟨rfl, rfl⟩, .inl rfl⟩, k_law_draw⟩ : FunD K "_law_draw" "_law_draw" (defArgs s_law_draw) (defBody s_law_draw) (defScope s_law_draw) [] [] f_law_draw _), b_law_draw := FunD.bindsN (⟨⟨_, _, _, _, _, _, _, _, _, _, rfl, l_law_draw, e_law_draw, .inl ⟨rfl, rfl⟩, .inl rfl⟩, k_law_draw⟩ : FunD K "_law_draw" "_law_draw" (defArgs s_law_draw) (defBody s_law_draw) (defScope s_law_draw) [] [] f_law_draw _) fun _ _ _ _ _ _ us hl => match us, hl with | [_, _], _ => rfl, g_law_draw := PySem.W.mg_of X G a_law_draw,
     f_law_one := f_law_one, d_law_one := _, F_law_one := (⟨⟨_, _, _, _, _, _, _, _, _, _, rfl, l_law_one, e_law_one, .inl ⟨rfl, rfl⟩, .inl rfl⟩, k_law_one⟩ : FunD K "_law_one" "_law_one" (defArgs s_law_one) (defBody s_law_one) (defScope s_law_one) [] [] f_law_one _), b_law_one := FunD.bindsN (⟨⟨_, _, _, _, _, _, _, _, _, _, rfl, l_law_one, e_law_one, .inl ⟨rfl, rfl⟩, .inl rfl⟩, k_law_one⟩ : FunD K "_law_one" "_law_one" (defArgs s_law_one) (defBody s_law_one) (defScope s_law_one) [] [] f_law_one _) fun _ _ _ _ _ _ us hl => match us, hl with | [_, _], _ => rfl, g_law_one := PySem.W.mg_of X G a_law_one,
     f_law_plain := f_law_plain, d_law_plain := _, F_law_plain := (⟨⟨_, _, _, _, _, _, _, _, _, _, rfl, l_law_plain, e_law_plain, .inl ⟨rfl, rfl⟩, .inl rfl⟩, k_law_plain⟩ : FunD K "_law_plain" "_law_plain" (defArgs s_law_plain) (defBody s_law_plain) (defScope s_law_plain) [] [] f_law_plain _), b_law_plain := FunD.bindsN (⟨⟨_, _, _, _, _, _, _, _, _, _, rfl, l_law_plain, e_law_plain, .inl ⟨rfl, rfl⟩, .inl rfl⟩, k_law_plain⟩ : FunD K "_law_plain" "_law_plain" (defArgs s_law_plain) (defBody s_law_plain) (defScope s_law_plain) [] [] f_law_plain _) fun _ _ _ _ _ _ us hl => match us, hl with | [_], _ => rfl, g_law_plain := PySem.W.mg_of X G a_law_plain,
     f_law_with := f_law_with, d_law_with := _, F_law_with := (⟨⟨_, _, _, _, _, _, _, _, _, _, rfl, l_law_with, e_law_with, .inl ⟨rfl, rfl⟩, .inl rfl⟩, k_law_with⟩ : FunD K "_law_with" "_law_with" (defArgs s_law_with) (defBody s_law_with) (defScope s_law_with) [] [] f_law_with _), b_law_with := FunD.bindsN (⟨⟨_, _, _, _, _, _, _, _, _, _, rfl, l_law_with, e_law_with, .inl ⟨rfl, rfl⟩, .inl rfl⟩, k_law_with⟩ : FunD K "_law_with" "_law_with" (defArgs s_law_with) (defBody s_law_with) (defScope s_law_with) [] [] f_law_with _) fun _ _ _ _ _ _ us hl => match us, hl with | [_], _ => rfl, g_law_with := PySem.W.mg_of X G a_law_with,
     f_law_kinds := f_law_kinds, d_law_kinds := _, F_law_kinds := (⟨⟨_, _, _, _, _, _, _, _, _, _, rfl, l_law_kinds, e_law_kinds, .inl ⟨rfl, rfl⟩, .inl rfl⟩, k_law_kinds⟩ : FunD K "_law_kinds" "_law_kinds" (defArgs s_law_kinds) (defBody s_law_kinds) (defScope s_law_kinds) [] [] f_law_kinds _), b_law_kinds := FunD.bindsN (⟨⟨_, _, _, _, _, _, _, _, _, _, rfl, l_law_kinds, e_law_kinds, .inl ⟨rfl, rfl⟩, .inl rfl⟩, k_law_kinds⟩ : FunD K "_law_kinds" "_law_kinds" (defArgs s_law_kinds) (defBody s_law_kinds) (defScope s_law_kinds) [] [] f_law_kinds _) fun _ _ _ _ _ _ us hl => match us, hl with | [_], _ => rfl, g_law_kinds := PySem.W.mg_of X G a_law_kinds,
     f_law := f_law, d_law := _, F_law := (⟨⟨_, _, _, _, _, _, _, _, _, _, rfl, l_law, e_law, .inl ⟨rfl, rfl⟩, .inl rfl⟩, k_law⟩ : FunD K "law" "law" (defArgs s_law) (defBody s_law) (defScope s_law) [] [] f_law _), b_law := FunD.bindsN (⟨⟨_, _, _, _, _, _, _, _, _, _, rfl, l_law, e_law, .inl ⟨rfl, rfl⟩, .inl rfl⟩, k_law⟩ : FunD K "law" "law" (defArgs s_law) (defBody s_law) (defScope s_law) [] [] f_law _) fun _ _ _ _ _ _ us hl => match us, hl with | [_], _ => rfl, g_law := PySem.W.mg_of X G a_law,
     bl := fun s u => .of_eq rfl,
     n_ValueError := PySem.W.mg_none_of X G n_ValueError,
     n_bool := PySem.W.mg_none_of X G n_bool,
     n_enumerate := PySem.W.mg_none_of X G n_enumerate,
     n_int := PySem.W.mg_none_of X G n_int,
     n_isinstance := PySem.W.mg_none_of X G n_isinstance,
     n_len := PySem.W.mg_none_of X G n_len,
     n_range := PySem.W.mg_none_of X G n_range,
     n_str := PySem.W.mg_none_of X G n_str,
     ty_RillError := ty_RillError,
     ty_NoShare := ty_NoShare,
     ty_NoCourse := ty_NoCourse,
     ty_NoDay := ty_NoDay,
     ty_TooLong := ty_TooLong,
     ty_NoWeb := ty_NoWeb,
     ty_NoDepths := ty_NoDepths,
     ty_NoRain := ty_NoRain,
     ty_NoDigs := ty_NoDigs,
     ty_NoTurned := ty_NoTurned,
     ty_NoPlace := ty_NoPlace,
     ty_NoBed := ty_NoBed,
     ty_NoTie := ty_NoTie,
     is_NoShare_RillError := kit_own ic_RillError ty_RillError ss_RillError_RillError ss_NoShare_RillError,
     is_NoShare_NoShare := kit_own ic_NoShare ty_NoShare ss_NoShare_NoShare ss_NoShare_NoShare,
     is_NoShare_NoCourse := kit_own ic_NoCourse ty_NoCourse ss_NoCourse_NoCourse ss_NoShare_NoCourse,
     is_NoShare_NoDay := kit_own ic_NoDay ty_NoDay ss_NoDay_NoDay ss_NoShare_NoDay,
     is_NoShare_TooLong := kit_own ic_TooLong ty_TooLong ss_TooLong_TooLong ss_NoShare_TooLong,
     is_NoShare_NoWeb := kit_own ic_NoWeb ty_NoWeb ss_NoWeb_NoWeb ss_NoShare_NoWeb,
     is_NoShare_NoDepths := kit_own ic_NoDepths ty_NoDepths ss_NoDepths_NoDepths ss_NoShare_NoDepths,
     is_NoShare_NoRain := kit_own ic_NoRain ty_NoRain ss_NoRain_NoRain ss_NoShare_NoRain,
     is_NoShare_NoDigs := kit_own ic_NoDigs ty_NoDigs ss_NoDigs_NoDigs ss_NoShare_NoDigs,
     is_NoShare_NoTurned := kit_own ic_NoTurned ty_NoTurned ss_NoTurned_NoTurned ss_NoShare_NoTurned,
     is_NoShare_NoPlace := kit_own ic_NoPlace ty_NoPlace ss_NoPlace_NoPlace ss_NoShare_NoPlace,
     is_NoShare_NoBed := kit_own ic_NoBed ty_NoBed ss_NoBed_NoBed ss_NoShare_NoBed,
     is_NoShare_NoTie := kit_own ic_NoTie ty_NoTie ss_NoTie_NoTie ss_NoShare_NoTie,
     is_NoShare_VE := kit_VE ss_NoShare_VE,
     is_NoCourse_RillError := kit_own ic_RillError ty_RillError ss_RillError_RillError ss_NoCourse_RillError,
     is_NoCourse_NoShare := kit_own ic_NoShare ty_NoShare ss_NoShare_NoShare ss_NoCourse_NoShare,
     is_NoCourse_NoCourse := kit_own ic_NoCourse ty_NoCourse ss_NoCourse_NoCourse ss_NoCourse_NoCourse,
     is_NoCourse_NoDay := kit_own ic_NoDay ty_NoDay ss_NoDay_NoDay ss_NoCourse_NoDay,
     is_NoCourse_TooLong := kit_own ic_TooLong ty_TooLong ss_TooLong_TooLong ss_NoCourse_TooLong,
     is_NoCourse_NoWeb := kit_own ic_NoWeb ty_NoWeb ss_NoWeb_NoWeb ss_NoCourse_NoWeb,
     is_NoCourse_NoDepths := kit_own ic_NoDepths ty_NoDepths ss_NoDepths_NoDepths ss_NoCourse_NoDepths,
     is_NoCourse_NoRain := kit_own ic_NoRain ty_NoRain ss_NoRain_NoRain ss_NoCourse_NoRain,
     is_NoCourse_NoDigs := kit_own ic_NoDigs ty_NoDigs ss_NoDigs_NoDigs ss_NoCourse_NoDigs,
     is_NoCourse_NoTurned := kit_own ic_NoTurned ty_NoTurned ss_NoTurned_NoTurned ss_NoCourse_NoTurned,
     is_NoCourse_NoPlace := kit_own ic_NoPlace ty_NoPlace ss_NoPlace_NoPlace ss_NoCourse_NoPlace,
     is_NoCourse_NoBed := kit_own ic_NoBed ty_NoBed ss_NoBed_NoBed ss_NoCourse_NoBed,
     is_NoCourse_NoTie := kit_own ic_NoTie ty_NoTie ss_NoTie_NoTie ss_NoCourse_NoTie,
     is_NoCourse_VE := kit_VE ss_NoCourse_VE,
     is_NoDay_RillError := kit_own ic_RillError ty_RillError ss_RillError_RillError ss_NoDay_RillError,
     is_NoDay_NoShare := kit_own ic_NoShare ty_NoShare ss_NoShare_NoShare ss_NoDay_NoShare,
     is_NoDay_NoCourse := kit_own ic_NoCourse ty_NoCourse ss_NoCourse_NoCourse ss_NoDay_NoCourse,
     is_NoDay_NoDay := kit_own ic_NoDay ty_NoDay ss_NoDay_NoDay ss_NoDay_NoDay,
     is_NoDay_TooLong := kit_own ic_TooLong ty_TooLong ss_TooLong_TooLong ss_NoDay_TooLong,
     is_NoDay_NoWeb := kit_own ic_NoWeb ty_NoWeb ss_NoWeb_NoWeb ss_NoDay_NoWeb,
     is_NoDay_NoDepths := kit_own ic_NoDepths ty_NoDepths ss_NoDepths_NoDepths ss_NoDay_NoDepths,
     is_NoDay_NoRain := kit_own ic_NoRain ty_NoRain ss_NoRain_NoRain ss_NoDay_NoRain,
     is_NoDay_NoDigs := kit_own ic_NoDigs ty_NoDigs ss_NoDigs_NoDigs ss_NoDay_NoDigs,
     is_NoDay_NoTurned := kit_own ic_NoTurned ty_NoTurned ss_NoTurned_NoTurned ss_NoDay_NoTurned,
     is_NoDay_NoPlace := kit_own ic_NoPlace ty_NoPlace ss_NoPlace_NoPlace ss_NoDay_NoPlace,
     is_NoDay_NoBed := kit_own ic_NoBed ty_NoBed ss_NoBed_NoBed ss_NoDay_NoBed,
     is_NoDay_NoTie := kit_own ic_NoTie ty_NoTie ss_NoTie_NoTie ss_NoDay_NoTie,
     is_NoDay_VE := kit_VE ss_NoDay_VE,
     cl_TooLong := ⟨_, _, _, _, _, _, _, _, _, _, _, _, _, _, _, xl_TooLong, re_TooLong⟩,
     is_TooLong_RillError := kit_own ic_RillError ty_RillError ss_RillError_RillError ss_TooLong_RillError,
     is_TooLong_NoShare := kit_own ic_NoShare ty_NoShare ss_NoShare_NoShare ss_TooLong_NoShare,
     is_TooLong_NoCourse := kit_own ic_NoCourse ty_NoCourse ss_NoCourse_NoCourse ss_TooLong_NoCourse,
     is_TooLong_NoDay := kit_own ic_NoDay ty_NoDay ss_NoDay_NoDay ss_TooLong_NoDay,
     is_TooLong_TooLong := kit_own ic_TooLong ty_TooLong ss_TooLong_TooLong ss_TooLong_TooLong,
     is_TooLong_NoWeb := kit_own ic_NoWeb ty_NoWeb ss_NoWeb_NoWeb ss_TooLong_NoWeb,
     is_TooLong_NoDepths := kit_own ic_NoDepths ty_NoDepths ss_NoDepths_NoDepths ss_TooLong_NoDepths,
     is_TooLong_NoRain := kit_own ic_NoRain ty_NoRain ss_NoRain_NoRain ss_TooLong_NoRain,
     is_TooLong_NoDigs := kit_own ic_NoDigs ty_NoDigs ss_NoDigs_NoDigs ss_TooLong_NoDigs,
     is_TooLong_NoTurned := kit_own ic_NoTurned ty_NoTurned ss_NoTurned_NoTurned ss_TooLong_NoTurned,
     is_TooLong_NoPlace := kit_own ic_NoPlace ty_NoPlace ss_NoPlace_NoPlace ss_TooLong_NoPlace,
     is_TooLong_NoBed := kit_own ic_NoBed ty_NoBed ss_NoBed_NoBed ss_TooLong_NoBed,
     is_TooLong_NoTie := kit_own ic_NoTie ty_NoTie ss_NoTie_NoTie ss_TooLong_NoTie,
     is_TooLong_VE := kit_VE ss_TooLong_VE,
     cl_NoWeb := ⟨_, _, _, _, _, _, _, _, _, _, _, _, _, _, _, xl_NoWeb, re_NoWeb⟩,
     is_NoWeb_RillError := kit_own ic_RillError ty_RillError ss_RillError_RillError ss_NoWeb_RillError,
     is_NoWeb_NoShare := kit_own ic_NoShare ty_NoShare ss_NoShare_NoShare ss_NoWeb_NoShare,
     is_NoWeb_NoCourse := kit_own ic_NoCourse ty_NoCourse ss_NoCourse_NoCourse ss_NoWeb_NoCourse,
     is_NoWeb_NoDay := kit_own ic_NoDay ty_NoDay ss_NoDay_NoDay ss_NoWeb_NoDay,
     is_NoWeb_TooLong := kit_own ic_TooLong ty_TooLong ss_TooLong_TooLong ss_NoWeb_TooLong,
     is_NoWeb_NoWeb := kit_own ic_NoWeb ty_NoWeb ss_NoWeb_NoWeb ss_NoWeb_NoWeb,
     is_NoWeb_NoDepths := kit_own ic_NoDepths ty_NoDepths ss_NoDepths_NoDepths ss_NoWeb_NoDepths,
     is_NoWeb_NoRain := kit_own ic_NoRain ty_NoRain ss_NoRain_NoRain ss_NoWeb_NoRain,
     is_NoWeb_NoDigs := kit_own ic_NoDigs ty_NoDigs ss_NoDigs_NoDigs ss_NoWeb_NoDigs,
     is_NoWeb_NoTurned := kit_own ic_NoTurned ty_NoTurned ss_NoTurned_NoTurned ss_NoWeb_NoTurned,
     is_NoWeb_NoPlace := kit_own ic_NoPlace ty_NoPlace ss_NoPlace_NoPlace ss_NoWeb_NoPlace,
     is_NoWeb_NoBed := kit_own ic_NoBed ty_NoBed ss_NoBed_NoBed ss_NoWeb_NoBed,
     is_NoWeb_NoTie := kit_own ic_NoTie ty_NoTie ss_NoTie_NoTie ss_NoWeb_NoTie,
     is_NoWeb_VE := kit_VE ss_NoWeb_VE,
     is_NoDepths_RillError := kit_own ic_RillError ty_RillError ss_RillError_RillError ss_NoDepths_RillError,
     is_NoDepths_NoShare := kit_own ic_NoShare ty_NoShare ss_NoShare_NoShare ss_NoDepths_NoShare,
     is_NoDepths_NoCourse := kit_own ic_NoCourse ty_NoCourse ss_NoCourse_NoCourse ss_NoDepths_NoCourse,
     is_NoDepths_NoDay := kit_own ic_NoDay ty_NoDay ss_NoDay_NoDay ss_NoDepths_NoDay,
     is_NoDepths_TooLong := kit_own ic_TooLong ty_TooLong ss_TooLong_TooLong ss_NoDepths_TooLong,
     is_NoDepths_NoWeb := kit_own ic_NoWeb ty_NoWeb ss_NoWeb_NoWeb ss_NoDepths_NoWeb,
     is_NoDepths_NoDepths := kit_own ic_NoDepths ty_NoDepths ss_NoDepths_NoDepths ss_NoDepths_NoDepths,
     is_NoDepths_NoRain := kit_own ic_NoRain ty_NoRain ss_NoRain_NoRain ss_NoDepths_NoRain,
     is_NoDepths_NoDigs := kit_own ic_NoDigs ty_NoDigs ss_NoDigs_NoDigs ss_NoDepths_NoDigs,
     is_NoDepths_NoTurned := kit_own ic_NoTurned ty_NoTurned ss_NoTurned_NoTurned ss_NoDepths_NoTurned,
     is_NoDepths_NoPlace := kit_own ic_NoPlace ty_NoPlace ss_NoPlace_NoPlace ss_NoDepths_NoPlace,
     is_NoDepths_NoBed := kit_own ic_NoBed ty_NoBed ss_NoBed_NoBed ss_NoDepths_NoBed,
     is_NoDepths_NoTie := kit_own ic_NoTie ty_NoTie ss_NoTie_NoTie ss_NoDepths_NoTie,
     is_NoDepths_VE := kit_VE ss_NoDepths_VE,
     is_NoRain_RillError := kit_own ic_RillError ty_RillError ss_RillError_RillError ss_NoRain_RillError,
     is_NoRain_NoShare := kit_own ic_NoShare ty_NoShare ss_NoShare_NoShare ss_NoRain_NoShare,
     is_NoRain_NoCourse := kit_own ic_NoCourse ty_NoCourse ss_NoCourse_NoCourse ss_NoRain_NoCourse,
     is_NoRain_NoDay := kit_own ic_NoDay ty_NoDay ss_NoDay_NoDay ss_NoRain_NoDay,
     is_NoRain_TooLong := kit_own ic_TooLong ty_TooLong ss_TooLong_TooLong ss_NoRain_TooLong,
     is_NoRain_NoWeb := kit_own ic_NoWeb ty_NoWeb ss_NoWeb_NoWeb ss_NoRain_NoWeb,
     is_NoRain_NoDepths := kit_own ic_NoDepths ty_NoDepths ss_NoDepths_NoDepths ss_NoRain_NoDepths,
     is_NoRain_NoRain := kit_own ic_NoRain ty_NoRain ss_NoRain_NoRain ss_NoRain_NoRain,
     is_NoRain_NoDigs := kit_own ic_NoDigs ty_NoDigs ss_NoDigs_NoDigs ss_NoRain_NoDigs,
     is_NoRain_NoTurned := kit_own ic_NoTurned ty_NoTurned ss_NoTurned_NoTurned ss_NoRain_NoTurned,
     is_NoRain_NoPlace := kit_own ic_NoPlace ty_NoPlace ss_NoPlace_NoPlace ss_NoRain_NoPlace,
     is_NoRain_NoBed := kit_own ic_NoBed ty_NoBed ss_NoBed_NoBed ss_NoRain_NoBed,
     is_NoRain_NoTie := kit_own ic_NoTie ty_NoTie ss_NoTie_NoTie ss_NoRain_NoTie,
     is_NoRain_VE := kit_VE ss_NoRain_VE,
     is_NoDigs_RillError := kit_own ic_RillError ty_RillError ss_RillError_RillError ss_NoDigs_RillError,
     is_NoDigs_NoShare := kit_own ic_NoShare ty_NoShare ss_NoShare_NoShare ss_NoDigs_NoShare,
     is_NoDigs_NoCourse := kit_own ic_NoCourse ty_NoCourse ss_NoCourse_NoCourse ss_NoDigs_NoCourse,
     is_NoDigs_NoDay := kit_own ic_NoDay ty_NoDay ss_NoDay_NoDay ss_NoDigs_NoDay,
     is_NoDigs_TooLong := kit_own ic_TooLong ty_TooLong ss_TooLong_TooLong ss_NoDigs_TooLong,
     is_NoDigs_NoWeb := kit_own ic_NoWeb ty_NoWeb ss_NoWeb_NoWeb ss_NoDigs_NoWeb,
     is_NoDigs_NoDepths := kit_own ic_NoDepths ty_NoDepths ss_NoDepths_NoDepths ss_NoDigs_NoDepths,
     is_NoDigs_NoRain := kit_own ic_NoRain ty_NoRain ss_NoRain_NoRain ss_NoDigs_NoRain,
     is_NoDigs_NoDigs := kit_own ic_NoDigs ty_NoDigs ss_NoDigs_NoDigs ss_NoDigs_NoDigs,
     is_NoDigs_NoTurned := kit_own ic_NoTurned ty_NoTurned ss_NoTurned_NoTurned ss_NoDigs_NoTurned,
     is_NoDigs_NoPlace := kit_own ic_NoPlace ty_NoPlace ss_NoPlace_NoPlace ss_NoDigs_NoPlace,
     is_NoDigs_NoBed := kit_own ic_NoBed ty_NoBed ss_NoBed_NoBed ss_NoDigs_NoBed,
     is_NoDigs_NoTie := kit_own ic_NoTie ty_NoTie ss_NoTie_NoTie ss_NoDigs_NoTie,
     is_NoDigs_VE := kit_VE ss_NoDigs_VE,
     is_NoTurned_RillError := kit_own ic_RillError ty_RillError ss_RillError_RillError ss_NoTurned_RillError,
     is_NoTurned_NoShare := kit_own ic_NoShare ty_NoShare ss_NoShare_NoShare ss_NoTurned_NoShare,
     is_NoTurned_NoCourse := kit_own ic_NoCourse ty_NoCourse ss_NoCourse_NoCourse ss_NoTurned_NoCourse,
     is_NoTurned_NoDay := kit_own ic_NoDay ty_NoDay ss_NoDay_NoDay ss_NoTurned_NoDay,
     is_NoTurned_TooLong := kit_own ic_TooLong ty_TooLong ss_TooLong_TooLong ss_NoTurned_TooLong,
     is_NoTurned_NoWeb := kit_own ic_NoWeb ty_NoWeb ss_NoWeb_NoWeb ss_NoTurned_NoWeb,
     is_NoTurned_NoDepths := kit_own ic_NoDepths ty_NoDepths ss_NoDepths_NoDepths ss_NoTurned_NoDepths,
     is_NoTurned_NoRain := kit_own ic_NoRain ty_NoRain ss_NoRain_NoRain ss_NoTurned_NoRain,
     is_NoTurned_NoDigs := kit_own ic_NoDigs ty_NoDigs ss_NoDigs_NoDigs ss_NoTurned_NoDigs,
     is_NoTurned_NoTurned := kit_own ic_NoTurned ty_NoTurned ss_NoTurned_NoTurned ss_NoTurned_NoTurned,
     is_NoTurned_NoPlace := kit_own ic_NoPlace ty_NoPlace ss_NoPlace_NoPlace ss_NoTurned_NoPlace,
     is_NoTurned_NoBed := kit_own ic_NoBed ty_NoBed ss_NoBed_NoBed ss_NoTurned_NoBed,
     is_NoTurned_NoTie := kit_own ic_NoTie ty_NoTie ss_NoTie_NoTie ss_NoTurned_NoTie,
     is_NoTurned_VE := kit_VE ss_NoTurned_VE,
     cl_NoPlace := ⟨_, _, _, _, _, _, _, _, _, _, _, _, _, _, _, xl_NoPlace, re_NoPlace⟩,
     is_NoPlace_RillError := kit_own ic_RillError ty_RillError ss_RillError_RillError ss_NoPlace_RillError,
     is_NoPlace_NoShare := kit_own ic_NoShare ty_NoShare ss_NoShare_NoShare ss_NoPlace_NoShare,
     is_NoPlace_NoCourse := kit_own ic_NoCourse ty_NoCourse ss_NoCourse_NoCourse ss_NoPlace_NoCourse,
     is_NoPlace_NoDay := kit_own ic_NoDay ty_NoDay ss_NoDay_NoDay ss_NoPlace_NoDay,
     is_NoPlace_TooLong := kit_own ic_TooLong ty_TooLong ss_TooLong_TooLong ss_NoPlace_TooLong,
     is_NoPlace_NoWeb := kit_own ic_NoWeb ty_NoWeb ss_NoWeb_NoWeb ss_NoPlace_NoWeb,
     is_NoPlace_NoDepths := kit_own ic_NoDepths ty_NoDepths ss_NoDepths_NoDepths ss_NoPlace_NoDepths,
     is_NoPlace_NoRain := kit_own ic_NoRain ty_NoRain ss_NoRain_NoRain ss_NoPlace_NoRain,
     is_NoPlace_NoDigs := kit_own ic_NoDigs ty_NoDigs ss_NoDigs_NoDigs ss_NoPlace_NoDigs,
     is_NoPlace_NoTurned := kit_own ic_NoTurned ty_NoTurned ss_NoTurned_NoTurned ss_NoPlace_NoTurned,
     is_NoPlace_NoPlace := kit_own ic_NoPlace ty_NoPlace ss_NoPlace_NoPlace ss_NoPlace_NoPlace,
     is_NoPlace_NoBed := kit_own ic_NoBed ty_NoBed ss_NoBed_NoBed ss_NoPlace_NoBed,
     is_NoPlace_NoTie := kit_own ic_NoTie ty_NoTie ss_NoTie_NoTie ss_NoPlace_NoTie,
     is_NoPlace_VE := kit_VE ss_NoPlace_VE,
     cl_NoBed := ⟨_, _, _, _, _, _, _, _, _, _, _, _, _, _, _, xl_NoBed, re_NoBed⟩,
     is_NoBed_RillError := kit_own ic_RillError ty_RillError ss_RillError_RillError ss_NoBed_RillError,
     is_NoBed_NoShare := kit_own ic_NoShare ty_NoShare ss_NoShare_NoShare ss_NoBed_NoShare,
     is_NoBed_NoCourse := kit_own ic_NoCourse ty_NoCourse ss_NoCourse_NoCourse ss_NoBed_NoCourse,
     is_NoBed_NoDay := kit_own ic_NoDay ty_NoDay ss_NoDay_NoDay ss_NoBed_NoDay,
     is_NoBed_TooLong := kit_own ic_TooLong ty_TooLong ss_TooLong_TooLong ss_NoBed_TooLong,
     is_NoBed_NoWeb := kit_own ic_NoWeb ty_NoWeb ss_NoWeb_NoWeb ss_NoBed_NoWeb,
     is_NoBed_NoDepths := kit_own ic_NoDepths ty_NoDepths ss_NoDepths_NoDepths ss_NoBed_NoDepths,
     is_NoBed_NoRain := kit_own ic_NoRain ty_NoRain ss_NoRain_NoRain ss_NoBed_NoRain,
     is_NoBed_NoDigs := kit_own ic_NoDigs ty_NoDigs ss_NoDigs_NoDigs ss_NoBed_NoDigs,
     is_NoBed_NoTurned := kit_own ic_NoTurned ty_NoTurned ss_NoTurned_NoTurned ss_NoBed_NoTurned,
     is_NoBed_NoPlace := kit_own ic_NoPlace ty_NoPlace ss_NoPlace_NoPlace ss_NoBed_NoPlace,
     is_NoBed_NoBed := kit_own ic_NoBed ty_NoBed ss_NoBed_NoBed ss_NoBed_NoBed,
     is_NoBed_NoTie := kit_own ic_NoTie ty_NoTie ss_NoTie_NoTie ss_NoBed_NoTie,
     is_NoBed_VE := kit_VE ss_NoBed_VE,
     is_NoTie_RillError := kit_own ic_RillError ty_RillError ss_RillError_RillError ss_NoTie_RillError,
     is_NoTie_NoShare := kit_own ic_NoShare ty_NoShare ss_NoShare_NoShare ss_NoTie_NoShare,
     is_NoTie_NoCourse := kit_own ic_NoCourse ty_NoCourse ss_NoCourse_NoCourse ss_NoTie_NoCourse,
     is_NoTie_NoDay := kit_own ic_NoDay ty_NoDay ss_NoDay_NoDay ss_NoTie_NoDay,
     is_NoTie_TooLong := kit_own ic_TooLong ty_TooLong ss_TooLong_TooLong ss_NoTie_TooLong,
     is_NoTie_NoWeb := kit_own ic_NoWeb ty_NoWeb ss_NoWeb_NoWeb ss_NoTie_NoWeb,
     is_NoTie_NoDepths := kit_own ic_NoDepths ty_NoDepths ss_NoDepths_NoDepths ss_NoTie_NoDepths,
     is_NoTie_NoRain := kit_own ic_NoRain ty_NoRain ss_NoRain_NoRain ss_NoTie_NoRain,
     is_NoTie_NoDigs := kit_own ic_NoDigs ty_NoDigs ss_NoDigs_NoDigs ss_NoTie_NoDigs,
     is_NoTie_NoTurned := kit_own ic_NoTurned ty_NoTurned ss_NoTurned_NoTurned ss_NoTie_NoTurned,
     is_NoTie_NoPlace := kit_own ic_NoPlace ty_NoPlace ss_NoPlace_NoPlace ss_NoTie_NoPlace,
     is_NoTie_NoBed := kit_own ic_NoBed ty_NoBed ss_NoBed_NoBed ss_NoTie_NoBed,
     is_NoTie_NoTie := kit_own ic_NoTie ty_NoTie ss_NoTie_NoTie ss_NoTie_NoTie,
     is_NoTie_VE := kit_VE ss_NoTie_VE,
     kx_NoShare := kx_NoShare,
     hg_NoShare := hg_NoShare,
     hk_NoShare := hk_NoShare,
     hs_NoShare := hs_NoShare,
     hd_NoShare := hd_NoShare,
     ha_NoShare := ha_NoShare,
     hm_NoShare := hm_NoShare,
     q_NoShare := q_NoShare,
     st_NoShare := st_NoShare,
     kx_NoCourse := kx_NoCourse,
     hg_NoCourse := hg_NoCourse,
     hk_NoCourse := hk_NoCourse,
     hs_NoCourse := hs_NoCourse,
     hd_NoCourse := hd_NoCourse,
     ha_NoCourse := ha_NoCourse,
     hm_NoCourse := hm_NoCourse,
     q_NoCourse := q_NoCourse,
     st_NoCourse := st_NoCourse,
     kx_NoDay := kx_NoDay,
     hg_NoDay := hg_NoDay,
     hk_NoDay := hk_NoDay,
     hs_NoDay := hs_NoDay,
     hd_NoDay := hd_NoDay,
     ha_NoDay := ha_NoDay,
     hm_NoDay := hm_NoDay,
     q_NoDay := q_NoDay,
     st_NoDay := st_NoDay,
     kx_TooLong := kx_TooLong,
     hg_TooLong := hg_TooLong,
     hk_TooLong := hk_TooLong,
     hs_TooLong := hs_TooLong,
     hd_TooLong := hd_TooLong,
     ha_TooLong := ha_TooLong,
     hm_TooLong := hm_TooLong,
     sa_TooLong := sa_TooLong,
     no_TooLong := no_TooLong,
     kx_NoWeb := kx_NoWeb,
     hg_NoWeb := hg_NoWeb,
     hk_NoWeb := hk_NoWeb,
     hs_NoWeb := hs_NoWeb,
     hd_NoWeb := hd_NoWeb,
     ha_NoWeb := ha_NoWeb,
     hm_NoWeb := hm_NoWeb,
     sa_NoWeb := sa_NoWeb,
     no_NoWeb := no_NoWeb,
     kx_NoDepths := kx_NoDepths,
     hg_NoDepths := hg_NoDepths,
     hk_NoDepths := hk_NoDepths,
     hs_NoDepths := hs_NoDepths,
     hd_NoDepths := hd_NoDepths,
     ha_NoDepths := ha_NoDepths,
     hm_NoDepths := hm_NoDepths,
     q_NoDepths := q_NoDepths,
     st_NoDepths := st_NoDepths,
     kx_NoRain := kx_NoRain,
     hg_NoRain := hg_NoRain,
     hk_NoRain := hk_NoRain,
     hs_NoRain := hs_NoRain,
     hd_NoRain := hd_NoRain,
     ha_NoRain := ha_NoRain,
     hm_NoRain := hm_NoRain,
     q_NoRain := q_NoRain,
     st_NoRain := st_NoRain,
     kx_NoDigs := kx_NoDigs,
     hg_NoDigs := hg_NoDigs,
     hk_NoDigs := hk_NoDigs,
     hs_NoDigs := hs_NoDigs,
     hd_NoDigs := hd_NoDigs,
     ha_NoDigs := ha_NoDigs,
     hm_NoDigs := hm_NoDigs,
     q_NoDigs := q_NoDigs,
     st_NoDigs := st_NoDigs,
     kx_NoTurned := kx_NoTurned,
     hg_NoTurned := hg_NoTurned,
     hk_NoTurned := hk_NoTurned,
     hs_NoTurned := hs_NoTurned,
     hd_NoTurned := hd_NoTurned,
     ha_NoTurned := ha_NoTurned,
     hm_NoTurned := hm_NoTurned,
     q_NoTurned := q_NoTurned,
     st_NoTurned := st_NoTurned,
     kx_NoPlace := kx_NoPlace,
     hg_NoPlace := hg_NoPlace,
     hk_NoPlace := hk_NoPlace,
     hs_NoPlace := hs_NoPlace,
     hd_NoPlace := hd_NoPlace,
     ha_NoPlace := ha_NoPlace,
     hm_NoPlace := hm_NoPlace,
     sa_NoPlace := sa_NoPlace,
     no_NoPlace := no_NoPlace,
     kx_NoBed := kx_NoBed,
     hg_NoBed := hg_NoBed,
     hk_NoBed := hk_NoBed,
     hs_NoBed := hs_NoBed,
     hd_NoBed := hd_NoBed,
     ha_NoBed := ha_NoBed,
     hm_NoBed := hm_NoBed,
     sa_NoBed := sa_NoBed,
     no_NoBed := no_NoBed,
     kx_NoTie := kx_NoTie,
     hg_NoTie := hg_NoTie,
     hk_NoTie := hk_NoTie,
     hs_NoTie := hs_NoTie,
     hd_NoTie := hd_NoTie,
     ha_NoTie := ha_NoTie,
     hm_NoTie := hm_NoTie,
     q_NoTie := q_NoTie,
     st_NoTie := st_NoTie,
     hn := hn,
     ht := ht,
     rd := rd,
     rg := rg,
     vi := vi }⟩
theorem get_last {α : Type} (p : List α) (c : α) : (p ++ [c])[p.length]? = some c := by simp
theorem set_last {α : Type} (p : List α) (c d : α) : (p ++ [c]).set p.length d = p ++ [d] := by simp
theorem take_last {α : Type} (p : List α) (c : α) : (p ++ [c]).take p.length = p := by simp
theorem take_all1 {α : Type} (p : List α) (c : α) : (p ++ [c]).take (p.length + 1) = p ++ [c] := by
  rw [List.take_of_length_le]
  simp
theorem len1 {α : Type} (p : List α) (c : α) : (p ++ [c]).length = p.length + 1 := by simp
theorem plain_ok (t : Str) (p : Pool) : m_law_plain [.str t] p = .ok (.lst [.xs 1 t, .xs 2 t, .xs 3 t, .xs 6 t, .xs 7 t, .xs 8 t, .xs 9 t, .xs 12 t]) p := by
  have h : m_law_plain [.str t] p = .ok (.lst [.xs 1 t, .xs 2 t, .xs 3 t, .xs 6 t, .xs 7 t, .xs 8 t, .xs 9 t, .xs 12 t]) (p.take p.length) := rfl
  rw [h, List.take_length]
/-- a thing that is drawn -/
def Thing (x : PV) : Prop := x ∈ ([.non, .int 0, .int (-1), .str "", .str "beds", .tup [.int 0, .int 3], .bl true, .int (10 ^ 12), .tup [], .str "a b"] : List PV)
theorem with_ok (x : PV) (hx : ∀ p n, thaw fldT n p x = some x) (p : Pool) : m_law_with [x] p = .ok (.lst [.tup [.xv 4 x, x], .tup [.xv 5 x, x], .tup [.xv 10 x, x], .tup [.xv 11 x, x]]) p := by
  have e : sub (thw fldT p.length p deep) x = some x := hx p p.length
  have h : m_law_with [x] p = match thaw fldT p.length p (.lst [.tup [.xv 4 x, x], .tup [.xv 5 x, x], .tup [.xv 10 x, x], .tup [.xv 11 x, x]]) with
    | some y => .ok y (p.take p.length)
    | none => .stuck := rfl
  rw [h]
  have h2 : thaw fldT p.length p (.lst [.tup [.xv 4 x, x], .tup [.xv 5 x, x], .tup [.xv 10 x, x], .tup [.xv 11 x, x]]) = some (.lst [.tup [.xv 4 x, x], .tup [.xv 5 x, x], .tup [.xv 10 x, x], .tup [.xv 11 x, x]]) := by
    unfold thaw
    simp only [sub, subs, e]
  rw [h2, List.take_length]
def kd (c : Nat) : PV := .lst [.bl (decide (c = 1)), .bl (decide (c = 2)), .bl (decide (c = 3)), .bl (decide (c = 6)), .bl (decide (c = 7)), .bl (decide (c = 8)), .bl (decide (c = 9)), .bl (decide (c = 12)), .bl (decide (c = 4)), .bl (decide (c = 5)), .bl (decide (c = 10)), .bl (decide (c = 11))]
theorem kinds_xs (c : Nat) (hc : c ∈ ([1, 2, 3, 6, 7, 8, 9, 12] : List Nat)) (t : Str) (p : Pool) : m_law_kinds [.xs c t] p = .ok (kd c) p := by
  have h : m_law_kinds [.xs c t] p = .ok (kd c) (p.take p.length) := by
    simp only [List.mem_cons, List.not_mem_nil, or_false] at hc
    rcases hc with rfl | rfl | rfl | rfl | rfl | rfl | rfl | rfl <;> rfl
  rw [h, List.take_length]
theorem kinds_xv (c : Nat) (hc : c ∈ ([4, 5, 10, 11] : List Nat)) (x : PV) (p : Pool) : m_law_kinds [.xv c x] p = .ok (kd c) p := by
  have h : m_law_kinds [.xv c x] p = .ok (kd c) (p.take p.length) := by
    simp only [List.mem_cons, List.not_mem_nil, or_false] at hc
    rcases hc with rfl | rfl | rfl | rfl <;> rfl
  rw [h, List.take_length]
theorem mul01 (n : Int) (b : Bool) : okMul n (if b = true then 1 else 0) = true := by
  unfold okMul
  refine decide_eq_true (.inl (.inr ?_))
  cases b <;> decide
theorem well_ok (n : Int) (p : Pool) : ∃ a b, m_law_well [.int n] p = .ok (.own p.length) (p ++ [.lst [.int a, .int b, .int 0]]) ∧ 0 ≤ b ∧ b < 2147483647 := by
  refine ⟨n * (if decide (10 ^ (18 : Int).toNat ≤ n) = true then 1 else 0), n.fmod 2147483647, ?_, Int.fmod_nonneg_of_pos _ (by decide), Int.fmod_lt_of_pos _ (by decide)⟩
  unfold m_law_well b_law_well
  have e1 : okPow 10 18 = true := rfl
  have e2 : okMod n 2147483647 = true := rfl
  have e3 := mul01 n
  simp only [fnM, fnO, sSeq, sAsg, sIf, sRet, sNop, sSet, sExpr, sFor, sIx, loopF, mBin, mB, mVar, mC, mCall, mCons, mNil, mTup, mLst, mLstO, mFn, mAnd, mOr, mNot, mNeg, mXs, mXv, mXf, mXi, mXt, mIsi, mLc, loopC, mYes, itS, itE, itR1, tgN, tgT, tgCons, tgNil, mSl, oNo, oYes, Res.bind, Res.run, Ctl.andThen, En.set, En.sets, f2I, f2C, wipeE, pAdd, pSub, pMul, pDiv, pMod, pPow, pLt, pLe, pGt, pGe, pIx, cLen, cInt, List.map_cons, List.map_nil, List.length_cons, List.length_nil, List.replicate, List.append_nil, List.nil_append, List.cons_append, List.getElem?_cons_zero, List.getElem?_cons_succ, List.set_cons_zero, List.set_cons_succ, List.take_length, get_last, set_last, take_last, take_all1, len1, getL, getR, getQ, e1, e2, e3, if_true, bels, bel, Bool.and_true, Bool.true_and]
theorem may_int (b k : Nat) (i : Int) : may b k (.int i) = true := by
  unfold may
  rw [show bel 0 (.int i) = true from rfl, Bool.or_true]
theorem at0 {α : Type} (a b c : α) : atI [a, b, c] 0 = some a := rfl
theorem at1 {α : Type} (a b c : α) : atI [a, b, c] 1 = some b := rfl
theorem at2 {α : Type} (a b c : α) : atI [a, b, c] 2 = some c := rfl
theorem ix0 : ixN (0 + 1 + 1 + 1) 0 = some 0 := rfl
theorem ix2 : ixN (0 + 1 + 1 + 1) 2 = some 2 := rfl
theorem thaw_int {n : Nat} {p : Pool} {i : Int} : thaw fldT n p (.int i) = some (.int i) := rfl
theorem take_set {p : Pool} {k : Nat} {c : Cell} : (p.set k c).take p.length = p.set k c := by
  rw [List.take_of_length_le]
  rw [List.length_set]
  exact Nat.le_refl _
def primes : List PV := [.int 2147483647, .int 2147483629, .int 2147483587, .int 2147483579, .int 2147483563, .int 2147483549, .int 2147483543]
theorem prime_at (m : Int) (h0 : 0 ≤ m) (h1 : m < 7) : ∃ q : Int, atI [PV.int 2147483647, .int 2147483629, .int 2147483587, .int 2147483579, .int 2147483563, .int 2147483549, .int 2147483543] m = some (.int q) ∧ 2147483000 < q ∧ q ≤ 2147483647 := by
  have : m = 0 ∨ m = 1 ∨ m = 2 ∨ m = 3 ∨ m = 4 ∨ m = 5 ∨ m = 6 := by omega
  rcases this with rfl | rfl | rfl | rfl | rfl | rfl | rfl
  · exact ⟨_, rfl, by decide, by decide⟩
  · exact ⟨_, rfl, by decide, by decide⟩
  · exact ⟨_, rfl, by decide, by decide⟩
  · exact ⟨_, rfl, by decide, by decide⟩
  · exact ⟨_, rfl, by decide, by decide⟩
  · exact ⟨_, rfl, by decide, by decide⟩
  · exact ⟨_, rfl, by decide, by decide⟩
theorem draw_ok (p : Pool) (k : Nat) (w0 w1 w2 many : Int) (hk : p[k]? = some (.lst [.int w0, .int w1, .int w2])) (h1 : 0 ≤ w1) (h1' : w1 < 2147483647) (h2 : 0 ≤ w2) (h2' : w2 ≤ 10) (hm : 1 ≤ many) (hm' : many ≤ 100) :
    ∃ d u0 u2, m_law_draw [.own k, .int many] p = .ok (.int d) (p.set k (.lst [.int u0, .int w1, .int u2])) ∧ 0 ≤ d ∧ d < many ∧ 0 ≤ u2 ∧ u2 ≤ w2 + 1 := by
  have hl : k < p.length := (List.getElem?_eq_some_iff.mp hk).1
  have g1 : ∀ c : Cell, (p.set k c)[k]? = some c := fun c => List.getElem?_set_self hl
  have em : ∀ x, okMod x many = true := fun x => decide_eq_true (by omega)
  by_cases h : 0 < w0
  · have ed : okDiv w0 many = true := decide_eq_true ⟨by omega, .inl (by omega)⟩
    have eh : decide (0 < w0) = true := decide_eq_true h
    refine ⟨w0.fmod many, w0.fdiv many, w2, ?_, Int.fmod_nonneg_of_pos _ (by omega), Int.fmod_lt_of_pos _ (by omega), h2, by omega⟩
    unfold m_law_draw b_law_draw
    simp only [fnM, fnO, sSeq, sAsg, sIf, sRet, sNop, sSet, sExpr, sFor, sIx, loopF, mBin, mB, mVar, mC, mCall, mCons, mNil, mTup, mLst, mLstO, mFn, mAnd, mOr, mNot, mNeg, mXs, mXv, mXf, mXi, mXt, mIsi, mLc, loopC, mYes, itS, itE, itR1, tgN, tgT, tgCons, tgNil, mSl, oNo, oYes, Res.bind, Res.run, Ctl.andThen, En.set, En.sets, f2I, f2C, wipeE, pAdd, pSub, pMul, pDiv, pMod, pPow, pLt, pLe, pGt, pGe, pIx, cLen, cInt, List.map_cons, List.map_nil, List.length_cons, List.length_nil, List.replicate, List.append_nil, List.nil_append, List.cons_append, List.getElem?_cons_zero, List.getElem?_cons_succ, List.set_cons_zero, List.set_cons_succ, List.take_length, get_last, set_last, take_last, take_all1, len1, getL, getR, getQ, hk, at0, at1, at2, ix0, ix2, em, ed, eh, if_true, may_int, g1, thaw_int, take_set]
  · have eh : decide (0 < w0) = false := decide_eq_false h
    obtain ⟨q, hq, q1, q2⟩ := prime_at ((w2 + 1).fmod 7) (Int.fmod_nonneg_of_pos _ (by decide)) (Int.fmod_lt_of_pos _ (by decide))
    have e1 : okMod (w2 + 1) 7 = true := rfl
    have e2 : ∀ x, okMod x q = true := fun x => decide_eq_true (by omega)
    have e3 : okMul 7919 (w2 + 1) = true := decide_eq_true (.inl (.inl (by decide)))
    have e4 : okPow (w1 + 7919 * (w2 + 1) + 1) 5 = true := decide_eq_true ⟨by decide, by decide, by omega⟩
    have e5 : ∀ x, okDiv x 1009 = true := fun x => rfl
    have e6 : ∀ x, okDiv x 7 = true := fun x => rfl
    have n1 := Int.fmod_nonneg_of_pos ((w1 + 7919 * (w2 + 1) + 1) ^ (5 : Int).toNat) (b := q) (by omega)
    have n2 := Int.fmod_lt_of_pos ((w1 + 7919 * (w2 + 1) + 1) ^ (5 : Int).toNat) (b := q) (by omega)
    have e7 : ∀ x, okMul (((w1 + 7919 * (w2 + 1) + 1) ^ (5 : Int).toNat).fmod q + (w2 + 1)) x = true := fun x => decide_eq_true (.inl (.inl (by omega)))
    refine ⟨(((((w1 + 7919 * (w2 + 1) + 1) ^ (5 : Int).toNat).fmod q + (w2 + 1)) * ((((w1 + 7919 * (w2 + 1) + 1) ^ (5 : Int).toNat).fmod q).fdiv 1009 + 69621)).fmod q).fdiv 7 |>.fmod many, w0, w2 + 1, ?_, Int.fmod_nonneg_of_pos _ (b := many) (by omega), Int.fmod_lt_of_pos _ (b := many) (by omega), by omega, by omega⟩
    unfold m_law_draw b_law_draw
    simp only [fnM, fnO, sSeq, sAsg, sIf, sRet, sNop, sSet, sExpr, sFor, sIx, loopF, mBin, mB, mVar, mC, mCall, mCons, mNil, mTup, mLst, mLstO, mFn, mAnd, mOr, mNot, mNeg, mXs, mXv, mXf, mXi, mXt, mIsi, mLc, loopC, mYes, itS, itE, itR1, tgN, tgT, tgCons, tgNil, mSl, oNo, oYes, Res.bind, Res.run, Ctl.andThen, En.set, En.sets, f2I, f2C, wipeE, pAdd, pSub, pMul, pDiv, pMod, pPow, pLt, pLe, pGt, pGe, pIx, cLen, cInt, List.map_cons, List.map_nil, List.length_cons, List.length_nil, List.replicate, List.append_nil, List.nil_append, List.cons_append, List.getElem?_cons_zero, List.getElem?_cons_succ, List.set_cons_zero, List.set_cons_succ, List.take_length, get_last, set_last, take_last, take_all1, len1, getL, getR, getQ, hk, at0, at1, at2, ix0, ix2, em, eh, if_true, may_int, g1, thaw_int, take_set, hq, e1, e2, e3, e4, e5, e6, e7, Bool.false_eq_true, if_false]
theorem atI_mem (xs : List PV) (d : Int) (h0 : 0 ≤ d) (h1 : d < xs.length) : ∃ x, x ∈ xs ∧ atI xs d = some x := by
  have hl : d.toNat < xs.length := by omega
  refine ⟨xs[d.toNat], List.getElem_mem hl, ?_⟩
  unfold atI ixN
  rw [if_pos h0, if_pos h1]
  exact List.getElem?_eq_getElem hl
theorem one_ok (p : Pool) (k : Nat) (w0 w1 w2 : Int) (xs : List PV) (hk : p[k]? = some (.lst [.int w0, .int w1, .int w2])) (h1 : 0 ≤ w1) (h1' : w1 < 2147483647) (h2 : 0 ≤ w2) (h2' : w2 ≤ 10) (hm : 1 ≤ xs.length) (hm' : xs.length ≤ 100)
    (hx : ∀ x, x ∈ xs → ∀ n q, thaw fldT n q x = some x) :
    ∃ x u0 u2, x ∈ xs ∧ m_law_one [.own k, .lst xs] p = .ok x (p.set k (.lst [.int u0, .int w1, .int u2])) ∧ 0 ≤ u2 ∧ u2 ≤ w2 + 1 := by
  obtain ⟨d, u0, u2, hd, d0, d1, e0, e1⟩ := draw_ok p k w0 w1 w2 (xs.length : Int) hk h1 h1' h2 h2' (by omega) (by omega)
  obtain ⟨x, mx, ex⟩ := atI_mem xs d d0 d1
  refine ⟨x, u0, u2, mx, ?_, e0, e1⟩
  have et := hx x mx p.length (p.set k (.lst [.int u0, .int w1, .int u2]))
  unfold m_law_one b_law_one
  simp only [fnM, fnO, sSeq, sAsg, sIf, sRet, sNop, sSet, sExpr, sFor, sIx, loopF, mBin, mB, mVar, mC, mCall, mCons, mNil, mTup, mLst, mLstO, mFn, mAnd, mOr, mNot, mNeg, mXs, mXv, mXf, mXi, mXt, mIsi, mLc, loopC, mYes, itS, itE, itR1, tgN, tgT, tgCons, tgNil, mSl, oNo, oYes, Res.bind, Res.run, Ctl.andThen, En.set, En.sets, f2I, f2C, wipeE, pAdd, pSub, pMul, pDiv, pMod, pPow, pLt, pLe, pGt, pGe, pIx, cLen, cInt, List.map_cons, List.map_nil, List.length_cons, List.length_nil, List.replicate, List.append_nil, List.nil_append, List.cons_append, List.getElem?_cons_zero, List.getElem?_cons_succ, List.set_cons_zero, List.set_cons_succ, List.take_length, get_last, set_last, take_last, take_all1, len1, getL, getR, getQ, hd, ex, et, take_set]
/-! general: comprehensions and loops -/
theorem loopC_map {g : T1} {tt : M Bool} {te : M PV} {vs : List Nat} {en : En} {p : Pool} {f : PV → Option PV} : ∀ (xs acc : List PV),
    (∀ x, x ∈ xs → ∃ as : As, g x = some as ∧ as.all (fun a => vs.elem a.1) = true ∧ ∀ acc, tt (en.sets as) (p ++ [.lst acc]) = .ok (f x).isSome (p ++ [.lst acc]) ∧ ∀ y, f x = some y → te (en.sets as) (p ++ [.lst acc]) = .ok y (p ++ [.lst acc]) ∧ bel p.length y = true) →
    acc.length + xs.length ≤ big → loopC g tt te vs p.length en xs (p ++ [.lst acc]) = .ok () (p ++ [.lst (acc ++ xs.filterMap f)])
  | [], acc, _, _ => by
    rw [List.filterMap_nil, List.append_nil]
    rfl
  | x :: xs, acc, h, hl => by
    obtain ⟨as, eg, ea, ht⟩ := h x List.mem_cons_self
    obtain ⟨t1, t2⟩ := ht acc
    rw [List.length_cons] at hl
    unfold loopC
    rw [eg]
    dsimp only
    rw [if_pos ea, t1]
    dsimp only [Res.bind]
    cases ef : f x with
    | none =>
      rw [if_neg (by simp), take_all1, List.filterMap_cons_none ef]
      exact loopC_map xs acc (fun y hy => h y (List.mem_cons_of_mem _ hy)) (by omega)
    | some y =>
      obtain ⟨t3, t4⟩ := t2 y ef
      rw [if_pos (by simp), t3]
      dsimp only [Res.bind]
      rw [get_last]
      dsimp only
      rw [if_pos ⟨t4, by omega⟩, take_all1, set_last, loopC_map xs (acc ++ [y]) (fun y hy => h y (List.mem_cons_of_mem _ hy)) (by rw [List.length_append, List.length_singleton]; omega), List.filterMap_cons_some ef, List.append_assoc]
      rfl
theorem mLc_map {it : M (List PV)} {g : T1} {tt : M Bool} {te : M PV} {vs : List Nat} {en : En} {p p1 : Pool} {xs : List PV} (f : PV → Option PV) (hi : it en p = .ok xs p1)
    (h : ∀ x, x ∈ xs → ∃ as : As, g x = some as ∧ as.all (fun a => vs.elem a.1) = true ∧ ∀ acc, tt (En.sets ⟨p1.length + 1, wipeE en.sl vs⟩ as) (p1 ++ [.lst acc]) = .ok (f x).isSome (p1 ++ [.lst acc]) ∧ ∀ y, f x = some y → te (En.sets ⟨p1.length + 1, wipeE en.sl vs⟩ as) (p1 ++ [.lst acc]) = .ok y (p1 ++ [.lst acc]) ∧ bel p1.length y = true)
    (hl : xs.length ≤ big) : mLc it g tt te vs en p = .ok (.lst (xs.filterMap f)) p1 := by
  unfold mLc
  rw [hi]
  dsimp only [Res.bind]
  rw [loopC_map xs [] h (by rw [List.length_nil]; omega)]
  dsimp only
  rw [get_last]
  dsimp only
  rw [List.nil_append, take_last]
theorem loopF_inv {g : T1} {body : S} (Inv : En → Pool → Prop) : ∀ (xs : List PV) (en : En) (p : Pool), (∀ x, x ∈ xs → ∀ en p, Inv en p → ∃ as en2 p2, g x = some as ∧ body (en.sets as) p = .next en2 p2 ∧ Inv en2 p2) → Inv en p → ∃ en2 p2, loopF g body xs en p = .next en2 p2 ∧ Inv en2 p2
  | [], en, p, _, hI => ⟨en, p, rfl, hI⟩
  | x :: xs, en, p, h, hI => by
    obtain ⟨as, en2, p2, eg, eb, h2⟩ := h x List.mem_cons_self en p hI
    obtain ⟨en3, p3, e3, h3⟩ := loopF_inv Inv xs en2 p2 (fun y hy => h y (List.mem_cons_of_mem _ hy)) h2
    refine ⟨en3, p3, ?_, h3⟩
    unfold loopF
    rw [eg]
    dsimp only
    rw [eb]
    exact e3
def B1 : S := (sSeq (sIf (mOr (mNot (mB (mXi (isx 0) (mVar 5)))) (mNot (mB (mXi (isx 0) (mVar 5)))))
    (sRet (mC (.bl false)))
    sNop)
    (sIf (mOr (mB (mBin pNe (mFn m_law_kinds [] (mCons (mVar 5) mNil)) (mLc (itR1 (mCons (mC (.int 12)) mNil)) (tgN 9) mYes (mBin pEq (mVar 8) (mVar 9)) [9]))) (mAnd (mB (mBin pLt (mVar 8) (mC (.int 8)))) (mB (mBin pNe (mXt stx (mVar 5)) (mVar 4)))))
    (sRet (mC (.bl false)))
    sNop))
def B2 : S := (sIf (mOr (mB (mBin pNe (mVar 6) (mVar 3))) (mB (mBin pNe (mIsi 0 .bl (mVar 6)) (mIsi 0 .bl (mVar 3)))))
    (sRet (mC (.bl false)))
    sNop)
def A2 : S := (sSet (mFn m_law_well [] (mCons (mVar 1) mNil)) 2)
def A3 : S := (sSet (mFn m_law_one [] (mCons (mVar 2) (mCons (mLst (mCons (mC .non) (mCons (mC (.int 0)) (mCons (mNeg (mC (.int 1))) (mCons (mC (.str "")) (mCons (mC (.str "beds")) (mCons (mTup (mCons (mC (.int 0)) (mCons (mC (.int 3)) mNil))) (mCons (mBin pEq (mC (.int 1)) (mC (.int 1))) (mCons (mBin pPow (mC (.int 10)) (mC (.int 12))) (mCons (mTup mNil) (mCons (mC (.str "a b")) mNil))))))))))) mNil))) 3)
def A4 : S := (sSet (mFn m_law_one [] (mCons (mVar 2) (mCons (mLst (mCons (mC (.str "")) (mCons (mC (.str "no")) (mCons (mC (.str "a text of its own")) (mCons (mC (.str "0")) mNil))))) mNil))) 4)
def A7 : S := (sSet (mBin pAdd (mFn m_law_plain [] (mCons (mVar 4) mNil)) (mLc (itS (mFn m_law_with [] (mCons (mVar 3) mNil))) (tgT 2 (tgCons (tgN 5) (tgCons (tgN 6) tgNil))) mYes (mVar 5) [5, 6])) 7)
def F1 : S := sFor (itE (mCons (mVar 7) mNil)) (tgT 2 (tgCons (tgN 8) (tgCons (tgN 5) tgNil))) B1
def F2 : S := sFor (itS (mFn m_law_with [] (mCons (mVar 3) mNil))) (tgT 2 (tgCons (tgN 5) (tgCons (tgN 6) tgNil))) B2
def inner : S := sSeq A2 (sSeq A3 (sSeq A4 (sSeq A7 (sSeq F1 F2))))
theorem b_law_eq : b_law = sSeq (sFor (itS (mBin pAdd (mSl (mVar 0) oNo (oYes (mC (.int 6)))) (mLst (mCons (mC (.int 0)) mNil)))) (tgN 1) inner) (sRet (mC (.bl true))) := rfl
theorem mBin_val {f : R.F2} {a b : M PV} {en : En} {p : Pool} {x y : PV} (ha : a en p = .ok x p) (hb : b en p = .ok y p) : mBin f a b en p = f x y p := by
  unfold mBin
  rw [ha]
  dsimp only [Res.bind]
  rw [hb]
theorem ne_of {x y : PV} (h : eqD x y = some true) (p : Pool) : pNe x y p = .ok (.bl false) p := by
  unfold pNe
  rw [h]
  rfl
def things : List PV := [.non, .int 0, .int (-1), .str "", .str "beds", .tup [.int 0, .int 3], .bl true, .int (10 ^ (12 : Int).toNat), .tup [], .str "a b"]
def texts : List PV := [.str "", .str "no", .str "a text of its own", .str "0"]
theorem A2_ok (s0 s2 s3 s4 s5 s6 s7 s8 s9 : Option PV) (n : Int) (p : Pool) : ∃ a b, A2 ⟨0, [s0, some (.int n), s2, s3, s4, s5, s6, s7, s8, s9]⟩ p = .next ⟨0, [s0, some (.int n), some (.own p.length), s3, s4, s5, s6, s7, s8, s9]⟩ (p ++ [.lst [.int a, .int b, .int 0]]) ∧ 0 ≤ b ∧ b < 2147483647 := by
  obtain ⟨a, b, h, h0, h1⟩ := well_ok n p
  refine ⟨a, b, ?_, h0, h1⟩
  unfold A2
  simp only [fnM, fnO, sSeq, sAsg, sIf, sRet, sNop, sSet, sExpr, sFor, sIx, loopF, mBin, mB, mVar, mC, mCall, mCons, mNil, mTup, mLst, mLstO, mFn, mAnd, mOr, mNot, mNeg, mXs, mXv, mXf, mXi, mXt, mIsi, mLc, loopC, mYes, itS, itE, itR1, tgN, tgT, tgCons, tgNil, mSl, oNo, oYes, Res.bind, Res.run, Ctl.andThen, En.set, En.sets, f2I, f2C, wipeE, pAdd, pSub, pMul, pDiv, pMod, pPow, pLt, pLe, pGt, pGe, pIx, cLen, cInt, List.map_cons, List.map_nil, List.length_cons, List.length_nil, List.replicate, List.append_nil, List.nil_append, List.cons_append, List.getElem?_cons_zero, List.getElem?_cons_succ, List.set_cons_zero, List.set_cons_succ, List.take_length, get_last, set_last, take_last, take_all1, len1, getL, getR, getQ, h]
theorem thaw_things : ∀ x, x ∈ things → ∀ n q, thaw fldT n q x = some x := fun x hx n q => by
  simp only [things, List.mem_cons, List.not_mem_nil, or_false] at hx
  rcases hx with rfl | rfl | rfl | rfl | rfl | rfl | rfl | rfl | rfl | rfl <;> rfl
theorem thaw_texts : ∀ x, x ∈ texts → ∀ n q, thaw fldT n q x = some x := fun x hx n q => by
  simp only [texts, List.mem_cons, List.not_mem_nil, or_false] at hx
  rcases hx with rfl | rfl | rfl | rfl <;> rfl
theorem eq11 (p : Pool) : pEq (.int 1) (.int 1) p = .ok (.bl true) p := rfl
theorem A3_ok (s0 s1 s3 s4 s5 s6 s7 s8 s9 : Option PV) (p : Pool) (k : Nat) (w0 w1 w2 : Int) (hk : p[k]? = some (.lst [.int w0, .int w1, .int w2])) (h1 : 0 ≤ w1) (h1' : w1 < 2147483647) (h2 : 0 ≤ w2) (h2' : w2 ≤ 10) :
    ∃ x u0 u2, x ∈ things ∧ A3 ⟨0, [s0, s1, some (.own k), s3, s4, s5, s6, s7, s8, s9]⟩ p = .next ⟨0, [s0, s1, some (.own k), some x, s4, s5, s6, s7, s8, s9]⟩ (p.set k (.lst [.int u0, .int w1, .int u2])) ∧ 0 ≤ u2 ∧ u2 ≤ w2 + 1 := by
  obtain ⟨x, u0, u2, hx, h, e0, e1⟩ := one_ok p k w0 w1 w2 things hk h1 h1' h2 h2' (by decide) (by decide) thaw_things
  refine ⟨x, u0, u2, hx, ?_, e0, e1⟩
  unfold things at h
  have e3 : okPow 10 12 = true := rfl
  unfold A3
  simp only [fnM, fnO, sSeq, sAsg, sIf, sRet, sNop, sSet, sExpr, sFor, sIx, loopF, mBin, mB, mVar, mC, mCall, mCons, mNil, mTup, mLst, mLstO, mFn, mAnd, mOr, mNot, mNeg, mXs, mXv, mXf, mXi, mXt, mIsi, mLc, loopC, mYes, itS, itE, itR1, tgN, tgT, tgCons, tgNil, mSl, oNo, oYes, Res.bind, Res.run, Ctl.andThen, En.set, En.sets, f2I, f2C, wipeE, pAdd, pSub, pMul, pDiv, pMod, pPow, pLt, pLe, pGt, pGe, pIx, cLen, cInt, List.map_cons, List.map_nil, List.length_cons, List.length_nil, List.replicate, List.append_nil, List.nil_append, List.cons_append, List.getElem?_cons_zero, List.getElem?_cons_succ, List.set_cons_zero, List.set_cons_succ, List.take_length, get_last, set_last, take_last, take_all1, len1, getL, getR, getQ, eq11, e3, if_true, h]
theorem A4_ok (s0 s1 s3 s4 s5 s6 s7 s8 s9 : Option PV) (p : Pool) (k : Nat) (w0 w1 w2 : Int) (hk : p[k]? = some (.lst [.int w0, .int w1, .int w2])) (h1 : 0 ≤ w1) (h1' : w1 < 2147483647) (h2 : 0 ≤ w2) (h2' : w2 ≤ 10) :
    ∃ x u0 u2, x ∈ texts ∧ A4 ⟨0, [s0, s1, some (.own k), s3, s4, s5, s6, s7, s8, s9]⟩ p = .next ⟨0, [s0, s1, some (.own k), s3, some x, s5, s6, s7, s8, s9]⟩ (p.set k (.lst [.int u0, .int w1, .int u2])) := by
  obtain ⟨x, u0, u2, hx, h, e0, e1⟩ := one_ok p k w0 w1 w2 texts hk h1 h1' h2 h2' (by decide) (by decide) thaw_texts
  refine ⟨x, u0, u2, hx, ?_⟩
  unfold texts at h
  unfold A4
  simp only [fnM, fnO, sSeq, sAsg, sIf, sRet, sNop, sSet, sExpr, sFor, sIx, loopF, mBin, mB, mVar, mC, mCall, mCons, mNil, mTup, mLst, mLstO, mFn, mAnd, mOr, mNot, mNeg, mXs, mXv, mXf, mXi, mXt, mIsi, mLc, loopC, mYes, itS, itE, itR1, tgN, tgT, tgCons, tgNil, mSl, oNo, oYes, Res.bind, Res.run, Ctl.andThen, En.set, En.sets, f2I, f2C, wipeE, pAdd, pSub, pMul, pDiv, pMod, pPow, pLt, pLe, pGt, pGe, pIx, cLen, cInt, List.map_cons, List.map_nil, List.length_cons, List.length_nil, List.replicate, List.append_nil, List.nil_append, List.cons_append, List.getElem?_cons_zero, List.getElem?_cons_succ, List.set_cons_zero, List.set_cons_succ, List.take_length, get_last, set_last, take_last, take_all1, len1, getL, getR, getQ, h]
def withs (x : PV) : List PV := [.tup [.xv 4 x, x], .tup [.xv 5 x, x], .tup [.xv 10 x, x], .tup [.xv 11 x, x]]
def fst' : PV → Option PV := fun y => match y with
  | .tup (e :: _) => some e
  | _ => none
def errs (x : PV) (t : Str) : List PV := [.xs 1 t, .xs 2 t, .xs 3 t, .xs 6 t, .xs 7 t, .xs 8 t, .xs 9 t, .xs 12 t, .xv 4 x, .xv 5 x, .xv 10 x, .xv 11 x]
theorem A7_ok (s0 s1 s2 s5 s6 s7 s8 s9 : Option PV) (x : PV) (t : Str) (p : Pool) (hx : ∀ n q, thaw fldT n q x = some x) (hb : ∀ n, bel n x = true) :
    A7 ⟨0, [s0, s1, s2, some x, some (.str t), s5, s6, s7, s8, s9]⟩ p = .next ⟨0, [s0, s1, s2, some x, some (.str t), s5, s6, some (.lst (errs x t)), s8, s9]⟩ p := by
  have hw := with_ok x (fun p n => hx n p) p
  have hi : itS (mFn m_law_with [] (mCons (mVar 3) mNil)) ⟨0, [s0, s1, s2, some x, some (.str t), s5, s6, s7, s8, s9]⟩ p = .ok (withs x) p := by
    simp only [fnM, fnO, sSeq, sAsg, sIf, sRet, sNop, sSet, sExpr, sFor, sIx, loopF, mBin, mB, mVar, mC, mCall, mCons, mNil, mTup, mLst, mLstO, mFn, mAnd, mOr, mNot, mNeg, mXs, mXv, mXf, mXi, mXt, mIsi, mLc, loopC, mYes, itS, itE, itR1, tgN, tgT, tgCons, tgNil, mSl, oNo, oYes, Res.bind, Res.run, Ctl.andThen, En.set, En.sets, f2I, f2C, wipeE, pAdd, pSub, pMul, pDiv, pMod, pPow, pLt, pLe, pGt, pGe, pIx, cLen, cInt, List.map_cons, List.map_nil, List.length_cons, List.length_nil, List.replicate, List.append_nil, List.nil_append, List.cons_append, List.getElem?_cons_zero, List.getElem?_cons_succ, List.set_cons_zero, List.set_cons_succ, List.take_length, get_last, set_last, take_last, take_all1, len1, getL, getR, getQ, hw, getZ]
    rfl
  have hc := mLc_map (g := tgT 2 (tgCons (tgN 5) (tgCons (tgN 6) tgNil))) (tt := mYes) (te := mVar 5) (vs := [5, 6]) fst' hi (fun y hy => by
    simp only [withs, List.mem_cons, List.not_mem_nil, or_false] at hy
    rcases hy with rfl | rfl | rfl | rfl <;> exact ⟨_, rfl, rfl, fun acc => ⟨rfl, fun y ey => by
      cases ey
      exact ⟨rfl, hb _⟩⟩⟩) (by show 4 ≤ big; decide)
  have h1 : (mFn m_law_plain [] (mCons (mVar 4) mNil)) ⟨0, [s0, s1, s2, some x, some (.str t), s5, s6, s7, s8, s9]⟩ p = .ok (.lst [.xs 1 t, .xs 2 t, .xs 3 t, .xs 6 t, .xs 7 t, .xs 8 t, .xs 9 t, .xs 12 t]) p := plain_ok t p
  have h2 := mBin_val (f := pAdd) h1 hc
  unfold A7 sSet
  rw [h2]
  rfl
def flags (i : Int) : List PV := (rng 0 12).filterMap fun x => match x with
  | .int j => some (.bl (i == j))
  | _ => none
theorem pEq_int (i j : Int) (p : Pool) : pEq (.int i) (.int j) p = .ok (.bl (i == j)) p := rfl
theorem flags_ok (s0 s1 s2 s3 s4 s5 s6 s7 s9 : Option PV) (i : Int) (p : Pool) : mLc (itR1 (mCons (mC (.int 12)) mNil)) (tgN 9) mYes (mBin pEq (mVar 8) (mVar 9)) [9] ⟨0, [s0, s1, s2, s3, s4, s5, s6, s7, some (.int i), s9]⟩ p = .ok (.lst (flags i)) p := by
  refine mLc_map (xs := rng 0 12) _ rfl (fun y hy => ?_) (by decide)
  unfold rng at hy
  rw [List.mem_map] at hy
  obtain ⟨j, _, rfl⟩ := hy
  refine ⟨_, rfl, rfl, fun acc => ⟨rfl, fun y ey => ?_⟩⟩
  cases ey
  exact ⟨pEq_int _ _ _, rfl⟩
theorem B1_xs (s0 s1 s2 s6 s7 s9 : Option PV) (x : PV) (t : Str) (c : Nat) (i : Int) (p : Pool) (hc : c ∈ ([1, 2, 3, 6, 7, 8, 9, 12] : List Nat)) (hk : pNe (kd c) (.lst (flags i)) p = .ok (.bl false) p) (h0 : isx 0 c = some true) (hs : stx c = true) (hi : decide (i < 8) = true) (ht : pNe (.str t) (.str t) p = .ok (.bl false) p) :
    B1 ⟨0, [s0, s1, s2, some x, some (.str t), some (.xs c t), s6, s7, some (.int i), s9]⟩ p = .next ⟨0, [s0, s1, s2, some x, some (.str t), some (.xs c t), s6, s7, some (.int i), s9]⟩ p := by
  have hkk := kinds_xs c hc t p
  have hf := flags_ok s0 s1 s2 (some x) (some (.str t)) (some (.xs c t)) s6 s7 s9 i p
  unfold B1
  simp only [sSeq, sIf, sRet, sNop, mB, mOr, mNot, mAnd, mXi, mXt, mVar, mC, mFn, mCons, mNil, mBin, Res.bind, Res.run, Ctl.andThen, List.getElem?_cons_zero, List.getElem?_cons_succ, List.append_nil, h0, hs, hkk, hf, hk, ht, pLt, f2I, hi, if_true, Bool.not_true, Bool.false_eq_true, if_false]
theorem B1_xv (s0 s1 s2 s6 s7 s9 : Option PV) (x : PV) (t : Str) (c : Nat) (i : Int) (p : Pool) (hc : c ∈ ([4, 5, 10, 11] : List Nat)) (hk : pNe (kd c) (.lst (flags i)) p = .ok (.bl false) p) (h0 : isx 0 c = some true) (hi : decide (i < 8) = false) :
    B1 ⟨0, [s0, s1, s2, some x, some (.str t), some (.xv c x), s6, s7, some (.int i), s9]⟩ p = .next ⟨0, [s0, s1, s2, some x, some (.str t), some (.xv c x), s6, s7, some (.int i), s9]⟩ p := by
  have hkk := kinds_xv c hc x p
  have hf := flags_ok s0 s1 s2 (some x) (some (.str t)) (some (.xv c x)) s6 s7 s9 i p
  unfold B1
  simp only [sSeq, sIf, sRet, sNop, mB, mOr, mNot, mAnd, mXi, mXt, mVar, mC, mFn, mCons, mNil, mBin, Res.bind, Res.run, Ctl.andThen, List.getElem?_cons_zero, List.getElem?_cons_succ, List.append_nil, h0, hkk, hf, hk, pLt, f2I, hi, if_true, Bool.not_true, Bool.false_eq_true, if_false]
/-- what the loops keep -/
def Keep (s0 s1 s2 s7 : Option PV) (x : PV) (t : Str) (p : Pool) (en : En) (q : Pool) : Prop := q = p ∧ ∃ s5 s6 s8 s9, en = ⟨0, [s0, s1, s2, some x, some (.str t), s5, s6, s7, s8, s9]⟩
theorem F1_ok (s0 s1 s2 : Option PV) (x : PV) (t : Str) (p : Pool) (ht : pNe (.str t) (.str t) p = .ok (.bl false) p) (en : En) (hK : Keep s0 s1 s2 (some (.lst (errs x t))) x t p en p) :
    ∃ en2, F1 en p = .next en2 p ∧ Keep s0 s1 s2 (some (.lst (errs x t))) x t p en2 p := by
  obtain ⟨_, s5, s6, s8, s9, rfl⟩ := hK
  obtain ⟨en2, p2, e, hk⟩ := loopF_inv (g := tgT 2 (tgCons (tgN 8) (tgCons (tgN 5) tgNil))) (body := B1) (Keep s0 s1 s2 (some (.lst (errs x t))) x t p) (enumZ 0 (errs x t)) ⟨0, [s0, s1, s2, some x, some (.str t), s5, s6, some (.lst (errs x t)), s8, s9]⟩ p (fun y hy en q hq => by
    obtain ⟨rfl, a5, a6, a8, a9, rfl⟩ := hq
    simp only [errs, enumZ, List.mem_cons, List.not_mem_nil, or_false] at hy
    rcases hy with rfl | rfl | rfl | rfl | rfl | rfl | rfl | rfl | rfl | rfl | rfl | rfl
    · exact ⟨_, _, _, rfl, B1_xs s0 s1 s2 a6 _ a9 x t 1 0 q (by decide) rfl rfl rfl rfl ht, rfl, _, _, _, _, rfl⟩
    · exact ⟨_, _, _, rfl, B1_xs s0 s1 s2 a6 _ a9 x t 2 1 q (by decide) rfl rfl rfl rfl ht, rfl, _, _, _, _, rfl⟩
    · exact ⟨_, _, _, rfl, B1_xs s0 s1 s2 a6 _ a9 x t 3 2 q (by decide) rfl rfl rfl rfl ht, rfl, _, _, _, _, rfl⟩
    · exact ⟨_, _, _, rfl, B1_xs s0 s1 s2 a6 _ a9 x t 6 3 q (by decide) rfl rfl rfl rfl ht, rfl, _, _, _, _, rfl⟩
    · exact ⟨_, _, _, rfl, B1_xs s0 s1 s2 a6 _ a9 x t 7 4 q (by decide) rfl rfl rfl rfl ht, rfl, _, _, _, _, rfl⟩
    · exact ⟨_, _, _, rfl, B1_xs s0 s1 s2 a6 _ a9 x t 8 5 q (by decide) rfl rfl rfl rfl ht, rfl, _, _, _, _, rfl⟩
    · exact ⟨_, _, _, rfl, B1_xs s0 s1 s2 a6 _ a9 x t 9 6 q (by decide) rfl rfl rfl rfl ht, rfl, _, _, _, _, rfl⟩
    · exact ⟨_, _, _, rfl, B1_xs s0 s1 s2 a6 _ a9 x t 12 7 q (by decide) rfl rfl rfl rfl ht, rfl, _, _, _, _, rfl⟩
    · exact ⟨_, _, _, rfl, B1_xv s0 s1 s2 a6 _ a9 x t 4 8 q (by decide) rfl rfl rfl, rfl, _, _, _, _, rfl⟩
    · exact ⟨_, _, _, rfl, B1_xv s0 s1 s2 a6 _ a9 x t 5 9 q (by decide) rfl rfl rfl, rfl, _, _, _, _, rfl⟩
    · exact ⟨_, _, _, rfl, B1_xv s0 s1 s2 a6 _ a9 x t 10 10 q (by decide) rfl rfl rfl, rfl, _, _, _, _, rfl⟩
    · exact ⟨_, _, _, rfl, B1_xv s0 s1 s2 a6 _ a9 x t 11 11 q (by decide) rfl rfl rfl, rfl, _, _, _, _, rfl⟩) ⟨rfl, s5, s6, s8, s9, rfl⟩
  obtain ⟨rfl, hk⟩ := hk
  exact ⟨en2, e, rfl, hk⟩
theorem B2_ok (s0 s1 s2 s5 s7 s8 s9 : Option PV) (x : PV) (t : Str) (p : Pool) (h1 : pNe x x p = .ok (.bl false) p) (b : Bool) (h2 : ∀ en, en.sl[6]? = some (some x) → mIsi 0 .bl (mVar 6) en p = .ok (.bl b) p) (h3 : ∀ en, en.sl[3]? = some (some x) → mIsi 0 .bl (mVar 3) en p = .ok (.bl b) p) (h4 : pNe (.bl b) (.bl b) p = .ok (.bl false) p) :
    B2 ⟨0, [s0, s1, s2, some x, some (.str t), s5, some x, s7, s8, s9]⟩ p = .next ⟨0, [s0, s1, s2, some x, some (.str t), s5, some x, s7, s8, s9]⟩ p := by
  have e2 := h2 ⟨0, [s0, s1, s2, some x, some (.str t), s5, some x, s7, s8, s9]⟩ rfl
  have e3 := h3 ⟨0, [s0, s1, s2, some x, some (.str t), s5, some x, s7, s8, s9]⟩ rfl
  unfold B2
  simp only [sSeq, sIf, sRet, sNop, mB, mOr, mNot, mAnd, mVar, mC, mBin, Res.bind, Res.run, Ctl.andThen, List.getElem?_cons_zero, List.getElem?_cons_succ, e2, e3, h1, h4, Bool.false_eq_true, if_false]
theorem F2_ok (s0 s1 s2 s7 : Option PV) (x : PV) (t : Str) (p : Pool) (hx : ∀ n q, thaw fldT n q x = some x) (h1 : pNe x x p = .ok (.bl false) p) (b : Bool) (h2 : ∀ en, en.sl[6]? = some (some x) → mIsi 0 .bl (mVar 6) en p = .ok (.bl b) p) (h3 : ∀ en, en.sl[3]? = some (some x) → mIsi 0 .bl (mVar 3) en p = .ok (.bl b) p) (h4 : pNe (.bl b) (.bl b) p = .ok (.bl false) p)
    (en : En) (hK : Keep s0 s1 s2 s7 x t p en p) : ∃ en2, F2 en p = .next en2 p ∧ Keep s0 s1 s2 s7 x t p en2 p := by
  obtain ⟨_, s5, s6, s8, s9, rfl⟩ := hK
  have hw := with_ok x (fun p n => hx n p) p
  have hi : itS (mFn m_law_with [] (mCons (mVar 3) mNil)) ⟨0, [s0, s1, s2, some x, some (.str t), s5, s6, s7, s8, s9]⟩ p = .ok (withs x) p := by
    simp only [fnM, fnO, sSeq, sAsg, sIf, sRet, sNop, sSet, sExpr, sFor, sIx, loopF, mBin, mB, mVar, mC, mCall, mCons, mNil, mTup, mLst, mLstO, mFn, mAnd, mOr, mNot, mNeg, mXs, mXv, mXf, mXi, mXt, mIsi, mLc, loopC, mYes, itS, itE, itR1, tgN, tgT, tgCons, tgNil, mSl, oNo, oYes, Res.bind, Res.run, Ctl.andThen, En.set, En.sets, f2I, f2C, wipeE, pAdd, pSub, pMul, pDiv, pMod, pPow, pLt, pLe, pGt, pGe, pIx, cLen, cInt, List.map_cons, List.map_nil, List.length_cons, List.length_nil, List.replicate, List.append_nil, List.nil_append, List.cons_append, List.getElem?_cons_zero, List.getElem?_cons_succ, List.set_cons_zero, List.set_cons_succ, List.take_length, get_last, set_last, take_last, take_all1, len1, getL, getR, getQ, hw, getZ]
    rfl
  obtain ⟨en2, p2, e, hk⟩ := loopF_inv (g := tgT 2 (tgCons (tgN 5) (tgCons (tgN 6) tgNil))) (body := B2) (Keep s0 s1 s2 s7 x t p) (withs x) ⟨0, [s0, s1, s2, some x, some (.str t), s5, s6, s7, s8, s9]⟩ p (fun y hy en q hq => by
    obtain ⟨rfl, a5, a6, a8, a9, rfl⟩ := hq
    simp only [withs, List.mem_cons, List.not_mem_nil, or_false] at hy
    rcases hy with rfl | rfl | rfl | rfl <;> exact ⟨_, _, _, rfl, B2_ok s0 s1 s2 _ s7 a8 a9 x t q h1 b h2 h3 h4, rfl, _, _, _, _, rfl⟩) ⟨rfl, s5, s6, s8, s9, rfl⟩
  obtain ⟨rfl, hk⟩ := hk
  refine ⟨en2, ?_, rfl, hk⟩
  unfold F2 sFor
  rw [hi]
  exact e
theorem isi_ok (x : PV) (hx : x ∈ things) (p : Pool) : ∃ b, (∀ i en, en.sl[i]? = some (some x) → mIsi 0 .bl (mVar i) en p = .ok (.bl b) p) ∧ pNe (.bl b) (.bl b) p = .ok (.bl false) p := by
  have key : ∀ b, (∃ T, tyP 0 p x = some T ∧ isT .bl T = b) → ∀ (i : Nat) (en : En), en.sl[i]? = some (some x) → mIsi 0 .bl (mVar i) en p = .ok (.bl b) p := fun b ⟨T, e1, e2⟩ i en e => by
    unfold mIsi mVar
    rw [e]
    dsimp only [Res.bind]
    rw [e1]
    dsimp only
    rw [e2]
  simp only [things, List.mem_cons, List.not_mem_nil, or_false] at hx
  rcases hx with rfl | rfl | rfl | rfl | rfl | rfl | rfl | rfl | rfl | rfl
  · exact ⟨_, key _ ⟨_, rfl, rfl⟩, rfl⟩
  · exact ⟨_, key _ ⟨_, rfl, rfl⟩, rfl⟩
  · exact ⟨_, key _ ⟨_, rfl, rfl⟩, rfl⟩
  · exact ⟨_, key _ ⟨_, rfl, rfl⟩, rfl⟩
  · exact ⟨_, key _ ⟨_, rfl, rfl⟩, rfl⟩
  · exact ⟨_, key _ ⟨_, rfl, rfl⟩, rfl⟩
  · exact ⟨_, key _ ⟨_, rfl, rfl⟩, rfl⟩
  · exact ⟨_, key _ ⟨_, rfl, rfl⟩, rfl⟩
  · exact ⟨_, key _ ⟨_, rfl, rfl⟩, rfl⟩
  · exact ⟨_, key _ ⟨_, rfl, rfl⟩, rfl⟩
theorem ne_things (x : PV) (hx : x ∈ things) (p : Pool) : pNe x x p = .ok (.bl false) p := by
  simp only [things, List.mem_cons, List.not_mem_nil, or_false] at hx
  rcases hx with rfl | rfl | rfl | rfl | rfl | rfl | rfl | rfl | rfl | rfl <;> exact ne_of (by decide +kernel) p
theorem bel_things (x : PV) (hx : x ∈ things) (n : Nat) : bel n x = true := by
  simp only [things, List.mem_cons, List.not_mem_nil, or_false] at hx
  rcases hx with rfl | rfl | rfl | rfl | rfl | rfl | rfl | rfl | rfl | rfl <;> rfl
theorem ne_texts (x : PV) (hx : x ∈ texts) : ∃ t, x = .str t ∧ ∀ p, pNe (.str t) (.str t) p = .ok (.bl false) p := by
  simp only [texts, List.mem_cons, List.not_mem_nil, or_false] at hx
  rcases hx with rfl | rfl | rfl | rfl <;> exact ⟨_, rfl, ne_of (by decide +kernel)⟩
theorem inner_ok (s0 s2 s3 s4 s5 s6 s7 s8 s9 : Option PV) (n : Int) (p : Pool) : ∃ a1 a2 a3 a4 a5 a6 a7 a8 a9 p2, inner ⟨0, [s0, some (.int n), s2, s3, s4, s5, s6, s7, s8, s9]⟩ p = .next ⟨0, [s0, a1, a2, a3, a4, a5, a6, a7, a8, a9]⟩ p2 := by
  obtain ⟨a, b, e2, b0, b1⟩ := A2_ok s0 s2 s3 s4 s5 s6 s7 s8 s9 n p
  obtain ⟨x, u0, u2, hx, e3, u20, u21⟩ := A3_ok s0 (some (.int n)) s3 s4 s5 s6 s7 s8 s9 (p ++ [.lst [.int a, .int b, .int 0]]) p.length a b 0 (get_last _ _) b0 b1 (by decide) (by decide)
  rw [set_last] at e3
  obtain ⟨y, v0, v2, hy, e4⟩ := A4_ok s0 (some (.int n)) (some x) s4 s5 s6 s7 s8 s9 (p ++ [.lst [.int u0, .int b, .int u2]]) p.length u0 b u2 (get_last _ _) b0 b1 u20 (by omega)
  rw [set_last] at e4
  obtain ⟨t, rfl, ht⟩ := ne_texts y hy
  obtain ⟨q, hq⟩ : ∃ q : Pool, q = p ++ [.lst [.int v0, .int b, .int v2]] := ⟨_, rfl⟩
  rw [← hq] at e4
  have e7 := A7_ok s0 (some (.int n)) (some (.own p.length)) s5 s6 s7 s8 s9 x t q (thaw_things x hx) (bel_things x hx)
  obtain ⟨en1, f1, k1⟩ := F1_ok s0 (some (.int n)) (some (.own p.length)) x t q (ht q) ⟨0, [s0, some (.int n), some (.own p.length), some x, some (.str t), s5, s6, some (.lst (errs x t)), s8, s9]⟩ ⟨rfl, s5, s6, s8, s9, rfl⟩
  obtain ⟨bb, i1, i2⟩ := isi_ok x hx q
  obtain ⟨en2, f2, k2⟩ := F2_ok s0 (some (.int n)) (some (.own p.length)) (some (.lst (errs x t))) x t q (thaw_things x hx) (ne_things x hx q) bb (i1 6) (i1 3) i2 en1 k1
  obtain ⟨_, c5, c6, c8, c9, rfl⟩ := k2
  refine ⟨some (.int n), some (.own p.length), some x, some (.str t), c5, c6, some (.lst (errs x t)), c8, c9, q, ?_⟩
  unfold inner sSeq
  rw [e2]
  dsimp only [Ctl.andThen]
  rw [e3]
  dsimp only
  rw [e4]
  dsimp only
  rw [e7]
  dsimp only
  rw [f1]
  exact f2
theorem fnM_ret {fld : Nat → List Str} {N : Nat} {body : S} {xs : List PV} {p q : Pool} {x y : PV} (h : body ⟨p.length, xs.map some ++ List.replicate (N - xs.length) none⟩ p = .ret x q) (ht : thaw fld p.length q x = some y) : fnM fld N body xs p = .ok y (q.take p.length) := by
  unfold fnM
  rw [h]
  dsimp only
  rw [ht]
theorem cut_mem {xs : List PV} {a b : Option Int} {z : PV} (h : z ∈ cut xs a b) : z ∈ xs := List.mem_of_mem_drop (List.mem_of_mem_take h)
theorem cut_len {xs : List PV} {a b : Option Int} : (cut xs a b).length ≤ xs.length := by
  unfold cut
  rw [List.length_take, List.length_drop]
  omega
theorem law_ok (ns : List Int) (h : ns.length ≤ 63) : m_law [.scr ns] [] = .ok (.bl true) [] := by
  obtain ⟨zs, hz, hm⟩ : ∃ zs : List PV, itS (mBin pAdd (mSl (mVar 0) oNo (oYes (mC (.int 6)))) (mLst (mCons (mC (.int 0)) mNil))) ⟨0, [some (.scr ns), none, none, none, none, none, none, none, none, none]⟩ [] = .ok zs [] ∧ ∀ z ∈ zs, ∃ n : Int, z = .int n := by
    refine ⟨cut (ns.map .int) none (some 6) ++ [.int 0], ?_, fun z hz => ?_⟩
    · have hl : (cut (ns.map PV.int) none (some 6)).length + 1 ≤ big := by
        have := cut_len (xs := ns.map PV.int) (a := none) (b := some 6)
        rw [List.length_map] at this
        unfold big
        omega
      have h1 : mSl (mVar 0) oNo (oYes (mC (.int 6))) ⟨0, [some (.scr ns), none, none, none, none, none, none, none, none, none]⟩ [] = .ok (.lst (cut (ns.map .int) none (some 6))) [] := rfl
      have h2 := mBin_val (f := pAdd) h1 (show mLst (mCons (mC (.int 0)) mNil) ⟨0, [some (.scr ns), none, none, none, none, none, none, none, none, none]⟩ [] = .ok (.lst [.int 0]) [] from rfl)
      unfold itS
      rw [h2]
      unfold pAdd
      dsimp only [getL]
      rw [if_pos (show (cut (ns.map PV.int) none (some 6)).length + [PV.int 0].length ≤ big from hl)]
      rfl
    · rcases List.mem_append.mp hz with hz | hz
      · obtain ⟨n, _, rfl⟩ := List.mem_map.mp (cut_mem hz)
        exact ⟨n, rfl⟩
      · rw [List.mem_singleton] at hz
        exact ⟨0, hz⟩
  obtain ⟨en2, p2, e, _, _, _, _, _, _, _, _, _, rfl⟩ := loopF_inv (g := tgN 1) (body := inner) (fun en _ => ∃ a1 a2 a3 a4 a5 a6 a7 a8 a9, en = ⟨0, [some (.scr ns), a1, a2, a3, a4, a5, a6, a7, a8, a9]⟩) zs ⟨0, [some (.scr ns), none, none, none, none, none, none, none, none, none]⟩ [] (fun z hz en p ⟨a1, a2, a3, a4, a5, a6, a7, a8, a9, e⟩ => by
    obtain ⟨n, rfl⟩ := hm z hz
    subst e
    obtain ⟨b1, b2, b3, b4, b5, b6, b7, b8, b9, p2, e2⟩ := inner_ok (some (.scr ns)) a2 a3 a4 a5 a6 a7 a8 a9 n p
    exact ⟨_, _, p2, rfl, e2, b1, b2, b3, b4, b5, b6, b7, b8, b9, rfl⟩) ⟨_, _, _, _, _, _, _, _, _, rfl⟩
  have hB : b_law ⟨0, [some (.scr ns), none, none, none, none, none, none, none, none, none]⟩ [] = .ret (.bl true) p2 := by
    rw [b_law_eq]
    unfold sSeq sFor
    rw [hz]
    dsimp only [Res.run, Ctl.andThen]
    rw [e]
    rfl
  exact fnM_ret (fld := fldT) (N := 10) (body := b_law) (xs := [.scr ns]) (p := []) (y := .bl true) hB rfl
/-- what is asked of the law -/
def spLaw (K : PySem.W.Frag) : Sp := fun vs H Q _ => ∃ (a : Addr) (ns : List Int), vs = [.ref a] ∧ SqL K H a (ns.map V.int) ∧ ns.length ≤ 63 ∧ ∀ H', Q (.bl true) H'
theorem law_imp {P : Program} {w : World} {K : PySem.W.Frag} {mg : Str → Option Value} {base : Heap} (T : Facts K mg) : FnOk P w K mg base (L2.CX P w) 5 T.f_law T.d_law ["script"] (spLaw K) := (ok_law T).imp fun vs H Q E ⟨a, ns, e, hS, hl, k⟩ => by
  subst e
  refine ⟨rfl, ⟨0, fun _ => none⟩, (⟨H, []⟩ : Wd), [], [.scr ns], ⟨fun _ _ e => e, rfl, List.nodup_nil, Nat.le_refl _, fun _ _ => rfl, fun _ _ e => (nomatch e), fun k c a e _ => by simp at e⟩, Reps.cons ⟨a, rfl, hS⟩ Reps.nil, ?_⟩
  rw [law_ok ns hl]
  intro w' H' v l S r
  have r : v = .bl true := r
  rw [r]
  exact k H'
theorem fin {l : PySem.W.OpenLaw} {w : World} {K : PySem.W.Frag} {mg : Str → Option Value} {fa : Addr} (hfa : mg "law" = some (.ref fa)) (N : Nonempty (Facts K mg)) :
    ∃ fd : FuncData, (∀ (s : Shared) (v : Value), BindsTo s fd ⟨[v], []⟩ [("script", v)]) ∧ ∀ base : Heap, K.In base → base.Ns mainGlobals mg → FnOk l.prog w K mg base (L2.CX l.prog w) 5 fa fd ["script"] (spLaw K) := by
  obtain ⟨T⟩ := N
  have e := hfa.symm.trans T.g_law
  cases e
  exact ⟨T.d_law, T.bl, fun base _ _ => law_imp T⟩
theorem walk {l : PySem.W.OpenLaw} {q : Program} {loose : List Str} {XP : (Str → Option Value) → Heap → Prop} {YP : World → Heap → Prop} {d : DefRec} {K : Params → PySem.W.Frag} (hn : l.most = some 63) (hdf : d.params.defaults = [])
    (hY : ∀ (w : World) (h : Heap), YP w h → (K w.params).In h)
    (F : ∀ (w : World) (mg : Str → Option Value) (fa : Addr) (h : Heap), (K w.params).In h → h.Ns mainGlobals mg → mg d.name = some (.ref fa) →
      ∃ fd : FuncData, (∀ (s : Shared) (u : Value), BindsTo s fd ⟨[u], []⟩ [("script", u)]) ∧ ∀ base : Heap, (K w.params).In base → base.Ns mainGlobals mg → FnOk l.prog w (K w.params) mg base (L2.CX l.prog w) 5 fa fd ["script"] (spLaw (K w.params))) :
    PySem.W.WalkO q loose XP YP l.row.toRowW d [] (fun f vs => PySem.call f vs) :=
  L2.walk_of (n := 63) (k := 5) (x := "script") (CX := fun w => L2.CX l.prog w) (sp := fun w => spLaw (K w.params)) hn (by decide) hdf ⟨rfl, by decide, by decide⟩ hY F (fun _ _ a ns hl _ hS => ⟨a, ns, rfl, hS, hl, fun _ => rfl⟩) fun _ _ _ _ _ ⟨_, _, _, _, _, _, _, _, _, _, _, _, z⟩ => z

end K03
open PySem PySem.W PyProof.Rows in
set_option maxRecDepth 100000 in
set_option maxHeartbeats 0 in
theorem PySem.Challenge.cw_rillweb_k03_refusals_made_by_hand_holds : PySem.Challenge.rw_rillweb_k03_refusals_made_by_hand.Holds := by
  w_on; o_law; k_head; (case hw => w_witness2)
  k_fill
  refine K03.walk (l := PySem.Challenge.rw_rillweb_k03_refusals_made_by_hand) rfl rfl (fun w h Y => PySem.W.kIn_of Y) ?F
  case F =>
    intro w mg fa h KX G hmg
    refine' K03.fin hmg (K03.facts_mk KX G ?ax_RillError ?ax_NoShare ?ax_NoCourse ?ax_NoDay ?ax_TooLong ?ax_NoWeb ?ax_NoDepths ?ax_NoRain ?ax_NoDigs ?ax_NoTurned ?ax_NoPlace ?ax_NoBed ?ax_NoTie ?a_TooLong_init ?i_TooLong_init ?l_TooLong_init ?e_TooLong_init ?k_TooLong_init ?a_NoWeb_init ?i_NoWeb_init ?l_NoWeb_init ?e_NoWeb_init ?k_NoWeb_init ?a_NoPlace_init ?i_NoPlace_init ?l_NoPlace_init ?e_NoPlace_init ?k_NoPlace_init ?a_NoBed_init ?i_NoBed_init ?l_NoBed_init ?e_NoBed_init ?k_NoBed_init ?a_law_well ?l_law_well ?e_law_well ?k_law_well ?a_law_draw ?l_law_draw ?e_law_draw ?k_law_draw ?a_law_one ?l_law_one ?e_law_one ?k_law_one ?a_law_plain ?l_law_plain ?e_law_plain ?k_law_plain ?a_law_with ?l_law_with ?e_law_with ?k_law_with ?a_law_kinds ?l_law_kinds ?e_law_kinds ?k_law_kinds ?a_law ?l_law ?e_law ?k_law ?n_ValueError ?n_bool ?n_enumerate ?n_int ?n_isinstance ?n_len ?n_range ?n_str ?ty_RillError ?ic_RillError ?ss_RillError_RillError ?ty_NoShare ?ic_NoShare ?ss_NoShare_NoShare ?ty_NoCourse ?ic_NoCourse ?ss_NoCourse_NoCourse ?ty_NoDay ?ic_NoDay ?ss_NoDay_NoDay ?ty_TooLong ?ic_TooLong ?ss_TooLong_TooLong ?ty_NoWeb ?ic_NoWeb ?ss_NoWeb_NoWeb ?ty_NoDepths ?ic_NoDepths ?ss_NoDepths_NoDepths ?ty_NoRain ?ic_NoRain ?ss_NoRain_NoRain ?ty_NoDigs ?ic_NoDigs ?ss_NoDigs_NoDigs ?ty_NoTurned ?ic_NoTurned ?ss_NoTurned_NoTurned ?ty_NoPlace ?ic_NoPlace ?ss_NoPlace_NoPlace ?ty_NoBed ?ic_NoBed ?ss_NoBed_NoBed ?ty_NoTie ?ic_NoTie ?ss_NoTie_NoTie ?ss_NoShare_RillError ?ss_NoShare_NoCourse ?ss_NoShare_NoDay ?ss_NoShare_TooLong ?ss_NoShare_NoWeb ?ss_NoShare_NoDepths ?ss_NoShare_NoRain ?ss_NoShare_NoDigs ?ss_NoShare_NoTurned ?ss_NoShare_NoPlace ?ss_NoShare_NoBed ?ss_NoShare_NoTie ?ss_NoShare_VE ?ss_NoCourse_RillError ?ss_NoCourse_NoShare ?ss_NoCourse_NoDay ?ss_NoCourse_TooLong ?ss_NoCourse_NoWeb ?ss_NoCourse_NoDepths ?ss_NoCourse_NoRain ?ss_NoCourse_NoDigs ?ss_NoCourse_NoTurned ?ss_NoCourse_NoPlace ?ss_NoCourse_NoBed ?ss_NoCourse_NoTie ?ss_NoCourse_VE ?ss_NoDay_RillError ?ss_NoDay_NoShare ?ss_NoDay_NoCourse ?ss_NoDay_TooLong ?ss_NoDay_NoWeb ?ss_NoDay_NoDepths ?ss_NoDay_NoRain ?ss_NoDay_NoDigs ?ss_NoDay_NoTurned ?ss_NoDay_NoPlace ?ss_NoDay_NoBed ?ss_NoDay_NoTie ?ss_NoDay_VE ?xl_TooLong ?re_TooLong ?ss_TooLong_RillError ?ss_TooLong_NoShare ?ss_TooLong_NoCourse ?ss_TooLong_NoDay ?ss_TooLong_NoWeb ?ss_TooLong_NoDepths ?ss_TooLong_NoRain ?ss_TooLong_NoDigs ?ss_TooLong_NoTurned ?ss_TooLong_NoPlace ?ss_TooLong_NoBed ?ss_TooLong_NoTie ?ss_TooLong_VE ?xl_NoWeb ?re_NoWeb ?ss_NoWeb_RillError ?ss_NoWeb_NoShare ?ss_NoWeb_NoCourse ?ss_NoWeb_NoDay ?ss_NoWeb_TooLong ?ss_NoWeb_NoDepths ?ss_NoWeb_NoRain ?ss_NoWeb_NoDigs ?ss_NoWeb_NoTurned ?ss_NoWeb_NoPlace ?ss_NoWeb_NoBed ?ss_NoWeb_NoTie ?ss_NoWeb_VE ?ss_NoDepths_RillError ?ss_NoDepths_NoShare ?ss_NoDepths_NoCourse ?ss_NoDepths_NoDay ?ss_NoDepths_TooLong ?ss_NoDepths_NoWeb ?ss_NoDepths_NoRain ?ss_NoDepths_NoDigs ?ss_NoDepths_NoTurned ?ss_NoDepths_NoPlace ?ss_NoDepths_NoBed ?ss_NoDepths_NoTie ?ss_NoDepths_VE ?ss_NoRain_RillError ?ss_NoRain_NoShare ?ss_NoRain_NoCourse ?ss_NoRain_NoDay ?ss_NoRain_TooLong ?ss_NoRain_NoWeb ?ss_NoRain_NoDepths ?ss_NoRain_NoDigs ?ss_NoRain_NoTurned ?ss_NoRain_NoPlace ?ss_NoRain_NoBed ?ss_NoRain_NoTie ?ss_NoRain_VE ?ss_NoDigs_RillError ?ss_NoDigs_NoShare ?ss_NoDigs_NoCourse ?ss_NoDigs_NoDay ?ss_NoDigs_TooLong ?ss_NoDigs_NoWeb ?ss_NoDigs_NoDepths ?ss_NoDigs_NoRain ?ss_NoDigs_NoTurned ?ss_NoDigs_NoPlace ?ss_NoDigs_NoBed ?ss_NoDigs_NoTie ?ss_NoDigs_VE ?ss_NoTurned_RillError ?ss_NoTurned_NoShare ?ss_NoTurned_NoCourse ?ss_NoTurned_NoDay ?ss_NoTurned_TooLong ?ss_NoTurned_NoWeb ?ss_NoTurned_NoDepths ?ss_NoTurned_NoRain ?ss_NoTurned_NoDigs ?ss_NoTurned_NoPlace ?ss_NoTurned_NoBed ?ss_NoTurned_NoTie ?ss_NoTurned_VE ?xl_NoPlace ?re_NoPlace ?ss_NoPlace_RillError ?ss_NoPlace_NoShare ?ss_NoPlace_NoCourse ?ss_NoPlace_NoDay ?ss_NoPlace_TooLong ?ss_NoPlace_NoWeb ?ss_NoPlace_NoDepths ?ss_NoPlace_NoRain ?ss_NoPlace_NoDigs ?ss_NoPlace_NoTurned ?ss_NoPlace_NoBed ?ss_NoPlace_NoTie ?ss_NoPlace_VE ?xl_NoBed ?re_NoBed ?ss_NoBed_RillError ?ss_NoBed_NoShare ?ss_NoBed_NoCourse ?ss_NoBed_NoDay ?ss_NoBed_TooLong ?ss_NoBed_NoWeb ?ss_NoBed_NoDepths ?ss_NoBed_NoRain ?ss_NoBed_NoDigs ?ss_NoBed_NoTurned ?ss_NoBed_NoPlace ?ss_NoBed_NoTie ?ss_NoBed_VE ?ss_NoTie_RillError ?ss_NoTie_NoShare ?ss_NoTie_NoCourse ?ss_NoTie_NoDay ?ss_NoTie_TooLong ?ss_NoTie_NoWeb ?ss_NoTie_NoDepths ?ss_NoTie_NoRain ?ss_NoTie_NoDigs ?ss_NoTie_NoTurned ?ss_NoTie_NoPlace ?ss_NoTie_NoBed ?ss_NoTie_VE ?kx_NoShare ?hg_NoShare ?hk_NoShare ?hs_NoShare ?hd_NoShare ?ha_NoShare ?hm_NoShare ?q_NoShare ?st_NoShare ?kx_NoCourse ?hg_NoCourse ?hk_NoCourse ?hs_NoCourse ?hd_NoCourse ?ha_NoCourse ?hm_NoCourse ?q_NoCourse ?st_NoCourse ?kx_NoDay ?hg_NoDay ?hk_NoDay ?hs_NoDay ?hd_NoDay ?ha_NoDay ?hm_NoDay ?q_NoDay ?st_NoDay ?kx_TooLong ?hg_TooLong ?hk_TooLong ?hs_TooLong ?hd_TooLong ?ha_TooLong ?hm_TooLong ?sa_TooLong ?no_TooLong ?kx_NoWeb ?hg_NoWeb ?hk_NoWeb ?hs_NoWeb ?hd_NoWeb ?ha_NoWeb ?hm_NoWeb ?sa_NoWeb ?no_NoWeb ?kx_NoDepths ?hg_NoDepths ?hk_NoDepths ?hs_NoDepths ?hd_NoDepths ?ha_NoDepths ?hm_NoDepths ?q_NoDepths ?st_NoDepths ?kx_NoRain ?hg_NoRain ?hk_NoRain ?hs_NoRain ?hd_NoRain ?ha_NoRain ?hm_NoRain ?q_NoRain ?st_NoRain ?kx_NoDigs ?hg_NoDigs ?hk_NoDigs ?hs_NoDigs ?hd_NoDigs ?ha_NoDigs ?hm_NoDigs ?q_NoDigs ?st_NoDigs ?kx_NoTurned ?hg_NoTurned ?hk_NoTurned ?hs_NoTurned ?hd_NoTurned ?ha_NoTurned ?hm_NoTurned ?q_NoTurned ?st_NoTurned ?kx_NoPlace ?hg_NoPlace ?hk_NoPlace ?hs_NoPlace ?hd_NoPlace ?ha_NoPlace ?hm_NoPlace ?sa_NoPlace ?no_NoPlace ?kx_NoBed ?hg_NoBed ?hk_NoBed ?hs_NoBed ?hd_NoBed ?ha_NoBed ?hm_NoBed ?sa_NoBed ?no_NoBed ?kx_NoTie ?hg_NoTie ?hk_NoTie ?hs_NoTie ?hd_NoTie ?ha_NoTie ?hm_NoTie ?q_NoTie ?st_NoTie ?hn ?ht ?rd ?rg ?vi)
    (case ax_RillError => k_is)
    (case ax_NoShare => k_is)
    (case ax_NoCourse => k_is)
    (case ax_NoDay => k_is)
    (case ax_TooLong => k_is)
    (case ax_NoWeb => k_is)
    (case ax_NoDepths => k_is)
    (case ax_NoRain => k_is)
    (case ax_NoDigs => k_is)
    (case ax_NoTurned => k_is)
    (case ax_NoPlace => k_is)
    (case ax_NoBed => k_is)
    (case ax_NoTie => k_is)
    (case a_TooLong_init => k_is)
    (case i_TooLong_init => k_is)
    (case l_TooLong_init => k_is)
    (case e_TooLong_init => k_is)
    (case k_TooLong_init => k_is)
    (case a_NoWeb_init => k_is)
    (case i_NoWeb_init => k_is)
    (case l_NoWeb_init => k_is)
    (case e_NoWeb_init => k_is)
    (case k_NoWeb_init => k_is)
    (case a_NoPlace_init => k_is)
    (case i_NoPlace_init => k_is)
    (case l_NoPlace_init => k_is)
    (case e_NoPlace_init => k_is)
    (case k_NoPlace_init => k_is)
    (case a_NoBed_init => k_is)
    (case i_NoBed_init => k_is)
    (case l_NoBed_init => k_is)
    (case e_NoBed_init => k_is)
    (case k_NoBed_init => k_is)
    (case a_law_well => k_is)
    (case l_law_well => k_is)
    (case e_law_well => k_is)
    (case k_law_well => k_is)
    (case a_law_draw => k_is)
    (case l_law_draw => k_is)
    (case e_law_draw => k_is)
    (case k_law_draw => k_is)
    (case a_law_one => k_is)
    (case l_law_one => k_is)
    (case e_law_one => k_is)
    (case k_law_one => k_is)
    (case a_law_plain => k_is)
    (case l_law_plain => k_is)
    (case e_law_plain => k_is)
    (case k_law_plain => k_is)
    (case a_law_with => k_is)
    (case l_law_with => k_is)
    (case e_law_with => k_is)
    (case k_law_with => k_is)
    (case a_law_kinds => k_is)
    (case l_law_kinds => k_is)
    (case e_law_kinds => k_is)
    (case k_law_kinds => k_is)
    (case a_law => k_is)
    (case l_law => k_is)
    (case e_law => k_is)
    (case k_law => k_is)
    (case n_ValueError => k_is)
    (case n_bool => k_is)
    (case n_enumerate => k_is)
    (case n_int => k_is)
    (case n_isinstance => k_is)
    (case n_len => k_is)
    (case n_range => k_is)
    (case n_str => k_is)
    (case ty_RillError => k_is)
    (case ic_RillError => k_is)
    (case ss_RillError_RillError => first | rfl | k_is)
    (case ty_NoShare => k_is)
    (case ic_NoShare => k_is)
    (case ss_NoShare_NoShare => first | rfl | k_is)
    (case ty_NoCourse => k_is)
    (case ic_NoCourse => k_is)
    (case ss_NoCourse_NoCourse => first | rfl | k_is)
    (case ty_NoDay => k_is)
    (case ic_NoDay => k_is)
    (case ss_NoDay_NoDay => first | rfl | k_is)
    (case ty_TooLong => k_is)
    (case ic_TooLong => k_is)
    (case ss_TooLong_TooLong => first | rfl | k_is)
    (case ty_NoWeb => k_is)
    (case ic_NoWeb => k_is)
    (case ss_NoWeb_NoWeb => first | rfl | k_is)
    (case ty_NoDepths => k_is)
    (case ic_NoDepths => k_is)
    (case ss_NoDepths_NoDepths => first | rfl | k_is)
    (case ty_NoRain => k_is)
    (case ic_NoRain => k_is)
    (case ss_NoRain_NoRain => first | rfl | k_is)
    (case ty_NoDigs => k_is)
    (case ic_NoDigs => k_is)
    (case ss_NoDigs_NoDigs => first | rfl | k_is)
    (case ty_NoTurned => k_is)
    (case ic_NoTurned => k_is)
    (case ss_NoTurned_NoTurned => first | rfl | k_is)
    (case ty_NoPlace => k_is)
    (case ic_NoPlace => k_is)
    (case ss_NoPlace_NoPlace => first | rfl | k_is)
    (case ty_NoBed => k_is)
    (case ic_NoBed => k_is)
    (case ss_NoBed_NoBed => first | rfl | k_is)
    (case ty_NoTie => k_is)
    (case ic_NoTie => k_is)
    (case ss_NoTie_NoTie => first | rfl | k_is)
    (case ss_NoShare_RillError => first | rfl | k_is)
    (case ss_NoShare_NoCourse => first | rfl | k_is)
    (case ss_NoShare_NoDay => first | rfl | k_is)
    (case ss_NoShare_TooLong => first | rfl | k_is)
    (case ss_NoShare_NoWeb => first | rfl | k_is)
    (case ss_NoShare_NoDepths => first | rfl | k_is)
    (case ss_NoShare_NoRain => first | rfl | k_is)
    (case ss_NoShare_NoDigs => first | rfl | k_is)
    (case ss_NoShare_NoTurned => first | rfl | k_is)
    (case ss_NoShare_NoPlace => first | rfl | k_is)
    (case ss_NoShare_NoBed => first | rfl | k_is)
    (case ss_NoShare_NoTie => first | rfl | k_is)
    (case ss_NoShare_VE => first | rfl | k_is)
    (case ss_NoCourse_RillError => first | rfl | k_is)
    (case ss_NoCourse_NoShare => first | rfl | k_is)
    (case ss_NoCourse_NoDay => first | rfl | k_is)
    (case ss_NoCourse_TooLong => first | rfl | k_is)
    (case ss_NoCourse_NoWeb => first | rfl | k_is)
    (case ss_NoCourse_NoDepths => first | rfl | k_is)
    (case ss_NoCourse_NoRain => first | rfl | k_is)
    (case ss_NoCourse_NoDigs => first | rfl | k_is)
    (case ss_NoCourse_NoTurned => first | rfl | k_is)
    (case ss_NoCourse_NoPlace => first | rfl | k_is)
    (case ss_NoCourse_NoBed => first | rfl | k_is)
    (case ss_NoCourse_NoTie => first | rfl | k_is)
    (case ss_NoCourse_VE => first | rfl | k_is)
    (case ss_NoDay_RillError => first | rfl | k_is)
    (case ss_NoDay_NoShare => first | rfl | k_is)
    (case ss_NoDay_NoCourse => first | rfl | k_is)
    (case ss_NoDay_TooLong => first | rfl | k_is)
    (case ss_NoDay_NoWeb => first | rfl | k_is)
    (case ss_NoDay_NoDepths => first | rfl | k_is)
    (case ss_NoDay_NoRain => first | rfl | k_is)
    (case ss_NoDay_NoDigs => first | rfl | k_is)
    (case ss_NoDay_NoTurned => first | rfl | k_is)
    (case ss_NoDay_NoPlace => first | rfl | k_is)
    (case ss_NoDay_NoBed => first | rfl | k_is)
    (case ss_NoDay_NoTie => first | rfl | k_is)
    (case ss_NoDay_VE => first | rfl | k_is)
    (case xl_TooLong => k_is)
    (case re_TooLong => first | rfl | decide +kernel | k_is)
    (case ss_TooLong_RillError => first | rfl | k_is)
    (case ss_TooLong_NoShare => first | rfl | k_is)
    (case ss_TooLong_NoCourse => first | rfl | k_is)
    (case ss_TooLong_NoDay => first | rfl | k_is)
    (case ss_TooLong_NoWeb => first | rfl | k_is)
    (case ss_TooLong_NoDepths => first | rfl | k_is)
    (case ss_TooLong_NoRain => first | rfl | k_is)
    (case ss_TooLong_NoDigs => first | rfl | k_is)
    (case ss_TooLong_NoTurned => first | rfl | k_is)
    (case ss_TooLong_NoPlace => first | rfl | k_is)
    (case ss_TooLong_NoBed => first | rfl | k_is)
    (case ss_TooLong_NoTie => first | rfl | k_is)
    (case ss_TooLong_VE => first | rfl | k_is)
    (case xl_NoWeb => k_is)
    (case re_NoWeb => first | rfl | decide +kernel | k_is)
    (case ss_NoWeb_RillError => first | rfl | k_is)
    (case ss_NoWeb_NoShare => first | rfl | k_is)
    (case ss_NoWeb_NoCourse => first | rfl | k_is)
    (case ss_NoWeb_NoDay => first | rfl | k_is)
    (case ss_NoWeb_TooLong => first | rfl | k_is)
    (case ss_NoWeb_NoDepths => first | rfl | k_is)
    (case ss_NoWeb_NoRain => first | rfl | k_is)
    (case ss_NoWeb_NoDigs => first | rfl | k_is)
    (case ss_NoWeb_NoTurned => first | rfl | k_is)
    (case ss_NoWeb_NoPlace => first | rfl | k_is)
    (case ss_NoWeb_NoBed => first | rfl | k_is)
    (case ss_NoWeb_NoTie => first | rfl | k_is)
    (case ss_NoWeb_VE => first | rfl | k_is)
    (case ss_NoDepths_RillError => first | rfl | k_is)
    (case ss_NoDepths_NoShare => first | rfl | k_is)
    (case ss_NoDepths_NoCourse => first | rfl | k_is)
    (case ss_NoDepths_NoDay => first | rfl | k_is)
    (case ss_NoDepths_TooLong => first | rfl | k_is)
    (case ss_NoDepths_NoWeb => first | rfl | k_is)
    (case ss_NoDepths_NoRain => first | rfl | k_is)
    (case ss_NoDepths_NoDigs => first | rfl | k_is)
    (case ss_NoDepths_NoTurned => first | rfl | k_is)
    (case ss_NoDepths_NoPlace => first | rfl | k_is)
    (case ss_NoDepths_NoBed => first | rfl | k_is)
    (case ss_NoDepths_NoTie => first | rfl | k_is)
    (case ss_NoDepths_VE => first | rfl | k_is)
    (case ss_NoRain_RillError => first | rfl | k_is)
    (case ss_NoRain_NoShare => first | rfl | k_is)
    (case ss_NoRain_NoCourse => first | rfl | k_is)
    (case ss_NoRain_NoDay => first | rfl | k_is)
    (case ss_NoRain_TooLong => first | rfl | k_is)
    (case ss_NoRain_NoWeb => first | rfl | k_is)
    (case ss_NoRain_NoDepths => first | rfl | k_is)
    (case ss_NoRain_NoDigs => first | rfl | k_is)
    (case ss_NoRain_NoTurned => first | rfl | k_is)
    (case ss_NoRain_NoPlace => first | rfl | k_is)
    (case ss_NoRain_NoBed => first | rfl | k_is)
    (case ss_NoRain_NoTie => first | rfl | k_is)
    (case ss_NoRain_VE => first | rfl | k_is)
    (case ss_NoDigs_RillError => first | rfl | k_is)
    (case ss_NoDigs_NoShare => first | rfl | k_is)
    (case ss_NoDigs_NoCourse => first | rfl | k_is)
    (case ss_NoDigs_NoDay => first | rfl | k_is)
    (case ss_NoDigs_TooLong => first | rfl | k_is)
    (case ss_NoDigs_NoWeb => first | rfl | k_is)
    (case ss_NoDigs_NoDepths => first | rfl | k_is)
    (case ss_NoDigs_NoRain => first | rfl | k_is)
    (case ss_NoDigs_NoTurned => first | rfl | k_is)
    (case ss_NoDigs_NoPlace => first | rfl | k_is)
    (case ss_NoDigs_NoBed => first | rfl | k_is)
    (case ss_NoDigs_NoTie => first | rfl | k_is)
    (case ss_NoDigs_VE => first | rfl | k_is)
    (case ss_NoTurned_RillError => first | rfl | k_is)
    (case ss_NoTurned_NoShare => first | rfl | k_is)
    (case ss_NoTurned_NoCourse => first | rfl | k_is)
    (case ss_NoTurned_NoDay => first | rfl | k_is)
    (case ss_NoTurned_TooLong => first | rfl | k_is)
    (case ss_NoTurned_NoWeb => first | rfl | k_is)
    (case ss_NoTurned_NoDepths => first | rfl | k_is)
    (case ss_NoTurned_NoRain => first | rfl | k_is)
    (case ss_NoTurned_NoDigs => first | rfl | k_is)
    (case ss_NoTurned_NoPlace => first | rfl | k_is)
    (case ss_NoTurned_NoBed => first | rfl | k_is)
    (case ss_NoTurned_NoTie => first | rfl | k_is)
    (case ss_NoTurned_VE => first | rfl | k_is)
    (case xl_NoPlace => k_is)
    (case re_NoPlace => first | rfl | decide +kernel | k_is)
    (case ss_NoPlace_RillError => first | rfl | k_is)
    (case ss_NoPlace_NoShare => first | rfl | k_is)
    (case ss_NoPlace_NoCourse => first | rfl | k_is)
    (case ss_NoPlace_NoDay => first | rfl | k_is)
    (case ss_NoPlace_TooLong => first | rfl | k_is)
    (case ss_NoPlace_NoWeb => first | rfl | k_is)
    (case ss_NoPlace_NoDepths => first | rfl | k_is)
    (case ss_NoPlace_NoRain => first | rfl | k_is)
    (case ss_NoPlace_NoDigs => first | rfl | k_is)
    (case ss_NoPlace_NoTurned => first | rfl | k_is)
    (case ss_NoPlace_NoBed => first | rfl | k_is)
    (case ss_NoPlace_NoTie => first | rfl | k_is)
    (case ss_NoPlace_VE => first | rfl | k_is)
    (case xl_NoBed => k_is)
    (case re_NoBed => first | rfl | decide +kernel | k_is)
    (case ss_NoBed_RillError => first | rfl | k_is)
    (case ss_NoBed_NoShare => first | rfl | k_is)
    (case ss_NoBed_NoCourse => first | rfl | k_is)
    (case ss_NoBed_NoDay => first | rfl | k_is)
    (case ss_NoBed_TooLong => first | rfl | k_is)
    (case ss_NoBed_NoWeb => first | rfl | k_is)
    (case ss_NoBed_NoDepths => first | rfl | k_is)
    (case ss_NoBed_NoRain => first | rfl | k_is)
    (case ss_NoBed_NoDigs => first | rfl | k_is)
    (case ss_NoBed_NoTurned => first | rfl | k_is)
    (case ss_NoBed_NoPlace => first | rfl | k_is)
    (case ss_NoBed_NoTie => first | rfl | k_is)
    (case ss_NoBed_VE => first | rfl | k_is)
    (case ss_NoTie_RillError => first | rfl | k_is)
    (case ss_NoTie_NoShare => first | rfl | k_is)
    (case ss_NoTie_NoCourse => first | rfl | k_is)
    (case ss_NoTie_NoDay => first | rfl | k_is)
    (case ss_NoTie_TooLong => first | rfl | k_is)
    (case ss_NoTie_NoWeb => first | rfl | k_is)
    (case ss_NoTie_NoDepths => first | rfl | k_is)
    (case ss_NoTie_NoRain => first | rfl | k_is)
    (case ss_NoTie_NoDigs => first | rfl | k_is)
    (case ss_NoTie_NoTurned => first | rfl | k_is)
    (case ss_NoTie_NoPlace => first | rfl | k_is)
    (case ss_NoTie_NoBed => first | rfl | k_is)
    (case ss_NoTie_VE => first | rfl | k_is)
    (case kx_NoShare => k_is)
    (case hg_NoShare => k_is)
    (case hk_NoShare => k_is)
    (case hs_NoShare => k_is)
    (case hd_NoShare => k_is)
    (case ha_NoShare => k_is)
    (case hm_NoShare => k_is)
    (case q_NoShare => k_exc)
    (case st_NoShare => k_is)
    (case kx_NoCourse => k_is)
    (case hg_NoCourse => k_is)
    (case hk_NoCourse => k_is)
    (case hs_NoCourse => k_is)
    (case hd_NoCourse => k_is)
    (case ha_NoCourse => k_is)
    (case hm_NoCourse => k_is)
    (case q_NoCourse => k_exc)
    (case st_NoCourse => k_is)
    (case kx_NoDay => k_is)
    (case hg_NoDay => k_is)
    (case hk_NoDay => k_is)
    (case hs_NoDay => k_is)
    (case hd_NoDay => k_is)
    (case ha_NoDay => k_is)
    (case hm_NoDay => k_is)
    (case q_NoDay => k_exc)
    (case st_NoDay => k_is)
    (case kx_TooLong => k_is)
    (case hg_TooLong => k_is)
    (case hk_TooLong => k_is)
    (case hs_TooLong => k_is)
    (case hd_TooLong => k_is)
    (case ha_TooLong => k_is)
    (case hm_TooLong => k_is)
    (case sa_TooLong => k_is)
    (case no_TooLong => k_is)
    (case kx_NoWeb => k_is)
    (case hg_NoWeb => k_is)
    (case hk_NoWeb => k_is)
    (case hs_NoWeb => k_is)
    (case hd_NoWeb => k_is)
    (case ha_NoWeb => k_is)
    (case hm_NoWeb => k_is)
    (case sa_NoWeb => k_is)
    (case no_NoWeb => k_is)
    (case kx_NoDepths => k_is)
    (case hg_NoDepths => k_is)
    (case hk_NoDepths => k_is)
    (case hs_NoDepths => k_is)
    (case hd_NoDepths => k_is)
    (case ha_NoDepths => k_is)
    (case hm_NoDepths => k_is)
    (case q_NoDepths => k_exc)
    (case st_NoDepths => k_is)
    (case kx_NoRain => k_is)
    (case hg_NoRain => k_is)
    (case hk_NoRain => k_is)
    (case hs_NoRain => k_is)
    (case hd_NoRain => k_is)
    (case ha_NoRain => k_is)
    (case hm_NoRain => k_is)
    (case q_NoRain => k_exc)
    (case st_NoRain => k_is)
    (case kx_NoDigs => k_is)
    (case hg_NoDigs => k_is)
    (case hk_NoDigs => k_is)
    (case hs_NoDigs => k_is)
    (case hd_NoDigs => k_is)
    (case ha_NoDigs => k_is)
    (case hm_NoDigs => k_is)
    (case q_NoDigs => k_exc)
    (case st_NoDigs => k_is)
    (case kx_NoTurned => k_is)
    (case hg_NoTurned => k_is)
    (case hk_NoTurned => k_is)
    (case hs_NoTurned => k_is)
    (case hd_NoTurned => k_is)
    (case ha_NoTurned => k_is)
    (case hm_NoTurned => k_is)
    (case q_NoTurned => k_exc)
    (case st_NoTurned => k_is)
    (case kx_NoPlace => k_is)
    (case hg_NoPlace => k_is)
    (case hk_NoPlace => k_is)
    (case hs_NoPlace => k_is)
    (case hd_NoPlace => k_is)
    (case ha_NoPlace => k_is)
    (case hm_NoPlace => k_is)
    (case sa_NoPlace => k_is)
    (case no_NoPlace => k_is)
    (case kx_NoBed => k_is)
    (case hg_NoBed => k_is)
    (case hk_NoBed => k_is)
    (case hs_NoBed => k_is)
    (case hd_NoBed => k_is)
    (case ha_NoBed => k_is)
    (case hm_NoBed => k_is)
    (case sa_NoBed => k_is)
    (case no_NoBed => k_is)
    (case kx_NoTie => k_is)
    (case hg_NoTie => k_is)
    (case hk_NoTie => k_is)
    (case hs_NoTie => k_is)
    (case hd_NoTie => k_is)
    (case ha_NoTie => k_is)
    (case hm_NoTie => k_is)
    (case q_NoTie => k_exc)
    (case st_NoTie => k_is)
    (case hn => k_is)
    (case ht => k_is)
    (case rd => k_is)
    (case rg => k_is)
    (case vi => k_is)
#print axioms PySem.Challenge.cw_rillweb_k03_refusals_made_by_hand_holds
