import PyProof.Rows.All
import Wide.All
import OpenK.AllK
import Wide.FinOn
import HandS.ForMost
import HandS.Lambda
import HandS.ForExc
import HandS.Wide
import HandS.Zip
import HandS.RevRange
import HandS.Rev
import HandS.Defaults
import HandS.MakeKw
import HandS.IsInst
import HandS.Flow
import HandS.ExcValue
import HandS.ExcInit
import HandS.ExcIs
import HandS.ExcField
import HandS.RaiseMore
import KE.KExcStr
import HandS.EndTab
import HandS.HeadWalk
import HandS.HeadHook4
import HandS.TupAny
import HandS.CallSlots
import HandS.Comp
import HandS.TryOnly
import HandS.OwnEq
import KE.KFmtOwn
import HandS.ClsMeth
import KE.KExcIs
import HandS.SortInts
import HandS.SetFor
import KE.GoesEnum
import KE.GoesMore
import KE.KRevSl
import KE.KTupSum
import HandS.Conv
import HandS.CallLocal
import PyProof.ListMulRoad
import PyProof.FactsAll.tuple_2
import HandS.TupMul
import KE.KLam
import KE.SortKeyHeap
import HandS.EndOwn
import KE.DataMinMax
import HandS.TupSets
import PyProof.ReprRoads
import HandS.WideBits
import PyProof.Rows.RuleIs
import HandS.TryMany
import KE.KDictZip
import HandS.Style
import HandS.Dict
import KE.KNest
import PyProof.Rows.SortShellAny
import PySem.Challenge.RW_rillweb_k12_courses_compared
set_option Elab.async false
set_option linter.all false
set_option maxRecDepth 100000
set_option autoImplicit false
namespace R
open PySem L2
inductive PV where
  | non | bl (b : Bool) | int (i : Int) | str (s : Str)
  | tup (xs : List PV) | lst (xs : List PV) | obj (c : Nat) (xs : List PV) | own (k : Nat)
  | scr (ns : List Int)
  | xs (c : Nat) (t : Str) | xv (c : Nat) (x : PV)
  | fn (k : Nat)
  | dct
  | adr (a : Nat) | clo (i : Nat) (x : PV)
structure LamD where
  q : Str
  params : Arguments
  scope : Scope
  g : Str
  x : Str
  y : Str
  p1 : Pos
  p2 : Pos
  p3 : Pos
  p4 : Pos
def LamD.body (L : LamD) : Expr := .Call (.Name L.g L.p1) [.Name L.x L.p2, .Name L.y L.p3] [] L.p4
def FunO (L : LamD) (c c' f : Addr) : HO := .ext fun h => ∃ pm ctv, h.get? f = some (PySem.W.kla_obj "<lambda>" L.q L.params L.body L.scope [(L.x, c)] pm c' ctv)
def CellO (c : Addr) (u : Value) : HO := .ext fun h => h.IsCell c (some u)
structure Cfg where
  K : PySem.W.Frag
  cls : Nat → Addr
  fld : Nat → List Str
  exf : Nat → Str
  tabs : List (Addr × Str) := []
  lam : Nat → Option LamD := fun _ => none
structure Wd where
  G : Hp
  ρ : List Addr
def Wd.le (w w' : Wd) : Prop := (∀ a o, w.G a = some o → w'.G a = some o) ∧ w.ρ <+: w'.ρ
theorem Wd.le.refl (w : Wd) : w.le w := ⟨fun _ _ h => h, List.prefix_refl _⟩
theorem Wd.le.trans {a b c : Wd} (h : a.le b) (k : b.le c) : a.le c := ⟨fun x o e => k.1 x o (h.1 x o e), h.2.trans k.2⟩
inductive Cell where
  | lst (xs : List PV) | obj (c : Nat) (xs : List PV) | dead
  | dk (kvs : List (Int × PV)) | dt (kvs : List (List Int × PV))
abbrev Pool := List Cell
def exT (C a t1 : Addr) : HO := .ext fun h => h.get? a = some ({ cls := .ref C, dict := none, data := .fields #[.ref t1, .none, .none, .none, .bool false, .none] } : Obj)
section
variable (Γ : Cfg) (w : Wd)
mutual
def Rep : PV → V → Prop
  | .non, v => v = .non
  | .bl b, v => v = .bl b
  | .int i, v => v = .int i
  | .str s, v => v = .str s
  | .tup xs, v => ∃ a vs, v = .ref a ∧ SqT Γ.K w.G a vs ∧ Reps xs vs
  | .lst xs, v => ∃ a vs, v = .ref a ∧ w.G a = some (.lst vs) ∧ Reps xs vs
  | .scr ns, v => ∃ a, v = .ref a ∧ SqL Γ.K w.G a (ns.map V.int)
  | .obj c xs, v => ∃ a dx vs, v = .ref a ∧ w.G a = some (.ins (Γ.cls c) dx ((Γ.fld c).zip vs)) ∧ w.G dx = some (.own a) ∧ vs.length = (Γ.fld c).length ∧ Reps xs vs
  | .own k, v => ∃ a, w.ρ[k]? = some a ∧ v = .ref a
  | .xs c t, v => ∃ a t1, v = .ref a ∧ w.G a = some (exT (Γ.cls c) a t1) ∧ w.G t1 = some (.tup [.str t])
  | .xv c x, v => ∃ a d u, v = .ref a ∧ w.G a = some (exo a (Γ.cls c) (some d)) ∧ w.G d = some (exd d [(Γ.exf c, u)]) ∧ Rep x u
  | .fn k, v => v = .ref (Γ.cls k)
  | .dct, v => ∃ a, v = .ref a ∧ w.G a = some (.dK [])
  | .adr a, v => v = .ref a ∧ ∃ φ, w.G a = some (.ext φ)
  | .clo i x, v => ∃ (L : LamD) (f c c' : Addr) (u : Value) (vx : V), v = .ref f ∧ Γ.lam i = some L ∧ w.G f = some (FunO L c c' f) ∧ w.G c' = some (LamX.CodeO c' L.q) ∧ w.G c = some (CellO c u) ∧ RelV vx u ∧ Rep x vx
def Reps : List PV → List V → Prop
  | [], vs => vs = []
  | x :: xs, vs => ∃ v r, vs = v :: r ∧ Rep x v ∧ Reps xs r
end
end
section
variable {Γ : Cfg} {w w' : Wd}
theorem seqL_mono {K : PySem.W.Frag} {H H' : Hp} {a : Addr} {xs : List V} (e : ∀ a o, H a = some o → H' a = some o) (h : SqL K H a xs) : SqL K H' a xs := by
  rcases h with (h | ⟨o, h⟩) | h
  · exact .inl (.inl (e _ _ h))
  · exact .inl (.inr ⟨o, e _ _ h⟩)
  · exact .inr h
theorem seqT_mono {K : PySem.W.Frag} {H H' : Hp} {a : Addr} {xs : List V} (e : ∀ a o, H a = some o → H' a = some o) (h : SqT K H a xs) : SqT K H' a xs := by
  rcases h with (h | ⟨o, h⟩) | h
  · exact .inl (.inl (e _ _ h))
  · exact .inl (.inr ⟨o, e _ _ h⟩)
  · exact .inr h
theorem pre_get {α : Type} {l l' : List α} (h : l <+: l') {k : Nat} {a : α} (e : l[k]? = some a) : l'[k]? = some a := by
  obtain ⟨t, rfl⟩ := h
  rw [List.getElem?_append_left (List.getElem?_eq_some_iff.mp e).1]
  exact e
mutual
theorem Rep.mono (l : w.le w') : ∀ {x : PV} {v : V}, Rep Γ w x v → Rep Γ w' x v
  | .non, _, h => h
  | .bl _, _, h => h
  | .int _, _, h => h
  | .str _, _, h => h
  | .tup xs, v, h => by
    obtain ⟨a, vs, e, s, r⟩ := h
    exact ⟨a, vs, e, seqT_mono l.1 s, Reps.mono l r⟩
  | .lst xs, v, h => by
    obtain ⟨a, vs, e, s, r⟩ := h
    exact ⟨a, vs, e, l.1 _ _ s, Reps.mono l r⟩
  | .scr ns, v, h => by
    obtain ⟨a, e, s⟩ := h
    exact ⟨a, e, seqL_mono l.1 s⟩
  | .obj c xs, v, h => by
    obtain ⟨a, dx, vs, e, g, d, n, r⟩ := h
    exact ⟨a, dx, vs, e, l.1 _ _ g, l.1 _ _ d, n, Reps.mono l r⟩
  | .own k, v, h => by
    obtain ⟨a, e, z⟩ := h
    exact ⟨a, pre_get l.2 e, z⟩
  | .xs c t, v, h => by
    obtain ⟨a, t1, e, g, g2⟩ := h
    exact ⟨a, t1, e, l.1 _ _ g, l.1 _ _ g2⟩
  | .xv c x, v, h => by
    obtain ⟨a, d, u, e, g, g2, r⟩ := h
    exact ⟨a, d, u, e, l.1 _ _ g, l.1 _ _ g2, Rep.mono l r⟩
  | .fn _, _, h => h
  | .dct, v, h => by
    obtain ⟨a, e, g⟩ := h
    exact ⟨a, e, l.1 _ _ g⟩
  | .adr a, v, h => by
    obtain ⟨e, φ, g⟩ := h
    exact ⟨e, φ, l.1 _ _ g⟩
  | .clo i x, v, h => by
    obtain ⟨L, f, c, c', u, vx, e, hL, g1, g2, g3, r, hx⟩ := h
    exact ⟨L, f, c, c', u, vx, e, hL, l.1 _ _ g1, l.1 _ _ g2, l.1 _ _ g3, r, Rep.mono l hx⟩
theorem Reps.mono (l : w.le w') : ∀ {xs : List PV} {vs : List V}, Reps Γ w xs vs → Reps Γ w' xs vs
  | [], _, h => h
  | x :: xs, vs, h => by
    obtain ⟨v, r, e, h1, h2⟩ := h
    exact ⟨v, r, e, Rep.mono l h1, Reps.mono l h2⟩
end
theorem Reps.nil : Reps Γ w [] [] := rfl
theorem Reps.cons {x : PV} {v : V} {xs : List PV} {vs : List V} (h : Rep Γ w x v) (r : Reps Γ w xs vs) : Reps Γ w (x :: xs) (v :: vs) := ⟨v, vs, rfl, h, r⟩
theorem Reps.length : ∀ {xs : List PV} {vs : List V}, Reps Γ w xs vs → xs.length = vs.length
  | [], vs, h => by
    rw [show vs = [] from h]
    rfl
  | x :: xs, vs, h => by
    obtain ⟨v, r, e, _, h2⟩ := h
    rw [e, List.length_cons, List.length_cons, Reps.length h2]
theorem Reps.get : ∀ {xs : List PV} {vs : List V} {i : Nat} {x : PV}, Reps Γ w xs vs → xs[i]? = some x → ∃ v, vs[i]? = some v ∧ Rep Γ w x v
  | [], _, _, _, _, e => by simp at e
  | x :: xs, vs, 0, y, h, e => by
    obtain ⟨v, r, rfl, h1, h2⟩ := h
    simp at e
    subst e
    exact ⟨v, rfl, h1⟩
  | x :: xs, vs, i + 1, y, h, e => by
    obtain ⟨v, r, rfl, h1, h2⟩ := h
    obtain ⟨u, e1, e2⟩ := Reps.get (i := i) h2 (by simpa using e)
    exact ⟨u, by simpa using e1, e2⟩
theorem Reps.append : ∀ {xs ys : List PV} {vs us : List V}, Reps Γ w xs vs → Reps Γ w ys us → Reps Γ w (xs ++ ys) (vs ++ us)
  | [], _, vs, _, h, k => by
    rw [show vs = [] from h]
    exact k
  | x :: xs, _, vs, _, h, k => by
    obtain ⟨v, r, rfl, h1, h2⟩ := h
    exact ⟨v, _, rfl, h1, Reps.append h2 k⟩
theorem Reps.set : ∀ {xs : List PV} {vs : List V} {i : Nat} {x : PV} {v : V}, Reps Γ w xs vs → Rep Γ w x v → Reps Γ w (xs.set i x) (vs.set i v)
  | [], vs, _, _, _, h, _ => by
    rw [show vs = [] from h]
    exact rfl
  | x :: xs, vs, 0, y, u, h, k => by
    obtain ⟨v, r, rfl, h1, h2⟩ := h
    exact ⟨u, _, rfl, k, h2⟩
  | x :: xs, vs, i + 1, y, u, h, k => by
    obtain ⟨v, r, rfl, h1, h2⟩ := h
    exact ⟨v, _, rfl, h1, Reps.set h2 k⟩
theorem Reps.take : ∀ {xs : List PV} {vs : List V} (n : Nat), Reps Γ w xs vs → Reps Γ w (xs.take n) (vs.take n)
  | xs, vs, 0, _ => by
    rw [List.take_zero, List.take_zero]
    exact rfl
  | [], vs, n + 1, h => by
    rw [show vs = [] from h]
    exact rfl
  | x :: xs, vs, n + 1, h => by
    obtain ⟨v, r, rfl, h1, h2⟩ := h
    exact ⟨v, _, rfl, h1, Reps.take n h2⟩
theorem Reps.drop : ∀ {xs : List PV} {vs : List V} (n : Nat), Reps Γ w xs vs → Reps Γ w (xs.drop n) (vs.drop n)
  | xs, vs, 0, h => h
  | [], vs, n + 1, h => by
    rw [show vs = [] from h]
    exact rfl
  | x :: xs, vs, n + 1, h => by
    obtain ⟨v, r, rfl, h1, h2⟩ := h
    exact Reps.drop n h2
theorem Reps.reverse : ∀ {xs : List PV} {vs : List V}, Reps Γ w xs vs → Reps Γ w xs.reverse vs.reverse
  | [], vs, h => by
    rw [show vs = [] from h]
    exact rfl
  | x :: xs, vs, h => by
    obtain ⟨v, r, rfl, h1, h2⟩ := h
    rw [List.reverse_cons, List.reverse_cons]
    exact Reps.append (Reps.reverse h2) (Reps.cons h1 Reps.nil)
theorem Reps.ints : ∀ {ns : List Int}, Reps Γ w (ns.map PV.int) (ns.map V.int)
  | [] => rfl
  | n :: ns => ⟨.int n, _, rfl, rfl, Reps.ints⟩
theorem Reps.ints_of : ∀ {ns : List Int} {vs : List V}, Reps Γ w (ns.map PV.int) vs → vs = ns.map V.int
  | [], vs, h => h
  | n :: ns, vs, h => by
    obtain ⟨v, r, rfl, h1, h2⟩ := h
    rw [show v = V.int n from h1, Reps.ints_of h2]
    rfl
end
def Common (o : HO) : Prop := (∀ x, o ≠ .own x) ∧ (∀ ps, o ≠ .tbl ps) ∧ ∀ φ, o ≠ .ext φ
theorem Common.lst {vs : List V} : Common (.lst vs) := ⟨fun _ z => (nomatch z), fun _ z => (nomatch z), fun _ z => (nomatch z)⟩
theorem Common.ins {C dx : Addr} {fs : List (Str × V)} : Common (.ins C dx fs) := ⟨fun _ z => (nomatch z), fun _ z => (nomatch z), fun _ z => (nomatch z)⟩
theorem tabs_step {T : List (Addr × Str)} {H H' : Hp} (t : LamX.Tabs T H) (k : ∀ b o, H b = some o → ((∃ ps, o = .tbl ps) ∨ ∃ φ, o = .ext φ) → H' b = some o) : LamX.Tabs T H' := fun p hp => by
  obtain ⟨ps, h1, h2, h3⟩ := t p hp
  refine ⟨ps, k _ _ h1 (.inl ⟨_, rfl⟩), h2, fun pos cv hc => ?_⟩
  obtain ⟨c, e1, e2⟩ := h3 pos cv hc
  exact ⟨c, e1, k _ _ e2 (.inr ⟨_, rfl⟩)⟩
def CellR (Γ : Cfg) (w : Wd) (H : Hp) : Cell → Addr → Prop
  | .lst xs, a => w.G a = none ∧ ∃ vs, H a = some (.lst vs) ∧ Reps Γ w xs vs
  | .obj c xs, a => w.G a = none ∧ ∃ dx vs, H a = some (.ins (Γ.cls c) dx ((Γ.fld c).zip vs)) ∧ H dx = some (.own a) ∧ w.G dx = none ∧ vs.length ≤ (Γ.fld c).length ∧ Reps Γ w xs vs
  | .dead, a => ∃ o, H a = some o ∧ Common o
  | .dk kvs, a => w.G a = none ∧ ∃ vs, H a = some (.dK ((kvs.map fun q => (Sum.inl q.1 : L2.Key)).zip vs)) ∧ Reps Γ w (kvs.map (·.2)) vs
  | .dt kvs, a => w.G a = none ∧ ∃ vs, H a = some (.dT ((kvs.map fun q => q.1.map fun i => (Sum.inl i : L2.Key)).zip vs)) ∧ Reps Γ w (kvs.map (·.2)) vs
theorem Common.dk {kvs : List (L2.Key × V)} : Common (.dK kvs) := ⟨fun _ z => (nomatch z), fun _ z => (nomatch z), fun _ z => (nomatch z)⟩
theorem Common.dt {kvs : List (List L2.Key × V)} : Common (.dT kvs) := ⟨fun _ z => (nomatch z), fun _ z => (nomatch z), fun _ z => (nomatch z)⟩
theorem CellR.there {Γ : Cfg} {w : Wd} {H : Hp} {c : Cell} {a : Addr} (h : CellR Γ w H c a) : ∃ o, H a = some o ∧ Common o := by
  cases c with
  | lst xs =>
    obtain ⟨_, vs, e, _⟩ := h
    exact ⟨_, e, .lst⟩
  | obj c fs =>
    obtain ⟨_, dx, vs, e, _⟩ := h
    exact ⟨_, e, .ins⟩
  | dead => exact h
  | dk kvs =>
    obtain ⟨_, vs, e, _⟩ := h
    exact ⟨_, e, .dk⟩
  | dt kvs =>
    obtain ⟨_, vs, e, _⟩ := h
    exact ⟨_, e, .dt⟩
structure Lv where
  b : Nat
  lo : Nat → Option Nat
def Wd.low (w : Wd) : Option Nat → Wd
  | none => w
  | some m => ⟨w.G, w.ρ.take m⟩
theorem Wd.low_le (w : Wd) (m : Option Nat) : (w.low m).le w := by
  cases m with
  | none => exact Wd.le.refl w
  | some m => exact ⟨fun _ _ h => h, List.take_prefix _ _⟩
theorem Wd.low_G {w : Wd} {m : Option Nat} : (w.low m).G = w.G := by
  cases m <;> rfl
structure SimP (Γ : Cfg) (L : Lv) (w : Wd) (p : Pool) (H : Hp) : Prop where
  sub : ∀ a o, w.G a = some o → H a = some o
  len : w.ρ.length = p.length
  nd : w.ρ.Nodup
  hb : L.b ≤ p.length
  hlo : ∀ k, L.b ≤ k → L.lo k = none
  hm : ∀ k m, L.lo k = some m → m ≤ p.length
  cell : ∀ (k : Nat) c a, p[k]? = some c → w.ρ[k]? = some a → CellR Γ (w.low (L.lo k)) H c a
  nt : ∀ a ps, w.G a ≠ some (.tbl ps)
  tb : LamX.Tabs Γ.tabs H
section
variable {Γ : Cfg} {L : Lv} {w w' : Wd} {p : Pool} {H H' : Hp}
theorem SimP.at (S : SimP Γ L w p H) {k : Nat} {c : Cell} (h : p[k]? = some c) : ∃ a, w.ρ[k]? = some a ∧ CellR Γ (w.low (L.lo k)) H c a := by
  have hk : k < w.ρ.length := by
    rw [S.len]
    exact (List.getElem?_eq_some_iff.mp h).1
  exact ⟨w.ρ[k], List.getElem?_eq_getElem hk, S.cell k c _ h (List.getElem?_eq_getElem hk)⟩
theorem SimP.live (S : SimP Γ L w p H) {a : Addr} (h : a ∈ w.ρ) : ∃ o, H a = some o ∧ Common o := by
  obtain ⟨k, hk, e⟩ := List.getElem_of_mem h
  have hp : k < p.length := by
    rw [← S.len]
    exact hk
  exact (S.cell k p[k] a (List.getElem?_eq_getElem hp) (by rw [List.getElem?_eq_getElem hk, e])).there
theorem CellR.step {c : Cell} {a : Addr} (h : CellR Γ w H c a) (l : w.le w') (hn : ∀ b, H b ≠ none → w.G b = none → w'.G b = none) (hh : ∀ b o, H b = some o → H' b = some o) : CellR Γ w' H' c a := by
  cases c with
  | lst xs =>
    obtain ⟨g, vs, e, r⟩ := h
    exact ⟨hn a (by rw [e]; exact fun z => nomatch z) g, vs, hh _ _ e, Reps.mono l r⟩
  | obj c fs =>
    obtain ⟨g, dx, vs, e, d, gd, n, r⟩ := h
    exact ⟨hn a (by rw [e]; exact fun z => nomatch z) g, dx, vs, hh _ _ e, hh _ _ d, hn dx (by rw [d]; exact fun z => nomatch z) gd, n, Reps.mono l r⟩
  | dead =>
    obtain ⟨o, e, z⟩ := h
    exact ⟨o, hh _ _ e, z⟩
  | dk kvs =>
    obtain ⟨g, vs, e, r⟩ := h
    exact ⟨hn a (by rw [e]; exact fun z => nomatch z) g, vs, hh _ _ e, Reps.mono l r⟩
  | dt kvs =>
    obtain ⟨g, vs, e, r⟩ := h
    exact ⟨hn a (by rw [e]; exact fun z => nomatch z) g, vs, hh _ _ e, Reps.mono l r⟩
theorem CellR.same {c : Cell} {a : Addr} (h : CellR Γ w H c a) (ha : H' a = H a) (hd : ∀ dx, H dx = some (.own a) → H' dx = some (.own a)) : CellR Γ w H' c a := by
  cases c with
  | lst xs =>
    obtain ⟨g, vs, e, r⟩ := h
    exact ⟨g, vs, ha.trans e, r⟩
  | obj c fs =>
    obtain ⟨g, dx, vs, e, d, gd, n, r⟩ := h
    exact ⟨g, dx, vs, ha.trans e, hd _ d, gd, n, r⟩
  | dead =>
    obtain ⟨o, e, z⟩ := h
    exact ⟨o, ha.trans e, z⟩
  | dk kvs =>
    obtain ⟨g, vs, e, r⟩ := h
    exact ⟨g, vs, ha.trans e, r⟩
  | dt kvs =>
    obtain ⟨g, vs, e, r⟩ := h
    exact ⟨g, vs, ha.trans e, r⟩
def Wd.add (w : Wd) (q : Addr) (o : HO) : Wd := ⟨upd w.G q o, w.ρ⟩
theorem SimP.free (S : SimP Γ L w p H) {q : Addr} (h : H q = none) : w.G q = none := by
  cases e : w.G q with
  | none => rfl
  | some o =>
    rw [S.sub q o e] at h
    cases h
theorem up_new {H : Hp} {q : Addr} {o : HO} (h : H q = none) : ∀ b u, H b = some u → upd H q o b = some u := fun b u e => by
  rw [upd_ne (ne_of_none e h)]
  exact e
theorem SimP.le_add (S : SimP Γ L w p H) {q : Addr} {o : HO} (h : H q = none) : w.le (w.add q o) := ⟨up_new (S.free h), List.prefix_refl _⟩
theorem low_le_low {w w' : Wd} {m : Option Nat} (l : w.le w') (hb : ∀ n, m = some n → n ≤ w.ρ.length) : (w.low m).le (w'.low m) := by
  cases m with
  | none => exact l
  | some m =>
    refine ⟨l.1, ?_⟩
    obtain ⟨t, e⟩ := l.2
    show w.ρ.take m <+: w'.ρ.take m
    rw [← e, List.take_append_of_le_length (hb m rfl)]
    exact List.prefix_refl _
theorem SimP.lows (S : SimP Γ L w p H) (l : w.le w') (k : Nat) : (w.low (L.lo k)).le (w'.low (L.lo k)) := low_le_low l fun n e => by
  rw [S.len]
  exact S.hm k n e
theorem SimP.new (S : SimP Γ L w p H) {q : Addr} {o : HO} (h : H q = none) (no : ∀ ps, o ≠ .tbl ps := by intro _ z; cases z) : SimP Γ L (w.add q o) p (upd H q o) := by
  refine ⟨fun a u e => ?_, S.len, S.nd, S.hb, S.hlo, S.hm, fun k c a hc ha => ?_, fun a ps e => ?_, S.tb.ext (up_new h)⟩
  · by_cases ea : a = q
    · subst ea
      have e' : upd w.G a o a = some u := e
      rw [upd_same] at e'
      rw [upd_same]
      exact e'
    · have e' : upd w.G q o a = some u := e
      rw [upd_ne ea] at e'
      rw [upd_ne ea]
      exact S.sub a u e'
  · refine (S.cell k c a hc ha).step (S.lows (S.le_add h) k) (fun d hb g => ?_) (up_new h)
    rw [Wd.low_G] at g ⊢
    show upd w.G q o d = none
    rw [upd_ne (fun z => hb (by rw [z]; exact h))]
    exact g
  · have e : upd w.G q o a = some (.tbl ps) := e
    by_cases ea : a = q
    · rw [ea, upd_same] at e
      exact no ps (Option.some.inj e)
    · rw [upd_ne ea] at e
      exact S.nt a ps e
theorem add_at {w : Wd} {q : Addr} {o : HO} : (w.add q o).G q = some o := upd_same
def Wd.cell (w : Wd) (q : Addr) : Wd := ⟨w.G, w.ρ ++ [q]⟩
theorem Wd.le_cell (w : Wd) (q : Addr) : w.le (w.cell q) := ⟨fun _ _ h => h, List.prefix_append _ _⟩
theorem SimP.newCell (S : SimP Γ L w p H) {q : Addr} {o : HO} {c : Cell} (h : H q = none) (hc : CellR Γ (w.cell q) (upd H q o) c q) : SimP Γ L (w.cell q) (p ++ [c]) (upd H q o) := by
  have nq : q ∉ w.ρ := fun z => by
    obtain ⟨u, e, _⟩ := S.live z
    rw [h] at e
    cases e
  refine ⟨fun a u e => up_new h a u (S.sub a u e), ?_, ?_, ?_, S.hlo, fun k m e => ?_, fun k c' a h1 h2 => ?_, S.nt, S.tb.ext (up_new h)⟩
  · show (w.ρ ++ [q]).length = (p ++ [c]).length
    rw [List.length_append, List.length_append, S.len]
    rfl
  · show (w.ρ ++ [q]).Nodup
    refine List.nodup_append.mpr ⟨S.nd, by simp, fun a ha b hb => ?_⟩
    have : b = q := by simpa using hb
    subst this
    exact fun z => nq (z ▸ ha)
  · rw [List.length_append]
    exact Nat.le_trans S.hb (Nat.le_add_right _ _)
  · rw [List.length_append]
    exact Nat.le_trans (S.hm k m e) (Nat.le_add_right _ _)
  · by_cases hk : k < p.length
    · have h1' : p[k]? = some c' := by
        rw [List.getElem?_append_left hk] at h1
        exact h1
      have h2' : w.ρ[k]? = some a := by
        have h2 : (w.ρ ++ [q])[k]? = some a := h2
        rw [List.getElem?_append_left (by rw [S.len]; exact hk)] at h2
        exact h2
      refine (S.cell k c' a h1' h2').step (S.lows (w.le_cell q) k) (fun _ _ g => ?_) (up_new h)
      rw [Wd.low_G] at g ⊢
      exact g
    · have hk2 : k = p.length := by
        have := (List.getElem?_eq_some_iff.mp h1).1
        rw [List.length_append] at this
        simp at this
        omega
      subst hk2
      have e1 : c = c' := by simpa using h1
      have h2 : (w.ρ ++ [q])[p.length]? = some a := h2
      rw [← S.len] at h2
      have e2 : q = a := by simpa using h2
      subst e1
      subst e2
      rw [S.hlo _ S.hb]
      exact hc
theorem nd_ix {l : List Addr} (h : l.Nodup) {i j : Nat} {a : Addr} (e1 : l[i]? = some a) (e2 : l[j]? = some a) : i = j := by
  obtain ⟨l1, e1⟩ := List.getElem?_eq_some_iff.mp e1
  obtain ⟨l2, e2⟩ := List.getElem?_eq_some_iff.mp e2
  exact (List.getElem_inj h).mp (e1.trans e2.symm)
theorem SimP.write (S : SimP Γ L w p H) {k : Nat} {a : Addr} {c : Cell} {o : HO} (ha : w.ρ[k]? = some a) (hg : w.G a = none) (hc : CellR Γ (w.low (L.lo k)) (upd H a o) c a) : SimP Γ L w (p.set k c) (upd H a o) := by
  have ho : ∀ x, H a ≠ some (.own x) := fun x z => by
    obtain ⟨u, e, n⟩ := S.live (List.mem_of_getElem? ha)
    rw [z] at e
    cases e
    exact n.1 x rfl
  refine ⟨fun d u e => ?_, by rw [List.length_set]; exact S.len, S.nd, by rw [List.length_set]; exact S.hb, S.hlo, fun j m e => by rw [List.length_set]; exact S.hm j m e, fun j c' d h1 h2 => ?_, S.nt, tabs_step S.tb fun b u e k => ?_⟩
  · have nb : d ≠ a := fun z => by
      rw [z, hg] at e
      cases e
    rw [upd_ne nb]
    exact S.sub d u e
  · by_cases hj : j = k
    · subst hj
      rw [ha] at h2
      cases h2
      have hl : j < p.length := by
        have := (List.getElem?_eq_some_iff.mp h1).1
        rw [List.length_set] at this
        exact this
      rw [List.getElem?_set_self hl] at h1
      cases h1
      exact hc
    · rw [List.getElem?_set_ne (Ne.symm hj)] at h1
      have nb : d ≠ a := fun z => by
        subst z
        exact hj (nd_ix S.nd h2 ha)
      refine (S.cell j c' d h1 h2).same (upd_ne nb) fun dx hdx => ?_
      have nd : dx ≠ a := fun z => ho d (by rw [← z]; exact hdx)
      rw [upd_ne nd]
      exact hdx
  · have nb : b ≠ a := fun z => by
      obtain ⟨u2, e2, n⟩ := S.live (List.mem_of_getElem? ha)
      rw [z, e2] at e
      cases e
      rcases k with ⟨ps, rfl⟩ | ⟨φ, rfl⟩
      · exact n.2.1 ps rfl
      · exact n.2.2 φ rfl
    rw [upd_ne nb]
    exact e
def minO (n : Nat) : Option Nat → Nat
  | none => n
  | some m => min m n
def Lv.deeper (L : Lv) (n : Nat) : Lv := ⟨n, fun k => if k < n then some (minO n (L.lo k)) else none⟩
theorem Lv.deeper_lt {L : Lv} {n k : Nat} (h : k < n) : (L.deeper n).lo k = some (minO n (L.lo k)) := by
  show (if k < n then _ else _) = _
  rw [if_pos h]
theorem SimP.enter (S : SimP Γ L w p H) : SimP Γ (L.deeper p.length) w p H := by
  refine ⟨S.sub, S.len, S.nd, Nat.le_refl _, fun k hk => ?_, fun k m e => ?_, fun k c a h1 h2 => ?_, S.nt, S.tb⟩
  · show (if k < p.length then _ else _) = _
    rw [if_neg (by show ¬ k < p.length; have : p.length ≤ k := hk; omega)]
  · have e : (if k < p.length then some (minO p.length (L.lo k)) else none) = some m := e
    split at e
    · cases e
      cases L.lo k with
      | none => exact Nat.le_refl _
      | some j => exact Nat.min_le_right _ _
    · cases e
  · have hk := (List.getElem?_eq_some_iff.mp h1).1
    have x := S.cell k c a h1 h2
    rw [Lv.deeper_lt hk]
    have hm := S.hm k
    cases e : L.lo k with
    | none =>
      rw [e] at x
      show CellR Γ ⟨w.G, w.ρ.take p.length⟩ H c a
      rw [← S.len, List.take_length]
      exact x
    | some m =>
      rw [e] at x
      show CellR Γ ⟨w.G, w.ρ.take (min m p.length)⟩ H c a
      rw [Nat.min_eq_left (hm m e)]
      exact x
end
section
mutual
def sub (s : Nat → Option PV) : PV → Option PV
  | .non => some .non
  | .bl b => some (.bl b)
  | .int i => some (.int i)
  | .str x => some (.str x)
  | .tup xs => match subs s xs with
    | some ys => some (.tup ys)
    | none => none
  | .lst xs => match subs s xs with
    | some ys => some (.lst ys)
    | none => none
  | .obj c xs => match subs s xs with
    | some ys => some (.obj c ys)
    | none => none
  | .own k => s k
  | .scr ns => some (.scr ns)
  | .xs c t => some (.xs c t)
  | .xv c x => match sub s x with
    | some y => some (.xv c y)
    | none => none
  | .fn k => some (.fn k)
  | .dct => some .dct
  | .adr a => some (.adr a)
  | .clo i x => match sub s x with
    | some y => some (.clo i y)
    | none => none
def subs (s : Nat → Option PV) : List PV → Option (List PV)
  | [] => some []
  | x :: xs => match sub s x with
    | some y => match subs s xs with
      | some ys => some (y :: ys)
      | none => none
    | none => none
end
def thw (fld : Nat → List Str) (n : Nat) (p : Pool) : Nat → Nat → Option PV
  | 0, k => if k < n then some (.own k) else none
  | f + 1, k => if k < n then some (.own k) else match p[k]? with
    | some (.lst xs) => match subs (thw fld n p f) xs with
      | some ys => some (.lst ys)
      | none => none
    | some (.obj c xs) => if xs.length = (fld c).length then match subs (thw fld n p f) xs with
        | some ys => some (.obj c ys)
        | none => none
      else none
    | _ => none
abbrev deep : Nat := 12
def thaw (fld : Nat → List Str) (n : Nat) (p : Pool) (x : PV) : Option PV := sub (thw fld n p deep) x
variable {Γ : Cfg} {L : Lv} {w w' : Wd} {p : Pool} {H H' : Hp}
mutual
theorem Rep.sub {s : Nat → Option PV} (lw : ∀ a o, w.G a = some o → w'.G a = some o) (hs : ∀ k y v, s k = some y → Rep Γ w (.own k) v → Rep Γ w' y v) : ∀ {x y : PV} {v : V}, R.sub s x = some y → Rep Γ w x v → Rep Γ w' y v
  | .non, y, v, e, h => by
    cases e
    exact h
  | .bl _, y, v, e, h => by
    cases e
    exact h
  | .int _, y, v, e, h => by
    cases e
    exact h
  | .str _, y, v, e, h => by
    cases e
    exact h
  | .tup xs, y, v, e, h => by
    obtain ⟨a, vs, ev, q, r⟩ := h
    unfold R.sub at e
    split at e
    · rename_i ys ey
      cases e
      exact ⟨a, vs, ev, seqT_mono lw q, Reps.sub lw hs ey r⟩
    · cases e
  | .lst xs, y, v, e, h => by
    obtain ⟨a, vs, ev, q, r⟩ := h
    unfold R.sub at e
    split at e
    · rename_i ys ey
      cases e
      exact ⟨a, vs, ev, lw _ _ q, Reps.sub lw hs ey r⟩
    · cases e
  | .scr ns, y, v, e, h => by
    cases e
    obtain ⟨a, ev, q⟩ := h
    exact ⟨a, ev, seqL_mono lw q⟩
  | .obj c xs, y, v, e, h => by
    obtain ⟨a, dx, vs, ev, g, d, n, r⟩ := h
    unfold R.sub at e
    split at e
    · rename_i ys ey
      cases e
      exact ⟨a, dx, vs, ev, lw _ _ g, lw _ _ d, n, Reps.sub lw hs ey r⟩
    · cases e
  | .own k, y, v, e, h => hs k y v e h
  | .xs c t, y, v, e, h => by
    cases e
    obtain ⟨a, t1, ev, g, g2⟩ := h
    exact ⟨a, t1, ev, lw _ _ g, lw _ _ g2⟩
  | .xv c x, y, v, e, h => by
    obtain ⟨a, d, u, ev, g, g2, r⟩ := h
    unfold R.sub at e
    split at e
    · rename_i y' ey
      cases e
      exact ⟨a, d, u, ev, lw _ _ g, lw _ _ g2, Rep.sub lw hs ey r⟩
    · cases e
  | .fn k, y, v, e, h => by
    cases e
    exact h
  | .dct, y, v, e, h => by
    cases e
    obtain ⟨a, ev, g⟩ := h
    exact ⟨a, ev, lw _ _ g⟩
  | .adr a, y, v, e, h => by
    cases e
    obtain ⟨ev, φ, g⟩ := h
    exact ⟨ev, φ, lw _ _ g⟩
  | .clo i x, y, v, e, h => by
    obtain ⟨L, f, c, c', u, vx, ev, hL, g1, g2, g3, r, hx⟩ := h
    unfold R.sub at e
    split at e
    · rename_i y' ey
      cases e
      exact ⟨L, f, c, c', u, vx, ev, hL, lw _ _ g1, lw _ _ g2, lw _ _ g3, r, Rep.sub lw hs ey hx⟩
    · cases e
theorem Reps.sub {s : Nat → Option PV} (lw : ∀ a o, w.G a = some o → w'.G a = some o) (hs : ∀ k y v, s k = some y → Rep Γ w (.own k) v → Rep Γ w' y v) : ∀ {xs ys : List PV} {vs : List V}, subs s xs = some ys → Reps Γ w xs vs → Reps Γ w' ys vs
  | [], ys, vs, e, h => by
    cases e
    exact h
  | x :: xs, ys, vs, e, h => by
    obtain ⟨v, r, ev, h1, h2⟩ := h
    unfold subs at e
    split at e
    · rename_i y ey
      split at e
      · rename_i zs ez
        cases e
        exact ⟨v, r, ev, Rep.sub lw hs ey h1, Reps.sub lw hs ez h2⟩
      · cases e
    · cases e
end
open Classical in
noncomputable def iced (w : Wd) (n : Nat) (H : Hp) : Hp := fun a =>
  if (∃ k, n ≤ k ∧ w.ρ[k]? = some a) ∨ (∃ k b, n ≤ k ∧ w.ρ[k]? = some b ∧ H a = some (.own b)) then H a else w.G a
noncomputable def Wd.ice (w : Wd) (n : Nat) (H : Hp) : Wd := ⟨iced w n H, w.ρ.take n⟩
theorem iced_no {n : Nat} {a : Addr} (h : ¬ ((∃ k, n ≤ k ∧ w.ρ[k]? = some a) ∨ (∃ k b, n ≤ k ∧ w.ρ[k]? = some b ∧ H a = some (.own b)))) : iced w n H a = w.G a := by
  unfold iced
  rw [if_neg h]
theorem iced_at {n k : Nat} {a : Addr} (hk : n ≤ k) (h : w.ρ[k]? = some a) : iced w n H a = H a := by
  unfold iced
  rw [if_pos (.inl ⟨k, hk, h⟩)]
theorem iced_own {n k : Nat} {a b : Addr} (hk : n ≤ k) (h : w.ρ[k]? = some b) (e : H a = some (.own b)) : iced w n H a = H a := by
  unfold iced
  rw [if_pos (.inr ⟨k, b, hk, h, e⟩)]
theorem SimP.iced_le (S : SimP Γ L w p H) (n : Nat) : ∀ a o, w.G a = some o → iced w n H a = some o := fun a o e => by
  unfold iced
  split
  · exact S.sub a o e
  · exact e
theorem SimP.iced_sub (S : SimP Γ L w p H) (n : Nat) : ∀ a o, iced w n H a = some o → H a = some o := fun a o e => by
  unfold iced at e
  split at e
  · exact e
  · exact S.sub a o e
theorem thw_ok (S : SimP Γ L w p H) (n : Nat) : ∀ (f k : Nat) (y : PV) (v : V), thw Γ.fld n p f k = some y → Rep Γ w (.own k) v → Rep Γ (w.ice n H) y v
  | 0, k, y, v, e, h => by
    obtain ⟨a, ha, rfl⟩ := h
    unfold thw at e
    split at e
    · rename_i hk
      cases e
      exact ⟨a, by show (w.ρ.take n)[k]? = _; rw [List.getElem?_take_of_lt hk]; exact ha, rfl⟩
    · cases e
  | f + 1, k, y, v, e, h => by
    obtain ⟨a, ha, rfl⟩ := h
    unfold thw at e
    split at e
    · rename_i hk
      cases e
      exact ⟨a, by show (w.ρ.take n)[k]? = _; rw [List.getElem?_take_of_lt hk]; exact ha, rfl⟩
    · rename_i hk
      have hnk : n ≤ k := by omega
      split at e
      · rename_i xs hp
        obtain ⟨b', hb, hc⟩ := S.at hp
        rw [ha] at hb
        cases hb
        obtain ⟨_, vs, eH, r⟩ := hc
        replace r := Reps.mono (w.low_le (L.lo k)) r
        split at e
        · rename_i ys ey
          cases e
          refine ⟨a, vs, rfl, ?_, Reps.sub (w' := w.ice n H) (S.iced_le n) (thw_ok S n f) ey r⟩
          show iced w n H a = _
          rw [iced_at hnk ha]
          exact eH
        · cases e
      · rename_i c fs hp
        obtain ⟨b', hb, hc⟩ := S.at hp
        rw [ha] at hb
        cases hb
        obtain ⟨_, dx, vs, eH, eD, _, hl, r⟩ := hc
        replace r := Reps.mono (w.low_le (L.lo k)) r
        split at e
        · rename_i hf
          split at e
          · rename_i ys ey
            cases e
            refine ⟨a, dx, vs, rfl, ?_, ?_, ?_, Reps.sub (w' := w.ice n H) (S.iced_le n) (thw_ok S n f) ey r⟩
            · show iced w n H a = _
              rw [iced_at hnk ha, eH]
            · show iced w n H dx = _
              rw [iced_own hnk ha eD]
              exact eD
            · rw [← r.length, hf]
          · cases e
        · cases e
      · cases e
theorem thaw_ok (S : SimP Γ L w p H) {n : Nat} {x y : PV} {v : V} (e : thaw Γ.fld n p x = some y) (h : Rep Γ w x v) : Rep Γ (w.ice n H) y v :=
  Rep.sub (S.iced_le n) (thw_ok S n deep) e h
theorem SimP.iced_nt (S : SimP Γ L w p H) (n : Nat) {a : Addr} {o : HO} (e : iced w n H a = some o) : ∀ ps, o ≠ .tbl ps := fun ps z => by
  unfold iced at e
  split at e
  · rename_i h
    rcases h with ⟨k, _, ek⟩ | ⟨k, b, _, ek, eo⟩
    · obtain ⟨o', eo, no⟩ := S.live (List.mem_of_getElem? ek)
      rw [eo] at e
      exact no.2.1 ps ((Option.some.inj e).trans z)
    · rw [eo] at e
      cases e
      cases z
  · exact S.nt a ps (z ▸ e)
theorem SimP.ice {n : Nat} (S : SimP Γ (L.deeper n) w p H) (hb : L.b ≤ n) (hlo : ∀ k, L.b ≤ k → L.lo k = none) (hm : ∀ k m, L.lo k = some m → m ≤ n) : SimP Γ L (w.ice n H) (p.take n) H := by
  have hn : n ≤ p.length := S.hb
  have hl : (p.take n).length = n := by
    rw [List.length_take]
    omega
  refine ⟨S.iced_sub n, ?_, S.nd.sublist (List.take_sublist _ _), by rw [hl]; exact hb, hlo, fun k m e => by rw [hl]; exact hm k m e, fun k c a h1 h2 => ?_, fun a ps e => ?_, S.tb⟩
  · show (w.ρ.take n).length = _
    rw [List.length_take, List.length_take, S.len]
  · have hk : k < n := by
      have := (List.getElem?_eq_some_iff.mp h1).1
      rw [hl] at this
      exact this
    have h2 : (w.ρ.take n)[k]? = some a := h2
    rw [List.getElem?_take_of_lt hk] at h1 h2
    have x := S.cell k c a h1 h2
    have apart : ∀ j, n ≤ j → w.ρ[j]? ≠ some a := fun j hj ej => by
      have := nd_ix S.nd h2 ej
      omega
    rw [Lv.deeper_lt hk] at x
    have lw : (w.low (some (minO n (L.lo k)))).le ((w.ice n H).low (L.lo k)) := by
      cases e : L.lo k with
      | none => exact ⟨S.iced_le n, List.prefix_refl _⟩
      | some m =>
        refine ⟨S.iced_le n, ?_⟩
        show w.ρ.take (min m n) <+: (w.ρ.take n).take m
        rw [List.take_take]
        exact List.prefix_refl _
    have gG : ((w.ice n H).low (L.lo k)).G = iced w n H := Wd.low_G
    cases c with
    | lst xs =>
      obtain ⟨g, vs, eH, r⟩ := x
      rw [Wd.low_G] at g
      refine ⟨?_, vs, eH, Reps.mono lw r⟩
      rw [gG, iced_no]
      · exact g
      · rintro (⟨j, hj, e⟩ | ⟨j, c', hj, e1, e2⟩)
        · exact apart j hj e
        · rw [eH] at e2
          cases e2
    | obj cl fs =>
      obtain ⟨g, dx, vs, eH, eD, gd, hl, r⟩ := x
      rw [Wd.low_G] at g gd
      refine ⟨?_, dx, vs, eH, eD, ?_, hl, Reps.mono lw r⟩
      · rw [gG, iced_no]
        · exact g
        · rintro (⟨j, hj, e⟩ | ⟨j, c', hj, e1, e2⟩)
          · exact apart j hj e
          · rw [eH] at e2
            cases e2
      · rw [gG, iced_no]
        · exact gd
        · rintro (⟨j, hj, e⟩ | ⟨j, c', hj, e1, e2⟩)
          · obtain ⟨o, eo, no'⟩ := S.live (List.mem_of_getElem? e)
            rw [eD] at eo
            cases eo
            exact no'.1 a rfl
          · rw [eD] at e2
            cases e2
            exact apart j hj e1
    | dead => exact x
    | dk kvs =>
      obtain ⟨g, vs, eH, r⟩ := x
      rw [Wd.low_G] at g
      refine ⟨?_, vs, eH, Reps.mono lw r⟩
      rw [gG, iced_no]
      · exact g
      · rintro (⟨j, hj, e⟩ | ⟨j, c', hj, e1, e2⟩)
        · exact apart j hj e
        · rw [eH] at e2
          cases e2
    | dt kvs =>
      obtain ⟨g, vs, eH, r⟩ := x
      rw [Wd.low_G] at g
      refine ⟨?_, vs, eH, Reps.mono lw r⟩
      rw [gG, iced_no]
      · exact g
      · rintro (⟨j, hj, e⟩ | ⟨j, c', hj, e1, e2⟩)
        · exact apart j hj e
        · rw [eH] at e2
          cases e2
  · exact S.iced_nt n e ps rfl
theorem SimP.le_ice {w0 : Wd} (S : SimP Γ L w p H) {n : Nat} (l : w0.le w) (hn : w0.ρ.length = n) : w0.le (w.ice n H) := by
  refine ⟨fun a o e => S.iced_le n a o (l.1 a o e), ?_⟩
  obtain ⟨t, e⟩ := l.2
  show w0.ρ <+: w.ρ.take n
  rw [← e, ← hn, List.take_left]
  exact List.prefix_refl _
end
end R
namespace R
open PySem L2
inductive Res (α : Type) where
  | ok (x : α) (p : Pool) | exc (c : Nat) (v : Option PV) (p : Pool) | stuck
structure En where
  b : Nat
  sl : List (Option PV)
abbrev M (α : Type) := En → Pool → Res α
def Res.bind {α β : Type} (r : Res α) (f : α → Pool → Res β) : Res β := match r with
  | .ok x p => f x p
  | .exc c v p => .exc c v p
  | .stuck => .stuck
inductive Ctl where
  | next (en : En) (p : Pool) | ret (x : PV) (p : Pool) | brk (en : En) (p : Pool) | cont (en : En) (p : Pool) | exc (c : Nat) (v : Option PV) (en : En) (p : Pool) | stuck
abbrev S := En → Pool → Ctl
def Res.run {α : Type} (r : Res α) (en : En) (f : α → Pool → Ctl) : Ctl := match r with
  | .ok x p => f x p
  | .exc c v p => .exc c v en p
  | .stuck => .stuck
def Ctl.andThen (r : Ctl) (f : S) : Ctl := match r with
  | .next en p => f en p
  | r => r
structure Cn where
  Γ : Cfg
  W : WX
def ExcR (Γ : Cfg) (w : Wd) (c : Nat) (ov : Option PV) (d : Option Addr) : Prop := match ov with
  | none => d = none
  | some x => ∃ dx v, d = some dx ∧ w.G dx = some (.xd [(Γ.exf c, v)]) ∧ Rep Γ w x v
theorem ExcR.mono {Γ : Cfg} {w w' : Wd} {c : Nat} {ov : Option PV} {d : Option Addr} (l : w.le w') (h : ExcR Γ w c ov d) : ExcR Γ w' c ov d := by
  cases ov with
  | none => exact h
  | some x =>
    obtain ⟨dx, v, e, g, r⟩ := h
    exact ⟨dx, v, e, l.1 _ _ g, r.mono l⟩
structure EnR (C : Cn) (L : Lv) (w : Wd) (en : En) (σ : St) : Prop where
  b : en.b = L.b
  len : en.sl.length = σ.length
  val : ∀ (i : Nat) x, en.sl[i]? = some (some x) → ∃ v, σ[i]? = some (some v) ∧ Rep C.Γ w x v
theorem EnR.mono {C : Cn} {L : Lv} {w w' : Wd} {en : En} {σ : St} (l : w.le w') (h : EnR C L w en σ) : EnR C L w' en σ :=
  ⟨h.b, h.len, fun i x e => let ⟨v, a, r⟩ := h.val i x e; ⟨v, a, r.mono l⟩⟩
theorem EnR.set {C : Cn} {L : Lv} {w : Wd} {en : En} {σ : St} (h : EnR C L w en σ) {i : Nat} {x : PV} {v : V} (r : Rep C.Γ w x v) : EnR C L w ⟨en.b, en.sl.set i (some x)⟩ (σ.set i (some v)) := by
  refine ⟨h.b, by rw [List.length_set, List.length_set]; exact h.len, fun j y e => ?_⟩
  have e : (en.sl.set i (some x))[j]? = some (some y) := e
  by_cases hj : j = i
  · subst hj
    have hl : j < en.sl.length := by
      have := (List.getElem?_eq_some_iff.mp e).1
      rw [List.length_set] at this
      exact this
    rw [List.getElem?_set_self hl] at e
    cases e
    exact ⟨v, List.getElem?_set_self (by rw [← h.len]; exact hl), r⟩
  · rw [List.getElem?_set_ne (Ne.symm hj)] at e
    obtain ⟨u, e1, e2⟩ := h.val j y e
    exact ⟨u, by rw [List.getElem?_set_ne (Ne.symm hj)]; exact e1, e2⟩
def Post {α β : Type} (C : Cn) (L : Lv) (w : Wd) (σ : St) (R : Wd → α → β → Prop) (r : Res α) (Q : β → Hp → Prop) : Prop := match r with
  | .ok x p => ∀ w' H' v, w.le w' → SimP C.Γ L w' p H' → R w' x v → Q v H'
  | .exc c ov p => ∀ w' H' d, w.le w' → SimP C.Γ L w' p H' → ExcR C.Γ w' c ov d → C.W (.ref (C.Γ.cls c)) d σ H'
  | .stuck => False
theorem Post.mono {α β : Type} {C : Cn} {L : Lv} {w w' : Wd} {σ : St} {R : Wd → α → β → Prop} {r : Res α} {Q : β → Hp → Prop} (l : w.le w') (h : Post C L w σ R r Q) : Post C L w' σ R r Q := by
  cases r with
  | ok x p => exact fun w2 H2 v l2 => h w2 H2 v (l.trans l2)
  | exc c v p => exact fun w2 H2 d l2 => h w2 H2 d (l.trans l2)
  | stuck => exact h
theorem Post.bind {α β γ δ : Type} {C : Cn} {L : Lv} {w : Wd} {σ : St} {R : Wd → α → β → Prop} {R' : Wd → γ → δ → Prop} {r : Res α} {f : α → Pool → Res γ} {Q : δ → Hp → Prop} {Q' : β → Hp → Prop} (h : Post C L w σ R' (r.bind f) Q)
    (k : ∀ x p w' H' v, w.le w' → SimP C.Γ L w' p H' → R w' x v → Post C L w' σ R' (f x p) Q → Q' v H') : Post C L w σ R r Q' := by
  cases r with
  | ok x p => exact fun w' H' v l S r => k x p w' H' v l S r (Post.mono l h)
  | exc c v p => exact h
  | stuck => exact h
theorem Post.ok {α β : Type} {C : Cn} {L : Lv} {w : Wd} {σ : St} {R : Wd → α → β → Prop} {x : α} {p : Pool} {Q : β → Hp → Prop} (h : Post C L w σ R (.ok x p) Q) {H : Hp} {v : β} (S : SimP C.Γ L w p H) (r : R w x v) : Q v H := h w H v (Wd.le.refl w) S r
abbrev RV (C : Cn) : Wd → PV → V → Prop := Rep C.Γ
abbrev RB : Wd → Bool → Bool → Prop := fun _ b c => b = c
abbrev RL (C : Cn) : Wd → List PV → List V → Prop := Reps C.Γ
def wE (C : Cn) (m : M PV) : TE := fun σ H Q => ∃ L w p en, SimP C.Γ L w p H ∧ EnR C L w en σ ∧ Post C L w σ (RV C) (m en p) Q
def wT (C : Cn) (m : M Bool) : TT := fun σ H Q => ∃ L w p en, SimP C.Γ L w p H ∧ EnR C L w en σ ∧ Post C L w σ RB (m en p) Q
def wA (C : Cn) (m : M (List PV)) : TA := fun σ H Q => ∃ L w p en, SimP C.Γ L w p H ∧ EnR C L w en σ ∧ Post C L w σ (RL C) (m en p) Q
def PostS (C : Cn) (L : Lv) (w : Wd) (D : Ends) (r : Ctl) : Prop := match r with
  | .next en p => ∀ w' H' σ', w.le w' → SimP C.Γ L w' p H' → EnR C L w' en σ' → D.nx σ' H'
  | .ret x p => ∀ w' H' v, w.le w' → SimP C.Γ L w' p H' → Rep C.Γ w' x v → D.rt v H'
  | .brk en p => ∀ w' H' σ', w.le w' → SimP C.Γ L w' p H' → EnR C L w' en σ' → D.bk σ' H'
  | .cont en p => ∀ w' H' σ', w.le w' → SimP C.Γ L w' p H' → EnR C L w' en σ' → D.ct σ' H'
  | .exc c ov en p => ∀ w' H' σ' d, w.le w' → SimP C.Γ L w' p H' → EnR C L w' en σ' → ExcR C.Γ w' c ov d → C.W (.ref (C.Γ.cls c)) d σ' H'
  | .stuck => False
def wS (C : Cn) (m : S) : TS := fun D σ H => ∃ L w p en, SimP C.Γ L w p H ∧ EnR C L w en σ ∧ PostS C L w D (m en p)
theorem PostS.mono {C : Cn} {L : Lv} {w w' : Wd} {D : Ends} {r : Ctl} (l : w.le w') (h : PostS C L w D r) : PostS C L w' D r := by
  cases r with
  | next en p => exact fun w2 H2 s l2 => h w2 H2 s (l.trans l2)
  | ret x p => exact fun w2 H2 s l2 => h w2 H2 s (l.trans l2)
  | brk en p => exact fun w2 H2 s l2 => h w2 H2 s (l.trans l2)
  | cont en p => exact fun w2 H2 s l2 => h w2 H2 s (l.trans l2)
  | exc c v en p => exact fun w2 H2 s d l2 => h w2 H2 s d (l.trans l2)
  | stuck => exact h
theorem PostS.run {α β : Type} {C : Cn} {L : Lv} {w : Wd} {en : En} {σ : St} {R : Wd → α → β → Prop} {r : Res α} {f : α → Pool → Ctl} {D : Ends} {Q' : β → Hp → Prop} (E : EnR C L w en σ) (h : PostS C L w D (r.run en f))
    (k : ∀ x p w' H' v, w.le w' → SimP C.Γ L w' p H' → R w' x v → PostS C L w' D (f x p) → Q' v H') : Post C L w σ R r Q' := by
  cases r with
  | ok x p => exact fun w' H' v l S r => k x p w' H' v l S r (PostS.mono l h)
  | exc c v p => exact fun w' H' d l S x => h w' H' σ d l S (E.mono l) x
  | stuck => exact h
theorem _root_.L2.PE.imp {X : Cx} {e : Expr} {t t' : TE} (h : PE X e t) (i : ∀ σ H Q, t' σ H Q → t σ H Q) : PE X e t' := ⟨fun pins s σ H Q I hq => h.run pins s σ H Q I (i _ _ _ hq)⟩
theorem _root_.L2.PT.imp {X : Cx} {e : Expr} {t t' : TT} (h : PT X e t) (i : ∀ σ H Q, t' σ H Q → t σ H Q) : PT X e t' := ⟨fun pins s σ H Q I hq => h.run pins s σ H Q I (i _ _ _ hq)⟩
theorem _root_.L2.PW.imp {X : Cx} {e : Expr} {t t' : TT} (h : PW X e t) (i : ∀ σ H Q, t' σ H Q → t σ H Q) : PW X e t' := ⟨fun wh pins s σ H Q I hq => h.run wh pins s σ H Q I (i _ _ _ hq)⟩
theorem _root_.L2.PA.imp {X : Cx} {e : List Expr} {t t' : TA} (h : PA X e t) (i : ∀ σ H Q, t' σ H Q → t σ H Q) : PA X e t' := ⟨fun pos pins s σ H Q I hq => h.run pos pins s σ H Q I (i _ _ _ hq)⟩
theorem _root_.L2.PS.imp {X : Cx} {e : Stmt} {t t' : TS} (h : PS X e t) (i : ∀ D σ H, t' D σ H → t D σ H) : PS X e t' := ⟨fun pins s σ H D I hq => h.run pins s σ H D I (i _ _ _ hq)⟩
theorem _root_.L2.PSs.imp {X : Cx} {e : List Stmt} {t t' : TS} (h : PSs X e t) (i : ∀ D σ H, t' D σ H → t D σ H) : PSs X e t' := ⟨fun pins s σ H D I hq => h.run pins s σ H D I (i _ _ _ hq)⟩
abbrev RE (X : Cx) (C : Cn) (e : Expr) (m : M PV) : Prop := PE X e (wE C m)
abbrev RT (X : Cx) (C : Cn) (e : Expr) (m : M Bool) : Prop := PT X e (wT C m)
abbrev RW (X : Cx) (C : Cn) (e : Expr) (m : M Bool) : Prop := PW X e (wT C m)
structure RA (X : Cx) (C : Cn) (es : List Expr) (m : M (List PV)) : Prop where
  pa : PA X es (wA C m)
  len : ∀ en p xs p1, m en p = .ok xs p1 → xs.length = es.length
abbrev RS (X : Cx) (C : Cn) (st : Stmt) (m : S) : Prop := PS X st (wS C m)
abbrev RSs (X : Cx) (C : Cn) (st : List Stmt) (m : S) : Prop := PSs X st (wS C m)
section
variable {X : Cx} {C : Cn} {pos : Pos}
def mVar (i : Nat) : M PV := fun en p => match en.sl[i]? with
  | some (some x) => .ok x p
  | _ => .stuck
def mC (x : PV) : M PV := fun _ p => .ok x p
theorem rv (i : Nat) {x : Str} (hN : X.N[i]? = some x := by rfl) (hv : Vis X.env.scope x := by first | exact Or.inl rfl | exact Or.inr (Or.inl rfl) | exact Or.inr (Or.inr rfl)) (hd : (x == ("__debug__" : Str)) = false := by decide)
    (hcd : (x == ("__classdict__" : Str)) = false := by decide) : RE X C (.Name x pos) (mVar i) := by
  refine (pe_var hN hv hd hcd).imp fun σ H Q ⟨L, w, p, en, S, E, h⟩ => ?_
  unfold mVar at h
  split at h
  · rename_i y e
    obtain ⟨v, e1, r⟩ := E.val i y e
    exact ⟨v, e1, h.ok S r⟩
  · exact h.elim
theorem re_int {i j} : RE X C (.Constant (.int i) j pos) (mC (.int i)) := pe_int.imp fun σ H Q ⟨L, w, p, en, S, E, h⟩ => h.ok S (rfl : Rep C.Γ w (.int i) (.int i))
theorem re_bl {b j} : RE X C (.Constant (.bool b) j pos) (mC (.bl b)) := pe_bl.imp fun σ H Q ⟨L, w, p, en, S, E, h⟩ => h.ok S (rfl : Rep C.Γ w (.bl b) (.bl b))
theorem re_non {j} : RE X C (.Constant .none j pos) (mC .non) := pe_non.imp fun σ H Q ⟨L, w, p, en, S, E, h⟩ => h.ok S (rfl : Rep C.Γ w .non .non)
theorem re_str {x j} : RE X C (.Constant (.str x) j pos) (mC (.str x)) := pe_str.imp fun σ H Q ⟨L, w, p, en, S, E, h⟩ => h.ok S (rfl : Rep C.Γ w (.str x) (.str x))
theorem re_globI {x : Str} {i : Int} {u : Value} (hg : Gl X x) (hm : X.mg x = some u) (r : RelV (.int i) u) (hd : (x == ("__debug__" : Str)) = false := by decide) : RE X C (.Name x pos) (mC (.int i)) :=
  (pe_glob hg hm r hd).imp fun σ H Q ⟨L, w, p, en, S, E, h⟩ => h.ok S (rfl : Rep C.Γ w (.int i) (.int i))
def mNil : M (List PV) := fun _ p => .ok [] p
def mCons (a : M PV) (r : M (List PV)) : M (List PV) := fun en p => (a en p).bind fun x p1 => (r en p1).bind fun xs p2 => .ok (x :: xs) p2
theorem ra_nil : RA X C [] mNil := ⟨pa_nil.imp fun σ H Q ⟨L, w, p, en, S, E, h⟩ => h.ok S (Reps.nil), fun _ _ _ _ e => by
  cases e
  rfl⟩
theorem ra_cons {e : Expr} {es : List Expr} {a : M PV} {r : M (List PV)} (ha : RE X C e a) (hr : RA X C es r) (hs : starEach (e :: es) X.env = (false, eval e X.env) :: starEach es X.env := by rfl) : RA X C (e :: es) (mCons a r) := by
  refine ⟨(pa_cons ha hr.pa hs).imp fun σ H Q ⟨L, w, p, en, S, E, h⟩ => ?_, fun en p xs p1 q => ?_⟩
  · refine ⟨L, w, p, en, S, E, h.bind fun x p1 w1 H1 v l1 S1 r1 h1 => ?_⟩
    refine ⟨L, w1, p1, en, S1, E.mono l1, h1.bind fun xs p2 w2 H2 vs l2 S2 r2 h2 => ?_⟩
    exact h2.ok S2 (Reps.cons (r1.mono l2) r2)
  · unfold mCons at q
    cases e : a en p with
    | ok x p2 =>
      rw [e] at q
      have q : (r en p2).bind (fun xs p2 => Res.ok (x :: xs) p2) = Res.ok xs p1 := q
      cases e2 : r en p2 with
      | ok ys p3 =>
        rw [e2] at q
        cases q
        rw [List.length_cons, List.length_cons, hr.len _ _ _ _ e2]
      | exc c v p3 =>
        rw [e2] at q
        cases q
      | stuck =>
        rw [e2] at q
        cases q
    | exc c v p2 =>
      rw [e] at q
      cases q
    | stuck =>
      rw [e] at q
      cases q
def big : Nat := 1000000
theorem big_le {n : Nat} (h : n ≤ big) : n ≤ sizeLine := Nat.le_trans h (by decide)
theorem big_lt {n : Nat} (h : n < big) : n < sizeLine := Nat.lt_of_lt_of_le h (by decide)
def mTup (a : M (List PV)) : M PV := fun en p => (a en p).bind fun xs p1 => .ok (.tup xs) p1
def mLst (a : M (List PV)) : M PV := fun en p => (a en p).bind fun xs p1 => .ok (.lst xs) p1
def mLstO (a : M (List PV)) : M PV := fun en p => (a en p).bind fun xs p1 => .ok (.own p1.length) (p1 ++ [.lst xs])
theorem newTup {L : Lv} {w : Wd} {p : Pool} {H : Hp} (S : SimP C.Γ L w p H) {xs : List PV} {vs : List V} (r : Reps C.Γ w xs vs) {σ : St} {Q : VK} (h : Post C L w σ (RV C) (.ok (.tup xs) p) Q) : ∀ q, H q = none → Q (.ref q) (upd H q (.tup vs)) := fun q hq =>
  h _ _ _ (S.le_add hq) (S.new hq) ⟨q, vs, rfl, .inl (.inl add_at), r.mono (S.le_add hq)⟩
theorem newLst {L : Lv} {w : Wd} {p : Pool} {H : Hp} (S : SimP C.Γ L w p H) {xs : List PV} {vs : List V} (r : Reps C.Γ w xs vs) {σ : St} {Q : VK} (h : Post C L w σ (RV C) (.ok (.lst xs) p) Q) : ∀ q, H q = none → Q (.ref q) (upd H q (.lst vs)) := fun q hq =>
  h _ _ _ (S.le_add hq) (S.new hq) ⟨q, vs, rfl, add_at, r.mono (S.le_add hq)⟩
theorem newOwn {L : Lv} {w : Wd} {p : Pool} {H : Hp} (S : SimP C.Γ L w p H) {xs : List PV} {vs : List V} (r : Reps C.Γ w xs vs) {σ : St} {Q : VK} (h : Post C L w σ (RV C) (.ok (.own p.length) (p ++ [.lst xs])) Q) : ∀ q, H q = none → Q (.ref q) (upd H q (.lst vs)) := fun q hq => by
  refine h _ _ _ (w.le_cell q) (S.newCell hq ⟨S.free hq, vs, upd_same, r.mono (w.le_cell q)⟩) ⟨q, ?_, rfl⟩
  show (w.ρ ++ [q])[p.length]? = some q
  rw [← S.len]
  simp
theorem re_tup {es : List Expr} {x1} {a : M (List PV)} (h : RA X C es a) (hl : es.length ≤ sizeLine := by decide) : RE X C (.Tuple es x1 pos) (mTup a) := by
  refine (pe_tup h.pa).imp fun σ H Q ⟨L, w, p, en, S, E, q⟩ => ⟨L, w, p, en, S, E, ?_⟩
  unfold mTup at q
  cases e : a en p with
  | ok xs p1 =>
    rw [e] at q
    exact fun w' H' vs l S' r => ⟨by rw [← Reps.length r, h.len _ _ _ _ e]; exact hl, newTup S' r (Post.mono l q)⟩
  | exc c v p1 =>
    rw [e] at q
    exact q
  | stuck =>
    rw [e] at q
    exact q
theorem re_lst {es : List Expr} {a : M (List PV)} (h : RA X C es a) (hl : es.length ≤ sizeLine := by decide) : RE X C (.List es pos) (mLst a) := by
  refine (pe_lst h.pa).imp fun σ H Q ⟨L, w, p, en, S, E, q⟩ => ⟨L, w, p, en, S, E, ?_⟩
  unfold mLst at q
  cases e : a en p with
  | ok xs p1 =>
    rw [e] at q
    exact fun w' H' vs l S' r => ⟨by rw [← Reps.length r, h.len _ _ _ _ e]; exact hl, newLst S' r (Post.mono l q)⟩
  | exc c v p1 =>
    rw [e] at q
    exact q
  | stuck =>
    rw [e] at q
    exact q
theorem re_lstO {es : List Expr} {a : M (List PV)} (h : RA X C es a) (hl : es.length ≤ sizeLine := by decide) : RE X C (.List es pos) (mLstO a) := by
  refine (pe_lst h.pa).imp fun σ H Q ⟨L, w, p, en, S, E, q⟩ => ⟨L, w, p, en, S, E, ?_⟩
  unfold mLstO at q
  cases e : a en p with
  | ok xs p1 =>
    rw [e] at q
    exact fun w' H' vs l S' r => ⟨by rw [← Reps.length r, h.len _ _ _ _ e]; exact hl, newOwn S' r (Post.mono l q)⟩
  | exc c v p1 =>
    rw [e] at q
    exact q
  | stuck =>
    rw [e] at q
    exact q
abbrev F2 := PV → PV → Pool → Res PV
def mBin (f : F2) (a b : M PV) : M PV := fun en p => (a en p).bind fun x p1 => (b en p1).bind fun y p2 => f x y p2
def RefO (C : Cn) (r : R2) (f : F2) : Prop := ∀ L w p H σ x y vx vy Q, SimP C.Γ L w p H → Rep C.Γ w x vx → Rep C.Γ w y vy → Post C L w σ (RV C) (f x y p) Q → r vx vy H Q
theorem wE_op {r : R2} {f : F2} {ma mb : M PV} (hr : RefO C r f) : ∀ σ H Q, wE C (mBin f ma mb) σ H Q → tOp r (wE C ma) (wE C mb) σ H Q := fun σ H Q ⟨L, w, p, en, S, E, h⟩ => by
  refine ⟨L, w, p, en, S, E, h.bind fun x p1 w1 H1 v l1 S1 r1 h1 => ?_⟩
  refine ⟨L, w1, p1, en, S1, E.mono l1, h1.bind fun y p2 w2 H2 u l2 S2 r2 h2 => ?_⟩
  exact hr L w2 p2 H2 σ x y v u Q S2 (r1.mono l2) r2 h2
theorem re_bin {a b : Expr} {op : Operator} {r : R2} {f : F2} {ma mb : M PV} (ho : OpR X (binaryOp op) r) (hr : RefO C r f) (ha : RE X C a ma) (hb : RE X C b mb) : RE X C (.BinOp a op b pos) (mBin f ma mb) := (pe_op ho ha hb).imp (wE_op hr)
theorem re_cmp {a b : Expr} {op : CmpOp} {r : R2} {f : F2} {ma mb : M PV} (ho : OpR X (compareOp op) r) (hr : RefO C r f) (ha : RE X C a ma) (hb : RE X C b mb) (hm : behindInMarks op b = false) : RE X C (.Compare a [op] [b] pos) (mBin f ma mb) := (pe_cmpR ho ha hb hm).imp (wE_op hr)
def mB (a : M PV) : M Bool := fun en p => (a en p).bind fun x p1 => match x with
  | .bl b => .ok b p1
  | _ => .stuck
theorem wT_test {t : TE} {m : M PV} (i : ∀ σ H Q, wE C m σ H Q → t σ H Q) : ∀ σ H Q, wT C (mB m) σ H Q → tTest t σ H Q := fun σ H Q ⟨L, w, p, en, S, E, h⟩ => by
  refine i σ H _ ⟨L, w, p, en, S, E, h.bind fun x p1 w1 H1 v l1 S1 r1 h1 => ?_⟩
  cases x with
  | bl b => exact ⟨b, r1, h1.ok S1 rfl⟩
  | _ => exact h1.elim
theorem rt_cmp {a b : Expr} {op : CmpOp} {r : R2} {f : F2} {ma mb : M PV} (ho : OpR X (compareOp op) r) (hr : RefO C r f) (ha : RE X C a ma) (hb : RE X C b mb) (hm : behindInMarks op b = false) : RT X C (.Compare a [op] [b] pos) (mB (mBin f ma mb)) := (pt_cmpR ho ha hb hm).imp (wT_test (wE_op hr))
theorem rt_val {e : Expr} {m : M PV} (h : RE X C e m) (he : ∀ whole, isTrue e X.env whole = (do let v ← whole; standAt e.pos; holding [v] (truthy v)) := by intro _; rfl) : RT X C e (mB m) := (pt_val h he).imp fun σ H Q q => wT_test (t := wE C m) (fun _ _ _ z => z) σ H Q q
def mChain (f g : F2) (a b c : M PV) : M PV := fun en p => (a en p).bind fun x p1 => (b en p1).bind fun y p2 => (f x y p2).bind fun z p3 => match z with
  | .bl true => (c en p3).bind fun u p4 => g y u p4
  | .bl false => .ok (.bl false) p3
  | _ => .stuck
theorem wE_chain {r r' : R2} {f g : F2} {ma mb mc : M PV} (hr : RefO C r f) (hr' : RefO C r' g) : ∀ σ H Q, wE C (mChain f g ma mb mc) σ H Q → tChain r r' (wE C ma) (wE C mb) (wE C mc) σ H Q := fun σ H Q ⟨L, w, p, en, S, E, h⟩ => by
  refine ⟨L, w, p, en, S, E, h.bind fun x p1 w1 H1 v l1 S1 r1 h1 => ?_⟩
  refine ⟨L, w1, p1, en, S1, E.mono l1, h1.bind fun y p2 w2 H2 u l2 S2 r2 h2 => ?_⟩
  refine hr L w2 p2 H2 σ x y v u _ S2 (r1.mono l2) r2 (h2.bind fun z p3 w3 H3 o l3 S3 r3 h3 => ?_)
  cases z with
  | bl b =>
    refine ⟨b, r3, ?_⟩
    cases b with
    | true =>
      refine iteT ?_
      refine ⟨L, w3, p3, en, S3, E.mono ((l1.trans l2).trans l3), h3.bind fun t p4 w4 H4 e l4 S4 r4 h4 => ?_⟩
      exact hr' L w4 p4 H4 σ y t u e Q S4 (r2.mono (l3.trans l4)) r4 h4
    | false =>
      have e : o = V.bl false := r3
      subst e
      exact iteF (h3.ok S3 r3)
  | _ => exact h3.elim
theorem rt_chain {a b c : Expr} {op op' : CmpOp} {r r' : R2} {f g : F2} {ma mb mc : M PV} (ho : OpR X (compareOp op) r) (hr : RefO C r f) (ho' : OpR X (compareOp op') r') (hr' : RefO C r' g) (ha : RE X C a ma) (hb : RE X C b mb) (hc : RE X C c mc)
    (hl : lastMarks [op, op'] [b, c] = false := by rfl) : RT X C (.Compare a [op, op'] [b, c] pos) (mB (mChain f g ma mb mc)) := (pt_chain ho ho' ha hb hc hl).imp (wT_test (wE_chain hr hr'))
def mAnd (a b : M Bool) : M Bool := fun en p => (a en p).bind fun x p1 => if x = true then b en p1 else .ok false p1
def mOr (a b : M Bool) : M Bool := fun en p => (a en p).bind fun x p1 => if x = true then .ok true p1 else b en p1
def mNot (a : M Bool) : M Bool := fun en p => (a en p).bind fun x p1 => .ok (!x) p1
theorem rw_and1 {a : Expr} {m : M Bool} (h : RT X C a m) : RW X C (.BoolOp .And [a] pos) m := pw_and1 h
theorem rw_or1 {a : Expr} {m : M Bool} (h : RT X C a m) : RW X C (.BoolOp .Or [a] pos) m := pw_or1 h
theorem rw_and {a b : Expr} {rest : List Expr} {ma mb : M Bool} (ha : RT X C a ma) (hb : RW X C (.BoolOp .And (b :: rest) pos) mb) : RW X C (.BoolOp .And (a :: b :: rest) pos) (mAnd ma mb) :=
  (pw_and ha hb).imp fun σ H Q ⟨L, w, p, en, S, E, h⟩ => by
    refine ⟨L, w, p, en, S, E, h.bind fun x p1 w1 H1 v l1 S1 r1 h1 => ?_⟩
    cases r1
    cases x with
    | true => exact iteT ⟨L, w1, p1, en, S1, E.mono l1, h1⟩
    | false => exact iteF (h1.ok S1 rfl)
theorem rw_or {a b : Expr} {rest : List Expr} {ma mb : M Bool} (ha : RT X C a ma) (hb : RW X C (.BoolOp .Or (b :: rest) pos) mb) : RW X C (.BoolOp .Or (a :: b :: rest) pos) (mOr ma mb) :=
  (pw_or ha hb).imp fun σ H Q ⟨L, w, p, en, S, E, h⟩ => by
    refine ⟨L, w, p, en, S, E, h.bind fun x p1 w1 H1 v l1 S1 r1 h1 => ?_⟩
    cases r1
    cases x with
    | false => exact iteF ⟨L, w1, p1, en, S1, E.mono l1, h1⟩
    | true => exact iteT (h1.ok S1 rfl)
theorem rt_w {e : Expr} {m : M Bool} (h : RW X C e m) : RT X C e m := h.pt
theorem rt_not {a : Expr} {m : M Bool} (h : RT X C a m) : RT X C (.UnaryOp .Not a pos) (mNot m) := (pt_not h).imp fun σ H Q ⟨L, w, p, en, S, E, h⟩ => by
  refine ⟨L, w, p, en, S, E, h.bind fun x p1 w1 H1 v l1 S1 r1 h1 => ?_⟩
  cases r1
  exact h1.ok S1 rfl
def mAndV (a b : M PV) : M PV := fun en p => (a en p).bind fun x p1 => match x with
  | .bl true => b en p1
  | .bl false => .ok (.bl false) p1
  | _ => .stuck
def mOrV (a b : M PV) : M PV := fun en p => (a en p).bind fun x p1 => match x with
  | .bl true => .ok (.bl true) p1
  | .bl false => b en p1
  | _ => .stuck
def mNotV (a : M PV) : M PV := fun en p => (a en p).bind fun x p1 => match x with
  | .bl b => .ok (.bl (!b)) p1
  | _ => .stuck
theorem re_one {a : Expr} {op} {m : M PV} (h : RE X C a m) : RE X C (.BoolOp op [a] pos) m := pe_one h
theorem re_and {a b : Expr} {rest : List Expr} {ma mb : M PV} (ha : RE X C a ma) (hb : RE X C (.BoolOp .And (b :: rest) pos) mb) : RE X C (.BoolOp .And (a :: b :: rest) pos) (mAndV ma mb) :=
  (pe_and ha hb).imp fun σ H Q ⟨L, w, p, en, S, E, h⟩ => by
    refine ⟨L, w, p, en, S, E, h.bind fun x p1 w1 H1 v l1 S1 r1 h1 => ?_⟩
    cases x with
    | bl b =>
      refine ⟨b, r1, ?_⟩
      cases b with
      | true => exact iteT ⟨L, w1, p1, en, S1, E.mono l1, h1⟩
      | false => exact iteF (h1.ok S1 rfl)
    | _ => exact h1.elim
theorem re_not {a : Expr} {ma : M PV} (ha : RE X C a ma) : RE X C (.UnaryOp .Not a pos) (mNotV ma) :=
  (pe_not ha).imp fun σ H Q ⟨L, w, p, en, S, E, h⟩ => by
    refine ⟨L, w, p, en, S, E, h.bind fun x p1 w1 H1 v l1 S1 r1 h1 => ?_⟩
    cases x with
    | bl b => exact ⟨b, r1, h1.ok S1 rfl⟩
    | _ => exact h1.elim
def mIf {α : Type} (t : M Bool) (a b : M α) : M α := fun en p => (t en p).bind fun x p1 => if x = true then a en p1 else b en p1
theorem re_if {c a b : Expr} {t : M Bool} {ma mb : M PV} (hc : RT X C c t) (ha : RE X C a ma) (hb : RE X C b mb) : RE X C (.IfExp c a b pos) (mIf t ma mb) := (pe_ifExp hc ha hb).imp fun σ H Q ⟨L, w, p, en, S, E, h⟩ => by
  refine ⟨L, w, p, en, S, E, h.bind fun x p1 w1 H1 v l1 S1 r1 h1 => ?_⟩
  cases r1
  cases x with
  | true => exact iteT ⟨L, w1, p1, en, S1, E.mono l1, h1⟩
  | false => exact iteF ⟨L, w1, p1, en, S1, E.mono l1, h1⟩
def sNop : S := fun en p => .next en p
def sSeq (a b : S) : S := fun en p => (a en p).andThen b
theorem PostS.andThen {L : Lv} {w : Wd} {D : Ends} {r : Ctl} {f : S} {t : TS} (h : PostS C L w D (r.andThen f)) (k : ∀ en p w' H' σ', w.le w' → SimP C.Γ L w' p H' → EnR C L w' en σ' → PostS C L w' D (f en p) → t D σ' H') : PostS C L w { D with nx := t D } r := by
  cases r with
  | next en p => exact fun w' H' σ' l S E => k en p w' H' σ' l S E (PostS.mono l h)
  | _ => exact h
theorem rss_nil : RSs X C [] sNop := pss_nil.imp fun D σ H ⟨L, w, p, en, S, E, h⟩ => h w H σ (Wd.le.refl w) S E
theorem rss_cons {st : Stmt} {rest : List Stmt} {a b : S} (ha : RS X C st a) (hb : RSs X C rest b) : RSs X C (st :: rest) (sSeq a b) := (pss_cons ha hb).imp fun D σ H ⟨L, w, p, en, S, E, h⟩ =>
  ⟨L, w, p, en, S, E, h.andThen fun en p w' H' σ' _ S' E' h' => ⟨L, w', p, en, S', E', h'⟩⟩
theorem rss_one {st : Stmt} {a : S} (ha : RS X C st a) : RSs X C [st] a := pss_one ha
def sNo : S := fun _ _ => .stuck
theorem rs_no {st : Stmt} : RS X C st sNo := ⟨fun _ _ _ _ _ _ ⟨_, _, _, _, _, _, h⟩ => h.elim⟩
def sExpr (a : M PV) : S := fun en p => (a en p).run en fun _ p1 => .next en p1
theorem rs_expr {e : Expr} {a : M PV} (h : RE X C e a) (hs : swapsWith e none pos.line X.env = pure false := by rfl) : RS X C (.Expr e pos) (sExpr a) := (ps_expr h hs).imp fun D σ H ⟨L, w, p, en, S, E, h⟩ =>
  ⟨L, w, p, en, S, E, h.run E fun x p1 w1 H1 v l1 S1 r1 h1 => h1 w1 H1 σ (Wd.le.refl w1) S1 (E.mono l1)⟩
def sRet (a : M PV) : S := fun en p => (a en p).run en fun x p1 => .ret x p1
theorem rs_ret {e : Expr} {a : M PV} (h : RE X C e a) : RS X C (.Return (some e) pos) (sRet a) := (ps_ret h).imp fun D σ H ⟨L, w, p, en, S, E, h⟩ =>
  ⟨L, w, p, en, S, E, h.run E fun x p1 w1 H1 v l1 S1 r1 h1 => h1 w1 H1 v (Wd.le.refl w1) S1 r1⟩
def sIf (t : M Bool) (a b : S) : S := fun en p => (t en p).run en fun x p1 => if x = true then a en p1 else b en p1
theorem rs_if {c : Expr} {a b : List Stmt} {t : M Bool} {ma mb : S} (hc : RT X C c t) (ha : RSs X C a ma) (hb : RSs X C b mb) : RS X C (.If c a b pos) (sIf t ma mb) := (ps_if hc ha hb).imp fun D σ H ⟨L, w, p, en, S, E, h⟩ => by
  refine ⟨L, w, p, en, S, E, h.run E fun x p1 w1 H1 v l1 S1 r1 h1 => ?_⟩
  cases r1
  cases x with
  | true => exact iteT ⟨L, w1, p1, en, S1, E.mono l1, h1⟩
  | false => exact iteF ⟨L, w1, p1, en, S1, E.mono l1, h1⟩
abbrev As := List (Nat × PV)
abbrev T1 := PV → Option As
abbrev TL := List PV → Option As
def En.set (en : En) (i : Nat) (x : PV) : En := ⟨en.b, en.sl.set i (some x)⟩
def En.sets (en : En) : As → En
  | [] => en
  | (i, x) :: r => (en.set i x).sets r
def setV (σ : St) : List (Nat × V) → St
  | [] => σ
  | (i, v) :: r => setV (σ.set i (some v)) r
theorem setV_append (σ : St) : ∀ as bs : List (Nat × V), setV σ (as ++ bs) = setV (setV σ as) bs
  | [], _ => rfl
  | (i, v) :: r, bs => setV_append _ r bs
theorem EnR.sets {L : Lv} {w : Wd} : ∀ {as : As} {bs : List (Nat × V)} {en : En} {σ : St}, EnR C L w en σ → bs.map (·.1) = as.map (·.1) → Reps C.Γ w (as.map (·.2)) (bs.map (·.2)) → EnR C L w (en.sets as) (setV σ bs)
  | [], [], _, _, E, _, _ => E
  | [], _ :: _, _, _, _, e, _ => by cases e
  | (i, x) :: as, [], _, _, _, e, _ => by cases e
  | (i, x) :: as, (j, v) :: bs, en, σ, E, e, r => by
    obtain ⟨u, us, eu, r1, r2⟩ := r
    rw [List.map_cons, List.cons.injEq] at eu
    obtain ⟨rfl, e2⟩ := eu
    rw [List.map_cons, List.map_cons, List.cons.injEq] at e
    obtain ⟨rfl, e3⟩ := e
    exact EnR.sets (bs := bs) (σ := σ.set j (some v)) (en := en.set j x) (E.set r1) e3 (by rw [show bs.map (·.2) = us from e2]; exact r2)
def wG (C : Cn) (m : T1) : TG := fun v σ H Q => ∃ L w p x as, SimP C.Γ L w p H ∧ Rep C.Γ w x v ∧ m x = some as ∧ ∀ bs : List (Nat × V), bs.map (·.1) = as.map (·.1) → Reps C.Γ w (as.map (·.2)) (bs.map (·.2)) → Q (setV σ bs) H
def wGs (C : Cn) (m : TL) : TGs := fun vs σ H Q => ∃ L w p xs as, SimP C.Γ L w p H ∧ Reps C.Γ w xs vs ∧ m xs = some as ∧ ∀ bs : List (Nat × V), bs.map (·.1) = as.map (·.1) → Reps C.Γ w (as.map (·.2)) (bs.map (·.2)) → Q (setV σ bs) H
abbrev RG (X : Cx) (C : Cn) (tg : Expr) (m : T1) : Prop := PG X tg (wG C m)
abbrev RGs (X : Cx) (C : Cn) (tg : List Expr) (m : TL) : Prop := PGs X tg (wGs C m)
theorem _root_.L2.PG.imp {X : Cx} {e : Expr} {t t' : TG} (h : PG X e t) (i : ∀ v σ H Q, t' v σ H Q → t v σ H Q) : PG X e t' := ⟨fun pins s σ H v u Q I r hq => h.run pins s σ H v u Q I r (i _ _ _ _ hq)⟩
theorem _root_.L2.PGs.imp {X : Cx} {e : List Expr} {t t' : TGs} (h : PGs X e t) (i : ∀ v σ H Q, t' v σ H Q → t v σ H Q) : PGs X e t' := ⟨fun pins s σ H v u Q I r hq => h.run pins s σ H v u Q I r (i _ _ _ _ hq)⟩
def tgN (i : Nat) : T1 := fun x => some [(i, x)]
theorem rg_name {i : Nat} {x : Str} (hN : X.N.Nodup) (hi : X.N[i]? = some x) (hx : L2.Loc X.env.scope x) (hf : X.fn x = true ∨ X.env.scope.names.lookup x = some .local := by first | exact .inl rfl | exact .inr rfl | assumption) : RG X C (.Name x pos) (tgN i) :=
  (pg_name hN hi hx hf).imp fun v σ H Q ⟨L, w, p, x, as, S, r, e, h⟩ => by
    cases e
    exact h [(i, v)] rfl ⟨v, [], rfl, r, rfl⟩
def tgNil : TL := fun xs => match xs with
  | [] => some []
  | _ => none
def tgCons (g : T1) (gs : TL) : TL := fun xs => match xs with
  | x :: r => match g x with
    | some as => match gs r with
      | some bs => some (as ++ bs)
      | none => none
    | none => none
  | [] => none
theorem rgs_nil : RGs X C [] tgNil := pgs_nil.imp fun v σ H Q ⟨L, w, p, xs, as, S, r, e, h⟩ => by
  cases xs with
  | nil =>
    cases e
    exact ⟨r, h [] rfl rfl⟩
  | cons _ _ => cases e
theorem rgs_cons {e : Expr} {es : List Expr} {g : T1} {gs : TL} (h1 : RG X C e g) (h2 : RGs X C es gs) (hs : (assignEach (e :: es) X.env).map (·.2) = assign e X.env :: (assignEach es X.env).map (·.2) := by rfl) : RGs X C (e :: es) (tgCons g gs) :=
  (pgs_cons h1 h2 hs).imp fun v σ H Q ⟨L, w, p, xs, as, S, r, e, h⟩ => by
    cases xs with
    | nil => cases e
    | cons x xs =>
      obtain ⟨u, us, e1, r1, r2⟩ := r
      refine ⟨u, us, e1, ?_⟩
      unfold tgCons at e
      dsimp only at e
      cases e2 : g x with
      | none =>
        rw [e2] at e
        cases e
      | some as1 =>
        cases e3 : gs xs with
        | none =>
          rw [e2, e3] at e
          cases e
        | some as2 =>
          rw [e2, e3] at e
          cases e
          refine ⟨L, w, p, x, as1, S, r1, e2, fun bs1 f1 q1 => ⟨L, w, p, xs, as2, S, r2, e3, fun bs2 f2 q2 => ?_⟩⟩
          rw [← setV_append]
          refine h _ ?_ ?_
          · rw [List.map_append, List.map_append, f1, f2]
          · rw [List.map_append, List.map_append]
            exact q1.append q2
def tgT (n : Nat) (gs : TL) : T1 := fun x => match x with
  | .tup xs => if xs.length = n then gs xs else none
  | _ => none
theorem rg_tup {es : List Expr} {k : Nat} {gs : TL} {n : Nat} (hc : X.calm = true) (hK : X.K = C.Γ.K) (h : RGs X C es gs) (hn : (assignEach es X.env).length = n := by rfl) (hst : (assignEach es X.env).findIdx? (·.1) = none := by rfl) : RG X C (.Tuple es k pos) (tgT n gs) :=
  (pg_tup hc h hn hst).imp fun v σ H Q ⟨L, w, p, x, as, S, r, e, h⟩ => by
    cases x with
    | tup xs =>
      obtain ⟨a, vs, e1, q, r⟩ := r
      unfold tgT at e
      dsimp only at e
      split at e
      · rename_i hl
        exact ⟨a, vs, e1, by rw [hK]; exact seqT_mono S.sub q, by rw [← r.length]; exact hl, L, w, p, xs, as, S, r, e, h⟩
      · cases e
    | _ => cases e
def sAsg (a : M PV) (g : T1) : S := fun en p => (a en p).run en fun x p1 => match g x with
  | some as => .next (en.sets as) p1
  | none => .stuck
theorem rs_asg {tg e : Expr} {a : M PV} {g : T1} (ha : RE X C e a) (hg : RG X C tg g) (h1 : swapsWithSole [tg] e pos.line X.env = pure false := by rfl) (h2 : swappedStores [tg] e X.env = pure none := by rfl)
    (h3 : (assignEach [tg] X.env).map (·.2) = [assign tg X.env] := by rfl) : RS X C (.Assign [tg] e pos) (sAsg a g) := (ps_asg ha hg h1 h2 h3).imp fun D σ H ⟨L, w, p, en, S, E, h⟩ => by
  refine ⟨L, w, p, en, S, E, h.run E fun x p1 w1 H1 v l1 S1 r1 h1 => ?_⟩
  split at h1
  · rename_i as e1
    exact ⟨L, w1, p1, x, as, S1, r1, e1, fun bs f q => h1 w1 H1 _ (Wd.le.refl w1) S1 ((E.mono l1).sets f q)⟩
  · exact h1.elim
def sSet (a : M PV) (i : Nat) : S := fun en p => (a en p).run en fun x p1 => .next (en.set i x) p1
theorem rs_set {i : Nat} {x : Str} {e : Expr} {a : M PV} {pos' : Pos} (hN : X.N.Nodup) (hi : X.N[i]? = some x) (hx : L2.Loc X.env.scope x) (ha : RE X C e a) (h1 : swapsWith e (some (.Name x pos')) pos.line X.env = pure false := by rfl)
    (hf : X.fn x = true ∨ X.env.scope.names.lookup x = some .local := by first | exact .inl rfl | exact .inr rfl | assumption) : RS X C (.Assign [.Name x pos'] e pos) (sSet a i) := (ps_set hN hi hx ha h1 hf).imp fun D σ H ⟨L, w, p, en, S, E, h⟩ => by
  refine ⟨L, w, p, en, S, E, h.run E fun x p1 w1 H1 v l1 S1 r1 h1 => ?_⟩
  exact h1 w1 H1 _ (Wd.le.refl w1) S1 ((E.mono l1).set r1)
def sPar (i j : Nat) (a : M (List PV)) : S := fun en p => (a en p).run en fun xs p1 => match xs with
  | [x, y] => .next ((en.set i x).set j y) p1
  | _ => .stuck
theorem rs_par {i j : Nat} {x y : Str} {a b : Expr} {ma : M (List PV)} {px py pt : Pos} {kt k2 : Nat} {pt2 : Pos} (hc : X.calm = true) (hN : X.N.Nodup) (hi : X.N[i]? = some x) (hj : X.N[j]? = some y) (hij : i ≠ j) (lx : X.env.scope.names.lookup x = some .local) (ly : X.env.scope.names.lookup y = some .local)
    (ha : RA X C [a, b] ma) (h1 : swappedStores [.Tuple [.Name x px, .Name y py] kt pt] (.Tuple [a, b] k2 pt2) X.env = pure (some [x, y]))
    (h2 : swapsWithSole [.Tuple [.Name x px, .Name y py] kt pt] (.Tuple [a, b] k2 pt2) pos.line X.env = pure false := by rfl) : RS X C (.Assign [.Tuple [.Name x px, .Name y py] kt pt] (.Tuple [a, b] k2 pt2) pos) (sPar i j ma) :=
  (ps_par hc hN hi hj hij lx ly ha.pa h1 h2).imp fun D σ H ⟨L, w, p, en, S, E, h⟩ => by
    refine ⟨L, w, p, en, S, E, h.run E fun xs p1 w1 H1 vs l1 S1 r1 h1 => ?_⟩
    split at h1
    · rename_i x y
      obtain ⟨v, r, rfl, rx, r⟩ := r1
      obtain ⟨u, r', rfl, ry, r⟩ := r
      obtain rfl : r' = [] := r
      exact ⟨v, u, rfl, h1 w1 H1 _ (Wd.le.refl w1) S1 (((E.mono l1).set rx).set ry)⟩
    · exact h1.elim
end
end R
namespace R
open PySem L2
theorem OpR.or {X : Cx} {f : Value → Value → Sem Value} {r r' : R2} (h : OpR X f r) (h' : OpR X f r') : OpR X f (fun x y H Q => r x y H Q ∨ r' x y H Q) := fun pins s σ H x y v u Q I rx ry q => by
  rcases q with q | q
  · exact h pins s σ H x y v u Q I rx ry q
  · exact h' pins s σ H x y v u Q I rx ry q
theorem CallR.or {X : Cx} {f : Value} {r r' : List V → Hp → VK → Prop} (h : CallR X f r) (h' : CallR X f r') : CallR X f (fun xs H Q => r xs H Q ∨ r' xs H Q) := fun pins s σ H xs us Q I rx q => by
  rcases q with q | q
  · exact h pins s σ H xs us Q I rx q
  · exact h' pins s σ H xs us Q I rx q
def getL (p : Pool) : PV → Option (List PV)
  | .lst xs => some xs
  | .own k => match p[k]? with
    | some (.lst xs) => some xs
    | _ => none
  | _ => none
def getR (p : Pool) : PV → Option (List PV)
  | .scr ns => some (ns.map .int)
  | x => getL p x
def getQ (p : Pool) : PV → Option (List PV)
  | .tup xs => some xs
  | x => getR p x
section
variable {Γ : Cfg} {L : Lv} {w : Wd} {p : Pool} {H : Hp}
theorem Rep.ownH (S : SimP Γ L w p H) {k : Nat} {v : V} {xs : List PV} (r : Rep Γ w (.own k) v) (e : p[k]? = some (.lst xs)) : ∃ a vs, v = .ref a ∧ w.ρ[k]? = some a ∧ w.G a = none ∧ H a = some (.lst vs) ∧ Reps Γ (w.low (L.lo k)) xs vs := by
  obtain ⟨a, ha, rfl⟩ := r
  obtain ⟨b, hb, hc⟩ := S.at e
  rw [ha] at hb
  cases hb
  obtain ⟨g, vs, eH, r⟩ := hc
  rw [Wd.low_G] at g
  exact ⟨a, vs, rfl, ha, g, eH, r⟩
theorem getL_at (S : SimP Γ L w p H) {x : PV} {v : V} {xs : List PV} (r : Rep Γ w x v) (e : getL p x = some xs) : ∃ a vs, v = .ref a ∧ H a = some (.lst vs) ∧ Reps Γ w xs vs := by
  cases x with
  | lst ys =>
    cases e
    obtain ⟨a, vs, ev, q, r⟩ := r
    exact ⟨a, vs, ev, S.sub _ _ q, r⟩
  | own k =>
    unfold getL at e
    dsimp only at e
    split at e
    · rename_i ys ey
      cases e
      obtain ⟨a, vs, ev, _, _, eH, r⟩ := Rep.ownH S r ey
      exact ⟨a, vs, ev, eH, r.mono (w.low_le _)⟩
    · cases e
  | _ => cases e
theorem getR_ok (S : SimP Γ L w p H) {x : PV} {v : V} {xs : List PV} (r : Rep Γ w x v) (e : getR p x = some xs) : ∃ a vs, v = .ref a ∧ SqL Γ.K H a vs ∧ Reps Γ w xs vs := by
  cases x with
  | scr ns =>
    cases e
    obtain ⟨a, ev, q⟩ := r
    exact ⟨a, _, ev, seqL_mono S.sub q, Reps.ints⟩
  | _ =>
    obtain ⟨a, vs, ev, q, r⟩ := getL_at S r e
    exact ⟨a, vs, ev, .inl (.inl q), r⟩
theorem getQ_ok (S : SimP Γ L w p H) {x : PV} {v : V} {xs : List PV} (r : Rep Γ w x v) (e : getQ p x = some xs) : ∃ a vs, v = .ref a ∧ (SqL Γ.K H a vs ∨ SqT Γ.K H a vs) ∧ Reps Γ w xs vs := by
  cases x with
  | tup ys =>
    cases e
    obtain ⟨a, vs, ev, q, r⟩ := r
    exact ⟨a, vs, ev, .inr (seqT_mono S.sub q), r⟩
  | _ =>
    obtain ⟨a, vs, ev, q, r⟩ := getR_ok S r e
    exact ⟨a, vs, ev, .inl q, r⟩
end
section
variable {X : Cx} {C : Cn} {pos : Pos}
def f2I (g : Int → Int → PV) : F2 := fun x y p => match x, y with
  | .int i, .int j => .ok (g i j) p
  | _, _ => .stuck
def f2C (c : Int → Int → Bool) (g : Int → Int → PV) : F2 := fun x y p => match x, y with
  | .int i, .int j => if c i j = true then .ok (g i j) p else .stuck
  | _, _ => .stuck
theorem ref_I0 {g : Int → Int → PV} {h : Int → Int → V} (e : ∀ w i j, Rep C.Γ w (g i j) (h i j)) : RefO C (rI0 h) (f2I g) := fun L w p H σ x y vx vy Q S rx ry q => by
  unfold f2I at q
  split at q
  · rename_i i j
    exact ⟨i, j, rx, ry, q.ok S (e w i j)⟩
  · exact q.elim
theorem ref_I {c : Int → Int → Bool} {P : Int → Int → Prop} {g : Int → Int → PV} {h : Int → Int → V} (e : ∀ w i j, Rep C.Γ w (g i j) (h i j)) (hc : ∀ i j, c i j = true → P i j) : RefO C (rI P h) (f2C c g) := fun L w p H σ x y vx vy Q S rx ry q => by
  unfold f2C at q
  split at q
  · rename_i i j
    split at q
    · rename_i hh
      exact ⟨i, j, rx, ry, hc i j hh, q.ok S (e w i j)⟩
    · exact q.elim
  · exact q.elim
def pSub : F2 := f2I fun i j => .int (i - j)
theorem ref_sub : RefO C (rI0 fun i j => .int (i - j)) pSub := ref_I0 fun _ _ _ => rfl
def pLt : F2 := f2I fun i j => .bl (decide (i < j))
def pLe : F2 := f2I fun i j => .bl (decide (i ≤ j))
def pGt : F2 := f2I fun i j => .bl (decide (j < i))
def pGe : F2 := f2I fun i j => .bl (decide (j ≤ i))
def okMod (i j : Int) : Bool := decide (j ≠ 0)
def pMod : F2 := f2C okMod fun i j => .int (i.fmod j)
theorem ref_mod : RefO C (rI (fun i j => j ≠ 0) fun i j => .int (i.fmod j)) pMod := ref_I (fun _ _ _ => rfl) fun i j h => of_decide_eq_true h
def okDiv (i j : Int) : Bool := decide (j ≠ 0 ∧ (j.natAbs < 1073741824 ∨ (0 < j ∧ j.natAbs.log2 < 9000)))
def pDiv : F2 := f2C okDiv fun i j => .int (i.fdiv j)
def rDiv : R2 := fun x y H Q => rI CDivN (fun i j => .int (i.fdiv j)) x y H Q ∨ rI CDivW (fun i j => .int (i / j)) x y H Q
theorem op_div : OpR X (binaryOp .FloorDiv) rDiv := OpR.or op_fdivN op_fdivW
theorem ref_div : RefO C rDiv pDiv := fun L w p H σ x y vx vy Q S rx ry q => by
  unfold pDiv f2C at q
  split at q
  · rename_i i j
    split at q
    · rename_i hh
      obtain ⟨h0, h1 | ⟨h1, h2⟩⟩ := of_decide_eq_true hh
      · exact .inl ⟨i, j, rx, ry, ⟨h0, h1⟩, q.ok S rfl⟩
      · refine .inr ⟨i, j, rx, ry, ⟨h1, h2⟩, ?_⟩
        have e : i / j = i.fdiv j := (Int.fdiv_eq_ediv_of_nonneg i (by omega)).symm
        show Q (V.int (i / j)) H
        rw [e]
        exact q.ok S rfl
    · exact q.elim
  · exact q.elim
def okPow (i j : Int) : Bool := decide (0 ≤ j ∧ j ≤ 1000000 ∧ i.natAbs < 2 ^ 64)
def pPow : F2 := f2C okPow fun i j => .int (i ^ j.toNat)
theorem ref_pow : RefO C (rI CPow fun i j => .int (i ^ j.toNat)) pPow := ref_I (fun _ _ _ => rfl) fun i j h => show 0 ≤ j ∧ j ≤ 1000000 ∧ i.natAbs < 2 ^ 64 from of_decide_eq_true h
def rAdd : R2 := fun x y H Q => rI0 (fun i j => .int (i + j)) x y H Q ∨ (rCatA C.Γ.K x y H Q ∨ rCat x y H Q)
theorem op_addU (hK : X.K = C.Γ.K) : OpR X (binaryOp .Add) (rAdd (C := C)) := by
  have h : OpR X (binaryOp .Add) (rCatA C.Γ.K) := hK ▸ op_catA
  exact OpR.or op_add (OpR.or h op_cat)
def pAdd : F2 := fun x y p => match x, y with
  | .int i, .int j => .ok (.int (i + j)) p
  | .tup xs, .tup ys => if xs.length + ys.length ≤ big then .ok (.tup (xs ++ ys)) p else .stuck
  | x, y => match getL p x, getL p y with
    | some xs, some ys => if xs.length + ys.length ≤ big then .ok (.lst (xs ++ ys)) p else .stuck
    | _, _ => .stuck
theorem Reps.isNil {Γ : Cfg} {w : Wd} {xs : List PV} {vs : List V} (r : Reps Γ w xs vs) : xs = [] ↔ vs = [] := by
  have h := r.length
  constructor
  · rintro rfl
    exact List.eq_nil_of_length_eq_zero h.symm
  · rintro rfl
    exact List.eq_nil_of_length_eq_zero h
theorem ref_add : RefO C (rAdd (C := C)) pAdd := fun L w p H σ x y vx vy Q S rx ry q => by
  unfold pAdd at q
  split at q
  · rename_i i j
    exact .inl ⟨i, j, rx, ry, q.ok S rfl⟩
  · rename_i xs ys
    split at q
    · rename_i hl
      obtain ⟨a, vs, ea, sa, ra⟩ := rx
      obtain ⟨b, us, eb, sb, rb⟩ := ry
      refine .inr (.inl ⟨a, b, vs, us, ea, eb, seqT_mono S.sub sa, seqT_mono S.sub sb, ?_, fun z => ?_, fun z1 z2 => ?_, fun _ _ => ?_⟩)
      · rw [← ra.length, ← rb.length]
        exact big_le hl
      · have e := ra.isNil.mpr z
        subst e
        rw [← eb]
        exact q.ok S ⟨b, us, eb, sb, rb⟩
      · have e := rb.isNil.mpr z2
        subst e
        rw [← ea]
        refine q.ok S ⟨a, vs, ea, sa, ?_⟩
        rw [List.append_nil]
        exact ra
      · exact newTup S (ra.append rb) q
    · exact q.elim
  · rename_i x y _ _
    split at q
    · rename_i xs ys e1 e2
      split at q
      · rename_i hl
        obtain ⟨a, vs, ea, sa, ra⟩ := getL_at S rx e1
        obtain ⟨b, us, eb, sb, rb⟩ := getL_at S ry e2
        exact .inr (.inr ⟨a, b, vs, us, ea, eb, sa, sb, by rw [← ra.length, ← rb.length]; exact big_le hl, newLst S (ra.append rb) q⟩)
      · exact q.elim
    · exact q.elim
def okMul (i j : Int) : Bool := decide (((-(2 ^ 64) < i ∧ i < 2 ^ 64) ∨ (-(2 ^ 64) < j ∧ j < 2 ^ 64)) ∨ i.natAbs.log2 + j.natAbs.log2 < 1000000)
def rMul : R2 := fun x y H Q => rI CMul (fun i j => .int (i * j)) x y H Q ∨ rI CMulW (fun i j => .int (i * j)) x y H Q ∨ rRep x y H Q
theorem op_mulU : OpR X (binaryOp .Mult) rMul := OpR.or op_mul (OpR.or op_mulW op_rep)
def times (n : Nat) (xs : List PV) : List PV := (List.replicate n xs).flatten
def pMul : F2 := fun x y p => match x, y with
  | .int i, .int j => if okMul i j = true then .ok (.int (i * j)) p else .stuck
  | x, .int k => match getL p x with
    | some xs => if k ≤ 1000 ∧ -1000 ≤ k ∧ xs.length * k.toNat ≤ big then .ok (.lst (times k.toNat xs)) p else .stuck
    | _ => .stuck
  | _, _ => .stuck
theorem Reps.times {Γ : Cfg} {w : Wd} {xs : List PV} {vs : List V} (r : Reps Γ w xs vs) : ∀ n : Nat, Reps Γ w (R.times n xs) (List.replicate n vs).flatten
  | 0 => rfl
  | n + 1 => by
    show Reps Γ w (List.replicate (n + 1) xs).flatten (List.replicate (n + 1) vs).flatten
    rw [List.replicate_succ, List.replicate_succ, List.flatten_cons, List.flatten_cons]
    exact r.append (Reps.times r n)
theorem ref_mul : RefO C rMul pMul := fun L w p H σ x y vx vy Q S rx ry q => by
  unfold pMul at q
  split at q
  · rename_i i j
    split at q
    · rename_i hh
      rcases of_decide_eq_true hh with h | h
      · exact .inl ⟨i, j, rx, ry, h, q.ok S rfl⟩
      · exact .inr (.inl ⟨i, j, rx, ry, h, q.ok S rfl⟩)
    · exact q.elim
  · rename_i k _
    split at q
    · rename_i xs e
      split at q
      · rename_i hl
        obtain ⟨a, vs, ea, sa, ra⟩ := getL_at S rx e
        exact .inr (.inr ⟨a, k, vs, ea, ry, sa, by omega, by omega, by rw [← ra.length]; exact big_le hl.2.2, newLst S (ra.times _) q⟩)
      · exact q.elim
    · exact q.elim
  · exact q.elim
mutual
def toD : PV → Option PyData
  | .non => some .none
  | .bl b => some (.bool b)
  | .int i => some (.int i)
  | .str s => some (.str s)
  | .tup xs => match toDs xs with
    | some ds => some (.tuple ds)
    | none => none
  | .lst xs => match toDs xs with
    | some ds => some (.list ds)
    | none => none
  | _ => none
def toDs : List PV → Option (List PyData)
  | [] => some []
  | x :: xs => match toD x with
    | some d => match toDs xs with
      | some ds => some (d :: ds)
      | none => none
    | none => none
end
mutual
theorem toD_ok {L : Lv} {w : Wd} {p : Pool} {H : Hp} (S : SimP C.Γ L w p H) : ∀ {x : PV} {v : V} {d : PyData}, Rep C.Γ w x v → toD x = some d → Dp C.Γ.K H v d
  | .non, v, d, r, e => by
    cases e
    cases r
    exact .non
  | .bl b, v, d, r, e => by
    cases e
    cases r
    exact .bl _
  | .int i, v, d, r, e => by
    cases e
    cases r
    exact .int _
  | .str s, v, d, r, e => by
    cases e
    cases r
    exact .str _
  | .tup xs, v, d, r, e => by
    obtain ⟨a, vs, rfl, q, r⟩ := r
    unfold toD at e
    split at e
    · rename_i ds ed
      cases e
      exact .tup (seqT_mono S.sub q) (toDs_ok S r ed)
    · cases e
  | .lst xs, v, d, r, e => by
    obtain ⟨a, vs, rfl, q, r⟩ := r
    unfold toD at e
    split at e
    · rename_i ds ed
      cases e
      exact .lst (.inl (.inl (S.sub _ _ q))) (toDs_ok S r ed)
    · cases e
  | .obj _ _, _, _, _, e => by cases e
  | .own _, _, _, _, e => by cases e
  | .scr _, _, _, _, e => by cases e
  | .xs _ _, _, _, _, e => by cases e
  | .xv _ _, _, _, _, e => by cases e
  | .fn _, _, _, _, e => by cases e
  | .dct, _, _, _, e => by cases e
  | .adr _, _, _, _, e => by cases e
  | .clo _ _, _, _, _, e => by cases e
theorem toDs_ok {L : Lv} {w : Wd} {p : Pool} {H : Hp} (S : SimP C.Γ L w p H) : ∀ {xs : List PV} {vs : List V} {ds : List PyData}, Reps C.Γ w xs vs → toDs xs = some ds → DpAll C.Γ.K H vs ds
  | [], vs, ds, r, e => by
    cases e
    cases r
    exact .nil
  | x :: xs, vs, ds, r, e => by
    obtain ⟨v, us, rfl, r1, r2⟩ := r
    unfold toDs at e
    split at e
    · rename_i d ed
      split at e
      · rename_i zs ez
        cases e
        exact .cons (toD_ok S r1 ed) (toDs_ok S r2 ez)
      · cases e
    · cases e
end
def eqD (x y : PV) : Option Bool := match toD x, toD y with
  | some d, some e => if SeqAt.shaped d = true ∧ SeqAt.shaped e = true then some (PyData.eqv d e) else none
  | _, _ => none
def pEq : F2 := fun x y p => match eqD x y with
  | some b => .ok (.bl b) p
  | none => .stuck
def pNe : F2 := fun x y p => match eqD x y with
  | some b => .ok (.bl (!b)) p
  | none => .stuck
theorem ref_eq : RefO C (rEqD C.Γ.K) pEq := fun L w p H σ x y vx vy Q S rx ry q => by
  unfold pEq eqD at q
  cases e1 : toD x with
  | none =>
    rw [e1] at q
    exact q.elim
  | some d =>
    cases e2 : toD y with
    | none =>
      rw [e1, e2] at q
      exact q.elim
    | some e =>
      rw [e1, e2] at q
      dsimp only at q
      by_cases hs : SeqAt.shaped d = true ∧ SeqAt.shaped e = true
      · rw [if_pos hs] at q
        exact ⟨d, e, toD_ok S rx e1, toD_ok S ry e2, hs.1, hs.2, q.ok S rfl⟩
      · rw [if_neg hs] at q
        exact q.elim
theorem ref_ne : RefO C (rNeD C.Γ.K) pNe := fun L w p H σ x y vx vy Q S rx ry q => by
  unfold pNe eqD at q
  cases e1 : toD x with
  | none =>
    rw [e1] at q
    exact q.elim
  | some d =>
    cases e2 : toD y with
    | none =>
      rw [e1, e2] at q
      exact q.elim
    | some e =>
      rw [e1, e2] at q
      dsimp only at q
      by_cases hs : SeqAt.shaped d = true ∧ SeqAt.shaped e = true
      · rw [if_pos hs] at q
        exact ⟨d, e, toD_ok S rx e1, toD_ok S ry e2, hs.1, hs.2, q.ok S rfl⟩
      · rw [if_neg hs] at q
        exact q.elim
def isNon : PV → Bool
  | .non => true
  | _ => false
theorem isNon_ok {Γ : Cfg} {w : Wd} {x : PV} {v : V} (r : Rep Γ w x v) : decide (v = .non) = isNon x := by
  cases x with
  | non =>
    cases r
    rfl
  | bl b =>
    cases r
    rfl
  | int i =>
    cases r
    rfl
  | str s =>
    cases r
    rfl
  | tup xs =>
    obtain ⟨a, vs, rfl, _⟩ := r
    rfl
  | lst xs =>
    obtain ⟨a, vs, rfl, _⟩ := r
    rfl
  | obj c xs =>
    obtain ⟨a, dx, vs, rfl, _⟩ := r
    rfl
  | own k =>
    obtain ⟨a, _, rfl⟩ := r
    rfl
  | scr ns =>
    obtain ⟨a, rfl, _⟩ := r
    rfl
  | xs c t =>
    obtain ⟨a, t1, rfl, _⟩ := r
    rfl
  | xv c x =>
    obtain ⟨a, d, u, rfl, _⟩ := r
    rfl
  | fn k =>
    have r : v = V.ref (Γ.cls k) := r
    subst r
    rfl
  | dct =>
    obtain ⟨a, rfl, _⟩ := r
    rfl
  | adr a =>
    obtain ⟨rfl, _⟩ := r
    rfl
  | clo i x =>
    obtain ⟨_, f, _, _, _, _, rfl, _⟩ := r
    rfl
theorem ref_isN : RefO C (fun x y H Q => y = V.non ∧ Q (V.bl (decide (x = V.non))) H) (fun x y p => match y with
  | .non => .ok (.bl (isNon x)) p
  | _ => .stuck) := fun L w p H σ x y vx vy Q S rx ry q => by
  cases y with
  | non =>
    cases ry
    exact ⟨rfl, by rw [isNon_ok rx]; exact q.ok S rfl⟩
  | _ => exact q.elim
theorem atI_rep {Γ : Cfg} {w : Wd} {xs : List PV} {vs : List V} (r : Reps Γ w xs vs) {i : Int} {x : PV} (h : atI xs i = some x) : ∃ v, atI vs i = some v ∧ Rep Γ w x v := by
  unfold atI at h ⊢
  rw [← r.length]
  cases e : ixN xs.length i with
  | none =>
    rw [e] at h
    cases h
  | some j =>
    rw [e] at h
    exact r.get h
def pIx : F2 := fun x y p => match y with
  | .int i => match getQ p x with
    | some xs => match atI xs i with
      | some z => .ok z p
      | none => .stuck
    | none => .stuck
  | _ => .stuck
theorem ref_ix : RefO C (rIx C.Γ.K) pIx := fun L w p H σ x y vx vy Q S rx ry q => by
  unfold pIx at q
  split at q
  · rename_i i
    split at q
    · rename_i xs e
      split at q
      · rename_i z ez
        obtain ⟨a, vs, rfl, h, r⟩ := getQ_ok S rx e
        obtain ⟨v, ev, rv⟩ := atI_rep r ez
        rcases h with h | h
        · exact .inl ⟨a, vs, i, v, rfl, ry, h, ev, q.ok S rv⟩
        · exact .inr (.inl ⟨a, vs, i, v, rfl, ry, h, ev, q.ok S rv⟩)
      · exact q.elim
    · exact q.elim
  · exact q.elim
theorem re_ix {a b : Expr} {ma mb : M PV} (hK : X.K = C.Γ.K) (ha : RE X C a ma) (hb : RE X C b mb) (hp : PlainIx b := by exact fun _ _ => rfl) : RE X C (.Subscript a b pos) (mBin pIx ma mb) := by
  have h : IxR X (rIx C.Γ.K) := hK ▸ ix_seq
  exact (pe_ix h ha hb hp).imp (wE_op ref_ix)
def cut (xs : List PV) (lo hi : Option Int) : List PV := (xs.drop (HT.sIx xs.length 0 lo)).take (HT.sIx xs.length xs.length hi - HT.sIx xs.length 0 lo)
theorem cut_rep {Γ : Cfg} {w : Wd} {xs : List PV} {vs : List V} (r : Reps Γ w xs vs) (lo hi : Option Int) : Reps Γ w (cut xs lo hi) (cutV vs lo hi) := by
  unfold cut cutV
  rw [← r.length]
  exact (r.drop _).take _
def wO (C : Cn) (m : M (Option Int)) : TO := fun σ H Q => ∃ L w p en, SimP C.Γ L w p H ∧ EnR C L w en σ ∧ Post C L w σ (fun _ (a b : Option Int) => a = b) (m en p) Q
theorem _root_.L2.PO.imp {X : Cx} {e : Option Expr} {t t' : TO} (h : PO X e t) (i : ∀ σ H Q, t' σ H Q → t σ H Q) : PO X e t' := ⟨fun pins s σ H Q I hq => h.run pins s σ H Q I (i _ _ _ hq)⟩
def oNo : M (Option Int) := fun _ p => .ok none p
def oYes (a : M PV) : M (Option Int) := fun en p => (a en p).bind fun x p1 => match x with
  | .int i => .ok (some i) p1
  | _ => .stuck
abbrev RO (X : Cx) (C : Cn) (e : Option Expr) (m : M (Option Int)) : Prop := PO X e (wO C m)
theorem ro_none : RO X C none oNo := po_none.imp fun σ H Q ⟨L, w, p, en, S, E, h⟩ => h.ok S rfl
theorem ro_some {e : Expr} {a : M PV} (h : RE X C e a) : RO X C (some e) (oYes a) := (po_some h).imp fun σ H Q ⟨L, w, p, en, S, E, h⟩ => by
  refine ⟨L, w, p, en, S, E, h.bind fun x p1 w1 H1 v l1 S1 r1 h1 => ?_⟩
  cases x with
  | int i => exact ⟨i, r1, h1.ok S1 rfl⟩
  | _ => exact h1.elim
def mSl (a : M PV) (lo hi : M (Option Int)) : M PV := fun en p => (a en p).bind fun x p1 => (lo en p1).bind fun l p2 => (hi en p2).bind fun h p3 => match x with
  | .tup xs => .ok (.tup (cut xs l h)) p3
  | x => match getR p3 x with
    | some xs => .ok (.lst (cut xs l h)) p3
    | none => .stuck
theorem HT_whole {n : Nat} {lo hi : Option Int} {xs : List PV} (hn : xs.length = n) (h1 : HT.sIx n 0 lo = 0) (h2 : HT.sIx n n hi = n) : cut xs lo hi = xs := by
  subst hn
  unfold cut
  rw [h1, h2, List.drop_zero, Nat.sub_zero, List.take_length]
theorem re_sl {e : Expr} {lo hi : Option Expr} {a : M PV} {ml mh : M (Option Int)} {p2 : Pos} (hK : X.K = C.Γ.K) (ha : RE X C e a) (hl : RO X C lo ml) (hh : RO X C hi mh) : RE X C (.Subscript e (.Slice lo hi none p2) pos) (mSl a ml mh) := by
  have h1 : SlR X (rSlL C.Γ.K) := hK ▸ sl_list
  have h2 : SlR X (rSlA C.Γ.K) := hK ▸ sl_tupA
  refine (pe_slice (h1.or h2) ha hl hh).imp fun σ H Q ⟨L, w, p, en, S, E, h⟩ => ?_
  refine ⟨L, w, p, en, S, E, h.bind fun x p1 w1 H1 v l1 S1 r1 h1 => ?_⟩
  refine ⟨L, w1, p1, en, S1, E.mono l1, h1.bind fun lo p2 w2 H2 lo' l2 S2 r2 h2 => ?_⟩
  cases r2
  refine ⟨L, w2, p2, en, S2, E.mono (l1.trans l2), h2.bind fun hi p3 w3 H3 hi' l3 S3 r3 h3 => ?_⟩
  cases r3
  have r1 := (r1.mono l2).mono l3
  split at h3
  · rename_i xs
    obtain ⟨b, vs, eb, hq, rr⟩ := r1
    refine .inr ⟨b, vs, eb, seqT_mono S3.sub hq, fun z => ?_, fun _ => newTup S3 (cut_rep rr lo hi) h3⟩
    refine h3.ok S3 ?_
    rw [HT_whole rr.length z.1 z.2]
    exact ⟨b, vs, rfl, hq, rr⟩
  · rename_i x _
    split at h3
    · rename_i xs ex
      obtain ⟨b, vs, eb, hq, rr⟩ := getR_ok S3 r1 ex
      exact .inl ⟨b, vs, eb, hq, newLst S3 (cut_rep rr lo hi) h3⟩
    · exact h3.elim
end
end R
namespace R
open PySem L2
mutual
def bel (n : Nat) : PV → Bool
  | .tup xs => bels n xs
  | .lst xs => bels n xs
  | .obj _ xs => bels n xs
  | .own k => decide (k < n)
  | .xv _ x => bel n x
  | .clo _ x => bel n x
  | _ => true
def bels (n : Nat) : List PV → Bool
  | [] => true
  | x :: xs => bel n x && bels n xs
end
mutual
theorem Rep.below {Γ : Cfg} {w : Wd} {n : Nat} : ∀ {x : PV} {v : V}, Rep Γ w x v → bel n x = true → Rep Γ ⟨w.G, w.ρ.take n⟩ x v
  | .non, _, h, _ => h
  | .bl _, _, h, _ => h
  | .int _, _, h, _ => h
  | .str _, _, h, _ => h
  | .tup xs, v, h, e => by
    obtain ⟨a, vs, ev, s, r⟩ := h
    exact ⟨a, vs, ev, s, Reps.below r e⟩
  | .lst xs, v, h, e => by
    obtain ⟨a, vs, ev, s, r⟩ := h
    exact ⟨a, vs, ev, s, Reps.below r e⟩
  | .obj c xs, v, h, e => by
    obtain ⟨a, dx, vs, ev, g, d, m, r⟩ := h
    exact ⟨a, dx, vs, ev, g, d, m, Reps.below r e⟩
  | .own k, v, h, e => by
    obtain ⟨a, ha, ev⟩ := h
    refine ⟨a, ?_, ev⟩
    show (w.ρ.take n)[k]? = some a
    rw [List.getElem?_take_of_lt (of_decide_eq_true e)]
    exact ha
  | .scr ns, v, h, _ => h
  | .xs c t, v, h, _ => h
  | .xv c x, v, h, e => by
    obtain ⟨a, d, u, ev, g, g2, r⟩ := h
    exact ⟨a, d, u, ev, g, g2, Rep.below r e⟩
  | .fn _, _, h, _ => h
  | .dct, _, h, _ => h
  | .adr _, _, h, _ => h
  | .clo i x, v, h, e => by
    obtain ⟨L, f, c, c', u, vx, ev, hL, g1, g2, g3, r, hx⟩ := h
    exact ⟨L, f, c, c', u, vx, ev, hL, g1, g2, g3, r, Rep.below hx e⟩
theorem Reps.below {Γ : Cfg} {w : Wd} {n : Nat} : ∀ {xs : List PV} {vs : List V}, Reps Γ w xs vs → bels n xs = true → Reps Γ ⟨w.G, w.ρ.take n⟩ xs vs
  | [], _, h, _ => h
  | x :: xs, vs, h, e => by
    obtain ⟨v, r, ev, h1, h2⟩ := h
    unfold bels at e
    rw [Bool.and_eq_true] at e
    exact ⟨v, r, ev, Rep.below h1 e.1, Reps.below h2 e.2⟩
end
mutual
theorem bel_mono {m n : Nat} (h : m ≤ n) : ∀ {x : PV}, bel m x = true → bel n x = true
  | .non, _ => rfl
  | .bl _, _ => rfl
  | .int _, _ => rfl
  | .str _, _ => rfl
  | .tup xs, e => bels_mono h (xs := xs) e
  | .lst xs, e => bels_mono h (xs := xs) e
  | .obj c xs, e => bels_mono h (xs := xs) e
  | .own k, e => decide_eq_true (Nat.lt_of_lt_of_le (of_decide_eq_true e) h)
  | .scr _, _ => rfl
  | .xs _ _, _ => rfl
  | .xv _ x, e => bel_mono h (x := x) e
  | .fn _, _ => rfl
  | .dct, _ => rfl
  | .adr _, _ => rfl
  | .clo _ x, e => bel_mono h (x := x) e
theorem bels_mono {m n : Nat} (h : m ≤ n) : ∀ {xs : List PV}, bels m xs = true → bels n xs = true
  | [], _ => rfl
  | x :: xs, e => by
    unfold bels at e ⊢
    rw [Bool.and_eq_true] at e ⊢
    exact ⟨bel_mono h e.1, bels_mono h e.2⟩
end
def may (b k : Nat) (x : PV) : Bool := decide (b ≤ k) || bel 0 x
theorem may_rep {Γ : Cfg} {L : Lv} {w : Wd} {p : Pool} {H : Hp} (S : SimP Γ L w p H) {k : Nat} {x : PV} {v : V} (r : Rep Γ w x v) (h : may L.b k x = true) : Rep Γ (w.low (L.lo k)) x v := by
  unfold may at h
  rw [Bool.or_eq_true] at h
  rcases h with h | h
  · rw [S.hlo k (of_decide_eq_true h)]
    exact r
  · cases e : L.lo k with
    | none => exact r
    | some m => exact r.below (bel_mono (Nat.zero_le m) h)
section
variable {X : Cx} {C : Cn} {pos : Pos}
structure ClsF (K : PySem.W.Frag) (Γ : Cfg) (c : Nat) : Prop where
  cls : Cls K (Γ.cls c)
  no : ∀ f ∈ Γ.fld c, NoAttr K (Γ.cls c) f
  nd : (Γ.fld c).Nodup
  few : (Γ.fld c).length < 1000
  at_ : PySem.W.findIn K (.ref (Γ.cls c)) "__class__" = some (some (.builtin "object.__class__"))
  mr : PySem.W.mroIn K (Γ.cls c) (.type "object") = some true
theorem lookup_zip {α : Type} {ns : List Str} (hn : ns.Nodup) {i : Nat} {f : Str} : ∀ {vs : List α}, ns[i]? = some f → (ns.zip vs).lookup f = vs[i]? := by
  induction ns generalizing i with
  | nil => intro vs h; simp at h
  | cons n r ih =>
    intro vs h
    cases vs with
    | nil => simp
    | cons v vs =>
      cases i with
      | zero =>
        have e : n = f := by simpa using h
        subst e
        simp [List.lookup]
      | succ i =>
        have h' : r[i]? = some f := by simpa using h
        have ne : f ≠ n := fun z => (List.nodup_cons.mp hn).1 (z ▸ List.mem_of_getElem? h')
        rw [List.zip_cons_cons, List.lookup_cons, show (f == n) = false from beq_eq_false_iff_ne.mpr ne]
        simp only [List.getElem?_cons_succ]
        exact ih (List.nodup_cons.mp hn).2 h'
theorem putF_zip {ns : List Str} (hn : ns.Nodup) {i : Nat} {f : Str} {v : V} : ∀ {vs : List V}, ns[i]? = some f → i ≤ vs.length → putF f v (ns.zip vs) = ns.zip (if i < vs.length then vs.set i v else vs ++ [v]) := by
  induction ns generalizing i with
  | nil => intro vs h; simp at h
  | cons n r ih =>
    intro vs h hi
    cases vs with
    | nil =>
      have e0 : i = 0 := by simpa using hi
      subst e0
      have e : n = f := by simpa using h
      subst e
      cases r <;> simp [putF]
    | cons u vs =>
      cases i with
      | zero =>
        have e : n = f := by simpa using h
        subst e
        simp [putF]
      | succ i =>
        have h' : r[i]? = some f := by simpa using h
        have ne : n ≠ f := fun z => (List.nodup_cons.mp hn).1 (z ▸ List.mem_of_getElem? h')
        have ih' := ih (List.nodup_cons.mp hn).2 (vs := vs) h' (by simpa using hi)
        rw [List.zip_cons_cons]
        show (if n = f then _ else (n, u) :: putF f v (r.zip vs)) = _
        rw [if_neg ne, ih']
        by_cases hl : i < vs.length
        · rw [if_pos hl, if_pos (by simpa using hl)]
          simp
        · rw [if_neg hl, if_neg (by simpa using hl)]
          simp
def getF (c i : Nat) (p : Pool) : PV → Option PV
  | .obj d xs => if d = c then xs[i]? else none
  | .own k => match p[k]? with
    | some (.obj d xs) => if d = c then xs[i]? else none
    | _ => none
  | _ => none
def mFld (c i : Nat) (a : M PV) : M PV := fun en p => (a en p).bind fun x p1 => match getF c i p1 x with
  | some y => .ok y p1
  | none => .stuck
theorem Rep.objH {Γ : Cfg} {L : Lv} {w : Wd} {p : Pool} {H : Hp} (S : SimP Γ L w p H) {k c : Nat} {v : V} {xs : List PV} (r : Rep Γ w (.own k) v) (e : p[k]? = some (.obj c xs)) :
    ∃ a dx vs, v = .ref a ∧ w.ρ[k]? = some a ∧ w.G a = none ∧ H a = some (.ins (Γ.cls c) dx ((Γ.fld c).zip vs)) ∧ H dx = some (.own a) ∧ w.G dx = none ∧ vs.length ≤ (Γ.fld c).length ∧ Reps Γ (w.low (L.lo k)) xs vs := by
  obtain ⟨a, ha, rfl⟩ := r
  obtain ⟨b, hb, hc⟩ := S.at e
  rw [ha] at hb
  cases hb
  obtain ⟨g, dx, vs, eH, eD, gd, hl, r⟩ := hc
  rw [Wd.low_G] at g gd
  exact ⟨a, dx, vs, rfl, ha, g, eH, eD, gd, hl, r⟩
theorem re_fld {e : Expr} {f : Str} {c i : Nat} {a : M PV} (hK : X.K = C.Γ.K) (T : ClsF C.Γ.K C.Γ c) (hf : (C.Γ.fld c)[i]? = some f) (ha : RE X C e a) (hb : attributeBase e f X.env (eval e X.env) = eval e X.env := by rfl) : RE X C (.Attribute e f pos) (mFld c i a) :=
  (pe_fld ha hb).imp fun σ H Q ⟨L, w, p, en, S, E, h⟩ => by
    refine ⟨L, w, p, en, S, E, h.bind fun x p1 w1 H1 v l1 S1 r1 h1 => ?_⟩
    have hc : Cls X.K (C.Γ.cls c) := hK ▸ T.cls
    have hn : NoAttr X.K (C.Γ.cls c) f := hK ▸ T.no f (List.mem_of_getElem? hf)
    cases x with
    | obj d xs =>
      unfold getF at h1
      dsimp only at h1
      by_cases hd : d = c
      · subst hd
        rw [if_pos rfl] at h1
        obtain ⟨a, dx, vs, ev, g, _, _, r⟩ := r1
        cases ex : xs[i]? with
        | none =>
          rw [ex] at h1
          exact h1.elim
        | some y =>
          rw [ex] at h1
          obtain ⟨u, e1, ru⟩ := r.get ex
          exact ⟨a, _, dx, _, u, ev, S1.sub _ _ g, hc, hn, by rw [lookup_zip T.nd hf]; exact e1, h1.ok S1 ru⟩
      · rw [if_neg hd] at h1
        exact h1.elim
    | own k =>
      unfold getF at h1
      dsimp only at h1
      cases ek : p1[k]? with
      | none =>
        rw [ek] at h1
        exact h1.elim
      | some cell =>
        rw [ek] at h1
        cases cell with
        | obj d xs =>
          dsimp only at h1
          by_cases hd : d = c
          · subst hd
            rw [if_pos rfl] at h1
            obtain ⟨a, dx, vs, ev, _, _, eH, _, _, _, r⟩ := Rep.objH S1 r1 ek
            cases ex : xs[i]? with
            | none =>
              rw [ex] at h1
              exact h1.elim
            | some y =>
              rw [ex] at h1
              obtain ⟨u, e1, ru⟩ := r.get ex
              exact ⟨a, _, dx, _, u, ev, eH, hc, hn, by rw [lookup_zip T.nd hf]; exact e1, h1.ok S1 (ru.mono (w1.low_le _))⟩
          · rw [if_neg hd] at h1
            exact h1.elim
        | lst _ => exact h1.elim
        | dead => exact h1.elim
        | dk _ => exact h1.elim
        | dt _ => exact h1.elim
    | _ => exact h1.elim
def putC (c i : Nat) (y : PV) : Cell → Option Cell
  | .obj d xs => if d = c ∧ i ≤ xs.length then some (.obj d (if i < xs.length then xs.set i y else xs ++ [y])) else none
  | _ => none
def sFld (c i : Nat) (o a : M PV) : S := fun en p => (a en p).run en fun y p1 => (o en p1).run en fun x p2 => match x with
  | .own k => if may en.b k y = true then match p2[k]? with
      | some cell => match putC c i y cell with
        | some cell' => .next en (p2.set k cell')
        | none => .stuck
      | none => .stuck
    else .stuck
  | _ => .stuck
theorem Reps.put {Γ : Cfg} {w : Wd} {xs : List PV} {vs : List V} {i : Nat} {y : PV} {v : V} (r : Reps Γ w xs vs) (ry : Rep Γ w y v) : Reps Γ w (if i < xs.length then xs.set i y else xs ++ [y]) (if i < vs.length then vs.set i v else vs ++ [v]) := by
  rw [← r.length]
  split
  · exact r.set ry
  · exact r.append (Reps.cons ry Reps.nil)
theorem rs_fld {o value : Expr} {f : Str} {c i : Nat} {mo a : M PV} {pos' : Pos} (hK : X.K = C.Γ.K) (T : ClsF C.Γ.K C.Γ c) (hf : (C.Γ.fld c)[i]? = some f) (ho : RE X C o mo) (ha : RE X C value a)
    (hs : swapsWith value (some (.Attribute o f pos')) pos.line X.env = pure false := by rfl) : RS X C (.Assign [.Attribute o f pos'] value pos) (sFld c i mo a) := (ps_fld ho ha hs).imp fun D σ H ⟨L, w, p, en, S, E, h⟩ => by
  refine ⟨L, w, p, en, S, E, h.run E fun y p1 w1 H1 v l1 S1 r1 h1 => ?_⟩
  refine ⟨L, w1, p1, en, S1, E.mono l1, h1.run (E.mono l1) fun x p2 w2 H2 u l2 S2 r2 h2 => ?_⟩
  split at h2
  · rename_i k
    split at h2
    · rename_i hm
      cases ek : p2[k]? with
      | none =>
        rw [ek] at h2
        exact h2.elim
      | some cell =>
        rw [ek] at h2
        dsimp only at h2
        cases cell with
        | obj d xs =>
          unfold putC at h2
          dsimp only at h2
          by_cases hd : d = c ∧ i ≤ xs.length
          · rw [if_pos hd] at h2
            obtain ⟨hd, hi⟩ := hd
            subst hd
            obtain ⟨b, dx, vs, ev, hb, g, eH, eD, gd, hl, r⟩ := Rep.objH S2 r2 ek
            have hi' : i < (C.Γ.fld d).length := (List.getElem?_eq_some_iff.mp hf).1
            have hrl := r.length
            have hz : putF f v ((C.Γ.fld d).zip vs) = (C.Γ.fld d).zip (if i < vs.length then vs.set i v else vs ++ [v]) := putF_zip T.nd hf (by rw [← hrl]; exact hi)
            have nb : dx ≠ b := fun z => by
              rw [z, eH] at eD
              cases eD
            rw [E.b] at hm
            have ry := may_rep S2 (r1.mono l2) hm
            refine ⟨b, _, dx, _, ev, eH, hK ▸ T.cls, hK ▸ T.no f (List.mem_of_getElem? hf), ?_, ?_⟩
            · rw [List.length_zip]
              have := T.few
              omega
            · rw [hz]
              refine h2 w2 _ σ (Wd.le.refl w2) (S2.write hb g ⟨by rw [Wd.low_G]; exact g, dx, _, upd_same, by rw [upd_ne nb]; exact eD, by rw [Wd.low_G]; exact gd, ?_, r.put ry⟩) ((E.mono l1).mono l2)
              split
              · rw [List.length_set]
                exact hl
              · rw [List.length_append]
                simp
                omega
          · rw [if_neg hd] at h2
            exact h2.elim
        | lst _ => exact h2.elim
        | dead => exact h2.elim
        | dk _ => exact h2.elim
        | dt _ => exact h2.elim
    · exact h2.elim
  · exact h2.elim
abbrev FC := List PV → Pool → Res PV
def mCall (f : FC) (a : M (List PV)) : M PV := fun en p => (a en p).bind fun xs p1 => f xs p1
def RefC (C : Cn) (r : List V → Hp → VK → Prop) (f : FC) : Prop := ∀ L w p H σ xs vs Q, SimP C.Γ L w p H → Reps C.Γ w xs vs → Post C L w σ (RV C) (f xs p) Q → r vs H Q
theorem wE_call {r : List V → Hp → VK → Prop} {f : FC} {a : M (List PV)} (hr : RefC C r f) : ∀ σ H Q, wE C (mCall f a) σ H Q → tCB r (wA C a) σ H Q := fun σ H Q ⟨L, w, p, en, S, E, h⟩ =>
  ⟨L, w, p, en, S, E, h.bind fun x p1 w1 H1 v l1 S1 r1 h1 => hr L w1 p1 H1 σ x v Q S1 r1 h1⟩
theorem re_callB {x : Str} {p : Pos} {e : Expr} {es : List Expr} {id : String} {r : List V → Hp → VK → Prop} {f : FC} {a : M (List PV)} (hc : CallR X (.builtin id) r) (hr : RefC C r f) (hg : Gl X x) (hm : X.mg x = none) (hv : bootBuiltins x = some (.builtin id)) (ha : RA X C (e :: es) a)
    (hn : x ≠ "__name__" := by decide) (hdb : (x == ("__debug__" : Str)) = false := by decide) (he : starEach (e :: es) X.env = (false, eval e X.env) :: starEach es X.env := by rfl) (hpl : (backTo pos (starEach es X.env)).any (·.1) = false := by rfl) :
    RE X C (.Call (.Name x p) (e :: es) [] pos) (mCall f a) := (pe_callB hc hg hm hv ha.pa hn hdb he hpl).imp (wE_call hr)
theorem re_callTy {x : Str} {p : Pos} {e : Expr} {es : List Expr} {T : String} {r : List V → Hp → VK → Prop} {f : FC} {a : M (List PV)} (hc : CallR X (.type T) r) (hr : RefC C r f) (hg : Gl X x) (hm : X.mg x = none) (hv : bootBuiltins x = some (.type T)) (ha : RA X C (e :: es) a)
    (hn : x ≠ "__name__" := by decide) (hdb : (x == ("__debug__" : Str)) = false := by decide) (he : starEach (e :: es) X.env = (false, eval e X.env) :: starEach es X.env := by rfl) (hpl : (backTo pos (starEach es X.env)).any (·.1) = false := by rfl) :
    RE X C (.Call (.Name x p) (e :: es) [] pos) (mCall f a) := (pe_callTy hc hg hm hv ha.pa hn hdb he hpl).imp (wE_call hr)
theorem reps1 {Γ : Cfg} {w : Wd} {x : PV} {vs : List V} (r : Reps Γ w [x] vs) : ∃ v, vs = [v] ∧ Rep Γ w x v := by
  obtain ⟨v, us, rfl, h, e⟩ := r
  cases e
  exact ⟨v, rfl, h⟩
theorem reps2 {Γ : Cfg} {w : Wd} {x y : PV} {vs : List V} (r : Reps Γ w [x, y] vs) : ∃ v u, vs = [v, u] ∧ Rep Γ w x v ∧ Rep Γ w y u := by
  obtain ⟨v, us, rfl, h, e⟩ := r
  obtain ⟨u, rfl, k⟩ := reps1 e
  exact ⟨v, u, rfl, h, k⟩
def cLen : FC := fun xs p => match xs with
  | [x] => match getQ p x with
    | some ys => .ok (.int ys.length) p
    | none => .stuck
  | _ => .stuck
theorem ref_len : RefC C (fun xs H Q => ∃ p ys, xs = [V.ref p] ∧ (SqL C.Γ.K H p ys ∨ SqT C.Γ.K H p ys) ∧ Q (V.int ys.length) H) cLen := fun L w p H σ xs vs Q S r q => by
  unfold cLen at q
  split at q
  · rename_i x
    obtain ⟨v, rfl, rq⟩ := reps1 r
    split at q
    · rename_i ys e
      obtain ⟨a, us, rfl, h, rr⟩ := getQ_ok S rq e
      refine ⟨a, us, rfl, h, ?_⟩
      rw [← rr.length]
      exact q.ok S rfl
    · exact q.elim
  · exact q.elim
theorem call_lenU (hK : X.K = C.Γ.K) : CallR X (.builtin "len") (fun xs H Q => ∃ p ys, xs = [V.ref p] ∧ (SqL C.Γ.K H p ys ∨ SqT C.Γ.K H p ys) ∧ Q (V.int ys.length) H) := hK ▸ call_len_seq
def cAbs : FC := fun xs p => match xs with
  | [.int i] => .ok (.int (if i < 0 then -i else i)) p
  | _ => .stuck
theorem ref_abs : RefC C (fun xs H Q => ∃ i, xs = [V.int i] ∧ Q (V.int (if i < 0 then -i else i)) H) cAbs := fun L w p H σ xs vs Q S r q => by
  unfold cAbs at q
  split at q
  · rename_i i
    obtain ⟨v, rfl, rq⟩ := reps1 r
    cases rq
    exact ⟨i, rfl, q.ok S rfl⟩
  · exact q.elim
def cMax : FC := fun xs p => match xs with
  | [.int i, .int j] => .ok (.int (if j > i then j else i)) p
  | _ => .stuck
def cMin : FC := fun xs p => match xs with
  | [.int i, .int j] => .ok (.int (if j < i then j else i)) p
  | _ => .stuck
theorem ref_min : RefC C (fun xs H Q => ∃ i j, xs = [V.int i, V.int j] ∧ Q (V.int (if j < i then j else i)) H) cMin := fun L w p H σ xs vs Q S r q => by
  unfold cMin at q
  split at q
  · rename_i i j
    obtain ⟨v, u, rfl, r1, r2⟩ := reps2 r
    cases r1
    cases r2
    exact ⟨i, j, rfl, q.ok S rfl⟩
  · exact q.elim
def cInt : FC := fun xs p => match xs with
  | [.int i] => .ok (.int i) p
  | [.bl b] => .ok (.int (if b = true then 1 else 0)) p
  | _ => .stuck
theorem ref_int : RefC C (fun xs H Q => (∃ i, xs = [V.int i] ∧ Q (V.int i) H) ∨ ∃ k, xs = [V.bl k] ∧ Q (V.int (if k = true then 1 else 0)) H) cInt := fun L w p H σ xs vs Q S r q => by
  unfold cInt at q
  split at q
  · rename_i i
    obtain ⟨v, rfl, rq⟩ := reps1 r
    cases rq
    exact .inl ⟨i, rfl, q.ok S rfl⟩
  · rename_i b
    obtain ⟨v, rfl, rq⟩ := reps1 r
    cases rq
    exact .inr ⟨b, rfl, q.ok S rfl⟩
  · exact q.elim
def cList : FC := fun xs p => match xs with
  | [x] => match getQ p x with
    | some ys => .ok (.lst ys) p
    | none => .stuck
  | _ => .stuck
def cListO : FC := fun xs p => match xs with
  | [x] => match getQ p x with
    | some ys => .ok (.own p.length) (p ++ [.lst ys])
    | none => .stuck
  | _ => .stuck
def cTuple : FC := fun xs p => match xs with
  | [.tup ys] => .ok (.tup ys) p
  | [x] => match getR p x with
    | some ys => .ok (.tup ys) p
    | none => .stuck
  | _ => .stuck
def rTuple (K : PySem.W.Frag) : List V → Hp → VK → Prop := fun xs H Q => ∃ p ys, xs = [V.ref p] ∧ ((SqL K H p ys ∧ ∀ l, H l = none → Q (V.ref l) (upd H l (.tup ys))) ∨ SqT K H p ys ∧ Q (V.ref p) H)
theorem call_tupleU (hK : X.K = C.Γ.K) : CallR X (.type "tuple") (rTuple C.Γ.K) := hK ▸ call_tuple_of
theorem ref_tuple : RefC C (rTuple C.Γ.K) cTuple := fun L w p H σ xs vs Q S r q => by
  unfold cTuple at q
  split at q
  · rename_i ys
    obtain ⟨v, rfl, rq⟩ := reps1 r
    obtain ⟨a, us, rfl, h, rr⟩ := rq
    exact ⟨a, us, rfl, .inr ⟨seqT_mono S.sub h, q.ok S ⟨a, us, rfl, h, rr⟩⟩⟩
  · rename_i x _
    obtain ⟨v, rfl, rq⟩ := reps1 r
    split at q
    · rename_i ys e
      obtain ⟨a, us, rfl, h, rr⟩ := getR_ok S rq e
      exact ⟨a, us, rfl, .inl ⟨h, newTup S rr q⟩⟩
    · exact q.elim
  · exact q.elim
def bls : List PV → Option (List Bool)
  | [] => some []
  | .bl b :: r => match bls r with
    | some bs => some (b :: bs)
    | none => none
  | _ => none
def its : List PV → Option (List Int)
  | [] => some []
  | .int i :: r => match its r with
    | some is => some (i :: is)
    | none => none
  | _ => none
theorem bls_ok {Γ : Cfg} {w : Wd} : ∀ {xs : List PV} {vs : List V} {bs : List Bool}, Reps Γ w xs vs → bls xs = some bs → vs = bs.map V.bl
  | [], vs, bs, r, e => by
    cases e
    exact r
  | x :: xs, vs, bs, r, e => by
    obtain ⟨v, us, rfl, r1, r2⟩ := r
    cases x with
    | bl b =>
      unfold bls at e
      cases eb : bls xs with
      | none =>
        rw [eb] at e
        cases e
      | some cs =>
        rw [eb] at e
        cases e
        rw [bls_ok r2 eb, show v = V.bl b from r1]
        rfl
    | _ => cases e
theorem its_ok {Γ : Cfg} {w : Wd} : ∀ {xs : List PV} {vs : List V} {bs : List Int}, Reps Γ w xs vs → its xs = some bs → vs = bs.map V.int
  | [], vs, bs, r, e => by
    cases e
    exact r
  | x :: xs, vs, bs, r, e => by
    obtain ⟨v, us, rfl, r1, r2⟩ := r
    cases x with
    | int b =>
      unfold its at e
      cases eb : its xs with
      | none =>
        rw [eb] at e
        cases e
      | some cs =>
        rw [eb] at e
        cases e
        rw [its_ok r2 eb, show v = V.int b from r1]
        rfl
    | _ => cases e
def cFold {α : Type} (get : List PV → Option (List α)) (g : List α → PV) : FC := fun xs p => match xs with
  | [x] => match getL p x with
    | some ys => match get ys with
      | some bs => .ok (g bs) p
      | none => .stuck
    | none => .stuck
  | _ => .stuck
def cAll : FC := cFold bls fun bs => .bl (bs.all id)
theorem ref_fold {α : Type} {get : List PV → Option (List α)} {g : List α → PV} {h : α → V} {f : List α → V} (hg : ∀ w xs vs bs, Reps C.Γ w xs vs → get xs = some bs → vs = bs.map h) (hf : ∀ w bs, Rep C.Γ w (g bs) (f bs)) :
    RefC C (fun vs H Q => ∃ (a : Addr) (bs : List α), vs = [V.ref a] ∧ SqL C.Γ.K H a (bs.map h) ∧ Q (f bs) H) (cFold get g) := fun L w p H σ xs vs Q S r q => by
  unfold cFold at q
  split at q
  · rename_i x
    obtain ⟨v, rfl, rq⟩ := reps1 r
    split at q
    · rename_i ys e
      obtain ⟨a, us, rfl, hs, rr⟩ := getL_at S rq e
      split at q
      · rename_i bs eb
        have e2 := hg _ _ _ _ rr eb
        subst e2
        exact ⟨a, bs, rfl, .inl (.inl hs), q.ok S (hf _ _)⟩
      · exact q.elim
    · exact q.elim
  · exact q.elim
theorem ref_all : RefC C (rAll C.Γ.K) cAll := ref_fold (fun _ _ _ _ r e => bls_ok r e) fun _ _ => rfl
theorem call_allU (hc : X.calm = true) (hK : X.K = C.Γ.K) : CallR X (.builtin "all") (rAll C.Γ.K) := hK ▸ cr_all hc
end
end R
namespace R
open PySem L2
def mayL (b k : Nat) (xs : List PV) : Bool := decide (b ≤ k) || bels 0 xs
theorem mayL_rep {Γ : Cfg} {L : Lv} {w : Wd} {p : Pool} {H : Hp} (S : SimP Γ L w p H) {k : Nat} {xs : List PV} {vs : List V} (r : Reps Γ w xs vs) (h : mayL L.b k xs = true) : Reps Γ (w.low (L.lo k)) xs vs := by
  unfold mayL at h
  rw [Bool.or_eq_true] at h
  rcases h with h | h
  · rw [S.hlo k (of_decide_eq_true h)]
    exact r
  · cases e : L.lo k with
    | none => exact r
    | some m => exact r.below (bels_mono (Nat.zero_le m) h)
section
variable {X : Cx} {C : Cn} {pos : Pos}
def mMet (f : Pool → List PV → List PV → Option (List PV)) (o : M PV) (a : M (List PV)) : M PV := fun en p => (o en p).bind fun x p1 => match x with
  | .own k => match p1[k]? with
    | some (.lst _) => (a en p1).bind fun ys p2 => match p2[k]? with
      | some (.lst xs) => match f p2 xs ys with
        | some zs => if mayL en.b k zs = true ∧ zs.length ≤ big then .ok .non (p2.set k (.lst zs)) else .stuck
        | none => .stuck
      | _ => .stuck
    | _ => .stuck
  | _ => .stuck
def RefM (C : Cn) (r : V → List V → Hp → VK → Prop) (f : Pool → List PV → List PV → Option (List PV)) : Prop := ∀ L w p H a xs vs ys us zs Q, SimP C.Γ L w p H → H a = some (.lst vs) → Reps C.Γ w xs vs → Reps C.Γ w ys us → f p xs ys = some zs → zs.length ≤ big → (∀ ws, Reps C.Γ w zs ws → Q .non (upd H a (.lst ws))) → r (.ref a) us H Q
theorem wE_met {r : V → List V → Hp → VK → Prop} {f : Pool → List PV → List PV → Option (List PV)} {o : M PV} {a : M (List PV)} (hr : RefM C r f) : ∀ σ H Q, wE C (mMet f o a) σ H Q → tBM C.Γ.K "list" r (wE C o) (wA C a) σ H Q := fun σ H Q ⟨L, w, p, en, S, E, h⟩ => by
  refine ⟨L, w, p, en, S, E, h.bind fun x p1 w1 H1 v l1 S1 r1 h1 => ?_⟩
  split at h1
  · rename_i k
    split at h1
    · rename_i ys0 e0
      obtain ⟨b, vs0, rfl, hb, _, eH0, _⟩ := Rep.ownH S1 r1 e0
      refine ⟨.inl ⟨rfl, vs0, .inl (.inl eH0)⟩, L, w1, p1, en, S1, E.mono l1, h1.bind fun ys p2 w2 H2 us l2 S2 r2 h2 => ?_⟩
      split at h2
      · rename_i xs e2
        obtain ⟨b2, vs, e3, hb2, g, eH, rr⟩ := Rep.ownH S2 (r1.mono l2) e2
        cases e3
        split at h2
        · rename_i zs ez
          split at h2
          · rename_i hm
            refine hr L w2 p2 H2 b xs vs ys us zs Q S2 eH (rr.mono (w2.low_le _)) r2 ez hm.2 fun ws rw' => ?_
            have hm1 := hm.1
            rw [E.b] at hm1
            exact h2.ok (S2.write hb2 g ⟨by rw [Wd.low_G]; exact g, ws, upd_same, mayL_rep S2 rw' hm1⟩) rfl
          · exact h2.elim
        · exact h2.elim
      · exact h2.elim
    · exact h1.elim
  · exact h1.elim
theorem re_met {o e : Expr} {es : List Expr} {mo : M PV} {a : M (List PV)} {name : Str} {apos cpos : Pos} {id : String} {r : V → List V → Hp → VK → Prop} {f : Pool → List PV → List PV → Option (List PV)} (hK : X.K = C.Γ.K) (h1 : PlainAttrs "list") (h2 : Slot "list" name id) (h3 : typeOf (Value.builtin id) = pure (Value.type "method_descriptor"))
    (hm : MtR X id r) (hr : RefM C r f) (ho : RE X C o mo) (ha : RA X C (e :: es) a) (hb : attributeBase o name X.env (eval o X.env) = eval o X.env := by rfl)
    (h4 : ((backTo cpos (starEach (e :: es) X.env)).all (fun x => !x.1) && (backToKw cpos (keywordEach [] X.env)).all (fun x => x.1.isSome) && decide ((e :: es).length + ([] : List Keyword).length + (if ([] : List Keyword).isEmpty then 0 else 1) < 30)) = true := by rfl)
    (h5 : (apos.endLine == cpos.line) = true := by rfl) (he : starEach (e :: es) X.env = (false, eval e X.env) :: starEach es X.env := by rfl) (hpl : (backTo cpos (starEach es X.env)).any (·.1) = false := by rfl) :
    RE X C (.Call (.Attribute o name apos) (e :: es) [] cpos) (mMet f mo a) := (pe_bm h1 h2 h3 hm ho ha.pa hb h4 h5 he hpl).imp fun σ H Q h => by
  rw [hK]
  exact wE_met hr σ H Q h
def fAppend : Pool → List PV → List PV → Option (List PV) := fun _ xs ys => match ys with
  | [y] => some (xs ++ [y])
  | _ => none
theorem refm_append : RefM C rAppend fAppend := fun L w p H a xs vs ys us zs Q S eH r rs e hl k => by
  unfold fAppend at e
  split at e
  · rename_i y
    cases e
    obtain ⟨u, rfl, ru⟩ := reps1 rs
    refine ⟨a, vs, u, rfl, rfl, eH, ?_, k _ (r.append (Reps.cons ru Reps.nil))⟩
    rw [List.length_append] at hl
    have := r.length
    simp at hl
    exact big_lt (by omega)
  · cases e
def sIx (o i a : M PV) : S := fun en p => (a en p).run en fun y p1 => (o en p1).run en fun x p2 => (i en p2).run en fun j p3 => match x, j with
  | .own k, .int j => match p3[k]? with
    | some (.lst xs) => match ixN xs.length j with
      | some n => if may en.b k y = true then .next en (p3.set k (.lst (xs.set n y))) else .stuck
      | none => .stuck
    | _ => .stuck
  | _, _ => .stuck
theorem rs_ix {o i e : Expr} {mo mi a : M PV} {pos' : Pos} (ho : RE X C o mo) (hi : RE X C i mi) (ha : RE X C e a) (hs : ∀ (v : Value), assign (.Subscript o i pos') X.env v = (do
      let ov ← holding [v] (eval o X.env)
      let iv ← holding [v, ov] (eval i X.env)
      standAt pos'
      holding [v, ov, iv] (setItem ov iv v)
      release [v, ov, iv] []) := by intro _; rfl)
    (h1 : swapsWithSole [.Subscript o i pos'] e pos.line X.env = pure false := by rfl) (h2 : swappedStores [.Subscript o i pos'] e X.env = pure none := by rfl) (h3 : (assignEach [.Subscript o i pos'] X.env).map (·.2) = [assign (.Subscript o i pos') X.env] := by rfl) :
    RS X C (.Assign [.Subscript o i pos'] e pos) (sIx mo mi a) := (ps_asg ha (pg_sub ho hi set_list hs) h1 h2 h3).imp fun D σ H ⟨L, w, p, en, S, E, h⟩ => by
  refine ⟨L, w, p, en, S, E, h.run E fun y p1 w1 H1 v l1 S1 r1 h1 => ?_⟩
  refine ⟨L, w1, p1, en, S1, E.mono l1, h1.run (E.mono l1) fun x p2 w2 H2 u l2 S2 r2 h2 => ?_⟩
  refine ⟨L, w2, p2, en, S2, (E.mono l1).mono l2, h2.run ((E.mono l1).mono l2) fun j p3 w3 H3 t l3 S3 r3 h3 => ?_⟩
  split at h3
  · rename_i k j
    split at h3
    · rename_i xs e3
      split at h3
      · rename_i n en
        split at h3
        · rename_i hm
          obtain ⟨b, vs, e4, hb, g, eH, rr⟩ := Rep.ownH S3 (r2.mono l3) e3
          refine ⟨b, vs, j, n, e4, r3, eH, by rw [← rr.length]; exact en, ?_⟩
          rw [E.b] at hm
          exact h3 w3 _ σ (Wd.le.refl w3) (S3.write hb g ⟨by rw [Wd.low_G]; exact g, _, upd_same, rr.set (may_rep S3 ((r1.mono l2).mono l3) hm)⟩) (((E.mono l1).mono l2).mono l3)
        · exact h3.elim
      · exact h3.elim
    · exact h3.elim
  · exact h3.elim
def loopW (t : M Bool) (body : S) : Nat → S
  | 0 => fun _ _ => .stuck
  | f + 1 => fun en p => (t en p).run en fun b p1 => if b = true then (match body en p1 with
      | .next en2 p2 => loopW t body f en2 p2
      | .cont en2 p2 => loopW t body f en2 p2
      | .brk en2 p2 => .next en2 p2
      | o => o) else .next en p1
theorem rs_while {c : Expr} {body : List Stmt} {t : M Bool} {b : S} (f : Nat) (hp : PassesOwn (model X.prog X.w) X.A X.env X.xe) (hc : RT X C c t) (hb : RSs X C body b) : RS X C (.While c body [] pos) (loopW t b f) := (ps_while hp hc hb).imp fun D σ H ⟨L, w, p, en, S, E, h⟩ => by
  refine ⟨fun m σ' H' => ∃ w' p' en', w.le w' ∧ SimP C.Γ L w' p' H' ∧ EnR C L w' en' σ' ∧ PostS C L w' D (loopW t b m en' p'), ⟨f, w, p, en, Wd.le.refl w, S, E, h⟩, fun m σ' H' ⟨w', p', en', l', S', E', h'⟩ => ?_⟩
  cases m with
  | zero => exact h'.elim
  | succ m =>
    refine ⟨L, w', p', en', S', E', h'.run E' fun k p1 w1 H1 v l1 S1 r1 h1 => ?_⟩
    cases r1
    cases k with
    | false => exact iteF (h1 w1 H1 σ' (Wd.le.refl w1) S1 (E'.mono l1))
    | true =>
      refine iteT ?_
      rw [if_pos rfl] at h1
      refine ⟨fun σ2 H2 => ∃ w2 p2 en2, w.le w2 ∧ SimP C.Γ L w2 p2 H2 ∧ EnR C L w2 en2 σ2 ∧ PostS C L w2 D (loopW t b m en2 p2), fun σ2 H2 q => ⟨m, Nat.lt_succ_self m, q⟩, L, w1, p1, en', S1, E'.mono l1, ?_⟩
      cases e : b en' p1 with
      | next en2 p2 =>
        rw [e] at h1
        exact fun w2 H2 σ2 l2 S2 E2 => ⟨w2, p2, en2, l'.trans (l1.trans l2), S2, E2, PostS.mono l2 h1⟩
      | cont en2 p2 =>
        rw [e] at h1
        exact fun w2 H2 σ2 l2 S2 E2 => ⟨w2, p2, en2, l'.trans (l1.trans l2), S2, E2, PostS.mono l2 h1⟩
      | brk en2 p2 =>
        rw [e] at h1
        exact h1
      | ret x p2 =>
        rw [e] at h1
        exact h1
      | exc c v en2 p2 =>
        rw [e] at h1
        exact h1
      | stuck =>
        rw [e] at h1
        exact h1.elim
mutual
def pvEq : PV → PV → Bool
  | .non, .non => true
  | .bl a, .bl b => a == b
  | .int a, .int b => a == b
  | .str a, .str b => decide (a = b)
  | .tup xs, .tup ys => pvEqs xs ys
  | .lst xs, .lst ys => pvEqs xs ys
  | .obj c xs, .obj d ys => c == d && pvEqs xs ys
  | .own a, .own b => a == b
  | .scr a, .scr b => decide (a = b)
  | .xs c a, .xs d b => c == d && decide (a = b)
  | .xv c x, .xv d y => c == d && pvEq x y
  | .fn a, .fn b => a == b
  | .dct, .dct => true
  | .adr a, .adr b => a == b
  | .clo c x, .clo d y => c == d && pvEq x y
  | _, _ => false
def pvEqs : List PV → List PV → Bool
  | [], [] => true
  | x :: xs, y :: ys => pvEq x y && pvEqs xs ys
  | _, _ => false
end
mutual
theorem pvEq_eq : ∀ {x y : PV}, pvEq x y = true → x = y
  | .non, y, h => by cases y <;> first | rfl | cases h
  | .bl a, y, h => by cases y <;> first | (rw [eq_of_beq (show (a == _) = true from h)]) | cases h
  | .int a, y, h => by cases y <;> first | (rw [eq_of_beq (show (a == _) = true from h)]) | cases h
  | .str a, y, h => by cases y <;> first | (rw [of_decide_eq_true (show decide (a = _) = true from h)]) | cases h
  | .tup xs, y, h => by cases y <;> first | (rw [pvEqs_eq (show pvEqs xs _ = true from h)]) | cases h
  | .lst xs, y, h => by cases y <;> first | (rw [pvEqs_eq (show pvEqs xs _ = true from h)]) | cases h
  | .obj c xs, y, h => by
    cases y with
    | obj d ys =>
      have h : (c == d && pvEqs xs ys) = true := h
      rw [Bool.and_eq_true] at h
      rw [eq_of_beq h.1, pvEqs_eq h.2]
    | _ => cases h
  | .own a, y, h => by cases y <;> first | (rw [eq_of_beq (show (a == _) = true from h)]) | cases h
  | .scr a, y, h => by cases y <;> first | (rw [of_decide_eq_true (show decide (a = _) = true from h)]) | cases h
  | .xs c a, y, h => by
    cases y with
    | xs d b =>
      have h : (c == d && decide (a = b)) = true := h
      rw [Bool.and_eq_true] at h
      rw [eq_of_beq h.1, of_decide_eq_true h.2]
    | _ => cases h
  | .xv c x, y, h => by
    cases y with
    | xv d z =>
      have h : (c == d && pvEq x z) = true := h
      rw [Bool.and_eq_true] at h
      rw [eq_of_beq h.1, pvEq_eq h.2]
    | _ => cases h
  | .fn a, y, h => by cases y <;> first | (rw [eq_of_beq (show (a == _) = true from h)]) | cases h
  | .dct, y, h => by cases y <;> first | rfl | cases h
  | .adr a, y, h => by cases y <;> first | (rw [eq_of_beq (show (a == _) = true from h)]) | cases h
  | .clo c x, y, h => by
    cases y with
    | clo d z =>
      have h : (c == d && pvEq x z) = true := h
      rw [Bool.and_eq_true] at h
      rw [eq_of_beq h.1, pvEq_eq h.2]
    | _ => cases h
theorem pvEqs_eq : ∀ {xs ys : List PV}, pvEqs xs ys = true → xs = ys
  | [], [], _ => rfl
  | [], _ :: _, h => by cases h
  | _ :: _, [], h => by cases h
  | x :: xs, y :: ys, h => by
    have h : (pvEq x y && pvEqs xs ys) = true := h
    rw [Bool.and_eq_true] at h
    rw [pvEq_eq h.1, pvEqs_eq h.2]
end
structure It0 where
  xs : List PV
  ck : Pool → Bool
def noCk : Pool → Bool := fun _ => true
def ownCk (k : Nat) (xs : List PV) : Pool → Bool := fun q => match q[k]? with
  | some (.lst ys) => pvEqs ys xs
  | _ => false
def ItR (Γ : Cfg) (w : Wd) (ck : Pool → Bool) (xs : List PV) (J : It) : Prop := ∀ L w' p H, w.le w' → SimP Γ L w' p H → ck p = true → ∀ i : Nat, (xs[i]? = none → J.stop i H) ∧ ∀ x, xs[i]? = some x → J.go i H ∧ ∀ v H', J.yld i H v H' → ∃ w'', w'.le w'' ∧ SimP Γ L w'' p H' ∧ Rep Γ w'' x v
def wI (C : Cn) (it : M It0) : TI := fun σ H R => ∃ L w p en, SimP C.Γ L w p H ∧ EnR C L w en σ ∧ Post C L w σ (fun w (z : It0) J => ItR C.Γ w z.ck z.xs J) (it en p) (fun J H' => R J H')
abbrev RI (X : Cx) (C : Cn) (tg iter : Expr) (it : M It0) : Prop := PI X tg iter (wI C it)
theorem PI.imp {X : Cx} {tg it : Expr} {t t' : TI} (h : PI X tg it t) (i : ∀ σ H R, t' σ H R → t σ H R) : PI X tg it t' := ⟨fun pins s σ H R I hq => h.run pins s σ H R I (i _ _ _ hq)⟩
theorem PI.or {X : Cx} {tg it : Expr} {t t' : TI} (h : PI X tg it t) (h' : PI X tg it t') : PI X tg it (fun σ H R => t σ H R ∨ t' σ H R) := ⟨fun pins s σ H R I hq => by
  rcases hq with q | q
  · exact h.run pins s σ H R I q
  · exact h'.run pins s σ H R I q⟩
def getZ : PV → Option (List PV)
  | .lst xs => some xs
  | .scr ns => some (ns.map .int)
  | .tup xs => some xs
  | _ => none
def getZL : PV → Option (List PV)
  | .lst xs => some xs
  | .scr ns => some (ns.map .int)
  | _ => none
theorem getZL_ok {Γ : Cfg} {w : Wd} {x : PV} {v : V} {xs : List PV} (r : Rep Γ w x v) (e : getZL x = some xs) : ∃ a vs, v = .ref a ∧ SqL Γ.K w.G a vs ∧ Reps Γ w xs vs := by
  cases x with
  | lst ys =>
    cases e
    obtain ⟨a, vs, ev, q, r⟩ := r
    exact ⟨a, vs, ev, .inl (.inl q), r⟩
  | scr ns =>
    cases e
    obtain ⟨a, ev, q⟩ := r
    exact ⟨a, _, ev, q, Reps.ints⟩
  | _ => cases e
def itS (a : M PV) : M It0 := fun en p => (a en p).bind fun x p1 => match x with
  | .own k => match p1[k]? with
    | some (.lst xs) => .ok ⟨xs, ownCk k xs⟩ p1
    | _ => .stuck
  | x => match getZ x with
    | some xs => .ok ⟨xs, noCk⟩ p1
    | none => .stuck
theorem itR_own {Γ : Cfg} {w : Wd} {a : Addr} {k : Nat} {xs : List PV} (ha : w.ρ[k]? = some a) : ItR Γ w (ownCk k xs) xs (Itl Γ.K a) := fun L w' p H l S hc i => by
  unfold ownCk at hc
  split at hc
  · rename_i ys ey
    have e := pvEqs_eq hc
    subst e
    obtain ⟨b, vs, eb, hb, _, eH, r⟩ := Rep.ownH S (v := .ref a) ⟨a, pre_get l.2 ha, rfl⟩ ey
    cases eb
    have h' : SqL Γ.K H a vs := .inl (.inl eH)
    refine ⟨fun e => ⟨vs, h', ?_⟩, fun x e => ?_⟩
    · rw [← r.length]
      exact List.getElem?_eq_none_iff.mp e
    · obtain ⟨v, ev, rv⟩ := r.get e
      refine ⟨⟨vs, v, h', ev⟩, fun u H' hy => ?_⟩
      obtain ⟨rfl, hu⟩ := hy
      have e2 : u = v := Option.some.inj ((hu vs h').symm.trans ev)
      subst e2
      exact ⟨w', Wd.le.refl w', S, rv.mono (w'.low_le _)⟩
  · cases hc
theorem itR_list {Γ : Cfg} {w : Wd} {a : Addr} {xs : List PV} {vs : List V} (h : SqL Γ.K w.G a vs) (r : Reps Γ w xs vs) : ItR Γ w noCk xs (Itl Γ.K a) := fun L w' p H l S _ i => by
  have h' : SqL Γ.K H a vs := seqL_mono (fun b o e => S.sub b o (l.1 b o e)) h
  refine ⟨fun e => ⟨vs, h', ?_⟩, fun x e => ?_⟩
  · rw [← r.length]
    exact List.getElem?_eq_none_iff.mp e
  · obtain ⟨v, ev, rv⟩ := r.get e
    refine ⟨⟨vs, v, h', ev⟩, fun u H' hy => ?_⟩
    obtain ⟨rfl, hu⟩ := hy
    have e2 : u = v := Option.some.inj ((hu vs h').symm.trans ev)
    subst e2
    exact ⟨w', Wd.le.refl w', S, rv.mono l⟩
theorem itR_tup {Γ : Cfg} {w : Wd} {a : Addr} {xs : List PV} {vs : List V} (h : SqT Γ.K w.G a vs) (r : Reps Γ w xs vs) : ItR Γ w noCk xs (Itt Γ.K a) := fun L w' p H l S _ i => by
  have h' : SqT Γ.K H a vs := seqT_mono (fun b o e => S.sub b o (l.1 b o e)) h
  refine ⟨fun e => ⟨vs, h', ?_⟩, fun x e => ?_⟩
  · rw [← r.length]
    exact List.getElem?_eq_none_iff.mp e
  · obtain ⟨v, ev, rv⟩ := r.get e
    refine ⟨⟨vs, v, h', ev⟩, fun u H' hy => ?_⟩
    obtain ⟨rfl, hu⟩ := hy
    have e2 : u = v := Option.some.inj ((hu vs h').symm.trans ev)
    subst e2
    exact ⟨w', Wd.le.refl w', S, rv.mono l⟩
theorem ri_seq {tg e : Expr} {a : M PV} (hK : X.K = C.Γ.K) (ha : RE X C e a) : RI X C tg e (itS a) := by
  have h1 : PI X tg e (iList C.Γ.K (wE C a)) := hK ▸ pi_list ha
  have h2 : PI X tg e (iTup C.Γ.K (wE C a)) := hK ▸ pi_tup ha
  refine PI.imp (PI.or h1 h2) fun σ H R ⟨L, w, p, en, S, E, h⟩ => ?_
  unfold itS at h
  cases e1 : a en p with
  | ok x p1 =>
    rw [e1] at h
    dsimp only [Res.bind] at h
    cases x with
    | tup xs =>
      refine .inr ⟨L, w, p, en, S, E, ?_⟩
      rw [e1]
      intro w' H' v l S' r
      obtain ⟨b, vs, rfl, hq, rr⟩ := r
      exact ⟨b, rfl, ⟨vs, seqT_mono S'.sub hq⟩, h w' H' _ l S' (itR_tup hq rr)⟩
    | lst xs =>
      refine .inl ⟨L, w, p, en, S, E, ?_⟩
      rw [e1]
      intro w' H' v l S' r
      obtain ⟨b, vs, rfl, hq, rr⟩ := getZL_ok r (show getZL (.lst xs) = some xs from rfl)
      exact ⟨b, rfl, ⟨vs, seqL_mono S'.sub hq⟩, h w' H' _ l S' (itR_list hq rr)⟩
    | scr ns =>
      refine .inl ⟨L, w, p, en, S, E, ?_⟩
      rw [e1]
      intro w' H' v l S' r
      obtain ⟨b, vs, rfl, hq, rr⟩ := getZL_ok r (show getZL (.scr ns) = some _ from rfl)
      exact ⟨b, rfl, ⟨vs, seqL_mono S'.sub hq⟩, h w' H' _ l S' (itR_list hq rr)⟩
    | own k =>
      dsimp only at h
      split at h
      · rename_i xs ex
        refine .inl ⟨L, w, p, en, S, E, ?_⟩
        rw [e1]
        intro w' H' v l S' r
        obtain ⟨b, vs, rfl, hb, _, eH, rr⟩ := Rep.ownH S' r ex
        exact ⟨b, rfl, ⟨vs, .inl (.inl eH)⟩, h w' H' _ l S' (itR_own hb)⟩
      · exact h.elim
    | _ => exact h.elim
  | exc c v p1 =>
    rw [e1] at h
    refine .inl ⟨L, w, p, en, S, E, ?_⟩
    rw [e1]
    exact h
  | stuck =>
    rw [e1] at h
    exact h.elim
def rng (lo : Int) (n : Nat) : List PV := (List.range n).map fun (i : Nat) => .int (lo + (i : Int))
theorem itR_range {Γ : Cfg} {w : Wd} {lo : Int} {n : Nat} : ItR Γ w noCk (rng lo n) (Itr lo n) := fun L w' p H l S _ i => by
  unfold rng
  refine ⟨fun e => ?_, fun x e => ?_⟩
  · have := List.getElem?_eq_none_iff.mp e
    rw [List.length_map, List.length_range] at this
    exact this
  · rw [List.getElem?_map] at e
    cases e1 : (List.range n)[i]? with
    | none =>
      rw [e1] at e
      cases e
    | some j =>
      rw [e1] at e
      obtain ⟨hi, e2⟩ := List.getElem?_eq_some_iff.mp e1
      rw [List.getElem_range] at e2
      subst e2
      rw [List.length_range] at hi
      cases e
      refine ⟨hi, fun v H' hy => ?_⟩
      obtain ⟨rfl, rfl⟩ := hy
      exact ⟨w', Wd.le.refl w', S, rfl⟩
def itR1 (a : M (List PV)) : M It0 := fun en p => (a en p).bind fun xs p1 => match xs with
  | [.int n] => if -(2 ^ 62) ≤ n ∧ n < 2 ^ 62 then .ok ⟨rng 0 n.toNat, noCk⟩ p1 else .stuck
  | _ => .stuck
def itR2 (a : M (List PV)) : M It0 := fun en p => (a en p).bind fun xs p1 => match xs with
  | [.int i, .int j] => if -(2 ^ 62) ≤ i ∧ i < 2 ^ 62 ∧ -(2 ^ 62) ≤ j ∧ j < 2 ^ 62 then .ok ⟨rng i (j - i).toNat, noCk⟩ p1 else .stuck
  | _ => .stuck
theorem ri_range1 {tg a : Expr} {m : M (List PV)} {p : Pos} (hg : Gl X "range") (hm : X.mg "range" = none) (ha : RA X C [a] m) (hs : starEach [a] X.env = [(false, eval a X.env)] := by rfl) : RI X C tg (.Call (.Name "range" p) [a] [] pos) (itR1 m) :=
  PI.imp (pi_range1 hg hm ha.pa hs) fun σ H R ⟨L, w, p, en, S, E, h⟩ => by
    refine ⟨L, w, p, en, S, E, h.bind fun xs p1 w1 H1 vs l1 S1 r1 h1 => ?_⟩
    split at h1
    · rename_i n
      split at h1
      · rename_i hn
        obtain ⟨v, rfl, rv⟩ := reps1 r1
        cases rv
        exact ⟨n, rfl, hn.1, hn.2, h1.ok S1 itR_range⟩
      · exact h1.elim
    · exact h1.elim
theorem ri_range2 {tg a b : Expr} {m : M (List PV)} {p : Pos} (hg : Gl X "range") (hm : X.mg "range" = none) (ha : RA X C [a, b] m) (hs : starEach [a, b] X.env = [(false, eval a X.env), (false, eval b X.env)] := by rfl) (hs2 : starEach [b] X.env = [(false, eval b X.env)] := by rfl) : RI X C tg (.Call (.Name "range" p) [a, b] [] pos) (itR2 m) :=
  PI.imp (pi_range2 hg hm ha.pa hs hs2) fun σ H R ⟨L, w, p, en, S, E, h⟩ => by
    refine ⟨L, w, p, en, S, E, h.bind fun xs p1 w1 H1 vs l1 S1 r1 h1 => ?_⟩
    split at h1
    · rename_i i j
      split at h1
      · rename_i hn
        obtain ⟨v, u, rfl, rv, ru⟩ := reps2 r1
        cases rv
        cases ru
        exact ⟨i, j, rfl, hn, h1.ok S1 itR_range⟩
      · exact h1.elim
    · exact h1.elim
def enumZ (i : Nat) : List PV → List PV
  | [] => []
  | x :: xs => .tup [.int i, x] :: enumZ (i + 1) xs
theorem enumZ_get : ∀ (xs : List PV) (k i : Nat), (enumZ k xs)[i]? = xs[i]?.map fun x => .tup [.int ((k + i : Nat) : Int), x]
  | [], k, i => by simp [enumZ]
  | x :: xs, k, 0 => by simp [enumZ]
  | x :: xs, k, i + 1 => by
    show (enumZ (k + 1) xs)[i]? = _
    rw [enumZ_get xs (k + 1) i, List.getElem?_cons_succ, Nat.add_assoc, Nat.add_comm 1 i]
theorem new_tup {Γ : Cfg} {L : Lv} {w : Wd} {p : Pool} {H : Hp} (S : SimP Γ L w p H) {T : Addr} {xs : List PV} {vs : List V} (h : H T = none) (r : Reps Γ w xs vs) : ∃ w'', w.le w'' ∧ SimP Γ L w'' p (upd H T (.tup vs)) ∧ Rep Γ w'' (.tup xs) (.ref T) :=
  ⟨w.add T (.tup vs), S.le_add h, S.new h, T, vs, rfl, .inl (.inl add_at), r.mono (S.le_add h)⟩
theorem itR_enum {Γ : Cfg} {w : Wd} {a : Addr} {xs : List PV} {vs : List V} (h : SqL Γ.K w.G a vs) (r : Reps Γ w xs vs) : ItR Γ w noCk (enumZ 0 xs) (Ite Γ.K a) := fun L w' p H l S _ i => by
  have h' : SqL Γ.K H a vs := seqL_mono (fun b o e => S.sub b o (l.1 b o e)) h
  rw [enumZ_get]
  cases e : xs[i]? with
  | none => exact ⟨fun _ => ⟨vs, h', by rw [← r.length]; exact List.getElem?_eq_none_iff.mp e⟩, (fun _ z => nomatch z)⟩
  | some x =>
    refine ⟨(fun z => nomatch z), fun y ey => ?_⟩
    have ey : PV.tup [.int ((0 + i : Nat) : Int), x] = y := Option.some.inj ey
    subst ey
    obtain ⟨v, ev, rv⟩ := r.get e
    refine ⟨⟨vs, v, h', ev⟩, fun u H' hy => ?_⟩
    obtain ⟨T, z, rfl, hT, rfl, hu⟩ := hy
    have e2 : z = v := Option.some.inj ((hu vs h').symm.trans ev)
    subst e2
    refine new_tup S hT (Reps.cons ?_ (Reps.cons (rv.mono l) Reps.nil))
    rw [Nat.zero_add]
    exact rfl
def zipZ : List PV → List PV → List PV
  | x :: xs, y :: ys => .tup [x, y] :: zipZ xs ys
  | _, _ => []
theorem zipZ_get : ∀ (xs ys : List PV) (i : Nat), (zipZ xs ys)[i]? = match xs[i]?, ys[i]? with
    | some x, some y => some (.tup [x, y])
    | _, _ => none
  | [], ys, i => by simp [zipZ]
  | x :: xs, [], i => by
    simp [zipZ]
  | x :: xs, y :: ys, 0 => by simp [zipZ]
  | x :: xs, y :: ys, i + 1 => by
    show (zipZ xs ys)[i]? = _
    rw [zipZ_get xs ys i, List.getElem?_cons_succ, List.getElem?_cons_succ]
theorem itR_zip {Γ : Cfg} {w : Wd} {a b : Addr} {xs ys : List PV} {vs us : List V} (h : SqL Γ.K w.G a vs) (r : Reps Γ w xs vs) (k : SqL Γ.K w.G b us) (q : Reps Γ w ys us) : ItR Γ w noCk (zipZ xs ys) (Itz Γ.K a b) := fun L w' p H l S _ i => by
  have h' : SqL Γ.K H a vs := seqL_mono (fun b o e => S.sub b o (l.1 b o e)) h
  have k' : SqL Γ.K H b us := seqL_mono (fun b o e => S.sub b o (l.1 b o e)) k
  rw [zipZ_get]
  cases e : xs[i]? with
  | none => exact ⟨fun _ => ⟨vs, us, h', k', .inl (by rw [← r.length]; exact List.getElem?_eq_none_iff.mp e)⟩, (fun _ z => nomatch z)⟩
  | some x =>
    cases f : ys[i]? with
    | none => exact ⟨fun _ => ⟨vs, us, h', k', .inr (by rw [← q.length]; exact List.getElem?_eq_none_iff.mp f)⟩, (fun _ z => nomatch z)⟩
    | some y =>
      refine ⟨(fun z => nomatch z), fun t et => ?_⟩
      have et : PV.tup [x, y] = t := Option.some.inj et
      subst et
      obtain ⟨v, ev, rv⟩ := r.get e
      obtain ⟨u, eu, ru⟩ := q.get f
      refine ⟨⟨vs, us, v, u, h', k', ev, eu⟩, fun t H' hy => ?_⟩
      obtain ⟨T, z, z2, rfl, hT, rfl, hz, hz2⟩ := hy
      have e2 : z = v := Option.some.inj ((hz vs h').symm.trans ev)
      have e3 : z2 = u := Option.some.inj ((hz2 us k').symm.trans eu)
      subst e2
      subst e3
      exact new_tup S hT (Reps.cons (rv.mono l) (Reps.cons (ru.mono l) Reps.nil))
def itE (a : M (List PV)) : M It0 := fun en p => (a en p).bind fun xs p1 => match xs with
  | [x] => match getZL x with
    | some ys => .ok ⟨enumZ 0 ys, noCk⟩ p1
    | none => .stuck
  | _ => .stuck
def loopF (ck : Pool → Bool) (g : T1) (body : S) : List PV → S
  | [] => fun en p => if ck p = true then .next en p else .stuck
  | x :: r => fun en p => if ck p = true then match g x with
      | none => .stuck
      | some as => match body (en.sets as) p with
        | .next en2 p2 => loopF ck g body r en2 p2
        | .cont en2 p2 => loopF ck g body r en2 p2
        | .brk en2 p2 => .next en2 p2
        | o => o
    else .stuck
def sFor (it : M It0) (g : T1) (body : S) : S := fun en p => (it en p).run en fun z p1 => loopF z.ck g body z.xs en p1
theorem rs_for {tg iter : Expr} {body : List Stmt} {it : M It0} {g : T1} {b : S} (hp : PassesOwn (model X.prog X.w) X.A X.env X.xe) (hc : X.calm = true) (hi : RI X C tg iter it) (hg : RG X C tg g) (hb : RSs X C body b) (hf : ∀ x : Value, foldedSetIterable iter X.env x = pure x := by intro _; rfl) :
    RS X C (.For tg iter body [] pos) (sFor it g b) := (ps_for hp hc hi hg hb hf).imp fun D σ H ⟨L, w, p, en, S, E, h⟩ => by
  refine ⟨L, w, p, en, S, E, h.run E fun z p1 w1 H1 J l1 S1 rJ h1 => ?_⟩
  obtain ⟨xs, ck⟩ := z
  refine ⟨fun i m σ' H' => i ≤ xs.length ∧ m = xs.length - i ∧ ∃ w' p' en', w1.le w' ∧ SimP C.Γ L w' p' H' ∧ EnR C L w' en' σ' ∧ PostS C L w' D (loopF ck g b (xs.drop i) en' p'),
    ⟨xs.length, Nat.zero_le _, rfl, w1, p1, en, Wd.le.refl w1, S1, E.mono l1, h1⟩, fun i m σ' H' ⟨hi, hm, w', p', en', l', S', E', h'⟩ => ?_⟩
  have hk : ck p' = true := by
    cases e : ck p' with
    | true => rfl
    | false =>
      cases er : xs.drop i with
      | nil =>
        rw [er] at h'
        unfold loopF at h'
        rw [if_neg (by rw [e]; exact Bool.false_ne_true)] at h'
        exact h'.elim
      | cons y r =>
        rw [er] at h'
        unfold loopF at h'
        rw [if_neg (by rw [e]; exact Bool.false_ne_true)] at h'
        exact h'.elim
  obtain ⟨j1, j2⟩ := rJ L w' p' H' l' S' hk i
  cases ex : xs[i]? with
  | none =>
    have hlen : xs.length ≤ i := List.getElem?_eq_none_iff.mp ex
    rw [List.drop_eq_nil_of_le hlen] at h'
    unfold loopF at h'
    rw [if_pos hk] at h'
    exact .inl ⟨j1 ex, h' w' H' σ' (Wd.le.refl w') S' E'⟩
  | some x =>
    obtain ⟨hlt, ex'⟩ := List.getElem?_eq_some_iff.mp ex
    rw [List.drop_eq_getElem_cons hlt, ex'] at h'
    unfold loopF at h'
    rw [if_pos hk] at h'
    obtain ⟨go, yl⟩ := j2 x ex
    refine .inr ⟨go, fun σ2 H2 => ∃ w2 p2 en2, w1.le w2 ∧ SimP C.Γ L w2 p2 H2 ∧ EnR C L w2 en2 σ2 ∧ PostS C L w2 D (loopF ck g b (xs.drop (i + 1)) en2 p2), fun σ2 H2 q => ⟨m - 1, by omega, by omega, by omega, q⟩, fun v H2 hy => ?_⟩
    obtain ⟨w2, l2, S2, r2⟩ := yl v H2 hy
    cases eg : g x with
    | none =>
      rw [eg] at h'
      exact h'.elim
    | some as =>
      rw [eg] at h'
      dsimp only at h'
      refine ⟨L, w2, p', x, as, S2, r2, eg, fun bs f q => ?_⟩
      refine ⟨L, w2, p', en'.sets as, S2, (E'.mono l2).sets f q, ?_⟩
      cases e : b (en'.sets as) p' with
      | next en2 p2 =>
        rw [e] at h'
        exact fun w3 H3 σ3 l3 S3 E3 => ⟨w3, p2, en2, l'.trans (l2.trans l3), S3, E3, PostS.mono (l2.trans l3) h'⟩
      | cont en2 p2 =>
        rw [e] at h'
        exact fun w3 H3 σ3 l3 S3 E3 => ⟨w3, p2, en2, l'.trans (l2.trans l3), S3, E3, PostS.mono (l2.trans l3) h'⟩
      | brk en2 p2 =>
        rw [e] at h'
        exact PostS.mono l2 h'
      | ret y p2 =>
        rw [e] at h'
        exact PostS.mono l2 h'
      | exc c y en2 p2 =>
        rw [e] at h'
        exact PostS.mono l2 h'
      | stuck =>
        rw [e] at h'
        exact h'.elim
end
end R
namespace R
open PySem L2
section
variable {Γ : Cfg} {L L' : Lv} {w w' : Wd} {p q : Pool} {H : Hp}
theorem CellR.mono {c : Cell} {a : Addr} (h : CellR Γ w H c a) (l : w.le w') (g : w'.G = w.G) : CellR Γ w' H c a := by
  refine h.step l (fun b _ e => ?_) (fun _ _ e => e)
  rw [g]
  exact e
theorem SimP.level (S : SimP Γ L w p H) (hb : L'.b ≤ p.length) (hlo : ∀ k, L'.b ≤ k → L'.lo k = none) (hm : ∀ k m, L'.lo k = some m → m ≤ p.length)
    (hc : ∀ (k : Nat) c a, p[k]? = some c → w.ρ[k]? = some a → CellR Γ (w.low (L.lo k)) H c a → CellR Γ (w.low (L'.lo k)) H c a) : SimP Γ L' w p H :=
  ⟨S.sub, S.len, S.nd, hb, hlo, hm, fun k c a h1 h2 => hc k c a h1 h2 (S.cell k c a h1 h2), S.nt, S.tb⟩
def Lv.block (L : Lv) (n : Nat) : Lv := ⟨n + 1, fun k => if k < n then some (minO n (L.lo k)) else if k = n then some n else none⟩
theorem Lv.block_lt {n k : Nat} (h : k < n) : (L.block n).lo k = some (minO n (L.lo k)) := by
  show (if k < n then _ else _) = _
  rw [if_pos h]
theorem Lv.block_eq {n : Nat} : (L.block n).lo n = some n := by
  show (if n < n then _ else if n = n then _ else _) = _
  rw [if_neg (Nat.lt_irrefl n), if_pos rfl]
theorem Lv.block_gt {n k : Nat} (h : n < k) : (L.block n).lo k = none := by
  show (if k < n then _ else if k = n then _ else _) = _
  rw [if_neg (by omega), if_neg (by omega)]
theorem minO_le (n : Nat) : ∀ o : Option Nat, minO n o ≤ n
  | none => Nat.le_refl n
  | some m => Nat.min_le_right m n
theorem Lv.block_le {n k m : Nat} (h : (L.block n).lo k = some m) : m ≤ n := by
  rcases Nat.lt_trichotomy k n with hk | hk | hk
  · rw [Lv.block_lt hk] at h
    cases h
    exact minO_le n _
  · subst hk
    rw [Lv.block_eq] at h
    cases h
    exact Nat.le_refl _
  · rw [Lv.block_gt hk] at h
    cases h
theorem SimP.block (S : SimP Γ L w p H) {D : Addr} (hD : H D = none) : SimP Γ (L.block p.length) (w.cell D) (p ++ [.lst []]) (upd H D (.lst [])) := by
  have S1 : SimP Γ (L.deeper p.length) (w.cell D) (p ++ [.lst []]) (upd H D (.lst [])) := S.enter.newCell hD ⟨S.free hD, [], upd_same, rfl⟩
  refine S1.level (by rw [List.length_append]; exact Nat.le_refl _) (fun k hk => Lv.block_gt (by exact hk)) (fun k m e => ?_) (fun k c a h1 h2 x => ?_)
  · have := Lv.block_le e
    rw [List.length_append]
    omega
  · rcases Nat.lt_trichotomy k p.length with hk | hk | hk
    · rw [Lv.block_lt hk]
      rw [Lv.deeper_lt hk] at x
      exact x
    · subst hk
      rw [Lv.block_eq]
      have e : c = .lst [] := by
        rw [List.getElem?_append_right (Nat.le_refl _)] at h1
        simp at h1
        exact h1.symm
      subst e
      have h2 : (w.ρ ++ [D])[p.length]? = some a := h2
      rw [← S.len] at h2
      have e2 : D = a := by simpa using h2
      subst e2
      exact ⟨S.free hD, [], upd_same, rfl⟩
    · have := (List.getElem?_eq_some_iff.mp h1).1
      rw [List.length_append] at this
      simp at this
      omega
theorem SimP.turn {n : Nat} (S : SimP Γ (L.block n) w q H) : SimP Γ (L.block n) (w.ice (n + 1) H) (q.take (n + 1)) H := by
  have hb : n + 1 ≤ q.length := S.hb
  have S1 : SimP Γ ((L.block n).deeper (n + 1)) w q H := by
    refine S.level hb (fun k hk => ?_) (fun k m e => ?_) (fun k c a h1 h2 x => ?_)
    · show (if k < n + 1 then _ else none) = none
      rw [if_neg (by have : n + 1 ≤ k := hk; omega)]
    · by_cases hk : k < n + 1
      · rw [Lv.deeper_lt hk] at e
        cases e
        have := minO_le (n + 1) ((L.block n).lo k)
        omega
      · have e : (if k < n + 1 then some (minO (n + 1) ((L.block n).lo k)) else none) = some m := e
        rw [if_neg hk] at e
        cases e
    · by_cases hk : k < n + 1
      · rw [Lv.deeper_lt hk]
        cases e : (L.block n).lo k with
        | none =>
          rcases Nat.lt_trichotomy k n with h | h | h
          · rw [Lv.block_lt h] at e
            cases e
          · subst h
            rw [Lv.block_eq] at e
            cases e
          · omega
        | some m =>
          rw [e] at x
          have := Lv.block_le e
          show CellR Γ (w.low (some (min m (n + 1)))) H c a
          rw [Nat.min_eq_left (by omega)]
          exact x
      · have e1 : ((L.block n).deeper (n + 1)).lo k = none := by
          show (if k < n + 1 then _ else none) = none
          rw [if_neg hk]
        rw [e1]
        rw [Lv.block_gt (by omega)] at x
        exact x
  exact S1.ice (Nat.le_refl _) (fun k hk => Lv.block_gt hk) (fun k m e => by have := Lv.block_le e; omega)
theorem SimP.unblockD {n : Nat} (S : SimP Γ (L.block n) w q H) : SimP Γ (L.deeper n) w q H := by
  have hb : n + 1 ≤ q.length := S.hb
  refine S.level (by show n ≤ q.length; omega) (fun k hk => ?_) (fun k m e => ?_) (fun k c a h1 h2 x => ?_)
  · show (if k < n then _ else none) = none
    rw [if_neg (by have : n ≤ k := hk; omega)]
  · by_cases hk : k < n
    · rw [Lv.deeper_lt hk] at e
      cases e
      have := minO_le n (L.lo k)
      omega
    · have e : (if k < n then some (minO n (L.lo k)) else none) = some m := e
      rw [if_neg hk] at e
      cases e
  · by_cases hk : k < n
    · rw [Lv.deeper_lt hk]
      rw [Lv.block_lt hk] at x
      exact x
    · have e1 : (L.deeper n).lo k = none := by
        show (if k < n then _ else none) = none
        rw [if_neg hk]
      rw [e1]
      exact x.mono (w.low_le _) Wd.low_G.symm
theorem SimP.unblock {n : Nat} (S : SimP Γ (L.block n) w q H) (hb : L.b ≤ n) (hlo : ∀ k, L.b ≤ k → L.lo k = none) (hm : ∀ k m, L.lo k = some m → m ≤ n) : SimP Γ L w q H := by
  have hq : n + 1 ≤ q.length := S.hb
  refine S.level (by omega) hlo (fun k m e => by have := hm k m e; omega) (fun k c a h1 h2 x => ?_)
  by_cases hk : k < n
  · rw [Lv.block_lt hk] at x
    refine x.mono ?_ (by rw [Wd.low_G, Wd.low_G])
    cases e : L.lo k with
    | none => exact w.low_le _
    | some m =>
      show (w.low (some (min m n))).le (w.low (some m))
      rw [Nat.min_eq_left (hm k m e)]
      exact Wd.le.refl _
  · rw [hlo k (by omega)]
    exact x.mono (w.low_le _) Wd.low_G.symm
end
def wipeE (sl : List (Option PV)) : List Nat → List (Option PV)
  | [] => sl
  | v :: vs => (wipeE sl vs).set v none
theorem setV_get (j : Nat) : ∀ (bs : List (Nat × V)) (σ : St), j ∉ bs.map (·.1) → (setV σ bs)[j]? = σ[j]?
  | [], _, _ => rfl
  | (i, v) :: r, σ, h => by
    show (setV (σ.set i (some v)) r)[j]? = _
    rw [setV_get j r _ fun z => h (List.mem_cons_of_mem _ z)]
    exact List.getElem?_set_ne fun z => h (by rw [← z]; exact List.mem_cons_self)
theorem setV_len : ∀ (bs : List (Nat × V)) (σ : St), (setV σ bs).length = σ.length
  | [], _ => rfl
  | (i, v) :: r, σ => by
    show (setV (σ.set i (some v)) r).length = _
    rw [setV_len r, List.length_set]
theorem wipe_get (σ : St) (j : Nat) : ∀ vs : List Nat, (wipe σ vs)[j]? = if j ∈ vs then (if j < σ.length then some none else none) else σ[j]?
  | [] => by simp [wipe]
  | v :: vs => by
    show ((wipe σ vs).set v none)[j]? = _
    by_cases hv : v = j
    · subst hv
      rw [if_pos (List.mem_cons_self)]
      by_cases hl : v < σ.length
      · rw [List.getElem?_set_self (by rw [wipe_length]; exact hl), if_pos hl]
      · rw [List.getElem?_eq_none (by rw [List.length_set, wipe_length]; omega), if_neg hl]
    · rw [List.getElem?_set_ne hv, wipe_get σ j vs]
      have e : (j ∈ v :: vs) ↔ j ∈ vs := by
        constructor
        · intro h
          rcases List.mem_cons.mp h with h | h
          · exact absurd h.symm hv
          · exact h
        · exact List.mem_cons_of_mem _
      by_cases hj : j ∈ vs
      · rw [if_pos hj, if_pos (e.mpr hj)]
      · rw [if_neg hj, if_neg (fun z => hj (e.mp z))]
theorem wipe_setV {σ : St} {vs : List Nat} {bs : List (Nat × V)} (h : ∀ i ∈ bs.map (·.1), i ∈ vs) : wipe (setV (wipe σ vs) bs) vs = wipe σ vs := by
  apply List.ext_getElem?
  intro j
  rw [wipe_get, wipe_get, setV_len, wipe_length]
  by_cases hj : j ∈ vs
  · rw [if_pos hj, if_pos hj]
  · rw [if_neg hj, if_neg hj, setV_get j bs _ fun z => hj (h j z), wipe_get, if_neg hj]
theorem EnR.wipe {C : Cn} {L : Lv} {w : Wd} {en : En} {σ : St} (E : EnR C L w en σ) {L' : Lv} : ∀ vs : List Nat, EnR C L' w ⟨L'.b, wipeE en.sl vs⟩ (L2.wipe σ vs)
  | [] => ⟨rfl, E.len, E.val⟩
  | v :: vs => by
    have ih := EnR.wipe E (L' := L') vs
    refine ⟨rfl, ?_, fun j y e => ?_⟩
    · show ((wipeE en.sl vs).set v none).length = ((L2.wipe σ vs).set v none).length
      rw [List.length_set, List.length_set]
      exact ih.len
    · have e : ((wipeE en.sl vs).set v none)[j]? = some (some y) := e
      have ne : v ≠ j := by
        rintro rfl
        by_cases hl : v < (wipeE en.sl vs).length
        · rw [List.getElem?_set_self hl] at e
          cases e
        · rw [List.getElem?_eq_none (by rw [List.length_set]; omega)] at e
          cases e
      rw [List.getElem?_set_ne ne] at e
      obtain ⟨u, e1, e2⟩ := ih.val j y e
      exact ⟨u, by show ((L2.wipe σ vs).set v none)[j]? = _; rw [List.getElem?_set_ne ne]; exact e1, e2⟩
def W0 : WX := fun _ _ _ _ => False
def loopC (ck : Pool → Bool) (g : T1) (tt : M Bool) (te : M PV) (vs : List Nat) (n : Nat) (en : En) : List PV → Pool → Res Unit
  | [], q => if ck q = true then .ok () q else .stuck
  | x :: r, q => if ck q = true then match g x with
    | none => .stuck
    | some as => if as.all (fun a => vs.elem a.1) = true then (tt (en.sets as) q).bind fun b q1 => if b = true then (te (en.sets as) q1).bind fun y q2 => match q2[n]? with
          | some (.lst acc) => if bel n y = true ∧ acc.length < big then loopC ck g tt te vs n en r ((q2.take (n + 1)).set n (.lst (acc ++ [y]))) else .stuck
          | _ => .stuck
        else loopC ck g tt te vs n en r (q1.take (n + 1))
      else .stuck
    else .stuck
def mLc (it : M It0) (g : T1) (tt : M Bool) (te : M PV) (vs : List Nat) : M PV := fun en p => (it en p).bind fun z p1 => match loopC z.ck g tt te vs p1.length ⟨p1.length + 1, wipeE en.sl vs⟩ z.xs (p1 ++ [.lst []]) with
  | .ok _ q => match q[p1.length]? with
    | some (.lst acc) => .ok (.lst acc) (q.take p1.length)
    | _ => .stuck
  | _ => .stuck
section
variable {C : Cn}
abbrev Cn.blk (C : Cn) : Cn := ⟨C.Γ, W0⟩
theorem wLc_core {g : T1} {tt : M Bool} {te : M PV} {vs : List Nat} {σ : St} {H1 : Hp} {L : Lv} {w1 : Wd} {p1 : Pool} {en : En} {xs : List PV} {ck : Pool → Bool} {J : It} {Q : VK} (S1 : SimP C.Γ L w1 p1 H1) (E : EnR C L w1 en σ) (rJ : ItR C.Γ w1 ck xs J)
    (fin : Res Unit → Prop) (hf : fin (loopC ck g tt te vs p1.length ⟨p1.length + 1, wipeE en.sl vs⟩ xs (p1 ++ [.lst []]))) (hx : ∀ c v p, ¬ fin (.exc c v p)) (hst : ¬ fin .stuck)
    (D : Addr) (hD : H1 D = none) (hfin : ∀ w' q H', w1.le w' → SimP C.Γ (L.block p1.length) w' q H' → q.length = p1.length + 1 → w'.ρ[p1.length]? = some D → fin (.ok () q) → Q (.ref D) H') :
    ∃ W : Nat → Nat → Hp → Prop, (∃ m, W 0 m (upd H1 D (.lst []))) ∧ ∀ i m H, W i m H →
      (J.stop i H ∧ Q (.ref D) H) ∨ (J.go i H ∧ ∃ Nx : Hp → Prop, (∀ H', Nx H' → ∃ m', m' < m ∧ W (i + 1) m' H') ∧ ∀ x H', J.yld i H x H' → wG C.blk g x (wipe σ vs) H' fun σ2 H2 => wipe σ2 vs = wipe σ vs ∧ wT C.blk tt σ2 H2 fun b H3 =>
        if b = true then wE C.blk te σ2 H3 fun y H4 => ∃ acc, H4 D = some (.lst acc) ∧ acc.length < sizeLine ∧ Nx (upd H4 D (.lst (acc ++ [y]))) else Nx H3) := by
  let n := p1.length
  have hn : n = p1.length := rfl
  let enB : En := ⟨n + 1, wipeE en.sl vs⟩
  have le0 : w1.le (w1.cell D) := w1.le_cell D
  have lenD : (w1.cell D).ρ.length = n + 1 := by
    show (w1.ρ ++ [D]).length = _
    rw [List.length_append, S1.len]
    rfl
  have atD : (w1.cell D).ρ[n]? = some D := by
    show (w1.ρ ++ [D])[p1.length]? = some D
    rw [← S1.len]
    simp
  refine ⟨fun i m H => i ≤ xs.length ∧ m = xs.length - i ∧ ∃ w' q, (w1.cell D).le w' ∧ SimP C.Γ (L.block n) w' q H ∧ q.length = n + 1 ∧ fin (loopC ck g tt te vs n enB (xs.drop i) q), ⟨xs.length, Nat.zero_le _, rfl, w1.cell D, _, Wd.le.refl _, S1.block hD, by rw [List.length_append]; rfl, hf⟩, fun i m H ⟨hi, hm, w', q, l', S', lq, f'⟩ => ?_⟩
  have hk : ck q = true := by
    cases e : ck q with
    | true => rfl
    | false =>
      cases er : xs.drop i with
      | nil =>
        rw [er] at f'
        unfold loopC at f'
        rw [if_neg (by rw [e]; exact Bool.false_ne_true)] at f'
        exact absurd f' hst
      | cons y r =>
        rw [er] at f'
        unfold loopC at f'
        rw [if_neg (by rw [e]; exact Bool.false_ne_true)] at f'
        exact absurd f' hst
  obtain ⟨j1, j2⟩ := rJ _ w' q H (le0.trans l') S' hk i
  cases ex : xs[i]? with
  | none =>
    have hlen : xs.length ≤ i := List.getElem?_eq_none_iff.mp ex
    rw [List.drop_eq_nil_of_le hlen] at f'
    unfold loopC at f'
    rw [if_pos hk] at f'
    exact .inl ⟨j1 ex, hfin w' q H (le0.trans l') S' lq (pre_get l'.2 atD) f'⟩
  | some x =>
    obtain ⟨hlt, ex'⟩ := List.getElem?_eq_some_iff.mp ex
    rw [List.drop_eq_getElem_cons hlt, ex'] at f'
    unfold loopC at f'
    rw [if_pos hk] at f'
    obtain ⟨go, yl⟩ := j2 x ex
    refine .inr ⟨go, fun H' => ∃ w2 q2, (w1.cell D).le w2 ∧ SimP C.Γ (L.block n) w2 q2 H' ∧ q2.length = n + 1 ∧ fin (loopC ck g tt te vs n enB (xs.drop (i + 1)) q2), fun H' z => ⟨m - 1, by omega, by omega, by omega, z⟩, fun v H2 hy => ?_⟩
    obtain ⟨w2, l2, S2, r2⟩ := yl v H2 hy
    cases eg : g x with
    | none =>
      rw [eg] at f'
      exact absurd f' hst
    | some as =>
      rw [eg] at f'
      dsimp only at f'
      by_cases ha : as.all (fun a => vs.elem a.1) = true
      · rw [if_pos ha] at f'
        refine ⟨L.block n, w2, q, x, as, S2, r2, eg, fun bs fb qb => ⟨wipe_setV fun j hj => ?_, ?_⟩⟩
        · rw [fb] at hj
          obtain ⟨a, ma, ea⟩ := List.mem_map.mp hj
          have := List.all_eq_true.mp ha a ma
          rw [ea] at this
          exact List.elem_iff.mp this
        · have E2 : EnR C.blk (L.block n) w2 (enB.sets as) (setV (wipe σ vs) bs) := by
            have E0 : EnR C.blk L w1 en σ := ⟨E.b, E.len, E.val⟩
            have E1 : EnR C.blk (L.block n) w1 enB (wipe σ vs) := E0.wipe (L' := L.block n) vs
            exact (E1.mono ((le0.trans l').trans l2)).sets fb qb
          refine ⟨L.block n, w2, q, enB.sets as, S2, E2, ?_⟩
          cases et : tt (enB.sets as) q with
          | stuck =>
            rw [et] at f'
            exact absurd f' hst
          | exc c v p2 =>
            rw [et] at f'
            exact absurd f' (hx _ _ _)
          | ok b q1 =>
            rw [et] at f'
            intro w3 H3 b' l3 S3 rb
            cases rb
            have f' : fin (if b = true then (te (enB.sets as) q1).bind fun y q2 => match q2[n]? with
              | some (.lst acc) => if bel n y = true ∧ acc.length < big then loopC ck g tt te vs n enB (xs.drop (i + 1)) ((q2.take (n + 1)).set n (.lst (acc ++ [y]))) else .stuck
              | _ => .stuck
              else loopC ck g tt te vs n enB (xs.drop (i + 1)) (q1.take (n + 1))) := f'
            have l03 : (w1.cell D).le w3 := (l'.trans l2).trans l3
            cases b with
            | false =>
              refine iteF ?_
              rw [if_neg Bool.false_ne_true] at f'
              have hl : n + 1 ≤ q1.length := S3.hb
              exact ⟨_, _, S3.le_ice l03 lenD, S3.turn, by rw [List.length_take]; omega, f'⟩
            | true =>
              refine iteT ?_
              rw [if_pos rfl] at f'
              refine ⟨L.block n, w3, q1, enB.sets as, S3, E2.mono l3, ?_⟩
              cases ee : te (enB.sets as) q1 with
              | stuck =>
                rw [ee] at f'
                exact absurd f' hst
              | exc c v p2 =>
                rw [ee] at f'
                exact absurd f' (hx _ _ _)
              | ok y q2 =>
                rw [ee] at f'
                intro w4 H4 u l4 S4 ru
                have f' : fin (match q2[n]? with
                  | some (.lst acc) => if bel n y = true ∧ acc.length < big then loopC ck g tt te vs n enB (xs.drop (i + 1)) ((q2.take (n + 1)).set n (.lst (acc ++ [y]))) else .stuck
                  | _ => .stuck) := f'
                split at f'
                · rename_i acc eacc
                  by_cases hk : bel n y = true ∧ acc.length < big
                  · rw [if_pos hk] at f'
                    have l04 : (w1.cell D).le w4 := l03.trans l4
                    have hl : n + 1 ≤ q2.length := S4.hb
                    have S5 := S4.turn
                    have l05 : (w1.cell D).le (w4.ice (n + 1) H4) := S4.le_ice l04 lenD
                    have e5 : (q2.take (n + 1))[n]? = some (.lst acc) := by
                      rw [List.getElem?_take_of_lt (Nat.lt_succ_self n)]
                      exact eacc
                    have d5 : (w4.ice (n + 1) H4).ρ[n]? = some D := pre_get l05.2 atD
                    obtain ⟨g5, zs, eH, rz⟩ := S5.cell n _ D e5 d5
                    rw [Lv.block_eq] at rz g5
                    refine ⟨zs, eH, by rw [← rz.length]; exact big_lt hk.2, _, _, l05, S5.write (c := .lst (acc ++ [y])) (o := .lst (zs ++ [u])) d5 (by rw [Wd.low_G] at g5; exact g5) ⟨by rw [Wd.low_G] at g5 ⊢; exact g5, _, upd_same, ?_⟩, by rw [List.length_set, List.length_take]; omega, f'⟩
                    rw [Lv.block_eq]
                    refine rz.append (Reps.cons ?_ Reps.nil)
                    refine (ru.below hk.1).mono ⟨S4.iced_le (n + 1), ?_⟩
                    show w4.ρ.take n <+: (w4.ρ.take (n + 1)).take n
                    rw [List.take_take, Nat.min_eq_left (Nat.le_succ n)]
                    exact List.prefix_refl _
                  · rw [if_neg hk] at f'
                    exact absurd f' hst
                · exact absurd f' hst
      · rw [if_neg ha] at f'
        exact absurd f' hst
theorem wE_lc {it : M It0} {g : T1} {tt : M Bool} {te : M PV} {vs : List Nat} : ∀ σ H Q, wE C (mLc it g tt te vs) σ H Q → tLc (wI C it) (wG C.blk g) (wT C.blk tt) (wE C.blk te) vs σ H Q := fun σ H Q ⟨L, w, p, en, S, E, h⟩ => by
  refine ⟨L, w, p, en, S, E, h.bind fun z p1 w1 H1 J l1 S1 rJ h1 => fun D hD => ?_⟩
  refine wLc_core (Q := Q) S1 (E.mono l1) rJ (fun r => Post C L w1 σ (RV C) (match r with
    | .ok _ q => match q[p1.length]? with
      | some (.lst acc) => .ok (.lst acc) (q.take p1.length)
      | _ => .stuck
    | _ => .stuck) Q) h1 (fun _ _ _ z => z) (fun z => z) D hD fun w' q H' l' S' lq dq f => ?_
  dsimp only at f
  split at f
  · rename_i acc eacc
    obtain ⟨g, vs, eH, r⟩ := S'.cell _ _ D eacc dq
    rw [Lv.block_eq] at r
    have S2 := S'.unblockD.ice S1.hb S1.hlo S1.hm
    have lw : (w'.low (some p1.length)).le (w'.ice p1.length H') := ⟨S'.iced_le p1.length, List.prefix_refl _⟩
    refine f _ H' _ (S'.le_ice l' S1.len) S2 ⟨D, vs, rfl, ?_, r.mono lw⟩
    show iced w' p1.length H' D = _
    rw [iced_at (Nat.le_refl _) dq]
    exact eH
  · exact f.elim
end
section
variable {X : Cx} {C : Cn} {pos : Pos}
def mYes : M Bool := fun _ p => .ok true p
abbrev RTs (X : Cx) (C : Cn) (ifs : List Expr) (m : M Bool) : Prop := PTs X ifs (wT C m)
theorem rts_nil : RTs X C [] mYes := ⟨fun pins s σ H Q I ⟨L, w, p, en, S, E, h⟩ => pts_nil.run pins s σ H Q I (h.ok S rfl)⟩
theorem re_lc {elt tg iter : Expr} {ifs : List Expr} {scope : Scope} {own : List (Str × Nat)} {it : M It0} {g : T1} {tt : M Bool} {te : M PV} (hc : X.calm = true) (hN : X.N.Nodup) (hi : RI X C tg iter it) (ok : BlkOk X.N X.env.scope scope own)
    (hg : ∀ (s : Shared) (H : Hp) (B : Addr) (cl : List (Str × Addr)) (fp : List Addr), RG (X.blk s H scope (compEnvC scope cl B X.env) fp) C.blk tg g) (ht : ∀ (s : Shared) (H : Hp) (B : Addr) (cl : List (Str × Addr)) (fp : List Addr), RTs (X.blk s H scope (compEnvC scope cl B X.env) fp) C.blk ifs tt)
    (he : ∀ (s : Shared) (H : Hp) (B : Addr) (cl : List (Str × Addr)) (fp : List Addr), RE (X.blk s H scope (compEnvC scope cl B X.env) fp) C.blk elt te) (hf : ∀ x : Value, foldedSetIterable iter X.env x = pure x := by intro _; rfl) :
    RE X C (.ListComp elt [{ target := tg, iter := iter, ifs := ifs, is_async := 0 }] scope pos) (mLc it g tt te (own.map (·.2))) := (pe_lc hc hN hi ok hg ht he hf).imp wE_lc
end
end R
namespace R
open PySem L2
abbrev FnM := List PV → Pool → Res PV
def PostF (Γ : Cfg) (L : Lv) (w : Wd) (r : Res PV) (Q : VK) (E : XK) : Prop := match r with
  | .ok x p => ∀ w' H' v, w.le w' → SimP Γ L w' p H' → Rep Γ w' x v → Q v H'
  | .exc c ov p => ∀ w' H' d, w.le w' → SimP Γ L w' p H' → ExcR Γ w' c ov d → E (.ref (Γ.cls c)) d H'
  | .stuck => False
def spM (Γ : Cfg) (n : Nat) (f : FnM) : Sp := fun vs H Q E => vs.length = n ∧ ∃ L w p xs, SimP Γ L w p H ∧ Reps Γ w xs vs ∧ PostF Γ L w (f xs p) Q E
def fnM (fld : Nat → List Str) (N : Nat) (body : R.S) : FnM := fun xs p => match body ⟨p.length, xs.map some ++ List.replicate (N - xs.length) none⟩ p with
  | .ret x q => match thaw fld p.length q x with
    | some y => .ok y (q.take p.length)
    | none => .stuck
  | .next _ q => .ok .non (q.take p.length)
  | .exc c none _ q => .exc c none (q.take p.length)
  | .exc c (some x) _ q => match thaw fld p.length q x with
    | some y => .exc c (some y) (q.take p.length)
    | none => .stuck
  | _ => .stuck
def fnO (N : Nat) (body : R.S) : FnM := fun xs p => match body ⟨p.length, xs.map some ++ List.replicate (N - xs.length) none⟩ p with
  | .ret (.own k) q => if k = p.length then match q[p.length]? with
      | some (.lst acc) => if bels p.length acc = true then .ok (.own p.length) (q.take (p.length + 1)) else .stuck
      | _ => .stuck
    else .stuck
  | _ => .stuck
theorem Reps.getS {Γ : Cfg} {w : Wd} {xs : List PV} {vs : List V} (r : Reps Γ w xs vs) (n m : Nat) (h : n - xs.length = m) : ∀ (i : Nat) x, (xs.map some ++ List.replicate m (none : Option PV))[i]? = some (some x) → ∃ v, (vs.map some ++ List.replicate (n - vs.length) (none : Option V))[i]? = some (some v) ∧ Rep Γ w x v := fun i x e => by
  by_cases hi : i < xs.length
  · rw [List.getElem?_append_left (by rw [List.length_map]; exact hi), List.getElem?_map] at e
    cases ex : xs[i]? with
    | none =>
      rw [ex] at e
      cases e
    | some y =>
      rw [ex] at e
      cases e
      obtain ⟨v, ev, rv⟩ := r.get ex
      exact ⟨v, by rw [List.getElem?_append_left (by rw [List.length_map, ← r.length]; exact hi), List.getElem?_map, ev]; rfl, rv⟩
  · rw [List.getElem?_append_right (by rw [List.length_map]; omega), List.getElem?_replicate] at e
    split at e <;> cases e
theorem EnR.start {C : Cn} {w : Wd} {L : Lv} {N : List Str} {xs : List PV} {vs : List V} (r : Reps C.Γ w xs vs) : EnR C L w ⟨L.b, xs.map some ++ List.replicate (N.length - xs.length) none⟩ (L2.start N vs) := by
  refine ⟨rfl, ?_, r.getS N.length _ rfl⟩
  show (xs.map some ++ List.replicate (N.length - xs.length) none).length = (vs.map some ++ List.replicate (N.length - vs.length) none).length
  rw [List.length_append, List.length_append, List.length_map, List.length_map, List.length_replicate, List.length_replicate, r.length]
theorem ExcR.sub {Γ : Cfg} {w w' : Wd} {c : Nat} {x y : PV} {d : Option Addr} (h : ExcR Γ w c (some x) d) (l : ∀ a o, w.G a = some o → w'.G a = some o) (hr : ∀ v, Rep Γ w x v → Rep Γ w' y v) : ExcR Γ w' c (some y) d := by
  obtain ⟨dx, v, e, g, r⟩ := h
  exact ⟨dx, v, e, l _ _ g, hr v r⟩
section
variable {P : Program} {w0 : World} {K : PySem.W.Frag} {mg : Str → Option Value} {base : Heap}
theorem fn_ret {Γ : Cfg} {L : Lv} {w : Wd} {p : Pool} {H : Hp} (S : SimP Γ L w p H) {N : Nat} {body : R.S} {xs : List PV} {Q : VK} {E : XK} (h : PostF Γ L w (fnM Γ.fld N body xs p) Q E) :
    PostS ⟨Γ, fun cls d _ H => E cls d H⟩ (L.deeper p.length) w { nx := fun _ H' => Q .non H', rt := Q } (body ⟨p.length, xs.map some ++ List.replicate (N - xs.length) none⟩ p) := by
  unfold fnM at h
  cases e : body ⟨p.length, xs.map some ++ List.replicate (N - xs.length) none⟩ p with
  | next en q =>
    rw [e] at h
    exact fun w' H' σ' l S' E' => h _ H' .non (S'.le_ice l S.len) (S'.ice S.hb S.hlo S.hm) rfl
  | ret x q =>
    rw [e] at h
    dsimp only at h
    split at h
    · rename_i y ey
      exact fun w' H' v l S' r => h _ H' v (S'.le_ice l S.len) (S'.ice S.hb S.hlo S.hm) (thaw_ok S' ey r)
    · exact h.elim
  | exc c ov en q =>
    rw [e] at h
    cases ov with
    | none => exact fun w' H' σ' d l S' E' x => h _ H' d (S'.le_ice l S.len) (S'.ice S.hb S.hlo S.hm) x
    | some x =>
      dsimp only at h
      split at h
      · rename_i y ey
        exact fun w' H' σ' d l S' E' z => h _ H' d (S'.le_ice l S.len) (S'.ice S.hb S.hlo S.hm) (z.sub (S'.iced_le _) fun v r => thaw_ok S' ey r)
      · exact h.elim
  | brk en q =>
    rw [e] at h
    exact h.elim
  | cont en q =>
    rw [e] at h
    exact h.elim
  | stuck =>
    rw [e] at h
    exact h.elim
theorem fn_retO {Γ : Cfg} {L : Lv} {w : Wd} {p : Pool} {H : Hp} (S : SimP Γ L w p H) {N : Nat} {body : R.S} {xs : List PV} {Q : VK} {E : XK} (h : PostF Γ L w (fnO N body xs p) Q E) :
    PostS ⟨Γ, fun cls d _ H => E cls d H⟩ (L.deeper p.length) w { nx := fun _ H' => Q .non H', rt := Q } (body ⟨p.length, xs.map some ++ List.replicate (N - xs.length) none⟩ p) := by
  unfold fnO at h
  cases e : body ⟨p.length, xs.map some ++ List.replicate (N - xs.length) none⟩ p with
  | ret x q =>
    rw [e] at h
    cases x with
    | own k =>
      dsimp only at h
      by_cases hk : k = p.length
      · subst hk
        rw [if_pos rfl] at h
        split at h
        · rename_i acc eacc
          by_cases hb : bels p.length acc = true
          · rw [if_pos hb] at h
            intro w' H' v l S' r
            obtain ⟨a, ha, rfl⟩ := r
            have hl : p.length + 1 ≤ q.length := (List.getElem?_eq_some_iff.mp eacc).1
            have S1 : SimP Γ (L.block p.length) w' q H' := by
              refine S'.level hl (fun k hk => Lv.block_gt (by exact hk)) (fun k m e => by have := Lv.block_le e; omega) (fun k c b h1 h2 x => ?_)
              rcases Nat.lt_trichotomy k p.length with hk | hk | hk
              · rw [Lv.block_lt hk]
                rw [Lv.deeper_lt hk] at x
                exact x
              · subst hk
                rw [Lv.block_eq]
                have e0 : (L.deeper p.length).lo p.length = none := by
                  show (if p.length < p.length then _ else none) = none
                  rw [if_neg (Nat.lt_irrefl _)]
                rw [e0] at x
                rw [eacc] at h1
                cases h1
                obtain ⟨g, vs, eH, rr⟩ := x
                exact ⟨g, vs, eH, rr.below hb⟩
              · rw [Lv.block_gt hk]
                have e0 : (L.deeper p.length).lo k = none := by
                  show (if k < p.length then _ else none) = none
                  rw [if_neg (by omega)]
                rw [e0] at x
                exact x
            have S2 := S1.turn.unblock S.hb S.hlo S.hm
            refine h (w'.ice (p.length + 1) H') H' (.ref a) ⟨fun b o eb => S1.iced_le _ b o (l.1 b o eb), ?_⟩ S2 ⟨a, ?_, rfl⟩
            · obtain ⟨t, et⟩ := l.2
              show w.ρ <+: w'.ρ.take (p.length + 1)
              rw [← et, ← S.len, List.take_append]
              exact ⟨_, by rw [List.take_of_length_le (Nat.le_succ _)]⟩
            · show (w'.ρ.take (p.length + 1))[p.length]? = some a
              rw [List.getElem?_take_of_lt (Nat.lt_succ_self _)]
              exact ha
          · rw [if_neg hb] at h
            exact h.elim
        · exact h.elim
      · rw [if_neg hk] at h
        exact h.elim
    | _ => exact h.elim
  | _ =>
    rw [e] at h
    exact h.elim
theorem ok_fn {Γ : Cfg} {x qual : Str} {st : Stmt} {dvs : List V} {kws : List (Str × V)} {f : Addr} {fd : FuncData} {N ps : List Str} {k n : Nat} (F : FunD K x qual (defArgs st) (defBody st) (defScope st) dvs kws f fd) (S : FnScope N ps (defScope st)) (hn : ps.length = n) (body : R.S)
    (hb : ∀ (cdv : Value) (A : Around) (outer : List Env) (s : Shared) (H : Hp) (E : XK), Room k (A.deeper (PyProof.Rows.envOfC qual (defScope st) s.heap.objs.size f cdv)) →
      RSs (cxOf (L2.CX P w0) P w0 K mg base N qual (defScope st) f cdv A outer s H E) ⟨Γ, fun cls d _ H => E cls d H⟩ (defBody st) body) : FnOk P w0 K mg base (L2.CX P w0) (k + 1) f fd ps (spM Γ n (fnM Γ.fld N.length body)) := by
  refine F.ok (CX := L2.CX P w0) S (fun vs H Q E h => h.1.trans hn.symm) (fun cdv A outer s H vs Q E hr h => ⟨wS _ body, hb cdv A outer s H E hr, ?_⟩)
  obtain ⟨_, L, w, p, xs, S', r, h⟩ := h
  exact ⟨L.deeper p.length, w, p, ⟨p.length, xs.map some ++ List.replicate (N.length - xs.length) none⟩, S'.enter, EnR.start (L := L.deeper p.length) r, fn_ret S' h⟩
theorem ok_fnO {Γ : Cfg} {x qual : Str} {st : Stmt} {dvs : List V} {kws : List (Str × V)} {f : Addr} {fd : FuncData} {N ps : List Str} {k n : Nat} (F : FunD K x qual (defArgs st) (defBody st) (defScope st) dvs kws f fd) (S : FnScope N ps (defScope st)) (hn : ps.length = n) (body : R.S)
    (hb : ∀ (cdv : Value) (A : Around) (outer : List Env) (s : Shared) (H : Hp) (E : XK), Room k (A.deeper (PyProof.Rows.envOfC qual (defScope st) s.heap.objs.size f cdv)) →
      RSs (cxOf (L2.CX P w0) P w0 K mg base N qual (defScope st) f cdv A outer s H E) ⟨Γ, fun cls d _ H => E cls d H⟩ (defBody st) body) : FnOk P w0 K mg base (L2.CX P w0) (k + 1) f fd ps (spM Γ n (fnO N.length body)) := by
  refine F.ok (CX := L2.CX P w0) S (fun vs H Q E h => h.1.trans hn.symm) (fun cdv A outer s H vs Q E hr h => ⟨wS _ body, hb cdv A outer s H E hr, ?_⟩)
  obtain ⟨_, L, w, p, xs, S', r, h⟩ := h
  exact ⟨L.deeper p.length, w, p, ⟨p.length, xs.map some ++ List.replicate (N.length - xs.length) none⟩, S'.enter, EnR.start (L := L.deeper p.length) r, fn_retO S' h⟩
def iniM (fld : Nat → List Str) (c N : Nat) (body : R.S) : FnM := fun xs p => match body ⟨p.length, some (.own p.length) :: (xs.map some ++ List.replicate (N - (xs.length + 1)) none)⟩ (p ++ [.obj c []]) with
  | .next _ q => match thaw fld p.length q (.own p.length) with
    | some y => .ok y (q.take p.length)
    | none => .stuck
  | .exc e none _ q => .exc e none (q.take p.length)
  | .exc e (some x) _ q => match thaw fld p.length q x with
    | some y => .exc e (some y) (q.take p.length)
    | none => .stuck
  | _ => .stuck
def spI (Γ : Cfg) (c n : Nat) (f : FnM) : Sp := fun vs H Q E => vs.length = n ∧ ∃ L w p xs x us H0, vs = .ref x :: us ∧ SimP Γ L w p H0 ∧ Reps Γ w xs us ∧ H0 x = none ∧ (∃ dx, H0 dx = none ∧ dx ≠ x ∧ H = upd (upd H0 dx (.own x)) x (.ins (Γ.cls c) dx [])) ∧
  PostF Γ L w (f xs p) (fun v H' => v = .ref x → Q .non H') E
theorem newObj {Γ : Cfg} {L : Lv} {w : Wd} {p : Pool} {H0 : Hp} (S : SimP Γ L w p H0) {c : Nat} {x dx : Addr} (hx : H0 x = none) (hd : H0 dx = none) (ne : dx ≠ x) :
    SimP Γ (L.deeper p.length) (w.cell x) (p ++ [.obj c []]) (upd (upd H0 dx (.own x)) x (.ins (Γ.cls c) dx [])) := by
  have S1 : SimP Γ (L.deeper p.length) w p (upd H0 dx (.own x)) := by
    have S0 := S.enter
    refine ⟨fun a o e => ?_, S0.len, S0.nd, S0.hb, S0.hlo, S0.hm, fun k c a h1 h2 => ?_, S0.nt, S0.tb.ext (up_new hd)⟩
    · rw [upd_ne (ne_of_none (S0.sub a o e) hd)]
      exact S0.sub a o e
    · refine (S0.cell k c a h1 h2).step (Wd.le.refl _) (fun _ _ g => g) (up_new hd)
  have hx1 : upd H0 dx (.own x) x = none := by
    rw [upd_ne ne.symm]
    exact hx
  refine S1.newCell hx1 ⟨S.free hx, dx, [], ?_, ?_, S.free hd, Nat.zero_le _, rfl⟩
  · rw [upd_same]
    cases Γ.fld c <;> rfl
  · rw [upd_ne ne, upd_same]
theorem ok_init {Γ : Cfg} {x qual : Str} {st : Stmt} {dvs : List V} {kws : List (Str × V)} {f : Addr} {fd : FuncData} {N ps : List Str} {k n c : Nat} (F : FunD K x qual (defArgs st) (defBody st) (defScope st) dvs kws f fd) (S : FnScope N ps (defScope st)) (hn : ps.length = n) (body : R.S)
    (hb : ∀ (cdv : Value) (A : Around) (outer : List Env) (s : Shared) (H : Hp) (E : XK), Room k (A.deeper (PyProof.Rows.envOfC qual (defScope st) s.heap.objs.size f cdv)) →
      RSs (cxOf (L2.CX P w0) P w0 K mg base N qual (defScope st) f cdv A outer s H E) ⟨Γ, fun cls d _ H => E cls d H⟩ (defBody st) body) : FnOk P w0 K mg base (L2.CX P w0) (k + 1) f fd ps (spI Γ c n (iniM Γ.fld c N.length body)) := by
  refine F.ok (CX := L2.CX P w0) S (fun vs H Q E h => h.1.trans hn.symm) (fun cdv A outer s H vs Q E hr h => ⟨wS _ body, hb cdv A outer s H E hr, ?_⟩)
  obtain ⟨_, L, w, p, xs, x, us, H0, rfl, S', r, hx, ⟨dx, hd, ne, rfl⟩, h⟩ := h
  have S2 := newObj S' (c := c) hx hd ne
  have rx : Rep Γ (w.cell x) (.own p.length) (.ref x) := ⟨x, by show (w.ρ ++ [x])[p.length]? = some x; rw [← S'.len]; simp, rfl⟩
  have e1 : ((PV.own p.length :: xs).map some ++ List.replicate (N.length - (PV.own p.length :: xs).length) none) = some (.own p.length) :: (xs.map some ++ List.replicate (N.length - (xs.length + 1)) none) := by
    rw [List.map_cons, List.cons_append, List.length_cons]
  refine ⟨L.deeper p.length, w.cell x, p ++ [.obj c []], ⟨p.length, (PV.own p.length :: xs).map some ++ List.replicate (N.length - (PV.own p.length :: xs).length) none⟩, S2, EnR.start (L := L.deeper p.length) (Reps.cons rx (r.mono (w.le_cell x))), ?_⟩
  rw [e1]
  unfold iniM at h
  have lw := w.le_cell x
  cases e : body ⟨p.length, some (.own p.length) :: (xs.map some ++ List.replicate (N.length - (xs.length + 1)) none)⟩ (p ++ [.obj c []]) with
  | next en q =>
    rw [e] at h
    dsimp only at h
    split at h
    · rename_i y ey
      exact fun w' H' σ' l S3 E' => h _ H' (.ref x) (S3.le_ice (lw.trans l) S'.len) (S3.ice S'.hb S'.hlo S'.hm) (thaw_ok S3 ey (rx.mono l)) rfl
    · exact h.elim
  | exc ec ov en q =>
    rw [e] at h
    cases ov with
    | none => exact fun w' H' σ' d l S3 E' z => h _ H' d (S3.le_ice (lw.trans l) S'.len) (S3.ice S'.hb S'.hlo S'.hm) z
    | some z =>
      dsimp only at h
      split at h
      · rename_i y ey
        exact fun w' H' σ' d l S3 E' z => h _ H' d (S3.le_ice (lw.trans l) S'.len) (S3.ice S'.hb S'.hlo S'.hm) (z.sub (S3.iced_le _) fun v r => thaw_ok S3 ey r)
      · exact h.elim
  | _ =>
    rw [e] at h
    exact h.elim
end
section
variable {X : Cx} {C : Cn} {pos : Pos}
def mFn (f : FnM) (ds : List PV) (a : M (List PV)) : M PV := fun en p => (a en p).bind fun xs p1 => f (xs ++ ds) p1
def DfR : List PV → List V → Prop
  | [], vs => vs = []
  | x :: xs, vs => ∃ v r, vs = v :: r ∧ DfR xs r ∧ match x with
    | .int i => v = .int i
    | .non => v = .non
    | .bl b => v = .bl b
    | .str s => v = .str s
    | _ => False
theorem DfR.reps {Γ : Cfg} {w : Wd} : ∀ {xs : List PV} {vs : List V}, DfR xs vs → Reps Γ w xs vs
  | [], _, h => h
  | x :: xs, vs, h => by
    obtain ⟨v, r, rfl, h1, h2⟩ := h
    refine Reps.cons ?_ (DfR.reps h1)
    cases x with
    | int i => exact h2
    | non => exact h2
    | bl b => exact h2
    | str s => exact h2
    | _ => exact h2.elim
theorem PostF.of {Γ : Cfg} {W : WX} {L : Lv} {w : Wd} {σ : St} {r : Res PV} {Q : VK} (h : Post ⟨Γ, W⟩ L w σ (RV ⟨Γ, W⟩) r Q) : PostF Γ L w r Q (WE W σ) := by
  cases r with
  | ok x p => exact h
  | exc c v p => exact h
  | stuck => exact h
theorem re_fn {k n : Nat} {f : Addr} {fd : FuncData} {ps : List Str} {g : FnM} {ds : List Value} {dvs : List V} {dps : List PV} {x : Str} {p : Pos} {e : Expr} {es : List Expr} {a : M (List PV)} (F : FnOk X.prog X.w X.K X.mg X.base (L2.CX X.prog X.w) k f fd ps (spM C.Γ n g)) (hr : Room k X.A) (hg : Gl X x)
    (hm : X.mg x = some (.ref f)) (hk : PySem.W.keepIn X.K (.ref f) = true) (hb : Binds X.K fd ps ds) (hd : Vals dvs ds) (hds : DfR dps dvs) (tk : Takes X C.W) (ha : RA X C (e :: es) a) (hl : es.length + 1 + dps.length = n) (hdb : (x == ("__debug__" : Str)) = false := by decide)
    (he : starEach (e :: es) X.env = (false, eval e X.env) :: starEach es X.env := by rfl) (hpl : (backTo pos (starEach es X.env)).any (·.1) = false := by rfl) : RE X C (.Call (.Name x p) (e :: es) [] pos) (mFn g dps a) :=
  (pe_callSD F hr hg hm hk hb hd (fun σ => passAt tk σ) ha.pa hdb he hpl).imp fun σ H Q ⟨L, w, p, en, S, E, h⟩ => by
    refine ⟨L, w, p, en, S, E, ?_⟩
    unfold mFn at h
    cases ea : a en p with
    | ok xs p1 =>
      rw [ea] at h
      intro w1 H1 vs l1 S1 r1
      refine ⟨?_, L, w1, p1, xs ++ dps, S1, r1.append hds.reps, PostF.of (Post.mono l1 h)⟩
      rw [List.length_append, ← r1.length, ha.len _ _ _ _ ea, ← (hds.reps (Γ := C.Γ) (w := w)).length]
      exact hl
    | exc c v p1 =>
      rw [ea] at h
      exact h
    | stuck =>
      rw [ea] at h
      exact h
theorem run_makeSD {CX : CXT} {k : Nat} {f Ca : Addr} {fd : FuncData} {ps : List Str} {sp : Sp} {dvs : List V} {ds : List Value} {E : XK} {pins : List (Addr × Obj)} {σ : St} {H : Hp} {s : Shared} {Q : VK} {us : List Value} {vs : List V} (M : Mk X.K Ca f) (F : FnOk X.prog X.w X.K X.mg X.base CX k f fd ps sp) (hr : Room (k + 1) X.A) (hb : Binds X.K fd ps ds) (hd : Vals dvs ds)
    (hx : PassesAt CX X σ E) (I : Inv X pins σ H s) (r : Vals vs us)
    (h : ∀ x dx, H x = none → H dx = none → dx ≠ x → sp (.ref x :: (vs ++ dvs)) (upd (upd H dx (.own x)) x (.ins Ca dx [])) (fun v H2 => v = .non ∧ Q (.ref x) H2) E) :
    wpAny (model X.prog X.w) X.A (call (.ref Ca) us) (EP X pins σ Q) X.xe s := by
  have hq := h (s.heap.objs.size + 1) s.heap.objs.size (I.hok.fresh (Nat.le_succ _)) (I.hok.fresh (Nat.le_refl _)) (Nat.ne_of_lt (Nat.lt_succ_self _))
  have I2 := Inv.made (C := Ca) I
  have r2 : Vals (V.ref (s.heap.objs.size + 1) :: (vs ++ dvs)) (Value.ref (s.heap.objs.size + 1) :: (us ++ ds)) := .cons rfl (r.append hd)
  have hl : (Value.ref (s.heap.objs.size + 1) :: us ++ ds).length = ps.length := by
    have e := r2.length
    rw [F.len _ _ _ _ hq] at e
    exact e.symm
  refine wpAny_call (make_map (f := f) I.kIn M.makes M.init (beq_iff_eq.mp M.fn) (codeAny_mono (F.run _ X.stack _ _ ⟨Value.ref (s.heap.objs.size + 1) :: us, []⟩ (Value.ref (s.heap.objs.size + 1) :: (us ++ ds)) _ _ E (hr.make Ca us [])
    (I2.env0.make Ca us []) (hb _ (Value.ref (s.heap.objs.size + 1) :: us) I2.kIn hl) r2 hq) fun r s' hq' => ?_))
  cases r with
  | error e => exact hx pins _ _ e s' I2 hq'
  | ok fl =>
    cases fl with
    | ret u =>
      obtain ⟨v, H', I3, rv, ev, q3⟩ := I2.after hq'
      subst ev
      exact ⟨rv, ⟨V.ref (s.heap.objs.size + 1), H', I3, rfl, q3⟩⟩
    | next => exact False.elim hq'
    | brk => exact False.elim hq'
    | cont => exact False.elim hq'
def tMakeSD (Ca : Addr) (sp : Sp) (dvs : List V) (E : St → XK) (t : TA) : TE := fun σ H Q => t σ H fun vs H1 => ∀ x dx, H1 x = none → H1 dx = none → dx ≠ x →
  sp (.ref x :: (vs ++ dvs)) (upd (upd H1 dx (.own x)) x (.ins Ca dx [])) (fun v H2 => v = .non ∧ Q (.ref x) H2) (E σ)
theorem pe_makeSD {CX : CXT} {k : Nat} {f Ca : Addr} {fd : FuncData} {ps : List Str} {sp : Sp} {dvs : List V} {ds : List Value} {E : St → XK} {x : Str} {p : Pos} {e : Expr} {es : List Expr} {t : TA} (M : Mk X.K Ca f) (F : FnOk X.prog X.w X.K X.mg X.base CX k f fd ps sp) (hr : Room (k + 1) X.A) (hg : Gl X x) (hm : X.mg x = some (.ref Ca)) (hb : Binds X.K fd ps ds) (hd : Vals dvs ds) (hx : ∀ σ, PassesAt CX X σ (E σ))
    (ha : PA X (e :: es) t) (hdb : (x == ("__debug__" : Str)) = false := by decide) (he : starEach (e :: es) X.env = (false, eval e X.env) :: starEach es X.env := by rfl) (hpl : (backTo pos (starEach es X.env)).any (·.1) = false := by rfl) :
    PE X (.Call (.Name x p) (e :: es) [] pos) (tMakeSD Ca sp dvs E t) := by
  refine ⟨fun pins s σ H Q I h => ?_⟩
  refine wpAny_Call_Name_kw (ld_glob I hg hm ?_ hdb)
  refine PySem.W.callWith_K (h₀ := X.base) I.ok.mod.kin M.kp (thn (ha.run pos pins s σ H _ I h) fun us s1 ⟨vs, H1, I1, r, q⟩ => ⟨I1.kIn, ?_⟩) he hpl
  exact run_makeSD M F hr hb hd (hx σ) I1 r q
theorem re_make {k n c : Nat} {f : Addr} {fd : FuncData} {ps : List Str} {g : FnM} {ds : List Value} {dvs : List V} {dps : List PV} {x : Str} {p : Pos} {e : Expr} {es : List Expr} {a : M (List PV)} (M : Mk X.K (C.Γ.cls c) f) (F : FnOk X.prog X.w X.K X.mg X.base (L2.CX X.prog X.w) k f fd ps (spI C.Γ c n g)) (hr : Room (k + 1) X.A) (hg : Gl X x)
    (hm : X.mg x = some (.ref (C.Γ.cls c))) (hb : Binds X.K fd ps ds) (hd : Vals dvs ds) (hds : DfR dps dvs) (tk : Takes X C.W) (ha : RA X C (e :: es) a) (hl : es.length + 2 + dps.length = n) (hdb : (x == ("__debug__" : Str)) = false := by decide)
    (he : starEach (e :: es) X.env = (false, eval e X.env) :: starEach es X.env := by rfl) (hpl : (backTo pos (starEach es X.env)).any (·.1) = false := by rfl) : RE X C (.Call (.Name x p) (e :: es) [] pos) (mFn g dps a) :=
  (pe_makeSD M F hr hg hm hb hd (fun σ => passAt tk σ) ha.pa hdb he hpl).imp fun σ H Q ⟨L, w, p, en, S, E, h⟩ => by
    refine ⟨L, w, p, en, S, E, ?_⟩
    unfold mFn at h
    cases ea : a en p with
    | ok xs p1 =>
      rw [ea] at h
      intro w1 H1 vs l1 S1 r1 y dy hy hdy ne
      refine ⟨?_, L, w1, p1, xs ++ dps, y, vs ++ dvs, H1, rfl, S1, r1.append hds.reps, hy, ⟨dy, hdy, ne, rfl⟩, ?_⟩
      · rw [List.length_cons, List.length_append, ← r1.length, ha.len _ _ _ _ ea, ← (hds.reps (Γ := C.Γ) (w := w)).length, List.length_cons]
        omega
      · have h1 := PostF.of (Post.mono l1 h)
        show PostF C.Γ L w1 (g (xs ++ dps) p1) _ _
        cases eg : g (xs ++ dps) p1 with
        | ok z p2 =>
          have h1 : PostF C.Γ L w1 (g (xs ++ dps) p1) Q (WE C.W σ) := h1
          rw [eg] at h1
          exact fun w' H' v l S' r ev => ⟨rfl, by rw [← ev]; exact h1 w' H' v l S' r⟩
        | exc c v p2 =>
          have h1 : PostF C.Γ L w1 (g (xs ++ dps) p1) Q (WE C.W σ) := h1
          rw [eg] at h1
          exact h1
        | stuck =>
          have h1 : PostF C.Γ L w1 (g (xs ++ dps) p1) Q (WE C.W σ) := h1
          rw [eg] at h1
          exact h1
    | exc c v p1 =>
      rw [ea] at h
      exact h
    | stuck =>
      rw [ea] at h
      exact h
end
end R
namespace R
open PySem L2
section
variable {X : Cx} {C : Cn} {pos : Pos}
theorem ref_lt : RefO C (rI0 fun i j => V.bl (decide (i < j))) pLt := ref_I0 fun _ _ _ => rfl
theorem ref_le : RefO C (rI0 fun i j => V.bl (decide (i ≤ j))) pLe := ref_I0 fun _ _ _ => rfl
theorem ref_gt : RefO C (rI0 fun i j => V.bl (decide (j < i))) pGt := ref_I0 fun _ _ _ => rfl
theorem ref_ge : RefO C (rI0 fun i j => V.bl (decide (j ≤ i))) pGe := ref_I0 fun _ _ _ => rfl
def pIsN1 : F2 := fun x y p => match y with
  | .non => .ok (.bl (isNon x)) p
  | _ => .stuck
def pNotN1 : F2 := fun x y p => match y with
  | .non => .ok (.bl (!isNon x)) p
  | _ => .stuck
theorem ref_isN1 : RefO C (fun x y H Q => y = V.non ∧ Q (V.bl (decide (x = V.non))) H) pIsN1 := ref_isN
theorem ref_notN1 : RefO C (fun x y H Q => y = V.non ∧ Q (V.bl (!decide (x = V.non))) H) pNotN1 := fun L w p H σ x y vx vy Q S rx ry q => by
  cases y with
  | non =>
    cases ry
    exact ⟨rfl, by rw [isNon_ok rx]; exact q.ok S rfl⟩
  | _ => exact q.elim
def mNeg (a : M PV) : M PV := fun en p => (a en p).bind fun x p1 => match x with
  | .int i => .ok (.int (-i)) p1
  | _ => .stuck
theorem re_neg {a : Expr} {m : M PV} (h : RE X C a m) : RE X C (.UnaryOp .USub a pos) (mNeg m) := (pe_un un_neg h).imp fun σ H Q ⟨L, w, p, en, S, E, h⟩ => by
  refine ⟨L, w, p, en, S, E, h.bind fun x p1 w1 H1 v l1 S1 r1 h1 => ?_⟩
  cases x with
  | int i => exact ⟨i, r1, h1.ok S1 rfl⟩
  | _ => exact h1.elim
inductive Ty where
  | non | bl | int | str | tup | lst | cls (c : Nat) | dct
  deriving DecidableEq
def Ty.val (Γ : Cfg) : Ty → Value
  | .non => .type "NoneType"
  | .bl => .type "bool"
  | .int => .type "int"
  | .str => .type "str"
  | .tup => .type "tuple"
  | .lst => .type "list"
  | .cls c => .ref (Γ.cls c)
  | .dct => .type "dict"
def tyP (n : Nat) (p : Pool) : PV → Option Ty
  | .non => some .non
  | .bl _ => some .bl
  | .int _ => some .int
  | .str _ => some .str
  | .tup _ => some .tup
  | .lst _ => some .lst
  | .scr _ => none
  | .xs _ _ => none
  | .xv _ _ => none
  | .fn _ => none
  | .dct => some .dct
  | .adr _ => none
  | .clo _ _ => none
  | .obj c _ => if c < n then some (.cls c) else none
  | .own k => match p[k]? with
    | some (.lst _) => some .lst
    | some (.obj c _) => if c < n then some (.cls c) else none
    | _ => none
structure IsF (Γ : Cfg) (n : Nat) : Prop where
  cl : ∀ c, c < n → ClsF Γ.K Γ c
  gn : PySem.W.specialIn Γ.K (.builtin "object.__class__") "__get__" = some (some (.builtin "getset_descriptor.__get__"))
  tk : PySem.W.takesIn Γ.K (.builtin "object.__class__") = some true
theorem tyP_ok {L : Lv} {w : Wd} {p : Pool} {H : Hp} {n : Nat} (I : IsF C.Γ n) (S : SimP C.Γ L w p H) {x : PV} {v : V} {t : Ty} (r : Rep C.Γ w x v) (e : tyP n p x = some t) : TyX C.Γ.K H v (t.val C.Γ) := by
  cases x with
  | non =>
    cases e
    cases r
    exact .base .non
  | bl b =>
    cases e
    cases r
    exact .base (.bl b)
  | int i =>
    cases e
    cases r
    exact .base (.int i)
  | str s =>
    cases e
    cases r
    exact .base (.str s)
  | tup xs =>
    cases e
    obtain ⟨a, vs, rfl, q, _⟩ := r
    rcases seqT_mono S.sub q with (h | ⟨o, h⟩) | ⟨o, its, m, h, hc, _⟩
    · exact .base (.tup h)
    · exact .fTuple h
    · exact .kTuple h hc
  | lst xs =>
    cases e
    obtain ⟨a, vs, rfl, q, _⟩ := r
    exact .base (.lst (S.sub _ _ q))
  | scr ns => cases e
  | xs c t => cases e
  | xv c x => cases e
  | fn k => cases e
  | adr a => cases e
  | clo i x => cases e
  | dct =>
    cases e
    obtain ⟨a, rfl, g⟩ := r
    exact .base (.dK (S.sub _ _ g))
  | obj c xs =>
    unfold tyP at e
    dsimp only at e
    split at e
    · rename_i hc
      cases e
      obtain ⟨a, dx, vs, rfl, g, _⟩ := r
      have T := I.cl c hc
      exact .base (.ins (S.sub _ _ g) T.cls T.at_ I.gn I.tk T.mr)
    · cases e
  | own k =>
    unfold tyP at e
    dsimp only at e
    split at e
    · rename_i ys ey
      cases e
      obtain ⟨a, vs, rfl, _, _, eH, _⟩ := Rep.ownH S r ey
      exact .base (.lst eH)
    · rename_i c ys ey
      split at e
      · rename_i hc
        cases e
        obtain ⟨a, dx, vs, rfl, _, _, eH, _⟩ := Rep.objH S r ey
        have T := I.cl c hc
        exact .base (.ins eH T.cls T.at_ I.gn I.tk T.mr)
      · cases e
    · cases e
def isT (T t : Ty) : Bool := decide (t = T) || (decide (t = .bl) && decide (T = .int))
def mIsi (n : Nat) (T : Ty) (a : M PV) : M PV := fun en p => (a en p).bind fun x p1 => match tyP n p1 x with
  | some t => .ok (.bl (isT T t)) p1
  | none => .stuck
def IsA (Γ : Cfg) (n : Nat) (T : Ty) : Prop := ∀ t : Ty, (∀ c, t = .cls c → c < n) → PySem.W.kitOne Γ.K (t.val Γ) (T.val Γ) = some (isT T t)
theorem tyP_lt {n : Nat} {p : Pool} {x : PV} {c : Nat} (e : tyP n p x = some (.cls c)) : c < n := by
  cases x with
  | obj d xs =>
    unfold tyP at e
    dsimp only at e
    split at e
    · rename_i h
      cases e
      exact h
    · cases e
  | own k =>
    unfold tyP at e
    dsimp only at e
    split at e
    · cases e
    · split at e
      · rename_i h
        cases e
        exact h
      · cases e
    · cases e
  | _ => cases e
theorem re_isi {x : Str} {p : Pos} {e ce : Expr} {a : M PV} {n : Nat} {T : Ty} {c : V} (hK : X.K = C.Γ.K) (I : IsF C.Γ n) (A : IsA C.Γ n T) (ha : RE X C e a) (hce : PE X ce (tC c)) (k : ClsV c (T.val C.Γ)) (hg : Gl X "isinstance") (hm : X.mg "isinstance" = none)
    (he : starEach (e :: [ce]) X.env = (false, eval e X.env) :: starEach [ce] X.env := by rfl) (he2 : starEach (ce :: []) X.env = (false, eval ce X.env) :: starEach [] X.env := by rfl) (hpl : (backTo pos (starEach [ce] X.env)).any (·.1) = false := by rfl) :
    RE X C (.Call (.Name "isinstance" p) [e, ce] [] pos) (mIsi n T a) :=
  (pe_callB call_isi hg hm (by decide +kernel) (pa_cons ha (pa_cons hce pa_nil he2) he) (by decide) (by decide) he hpl).imp fun σ H Q ⟨L, w, p, en, S, E, h⟩ => by
    refine ⟨L, w, p, en, S, E, h.bind fun x p1 w1 H1 v l1 S1 r1 h1 => ?_⟩
    split at h1
    · rename_i t et
      rw [hK]
      exact ⟨v, c, _, _, _, rfl, k, tyP_ok I S1 r1 et, A t (fun c ec => tyP_lt (by rw [← ec]; exact et)), h1.ok S1 rfl⟩
    · exact h1.elim
theorem pe_tyN {x : Str} {p : Pos} {T : String} (hg : Gl X x) (hm : X.mg x = none) (hv : bootBuiltins x = some (.type T)) (hn : x ≠ "__name__" := by decide) (hd : (x == ("__debug__" : Str)) = false := by decide) : PE X (.Name x p) (tC (.ty T)) := pe_bltn hg hm hv rfl hn hd
theorem pe_clsN {x : Str} {p : Pos} {a : Addr} (hg : Gl X x) (hm : X.mg x = some (.ref a)) (hd : (x == ("__debug__" : Str)) = false := by decide) : PE X (.Name x p) (tC (.ref a)) := pe_glob hg hm rfl hd
theorem isA_b {Γ : Cfg} {n : Nat} {T : Ty} (hT : T = .int ∨ T = .bl ∨ T = .str ∨ T = .tup ∨ T = .lst) (h : ∀ c, c < n → PySem.W.kitOne Γ.K (.ref (Γ.cls c)) (T.val Γ) = some false) : IsA Γ n T := fun t ht => by
  cases t with
  | cls c =>
    have e : isT T (.cls c) = false := by
      rcases hT with rfl | rfl | rfl | rfl | rfl <;> rfl
    rw [e]
    exact h c (ht c rfl)
  | non => rcases hT with rfl | rfl | rfl | rfl | rfl <;> exact kit_ty (by decide +kernel)
  | bl => rcases hT with rfl | rfl | rfl | rfl | rfl <;> exact kit_ty (by decide +kernel)
  | int => rcases hT with rfl | rfl | rfl | rfl | rfl <;> exact kit_ty (by decide +kernel)
  | str => rcases hT with rfl | rfl | rfl | rfl | rfl <;> exact kit_ty (by decide +kernel)
  | tup => rcases hT with rfl | rfl | rfl | rfl | rfl <;> exact kit_ty (by decide +kernel)
  | lst => rcases hT with rfl | rfl | rfl | rfl | rfl <;> exact kit_ty (by decide +kernel)
  | dct => rcases hT with rfl | rfl | rfl | rfl | rfl <;> exact kit_ty (by decide +kernel)
theorem isA_c {Γ : Cfg} {n c : Nat} (h1 : PySem.W.kitOne Γ.K (.type "NoneType") (.ref (Γ.cls c)) = some false) (h2 : PySem.W.kitOne Γ.K (.type "bool") (.ref (Γ.cls c)) = some false) (h3 : PySem.W.kitOne Γ.K (.type "int") (.ref (Γ.cls c)) = some false)
    (h4 : PySem.W.kitOne Γ.K (.type "str") (.ref (Γ.cls c)) = some false) (h5 : PySem.W.kitOne Γ.K (.type "tuple") (.ref (Γ.cls c)) = some false) (h6 : PySem.W.kitOne Γ.K (.type "list") (.ref (Γ.cls c)) = some false) (h8 : PySem.W.kitOne Γ.K (.type "dict") (.ref (Γ.cls c)) = some false)
    (h7 : ∀ d, d < n → PySem.W.kitOne Γ.K (.ref (Γ.cls d)) (.ref (Γ.cls c)) = some (decide (d = c))) : IsA Γ n (.cls c) := fun t ht => by
  cases t with
  | cls d =>
    have e : isT (.cls c) (.cls d) = decide (d = c) := by
      unfold isT
      by_cases h : d = c
      · subst h
        simp
      · simp [h]
    rw [e]
    exact h7 d (ht d rfl)
  | non => exact h1
  | bl => exact h2
  | int => exact h3
  | str => exact h4
  | tup => exact h5
  | lst => exact h6
  | dct => exact h8
end
end R
namespace R
section
open PySem PySem.SeqAt
open AutoSeq1 (wpAny_loadPart')
open MeetsSeq MeetsSeq2 MeetsSeq3 SeqRoads2
variable {prog : Program} {w : World} {A : Around} {R0 : Result → Shared → Prop}
def TwoL (prog : Program) (w : World) (A : Around) (E : Value → Shared → Prop) (l b : Addr) (N : Nat) (I : Nat → Shared → Prop) (Bad : Shared → Prop) : Prop :=
  ∀ i s, I i s → ∃ (xs ys : Array Value) (n m : Nat), s.heap.get? l = some { cls := .type "list", data := .seq xs n } ∧ s.heap.get? b = some { cls := .type "list", data := .seq ys m } ∧ xs.size = N ∧ ys.size = N ∧
    ∀ (h1 : i < xs.size) (h2 : i < ys.size), wpAny (model prog w) A.in1 (eqBool xs[i] ys[i]) (fun r t => (r = true ∧ I (i + 1) t) ∨ (r = false ∧ ∃ zs us n' m', t.heap.get? l = some { cls := .type "list", data := .seq zs n' } ∧ t.heap.get? b = some { cls := .type "list", data := .seq us m' } ∧ zs.size = N ∧ us.size = N ∧ Bad t)) E s
theorem loopE (l b : Addr) (N : Nat) (I : Nat → Shared → Prop) (Bad : Shared → Prop) (hl : TwoL prog w A (fun e t => R0 (.error e) t) l b N I Bad) (fin : ∀ s, I N s → R0 (.ok (.ret (.bool true))) s) (bad : ∀ s, Bad s → R0 (.ok (.ret (.bool false))) s) (k : Nat) :
    ∀ i : Nat, N - i = k → i ≤ N → ∀ s, I i s → wpAny (model prog w) A.in1 (Builtin.«list.__eq__.loop» ⟨[.ref l, .ref b, rawInt i, rawInt 2], []⟩) (GQ.FinOf prog w A R0) (fun e t => R0 (.error e) t) s := by
  induction k with
  | zero =>
    intro i hk hi s h
    obtain ⟨xs, ys, n, m, hl1, hb1, hs1, hs2, _⟩ := hl _ _ h
    have ei : i = N := by omega
    have hR : R0 (.ok (.ret (.bool true))) s := fin s (ei ▸ h)
    obtain ⟨hp, g, d, tk, os⟩ := s
    wp_walk using wpAny_loadPart' hl1, wpAny_loadPart' hb1
    have hx : xs[((i : Nat) : Int).toNat]? = none := by simp; omega
    have hy : ys[((i : Nat) : Int).toNat]? = none := by simp; omega
    rw [hx, hy]
    wp_walk using wpAny_loadPart' hl1, wpAny_loadPart' hb1
    show R0 (.ok (.ret (.bool (xs.size == ys.size)))) _
    rw [hs1, hs2]
    simpa using hR
  | succ k ih =>
    intro i hk hi s h
    obtain ⟨xs, ys, n, m, hl1, hb1, hs1, hs2, turn⟩ := hl _ _ h
    have h1 : i < xs.size := by omega
    have h2 : i < ys.size := by omega
    have ht := turn h1 h2
    obtain ⟨hp, g, d, tk, os⟩ := s
    wp_walk using wpAny_loadPart' hl1, wpAny_loadPart' hb1
    have hx : xs[((i : Nat) : Int).toNat]? = some xs[i] := by simp [h1]
    have hy : ys[((i : Nat) : Int).toNat]? = some ys[i] := by simp [h2]
    have ec : ((i : Int) + 1) = ((i + 1 : Nat) : Int) := by omega
    rw [hx, hy]
    refine wpAny_bind (wpAny_mono ht (fun r t q => ?_) fun _ _ x => x)
    rcases q with ⟨rfl, q⟩ | ⟨rfl, zs, us, n', m', hl2, hb2, hz, hu, q⟩
    · have hrec := ih (i + 1) (by omega) (by omega) t q
      obtain ⟨hp2, g2, d2, tk2, os2⟩ := t
      wp_walk
      rw [ec]
      exact ⟨plainId_quiet plain_eq_loop _, codeAny_builtin entry_eq_loop (by
        rw [Around.under_plainId plain_eq_loop _]; exact hrec)⟩
    · have hR := bad t q
      obtain ⟨hp2, g2, d2, tk2, os2⟩ := t
      have hx2 : zs[((i : Nat) : Int).toNat]? = some (zs[i]'(by omega)) := by simp
      have hy2 : us[((i : Nat) : Int).toNat]? = some (us[i]'(by omega)) := by simp
      wp_walk using wpAny_loadPart' hl2, wpAny_loadPart' hb2
      rw [hx2, hy2]
      wp_walk using wpAny_loadPart' hl2, wpAny_loadPart' hb2
      exact hR
theorem listE (l b : Addr) (N : Nat) (I : Nat → Shared → Prop) (Bad : Shared → Prop) (hl : TwoL prog w A (fun e t => R0 (.error e) t) l b N I Bad) (fin : ∀ s, I N s → R0 (.ok (.ret (.bool true))) s) (bad : ∀ s, Bad s → R0 (.ok (.ret (.bool false))) s) {s : Shared} (h : I 0 s) :
    wpAny (model prog w) A.in1 (Builtin.«list.__eq__» ⟨[.ref l, .ref b], []⟩) (GQ.FinOf prog w A R0) (fun e t => R0 (.error e) t) s := by
  obtain ⟨xs, ys, n, m, hl1, hb1, hs1, hs2, _⟩ := hl _ _ h
  have hrec := loopE (A := A) (R0 := R0) l b N I Bad hl fin bad _ 0 rfl (Nat.zero_le _) s h
  obtain ⟨hp, g, d, tk, os⟩ := s
  have f3 := AutoSeq1.sub_list_list
  have hne : ¬ (xs.size != ys.size) = true := by simp [hs1, hs2]
  wp_walk using wpAny_loadPart' hl1, wpAny_loadPart' hb1
  exact ⟨plainId_quiet plain_eq_loop _, codeAny_builtin entry_eq_loop (by
    rw [Around.under_plainId plain_eq_loop _]; exact hrec)⟩
theorem listNE (l b : Addr) (xs ys : Array Value) (n m : Nat) (hne : xs.size ≠ ys.size) {s : Shared} (hl1 : s.heap.get? l = some { cls := .type "list", data := .seq xs n }) (hb1 : s.heap.get? b = some { cls := .type "list", data := .seq ys m }) (hR : R0 (.ok (.ret (.bool false))) s) :
    wpAny (model prog w) A.in1 (Builtin.«list.__eq__» ⟨[.ref l, .ref b], []⟩) (GQ.FinOf prog w A R0) (fun e t => R0 (.error e) t) s := by
  obtain ⟨hp, g, d, tk, os⟩ := s
  have f3 := AutoSeq1.sub_list_list
  have hne' : (xs.size != ys.size) = true := by simpa using hne
  wp_walk using wpAny_loadPart' hl1, wpAny_loadPart' hb1
  exact hR
theorem tupE (l b : Addr) (xs ys : Array Value) (n m : Nat) (dd dd2 : Option Addr) (sl sl2 : Array (Option Value)) (I : Nat → Shared → Prop) (Bad : Shared → Prop)
    (turn : ∀ i (h1 : i < xs.size) (h2 : i < ys.size) s, I i s → wpAny (model prog w) A.in1 (eqBool xs[i] ys[i]) (fun r t => (r = true ∧ I (i + 1) t) ∨ (r = false ∧ Bad t)) (fun e t => R0 (.error e) t) s)
    (fin : ∀ s, I (min xs.size ys.size) s → R0 (.ok (.ret (.bool (xs.size == ys.size)))) s) (bad : ∀ s, Bad s → R0 (.ok (.ret (.bool false))) s) {s : Shared} (hl1 : s.heap.get? l = some { cls := .type "tuple", dict := dd, data := .seq xs n, slots := sl }) (hb1 : s.heap.get? b = some { cls := .type "tuple", dict := dd2, data := .seq ys m, slots := sl2 }) (h : I 0 s) :
    wpAny (model prog w) A.in1 (Builtin.«tuple.__eq__» ⟨[.ref l, .ref b], []⟩) (GQ.FinOf prog w A R0) (fun e t => R0 (.error e) t) s := by
  have f2 := AutoSeq1.sub_tuple_tuple
  have hZ : (xs.toList.zip ys.toList).length = min xs.size ys.size := by simp
  have h0 := h
  obtain ⟨hp, g, d, tk, os⟩ := s
  wp_walk using wpAny_loadPart' hl1, wpAny_loadPart' hb1, wpAny_forIn_list _ (fun rest b s' => (b.1 = none ∧ ∃ i, rest = (xs.toList.zip ys.toList).drop i ∧ i ≤ min xs.size ys.size ∧ I i s')) _
  case turn =>
    rintro ⟨y, x⟩ rest b s' ⟨hb', i, hz, hi, hI⟩
    have hlt : i < (xs.toList.zip ys.toList).length := by
      rcases Nat.lt_or_ge i (xs.toList.zip ys.toList).length with h' | h'
      · exact h'
      · rw [List.drop_of_length_le h'] at hz; cases hz
    have h1 : i < xs.size := by omega
    have h2 : i < ys.size := by omega
    rw [List.drop_eq_getElem_cons hlt] at hz
    injection hz with hyx hrest
    have ey : y = xs[i] := by have := congrArg Prod.fst hyx; simpa using this
    have ex : x = ys[i] := by have := congrArg Prod.snd hyx; simpa using this
    subst ey ex
    refine wpAny_bind (wpAny_mono (turn i h1 h2 s' hI) (fun r s2 q2 => ?_) fun _ _ x => x)
    rcases q2 with ⟨rfl, q2⟩ | ⟨rfl, q2⟩
    · wp_walk
      exact ⟨rfl, i + 1, hrest, by omega, q2⟩
    · have hR := bad s2 q2
      wp_walk
      exact hR
  case fin =>
    rintro ⟨b1, b2⟩ s' ⟨hb', i, hz, hi, hI⟩
    simp only at hb'
    subst hb'
    have hge : min xs.size ys.size ≤ i := by
      rcases Nat.lt_or_ge i (xs.toList.zip ys.toList).length with h' | h'
      · rw [List.drop_eq_getElem_cons h'] at hz; cases hz
      · exact hZ ▸ h'
    have ei : i = min xs.size ys.size := by omega
    have hR := fin s' (ei ▸ hI)
    wp_walk
    simpa [Builtin.Tuple.tupleCompareSizes] using hR
  case h =>
    exact ⟨rfl, 0, rfl, Nat.zero_le _, h0⟩
theorem loopN (l b : Addr) (N : Nat) (I : Nat → Shared → Prop) (Bad : Shared → Prop) (hl : TwoL prog w A (fun e t => R0 (.error e) t) l b N I Bad) (fin : ∀ s, I N s → R0 (.ok (.ret (.bool false))) s) (bad : ∀ s, Bad s → R0 (.ok (.ret (.bool true))) s) (k : Nat) :
    ∀ i : Nat, N - i = k → i ≤ N → ∀ s, I i s → wpAny (model prog w) A.in1 (Builtin.«list.__eq__.loop» ⟨[.ref l, .ref b, rawInt i, rawInt 3], []⟩) (GQ.FinOf prog w A R0) (fun e t => R0 (.error e) t) s := by
  induction k with
  | zero =>
    intro i hk hi s h
    obtain ⟨xs, ys, n, m, hl1, hb1, hs1, hs2, _⟩ := hl _ _ h
    have ei : i = N := by omega
    have hR : R0 (.ok (.ret (.bool false))) s := fin s (ei ▸ h)
    obtain ⟨hp, g, d, tk, os⟩ := s
    wp_walk using wpAny_loadPart' hl1, wpAny_loadPart' hb1
    have hx : xs[((i : Nat) : Int).toNat]? = none := by simp; omega
    have hy : ys[((i : Nat) : Int).toNat]? = none := by simp; omega
    rw [hx, hy]
    wp_walk using wpAny_loadPart' hl1, wpAny_loadPart' hb1
    show R0 (.ok (.ret (.bool (xs.size != ys.size)))) _
    rw [hs1, hs2]
    simpa using hR
  | succ k ih =>
    intro i hk hi s h
    obtain ⟨xs, ys, n, m, hl1, hb1, hs1, hs2, turn⟩ := hl _ _ h
    have h1 : i < xs.size := by omega
    have h2 : i < ys.size := by omega
    have ht := turn h1 h2
    obtain ⟨hp, g, d, tk, os⟩ := s
    wp_walk using wpAny_loadPart' hl1, wpAny_loadPart' hb1
    have hx : xs[((i : Nat) : Int).toNat]? = some xs[i] := by simp [h1]
    have hy : ys[((i : Nat) : Int).toNat]? = some ys[i] := by simp [h2]
    have ec : ((i : Int) + 1) = ((i + 1 : Nat) : Int) := by omega
    rw [hx, hy]
    refine wpAny_bind (wpAny_mono ht (fun r t q => ?_) fun _ _ x => x)
    rcases q with ⟨rfl, q⟩ | ⟨rfl, zs, us, n', m', hl2, hb2, hz, hu, q⟩
    · have hrec := ih (i + 1) (by omega) (by omega) t q
      obtain ⟨hp2, g2, d2, tk2, os2⟩ := t
      wp_walk
      rw [ec]
      exact ⟨plainId_quiet plain_eq_loop _, codeAny_builtin entry_eq_loop (by
        rw [Around.under_plainId plain_eq_loop _]; exact hrec)⟩
    · have hR := bad t q
      obtain ⟨hp2, g2, d2, tk2, os2⟩ := t
      have hx2 : zs[((i : Nat) : Int).toNat]? = some (zs[i]'(by omega)) := by simp
      have hy2 : us[((i : Nat) : Int).toNat]? = some (us[i]'(by omega)) := by simp
      wp_walk using wpAny_loadPart' hl2, wpAny_loadPart' hb2
      rw [hx2, hy2]
      wp_walk using wpAny_loadPart' hl2, wpAny_loadPart' hb2
      exact hR
theorem listN (l b : Addr) (N : Nat) (I : Nat → Shared → Prop) (Bad : Shared → Prop) (hl : TwoL prog w A (fun e t => R0 (.error e) t) l b N I Bad) (fin : ∀ s, I N s → R0 (.ok (.ret (.bool false))) s) (bad : ∀ s, Bad s → R0 (.ok (.ret (.bool true))) s) {s : Shared} (h : I 0 s) :
    wpAny (model prog w) A.in1 (Builtin.«list.__ne__» ⟨[.ref l, .ref b], []⟩) (GQ.FinOf prog w A R0) (fun e t => R0 (.error e) t) s := by
  obtain ⟨xs, ys, n, m, hl1, hb1, hs1, hs2, _⟩ := hl _ _ h
  have hrec := loopN (A := A) (R0 := R0) l b N I Bad hl fin bad _ 0 rfl (Nat.zero_le _) s h
  obtain ⟨hp, g, d, tk, os⟩ := s
  have f3 := AutoSeq1.sub_list_list
  have hne : ¬ (xs.size != ys.size) = true := by simp [hs1, hs2]
  wp_walk using wpAny_loadPart' hl1, wpAny_loadPart' hb1
  exact ⟨plainId_quiet plain_eq_loop _, codeAny_builtin entry_eq_loop (by
    rw [Around.under_plainId plain_eq_loop _]; exact hrec)⟩
theorem listNN (l b : Addr) (xs ys : Array Value) (n m : Nat) (hne : xs.size ≠ ys.size) {s : Shared} (hl1 : s.heap.get? l = some { cls := .type "list", data := .seq xs n }) (hb1 : s.heap.get? b = some { cls := .type "list", data := .seq ys m }) (hR : R0 (.ok (.ret (.bool true))) s) :
    wpAny (model prog w) A.in1 (Builtin.«list.__ne__» ⟨[.ref l, .ref b], []⟩) (GQ.FinOf prog w A R0) (fun e t => R0 (.error e) t) s := by
  obtain ⟨hp, g, d, tk, os⟩ := s
  have f3 := AutoSeq1.sub_list_list
  have hne' : (xs.size != ys.size) = true := by simpa using hne
  wp_walk using wpAny_loadPart' hl1, wpAny_loadPart' hb1
  exact hR
theorem tupN (l b : Addr) (xs ys : Array Value) (n m : Nat) (dd dd2 : Option Addr) (sl sl2 : Array (Option Value)) (I : Nat → Shared → Prop) (Bad : Shared → Prop)
    (turn : ∀ i (h1 : i < xs.size) (h2 : i < ys.size) s, I i s → wpAny (model prog w) A.in1 (eqBool xs[i] ys[i]) (fun r t => (r = true ∧ I (i + 1) t) ∨ (r = false ∧ Bad t)) (fun e t => R0 (.error e) t) s)
    (fin : ∀ s, I (min xs.size ys.size) s → R0 (.ok (.ret (.bool (xs.size != ys.size)))) s) (bad : ∀ s, Bad s → R0 (.ok (.ret (.bool true))) s) {s : Shared} (hl1 : s.heap.get? l = some { cls := .type "tuple", dict := dd, data := .seq xs n, slots := sl }) (hb1 : s.heap.get? b = some { cls := .type "tuple", dict := dd2, data := .seq ys m, slots := sl2 }) (h : I 0 s) :
    wpAny (model prog w) A.in1 (Builtin.«tuple.__ne__» ⟨[.ref l, .ref b], []⟩) (GQ.FinOf prog w A R0) (fun e t => R0 (.error e) t) s := by
  have f2 := AutoSeq1.sub_tuple_tuple
  have hZ : (xs.toList.zip ys.toList).length = min xs.size ys.size := by simp
  have h0 := h
  obtain ⟨hp, g, d, tk, os⟩ := s
  wp_walk using wpAny_loadPart' hl1, wpAny_loadPart' hb1, wpAny_forIn_list _ (fun rest b s' => (b.1 = none ∧ ∃ i, rest = (xs.toList.zip ys.toList).drop i ∧ i ≤ min xs.size ys.size ∧ I i s')) _
  case turn =>
    rintro ⟨y, x⟩ rest b s' ⟨hb', i, hz, hi, hI⟩
    have hlt : i < (xs.toList.zip ys.toList).length := by
      rcases Nat.lt_or_ge i (xs.toList.zip ys.toList).length with h' | h'
      · exact h'
      · rw [List.drop_of_length_le h'] at hz; cases hz
    have h1 : i < xs.size := by omega
    have h2 : i < ys.size := by omega
    rw [List.drop_eq_getElem_cons hlt] at hz
    injection hz with hyx hrest
    have ey : y = xs[i] := by have := congrArg Prod.fst hyx; simpa using this
    have ex : x = ys[i] := by have := congrArg Prod.snd hyx; simpa using this
    subst ey ex
    refine wpAny_bind (wpAny_mono (turn i h1 h2 s' hI) (fun r s2 q2 => ?_) fun _ _ x => x)
    rcases q2 with ⟨rfl, q2⟩ | ⟨rfl, q2⟩
    · wp_walk
      exact ⟨rfl, i + 1, hrest, by omega, q2⟩
    · have hR := bad s2 q2
      wp_walk
      exact hR
  case fin =>
    rintro ⟨b1, b2⟩ s' ⟨hb', i, hz, hi, hI⟩
    simp only at hb'
    subst hb'
    have hge : min xs.size ys.size ≤ i := by
      rcases Nat.lt_or_ge i (xs.toList.zip ys.toList).length with h' | h'
      · rw [List.drop_eq_getElem_cons h'] at hz; cases hz
      · exact hZ ▸ h'
    have ei : i = min xs.size ys.size := by omega
    have hR := fin s' (ei ▸ hI)
    wp_walk
    simpa [Builtin.Tuple.tupleCompareSizes] using hR
  case h =>
    exact ⟨rfl, 0, rfl, Nat.zero_le _, h0⟩
end
section
open PySem PySem.SeqAt
variable {prog : Program} {w : World} {A : Around} {E : Value → Shared → Prop} {s : Shared}
theorem rcLE {l b : Addr} {N : Nat} {Q : Value → Shared → Prop} (hu : A.units < cLine) (I : Nat → Shared → Prop) (Bad : Shared → Prop) (hl : TwoL prog w A E l b N I Bad)
    (fin : ∀ s, I N s → Q (.bool true) s) (bad : ∀ s, Bad s → Q (.bool false) s) (h : I 0 s) : wpAny (model prog w) A (richCompare .Eq (.ref l) (.ref b)) Q E s := by
  obtain ⟨xs, ys, n, m, hl1, hb1, _, _, _⟩ := hl _ _ h
  refine wpAny_richCompare_same_room (op := .Eq) ⟨_, hl1, rfl⟩ ⟨_, hb1, rfl⟩ F.slot_list_eq (GQ.call_here F.slot_list_eq ⟨_, hl1, rfl⟩ F.entry_list_eq (F.args_list_eq_2 _ _) ?_) hu
  exact listE (R0 := wants (fun v s' => v ≠ .notImplemented ∧ Q v s') E) l b N I Bad hl (fun s' q => ⟨(fun x => nomatch x), fin s' q⟩) (fun s' q => ⟨(fun x => nomatch x), bad s' q⟩) h
theorem rcLNE {l b : Addr} {xs ys : Array Value} {n m : Nat} {Q : Value → Shared → Prop} (hu : A.units < cLine) (hne : xs.size ≠ ys.size) (hl1 : s.heap.get? l = some { cls := .type "list", data := .seq xs n }) (hb1 : s.heap.get? b = some { cls := .type "list", data := .seq ys m })
    (h : Q (.bool false) s) : wpAny (model prog w) A (richCompare .Eq (.ref l) (.ref b)) Q E s := by
  refine wpAny_richCompare_same_room (op := .Eq) ⟨_, hl1, rfl⟩ ⟨_, hb1, rfl⟩ F.slot_list_eq (GQ.call_here F.slot_list_eq ⟨_, hl1, rfl⟩ F.entry_list_eq (F.args_list_eq_2 _ _) ?_) hu
  exact listNE (R0 := wants (fun v s' => v ≠ .notImplemented ∧ Q v s') E) l b xs ys n m hne hl1 hb1 ⟨(fun x => nomatch x), h⟩
theorem rcTE {l b : Addr} {xs ys : Array Value} {Q : Value → Shared → Prop} (hu : A.units < cLine) (I : Nat → Shared → Prop) (Bad : Shared → Prop) (hl : s.heap.IsTuple l xs) (hb : s.heap.IsTuple b ys)
    (turn : ∀ i (h1 : i < xs.size) (h2 : i < ys.size) s, I i s → wpAny (model prog w) A.in1 (eqBool xs[i] ys[i]) (fun r t => (r = true ∧ I (i + 1) t) ∨ (r = false ∧ Bad t)) E s)
    (fin : ∀ s, I (min xs.size ys.size) s → Q (.bool (xs.size == ys.size)) s) (bad : ∀ s, Bad s → Q (.bool false) s) (h : I 0 s) : wpAny (model prog w) A (richCompare .Eq (.ref l) (.ref b)) Q E s := by
  obtain ⟨⟨c1, d1, e1, s1⟩, ho, hc, n, hd⟩ := id hl
  obtain ⟨⟨c2, d2, e2, s2⟩, ho2, hc2, n2, hd2⟩ := id hb
  simp only at hc hd hc2 hd2
  subst hc hd hc2 hd2
  refine wpAny_richCompare_same_room (op := .Eq) ⟨_, ho, rfl⟩ ⟨_, ho2, rfl⟩ F.slot_tuple_eq (GQ.call_here F.slot_tuple_eq ⟨_, ho, rfl⟩ F.entry_tuple_eq (F.args_tuple_eq_2 _ _) ?_) hu
  exact tupE (R0 := wants (fun v s' => v ≠ .notImplemented ∧ Q v s') E) l b xs ys n n2 d1 d2 s1 s2 I Bad turn (fun s' q => ⟨(fun x => nomatch x), fin s' q⟩) (fun s' q => ⟨(fun x => nomatch x), bad s' q⟩) ho ho2 h
theorem rcLN {l b : Addr} {N : Nat} {Q : Value → Shared → Prop} (hu : A.units < cLine) (I : Nat → Shared → Prop) (Bad : Shared → Prop) (hl : TwoL prog w A E l b N I Bad)
    (fin : ∀ s, I N s → Q (.bool false) s) (bad : ∀ s, Bad s → Q (.bool true) s) (h : I 0 s) : wpAny (model prog w) A (richCompare .NotEq (.ref l) (.ref b)) Q E s := by
  obtain ⟨xs, ys, n, m, hl1, hb1, _, _, _⟩ := hl _ _ h
  refine wpAny_richCompare_same_room (op := .NotEq) ⟨_, hl1, rfl⟩ ⟨_, hb1, rfl⟩ F.slot_list_ne (GQ.call_here F.slot_list_ne ⟨_, hl1, rfl⟩ F.entry_list_ne (F.args_list_ne_2 _ _) ?_) hu
  exact listN (R0 := wants (fun v s' => v ≠ .notImplemented ∧ Q v s') E) l b N I Bad hl (fun s' q => ⟨(fun x => nomatch x), fin s' q⟩) (fun s' q => ⟨(fun x => nomatch x), bad s' q⟩) h
theorem rcLNN {l b : Addr} {xs ys : Array Value} {n m : Nat} {Q : Value → Shared → Prop} (hu : A.units < cLine) (hne : xs.size ≠ ys.size) (hl1 : s.heap.get? l = some { cls := .type "list", data := .seq xs n }) (hb1 : s.heap.get? b = some { cls := .type "list", data := .seq ys m })
    (h : Q (.bool true) s) : wpAny (model prog w) A (richCompare .NotEq (.ref l) (.ref b)) Q E s := by
  refine wpAny_richCompare_same_room (op := .NotEq) ⟨_, hl1, rfl⟩ ⟨_, hb1, rfl⟩ F.slot_list_ne (GQ.call_here F.slot_list_ne ⟨_, hl1, rfl⟩ F.entry_list_ne (F.args_list_ne_2 _ _) ?_) hu
  exact listNN (R0 := wants (fun v s' => v ≠ .notImplemented ∧ Q v s') E) l b xs ys n m hne hl1 hb1 ⟨(fun x => nomatch x), h⟩
theorem rcTN {l b : Addr} {xs ys : Array Value} {Q : Value → Shared → Prop} (hu : A.units < cLine) (I : Nat → Shared → Prop) (Bad : Shared → Prop) (hl : s.heap.IsTuple l xs) (hb : s.heap.IsTuple b ys)
    (turn : ∀ i (h1 : i < xs.size) (h2 : i < ys.size) s, I i s → wpAny (model prog w) A.in1 (eqBool xs[i] ys[i]) (fun r t => (r = true ∧ I (i + 1) t) ∨ (r = false ∧ Bad t)) E s)
    (fin : ∀ s, I (min xs.size ys.size) s → Q (.bool (xs.size != ys.size)) s) (bad : ∀ s, Bad s → Q (.bool true) s) (h : I 0 s) : wpAny (model prog w) A (richCompare .NotEq (.ref l) (.ref b)) Q E s := by
  obtain ⟨⟨c1, d1, e1, s1⟩, ho, hc, n, hd⟩ := id hl
  obtain ⟨⟨c2, d2, e2, s2⟩, ho2, hc2, n2, hd2⟩ := id hb
  simp only at hc hd hc2 hd2
  subst hc hd hc2 hd2
  refine wpAny_richCompare_same_room (op := .NotEq) ⟨_, ho, rfl⟩ ⟨_, ho2, rfl⟩ F.slot_tuple_ne (GQ.call_here F.slot_tuple_ne ⟨_, ho, rfl⟩ F.entry_tuple_ne (F.args_tuple_ne_2 _ _) ?_) hu
  exact tupN (R0 := wants (fun v s' => v ≠ .notImplemented ∧ Q v s') E) l b xs ys n n2 d1 d2 s1 s2 I Bad turn (fun s' q => ⟨(fun x => nomatch x), fin s' q⟩) (fun s' q => ⟨(fun x => nomatch x), bad s' q⟩) ho ho2 h
end
end R
namespace R
open PySem L2
open PySem.W (Looks)
def toS : PV → Option V
  | .non => some .non
  | .bl b => some (.bl b)
  | .int i => some (.int i)
  | .str s => some (.str s)
  | _ => none
def eqS (x y : PV) : Option Bool := match toS x, toS y with
  | some a, some b => some (eqV a b)
  | _, _ => none
def eqO : List PV → List PV → Option Bool
  | [.int a, .int b], [.int c, .int d] => some (decide (a = c) && decide (b = d))
  | _, _ => none
def eqT (f : PV → PV → Option Bool) : List PV → List PV → Option Bool
  | [], [] => some true
  | [], _ :: _ => some false
  | _ :: _, [] => some false
  | x :: xs, y :: ys => match f x y with
    | some true => eqT f xs ys
    | some false => some false
    | none => none
def eqv : Nat → PV → PV → Option Bool
  | 0, x, y => eqS x y
  | n + 1, x, y => match x, y with
    | .tup xs, .tup ys => eqT (eqv n) xs ys
    | .lst xs, .lst ys => if xs.length = ys.length then eqT (eqv n) xs ys else some false
    | .obj c xs, .obj d ys => if c = 0 ∧ d = 0 then eqO xs ys else none
    | x, y => eqS x y
noncomputable def noTab (H : Hp) : Hp := fun a => match H a with
  | some (.tbl _) => none
  | o => o
theorem noTab_sub {H : Hp} : ∀ a o, noTab H a = some o → H a = some o := fun a o e => by
  unfold noTab at e
  split at e
  · cases e
  · exact e
theorem noTab_nt {H : Hp} : ∀ a ps, noTab H a ≠ some (.tbl ps) := fun a ps e => by
  have e2 := noTab_sub a _ e
  unfold noTab at e
  rw [e2] at e
  cases e
theorem noTab_of {H : Hp} {a : Addr} {o : HO} (e : H a = some o) (n : ∀ ps, o ≠ .tbl ps) : noTab H a = some o := by
  unfold noTab
  split
  · rename_i ps z
    rw [e] at z
    exact absurd (Option.some.inj z) (n ps)
  · exact e
theorem noTab_not {H : Hp} {a : Addr} {o : HO} (e : noTab H a = some o) : ∀ ps, o ≠ .tbl ps := fun ps z => noTab_nt a ps (z ▸ e)
noncomputable abbrev ice0 (H : Hp) : Wd := ⟨noTab H, []⟩
structure Ext (T : List (Addr × Str)) (H H' : Hp) : Prop where
  n : ∀ a o, H a = some o → (∀ ps, o ≠ .tbl ps) → H' a = some o
  tb : LamX.Tabs T H → LamX.Tabs T H'
theorem Ext.rfl' {T : List (Addr × Str)} {H : Hp} : Ext T H H := ⟨fun _ _ e _ => e, id⟩
theorem Ext.trans {T : List (Addr × Str)} {H H1 H2 : Hp} (a : Ext T H H1) (b : Ext T H1 H2) : Ext T H H2 := ⟨fun c o e n => b.n c o (a.n c o e n) n, fun t => b.tb (a.tb t)⟩
theorem toS_ok {Γ : Cfg} {w : Wd} {x : PV} {v a : V} (r : Rep Γ w x v) (e : toS x = some a) : v = a ∧ flatV a = true := by
  cases x with
  | non =>
    cases e
    exact ⟨r, rfl⟩
  | bl b =>
    cases e
    exact ⟨r, rfl⟩
  | int i =>
    cases e
    exact ⟨r, rfl⟩
  | str s =>
    cases e
    exact ⟨r, rfl⟩
  | _ => cases e
def EqB (X : Cx) (Γ : Cfg) (n : Nat) (f : PV → PV → Option Bool) : Prop := ∀ (A : Around) (pins : List (Addr × Obj)) (s : Shared) (σ : St) (H : Hp) (x y : PV) (b : Bool) (vx vy : V) (u v : Value), Sub X n A → Inv X pins σ H s → LamX.Tabs Γ.tabs H → Rep Γ (ice0 H) x vx → Rep Γ (ice0 H) y vy → f x y = some b → RelV vx u → RelV vy v →
  wpAny (model X.prog X.w) A (eqBool u v) (fun r s' => r = b ∧ ∃ H', Inv X pins σ H' s' ∧ Ext Γ.tabs H H') X.xe s
def RcB (X : Cx) (Γ : Cfg) (op : CmpOp) (n : Nat) (f : PV → PV → Option Bool) : Prop := ∀ (A : Around) (pins : List (Addr × Obj)) (s : Shared) (σ : St) (H : Hp) (x y : PV) (b : Bool) (vx vy : V) (u v : Value), Sub X n A → Inv X pins σ H s → LamX.Tabs Γ.tabs H → Rep Γ (ice0 H) x vx → Rep Γ (ice0 H) y vy → f x y = some b → RelV vx u → RelV vy v →
  wpAny (model X.prog X.w) A (richCompare op u v) (fun r s' => r = .bool b ∧ ∃ H', Inv X pins σ H' s' ∧ Ext Γ.tabs H H') X.xe s
theorem ice_le {T : List (Addr × Str)} {H H' : Hp} (e : Ext T H H') : (ice0 H).le (ice0 H') := ⟨fun a o ea => noTab_of (e.n a o (noTab_sub a o ea) (noTab_not ea)) (noTab_not ea), List.prefix_refl _⟩
section
variable {X : Cx} {Γ : Cfg} {n : Nat}
theorem EqB.mono {m : Nat} {f : PV → PV → Option Bool} (h : EqB X Γ n f) (l : n ≤ m) : EqB X Γ m f := fun A pins s σ H x y b vx vy u v sb => h A pins s σ H x y b vx vy u v (sb.mono l)
theorem eqB_S : EqB X Γ 0 eqS := fun A pins s σ H x y b vx vy u v sb I hT rx ry e ru rv => by
  unfold eqS at e
  cases e1 : toS x with
  | none =>
    rw [e1] at e
    cases e
  | some a =>
    cases e2 : toS y with
    | none =>
      rw [e1, e2] at e
      cases e
    | some c =>
      rw [e1, e2] at e
      cases e
      obtain ⟨rfl, f1⟩ := toS_ok rx e1
      obtain ⟨rfl, f2⟩ := toS_ok ry e2
      exact eqAt_V (A := A) (s := s) ru rv f1 f2 X.prog X.w X.xe _ ⟨rfl, H, I, Ext.rfl'⟩
def Lp (X : Cx) (Γ : Cfg) (pins : List (Addr × Obj)) (σ : St) (H : Hp) (s' : Shared) : Prop := ∃ H', Inv X pins σ H' s' ∧ Ext Γ.tabs H H'
theorem eqT_at {f : PV → PV → Option Bool} {b : Bool} : ∀ {xs ys : List PV} {i : Nat}, eqT f (xs.drop i) (ys.drop i) = some b → (h1 : i < xs.length) → (h2 : i < ys.length) → (f xs[i] ys[i] = some true ∧ eqT f (xs.drop (i + 1)) (ys.drop (i + 1)) = some b) ∨ (f xs[i] ys[i] = some false ∧ b = false) := fun {xs ys i} e h1 h2 => by
  rw [List.drop_eq_getElem_cons h1, List.drop_eq_getElem_cons h2] at e
  unfold eqT at e
  split at e
  · rename_i q
    exact .inl ⟨q, e⟩
  · rename_i q
    cases e
    exact .inr ⟨q, rfl⟩
  · cases e
theorem eqT_end {f : PV → PV → Option Bool} {b : Bool} {xs ys : List PV} (e : eqT f (xs.drop (min xs.length ys.length)) (ys.drop (min xs.length ys.length)) = some b) : b = decide (xs.length = ys.length) := by
  rcases Nat.lt_trichotomy xs.length ys.length with h | h | h
  · rw [Nat.min_eq_left (by omega), List.drop_eq_nil_of_le (Nat.le_refl _), List.drop_eq_getElem_cons h] at e
    cases e
    exact (decide_eq_false (by omega)).symm
  · rw [h, Nat.min_self, ← h, List.drop_eq_nil_of_le (Nat.le_refl _), h, List.drop_eq_nil_of_le (Nat.le_refl _)] at e
    cases e
    exact (decide_eq_true h).symm
  · rw [Nat.min_eq_right (by omega), List.drop_eq_nil_of_le (Nat.le_refl ys.length), List.drop_eq_getElem_cons h] at e
    cases e
    exact (decide_eq_false (by omega)).symm
theorem turnB {f : PV → PV → Option Bool} (h : EqB X Γ n f) {A : Around} (sb : Sub X (n + 1) A) {pins : List (Addr × Obj)} {σ : St} {H : Hp} (hT : LamX.Tabs Γ.tabs H) {xs ys : List PV} {vs us : List V} {its its2 : List Value} {b : Bool} (rx : Reps Γ (ice0 H) xs vs) (ry : Reps Γ (ice0 H) ys us) (r : Vals vs its) (r2 : Vals us its2)
    (i : Nat) (h1 : i < its.toArray.size) (h2 : i < its2.toArray.size) (s' : Shared) (l : Lp X Γ pins σ H s') (e : eqT f (xs.drop i) (ys.drop i) = some b) :
    wpAny (model X.prog X.w) A.in1 (eqBool its.toArray[i] its2.toArray[i]) (fun r s2 => (r = true ∧ Lp X Γ pins σ H s2 ∧ eqT f (xs.drop (i + 1)) (ys.drop (i + 1)) = some b) ∨ (r = false ∧ Lp X Γ pins σ H s2 ∧ b = false)) X.xe s' := by
  obtain ⟨H1, I1, e1⟩ := l
  have k1 : i < its.length := by simpa using h1
  have k2 : i < its2.length := by simpa using h2
  have x1 : i < xs.length := by rw [rx.length, r.length]; exact k1
  have x2 : i < ys.length := by rw [ry.length, r2.length]; exact k2
  obtain ⟨v, ev, rv⟩ := rx.get (List.getElem?_eq_getElem x1)
  obtain ⟨u, eu, ru⟩ := ry.get (List.getElem?_eq_getElem x2)
  obtain ⟨v', ev', rv'⟩ := r.get ev
  obtain ⟨u', eu', ru'⟩ := r2.get eu
  have g1 : v' = its.toArray[i] := by
    rw [List.getElem?_eq_getElem k1] at ev'
    rw [← Option.some.inj ev']
    simp
  have g2 : u' = its2.toArray[i] := by
    rw [List.getElem?_eq_getElem k2] at eu'
    rw [← Option.some.inj eu']
    simp
  rw [← g1, ← g2]
  rcases eqT_at e x1 x2 with ⟨q, q'⟩ | ⟨q, q'⟩
  · refine wpAny_mono (h A.in1 pins s' σ H1 xs[i] ys[i] true v u v' u' sb.in1 I1 (e1.tb hT) (rv.mono (ice_le e1)) (ru.mono (ice_le e1)) q rv' ru') (fun r s2 z => ?_) fun _ _ x => x
    obtain ⟨rfl, H2, I2, e2⟩ := z
    exact .inl ⟨rfl, ⟨H2, I2, e1.trans e2⟩, q'⟩
  · refine wpAny_mono (h A.in1 pins s' σ H1 xs[i] ys[i] false v u v' u' sb.in1 I1 (e1.tb hT) (rv.mono (ice_le e1)) (ru.mono (ice_le e1)) q rv' ru') (fun r s2 z => ?_) fun _ _ x => x
    obtain ⟨rfl, H2, I2, e2⟩ := z
    exact .inr ⟨rfl, ⟨H2, I2, e1.trans e2⟩, q'⟩
def neg (op : CmpOp) (b : Bool) : Bool := match op with
  | .NotEq => !b
  | _ => b
def fT (op : CmpOp) (f : PV → PV → Option Bool) : PV → PV → Option Bool
  | .tup xs, .tup ys => (eqT f xs ys).map (neg op)
  | _, _ => none
def fL (op : CmpOp) (f : PV → PV → Option Bool) : PV → PV → Option Bool
  | .lst xs, .lst ys => if xs.length = ys.length then (eqT f xs ys).map (neg op) else some (neg op false)
  | _, _ => none
theorem rcB_T {f : PV → PV → Option Bool} (hK : X.K = Γ.K) (h : EqB X Γ n f) : RcB X Γ .Eq (n + 1) (fT .Eq f) ∧ RcB X Γ .NotEq (n + 1) (fT .NotEq f) := by
  have main : ∀ (A : Around) (pins : List (Addr × Obj)) (s : Shared) (σ : St) (H : Hp) (xs ys : List PV) (b : Bool) (vx vy : V) (u v : Value), Sub X (n + 1) A → Inv X pins σ H s → LamX.Tabs Γ.tabs H → Rep Γ (ice0 H) (.tup xs) vx → Rep Γ (ice0 H) (.tup ys) vy → eqT f xs ys = some b → RelV vx u → RelV vy v →
      wpAny (model X.prog X.w) A (richCompare .Eq u v) (fun r s' => r = .bool b ∧ Lp X Γ pins σ H s') X.xe s ∧ wpAny (model X.prog X.w) A (richCompare .NotEq u v) (fun r s' => r = .bool (!b) ∧ Lp X Γ pins σ H s') X.xe s := by
    intro A pins s σ H xs ys b vx vy u v sb I hT rx ry e ru rv
    obtain ⟨a1, vs, rfl, q1, r1⟩ := rx
    obtain ⟨a2, us, rfl, q2, r2⟩ := ry
    cases ru
    cases rv
    obtain ⟨its, t1, p1, z1⟩ := I.tuple (hK ▸ seqT_mono noTab_sub q1)
    obtain ⟨its2, t2, p2, z2⟩ := I.tuple (hK ▸ seqT_mono noTab_sub q2)
    have l1 : its.toArray.size = xs.length := by rw [List.size_toArray, r1.length, t1.length]
    have l2 : its2.toArray.size = ys.length := by rw [List.size_toArray, r2.length, t2.length]
    have start : Lp X Γ pins σ H s ∧ eqT f (xs.drop 0) (ys.drop 0) = some b := ⟨⟨H, I, Ext.rfl'⟩, e⟩
    constructor
    · refine rcTE sb.room.units0 (fun i s' => Lp X Γ pins σ H s' ∧ eqT f (xs.drop i) (ys.drop i) = some b) (fun s' => Lp X Γ pins σ H s' ∧ b = false) p1 p2 (fun i h1 h2 s' q => turnB h sb hT r1 r2 t1 t2 i h1 h2 s' q.1 q.2) (fun s' q => ?_) (fun s' q => ⟨by rw [q.2], q.1⟩) start
      rw [l1, l2] at q ⊢
      rw [eqT_end q.2]
      exact ⟨rfl, q.1⟩
    · refine rcTN sb.room.units0 (fun i s' => Lp X Γ pins σ H s' ∧ eqT f (xs.drop i) (ys.drop i) = some b) (fun s' => Lp X Γ pins σ H s' ∧ b = false) p1 p2 (fun i h1 h2 s' q => turnB h sb hT r1 r2 t1 t2 i h1 h2 s' q.1 q.2) (fun s' q => ?_) (fun s' q => ⟨by rw [q.2]; rfl, q.1⟩) start
      rw [l1, l2] at q ⊢
      rw [eqT_end q.2]
      exact ⟨rfl, q.1⟩
  constructor
  · intro A pins s σ H x y b vx vy u v sb I hT rx ry e ru rv
    unfold fT at e
    split at e
    · rename_i xs ys
      cases e2 : eqT f xs ys with
      | none =>
        rw [e2] at e
        cases e
      | some c =>
        rw [e2] at e
        cases e
        exact (main A pins s σ H xs ys c vx vy u v sb I hT rx ry e2 ru rv).1
    · cases e
  · intro A pins s σ H x y b vx vy u v sb I hT rx ry e ru rv
    unfold fT at e
    split at e
    · rename_i xs ys
      cases e2 : eqT f xs ys with
      | none =>
        rw [e2] at e
        cases e
      | some c =>
        rw [e2] at e
        cases e
        exact (main A pins s σ H xs ys c vx vy u v sb I hT rx ry e2 ru rv).2
    · cases e
theorem rcB_L {f : PV → PV → Option Bool} (h : EqB X Γ n f) : RcB X Γ .Eq (n + 1) (fL .Eq f) ∧ RcB X Γ .NotEq (n + 1) (fL .NotEq f) := by
  have main : ∀ (A : Around) (pins : List (Addr × Obj)) (s : Shared) (σ : St) (H : Hp) (xs ys : List PV) (b : Bool) (vx vy : V) (u v : Value), Sub X (n + 1) A → Inv X pins σ H s → LamX.Tabs Γ.tabs H → Rep Γ (ice0 H) (.lst xs) vx → Rep Γ (ice0 H) (.lst ys) vy → (if xs.length = ys.length then eqT f xs ys else some false) = some b → RelV vx u → RelV vy v →
      wpAny (model X.prog X.w) A (richCompare .Eq u v) (fun r s' => r = .bool b ∧ Lp X Γ pins σ H s') X.xe s ∧ wpAny (model X.prog X.w) A (richCompare .NotEq u v) (fun r s' => r = .bool (!b) ∧ Lp X Γ pins σ H s') X.xe s := by
    intro A pins s σ H xs ys b vx vy u v sb I hT rx ry e ru rv
    obtain ⟨a1, vs, rfl, q1, r1⟩ := rx
    obtain ⟨a2, us, rfl, q2, r2⟩ := ry
    cases ru
    cases rv
    by_cases hl : xs.length = ys.length
    · rw [if_pos hl] at e
      have two : ∀ (s' : Shared), Lp X Γ pins σ H s' → ∃ (zs ts : Array Value) (n m : Nat), s'.heap.get? a1 = some { cls := .type "list", data := .seq zs n } ∧ s'.heap.get? a2 = some { cls := .type "list", data := .seq ts m } ∧ zs.size = xs.length ∧ ts.size = xs.length ∧ Vals vs zs.toList ∧ Vals us ts.toList := fun s' ⟨H1, I1, e1⟩ => by
        obtain ⟨_, its, k, t1, g1⟩ := I1.hok a1 _ (e1.n _ _ (noTab_sub _ _ q1) (fun _ z => nomatch z))
        obtain ⟨_, its2, k2, t2, g2⟩ := I1.hok a2 _ (e1.n _ _ (noTab_sub _ _ q2) (fun _ z => nomatch z))
        exact ⟨its.toArray, its2.toArray, k, k2, g1, g2, by rw [List.size_toArray, r1.length, t1.length], by rw [List.size_toArray, hl, r2.length, t2.length], by simpa using t1, by simpa using t2⟩
      have turns : TwoL X.prog X.w A X.xe a1 a2 xs.length (fun i s' => Lp X Γ pins σ H s' ∧ eqT f (xs.drop i) (ys.drop i) = some b) (fun s' => Lp X Γ pins σ H s' ∧ b = false) := fun i s' q => by
        obtain ⟨zs, ts, k, k2, g1, g2, n1, n2, t1, t2⟩ := two s' q.1
        refine ⟨zs, ts, k, k2, g1, g2, n1, n2, fun h1 h2 => ?_⟩
        refine wpAny_mono (turnB h sb hT r1 r2 t1 t2 i (by simpa using h1) (by simpa using h2) s' q.1 q.2) (fun r s2 z => ?_) fun _ _ x => x
        rcases z with ⟨rfl, l, q'⟩ | ⟨rfl, l, q'⟩
        · exact .inl ⟨rfl, l, q'⟩
        · obtain ⟨zs', ts', k', k2', g1', g2', n1', n2', _, _⟩ := two s2 l
          exact .inr ⟨rfl, zs', ts', k', k2', g1', g2', n1', n2', l, q'⟩
      have fin : ∀ s', Lp X Γ pins σ H s' ∧ eqT f (xs.drop xs.length) (ys.drop xs.length) = some b → b = true := fun s' q => by
        have q2 := q.2
        rw [List.drop_eq_nil_of_le (Nat.le_refl _), List.drop_eq_nil_of_le (by omega)] at q2
        cases q2
        rfl
      constructor
      · exact rcLE sb.room.units0 _ _ turns (fun s' q => ⟨by rw [fin s' q], q.1⟩) (fun s' q => ⟨by rw [q.2], q.1⟩) ⟨⟨H, I, Ext.rfl'⟩, e⟩
      · exact rcLN sb.room.units0 _ _ turns (fun s' q => ⟨by rw [fin s' q]; rfl, q.1⟩) (fun s' q => ⟨by rw [q.2]; rfl, q.1⟩) ⟨⟨H, I, Ext.rfl'⟩, e⟩
    · rw [if_neg hl] at e
      cases e
      obtain ⟨_, its, k, t1, g1⟩ := I.hok a1 _ (noTab_sub _ _ q1)
      obtain ⟨_, its2, k2, t2, g2⟩ := I.hok a2 _ (noTab_sub _ _ q2)
      have ne : its.toArray.size ≠ its2.toArray.size := by
        rw [List.size_toArray, List.size_toArray, ← t1.length, ← t2.length, ← r1.length, ← r2.length]
        exact hl
      exact ⟨rcLNE sb.room.units0 ne g1 g2 ⟨rfl, H, I, Ext.rfl'⟩, rcLNN sb.room.units0 ne g1 g2 ⟨rfl, H, I, Ext.rfl'⟩⟩
  constructor
  · intro A pins s σ H x y b vx vy u v sb I hT rx ry e ru rv
    unfold fL at e
    split at e
    · rename_i xs ys
      refine (main A pins s σ H xs ys b vx vy u v sb I hT rx ry ?_ ru rv).1
      split at e
      · rename_i hl
        rw [if_pos hl]
        cases e2 : eqT f xs ys with
        | none =>
          rw [e2] at e
          cases e
        | some c =>
          rw [e2] at e
          exact e
      · rename_i hl
        rw [if_neg hl]
        exact e
    · cases e
  · intro A pins s σ H x y b vx vy u v sb I hT rx ry e ru rv
    unfold fL at e
    split at e
    · rename_i xs ys
      have q := fun c hc => (main A pins s σ H xs ys c vx vy u v sb I hT rx ry hc ru rv).2
      split at e
      · rename_i hl
        cases e2 : eqT f xs ys with
        | none =>
          rw [e2] at e
          cases e
        | some c =>
          rw [e2] at e
          cases e
          exact q c (by rw [if_pos hl]; exact e2)
      · rename_i hl
        cases e
        exact q false (by rw [if_neg hl])
    · cases e
def plainV : PV → Bool
  | .non => true
  | .bl _ => true
  | .int _ => true
  | .str _ => true
  | .tup _ => true
  | .lst _ => true
  | _ => false
def fO (c : Nat) (q : List PV → List PV → Option Bool) : PV → PV → Option Bool := fun x y => match x with
  | .obj d xs => if d = c then match y with
      | .obj e ys => if e = c then q xs ys else none
      | y => if plainV y = true then some false else none
    else none
  | _ => none
theorem ins_ty {pins : List (Addr × Obj)} {σ : St} {s : Shared} {H : Hp} {a C dx : Addr} {fs : List (Str × V)} (I : Inv X pins σ H s) (h : H a = some (.ins C dx fs)) : ∃ od : Obj, PySem.W.InstAt s.heap a (PySem.W.instObj C dx) C (some od) := by
  obtain ⟨mA, J, _⟩ := ins_get I.hok h
  obtain ⟨od, J, _⟩ := J.look
  exact ⟨od, J⟩
structure EqF (X : Cx) (Γ : Cfg) (k c : Nat) (q : List PV → List PV → Option Bool) : Prop where
  ok : ∃ (f : Addr) (fd : FuncData) (ps : List Str) (g : FnM), FnOk X.prog X.w X.K X.mg X.base (L2.CX X.prog X.w) k f fd ps (spM Γ 2 g) ∧ PySem.W.findIn X.K (.ref (Γ.cls c)) "__eq__" = some (some (.ref f)) ∧ PySem.W.isFn X.K (.ref f) = true ∧ Binds X.K fd ps [] ∧
    ∀ x y b p, fO c q x y = some b → g [x, y] p = .ok (.bl b) p
  ne : PySem.W.findIn X.K (.ref (Γ.cls c)) "__ne__" = some (some (.builtin "object.__ne__"))
  om : PySem.W.mroIn X.K (Γ.cls c) (.type "object") = some true
  nf : ∀ T, T ∈ (["NoneType", "bool", "int", "str", "tuple", "list"] : List String) → PySem.W.notFirst X.K (Γ.cls c) (.type T) = true
  fn : ∀ T, T ∈ (["NoneType", "bool", "int", "str", "tuple", "list"] : List String) → PySem.W.subIn X.K (.ref (Γ.cls c)) (.type T) = some false
theorem plain_ty {pins : List (Addr × Obj)} {σ : St} {s : Shared} {H : Hp} (hK : X.K = Γ.K) (I : Inv X pins σ H s) {y : PV} {vy : V} {v : Value} (hp : plainV y = true) (ry : Rep Γ (ice0 H) y vy) (rv : RelV vy v) : ∃ T, T ∈ (["NoneType", "bool", "int", "str", "tuple", "list"] : List String) ∧ s.TypeIs v T := by
  cases y with
  | non =>
    cases ry
    cases rv
    exact ⟨"NoneType", by decide, rfl⟩
  | bl b =>
    cases ry
    cases rv
    exact ⟨"bool", by decide, rfl⟩
  | int i =>
    cases ry
    obtain ⟨t, rfl⟩ := rv
    exact ⟨"int", by decide, rfl⟩
  | str i =>
    cases ry
    obtain ⟨t, rfl⟩ := rv
    exact ⟨"str", by decide, rfl⟩
  | tup xs =>
    obtain ⟨a, vs, rfl, q, _⟩ := ry
    cases rv
    obtain ⟨its, t1, p1, z1⟩ := I.tuple (hK ▸ seqT_mono noTab_sub q)
    obtain ⟨o, ho, hc, n, hd⟩ := p1
    exact ⟨"tuple", by decide, o, ho, hc⟩
  | lst xs =>
    obtain ⟨a, vs, rfl, q, _⟩ := ry
    cases rv
    obtain ⟨_, its, k, t1, g1⟩ := I.hok a _ (noTab_sub _ _ q)
    exact ⟨"list", by decide, _, g1, rfl⟩
  | _ => cases hp
theorem looks_typeIs {M : Model} {s : Shared} {v : Value} {T : String} (h : s.TypeIs v T) : Looks M s.heap (typeOf v) (.type T) := by
  cases v with
  | ref a =>
    obtain ⟨o, ho, hc⟩ := h
    exact hc ▸ (Looks.ld ho).andThen .now
  | _ => exact Looks.of_pure h
theorem eqF_call {k : Nat} {A : Around} {pins : List (Addr × Obj)} {s : Shared} {σ : St} {H : Hp} {x y : PV} {b : Bool} {vy : V} {v : Value} {ax f : Addr} {fd : FuncData} {ps : List Str} {g : FnM} (G : FnOk X.prog X.w X.K X.mg X.base (L2.CX X.prog X.w) k f fd ps (spM Γ 2 g)) (hb : Binds X.K fd ps [])
    (hg : g [x, y] [] = .ok (.bl b) []) (sb : Sub X k A) (I : Inv X pins σ H s) (hT : LamX.Tabs Γ.tabs H) (rx : Rep Γ (ice0 H) x (.ref ax)) (ry : Rep Γ (ice0 H) y vy) (rv : RelV vy v) {Q : Value → Shared → Prop} (hQ : ∀ s', (∃ H', Inv X pins σ H' s' ∧ Ext Γ.tabs H H') → Q (.bool b) s') :
    wpAny (model X.prog X.w) A (call (.ref f) [.ref ax, v]) Q X.xe s := by
  have hsp : spM Γ 2 g [.ref ax, vy] H (fun v H' => v = .bl b ∧ Ext Γ.tabs H H') E0 := by
    refine ⟨rfl, ⟨0, fun _ => none⟩, ice0 H, [], _, ⟨noTab_sub, rfl, List.nodup_nil, Nat.le_refl _, fun _ _ => rfl, fun _ _ e => (nomatch e), fun k c a e _ => by simp at e, noTab_nt, hT⟩, Reps.cons rx (Reps.cons ry Reps.nil), ?_⟩
    rw [hg]
    exact fun w' H' v l S r => ⟨r, fun a o ea na => S.sub a o (l.1 a o (noTab_of ea na)), fun _ => S.tb⟩
  have e0 : Env0 X.prog X.w X.K X.mg X.base A X.stack s H := by
    have z := I.env0
    exact ⟨sb.fr.trans z.frames, z.mod, z.bs, z.bsz, z.funs, z.frf, z.hok, z.bare⟩
  have hl := G.len _ _ _ _ hsp
  have r2 : Vals [V.ref ax, vy] [Value.ref ax, v] := .cons rfl (.cons rv .nil)
  refine wpAny_call (codeAny_mono (G.run A X.stack s H ⟨[.ref ax, v], []⟩ [.ref ax, v] [.ref ax, vy] _ E0 sb.room e0 (by simpa using hb s [.ref ax, v] I.kIn (by simpa using hl)) r2 hsp) fun r s' hq => ?_)
  cases r with
  | error e => exact (passL pins σ H s e s' I hq)
  | ok fl =>
    cases fl with
    | ret t =>
      obtain ⟨z, H', I', rz, ez, ex⟩ := I.after hq
      subst ez
      cases rz
      exact hQ _ ⟨H', I', ex⟩
    | next => exact hq.elim
    | brk => exact hq.elim
    | cont => exact hq.elim
theorem fO_some {c : Nat} {q : List PV → List PV → Option Bool} {x y : PV} {b : Bool} (e : fO c q x y = some b) : ∃ xs, x = .obj c xs ∧ ((∃ ys, y = .obj c ys) ∨ plainV y = true) := by
  unfold fO at e
  split at e
  · rename_i d xs
    split at e
    · rename_i hd
      subst hd
      refine ⟨xs, rfl, ?_⟩
      split at e
      · rename_i d2 ys
        split at e
        · rename_i h2
          subst h2
          exact .inl ⟨ys, rfl⟩
        · cases e
      · split at e
        · rename_i hp
          exact .inr hp
        · cases e
    · cases e
  · cases e
theorem oth_ty {c : Nat} {pins : List (Addr × Obj)} {σ : St} {s : Shared} {H : Hp} (hK : X.K = Γ.K) {k : Nat} {q : List PV → List PV → Option Bool} (F : EqF X Γ k c q) (I : Inv X pins σ H s) {y : PV} {vy : V} {v : Value} (h : (∃ ys, y = .obj c ys) ∨ plainV y = true) (ry : Rep Γ (ice0 H) y vy) (rv : RelV vy v) :
    ∃ tb, Looks (model X.prog X.w) s.heap (typeOf v) tb ∧ PySem.W.notFirst X.K (Γ.cls c) tb = true := by
  rcases h with ⟨ys, rfl⟩ | hp
  · obtain ⟨ay, dy, us, rfl, hy, _⟩ := ry
    cases rv
    obtain ⟨od', J'⟩ := ins_ty I (noTab_sub _ _ hy)
    exact ⟨_, J'.type, by simp [PySem.W.notFirst]⟩
  · obtain ⟨T, hT, ht⟩ := plain_ty hK I hp ry rv
    exact ⟨.type T, looks_typeIs ht, F.nf T hT⟩
theorem rcB_O {k c : Nat} {q : List PV → List PV → Option Bool} (hK : X.K = Γ.K) (F : EqF X Γ k c q) : RcB X Γ .Eq k (fO c q) := by
  intro A pins s σ H x y b vx vy u v sb I hT rx ry e ru rv
  obtain ⟨f, fd, ps, g, G, hs, hf, hb, hg⟩ := F.ok
  obtain ⟨xs, rfl, hy⟩ := fO_some e
  have rx' := rx
  obtain ⟨ax, dx, vs, rfl, hx, _⟩ := rx
  cases ru
  obtain ⟨od, J⟩ := ins_ty I (noTab_sub _ _ hx)
  obtain ⟨tb, hl, hn⟩ := oth_ty hK F I hy ry rv
  obtain ⟨m, hF⟩ := I.fr
  refine PySem.W.cmp_K (op := .Eq) (tb := tb) sb.room.units0 hF I.ok.mod.kin J hl hn hs hf ?_
  exact eqF_call (G := G) hb (hg _ _ _ _ e) sb I hT rx' ry rv fun s' z => ⟨rfl, z⟩
section
variable {prog : Program} {w : World} {A : Around} {E : Value → Shared → Prop} {s : Shared} {K : PySem.W.Frag} {x C' f : Addr} {L : Addr} {h₀ : Heap} {m : Str → Option Value} {ox : Obj} {od : Option Obj} {bv tb : Value}
open PySem.W PyProof.Rows in
open Builtin in
theorem neq_K {Q : Value → Shared → Prop} (hu : A.units + 1 < cLine) (F : Fr h₀ L s.heap m) (X₀ : K.In h₀) (I : InstAt s.heap x ox C' od) (hb : Looks (model prog w) s.heap (typeOf bv) tb) (hn : notFirst K C' tb = true)
    (hne : findIn K (.ref C') "__ne__" = some (some (.builtin "object.__ne__"))) (hm : mroIn K C' (.type "object") = some true) (hs : findIn K (.ref C') "__eq__" = some (some (.ref f))) (hf : isFn K (.ref f) = true)
    (h : wpAny (model prog w) A.in1 (call (.ref f) [.ref x, bv]) (fun v s' => ∃ b, v = .bool b ∧ Q (.bool (!b)) s') E s) : wpAny (model prog w) A (richCompare .NotEq (.ref x) bv) Q E s := by
  have X := X₀.keeps F.keep
  have one : wpAny (model prog w) A (tryCompare (.ref x) "__ne__" bv) (fun r s' => ∃ v, r = some v ∧ Q v s') E s := by
    unfold tryCompare
    refine wpAny_bind ?_
    have core : wpAny (model prog w) A (call (.builtin "object.__ne__") ([.ref x] ++ [bv])) (fun v s' => ∃ b, v = .bool b ∧ Q (.bool b) s') E s := by
      refine wpAny_call (codeAny_call_builtin PySem.F.slot_object_ne.plain PySem.F.entry_object_ne (check_slot (i := "object.__ne__") (owner := "object") (n := "__ne__") (by decide +kernel) (by decide +kernel) (I.type.andThen (looks_mroIn X hm)) (PySem.F.args_object_ne_2 _ _) ?_))
      unfold Builtin.«object.__ne__»
      refine wpAny_bind (m := slotArgs "__ne__" 1 _) (wpAny_pure ?_)
      refine wpAny_bind (m := cRoomFor _ _) (wpAny_cRoomFor hu ?_)
      refine wpAny_bind (m := callSpecialIfBound? (.ref x) (Str.ofString "__eq__") _) (ifBound_K X I hs hf (wpAny_mono h (fun r s' hq => ?_) fun _ _ y => y))
      obtain ⟨b, rfl, hq⟩ := hq
      refine wpAny_bind (m := truthy (.bool _)) (wpAny_truthy_bool ?_)
      exact wpAny_pure ⟨_, rfl, hq⟩
    simp only [callSpecialIfBound?, bindSpecialIfBound?]
    refine wpAny_holding (wpAny_bind (wpAny_bind (wpAny_bind (I.type.here ((looks_findIn X hne).here ?_)))))
    refine wpAny_bind (wpAny_askSetting (wpAny_ite ?_))
    have fin : wpAny (model prog w) A (call (.builtin "object.__ne__") ([.ref x] ++ [bv]) >>= fun v => pure (some v)) (fun r s' => wpAny (model prog w) A (match r with | some .notImplemented => pure none | none => pure none | some x => pure (some x)) (fun r s' => ∃ v, r = some v ∧ Q v s') E s') E s :=
      wpAny_bind (wpAny_mono core (fun v s' h' => by
        obtain ⟨b, rfl, hq⟩ := h'
        exact wpAny_pure (wpAny_pure ⟨_, rfl, hq⟩)) fun _ _ h' => h')
    simp only [PySem.F.slot_object_ne.bind]
    split
    · exact wpAny_bind (wpAny_pure (wpAny_pure fin))
    · exact wpAny_tryCatch (wpAny_bind (wpAny_pure (wpAny_pure fin)))
  unfold richCompare
  simp only [oneThing_ref]
  refine wpAny_holding ?_
  refine wpAny_bind (wpAny_cRoomFor (Nat.lt_of_succ_lt hu) ?_)
  refine wpAny_bind (I.type.here (wpAny_bind (hb.here ?_)))
  split
  · rename_i q
    have e : subIn K tb (.ref C') = some false := by
      rcases Bool.or_eq_true_iff.mp hn with e | e
      · rw [beq_iff_eq.mp e] at q; simp at q
      · exact beq_iff_eq.mp e
    refine wpAny_bind ((looks_subIn X e).here ?_)
    simp only [Bool.false_eq_true, if_false]
    refine wpAny_bind (wpAny_mono one (fun r s' z => ?_) fun _ _ e => e)
    obtain ⟨v, rfl, hq⟩ := z
    exact wpAny_pure hq
  · refine wpAny_bind (wpAny_pure ?_)
    simp only [Bool.false_eq_true, if_false]
    refine wpAny_bind (wpAny_mono one (fun r s' z => ?_) fun _ _ e => e)
    obtain ⟨v, rfl, hq⟩ := z
    exact wpAny_pure hq
end
theorem rcB_ON {k c : Nat} {q : List PV → List PV → Option Bool} (hK : X.K = Γ.K) (F : EqF X Γ k c q) : RcB X Γ .NotEq (k + 1) (fun x y => (fO c q x y).map (!·)) := by
  intro A pins s σ H x y b vx vy u v sb I hT rx ry e ru rv
  obtain ⟨f, fd, ps, g, G, hs, hf, hb, hg⟩ := F.ok
  have e : (fO c q x y).map (!·) = some b := e
  cases e2 : fO c q x y with
  | none =>
    rw [e2] at e
    cases e
  | some b' =>
  rw [e2] at e
  cases e
  obtain ⟨xs, rfl, hy⟩ := fO_some e2
  have rx' := rx
  obtain ⟨ax, dx, vs, rfl, hx, _⟩ := rx
  cases ru
  obtain ⟨od, J⟩ := ins_ty I (noTab_sub _ _ hx)
  obtain ⟨tb, hl, hn⟩ := oth_ty hK F I hy ry rv
  obtain ⟨m, hF⟩ := I.fr
  refine neq_K (tb := tb) (by have := sb.room.un; omega) hF I.ok.mod.kin J hl hn F.ne F.om hs hf ?_
  exact eqF_call (G := G) hb (hg _ _ _ _ e2) sb.in1 I hT rx' ry rv fun s' z => ⟨_, rfl, rfl, z⟩
end
end R
namespace R
open PySem L2
open PySem.W (Looks)
section
variable {X : Cx} {Γ : Cfg}
theorem eqV_refl {a : V} (h : flatV a = true) : eqV a a = true := by
  cases a with
  | non => rfl
  | bl b => exact beq_self_eq_true b
  | int b => exact beq_self_eq_true b
  | str b => exact beq_self_eq_true b
  | _ => cases h
theorem eqS_same {w : Wd} {x y : PV} {v : V} {b : Bool} (e : eqS x y = some b) (rx : Rep Γ w x v) (ry : Rep Γ w y v) : b = true := by
  unfold eqS at e
  cases e1 : toS x with
  | none =>
    rw [e1] at e
    cases e
  | some a =>
    cases e2 : toS y with
    | none =>
      rw [e1, e2] at e
      cases e
    | some c =>
      rw [e1, e2] at e
      cases e
      obtain ⟨rfl, f1⟩ := toS_ok rx e1
      obtain ⟨rfl, f2⟩ := toS_ok ry e2
      exact eqV_refl f1
theorem eqT_same {w : Wd} {f : PV → PV → Option Bool} (hf : ∀ x y v b, f x y = some b → Rep Γ w x v → Rep Γ w y v → b = true) : ∀ {xs ys : List PV} {vs : List V} {b : Bool}, eqT f xs ys = some b → Reps Γ w xs vs → Reps Γ w ys vs → b = true
  | [], [], _, _, e, _, _ => by
    cases e
    rfl
  | [], y :: ys, vs, b, e, h, k => by
    obtain ⟨v, r, e1, _⟩ := k
    rw [show vs = [] from h] at e1
    cases e1
  | x :: xs, [], vs, b, e, h, k => by
    obtain ⟨v, r, e1, _⟩ := h
    rw [show vs = [] from k] at e1
    cases e1
  | x :: xs, y :: ys, vs, b, e, h, k => by
    obtain ⟨v, r, rfl, h1, h2⟩ := h
    obtain ⟨v', r', e1, k1, k2⟩ := k
    cases e1
    unfold eqT at e
    split at e
    · exact eqT_same hf e h2 k2
    · rename_i q
      have := hf _ _ _ _ q h1 k1
      cases this
    · cases e
theorem zip_inj {α β : Type} : ∀ {l : List α} {xs ys : List β}, l.zip xs = l.zip ys → xs.length = l.length → ys.length = l.length → xs = ys
  | [], xs, ys, _, h1, h2 => by
    rw [List.eq_nil_of_length_eq_zero h1, List.eq_nil_of_length_eq_zero h2]
  | a :: l, [], _, _, h1, _ => by cases h1
  | a :: l, _ :: _, [], _, _, h2 => by cases h2
  | a :: l, x :: xs, y :: ys, e, h1, h2 => by
    rw [List.zip_cons_cons, List.zip_cons_cons] at e
    injection e with e1 e2
    injection e1 with _ e1
    rw [e1, zip_inj e2 (Nat.succ.inj h1) (Nat.succ.inj h2)]
theorem eqv_same {pins : List (Addr × Obj)} {σ : St} {s : Shared} {H : Hp} (hK : X.K = Γ.K) (I : Inv X pins σ H s) : ∀ (n : Nat) (x y : PV) (v : V) (b : Bool), eqv n x y = some b → Rep Γ (ice0 H) x v → Rep Γ (ice0 H) y v → b = true
  | 0, x, y, v, b, e, rx, ry => eqS_same e rx ry
  | n + 1, x, y, v, b, e, rx, ry => by
    unfold eqv at e
    split at e
    · rename_i xs ys
      obtain ⟨a, vs, rfl, q, r⟩ := rx
      obtain ⟨a', us, ea, q', r'⟩ := ry
      cases ea
      have := I.tuple_inj (hK ▸ seqT_mono noTab_sub q) (hK ▸ seqT_mono noTab_sub q')
      subst this
      exact eqT_same (eqv_same hK I n) e r r'
    · rename_i xs ys
      obtain ⟨a, vs, rfl, q, r⟩ := rx
      obtain ⟨a', us, ea, q', r'⟩ := ry
      cases ea
      have q2 : (ice0 H).G a = some (.lst us) := q'
      rw [q] at q2
      cases q2
      rw [if_pos (r.length.trans r'.length.symm)] at e
      exact eqT_same (eqv_same hK I n) e r r'
    · rename_i c xs d ys
      split at e
      · rename_i h
        obtain ⟨rfl, rfl⟩ := h
        unfold eqO at e
        split at e
        · obtain ⟨a, dx, vs, rfl, g, g2, hl, r⟩ := rx
          obtain ⟨a', dx', us, ea, g', g2', hl', r'⟩ := ry
          cases ea
          rw [g] at g'
          injection g' with g'
          injection g' with _ _ g'
          have := zip_inj g' hl hl'
          subst this
          obtain ⟨v1, r1, e1, h1, v2, r2, e2, h2, h3⟩ := r
          obtain ⟨v1', r1', e1', h1', v2', r2', e2', h2', h3'⟩ := r'
          rw [e1] at e1'
          cases e1'
          rw [e2] at e2'
          cases e2'
          have z1 := h1.symm.trans h1'
          have z2 := h2.symm.trans h2'
          cases z1
          cases z2
          cases e
          simp
        · cases e
      · cases e
    · exact eqS_same e rx ry
theorem eqB_ref {n : Nat} {f : PV → PV → Option Bool} (h : RcB X Γ .Eq n f) {A : Around} {pins : List (Addr × Obj)} {s : Shared} {σ : St} {H : Hp} {x y : PV} {b : Bool} {a a' : Addr} (sb : Sub X n A) (I : Inv X pins σ H s) (hT : LamX.Tabs Γ.tabs H) (rx : Rep Γ (ice0 H) x (.ref a)) (ry : Rep Γ (ice0 H) y (.ref a')) (e : f x y = some b) (hs : a = a' → b = true) :
    wpAny (model X.prog X.w) A (eqBool (.ref a) (.ref a')) (fun r s' => r = b ∧ ∃ H', Inv X pins σ H' s' ∧ Ext Γ.tabs H H') X.xe s := by
  by_cases ha : a = a'
  · subst ha
    exact SeqAt.EqAt.same (A := A) (s := s) (Value.ref a) X.prog X.w X.xe _ ⟨(hs rfl).symm, H, I, Ext.rfl'⟩
  · refine GQ.eqBool_refG ha (wpAny_mono (h A pins s σ H x y b _ _ _ _ sb I hT rx ry e rfl rfl) (fun r s' q => ?_) fun _ _ x => x)
    obtain ⟨rfl, q⟩ := q
    exact ⟨b, rfl, rfl, q⟩
theorem RcB.mono {op : CmpOp} {n m : Nat} {f : PV → PV → Option Bool} (h : RcB X Γ op n f) (l : n ≤ m) : RcB X Γ op m f := fun A pins s σ H x y b vx vy u v sb => h A pins s σ H x y b vx vy u v (sb.mono l)
theorem eqB_v {k : Nat} (hK : X.K = Γ.K) (F : EqF X Γ k 0 eqO) : ∀ n, EqB X Γ (n + k) (eqv n)
  | 0 => eqB_S.mono (by omega)
  | n + 1 => by
    intro A pins s σ H x y b vx vy u v sb I hT rx ry e ru rv
    have same := fun vv (z1 : Rep Γ (ice0 H) x vv) (z2 : Rep Γ (ice0 H) y vv) => eqv_same hK I (n + 1) x y vv b e z1 z2
    unfold eqv at e
    split at e
    · rename_i xs ys
      have h := (rcB_T hK (eqB_v hK F n)).1
      obtain ⟨a, vs, rfl, q⟩ := id rx
      obtain ⟨a', us, rfl, q'⟩ := id ry
      cases ru
      cases rv
      refine eqB_ref (h.mono (by omega)) sb I hT rx ry (?_ : fT .Eq (eqv n) (.tup xs) (.tup ys) = some b) fun z => same _ rx (z ▸ ry)
      unfold fT
      dsimp only
      rw [e]
      rfl
    · rename_i xs ys
      have h := (rcB_L (X := X) (Γ := Γ) (eqB_v hK F n)).1
      obtain ⟨a, vs, rfl, q⟩ := id rx
      obtain ⟨a', us, rfl, q'⟩ := id ry
      cases ru
      cases rv
      refine eqB_ref (h.mono (by omega)) sb I hT rx ry (?_ : fL .Eq (eqv n) (.lst xs) (.lst ys) = some b) fun z => same _ rx (z ▸ ry)
      unfold fL
      dsimp only
      split at e
      · rename_i hl
        rw [if_pos hl, e]
        rfl
      · rename_i hl
        rw [if_neg hl]
        exact e
    · rename_i c xs d ys
      have h := rcB_O hK F
      obtain ⟨a, dx, vs, rfl, q⟩ := id rx
      obtain ⟨a', dx', us, rfl, q'⟩ := id ry
      cases ru
      cases rv
      split at e
      · rename_i hc
        obtain ⟨rfl, rfl⟩ := hc
        refine eqB_ref (h.mono (by omega)) sb I hT rx ry (?_ : fO 0 eqO (.obj 0 xs) (.obj 0 ys) = some b) fun z => same _ rx (z ▸ ry)
        exact e
      · cases e
    · exact eqB_S A pins s σ H _ _ b vx vy u v (sb.mono (by omega)) I hT rx ry e ru rv
def vD : V → PyData
  | .bl b => .bool b
  | .int i => .int i
  | .str s => .str s
  | _ => .none
theorem vD_reads {h : Heap} {a : V} {u : Value} (f : flatV a = true) (r : RelV a u) : Reads h u (vD a) [] := by
  cases a with
  | non =>
    cases r
    exact Reads.none
  | bl b =>
    cases r
    exact Reads.bool b
  | int b =>
    obtain ⟨t, rfl⟩ := r
    exact Reads.int b t
  | str b =>
    obtain ⟨t, rfl⟩ := r
    exact Reads.str b t
  | _ => cases f
def top : PV → Bool
  | .str s => SeqAt.shaped (.str s)
  | _ => true
theorem top_ok {x : PV} {a : V} (e : toS x = some a) (h : top x = true) : SeqAt.shaped (vD a) = true := by
  cases x with
  | str s =>
    cases e
    exact h
  | non =>
    cases e
    rfl
  | bl b =>
    cases e
    rfl
  | int i =>
    cases e
    rfl
  | _ => cases e
theorem vD_eq {a c : V} (f1 : flatV a = true) (f2 : flatV c = true) : PyData.eqv (vD a) (vD c) = eqV a c := by
  cases a <;> cases c <;> first | rfl | (cases f1; done) | (cases f2; done) | (rename_i a b; cases a <;> rfl) | (rename_i a b; cases b <;> rfl) | (simp [vD, PyData.eqv, eqV]; done)
theorem rcS (op : CmpOp) (hop : op = .Eq ∨ op = .NotEq) : RcB X Γ op 0 (fun x y => if top x = true ∧ top y = true then (eqS x y).map (neg op) else none) := by
  intro A pins s σ H x y b vx vy u v sb I hT rx ry e ru rv
  have e : (if top x = true ∧ top y = true then (eqS x y).map (neg op) else none) = some b := e
  split at e
  case isFalse => cases e
  rename_i ht
  unfold eqS at e
  cases e1 : toS x with
  | none =>
    rw [e1] at e
    cases e
  | some a =>
    cases e2 : toS y with
    | none =>
      rw [e1, e2] at e
      cases e
    | some c =>
      rw [e1, e2] at e
      cases e
      obtain ⟨ea, f1⟩ := toS_ok rx e1
      obtain ⟨ec, f2⟩ := toS_ok ry e2
      subst ea
      subst ec
      have s1 := top_ok e1 ht.1
      have s2 := top_ok e2 ht.2
      have h1 : Reads s.heap u (vD vx) [] := vD_reads f1 ru
      have h2 : Reads s.heap v (vD vy) [] := vD_reads f2 rv
      have hu : A.units + 64 < cLine := by have := sb.room.un; omega
      rcases hop with rfl | rfl
      · show wpAny (model X.prog X.w) A (compareOp .Eq u v) _ _ _
        exact SeqAt.compareEq_shaped h1 h2 s1 s2 hu ⟨by rw [vD_eq f1 f2]; rfl, H, I, Ext.rfl'⟩
      · show wpAny (model X.prog X.w) A (compareOp .NotEq u v) _ _ _
        exact SeqAt.compareNe_shaped h1 h2 s1 s2 hu ⟨by rw [vD_eq f1 f2]; rfl, H, I, Ext.rfl'⟩
def eqvN (op : CmpOp) (n : Nat) : PV → PV → Option Bool := fun x y => if top x = true ∧ top y = true then (eqv n x y).map (neg op) else none
theorem map_id {o : Option Bool} : o.map (neg .Eq) = o := by cases o <;> rfl
theorem rcE {k : Nat} (hK : X.K = Γ.K) (F : EqF X Γ k 0 eqO) (n : Nat) : RcB X Γ .Eq (n + k + 1) (eqvN .Eq n) ∧ RcB X Γ .NotEq (n + k + 1) (eqvN .NotEq n) := by
  have main : ∀ (A : Around) (pins : List (Addr × Obj)) (s : Shared) (σ : St) (H : Hp) (x y : PV) (b : Bool) (vx vy : V) (u v : Value), Sub X (n + k + 1) A → Inv X pins σ H s → LamX.Tabs Γ.tabs H → Rep Γ (ice0 H) x vx → Rep Γ (ice0 H) y vy → top x = true ∧ top y = true → eqv n x y = some b → RelV vx u → RelV vy v →
      wpAny (model X.prog X.w) A (richCompare .Eq u v) (fun r s' => r = .bool b ∧ Lp X Γ pins σ H s') X.xe s ∧ wpAny (model X.prog X.w) A (richCompare .NotEq u v) (fun r s' => r = .bool (!b) ∧ Lp X Γ pins σ H s') X.xe s := by
    intro A pins s σ H x y b vx vy u v sb I hT rx ry ht e ru rv
    have flat : ∀ x y, top x = true ∧ top y = true → eqS x y = some b → Rep Γ (ice0 H) x vx → Rep Γ (ice0 H) y vy → wpAny (model X.prog X.w) A (richCompare .Eq u v) (fun r s' => r = .bool b ∧ Lp X Γ pins σ H s') X.xe s ∧ wpAny (model X.prog X.w) A (richCompare .NotEq u v) (fun r s' => r = .bool (!b) ∧ Lp X Γ pins σ H s') X.xe s := fun x y ht e rx ry =>
      ⟨rcS .Eq (.inl rfl) A pins s σ H x y b vx vy u v (sb.mono (by omega)) I hT rx ry (by dsimp only; rw [if_pos ht, e]; rfl) ru rv, rcS .NotEq (.inr rfl) A pins s σ H x y (!b) vx vy u v (sb.mono (by omega)) I hT rx ry (by dsimp only; rw [if_pos ht, e]; rfl) ru rv⟩
    cases n with
    | zero => exact flat x y ht e rx ry
    | succ n =>
      unfold eqv at e
      split at e
      · rename_i xs ys
        have h := rcB_T (X := X) (Γ := Γ) hK (eqB_v hK F n)
        exact ⟨h.1 A pins s σ H _ _ b vx vy u v (sb.mono (by omega)) I hT rx ry (by show Option.map _ (eqT _ _ _) = _; rw [e]; rfl) ru rv, h.2 A pins s σ H _ _ (!b) vx vy u v (sb.mono (by omega)) I hT rx ry (by show Option.map _ (eqT _ _ _) = _; rw [e]; rfl) ru rv⟩
      · rename_i xs ys
        have h := rcB_L (X := X) (Γ := Γ) (eqB_v hK F n)
        have e1 : ∀ op, fL op (eqv n) (.lst xs) (.lst ys) = some (neg op b) := fun op => by
          unfold fL
          dsimp only
          split at e
          · rename_i hl
            rw [if_pos hl, e]
            rfl
          · rename_i hl
            cases e
            rw [if_neg hl]
        exact ⟨h.1 A pins s σ H _ _ b vx vy u v (sb.mono (by omega)) I hT rx ry (e1 _) ru rv, h.2 A pins s σ H _ _ (!b) vx vy u v (sb.mono (by omega)) I hT rx ry (e1 _) ru rv⟩
      · rename_i c xs d ys
        split at e
        · rename_i hc
          obtain ⟨rfl, rfl⟩ := hc
          have e1 : fO 0 eqO (.obj 0 xs) (.obj 0 ys) = some b := e
          exact ⟨rcB_O hK F A pins s σ H _ _ b vx vy u v (sb.mono (by omega)) I hT rx ry e1 ru rv, rcB_ON hK F A pins s σ H _ _ (!b) vx vy u v (sb.mono (by omega)) I hT rx ry (by show Option.map _ (fO 0 eqO _ _) = _; rw [e1]; rfl) ru rv⟩
        · cases e
      · exact flat _ _ ht e rx ry
  constructor
  · intro A pins s σ H x y b vx vy u v sb I hT rx ry e ru rv
    have e : (if top x = true ∧ top y = true then (eqv n x y).map (neg .Eq) else none) = some b := e
    split at e
    · rename_i ht
      rw [map_id] at e
      exact (main A pins s σ H x y b vx vy u v sb I hT rx ry ht e ru rv).1
    · cases e
  · intro A pins s σ H x y b vx vy u v sb I hT rx ry e ru rv
    have e : (if top x = true ∧ top y = true then (eqv n x y).map (neg .NotEq) else none) = some b := e
    split at e
    · rename_i ht
      cases e2 : eqv n x y with
      | none =>
        rw [e2] at e
        cases e
      | some c =>
        rw [e2] at e
        cases e
        exact (main A pins s σ H x y c vx vy u v sb I hT rx ry ht e2 ru rv).2
    · cases e
def rTr (Γ : Cfg) (f : PV → PV → Option Bool) : R2 := fun vx vy H Q => ∃ x y b, LamX.Tabs Γ.tabs H ∧ Rep Γ (ice0 H) x vx ∧ Rep Γ (ice0 H) y vy ∧ f x y = some b ∧ ∀ H', Ext Γ.tabs H H' → Q (.bl b) H'
theorem op_tr {op : CmpOp} (hop : op = .Eq ∨ op = .NotEq) {n : Nat} {f : PV → PV → Option Bool} (h : RcB X Γ op n f) (hr : Room n X.A) : OpR X (compareOp op) (rTr Γ f) := by
  intro pins s σ H vx vy v u Q I rx ry hq
  obtain ⟨x, y, b, hT, hx, hy, e, q⟩ := hq
  have key : wpAny (model X.prog X.w) X.A (richCompare op v u) (EP X pins σ Q) X.xe s := by
    refine wpAny_mono (h X.A pins s σ H x y b vx vy v u ⟨hr, rfl⟩ I hT hx hy e rx ry) (fun r s' z => ?_) fun _ _ x => x
    obtain ⟨hr', H', I', e⟩ := z
    subst hr'
    exact ⟨.bl b, H', I', rfl, q H' e⟩
  rcases hop with rfl | rfl
  · exact key
  · exact key
def pTr (fld : Nat → List Str) (f : PV → PV → Option Bool) : F2 := fun x y p => match thaw fld 0 p x with
  | some x' => match thaw fld 0 p y with
    | some y' => match f x' y' with
      | some b => .ok (.bl b) p
      | none => .stuck
    | none => .stuck
  | none => .stuck
theorem CellR.stepN {Γ : Cfg} {w : Wd} {H H' : Hp} {c : Cell} {a : Addr} (h : CellR Γ w H c a) (hh : ∀ b o, H b = some o → (∀ ps, o ≠ .tbl ps) → H' b = some o) : CellR Γ w H' c a := by
  cases c with
  | lst xs =>
    obtain ⟨g, vs, e, r⟩ := h
    exact ⟨g, vs, hh _ _ e (fun _ z => nomatch z), r⟩
  | obj c fs =>
    obtain ⟨g, dx, vs, e, d, gd, n, r⟩ := h
    exact ⟨g, dx, vs, hh _ _ e (fun _ z => nomatch z), hh _ _ d (fun _ z => nomatch z), gd, n, r⟩
  | dead =>
    obtain ⟨o, e, z⟩ := h
    exact ⟨o, hh _ _ e z.2.1, z⟩
  | dk kvs =>
    obtain ⟨g, vs, e, r⟩ := h
    exact ⟨g, vs, hh _ _ e (fun _ z => nomatch z), r⟩
  | dt kvs =>
    obtain ⟨g, vs, e, r⟩ := h
    exact ⟨g, vs, hh _ _ e (fun _ z => nomatch z), r⟩
theorem SimP.ext {Γ : Cfg} {L : Lv} {w : Wd} {p : Pool} {H H' : Hp} (S : SimP Γ L w p H) (e : Ext Γ.tabs H H') : SimP Γ L w p H' :=
  ⟨fun a o h => e.n a o (S.sub a o h) (fun ps z => S.nt a ps (z ▸ h)), S.len, S.nd, S.hb, S.hlo, S.hm, fun k c a h1 h2 => (S.cell k c a h1 h2).stepN e.n, S.nt, e.tb S.tb⟩
theorem ice_ice0 {Γ : Cfg} {L : Lv} {w : Wd} {p : Pool} {H : Hp} (S : SimP Γ L w p H) : (w.ice 0 H).le (ice0 H) := ⟨fun a o e => noTab_of (S.iced_sub 0 a o e) (S.iced_nt 0 e), by show w.ρ.take 0 <+: []; rw [List.take_zero]; exact List.prefix_refl _⟩
theorem ref_tr {C : Cn} {f : PV → PV → Option Bool} : RefO C (rTr C.Γ f) (pTr C.Γ.fld f) := fun L w p H σ x y vx vy Q S rx ry q => by
  unfold pTr at q
  split at q
  · rename_i x' ex
    split at q
    · rename_i y' ey
      split at q
      · rename_i b eb
        exact ⟨x', y', b, S.tb, (thaw_ok S ex rx).mono (ice_ice0 S), (thaw_ok S ey ry).mono (ice_ice0 S), eb, fun H' e => q w H' _ (Wd.le.refl w) (S.ext e) rfl⟩
      · exact q.elim
    · exact q.elim
  · exact q.elim
end
end R
namespace R
section
open PySem PySem.SeqAt PyProof.Rows
open AutoSeq1 (wpAny_loadPart')
open MeetsSeq MeetsSeq2 MeetsSeq3 SeqRoads2
open PySem.W (Looks Frag InstAt findIn isFn subIn looks_subIn ifBound_K)
variable {prog : Program} {w : World} {A : Around} {E : Value → Shared → Prop} {s : Shared} {K : Frag} {x C' f : Addr} {L : Addr} {h₀ : Heap} {m : Str → Option Value} {ox : Obj} {od : Option Obj} {av : Value}
theorem rc_refl {T id : String} {Q : Value → Shared → Prop} (hu : A.units < cLine) (F : Fr h₀ L s.heap m) (X₀ : K.In h₀) (I : InstAt s.heap x ox C' od) (ha : s.TypeIs av T) (hsub : subIn K (.ref C') (.type T) = some false) (sl : Slot T (cmpInfo .Eq).2.1 id)
    (hd : ∀ Q' : Value → Shared → Prop, Q' .notImplemented s → wpAny (model prog w) A (call (.builtin id) [av, .ref x]) Q' E s)
    (hs : findIn K (.ref C') "__eq__" = some (some (.ref f))) (hf : isFn K (.ref f) = true) (h : wpAny (model prog w) A (call (.ref f) [.ref x, av]) (PySem.W.CmpBack Q) E s) : wpAny (model prog w) A (richCompare .Eq av (.ref x)) Q E s := by
  have X := X₀.keeps F.keep
  have one : wpAny (model prog w) A (tryCompare (.ref x) (cmpInfo .Eq).2.2 av) (fun r s' => ∃ v, r = some v ∧ Q v s') E s := by
    unfold tryCompare
    refine wpAny_bind (ifBound_K X I hs hf (wpAny_mono h (fun v s' hv => ?_) fun _ _ e => e))
    cases v <;> first | exact hv.elim | exact wpAny_pure ⟨_, rfl, hv⟩
  rcases hi : cmpInfo CmpOp.Eq with ⟨sym, fn, r⟩
  rw [hi] at sl one
  simp only [richCompare, hi, ha.oneThing_none]
  try with_reducible refine wpAny_holding ?_
  refine wpAny_bind (wpAny_cRoomFor_or (.inr hu) ?_)
  refine wpAny_bind (wpAny_typeOf ha (wpAny_bind (I.type.here ?_)))
  have hne : (Value.type T != Value.ref C') = true := rfl
  simp only [hne, if_true]
  refine wpAny_bind ((looks_subIn X hsub).here ?_)
  simp only [Bool.false_eq_true, if_false, Bool.not_false, if_true]
  refine wpAny_bind (m := tryCompare av _ (.ref x)) (wpAny_tryCompare_declines ha sl (hd _ ⟨rfl, ?_⟩))
  refine wpAny_bind (m := tryCompare (.ref x) _ av) (wpAny_mono one (fun r s' z => ?_) fun _ _ e => e)
  obtain ⟨v, rfl, hq⟩ := z
  exact wpAny_pure hq
theorem tup_declines {l : Addr} {items : Array Value} {n : Nat} {dd : Option Addr} {sl : Array (Option Value)} (X : K.In s.heap) (I : InstAt s.heap x ox C' od) (hsub : subIn K (.ref C') (.type "tuple") = some false) (ho : s.heap.get? l = some { cls := .type "tuple", dict := dd, data := .seq items n, slots := sl })
    {Q : Value → Shared → Prop} (hq : Q .notImplemented s) : wpAny (model prog w) A (call (.builtin "tuple.__eq__") [.ref l, .ref x]) Q E s := by
  refine GQ.call_here F.slot_tuple_eq ⟨_, ho, rfl⟩ F.entry_tuple_eq (F.args_tuple_eq_2 _ _) ?_
  have hx := I.at_
  have hc := I.cls
  have f1 : ∀ {M : Model} {A : Around} {E : Value → Shared → Prop} {Q : Bool → Shared → Prop}, Q false s → wpAny M A (isSubtype (.ref C') (.type "tuple")) Q E s := fun q => (looks_subIn X hsub).here q
  obtain ⟨hp, g, d, tk, os⟩ := s
  wp_walk using wpAny_loadPart' ho
  rw [hc]
  refine f1 ?_
  wp_walk
  exact hq
theorem int_declines {i : Int} {t : Tok} (I : InstAt s.heap x ox C' od) (hn : ∀ i t, ox.data ≠ .prim (.int i t)) {Q : Value → Shared → Prop} (hq : Q .notImplemented s) : wpAny (model prog w) A (call (.builtin "int.__eq__") [.int i t, .ref x]) Q E s := by
  refine GQ.call_here F.slot_int_eq (typeIs_int s i t) F.entry_int_eq (F.args_int_eq_2 _ _) ?_
  have hx := I.at_
  obtain ⟨hp, g, d, tk, os⟩ := s
  wp_walk using wpAny_loadPart' hx
  split
  · rename_i i t e
    exact absurd e (hn i t)
  · wp_walk
    exact hq
theorem non_declines {Q : Value → Shared → Prop} (hq : Q .notImplemented s) : wpAny (model prog w) A (call (.builtin "NoneType.__eq__") [.none, .ref x]) Q E s :=
  call_gives F.slot_NoneType_eq rfl F.entry_NoneType_eq (F.args_NoneType_eq_2 _ _) (NoneType___eq___none_ref_0 x) hq
end
section
open PySem L2
open PySem.W (Looks)
variable {X : Cx} {Γ : Cfg}
end
end R
namespace R
open PySem L2 PySem.Spec PyProof.Rows
open PySem.W (Looks)
section
variable {X : Cx} {C : Cn} {pos : Pos}
structure XvF (K : PySem.W.Frag) (D : Addr) (f : Str) : Prop where
  oex : OexC K D
  ga : PySem.W.findIn K (.ref D) "__getattribute__" = some (some (.builtin "BaseException.__getattribute__"))
  gg : PySem.W.findIn K (.ref D) "__getattr__" = some none
  hd : PySem.W.hasDictIn K D = true
  no : PySem.W.findIn K (.ref D) f = some none
end
section
variable {X : Cx} {C : Cn} {pos : Pos}
end
end R
namespace R
open PySem L2
def fnA (N : Nat) (body : R.S) : FnM := fun xs p => match body ⟨p.length, xs.map some ++ List.replicate (N - xs.length) none⟩ p with
  | .ret x q => .ok x q
  | _ => .stuck
theorem SimP.out {Γ : Cfg} {L : Lv} {w : Wd} {q : Pool} {H : Hp} {n : Nat} (S : SimP Γ (L.deeper n) w q H) (hb : L.b ≤ n) (hlo : ∀ k, L.b ≤ k → L.lo k = none) (hm : ∀ k m, L.lo k = some m → m ≤ n) : SimP Γ L w q H := by
  have hn : n ≤ q.length := S.hb
  refine S.level (Nat.le_trans hb hn) hlo (fun k m e => Nat.le_trans (hm k m e) hn) fun k c a h1 h2 x => ?_
  by_cases hk : k < n
  · rw [Lv.deeper_lt hk] at x
    refine x.step ?_ (fun _ _ g => ?_) fun _ _ z => z
    · cases e : L.lo k with
      | none => exact w.low_le _
      | some m =>
        refine ⟨fun _ _ z => z, ?_⟩
        show w.ρ.take (min m n) <+: w.ρ.take m
        have e2 : w.ρ.take (min m n) = (w.ρ.take m).take (min m n) := by
          rw [List.take_take]
          congr 1
          omega
        rw [e2]
        exact List.take_prefix _ _
    · rw [Wd.low_G] at g ⊢
      exact g
  · have e0 : (L.deeper n).lo k = none := by
      show (if k < n then _ else none) = none
      rw [if_neg hk]
    rw [e0] at x
    rw [hlo k (by omega)]
    exact x
section
variable {P : Program} {w0 : World} {K : PySem.W.Frag} {mg : Str → Option Value} {base : Heap}
end
section
variable {X : Cx} {C : Cn} {pos : Pos}
structure RK (X : Cx) (C : Cn) (ks : List Keyword) (m : M (List PV)) : Prop where
  pk : PK X ks (wA C m)
  len : ∀ en p xs q, m en p = .ok xs q → xs.length = ks.length
def mKw (f : FnM) (a b : M (List PV)) : M PV := fun en p => (a en p).bind fun xs p1 => (b en p1).bind fun ys p2 => f (xs ++ ys) p2
theorem perm_eq : ∀ {l m : List Int}, l.Perm m → l.Pairwise (· ≤ ·) → m.Pairwise (· ≤ ·) → l = m
  | [], m, h, _, _ => (List.nil_perm.mp h).symm ▸ rfl
  | a :: l, [], h, _, _ => by
    have := h.length_eq
    simp at this
  | a :: l, b :: m, h, h1, h2 => by
    have e : a = b := by
      have ha : a ∈ b :: m := h.subset List.mem_cons_self
      have hb : b ∈ a :: l := h.symm.subset List.mem_cons_self
      rcases List.mem_cons.mp ha with e | ha
      · exact e
      · rcases List.mem_cons.mp hb with e | hb
        · exact e.symm
        · have x := (List.pairwise_cons.mp h1).1 b hb
          have y := (List.pairwise_cons.mp h2).1 a ha
          omega
    subst e
    rw [perm_eq ((List.perm_cons a).mp h) (List.pairwise_cons.mp h1).2 (List.pairwise_cons.mp h2).2]
end
end R
namespace R
open PySem L2 PySem.Spec PyProof.Rows
open AutoSeq1 (wpAny_loadPart')
set_option maxHeartbeats 1000000 in
theorem enum_new1 {v : Value} {o : Obj} {Hp0 : Heap → Prop} (B : Begins v o Hp0) :
    Meets (Builtin.«enumerate.__new__» ⟨[.type "enumerate", v], []⟩) (fun _ R s => Hp0 s.heap ∧
      R (.ok (.ret (.ref (s.heap.push o).objs.size))) { s with heap := (s.heap.push o).push { cls := .type "enumerate", data := .fields #[.none, .bool false, .ref s.heap.objs.size, rawInt 0, .none, .none] } }) :=
  .of_wp fun prog w A R s h => by
    obtain ⟨hp, g, d, tk, os⟩ := s
    obtain ⟨h1, h⟩ := h
    have hsub := sub_enumerate
    have q1 : ∀ {A' : Around} {E : Value → Shared → Prop} {Q : Value → Shared → Prop}, Q (.ref hp.objs.size) ⟨hp.push o, g, d, tk, os⟩ → wpAny (model prog w) A' (pyIter v) Q E ⟨hp, g, d, tk, os⟩ :=
      fun q => B.iter prog w _ _ ⟨hp, g, d, tk, os⟩ _ h1 q
    wp_walk using q1
    refine wpAny_stack_any fun st => wpAny_pure ?_
    split
    · rename_i c _ _ _ _ _
      cases (c == Value.type "enumerate") <;> (wp_walk using q1; exact ⟨_, rfl, h⟩)
    · wp_walk using q1
      exact ⟨_, rfl, h⟩
theorem enum_call1 {prog : Program} {w : World} {A : Around} {E : Value → Shared → Prop} {s : Shared} {v : Value} {o : Obj} {Hp0 : Heap → Prop} {Q : Value → Shared → Prop} (B : Begins v o Hp0) (h1 : Hp0 s.heap)
    (h : ∀ h', IsEnum h' (s.heap.objs.size + 1) s.heap.objs.size 0 .none → h'.get? s.heap.objs.size = some o → (∀ b o, s.heap.get? b = some o → h'.get? b = some o) → Q (.ref (s.heap.objs.size + 1)) { s with heap := h' }) :
    wpAny (model prog w) A (call (.type "enumerate") [v]) Q E s := by
  refine callType_new F.called_enumerate (by decide) (F.typeCall_enumerate_1 _) (F.newCall_enumerate_1 _) (fun obj => F.args_object_init_2 obj _) F.entry_enumerate_new (enum_new1 B) ⟨h1, ?_⟩
  have hz : (s.heap.push o).objs.size = s.heap.objs.size + 1 := Heap.size_push ..
  show _ ∧ _
  rw [hz]
  have he := Heap.get?_push_size (s.heap.push o) (o := { cls := .type "enumerate", data := .fields #[.none, .bool false, .ref s.heap.objs.size, rawInt 0, .none, .none] }) rfl
  rw [hz] at he
  exact ⟨⟨_, he, rfl⟩, h _ he (Heap.get?_push_of_some _ (Heap.get?_push_size _ B.free)) fun b o x => Heap.get?_push_of_some _ (Heap.get?_push_of_some _ x)⟩
def IteT (K : PySem.W.Frag) (a : Addr) : It :=
  ⟨fun i H => ∃ (xs : List V) (x : V), SqT K H a xs ∧ xs[i]? = some x, fun i H v H' => ∃ T x, v = .ref T ∧ H T = none ∧ H' = upd H T (.tup [.int (i : Nat), x]) ∧ ∀ xs, SqT K H a xs → xs[i]? = some x, fun i H => ∃ xs : List V, SqT K H a xs ∧ xs.length ≤ i⟩
theorem turn_enumT {P : Program} {w : World} {K : PySem.W.Frag} {elts : List Expr} {kk : Nat} {tpos : Pos} (a e it : Addr) :
    Turn P w K (.Tuple elts kk tpos) (IteT K a) [e, it] e (fun i h => (∃ old, IsEnum h e it ((i : Nat) : Int) old) ∧ h.IsTupleIter it a i ∧ e ≠ it ∧ a ≠ it ∧ e ≠ a) where
  mem := List.mem_cons_self
  obj := fun i h st b hb => by
    obtain ⟨⟨old, he⟩, ⟨o, ho, hc, hd⟩, _⟩ := st
    rcases List.mem_cons.mp hb with rfl | hb
    · exact ⟨_, he, fun v q => nomatch q⟩
    · rw [List.mem_singleton.mp hb]
      exact ⟨o, ho, fun v q => by rw [hd] at q; cases q⟩
  keep := fun i h h' ⟨⟨old, he⟩, hi, r⟩ k => ⟨⟨old, k e List.mem_cons_self _ he⟩, hi.at fun o q => k it (List.mem_cons_of_mem _ List.mem_cons_self) o q, r⟩
  item := by
    intro X hP hw hK hc i pins s σ H E I hf st hg
    subst hP hw hK
    obtain ⟨⟨old, he⟩, hit, hne, hai, hea⟩ := st
    obtain ⟨xs, x, hq, hx⟩ := hg
    obtain ⟨its, rv, p, hz⟩ := I.tuple hq
    obtain ⟨u, hu, ru⟩ := rv.get hx
    have hel : e < s.heap.objs.size := Heap.lt_size he
    have hil : it < s.heap.objs.size := by obtain ⟨_, q, _⟩ := hit; exact Heap.lt_size q
    have hlt : i < its.toArray.size := by simpa using (List.getElem?_eq_some_iff.mp hu).1
    have D := Draws.tuple (prog := X.prog) (w := X.w) (A := X.A.in1) (I.ok.hd hc) it a hai its.toArray
    refine wpAny_pyNext_enum_itemD D he ⟨hit, p⟩ hlt hne (by simp [hne, hea]) fun x' h' tk hP ho hit' hT hsz hk => ?_
    have ex : x' = u := by
      have e1 : its.toArray[i]? = some u := by simpa using hu
      exact Option.some.inj (hP.symm.trans e1)
    subst ex
    refine ⟨_, rfl, wpAny_letOwnedTupleGo_enum (s := { s with heap := h', toks := tk + 1 }) ho fun h'' he' sb => ?_⟩
    have hT2 : h''.get? s.heap.objs.size = some { cls := .type "tuple", data := .seq #[.int i tk, x'] } := (sb.2 _ (Nat.ne_of_gt hel)).trans hT
    have new : ObjOk X.prog X.w (upd H s.heap.objs.size (.tup [.int (i : Nat), x])) h'' s.heap.objs.size (.tup [.int (i : Nat), x]) :=
      ⟨by show 2 ≤ sizeLine; decide, [.int i tk, x'], .cons ⟨_, rfl⟩ (.cons ru .nil), ⟨_, hT2, rfl, _, rfl⟩⟩
    have I1 : Inv X pins σ (upd H s.heap.objs.size (.tup [.int (i : Nat), x])) { s with heap := h'', toks := tk + 1 } :=
      I.turnedNew (ch := [e, it]) (fun b ob hb q => (sb.2 b (fun z => hb (by simp [z]))).trans (hk b ob (fun z => hb (by simp [z])) (fun z => hb (by simp [z])) q)) hf (Nat.le_refl _) new
    refine ⟨.ref s.heap.objs.size, _, I1, rfl, ⟨_, x, rfl, I.hok.fresh (Nat.le_refl _), rfl, fun ys hy => by rw [I.tuple_inj hy hq]; exact hx⟩, ⟨⟨x', ?_⟩, hit'.1.at fun o q => (sb.2 it (Ne.symm hne)).trans q, hne, hai, hea⟩, fun b hb => ?_⟩
    · rw [show ((i + 1 : Nat) : Int) = (i : Int) + 1 by omega]
      exact he'
    · have hb' : b < s.heap.objs.size := by
        rcases List.mem_cons.mp hb with rfl | hb
        · exact hel
        · rw [List.mem_singleton.mp hb]
          exact hil
      rw [upd_ne (Nat.ne_of_lt hb')]
      exact (hf b hb).1
  done := by
    intro X hP hw hK hc i pins s σ H E I hf st hg
    subst hP hw hK
    obtain ⟨⟨old, he⟩, hit, hne, hai, hea⟩ := st
    obtain ⟨xs, hq, hx⟩ := hg
    obtain ⟨its, rv, p, hz⟩ := I.tuple hq
    obtain ⟨f0, f1, f2, f3, f4, f5⟩ := hf it (List.mem_cons_of_mem _ List.mem_cons_self)
    have hl := rv.length
    have hTy : s.TypeIs (.ref e) "enumerate" := ⟨_, he, rfl⟩
    unfold pyNext
    refine wpAny_bind (wpAny_attempt (wpAny_callSpecial?_slot (name := Str.ofString "__next__") hTy F.slot_enumerate_next (wpAny_call_entry F.slot_enumerate_next hTy F.entry_enumerate_next ?_ (F.args_enumerate_next_1 _))))
    show wpAny _ _ (field (.ref e) 2 >>= _) _ _ _
    refine wpAny_bind (wpAny_field he rfl (x := .ref it) rfl ?_)
    refine wpAny_bind (wpAny_nextOf_tuple_end (I.ok.hd hc) hit p (by simp; omega) fun h' x he' hx' => ?_)
    obtain ⟨o, ho, hoc⟩ := hx'
    exact wpAny_bind (wpAny_isInstance (T := "StopIteration") (b := true) ⟨o, ho, hoc⟩ isSubtype_stop (wpAny_pure ⟨rfl, I.turned (t' := s.toks) (fun b o hb q => he' b o hb q) f0 f1 f3 f4 f5⟩))
  self := fun A i s Q E st h => let ⟨⟨_, he⟩, _⟩ := st; wpAny_pyIter_enum he h
section
variable {X : Cx} {C : Cn} {pos : Pos}
def iEnumT (K : PySem.W.Frag) (ta : TA) : TI := fun σ H R => ta σ H fun vs H1 => ∃ a xs, vs = [.ref a] ∧ SqT K H1 a xs ∧ R (IteT K a) H1
theorem pi_enumT {e : Expr} {ta : TA} {p tpos : Pos} {elts : List Expr} {kk : Nat} (hg : Gl X "enumerate") (hm : X.mg "enumerate" = none) (ha : PA X [e] ta) (hs : starEach [e] X.env = [(false, eval e X.env)] := by rfl) :
    PI X (.Tuple elts kk tpos) (.Call (.Name "enumerate" p) [e] [] pos) (iEnumT X.K ta) := by
  refine ⟨fun pins s σ H R I h => ?_⟩
  refine Call_ (ld_blt I hg hm Boot.«enumerate» (PyProof.Rows.callWith_type1 (thn (ha.run pos pins s σ H _ I h) fun us s1 ⟨vs, H1, I1, r1, a, xs, ex, hq, q⟩ => ?_) hs rfl))
  subst ex
  obtain ⟨u, rfl, r⟩ := vals1 r1
  cases r
  obtain ⟨its, rv, p', hz⟩ := I1.tuple hq
  have hal : a < s1.heap.objs.size := by obtain ⟨o, ho, _⟩ := id p'; exact Heap.lt_size ho
  refine enum_call1 (begins_tuple a its.toArray) p' fun h' he hit hk => wpAny_pyIter_enum he ?_
  have I2 : Inv X pins σ H1 { s1 with heap := h' } := I1.kept (t' := s1.toks) hk
  refine ⟨s1.heap.objs.size + 1, [s1.heap.objs.size + 1, s1.heap.objs.size], _, _, H1, rfl, I2, turn_enumT a (s1.heap.objs.size + 1) s1.heap.objs.size, ⟨⟨.none, he⟩, ⟨_, hit, rfl, rfl⟩, Nat.succ_ne_self _, Nat.ne_of_lt hal, fun z => absurd hal (by rw [← z]; exact Nat.not_lt_of_le (Nat.le_succ _))⟩, fun b hb => ?_, q⟩
  · have hle : s1.heap.objs.size ≤ b := by
      rcases List.mem_cons.mp hb with rfl | hb
      · exact Nat.le_add_right _ _
      · rw [List.mem_singleton.mp hb]
        exact Nat.le_refl _
    exact I1.fpOk hle (I1.hok.fresh hle)
theorem itR_enumT {Γ : Cfg} {w : Wd} {a : Addr} {xs : List PV} {vs : List V} (h : SqT Γ.K w.G a vs) (r : Reps Γ w xs vs) : ItR Γ w noCk (enumZ 0 xs) (IteT Γ.K a) := fun L w' p H l S _ i => by
  have h' : SqT Γ.K H a vs := seqT_mono (fun b o e => S.sub b o (l.1 b o e)) h
  rw [enumZ_get]
  cases e : xs[i]? with
  | none => exact ⟨fun _ => ⟨vs, h', by rw [← r.length]; exact List.getElem?_eq_none_iff.mp e⟩, (fun _ z => nomatch z)⟩
  | some x =>
    refine ⟨(fun z => nomatch z), fun y ey => ?_⟩
    have ey : PV.tup [.int ((0 + i : Nat) : Int), x] = y := Option.some.inj ey
    subst ey
    obtain ⟨v, ev, rv⟩ := r.get e
    refine ⟨⟨vs, v, h', ev⟩, fun u H' hy => ?_⟩
    obtain ⟨T, z, rfl, hT, rfl, hu⟩ := hy
    have e2 : z = v := Option.some.inj ((hu vs h').symm.trans ev)
    subst e2
    refine new_tup S hT (Reps.cons ?_ (Reps.cons (rv.mono l) Reps.nil))
    rw [Nat.zero_add]
    exact rfl
def itEA (a : M (List PV)) : M It0 := fun en p => (a en p).bind fun xs p1 => match xs with
  | [.tup ys] => .ok ⟨enumZ 0 ys, noCk⟩ p1
  | [x] => match getZL x with
    | some ys => .ok ⟨enumZ 0 ys, noCk⟩ p1
    | none => .stuck
  | _ => .stuck
theorem ri_enumA {e : Expr} {m : M (List PV)} {p tpos : Pos} {elts : List Expr} {kk : Nat} (hK : X.K = C.Γ.K) (hg : Gl X "enumerate") (hm : X.mg "enumerate" = none) (ha : RA X C [e] m) (hs : starEach [e] X.env = [(false, eval e X.env)] := by rfl) :
    RI X C (.Tuple elts kk tpos) (.Call (.Name "enumerate" p) [e] [] pos) (itEA m) := PI.imp (PI.or (pi_enum hg hm ha.pa hs) (pi_enumT hg hm ha.pa hs)) fun σ H R ⟨L, w, p, en, S, E, h⟩ => by
  rw [hK]
  unfold itEA at h
  cases ea : m en p with
  | exc c v p1 =>
    rw [ea] at h
    refine .inl ⟨L, w, p, en, S, E, ?_⟩
    rw [ea]
    exact h
  | stuck =>
    rw [ea] at h
    exact h.elim
  | ok xs p1 =>
    rw [ea] at h
    dsimp only [Res.bind] at h
    split at h
    · rename_i ys
      refine .inr ⟨L, w, p, en, S, E, ?_⟩
      rw [ea]
      intro w1 H1 vs l1 S1 r1
      obtain ⟨v, rfl, rv⟩ := reps1 r1
      obtain ⟨a, us, rfl, hq, rr⟩ := rv
      exact ⟨a, us, rfl, seqT_mono S1.sub hq, h w1 H1 _ l1 S1 (itR_enumT hq rr)⟩
    · rename_i x _
      split at h
      · rename_i ys ey
        refine .inl ⟨L, w, p, en, S, E, ?_⟩
        rw [ea]
        intro w1 H1 vs l1 S1 r1
        obtain ⟨v, rfl, rv⟩ := reps1 r1
        obtain ⟨a, us, rfl, hq, rr⟩ := getZL_ok rv ey
        exact ⟨a, us, rfl, seqL_mono S1.sub hq, h w1 H1 _ l1 S1 (itR_enum hq rr)⟩
      · exact h.elim
    · exact h.elim
end
end R
namespace R
open PySem L2 PySem.Spec PyProof.Rows
def ItzM (K : PySem.W.Frag) (a b : Addr) (n m : Nat) : It :=
  ⟨fun i H => ∃ (xs ys : List V) (x y : V), SqT K H a xs ∧ SqL K H b ys ∧ xs.length = n ∧ ys.length = m ∧ xs[i]? = some x ∧ ys[i]? = some y,
    fun i H v H' => ∃ T x y, v = .ref T ∧ H T = none ∧ H' = upd H T (.tup [x, y]) ∧ (∀ xs, SqT K H a xs → xs[i]? = some x) ∧ ∀ ys, SqL K H b ys → ys[i]? = some y,
    fun i H => ∃ xs ys : List V, SqT K H a xs ∧ SqL K H b ys ∧ xs.length = n ∧ ys.length = m ∧ (n ≤ i ∨ m ≤ i)⟩
theorem turn_zipM {P : Program} {w : World} {K : PySem.W.Frag} {elts : List Expr} {kk : Nat} {tpos : Pos} {a b z TI TO i1 i2 : Addr} {n m : Nat} (D : ZipSep2 z TI TO i1 i2 [i1, a] [i2, b]) (na : a ≠ i1) (nb : b ≠ i2) :
    Turn P w K (.Tuple elts kk tpos) (ItzM K a b n m) [z, TI, TO, i1, i2] z (fun i h => IsZip h z TI TO .none ∧ IsTupOf2 h TI (.ref i1) (.ref i2) ∧ (∃ x y, IsTupOf2 h TO x y) ∧ h.IsTupleIter i1 a i ∧ h.IsListIter i2 b i ∧ i ≤ n ∧ i ≤ m) where
  mem := List.mem_cons_self
  obj := fun i h st c hc => by
    obtain ⟨hz, hTI, ⟨x, y, hTO⟩, ⟨o1, e1, _, d1⟩, ⟨o2, e2, _, d2⟩, _⟩ := st
    simp only [List.mem_cons, List.not_mem_nil, or_false] at hc
    rcases hc with rfl | rfl | rfl | rfl | rfl
    · exact ⟨_, hz, fun v q => nomatch q⟩
    · exact ⟨_, hTI, fun v q => nomatch q⟩
    · exact ⟨_, hTO, fun v q => nomatch q⟩
    · exact ⟨o1, e1, fun v q => by rw [d1] at q; cases q⟩
    · exact ⟨o2, e2, fun v q => by rw [d2] at q; cases q⟩
  keep := fun i h h' st k => by
    obtain ⟨hz, hTI, ⟨x, y, hTO⟩, h1, h2, l⟩ := st
    exact ⟨k z (by simp) _ hz, k TI (by simp) _ hTI, ⟨x, y, k TO (by simp) _ hTO⟩, h1.at fun o q => k i1 (by simp) o q, h2.at fun o q => k i2 (by simp) o q, l⟩
  item := by
    intro X hP hw hK hc i pins s σ H E I hf st hg
    subst hP hw hK
    obtain ⟨hz, hTI, ⟨x0, y0, hTO⟩, h1, h2, l1, l2⟩ := st
    obtain ⟨xs, ys, x, y, hqx, hqy, ln, lm, hx, hy⟩ := hg
    obtain ⟨its, rv, p, _⟩ := I.tuple hqx
    obtain ⟨its2, rv2, p2, _⟩ := I.list hqy
    obtain ⟨u, hu, ru⟩ := rv.get hx
    obtain ⟨u2, hu2, ru2⟩ := rv2.get hy
    have hzl : z < s.heap.objs.size := Heap.lt_size hz
    have k1 : i < its.toArray.size := by simpa using (List.getElem?_eq_some_iff.mp hu).1
    have k2 : i < its2.toArray.size := by simpa using (List.getElem?_eq_some_iff.mp hu2).1
    have D1 := Draws.tuple (prog := X.prog) (w := X.w) (A := X.A.in1) (I.ok.hd hc) i1 a na its.toArray
    have D2 := Draws.list (prog := X.prog) (w := X.w) (A := X.A.in1) (I.ok.hd hc) i2 b nb its2.toArray
    refine wpAny_pyNext_zipD2_item D D1 D2 hz hTI hTO ⟨h1, p⟩ ⟨h2, p2.isList⟩ k1 k2 fun x1 x2 h' tk P1 P2 z' TO' st1 st2 hT hsz hk => ?_
    have e1 : x1 = u := by
      have e : its.toArray[i]? = some u := by simpa using hu
      exact Option.some.inj (P1.symm.trans e)
    have e2 : x2 = u2 := by
      have e : its2.toArray[i]? = some u2 := by simpa using hu2
      exact Option.some.inj (P2.symm.trans e)
    subst e1
    subst e2
    refine ⟨_, rfl, wpAny_letOwnedTupleGo_zip (s := { s with heap := h', toks := tk }) z' fun h'' z'' sb => ?_⟩
    have hT2 : h''.get? s.heap.objs.size = some { cls := .type "tuple", data := .seq #[x1, x2] } := (sb.2 _ (Nat.ne_of_gt hzl)).trans hT
    have new : ObjOk X.prog X.w (upd H s.heap.objs.size (.tup [x, y])) h'' s.heap.objs.size (.tup [x, y]) :=
      ⟨by show 2 ≤ sizeLine; decide, [x1, x2], .cons ru (.cons ru2 .nil), ⟨_, hT2, rfl, _, rfl⟩⟩
    have I1 : Inv X pins σ (upd H s.heap.objs.size (.tup [x, y])) { s with heap := h'', toks := tk } :=
      I.turnedNew (t' := tk) (ch := [z, TI, TO, i1, i2]) (fun c o hb q => (sb.2 c (fun q' => hb (by simp [q']))).trans (hk c o (fun q' => hb (by simp [q'])) (fun q' => hb (by simp [q'])) (fun q' => hb (by simp [q'])) (fun q' => hb (by simp [q'])) q)) hf (Nat.le_refl _) new
    have i1z : i1 ≠ z := fun q => D.zf1 (by rw [← q]; exact List.mem_cons_self)
    have i2z : i2 ≠ z := fun q => D.zf2 (by rw [← q]; exact List.mem_cons_self)
    refine ⟨.ref s.heap.objs.size, _, I1, rfl, ⟨_, x, y, rfl, I.hok.fresh (Nat.le_refl _), rfl, fun l hl => by rw [I.tuple_inj hl hqx]; exact hx, fun l hl => by rw [I.list_inj hl hqy]; exact hy⟩, ⟨z'', ?_, ⟨x1, x2, ?_⟩, ?_, ?_, ?_, ?_⟩, fun c hcm => ?_⟩
    · exact (sb.2 _ D.TIz).trans (hk _ _ D.TIz D.TITO D.TIi1 D.TIi2 hTI)
    · exact (sb.2 _ D.TOz).trans TO'
    · exact st1.1.at fun o q => (sb.2 _ i1z).trans q
    · exact st2.1.at fun o q => (sb.2 _ i2z).trans q
    · rw [← ln]
      exact (List.getElem?_eq_some_iff.mp hx).1
    · rw [← lm]
      exact (List.getElem?_eq_some_iff.mp hy).1
    · have hlt : c < s.heap.objs.size := by
        simp only [List.mem_cons, List.not_mem_nil, or_false] at hcm
        rcases hcm with rfl | rfl | rfl | rfl | rfl
        · exact hzl
        · exact Heap.lt_size hTI
        · exact Heap.lt_size hTO
        · obtain ⟨_, e1, _⟩ := h1
          exact Heap.lt_size e1
        · obtain ⟨_, e2, _⟩ := h2
          exact Heap.lt_size e2
      rw [upd_ne (Nat.ne_of_lt hlt)]
      exact (hf c hcm).1
  done := by
    intro X hP hw hK hc i pins s σ H E I hf st hg
    subst hP hw hK
    obtain ⟨hz, hTI, ⟨x0, y0, hTO⟩, h1, h2, l1, l2⟩ := st
    obtain ⟨xs, ys, hqx, hqy, ln, lm, hend⟩ := hg
    obtain ⟨its, rv, p, _⟩ := I.tuple hqx
    obtain ⟨its2, rv2, p2, _⟩ := I.list hqy
    have D1 := Draws.tuple (prog := X.prog) (w := X.w) (A := X.A.in1) (I.ok.hd hc) i1 a na its.toArray
    have D2 := Draws.list (prog := X.prog) (w := X.w) (A := X.A.in1) (I.ok.hd hc) i2 b nb its2.toArray
    have s1 : its.toArray.size = n := by rw [List.size_toArray, ← rv.length, ln]
    have s2 : its2.toArray.size = m := by rw [List.size_toArray, ← rv2.length, lm]
    refine wpAny_pyNext_zipD2_end D D1 D2 hz hTI hTO ⟨h1, p⟩ ⟨h2, p2.isList⟩ (by omega) (by omega) (by omega) fun h' tk hk => ⟨rfl, I.turnedL (t' := tk) (ch := [z, TI, TO, i1, i2]) (fun c o hb q =>
      hk c o (fun q' => hb (by simp [q'])) (fun q' => hb (by simp [q'])) (fun q' => hb (by simp [q'])) (fun q' => hb (by simp [q'])) q) hf⟩
  self := fun A i s Q E st h => wpAny_pyIter_zip st.1 h
theorem sep5 (N a b : Nat) (la : a < N) (lb : b < N) : ZipSep2 (N + 4) (N + 2) (N + 3) N (N + 1) [N, a] [N + 1, b] where
  TIz := fun z => absurd (show N + 2 = N + 4 from z) (by omega)
  TOz := fun z => absurd (show N + 3 = N + 4 from z) (by omega)
  TITO := fun z => absurd (show N + 2 = N + 3 from z) (by omega)
  TIi1 := fun z => absurd (show N + 2 = N from z) (by omega)
  mem1 := List.mem_cons_self
  zf1 := fun z => by
    rcases List.mem_cons.mp z with z | z
    · exact absurd (show N + 4 = N from z) (by omega)
    · exact absurd (show N + 4 = a from List.mem_singleton.mp z) (by omega)
  Tf1 := fun z => by
    rcases List.mem_cons.mp z with z | z
    · exact absurd (show N + 3 = N from z) (by omega)
    · exact absurd (show N + 3 = a from List.mem_singleton.mp z) (by omega)
  TIi2 := fun z => absurd (show N + 2 = N + 1 from z) (by omega)
  mem2 := List.mem_cons_self
  zf2 := fun z => by
    rcases List.mem_cons.mp z with z | z
    · exact absurd (show N + 4 = N + 1 from z) (by omega)
    · exact absurd (show N + 4 = b from List.mem_singleton.mp z) (by omega)
  Tf2 := fun z => by
    rcases List.mem_cons.mp z with z | z
    · exact absurd (show N + 3 = N + 1 from z) (by omega)
    · exact absurd (show N + 3 = b from List.mem_singleton.mp z) (by omega)
  sep1_2 := fun z => by
    rcases List.mem_cons.mp z with z | z
    · exact absurd (show N = N + 1 from z) (by omega)
    · exact absurd (show N = b from List.mem_singleton.mp z) (by omega)
  sep2_1 := fun z => by
    rcases List.mem_cons.mp z with z | z
    · exact absurd (show N + 1 = N from z) (by omega)
    · exact absurd (show N + 1 = a from List.mem_singleton.mp z) (by omega)
section
variable {X : Cx} {C : Cn} {pos : Pos}
def iZipM (K : PySem.W.Frag) (ta : TA) : TI := fun σ H R => ta σ H fun vs H1 => ∃ a b xs ys, vs = [.ref a, .ref b] ∧ SqT K H1 a xs ∧ SqL K H1 b ys ∧ R (ItzM K a b xs.length ys.length) H1
theorem pi_zipM {e e2 : Expr} {ta : TA} {p tpos : Pos} {elts : List Expr} {kk : Nat} (hg : Gl X "zip") (hm : X.mg "zip" = none) (ha : PA X [e, e2] ta)
    (hs : starEach [e, e2] X.env = (false, eval e X.env) :: starEach [e2] X.env := by rfl) (hpl : (backTo pos (starEach [e2] X.env)).any (·.1) = false := by rfl) :
    PI X (.Tuple elts kk tpos) (.Call (.Name "zip" p) [e, e2] [] pos) (iZipM X.K ta) := by
  refine ⟨fun pins s σ H R I h => ?_⟩
  refine Call_ (ld_blt I hg hm Boot.«zip» (PyProof.Rows.callWith_type1 (thn (ha.run pos pins s σ H _ I h) fun us s1 ⟨vs, H1, I1, r1, a, b, xs, ys, ex, hqx, hqy, q⟩ => ?_) hs hpl))
  subst ex
  obtain ⟨u, u', rfl, r, r'⟩ := vals2 r1
  cases r
  cases r'
  obtain ⟨its, rv, p1, _⟩ := I1.tuple hqx
  obtain ⟨its2, rv2, p2, _⟩ := I1.list hqy
  have la : a < s1.heap.objs.size := by obtain ⟨o, ho, _⟩ := id p1; exact Heap.lt_size ho
  have lb : b < s1.heap.objs.size := p2.lt
  refine zip_begins2 (begins_tuple a its.toArray) (begins_list b its2.toArray) p1 p2.isList fun h' hz hTI hTO h1 h2 hsz hk => wpAny_pyIter_zip hz ?_
  have I2 : Inv X pins σ H1 { s1 with heap := h' } := I1.kept (t' := s1.toks) hk
  have D : ZipSep2 (s1.heap.objs.size + 4) (s1.heap.objs.size + 2) (s1.heap.objs.size + 3) s1.heap.objs.size (s1.heap.objs.size + 1) [s1.heap.objs.size, a] [s1.heap.objs.size + 1, b] := sep5 _ a b la lb
  refine ⟨s1.heap.objs.size + 4, [s1.heap.objs.size + 4, s1.heap.objs.size + 2, s1.heap.objs.size + 3, s1.heap.objs.size, s1.heap.objs.size + 1], _, _, H1, rfl, I2, turn_zipM D (Nat.ne_of_lt la) (Nat.ne_of_lt (Nat.lt_succ_of_lt lb)), ⟨hz, hTI, ⟨_, _, hTO⟩, ⟨_, h1, rfl, rfl⟩, ⟨_, h2, rfl, rfl⟩, Nat.zero_le _, Nat.zero_le _⟩, fun c hc => ?_, q⟩
  have hle : s1.heap.objs.size ≤ c := by
    simp only [List.mem_cons, List.not_mem_nil, or_false] at hc
    rcases hc with rfl | rfl | rfl | rfl | rfl
    · exact Nat.le_add_right _ _
    · exact Nat.le_add_right _ _
    · exact Nat.le_add_right _ _
    · exact Nat.le_refl _
    · exact Nat.le_add_right _ _
  exact I1.fpOk hle (I1.hok.fresh hle)
theorem itR_zipM {Γ : Cfg} {w : Wd} {a b : Addr} {xs ys : List PV} {vs us : List V} (h : SqT Γ.K w.G a vs) (r : Reps Γ w xs vs) (k : SqL Γ.K w.G b us) (q : Reps Γ w ys us) : ItR Γ w noCk (zipZ xs ys) (ItzM Γ.K a b vs.length us.length) := fun L w' p H l S _ i => by
  have h' : SqT Γ.K H a vs := seqT_mono (fun b o e => S.sub b o (l.1 b o e)) h
  have k' : SqL Γ.K H b us := seqL_mono (fun b o e => S.sub b o (l.1 b o e)) k
  rw [zipZ_get]
  cases e : xs[i]? with
  | none => exact ⟨fun _ => ⟨vs, us, h', k', rfl, rfl, .inl (by rw [← r.length]; exact List.getElem?_eq_none_iff.mp e)⟩, (fun _ z => nomatch z)⟩
  | some x =>
    cases f : ys[i]? with
    | none => exact ⟨fun _ => ⟨vs, us, h', k', rfl, rfl, .inr (by rw [← q.length]; exact List.getElem?_eq_none_iff.mp f)⟩, (fun _ z => nomatch z)⟩
    | some y =>
      refine ⟨(fun z => nomatch z), fun t et => ?_⟩
      have et : PV.tup [x, y] = t := Option.some.inj et
      subst et
      obtain ⟨v, ev, rv⟩ := r.get e
      obtain ⟨u, eu, ru⟩ := q.get f
      refine ⟨⟨vs, us, v, u, h', k', rfl, rfl, ev, eu⟩, fun t H' hy => ?_⟩
      obtain ⟨T, z, z2, rfl, hT, rfl, hz, hz2⟩ := hy
      have e2 : z = v := Option.some.inj ((hz vs h').symm.trans ev)
      have e3 : z2 = u := Option.some.inj ((hz2 us k').symm.trans eu)
      subst e2
      subst e3
      exact new_tup S hT (Reps.cons (rv.mono l) (Reps.cons (ru.mono l) Reps.nil))
def itZA (a : M (List PV)) : M It0 := fun en p => (a en p).bind fun xs p1 => match xs with
  | [.tup xs, y] => match getZL y with
    | some ys => .ok ⟨zipZ xs ys, noCk⟩ p1
    | none => .stuck
  | [x, y] => match getZL x, getZL y with
    | some xs, some ys => .ok ⟨zipZ xs ys, noCk⟩ p1
    | _, _ => .stuck
  | _ => .stuck
theorem ri_zipA {e e2 : Expr} {m : M (List PV)} {p tpos : Pos} {elts : List Expr} {kk : Nat} (hK : X.K = C.Γ.K) (hg : Gl X "zip") (hm : X.mg "zip" = none) (ha : RA X C [e, e2] m) (hs : starEach [e, e2] X.env = (false, eval e X.env) :: starEach [e2] X.env := by rfl) (hs2 : ((backTo pos (starEach [e2] X.env)).any fun x => x.1) = false := by rfl) :
    RI X C (.Tuple elts kk tpos) (.Call (.Name "zip" p) [e, e2] [] pos) (itZA m) := PI.imp (PI.or (pi_zip hg hm ha.pa hs hs2) (pi_zipM hg hm ha.pa hs hs2)) fun σ H R ⟨L, w, p, en, S, E, h⟩ => by
  rw [hK]
  unfold itZA at h
  cases ea : m en p with
  | exc c v p1 =>
    rw [ea] at h
    refine .inl ⟨L, w, p, en, S, E, ?_⟩
    rw [ea]
    exact h
  | stuck =>
    rw [ea] at h
    exact h.elim
  | ok xs p1 =>
    rw [ea] at h
    dsimp only [Res.bind] at h
    split at h
    · rename_i xs y
      split at h
      · rename_i ys ey
        refine .inr ⟨L, w, p, en, S, E, ?_⟩
        rw [ea]
        intro w1 H1 vs l1 S1 r1
        obtain ⟨v, u, rfl, rv, ru⟩ := reps2 r1
        obtain ⟨a, vs, rfl, hq, rr⟩ := rv
        obtain ⟨b, us, rfl, hq2, rr2⟩ := getZL_ok ru ey
        exact ⟨a, b, vs, us, rfl, seqT_mono S1.sub hq, seqL_mono S1.sub hq2, h w1 H1 _ l1 S1 (itR_zipM hq rr hq2 rr2)⟩
      · exact h.elim
    · rename_i x y _
      split at h
      · rename_i xs ys ex ey
        refine .inl ⟨L, w, p, en, S, E, ?_⟩
        rw [ea]
        intro w1 H1 vs l1 S1 r1
        obtain ⟨v, u, rfl, rv, ru⟩ := reps2 r1
        obtain ⟨a, vs, rfl, hq, rr⟩ := getZL_ok rv ex
        obtain ⟨b, us, rfl, hq2, rr2⟩ := getZL_ok ru ey
        exact ⟨a, b, vs, us, rfl, seqL_mono S1.sub hq, seqL_mono S1.sub hq2, h w1 H1 _ l1 S1 (itR_zip hq rr hq2 rr2)⟩
      · exact h.elim
    · exact h.elim
end
end R
namespace R
open PySem L2
theorem get_last {α : Type} (p : List α) (c : α) : (p ++ [c])[p.length]? = some c := by simp
theorem set_last {α : Type} (p : List α) (c d : α) : (p ++ [c]).set p.length d = p ++ [d] := by simp
theorem take_last {α : Type} (p : List α) (c : α) : (p ++ [c]).take p.length = p := by simp
theorem take_all1 {α : Type} (p : List α) (c : α) : (p ++ [c]).take (p.length + 1) = p ++ [c] := by
  rw [List.take_of_length_le]
  simp
theorem len1 {α : Type} (p : List α) (c : α) : (p ++ [c]).length = p.length + 1 := by simp
theorem take_set {p : Pool} {k : Nat} {c : Cell} : (p.set k c).take p.length = p.set k c := by
  rw [List.take_of_length_le]
  rw [List.length_set]
  exact Nat.le_refl _
mutual
theorem sub_bel {s : Nat → Option PV} : ∀ {x : PV}, bel 0 x = true → sub s x = some x
  | .non, _ => rfl
  | .bl _, _ => rfl
  | .int _, _ => rfl
  | .str _, _ => rfl
  | .tup xs, h => by
    unfold sub
    rw [subs_bel (xs := xs) h]
  | .lst xs, h => by
    unfold sub
    rw [subs_bel (xs := xs) h]
  | .obj _ xs, h => by
    unfold sub
    rw [subs_bel (xs := xs) h]
  | .own k, h => absurd (of_decide_eq_true h) (Nat.not_lt_zero k)
  | .scr _, _ => rfl
  | .xs _ _, _ => rfl
  | .xv _ x, h => by
    unfold sub
    rw [sub_bel (x := x) h]
  | .fn _, _ => rfl
  | .dct, _ => rfl
  | .adr _, _ => rfl
  | .clo _ x, h => by
    unfold sub
    rw [sub_bel (x := x) h]
theorem subs_bel {s : Nat → Option PV} : ∀ {xs : List PV}, bels 0 xs = true → subs s xs = some xs
  | [], _ => rfl
  | x :: xs, h => by
    have h : (bel 0 x && bels 0 xs) = true := h
    rw [Bool.and_eq_true] at h
    unfold subs
    rw [sub_bel h.1]
    dsimp only
    rw [subs_bel h.2]
end
theorem thaw_bel {fld : Nat → List Str} {n : Nat} {p : Pool} {x : PV} (h : bel 0 x = true) : thaw fld n p x = some x := sub_bel h
theorem bels_iff {n : Nat} : ∀ {xs : List PV}, bels n xs = true ↔ ∀ x ∈ xs, bel n x = true
  | [] => ⟨fun _ _ h => (nomatch h), fun _ => rfl⟩
  | x :: xs => by
    show (bel n x && bels n xs) = true ↔ _
    rw [Bool.and_eq_true, bels_iff (xs := xs)]
    constructor
    · rintro ⟨h1, h2⟩ y hy
      rcases List.mem_cons.mp hy with rfl | hy
      · exact h1
      · exact h2 y hy
    · intro h
      exact ⟨h x List.mem_cons_self, fun y hy => h y (List.mem_cons_of_mem _ hy)⟩
theorem may_bel {b k : Nat} {x : PV} (h : bel 0 x = true) : may b k x = true := by
  unfold may
  rw [h, Bool.or_true]
theorem may_le {b k : Nat} {x : PV} (h : b ≤ k) : may b k x = true := by
  unfold may
  rw [decide_eq_true h, Bool.true_or]
theorem may_int (b k : Nat) (i : Int) : may b k (.int i) = true := may_bel rfl
theorem thaw_int {fld : Nat → List Str} {n : Nat} {p : Pool} (i : Int) : thaw fld n p (.int i) = some (.int i) := rfl
theorem thaw_bl {fld : Nat → List Str} {n : Nat} {p : Pool} (i : Bool) : thaw fld n p (.bl i) = some (.bl i) := rfl
theorem thaw_non {fld : Nat → List Str} {n : Nat} {p : Pool} : thaw fld n p .non = some .non := rfl
theorem put0 (c : Nat) (y : PV) : putC c 0 y (.obj c []) = some (.obj c [y]) := by simp [putC]
theorem put1 (c : Nat) (x y : PV) : putC c 1 y (.obj c [x]) = some (.obj c [x, y]) := by simp [putC]
theorem put2 (c : Nat) (x z y : PV) : putC c 2 y (.obj c [x, z]) = some (.obj c [x, z, y]) := by simp [putC]
theorem thaw_obj {fld : Nat → List Str} {c : Nat} {xs : List PV} {p : Pool} (hl : xs.length = (fld c).length) (h : bels 0 xs = true) : thaw fld p.length (p ++ [.obj c xs]) (.own p.length) = some (.obj c xs) := by
  show thw fld p.length (p ++ [.obj c xs]) deep p.length = _
  unfold deep thw
  rw [if_neg (Nat.lt_irrefl _), get_last]
  dsimp only
  rw [if_pos hl, subs_bel h]
theorem atI_nat {α : Type} (xs : List α) (i : Nat) : atI xs (i : Int) = xs[i]? := by
  unfold atI ixN
  rw [if_pos (Int.natCast_nonneg i)]
  by_cases h : (i : Int) < xs.length
  · rw [if_pos h, Int.toNat_natCast]
    rfl
  · rw [if_neg h, List.getElem?_eq_none (by omega)]
    rfl
theorem atI_0 {α : Type} (x : α) (xs : List α) : atI (x :: xs) 0 = some x := atI_nat (x :: xs) 0
theorem atI_1 {α : Type} (x y : α) (xs : List α) : atI (x :: y :: xs) 1 = some y := atI_nat (x :: y :: xs) 1
theorem atI_2 {α : Type} (x y z : α) (xs : List α) : atI (x :: y :: z :: xs) 2 = some z := atI_nat (x :: y :: z :: xs) 2
theorem atI_3 {α : Type} (x y z t : α) (xs : List α) : atI (x :: y :: z :: t :: xs) 3 = some t := atI_nat (x :: y :: z :: t :: xs) 3
theorem atI_mem {α : Type} (xs : List α) (d : Int) (h0 : 0 ≤ d) (h1 : d < xs.length) : ∃ x, x ∈ xs ∧ atI xs d = some x := by
  have hl : d.toNat < xs.length := by omega
  refine ⟨xs[d.toNat], List.getElem_mem hl, ?_⟩
  have h := atI_nat xs d.toNat
  rw [Int.toNat_of_nonneg h0] at h
  rw [h]
  exact List.getElem?_eq_getElem hl
theorem ixN_30 : ixN (0 + 1 + 1 + 1) 0 = some 0 := rfl
theorem ixN_31 : ixN (0 + 1 + 1 + 1) 1 = some 1 := rfl
theorem ixN_32 : ixN (0 + 1 + 1 + 1) 2 = some 2 := rfl
theorem ixN_nat {n i : Nat} (h : i < n) : ixN n (i : Int) = some i := by
  unfold ixN
  rw [if_pos (Int.natCast_nonneg i), if_pos (by omega), Int.toNat_natCast]
theorem pEq_int (a b : Int) (p : Pool) : pEq (.int a) (.int b) p = .ok (.bl (decide (a = b))) p := by
  have h : eqD (.int a) (.int b) = some (decide (a = b)) := by
    show (if SeqAt.shaped (.int a) = true ∧ SeqAt.shaped (.int b) = true then some (PyData.eqv (.int a) (.int b)) else none) = _
    rfl
  unfold pEq
  rw [h]
theorem pNe_int (a b : Int) (p : Pool) : pNe (.int a) (.int b) p = .ok (.bl (!decide (a = b))) p := by
  have h : eqD (.int a) (.int b) = some (decide (a = b)) := by
    show (if SeqAt.shaped (.int a) = true ∧ SeqAt.shaped (.int b) = true then some (PyData.eqv (.int a) (.int b)) else none) = _
    rfl
  unfold pNe
  rw [h]
theorem fnM_ret {fld : Nat → List Str} {N : Nat} {body : R.S} {xs : List PV} {p q : Pool} {x y : PV} (h : body ⟨p.length, xs.map some ++ List.replicate (N - xs.length) none⟩ p = .ret x q) (t : thaw fld p.length q x = some y) : fnM fld N body xs p = .ok y (q.take p.length) := by
  unfold fnM
  rw [h]
  dsimp only
  rw [t]
theorem loopC_map {ck : Pool → Bool} {g : T1} {tt : M Bool} {te : M PV} {vs : List Nat} {en : En} {p : Pool} {f : PV → Option PV} (hck : ∀ acc, ck (p ++ [.lst acc]) = true) : ∀ (xs acc : List PV),
    (∀ x, x ∈ xs → ∃ as : As, g x = some as ∧ as.all (fun a => vs.elem a.1) = true ∧ ∀ acc, tt (en.sets as) (p ++ [.lst acc]) = .ok (f x).isSome (p ++ [.lst acc]) ∧ ∀ y, f x = some y → te (en.sets as) (p ++ [.lst acc]) = .ok y (p ++ [.lst acc]) ∧ bel p.length y = true) →
    acc.length + xs.length ≤ big → loopC ck g tt te vs p.length en xs (p ++ [.lst acc]) = .ok () (p ++ [.lst (acc ++ xs.filterMap f)])
  | [], acc, _, _ => by
    rw [List.filterMap_nil, List.append_nil]
    unfold loopC
    rw [if_pos (hck acc)]
  | x :: xs, acc, h, hl => by
    obtain ⟨as, eg, ea, ht⟩ := h x List.mem_cons_self
    obtain ⟨t1, t2⟩ := ht acc
    rw [List.length_cons] at hl
    unfold loopC
    rw [if_pos (hck acc), eg]
    dsimp only
    rw [if_pos ea, t1]
    dsimp only [Res.bind]
    cases ef : f x with
    | none =>
      rw [if_neg (by simp), take_all1, List.filterMap_cons_none ef]
      exact loopC_map hck xs acc (fun y hy => h y (List.mem_cons_of_mem _ hy)) (by omega)
    | some y =>
      obtain ⟨t3, t4⟩ := t2 y ef
      rw [if_pos (by simp), t3]
      dsimp only [Res.bind]
      rw [get_last]
      dsimp only
      rw [if_pos ⟨t4, by omega⟩, take_all1, set_last, loopC_map hck xs (acc ++ [y]) (fun y hy => h y (List.mem_cons_of_mem _ hy)) (by rw [List.length_append, List.length_singleton]; omega), List.filterMap_cons_some ef, List.append_assoc]
      rfl
theorem mLc_map {it : M It0} {g : T1} {tt : M Bool} {te : M PV} {vs : List Nat} {en : En} {p p1 : Pool} {z : It0} (f : PV → Option PV) (hi : it en p = .ok z p1) (hck : ∀ acc, z.ck (p1 ++ [.lst acc]) = true)
    (h : ∀ x, x ∈ z.xs → ∃ as : As, g x = some as ∧ as.all (fun a => vs.elem a.1) = true ∧ ∀ acc, tt (En.sets ⟨p1.length + 1, wipeE en.sl vs⟩ as) (p1 ++ [.lst acc]) = .ok (f x).isSome (p1 ++ [.lst acc]) ∧ ∀ y, f x = some y → te (En.sets ⟨p1.length + 1, wipeE en.sl vs⟩ as) (p1 ++ [.lst acc]) = .ok y (p1 ++ [.lst acc]) ∧ bel p1.length y = true)
    (hl : z.xs.length ≤ big) : mLc it g tt te vs en p = .ok (.lst (z.xs.filterMap f)) p1 := by
  unfold mLc
  rw [hi]
  dsimp only [Res.bind]
  rw [loopC_map hck z.xs [] h (by rw [List.length_nil]; omega)]
  dsimp only
  rw [get_last]
  dsimp only
  rw [List.nil_append, take_last]
theorem loopC_inv {ck : Pool → Bool} {g : T1} {tt : M Bool} {te : M PV} {vs : List Nat} {en : En} {n : Nat} (I : List PV → List PV → Pool → Prop) (hck : ∀ r acc p, p.length = n → I r acc p → ck (p ++ [.lst acc]) = true)
    (h : ∀ x r acc p, p.length = n → I (x :: r) acc p → ∃ as : As, g x = some as ∧ as.all (fun a => vs.elem a.1) = true ∧
      ((∃ p2, tt (en.sets as) (p ++ [.lst acc]) = .ok false (p2 ++ [.lst acc]) ∧ p2.length = n ∧ I r acc p2) ∨
       (∃ p2 y p3, tt (en.sets as) (p ++ [.lst acc]) = .ok true (p2 ++ [.lst acc]) ∧ te (en.sets as) (p2 ++ [.lst acc]) = .ok y (p3 ++ [.lst acc]) ∧ p3.length = n ∧ bel n y = true ∧ I r (acc ++ [y]) p3))) :
    ∀ (xs acc : List PV) (p : Pool), p.length = n → acc.length + xs.length ≤ big → I xs acc p → ∃ acc' p', loopC ck g tt te vs n en xs (p ++ [.lst acc]) = .ok () (p' ++ [.lst acc']) ∧ p'.length = n ∧ I [] acc' p'
  | [], acc, p, hp, _, hI => by
    refine ⟨acc, p, ?_, hp, hI⟩
    unfold loopC
    rw [if_pos (hck [] acc p hp hI)]
  | x :: xs, acc, p, hp, hl, hI => by
    obtain ⟨as, eg, ea, ht⟩ := h x xs acc p hp hI
    rw [List.length_cons] at hl
    unfold loopC
    rw [if_pos (hck _ acc p hp hI), eg]
    dsimp only
    rw [if_pos ea]
    rcases ht with ⟨p2, t1, e2, I2⟩ | ⟨p2, y, p3, t1, t2, e3, hb, I3⟩
    · rw [t1]
      dsimp only [Res.bind]
      subst e2
      rw [if_neg Bool.false_ne_true, take_all1]
      exact loopC_inv I hck h xs acc p2 rfl (by omega) I2
    · rw [t1]
      dsimp only [Res.bind]
      rw [if_pos rfl, t2]
      dsimp only [Res.bind]
      subst e3
      rw [get_last]
      dsimp only
      rw [if_pos ⟨hb, by omega⟩, take_all1, set_last]
      exact loopC_inv I hck h xs (acc ++ [y]) p3 rfl (by rw [List.length_append, List.length_singleton]; omega) I3
theorem mLc_inv {it : M It0} {g : T1} {tt : M Bool} {te : M PV} {vs : List Nat} {en : En} {p p1 : Pool} {z : It0} (I : List PV → List PV → Pool → Prop) (hi : it en p = .ok z p1) (hck : ∀ r acc q, q.length = p1.length → I r acc q → z.ck (q ++ [.lst acc]) = true)
    (h : ∀ x r acc q, q.length = p1.length → I (x :: r) acc q → ∃ as : As, g x = some as ∧ as.all (fun a => vs.elem a.1) = true ∧
      ((∃ p2, tt (En.sets ⟨p1.length + 1, wipeE en.sl vs⟩ as) (q ++ [.lst acc]) = .ok false (p2 ++ [.lst acc]) ∧ p2.length = p1.length ∧ I r acc p2) ∨
       (∃ p2 y p3, tt (En.sets ⟨p1.length + 1, wipeE en.sl vs⟩ as) (q ++ [.lst acc]) = .ok true (p2 ++ [.lst acc]) ∧ te (En.sets ⟨p1.length + 1, wipeE en.sl vs⟩ as) (p2 ++ [.lst acc]) = .ok y (p3 ++ [.lst acc]) ∧ p3.length = p1.length ∧ bel p1.length y = true ∧ I r (acc ++ [y]) p3)))
    (hl : z.xs.length ≤ big) (h0 : I z.xs [] p1) : ∃ acc p', mLc it g tt te vs en p = .ok (.lst acc) p' ∧ p'.length = p1.length ∧ I [] acc p' := by
  obtain ⟨acc, p', e, hp, hI⟩ := loopC_inv I hck h z.xs [] p1 rfl (by rw [List.length_nil]; omega) h0
  refine ⟨acc, p', ?_, hp, hI⟩
  unfold mLc
  rw [hi]
  dsimp only [Res.bind]
  rw [e]
  dsimp only
  rw [← hp, get_last]
  dsimp only
  rw [take_last]
theorem loopW_inv {t : M Bool} {body : S} (I : Nat → En → Pool → Prop) (J : En → Pool → Prop) (h : ∀ n en p, I n en p → ∃ b p1, t en p = .ok b p1 ∧ ((b = false ∧ J en p1) ∨ (b = true ∧ ∃ en2 p2 m, body en p1 = .next en2 p2 ∧ m < n ∧ I m en2 p2))) :
    ∀ (f n : Nat) (en : En) (p : Pool), n < f → I n en p → ∃ en2 p2, loopW t body f en p = .next en2 p2 ∧ J en2 p2
  | 0, n, en, p, hn, _ => absurd hn (Nat.not_lt_zero n)
  | f + 1, n, en, p, hn, hI => by
    obtain ⟨b, p1, et, hb⟩ := h n en p hI
    rcases hb with ⟨rfl, hJ⟩ | ⟨rfl, en2, p2, m, eb, hm, hI2⟩
    · refine ⟨en, p1, ?_, hJ⟩
      unfold loopW
      rw [et]
      rfl
    · obtain ⟨en3, p3, e3, hJ⟩ := loopW_inv I J h f m en2 p2 (by omega) hI2
      refine ⟨en3, p3, ?_, hJ⟩
      unfold loopW
      rw [et]
      dsimp only [Res.run]
      rw [if_pos rfl, eb]
      exact e3
end R
namespace R
open PySem L2
theorem itR1_ok {a : M (List PV)} {en : En} {p p1 : Pool} {n : Nat} (ha : a en p = .ok [.int n] p1) (hn : n ≤ big) : itR1 a en p = .ok ⟨rng 0 n, noCk⟩ p1 := by
  have h2 : n < 2 ^ 62 := by
    have h3 : big ≤ 2 ^ 61 := by unfold big; omega
    omega
  have h1 : -(2 ^ 62) ≤ (n : Int) ∧ (n : Int) < 2 ^ 62 := ⟨by omega, by omega⟩
  have e : itR1 a en p = if -(2 ^ 62) ≤ (n : Int) ∧ (n : Int) < 2 ^ 62 then .ok ⟨rng 0 (n : Int).toNat, noCk⟩ p1 else .stuck := by
    simp only [itR1, ha, Res.bind]
  rw [e, if_pos h1, Int.toNat_natCast]
theorem rng_len (lo : Int) (n : Nat) : (rng lo n).length = n := by
  unfold rng
  rw [List.length_map, List.length_range]
theorem rng_get (n j : Nat) (h : j < (rng 0 n).length) : (rng 0 n)[j] = .int j := by
  have h' : j < n := by rw [rng_len] at h; exact h
  have e : (rng 0 n)[j]? = some (.int j) := by
    unfold rng
    rw [List.getElem?_map, List.getElem?_range h']
    show some (PV.int (0 + (j : Int))) = _
    rw [Int.zero_add]
  exact (List.getElem?_eq_some_iff.mp e).2
end R
namespace R
open PySem L2
open PySem.Spec PySem.Calls PyProof.Rows PyProof.V
section
variable {prog : Program} {w : World} {A : Around} {E : Value → Shared → Prop} {s : Shared} {l : Addr} {its : List Value} {ns : List Int} {Q : Value → Shared → Prop}
end
section
variable {X : Cx} {C : Cn}
end
end R
namespace R
open PySem L2
section
variable {en en1 : En} {p p1 p2 p3 : Pool}
theorem seq_nx {a b : S} (h : a en p = .next en1 p1) : sSeq a b en p = b en1 p1 := by
  unfold sSeq
  rw [h]
  rfl
theorem seq_ret {a b : S} {x : PV} (h : a en p = .ret x p1) : sSeq a b en p = .ret x p1 := by
  unfold sSeq
  rw [h]
  rfl
theorem set_nx {m : M PV} {i : Nat} {x : PV} (h : m en p = .ok x p1) : sSet m i en p = .next (en.set i x) p1 := by
  unfold sSet
  rw [h]
  rfl
theorem asg_nx {m : M PV} {g : T1} {x : PV} {as : As} (h : m en p = .ok x p1) (hg : g x = some as) : sAsg m g en p = .next (en.sets as) p1 := by
  unfold sAsg
  rw [h]
  dsimp only [Res.run]
  rw [hg]
theorem if_t {t : M Bool} {a b : S} (h : t en p = .ok true p1) : sIf t a b en p = a en p1 := by
  unfold sIf
  rw [h]
  rfl
theorem if_f {t : M Bool} {a b : S} (h : t en p = .ok false p1) : sIf t a b en p = b en p1 := by
  unfold sIf
  rw [h]
  rfl
theorem ret_ok {m : M PV} {x : PV} (h : m en p = .ok x p1) : sRet m en p = .ret x p1 := by
  unfold sRet
  rw [h]
  rfl
theorem expr_nx {m : M PV} {x : PV} (h : m en p = .ok x p1) : sExpr m en p = .next en p1 := by
  unfold sExpr
  rw [h]
  rfl
theorem var_ok {i : Nat} {x : PV} (h : en.sl[i]? = some (some x)) : mVar i en p = .ok x p := by
  unfold mVar
  rw [h]
theorem cons_ok {a : M PV} {r : M (List PV)} {x : PV} {xs : List PV} (h1 : a en p = .ok x p1) (h2 : r en p1 = .ok xs p2) : mCons a r en p = .ok (x :: xs) p2 := by
  unfold mCons
  rw [h1]
  dsimp only [Res.bind]
  rw [h2]
theorem one_ok {a : M PV} {x : PV} (h1 : a en p = .ok x p1) : mCons a mNil en p = .ok [x] p1 := cons_ok h1 rfl
theorem two_ok {a b : M PV} {x y : PV} (h1 : a en p = .ok x p1) (h2 : b en p1 = .ok y p2) : mCons a (mCons b mNil) en p = .ok [x, y] p2 := cons_ok h1 (one_ok h2)
theorem three_ok {a b c : M PV} {x y z : PV} (h1 : a en p = .ok x p1) (h2 : b en p1 = .ok y p2) (h3 : c en p2 = .ok z p3) : mCons a (mCons b (mCons c mNil)) en p = .ok [x, y, z] p3 := cons_ok h1 (two_ok h2 h3)
theorem fn_ok {f : FnM} {ds xs : List PV} {a : M (List PV)} {r : Res PV} (h : a en p = .ok xs p1) (hf : f (xs ++ ds) p1 = r) : mFn f ds a en p = r := by
  unfold mFn
  rw [h]
  exact hf
theorem fn0_ok {f : FnM} {xs : List PV} {a : M (List PV)} {r : Res PV} (h : a en p = .ok xs p1) (hf : f xs p1 = r) : mFn f [] a en p = r := fn_ok h (by rw [List.append_nil]; exact hf)
theorem call_ok {f : FC} {xs : List PV} {a : M (List PV)} {r : Res PV} (h : a en p = .ok xs p1) (hf : f xs p1 = r) : mCall f a en p = r := by
  unfold mCall
  rw [h]
  exact hf
theorem bin_ok {f : F2} {a b : M PV} {x y : PV} {r : Res PV} (h1 : a en p = .ok x p1) (h2 : b en p1 = .ok y p2) (hf : f x y p2 = r) : mBin f a b en p = r := by
  unfold mBin
  rw [h1]
  dsimp only [Res.bind]
  rw [h2]
  exact hf
theorem tup_ok {xs : List PV} {a : M (List PV)} (h : a en p = .ok xs p1) : mTup a en p = .ok (.tup xs) p1 := by
  unfold mTup
  rw [h]
  rfl
theorem b_ok {m : M PV} {b : Bool} (h : m en p = .ok (.bl b) p1) : mB m en p = .ok b p1 := by
  unfold mB
  rw [h]
  rfl
theorem pIx_nat {x : PV} {xs : List PV} {i : Nat} {y : PV} (h : getQ p x = some xs) (e : xs[i]? = some y) : pIx x (.int (i : Int)) p = .ok y p := by
  unfold pIx
  dsimp only
  rw [h]
  dsimp only
  rw [atI_nat, e]
theorem pIx_int {x : PV} {xs : List PV} {i : Int} {y : PV} (h : getQ p x = some xs) (e : atI xs i = some y) : pIx x (.int i) p = .ok y p := by
  unfold pIx
  dsimp only
  rw [h]
  dsimp only
  rw [e]
theorem mayL_le {b k : Nat} {xs : List PV} (h : b ≤ k) : mayL b k xs = true := by
  unfold mayL
  rw [decide_eq_true h, Bool.true_or]
theorem mayL_bels {b k : Nat} {xs : List PV} (h : bels 0 xs = true) : mayL b k xs = true := by
  unfold mayL
  rw [h, Bool.or_true]
theorem app_ok {o a : M PV} {k : Nat} {xs0 xs : List PV} {y : PV} (h1 : o en p = .ok (.own k) p1) (h2 : p1[k]? = some (.lst xs0)) (ha : a en p1 = .ok y p2) (h3 : p2[k]? = some (.lst xs)) (hm : mayL en.b k (xs ++ [y]) = true) (hl : xs.length < big) :
    mMet fAppend o (mCons a mNil) en p = .ok .non (p2.set k (.lst (xs ++ [y]))) := by
  have hl2 : (xs ++ [y]).length ≤ big := by rw [List.length_append, List.length_singleton]; exact hl
  have e2 := one_ok ha
  unfold mMet
  rw [h1]
  dsimp only [Res.bind]
  rw [h2]
  dsimp only
  rw [e2]
  dsimp only [Res.bind]
  rw [h3]
  dsimp only [fAppend]
  rw [if_pos ⟨hm, hl2⟩]
theorem app_nx {i : Nat} {a : M PV} {k : Nat} {xs0 xs : List PV} {y : PV} (h1 : en.sl[i]? = some (some (.own k))) (h2 : p[k]? = some (.lst xs0)) (ha : a en p = .ok y p2) (h3 : p2[k]? = some (.lst xs)) (hm : mayL en.b k (xs ++ [y]) = true) (hl : xs.length < big) :
    sExpr (mMet fAppend (mVar i) (mCons a mNil)) en p = .next en (p2.set k (.lst (xs ++ [y]))) := expr_nx (app_ok (var_ok h1) h2 ha h3 hm hl)
theorem ix_nx {o i a : M PV} {k n : Nat} {xs : List PV} {y : PV} (ha : a en p = .ok y p1) (ho : o en p1 = .ok (.own k) p2) (hi : i en p2 = .ok (.int n) p3) (hk : p3[k]? = some (.lst xs)) (hn : n < xs.length) (hm : may en.b k y = true) :
    sIx o i a en p = .next en (p3.set k (.lst (xs.set n y))) := by
  unfold sIx
  rw [ha]
  dsimp only [Res.run]
  rw [ho]
  dsimp only [Res.run]
  rw [hi]
  dsimp only [Res.run]
  rw [hk]
  dsimp only
  rw [ixN_nat hn]
  dsimp only
  rw [if_pos hm]
theorem for_nx {ck : Pool → Bool} {g : T1} {body : S} {x : PV} {xs : List PV} {as : As} (hc : ck p = true) (hg : g x = some as) (h : body (en.sets as) p = .next en1 p1) : loopF ck g body (x :: xs) en p = loopF ck g body xs en1 p1 := by
  rw [loopF]
  dsimp only
  rw [if_pos hc, hg]
  dsimp only
  rw [h]
theorem for_end {ck : Pool → Bool} {g : T1} {body : S} (hc : ck p = true) : loopF ck g body [] en p = .next en p := by
  rw [loopF]
  dsimp only
  rw [if_pos hc]
theorem sFor_ok {it : M It0} {g : T1} {body : S} {z : It0} {r : Ctl} (hi : it en p = .ok z p1) (h : loopF z.ck g body z.xs en p1 = r) : sFor it g body en p = r := by
  unfold sFor
  rw [hi]
  exact h
theorem itS_ok {m : M PV} {x : PV} {xs : List PV} (h : m en p = .ok x p1) (e : getZ x = some xs) (hx : ∀ k, x ≠ .own k) : itS m en p = .ok ⟨xs, noCk⟩ p1 := by
  unfold itS
  rw [h]
  dsimp only [Res.bind]
  cases x with
  | own k => exact absurd rfl (hx k)
  | _ =>
    dsimp only
    rw [e]
theorem itS_lst {m : M PV} {xs : List PV} (h : m en p = .ok (.lst xs) p1) : itS m en p = .ok ⟨xs, noCk⟩ p1 := itS_ok h rfl (fun _ z => nomatch z)
theorem itS_tup {m : M PV} {xs : List PV} (h : m en p = .ok (.tup xs) p1) : itS m en p = .ok ⟨xs, noCk⟩ p1 := itS_ok h rfl (fun _ z => nomatch z)
theorem itEA_lst {m : M PV} {xs : List PV} (h : m en p = .ok (.lst xs) p1) : itEA (mCons m mNil) en p = .ok ⟨enumZ 0 xs, noCk⟩ p1 := by
  unfold itEA
  rw [one_ok h]
  rfl
theorem enumZ_len : ∀ (xs : List PV) (i : Nat), (enumZ i xs).length = xs.length
  | [], _ => rfl
  | x :: xs, i => by
    rw [List.length_cons]
    show (enumZ (i + 1) xs).length + 1 = _
    rw [enumZ_len xs]
theorem enumZ_at {xs : List PV} {j : Nat} (h : j < (enumZ 0 xs).length) : ∃ h2 : j < xs.length, (enumZ 0 xs)[j] = .tup [.int j, xs[j]] := by
  have h2 : j < xs.length := by rw [enumZ_len] at h; exact h
  refine ⟨h2, ?_⟩
  have e := enumZ_get xs 0 j
  rw [List.getElem?_eq_getElem h2, List.getElem?_eq_getElem h] at e
  have e2 := Option.some.inj e
  rw [e2, Nat.zero_add]
theorem fnM_pure {fld : Nat → List Str} {N : Nat} {body : R.S} {xs : List PV} {x : PV} (h : body ⟨p.length, xs.map some ++ List.replicate (N - xs.length) none⟩ p = .ret x p) (t : bel 0 x = true) : fnM fld N body xs p = .ok x p := by
  rw [fnM_ret h (thaw_bel t), List.take_length]
theorem fnM_cells {fld : Nat → List Str} {N : Nat} {body : R.S} {xs : List PV} {x : PV} {q r : Pool} (h : body ⟨p.length, xs.map some ++ List.replicate (N - xs.length) none⟩ p = .ret x (q ++ r)) (hq : q.length = p.length) (t : bel 0 x = true) : fnM fld N body xs p = .ok x q := by
  rw [fnM_ret h (thaw_bel t), ← hq, List.take_left]
theorem mLc_all {it : M It0} {g : T1} {te : M PV} {vs : List Nat} {z : It0} (f : PV → PV) (hi : it en p = .ok z p1) (hck : ∀ acc, z.ck (p1 ++ [.lst acc]) = true)
    (h : ∀ x, x ∈ z.xs → ∃ as : As, g x = some as ∧ as.all (fun a => vs.elem a.1) = true ∧ ∀ acc, te (En.sets ⟨p1.length + 1, wipeE en.sl vs⟩ as) (p1 ++ [.lst acc]) = .ok (f x) (p1 ++ [.lst acc]) ∧ bel p1.length (f x) = true)
    (hl : z.xs.length ≤ big) : mLc it g mYes te vs en p = .ok (.lst (z.xs.map f)) p1 := by
  have e := mLc_map (it := it) (g := g) (tt := mYes) (te := te) (vs := vs) (en := en) (p := p) (p1 := p1) (z := z) (fun x => some (f x)) hi hck (fun x hx => by
    obtain ⟨as, h1, h2, h3⟩ := h x hx
    exact ⟨as, h1, h2, fun acc => ⟨rfl, fun y hy => by
      cases hy
      exact h3 acc⟩⟩) hl
  rw [e]
  congr 2
  exact congrFun List.filterMap_eq_map _
end
theorem eqV_int (a : Int) : eqV (.int a) (.int a) = true := by simp [eqV]
theorem eqv_int (n : Nat) (a : Int) : eqv n (.int a) (.int a) = some true := by
  have h : eqS (.int a) (.int a) = some true := by
    show some (eqV (.int a) (.int a)) = _
    rw [eqV_int]
  cases n with
  | zero => exact h
  | succ n => exact h
section
variable {p : Pool} {fld : Nat → List Str}
theorem pTr_ne {n : Nat} {x : PV} (b : bel 0 x = true) (t : R.top x = true) (h : eqv n x x = some true) : pTr fld (eqvN .NotEq n) x x p = .ok (.bl false) p := by
  have e : eqvN .NotEq n x x = some false := by
    unfold eqvN
    rw [if_pos ⟨t, t⟩, h]
    rfl
  unfold pTr
  rw [thaw_bel b]
  dsimp only
  rw [e]
theorem its_ints : ∀ r : List Int, R.its (r.map .int) = some r
  | [] => rfl
  | x :: r => by
    rw [List.map_cons]
    unfold R.its
    rw [its_ints r]
end
section
variable {en en1 : En} {p p1 p2 p3 : Pool}
theorem not_ok {t : M Bool} {b : Bool} (h : t en p = .ok b p1) : mNot t en p = .ok (!b) p1 := by
  unfold mNot
  rw [h]
  rfl
theorem not_t {t : M Bool} (h : t en p = .ok true p1) : mNot t en p = .ok false p1 := not_ok h
theorem or_f {a b : M Bool} (h : a en p = .ok false p1) : mOr a b en p = b en p1 := by
  unfold mOr
  rw [h]
  rfl
theorem or_t {a b : M Bool} (h : a en p = .ok true p1) : mOr a b en p = .ok true p1 := by
  unfold mOr
  rw [h]
  rfl
theorem and_t {a b : M Bool} (h : a en p = .ok true p1) : mAnd a b en p = b en p1 := by
  unfold mAnd
  rw [h]
  rfl
theorem and_f {a b : M Bool} (h : a en p = .ok false p1) : mAnd a b en p = .ok false p1 := by
  unfold mAnd
  rw [h]
  rfl
theorem andV_t {a b : M PV} (h : a en p = .ok (.bl true) p1) : mAndV a b en p = b en p1 := by
  unfold mAndV
  rw [h]
  rfl
theorem andV_f {a b : M PV} (h : a en p = .ok (.bl false) p1) : mAndV a b en p = .ok (.bl false) p1 := by
  unfold mAndV
  rw [h]
  rfl
theorem notV_ok {a : M PV} {b : Bool} (h : a en p = .ok (.bl b) p1) : mNotV a en p = .ok (.bl (!b)) p1 := by
  unfold mNotV
  rw [h]
  rfl
theorem isi_ok {n : Nat} {T t : Ty} {a : M PV} {x : PV} (h : a en p = .ok x p1) (e : tyP n p1 x = some t) : mIsi n T a en p = .ok (.bl (isT T t)) p1 := by
  unfold mIsi
  rw [h]
  dsimp only [Res.bind]
  rw [e]
theorem getF_ok {c i : Nat} {a : M PV} {x y : PV} (h : a en p = .ok x p1) (e : getF c i p1 x = some y) : mFld c i a en p = .ok y p1 := by
  unfold mFld
  rw [h]
  dsimp only [Res.bind]
  rw [e]
theorem if_ok {α : Type} {t : M Bool} {a b : M α} {v : Bool} (h : t en p = .ok v p1) : mIf t a b en p = if v = true then a en p1 else b en p1 := by
  unfold mIf
  rw [h]
  rfl
theorem fld_nx {c i k : Nat} {o a : M PV} {y : PV} {cell cell' : Cell} (ha : a en p = .ok y p1) (ho : o en p1 = .ok (.own k) p2) (hm : may en.b k y = true) (hk : p2[k]? = some cell) (hc : putC c i y cell = some cell') : sFld c i o a en p = .next en (p2.set k cell') := by
  unfold sFld
  rw [ha]
  dsimp only [Res.run]
  rw [ho]
  dsimp only [Res.run]
  rw [if_pos hm, hk]
  dsimp only
  rw [hc]
theorem len_ok {a : M PV} {x : PV} {xs : List PV} (h : a en p = .ok x p1) (e : getQ p1 x = some xs) : mCall cLen (mCons a mNil) en p = .ok (.int xs.length) p1 := call_ok (one_ok h) (by
  show (match getQ p1 x with | some ys => Res.ok (PV.int ys.length) p1 | none => .stuck) = _
  rw [e])
theorem lt_ok {a b : M PV} {x y : Int} (h1 : a en p = .ok (.int x) p1) (h2 : b en p1 = .ok (.int y) p2) : mBin pLt a b en p = .ok (.bl (decide (x < y))) p2 := bin_ok h1 h2 rfl
theorem gt_ok {a b : M PV} {x y : Int} (h1 : a en p = .ok (.int x) p1) (h2 : b en p1 = .ok (.int y) p2) : mBin pGt a b en p = .ok (.bl (decide (y < x))) p2 := bin_ok h1 h2 rfl
theorem ge_ok {a b : M PV} {x y : Int} (h1 : a en p = .ok (.int x) p1) (h2 : b en p1 = .ok (.int y) p2) : mBin pGe a b en p = .ok (.bl (decide (y ≤ x))) p2 := bin_ok h1 h2 rfl
theorem eq_ok {a b : M PV} {x y : Int} (h1 : a en p = .ok (.int x) p1) (h2 : b en p1 = .ok (.int y) p2) : mBin pEq a b en p = .ok (.bl (decide (x = y))) p2 := bin_ok h1 h2 (pEq_int x y p2)
theorem ne_ok {a b : M PV} {x y : Int} (h1 : a en p = .ok (.int x) p1) (h2 : b en p1 = .ok (.int y) p2) : mBin pNe a b en p = .ok (.bl (!decide (x = y))) p2 := bin_ok h1 h2 (pNe_int x y p2)
theorem add_ok {a b : M PV} {x y : Int} (h1 : a en p = .ok (.int x) p1) (h2 : b en p1 = .ok (.int y) p2) : mBin pAdd a b en p = .ok (.int (x + y)) p2 := bin_ok h1 h2 rfl
theorem sub_ok {a b : M PV} {x y : Int} (h1 : a en p = .ok (.int x) p1) (h2 : b en p1 = .ok (.int y) p2) : mBin pSub a b en p = .ok (.int (x - y)) p2 := bin_ok h1 h2 rfl
theorem at_ok {a b : M PV} {x y : PV} {xs : List PV} {i : Nat} (h1 : a en p = .ok x p1) (h2 : b en p1 = .ok (.int (i : Int)) p2) (h : getQ p2 x = some xs) (e : xs[i]? = some y) : mBin pIx a b en p = .ok y p2 := bin_ok h1 h2 (pIx_nat h e)
end
end R
namespace R
open PySem L2
open PySem.Spec PyProof.Rows Srt SrtO HT
section
variable {prog : Program} {w : World} {A : Around} {E : Value → Shared → Prop} {s : Shared}
end
section
variable {X : Cx} {C : Cn}
end
end R
namespace R
open PySem L2
open PySem.Spec PyProof.Rows HT
section
variable {prog : Program} {w : World} {A : Around} {E : Value → Shared → Prop} {s : Shared}
end
section
variable {X : Cx} {C : Cn} {pos : Pos}
end
end R
namespace R
open PySem L2 PySem.Spec PyProof.Rows
section
variable {X : Cx} {C : Cn} {pos : Pos}
end
end R
namespace R
open PySem L2 PySem.Spec PyProof.Rows
section
variable {X : Cx} {C : Cn} {pos : Pos}
end
end R
namespace R
open PySem L2
structure Ends (c : Ctl) (R : Ctl → Prop) : Prop where
  h : R c
section
variable {en en1 : En} {p p1 p2 p3 : Pool} {R : Ctl → Prop}
theorem Ends.mono {c : Ctl} {R R' : Ctl → Prop} (h : Ends c R) (k : ∀ c, R c → R' c) : Ends c R' := ⟨k _ h.h⟩
theorem c_ok {x : PV} : mC x en p = .ok x p := rfl
theorem nil_ok : mNil en p = .ok [] p := rfl
theorem yes_ok : mYes en p = .ok true p := rfl
theorem kw_ok {f : FnM} {a b : M (List PV)} {xs ys : List PV} {r : Res PV} (h1 : a en p = .ok xs p1) (h2 : b en p1 = .ok ys p2) (hf : f (xs ++ ys) p2 = r) : mKw f a b en p = r := by
  unfold mKw
  rw [h1]
  dsimp only [Res.bind]
  rw [h2]
  exact hf
theorem lst_ok {xs : List PV} {a : M (List PV)} (h : a en p = .ok xs p1) : mLst a en p = .ok (.lst xs) p1 := by
  unfold mLst
  rw [h]
  rfl
theorem lstO_ok {xs : List PV} {a : M (List PV)} (h : a en p = .ok xs p1) : mLstO a en p = .ok (.own p1.length) (p1 ++ [.lst xs]) := by
  unfold mLstO
  rw [h]
  rfl
theorem neg_ok {a : M PV} {i : Int} (h : a en p = .ok (.int i) p1) : mNeg a en p = .ok (.int (-i)) p1 := by
  unfold mNeg
  rw [h]
  rfl
theorem mul_ok {a b : M PV} {x y : Int} (h1 : a en p = .ok (.int x) p1) (h2 : b en p1 = .ok (.int y) p2) (h : okMul x y = true) : mBin pMul a b en p = .ok (.int (x * y)) p2 := bin_ok h1 h2 (by
  show (if okMul x y = true then Res.ok (PV.int (x * y)) p2 else .stuck) = _
  rw [if_pos h])
theorem mod_ok {a b : M PV} {x y : Int} (h1 : a en p = .ok (.int x) p1) (h2 : b en p1 = .ok (.int y) p2) (h : okMod x y = true) : mBin pMod a b en p = .ok (.int (x.fmod y)) p2 := bin_ok h1 h2 (by
  show (if okMod x y = true then Res.ok (PV.int (x.fmod y)) p2 else .stuck) = _
  rw [if_pos h])
theorem div_ok {a b : M PV} {x y : Int} (h1 : a en p = .ok (.int x) p1) (h2 : b en p1 = .ok (.int y) p2) (h : okDiv x y = true) : mBin pDiv a b en p = .ok (.int (x.fdiv y)) p2 := bin_ok h1 h2 (by
  show (if okDiv x y = true then Res.ok (PV.int (x.fdiv y)) p2 else .stuck) = _
  rw [if_pos h])
theorem ati_ok {a b : M PV} {x y : PV} {xs : List PV} {i : Int} (h1 : a en p = .ok x p1) (h2 : b en p1 = .ok (.int i) p2) (h : getQ p2 x = some xs) (e : atI xs i = some y) : mBin pIx a b en p = .ok y p2 := bin_ok h1 h2 (pIx_int h e)
theorem or_ff {a b : M Bool} (h1 : a en p = .ok false p1) (h2 : b en p1 = .ok false p2) : mOr a b en p = .ok false p2 := (or_f h1).trans h2
theorem and_ok {a b : M Bool} {v u : Bool} (h1 : a en p = .ok v p1) (h2 : b en p1 = .ok u p1) : mAnd a b en p = .ok (v && u) p1 := by
  unfold mAnd
  rw [h1]
  cases v
  · rfl
  · exact h2
theorem or_ok {a b : M Bool} {v u : Bool} (h1 : a en p = .ok v p1) (h2 : b en p1 = .ok u p1) : mOr a b en p = .ok (v || u) p1 := by
  unfold mOr
  rw [h1]
  cases v
  · exact h2
  · rfl
theorem getQ_own {k : Nat} {xs : List PV} (h : p[k]? = some (.lst xs)) : getQ p (.own k) = some xs := by
  simp only [getQ, getR, getL, h]
theorem go_set {m : M PV} {i : Nat} {x : PV} (h : m en p = .ok x p1) (k : R (.next (en.set i x) p1)) : Ends (sSet m i en p) R := by
  rw [set_nx h]
  exact ⟨k⟩
theorem go_seq {a b : S} (h : Ends (a en p) fun c => Ends (c.andThen b) R) : Ends (sSeq a b en p) R := h.h
theorem go_seq_nx {a b : S} (h : a en p = .next en1 p1) (k : Ends (b en1 p1) R) : Ends (sSeq a b en p) R := by
  rw [seq_nx h]
  exact k
theorem go_nx {a : S} (h : a en p = .next en1 p1) (k : R (.next en1 p1)) : Ends (a en p) R := by
  rw [h]
  exact ⟨k⟩
theorem go_seq_set {m : M PV} {b : S} {i : Nat} {x : PV} (h : m en p = .ok x p1) (k : Ends (b (en.set i x) p1) R) : Ends (sSeq (sSet m i) b en p) R := go_seq_nx (set_nx h) k
theorem par_nx {i j : Nat} {a : M (List PV)} {x y : PV} (h : a en p = .ok [x, y] p1) : sPar i j a en p = .next ((en.set i x).set j y) p1 := by
  unfold sPar
  rw [h]
  rfl
theorem go_seq_par {a : M (List PV)} {b : S} {i j : Nat} {x y : PV} (h : a en p = .ok [x, y] p1) (k : Ends (b ((en.set i x).set j y) p1) R) : Ends (sSeq (sPar i j a) b en p) R := go_seq_nx (par_nx h) k
theorem go_par {a : M (List PV)} {i j : Nat} {x y : PV} (h : a en p = .ok [x, y] p1) (k : R (.next ((en.set i x).set j y) p1)) : Ends (sPar i j a en p) R := go_nx (par_nx h) k
theorem go_seq_asg {m : M PV} {b : S} {g : T1} {x : PV} {as : As} (h : m en p = .ok x p1) (hg : g x = some as) (k : Ends (b (en.sets as) p1) R) : Ends (sSeq (sAsg m g) b en p) R := go_seq_nx (asg_nx h hg) k
theorem go_asg {m : M PV} {g : T1} {x : PV} {as : As} (h : m en p = .ok x p1) (hg : g x = some as) (k : R (.next (en.sets as) p1)) : Ends (sAsg m g en p) R := go_nx (asg_nx h hg) k
theorem go_seq_expr {m : M PV} {b : S} {x : PV} (h : m en p = .ok x p1) (k : Ends (b en p1) R) : Ends (sSeq (sExpr m) b en p) R := go_seq_nx (expr_nx h) k
theorem go_expr {m : M PV} {x : PV} (h : m en p = .ok x p1) (k : R (.next en p1)) : Ends (sExpr m en p) R := go_nx (expr_nx h) k
theorem go_ret {m : M PV} {x : PV} (h : m en p = .ok x p1) (k : R (.ret x p1)) : Ends (sRet m en p) R := by
  rw [ret_ok h]
  exact ⟨k⟩
theorem go_seq_ret {m : M PV} {b : S} {x : PV} (h : m en p = .ok x p1) (k : R (.ret x p1)) : Ends (sSeq (sRet m) b en p) R := by
  rw [seq_ret (ret_ok h)]
  exact ⟨k⟩
theorem go_seq_nop {b : S} (k : Ends (b en p) R) : Ends (sSeq sNop b en p) R := k
theorem go_nop (k : R (.next en p)) : Ends (sNop en p) R := ⟨k⟩
theorem seq_assoc (a b c : S) (en : En) (p : Pool) : sSeq (sSeq a b) c en p = sSeq a (sSeq b c) en p := by
  unfold sSeq
  cases a en p <;> rfl
theorem go_assoc {a b c : S} (k : Ends (sSeq a (sSeq b c) en p) R) : Ends (sSeq (sSeq a b) c en p) R := by
  rw [seq_assoc]
  exact k
theorem go_if {t : M Bool} {a b : S} {v : Bool} (h : t en p = .ok v p1) (ht : v = true → Ends (a en p1) R) (hf : v = false → Ends (b en p1) R) : Ends (sIf t a b en p) R := by
  cases v
  · rw [if_f h]
    exact hf rfl
  · rw [if_t h]
    exact ht rfl
theorem go_if_t {t : M Bool} {a b : S} (h : t en p = .ok true p1) (k : Ends (a en p1) R) : Ends (sIf t a b en p) R := by
  rw [if_t h]
  exact k
theorem go_if_f {t : M Bool} {a b : S} (h : t en p = .ok false p1) (k : Ends (b en p1) R) : Ends (sIf t a b en p) R := by
  rw [if_f h]
  exact k
theorem seq_if {t : M Bool} {a b c : S} {v : Bool} (h : t en p = .ok v p1) : sSeq (sIf t a b) c en p = if v = true then sSeq a c en p1 else sSeq b c en p1 := by
  unfold sSeq
  cases v
  · rw [if_f h]
    rfl
  · rw [if_t h]
    rfl
theorem go_seq_if {t : M Bool} {a b c : S} {v : Bool} (h : t en p = .ok v p1) (ht : v = true → Ends (sSeq a c en p1) R) (hf : v = false → Ends (sSeq b c en p1) R) : Ends (sSeq (sIf t a b) c en p) R := by
  rw [seq_if h]
  cases v
  · exact hf rfl
  · exact ht rfl
theorem go_seq_if_t {t : M Bool} {a b c : S} (h : t en p = .ok true p1) (k : Ends (sSeq a c en p1) R) : Ends (sSeq (sIf t a b) c en p) R := by
  rw [seq_if h]
  exact k
theorem go_seq_if_f {t : M Bool} {a b c : S} (h : t en p = .ok false p1) (k : Ends (sSeq b c en p1) R) : Ends (sSeq (sIf t a b) c en p) R := by
  rw [seq_if h]
  exact k
theorem ix_at {o i a : M PV} {k n : Nat} {j : Int} {xs : List PV} {y : PV} (ha : a en p = .ok y p1) (ho : o en p1 = .ok (.own k) p2) (hi : i en p2 = .ok (.int j) p3) (hk : p3[k]? = some (.lst xs)) (hn : ixN xs.length j = some n) (hm : may en.b k y = true) :
    sIx o i a en p = .next en (p3.set k (.lst (xs.set n y))) := by
  unfold sIx
  rw [ha]
  dsimp only [Res.run]
  rw [ho]
  dsimp only [Res.run]
  rw [hi]
  dsimp only [Res.run]
  rw [hk]
  dsimp only
  rw [hn]
  dsimp only
  rw [if_pos hm]
theorem go_seq_ix {o i a : M PV} {b : S} {k n : Nat} {j : Int} {xs : List PV} {y : PV} (ha : a en p = .ok y p1) (ho : o en p1 = .ok (.own k) p2) (hi : i en p2 = .ok (.int j) p3) (hk : p3[k]? = some (.lst xs)) (hn : ixN xs.length j = some n) (hm : may en.b k y = true) (kk : Ends (b en (p3.set k (.lst (xs.set n y)))) R) : Ends (sSeq (sIx o i a) b en p) R := go_seq_nx (ix_at ha ho hi hk hn hm) kk
theorem go_ix {o i a : M PV} {k n : Nat} {j : Int} {xs : List PV} {y : PV} (ha : a en p = .ok y p1) (ho : o en p1 = .ok (.own k) p2) (hi : i en p2 = .ok (.int j) p3) (hk : p3[k]? = some (.lst xs)) (hn : ixN xs.length j = some n) (hm : may en.b k y = true) (kk : R (.next en (p3.set k (.lst (xs.set n y))))) : Ends (sIx o i a en p) R := go_nx (ix_at ha ho hi hk hn hm) kk
def Trn (J : En → Pool → Prop) (R : Ctl → Prop) : Ctl → Prop := fun c => match c with
  | .next en p => J en p
  | .cont en p => J en p
  | .brk en p => R (.next en p)
  | c => R c
theorem go_loop {ck : Pool → Bool} {g : T1} {body : S} (I : Nat → En → Pool → Prop) (xs : List PV) (hck : ∀ j en p, I j en p → ck p = true) (h : ∀ (j : Nat) (hj : j < xs.length) en p, I j en p → ∃ as, g xs[j] = some as ∧ Ends (body (en.sets as) p) (Trn (I (j + 1)) R))
    (hend : ∀ en p, I xs.length en p → R (.next en p)) : ∀ (n j : Nat) (en : En) (p : Pool), j + n = xs.length → I j en p → Ends (loopF ck g body (xs.drop j) en p) R
  | 0, j, en, p, e, hI => by
    have e : j = xs.length := by omega
    subst e
    rw [List.drop_length]
    unfold loopF
    rw [if_pos (hck _ _ _ hI)]
    exact ⟨hend _ _ hI⟩
  | n + 1, j, en, p, e, hI => by
    have hj : j < xs.length := by omega
    obtain ⟨as, eg, hb⟩ := h j hj en p hI
    rw [List.drop_eq_getElem_cons hj]
    unfold loopF
    rw [if_pos (hck _ _ _ hI), eg]
    dsimp only
    have hb := hb.h
    generalize body (en.sets as) p = c at hb
    cases c with
    | next en2 p2 => exact go_loop I xs hck h hend n (j + 1) en2 p2 (by omega) hb
    | cont en2 p2 => exact go_loop I xs hck h hend n (j + 1) en2 p2 (by omega) hb
    | brk en2 p2 => exact ⟨hb⟩
    | ret x p2 => exact ⟨hb⟩
    | exc c v en2 p2 => exact ⟨hb⟩
    | stuck => exact ⟨hb⟩
theorem go_for {it : M It0} {g : T1} {body : S} {z : It0} (I : Nat → En → Pool → Prop) (hi : it en p = .ok z p1) (h0 : I 0 en p1) (hck : ∀ j en p, I j en p → z.ck p = true) (h : ∀ (j : Nat) (hj : j < z.xs.length) en p, I j en p → ∃ as, g z.xs[j] = some as ∧ Ends (body (en.sets as) p) (Trn (I (j + 1)) R))
    (hend : ∀ en p, I z.xs.length en p → R (.next en p)) : Ends (sFor it g body en p) R := by
  have e := go_loop I z.xs hck h hend z.xs.length 0 en p1 (by omega) h0
  rw [sFor_ok hi rfl]
  exact e
theorem go_seq_for {it : M It0} {g : T1} {body b : S} {z : It0} (I : Nat → En → Pool → Prop) (hi : it en p = .ok z p1) (h0 : I 0 en p1) (hck : ∀ j en p, I j en p → z.ck p = true) (h : ∀ (j : Nat) (hj : j < z.xs.length) en p, I j en p → ∃ as, g z.xs[j] = some as ∧ Ends (body (en.sets as) p) (Trn (I (j + 1)) fun c => Ends (c.andThen b) R))
    (hend : ∀ en p, I z.xs.length en p → Ends (b en p) R) : Ends (sSeq (sFor it g body) b en p) R := go_seq (go_for I hi h0 hck h fun en p hI => hend en p hI)
theorem go_rng {a : M (List PV)} {i : Nat} {body : S} {n : Nat} (I : Nat → En → Pool → Prop) (ha : a en p = .ok [.int n] p1) (hn : n ≤ big) (h0 : I 0 en p1) (h : ∀ (j : Nat) en p, j < n → I j en p → Ends (body (en.set i (.int j)) p) (Trn (I (j + 1)) R)) (hend : ∀ en p, I n en p → R (.next en p)) :
    Ends (sFor (itR1 a) (tgN i) body en p) R := by
  refine go_for I (itR1_ok ha hn) h0 (fun _ _ _ _ => rfl) (fun j hj en p hI => ?_) (fun en p hI => ?_)
  · have hj' : j < n := by rw [rng_len] at hj; exact hj
    exact ⟨[(i, .int j)], by rw [rng_get n j hj]; rfl, h j en p hj' hI⟩
  · rw [rng_len] at hI
    exact hend _ _ hI
theorem go_seq_rng {a : M (List PV)} {i : Nat} {body b : S} {n : Nat} (I : Nat → En → Pool → Prop) (ha : a en p = .ok [.int n] p1) (hn : n ≤ big) (h0 : I 0 en p1) (h : ∀ (j : Nat) en p, j < n → I j en p → Ends (body (en.set i (.int j)) p) (Trn (I (j + 1)) fun c => Ends (c.andThen b) R)) (hend : ∀ en p, I n en p → Ends (b en p) R) :
    Ends (sSeq (sFor (itR1 a) (tgN i) body) b en p) R := go_seq (go_rng I ha hn h0 h hend)
theorem itS_own {m : M PV} {k : Nat} {xs : List PV} (h : m en p = .ok (.own k) p1) (hk : p1[k]? = some (.lst xs)) : itS m en p = .ok ⟨xs, ownCk k xs⟩ p1 := by
  unfold itS
  rw [h]
  dsimp only [Res.bind]
  rw [hk]
theorem zipZ_at {xs ys : List PV} {j : Nat} (h : j < (zipZ xs ys).length) {x y : PV} (hx : xs[j]? = some x) (hy : ys[j]? = some y) : (zipZ xs ys)[j] = .tup [x, y] := by
  have e := zipZ_get xs ys j
  rw [hx, hy, List.getElem?_eq_getElem h] at e
  exact Option.some.inj e
theorem zipZ_length : ∀ (xs ys : List PV), (zipZ xs ys).length = min xs.length ys.length
  | [], ys => by simp [zipZ]
  | x :: xs, [] => by simp [zipZ]
  | x :: xs, y :: ys => by
    show (zipZ xs ys).length + 1 = _
    rw [zipZ_length xs ys, List.length_cons, List.length_cons]
    omega
theorem lc_inv {it : M It0} {g : T1} {tt : M Bool} {te : M PV} {vs : List Nat} {z : It0} (I : Nat → List PV → Pool → Prop) (hi : it en p = .ok z p1) (hck : ∀ j acc q, q.length = p1.length → I j acc q → z.ck (q ++ [.lst acc]) = true)
    (h : ∀ j (hj : j < z.xs.length) acc q, q.length = p1.length → I j acc q → ∃ as : As, g z.xs[j] = some as ∧ as.all (fun a => vs.elem a.1) = true ∧
      ((∃ p2, tt (En.sets ⟨p1.length + 1, wipeE en.sl vs⟩ as) (q ++ [.lst acc]) = .ok false (p2 ++ [.lst acc]) ∧ p2.length = p1.length ∧ I (j + 1) acc p2) ∨
       (∃ p2 y p3, tt (En.sets ⟨p1.length + 1, wipeE en.sl vs⟩ as) (q ++ [.lst acc]) = .ok true (p2 ++ [.lst acc]) ∧ te (En.sets ⟨p1.length + 1, wipeE en.sl vs⟩ as) (p2 ++ [.lst acc]) = .ok y (p3 ++ [.lst acc]) ∧ p3.length = p1.length ∧ bel p1.length y = true ∧ I (j + 1) (acc ++ [y]) p3)))
    (hl : z.xs.length ≤ big) (h0 : I 0 [] p1) : ∃ acc q, mLc it g tt te vs en p = .ok (.lst acc) q ∧ q.length = p1.length ∧ I z.xs.length acc q := by
  obtain ⟨acc, q, e, hq, j, hj, hr, hI⟩ := mLc_inv (it := it) (g := g) (tt := tt) (te := te) (vs := vs) (fun r acc q => ∃ j, j ≤ z.xs.length ∧ r = z.xs.drop j ∧ I j acc q) hi (fun r acc q hq ⟨j, hj, hr, hI⟩ => hck j acc q hq hI) (fun x r acc q hq ⟨j, hj, hr, hI⟩ => by
    have hj2 : j < z.xs.length := by
      rcases Nat.lt_or_ge j z.xs.length with h | h
      · exact h
      · rw [List.drop_eq_nil_of_le h] at hr
        cases hr
    rw [List.drop_eq_getElem_cons hj2] at hr
    cases hr
    obtain ⟨as, e1, e2, h3⟩ := h j hj2 acc q hq hI
    refine ⟨as, e1, e2, ?_⟩
    rcases h3 with ⟨p2, a, b, c⟩ | ⟨p2, y, p3, a, b, c, d, e⟩
    · exact .inl ⟨p2, a, b, j + 1, hj2, rfl, c⟩
    · exact .inr ⟨p2, y, p3, a, b, c, d, j + 1, hj2, rfl, e⟩) hl ⟨0, Nat.zero_le _, rfl, h0⟩
  refine ⟨acc, q, e, hq, ?_⟩
  have : j = z.xs.length := by
    have h := List.drop_eq_nil_iff.mp hr.symm
    omega
  rw [← this]
  exact hI
def pick (P : Nat → Bool) (F : Nat → PV) (n : Nat) : List PV := (List.range n).filterMap fun k => if P k = true then some (F k) else none
theorem pick_succ (P : Nat → Bool) (F : Nat → PV) (n : Nat) : pick P F (n + 1) = pick P F n ++ if P n = true then [F n] else [] := by
  unfold pick
  rw [List.range_succ, List.filterMap_append]
  congr 1
  by_cases h : P n = true
  · rw [if_pos h, List.filterMap_cons_some (b := F n) (by rw [if_pos h])]
    rfl
  · rw [if_neg h, List.filterMap_cons_none (by rw [if_neg h])]
    rfl
theorem lc_idx {it : M It0} {g : T1} {tt : M Bool} {te : M PV} {vs : List Nat} {z : It0} (P : Nat → Bool) (F : Nat → PV) (hi : it en p = .ok z p1) (hck : ∀ acc, z.ck (p1 ++ [.lst acc]) = true)
    (h : ∀ j (hj : j < z.xs.length), ∃ as : As, g z.xs[j] = some as ∧ as.all (fun a => vs.elem a.1) = true ∧ ∀ acc, tt (En.sets ⟨p1.length + 1, wipeE en.sl vs⟩ as) (p1 ++ [.lst acc]) = .ok (P j) (p1 ++ [.lst acc]) ∧
       (P j = true → te (En.sets ⟨p1.length + 1, wipeE en.sl vs⟩ as) (p1 ++ [.lst acc]) = .ok (F j) (p1 ++ [.lst acc]) ∧ bel p1.length (F j) = true))
    (hl : z.xs.length ≤ big) : mLc it g tt te vs en p = .ok (.lst (pick P F z.xs.length)) p1 := by
  obtain ⟨acc, q, e, hq, e2, e3⟩ := lc_inv (it := it) (g := g) (tt := tt) (te := te) (vs := vs) (fun j acc q => q = p1 ∧ acc = pick P F j) hi (fun j acc q _ ⟨h1, _⟩ => by rw [h1]; exact hck acc) (fun j hj acc q hq ⟨h1, h2⟩ => by
    subst h1
    obtain ⟨as, e1, e2, h3⟩ := h j hj
    refine ⟨as, e1, e2, ?_⟩
    obtain ⟨t1, t2⟩ := h3 acc
    cases hP : P j with
    | false =>
      rw [hP] at t1
      refine .inl ⟨q, t1, rfl, rfl, ?_⟩
      rw [pick_succ, hP, if_neg Bool.false_ne_true, List.append_nil]
      exact h2
    | true =>
      rw [hP] at t1
      obtain ⟨t3, t4⟩ := t2 hP
      refine .inr ⟨q, F j, q, t1, t3, rfl, t4, rfl, ?_⟩
      rw [pick_succ, hP, if_pos rfl, h2]) hl ⟨rfl, rfl⟩
  rw [e, e2, e3]
theorem pick_all (F : Nat → PV) (n : Nat) : pick (fun _ => true) F n = (List.range n).map F := by
  unfold pick
  exact congrFun List.filterMap_eq_map _
theorem lc_map {it : M It0} {g : T1} {te : M PV} {vs : List Nat} {z : It0} (F : Nat → PV) (hi : it en p = .ok z p1) (hck : ∀ acc, z.ck (p1 ++ [.lst acc]) = true)
    (h : ∀ j (hj : j < z.xs.length), ∃ as : As, g z.xs[j] = some as ∧ as.all (fun a => vs.elem a.1) = true ∧ ∀ acc, te (En.sets ⟨p1.length + 1, wipeE en.sl vs⟩ as) (p1 ++ [.lst acc]) = .ok (F j) (p1 ++ [.lst acc]) ∧ bel p1.length (F j) = true)
    (hl : z.xs.length ≤ big) : mLc it g mYes te vs en p = .ok (.lst ((List.range z.xs.length).map F)) p1 := by
  rw [← pick_all]
  exact lc_idx (fun _ => true) F hi hck (fun j hj => by
    obtain ⟨as, e1, e2, h3⟩ := h j hj
    exact ⟨as, e1, e2, fun acc => ⟨rfl, fun _ => h3 acc⟩⟩) hl
theorem fnM_end {fld : Nat → List Str} {N : Nat} {body : S} {xs : List PV} {x : PV} {q : Pool} (hq : q.length = p.length) (t : bel 0 x = true) (h : Ends (body ⟨p.length, xs.map some ++ List.replicate (N - xs.length) none⟩ p) fun c => ∃ r, c = .ret x (q ++ r)) : fnM fld N body xs p = .ok x q := by
  obtain ⟨r, e⟩ := h.h
  exact fnM_cells e hq t
theorem fnO_end {N : Nat} {body : S} {xs acc : List PV} (hb : bels p.length acc = true) (h : Ends (body ⟨p.length, xs.map some ++ List.replicate (N - xs.length) none⟩ p) fun c => ∃ r, c = .ret (.own p.length) (p ++ .lst acc :: r)) : fnO N body xs p = .ok (.own p.length) (p ++ [.lst acc]) := by
  obtain ⟨r, e⟩ := h.h
  have e1 : (p ++ Cell.lst acc :: r)[p.length]? = some (.lst acc) := by simp
  have e2 : (p ++ Cell.lst acc :: r).take (p.length + 1) = p ++ [.lst acc] := by
    rw [List.take_append, List.take_of_length_le (Nat.le_succ _)]
    simp
  unfold fnO
  rw [e]
  dsimp only
  rw [if_pos rfl, e1]
  dsimp only
  rw [if_pos hb, e2]
end
end R
namespace R
open PySem L2
section
variable {C : Cn}
end
section
variable {X : Cx} {C : Cn} {pos : Pos}
end
end R
namespace R
open PySem L2 PySem.Spec PyProof.Rows
section
variable {X : Cx} {pins : List (Addr × Obj)} {s : Shared} {σ : L2.St} {H : Hp}
end
section
variable {X : Cx} {C : Cn} {pos : Pos}
theorem pvEq_reflA : ∀ x : PV, pvEq x x = true := fun x => by
  have h : (∀ x : PV, pvEq x x = true) ∧ ∀ xs : List PV, pvEqs xs xs = true := by
    constructor
    · intro x
      induction x using PV.rec (motive_2 := fun xs => pvEqs xs xs = true) with
      | non => rfl
      | nil => rfl
      | cons x xs h1 h2 => unfold pvEqs; rw [h1, h2]; rfl
      | tup xs h => unfold pvEq; exact h
      | lst xs h => unfold pvEq; exact h
      | obj c xs h => unfold pvEq; rw [h]; simp
      | xv c x h => unfold pvEq; rw [h]; simp
      | clo c x h => unfold pvEq; rw [h]; simp
      | _ => unfold pvEq; simp
    · intro xs
      induction xs using PV.rec_1 (motive_1 := fun x => pvEq x x = true) with
      | non => rfl
      | nil => rfl
      | cons x xs h1 h2 => unfold pvEqs; rw [h1, h2]; rfl
      | tup xs h => unfold pvEq; exact h
      | lst xs h => unfold pvEq; exact h
      | obj c xs h => unfold pvEq; rw [h]; simp
      | xv c x h => unfold pvEq; rw [h]; simp
      | clo c x h => unfold pvEq; rw [h]; simp
      | _ => unfold pvEq; simp
  exact h.1 x
theorem pvEqs_reflA : ∀ xs : List PV, pvEqs xs xs = true
  | [] => rfl
  | x :: xs => by unfold pvEqs; rw [pvEq_reflA x, pvEqs_reflA xs]; rfl
theorem ownCk_of {k : Nat} {xs : List PV} {q : Pool} (h : q[k]? = some (.lst xs)) : ownCk k xs q = true := by
  unfold ownCk
  rw [h]
  exact pvEqs_reflA xs
end
end R
namespace R
open PySem L2 PySem.Spec PyProof.Rows
section
variable {prog : Program} {w : World} {A : Around} {E : Value → Shared → Prop} {s : Shared} {Q : Bool → Shared → Prop}
end
section
variable {X : Cx} {C : Cn}
end
end R
namespace R
open PySem L2
section
variable {en en1 : En} {p p1 : Pool}
end
end R
namespace R
open PySem L2 PySem.Spec PyProof.Rows
section
variable {X : Cx} {C : Cn}
end
end R
namespace R
open PySem L2
section
variable {en en1 : En} {p p1 : Pool} {R : Ctl → Prop}
end
end R
namespace R
open PySem PySem.Spec PyProof.Rows L2
section
variable {X : Cx} {pins : List (Addr × Obj)} {σ : L2.St} {H : Hp} {s : Shared}
end
section
open PySem.Calls
variable {prog : Program} {w : World} {A : Around} {E : Value → Shared → Prop} {s : Shared}
end
section
variable {X : Cx}
end
end R
namespace R
open PySem PySem.Spec PyProof.Rows L2
section
variable {X : Cx} {C : Cn}
end
end R
namespace R
open PySem PySem.Spec PyProof.Rows L2
def TabsOf (K : PySem.W.Frag) (mg : Str → Option Value) (h : Heap) (ys : List Str) : Prop := ∀ y ∈ ys, ∀ f : Addr, mg y = some (.ref f) → LamX.OwnTab K f h
theorem walk_tabs {l : PySem.W.OpenLaw} {n k : Nat} {q : Program} {loose : List Str} {XP : (Str → Option Value) → Heap → Prop} {YP : World → Heap → Prop} {d : DefRec} {K : Params → PySem.W.Frag} {CX : World → CXT} {x : Str} (ys : List Str)
    (hmost : l.most = some n) (hsz : n ≤ sizeLine) (hdfl : d.params.defaults = []) (room : Room k callerA) (there : ∀ y ∈ ys, ∃ e ∈ recsOf q, e.name = y) (inK : ∀ (w : World) (h : Heap), YP w h → (K w.params).In h)
    (F : ∀ (w : World) (mg : Str → Option Value) (fa : Addr) (h : Heap), YP w h → (K w.params).In h → h.Ns mainGlobals mg → mg d.name = some (.ref fa) → TabsOf (K w.params) mg h ys → LamX.LawAtS l w (K w.params) (CX w) k n x mg fa h)
    (noexc : ∀ (w : World) (H : Hp) (s : Shared) (e : Value) (s' : Shared), CX w [] H s (fun _ _ _ => False) e s' → False) :
    PySem.W.WalkO q loose XP YP l.row.toRowW d [] (fun f vs => PySem.call f vs) := by
  apply Att.attach_callB hmost hdfl
  intro w s0 s1 mg mb fa o pm cd doc a vs ns G hY hobj hdata hcode hlaw hlist hints hlen hbits hgens
  have inh := inK w _ hY
  have tabs : TabsOf (K w.params) mg s1.heap ys := by
    intro y hy f hf c P ob fd e dd vs1 sl k1 k2 k3 k4 k5
    obtain ⟨r, hr, rfl⟩ := there y hy
    obtain ⟨a', o', fd', c', P', t1, t2, t3, t4, t5, t6⟩ := G.T.tab r hr
    obtain rfl : a' = f := by
      have z := t1.symm.trans hf
      cases z
      rfl
    have u1 := (inh _ _ k1).symm.trans t2
    cases u1
    have u2 := k2.symm.trans t3
    cases u2
    have u3 := k3.symm.trans t4
    cases u3
    obtain ⟨⟨oc, vc, v1, _, v3, v4⟩, empty⟩ := t6
    have u4 := (inh _ _ k4).symm.trans v1
    cases u4
    cases v3
    have u5 := k5.symm.trans v4
    cases u5
    exact empty
  obtain ⟨fd, cs, sp, e1, e2, e3, e4, e5, e6⟩ := F w mg fa _ hY inh G.T.g hlaw tabs
  refine LamX.law_callTs inh G.T.g G.T.b G.T.builtins G.T.nolimit hgens e1 e2 e3 G.T.bmain hlist hints (Nat.le_trans hlen hsz) room e6 e4 (fun H hH hS => e5 H a ns hlen hbits hH hS) ?_
  exact fun H e s' => noexc w H s1 e s'
section
variable {P : Program} {w0 : World} {K : PySem.W.Frag} {mg : Str → Option Value} {base : Heap}
end
end R
namespace R
open PySem PySem.Spec PyProof.Rows L2
section
variable {X : Cx} {C : Cn} {pos : Pos}
end
section
variable {X : Cx} {C : Cn}
end
end R
namespace R
open PySem PySem.Spec PyProof.Rows L2
section
variable {X : Cx} {C : Cn}
end
end R
namespace R
open PySem L2 PySem.Spec PyProof.Rows
section
variable {X : Cx} {C : Cn} {pos : Pos}
end
end R
namespace R
open PySem L2
section
variable {en : En} {p p1 : Pool} {α : Type}
theorem lc_list {it : M It0} {g : T1} {te : M PV} {vs : List Nat} {ck : Pool → Bool} (L : List α) (G F : α → PV) (hi : it en p = .ok ⟨L.map G, ck⟩ p1) (hck : ∀ acc, ck (p1 ++ [.lst acc]) = true)
    (h : ∀ x, x ∈ L → ∃ as : As, g (G x) = some as ∧ as.all (fun a => vs.elem a.1) = true ∧ ∀ acc, te (En.sets ⟨p1.length + 1, wipeE en.sl vs⟩ as) (p1 ++ [.lst acc]) = .ok (F x) (p1 ++ [.lst acc]) ∧ bel p1.length (F x) = true)
    (hl : L.length ≤ big) : mLc it g mYes te vs en p = .ok (.lst (L.map F)) p1 := by
  have c := lc_map (it := it) (g := g) (te := te) (vs := vs) (fun j => match L[j]? with | some x => F x | none => .non) hi hck (fun j hj => by
    have hj2 : j < L.length := by
      have hj : j < (L.map G).length := hj
      rw [List.length_map] at hj
      exact hj
    have e : (⟨L.map G, ck⟩ : It0).xs[j] = G L[j] := List.getElem_map _
    obtain ⟨as, e1, e2, e3⟩ := h L[j] (List.getElem_mem hj2)
    refine ⟨as, by rw [e]; exact e1, e2, fun acc => ?_⟩
    rw [List.getElem?_eq_getElem hj2]
    exact e3 acc) (by
    show (L.map G).length ≤ big
    rw [List.length_map]
    exact hl)
  rw [c]
  congr 2
  have e : (⟨L.map G, ck⟩ : It0).xs.length = L.length := List.length_map _
  rw [e]
  refine List.ext_getElem (by simp) fun i a b => ?_
  have hi : i < L.length := by rw [List.length_map] at b; exact b
  rw [List.getElem_map, List.getElem_map, List.getElem_range, List.getElem?_eq_getElem hi]
end
end R
namespace R
open PySem L2 PySem.Spec PyProof.Rows
section
variable {X : Cx} {Γ : Cfg}
end
section
variable {X : Cx} {C : Cn} {pos : Pos}
end
end R
namespace R
open PySem PySem.Spec PyProof.Rows L2
section
variable {C : Cn}
end
end R
namespace R
open PySem PySem.Spec PyProof.Rows L2
end R
namespace R
open PySem PySem.Spec PyProof.Rows L2
structure FnG (P : Program) (w : World) (K : PySem.W.Frag) (mg : Str → Option Value) (base : Heap) (T : CXT) (lev : Nat) (f : Addr) (fd : FuncData) (ps : List Str) (sp : Sp) : Prop where
  many : ∀ vs H Q E, sp vs H Q E → vs.length = ps.length
  go : ∀ (A : Around) (out : List Env) (s : Shared) (H : Hp) (args : Args) (us : List Value) (vs : List V) (Q : VK) (E : XK), Room lev A → A.guards = some [] → Env0 P w K mg base A out s H →
    BindsTo s fd args (ps.zip us) → Vals vs us → sp vs H Q E → codeAny (model P w) A (.call (.ref f) args) (CR T out P w H s Q E) s
section
variable {P : Program} {w0 : World} {K : PySem.W.Frag} {mg : Str → Option Value} {base : Heap}
theorem FnG.of {T : CXT} {lev : Nat} {f : Addr} {fd : FuncData} {ps : List Str} {sp : Sp} (F : FnOk P w0 K mg base T lev f fd ps sp) : FnG P w0 K mg base T lev f fd ps sp :=
  ⟨F.len, fun A out s H args us vs Q E hr _ he hb hv h => F.run A out s H args us vs Q E hr he hb hv h⟩
end
section
variable {X : Cx} {C : Cn} {pos : Pos}
end
end R
namespace R
open PySem PySem.Spec PyProof.Rows L2
end R
namespace R
open PySem PySem.Spec PyProof.Rows L2
section
variable {X : Cx} {C : Cn}
end
end R
namespace R
open PySem PySem.Spec PyProof.Rows L2
section
variable {X : Cx} {C : Cn} {pos : Pos}
end
end R
namespace R
open PySem PySem.Spec PyProof.Rows L2
section
variable {X : Cx} {C : Cn}
end
end R
namespace R
open PySem PySem.Spec PyProof.Rows L2
section
variable {X : Cx} {C : Cn} {pos pos' : Pos}
end
end R
namespace R
open PySem PySem.Spec PyProof.Rows L2
section
variable {X : Cx} {C : Cn}
end
end R
namespace R
open PySem PySem.Spec PyProof.Rows L2
section
variable {prog : Program} {w : World} {A : Around}
end
end R
namespace R
open PySem PySem.Spec PyProof.Rows L2
section
variable {X : Cx} {pins : List (Addr × Obj)} {σ : L2.St} {H : Hp} {s : Shared}
end
section
variable {X : Cx}
end
end R
namespace R
open PySem PySem.Spec PyProof.Rows L2
section
variable {X : Cx} {C : Cn}
end
end R
namespace R
open PySem PySem.Spec PyProof.Rows L2
section
variable {X : Cx}
end
end R
namespace R
open PySem PySem.Spec PyProof.Rows L2
section
variable {X : Cx} {C : Cn}
end
end R
namespace R
open PySem PySem.Spec PyProof.Rows L2
section
variable {X : Cx} {C : Cn}
end
end R
namespace R
open PySem PySem.Spec PyProof.Rows L2
def fnS (N : Nat) (body : R.S) : Nat → FnM := fun b xs p => match body ⟨b, xs.map some ++ List.replicate (N - xs.length) none⟩ p with
  | .ret x q => .ok x q
  | .next _ q => .ok .non q
  | _ => .stuck
def spS (Γ : Cfg) (n : Nat) (f : Nat → FnM) : Sp := fun vs H Q E => vs.length = n ∧ ∃ L w p xs, SimP Γ L w p H ∧ Reps Γ w xs vs ∧ PostF Γ L w (f L.b xs p) Q E
section
variable {P : Program} {w0 : World} {K : PySem.W.Frag} {mg : Str → Option Value} {base : Heap}
theorem fn_retS {Γ : Cfg} {L : Lv} {w : Wd} {p : Pool} {N : Nat} {body : R.S} {xs : List PV} {Q : VK} {E : XK} (h : PostF Γ L w (fnS N body L.b xs p) Q E) :
    PostS ⟨Γ, fun cls d _ H => E cls d H⟩ L w { nx := fun _ H' => Q .non H', rt := Q } (body ⟨L.b, xs.map some ++ List.replicate (N - xs.length) none⟩ p) := by
  unfold fnS at h
  cases e : body ⟨L.b, xs.map some ++ List.replicate (N - xs.length) none⟩ p with
  | next en q =>
    rw [e] at h
    exact fun w' H' σ' l S' E' => h w' H' .non l S' rfl
  | ret x q =>
    rw [e] at h
    exact h
  | _ =>
    rw [e] at h
    exact h.elim
theorem ok_fnS {Γ : Cfg} {x qual : Str} {st : Stmt} {dvs : List V} {kws : List (Str × V)} {f : Addr} {fd : FuncData} {N ps : List Str} {k n : Nat} (F : FunD K x qual (defArgs st) (defBody st) (defScope st) dvs kws f fd) (S : FnScope N ps (defScope st)) (hn : ps.length = n) (body : R.S)
    (hb : ∀ (cdv : Value) (A : Around) (outer : List Env) (s : Shared) (H : Hp) (E : XK), Room k (A.deeper (PyProof.Rows.envOfC qual (defScope st) s.heap.objs.size f cdv)) →
      RSs (cxOf (L2.CX P w0) P w0 K mg base N qual (defScope st) f cdv A outer s H E) ⟨Γ, fun cls d _ H => E cls d H⟩ (defBody st) body) : FnOk P w0 K mg base (L2.CX P w0) (k + 1) f fd ps (spS Γ n (fnS N.length body)) := by
  refine F.ok (CX := L2.CX P w0) S (fun vs H Q E h => h.1.trans hn.symm) (fun cdv A outer s H vs Q E hr h => ⟨wS _ body, hb cdv A outer s H E hr, ?_⟩)
  obtain ⟨_, L, w, p, xs, S', r, h⟩ := h
  exact ⟨L, w, p, ⟨L.b, xs.map some ++ List.replicate (N.length - xs.length) none⟩, S', EnR.start (L := L) r, fn_retS h⟩
end
def isOwnO (c : Nat) (p : Pool) : PV → Bool
  | .own k => match p[k]? with
    | some (.obj d _) => decide (d = c)
    | _ => false
  | _ => false
def mMetS (f : Nat → FnM) (c : Nat) (o : M PV) (a : M (List PV)) : M PV := fun en p => (o en p).bind fun x p1 => if isOwnO c p1 x = true then (a en p1).bind fun xs p2 => match f en.b (x :: xs) p2 with
    | .ok y p3 => .ok y p3
    | _ => .stuck
  else .stuck
section
variable {X : Cx} {C : Cn} {pos apos : Pos}
theorem re_metS {k n c : Nat} {f : Addr} {fd : FuncData} {ps : List Str} {g : Nat → FnM} {m : Str} {o e : Expr} {es : List Expr} {mo : M PV} {ma : M (List PV)} {pl : Sem Bool} (hK : X.K = C.Γ.K) (T : ClsF C.Γ.K C.Γ c) (hno : m ∉ C.Γ.fld c) (hm : Meth X.K (C.Γ.cls c) m f)
    (F : FnOk X.prog X.w X.K X.mg X.base (L2.CX X.prog X.w) k f fd ps (spS C.Γ n g)) (hr : Room k X.A) (hb : Binds X.K fd ps []) (tk : Takes X C.W) (ho : RE X C o mo) (ha : RA X C (e :: es) ma) (hl : es.length + 2 = n)
    (hst : starEach (e :: es) X.env = (false, eval e X.env) :: starEach es X.env := by rfl) (hpl : (backTo pos (starEach es X.env)).any (·.1) = false := by rfl)
    (ht : eval (.Call (.Attribute o m apos) (e :: es) [] pos) X.env = (do
      let ov ← eval o X.env
      standAt apos.atName
      let (f, first) ← holding [ov] (getMethod ov m pl)
      callWith pos f first (backTo pos (starEach (e :: es) X.env)) (backToKw pos (keywordEach [] X.env))) := by rfl) :
    RE X C (.Call (.Attribute o m apos) (e :: es) [] pos) (mMetS g c mo ma) := by
  have hc : Cls X.K (C.Γ.cls c) := hK ▸ T.cls
  refine (pe_meth (E := fun _ _ _ => False) ho hc hm F hr hb .nil (passes_call tk fun _ _ _ _ z => z.elim) ha.pa hst hpl ht).imp fun σ H Q ⟨L, w, p, en, S, E, h⟩ => ?_
  refine ⟨L, w, p, en, S, E, h.bind fun x p1 w1 H1 v l1 S1 r1 h1 => ?_⟩
  by_cases hx : isOwnO c p1 x = true
  · rw [if_pos hx] at h1
    unfold isOwnO at hx
    split at hx
    · rename_i j
      split at hx
      · rename_i d xs ep
        have hd := of_decide_eq_true hx
        subst hd
        obtain ⟨a, dx, vs, ev, hρ, g0, eH, eD, gd, hvl, rr⟩ := Rep.objH S1 r1 ep
        refine ⟨a, dx, _, ev, eH, ?_, L, w1, p1, en, S1, E.mono l1, ?_⟩
        · rw [List.lookup_eq_none_iff]
          intro q hq
          have hm2 : q.1 ∈ C.Γ.fld d := (List.of_mem_zip hq).1
          exact bne_iff_ne.mpr fun z => hno (by rw [z]; exact hm2)
        · have eb : en.b = L.b := E.b
          rw [eb] at h1
          cases ea : ma en p1 with
          | exc e v p2 =>
            rw [ea] at h1
            exact h1
          | stuck =>
            rw [ea] at h1
            exact h1.elim
          | ok ys p2 =>
            rw [ea] at h1
            have h1 : Post C L w1 σ (RV C) (match g L.b (.own j :: ys) p2 with | .ok y p3 => .ok y p3 | _ => .stuck) Q := h1
            have hyl := ha.len _ _ _ _ ea
            intro w2 H2 us l2 S2 r2
            cases eg : g L.b (.own j :: ys) p2 with
            | ok y p3 =>
              rw [eg] at h1
              refine ⟨?_, L, w2, p2, .own j :: ys, S2, ?_, ?_⟩
              · rw [List.append_nil, List.length_cons, ← r2.length, hyl]
                exact hl
              · rw [List.append_nil]
                exact Reps.cons (r1.mono l2) r2
              · rw [eg]
                exact fun w' H' v l S r => h1 w' H' v (l2.trans l) S r
            | _ =>
              rw [eg] at h1
              exact h1.elim
      · exact absurd hx Bool.false_ne_true
    · exact absurd hx Bool.false_ne_true
  · rw [if_neg hx] at h1
    exact h1.elim
end
end R
namespace R
open PySem PySem.Spec PyProof.Rows L2 LamX
section
variable {X : Cx} {C : Cn}
end
end R
namespace R
open PySem PySem.Spec PyProof.Rows L2
end R
namespace R
open PySem PySem.Spec PyProof.Rows L2
section
variable {X : Cx} {C : Cn} {pos apos : Pos}
end
def iniS (c N : Nat) (body : R.S) : Nat → FnM := fun b xs p => match body ⟨b, some (.own p.length) :: (xs.map some ++ List.replicate (N - (xs.length + 1)) none)⟩ (p ++ [.obj c []]) with
  | .next _ q => .ok (.own p.length) q
  | _ => .stuck
def spIS (Γ : Cfg) (c n : Nat) (f : Nat → FnM) : Sp := fun vs H Q E => vs.length = n ∧ ∃ L w p xs x us H0, vs = .ref x :: us ∧ SimP Γ L w p H0 ∧ Reps Γ w xs us ∧ H0 x = none ∧ (∃ dx, H0 dx = none ∧ dx ≠ x ∧ H = upd (upd H0 dx (.own x)) x (.ins (Γ.cls c) dx [])) ∧
  PostF Γ L w (f L.b xs p) (fun v H' => v = .ref x → Q .non H') E
theorem newObjS {Γ : Cfg} {L : Lv} {w : Wd} {p : Pool} {H0 : Hp} (S : SimP Γ L w p H0) {c : Nat} {x dx : Addr} (hx : H0 x = none) (hd : H0 dx = none) (ne : dx ≠ x) :
    SimP Γ L (w.cell x) (p ++ [.obj c []]) (upd (upd H0 dx (.own x)) x (.ins (Γ.cls c) dx [])) := by
  have S1 : SimP Γ L w p (upd H0 dx (.own x)) := by
    refine ⟨fun a o e => ?_, S.len, S.nd, S.hb, S.hlo, S.hm, fun k c a h1 h2 => ?_, S.nt, S.tb.ext (up_new hd)⟩
    · rw [upd_ne (ne_of_none (S.sub a o e) hd)]
      exact S.sub a o e
    · exact (S.cell k c a h1 h2).step (Wd.le.refl _) (fun _ _ g => g) (up_new hd)
  have hx1 : upd H0 dx (.own x) x = none := by
    rw [upd_ne ne.symm]
    exact hx
  refine S1.newCell hx1 ⟨S.free hx, dx, [], ?_, ?_, S.free hd, Nat.zero_le _, rfl⟩
  · rw [upd_same]
    cases Γ.fld c <;> rfl
  · rw [upd_ne ne, upd_same]
section
variable {P : Program} {w0 : World} {K : PySem.W.Frag} {mg : Str → Option Value} {base : Heap}
theorem ok_initS {Γ : Cfg} {x qual : Str} {st : Stmt} {dvs : List V} {kws : List (Str × V)} {f : Addr} {fd : FuncData} {N ps : List Str} {k n c : Nat} (F : FunD K x qual (defArgs st) (defBody st) (defScope st) dvs kws f fd) (S : FnScope N ps (defScope st)) (hn : ps.length = n) (body : R.S)
    (hb : ∀ (cdv : Value) (A : Around) (outer : List Env) (s : Shared) (H : Hp) (E : XK), Room k (A.deeper (PyProof.Rows.envOfC qual (defScope st) s.heap.objs.size f cdv)) →
      RSs (cxOf (L2.CX P w0) P w0 K mg base N qual (defScope st) f cdv A outer s H E) ⟨Γ, fun cls d _ H => E cls d H⟩ (defBody st) body) : FnOk P w0 K mg base (L2.CX P w0) (k + 1) f fd ps (spIS Γ c n (iniS c N.length body)) := by
  refine F.ok (CX := L2.CX P w0) S (fun vs H Q E h => h.1.trans hn.symm) (fun cdv A outer s H vs Q E hr h => ⟨wS _ body, hb cdv A outer s H E hr, ?_⟩)
  obtain ⟨_, L, w, p, xs, x, us, H0, rfl, S', r, hx, ⟨dx, hd, ne, rfl⟩, h⟩ := h
  have S2 := newObjS S' (c := c) hx hd ne
  have rx : Rep Γ (w.cell x) (.own p.length) (.ref x) := ⟨x, by show (w.ρ ++ [x])[p.length]? = some x; rw [← S'.len]; simp, rfl⟩
  have e1 : ((PV.own p.length :: xs).map some ++ List.replicate (N.length - (PV.own p.length :: xs).length) none) = some (.own p.length) :: (xs.map some ++ List.replicate (N.length - (xs.length + 1)) none) := by
    rw [List.map_cons, List.cons_append, List.length_cons]
  refine ⟨L, w.cell x, p ++ [.obj c []], ⟨L.b, (PV.own p.length :: xs).map some ++ List.replicate (N.length - (PV.own p.length :: xs).length) none⟩, S2, EnR.start (L := L) (Reps.cons rx (r.mono (w.le_cell x))), ?_⟩
  rw [e1]
  unfold iniS at h
  have lw := w.le_cell x
  cases e : body ⟨L.b, some (.own p.length) :: (xs.map some ++ List.replicate (N.length - (xs.length + 1)) none)⟩ (p ++ [.obj c []]) with
  | next en q =>
    rw [e] at h
    exact fun w' H' σ' l S3 E' => h _ H' (.ref x) (lw.trans l) S3 (rx.mono l) rfl
  | _ =>
    rw [e] at h
    exact h.elim
end
def mMkS (g : Nat → FnM) (a : M (List PV)) : M PV := fun en p => (a en p).bind fun xs p1 => match g en.b xs p1 with
  | .ok y p2 => .ok y p2
  | _ => .stuck
section
variable {X : Cx} {C : Cn} {pos apos : Pos}
theorem re_makeS {k n c : Nat} {f : Addr} {fd : FuncData} {ps : List Str} {g : Nat → FnM} {x : Str} {p : Pos} {e : Expr} {es : List Expr} {a : M (List PV)} (M : Mk X.K (C.Γ.cls c) f) (F : FnOk X.prog X.w X.K X.mg X.base (L2.CX X.prog X.w) k f fd ps (spIS C.Γ c n g)) (hr : Room (k + 1) X.A) (hg : Gl X x)
    (hm : X.mg x = some (.ref (C.Γ.cls c))) (hb : Binds X.K fd ps []) (tk : Takes X C.W) (ha : RA X C (e :: es) a) (hl : es.length + 2 = n) (hdb : (x == ("__debug__" : Str)) = false := by decide)
    (he : starEach (e :: es) X.env = (false, eval e X.env) :: starEach es X.env := by rfl) (hpl : (backTo pos (starEach es X.env)).any (·.1) = false := by rfl) : RE X C (.Call (.Name x p) (e :: es) [] pos) (mMkS g a) :=
  (pe_makeSD M F hr hg hm hb .nil (fun σ => passAt tk σ) ha.pa hdb he hpl).imp fun σ H Q ⟨L, w, p, en, S, E, h⟩ => by
    refine ⟨L, w, p, en, S, E, ?_⟩
    have eb : en.b = L.b := E.b
    unfold mMkS at h
    rw [eb] at h
    cases ea : a en p with
    | ok xs p1 =>
      rw [ea] at h
      have h : Post C L w σ (RV C) (match g L.b xs p1 with | .ok y p2 => .ok y p2 | _ => .stuck) Q := h
      intro w1 H1 vs l1 S1 r1 y dy hy hdy ne
      have h1 := Post.mono l1 h
      refine ⟨?_, L, w1, p1, xs, y, vs, H1, ?_, S1, r1, hy, ⟨dy, hdy, ne, rfl⟩, ?_⟩
      · rw [List.append_nil, List.length_cons, ← r1.length, ha.len _ _ _ _ ea, List.length_cons]
        omega
      · rw [List.append_nil]
      · cases eg : g L.b xs p1 with
        | ok z p2 =>
          rw [eg] at h1
          exact fun w' H' v l S' r ev => ⟨rfl, by rw [← ev]; exact h1 w' H' v l S' r⟩
        | _ =>
          rw [eg] at h1
          exact h1.elim
    | exc c v p1 =>
      rw [ea] at h
      exact h
    | stuck =>
      rw [ea] at h
      exact h
end
end R
set_option maxHeartbeats 1000000
namespace EZ
open PySem
open PySem.Sem (wp)
section
variable {prog : Program} {w : World} {A : Around} {E : Value → Shared → Prop} {s : Shared}
theorem gone_alive {a : Addr} {Q : Option Obj → Shared → Prop} (g : s.heap.get? a = none) (k : Q none s) : wpAny (model prog w) A (loadIfAlive a) Q E s := by
  have k2 : Q (s.heap.get? a) s := by rw [g]; exact k
  exact fun _ _ _ => k2
theorem free_gone {z TI TO T : Addr} {f : Bool} {Q : Bool → Shared → Prop} (gz : IsZipHeld s.heap z TI TO T f) (gone : s.heap.get? T = none) (k : Q true s) : wpAny (model prog w) A (Builtin.SmallTypes.ownedTupleIsFree (.ref z)) Q E s := by
  unfold Builtin.SmallTypes.ownedTupleIsFree
  apply wpAny_bind
  apply wpAny_field gz rfl (x := rawInt T) rfl
  change wpAny (model prog w) A (loadIfAlive ((T : Int).toNat) >>= _) _ E s
  rw [Int.toNat_natCast]
  exact wpAny_bind (gone_alive gone (wpAny_pure k))
abbrev IsZipMid (h : Heap) (z TI TO : Addr) (f : Bool) : Prop :=
  h.get? z = some { cls := .type "zip", dict := none, data := .fields #[.ellipsis, .bool f, .bool false, .ref TI, .ref TO], slots := #[] }
theorem next_gone {z TI TO T i1 i2 l1 l2 : Addr} {f : Bool} {k1 k2 : Nat} {xs ys : Array Value} {x y p q : Value} {Q : Value → Shared → Prop} (D : ZipApart z TI TO i1 i2 l1 l2)
    (gz : IsZipHeld s.heap z TI TO T f) (gone : s.heap.get? T = none) (gI : IsPair s.heap TI (.ref i1) (.ref i2)) (gO : IsPair s.heap TO p q) (n1 : s.heap.IsListIter i1 l1 k1) (n2 : s.heap.IsListIter i2 l2 k2) (m1 : s.heap.IsList l1 xs) (m2 : s.heap.IsList l2 ys) (ex : xs[k1]? = some x) (ey : ys[k2]? = some y)
    (hQ : ∀ g, IsZipHeld g z TI TO s.heap.objs.size false → IsPair g TO x y → g.IsListIter i1 l1 (k1 + 1) → g.IsListIter i2 l2 (k2 + 1) → IsPair g s.heap.objs.size x y → g.objs.size = s.heap.objs.size + 1 →
      (∀ c o, c ≠ z → c ≠ TO → c ≠ i1 → c ≠ i2 → s.heap.get? c = some o → g.get? c = some o) → Q (.ref s.heap.objs.size) { s with heap := g }) :
    wpAny (model prog w) A (Builtin.«zip.__next__» ⟨[.ref z], []⟩) (fun r s' => ∃ v, r = .done (.ret v) ∧ Q v s') E s := by
  change wpAny (model prog w) A (field (.ref z) 2 >>= _) _ E s
  refine wpAny_bind (wpAny_field gz rfl (x := .bool false) rfl ?g1)
  change wpAny (model prog w) A (field (.ref z) 3 >>= _) _ E s
  refine wpAny_bind (wpAny_field gz rfl (x := .ref TI) rfl (wpAny_bind (wpAny_seqItems gI rfl ?g2)))
  change wpAny (model prog w) A (Builtin.SmallTypes.ownedTupleIsFree (.ref z) >>= _) _ E s
  refine wpAny_bind (free_gone gz gone ?g3)
  simp only [if_true]
  refine wpAny_bind (wpAny_rule (wpAny_bind (wpAny_field gz rfl (x := .ref TO) rfl (wpAny_bind (wpAny_setField_rec gz (by simp) fun g1 z1 s1 => ?g4)))))
  have z1 : IsZipMid g1 z TI TO f := z1
  apply wpAny_bind
  simp only [List.zipIdx_cons, List.zipIdx_nil, List.forIn_cons, List.forIn_nil, Nat.reduceAdd]
  refine wpAny_bind (wpAny_bind (wpAny_onRaise ?g5))
  change wpAny (model prog w) A (Builtin.SmallTypes.nextOf (.ref i1) >>= _) _ _ _
  refine wpAny_bind (wpAny_nextOf_list_item (n1.extBut s1.extBut D.i1z) (m1.extBut s1.extBut D.l1z) ex fun g2 it1 s2 => wpAny_pure ?g6)
  have o2 : IsPair g2 TO p q := s2.extBut _ _ D.TOi1 (s1.extBut _ _ D.TOz gO)
  refine wpAny_bind (wpAny_seqItems o2 rfl (wpAny_bind (wpAny_updateSeq_pair o2 fun g3 o3 s3 => ?g7)))
  have o3 : IsPair g3 TO x q := o3
  refine wpAny_bind (wpAny_letGo (wpAny_pure (wpAny_bind (wpAny_bind (wpAny_onRaise ?g8)))))
  change wpAny (model prog w) A (Builtin.SmallTypes.nextOf (.ref i2) >>= _) _ _ _
  refine wpAny_bind (wpAny_nextOf_list_item (((n2.extBut s1.extBut D.i2z).extBut s2.extBut D.i12.symm).extBut s3.extBut D.TOi2.symm) (((m2.extBut s1.extBut D.l2z).extBut s2.extBut D.l2i1).extBut s3.extBut D.l2TO) ey fun g4 it2 s4 => wpAny_pure ?g9)
  have o4 : IsPair g4 TO x q := s4.extBut _ _ D.TOi2 o3
  refine wpAny_bind (wpAny_seqItems o4 rfl (wpAny_bind (wpAny_updateSeq_pair o4 fun g5 o5 s5 => ?g10)))
  have o5 : IsPair g5 TO x y := o5
  refine wpAny_bind (wpAny_letGo (wpAny_pure (wpAny_pure (wpAny_bind (wpAny_seqItems o5 rfl (wpAny_bind (wpAny_newTuple ?g11)))))))
  have sz : g5.objs.size = s.heap.objs.size := by rw [s5.1, s4.1, s3.1, s2.1, s1.1]
  have z5 : IsZipMid g5 z TI TO f := s5.extBut _ _ D.TOz.symm (s4.extBut _ _ D.i2z.symm (s3.extBut _ _ D.TOz.symm (s2.extBut _ _ D.i1z.symm z1)))
  have kp : ∀ c o, c ≠ z → c ≠ TO → c ≠ i1 → c ≠ i2 → s.heap.get? c = some o → g5.get? c = some o := fun c o c1 c2 c3 c4 e => s5.extBut _ _ c2 (s4.extBut _ _ c4 (s3.extBut _ _ c2 (s2.extBut _ _ c3 (s1.extBut _ _ c1 e))))
  have j1 : g5.IsListIter i1 l1 (k1 + 1) := ((it1.extBut s3.extBut D.TOi1.symm).extBut s4.extBut D.i12).extBut s5.extBut D.TOi1.symm
  have j2 : g5.IsListIter i2 l2 (k2 + 1) := it2.extBut s5.extBut D.TOi2.symm
  have zl : z < g5.objs.size := Heap.lt_size z5
  have z6 : IsZipMid (g5.push { cls := .type "tuple", data := .seq #[x, y] }) z TI TO f := Heap.get?_push_of_some _ z5
  change wpAny (model prog w) A (Builtin.SmallTypes.ownedTupleHandOut (.ref z) (.ref g5.objs.size) >>= _) _ _ _
  apply wpAny_bind
  unfold Builtin.SmallTypes.ownedTupleHandOut
  refine wpAny_bind (wpAny_setField_rec z6 (by simp) fun g7 z7 s7 => ?g12)
  have z7 : IsZipHeld g7 z TI TO g5.objs.size f := z7
  refine wpAny_setField_rec z7 (by simp) fun g8 z8 s8 => ?g13
  have z8 : IsZipHeld g8 z TI TO g5.objs.size false := z8
  have upw : ∀ c o, c ≠ z → g5.get? c = some o → g8.get? c = some o := fun c o c1 e => s8.extBut _ _ c1 (s7.extBut _ _ c1 (Heap.get?_push_of_some _ e))
  have t8 : IsPair g8 g5.objs.size x y := s8.extBut _ _ (Nat.ne_of_gt zl) (s7.extBut _ _ (Nat.ne_of_gt zl) (Heap.get?_push_size _ rfl))
  have sz8 : g8.objs.size = g5.objs.size + 1 := by rw [s8.1, s7.1, Heap.size_push]
  rw [sz] at z8 t8 sz8
  refine wpAny_pure ⟨_, rfl, ?g14⟩
  change Q (.ref g5.objs.size) _
  rw [sz]
  exact hQ g8 z8 (upw _ _ D.TOz o5) (j1.at fun o e => upw _ o D.i1z e) (j2.at fun o e => upw _ o D.i2z e) t8 sz8 fun c o c1 c2 c3 c4 e => upw c o c1 (kp c o c1 c2 c3 c4 e)
def ZS (h : Heap) (z TI TO : Addr) : Prop := IsZip h z TI TO .none ∨ ∃ T f, IsZipHeld h z TI TO T f
theorem ZS.lt {h : Heap} {z TI TO : Addr} (g : ZS h z TI TO) : z < h.objs.size := by
  rcases g with g | ⟨_, _, g⟩ <;> exact Heap.lt_size g
theorem ZS.ty {z TI TO : Addr} (g : ZS s.heap z TI TO) : s.TypeIs (.ref z) "zip" := by
  rcases g with g | ⟨_, _, g⟩ <;> exact ⟨_, g, rfl⟩
theorem ZS.at {h h' : Heap} {z TI TO : Addr} (g : ZS h z TI TO) (k : ∀ o, h.get? z = some o → h'.get? z = some o) : ZS h' z TI TO := by
  rcases g with g | ⟨T, f, g⟩
  · exact .inl (k _ g)
  · exact .inr ⟨T, f, k _ g⟩
theorem zip_item {z TI TO i1 i2 l1 l2 : Addr} {k1 k2 : Nat} {xs ys : Array Value} {x y : Value} {Q : Value → Shared → Prop} (D : ZipApart z TI TO i1 i2 l1 l2)
    (gz : ZS s.heap z TI TO) (gI : IsPair s.heap TI (.ref i1) (.ref i2)) (gO : ∃ p q, IsPair s.heap TO p q) (n1 : s.heap.IsListIter i1 l1 k1) (n2 : s.heap.IsListIter i2 l2 k2) (m1 : s.heap.IsList l1 xs) (m2 : s.heap.IsList l2 ys) (ex : xs[k1]? = some x) (ey : ys[k2]? = some y)
    (hQ : ∀ g, ZS g z TI TO → (∃ p q, IsPair g TO p q) → g.IsListIter i1 l1 (k1 + 1) → g.IsListIter i2 l2 (k2 + 1) → IsPair g s.heap.objs.size x y → g.objs.size = s.heap.objs.size + 1 →
      (∀ c o, c ≠ z → c ≠ TO → c ≠ i1 → c ≠ i2 → s.heap.get? c = some o → g.get? c = some o) → Q (.ref s.heap.objs.size) { s with heap := g }) :
    wpAny (model prog w) A (Builtin.SmallTypes.nextOf (.ref z)) Q E s := by
  have ty := gz.ty
  unfold Builtin.SmallTypes.nextOf
  refine wpAny_bind (wpAny_callSpecial?_slot (name := Str.ofString "__next__") ty F.slot_zip_next (wpAny_call_entry F.slot_zip_next ty F.entry_zip_next ?g1 (F.args_zip_next_1 _)))
  obtain ⟨p, q, gO⟩ := gO
  rcases gz with g | ⟨T, f, g⟩
  · exact zip_next_item D g gI gO n1 n2 m1 m2 ex ey fun h a1 a2 a3 a4 a5 a6 a7 => wpAny_pure (hQ h (.inr ⟨_, _, a1⟩) ⟨_, _, a2⟩ a3 a4 a5 a6 a7)
  · cases al : s.heap.get? T with
    | none => exact next_gone D g al gI gO n1 n2 m1 m2 ex ey fun h a1 a2 a3 a4 a5 a6 a7 => wpAny_pure (hQ h (.inr ⟨_, _, a1⟩) ⟨_, _, a2⟩ a3 a4 a5 a6 a7)
    | some oT => exact zip_next_item_held D g al gI n1 n2 m1 m2 ex ey fun h a1 a3 a4 a5 a6 a7 => wpAny_pure (hQ h (.inr ⟨_, _, a1⟩) ⟨_, _, a7 _ _ D.TOz D.TOi1 D.TOi2 gO⟩ a3 a4 a5 a6 fun c o c1 c2 c3 c4 e => a7 c o c1 c3 c4 e)
end
end EZ
set_option maxHeartbeats 1000000
namespace EZ
open PySem
open PySem.Sem (wp)
section
variable {prog : Program} {w : World} {A : Around} {E : Value → Shared → Prop} {s : Shared}
end
end EZ
namespace L2
open PySem PySem.Spec PyProof.Rows EZ
end L2
namespace R
open PySem PySem.Spec PyProof.Rows L2
section
variable {X : Cx} {C : Cn} {pos : Pos}
end
end R
namespace R
open PySem PySem.Spec PyProof.Rows L2 LamX
section
variable {X : Cx} {C : Cn}
end
end R
namespace R
open PySem PySem.Spec PyProof.Rows L2
section
variable {X : Cx} {C : Cn} {pos : Pos}
theorem re_dct : RE X C (.Dict [] [] pos) (mC .dct) := pe_dnewK.imp fun σ H Q ⟨L, w, p, en, S, E, h⟩ T hT => by
  have h : Post C L w σ (RV C) (.ok .dct p) Q := h
  exact h (w.add T (.dK [])) _ (.ref T) (S.le_add hT) (S.new hT) ⟨T, rfl, add_at⟩
end
end R
namespace R
open PySem PySem.Spec PyProof.Rows L2
section
variable {X : Cx} {C : Cn} {pos : Pos}
end
end R
namespace R
open PySem PySem.Spec PyProof.Rows L2
section
variable {X : Cx} {C : Cn} {pos : Pos}
end
end R
namespace R
open PySem PySem.Spec PyProof.Rows L2
section
variable {X : Cx} {C : Cn} {pos : Pos}
end
end R
theorem L2.Room.units1 {k : Nat} {A : PySem.Around} (r : L2.Room k A) : A.units + 1 < PySem.cLine := by
  have := r.units
  omega
namespace R
open PySem PySem.Spec PyProof.Rows L2
section
variable {Γ : Cfg} {L : Lv} {w : Wd} {p : Pool} {H : Hp}
end
section
variable {X : Cx} {C : Cn} {pos : Pos}
end
end R
namespace R
open PySem PySem.Spec PyProof.Rows L2
section
variable {X : Cx} {C : Cn}
end
section
variable {P : Program} {w0 : World} {K : PySem.W.Frag} {mg : Str → Option Value} {base : Heap}
end
end R
namespace R
open PySem PySem.Spec PyProof.Rows L2
structure LamD.Ok (L : LamD) : Prop where
  co : L.scope.isCoroutine = false
  gen : L.scope.isGenerator = false
  kind : L.scope.kind = .function
  cell : ∀ z ∈ L.scope.names, z.2 ≠ .cell
  hx : L.scope.names.lookup L.x = some .free
  hy : L.scope.names.lookup L.y = some .local
  hg : L.scope.names.lookup L.g = some .globalImplicit
  dx : (L.x == ("__debug__" : Str)) = false
  cx : (L.x == ("__classdict__" : Str)) = false
  dy : (L.y == ("__debug__" : Str)) = false
  dg : (L.g == ("__debug__" : Str)) = false
  bind : ∀ (cl : List (Str × Addr)) (pm cv ctv u : Value), bindArgs (PySem.W.kla_fn "<lambda>" L.q L.params L.body L.scope cl pm cv ctv) ⟨[u], []⟩ = pure [(L.y, u)]
section
variable {P : Program} {w : World} {K : PySem.W.Frag} {mg : Str → Option Value} {base : Heap}
theorem frs_cons {env : Env} {outer : List Env} {L b : Addr} (hf : env.frame = some L) (h : b ∈ frs (env :: outer)) : b = L ∨ b ∈ frs outer := by
  have h : b ∈ (env :: outer).filterMap (·.frame) := h
  rw [List.filterMap_cons, hf] at h
  exact List.mem_cons.mp h
theorem clo_run {L : LamD} (ok : L.Ok) {k : Nat} {gf f c c' : Addr} {fd : FuncData} {ps : List Str} {sp : Sp} (F : FnOk P w K mg base (L2.CX P w) k gf fd ps sp) (hm : mg L.g = some (.ref gf)) (hkp : PySem.W.keepIn K (.ref gf) = true) (hb : Binds K fd ps [])
    {A : Around} {outer : List Env} {s : Shared} {H : Hp} (e0 : Env0 P w K mg base A outer s H) (hr : Room (k + 1) A) {u uy : Value} {vx vy : V} {Q : VK} {E : XK}
    (hf : H f = some (FunO L c c' f)) (hc' : H c' = some (LamX.CodeO c' L.q)) (hc : H c = some (CellO c u)) (rx : RelV vx u) (ry : RelV vy uy) (hs : sp [vx, vy] H Q (fun _ _ _ => False)) :
    codeAny (model P w) A (.call (.ref f) ⟨[uy], []⟩) (CR (L2.CX P w) outer P w H s Q E) s := by
  obtain ⟨⟨pm, ctv, hfo⟩, _, _⟩ := e0.hok f _ hf
  obtain ⟨⟨oc, vs, t, hoc, hdc, hvc⟩, _, _⟩ := e0.hok c' _ hc'
  obtain ⟨hcell, _, _⟩ := e0.hok c _ hc
  have nl : s.heap.NoLimit := e0.mod.nolimit.keeps fun b o e => (e0.bs b o e).1
  refine PySem.W.kla_callFunE hr.depth hfo rfl ok.co ok.gen rfl ⟨c', oc, vs, t, rfl, hoc, hdc, hvc⟩ ?_
  rw [ok.bind]
  refine wpAny_pure (wpAny_newFunctionEnv ok.cell (fun z hz => ?_) (fun h₁ hns hsb => ⟨nl.fresh _ hsb, ?_⟩) ok.kind)
  · rw [List.mem_singleton.mp hz]
    exact ok.hy
  have up : ∀ b o, s.heap.get? b = some o → h₁.get? b = some o := fun b o e => hsb.extBut b o (Nat.ne_of_lt (Heap.lt_size e)) (Heap.get?_push_of_some _ e)
  refine PySem.W.kla_codeExpr ?_
  have KX : K.In h₁ := e0.mod.kin.keeps fun b o e => up _ _ (e0.bs b o e).1
  refine wpAny_Call_Name_kw (Calls.Name_function_global ok.kind ok.hg (Calls.loadGlobal_global (mg := mg) (e0.mod.glob.keeps fun b o e => up _ _ (e0.bs b o e).1) hm ?_) ok.dg)
  refine PySem.W.callWith_K (h₀ := base) e0.mod.kin hkp ?_ (by rfl) (by rfl)
  have hcell' : h₁.IsCell c (some u) := by
    obtain ⟨o, z1, z2⟩ := hcell
    exact ⟨o, up _ _ z1, z2⟩
  refine Calls.spliced_cons (wpAny_Name (wpAny_loadName_free (c := c) (v := u) ok.kind ok.hx (by show List.lookup L.x [(L.x, c)] = _; rw [List.lookup_cons_self]) hcell' ?_ ok.cx) ok.dx)
  refine Calls.spliced_cons (wpAny_Name (wpAny_loadName_local ok.kind ok.hy hns (v := uy) (by show List.lookup L.y [(L.y, uy)] = _; rw [List.lookup_cons_self]) ?_) ok.dy)
  refine Calls.spliced_nil ⟨KX, ?_⟩
  have hl : ([u, uy] ++ ([] : List Value)).length = ps.length := (F.len _ _ _ _ hs)
  have e1 : ∀ env : Env, env.scope = L.scope → env.frame = some s.heap.objs.size → Env0 P w K mg base (A.deeper env) (env :: outer) { s with heap := h₁, toks := s.toks + [(L.y, uy)].length } H := fun env he hfr =>
    ⟨Around.frames_deeper e0.frames, e0.mod, fun b o e => ⟨up _ _ (e0.bs b o e).1, (e0.bs b o e).2⟩, Nat.le_trans e0.bsz (by
      obtain ⟨o, _, _, ho, _⟩ := hns
      exact Nat.le_of_lt (Heap.lt_size ho)), .cons (by rw [he, ok.kind]; decide) hfr hns (Heap.get?_none_of_le e0.bsz) (e0.funs.of_keeps fun b o e _ => ⟨o, up _ _ e, rfl⟩), fun b hb => by
      rcases frs_cons hfr hb with e | e
      · rw [e]
        exact e0.hok.fresh (Nat.le_refl _)
      · exact e0.frf b e, e0.hok.kept up, e0.bare⟩
  refine wpAny_call (codeAny_mono (F.run _ _ _ H ⟨[u, uy], []⟩ [u, uy] [vx, vy] Q (fun _ _ _ => False) (hr.deeper _) (e1 _ rfl rfl) (hb _ [u, uy] KX hl) (.cons rx (.cons ry .nil)) hs) fun r s' hq => ?_)
  cases r with
  | error e =>
    exfalso
    obtain ⟨_, _, _, _, _, _, _, _, _, _, _, _, z⟩ := hq
    exact z
  | ok fl =>
    cases fl with
    | ret v =>
      obtain ⟨v, H', os, bare, un, hok, r, q⟩ := hq
      refine ⟨v, H', os, bare, ⟨fun b o e n hb hx => un.keep b o (up _ _ e) n (fun z => ?_) hx, fun b o e n hb hx => un.slot b o (up _ _ e) n ?_ hx, fun b o e n hx => un.free b o (up _ _ e) n hx, fun b o e hx => un.there b o (up _ _ e) hx, un.tups, un.frzs, un.tbls⟩, hok, r, q⟩
      · rcases frs_cons rfl z with e2 | e2
        · rw [e2] at e
          exact absurd (Heap.lt_size e) (Nat.lt_irrefl _)
        · exact hb e2
      · exact List.mem_cons_of_mem _ hb
    | next => exact False.elim hq
    | brk => exact False.elim hq
    | cont => exact False.elim hq
end
end R
namespace R
open PySem PySem.Spec PyProof.Rows L2
section
variable {X : Cx}
def tClo (L : LamD) (C : Addr) (m : Str) (sp : Sp) (ta : TE) (t : TA) : TE := fun σ H Q => ta σ H fun x H1 => ∃ (a dx : Addr) (fs : List (Str × V)) (f c c' : Addr), x = .ref a ∧ H1 a = some (.ins C dx fs) ∧ fs.lookup m = some (.ref f) ∧ H1 f = some (FunO L c c' f) ∧
  t σ H1 fun vs H2 => ∃ (u : Value) (vx vy : V), vs = [vy] ∧ H2 f = some (FunO L c c' f) ∧ H2 c' = some (LamX.CodeO c' L.q) ∧ H2 c = some (CellO c u) ∧ RelV vx u ∧ sp [vx, vy] H2 Q (fun _ _ _ => False)
theorem fnAt_of {P : Program} {w : World} {H : Hp} {h : Heap} {L : LamD} {f c c' : Addr} (ok : HOk P w H h) (e : H f = some (FunO L c c' f)) : PySem.W.FnAt f h := by
  obtain ⟨⟨pm, ctv, hfo⟩, _, _⟩ := ok f _ e
  exact ⟨_, _, _, _, hfo⟩
theorem pe_clo {L : LamD} (ok : L.Ok) {k : Nat} {C gf : Addr} {fd : FuncData} {ps : List Str} {sp : Sp} {ta : TE} {t : TA} {o e : Expr} {m : Str} {apos pos : Pos} {pl : Sem Bool} (he : PE X o ta) (c : Cls X.K C) (n : NoAttr X.K C m)
    (F : FnOk X.prog X.w X.K X.mg X.base (L2.CX X.prog X.w) k gf fd ps sp) (hr : Room (k + 1) X.A) (hm : X.mg L.g = some (.ref gf)) (hkp : PySem.W.keepIn X.K (.ref gf) = true) (hb : Binds X.K fd ps []) (ha : PA X [e] t)
    (hst : starEach [e] X.env = (false, eval e X.env) :: starEach [] X.env := by rfl) (hpl : (backTo pos (starEach [] X.env)).any (·.1) = false := by rfl)
    (ht : eval (.Call (.Attribute o m apos) [e] [] pos) X.env = (do
      let ov ← eval o X.env
      standAt apos.atName
      let (f, first) ← holding [ov] (getMethod ov m pl)
      callWith pos f first (backTo pos (starEach [e] X.env)) (backToKw pos (keywordEach [] X.env))) := by rfl) :
    PE X (.Call (.Attribute o m apos) [e] [] pos) (tClo L C m sp ta t) := by
  refine ⟨fun pins s σ H Q I h => ?_⟩
  refine PySem.W.methodCall_KW (pl := pl) (thn (he.run pins s σ H _ I h) fun u s1 ⟨x, H1, I1, rx, a, dx, fs, f, cc, c', ex, ea, l, hf, q⟩ => ?_) ht
  subst ex
  obtain rfl : u = Value.ref a := rx
  obtain ⟨mA, O, r, _, _, _⟩ := ins_get I1.hok ea
  obtain ⟨od, J, hl⟩ := O.look
  refine PySem.W.method_usual I1.kIn J (PySem.W.plainGet_of (c.get m)).1 (PySem.W.plainGet_of (c.get m)).2 (show PySem.W.findIn X.K (.ref C) m = some none from n) (by rfl) (getattr_ok I1 ea c n l fun u' s2 I2 ru => ?_)
  obtain rfl : u' = Value.ref f := ru
  refine PySem.W.callWith_F (first := []) (fnAt_of I2.hok hf) (thn (ha.run pos pins s2 σ H1 _ I2 q) fun us s3 ⟨vs, H2, I3, rs, uu, vx, vy, ev, hf2, hc', hc, rx, hs⟩ => ⟨fnAt_of I3.hok hf2, ?_⟩) hst hpl
  subst ev
  obtain ⟨uy, ry, rfl⟩ : ∃ uy, RelV vy uy ∧ us = [uy] := by
    cases rs with
    | cons r1 r2 =>
      cases r2
      exact ⟨_, r1, rfl⟩
  refine wpAny_call (codeAny_mono (clo_run ok F hm hkp hb I3.env0 hr (E := fun _ _ _ => False) hf2 hc' hc rx ry hs) fun r s' hq => ?_)
  cases r with
  | error e =>
    exfalso
    obtain ⟨_, _, _, _, _, _, _, _, _, _, _, _, z⟩ := hq
    exact z
  | ok fl =>
    cases fl with
    | ret u => exact I3.after hq
    | next => exact False.elim hq
    | brk => exact False.elim hq
    | cont => exact False.elim hq
end
end R
namespace R
open PySem PySem.Spec PyProof.Rows L2
theorem funO_ok {P : Program} {w : World} {H : Hp} {h : Heap} {L : LamD} {c c' f : Addr} {pm ctv : Value} (e : h.get? f = some (PySem.W.kla_obj "<lambda>" L.q L.params L.body L.scope [(L.x, c)] pm c' ctv)) : ObjOk P w H h f (FunO L c c' f) :=
  ⟨⟨pm, ctv, e⟩, ⟨_, e⟩, fun _ _ ⟨a, b, z⟩ st => ⟨a, b, st _ z⟩⟩
section
variable {X : Cx} {pins : List (Addr × Obj)} {σ : L2.St} {H : Hp} {s : Shared}
theorem tabs_more {T : List (Addr × Str)} {P c' : Addr} {q : Str} {ps : Array Value} {pos : Pos} {H1 : Hp} (hT : LamX.Tabs T H) (hu : ∀ p ∈ T, p.1 = P → p.2 = q) (hP : H P = some (.tbl ps)) (ht : TriplesOk ps.toList)
    (hE : LamX.ExtN H H1) (e1 : H1 P = some (.tbl (ps ++ #[rawInt pos.line, rawInt pos.col, .ref c']))) (e2 : H1 c' = some (LamX.CodeO c' q)) (e3 : ∀ b, b ≠ P → H b ≠ none → H1 b = H b) : LamX.Tabs T H1 := fun p hp => by
  obtain ⟨ps', a1, a2, a3⟩ := hT p hp
  by_cases hb : p.1 = P
  · rw [hb] at a1
    rw [hP] at a1
    cases a1
    rw [hu p hp hb, hb]
    have eL : (ps ++ #[rawInt pos.line, rawInt pos.col, .ref c']).toList = ps.toList ++ [rawInt pos.line, rawInt pos.col, .ref c'] := by simp
    refine ⟨_, e1, by rw [eL]; exact PySem.TriplesOk_snoc _ _ _ _ ht, fun p' cv hcv => ?_⟩
    rw [eL] at hcv
    rcases LamX.among_app _ ht hcv with z | z
    · obtain ⟨c0, f1, f2⟩ := a3 p' cv z
      rw [hu p hp hb] at f2
      exact ⟨c0, f1, hE _ _ f2 LamX.codeO_ne⟩
    · exact ⟨c', z, e2⟩
  · refine ⟨ps', ?_, a2, fun pos cv hcv => ?_⟩
    · rw [e3 _ hb (by rw [a1]; exact fun z => nomatch z)]
      exact a1
    · obtain ⟨c0, f1, f2⟩ := a3 pos cv hcv
      exact ⟨c0, f1, hE _ _ f2 LamX.codeO_ne⟩
theorem lam_clo {L : LamD} {T : List (Addr × Str)} {c P cc : Addr} {pos : Pos} {E : Value → Shared → Prop} {Q : Value → Shared → Prop} (I : Inv X pins σ H s) (TB : LamX.TabB X.base X.mg c P) (hcode : X.env.code = .ref c) (hq : X.env.qual ++ "<lambda>" = L.q)
    (hm : (P, L.q) ∈ T) (hu : ∀ p ∈ T, p.1 = P → p.2 = L.q) (hT : LamX.Tabs T H) (hdef : defaultsOf L.params X.env = ([], [])) (hfree : ∀ y ∈ L.scope.names, y.2 = .free → ∃ c, X.env.cells.lookup y.1 = some c) (hcl : cloFrom X.env.cells L.scope.names [] = [(L.x, cc)])
    (h : ∀ (f c' : Addr) (H1 : Hp) (s' : Shared), Inv X pins σ H1 s' → LamX.ExtN H H1 → LamX.Tabs T H1 → H1 f = some (FunO L cc c' f) → H1 c' = some (LamX.CodeO c' L.q) → Q (.ref f) s') :
    wpAny (model X.prog X.w) X.A (eval (.Lambda L.params L.body L.scope pos) X.env) Q E s := by
  obtain ⟨ps, hP, ht, ha⟩ := hT _ hm
  have bP := TB.bm.keeps I.bk
  have hP' : s.heap.get? P = some { cls := .none, data := .fields ps } := I.hok P _ hP
  refine PySem.W.kla_eval hdef ?_
  have clo := closure_ok hfree
  rw [hq]
  cases hc : codeAmong pos ps.toList with
  | none =>
    refine PySem.W.kla_makeFunction (mg := X.mg) (c := c) (P := P) (ps := ps) clo I.ok.glob (I.mod.glob.keeps I.bk) hcode (TB.code.keeps I.bk) hP' ht hc TB.gP bP fun c' ctv h' tk hx hge hlt hrec htb => ?_
    obtain ⟨c2, oc, vs, t, e2, hoc, hd, hv⟩ := hrec
    cases e2
    have nC : H c' = none := I.hok.fresh hge
    have nPc : P ≠ c' := ne_of_none hP nC
    have I1 := LamX.inv_table (q := L.q) (t' := tk) (more := #[rawInt pos.line, rawInt pos.col, .ref c']) (h' := h') I hP (fun b o hb e => hx b o hb e) htb hge ⟨oc, vs, t, hoc, hd, hv⟩
    have I2 := I1.laid (t' := tk) (h' := h'.push (PySem.W.kla_obj "<lambda>" L.q L.params L.body L.scope (cloFrom X.env.cells L.scope.names []) ((X.mg "__name__").getD .none) c' ctv)) (a := h'.objs.size) (o := FunO L cc c' h'.objs.size) (fun b u e => Heap.get?_push_of_some _ e) (Nat.le_refl _)
      (by rw [hcl]; exact funO_ok (Heap.get?_push_size _ rfl))
    have nf : h'.objs.size ≠ c' := Nat.ne_of_gt hlt
    have sz : s.heap.objs.size ≤ h'.objs.size := Nat.le_trans hge (Nat.le_of_lt hlt)
    have nfP : h'.objs.size ≠ P := Nat.ne_of_gt (Nat.lt_of_lt_of_le (Heap.lt_size hP') sz)
    have nF : H h'.objs.size = none := I.hok.fresh sz
    have at1 : ∀ b, b ≠ P → H b ≠ none → upd (upd (upd H P (.tbl (ps ++ #[rawInt pos.line, rawInt pos.col, .ref c']))) c' (LamX.CodeO c' L.q)) h'.objs.size (FunO L cc c' h'.objs.size) b = H b := fun b h1 h2 => by
      rw [upd_ne (fun z => h2 (by rw [z]; exact nF)), upd_ne (fun z => h2 (by rw [z]; exact nC)), upd_ne h1]
    have hE : LamX.ExtN H (upd (upd (upd H P (.tbl (ps ++ #[rawInt pos.line, rawInt pos.col, .ref c']))) c' (LamX.CodeO c' L.q)) h'.objs.size (FunO L cc c' h'.objs.size)) := fun b o e n => by
      rw [at1 b (fun z => n ps (Option.some.inj (e.symm.trans (by rw [z]; exact hP)))) (by rw [e]; exact fun z => nomatch z)]
      exact e
    have eC : upd (upd (upd H P (.tbl (ps ++ #[rawInt pos.line, rawInt pos.col, .ref c']))) c' (LamX.CodeO c' L.q)) h'.objs.size (FunO L cc c' h'.objs.size) c' = some (LamX.CodeO c' L.q) := by
      rw [upd_ne nf.symm, upd_same]
    refine h h'.objs.size c' _ _ I2 hE (tabs_more (pos := pos) hT hu hP ht hE ?_ eC at1) upd_same eC
    rw [upd_ne nfP.symm, upd_ne nPc, upd_same]
  | some cv =>
    obtain ⟨c', e, hco⟩ := ha pos cv hc
    subst e
    refine PySem.W.kla_makeFunctionHit (mg := X.mg) (c := c) (P := P) (ps := ps) clo I.ok.glob (I.mod.glob.keeps I.bk) hcode (TB.code.keeps I.bk) hP' ht hc bP fun ctv h' tk hx hsz => ?_
    have I1 : Inv X pins σ H { s with heap := h', toks := tk } := I.kept hx
    have I2 := I1.laid (t' := tk) (h' := h'.push (PySem.W.kla_obj "<lambda>" L.q L.params L.body L.scope (cloFrom X.env.cells L.scope.names []) ((X.mg "__name__").getD .none) c' ctv)) (a := h'.objs.size) (o := FunO L cc c' h'.objs.size) (fun b u e => Heap.get?_push_of_some _ e) (Nat.le_refl _)
      (by rw [hcl]; exact funO_ok (Heap.get?_push_size _ rfl))
    have nF : H h'.objs.size = none := I.hok.fresh hsz
    have ext : ∀ b o, H b = some o → upd H h'.objs.size (FunO L cc c' h'.objs.size) b = some o := fun b o e => by
      rw [upd_ne (ne_of_none e nF)]
      exact e
    exact h h'.objs.size c' _ _ I2 (.of ext) (hT.ext ext) upd_same (ext _ _ hco)
end
end R
namespace R
open PySem PySem.Spec PyProof.Rows L2
section
variable {Γ : Cfg} {L : Lv} {w : Wd} {p : Pool} {H : Hp}
theorem SimP.knowX (S : SimP Γ L w p H) {b : Addr} {o : HO} (hb : H b = some o) (ho : ∃ φ, o = .ext φ) : SimP Γ L (w.add b o) p H ∧ w.le (w.add b o) := by
  obtain ⟨φ, rfl⟩ := ho
  have le : w.le (w.add b (.ext φ)) := by
    refine ⟨fun a o e => ?_, List.prefix_refl _⟩
    show upd w.G b (.ext φ) a = some o
    by_cases ea : a = b
    · rw [ea] at e ⊢
      rw [upd_same]
      have := S.sub b o e
      rw [hb] at this
      exact this
    · rw [upd_ne ea]
      exact e
  have gn : ∀ a, w.G a = none → H a ≠ some (.ext φ) → upd w.G b (.ext φ) a = none := fun a g n => by
    rw [upd_ne fun z => n (by rw [z]; exact hb)]
    exact g
  refine ⟨⟨fun a o e => ?_, S.len, S.nd, S.hb, S.hlo, S.hm, fun k c a h1 h2 => ?_, fun a ps e => ?_, S.tb⟩, le⟩
  · have e : upd w.G b (.ext φ) a = some o := e
    by_cases ea : a = b
    · rw [ea, upd_same] at e
      rw [ea, hb]
      exact e
    · rw [upd_ne ea] at e
      exact S.sub a o e
  · have lw := S.lows le k
    have x := S.cell k c a h1 h2
    have gl : ((w.add b (.ext φ)).low (L.lo k)).G = upd w.G b (.ext φ) := Wd.low_G
    cases c with
    | lst ys =>
      obtain ⟨g, vs, e, r⟩ := x
      rw [Wd.low_G] at g
      exact ⟨by rw [gl]; exact gn a g (fun z => by rw [e] at z; cases z), vs, e, Reps.mono lw r⟩
    | obj d ys =>
      obtain ⟨g, dx, vs, e, ed, gd, n, r⟩ := x
      rw [Wd.low_G] at g gd
      exact ⟨by rw [gl]; exact gn a g (fun z => by rw [e] at z; cases z), dx, vs, e, ed, by rw [gl]; exact gn dx gd (fun z => by rw [ed] at z; cases z), n, Reps.mono lw r⟩
    | dead => exact x
    | dk kvs =>
      obtain ⟨g, vs, e, r⟩ := x
      rw [Wd.low_G] at g
      exact ⟨by rw [gl]; exact gn a g (fun z => by rw [e] at z; cases z), vs, e, Reps.mono lw r⟩
    | dt kvs =>
      obtain ⟨g, vs, e, r⟩ := x
      rw [Wd.low_G] at g
      exact ⟨by rw [gl]; exact gn a g (fun z => by rw [e] at z; cases z), vs, e, Reps.mono lw r⟩
  · have e : upd w.G b (.ext φ) a = some (.tbl ps) := e
    by_cases ea : a = b
    · rw [ea, upd_same] at e
      cases e
    · rw [upd_ne ea] at e
      exact S.nt a ps e
end
section
variable {X : Cx} {C : Cn}
def tLamC (Ld : LamD) (T : List (Addr × Str)) (cc : Addr) : TE := fun σ H Q => LamX.Tabs T H ∧ ∀ (f c' : Addr) (H1 : Hp), LamX.ExtN H H1 → LamX.Tabs T H1 → H1 f = some (FunO Ld cc c' f) → H1 c' = some (LamX.CodeO c' Ld.q) → Q (.ref f) H1
theorem pe_lamC {Ld : LamD} {T : List (Addr × Str)} {c P cc : Addr} {pos : Pos} (TB : LamX.TabB X.base X.mg c P) (hcode : X.env.code = .ref c) (hq : X.env.qual ++ "<lambda>" = Ld.q) (hm : (P, Ld.q) ∈ T) (hu : ∀ p ∈ T, p.1 = P → p.2 = Ld.q)
    (hdef : defaultsOf Ld.params X.env = ([], [])) (hfree : ∀ y ∈ Ld.scope.names, y.2 = .free → ∃ c, X.env.cells.lookup y.1 = some c) (hcl : cloFrom X.env.cells Ld.scope.names [] = [(Ld.x, cc)]) :
    PE X (.Lambda Ld.params Ld.body Ld.scope pos) (tLamC Ld T cc) :=
  ⟨fun pins s σ H Q I ⟨hT, h⟩ => lam_clo I TB hcode hq hm hu hT hdef hfree hcl fun f c' H1 s' I1 eN T1 hf hc' => ⟨.ref f, H1, I1, rfl, h f c' H1 eN T1 hf hc'⟩⟩
def tMkC (C : Cn) (Ld : LamD) (cc : Addr) (c : Nat) (m : M (List PV)) : TE := fun σ H Q => ∃ L w p en, SimP C.Γ L w p H ∧ EnR C L w en σ ∧ ∃ B S p1, m en p = .ok [B, S] p1 ∧
  ∀ (w' : Wd) (H' : Hp) (v : V) (f c' : Addr), L.b ≤ p1.length → w.le w' → SimP C.Γ L w' (p1 ++ [.obj c [.adr f, B, S, .own (p1.length + 1)], .dk []]) H' → w'.G f = some (FunO Ld cc c' f) → w'.G c' = some (LamX.CodeO c' Ld.q) → Rep C.Γ w' (.own p1.length) v → Q v H'
theorem pe_mkC {Ld : LamD} {c0 P cc : Addr} {lpos pos pD : Pos} {k c : Nat} {fi : Addr} {fd : FuncData} {ps : List Str} {g : Nat → FnM} {x : Str} {e2 e3 : Expr} {m : M (List PV)} (TB : LamX.TabB X.base X.mg c0 P) (hcode : X.env.code = .ref c0) (hq : X.env.qual ++ "<lambda>" = Ld.q) (hm : (P, Ld.q) ∈ C.Γ.tabs) (hu : ∀ p ∈ C.Γ.tabs, p.1 = P → p.2 = Ld.q)
    (hdef : defaultsOf Ld.params X.env = ([], [])) (hfree : ∀ y ∈ Ld.scope.names, y.2 = .free → ∃ c, X.env.cells.lookup y.1 = some c) (hcl : cloFrom X.env.cells Ld.scope.names [] = [(Ld.x, cc)])
    (M : Mk X.K (C.Γ.cls c) fi) (F : FnOk X.prog X.w X.K X.mg X.base (L2.CX X.prog X.w) k fi fd ps (spIS C.Γ c 4 g)) (hr : Room (k + 1) X.A) (hg : Gl X x) (hmx : X.mg x = some (.ref (C.Γ.cls c))) (hb : Binds X.K fd ps []) (tk : Takes X C.W) (ra : RA X C [e2, e3] m)
    (hini : ∀ (b : Nat) (y B S : PV) (p : Pool), b ≤ p.length → g b [y, B, S] p = .ok (.own p.length) (p ++ [.obj c [y, B, S, .own (p.length + 1)], .dk []]))
    (hdb : (x == ("__debug__" : Str)) = false := by decide)
    (hs1 : starEach (.Lambda Ld.params Ld.body Ld.scope lpos :: [e2, e3]) X.env = (false, eval (.Lambda Ld.params Ld.body Ld.scope lpos) X.env) :: starEach [e2, e3] X.env := by rfl) (hpl : (backTo pos (starEach [e2, e3] X.env)).any (·.1) = false := by rfl) :
    PE X (.Call (.Name x pD) [.Lambda Ld.params Ld.body Ld.scope lpos, e2, e3] [] pos) (tMkC C Ld cc c m) := by
  refine (pe_makeSD M F hr hg hmx hb .nil (fun σ => passAt tk σ) (pa_cons (pe_lamC (T := C.Γ.tabs) TB hcode hq hm hu hdef hfree hcl) ra.pa hs1) hdb hs1 hpl).imp fun σ H Q ⟨L, w, p, en, S, E, B, Sp, p1, em, h⟩ => ?_
  refine ⟨S.tb, fun f c' H1 eN T1 hf hc' => ?_⟩
  have S1 : SimP C.Γ L w p H1 := S.ext ⟨eN, fun _ => T1⟩
  obtain ⟨S2, l2⟩ := S1.knowX hf ⟨_, rfl⟩
  obtain ⟨S3, l3⟩ := S2.knowX hc' ⟨_, rfl⟩
  have gf : ((w.add f (FunO Ld cc c' f)).add c' (LamX.CodeO c' Ld.q)).G f = some (FunO Ld cc c' f) := l3.1 _ _ upd_same
  have gc : ((w.add f (FunO Ld cc c' f)).add c' (LamX.CodeO c' Ld.q)).G c' = some (LamX.CodeO c' Ld.q) := upd_same
  have l := l2.trans l3
  generalize (w.add f (FunO Ld cc c' f)).add c' (LamX.CodeO c' Ld.q) = w3 at *
  refine ⟨L, w3, p, en, S3, E.mono l, ?_⟩
  rw [em]
  intro w4 H4 vs l4 S4 r4 y dy hy hdy ne
  have rf : Rep C.Γ w4 (.adr f) (.ref f) := ⟨rfl, _, l4.1 _ _ gf⟩
  refine ⟨?_, L, w4, p1, [.adr f, B, Sp], y, .ref f :: vs, H4, ?_, S4, Reps.cons rf r4, hy, ⟨dy, hdy, ne, rfl⟩, ?_⟩
  · rw [List.append_nil, List.length_cons, List.length_cons, ← r4.length]
    rfl
  · rw [List.append_nil]
  · rw [hini _ _ _ _ _ S4.hb]
    intro w5 H5 v l5 S5 r5 ev
    refine ⟨rfl, ?_⟩
    rw [← ev]
    exact h w5 H5 v f c' S4.hb (l.trans (l4.trans l5)) S5 (l5.1 _ _ (l4.1 _ _ gf)) (l5.1 _ _ (l4.1 _ _ gc)) r5
end
end R
namespace R
open PySem PySem.Spec PyProof.Rows L2
def rtO (Q : VK) : L2.Ends := { nx := fun _ _ => False, rt := Q }
structure PZs (X : Cx) (cc : Addr) (i : Nat) (body : List Stmt) (t : TS) : Prop where
  run : ∀ (pins : List (Addr × Obj)) (s : Shared) (σ : L2.St) (H : Hp) (Q : VK), Inv X pins σ H s → t (rtO Q) σ H → wpAny (model X.prog X.w) X.A (execs body X.env)
    (fun fl s' => ∃ (u : Value) (v : V) (σ' : L2.St) (H' : Hp) (vx : V), fl = .ret u ∧ Inv X pins σ' H' s' ∧ RelV v u ∧ σ'[i]? = some (some vx) ∧ ∀ u', RelV vx u' → H' cc = none → Q v (upd H' cc (CellO cc u'))) X.xe s
def sRetC (j i c : Nat) (m : M (List PV)) : S := fun en p => match en.sl[i]? with
  | some (some y) => match m en p with
    | .ok [B, Sp] p1 => .ret (.own p1.length) (p1 ++ [.obj c [.clo j y, B, Sp, .own (p1.length + 1)], .dk []])
    | _ => .stuck
  | _ => .stuck
theorem SimP.recell {Γ : Cfg} {L : Lv} {w : Wd} {p q : Pool} {H : Hp} (S : SimP Γ L w p H) (hl : q.length = p.length) (h : ∀ (k : Nat) (c : Cell) (a : Addr), q[k]? = some c → w.ρ[k]? = some a → p[k]? = some c ∨ CellR Γ (w.low (L.lo k)) H c a) : SimP Γ L w q H :=
  ⟨S.sub, by rw [hl]; exact S.len, S.nd, by rw [hl]; exact S.hb, S.hlo, fun k m e => by rw [hl]; exact S.hm k m e, fun k c a h1 h2 => (h k c a h1 h2).elim (fun e => S.cell k c a e h2) id, S.nt, S.tb⟩
section
variable {X : Cx} {C : Cn}
theorem pz_ret {Ld : LamD} {cc : Addr} {j i c : Nat} {m : M (List PV)} {e : Expr} {pos : Pos} (hL : C.Γ.lam j = some Ld) (he : PE X e (tMkC C Ld cc c m)) : PZs X cc i [.Return (some e) pos] (wS C (sRetC j i c m)) := by
  refine ⟨fun pins s σ H Q I ⟨L, w, p, en, S, E, h⟩ => ?_⟩
  unfold sRetC at h
  cases e1 : en.sl[i]? with
  | none =>
    rw [e1] at h
    exact h.elim
  | some o =>
    cases o with
    | none =>
      rw [e1] at h
      exact h.elim
    | some y =>
      obtain ⟨vx, hσ, ry⟩ := E.val i y e1
      rw [e1] at h
      dsimp only at h
      cases e2 : m en p with
      | ok xs p1 =>
        match xs, e2 with
        | [B, Sp], e2 =>
          rw [e2] at h
          have h : PostS C L w (rtO Q) (.ret (.own p1.length) (p1 ++ [.obj c [.clo j y, B, Sp, .own (p1.length + 1)], .dk []])) := h
          refine wpAny_execs_cons (wpAny_Return_some (thn (he.run pins s σ H (fun v H' => ∀ u', RelV vx u' → H' cc = none → Q v (upd H' cc (CellO cc u'))) I ⟨L, w, p, en, S, E, B, Sp, p1, e2, fun w' H' v f c' hb1 l S' gf gc rv u' ru hn => ?_⟩) fun u s1 ⟨v, H', I', rv, q⟩ => ⟨u, v, σ, H', vx, rfl, I', rv, hσ, q⟩))
          have S2 := S'.new (o := CellO cc u') hn (by intro _ z; cases z)
          have l2 : w'.le (w'.add cc (CellO cc u')) := ⟨fun a o ea => by
            show upd w'.G cc (CellO cc u') a = some o
            rw [upd_ne (fun z => by rw [z, S'.free hn] at ea; cases ea)]
            exact ea, List.prefix_refl _⟩
          refine h _ _ v (l.trans l2) (S2.recell (by simp) fun k ce a hk ha => ?_) (rv.mono l2)
          by_cases ek : k = p1.length
          · subst ek
            have hk : some (Cell.obj c [.clo j y, B, Sp, .own (p1.length + 1)]) = some ce := by
              rw [← hk]
              simp
            cases hk
            have x := S2.cell p1.length (.obj c [.adr f, B, Sp, .own (p1.length + 1)]) a (by simp) ha
            obtain ⟨g, dx, vs, e, ed, gd, n, r⟩ := x
            obtain ⟨v0, r1, ev, ra, rr⟩ := r
            obtain ⟨ef, _⟩ := ra
            refine .inr ⟨g, dx, vs, e, ed, gd, n, v0, r1, ev, ?_, rr⟩
            rw [S'.hlo _ hb1]
            exact ⟨Ld, f, cc, c', u', vx, ef, hL, l2.1 _ _ gf, l2.1 _ _ gc, upd_same, ru, ry.mono (l.trans l2)⟩
          · refine .inl ?_
            rcases Nat.lt_or_ge k p1.length with lt | ge
            · rw [List.getElem?_append_left lt] at hk ⊢
              exact hk
            · have ek2 : k = p1.length + 1 ∨ p1.length + 2 ≤ k := by omega
              rcases ek2 with rfl | ek2
              · simpa using hk
              · rw [List.getElem?_eq_none (by simp; omega)] at hk
                cases hk
        | [], e2 => rw [e2] at h; exact h.elim
        | [_], e2 => rw [e2] at h; exact h.elim
        | _ :: _ :: _ :: _, e2 => rw [e2] at h; exact h.elim
      | exc c v q =>
        rw [e2] at h
        exact h.elim
      | stuck =>
        rw [e2] at h
        exact h.elim
end
end R
namespace R
open PySem PySem.Spec PyProof.Rows L2
def fnK (N : Nat) (body : R.S) : Nat → FnM := fun b xs p => match body ⟨b, xs.map some ++ List.replicate (N - xs.length) none⟩ p with
  | .ret x q => .ok x q
  | _ => .stuck
theorem fn_retK {Γ : Cfg} {L : Lv} {w : Wd} {p : Pool} {N : Nat} {body : R.S} {xs : List PV} {Q : VK} {E : XK} (h : PostF Γ L w (fnK N body L.b xs p) Q E) :
    PostS ⟨Γ, fun cls d _ H => E cls d H⟩ L w (rtO Q) (body ⟨L.b, xs.map some ++ List.replicate (N - xs.length) none⟩ p) := by
  unfold fnK at h
  cases e : body ⟨L.b, xs.map some ++ List.replicate (N - xs.length) none⟩ p with
  | ret x q =>
    rw [e] at h
    exact h
  | _ =>
    rw [e] at h
    exact h.elim
theorem ce_cell {outer : List Env} {P : Program} {w : World} {H H' : Hp} {s s' : Shared} {Q : VK} {u : Value} {v : V} {cc : Addr} {uc : Value} (os : s'.os = s.os) (bare : AllBare s'.gens) (un : Un (frs outer) [] H H' s.heap s'.heap) (hok : HOk P w H' s'.heap) (rv : RelV v u)
    (hc : H' cc = none) (hn : s.heap.objs.size ≤ cc) (hv : s'.heap.IsCell cc (some uc)) (q : Q v (upd H' cc (CellO cc uc))) : CE outer P w H s Q u s' := by
  have ext : ∀ b o, H' b = some o → upd H' cc (CellO cc uc) b = some o := fun b o e => by
    rw [upd_ne (ne_of_none e hc)]
    exact e
  refine ⟨v, _, os, bare, ⟨un.keep, un.slot, fun b o e n hx => ?_, un.there, fun b xs e => ext _ _ (un.tups b xs e), fun b o u e => ext _ _ (un.frzs b o u e), fun b qs e => ?_⟩, fun b o (e : upd H' cc (CellO cc uc) b = some o) => ?_, rv, q⟩
  · show upd H' cc (CellO cc uc) b = none
    rw [upd_ne fun z => by
      rw [z] at e
      exact absurd (Nat.lt_of_lt_of_le (Heap.lt_size e) hn) (Nat.lt_irrefl _)]
    exact un.free b o e n hx
  · obtain ⟨more, e2⟩ := un.tbls b qs e
    exact ⟨more, ext _ _ e2⟩
  · by_cases hb : b = cc
    · rw [hb, upd_same] at e
      cases e
      rw [hb]
      refine ⟨hv, ?_, fun h1 h2 ⟨o, z1, z2⟩ st => ⟨o, st _ z1, z2⟩⟩
      obtain ⟨o, z1, _⟩ := hv
      exact ⟨o, z1⟩
    · rw [upd_ne hb] at e
      exact (hok b o e).stay (fun d v _ z => z) (fun d z => ext _ _ z) fun d xs z => ext _ _ z
section
variable {P : Program} {w0 : World} {K : PySem.W.Frag} {mg : Str → Option Value} {base : Heap}
theorem ok_fnK {Γ : Cfg} {x qual : Str} {st : Stmt} {dvs : List V} {kws : List (Str × V)} {f : Addr} {fd : FuncData} {N ps : List Str} {k n i : Nat} {y : Str} (F : FunD K x qual (defArgs st) (defBody st) (defScope st) dvs kws f fd) (S : FnScope N ps (defScope st)) (hn : ps.length = n) (body : R.S)
    (hi : N[i]? = some y) (hy : (defScope st).names.lookup y = some .cell)
    (hb : ∀ (A : Around) (outer : List Env) (s : Shared) (H : Hp) (E : XK) (cc : Addr), Room k (A.deeper (PyProof.Rows.envOfC qual (defScope st) s.heap.objs.size f fd.code)) → (cellsFrom (s.heap.objs.size + 1) (defScope st).names []).lookup y = some cc →
      PZs (cxOf (L2.CX P w0) P w0 K mg base N qual (defScope st) f fd.code A outer s H E) cc i (defBody st) (wS ⟨Γ, fun cls d _ H => E cls d H⟩ body)) : FnOk P w0 K mg base (L2.CX P w0) (k + 1) f fd ps (spS Γ n (fnK N.length body)) := by
  obtain ⟨oc, od, dV, kV, doc, pm, an, cdv, ct, osl, rfl, lk, hcd, _, _⟩ := F.ex
  refine ⟨fun vs H Q E h => h.1.trans hn.symm, fun A outer s H args us vs Q E hr e0 hbt r hsp => ?_⟩
  obtain ⟨hl, L, w, p, xs, S', r', h⟩ := hsp
  have hl := hl.trans hn.symm
  have KX : K.In s.heap := e0.mod.kin.keeps fun b o e => (e0.bs b o e).1
  have lim : s.heap.NoLimit := e0.mod.nolimit.keeps fun b o e => (e0.bs b o e).1
  refine codeAny_call_function hr.depth (KX _ _ lk) rfl S.co S.gen rfl (PySem.W.codeRec_of KX hcd) (hbt _ _ _ _ ?_)
  refine wpAny_newFunctionEnv_cells S.kind (fun z hz => ?_) fun env he s1 x => ?_
  · obtain ⟨z1, z2⟩ := z
    rcases S.par z1 (List.of_mem_zip hz).1 with q | q
    · exact .inl q
    · exact .inr ⟨q, PySem.W.cellsFrom_some _ _ _ (.inl q)⟩
  subst he
  refine ⟨lim.keeps x.toInCall.keep, codeAny_func ?_⟩
  obtain ⟨cc, hcc⟩ := Option.isSome_iff_exists.mp (show ((cellsFrom (s.heap.objs.size + 1) (defScope st).names []).lookup y).isSome = true from PySem.W.cellsFrom_some _ _ _ (.inl hy))
  have hz := hb A outer s H E cc (hr.deeper _) hcc
  have I := inv_start (CX := L2.CX P w0) (E := E) S hr.hd e0 hl r x
  refine wpAny_mono (hz.run [] s1 (start N vs) H Q I ⟨L, w, p, ⟨L.b, xs.map some ++ List.replicate (N.length - xs.length) none⟩, S', EnR.start (L := L) r', fn_retK h⟩) (fun fl s' hs => ?_) fun e s' hs => hs
  obtain ⟨u, v, σ', H', vx, rfl, J, rv, hσ, q⟩ := hs
  obtain ⟨m, hns, hlk⟩ := J.loc
  obtain ⟨u', ru, look⟩ := hlk i y vx hi hσ (.inr (.inl hy))
  have fr := J.freeC y cc hcc
  rcases look with ⟨k1, _⟩ | ⟨_, c2, e2, hcell⟩
  · have k1 : (defScope st).names.lookup y = some .local := k1
    rw [hy] at k1
    cases k1
  · have e2 : (cellsFrom (s.heap.objs.size + 1) (defScope st).names []).lookup y = some c2 := e2
    rw [hcc] at e2
    cases e2
    exact ce_cell J.os J.bare J.base J.hok rv fr (Nat.le_of_lt (x.above y cc (PySem.mem_of_lookup hcc))) hcell (q u' ru fr)
end
end R
namespace R
open PySem PySem.Spec PyProof.Rows L2
def mClo (t : Nat → Option FnM) (c fi : Nat) (mo ma : M PV) : M PV := fun en p => match mo en p with
  | .ok (.own k) p1 => match p1[k]? with
    | some (.obj d xs) => if d = c then match xs[fi]? with
      | some (.clo j y) => match t j with
        | some g => match ma en p1 with
          | .ok z p2 => match g [y, z] p2 with
            | .ok v p3 => .ok v p3
            | _ => .stuck
          | _ => .stuck
        | none => .stuck
      | _ => .stuck
      else .stuck
    | _ => .stuck
  | _ => .stuck
section
variable {X : Cx} {C : Cn} {pos apos : Pos}
structure CloT (X : Cx) (C : Cn) (t : Nat → Option FnM) : Prop where
  all : ∀ (j : Nat) (g : FnM), t j = some g → ∃ (Ld : LamD) (k : Nat) (gf : Addr) (fd : FuncData) (ps : List Str), C.Γ.lam j = some Ld ∧ Ld.Ok ∧ FnOk X.prog X.w X.K X.mg X.base (L2.CX X.prog X.w) k gf fd ps (spM C.Γ 2 g) ∧ Room (k + 1) X.A ∧
    X.mg Ld.g = some (.ref gf) ∧ PySem.W.keepIn X.K (.ref gf) = true ∧ Binds X.K fd ps []
theorem re_clo {t : Nat → Option FnM} {c fi : Nat} {m : Str} {o e : Expr} {mo ma : M PV} {pl : Sem Bool} (hK : X.K = C.Γ.K) (T : ClsF C.Γ.K C.Γ c) (hf : (C.Γ.fld c)[fi]? = some m) (hT : CloT X C t) (ho : RE X C o mo) (ha : RE X C e ma)
    (hst : starEach [e] X.env = (false, eval e X.env) :: starEach [] X.env := by rfl) (hpl : (backTo pos (starEach [] X.env)).any (·.1) = false := by rfl)
    (ht : eval (.Call (.Attribute o m apos) [e] [] pos) X.env = (do
      let ov ← eval o X.env
      standAt apos.atName
      let (f, first) ← holding [ov] (getMethod ov m pl)
      callWith pos f first (backTo pos (starEach [e] X.env)) (backToKw pos (keywordEach [] X.env))) := by rfl) :
    RE X C (.Call (.Attribute o m apos) [e] [] pos) (mClo t c fi mo ma) := by
  refine ⟨fun pins s σ H Q I ⟨L, w, p, en, S, E, h⟩ => ?_⟩
  unfold mClo at h
  split at h
  · rename_i k p1 e1
    split at h
    · rename_i d xs ep
      by_cases hd : d = c
      · subst hd
        rw [if_pos rfl] at h
        split at h
        · rename_i j y ex
          split at h
          · rename_i g eg
            split at h
            · rename_i z p2 e2
              split at h
              · rename_i v p3 e3
                obtain ⟨Ld, kk, gf, fd, ps, hL, ok, F, hr, hm, hkp, hb⟩ := hT.all j g eg
                have hc : Cls X.K (C.Γ.cls d) := hK ▸ T.cls
                have hn : NoAttr X.K (C.Γ.cls d) m := hK ▸ T.no m (List.mem_of_getElem? hf)
                refine (pe_clo ok ho hc hn F hr hm hkp hb (ra_cons ha ra_nil hst).pa hst hpl ht).run pins s σ H Q I ⟨L, w, p, en, S, E, ?_⟩
                rw [e1]
                intro w1 H1 v1 l1 S1 r1
                obtain ⟨a, dx, vs, ev, hρ, g0, eH, eD, gd, hvl, rr⟩ := Rep.objH S1 r1 ep
                obtain ⟨u0, eu, ru⟩ := rr.get ex
                obtain ⟨Ld', f, cc, c', uc, vx, ef, hL', gf1, gc1, gcc, rv, rx⟩ := ru
                rw [hL] at hL'
                cases hL'
                rw [Wd.low_G] at gf1 gc1 gcc
                have rx : Rep C.Γ w1 y vx := rx.mono (Wd.low_le w1 _)
                refine ⟨a, dx, _, f, cc, c', ev, eH, ?_, S1.sub _ _ gf1, L, w1, p1, en, S1, E.mono l1, ?_⟩
                · rw [lookup_zip T.nd hf, eu, ef]
                · have em : mCons ma mNil en p1 = .ok [z] p2 := by
                    unfold mCons
                    rw [e2]
                    rfl
                  rw [em]
                  intro w2 H2 vs2 l2 S2 r2
                  obtain ⟨vy, rfl, ry⟩ := reps1 r2
                  refine ⟨uc, vx, vy, rfl, S2.sub _ _ (l2.1 _ _ gf1), S2.sub _ _ (l2.1 _ _ gc1), S2.sub _ _ (l2.1 _ _ gcc), rv, rfl, L, w2, p2, [y, z], S2, Reps.cons (rx.mono l2) (Reps.cons ry Reps.nil), ?_⟩
                  rw [e3]
                  exact fun w' H' v' l S' r' => h w' H' v' (l1.trans (l2.trans l)) S' r'
              · exact h.elim
            · exact h.elim
          · exact h.elim
        · exact h.elim
      · rw [if_neg hd] at h
        exact h.elim
    · exact h.elim
  · exact h.elim
end
end R
namespace R
open PySem PySem.Spec PyProof.Rows L2
abbrev kvK (kvs : List (Int × PV)) (vs : List V) : List (L2.Key × V) := (kvs.map fun q => (Sum.inl q.1 : L2.Key)).zip vs
def getK (kvs : List (Int × PV)) (i : Int) : Option PV := (kvs.find? fun q => decide (q.1 = i)).map (·.2)
theorem valK {Γ : Cfg} {w : Wd} (i : Int) : ∀ {kvs : List (Int × PV)} {vs : List V}, Reps Γ w (kvs.map (·.2)) vs → (∃ x v, getK kvs i = some x ∧ valV (kvK kvs vs) (.inl i) = some v ∧ Rep Γ w x v) ∨ (getK kvs i = none ∧ valV (kvK kvs vs) (.inl i) = none)
  | [], vs, _ => .inr ⟨rfl, rfl⟩
  | q :: kvs, vs, h => by
    obtain ⟨v, r, rfl, h1, h2⟩ := h
    by_cases e : q.1 = i
    · refine .inl ⟨q.2, v, ?_, ?_, h1⟩
      · unfold getK
        rw [List.find?_cons, decide_eq_true e]
        rfl
      · show valV (((Sum.inl q.1 : L2.Key), v) :: kvK kvs r) (.inl i) = some v
        exact valV_pos (by rw [e])
    · have e2 : getK (q :: kvs) i = getK kvs i := by
        unfold getK
        rw [List.find?_cons, decide_eq_false e]
      have e3 : valV (kvK (q :: kvs) (v :: r)) (.inl i) = valV (kvK kvs r) (.inl i) := valV_neg fun z => e (Sum.inl.inj z)
      rw [e2, e3]
      exact valK i h2
section
variable {Γ : Cfg} {L : Lv} {w : Wd} {p : Pool} {H : Hp}
theorem Rep.ownK (S : SimP Γ L w p H) {k : Nat} {v : V} {kvs : List (Int × PV)} (r : Rep Γ w (.own k) v) (e : p[k]? = some (.dk kvs)) : ∃ a vs, v = .ref a ∧ w.ρ[k]? = some a ∧ w.G a = none ∧ H a = some (.dK (kvK kvs vs)) ∧ Reps Γ (w.low (L.lo k)) (kvs.map (·.2)) vs := by
  obtain ⟨a, ha, rfl⟩ := r
  obtain ⟨b, hb, g, vs, eH, rr⟩ := S.at e
  rw [ha] at hb
  cases hb
  rw [Wd.low_G] at g
  exact ⟨a, vs, rfl, ha, g, eH, rr⟩
end
def mDNewK : M PV := fun en p => .ok (.own p.length) (p ++ [.dk []])
def mKNotIn (ma md : M PV) : M Bool := fun en p => (ma en p).bind fun x p1 => match x with
  | .int i => (md en p1).bind fun y p2 => match y with
    | .own k => match p2[k]? with
      | some (.dk kvs) => .ok (getK kvs i).isNone p2
      | _ => .stuck
    | _ => .stuck
  | _ => .stuck
def mKGet (md ma : M PV) : M PV := fun en p => (md en p).bind fun y p1 => (ma en p1).bind fun x p2 => match y with
  | .own k => match p2[k]? with
    | some (.dk kvs) => match x with
      | .int i => match getK kvs i with
        | some z => .ok z p2
        | none => .stuck
      | _ => .stuck
    | _ => .stuck
  | _ => .stuck
def sKPut (md ma mv : M PV) : S := fun en p => (mv en p).run en fun v p1 => (md en p1).run en fun x p2 => (ma en p2).run en fun y p3 => match x with
  | .own k => match p3[k]? with
    | some (.dk kvs) => match y with
      | .int i => if may en.b k v = true ∧ kvs.length < big ∧ getK kvs i = none then .next en (p3.set k (.dk (kvs ++ [(i, v)]))) else .stuck
      | _ => .stuck
    | _ => .stuck
  | _ => .stuck
section
variable {X : Cx} {C : Cn} {pos : Pos}
theorem re_dnewKO : RE X C (.Dict [] [] pos) mDNewK := pe_dnewK.imp fun σ H Q ⟨L, w, p, en, S, E, h⟩ q hq => by
  have h : Post C L w σ (RV C) (.ok (.own p.length) (p ++ [.dk []])) Q := h
  refine h _ _ _ (w.le_cell q) (S.newCell hq ⟨S.free hq, [], upd_same, rfl⟩) ⟨q, ?_, rfl⟩
  show (w.ρ ++ [q])[p.length]? = some q
  rw [← S.len]
  simp
theorem rt_kNotIn {e d : Expr} {ma md : M PV} (hu : X.A.units + 1 < cLine) (ha : RE X C e ma) (hd : RE X C d md) (hb : behindInMarks .NotIn d = false := by rfl) :
    RT X C (.Compare e [.NotIn] [d] pos) (mKNotIn ma md) := by
  refine (pt_cmp (pc_dnotin hu ha hd) hb).imp fun σ H Q ⟨L, w, p, en, S, E, h⟩ => ?_
  refine ⟨L, w, p, en, S, E, h.bind fun x p1 w1 H1 v l1 S1 r1 h1 => ?_⟩
  split at h1
  · rename_i i
    obtain rfl : v = .int i := r1
    refine ⟨L, w1, p1, en, S1, E.mono l1, h1.bind fun y p2 w2 H2 v2 l2 S2 r2 h2 => ?_⟩
    split at h2
    · rename_i k
      split at h2
      · rename_i kvs ek
        obtain ⟨b, vs, rfl, _, _, eH, rv⟩ := Rep.ownK S2 r2 ek
        refine ⟨b, _, rfl, DGet.k (k := .inl i) eH, ?_⟩
        rcases valK i rv with ⟨x, v, e1, e2, _⟩ | ⟨e1, e2⟩
        · rw [e1] at h2
          rw [e2]
          exact ⟨_, rfl, h2.ok S2 rfl⟩
        · rw [e1] at h2
          rw [e2]
          exact ⟨_, rfl, h2.ok S2 rfl⟩
      · exact h2.elim
    · exact h2.elim
  · exact h1.elim
theorem re_kGet {o e : Expr} {md ma : M PV} (hu : X.A.units + 1 < cLine) (hd : RE X C o md) (ha : RE X C e ma) (hs : NoSl e) : RE X C (.Subscript o e pos) (mKGet md ma) := by
  refine (pe_dget hu hd ha hs).imp fun σ H Q ⟨L, w, p, en, S, E, h⟩ => ?_
  refine ⟨L, w, p, en, S, E, h.bind fun y p1 w1 H1 v l1 S1 r1 h1 => ?_⟩
  refine ⟨L, w1, p1, en, S1, E.mono l1, h1.bind fun x p2 w2 H2 v2 l2 S2 r2 h2 => ?_⟩
  split at h2
  · rename_i k
    split at h2
    · rename_i kvs ek
      split at h2
      · rename_i i
        split at h2
        · rename_i z ez
          obtain rfl : v2 = .int i := r2
          obtain ⟨b, vs, rfl, _, _, eH, rv⟩ := Rep.ownK S2 (r1.mono l2) ek
          rcases valK i rv with ⟨x, v, e1, e2, rx⟩ | ⟨e1, e2⟩
          · rw [ez] at e1
            cases e1
            refine ⟨b, v, rfl, ?_, h2.ok S2 (rx.mono (Wd.low_le w2 _))⟩
            rw [← e2]
            exact DGet.k (k := .inl i) eH
          · rw [ez] at e1
            cases e1
        · exact h2.elim
      · exact h2.elim
    · exact h2.elim
  · exact h2.elim
theorem rs_kPut {o e value : Expr} {md ma mv : M PV} {pos' : Pos} (hu : X.A.units + 1 < cLine) (hd : RE X C o md) (ha : RE X C e ma) (hv : RE X C value mv) (hs : swapsWith value (some (.Subscript o e pos')) pos.line X.env = pure false := by rfl) :
    RS X C (.Assign [.Subscript o e pos'] value pos) (sKPut md ma mv) := by
  refine (ps_dput hu hd ha hv hs).imp fun D σ H ⟨L, w, p, en, S, E, h⟩ => ?_
  refine ⟨L, w, p, en, S, E, h.run E fun v p1 w1 H1 u l1 S1 r1 h1 => ?_⟩
  refine ⟨L, w1, p1, en, S1, E.mono l1, h1.run (E.mono l1) fun x p2 w2 H2 u2 l2 S2 r2 h2 => ?_⟩
  refine ⟨L, w2, p2, en, S2, (E.mono l1).mono l2, h2.run ((E.mono l1).mono l2) fun y p3 w3 H3 u3 l3 S3 r3 h3 => ?_⟩
  split at h3
  · rename_i k
    split at h3
    · rename_i kvs ek
      split at h3
      · rename_i i
        split at h3
        · rename_i hc
          obtain ⟨hmay, hlt, hno⟩ := hc
          obtain rfl : u3 = .int i := r3
          obtain ⟨b, vs, rfl, hb, g, eH, rv⟩ := Rep.ownK S3 (r2.mono l3) ek
          have hlen : kvs.length = vs.length := by
            have := rv.length
            rw [List.length_map] at this
            exact this
          have nv : valV (kvK kvs vs) (.inl i) = none := by
            rcases valK i rv with ⟨x, v, e1, _⟩ | ⟨_, e2⟩
            · rw [hno] at e1
              cases e1
            · exact e2
          have kl : (kvK kvs vs).length < sizeLine := by
            rw [List.length_zip, List.length_map]
            exact Nat.lt_of_le_of_lt (Nat.min_le_left _ _) (big_lt hlt)
          refine ⟨b, _, rfl, DPut.k (k := .inl i) eH kl, ?_⟩
          have es : kvK kvs vs ++ [((Sum.inl i : L2.Key), u)] = kvK (kvs ++ [(i, v)]) (vs ++ [u]) := by
            unfold kvK
            rw [List.map_append, List.zip_append (by rw [List.length_map]; exact hlen)]
            rfl
          rw [putK_new u nv, es]
          rw [E.b] at hmay
          have rnew : Reps C.Γ (w3.low (L.lo k)) ((kvs ++ [(i, v)]).map (·.2)) (vs ++ [u]) := by
            rw [List.map_append]
            exact Reps.append rv (Reps.cons (may_rep S3 ((r1.mono l2).mono l3) hmay) Reps.nil)
          exact h3 _ _ σ (Wd.le.refl _) (S3.write hb g ⟨by rw [Wd.low_G]; exact g, _, upd_same, rnew⟩) (((E.mono l1).mono l2).mono l3)
        · exact h3.elim
      · exact h3.elim
    · exact h3.elim
  · exact h3.elim
end
end R
namespace R
open PySem PySem.Spec PyProof.Rows L2
section
variable {X : Cx} {C : Cn} {pos : Pos}
theorem re_callS {k n : Nat} {f : Addr} {fd : FuncData} {ps : List Str} {g : Nat → FnM} {x : Str} {p : Pos} {e : Expr} {es : List Expr} {ma : M (List PV)} (F : FnOk X.prog X.w X.K X.mg X.base (L2.CX X.prog X.w) k f fd ps (spS C.Γ n g)) (hr : Room k X.A) (hg : Gl X x) (hm : X.mg x = some (.ref f)) (hk : PySem.W.keepIn X.K (.ref f) = true)
    (hb : Binds X.K fd ps []) (tk : Takes X C.W) (ha : RA X C (e :: es) ma) (hl : es.length + 1 = n) (hdb : (x == ("__debug__" : Str)) = false := by decide) (he : starEach (e :: es) X.env = (false, eval e X.env) :: starEach es X.env := by rfl) (hpl : (backTo pos (starEach es X.env)).any (·.1) = false := by rfl) :
    RE X C (.Call (.Name x p) (e :: es) [] pos) (mMkS g ma) :=
  (pe_call (E := fun _ _ _ => False) F hr hg hm hk hb .nil (passes_call tk fun _ _ _ _ z => z.elim) ha.pa hdb he hpl).imp fun σ H Q ⟨L, w, p, en, S, E, h⟩ => by
    refine ⟨L, w, p, en, S, E, ?_⟩
    have eb : en.b = L.b := E.b
    unfold mMkS at h
    rw [eb] at h
    cases ea : ma en p with
    | exc e v p2 =>
      rw [ea] at h
      exact h
    | stuck =>
      rw [ea] at h
      exact h.elim
    | ok xs p1 =>
      rw [ea] at h
      have h : Post C L w σ (RV C) (match g L.b xs p1 with | .ok y p2 => .ok y p2 | _ => .stuck) Q := h
      intro w1 H1 vs l1 S1 r1
      have hxl := ha.len _ _ _ _ ea
      refine ⟨?_, L, w1, p1, xs, S1, by rw [List.append_nil]; exact r1, ?_⟩
      · rw [List.append_nil, ← Reps.length r1, hxl, List.length_cons, hl]
      · cases eg : g L.b xs p1 with
        | ok y p2 =>
          rw [eg] at h
          exact fun w' H' v l S' r' => h w' H' v (l1.trans l) S' r'
        | _ =>
          rw [eg] at h
          exact h.elim
end
end R
namespace R
open PySem PySem.Spec PyProof.Rows L2
theorem clo_eq (cells : List (Str × Addr)) : ∀ (names : List (Str × NameKind)) (acc : List (Str × Addr)), cloFrom cells names acc = ((names.filter fun y => y.2 == .free).map fun y => (y.1, (cells.lookup y.1).getD 0)).reverse ++ acc
  | [], acc => rfl
  | (n, k) :: r, acc => by
    unfold cloFrom
    rw [List.filter_cons]
    by_cases h : (k == .free) = true
    · rw [if_pos h, if_pos h, clo_eq cells r, List.map_cons, List.reverse_cons, List.append_assoc]
      rfl
    · rw [if_neg h, if_neg h, clo_eq cells r]
theorem clo1 {cells : List (Str × Addr)} {names : List (Str × NameKind)} {x : Str} {cc : Addr} (hn : (names.filter fun y => y.2 == .free) = [(x, .free)]) (hc : cells.lookup x = some cc) : cloFrom cells names [] = [(x, cc)] := by
  rw [clo_eq, hn]
  show [(x, (cells.lookup x).getD 0)] = _
  rw [hc]
  rfl
theorem free1 {cells : List (Str × Addr)} {names : List (Str × NameKind)} {x : Str} {cc : Addr} (hn : (names.filter fun y => y.2 == .free) = [(x, .free)]) (hc : cells.lookup x = some cc) : ∀ y ∈ names, y.2 = .free → ∃ c, cells.lookup y.1 = some c := fun y hy e => by
  have : y ∈ names.filter fun y => y.2 == .free := List.mem_filter.mpr ⟨hy, by rw [e]; rfl⟩
  rw [hn, List.mem_singleton] at this
  exact ⟨cc, by rw [this]; exact hc⟩
def lamOf (q : Str) : Expr → LamD
  | .Call _ (.Lambda params (.Call (.Name g p1) [.Name x p2, .Name y p3] [] p4) scope _ :: _) _ _ => ⟨q, params, scope, g, x, y, p1, p2, p3, p4⟩
  | _ => ⟨q, ⟨[], [], none, [], [], none, []⟩, { kind := .function, names := [], isGenerator := false, isCoroutine := false }, q, q, q, ⟨0, 0, 0, 0⟩, ⟨0, 0, 0, 0⟩, ⟨0, 0, 0, 0⟩, ⟨0, 0, 0, 0⟩⟩
def lastE (l : List Stmt) : Expr := match l.getLast? with
  | some (.Return (some e) _) => e
  | _ => .Name Str.empty ⟨0, 0, 0, 0⟩
section
variable {X : Cx} {C : Cn}
theorem pz_clo {Ld : LamD} {c0 P cc : Addr} {lpos pos rpos pD : Pos} {k c i j : Nat} {fi : Addr} {fd : FuncData} {ps : List Str} {g : Nat → FnM} {x : Str} {e2 e3 : Expr} {m : M (List PV)} (hL : C.Γ.lam j = some Ld) (hn : (Ld.scope.names.filter fun y => y.2 == .free) = [(Ld.x, .free)]) (hcc : X.env.cells.lookup Ld.x = some cc)
    (TB : LamX.TabB X.base X.mg c0 P) (hcode : X.env.code = .ref c0) (hq : X.env.qual ++ "<lambda>" = Ld.q) (hm : (P, Ld.q) ∈ C.Γ.tabs) (hu : ∀ p ∈ C.Γ.tabs, p.1 = P → p.2 = Ld.q)
    (hdef : defaultsOf Ld.params X.env = ([], [])) (M : Mk X.K (C.Γ.cls c) fi) (F : FnOk X.prog X.w X.K X.mg X.base (L2.CX X.prog X.w) k fi fd ps (spIS C.Γ c 4 g)) (hr : Room (k + 1) X.A) (hg : Gl X x) (hmx : X.mg x = some (.ref (C.Γ.cls c))) (hb : Binds X.K fd ps []) (tk : Takes X C.W) (ra : RA X C [e2, e3] m)
    (hini : ∀ (b : Nat) (y B S : PV) (p : Pool), b ≤ p.length → g b [y, B, S] p = .ok (.own p.length) (p ++ [.obj c [y, B, S, .own (p.length + 1)], .dk []]))
    (hdb : (x == ("__debug__" : Str)) = false := by decide)
    (hs1 : starEach (.Lambda Ld.params Ld.body Ld.scope lpos :: [e2, e3]) X.env = (false, eval (.Lambda Ld.params Ld.body Ld.scope lpos) X.env) :: starEach [e2, e3] X.env := by rfl) (hpl : (backTo pos (starEach [e2, e3] X.env)).any (·.1) = false := by rfl) :
    PZs X cc i [.Return (some (.Call (.Name x pD) [.Lambda Ld.params Ld.body Ld.scope lpos, e2, e3] [] pos)) rpos] (wS C (sRetC j i c m)) :=
  pz_ret hL (pe_mkC TB hcode hq hm hu hdef (free1 hn hcc) (clo1 hn hcc) M F hr hg hmx hb tk ra hini hdb hs1 hpl)
end
end R
namespace R
open PySem PySem.Spec PyProof.Rows L2
section
variable {P : Program} {w : World} {A : Around} {E : Value → Shared → Prop} {s : Shared}
def setOb (w : World) : Obj := { cls := .type "set", dict := none, data := .set #[] 0 (.fresh 0 0 (!w.params.followText "set-order")) }
set_option maxRecDepth 100000 in
set_option maxHeartbeats 3200000 in
theorem call_set_lstI {l : Addr} {items : Array Value} (ns : List Int) {Q : Value → Shared → Prop} (hh : A.handled = none) (hl : s.heap.IsList l items) (hit : IntsAre items.toList ns) (hb : ns.length + 1 < scanBound)
    (h : ∀ (h' : Heap) (tk c : Nat), SetR w h' s.heap.objs.size (fun j => decide (j ∈ ns)) c → c ≤ ns.length → (∀ b o, s.heap.get? b = some o → h'.get? b = some o) → Q (.ref s.heap.objs.size) { s with heap := h', toks := tk }) :
    wpAny (model P w) A (call (.type "set") [.ref l]) Q E s := by
  have hisz : items.size = ns.length := by
    have q := IntsAre.length hit
    rw [Array.length_toList] at q
    exact q
  obtain ⟨c, tl, hmro⟩ := F.called_set.mro
  have hmade := F.called_set.made
  have hsub := F.called_set.sub
  refine wpAny_call (codeAny_of_tree ?_)
  show wpAny _ _ (callAny (.type "set") _) _ _ _
  refine wpAny_pure ⟨Code.quiet_builtin _ (by decide +kernel), codeAny_builtin F.entry_type_call ?_⟩
  rw [Around.under_plain (weight_type_call_type "set" [.ref l] []) rfl]
  have h1 := F.called_set.notType
  have h2 := F.called_set.canCreate
  have hct := F.typeCall_set_1 (.ref l)
  repeat (any_goals (first | assumption | wp_step))
  refine codeAny_mono (code_set_led1 (.ref l) (E := E) (Q₁ := fun obj s₁ => obj = .ref s.heap.objs.size ∧ s₁ = { s with heap := s.heap.push (setOb w) }) ⟨rfl, rfl⟩) fun r s₁ hr => ?_
  cases r with
  | error e => exact hr
  | ok fl =>
    cases fl with
    | ret obj =>
      obtain ⟨rfl, rfl⟩ := hr
      have hS : (s.heap.push (setOb w)).get? s.heap.objs.size = some (setOb w) := Heap.get?_push_size _ rfl
      have hT : Shared.TypeIs { s with heap := s.heap.push (setOb w) } (.ref s.heap.objs.size) "set" := ⟨_, hS, rfl⟩
      have hli := F.called_set.init.lookup
      have hbi := F.called_set.init.bind (.ref s.heap.objs.size)
      repeat (any_goals (first | assumption | wp_step))
      refine codeAny_mono (codeAny_call_builtin (R := wants (fun r s₂ => r = .none ∧ ∃ h' tk c, s₂ = { s with heap := h', toks := tk } ∧ SetR w h' s.heap.objs.size (fun j => decide (j ∈ ns)) c ∧ c ≤ ns.length ∧
          (∀ b o, s.heap.get? b = some o → h'.get? b = some o)) E) F.called_set.init.plain F.entry_set_init (check_set_init_1 hT ?_)) fun r₂ s₂ hr₂ => ?_
      · obtain ⟨ol, hol, hcl, nl, hdl⟩ := hl
        obtain ⟨ocls, odict, odata, oslots⟩ := ol
        simp only at hcl hdl
        subst hcl
        subst hdl
        have hol' : (s.heap.push (setOb w)).get? l = some { cls := .type "list", dict := odict, data := .seq items nl, slots := oslots } := Heap.get?_push_of_some _ hol
        have hsls := F.sub_list_set
        have hslf := F.sub_list_frozenset
        have hne : (Value.type "list" == Value.type "dict") = false := by decide
        have hl1 : (s.heap.push (setOb w)).IsList l items := ⟨_, hol', rfl, nl, rfl⟩
        unfold Builtin.«set.__init__» noKeywords Builtin.Frozenset.updateFrom
        generalize hPI : pyIter = PI
        wp_walk
        subst hPI
        refine wpAny_pyIter_list hl1 ?_
        refine wpAny_bind (wpAny_runValue ?_)
        have hlS : l < s.heap.objs.size := Heap.lt_size hol
        have hh3 : A.in1.in1.in1.handled = none := by simp [hh]
        have hneI : l ≠ (s.heap.push (setOb w)).objs.size := by
          rw [Heap.size_push]
          exact Nat.ne_of_lt (Nat.lt_succ_of_lt hlS)
        have hSf : s.heap.objs.size ∉ [(s.heap.push (setOb w)).objs.size, l] := by
          rw [Heap.size_push]
          simp only [List.mem_cons, List.mem_singleton, List.not_mem_nil, or_false, not_or]
          exact ⟨Nat.ne_of_lt (Nat.lt_succ_self _), Nat.ne_of_gt hlS⟩
        have hval : ∀ (i : Nat) (v : Value), items[i]? = some v → ∃ k t, ns[i]? = some k ∧ v = .int k t := fun i v hv => by
          have hi : i < ns.length := by rw [← hisz]; exact (Array.getElem?_eq_some_iff.mp hv).1
          obtain ⟨t, e⟩ := PyProof.Rows.IntsAre.int_at hit i v (by rw [Array.getElem?_toList]; exact hv)
          refine ⟨ns[i], t, List.getElem?_eq_getElem hi, ?_⟩
          rw [e, List.getD_eq_getElem?_getD, List.getElem?_eq_getElem hi] <;> rfl
        refine set_update_ints ((Walks.list hh3 _ l hneI items).toS) s.heap.objs.size hSf ns hisz hb hval (items.size - 0) 0 _ (by omega) (Nat.zero_le _)
          ⟨⟨_, Heap.get?_push_size _ rfl, rfl, rfl⟩, (hl1.push _)⟩ ?hS0 ?hR
        case hS0 => exact ⟨0, Nat.le_refl 0, setR_new_at (Heap.get?_push_of_some _ hS)⟩
        case hR =>
          intro s' c' hm hc' hS'
          obtain ⟨h', g2, d', tk', os'⟩ := s'
          have eg : g2 = s.gens := hm.gens
          have ed : d' = s.drawn := hm.drawn
          have eo : os' = s.os := hm.os
          subst eg
          subst ed
          subst eo
          show wpAny _ _ _ _ _ _
          refine wpAny_pure ?_
          show wpAny _ _ (ret Value.none) _ _ _
          rw [hisz] at hc'
          refine wpAny_pure ⟨rfl, h', tk', c', rfl, hS', hc', fun b o e => ?_⟩
          have hb0 : b < s.heap.objs.size := Heap.lt_size e
          have hb1 : b ≠ s.heap.objs.size := Nat.ne_of_lt hb0
          have hb2 : b ≠ (s.heap.push (setOb w)).objs.size := by
            rw [Heap.size_push]
            exact Nat.ne_of_lt (Nat.lt_succ_of_lt hb0)
          exact hm.heap b o (by simp only [List.mem_cons, List.mem_singleton, List.not_mem_nil, or_false, not_or]; exact ⟨hb1, hb2⟩) (Heap.get?_push_of_some _ (Heap.get?_push_of_some _ e))
      · cases r₂ with
        | error e => exact hr₂
        | ok fl₂ =>
          cases fl₂ with
          | ret r =>
            obtain ⟨rfl, h', tk, c', rfl, hS', hc', hk'⟩ := hr₂
            repeat (any_goals (first | assumption | wp_step))
            exact h _ _ _ hS' hc' hk'
          | _ => exact hr₂.elim
    | _ => exact hr.elim
theorem sorted_setA {a : Addr} {S : Int → Bool} {n : Nat} {Q : Value → Shared → Prop} (R : SetR w s.heap a S n) (hh : A.handled = none)
    (hQ : ∀ s' p (out : Array Value) (c : Nat) (ns : List Int), (∀ b o, s.heap.get? b = some o → s'.heap.get? b = some o) → s'.gens = s.gens → s'.os = s.os → s.heap.objs.size ≤ p →
      s'.heap.get? p = some (seqObj "list" out c) → IntsAre out.toList ns → ns.Pairwise (· < ·) → (∀ k, k ∈ ns ↔ S k = true) → ns.length = n → Q (.ref p) s') :
    wpAny (model P w) A (call (.builtin "sorted") [.ref a]) Q E s := by
  obtain ⟨o, es, ep, t, ho, hex, hd, g, nd, hm, hb, hf, hn, hr, hl⟩ := R
  refine Calls.call_function_entry kind_sorted plain_sorted entry_sorted (args_sorted1 _) ?_
  unfold Builtin.«sorted»
  refine wpAny_bind (m := checkCount "sorted" 1 1 _) (wpAny_pure ?_)
  refine wpAny_bind (collect_set (A := A.in1) hh ⟨o, ho, hex.1, hd⟩ hf hb hr hl fun s1 vs k1 hz g1 o1 pm => ?_)
  have hvl : vs.length = n := by rw [pm.length_eq, List.length_map, Array.length_toList]; exact hn
  have hsl : vs.length ≤ sizeLine := by
    rw [hvl, ← hn, sizeLine_eq]
    unfold scanBound at hb
    omega
  have hI : IntsAre vs (vs.map Builtin.Re.reRawOf) := ints_of vs fun v hv => by
    obtain ⟨e, he, q⟩ := List.mem_map.mp (pm.mem_iff.mp hv)
    obtain ⟨k, tk, h1, _⟩ := g e he
    exact ⟨k, tk, by rw [← q]; exact h1⟩
  have pk : (vs.map Builtin.Re.reRawOf).Perm (es.toList.map keyOf) := by
    have q := pm.map Builtin.Re.reRawOf
    rw [List.map_map] at q
    exact q
  refine wpAny_bind (wpAny_newList ?_ hsl)
  have hoL : (s1.heap.push (seqObj "list" vs.toArray 0)).get? s1.heap.objs.size = some (seqObj "list" vs.toArray 0) := Heap.get?_push_size _ rfl
  refine wpAny_bind (wpAny_holding (wpAny_call_entry slot_list_sort ⟨_, hoL, rfl⟩ entry_list_sort (list_sort_treeAny hoL hI hsl fun out ns' a1 a2 a3 => ⟨_, rfl, ?_⟩) (args_list_sort _)))
  obtain ⟨c, hc⟩ := sortedHeap_at (vs := vs) (out := out) hoL
  have pn : ns'.Perm (es.toList.map keyOf) := a2.trans pk
  refine wpAny_pure ⟨_, rfl, hQ _ s1.heap.objs.size out c ns' (fun b u e => ?_) g1 o1 hz hc a1 (lt_of_le_nodup ns' a3 (pn.nodup_iff.mpr nd)) (fun k => by rw [pn.mem_iff, ← hm k]) ?_⟩
  · have q := k1 b u e
    have hlt := Heap.lt_size q
    show (sortedHeap (s1.heap.push (seqObj "list" vs.toArray 0)) s1.heap.objs.size vs out).get? b = some u
    rw [sortedHeap_old (Nat.ne_of_lt hlt) (by rw [size_push']; exact Nat.lt_succ_of_lt hlt)]
    exact Heap.get?_push_of_some _ q
  · rw [pn.length_eq, List.length_map, Array.length_toList]
    exact hn
end
section
variable {X : Cx} {C : Cn}
def tSortSI (K : PySem.W.Frag) (ta : TE) : TE := fun σ H Q => ta σ H fun x H1 => ∃ (l : Addr) (ns : List Int), x = .ref l ∧ SqL K H1 l (ns.map V.int) ∧ ns.length ≤ 1000 ∧ ∀ (ms : List Int) (p : Addr), ms.Pairwise (· < ·) → (∀ k, k ∈ ms ↔ k ∈ ns) → H1 p = none → Q (.ref p) (upd H1 p (.lst (ms.map V.int)))
theorem pe_sortSI {a : Expr} {ta : TE} {p p2 q pos : Pos} (hc : X.calm = true) (hg : Gl X "sorted") (hm : X.mg "sorted" = none) (hg2 : Gl X "set") (hm2 : X.mg "set" = none) (ha : PE X a ta)
    (na : starEach [a] X.env = (false, eval a X.env) :: starEach [] X.env := by rfl) : PE X (.Call (.Name "sorted" p) [.Call (.Name "set" p2) [a] [] q] [] pos) (tSortSI X.K ta) := by
  refine ⟨fun pins s σ H Q I h => ?_⟩
  refine Call_ (ld_blt I hg hm (u := .builtin "sorted") (by rfl) ?_)
  refine PyProof.Rows.callWith_builtin1 (PyProof.Rows.args_cons ?_ rfl) rfl rfl
  refine Call_ (ld_blt I hg2 hm2 PyProof.Rows.boot_set ?_)
  refine PyProof.Rows.callWith_type1 (PyProof.Rows.args_cons (thn (ha.run pins s σ H _ I h) fun v s1 ⟨x, H1, I1, r1, q1⟩ => PyProof.Rows.args_nil ?_) na) na rfl
  obtain ⟨l, ns, rfl, hl, hn, q1⟩ := q1
  cases r1
  obtain ⟨its, rv, pl, hz⟩ := I1.list hl
  refine call_set_lstI (P := X.prog) (w := X.w) ns (I1.ok.hd hc) pl.isList (by simpa using rv.ints) (by unfold scanBound; omega) fun h' tk c R hcn k => ?_
  have I2 : Inv X pins σ H1 { s1 with heap := h', toks := tk } := I1.kept k
  refine PyProof.Rows.args_nil ?_
  refine sorted_setA (s := { s1 with heap := h', toks := tk }) R (I2.ok.hd hc) fun s' p out c2 ms k g2 o hp hg hi hs hmm hl2 => ?_
  have hlen : (ms.map V.int).length ≤ sizeLine := by rw [List.length_map, hl2, sizeLine_eq]; omega
  have hn : H1 p = none := I2.hok.fresh hp
  have J : Inv X pins σ (upd H1 p (.lst (ms.map V.int))) { s1 with heap := s'.heap, gens := s'.gens, drawn := s'.drawn, toks := s'.toks } :=
    Inv.call (s := { s1 with heap := h', toks := tk }) I2 (ch := []) (Un.laid k hp hn) (I2.hok.laid k hp ⟨hlen, out.toList, c2, vals_of_ints hi, hg⟩) (by rw [g2]; exact I2.bare) (fun _ z => nomatch z)
  have e : s' = { s1 with heap := s'.heap, gens := s'.gens, drawn := s'.drawn, toks := s'.toks } := by
    cases s'
    cases s1
    cases o
    rfl
  rw [e]
  exact ⟨.ref p, _, J, rfl, q1 ms p hs (fun k => by rw [hmm k]; exact decide_eq_true_iff) hn⟩
theorem repsInts {Γ : Cfg} {w : Wd} : ∀ ns : List Int, Reps Γ w (ns.map PV.int) (ns.map V.int)
  | [] => Reps.nil
  | _ :: ns => Reps.cons rfl (repsInts ns)
def uniqI : List Int → List Int
  | [] => []
  | x :: xs => if x ∈ xs then uniqI xs else x :: uniqI xs
theorem mem_uniqI {x : Int} : ∀ {l : List Int}, x ∈ uniqI l ↔ x ∈ l
  | [] => Iff.rfl
  | y :: l => by
    unfold uniqI
    by_cases h : y ∈ l
    · rw [if_pos h, mem_uniqI (l := l)]
      refine ⟨fun k => List.mem_cons_of_mem _ k, fun k => ?_⟩
      rcases List.mem_cons.mp k with rfl | k
      · exact h
      · exact k
    · rw [if_neg h, List.mem_cons, List.mem_cons, mem_uniqI (l := l)]
theorem nodup_uniqI : ∀ l : List Int, (uniqI l).Nodup
  | [] => List.nodup_nil
  | y :: l => by
    unfold uniqI
    by_cases h : y ∈ l
    · rw [if_pos h]
      exact nodup_uniqI l
    · rw [if_neg h]
      exact List.nodup_cons.mpr ⟨fun k => h (mem_uniqI.mp k), nodup_uniqI l⟩
def sortU (ns : List Int) : List Int := (uniqI ns).mergeSort fun a b => decide (a ≤ b)
theorem sortU_up (ns : List Int) : (sortU ns).Pairwise (· < ·) := by
  refine lt_of_le_nodup _ ?_ (((List.mergeSort_perm _ _).nodup_iff).mpr (nodup_uniqI ns))
  have q := List.pairwise_mergeSort (le := fun a b : Int => decide (a ≤ b)) (fun a b c h1 h2 => by
    rw [decide_eq_true_eq] at h1 h2 ⊢
    omega) (fun a b => by
    rw [Bool.or_eq_true, decide_eq_true_eq, decide_eq_true_eq]
    omega) (uniqI ns)
  exact List.Pairwise.imp (fun h => by simpa using h) q
theorem mem_sortU {ns : List Int} {k : Int} : k ∈ sortU ns ↔ k ∈ ns := by
  unfold sortU
  rw [(List.mergeSort_perm _ _).mem_iff, mem_uniqI]
theorem up_same : ∀ {l m : List Int}, l.Pairwise (· < ·) → m.Pairwise (· < ·) → (∀ k, k ∈ l ↔ k ∈ m) → l = m := fun {l m} hl hm h => by
  refine perm_eq ((List.perm_ext_iff_of_nodup (hl.imp fun h => by omega) (hm.imp fun h => by omega)).mpr h) (hl.imp fun h => by omega) (hm.imp fun h => by omega)
def mSortSI (m : M PV) : M PV := fun en p => (m en p).bind fun x p1 => match getR p1 x with
  | some ys => match its ys with
    | some ns => if ns.length ≤ 1000 then .ok (.lst ((sortU ns).map .int)) p1 else .stuck
    | none => .stuck
  | none => .stuck
theorem re_sortSI {a : Expr} {me : M PV} {p p2 q pos : Pos} (hc : X.calm = true) (hg : Gl X "sorted") (hm : X.mg "sorted" = none) (hg2 : Gl X "set") (hm2 : X.mg "set" = none) (ha : RE X C a me) (hK : X.K = C.Γ.K := by rfl)
    (na : starEach [a] X.env = (false, eval a X.env) :: starEach [] X.env := by rfl) : RE X C (.Call (.Name "sorted" p) [.Call (.Name "set" p2) [a] [] q] [] pos) (mSortSI me) := by
  refine (pe_sortSI hc hg hm hg2 hm2 ha na).imp fun σ H Q hq => ?_
  obtain ⟨L, w, p, en, S, E, h⟩ := hq
  refine ⟨L, w, p, en, S, E, h.bind fun x p1 w1 H1 v l1 S1 r1 h1 => ?_⟩
  split at h1
  · rename_i ys ey
    split at h1
    · rename_i ns en
      by_cases hok : ns.length ≤ 1000
      · rw [if_pos hok] at h1
        obtain ⟨a, us, rfl, hq, hr2⟩ := getR_ok S1 r1 ey
        have e2 := its_ok hr2 en
        subst e2
        refine ⟨a, ns, rfl, hK ▸ hq, hok, fun ms p hs hmm hp => ?_⟩
        have e3 : ms = sortU ns := up_same hs (sortU_up ns) fun k => (hmm k).trans mem_sortU.symm
        subst e3
        exact newLst S1 (repsInts _) h1 p hp
      · rw [if_neg hok] at h1
        exact h1.elim
    · exact h1.elim
  · exact h1.elim
end
end R
namespace R
section
open PySem PySem.SeqAt PyProof.Rows
open AutoSeq1 (wpAny_loadPart')
open MeetsSeq MeetsSeq2 MeetsSeq3 SeqRoads2
open PySem.W (Looks Frag InstAt findIn isFn subIn looks_subIn ifBound_K)
variable {prog : Program} {w : World} {A : Around} {E : Value → Shared → Prop} {s : Shared} {K : Frag} {x C' f : Addr} {L : Addr} {h₀ : Heap} {m : Str → Option Value} {ox : Obj} {od : Option Obj} {av : Value}
theorem lst_declines {l : Addr} {items : Array Value} {n : Nat} (X : K.In s.heap) (I : InstAt s.heap x ox C' od) (hsub : subIn K (.ref C') (.type "list") = some false) (ho : s.heap.get? l = some { cls := .type "list", data := .seq items n })
    {Q : Value → Shared → Prop} (hq : Q .notImplemented s) : wpAny (model prog w) A (call (.builtin "list.__eq__") [.ref l, .ref x]) Q E s := by
  refine GQ.call_here F.slot_list_eq ⟨_, ho, rfl⟩ F.entry_list_eq (F.args_list_eq_2 _ _) ?_
  have hx := I.at_
  have hc := I.cls
  have f1 : ∀ {M : Model} {A : Around} {E : Value → Shared → Prop} {Q : Bool → Shared → Prop}, Q false s → wpAny M A (isSubtype (.ref C') (.type "list")) Q E s := fun q => (looks_subIn X hsub).here q
  obtain ⟨hp, g, d, tk, os⟩ := s
  wp_walk using wpAny_loadPart' ho
  rw [hc]
  refine f1 ?_
  wp_walk
  exact hq
theorem bl_declines {b : Bool} (I : InstAt s.heap x ox C' od) (hn : ∀ i t, ox.data ≠ .prim (.int i t)) {Q : Value → Shared → Prop} (hq : Q .notImplemented s) : wpAny (model prog w) A (call (.builtin "int.__eq__") [.bool b, .ref x]) Q E s := by
  refine GQ.call_here F.slot_bool_eq (show s.TypeIs (.bool b) "bool" from rfl) F.entry_int_eq (F.args_int_eq_2 _ _) ?_
  have hx := I.at_
  obtain ⟨hp, g, d, tk, os⟩ := s
  wp_walk using wpAny_loadPart' hx
  split
  · rename_i i t e
    exact absurd e (hn i t)
  · wp_walk
    exact hq
theorem str_declines {i : Str} {t : Tok} (I : InstAt s.heap x ox C' od) (hn : ∀ i t, ox.data ≠ .prim (.str i t)) {Q : Value → Shared → Prop} (hq : Q .notImplemented s) : wpAny (model prog w) A (call (.builtin "str.__eq__") [.str i t, .ref x]) Q E s := by
  refine GQ.call_here F.slot_str_eq (show s.TypeIs (.str i t) "str" from rfl) F.entry_str_eq (F.args_str_eq_2 _ _) ?_
  have hx := I.at_
  obtain ⟨hp, g, d, tk, os⟩ := s
  wp_walk using wpAny_loadPart' hx
  split
  · rename_i i t e
    exact absurd e (hn i t)
  · wp_walk
    exact hq
theorem dct_declines {l : Addr} {o : Obj} (X : K.In s.heap) (I : InstAt s.heap x ox C' od) (hsub : subIn K (.ref C') (.type "dict") = some false) (ho : s.heap.get? l = some o) (hc0 : o.cls = .type "dict")
    {Q : Value → Shared → Prop} (hq : Q .notImplemented s) : wpAny (model prog w) A (call (.builtin "dict.__eq__") [.ref l, .ref x]) Q E s := by
  refine GQ.call_here F.slot_dict_eq ⟨_, ho, hc0⟩ F.entry_dict_eq (F.args_dict_eq_2 _ _) ?_
  have hx := I.at_
  have hc := I.cls
  have f1 : ∀ {M : Model} {A : Around} {E : Value → Shared → Prop} {Q : Bool → Shared → Prop}, Q false s → wpAny M A (isSubtype (.ref C') (.type "dict")) Q E s := fun q => (looks_subIn X hsub).here q
  obtain ⟨hp, g, d, tk, os⟩ := s
  wp_walk using wpAny_loadPart' hx
  rw [hc]
  refine f1 ?_
  wp_walk
  exact hq
end
end R
namespace R
open PySem L2
open PySem.W (Looks)
def sevenT : List String := ["NoneType", "bool", "int", "str", "tuple", "list", "dict"]
def oddV : PV → Bool
  | .dct => true
  | y => plainV y
structure EqC (X : Cx) (Γ : Cfg) (k c : Nat) (o : Nat → Bool) (q : PV → PV → Option Bool) : Prop where
  ok : ∃ (f : Addr) (fd : FuncData) (ps : List Str) (g : FnM), FnOk X.prog X.w X.K X.mg X.base (L2.CX X.prog X.w) k f fd ps (spM Γ 2 g) ∧ PySem.W.findIn X.K (.ref (Γ.cls c)) "__eq__" = some (some (.ref f)) ∧ PySem.W.isFn X.K (.ref f) = true ∧ Binds X.K fd ps [] ∧
    ∀ x y b, q x y = some b → g [x, y] [] = .ok (.bl b) []
  ne : PySem.W.findIn X.K (.ref (Γ.cls c)) "__ne__" = some (some (.builtin "object.__ne__"))
  om : PySem.W.mroIn X.K (Γ.cls c) (.type "object") = some true
  nf : ∀ T, T ∈ sevenT → PySem.W.notFirst X.K (Γ.cls c) (.type T) = true
  fn : ∀ T, T ∈ sevenT → PySem.W.subIn X.K (.ref (Γ.cls c)) (.type T) = some false
  oc : ∀ d, o d = true → PySem.W.subIn X.K (.ref (Γ.cls d)) (.ref (Γ.cls c)) = some false
  qo : ∀ x y b, q x y = some b → (∃ xs, x = .obj c xs) ∧ ((∃ ys, y = .obj c ys) ∨ (∃ d ys, y = .obj d ys ∧ o d = true) ∨ oddV y = true)
section
variable {X : Cx} {Γ : Cfg}
theorem odd_ty {pins : List (Addr × Obj)} {σ : St} {s : Shared} {H : Hp} (hK : X.K = Γ.K) (I : Inv X pins σ H s) {y : PV} {vy : V} {v : Value} (hp : oddV y = true) (ry : Rep Γ (ice0 H) y vy) (rv : RelV vy v) : ∃ T, T ∈ sevenT ∧ s.TypeIs v T := by
  by_cases hd : y = .dct
  · subst hd
    obtain ⟨a, rfl, q⟩ := ry
    cases rv
    obtain ⟨_, _, vs, _, o, es, ep, ho, hx, _⟩ := I.hok a _ (noTab_sub _ _ q)
    exact ⟨"dict", by decide, o, ho, hx.1⟩
  · have hp' : plainV y = true := by
      cases y <;> first | exact hp | exact absurd rfl hd
    obtain ⟨T, hT, ht⟩ := plain_ty hK I hp' ry rv
    refine ⟨T, ?_, ht⟩
    simp only [List.mem_cons, List.not_mem_nil, or_false] at hT
    rcases hT with rfl | rfl | rfl | rfl | rfl | rfl <;> decide
theorem oth_tyC {c : Nat} {pins : List (Addr × Obj)} {σ : St} {s : Shared} {H : Hp} (hK : X.K = Γ.K) {k : Nat} {o : Nat → Bool} {q : PV → PV → Option Bool} (F : EqC X Γ k c o q) (I : Inv X pins σ H s) {y : PV} {vy : V} {v : Value} (h : (∃ ys, y = .obj c ys) ∨ (∃ d ys, y = .obj d ys ∧ o d = true) ∨ oddV y = true) (ry : Rep Γ (ice0 H) y vy) (rv : RelV vy v) :
    ∃ tb, Looks (model X.prog X.w) s.heap (typeOf v) tb ∧ PySem.W.notFirst X.K (Γ.cls c) tb = true := by
  rcases h with ⟨ys, rfl⟩ | ⟨d, ys, rfl, hd⟩ | hp
  · obtain ⟨ay, dy, us, rfl, hy, _⟩ := ry
    cases rv
    obtain ⟨od', J'⟩ := ins_ty I (noTab_sub _ _ hy)
    exact ⟨_, J'.type, by simp [PySem.W.notFirst]⟩
  · obtain ⟨ay, dy, us, rfl, hy, _⟩ := ry
    cases rv
    obtain ⟨od', J'⟩ := ins_ty I (noTab_sub _ _ hy)
    exact ⟨_, J'.type, by simp [PySem.W.notFirst, F.oc d hd]⟩
  · obtain ⟨T, hT, ht⟩ := odd_ty hK I hp ry rv
    exact ⟨.type T, looks_typeIs ht, F.nf T hT⟩
theorem rcC {k c : Nat} {o : Nat → Bool} {q : PV → PV → Option Bool} (hK : X.K = Γ.K) (F : EqC X Γ k c o q) : RcB X Γ .Eq k q := by
  intro A pins s σ H x y b vx vy u v sb I hT rx ry e ru rv
  obtain ⟨f, fd, ps, g, G, hs, hf, hb, hg⟩ := F.ok
  obtain ⟨⟨xs, rfl⟩, hy⟩ := F.qo _ _ _ e
  have rx' := rx
  obtain ⟨ax, dx, vs, rfl, hx, _⟩ := rx
  cases ru
  obtain ⟨od, J⟩ := ins_ty I (noTab_sub _ _ hx)
  obtain ⟨tb, hl, hn⟩ := oth_tyC hK F I hy ry rv
  obtain ⟨m, hF⟩ := I.fr
  refine PySem.W.cmp_K (op := .Eq) (tb := tb) sb.room.units0 hF I.ok.mod.kin J hl hn hs hf ?_
  exact eqF_call (G := G) hb (hg _ _ _ e) sb I hT rx' ry rv fun s' z => ⟨rfl, z⟩
theorem rcCN {k c : Nat} {o : Nat → Bool} {q : PV → PV → Option Bool} (hK : X.K = Γ.K) (F : EqC X Γ k c o q) : RcB X Γ .NotEq (k + 1) (fun x y => (q x y).map (!·)) := by
  intro A pins s σ H x y b vx vy u v sb I hT rx ry e ru rv
  obtain ⟨f, fd, ps, g, G, hs, hf, hb, hg⟩ := F.ok
  have e : (q x y).map (!·) = some b := e
  cases e2 : q x y with
  | none =>
    rw [e2] at e
    cases e
  | some b' =>
  rw [e2] at e
  cases e
  obtain ⟨⟨xs, rfl⟩, hy⟩ := F.qo _ _ _ e2
  have rx' := rx
  obtain ⟨ax, dx, vs, rfl, hx, _⟩ := rx
  cases ru
  obtain ⟨od, J⟩ := ins_ty I (noTab_sub _ _ hx)
  obtain ⟨tb, hl, hn⟩ := oth_tyC hK F I hy ry rv
  obtain ⟨m, hF⟩ := I.fr
  refine neq_K (tb := tb) (by have := sb.room.un; omega) hF I.ok.mod.kin J hl hn F.ne F.om hs hf ?_
  exact eqF_call (G := G) hb (hg _ _ _ e2) sb.in1 I hT rx' ry rv fun s' z => ⟨_, rfl, rfl, z⟩
def fRC (q : PV → PV → Option Bool) : PV → PV → Option Bool := fun x y => if oddV x = true then q y x else none
theorem rcCR {k c : Nat} {o : Nat → Bool} {q : PV → PV → Option Bool} (hK : X.K = Γ.K) (F : EqC X Γ k c o q) : RcB X Γ .Eq k (fRC q) := by
  intro A pins s σ H x y b vx vy u v sb I hT rx ry e ru rv
  obtain ⟨f, fd, ps, g, G, hs, hf, hb, hg⟩ := F.ok
  unfold fRC at e
  split at e
  case isFalse => cases e
  rename_i hp
  obtain ⟨⟨ys, rfl⟩, _⟩ := F.qo _ _ _ e
  have ry' := ry
  obtain ⟨ay, dy, us, rfl, hy, _⟩ := ry
  cases rv
  obtain ⟨od, J⟩ := ins_ty I (noTab_sub _ _ hy)
  obtain ⟨m, hF⟩ := I.fr
  have go : ∀ {T id : String}, s.TypeIs u T → T ∈ sevenT → Slot T (cmpInfo .Eq).2.1 id →
      (∀ Q' : Value → Shared → Prop, Q' .notImplemented s → wpAny (model X.prog X.w) A (call (.builtin id) [u, .ref ay]) Q' X.xe s) → wpAny (model X.prog X.w) A (richCompare .Eq u (.ref ay)) (fun r s' => r = .bool b ∧ Lp X Γ pins σ H s') X.xe s := fun {T id} ht hTl sl hd => by
    refine rc_refl sb.room.units0 hF I.ok.mod.kin J ht (F.fn T hTl) sl hd hs hf ?_
    exact eqF_call (G := G) hb (hg _ _ _ e) sb I hT ry' rx ru fun s' z => ⟨rfl, z⟩
  cases x with
  | non =>
    cases rx
    cases ru
    exact go rfl (by decide) PySem.F.slot_NoneType_eq fun Q' hq => non_declines hq
  | bl z =>
    cases rx
    cases ru
    exact go rfl (by decide) PySem.F.slot_bool_eq fun Q' hq => bl_declines J (fun _ _ z => nomatch z) hq
  | int i =>
    cases rx
    obtain ⟨t, rfl⟩ := ru
    exact go rfl (by decide) PySem.F.slot_int_eq fun Q' hq => int_declines J (fun _ _ z => nomatch z) hq
  | str i =>
    cases rx
    obtain ⟨t, rfl⟩ := ru
    exact go rfl (by decide) PySem.F.slot_str_eq fun Q' hq => str_declines J (fun _ _ z => nomatch z) hq
  | tup xs =>
    obtain ⟨a, vs, ea, q', r⟩ := id rx
    subst ea
    cases ru
    obtain ⟨its, t1, p1, z1⟩ := I.tuple (hK ▸ seqT_mono noTab_sub q')
    obtain ⟨⟨cls, dd, data, sl⟩, ho, hc, n, hd⟩ := p1
    simp only at hc hd
    subst hc hd
    exact go ⟨_, ho, rfl⟩ (by decide) PySem.F.slot_tuple_eq fun Q' hq => tup_declines (I.ok.mod.kin.keeps hF.keep) J (F.fn "tuple" (by decide)) ho hq
  | lst xs =>
    obtain ⟨a, vs, ea, q', r⟩ := id rx
    subst ea
    cases ru
    obtain ⟨_, its, k, t1, g1⟩ := I.hok a _ (noTab_sub _ _ q')
    exact go ⟨_, g1, rfl⟩ (by decide) PySem.F.slot_list_eq fun Q' hq => lst_declines (I.ok.mod.kin.keeps hF.keep) J (F.fn "list" (by decide)) g1 hq
  | dct =>
    obtain ⟨a, ea, q'⟩ := id rx
    subst ea
    cases ru
    obtain ⟨_, _, vs, _, o, es, ep, ho, hx, _⟩ := I.hok a _ (noTab_sub _ _ q')
    exact go ⟨_, ho, hx.1⟩ (by decide) PySem.F.slot_dict_eq fun Q' hq => dct_declines (I.ok.mod.kin.keeps hF.keep) J (F.fn "dict" (by decide)) ho hx.1 hq
  | _ => cases hp
def fOr (f g : PV → PV → Option Bool) : PV → PV → Option Bool := fun x y => match f x y with
  | some b => some b
  | none => g x y
theorem rcOr {op : CmpOp} {n m k : Nat} {f g : PV → PV → Option Bool} (h1 : RcB X Γ op n f) (h2 : RcB X Γ op m g) (l1 : n ≤ k) (l2 : m ≤ k) : RcB X Γ op k (fOr f g) := by
  intro A pins s σ H x y b vx vy u v sb I hT rx ry e ru rv
  unfold fOr at e
  split at e
  · rename_i c ec
    cases e
    exact h1 A pins s σ H x y b vx vy u v (sb.mono l1) I hT rx ry ec ru rv
  · exact h2 A pins s σ H x y b vx vy u v (sb.mono l2) I hT rx ry e ru rv
end
end R
namespace K12
open PySem L2 R
def topS (i : Nat) : Stmt := PySem.Challenge.pw_rillweb_k12_courses_compared.main.body.getD i (.Pass ⟨0, 0, 0, 0⟩)
abbrev s_is_whole : Stmt := topS 5
abbrev N_is_whole : List Str := ["thing"]
theorem sc_is_whole : FnScope N_is_whole ["thing"] (defScope s_is_whole) := ⟨rfl, rfl, rfl, by decide +kernel, rfl, by decide +kernel, by decide +kernel⟩
abbrev s_common_of : Stmt := topS 7
abbrev N_common_of : List Str := ["one", "other"]
theorem sc_common_of : FnScope N_common_of ["one", "other"] (defScope s_common_of) := ⟨rfl, rfl, rfl, by decide +kernel, rfl, by decide +kernel, by decide +kernel⟩
abbrev s_Share_init : Stmt := inClass (topS 8) 0
abbrev N_Share_init : List Str := ["self", "top", "bottom", "part"]
theorem sc_Share_init : FnScope N_Share_init ["self", "top", "bottom"] (defScope s_Share_init) := ⟨rfl, rfl, rfl, by decide +kernel, rfl, by decide +kernel, by decide +kernel⟩
abbrev s_Share_eq : Stmt := inClass (topS 8) 1
abbrev N_Share_eq : List Str := ["self", "other"]
theorem sc_Share_eq : FnScope N_Share_eq ["self", "other"] (defScope s_Share_eq) := ⟨rfl, rfl, rfl, by decide +kernel, rfl, by decide +kernel, by decide +kernel⟩
abbrev s_Days_init : Stmt := inClass (topS 12) 0
abbrev N_Days_init : List Str := ["self", "value", "begins", "spans"]
theorem sc_Days_init : FnScope N_Days_init ["self", "value", "begins", "spans"] (defScope s_Days_init) := ⟨rfl, rfl, rfl, by decide +kernel, rfl, by decide +kernel, by decide +kernel⟩
abbrev s_Days_thing : Stmt := inClass (topS 12) 1
abbrev N_Days_thing : List Str := ["self", "day"]
theorem sc_Days_thing : FnScope N_Days_thing ["self", "day"] (defScope s_Days_thing) := ⟨rfl, rfl, rfl, by decide +kernel, rfl, by decide +kernel, by decide +kernel⟩
abbrev s_Days_region : Stmt := inClass (topS 12) 2
abbrev N_Days_region : List Str := ["self", "day", "found", "at", "begin"]
theorem sc_Days_region : FnScope N_Days_region ["self", "day"] (defScope s_Days_region) := ⟨rfl, rfl, rfl, by decide +kernel, rfl, by decide +kernel, by decide +kernel⟩
abbrev s_Days_region_end : Stmt := inClass (topS 12) 3
abbrev N_Days_region_end : List Str := ["self", "at"]
theorem sc_Days_region_end : FnScope N_Days_region_end ["self", "at"] (defScope s_Days_region_end) := ⟨rfl, rfl, rfl, by decide +kernel, rfl, by decide +kernel, by decide +kernel⟩
abbrev s_nearer : Stmt := topS 13
abbrev N_nearer : List Str := ["one", "other"]
theorem sc_nearer : FnScope N_nearer ["one", "other"] (defScope s_nearer) := ⟨rfl, rfl, rfl, by decide +kernel, rfl, by decide +kernel, by decide +kernel⟩
abbrev s_unlike_from : Stmt := topS 14
abbrev N_unlike_from : List Str := ["days", "others", "day", "by", "here", "there", "end", "beyond", "border", "last", "at"]
theorem sc_unlike_from : FnScope N_unlike_from ["days", "others", "day", "by"] (defScope s_unlike_from) := ⟨rfl, rfl, rfl, by decide +kernel, rfl, by decide +kernel, by decide +kernel⟩
abbrev s_is_stretch : Stmt := topS 16
abbrev N_is_stretch : List Str := ["thing", "days", "word", "share"]
theorem sc_is_stretch : FnScope N_is_stretch ["thing"] (defScope s_is_stretch) := ⟨rfl, rfl, rfl, by decide +kernel, rfl, by decide +kernel, by decide +kernel⟩
abbrev s_are_stretches : Stmt := topS 17
abbrev N_are_stretches : List Str := ["thing", "days", "word", "stretch"]
theorem sc_are_stretches : FnScope N_are_stretches ["thing"] (defScope s_are_stretches) := ⟨rfl, rfl, rfl, by decide +kernel, rfl, by decide +kernel, by decide +kernel⟩
abbrev s_Course_init : Stmt := inClass (topS 18) 0
abbrev N_Course_init : List Str := ["self", "stretches"]
theorem sc_Course_init : FnScope N_Course_init ["self", "stretches"] (defScope s_Course_init) := ⟨rfl, rfl, rfl, by decide +kernel, rfl, by decide +kernel, by decide +kernel⟩
abbrev s_Course_lay : Stmt := inClass (topS 18) 1
abbrev N_Course_lay : List Str := ["self", "stretches", "days", "word"]
theorem sc_Course_lay : FnScope N_Course_lay ["self", "stretches"] (defScope s_Course_lay) := ⟨rfl, rfl, rfl, by decide +kernel, rfl, by decide +kernel, by decide +kernel⟩
abbrev s_Course_eq : Stmt := inClass (topS 18) 2
abbrev N_Course_eq : List Str := ["self", "other"]
theorem sc_Course_eq : FnScope N_Course_eq ["self", "other"] (defScope s_Course_eq) := ⟨rfl, rfl, rfl, by decide +kernel, rfl, by decide +kernel, by decide +kernel⟩
abbrev s_stretch_at : Stmt := topS 19
abbrev N_stretch_at : List Str := ["course", "day", "found", "at", "begin"]
theorem sc_stretch_at : FnScope N_stretch_at ["course", "day"] (defScope s_stretch_at) := ⟨rfl, rfl, rfl, by decide +kernel, rfl, by decide +kernel, by decide +kernel⟩
abbrev s_share_of : Stmt := topS 20
abbrev N_share_of : List Str := ["course", "day", "at", "word"]
theorem sc_share_of : FnScope N_share_of ["course", "day"] (defScope s_share_of) := ⟨rfl, rfl, rfl, by decide +kernel, rfl, by decide +kernel, by decide +kernel⟩
abbrev s_days_of : Stmt := topS 21
abbrev N_days_of : List Str := ["course", "word"]
theorem sc_days_of : FnScope N_days_of ["course"] (defScope s_days_of) := ⟨rfl, rfl, rfl, by decide +kernel, rfl, by decide +kernel, by decide +kernel⟩
abbrev s_first_unlike : Stmt := topS 22
abbrev N_first_unlike : List Str := ["one", "other"]
theorem sc_first_unlike : FnScope N_first_unlike ["one", "other"] (defScope s_first_unlike) := ⟨rfl, rfl, rfl, by decide +kernel, rfl, by decide +kernel, by decide +kernel⟩
abbrev s_law_well : Stmt := topS 25
abbrev N_law_well : List Str := ["cell"]
theorem sc_law_well : FnScope N_law_well ["cell"] (defScope s_law_well) := ⟨rfl, rfl, rfl, by decide +kernel, rfl, by decide +kernel, by decide +kernel⟩
abbrev s_law_draw : Stmt := topS 26
abbrev N_law_draw : List Str := ["well", "many", "digit", "prime", "number"]
theorem sc_law_draw : FnScope N_law_draw ["well", "many"] (defScope s_law_draw) := ⟨rfl, rfl, rfl, by decide +kernel, rfl, by decide +kernel, by decide +kernel⟩
abbrev s_law_one : Stmt := topS 27
abbrev N_law_one : List Str := ["well", "some"]
theorem sc_law_one : FnScope N_law_one ["well", "some"] (defScope s_law_one) := ⟨rfl, rfl, rfl, by decide +kernel, rfl, by decide +kernel, by decide +kernel⟩
abbrev s_law_low : Stmt := topS 28
abbrev N_law_low : List Str := ["top", "bottom", "one", "other"]
theorem sc_law_low : FnScope N_law_low ["top", "bottom"] (defScope s_law_low) := ⟨rfl, rfl, rfl, by decide +kernel, rfl, by decide +kernel, by decide +kernel⟩
abbrev s_law_sum : Stmt := topS 30
abbrev N_law_sum : List Str := ["pairs", "top", "bottom", "one", "other"]
theorem sc_law_sum : FnScope N_law_sum ["pairs"] (defScope s_law_sum) := ⟨rfl, rfl, rfl, by decide +kernel, rfl, by decide +kernel, by decide +kernel⟩
abbrev s_law_word : Stmt := topS 32
abbrev N_law_word : List Str := ["well", "most", "far", "bottom", "top", "k"]
theorem sc_law_word : FnScope N_law_word ["well", "most", "far"] (defScope s_law_word) := ⟨rfl, rfl, rfl, by decide +kernel, rfl, by decide +kernel, by decide +kernel⟩
abbrev s_law_stretches : Stmt := topS 33
abbrev N_law_stretches : List Str := ["well", "most", "word", "long", "far", "found", "k"]
theorem sc_law_stretches : FnScope N_law_stretches ["well", "most", "word", "long", "far"] (defScope s_law_stretches) := ⟨rfl, rfl, rfl, by decide +kernel, rfl, by decide +kernel, by decide +kernel⟩
abbrev s_law_course : Stmt := topS 34
abbrev N_law_course : List Str := ["told", "days", "word", "one", "other"]
theorem sc_law_course : FnScope N_law_course ["told"] (defScope s_law_course) := ⟨rfl, rfl, rfl, by decide +kernel, rfl, by decide +kernel, by decide +kernel⟩
abbrev s_law_on : Stmt := topS 35
abbrev N_law_on : List Str := ["told", "day", "days", "word"]
theorem sc_law_on : FnScope N_law_on ["told", "day"] (defScope s_law_on) := ⟨rfl, rfl, rfl, by decide +kernel, rfl, by decide +kernel, by decide +kernel⟩
abbrev s_law_turned : Stmt := topS 36
abbrev N_law_turned : List Str := ["word", "by"]
theorem sc_law_turned : FnScope N_law_turned ["word", "by"] (defScope s_law_turned) := ⟨rfl, rfl, rfl, by decide +kernel, rfl, by decide +kernel, by decide +kernel⟩
abbrev s_law_cut : Stmt := topS 37
abbrev N_law_cut : List Str := ["told", "day", "found", "at", "days", "word", "here", "rest"]
theorem sc_law_cut : FnScope N_law_cut ["told", "day"] (defScope s_law_cut) := ⟨rfl, rfl, rfl, by decide +kernel, rfl, by decide +kernel, by decide +kernel⟩
abbrev s_law_otherwise : Stmt := topS 38
abbrev N_law_otherwise : List Str := ["well", "told", "found", "k", "at"]
theorem sc_law_otherwise : FnScope N_law_otherwise ["well", "told"] (defScope s_law_otherwise) := ⟨rfl, rfl, rfl, by decide +kernel, rfl, by decide +kernel, by decide +kernel⟩
abbrev s_law_changed : Stmt := topS 39
abbrev N_law_changed : List Str := ["well", "told", "day", "found", "at", "rows", "days", "word"]
theorem sc_law_changed : FnScope N_law_changed ["well", "told", "day"] (defScope s_law_changed) := ⟨rfl, rfl, rfl, by decide +kernel, rfl, by decide +kernel, by decide +kernel⟩
abbrev s_law_first : Stmt := topS 40
abbrev N_law_first : List Str := ["one", "other", "begins", "told", "at", "days", "word", "begin", "finish", "last", "day"]
theorem sc_law_first : FnScope N_law_first ["one", "other"] (defScope s_law_first) := ⟨rfl, rfl, rfl, by decide +kernel, rfl, by decide +kernel, by decide +kernel⟩
abbrev s_law_right : Stmt := topS 41
abbrev N_law_right : List Str := ["one", "other", "due", "first", "second"]
theorem sc_law_right : FnScope N_law_right ["one", "other"] (defScope s_law_right) := ⟨rfl, rfl, rfl, by decide +kernel, rfl, by decide +kernel, by decide +kernel⟩
abbrev s_law : Stmt := topS 42
abbrev N_law : List Str := ["script", "cell", "well", "told", "same", "day", "changed", "course", "odd"]
theorem sc_law : FnScope N_law ["script"] (defScope s_law) := ⟨rfl, rfl, rfl, by decide +kernel, rfl, by decide +kernel, by decide +kernel⟩
theorem kit_own {K : PySem.W.Frag} {C D : Addr} {b : Bool} (i : PySem.W.isClsIn K C = true) (t : PySem.W.typeIn K (.ref C) = some (.type "type")) (r : PySem.W.subIn K (.ref C) (.ref C) = some true) (s : PySem.W.subIn K (.ref D) (.ref C) = some b) : PySem.W.kitOne K (.ref D) (.ref C) = some b := by
  unfold PySem.W.kitOne
  split
  · rename_i h
    have e : D = C := Value.ref.inj (eq_of_beq h)
    subst e
    exact r.symm.trans s
  · unfold PySem.W.kitCls
    have e2 : ((PySem.W.clsIn K C).isSome && PySem.W.typeIn K (.ref C) == some (.type "type")) = true := by
      have h2' : (PySem.W.clsIn K C).isSome = true := i
      rw [h2', t] <;> rfl
    dsimp only
    rw [if_pos e2]
    exact s
theorem kit_tyC {K : PySem.W.Frag} {C : Addr} {T : String} {b : Bool} (i : PySem.W.isClsIn K C = true) (t : PySem.W.typeIn K (.ref C) = some (.type "type")) (s : PySem.W.subIn K (.type T) (.ref C) = some b) : PySem.W.kitOne K (.type T) (.ref C) = some b := by
  unfold PySem.W.kitOne
  have e : (Value.type T == Value.ref C) = false := rfl
  rw [if_neg (by rw [e]; exact Bool.false_ne_true)]
  unfold PySem.W.kitCls
  have e2 : ((PySem.W.clsIn K C).isSome && PySem.W.typeIn K (.ref C) == some (.type "type")) = true := by
    have h2' : (PySem.W.clsIn K C).isSome = true := i
    rw [h2', t] <;> rfl
  dsimp only
  rw [if_pos e2]
  exact s
theorem kit_Cty {K : PySem.W.Frag} {D : Addr} {T : String} {b : Bool} (hm : PySem.W.kitMeta T = true) (s : PySem.W.subIn K (.ref D) (.type T) = some b) : PySem.W.kitOne K (.ref D) (.type T) = some b := by
  unfold PySem.W.kitOne
  have e : (Value.ref D == Value.type T) = false := rfl
  rw [if_neg (by rw [e]; exact Bool.false_ne_true)]
  unfold PySem.W.kitCls
  dsimp only
  rw [if_pos hm]
  exact s
theorem notFirst_of {K : PySem.W.Frag} {C : Addr} {T : String} (s : PySem.W.subIn K (.type T) (.ref C) = some false) : PySem.W.notFirst K C (.type T) = true := by
  unfold PySem.W.notFirst
  rw [s]
  simp
def lam_days_of : LamD := lamOf ((Str.ofString "days_of" ++ ".<locals>.") ++ "<lambda>" : Str) (lastE (defBody s_days_of))
theorem okL_days_of : lam_days_of.Ok := ⟨rfl, rfl, rfl, by decide +kernel, rfl, rfl, rfl, by decide, by decide, by decide, by decide, by intros; rfl⟩
set_option maxHeartbeats 0 in
structure Facts (K : PySem.W.Frag) (mg : Str → Option Value) where
  c_Share : Addr
  gc_Share : mg "Share" = some (.ref c_Share)
  c_Course : Addr
  gc_Course : mg "Course" = some (.ref c_Course)
  c_Days : Addr
  gc_Days : mg "Days" = some (.ref c_Days)
  f_is_whole : Addr
  d_is_whole : FuncData
  F_is_whole : FunD K "is_whole" "is_whole" (defArgs s_is_whole) (defBody s_is_whole) (defScope s_is_whole) [] [] f_is_whole d_is_whole
  b_is_whole : Binds K d_is_whole ["thing"] []
  g_is_whole : mg "is_whole" = some (.ref f_is_whole)
  f_common_of : Addr
  d_common_of : FuncData
  F_common_of : FunD K "common_of" "common_of" (defArgs s_common_of) (defBody s_common_of) (defScope s_common_of) [] [] f_common_of d_common_of
  b_common_of : Binds K d_common_of ["one", "other"] []
  g_common_of : mg "common_of" = some (.ref f_common_of)
  f_Share_init : Addr
  d_Share_init : FuncData
  F_Share_init : FunD K "__init__" "Share.__init__" (defArgs s_Share_init) (defBody s_Share_init) (defScope s_Share_init) [V.int 1] [] f_Share_init d_Share_init
  w_Share_init_1 : ∃ ds, Vals [V.int 1] ds ∧ Binds K d_Share_init ["self", "top", "bottom"] ds
  w_Share_init_0 : ∃ ds, Vals [] ds ∧ Binds K d_Share_init ["self", "top", "bottom"] ds
  i_Share_init : PySem.W.findIn K (.ref c_Share) "__init__" = some (some (.ref f_Share_init))
  t_Share_init : PySem.W.isFn K (.ref f_Share_init) = true
  f_Share_eq : Addr
  d_Share_eq : FuncData
  F_Share_eq : FunD K "__eq__" "Share.__eq__" (defArgs s_Share_eq) (defBody s_Share_eq) (defScope s_Share_eq) [] [] f_Share_eq d_Share_eq
  b_Share_eq : Binds K d_Share_eq ["self", "other"] []
  i_Share_eq : PySem.W.findIn K (.ref c_Share) "__eq__" = some (some (.ref f_Share_eq))
  t_Share_eq : PySem.W.isFn K (.ref f_Share_eq) = true
  f_Days_init : Addr
  d_Days_init : FuncData
  F_Days_init : FunD K "__init__" "Days.__init__" (defArgs s_Days_init) (defBody s_Days_init) (defScope s_Days_init) [] [] f_Days_init d_Days_init
  b_Days_init : Binds K d_Days_init ["self", "value", "begins", "spans"] []
  i_Days_init : PySem.W.findIn K (.ref c_Days) "__init__" = some (some (.ref f_Days_init))
  t_Days_init : PySem.W.isFn K (.ref f_Days_init) = true
  f_Days_thing : Addr
  d_Days_thing : FuncData
  F_Days_thing : FunD K "thing" "Days.thing" (defArgs s_Days_thing) (defBody s_Days_thing) (defScope s_Days_thing) [] [] f_Days_thing d_Days_thing
  b_Days_thing : Binds K d_Days_thing ["self", "day"] []
  i_Days_thing : PySem.W.findIn K (.ref c_Days) "thing" = some (some (.ref f_Days_thing))
  t_Days_thing : PySem.W.isFn K (.ref f_Days_thing) = true
  f_Days_region : Addr
  d_Days_region : FuncData
  F_Days_region : FunD K "region" "Days.region" (defArgs s_Days_region) (defBody s_Days_region) (defScope s_Days_region) [] [] f_Days_region d_Days_region
  b_Days_region : Binds K d_Days_region ["self", "day"] []
  i_Days_region : PySem.W.findIn K (.ref c_Days) "region" = some (some (.ref f_Days_region))
  t_Days_region : PySem.W.isFn K (.ref f_Days_region) = true
  f_Days_region_end : Addr
  d_Days_region_end : FuncData
  F_Days_region_end : FunD K "region_end" "Days.region_end" (defArgs s_Days_region_end) (defBody s_Days_region_end) (defScope s_Days_region_end) [] [] f_Days_region_end d_Days_region_end
  b_Days_region_end : Binds K d_Days_region_end ["self", "at"] []
  i_Days_region_end : PySem.W.findIn K (.ref c_Days) "region_end" = some (some (.ref f_Days_region_end))
  t_Days_region_end : PySem.W.isFn K (.ref f_Days_region_end) = true
  f_nearer : Addr
  d_nearer : FuncData
  F_nearer : FunD K "nearer" "nearer" (defArgs s_nearer) (defBody s_nearer) (defScope s_nearer) [] [] f_nearer d_nearer
  b_nearer : Binds K d_nearer ["one", "other"] []
  g_nearer : mg "nearer" = some (.ref f_nearer)
  f_unlike_from : Addr
  d_unlike_from : FuncData
  F_unlike_from : FunD K "unlike_from" "unlike_from" (defArgs s_unlike_from) (defBody s_unlike_from) (defScope s_unlike_from) [] [] f_unlike_from d_unlike_from
  b_unlike_from : Binds K d_unlike_from ["days", "others", "day", "by"] []
  g_unlike_from : mg "unlike_from" = some (.ref f_unlike_from)
  f_is_stretch : Addr
  d_is_stretch : FuncData
  F_is_stretch : FunD K "is_stretch" "is_stretch" (defArgs s_is_stretch) (defBody s_is_stretch) (defScope s_is_stretch) [] [] f_is_stretch d_is_stretch
  b_is_stretch : Binds K d_is_stretch ["thing"] []
  g_is_stretch : mg "is_stretch" = some (.ref f_is_stretch)
  f_are_stretches : Addr
  d_are_stretches : FuncData
  F_are_stretches : FunD K "are_stretches" "are_stretches" (defArgs s_are_stretches) (defBody s_are_stretches) (defScope s_are_stretches) [] [] f_are_stretches d_are_stretches
  b_are_stretches : Binds K d_are_stretches ["thing"] []
  g_are_stretches : mg "are_stretches" = some (.ref f_are_stretches)
  f_Course_init : Addr
  d_Course_init : FuncData
  F_Course_init : FunD K "__init__" "Course.__init__" (defArgs s_Course_init) (defBody s_Course_init) (defScope s_Course_init) [] [] f_Course_init d_Course_init
  b_Course_init : Binds K d_Course_init ["self", "stretches"] []
  i_Course_init : PySem.W.findIn K (.ref c_Course) "__init__" = some (some (.ref f_Course_init))
  t_Course_init : PySem.W.isFn K (.ref f_Course_init) = true
  f_Course_lay : Addr
  d_Course_lay : FuncData
  F_Course_lay : FunD K "lay" "Course.lay" (defArgs s_Course_lay) (defBody s_Course_lay) (defScope s_Course_lay) [] [] f_Course_lay d_Course_lay
  b_Course_lay : Binds K d_Course_lay ["self", "stretches"] []
  i_Course_lay : PySem.W.findIn K (.ref c_Course) "lay" = some (some (.ref f_Course_lay))
  t_Course_lay : PySem.W.isFn K (.ref f_Course_lay) = true
  f_Course_eq : Addr
  d_Course_eq : FuncData
  F_Course_eq : FunD K "__eq__" "Course.__eq__" (defArgs s_Course_eq) (defBody s_Course_eq) (defScope s_Course_eq) [] [] f_Course_eq d_Course_eq
  b_Course_eq : Binds K d_Course_eq ["self", "other"] []
  i_Course_eq : PySem.W.findIn K (.ref c_Course) "__eq__" = some (some (.ref f_Course_eq))
  t_Course_eq : PySem.W.isFn K (.ref f_Course_eq) = true
  f_stretch_at : Addr
  d_stretch_at : FuncData
  F_stretch_at : FunD K "stretch_at" "stretch_at" (defArgs s_stretch_at) (defBody s_stretch_at) (defScope s_stretch_at) [] [] f_stretch_at d_stretch_at
  b_stretch_at : Binds K d_stretch_at ["course", "day"] []
  g_stretch_at : mg "stretch_at" = some (.ref f_stretch_at)
  f_share_of : Addr
  d_share_of : FuncData
  F_share_of : FunD K "share_of" "share_of" (defArgs s_share_of) (defBody s_share_of) (defScope s_share_of) [] [] f_share_of d_share_of
  b_share_of : Binds K d_share_of ["course", "day"] []
  g_share_of : mg "share_of" = some (.ref f_share_of)
  f_days_of : Addr
  d_days_of : FuncData
  F_days_of : FunD K "days_of" "days_of" (defArgs s_days_of) (defBody s_days_of) (defScope s_days_of) [] [] f_days_of d_days_of
  b_days_of : Binds K d_days_of ["course"] []
  g_days_of : mg "days_of" = some (.ref f_days_of)
  f_first_unlike : Addr
  d_first_unlike : FuncData
  F_first_unlike : FunD K "first_unlike" "first_unlike" (defArgs s_first_unlike) (defBody s_first_unlike) (defScope s_first_unlike) [] [] f_first_unlike d_first_unlike
  b_first_unlike : Binds K d_first_unlike ["one", "other"] []
  g_first_unlike : mg "first_unlike" = some (.ref f_first_unlike)
  f_law_well : Addr
  d_law_well : FuncData
  F_law_well : FunD K "_law_well" "_law_well" (defArgs s_law_well) (defBody s_law_well) (defScope s_law_well) [] [] f_law_well d_law_well
  b_law_well : Binds K d_law_well ["cell"] []
  g_law_well : mg "_law_well" = some (.ref f_law_well)
  f_law_draw : Addr
  d_law_draw : FuncData
  F_law_draw : FunD K "_law_draw" "_law_draw" (defArgs s_law_draw) (defBody s_law_draw) (defScope s_law_draw) [] [] f_law_draw d_law_draw
  b_law_draw : Binds K d_law_draw ["well", "many"] []
  g_law_draw : mg "_law_draw" = some (.ref f_law_draw)
  f_law_one : Addr
  d_law_one : FuncData
  F_law_one : FunD K "_law_one" "_law_one" (defArgs s_law_one) (defBody s_law_one) (defScope s_law_one) [] [] f_law_one d_law_one
  b_law_one : Binds K d_law_one ["well", "some"] []
  g_law_one : mg "_law_one" = some (.ref f_law_one)
  f_law_low : Addr
  d_law_low : FuncData
  F_law_low : FunD K "_law_low" "_law_low" (defArgs s_law_low) (defBody s_law_low) (defScope s_law_low) [] [] f_law_low d_law_low
  b_law_low : Binds K d_law_low ["top", "bottom"] []
  g_law_low : mg "_law_low" = some (.ref f_law_low)
  f_law_sum : Addr
  d_law_sum : FuncData
  F_law_sum : FunD K "_law_sum" "_law_sum" (defArgs s_law_sum) (defBody s_law_sum) (defScope s_law_sum) [] [] f_law_sum d_law_sum
  b_law_sum : Binds K d_law_sum ["pairs"] []
  g_law_sum : mg "_law_sum" = some (.ref f_law_sum)
  f_law_word : Addr
  d_law_word : FuncData
  F_law_word : FunD K "_law_word" "_law_word" (defArgs s_law_word) (defBody s_law_word) (defScope s_law_word) [] [] f_law_word d_law_word
  b_law_word : Binds K d_law_word ["well", "most", "far"] []
  g_law_word : mg "_law_word" = some (.ref f_law_word)
  f_law_stretches : Addr
  d_law_stretches : FuncData
  F_law_stretches : FunD K "_law_stretches" "_law_stretches" (defArgs s_law_stretches) (defBody s_law_stretches) (defScope s_law_stretches) [] [] f_law_stretches d_law_stretches
  b_law_stretches : Binds K d_law_stretches ["well", "most", "word", "long", "far"] []
  g_law_stretches : mg "_law_stretches" = some (.ref f_law_stretches)
  f_law_course : Addr
  d_law_course : FuncData
  F_law_course : FunD K "_law_course" "_law_course" (defArgs s_law_course) (defBody s_law_course) (defScope s_law_course) [] [] f_law_course d_law_course
  b_law_course : Binds K d_law_course ["told"] []
  g_law_course : mg "_law_course" = some (.ref f_law_course)
  f_law_on : Addr
  d_law_on : FuncData
  F_law_on : FunD K "_law_on" "_law_on" (defArgs s_law_on) (defBody s_law_on) (defScope s_law_on) [] [] f_law_on d_law_on
  b_law_on : Binds K d_law_on ["told", "day"] []
  g_law_on : mg "_law_on" = some (.ref f_law_on)
  f_law_turned : Addr
  d_law_turned : FuncData
  F_law_turned : FunD K "_law_turned" "_law_turned" (defArgs s_law_turned) (defBody s_law_turned) (defScope s_law_turned) [] [] f_law_turned d_law_turned
  b_law_turned : Binds K d_law_turned ["word", "by"] []
  g_law_turned : mg "_law_turned" = some (.ref f_law_turned)
  f_law_cut : Addr
  d_law_cut : FuncData
  F_law_cut : FunD K "_law_cut" "_law_cut" (defArgs s_law_cut) (defBody s_law_cut) (defScope s_law_cut) [] [] f_law_cut d_law_cut
  b_law_cut : Binds K d_law_cut ["told", "day"] []
  g_law_cut : mg "_law_cut" = some (.ref f_law_cut)
  f_law_otherwise : Addr
  d_law_otherwise : FuncData
  F_law_otherwise : FunD K "_law_otherwise" "_law_otherwise" (defArgs s_law_otherwise) (defBody s_law_otherwise) (defScope s_law_otherwise) [] [] f_law_otherwise d_law_otherwise
  b_law_otherwise : Binds K d_law_otherwise ["well", "told"] []
  g_law_otherwise : mg "_law_otherwise" = some (.ref f_law_otherwise)
  f_law_changed : Addr
  d_law_changed : FuncData
  F_law_changed : FunD K "_law_changed" "_law_changed" (defArgs s_law_changed) (defBody s_law_changed) (defScope s_law_changed) [] [] f_law_changed d_law_changed
  b_law_changed : Binds K d_law_changed ["well", "told", "day"] []
  g_law_changed : mg "_law_changed" = some (.ref f_law_changed)
  f_law_first : Addr
  d_law_first : FuncData
  F_law_first : FunD K "_law_first" "_law_first" (defArgs s_law_first) (defBody s_law_first) (defScope s_law_first) [] [] f_law_first d_law_first
  b_law_first : Binds K d_law_first ["one", "other"] []
  g_law_first : mg "_law_first" = some (.ref f_law_first)
  f_law_right : Addr
  d_law_right : FuncData
  F_law_right : FunD K "_law_right" "_law_right" (defArgs s_law_right) (defBody s_law_right) (defScope s_law_right) [] [] f_law_right d_law_right
  b_law_right : Binds K d_law_right ["one", "other"] []
  g_law_right : mg "_law_right" = some (.ref f_law_right)
  f_law : Addr
  d_law : FuncData
  F_law : FunD K "law" "law" (defArgs s_law) (defBody s_law) (defScope s_law) [] [] f_law d_law
  b_law : Binds K d_law ["script"] []
  g_law : mg "law" = some (.ref f_law)
  bl : ∀ (s : Shared) (u : Value), BindsTo s d_law ⟨[u], []⟩ [("script", u)]
  tk_MOST_STRETCHES : Tok
  g_MOST_STRETCHES : mg "MOST_STRETCHES" = some (.int 60 tk_MOST_STRETCHES)
  tk_MOST_WORD : Tok
  g_MOST_WORD : mg "MOST_WORD" = some (.int 60 tk_MOST_WORD)
  n_abs : mg "abs" = none
  n_all : mg "all" = none
  n_bool : mg "bool" = none
  n_enumerate : mg "enumerate" = none
  n_int : mg "int" = none
  n_isinstance : mg "isinstance" = none
  n_len : mg "len" = none
  n_list : mg "list" = none
  n_min : mg "min" = none
  n_range : mg "range" = none
  n_set : mg "set" = none
  n_sorted : mg "sorted" = none
  n_tuple : mg "tuple" = none
  n_zip : mg "zip" = none
  mk_Share : PySem.W.makesIn K c_Share = true
  kc_Share : PySem.W.keepIn K (.ref c_Share) = true
  pg_Share : PySem.W.plainGet K c_Share Str.empty = true
  hd_Share : PySem.W.hasDictIn K c_Share = true
  po_Share : PySem.W.plainOver K c_Share = true
  sa_Share : PySem.W.findIn K (.ref c_Share) "__setattr__" = some (some (.builtin "object.__setattr__"))
  at_Share : PySem.W.findIn K (.ref c_Share) "__class__" = some (some (.builtin "object.__class__"))
  mr_Share : PySem.W.mroIn K c_Share (.type "object") = some true
  no_top_Share : PySem.W.findIn K (.ref c_Share) "top" = some none
  no_bottom_Share : PySem.W.findIn K (.ref c_Share) "bottom" = some none
  mk_Course : PySem.W.makesIn K c_Course = true
  kc_Course : PySem.W.keepIn K (.ref c_Course) = true
  pg_Course : PySem.W.plainGet K c_Course Str.empty = true
  hd_Course : PySem.W.hasDictIn K c_Course = true
  po_Course : PySem.W.plainOver K c_Course = true
  sa_Course : PySem.W.findIn K (.ref c_Course) "__setattr__" = some (some (.builtin "object.__setattr__"))
  at_Course : PySem.W.findIn K (.ref c_Course) "__class__" = some (some (.builtin "object.__class__"))
  mr_Course : PySem.W.mroIn K c_Course (.type "object") = some true
  no_begins_Course : PySem.W.findIn K (.ref c_Course) "begins" = some none
  no_words_Course : PySem.W.findIn K (.ref c_Course) "words" = some none
  mk_Days : PySem.W.makesIn K c_Days = true
  kc_Days : PySem.W.keepIn K (.ref c_Days) = true
  pg_Days : PySem.W.plainGet K c_Days Str.empty = true
  hd_Days : PySem.W.hasDictIn K c_Days = true
  po_Days : PySem.W.plainOver K c_Days = true
  sa_Days : PySem.W.findIn K (.ref c_Days) "__setattr__" = some (some (.builtin "object.__setattr__"))
  at_Days : PySem.W.findIn K (.ref c_Days) "__class__" = some (some (.builtin "object.__class__"))
  mr_Days : PySem.W.mroIn K c_Days (.type "object") = some true
  no_value_Days : PySem.W.findIn K (.ref c_Days) "value" = some none
  no_begins_Days : PySem.W.findIn K (.ref c_Days) "begins" = some none
  no_spans_Days : PySem.W.findIn K (.ref c_Days) "spans" = some none
  no_known_Days : PySem.W.findIn K (.ref c_Days) "known" = some none
  c0_days_of : Addr
  p0_days_of : Addr
  cd_days_of : d_days_of.code = .ref c0_days_of
  ow_days_of : ∀ h : Heap, LamX.OwnTab K f_days_of h → h.get? p0_days_of = some { cls := .none, data := .fields #[] }
  hh_days_of : PySem.W.codeHdIn K c0_days_of p0_days_of = true
  np_days_of : K.lookup p0_days_of = none
  hn : PySem.W.specialIn K (.builtin "object.__class__") "__get__" = some (some (.builtin "getset_descriptor.__get__"))
  ht : PySem.W.takesIn K (.builtin "object.__class__") = some true
  ic_Share : PySem.W.isClsIn K c_Share = true
  ty_Share : PySem.W.typeIn K (.ref c_Share) = some (.type "type")
  ne_Share : PySem.W.findIn K (.ref c_Share) "__ne__" = some (some (.builtin "object.__ne__"))
  sT_Share_NoneType : PySem.W.subIn K (.type "NoneType") (.ref c_Share) = some false
  sF_Share_NoneType : PySem.W.subIn K (.ref c_Share) (.type "NoneType") = some false
  sT_Share_bool : PySem.W.subIn K (.type "bool") (.ref c_Share) = some false
  sF_Share_bool : PySem.W.subIn K (.ref c_Share) (.type "bool") = some false
  sT_Share_int : PySem.W.subIn K (.type "int") (.ref c_Share) = some false
  sF_Share_int : PySem.W.subIn K (.ref c_Share) (.type "int") = some false
  sT_Share_str : PySem.W.subIn K (.type "str") (.ref c_Share) = some false
  sF_Share_str : PySem.W.subIn K (.ref c_Share) (.type "str") = some false
  sT_Share_tuple : PySem.W.subIn K (.type "tuple") (.ref c_Share) = some false
  sF_Share_tuple : PySem.W.subIn K (.ref c_Share) (.type "tuple") = some false
  sT_Share_list : PySem.W.subIn K (.type "list") (.ref c_Share) = some false
  sF_Share_list : PySem.W.subIn K (.ref c_Share) (.type "list") = some false
  sT_Share_dict : PySem.W.subIn K (.type "dict") (.ref c_Share) = some false
  sF_Share_dict : PySem.W.subIn K (.ref c_Share) (.type "dict") = some false
  ss_Share_Share : PySem.W.subIn K (.ref c_Share) (.ref c_Share) = some true
  ss_Share_Course : PySem.W.subIn K (.ref c_Share) (.ref c_Course) = some false
  ss_Share_Days : PySem.W.subIn K (.ref c_Share) (.ref c_Days) = some false
  ic_Course : PySem.W.isClsIn K c_Course = true
  ty_Course : PySem.W.typeIn K (.ref c_Course) = some (.type "type")
  ne_Course : PySem.W.findIn K (.ref c_Course) "__ne__" = some (some (.builtin "object.__ne__"))
  sT_Course_NoneType : PySem.W.subIn K (.type "NoneType") (.ref c_Course) = some false
  sF_Course_NoneType : PySem.W.subIn K (.ref c_Course) (.type "NoneType") = some false
  sT_Course_bool : PySem.W.subIn K (.type "bool") (.ref c_Course) = some false
  sF_Course_bool : PySem.W.subIn K (.ref c_Course) (.type "bool") = some false
  sT_Course_int : PySem.W.subIn K (.type "int") (.ref c_Course) = some false
  sF_Course_int : PySem.W.subIn K (.ref c_Course) (.type "int") = some false
  sT_Course_str : PySem.W.subIn K (.type "str") (.ref c_Course) = some false
  sF_Course_str : PySem.W.subIn K (.ref c_Course) (.type "str") = some false
  sT_Course_tuple : PySem.W.subIn K (.type "tuple") (.ref c_Course) = some false
  sF_Course_tuple : PySem.W.subIn K (.ref c_Course) (.type "tuple") = some false
  sT_Course_list : PySem.W.subIn K (.type "list") (.ref c_Course) = some false
  sF_Course_list : PySem.W.subIn K (.ref c_Course) (.type "list") = some false
  sT_Course_dict : PySem.W.subIn K (.type "dict") (.ref c_Course) = some false
  sF_Course_dict : PySem.W.subIn K (.ref c_Course) (.type "dict") = some false
  ss_Course_Share : PySem.W.subIn K (.ref c_Course) (.ref c_Share) = some false
  ss_Course_Course : PySem.W.subIn K (.ref c_Course) (.ref c_Course) = some true
  ss_Course_Days : PySem.W.subIn K (.ref c_Course) (.ref c_Days) = some false
  ic_Days : PySem.W.isClsIn K c_Days = true
  ty_Days : PySem.W.typeIn K (.ref c_Days) = some (.type "type")
  ne_Days : PySem.W.findIn K (.ref c_Days) "__ne__" = some (some (.builtin "object.__ne__"))
  sT_Days_NoneType : PySem.W.subIn K (.type "NoneType") (.ref c_Days) = some false
  sF_Days_NoneType : PySem.W.subIn K (.ref c_Days) (.type "NoneType") = some false
  sT_Days_bool : PySem.W.subIn K (.type "bool") (.ref c_Days) = some false
  sF_Days_bool : PySem.W.subIn K (.ref c_Days) (.type "bool") = some false
  sT_Days_int : PySem.W.subIn K (.type "int") (.ref c_Days) = some false
  sF_Days_int : PySem.W.subIn K (.ref c_Days) (.type "int") = some false
  sT_Days_str : PySem.W.subIn K (.type "str") (.ref c_Days) = some false
  sF_Days_str : PySem.W.subIn K (.ref c_Days) (.type "str") = some false
  sT_Days_tuple : PySem.W.subIn K (.type "tuple") (.ref c_Days) = some false
  sF_Days_tuple : PySem.W.subIn K (.ref c_Days) (.type "tuple") = some false
  sT_Days_list : PySem.W.subIn K (.type "list") (.ref c_Days) = some false
  sF_Days_list : PySem.W.subIn K (.ref c_Days) (.type "list") = some false
  sT_Days_dict : PySem.W.subIn K (.type "dict") (.ref c_Days) = some false
  sF_Days_dict : PySem.W.subIn K (.ref c_Days) (.type "dict") = some false
  ss_Days_Share : PySem.W.subIn K (.ref c_Days) (.ref c_Share) = some false
  ss_Days_Course : PySem.W.subIn K (.ref c_Days) (.ref c_Course) = some false
  ss_Days_Days : PySem.W.subIn K (.ref c_Days) (.ref c_Days) = some true
def fldT : Nat → List Str := fun c => match c with | 0 => ["top", "bottom"] | 1 => ["begins", "words"] | 2 => ["value", "begins", "spans", "known"] | _ => []
section
variable {P : Program} {w : World} {K : PySem.W.Frag} {mg : Str → Option Value} {base : Heap}
def Facts.cls (T : Facts K mg) : Nat → Addr := fun c => match c with | 0 => T.c_Share | 1 => T.c_Course | _ => T.c_Days
abbrev cfg (T : Facts K mg) : Cfg := ⟨K, T.cls, fldT, fun _ => "", [(T.p0_days_of, ((Str.ofString "days_of" ++ ".<locals>.") ++ "<lambda>" : Str))], fun j => match j with | 0 => some lam_days_of | _ => none⟩
theorem Facts.k_Share (T : Facts K mg) : ClsF K (cfg T) 0 := ⟨⟨T.pg_Share, T.hd_Share, T.po_Share, T.sa_Share⟩, fun f h => by
  have h : f ∈ (["top", "bottom"] : List Str) := h
  simp only [List.mem_cons, List.not_mem_nil, or_false] at h
  rcases h with rfl | rfl
  · exact T.no_top_Share
  · exact T.no_bottom_Share, by show (["top", "bottom"] : List Str).Nodup; decide, by show (["top", "bottom"] : List Str).length < 1000; decide, T.at_Share, T.mr_Share⟩
theorem Facts.mkr_Share (T : Facts K mg) : Mk K T.c_Share T.f_Share_init := ⟨T.mk_Share, T.i_Share_init, T.t_Share_init, T.kc_Share⟩
theorem Facts.k_Course (T : Facts K mg) : ClsF K (cfg T) 1 := ⟨⟨T.pg_Course, T.hd_Course, T.po_Course, T.sa_Course⟩, fun f h => by
  have h : f ∈ (["begins", "words"] : List Str) := h
  simp only [List.mem_cons, List.not_mem_nil, or_false] at h
  rcases h with rfl | rfl
  · exact T.no_begins_Course
  · exact T.no_words_Course, by show (["begins", "words"] : List Str).Nodup; decide, by show (["begins", "words"] : List Str).length < 1000; decide, T.at_Course, T.mr_Course⟩
theorem Facts.mkr_Course (T : Facts K mg) : Mk K T.c_Course T.f_Course_init := ⟨T.mk_Course, T.i_Course_init, T.t_Course_init, T.kc_Course⟩
theorem Facts.k_Days (T : Facts K mg) : ClsF K (cfg T) 2 := ⟨⟨T.pg_Days, T.hd_Days, T.po_Days, T.sa_Days⟩, fun f h => by
  have h : f ∈ (["value", "begins", "spans", "known"] : List Str) := h
  simp only [List.mem_cons, List.not_mem_nil, or_false] at h
  rcases h with rfl | rfl | rfl | rfl
  · exact T.no_value_Days
  · exact T.no_begins_Days
  · exact T.no_spans_Days
  · exact T.no_known_Days, by show (["value", "begins", "spans", "known"] : List Str).Nodup; decide, by show (["value", "begins", "spans", "known"] : List Str).length < 1000; decide, T.at_Days, T.mr_Days⟩
theorem Facts.mkr_Days (T : Facts K mg) : Mk K T.c_Days T.f_Days_init := ⟨T.mk_Days, T.i_Days_init, T.t_Days_init, T.kc_Days⟩
theorem Facts.isF (T : Facts K mg) : IsF (cfg T) 3 := ⟨fun c h => by
  match c, h with
  | 0, _ => exact T.k_Share
  | 1, _ => exact T.k_Course
  | 2, _ => exact T.k_Days
  | n + 3, h => omega, T.hn, T.ht⟩
theorem Facts.isA_int (T : Facts K mg) : IsA (cfg T) 3 .int := isA_b (by simp) fun c h => by
  match c, h with
  | 0, _ => exact kit_Cty (by decide +kernel) T.sF_Share_int
  | 1, _ => exact kit_Cty (by decide +kernel) T.sF_Course_int
  | 2, _ => exact kit_Cty (by decide +kernel) T.sF_Days_int
  | n + 3, h => omega
theorem Facts.isA_bool (T : Facts K mg) : IsA (cfg T) 3 .bl := isA_b (by simp) fun c h => by
  match c, h with
  | 0, _ => exact kit_Cty (by decide +kernel) T.sF_Share_bool
  | 1, _ => exact kit_Cty (by decide +kernel) T.sF_Course_bool
  | 2, _ => exact kit_Cty (by decide +kernel) T.sF_Days_bool
  | n + 3, h => omega
theorem Facts.isA_tuple (T : Facts K mg) : IsA (cfg T) 3 .tup := isA_b (by simp) fun c h => by
  match c, h with
  | 0, _ => exact kit_Cty (by decide +kernel) T.sF_Share_tuple
  | 1, _ => exact kit_Cty (by decide +kernel) T.sF_Course_tuple
  | 2, _ => exact kit_Cty (by decide +kernel) T.sF_Days_tuple
  | n + 3, h => omega
theorem Facts.isA_list (T : Facts K mg) : IsA (cfg T) 3 .lst := isA_b (by simp) fun c h => by
  match c, h with
  | 0, _ => exact kit_Cty (by decide +kernel) T.sF_Share_list
  | 1, _ => exact kit_Cty (by decide +kernel) T.sF_Course_list
  | 2, _ => exact kit_Cty (by decide +kernel) T.sF_Days_list
  | n + 3, h => omega
theorem Facts.isA_Share (T : Facts K mg) : IsA (cfg T) 3 (.cls 0) := isA_c (kit_tyC T.ic_Share T.ty_Share T.sT_Share_NoneType) (kit_tyC T.ic_Share T.ty_Share T.sT_Share_bool) (kit_tyC T.ic_Share T.ty_Share T.sT_Share_int) (kit_tyC T.ic_Share T.ty_Share T.sT_Share_str) (kit_tyC T.ic_Share T.ty_Share T.sT_Share_tuple) (kit_tyC T.ic_Share T.ty_Share T.sT_Share_list) (kit_tyC T.ic_Share T.ty_Share T.sT_Share_dict) fun d h => by
  match d, h with
  | 0, _ => exact kit_own T.ic_Share T.ty_Share T.ss_Share_Share T.ss_Share_Share
  | 1, _ => exact kit_own T.ic_Share T.ty_Share T.ss_Share_Share T.ss_Course_Share
  | 2, _ => exact kit_own T.ic_Share T.ty_Share T.ss_Share_Share T.ss_Days_Share
  | n + 3, h => omega
theorem Facts.isA_Course (T : Facts K mg) : IsA (cfg T) 3 (.cls 1) := isA_c (kit_tyC T.ic_Course T.ty_Course T.sT_Course_NoneType) (kit_tyC T.ic_Course T.ty_Course T.sT_Course_bool) (kit_tyC T.ic_Course T.ty_Course T.sT_Course_int) (kit_tyC T.ic_Course T.ty_Course T.sT_Course_str) (kit_tyC T.ic_Course T.ty_Course T.sT_Course_tuple) (kit_tyC T.ic_Course T.ty_Course T.sT_Course_list) (kit_tyC T.ic_Course T.ty_Course T.sT_Course_dict) fun d h => by
  match d, h with
  | 0, _ => exact kit_own T.ic_Course T.ty_Course T.ss_Course_Course T.ss_Share_Course
  | 1, _ => exact kit_own T.ic_Course T.ty_Course T.ss_Course_Course T.ss_Course_Course
  | 2, _ => exact kit_own T.ic_Course T.ty_Course T.ss_Course_Course T.ss_Days_Course
  | n + 3, h => omega
noncomputable def Facts.ds_Share_init_1 (T : Facts K mg) : List Value := Classical.choose T.w_Share_init_1
theorem Facts.v_Share_init_1 (T : Facts K mg) : Vals [V.int 1] (T.ds_Share_init_1) := (Classical.choose_spec T.w_Share_init_1).1
theorem Facts.b_Share_init_1 (T : Facts K mg) : Binds K T.d_Share_init ["self", "top", "bottom"] (T.ds_Share_init_1) := (Classical.choose_spec T.w_Share_init_1).2
noncomputable def Facts.ds_Share_init_0 (T : Facts K mg) : List Value := Classical.choose T.w_Share_init_0
theorem Facts.v_Share_init_0 (T : Facts K mg) : Vals [] (T.ds_Share_init_0) := (Classical.choose_spec T.w_Share_init_0).1
theorem Facts.b_Share_init_0 (T : Facts K mg) : Binds K T.d_Share_init ["self", "top", "bottom"] (T.ds_Share_init_0) := (Classical.choose_spec T.w_Share_init_0).2
end
def TBs {K : PySem.W.Frag} {mg : Str → Option Value} (T : Facts K mg) (base : Heap) : Prop := LamX.TabB base mg T.c0_days_of T.p0_days_of
theorem Facts.tm_days_of {K : PySem.W.Frag} {mg : Str → Option Value} (T : Facts K mg) : (T.p0_days_of, ((Str.ofString "days_of" ++ ".<locals>.") ++ "<lambda>" : Str)) ∈ (cfg T).tabs := .head _
theorem Facts.tu_days_of {K : PySem.W.Frag} {mg : Str → Option Value} (T : Facts K mg) : ∀ p ∈ (cfg T).tabs, p.1 = T.p0_days_of → p.2 = ((Str.ofString "days_of" ++ ".<locals>.") ++ "<lambda>" : Str) := fun p hp e => by
  have hp : p ∈ ([(T.p0_days_of, ((Str.ofString "days_of" ++ ".<locals>.") ++ "<lambda>" : Str))] : List (Addr × Str)) := hp
  simp only [List.mem_cons, List.not_mem_nil, or_false] at hp
  rcases hp with rfl
  · rfl
def fuel : Nat := 2 ^ 4000
def b_is_whole : S :=
  (sRet (mAndV (mIsi 3 .int (mVar 0)) (mNotV (mIsi 3 .bl (mVar 0)))))
def m_is_whole : FnM := fnM fldT 1 b_is_whole
def b_common_of : S :=
  (sSeq (loopW (mB (mBin pNe (mVar 1) (mC (.int 0))))
    (sPar 0 1 (mCons (mVar 1) (mCons (mBin pMod (mVar 0) (mVar 1)) mNil))) fuel)
    (sRet (mCall cAbs (mCons (mVar 0) mNil))))
def m_common_of : FnM := fnM fldT 2 b_common_of
def b_Share_init : S :=
  (sSeq (sIf (mOr (mNot (mB (mFn m_is_whole [] (mCons (mVar 1) mNil)))) (mOr (mNot (mB (mFn m_is_whole [] (mCons (mVar 2) mNil)))) (mB (mBin pEq (mVar 2) (mC (.int 0))))))
    sNo
    sNop)
    (sSeq (sSet (mFn m_common_of [] (mCons (mVar 1) (mCons (mVar 2) mNil))) 3)
    (sSeq (sIf (mB (mBin pLt (mVar 2) (mC (.int 0))))
    (sSet (mBin pSub (mC (.int 0)) (mVar 3)) 3)
    sNop)
    (sSeq (sFld 0 0 (mVar 0) (mBin pDiv (mVar 1) (mVar 3)))
    (sFld 0 1 (mVar 0) (mBin pDiv (mVar 2) (mVar 3)))))))
def m_Share_init : FnM := iniM fldT 0 4 b_Share_init
def b_Share_eq : S :=
  (sRet (mAndV (mIsi 3 (.cls 0) (mVar 1)) (mBin pEq (mTup (mCons (mFld 0 0 (mVar 0)) (mCons (mFld 0 1 (mVar 0)) mNil))) (mTup (mCons (mFld 0 0 (mVar 1)) (mCons (mFld 0 1 (mVar 1)) mNil))))))
def m_Share_eq : FnM := fnM fldT 2 b_Share_eq
def b_Days_init : S :=
  (sSeq (sFld 2 0 (mVar 0) (mVar 1))
    (sSeq (sFld 2 1 (mVar 0) (mVar 2))
    (sSeq (sFld 2 2 (mVar 0) (mVar 3))
    (sFld 2 3 (mVar 0) mDNewK))))
def m_Days_init : Nat → FnM := iniS 2 4 b_Days_init
theorem fld_own {c : Nat} {en : En} {a : M PV} {y : PV} {P0 p r : Pool} {xs : List PV} (ha : a en P0 = .ok y (p ++ Cell.obj c xs :: r)) (hb : en.b ≤ p.length) (hv : en.sl[0]? = some (some (.own p.length))) (i : Nat) (hi : i = xs.length) : sFld c i (mVar 0) a en P0 = .next en (p ++ Cell.obj c (xs ++ [y]) :: r) := by
  subst hi
  have hg : (p ++ Cell.obj c xs :: r)[p.length]? = some (Cell.obj c xs) := by
    rw [List.getElem?_append_right (Nat.le_refl _), Nat.sub_self]
    rfl
  have hs : (p ++ Cell.obj c xs :: r).set p.length (Cell.obj c (xs ++ [y])) = p ++ Cell.obj c (xs ++ [y]) :: r := by
    rw [List.set_append_right _ _ (Nat.le_refl _), Nat.sub_self]
    rfl
  have hp : putC c xs.length y (Cell.obj c xs) = some (Cell.obj c (xs ++ [y])) := by
    unfold putC
    dsimp only
    rw [if_pos ⟨rfl, Nat.le_refl _⟩, if_neg (Nat.lt_irrefl _)]
  have hm : may en.b p.length y = true := by
    unfold may
    rw [decide_eq_true hb]
    rfl
  unfold R.sFld
  rw [ha]
  dsimp only [Res.run]
  rw [var_ok hv]
  dsimp only [Res.run]
  rw [if_pos hm, hg]
  dsimp only
  rw [hp]
  dsimp only
  rw [hs]
theorem ini_Days (b : Nat) (y B S : PV) (p : Pool) (h : b ≤ p.length) : m_Days_init b [y, B, S] p = .ok (.own p.length) (p ++ [.obj 2 [y, B, S, .own (p.length + 1)], .dk []]) := by
  have e : b_Days_init ⟨b, [some (.own p.length), some y, some B, some S]⟩ (p ++ [.obj 2 []]) = .next ⟨b, [some (.own p.length), some y, some B, some S]⟩ (p ++ [.obj 2 [y, B, S, .own (p.length + 1)], .dk []]) := by
    unfold b_Days_init
    refine (seq_nx (fld_own (xs := []) (var_ok rfl) h rfl 0 rfl)).trans ?_
    refine (seq_nx (fld_own (xs := [y]) (var_ok rfl) h rfl 1 rfl)).trans ?_
    refine (seq_nx (fld_own (xs := [y, B]) (var_ok rfl) h rfl 2 rfl)).trans ?_
    refine fld_own (xs := [y, B, S]) (y := .own (p.length + 1)) ?_ h rfl 3 rfl
    unfold mDNewK
    rw [List.length_append, List.append_assoc]
    rfl
  unfold m_Days_init iniS
  show (match b_Days_init ⟨b, [some (.own p.length), some y, some B, some S]⟩ (p ++ [.obj 2 []]) with
    | .next _ q => Res.ok (PV.own p.length) q
    | _ => .stuck) = _
  rw [e]
def b_stretch_at : S :=
  (sSeq (sSet (mC (.int 0)) 2)
    (sSeq (sFor (itEA (mCons (mFld 1 0 (mVar 0)) mNil)) (tgT 2 (tgCons (tgN 3) (tgCons (tgN 4) tgNil)))
    (sIf (mB (mBin pLe (mVar 4) (mVar 1)))
    (sSet (mVar 3) 2)
    sNop))
    (sRet (mVar 2))))
def m_stretch_at : FnM := fnM fldT 5 b_stretch_at
def b_share_of : S :=
  (sSeq (sSet (mFn m_stretch_at [] (mCons (mVar 0) (mCons (mVar 1) mNil))) 2)
    (sSeq (sSet (mBin pIx (mFld 1 1 (mVar 0)) (mVar 2)) 3)
    (sRet (mBin pIx (mVar 3) (mBin pMod (mBin pSub (mVar 1) (mBin pIx (mFld 1 0 (mVar 0)) (mVar 2))) (mCall cLen (mCons (mVar 3) mNil)))))))
def m_share_of : FnM := fnM fldT 4 b_share_of
def tClos : Nat → Option FnM := fun j => match j with | 0 => some m_share_of | _ => none
def b_Days_thing : S :=
  (sSeq (sIf (mKNotIn (mVar 1) (mFld 2 3 (mVar 0)))
    (sKPut (mFld 2 3 (mVar 0)) (mVar 1) (mClo tClos 2 0 (mVar 0) (mVar 1)))
    sNop)
    (sRet (mKGet (mFld 2 3 (mVar 0)) (mVar 1))))
def m_Days_thing : Nat → FnM := fnS 2 b_Days_thing
def b_Days_region : S :=
  (sSeq (sSet (mC (.int 0)) 2)
    (sSeq (sFor (itEA (mCons (mFld 2 1 (mVar 0)) mNil)) (tgT 2 (tgCons (tgN 3) (tgCons (tgN 4) tgNil)))
    (sIf (mB (mBin pLe (mVar 4) (mVar 1)))
    (sSet (mVar 3) 2)
    sNop))
    (sRet (mVar 2))))
def m_Days_region : Nat → FnM := fnS 5 b_Days_region
def b_Days_region_end : S :=
  (sRet (mIf (mB (mBin pLt (mBin pAdd (mVar 1) (mC (.int 1))) (mCall cLen (mCons (mFld 2 1 (mVar 0)) mNil)))) (mBin pIx (mFld 2 1 (mVar 0)) (mBin pAdd (mVar 1) (mC (.int 1)))) (mC .non)))
def m_Days_region_end : Nat → FnM := fnS 2 b_Days_region_end
def b_nearer : S :=
  (sSeq (sIf (mOr (mB (mBin pIsN1 (mVar 0) (mC .non))) (mB (mBin pIsN1 (mVar 1) (mC .non))))
    (sRet (mIf (mB (mBin pIsN1 (mVar 0) (mC .non))) (mVar 1) (mVar 0)))
    sNop)
    (sRet (mCall cMin (mCons (mVar 0) (mCons (mVar 1) mNil)))))
def m_nearer : FnM := fnM fldT 2 b_nearer
def b_unlike_from : S :=
  (loopW (mB (mC (.bl true)))
    (sSeq (sSet (mMetS m_Days_region 2 (mVar 0) (mCons (mVar 2) mNil)) 4)
    (sSeq (sSet (mMetS m_Days_region 2 (mVar 1) (mCons (mBin pAdd (mVar 2) (mVar 3)) mNil)) 5)
    (sSeq (sSet (mMetS m_Days_region_end 2 (mVar 0) (mCons (mVar 4) mNil)) 6)
    (sSeq (sSet (mMetS m_Days_region_end 2 (mVar 1) (mCons (mVar 5) mNil)) 7)
    (sSeq (sSet (mFn m_nearer [] (mCons (mVar 6) (mCons (mIf (mB (mBin pIsN1 (mVar 7) (mC .non))) (mC .non) (mBin pSub (mVar 7) (mVar 3))) mNil))) 8)
    (sSeq (sSet (mBin pAdd (mBin pAdd (mVar 2) (mBin pIx (mFld 2 2 (mVar 0)) (mVar 4))) (mBin pIx (mFld 2 2 (mVar 1)) (mVar 5))) 9)
    (sSeq (sSet (mIf (mB (mBin pIsN1 (mVar 8) (mC .non))) (mVar 9) (mCall cMin (mCons (mVar 9) (mCons (mVar 8) mNil)))) 9)
    (sSeq (sFor (itR2 (mCons (mVar 2) (mCons (mVar 9) mNil))) (tgN 10)
    (sIf (mB (mBin (pTr fldT (fun x y => (fO 0 eqO x y).map (!·))) (mMetS m_Days_thing 2 (mVar 0) (mCons (mVar 10) mNil)) (mMetS m_Days_thing 2 (mVar 1) (mCons (mBin pAdd (mVar 10) (mVar 3)) mNil))))
    (sRet (mVar 10))
    sNop))
    (sSeq (sIf (mB (mBin pIsN1 (mVar 8) (mC .non)))
    (sRet (mC .non))
    sNop)
    (sSet (mVar 8) 2)))))))))) fuel)
def m_unlike_from : FnM := fnM fldT 11 b_unlike_from
def b_is_stretch : S :=
  (sSeq (sIf (mOr (mNot (mB (mIsi 3 .tup (mVar 0)))) (mB (mBin pNe (mCall cLen (mCons (mVar 0) mNil)) (mC (.int 2)))))
    (sRet (mC (.bl false)))
    sNop)
    (sSeq (sAsg (mVar 0) (tgT 2 (tgCons (tgN 1) (tgCons (tgN 2) tgNil))))
    (sSeq (sIf (mAnd (mB (mBin pNotN1 (mVar 1) (mC .non))) (mOr (mNot (mB (mFn m_is_whole [] (mCons (mVar 1) mNil)))) (mB (mBin pLt (mVar 1) (mC (.int 1))))))
    (sRet (mC (.bl false)))
    sNop)
    (sSeq (sIf (mOr (mNot (mB (mIsi 3 .tup (mVar 2)))) (mNot (mB (mChain pLe pLe (mC (.int 1)) (mCall cLen (mCons (mVar 2) mNil)) (mC (.int 60))))))
    (sRet (mC (.bl false)))
    sNop)
    (sRet (mCall cAll (mCons (mLc (itS (mVar 2)) (tgN 3) mYes (mIsi 3 (.cls 0) (mVar 3)) [3]) mNil)))))))
def m_is_stretch : FnM := fnM fldT 4 b_is_stretch
def b_are_stretches : S :=
  (sSeq (sIf (mOr (mNot (mB (mIsi 3 .lst (mVar 0)))) (mNot (mB (mChain pLe pLe (mC (.int 1)) (mCall cLen (mCons (mVar 0) mNil)) (mC (.int 60))))))
    (sRet (mC (.bl false)))
    sNop)
    (sSeq (sIf (mNot (mB (mCall cAll (mCons (mLc (itS (mVar 0)) (tgN 3) mYes (mFn m_is_stretch [] (mCons (mVar 3) mNil)) [3]) mNil))))
    (sRet (mC (.bl false)))
    sNop)
    (sRet (mBin (pTr fldT (eqvN .Eq 3)) (mLc (itS (mVar 0)) (tgT 2 (tgCons (tgN 1) (tgCons (tgN 2) tgNil))) mYes (mBin pIsN1 (mVar 1) (mC .non)) [1, 2]) (mBin pAdd (mBin pMul (mLst (mCons (mC (.bl false)) mNil)) (mBin pSub (mCall cLen (mCons (mVar 0) mNil)) (mC (.int 1)))) (mLst (mCons (mC (.bl true)) mNil)))))))
def m_are_stretches : FnM := fnM fldT 4 b_are_stretches
def b_Course_lay : S :=
  (sSeq (sFld 1 0 (mVar 0) (mLstO (mCons (mC (.int 0)) mNil)))
    (sSeq (sFor (itS (mSl (mVar 1) oNo (oYes (mNeg (mC (.int 1)))))) (tgT 2 (tgCons (tgN 2) (tgCons (tgN 3) tgNil)))
    (sExpr (mMet fAppend (mFld 1 0 (mVar 0)) (mCons (mBin pAdd (mBin pIx (mFld 1 0 (mVar 0)) (mNeg (mC (.int 1)))) (mVar 2)) mNil))))
    (sFld 1 1 (mVar 0) (mLc (itS (mVar 1)) (tgT 2 (tgCons (tgN 2) (tgCons (tgN 3) tgNil))) mYes (mVar 3) [2, 3]))))
def m_Course_lay : Nat → FnM := fnS 4 b_Course_lay
def b_Course_init : S :=
  (sSeq (sIf (mNot (mB (mFn m_are_stretches [] (mCons (mVar 1) mNil))))
    sNo
    sNop)
    (sExpr (mMetS m_Course_lay 1 (mVar 0) (mCons (mVar 1) mNil))))
def m_Course_init : Nat → FnM := iniS 1 2 b_Course_init
def b_days_of : S :=
  (sRetC 0 0 2 (mCons (mFld 1 0 (mVar 0)) (mCons (mLc (itS (mFld 1 1 (mVar 0))) (tgN 1) mYes (mCall cLen (mCons (mVar 1) mNil)) [1]) mNil)))
def m_days_of : Nat → FnM := fnK 2 b_days_of
def b_first_unlike : S :=
  (sRet (mFn m_unlike_from [] (mCons (mMkS m_days_of (mCons (mVar 0) mNil)) (mCons (mMkS m_days_of (mCons (mVar 1) mNil)) (mCons (mC (.int 0)) (mCons (mC (.int 0)) mNil))))))
def m_first_unlike : FnM := fnM fldT 2 b_first_unlike
def b_Course_eq : S :=
  (sRet (mAndV (mIsi 3 (.cls 1) (mVar 1)) (mBin pIsN1 (mFn m_first_unlike [] (mCons (mVar 0) (mCons (mVar 1) mNil))) (mC .non))))
def m_Course_eq : FnM := fnM fldT 2 b_Course_eq
def qShare : PV → PV → Option Bool := fun x y => match x with
  | .obj 0 xs => match y with
    | .obj 0 ys => eqO xs ys
    | .obj 1 _ => some false
    | y => if oddV y = true then some false else none
  | _ => none
def qCourse : PV → PV → Option Bool := fun x y => match x with
  | .obj 1 xs => match y with
    | .obj 1 ys => match m_first_unlike [.obj 1 xs, .obj 1 ys] [] with
      | .ok .non [] => some true
      | .ok (.int _) [] => some false
      | _ => none
    | .obj 0 _ => some false
    | y => if oddV y = true then some false else none
  | _ => none
def b_law_well : S :=
  (sRet (mLstO (mCons (mBin pMul (mVar 0) (mCall cInt (mCons (mBin pGe (mVar 0) (mBin pPow (mC (.int 10)) (mC (.int 18)))) mNil))) (mCons (mBin pMod (mVar 0) (mC (.int 2147483647))) (mCons (mC (.int 0)) mNil)))))
def m_law_well : FnM := fnO 1 b_law_well
def b_law_draw : S :=
  (sSeq (sIf (mB (mBin pGt (mBin pIx (mVar 0) (mC (.int 0))) (mC (.int 0))))
    (sSeq (sSet (mBin pMod (mBin pIx (mVar 0) (mC (.int 0))) (mVar 1)) 2)
    (sSeq (sIx (mVar 0) (mC (.int 0)) (mBin pDiv (mBin pIx (mVar 0) (mC (.int 0))) (mVar 1)))
    (sRet (mVar 2))))
    sNop)
    (sSeq (sIx (mVar 0) (mC (.int 2)) (mBin pAdd (mBin pIx (mVar 0) (mC (.int 2))) (mC (.int 1))))
    (sSeq (sSet (mBin pIx (mLst (mCons (mC (.int 2147483647)) (mCons (mC (.int 2147483629)) (mCons (mC (.int 2147483587)) (mCons (mC (.int 2147483579)) (mCons (mC (.int 2147483563)) (mCons (mC (.int 2147483549)) (mCons (mC (.int 2147483543)) mNil)))))))) (mBin pMod (mBin pIx (mVar 0) (mC (.int 2))) (mC (.int 7)))) 3)
    (sSeq (sSet (mBin pMod (mBin pPow (mBin pAdd (mBin pAdd (mBin pIx (mVar 0) (mC (.int 1))) (mBin pMul (mC (.int 7919)) (mBin pIx (mVar 0) (mC (.int 2))))) (mC (.int 1))) (mC (.int 5))) (mVar 3)) 4)
    (sSeq (sSet (mBin pMod (mBin pMul (mBin pAdd (mVar 4) (mBin pIx (mVar 0) (mC (.int 2)))) (mBin pAdd (mBin pDiv (mVar 4) (mC (.int 1009))) (mC (.int 69621)))) (mVar 3)) 4)
    (sRet (mBin pMod (mBin pDiv (mVar 4) (mC (.int 7))) (mVar 1))))))))
def m_law_draw : FnM := fnM fldT 5 b_law_draw
def b_law_one : S :=
  (sRet (mBin pIx (mVar 1) (mFn m_law_draw [] (mCons (mVar 0) (mCons (mCall cLen (mCons (mVar 1) mNil)) mNil)))))
def m_law_one : FnM := fnM fldT 2 b_law_one
def b_law_low : S :=
  (sSeq (sPar 2 3 (mCons (mCall cAbs (mCons (mVar 0) mNil)) (mCons (mCall cAbs (mCons (mVar 1) mNil)) mNil)))
    (sSeq (loopW (mB (mBin pGt (mVar 3) (mC (.int 0))))
    (sPar 2 3 (mCons (mVar 3) (mCons (mBin pMod (mVar 2) (mVar 3)) mNil))) fuel)
    (sSeq (sIf (mB (mBin pLt (mVar 1) (mC (.int 0))))
    (sSet (mBin pSub (mC (.int 0)) (mVar 2)) 2)
    sNop)
    (sRet (mTup (mCons (mBin pDiv (mVar 0) (mVar 2)) (mCons (mBin pDiv (mVar 1) (mVar 2)) mNil)))))))
def m_law_low : FnM := fnM fldT 4 b_law_low
def b_law_sum : S :=
  (sSeq (sAsg (mTup (mCons (mC (.int 0)) (mCons (mC (.int 1)) mNil))) (tgT 2 (tgCons (tgN 1) (tgCons (tgN 2) tgNil))))
    (sSeq (sFor (itS (mVar 0)) (tgT 2 (tgCons (tgN 3) (tgCons (tgN 4) tgNil)))
    (sAsg (mFn m_law_low [] (mCons (mBin pAdd (mBin pMul (mVar 1) (mVar 4)) (mBin pMul (mVar 3) (mVar 2))) (mCons (mBin pMul (mVar 2) (mVar 4)) mNil))) (tgT 2 (tgCons (tgN 1) (tgCons (tgN 2) tgNil)))))
    (sRet (mTup (mCons (mVar 1) (mCons (mVar 2) mNil))))))
def m_law_sum : FnM := fnM fldT 5 b_law_sum
def b_law_word : S :=
  (sSeq (sSet (mBin pAdd (mC (.int 1)) (mFn m_law_draw [] (mCons (mVar 0) (mCons (mFn m_law_one [] (mCons (mVar 0) (mCons (mLst (mCons (mC (.int 1)) (mCons (mC (.int 1)) (mCons (mC (.int 3)) mNil)))) mNil))) mNil)))) 3)
    (sSeq (sSet (mFn m_law_one [] (mCons (mVar 0) (mCons (mLst (mCons (mC (.int 2)) (mCons (mC (.int 3)) (mCons (mC (.int 7)) mNil)))) mNil))) 4)
    (sRet (mLc (itR1 (mCons (mBin pAdd (mC (.int 1)) (mFn m_law_draw [] (mCons (mVar 0) (mCons (mVar 1) mNil)))) mNil)) (tgN 5) mYes (mFn m_law_low [] (mCons (mBin pSub (mFn m_law_draw [] (mCons (mVar 0) (mCons (mVar 4) mNil))) (mBin pMul (mVar 2) (mFn m_law_draw [] (mCons (mVar 0) (mCons (mC (.int 3)) mNil))))) (mCons (mVar 3) mNil))) [5]))))
def m_law_word : FnM := fnM fldT 6 b_law_word
def b_law_stretches : S :=
  (sSeq (sSet (mLstO mNil) 5)
    (sSeq (sFor (itR1 (mCons (mFn m_law_draw [] (mCons (mVar 0) (mCons (mVar 1) mNil))) mNil)) (tgN 6)
    (sExpr (mMet fAppend (mVar 5) (mCons (mTup (mCons (mBin pAdd (mC (.int 1)) (mFn m_law_draw [] (mCons (mVar 0) (mCons (mVar 3) mNil)))) (mCons (mFn m_law_word [] (mCons (mVar 0) (mCons (mVar 2) (mCons (mVar 4) mNil)))) mNil))) mNil))))
    (sRet (mBin pAdd (mVar 5) (mLst (mCons (mTup (mCons (mC .non) (mCons (mFn m_law_word [] (mCons (mVar 0) (mCons (mVar 2) (mCons (mVar 4) mNil)))) mNil))) mNil))))))
def m_law_stretches : FnM := fnM fldT 7 b_law_stretches
def b_law_course : S :=
  (sRet (mMkS m_Course_init (mCons (mLc (itS (mVar 0)) (tgT 2 (tgCons (tgN 1) (tgCons (tgN 2) tgNil))) mYes (mTup (mCons (mVar 1) (mCons (mCall cTuple (mCons (mLc (itS (mVar 2)) (tgT 2 (tgCons (tgN 3) (tgCons (tgN 4) tgNil))) mYes (mFn m_Share_init [] (mCons (mVar 3) (mCons (mVar 4) mNil))) [3, 4]) mNil)) mNil))) [1, 2]) mNil)))
def m_law_course : FnM := fnM fldT 5 b_law_course
def b_law_on : S :=
  (sSeq (sFor (itS (mVar 0)) (tgT 2 (tgCons (tgN 2) (tgCons (tgN 3) tgNil)))
    (sSeq (sIf (mOr (mB (mBin pIsN1 (mVar 2) (mC .non))) (mB (mBin pLt (mVar 1) (mVar 2))))
    (sRet (mBin pIx (mVar 3) (mBin pMod (mVar 1) (mCall cLen (mCons (mVar 3) mNil)))))
    sNop)
    (sSet (mBin pSub (mVar 1) (mVar 2)) 1)))
    (sRet (mTup (mCons (mC (.int 0)) (mCons (mC (.int 1)) mNil)))))
def m_law_on : FnM := fnM fldT 4 b_law_on
def b_law_turned : S :=
  (sSeq (sSet (mBin pMod (mVar 1) (mCall cLen (mCons (mVar 0) mNil))) 1)
    (sRet (mBin pAdd (mSl (mVar 0) (oYes (mVar 1)) oNo) (mSl (mVar 0) oNo (oYes (mVar 1))))))
def m_law_turned : FnM := fnM fldT 2 b_law_turned
def b_law_cut : S :=
  (sSeq (sSet (mLstO mNil) 2)
    (sSeq (sSet (mC (.int 0)) 3)
    (sSeq (sFor (itS (mVar 0)) (tgT 2 (tgCons (tgN 4) (tgCons (tgN 5) tgNil)))
    (sSeq (sSet (mBin pSub (mVar 1) (mVar 3)) 6)
    (sSeq (sIf (mAnd (mB (mBin pGt (mVar 6) (mC (.int 0)))) (mOr (mB (mBin pIsN1 (mVar 4) (mC .non))) (mB (mBin pLt (mVar 6) (mVar 4)))))
    (sSeq (sExpr (mMet fAppend (mVar 2) (mCons (mTup (mCons (mVar 6) (mCons (mVar 5) mNil))) mNil)))
    (sSeq (sSet (mC .non) 7)
    (sSeq (sIf (mB (mBin pNotN1 (mVar 4) (mC .non)))
    (sSet (mBin pSub (mVar 4) (mVar 6)) 7)
    sNop)
    (sExpr (mMet fAppend (mVar 2) (mCons (mTup (mCons (mVar 7) (mCons (mFn m_law_turned [] (mCons (mVar 5) (mCons (mVar 6) mNil))) mNil))) mNil))))))
    (sExpr (mMet fAppend (mVar 2) (mCons (mTup (mCons (mVar 4) (mCons (mVar 5) mNil))) mNil))))
    (sIf (mB (mBin pNotN1 (mVar 4) (mC .non)))
    (sSet (mBin pAdd (mVar 3) (mVar 4)) 3)
    sNop))))
    (sRet (mVar 2)))))
def m_law_cut : FnM := fnO 8 b_law_cut
def b_law_otherwise : S :=
  (sSeq (sSet (mVar 1) 2)
    (sSeq (sFor (itR1 (mCons (mBin pAdd (mC (.int 1)) (mFn m_law_draw [] (mCons (mVar 0) (mCons (mC (.int 4)) mNil)))) mNil)) (tgN 3)
    (sSet (mFn m_law_cut [] (mCons (mVar 2) (mCons (mFn m_law_draw [] (mCons (mVar 0) (mCons (mFn m_law_one [] (mCons (mVar 0) (mCons (mLst (mCons (mC (.int 9)) (mCons (mC (.int 90)) (mCons (mBin pPow (mC (.int 10)) (mC (.int 12))) mNil)))) mNil))) mNil))) mNil))) 2))
    (sSeq (sSet (mFn m_law_draw [] (mCons (mVar 0) (mCons (mCall cLen (mCons (mVar 2) mNil)) mNil))) 4)
    (sSeq (sIx (mVar 2) (mVar 4) (mTup (mCons (mBin pIx (mBin pIx (mVar 2) (mVar 4)) (mC (.int 0))) (mCons (mBin pMul (mBin pIx (mBin pIx (mVar 2) (mVar 4)) (mC (.int 1))) (mBin pAdd (mC (.int 1)) (mFn m_law_draw [] (mCons (mVar 0) (mCons (mC (.int 3)) mNil))))) mNil))))
    (sRet (mVar 2))))))
def m_law_otherwise : FnM := fnM fldT 5 b_law_otherwise
def b_law_changed : S :=
  (sSeq (sSet (mFn m_law_cut [] (mCons (mFn m_law_cut [] (mCons (mVar 1) (mCons (mVar 2) mNil))) (mCons (mBin pAdd (mVar 2) (mC (.int 1))) mNil))) 3)
    (sSeq (sSet (mC (.int 0)) 4)
    (sSeq (sSet (mLstO mNil) 5)
    (sSeq (sFor (itS (mVar 3)) (tgT 2 (tgCons (tgN 6) (tgCons (tgN 7) tgNil)))
    (sSeq (sIf (mB (mBin pEq (mVar 4) (mVar 2)))
    (sSet (mBin pAdd (mLst (mCons (mFn m_law_sum [] (mCons (mLst (mCons (mBin pIx (mVar 7) (mC (.int 0))) (mCons (mTup (mCons (mBin pAdd (mC (.int 1)) (mFn m_law_draw [] (mCons (mVar 0) (mCons (mC (.int 3)) mNil)))) (mCons (mC (.int 2)) mNil))) mNil))) mNil)) mNil)) (mSl (mVar 7) (oYes (mC (.int 1))) oNo)) 7)
    sNop)
    (sSeq (sExpr (mMet fAppend (mVar 5) (mCons (mTup (mCons (mVar 6) (mCons (mVar 7) mNil))) mNil)))
    (sIf (mB (mBin pNotN1 (mVar 6) (mC .non)))
    (sSet (mBin pAdd (mVar 4) (mVar 6)) 4)
    sNop))))
    (sRet (mVar 5))))))
def m_law_changed : FnM := fnM fldT 8 b_law_changed
def b_law_first : S :=
  (sSeq (sSet (mLstO (mCons (mC (.int 0)) mNil)) 2)
    (sSeq (sFor (itS (mLst (mCons (mVar 0) (mCons (mVar 1) mNil)))) (tgN 3)
    (sSeq (sSet (mC (.int 0)) 4)
    (sFor (itS (mSl (mVar 3) oNo (oYes (mNeg (mC (.int 1)))))) (tgT 2 (tgCons (tgN 5) (tgCons (tgN 6) tgNil)))
    (sSeq (sSet (mBin pAdd (mVar 4) (mVar 5)) 4)
    (sExpr (mMet fAppend (mVar 2) (mCons (mVar 4) mNil)))))))
    (sSeq (sSet (mSortSI (mVar 2)) 2)
    (sSeq (sFor (itZA (mCons (mVar 2) (mCons (mBin pAdd (mSl (mVar 2) (oYes (mC (.int 1))) oNo) (mLst (mCons (mC .non) mNil))) mNil))) (tgT 2 (tgCons (tgN 7) (tgCons (tgN 8) tgNil)))
    (sSeq (sSet (mBin pAdd (mVar 7) (mC (.int 40))) 9)
    (sSeq (sIf (mB (mBin pNotN1 (mVar 8) (mC .non)))
    (sSet (mCall cMin (mCons (mVar 9) (mCons (mVar 8) mNil))) 9)
    sNop)
    (sFor (itR2 (mCons (mVar 7) (mCons (mVar 9) mNil))) (tgN 10)
    (sIf (mB (mBin (pTr fldT (eqvN .NotEq 3)) (mFn m_law_on [] (mCons (mVar 0) (mCons (mVar 10) mNil))) (mFn m_law_on [] (mCons (mVar 1) (mCons (mVar 10) mNil)))))
    (sRet (mVar 10))
    sNop)))))
    (sRet (mC .non))))))
def m_law_first : FnM := fnM fldT 11 b_law_first
def b_law_right : S :=
  (sSeq (sSet (mFn m_law_first [] (mCons (mVar 0) (mCons (mVar 1) mNil))) 2)
    (sSeq (sPar 3 4 (mCons (mFn m_law_course [] (mCons (mVar 0) mNil)) (mCons (mFn m_law_course [] (mCons (mVar 1) mNil)) mNil)))
    (sSeq (sIf (mOr (mB (mBin pNe (mFn m_first_unlike [] (mCons (mVar 3) (mCons (mVar 4) mNil))) (mVar 2))) (mB (mBin pNe (mFn m_first_unlike [] (mCons (mVar 4) (mCons (mVar 3) mNil))) (mVar 2))))
    (sRet (mC (.bl false)))
    sNop)
    (sRet (mAndV (mBin pEq (mBin (pTr fldT qCourse) (mVar 3) (mVar 4)) (mBin pIsN1 (mVar 2) (mC .non))) (mBin pEq (mBin (pTr fldT (fun x y => (qCourse x y).map (!·))) (mVar 4) (mVar 3)) (mBin pNotN1 (mVar 2) (mC .non))))))))
def m_law_right : FnM := fnM fldT 5 b_law_right
def b_law : S :=
  (sSeq (sFor (itS (mBin pAdd (mSl (mVar 0) oNo (oYes (mC (.int 8)))) (mLst (mCons (mC (.int 0)) (mCons (mC (.int 1)) mNil))))) (tgN 1)
    (sSeq (sSet (mFn m_law_well [] (mCons (mVar 1) mNil)) 2)
    (sSeq (sSet (mFn m_law_stretches [] (mCons (mVar 2) (mCons (mC (.int 4)) (mCons (mC (.int 4)) (mCons (mFn m_law_one [] (mCons (mVar 2) (mCons (mLst (mCons (mC (.int 9)) (mCons (mC (.int 40)) (mCons (mBin pPow (mC (.int 10)) (mC (.int 12))) mNil)))) mNil))) (mCons (mC (.int 1)) mNil)))))) 3)
    (sSeq (sSet (mFn m_law_otherwise [] (mCons (mVar 2) (mCons (mVar 3) mNil))) 4)
    (sSeq (sIf (mOr (mB (mBin pNotN1 (mFn m_law_first [] (mCons (mVar 3) (mCons (mVar 4) mNil))) (mC .non))) (mNot (mB (mFn m_law_right [] (mCons (mVar 3) (mCons (mVar 4) mNil))))))
    (sRet (mC (.bl false)))
    sNop)
    (sSeq (sSet (mFn m_law_draw [] (mCons (mVar 2) (mCons (mFn m_law_one [] (mCons (mVar 2) (mCons (mLst (mCons (mC (.int 12)) (mCons (mC (.int 99)) (mCons (mBin pPow (mC (.int 10)) (mC (.int 12))) mNil)))) mNil))) mNil))) 5)
    (sSeq (sIf (mNot (mB (mFn m_law_right [] (mCons (mFn m_law_changed [] (mCons (mVar 2) (mCons (mVar 4) (mCons (mVar 5) mNil)))) (mCons (mVar 3) mNil)))))
    (sRet (mC (.bl false)))
    sNop)
    (sSeq (sIf (mNot (mB (mFn m_law_right [] (mCons (mVar 3) (mCons (mFn m_law_stretches [] (mCons (mVar 2) (mCons (mC (.int 3)) (mCons (mC (.int 3)) (mCons (mC (.int 9)) (mCons (mC (.int 1)) mNil)))))) mNil)))))
    (sRet (mC (.bl false)))
    sNop)
    (sSeq (sSet (mFn m_law_changed [] (mCons (mVar 2) (mCons (mVar 3) (mCons (mVar 5) mNil)))) 6)
    (sSeq (sIf (mB (mBin (pTr fldT (eqvN .NotEq 3)) (mFn m_first_unlike [] (mCons (mFn m_law_course [] (mCons (mVar 3) mNil)) (mCons (mFn m_law_course [] (mCons (mVar 6) mNil)) mNil))) (mVar 5)))
    (sRet (mC (.bl false)))
    sNop)
    (sSeq (sSet (mFn m_law_course [] (mCons (mVar 3) mNil)) 7)
    (sSeq (sSet (mFn m_law_one [] (mCons (mVar 2) (mCons (mLst (mCons (mC .non) (mCons (mC (.int 0)) (mCons (mVar 3) (mCons (mC (.str "course")) (mCons (mLst (mCons (mVar 7) mNil)) (mCons (mFn m_Share_init [.int 1] (mCons (mC (.int 1)) mNil)) (mCons (mBin pEq (mC (.int 1)) (mC (.int 1))) (mCons (mC .dct) mNil))))))))) mNil))) 8)
    (sIf (mOr (mB (mBin (pTr fldT qCourse) (mVar 7) (mVar 8))) (mOr (mB (mBin (pTr fldT (fOr (fRC qCourse) qShare)) (mVar 8) (mVar 7))) (mNot (mB (mBin (pTr fldT (fun x y => (qCourse x y).map (!·))) (mVar 7) (mVar 8))))))
    (sRet (mC (.bl false)))
    sNop)))))))))))))
    (sRet (mC (.bl true))))
def m_law : FnM := fnM fldT 9 b_law
theorem eqD_pair (a b c d : Int) : eqD (.tup [.int a, .int b]) (.tup [.int c, .int d]) = some (decide (a = c) && decide (b = d)) := by
  show (if SeqAt.shaped (.tuple [.int a, .int b]) = true ∧ SeqAt.shaped (.tuple [.int c, .int d]) = true then some (PyData.eqv (.tuple [.int a, .int b]) (.tuple [.int c, .int d])) else none) = _
  rw [if_pos ⟨rfl, rfl⟩]
  by_cases h1 : a = c <;> by_cases h2 : b = d <;> simp [PyData.eqv, PyData.eqvAll, h1, h2]
theorem pq_Share : ∀ x y b p, fO 0 eqO x y = some b → m_Share_eq [x, y] p = .ok (.bl b) p := by
  intro x y b p h
  unfold fO at h
  split at h
  · rename_i d xs
    by_cases hd : d = 0
    · subst hd
      rw [if_pos rfl] at h
      have no : ∀ t, tyP 3 p y = some t → isT (.cls 0) t = false → b = false → m_Share_eq [.obj 0 xs, y] p = .ok (.bl b) p := fun t ht hf hb => by
        subst hb
        have e := isi_ok (n := 3) (T := .cls 0) (a := mVar 1) (en := ⟨p.length, [some (.obj 0 xs), some y]⟩) (p := p) (var_ok rfl) ht
        rw [hf] at e
        unfold m_Share_eq
        exact fnM_pure (ret_ok (andV_f e)) rfl
      cases y with
      | obj e ys =>
        dsimp only at h
        by_cases he : e = 0
        · subst he
          rw [if_pos rfl] at h
          unfold eqO at h
          split at h
          · rename_i a b' c d
            have h := Option.some.inj h
            subst h
            unfold m_Share_eq
            refine fnM_pure (ret_ok ((andV_t (isi_ok (t := .cls 0) (var_ok (x := .obj 0 [.int c, .int d]) rfl) rfl)).trans ?_)) rfl
            refine bin_ok (tup_ok (two_ok (getF_ok (x := .obj 0 [.int a, .int b']) (var_ok rfl) rfl) (getF_ok (x := .obj 0 [.int a, .int b']) (var_ok rfl) rfl))) (tup_ok (two_ok (getF_ok (x := .obj 0 [.int c, .int d]) (var_ok rfl) rfl) (getF_ok (x := .obj 0 [.int c, .int d]) (var_ok rfl) rfl))) ?_
            unfold pEq
            rw [eqD_pair]
          · cases h
        · rw [if_neg he] at h
          cases h
      | non => exact no .non rfl rfl (Option.some.inj h).symm
      | bl z => exact no .bl rfl rfl (Option.some.inj h).symm
      | int z => exact no .int rfl rfl (Option.some.inj h).symm
      | str z => exact no .str rfl rfl (Option.some.inj h).symm
      | tup z => exact no .tup rfl rfl (Option.some.inj h).symm
      | lst z => exact no .lst rfl rfl (Option.some.inj h).symm
      | own z => cases h
      | scr z => cases h
      | xs z z2 => cases h
      | xv z z2 => cases h
      | fn z => cases h
      | dct => cases h
      | adr z => cases h
      | clo z z2 => cases h
    · rw [if_neg hd] at h
      cases h
  · cases h
theorem no_Share_eq {xs : List PV} {y : PV} {t : Ty} (ht : tyP 3 [] y = some t) (hf : isT (.cls 0) t = false) : m_Share_eq [.obj 0 xs, y] [] = .ok (.bl false) [] := by
  have e := isi_ok (n := 3) (T := .cls 0) (a := mVar 1) (en := ⟨([] : Pool).length, [some (.obj 0 xs), some y]⟩) (p := []) (var_ok rfl) ht
  rw [hf] at e
  unfold m_Share_eq
  exact fnM_pure (ret_ok (andV_f e)) rfl
theorem qo_Share : ∀ x y b, qShare x y = some b → (∃ xs, x = .obj 0 xs) ∧ ((∃ ys, y = .obj 0 ys) ∨ (∃ d ys, y = .obj d ys ∧ (d == 1) = true) ∨ oddV y = true) := fun x y b e => by
  unfold qShare at e
  split at e
  · rename_i xs
    refine ⟨⟨xs, rfl⟩, ?_⟩
    split at e
    · exact .inl ⟨_, rfl⟩
    · exact .inr (.inl ⟨1, _, rfl, rfl⟩)
    · split at e
      · rename_i h
        exact .inr (.inr h)
      · cases e
  · cases e
theorem pqc_Share : ∀ x y b, qShare x y = some b → m_Share_eq [x, y] [] = .ok (.bl b) [] := fun x y b e => by
  unfold qShare at e
  split at e
  · rename_i xs
    split at e
    · rename_i ys
      exact pq_Share _ _ _ [] (by unfold fO; dsimp only; rw [if_pos rfl, if_pos rfl]; exact e)
    · cases e
      exact no_Share_eq rfl rfl
    · split at e
      case isFalse => cases e
      rename_i hp
      cases e
      cases y with
      | non => exact no_Share_eq rfl rfl
      | bl z => exact no_Share_eq rfl rfl
      | int z => exact no_Share_eq rfl rfl
      | str z => exact no_Share_eq rfl rfl
      | tup z => exact no_Share_eq rfl rfl
      | lst z => exact no_Share_eq rfl rfl
      | dct => exact no_Share_eq rfl rfl
      | _ => cases hp
  · cases e
theorem no_Course_eq {xs : List PV} {y : PV} {t : Ty} (ht : tyP 3 [] y = some t) (hf : isT (.cls 1) t = false) : m_Course_eq [.obj 1 xs, y] [] = .ok (.bl false) [] := by
  have e := isi_ok (n := 3) (T := .cls 1) (a := mVar 1) (en := ⟨([] : Pool).length, [some (.obj 1 xs), some y]⟩) (p := []) (var_ok rfl) ht
  rw [hf] at e
  unfold m_Course_eq
  exact fnM_pure (ret_ok (andV_f e)) rfl
theorem qo_Course : ∀ x y b, qCourse x y = some b → (∃ xs, x = .obj 1 xs) ∧ ((∃ ys, y = .obj 1 ys) ∨ (∃ d ys, y = .obj d ys ∧ (d == 0) = true) ∨ oddV y = true) := fun x y b e => by
  unfold qCourse at e
  split at e
  · rename_i xs
    refine ⟨⟨xs, rfl⟩, ?_⟩
    split at e
    · exact .inl ⟨_, rfl⟩
    · exact .inr (.inl ⟨0, _, rfl, rfl⟩)
    · split at e
      · rename_i h
        exact .inr (.inr h)
      · cases e
  · cases e
theorem pqc_Course : ∀ x y b, qCourse x y = some b → m_Course_eq [x, y] [] = .ok (.bl b) [] := fun x y b e => by
  unfold qCourse at e
  split at e
  · rename_i xs
    split at e
    · rename_i ys
      have go : ∀ z, m_first_unlike [.obj 1 xs, .obj 1 ys] [] = .ok z [] → m_Course_eq [.obj 1 xs, .obj 1 ys] [] = .ok (.bl (isNon z)) [] := fun z hz => by
        unfold m_Course_eq
        refine fnM_pure (ret_ok ((andV_t (isi_ok (t := .cls 1) (var_ok (x := .obj 1 ys) rfl) rfl)).trans ?_)) rfl
        exact bin_ok (fn0_ok (two_ok (var_ok rfl) (var_ok rfl)) hz) c_ok rfl
      split at e
      · rename_i h
        cases e
        exact go _ h
      · rename_i h
        cases e
        exact go _ h
      · cases e
    · cases e
      exact no_Course_eq rfl rfl
    · split at e
      case isFalse => cases e
      rename_i hp
      cases e
      cases y with
      | non => exact no_Course_eq rfl rfl
      | bl z => exact no_Course_eq rfl rfl
      | int z => exact no_Course_eq rfl rfl
      | str z => exact no_Course_eq rfl rfl
      | tup z => exact no_Course_eq rfl rfl
      | lst z => exact no_Course_eq rfl rfl
      | dct => exact no_Course_eq rfl rfl
      | _ => cases hp
  · cases e
section
variable {P : Program} {w : World} {K : PySem.W.Frag} {mg : Str → Option Value} {base : Heap}
theorem ok_is_whole (T : Facts K mg) (B : TBs T base) : FnOk P w K mg base (L2.CX P w) 1 T.f_is_whole T.d_is_whole ["thing"] (spM (cfg T) 1 m_is_whole) :=
  ok_fn (k := 0) T.F_is_whole sc_is_whole rfl b_is_whole (fun cdv A outer s H E hr => (rss_one (rs_ret (re_and (re_isi (x := "") (n := 3) (T := .int) rfl T.isF T.isA_int (rv 0) (pe_tyN rfl T.n_int PyProof.Rows.Boot.«int») (.ty _) rfl T.n_isinstance) (re_one (re_not (re_isi (x := "") (n := 3) (T := .bl) rfl T.isF T.isA_bool (rv 0) (pe_tyN rfl T.n_bool PyProof.Rows.Boot.«bool») (.ty _) rfl T.n_isinstance)))))))
theorem ok_common_of (T : Facts K mg) (B : TBs T base) : FnOk P w K mg base (L2.CX P w) 1 T.f_common_of T.d_common_of ["one", "other"] (spM (cfg T) 2 m_common_of) :=
  ok_fn (k := 0) T.F_common_of sc_common_of rfl b_common_of (fun cdv A outer s H E hr => (rss_cons (rs_while fuel (passes_of rfl) (rt_cmp (op_neD hr.units) ref_ne (rv 1) re_int (nomark _)) (rss_one (rs_par (i := 0) (j := 1) rfl sc_common_of.nd rfl rfl (by decide) rfl rfl (ra_cons (rv 1) (ra_cons (re_bin op_modN ref_mod (rv 0) (rv 1)) ra_nil)) (by rfl)))) (rss_one (rs_ret (re_callB call_abs ref_abs (by rfl) T.n_abs PyProof.Rows.Boot.«abs» (ra_cons (rv 0) ra_nil))))))
theorem ok_Share_init (T : Facts K mg) (B : TBs T base) : FnOk P w K mg base (L2.CX P w) 2 T.f_Share_init T.d_Share_init ["self", "top", "bottom"] (spI (cfg T) 0 3 m_Share_init) :=
  ok_init (c := 0) (k := 1) T.F_Share_init sc_Share_init rfl b_Share_init (fun cdv A outer s H E hr => (rss_cons (rs_if (rt_w (rw_or (rt_not (rt_val (re_fn (ok_is_whole T B) (hr.mono (by decide)) rfl T.g_is_whole T.F_is_whole.kp T.b_is_whole .nil rfl (takes_of rfl rfl rfl rfl) (ra_cons (rv 1) ra_nil) rfl))) (rw_or (rt_not (rt_val (re_fn (ok_is_whole T B) (hr.mono (by decide)) rfl T.g_is_whole T.F_is_whole.kp T.b_is_whole .nil rfl (takes_of rfl rfl rfl rfl) (ra_cons (rv 2) ra_nil) rfl))) (rw_or1 (rt_cmp (op_eqD hr.units) ref_eq (rv 2) re_int (nomark _)))))) (rss_one rs_no) rss_nil) (rss_cons (rs_set (i := 3) sc_Share_init.nd rfl (Or.inl rfl) (re_fn (ok_common_of T B) (hr.mono (by decide)) rfl T.g_common_of T.F_common_of.kp T.b_common_of .nil rfl (takes_of rfl rfl rfl rfl) (ra_cons (rv 1) (ra_cons (rv 2) ra_nil)) rfl)) (rss_cons (rs_if (rt_cmp op_lt ref_lt (rv 2) re_int (nomark _)) (rss_one (rs_set (i := 3) sc_Share_init.nd rfl (Or.inl rfl) (re_bin op_sub ref_sub re_int (rv 3)))) rss_nil) (rss_cons (rs_fld rfl T.k_Share rfl (rv 0) (re_bin op_div ref_div (rv 1) (rv 3))) (rss_one (rs_fld rfl T.k_Share rfl (rv 0) (re_bin op_div ref_div (rv 2) (rv 3)))))))))
theorem ok_Share_eq (T : Facts K mg) (B : TBs T base) : FnOk P w K mg base (L2.CX P w) 1 T.f_Share_eq T.d_Share_eq ["self", "other"] (spM (cfg T) 2 m_Share_eq) :=
  ok_fn (k := 0) T.F_Share_eq sc_Share_eq rfl b_Share_eq (fun cdv A outer s H E hr => (rss_one (rs_ret (re_and (re_isi (x := "") (n := 3) (T := .cls 0) rfl T.isF T.isA_Share (rv 1) (pe_clsN rfl T.gc_Share) (.own _) rfl T.n_isinstance) (re_one (re_cmp (op_eqD hr.units) ref_eq (re_tup (ra_cons (re_fld rfl T.k_Share rfl (rv 0)) (ra_cons (re_fld rfl T.k_Share rfl (rv 0)) ra_nil))) (re_tup (ra_cons (re_fld rfl T.k_Share rfl (rv 1)) (ra_cons (re_fld rfl T.k_Share rfl (rv 1)) ra_nil))) (nomark _)))))))
theorem eqf_Share {X : Cx} (T : Facts X.K X.mg) (B : TBs T X.base) : EqF X (cfg T) 1 0 eqO :=
  ⟨⟨T.f_Share_eq, T.d_Share_eq, ["self", "other"], m_Share_eq, ok_Share_eq T B, T.i_Share_eq, T.t_Share_eq, T.b_Share_eq, pq_Share⟩, T.ne_Share, T.mr_Share, fun t h => by
    simp only [List.mem_cons, List.not_mem_nil, or_false] at h
    rcases h with rfl | rfl | rfl | rfl | rfl | rfl
    · exact notFirst_of T.sT_Share_NoneType
    · exact notFirst_of T.sT_Share_bool
    · exact notFirst_of T.sT_Share_int
    · exact notFirst_of T.sT_Share_str
    · exact notFirst_of T.sT_Share_tuple
    · exact notFirst_of T.sT_Share_list,
  fun t h => by
    simp only [List.mem_cons, List.not_mem_nil, or_false] at h
    rcases h with rfl | rfl | rfl | rfl | rfl | rfl
    · exact T.sF_Share_NoneType
    · exact T.sF_Share_bool
    · exact T.sF_Share_int
    · exact T.sF_Share_str
    · exact T.sF_Share_tuple
    · exact T.sF_Share_list⟩
theorem eqc_Share {X : Cx} (T : Facts X.K X.mg) (B : TBs T X.base) : EqC X (cfg T) 1 0 (fun d => d == 1) qShare :=
  ⟨⟨T.f_Share_eq, T.d_Share_eq, ["self", "other"], m_Share_eq, ok_Share_eq T B, T.i_Share_eq, T.t_Share_eq, T.b_Share_eq, pqc_Share⟩, T.ne_Share, T.mr_Share, fun t h => by
    simp only [sevenT, List.mem_cons, List.not_mem_nil, or_false] at h
    rcases h with rfl | rfl | rfl | rfl | rfl | rfl | rfl
    · exact notFirst_of T.sT_Share_NoneType
    · exact notFirst_of T.sT_Share_bool
    · exact notFirst_of T.sT_Share_int
    · exact notFirst_of T.sT_Share_str
    · exact notFirst_of T.sT_Share_tuple
    · exact notFirst_of T.sT_Share_list
    · exact notFirst_of T.sT_Share_dict,
  fun t h => by
    simp only [sevenT, List.mem_cons, List.not_mem_nil, or_false] at h
    rcases h with rfl | rfl | rfl | rfl | rfl | rfl | rfl
    · exact T.sF_Share_NoneType
    · exact T.sF_Share_bool
    · exact T.sF_Share_int
    · exact T.sF_Share_str
    · exact T.sF_Share_tuple
    · exact T.sF_Share_list
    · exact T.sF_Share_dict, fun d hd => by
    have e := eq_of_beq hd
    subst e
    exact T.ss_Course_Share, qo_Share⟩
theorem ok_Days_init (T : Facts K mg) (B : TBs T base) : FnOk P w K mg base (L2.CX P w) 1 T.f_Days_init T.d_Days_init ["self", "value", "begins", "spans"] (spIS (cfg T) 2 4 m_Days_init) :=
  ok_initS (c := 2) (k := 0) T.F_Days_init sc_Days_init rfl b_Days_init (fun cdv A outer s H E hr => (rss_cons (rs_fld rfl T.k_Days rfl (rv 0) (rv 1)) (rss_cons (rs_fld rfl T.k_Days rfl (rv 0) (rv 2)) (rss_cons (rs_fld rfl T.k_Days rfl (rv 0) (rv 3)) (rss_one (rs_fld rfl T.k_Days rfl (rv 0) re_dnewKO))))))
theorem ok_stretch_at (T : Facts K mg) (B : TBs T base) : FnOk P w K mg base (L2.CX P w) 1 T.f_stretch_at T.d_stretch_at ["course", "day"] (spM (cfg T) 2 m_stretch_at) :=
  ok_fn (k := 0) T.F_stretch_at sc_stretch_at rfl b_stretch_at (fun cdv A outer s H E hr => (rss_cons (rs_set (i := 2) sc_stretch_at.nd rfl (Or.inl rfl) re_int) (rss_cons (rs_for (passes_of rfl) rfl (ri_enumA rfl (by rfl) T.n_enumerate (ra_cons (re_fld rfl T.k_Course rfl (rv 0)) ra_nil)) (rg_tup rfl rfl (rgs_cons (rg_name (i := 3) sc_stretch_at.nd rfl (Or.inl rfl)) (rgs_cons (rg_name (i := 4) sc_stretch_at.nd rfl (Or.inl rfl)) rgs_nil))) (rss_one (rs_if (rt_cmp op_le ref_le (rv 4) (rv 1) (nomark _)) (rss_one (rs_set (i := 2) sc_stretch_at.nd rfl (Or.inl rfl) (rv 3))) rss_nil))) (rss_one (rs_ret (rv 2))))))
theorem ok_share_of (T : Facts K mg) (B : TBs T base) : FnOk P w K mg base (L2.CX P w) 2 T.f_share_of T.d_share_of ["course", "day"] (spM (cfg T) 2 m_share_of) :=
  ok_fn (k := 1) T.F_share_of sc_share_of rfl b_share_of (fun cdv A outer s H E hr => (rss_cons (rs_set (i := 2) sc_share_of.nd rfl (Or.inl rfl) (re_fn (ok_stretch_at T B) (hr.mono (by decide)) rfl T.g_stretch_at T.F_stretch_at.kp T.b_stretch_at .nil rfl (takes_of rfl rfl rfl rfl) (ra_cons (rv 0) (ra_cons (rv 1) ra_nil)) rfl)) (rss_cons (rs_set (i := 3) sc_share_of.nd rfl (Or.inl rfl) (re_ix rfl (re_fld rfl T.k_Course rfl (rv 0)) (rv 2))) (rss_one (rs_ret (re_ix rfl (rv 3) (re_bin op_modN ref_mod (re_bin op_sub ref_sub (rv 1) (re_ix rfl (re_fld rfl T.k_Course rfl (rv 0)) (rv 2))) (re_callB (call_lenU rfl) ref_len (by rfl) T.n_len PyProof.Rows.Boot.«len» (ra_cons (rv 3) ra_nil)))))))))
theorem ok_Days_thing (T : Facts K mg) (B : TBs T base) : FnOk P w K mg base (L2.CX P w) 7 T.f_Days_thing T.d_Days_thing ["self", "day"] (spS (cfg T) 2 m_Days_thing) :=
  ok_fnS (k := 6) T.F_Days_thing sc_Days_thing rfl b_Days_thing (fun cdv A outer s H E hr => (rss_cons (rs_if (rt_kNotIn hr.units1 (rv 1) (re_fld rfl T.k_Days rfl (rv 0))) (rss_one (rs_kPut hr.units1 (re_fld rfl T.k_Days rfl (rv 0)) (rv 1) (re_clo (c := 2) (fi := 0) (t := tClos) rfl T.k_Days rfl ⟨fun j g e => match j, e with | 0, e => by cases e; exact ⟨lam_days_of, _, T.f_share_of, _, _, rfl, okL_days_of, ok_share_of T B, hr.mono (by decide), T.g_share_of, T.F_share_of.kp, T.b_share_of⟩ | _ + 1, e => by cases e⟩ (rv 0) (rv 1)))) rss_nil) (rss_one (rs_ret (re_kGet hr.units1 (re_fld rfl T.k_Days rfl (rv 0)) (rv 1) (by intro _ _; rfl))))))
theorem ok_Days_region (T : Facts K mg) (B : TBs T base) : FnOk P w K mg base (L2.CX P w) 3 T.f_Days_region T.d_Days_region ["self", "day"] (spS (cfg T) 2 m_Days_region) :=
  ok_fnS (k := 2) T.F_Days_region sc_Days_region rfl b_Days_region (fun cdv A outer s H E hr => (rss_cons (rs_set (i := 2) sc_Days_region.nd rfl (Or.inl rfl) re_int) (rss_cons (rs_for (passes_of rfl) rfl (ri_enumA rfl (by rfl) T.n_enumerate (ra_cons (re_fld rfl T.k_Days rfl (rv 0)) ra_nil)) (rg_tup rfl rfl (rgs_cons (rg_name (i := 3) sc_Days_region.nd rfl (Or.inl rfl)) (rgs_cons (rg_name (i := 4) sc_Days_region.nd rfl (Or.inl rfl)) rgs_nil))) (rss_one (rs_if (rt_cmp op_le ref_le (rv 4) (rv 1) (nomark _)) (rss_one (rs_set (i := 2) sc_Days_region.nd rfl (Or.inl rfl) (rv 3))) rss_nil))) (rss_one (rs_ret (rv 2))))))
theorem ok_Days_region_end (T : Facts K mg) (B : TBs T base) : FnOk P w K mg base (L2.CX P w) 3 T.f_Days_region_end T.d_Days_region_end ["self", "at"] (spS (cfg T) 2 m_Days_region_end) :=
  ok_fnS (k := 2) T.F_Days_region_end sc_Days_region_end rfl b_Days_region_end (fun cdv A outer s H E hr => (rss_one (rs_ret (re_if (rt_cmp op_lt ref_lt (re_bin (op_addU rfl) ref_add (rv 1) re_int) (re_callB (call_lenU rfl) ref_len (by rfl) T.n_len PyProof.Rows.Boot.«len» (ra_cons (re_fld rfl T.k_Days rfl (rv 0)) ra_nil)) (nomark _)) (re_ix rfl (re_fld rfl T.k_Days rfl (rv 0)) (re_bin (op_addU rfl) ref_add (rv 1) re_int)) re_non))))
theorem ok_nearer (T : Facts K mg) (B : TBs T base) : FnOk P w K mg base (L2.CX P w) 1 T.f_nearer T.d_nearer ["one", "other"] (spM (cfg T) 2 m_nearer) :=
  ok_fn (k := 0) T.F_nearer sc_nearer rfl b_nearer (fun cdv A outer s H E hr => (rss_cons (rs_if (rt_w (rw_or (rt_cmp op_isN ref_isN1 (rv 0) re_non (nomark _)) (rw_or1 (rt_cmp op_isN ref_isN1 (rv 1) re_non (nomark _))))) (rss_one (rs_ret (re_if (rt_cmp op_isN ref_isN1 (rv 0) re_non (nomark _)) (rv 1) (rv 0)))) rss_nil) (rss_one (rs_ret (re_callB (call_min2 rfl) ref_min (by rfl) T.n_min PyProof.Rows.Boot.«min» (ra_cons (rv 0) (ra_cons (rv 1) ra_nil)))))))
theorem ok_unlike_from (T : Facts K mg) (B : TBs T base) : FnOk P w K mg base (L2.CX P w) 9 T.f_unlike_from T.d_unlike_from ["days", "others", "day", "by"] (spM (cfg T) 4 m_unlike_from) :=
  ok_fn (k := 8) T.F_unlike_from sc_unlike_from rfl b_unlike_from (fun cdv A outer s H E hr => (rss_one (rs_while fuel (passes_of rfl) (rt_val re_bl) (rss_cons (rs_set (i := 4) sc_unlike_from.nd rfl (Or.inl rfl) (re_metS (c := 2) rfl T.k_Days (by show ("region" : Str) ∉ (["value", "begins", "spans", "known"] : List Str); decide) ⟨T.i_Days_region, T.t_Days_region, T.F_Days_region.kp⟩ (ok_Days_region T B) (hr.mono (by decide)) T.b_Days_region (takes_of rfl rfl rfl rfl) (rv 0) (ra_cons (rv 2) ra_nil) rfl)) (rss_cons (rs_set (i := 5) sc_unlike_from.nd rfl (Or.inl rfl) (re_metS (c := 2) rfl T.k_Days (by show ("region" : Str) ∉ (["value", "begins", "spans", "known"] : List Str); decide) ⟨T.i_Days_region, T.t_Days_region, T.F_Days_region.kp⟩ (ok_Days_region T B) (hr.mono (by decide)) T.b_Days_region (takes_of rfl rfl rfl rfl) (rv 1) (ra_cons (re_bin (op_addU rfl) ref_add (rv 2) (rv 3)) ra_nil) rfl)) (rss_cons (rs_set (i := 6) sc_unlike_from.nd rfl (Or.inl rfl) (re_metS (c := 2) rfl T.k_Days (by show ("region_end" : Str) ∉ (["value", "begins", "spans", "known"] : List Str); decide) ⟨T.i_Days_region_end, T.t_Days_region_end, T.F_Days_region_end.kp⟩ (ok_Days_region_end T B) (hr.mono (by decide)) T.b_Days_region_end (takes_of rfl rfl rfl rfl) (rv 0) (ra_cons (rv 4) ra_nil) rfl)) (rss_cons (rs_set (i := 7) sc_unlike_from.nd rfl (Or.inl rfl) (re_metS (c := 2) rfl T.k_Days (by show ("region_end" : Str) ∉ (["value", "begins", "spans", "known"] : List Str); decide) ⟨T.i_Days_region_end, T.t_Days_region_end, T.F_Days_region_end.kp⟩ (ok_Days_region_end T B) (hr.mono (by decide)) T.b_Days_region_end (takes_of rfl rfl rfl rfl) (rv 1) (ra_cons (rv 5) ra_nil) rfl)) (rss_cons (rs_set (i := 8) sc_unlike_from.nd rfl (Or.inl rfl) (re_fn (ok_nearer T B) (hr.mono (by decide)) rfl T.g_nearer T.F_nearer.kp T.b_nearer .nil rfl (takes_of rfl rfl rfl rfl) (ra_cons (rv 6) (ra_cons (re_if (rt_cmp op_isN ref_isN1 (rv 7) re_non (nomark _)) re_non (re_bin op_sub ref_sub (rv 7) (rv 3))) ra_nil)) rfl)) (rss_cons (rs_set (i := 9) sc_unlike_from.nd rfl (Or.inl rfl) (re_bin (op_addU rfl) ref_add (re_bin (op_addU rfl) ref_add (rv 2) (re_ix rfl (re_fld rfl T.k_Days rfl (rv 0)) (rv 4))) (re_ix rfl (re_fld rfl T.k_Days rfl (rv 1)) (rv 5)))) (rss_cons (rs_set (i := 9) sc_unlike_from.nd rfl (Or.inl rfl) (re_if (rt_cmp op_isN ref_isN1 (rv 8) re_non (nomark _)) (rv 9) (re_callB (call_min2 rfl) ref_min (by rfl) T.n_min PyProof.Rows.Boot.«min» (ra_cons (rv 9) (ra_cons (rv 8) ra_nil))))) (rss_cons (rs_for (passes_of rfl) rfl (ri_range2 (by rfl) T.n_range (ra_cons (rv 2) (ra_cons (rv 9) ra_nil))) (rg_name (i := 10) sc_unlike_from.nd rfl (Or.inl rfl)) (rss_one (rs_if (rt_cmp (op_tr (.inr rfl) (rcB_ON rfl (eqf_Share T B)) (hr.mono (by decide))) ref_tr (re_metS (c := 2) rfl T.k_Days (by show ("thing" : Str) ∉ (["value", "begins", "spans", "known"] : List Str); decide) ⟨T.i_Days_thing, T.t_Days_thing, T.F_Days_thing.kp⟩ (ok_Days_thing T B) (hr.mono (by decide)) T.b_Days_thing (takes_of rfl rfl rfl rfl) (rv 0) (ra_cons (rv 10) ra_nil) rfl) (re_metS (c := 2) rfl T.k_Days (by show ("thing" : Str) ∉ (["value", "begins", "spans", "known"] : List Str); decide) ⟨T.i_Days_thing, T.t_Days_thing, T.F_Days_thing.kp⟩ (ok_Days_thing T B) (hr.mono (by decide)) T.b_Days_thing (takes_of rfl rfl rfl rfl) (rv 1) (ra_cons (re_bin (op_addU rfl) ref_add (rv 10) (rv 3)) ra_nil) rfl) (nomark _)) (rss_one (rs_ret (rv 10))) rss_nil))) (rss_cons (rs_if (rt_cmp op_isN ref_isN1 (rv 8) re_non (nomark _)) (rss_one (rs_ret re_non)) rss_nil) (rss_one (rs_set (i := 2) sc_unlike_from.nd rfl (Or.inl rfl) (rv 8)))))))))))))))
theorem ok_is_stretch (T : Facts K mg) (B : TBs T base) : FnOk P w K mg base (L2.CX P w) 2 T.f_is_stretch T.d_is_stretch ["thing"] (spM (cfg T) 1 m_is_stretch) :=
  ok_fn (k := 1) T.F_is_stretch sc_is_stretch rfl b_is_stretch (fun cdv A outer s H E hr => (rss_cons (rs_if (rt_w (rw_or (rt_not (rt_val (re_isi (x := "") (n := 3) (T := .tup) rfl T.isF T.isA_tuple (rv 0) (pe_tyN rfl T.n_tuple PyProof.Rows.Boot.«tuple») (.ty _) rfl T.n_isinstance))) (rw_or1 (rt_cmp (op_neD hr.units) ref_ne (re_callB (call_lenU rfl) ref_len (by rfl) T.n_len PyProof.Rows.Boot.«len» (ra_cons (rv 0) ra_nil)) re_int (nomark _))))) (rss_one (rs_ret re_bl)) rss_nil) (rss_cons (rs_asg (rv 0) (rg_tup rfl rfl (rgs_cons (rg_name (i := 1) sc_is_stretch.nd rfl (Or.inl rfl)) (rgs_cons (rg_name (i := 2) sc_is_stretch.nd rfl (Or.inl rfl)) rgs_nil)))) (rss_cons (rs_if (rt_w (rw_and (rt_cmp op_notN ref_notN1 (rv 1) re_non (nomark _)) (rw_and1 (rt_w (rw_or (rt_not (rt_val (re_fn (ok_is_whole T B) (hr.mono (by decide)) rfl T.g_is_whole T.F_is_whole.kp T.b_is_whole .nil rfl (takes_of rfl rfl rfl rfl) (ra_cons (rv 1) ra_nil) rfl))) (rw_or1 (rt_cmp op_lt ref_lt (rv 1) re_int (nomark _)))))))) (rss_one (rs_ret re_bl)) rss_nil) (rss_cons (rs_if (rt_w (rw_or (rt_not (rt_val (re_isi (x := "") (n := 3) (T := .tup) rfl T.isF T.isA_tuple (rv 2) (pe_tyN rfl T.n_tuple PyProof.Rows.Boot.«tuple») (.ty _) rfl T.n_isinstance))) (rw_or1 (rt_not (rt_chain op_le ref_le op_le ref_le re_int (re_callB (call_lenU rfl) ref_len (by rfl) T.n_len PyProof.Rows.Boot.«len» (ra_cons (rv 2) ra_nil)) (re_globI rfl T.g_MOST_WORD ⟨_, rfl⟩)))))) (rss_one (rs_ret re_bl)) rss_nil) (rss_one (rs_ret (re_callB (call_allU rfl rfl) ref_all (by rfl) T.n_all PyProof.Rows.Boot.«all» (ra_cons (re_lc (own := [("share", 3)]) rfl sc_is_stretch.nd (ri_seq rfl (rv 2)) (blkOk_by (own := [("share", 3)]) (N := N_is_stretch) (sc := defScope s_is_stretch) (by decide +kernel)) (fun _ _ _ _ _ => (rg_name (i := 3) sc_is_stretch.nd rfl (Or.inl rfl))) (fun _ _ _ _ _ => rts_nil) (fun _ _ _ _ _ => (re_isi (x := "") (n := 3) (T := .cls 0) rfl T.isF T.isA_Share (rv 3) (pe_clsN rfl T.gc_Share) (.own _) rfl T.n_isinstance))) ra_nil)))))))))
theorem ok_are_stretches (T : Facts K mg) (B : TBs T base) : FnOk P w K mg base (L2.CX P w) 6 T.f_are_stretches T.d_are_stretches ["thing"] (spM (cfg T) 1 m_are_stretches) :=
  ok_fn (k := 5) T.F_are_stretches sc_are_stretches rfl b_are_stretches (fun cdv A outer s H E hr => (rss_cons (rs_if (rt_w (rw_or (rt_not (rt_val (re_isi (x := "") (n := 3) (T := .lst) rfl T.isF T.isA_list (rv 0) (pe_tyN rfl T.n_list PyProof.Rows.Boot.«list») (.ty _) rfl T.n_isinstance))) (rw_or1 (rt_not (rt_chain op_le ref_le op_le ref_le re_int (re_callB (call_lenU rfl) ref_len (by rfl) T.n_len PyProof.Rows.Boot.«len» (ra_cons (rv 0) ra_nil)) (re_globI rfl T.g_MOST_STRETCHES ⟨_, rfl⟩)))))) (rss_one (rs_ret re_bl)) rss_nil) (rss_cons (rs_if (rt_not (rt_val (re_callB (call_allU rfl rfl) ref_all (by rfl) T.n_all PyProof.Rows.Boot.«all» (ra_cons (re_lc (own := [("stretch", 3)]) rfl sc_are_stretches.nd (ri_seq rfl (rv 0)) (blkOk_by (own := [("stretch", 3)]) (N := N_are_stretches) (sc := defScope s_are_stretches) (by decide +kernel)) (fun _ _ _ _ _ => (rg_name (i := 3) sc_are_stretches.nd rfl (Or.inl rfl))) (fun _ _ _ _ _ => rts_nil) (fun _ _ _ _ _ => (re_fn (ok_is_stretch T B) (hr.mono (by decide)) rfl T.g_is_stretch T.F_is_stretch.kp T.b_is_stretch .nil rfl takes0 (ra_cons (rv 3) ra_nil) rfl))) ra_nil)))) (rss_one (rs_ret re_bl)) rss_nil) (rss_one (rs_ret (re_cmp (op_tr (.inl rfl) (rcE rfl (eqf_Share T B) 3).1 (hr.mono (by decide))) ref_tr (re_lc (own := [("days", 1), ("word", 2)]) rfl sc_are_stretches.nd (ri_seq rfl (rv 0)) (blkOk_by (own := [("days", 1), ("word", 2)]) (N := N_are_stretches) (sc := defScope s_are_stretches) (by decide +kernel)) (fun _ _ _ _ _ => (rg_tup rfl rfl (rgs_cons (rg_name (i := 1) sc_are_stretches.nd rfl (Or.inl rfl)) (rgs_cons (rg_name (i := 2) sc_are_stretches.nd rfl (Or.inl rfl)) rgs_nil)))) (fun _ _ _ _ _ => rts_nil) (fun _ _ _ _ _ => (re_cmp op_isN ref_isN1 (rv 1) re_non (nomark _)))) (re_bin (op_addU rfl) ref_add (re_bin op_mulU ref_mul (re_lst (ra_cons re_bl ra_nil)) (re_bin op_sub ref_sub (re_callB (call_lenU rfl) ref_len (by rfl) T.n_len PyProof.Rows.Boot.«len» (ra_cons (rv 0) ra_nil)) re_int)) (re_lst (ra_cons re_bl ra_nil))) (nomark _)))))))
theorem ok_Course_lay (T : Facts K mg) (B : TBs T base) : FnOk P w K mg base (L2.CX P w) 1 T.f_Course_lay T.d_Course_lay ["self", "stretches"] (spS (cfg T) 2 m_Course_lay) :=
  ok_fnS (k := 0) T.F_Course_lay sc_Course_lay rfl b_Course_lay (fun cdv A outer s H E hr => (rss_cons (rs_fld rfl T.k_Course rfl (rv 0) (re_lstO (ra_cons re_int ra_nil))) (rss_cons (rs_for (passes_of rfl) rfl (ri_seq rfl (re_sl rfl (rv 1) ro_none (ro_some (re_neg re_int)))) (rg_tup rfl rfl (rgs_cons (rg_name (i := 2) sc_Course_lay.nd rfl (Or.inl rfl)) (rgs_cons (rg_name (i := 3) sc_Course_lay.nd rfl (Or.inl rfl)) rgs_nil))) (rss_one (rs_expr (re_met rfl PySem.F.plainAttrs_list PySem.F.slot_list_append PySem.F.type_list_append mt_append refm_append (re_fld rfl T.k_Course rfl (rv 0)) (ra_cons (re_bin (op_addU rfl) ref_add (re_ix rfl (re_fld rfl T.k_Course rfl (rv 0)) (re_neg re_int)) (rv 2)) ra_nil))))) (rss_one (rs_fld rfl T.k_Course rfl (rv 0) (re_lc (own := [("days", 2), ("word", 3)]) rfl sc_Course_lay.nd (ri_seq rfl (rv 1)) (blkOk_by (own := [("days", 2), ("word", 3)]) (N := N_Course_lay) (sc := defScope s_Course_lay) (by decide +kernel)) (fun _ _ _ _ _ => (rg_tup rfl rfl (rgs_cons (rg_name (i := 2) sc_Course_lay.nd rfl (Or.inl rfl)) (rgs_cons (rg_name (i := 3) sc_Course_lay.nd rfl (Or.inl rfl)) rgs_nil)))) (fun _ _ _ _ _ => rts_nil) (fun _ _ _ _ _ => (rv 3))))))))
theorem ok_Course_init (T : Facts K mg) (B : TBs T base) : FnOk P w K mg base (L2.CX P w) 7 T.f_Course_init T.d_Course_init ["self", "stretches"] (spIS (cfg T) 1 2 m_Course_init) :=
  ok_initS (c := 1) (k := 6) T.F_Course_init sc_Course_init rfl b_Course_init (fun cdv A outer s H E hr => (rss_cons (rs_if (rt_not (rt_val (re_fn (ok_are_stretches T B) (hr.mono (by decide)) rfl T.g_are_stretches T.F_are_stretches.kp T.b_are_stretches .nil rfl (takes_of rfl rfl rfl rfl) (ra_cons (rv 1) ra_nil) rfl))) (rss_one rs_no) rss_nil) (rss_one (rs_expr (re_metS (c := 1) rfl T.k_Course (by show ("lay" : Str) ∉ (["begins", "words"] : List Str); decide) ⟨T.i_Course_lay, T.t_Course_lay, T.F_Course_lay.kp⟩ (ok_Course_lay T B) (hr.mono (by decide)) T.b_Course_lay (takes_of rfl rfl rfl rfl) (rv 0) (ra_cons (rv 1) ra_nil) rfl)))))
theorem ok_days_of (T : Facts K mg) (B : TBs T base) : FnOk P w K mg base (L2.CX P w) 3 T.f_days_of T.d_days_of ["course"] (spS (cfg T) 1 m_days_of) :=
  ok_fnK (i := 0) (y := "course") (k := 2) T.F_days_of sc_days_of rfl b_days_of rfl (by rfl) (fun A outer s H E cc hr hcc => (pz_clo (Ld := lam_days_of) (i := 0) (j := 0) (c := 2) rfl (by decide +kernel) hcc B T.cd_days_of rfl T.tm_days_of T.tu_days_of rfl T.mkr_Days (ok_Days_init T B) (hr.mono (by decide)) rfl T.gc_Days T.b_Days_init (takes_of rfl rfl rfl rfl) (ra_cons (re_fld rfl T.k_Course rfl (rv 0)) (ra_cons (re_lc (own := [("word", 1)]) rfl sc_days_of.nd (ri_seq rfl (re_fld rfl T.k_Course rfl (rv 0))) (blkOk_by (own := [("word", 1)]) (N := N_days_of) (sc := defScope s_days_of) (by decide +kernel)) (fun _ _ _ _ _ => (rg_name (i := 1) sc_days_of.nd rfl (Or.inl rfl))) (fun _ _ _ _ _ => rts_nil) (fun _ _ _ _ _ => (re_callB (call_lenU rfl) ref_len (by rfl) T.n_len PyProof.Rows.Boot.«len» (ra_cons (rv 1) ra_nil)))) ra_nil)) ini_Days))
theorem ok_first_unlike (T : Facts K mg) (B : TBs T base) : FnOk P w K mg base (L2.CX P w) 10 T.f_first_unlike T.d_first_unlike ["one", "other"] (spM (cfg T) 2 m_first_unlike) :=
  ok_fn (k := 9) T.F_first_unlike sc_first_unlike rfl b_first_unlike (fun cdv A outer s H E hr => (rss_one (rs_ret (re_fn (ok_unlike_from T B) (hr.mono (by decide)) rfl T.g_unlike_from T.F_unlike_from.kp T.b_unlike_from .nil rfl (takes_of rfl rfl rfl rfl) (ra_cons (re_callS (ok_days_of T B) (hr.mono (by decide)) rfl T.g_days_of T.F_days_of.kp T.b_days_of (takes_of rfl rfl rfl rfl) (ra_cons (rv 0) ra_nil) rfl) (ra_cons (re_callS (ok_days_of T B) (hr.mono (by decide)) rfl T.g_days_of T.F_days_of.kp T.b_days_of (takes_of rfl rfl rfl rfl) (ra_cons (rv 1) ra_nil) rfl) (ra_cons re_int (ra_cons re_int ra_nil)))) rfl))))
theorem ok_Course_eq (T : Facts K mg) (B : TBs T base) : FnOk P w K mg base (L2.CX P w) 11 T.f_Course_eq T.d_Course_eq ["self", "other"] (spM (cfg T) 2 m_Course_eq) :=
  ok_fn (k := 10) T.F_Course_eq sc_Course_eq rfl b_Course_eq (fun cdv A outer s H E hr => (rss_one (rs_ret (re_and (re_isi (x := "") (n := 3) (T := .cls 1) rfl T.isF T.isA_Course (rv 1) (pe_clsN rfl T.gc_Course) (.own _) rfl T.n_isinstance) (re_one (re_cmp op_isN ref_isN1 (re_fn (ok_first_unlike T B) (hr.mono (by decide)) rfl T.g_first_unlike T.F_first_unlike.kp T.b_first_unlike .nil rfl (takes_of rfl rfl rfl rfl) (ra_cons (rv 0) (ra_cons (rv 1) ra_nil)) rfl) re_non (nomark _)))))))
theorem eqc_Course {X : Cx} (T : Facts X.K X.mg) (B : TBs T X.base) : EqC X (cfg T) 11 1 (fun d => d == 0) qCourse :=
  ⟨⟨T.f_Course_eq, T.d_Course_eq, ["self", "other"], m_Course_eq, ok_Course_eq T B, T.i_Course_eq, T.t_Course_eq, T.b_Course_eq, pqc_Course⟩, T.ne_Course, T.mr_Course, fun t h => by
    simp only [sevenT, List.mem_cons, List.not_mem_nil, or_false] at h
    rcases h with rfl | rfl | rfl | rfl | rfl | rfl | rfl
    · exact notFirst_of T.sT_Course_NoneType
    · exact notFirst_of T.sT_Course_bool
    · exact notFirst_of T.sT_Course_int
    · exact notFirst_of T.sT_Course_str
    · exact notFirst_of T.sT_Course_tuple
    · exact notFirst_of T.sT_Course_list
    · exact notFirst_of T.sT_Course_dict,
  fun t h => by
    simp only [sevenT, List.mem_cons, List.not_mem_nil, or_false] at h
    rcases h with rfl | rfl | rfl | rfl | rfl | rfl | rfl
    · exact T.sF_Course_NoneType
    · exact T.sF_Course_bool
    · exact T.sF_Course_int
    · exact T.sF_Course_str
    · exact T.sF_Course_tuple
    · exact T.sF_Course_list
    · exact T.sF_Course_dict, fun d hd => by
    have e := eq_of_beq hd
    subst e
    exact T.ss_Share_Course, qo_Course⟩
theorem rc_odd {X : Cx} (T : Facts X.K X.mg) (B : TBs T X.base) : RcB X (cfg T) .Eq 12 (fOr (fRC qCourse) qShare) := rcOr (rcCR (X := X) (Γ := cfg T) rfl (eqc_Course T B)) (rcC (X := X) (Γ := cfg T) rfl (eqc_Share T B)) (by decide) (by decide)
theorem ok_law_well (T : Facts K mg) (B : TBs T base) : FnOk P w K mg base (L2.CX P w) 1 T.f_law_well T.d_law_well ["cell"] (spM (cfg T) 1 m_law_well) :=
  ok_fnO (k := 0) T.F_law_well sc_law_well rfl b_law_well (fun cdv A outer s H E hr => (rss_one (rs_ret (re_lstO (ra_cons (re_bin op_mulU ref_mul (rv 0) (re_callTy call_int1 ref_int (by rfl) T.n_int PyProof.Rows.Boot.«int» (ra_cons (re_cmp op_ge ref_ge (rv 0) (re_bin op_pow ref_pow re_int re_int) (nomark _)) ra_nil))) (ra_cons (re_bin op_modN ref_mod (rv 0) re_int) (ra_cons re_int ra_nil)))))))
theorem ok_law_draw (T : Facts K mg) (B : TBs T base) : FnOk P w K mg base (L2.CX P w) 1 T.f_law_draw T.d_law_draw ["well", "many"] (spM (cfg T) 2 m_law_draw) :=
  ok_fn (k := 0) T.F_law_draw sc_law_draw rfl b_law_draw (fun cdv A outer s H E hr => (rss_cons (rs_if (rt_cmp op_gt ref_gt (re_ix rfl (rv 0) re_int) re_int (nomark _)) (rss_cons (rs_set (i := 2) sc_law_draw.nd rfl (Or.inl rfl) (re_bin op_modN ref_mod (re_ix rfl (rv 0) re_int) (rv 1))) (rss_cons (rs_ix (rv 0) re_int (re_bin op_div ref_div (re_ix rfl (rv 0) re_int) (rv 1))) (rss_one (rs_ret (rv 2))))) rss_nil) (rss_cons (rs_ix (rv 0) re_int (re_bin (op_addU rfl) ref_add (re_ix rfl (rv 0) re_int) re_int)) (rss_cons (rs_set (i := 3) sc_law_draw.nd rfl (Or.inl rfl) (re_ix rfl (re_lst (ra_cons re_int (ra_cons re_int (ra_cons re_int (ra_cons re_int (ra_cons re_int (ra_cons re_int (ra_cons re_int ra_nil)))))))) (re_bin op_modN ref_mod (re_ix rfl (rv 0) re_int) re_int))) (rss_cons (rs_set (i := 4) sc_law_draw.nd rfl (Or.inl rfl) (re_bin op_modN ref_mod (re_bin op_pow ref_pow (re_bin (op_addU rfl) ref_add (re_bin (op_addU rfl) ref_add (re_ix rfl (rv 0) re_int) (re_bin op_mulU ref_mul re_int (re_ix rfl (rv 0) re_int))) re_int) re_int) (rv 3))) (rss_cons (rs_set (i := 4) sc_law_draw.nd rfl (Or.inl rfl) (re_bin op_modN ref_mod (re_bin op_mulU ref_mul (re_bin (op_addU rfl) ref_add (rv 4) (re_ix rfl (rv 0) re_int)) (re_bin (op_addU rfl) ref_add (re_bin op_div ref_div (rv 4) re_int) re_int)) (rv 3))) (rss_one (rs_ret (re_bin op_modN ref_mod (re_bin op_div ref_div (rv 4) re_int) (rv 1))))))))))
theorem ok_law_one (T : Facts K mg) (B : TBs T base) : FnOk P w K mg base (L2.CX P w) 2 T.f_law_one T.d_law_one ["well", "some"] (spM (cfg T) 2 m_law_one) :=
  ok_fn (k := 1) T.F_law_one sc_law_one rfl b_law_one (fun cdv A outer s H E hr => (rss_one (rs_ret (re_ix rfl (rv 1) (re_fn (ok_law_draw T B) (hr.mono (by decide)) rfl T.g_law_draw T.F_law_draw.kp T.b_law_draw .nil rfl (takes_of rfl rfl rfl rfl) (ra_cons (rv 0) (ra_cons (re_callB (call_lenU rfl) ref_len (by rfl) T.n_len PyProof.Rows.Boot.«len» (ra_cons (rv 1) ra_nil)) ra_nil)) rfl)))))
theorem ok_law_low (T : Facts K mg) (B : TBs T base) : FnOk P w K mg base (L2.CX P w) 1 T.f_law_low T.d_law_low ["top", "bottom"] (spM (cfg T) 2 m_law_low) :=
  ok_fn (k := 0) T.F_law_low sc_law_low rfl b_law_low (fun cdv A outer s H E hr => (rss_cons (rs_par (i := 2) (j := 3) rfl sc_law_low.nd rfl rfl (by decide) rfl rfl (ra_cons (re_callB call_abs ref_abs (by rfl) T.n_abs PyProof.Rows.Boot.«abs» (ra_cons (rv 0) ra_nil)) (ra_cons (re_callB call_abs ref_abs (by rfl) T.n_abs PyProof.Rows.Boot.«abs» (ra_cons (rv 1) ra_nil)) ra_nil)) (by rfl)) (rss_cons (rs_while fuel (passes_of rfl) (rt_cmp op_gt ref_gt (rv 3) re_int (nomark _)) (rss_one (rs_par (i := 2) (j := 3) rfl sc_law_low.nd rfl rfl (by decide) rfl rfl (ra_cons (rv 3) (ra_cons (re_bin op_modN ref_mod (rv 2) (rv 3)) ra_nil)) (by rfl)))) (rss_cons (rs_if (rt_cmp op_lt ref_lt (rv 1) re_int (nomark _)) (rss_one (rs_set (i := 2) sc_law_low.nd rfl (Or.inl rfl) (re_bin op_sub ref_sub re_int (rv 2)))) rss_nil) (rss_one (rs_ret (re_tup (ra_cons (re_bin op_div ref_div (rv 0) (rv 2)) (ra_cons (re_bin op_div ref_div (rv 1) (rv 2)) ra_nil)))))))))
theorem ok_law_sum (T : Facts K mg) (B : TBs T base) : FnOk P w K mg base (L2.CX P w) 2 T.f_law_sum T.d_law_sum ["pairs"] (spM (cfg T) 1 m_law_sum) :=
  ok_fn (k := 1) T.F_law_sum sc_law_sum rfl b_law_sum (fun cdv A outer s H E hr => (rss_cons (rs_asg (re_tup (ra_cons re_int (ra_cons re_int ra_nil))) (rg_tup rfl rfl (rgs_cons (rg_name (i := 1) sc_law_sum.nd rfl (Or.inl rfl)) (rgs_cons (rg_name (i := 2) sc_law_sum.nd rfl (Or.inl rfl)) rgs_nil)))) (rss_cons (rs_for (passes_of rfl) rfl (ri_seq rfl (rv 0)) (rg_tup rfl rfl (rgs_cons (rg_name (i := 3) sc_law_sum.nd rfl (Or.inl rfl)) (rgs_cons (rg_name (i := 4) sc_law_sum.nd rfl (Or.inl rfl)) rgs_nil))) (rss_one (rs_asg (re_fn (ok_law_low T B) (hr.mono (by decide)) rfl T.g_law_low T.F_law_low.kp T.b_law_low .nil rfl (takes_of rfl rfl rfl rfl) (ra_cons (re_bin (op_addU rfl) ref_add (re_bin op_mulU ref_mul (rv 1) (rv 4)) (re_bin op_mulU ref_mul (rv 3) (rv 2))) (ra_cons (re_bin op_mulU ref_mul (rv 2) (rv 4)) ra_nil)) rfl) (rg_tup rfl rfl (rgs_cons (rg_name (i := 1) sc_law_sum.nd rfl (Or.inl rfl)) (rgs_cons (rg_name (i := 2) sc_law_sum.nd rfl (Or.inl rfl)) rgs_nil)))))) (rss_one (rs_ret (re_tup (ra_cons (rv 1) (ra_cons (rv 2) ra_nil))))))))
theorem ok_law_word (T : Facts K mg) (B : TBs T base) : FnOk P w K mg base (L2.CX P w) 3 T.f_law_word T.d_law_word ["well", "most", "far"] (spM (cfg T) 3 m_law_word) :=
  ok_fn (k := 2) T.F_law_word sc_law_word rfl b_law_word (fun cdv A outer s H E hr => (rss_cons (rs_set (i := 3) sc_law_word.nd rfl (Or.inr rfl) (re_bin (op_addU rfl) ref_add re_int (re_fn (ok_law_draw T B) (hr.mono (by decide)) rfl T.g_law_draw T.F_law_draw.kp T.b_law_draw .nil rfl (takes_of rfl rfl rfl rfl) (ra_cons (rv 0) (ra_cons (re_fn (ok_law_one T B) (hr.mono (by decide)) rfl T.g_law_one T.F_law_one.kp T.b_law_one .nil rfl (takes_of rfl rfl rfl rfl) (ra_cons (rv 0) (ra_cons (re_lst (ra_cons re_int (ra_cons re_int (ra_cons re_int ra_nil)))) ra_nil)) rfl) ra_nil)) rfl))) (rss_cons (rs_set (i := 4) sc_law_word.nd rfl (Or.inr rfl) (re_fn (ok_law_one T B) (hr.mono (by decide)) rfl T.g_law_one T.F_law_one.kp T.b_law_one .nil rfl (takes_of rfl rfl rfl rfl) (ra_cons (rv 0) (ra_cons (re_lst (ra_cons re_int (ra_cons re_int (ra_cons re_int ra_nil)))) ra_nil)) rfl)) (rss_one (rs_ret (re_lc (own := [("k", 5)]) rfl sc_law_word.nd (ri_range1 (by rfl) T.n_range (ra_cons (re_bin (op_addU rfl) ref_add re_int (re_fn (ok_law_draw T B) (hr.mono (by decide)) rfl T.g_law_draw T.F_law_draw.kp T.b_law_draw .nil rfl (takes_of rfl rfl rfl rfl) (ra_cons (rv 0) (ra_cons (rv 1) ra_nil)) rfl)) ra_nil)) (blkOk_by (own := [("k", 5)]) (N := N_law_word) (sc := defScope s_law_word) (by decide +kernel)) (fun _ _ _ _ _ => (rg_name (i := 5) sc_law_word.nd rfl (Or.inl rfl))) (fun _ _ _ _ _ => rts_nil) (fun _ _ _ _ _ => (re_fn (ok_law_low T B) (hr.mono (by decide)) rfl T.g_law_low T.F_law_low.kp T.b_law_low .nil rfl takes0 (ra_cons (re_bin op_sub ref_sub (re_fn (ok_law_draw T B) (hr.mono (by decide)) rfl T.g_law_draw T.F_law_draw.kp T.b_law_draw .nil rfl takes0 (ra_cons (rv 0) (ra_cons (rv 4) ra_nil)) rfl) (re_bin op_mulU ref_mul (rv 2) (re_fn (ok_law_draw T B) (hr.mono (by decide)) rfl T.g_law_draw T.F_law_draw.kp T.b_law_draw .nil rfl takes0 (ra_cons (rv 0) (ra_cons re_int ra_nil)) rfl))) (ra_cons (rv 3) ra_nil)) rfl))))))))
theorem ok_law_stretches (T : Facts K mg) (B : TBs T base) : FnOk P w K mg base (L2.CX P w) 4 T.f_law_stretches T.d_law_stretches ["well", "most", "word", "long", "far"] (spM (cfg T) 5 m_law_stretches) :=
  ok_fn (k := 3) T.F_law_stretches sc_law_stretches rfl b_law_stretches (fun cdv A outer s H E hr => (rss_cons (rs_set (i := 5) sc_law_stretches.nd rfl (Or.inl rfl) (re_lstO ra_nil)) (rss_cons (rs_for (passes_of rfl) rfl (ri_range1 (by rfl) T.n_range (ra_cons (re_fn (ok_law_draw T B) (hr.mono (by decide)) rfl T.g_law_draw T.F_law_draw.kp T.b_law_draw .nil rfl (takes_of rfl rfl rfl rfl) (ra_cons (rv 0) (ra_cons (rv 1) ra_nil)) rfl) ra_nil)) (rg_name (i := 6) sc_law_stretches.nd rfl (Or.inl rfl)) (rss_one (rs_expr (re_met rfl PySem.F.plainAttrs_list PySem.F.slot_list_append PySem.F.type_list_append mt_append refm_append (rv 5) (ra_cons (re_tup (ra_cons (re_bin (op_addU rfl) ref_add re_int (re_fn (ok_law_draw T B) (hr.mono (by decide)) rfl T.g_law_draw T.F_law_draw.kp T.b_law_draw .nil rfl (takes_of rfl rfl rfl rfl) (ra_cons (rv 0) (ra_cons (rv 3) ra_nil)) rfl)) (ra_cons (re_fn (ok_law_word T B) (hr.mono (by decide)) rfl T.g_law_word T.F_law_word.kp T.b_law_word .nil rfl (takes_of rfl rfl rfl rfl) (ra_cons (rv 0) (ra_cons (rv 2) (ra_cons (rv 4) ra_nil))) rfl) ra_nil))) ra_nil))))) (rss_one (rs_ret (re_bin (op_addU rfl) ref_add (rv 5) (re_lst (ra_cons (re_tup (ra_cons re_non (ra_cons (re_fn (ok_law_word T B) (hr.mono (by decide)) rfl T.g_law_word T.F_law_word.kp T.b_law_word .nil rfl (takes_of rfl rfl rfl rfl) (ra_cons (rv 0) (ra_cons (rv 2) (ra_cons (rv 4) ra_nil))) rfl) ra_nil))) ra_nil))))))))
theorem ok_law_course (T : Facts K mg) (B : TBs T base) : FnOk P w K mg base (L2.CX P w) 9 T.f_law_course T.d_law_course ["told"] (spM (cfg T) 1 m_law_course) :=
  ok_fn (k := 8) T.F_law_course sc_law_course rfl b_law_course (fun cdv A outer s H E hr => (rss_one (rs_ret (re_makeS (c := 1) T.mkr_Course (ok_Course_init T B) (hr.mono (by decide)) rfl T.gc_Course T.b_Course_init (takes_of rfl rfl rfl rfl) (ra_cons (re_lc (own := [("days", 1), ("word", 2)]) rfl sc_law_course.nd (ri_seq rfl (rv 0)) (blkOk_by (own := [("days", 1), ("word", 2)]) (N := N_law_course) (sc := defScope s_law_course) (by decide +kernel)) (fun _ _ _ _ _ => (rg_tup rfl rfl (rgs_cons (rg_name (i := 1) sc_law_course.nd rfl (by first | exact Or.inl rfl | exact Or.inr rfl)) (rgs_cons (rg_name (i := 2) sc_law_course.nd rfl (by first | exact Or.inl rfl | exact Or.inr rfl)) rgs_nil)))) (fun _ _ _ _ _ => rts_nil) (fun _ _ _ _ _ => (re_tup (ra_cons (rv 1) (ra_cons (re_callTy (call_tupleU rfl) ref_tuple (by rfl) T.n_tuple PyProof.Rows.Boot.«tuple» (ra_cons (re_lc (own := [("one", 3), ("other", 4)]) rfl sc_law_course.nd (ri_seq rfl (rv 2)) (blkOk_by (own := [("one", 3), ("other", 4)]) (N := N_law_course) (sc := ({ kind := .function, names := [(".0", .local), ("days", .local), ("word", .local), ("tuple", .globalImplicit)], isGenerator := false, isCoroutine := false } : Scope)) (by decide +kernel)) (fun _ _ _ _ _ => (rg_tup rfl rfl (rgs_cons (rg_name (i := 3) sc_law_course.nd rfl (Or.inl rfl)) (rgs_cons (rg_name (i := 4) sc_law_course.nd rfl (Or.inl rfl)) rgs_nil)))) (fun _ _ _ _ _ => rts_nil) (fun _ _ _ _ _ => (re_make (c := 0) T.mkr_Share (ok_Share_init T B) (hr.mono (by decide)) rfl T.gc_Share T.b_Share_init_0 T.v_Share_init_0 rfl takes0 (ra_cons (rv 3) (ra_cons (rv 4) ra_nil)) rfl))) ra_nil)) ra_nil))))) ra_nil) rfl))))
theorem ok_law_on (T : Facts K mg) (B : TBs T base) : FnOk P w K mg base (L2.CX P w) 1 T.f_law_on T.d_law_on ["told", "day"] (spM (cfg T) 2 m_law_on) :=
  ok_fn (k := 0) T.F_law_on sc_law_on rfl b_law_on (fun cdv A outer s H E hr => (rss_cons (rs_for (passes_of rfl) rfl (ri_seq rfl (rv 0)) (rg_tup rfl rfl (rgs_cons (rg_name (i := 2) sc_law_on.nd rfl (Or.inl rfl)) (rgs_cons (rg_name (i := 3) sc_law_on.nd rfl (Or.inl rfl)) rgs_nil))) (rss_cons (rs_if (rt_w (rw_or (rt_cmp op_isN ref_isN1 (rv 2) re_non (nomark _)) (rw_or1 (rt_cmp op_lt ref_lt (rv 1) (rv 2) (nomark _))))) (rss_one (rs_ret (re_ix rfl (rv 3) (re_bin op_modN ref_mod (rv 1) (re_callB (call_lenU rfl) ref_len (by rfl) T.n_len PyProof.Rows.Boot.«len» (ra_cons (rv 3) ra_nil)))))) rss_nil) (rss_one (rs_set (i := 1) sc_law_on.nd rfl (Or.inl rfl) (re_bin op_sub ref_sub (rv 1) (rv 2)))))) (rss_one (rs_ret (re_tup (ra_cons re_int (ra_cons re_int ra_nil)))))))
theorem ok_law_turned (T : Facts K mg) (B : TBs T base) : FnOk P w K mg base (L2.CX P w) 1 T.f_law_turned T.d_law_turned ["word", "by"] (spM (cfg T) 2 m_law_turned) :=
  ok_fn (k := 0) T.F_law_turned sc_law_turned rfl b_law_turned (fun cdv A outer s H E hr => (rss_cons (rs_set (i := 1) sc_law_turned.nd rfl (Or.inl rfl) (re_bin op_modN ref_mod (rv 1) (re_callB (call_lenU rfl) ref_len (by rfl) T.n_len PyProof.Rows.Boot.«len» (ra_cons (rv 0) ra_nil)))) (rss_one (rs_ret (re_bin (op_addU rfl) ref_add (re_sl rfl (rv 0) (ro_some (rv 1)) ro_none) (re_sl rfl (rv 0) ro_none (ro_some (rv 1))))))))
theorem ok_law_cut (T : Facts K mg) (B : TBs T base) : FnOk P w K mg base (L2.CX P w) 2 T.f_law_cut T.d_law_cut ["told", "day"] (spM (cfg T) 2 m_law_cut) :=
  ok_fnO (k := 1) T.F_law_cut sc_law_cut rfl b_law_cut (fun cdv A outer s H E hr => (rss_cons (rs_set (i := 2) sc_law_cut.nd rfl (Or.inl rfl) (re_lstO ra_nil)) (rss_cons (rs_set (i := 3) sc_law_cut.nd rfl (Or.inl rfl) re_int) (rss_cons (rs_for (passes_of rfl) rfl (ri_seq rfl (rv 0)) (rg_tup rfl rfl (rgs_cons (rg_name (i := 4) sc_law_cut.nd rfl (Or.inl rfl)) (rgs_cons (rg_name (i := 5) sc_law_cut.nd rfl (Or.inl rfl)) rgs_nil))) (rss_cons (rs_set (i := 6) sc_law_cut.nd rfl (Or.inl rfl) (re_bin op_sub ref_sub (rv 1) (rv 3))) (rss_cons (rs_if (rt_w (rw_and (rt_cmp op_gt ref_gt (rv 6) re_int (nomark _)) (rw_and1 (rt_w (rw_or (rt_cmp op_isN ref_isN1 (rv 4) re_non (nomark _)) (rw_or1 (rt_cmp op_lt ref_lt (rv 6) (rv 4) (nomark _)))))))) (rss_cons (rs_expr (re_met rfl PySem.F.plainAttrs_list PySem.F.slot_list_append PySem.F.type_list_append mt_append refm_append (rv 2) (ra_cons (re_tup (ra_cons (rv 6) (ra_cons (rv 5) ra_nil))) ra_nil))) (rss_cons (rs_set (i := 7) sc_law_cut.nd rfl (Or.inl rfl) re_non) (rss_cons (rs_if (rt_cmp op_notN ref_notN1 (rv 4) re_non (nomark _)) (rss_one (rs_set (i := 7) sc_law_cut.nd rfl (Or.inl rfl) (re_bin op_sub ref_sub (rv 4) (rv 6)))) rss_nil) (rss_one (rs_expr (re_met rfl PySem.F.plainAttrs_list PySem.F.slot_list_append PySem.F.type_list_append mt_append refm_append (rv 2) (ra_cons (re_tup (ra_cons (rv 7) (ra_cons (re_fn (ok_law_turned T B) (hr.mono (by decide)) rfl T.g_law_turned T.F_law_turned.kp T.b_law_turned .nil rfl (takes_of rfl rfl rfl rfl) (ra_cons (rv 5) (ra_cons (rv 6) ra_nil)) rfl) ra_nil))) ra_nil))))))) (rss_one (rs_expr (re_met rfl PySem.F.plainAttrs_list PySem.F.slot_list_append PySem.F.type_list_append mt_append refm_append (rv 2) (ra_cons (re_tup (ra_cons (rv 4) (ra_cons (rv 5) ra_nil))) ra_nil))))) (rss_one (rs_if (rt_cmp op_notN ref_notN1 (rv 4) re_non (nomark _)) (rss_one (rs_set (i := 3) sc_law_cut.nd rfl (Or.inl rfl) (re_bin (op_addU rfl) ref_add (rv 3) (rv 4)))) rss_nil))))) (rss_one (rs_ret (rv 2)))))))
theorem ok_law_otherwise (T : Facts K mg) (B : TBs T base) : FnOk P w K mg base (L2.CX P w) 3 T.f_law_otherwise T.d_law_otherwise ["well", "told"] (spM (cfg T) 2 m_law_otherwise) :=
  ok_fn (k := 2) T.F_law_otherwise sc_law_otherwise rfl b_law_otherwise (fun cdv A outer s H E hr => (rss_cons (rs_set (i := 2) sc_law_otherwise.nd rfl (Or.inl rfl) (rv 1)) (rss_cons (rs_for (passes_of rfl) rfl (ri_range1 (by rfl) T.n_range (ra_cons (re_bin (op_addU rfl) ref_add re_int (re_fn (ok_law_draw T B) (hr.mono (by decide)) rfl T.g_law_draw T.F_law_draw.kp T.b_law_draw .nil rfl (takes_of rfl rfl rfl rfl) (ra_cons (rv 0) (ra_cons re_int ra_nil)) rfl)) ra_nil)) (rg_name (i := 3) sc_law_otherwise.nd rfl (Or.inl rfl)) (rss_one (rs_set (i := 2) sc_law_otherwise.nd rfl (Or.inl rfl) (re_fn (ok_law_cut T B) (hr.mono (by decide)) rfl T.g_law_cut T.F_law_cut.kp T.b_law_cut .nil rfl (takes_of rfl rfl rfl rfl) (ra_cons (rv 2) (ra_cons (re_fn (ok_law_draw T B) (hr.mono (by decide)) rfl T.g_law_draw T.F_law_draw.kp T.b_law_draw .nil rfl (takes_of rfl rfl rfl rfl) (ra_cons (rv 0) (ra_cons (re_fn (ok_law_one T B) (hr.mono (by decide)) rfl T.g_law_one T.F_law_one.kp T.b_law_one .nil rfl (takes_of rfl rfl rfl rfl) (ra_cons (rv 0) (ra_cons (re_lst (ra_cons re_int (ra_cons re_int (ra_cons (re_bin op_pow ref_pow re_int re_int) ra_nil)))) ra_nil)) rfl) ra_nil)) rfl) ra_nil)) rfl)))) (rss_cons (rs_set (i := 4) sc_law_otherwise.nd rfl (Or.inl rfl) (re_fn (ok_law_draw T B) (hr.mono (by decide)) rfl T.g_law_draw T.F_law_draw.kp T.b_law_draw .nil rfl (takes_of rfl rfl rfl rfl) (ra_cons (rv 0) (ra_cons (re_callB (call_lenU rfl) ref_len (by rfl) T.n_len PyProof.Rows.Boot.«len» (ra_cons (rv 2) ra_nil)) ra_nil)) rfl)) (rss_cons (rs_ix (rv 2) (rv 4) (re_tup (ra_cons (re_ix rfl (re_ix rfl (rv 2) (rv 4)) re_int) (ra_cons (re_bin op_mulU ref_mul (re_ix rfl (re_ix rfl (rv 2) (rv 4)) re_int) (re_bin (op_addU rfl) ref_add re_int (re_fn (ok_law_draw T B) (hr.mono (by decide)) rfl T.g_law_draw T.F_law_draw.kp T.b_law_draw .nil rfl (takes_of rfl rfl rfl rfl) (ra_cons (rv 0) (ra_cons re_int ra_nil)) rfl))) ra_nil)))) (rss_one (rs_ret (rv 2))))))))
theorem ok_law_changed (T : Facts K mg) (B : TBs T base) : FnOk P w K mg base (L2.CX P w) 3 T.f_law_changed T.d_law_changed ["well", "told", "day"] (spM (cfg T) 3 m_law_changed) :=
  ok_fn (k := 2) T.F_law_changed sc_law_changed rfl b_law_changed (fun cdv A outer s H E hr => (rss_cons (rs_set (i := 3) sc_law_changed.nd rfl (Or.inl rfl) (re_fn (ok_law_cut T B) (hr.mono (by decide)) rfl T.g_law_cut T.F_law_cut.kp T.b_law_cut .nil rfl (takes_of rfl rfl rfl rfl) (ra_cons (re_fn (ok_law_cut T B) (hr.mono (by decide)) rfl T.g_law_cut T.F_law_cut.kp T.b_law_cut .nil rfl (takes_of rfl rfl rfl rfl) (ra_cons (rv 1) (ra_cons (rv 2) ra_nil)) rfl) (ra_cons (re_bin (op_addU rfl) ref_add (rv 2) re_int) ra_nil)) rfl)) (rss_cons (rs_set (i := 4) sc_law_changed.nd rfl (Or.inl rfl) re_int) (rss_cons (rs_set (i := 5) sc_law_changed.nd rfl (Or.inl rfl) (re_lstO ra_nil)) (rss_cons (rs_for (passes_of rfl) rfl (ri_seq rfl (rv 3)) (rg_tup rfl rfl (rgs_cons (rg_name (i := 6) sc_law_changed.nd rfl (Or.inl rfl)) (rgs_cons (rg_name (i := 7) sc_law_changed.nd rfl (Or.inl rfl)) rgs_nil))) (rss_cons (rs_if (rt_cmp (op_eqD hr.units) ref_eq (rv 4) (rv 2) (nomark _)) (rss_one (rs_set (i := 7) sc_law_changed.nd rfl (Or.inl rfl) (re_bin (op_addU rfl) ref_add (re_lst (ra_cons (re_fn (ok_law_sum T B) (hr.mono (by decide)) rfl T.g_law_sum T.F_law_sum.kp T.b_law_sum .nil rfl (takes_of rfl rfl rfl rfl) (ra_cons (re_lst (ra_cons (re_ix rfl (rv 7) re_int) (ra_cons (re_tup (ra_cons (re_bin (op_addU rfl) ref_add re_int (re_fn (ok_law_draw T B) (hr.mono (by decide)) rfl T.g_law_draw T.F_law_draw.kp T.b_law_draw .nil rfl (takes_of rfl rfl rfl rfl) (ra_cons (rv 0) (ra_cons re_int ra_nil)) rfl)) (ra_cons re_int ra_nil))) ra_nil))) ra_nil) rfl) ra_nil)) (re_sl rfl (rv 7) (ro_some re_int) ro_none)))) rss_nil) (rss_cons (rs_expr (re_met rfl PySem.F.plainAttrs_list PySem.F.slot_list_append PySem.F.type_list_append mt_append refm_append (rv 5) (ra_cons (re_tup (ra_cons (rv 6) (ra_cons (rv 7) ra_nil))) ra_nil))) (rss_one (rs_if (rt_cmp op_notN ref_notN1 (rv 6) re_non (nomark _)) (rss_one (rs_set (i := 4) sc_law_changed.nd rfl (Or.inl rfl) (re_bin (op_addU rfl) ref_add (rv 4) (rv 6)))) rss_nil))))) (rss_one (rs_ret (rv 5))))))))
theorem ok_law_first (T : Facts K mg) (B : TBs T base) : FnOk P w K mg base (L2.CX P w) 6 T.f_law_first T.d_law_first ["one", "other"] (spM (cfg T) 2 m_law_first) :=
  ok_fn (k := 5) T.F_law_first sc_law_first rfl b_law_first (fun cdv A outer s H E hr => (rss_cons (rs_set (i := 2) sc_law_first.nd rfl (Or.inl rfl) (re_lstO (ra_cons re_int ra_nil))) (rss_cons (rs_for (passes_of rfl) rfl (ri_seq rfl (re_lst (ra_cons (rv 0) (ra_cons (rv 1) ra_nil)))) (rg_name (i := 3) sc_law_first.nd rfl (Or.inl rfl)) (rss_cons (rs_set (i := 4) sc_law_first.nd rfl (Or.inl rfl) re_int) (rss_one (rs_for (passes_of rfl) rfl (ri_seq rfl (re_sl rfl (rv 3) ro_none (ro_some (re_neg re_int)))) (rg_tup rfl rfl (rgs_cons (rg_name (i := 5) sc_law_first.nd rfl (Or.inl rfl)) (rgs_cons (rg_name (i := 6) sc_law_first.nd rfl (Or.inl rfl)) rgs_nil))) (rss_cons (rs_set (i := 4) sc_law_first.nd rfl (Or.inl rfl) (re_bin (op_addU rfl) ref_add (rv 4) (rv 5))) (rss_one (rs_expr (re_met rfl PySem.F.plainAttrs_list PySem.F.slot_list_append PySem.F.type_list_append mt_append refm_append (rv 2) (ra_cons (rv 4) ra_nil))))))))) (rss_cons (rs_set (i := 2) sc_law_first.nd rfl (Or.inl rfl) (re_sortSI rfl (by rfl) T.n_sorted (by rfl) T.n_set (rv 2))) (rss_cons (rs_for (passes_of rfl) rfl (ri_zipA rfl (by rfl) T.n_zip (ra_cons (rv 2) (ra_cons (re_bin (op_addU rfl) ref_add (re_sl rfl (rv 2) (ro_some re_int) ro_none) (re_lst (ra_cons re_non ra_nil))) ra_nil))) (rg_tup rfl rfl (rgs_cons (rg_name (i := 7) sc_law_first.nd rfl (Or.inl rfl)) (rgs_cons (rg_name (i := 8) sc_law_first.nd rfl (Or.inl rfl)) rgs_nil))) (rss_cons (rs_set (i := 9) sc_law_first.nd rfl (Or.inl rfl) (re_bin (op_addU rfl) ref_add (rv 7) re_int)) (rss_cons (rs_if (rt_cmp op_notN ref_notN1 (rv 8) re_non (nomark _)) (rss_one (rs_set (i := 9) sc_law_first.nd rfl (Or.inl rfl) (re_callB (call_min2 rfl) ref_min (by rfl) T.n_min PyProof.Rows.Boot.«min» (ra_cons (rv 9) (ra_cons (rv 8) ra_nil))))) rss_nil) (rss_one (rs_for (passes_of rfl) rfl (ri_range2 (by rfl) T.n_range (ra_cons (rv 7) (ra_cons (rv 9) ra_nil))) (rg_name (i := 10) sc_law_first.nd rfl (Or.inl rfl)) (rss_one (rs_if (rt_cmp (op_tr (.inr rfl) (rcE rfl (eqf_Share T B) 3).2 (hr.mono (by decide))) ref_tr (re_fn (ok_law_on T B) (hr.mono (by decide)) rfl T.g_law_on T.F_law_on.kp T.b_law_on .nil rfl (takes_of rfl rfl rfl rfl) (ra_cons (rv 0) (ra_cons (rv 10) ra_nil)) rfl) (re_fn (ok_law_on T B) (hr.mono (by decide)) rfl T.g_law_on T.F_law_on.kp T.b_law_on .nil rfl (takes_of rfl rfl rfl rfl) (ra_cons (rv 1) (ra_cons (rv 10) ra_nil)) rfl) (nomark _)) (rss_one (rs_ret (rv 10))) rss_nil))))))) (rss_one (rs_ret re_non)))))))
theorem ok_law_right (T : Facts K mg) (B : TBs T base) : FnOk P w K mg base (L2.CX P w) 14 T.f_law_right T.d_law_right ["one", "other"] (spM (cfg T) 2 m_law_right) :=
  ok_fn (k := 13) T.F_law_right sc_law_right rfl b_law_right (fun cdv A outer s H E hr => (rss_cons (rs_set (i := 2) sc_law_right.nd rfl (Or.inl rfl) (re_fn (ok_law_first T B) (hr.mono (by decide)) rfl T.g_law_first T.F_law_first.kp T.b_law_first .nil rfl (takes_of rfl rfl rfl rfl) (ra_cons (rv 0) (ra_cons (rv 1) ra_nil)) rfl)) (rss_cons (rs_par (i := 3) (j := 4) rfl sc_law_right.nd rfl rfl (by decide) rfl rfl (ra_cons (re_fn (ok_law_course T B) (hr.mono (by decide)) rfl T.g_law_course T.F_law_course.kp T.b_law_course .nil rfl (takes_of rfl rfl rfl rfl) (ra_cons (rv 0) ra_nil) rfl) (ra_cons (re_fn (ok_law_course T B) (hr.mono (by decide)) rfl T.g_law_course T.F_law_course.kp T.b_law_course .nil rfl (takes_of rfl rfl rfl rfl) (ra_cons (rv 1) ra_nil) rfl) ra_nil)) (by rfl)) (rss_cons (rs_if (rt_w (rw_or (rt_cmp (op_neD hr.units) ref_ne (re_fn (ok_first_unlike T B) (hr.mono (by decide)) rfl T.g_first_unlike T.F_first_unlike.kp T.b_first_unlike .nil rfl (takes_of rfl rfl rfl rfl) (ra_cons (rv 3) (ra_cons (rv 4) ra_nil)) rfl) (rv 2) (nomark _)) (rw_or1 (rt_cmp (op_neD hr.units) ref_ne (re_fn (ok_first_unlike T B) (hr.mono (by decide)) rfl T.g_first_unlike T.F_first_unlike.kp T.b_first_unlike .nil rfl (takes_of rfl rfl rfl rfl) (ra_cons (rv 4) (ra_cons (rv 3) ra_nil)) rfl) (rv 2) (nomark _))))) (rss_one (rs_ret re_bl)) rss_nil) (rss_one (rs_ret (re_and (re_cmp (op_eqD hr.units) ref_eq (re_cmp (op_tr (.inl rfl) (rcC rfl (eqc_Course T B)) (hr.mono (by decide))) ref_tr (rv 3) (rv 4) (nomark _)) (re_cmp op_isN ref_isN1 (rv 2) re_non (nomark _)) (nomark _)) (re_one (re_cmp (op_eqD hr.units) ref_eq (re_cmp (op_tr (.inr rfl) (rcCN rfl (eqc_Course T B)) (hr.mono (by decide))) ref_tr (rv 4) (rv 3) (nomark _)) (re_cmp op_notN ref_notN1 (rv 2) re_non (nomark _)) (nomark _))))))))))
theorem ok_law (T : Facts K mg) (B : TBs T base) : FnOk P w K mg base (L2.CX P w) 16 T.f_law T.d_law ["script"] (spM (cfg T) 1 m_law) :=
  ok_fn (k := 15) T.F_law sc_law rfl b_law (fun cdv A outer s H E hr => (rss_cons (rs_for (passes_of rfl) rfl (ri_seq rfl (re_bin (op_addU rfl) ref_add (re_sl rfl (rv 0) ro_none (ro_some re_int)) (re_lst (ra_cons re_int (ra_cons re_int ra_nil))))) (rg_name (i := 1) sc_law.nd rfl (Or.inl rfl)) (rss_cons (rs_set (i := 2) sc_law.nd rfl (Or.inl rfl) (re_fn (ok_law_well T B) (hr.mono (by decide)) rfl T.g_law_well T.F_law_well.kp T.b_law_well .nil rfl (takes_of rfl rfl rfl rfl) (ra_cons (rv 1) ra_nil) rfl)) (rss_cons (rs_set (i := 3) sc_law.nd rfl (Or.inl rfl) (re_fn (ok_law_stretches T B) (hr.mono (by decide)) rfl T.g_law_stretches T.F_law_stretches.kp T.b_law_stretches .nil rfl (takes_of rfl rfl rfl rfl) (ra_cons (rv 2) (ra_cons re_int (ra_cons re_int (ra_cons (re_fn (ok_law_one T B) (hr.mono (by decide)) rfl T.g_law_one T.F_law_one.kp T.b_law_one .nil rfl (takes_of rfl rfl rfl rfl) (ra_cons (rv 2) (ra_cons (re_lst (ra_cons re_int (ra_cons re_int (ra_cons (re_bin op_pow ref_pow re_int re_int) ra_nil)))) ra_nil)) rfl) (ra_cons re_int ra_nil))))) rfl)) (rss_cons (rs_set (i := 4) sc_law.nd rfl (Or.inl rfl) (re_fn (ok_law_otherwise T B) (hr.mono (by decide)) rfl T.g_law_otherwise T.F_law_otherwise.kp T.b_law_otherwise .nil rfl (takes_of rfl rfl rfl rfl) (ra_cons (rv 2) (ra_cons (rv 3) ra_nil)) rfl)) (rss_cons (rs_if (rt_w (rw_or (rt_cmp op_notN ref_notN1 (re_fn (ok_law_first T B) (hr.mono (by decide)) rfl T.g_law_first T.F_law_first.kp T.b_law_first .nil rfl (takes_of rfl rfl rfl rfl) (ra_cons (rv 3) (ra_cons (rv 4) ra_nil)) rfl) re_non (nomark _)) (rw_or1 (rt_not (rt_val (re_fn (ok_law_right T B) (hr.mono (by decide)) rfl T.g_law_right T.F_law_right.kp T.b_law_right .nil rfl (takes_of rfl rfl rfl rfl) (ra_cons (rv 3) (ra_cons (rv 4) ra_nil)) rfl)))))) (rss_one (rs_ret re_bl)) rss_nil) (rss_cons (rs_set (i := 5) sc_law.nd rfl (Or.inl rfl) (re_fn (ok_law_draw T B) (hr.mono (by decide)) rfl T.g_law_draw T.F_law_draw.kp T.b_law_draw .nil rfl (takes_of rfl rfl rfl rfl) (ra_cons (rv 2) (ra_cons (re_fn (ok_law_one T B) (hr.mono (by decide)) rfl T.g_law_one T.F_law_one.kp T.b_law_one .nil rfl (takes_of rfl rfl rfl rfl) (ra_cons (rv 2) (ra_cons (re_lst (ra_cons re_int (ra_cons re_int (ra_cons (re_bin op_pow ref_pow re_int re_int) ra_nil)))) ra_nil)) rfl) ra_nil)) rfl)) (rss_cons (rs_if (rt_not (rt_val (re_fn (ok_law_right T B) (hr.mono (by decide)) rfl T.g_law_right T.F_law_right.kp T.b_law_right .nil rfl (takes_of rfl rfl rfl rfl) (ra_cons (re_fn (ok_law_changed T B) (hr.mono (by decide)) rfl T.g_law_changed T.F_law_changed.kp T.b_law_changed .nil rfl (takes_of rfl rfl rfl rfl) (ra_cons (rv 2) (ra_cons (rv 4) (ra_cons (rv 5) ra_nil))) rfl) (ra_cons (rv 3) ra_nil)) rfl))) (rss_one (rs_ret re_bl)) rss_nil) (rss_cons (rs_if (rt_not (rt_val (re_fn (ok_law_right T B) (hr.mono (by decide)) rfl T.g_law_right T.F_law_right.kp T.b_law_right .nil rfl (takes_of rfl rfl rfl rfl) (ra_cons (rv 3) (ra_cons (re_fn (ok_law_stretches T B) (hr.mono (by decide)) rfl T.g_law_stretches T.F_law_stretches.kp T.b_law_stretches .nil rfl (takes_of rfl rfl rfl rfl) (ra_cons (rv 2) (ra_cons re_int (ra_cons re_int (ra_cons re_int (ra_cons re_int ra_nil))))) rfl) ra_nil)) rfl))) (rss_one (rs_ret re_bl)) rss_nil) (rss_cons (rs_set (i := 6) sc_law.nd rfl (Or.inl rfl) (re_fn (ok_law_changed T B) (hr.mono (by decide)) rfl T.g_law_changed T.F_law_changed.kp T.b_law_changed .nil rfl (takes_of rfl rfl rfl rfl) (ra_cons (rv 2) (ra_cons (rv 3) (ra_cons (rv 5) ra_nil))) rfl)) (rss_cons (rs_if (rt_cmp (op_tr (.inr rfl) (rcE rfl (eqf_Share T B) 3).2 (hr.mono (by decide))) ref_tr (re_fn (ok_first_unlike T B) (hr.mono (by decide)) rfl T.g_first_unlike T.F_first_unlike.kp T.b_first_unlike .nil rfl (takes_of rfl rfl rfl rfl) (ra_cons (re_fn (ok_law_course T B) (hr.mono (by decide)) rfl T.g_law_course T.F_law_course.kp T.b_law_course .nil rfl (takes_of rfl rfl rfl rfl) (ra_cons (rv 3) ra_nil) rfl) (ra_cons (re_fn (ok_law_course T B) (hr.mono (by decide)) rfl T.g_law_course T.F_law_course.kp T.b_law_course .nil rfl (takes_of rfl rfl rfl rfl) (ra_cons (rv 6) ra_nil) rfl) ra_nil)) rfl) (rv 5) (nomark _)) (rss_one (rs_ret re_bl)) rss_nil) (rss_cons (rs_set (i := 7) sc_law.nd rfl (Or.inl rfl) (re_fn (ok_law_course T B) (hr.mono (by decide)) rfl T.g_law_course T.F_law_course.kp T.b_law_course .nil rfl (takes_of rfl rfl rfl rfl) (ra_cons (rv 3) ra_nil) rfl)) (rss_cons (rs_set (i := 8) sc_law.nd rfl (Or.inl rfl) (re_fn (ok_law_one T B) (hr.mono (by decide)) rfl T.g_law_one T.F_law_one.kp T.b_law_one .nil rfl (takes_of rfl rfl rfl rfl) (ra_cons (rv 2) (ra_cons (re_lst (ra_cons re_non (ra_cons re_int (ra_cons (rv 3) (ra_cons re_str (ra_cons (re_lst (ra_cons (rv 7) ra_nil)) (ra_cons (re_make (c := 0) T.mkr_Share (ok_Share_init T B) (hr.mono (by decide)) rfl T.gc_Share T.b_Share_init_1 T.v_Share_init_1 ⟨_, _, rfl, rfl, rfl⟩ (takes_of rfl rfl rfl rfl) (ra_cons re_int ra_nil) rfl) (ra_cons (re_cmp (op_eqD hr.units) ref_eq re_int re_int (nomark _)) (ra_cons re_dct ra_nil))))))))) ra_nil)) rfl)) (rss_one (rs_if (rt_w (rw_or (rt_cmp (op_tr (.inl rfl) (rcC rfl (eqc_Course T B)) (hr.mono (by decide))) ref_tr (rv 7) (rv 8) (nomark _)) (rw_or (rt_cmp (op_tr (.inl rfl) (rc_odd T B) (hr.mono (by decide))) ref_tr (rv 8) (rv 7) (nomark _)) (rw_or1 (rt_not (rt_cmp (op_tr (.inr rfl) (rcCN rfl (eqc_Course T B)) (hr.mono (by decide))) ref_tr (rv 7) (rv 8) (nomark _))))))) (rss_one (rs_ret re_bl)) rss_nil)))))))))))))) (rss_one (rs_ret re_bl))))
end
set_option maxHeartbeats 0 in
theorem facts_mk {K : PySem.W.Frag} {h : Heap} {mg : Str → Option Value} (X : K.In h) (G : h.Ns mainGlobals mg)
    {c_Share c_Course c_Days f_is_whole f_common_of f_Share_init f_Share_eq f_Days_init f_Days_thing f_Days_region f_Days_region_end f_nearer f_unlike_from f_is_stretch f_are_stretches f_Course_init f_Course_lay f_Course_eq f_stretch_at f_share_of f_days_of f_first_unlike f_law_well f_law_draw f_law_one f_law_low f_law_sum f_law_word f_law_stretches f_law_course f_law_on f_law_turned f_law_cut f_law_otherwise f_law_changed f_law_first f_law_right f_law : Addr}
    {oc_is_whole kV_is_whole dc_is_whole pm_is_whole cd_is_whole ct_is_whole : Value} {od_is_whole an_is_whole : Option Addr} {sl_is_whole : Array (Option Value)}
    {oc_common_of kV_common_of dc_common_of pm_common_of cd_common_of ct_common_of : Value} {od_common_of an_common_of : Option Addr} {sl_common_of : Array (Option Value)}
    {oc_Share_init kV_Share_init dc_Share_init pm_Share_init cd_Share_init ct_Share_init : Value} {od_Share_init an_Share_init : Option Addr} {sl_Share_init : Array (Option Value)}
    {T_Share_init : Addr} {o_Share_init : Obj} {n_Share_init : Nat} {t0_Share_init : Tok}
    {oc_Share_eq kV_Share_eq dc_Share_eq pm_Share_eq cd_Share_eq ct_Share_eq : Value} {od_Share_eq an_Share_eq : Option Addr} {sl_Share_eq : Array (Option Value)}
    {oc_Days_init kV_Days_init dc_Days_init pm_Days_init cd_Days_init ct_Days_init : Value} {od_Days_init an_Days_init : Option Addr} {sl_Days_init : Array (Option Value)}
    {oc_Days_thing kV_Days_thing dc_Days_thing pm_Days_thing cd_Days_thing ct_Days_thing : Value} {od_Days_thing an_Days_thing : Option Addr} {sl_Days_thing : Array (Option Value)}
    {oc_Days_region kV_Days_region dc_Days_region pm_Days_region cd_Days_region ct_Days_region : Value} {od_Days_region an_Days_region : Option Addr} {sl_Days_region : Array (Option Value)}
    {oc_Days_region_end kV_Days_region_end dc_Days_region_end pm_Days_region_end cd_Days_region_end ct_Days_region_end : Value} {od_Days_region_end an_Days_region_end : Option Addr} {sl_Days_region_end : Array (Option Value)}
    {oc_nearer kV_nearer dc_nearer pm_nearer cd_nearer ct_nearer : Value} {od_nearer an_nearer : Option Addr} {sl_nearer : Array (Option Value)}
    {oc_unlike_from kV_unlike_from dc_unlike_from pm_unlike_from cd_unlike_from ct_unlike_from : Value} {od_unlike_from an_unlike_from : Option Addr} {sl_unlike_from : Array (Option Value)}
    {oc_is_stretch kV_is_stretch dc_is_stretch pm_is_stretch cd_is_stretch ct_is_stretch : Value} {od_is_stretch an_is_stretch : Option Addr} {sl_is_stretch : Array (Option Value)}
    {oc_are_stretches kV_are_stretches dc_are_stretches pm_are_stretches cd_are_stretches ct_are_stretches : Value} {od_are_stretches an_are_stretches : Option Addr} {sl_are_stretches : Array (Option Value)}
    {oc_Course_init kV_Course_init dc_Course_init pm_Course_init cd_Course_init ct_Course_init : Value} {od_Course_init an_Course_init : Option Addr} {sl_Course_init : Array (Option Value)}
    {oc_Course_lay kV_Course_lay dc_Course_lay pm_Course_lay cd_Course_lay ct_Course_lay : Value} {od_Course_lay an_Course_lay : Option Addr} {sl_Course_lay : Array (Option Value)}
    {oc_Course_eq kV_Course_eq dc_Course_eq pm_Course_eq cd_Course_eq ct_Course_eq : Value} {od_Course_eq an_Course_eq : Option Addr} {sl_Course_eq : Array (Option Value)}
    {oc_stretch_at kV_stretch_at dc_stretch_at pm_stretch_at cd_stretch_at ct_stretch_at : Value} {od_stretch_at an_stretch_at : Option Addr} {sl_stretch_at : Array (Option Value)}
    {oc_share_of kV_share_of dc_share_of pm_share_of cd_share_of ct_share_of : Value} {od_share_of an_share_of : Option Addr} {sl_share_of : Array (Option Value)}
    {oc_days_of kV_days_of dc_days_of pm_days_of cd_days_of ct_days_of : Value} {od_days_of an_days_of : Option Addr} {sl_days_of : Array (Option Value)}
    {oc_first_unlike kV_first_unlike dc_first_unlike pm_first_unlike cd_first_unlike ct_first_unlike : Value} {od_first_unlike an_first_unlike : Option Addr} {sl_first_unlike : Array (Option Value)}
    {oc_law_well kV_law_well dc_law_well pm_law_well cd_law_well ct_law_well : Value} {od_law_well an_law_well : Option Addr} {sl_law_well : Array (Option Value)}
    {oc_law_draw kV_law_draw dc_law_draw pm_law_draw cd_law_draw ct_law_draw : Value} {od_law_draw an_law_draw : Option Addr} {sl_law_draw : Array (Option Value)}
    {oc_law_one kV_law_one dc_law_one pm_law_one cd_law_one ct_law_one : Value} {od_law_one an_law_one : Option Addr} {sl_law_one : Array (Option Value)}
    {oc_law_low kV_law_low dc_law_low pm_law_low cd_law_low ct_law_low : Value} {od_law_low an_law_low : Option Addr} {sl_law_low : Array (Option Value)}
    {oc_law_sum kV_law_sum dc_law_sum pm_law_sum cd_law_sum ct_law_sum : Value} {od_law_sum an_law_sum : Option Addr} {sl_law_sum : Array (Option Value)}
    {oc_law_word kV_law_word dc_law_word pm_law_word cd_law_word ct_law_word : Value} {od_law_word an_law_word : Option Addr} {sl_law_word : Array (Option Value)}
    {oc_law_stretches kV_law_stretches dc_law_stretches pm_law_stretches cd_law_stretches ct_law_stretches : Value} {od_law_stretches an_law_stretches : Option Addr} {sl_law_stretches : Array (Option Value)}
    {oc_law_course kV_law_course dc_law_course pm_law_course cd_law_course ct_law_course : Value} {od_law_course an_law_course : Option Addr} {sl_law_course : Array (Option Value)}
    {oc_law_on kV_law_on dc_law_on pm_law_on cd_law_on ct_law_on : Value} {od_law_on an_law_on : Option Addr} {sl_law_on : Array (Option Value)}
    {oc_law_turned kV_law_turned dc_law_turned pm_law_turned cd_law_turned ct_law_turned : Value} {od_law_turned an_law_turned : Option Addr} {sl_law_turned : Array (Option Value)}
    {oc_law_cut kV_law_cut dc_law_cut pm_law_cut cd_law_cut ct_law_cut : Value} {od_law_cut an_law_cut : Option Addr} {sl_law_cut : Array (Option Value)}
    {oc_law_otherwise kV_law_otherwise dc_law_otherwise pm_law_otherwise cd_law_otherwise ct_law_otherwise : Value} {od_law_otherwise an_law_otherwise : Option Addr} {sl_law_otherwise : Array (Option Value)}
    {oc_law_changed kV_law_changed dc_law_changed pm_law_changed cd_law_changed ct_law_changed : Value} {od_law_changed an_law_changed : Option Addr} {sl_law_changed : Array (Option Value)}
    {oc_law_first kV_law_first dc_law_first pm_law_first cd_law_first ct_law_first : Value} {od_law_first an_law_first : Option Addr} {sl_law_first : Array (Option Value)}
    {oc_law_right kV_law_right dc_law_right pm_law_right cd_law_right ct_law_right : Value} {od_law_right an_law_right : Option Addr} {sl_law_right : Array (Option Value)}
    {oc_law kV_law dc_law pm_law cd_law ct_law : Value} {od_law an_law : Option Addr} {sl_law : Array (Option Value)}
    {tk_MOST_STRETCHES : Tok}
    {tk_MOST_WORD : Tok}
    {c0_days_of p0_days_of : Addr} {ce_days_of : Value} {cf_days_of : Option Addr} {cg_days_of : Array Value} {ch_days_of : Array (Option Value)}
    (ac_Share : PySem.W.nsIn K mainGlobals "Share" = some (some (.ref c_Share)))
    (ac_Course : PySem.W.nsIn K mainGlobals "Course" = some (some (.ref c_Course)))
    (ac_Days : PySem.W.nsIn K mainGlobals "Days" = some (some (.ref c_Days)))
    (a_is_whole : PySem.W.nsIn K mainGlobals "is_whole" = some (some (.ref f_is_whole)))
    (l_is_whole : K.lookup f_is_whole = some ⟨oc_is_whole, od_is_whole, .func (PySem.W.fnOf "is_whole" "is_whole" (defArgs s_is_whole) (defBody s_is_whole) (defScope s_is_whole) .none kV_is_whole dc_is_whole pm_is_whole an_is_whole cd_is_whole ct_is_whole), sl_is_whole⟩)
    (e_is_whole : PySem.W.codeIn K cd_is_whole "is_whole" = true)
    (k_is_whole : PySem.W.keepIn K (.ref f_is_whole) = true)
    (a_common_of : PySem.W.nsIn K mainGlobals "common_of" = some (some (.ref f_common_of)))
    (l_common_of : K.lookup f_common_of = some ⟨oc_common_of, od_common_of, .func (PySem.W.fnOf "common_of" "common_of" (defArgs s_common_of) (defBody s_common_of) (defScope s_common_of) .none kV_common_of dc_common_of pm_common_of an_common_of cd_common_of ct_common_of), sl_common_of⟩)
    (e_common_of : PySem.W.codeIn K cd_common_of "common_of" = true)
    (k_common_of : PySem.W.keepIn K (.ref f_common_of) = true)
    (a_Share_init : PySem.W.findIn K (.ref c_Share) "__init__" = some (some (.ref f_Share_init)))
    (i_Share_init : PySem.W.isFn K (.ref f_Share_init) = true)
    (l_Share_init : K.lookup f_Share_init = some ⟨oc_Share_init, od_Share_init, .func (PySem.W.fnOf "__init__" "Share.__init__" (defArgs s_Share_init) (defBody s_Share_init) (defScope s_Share_init) (.ref T_Share_init) kV_Share_init dc_Share_init pm_Share_init an_Share_init cd_Share_init ct_Share_init), sl_Share_init⟩)
    (to_Share_init : K.lookup T_Share_init = some o_Share_init)
    (td_Share_init : o_Share_init.data = .seq (#[.int 1 t0_Share_init] : Array Value) n_Share_init)
    (e_Share_init : PySem.W.codeIn K cd_Share_init "Share.__init__" = true)
    (k_Share_init : PySem.W.keepIn K (.ref f_Share_init) = true)
    (a_Share_eq : PySem.W.findIn K (.ref c_Share) "__eq__" = some (some (.ref f_Share_eq)))
    (i_Share_eq : PySem.W.isFn K (.ref f_Share_eq) = true)
    (l_Share_eq : K.lookup f_Share_eq = some ⟨oc_Share_eq, od_Share_eq, .func (PySem.W.fnOf "__eq__" "Share.__eq__" (defArgs s_Share_eq) (defBody s_Share_eq) (defScope s_Share_eq) .none kV_Share_eq dc_Share_eq pm_Share_eq an_Share_eq cd_Share_eq ct_Share_eq), sl_Share_eq⟩)
    (e_Share_eq : PySem.W.codeIn K cd_Share_eq "Share.__eq__" = true)
    (k_Share_eq : PySem.W.keepIn K (.ref f_Share_eq) = true)
    (a_Days_init : PySem.W.findIn K (.ref c_Days) "__init__" = some (some (.ref f_Days_init)))
    (i_Days_init : PySem.W.isFn K (.ref f_Days_init) = true)
    (l_Days_init : K.lookup f_Days_init = some ⟨oc_Days_init, od_Days_init, .func (PySem.W.fnOf "__init__" "Days.__init__" (defArgs s_Days_init) (defBody s_Days_init) (defScope s_Days_init) .none kV_Days_init dc_Days_init pm_Days_init an_Days_init cd_Days_init ct_Days_init), sl_Days_init⟩)
    (e_Days_init : PySem.W.codeIn K cd_Days_init "Days.__init__" = true)
    (k_Days_init : PySem.W.keepIn K (.ref f_Days_init) = true)
    (a_Days_thing : PySem.W.findIn K (.ref c_Days) "thing" = some (some (.ref f_Days_thing)))
    (i_Days_thing : PySem.W.isFn K (.ref f_Days_thing) = true)
    (l_Days_thing : K.lookup f_Days_thing = some ⟨oc_Days_thing, od_Days_thing, .func (PySem.W.fnOf "thing" "Days.thing" (defArgs s_Days_thing) (defBody s_Days_thing) (defScope s_Days_thing) .none kV_Days_thing dc_Days_thing pm_Days_thing an_Days_thing cd_Days_thing ct_Days_thing), sl_Days_thing⟩)
    (e_Days_thing : PySem.W.codeIn K cd_Days_thing "Days.thing" = true)
    (k_Days_thing : PySem.W.keepIn K (.ref f_Days_thing) = true)
    (a_Days_region : PySem.W.findIn K (.ref c_Days) "region" = some (some (.ref f_Days_region)))
    (i_Days_region : PySem.W.isFn K (.ref f_Days_region) = true)
    (l_Days_region : K.lookup f_Days_region = some ⟨oc_Days_region, od_Days_region, .func (PySem.W.fnOf "region" "Days.region" (defArgs s_Days_region) (defBody s_Days_region) (defScope s_Days_region) .none kV_Days_region dc_Days_region pm_Days_region an_Days_region cd_Days_region ct_Days_region), sl_Days_region⟩)
    (e_Days_region : PySem.W.codeIn K cd_Days_region "Days.region" = true)
    (k_Days_region : PySem.W.keepIn K (.ref f_Days_region) = true)
    (a_Days_region_end : PySem.W.findIn K (.ref c_Days) "region_end" = some (some (.ref f_Days_region_end)))
    (i_Days_region_end : PySem.W.isFn K (.ref f_Days_region_end) = true)
    (l_Days_region_end : K.lookup f_Days_region_end = some ⟨oc_Days_region_end, od_Days_region_end, .func (PySem.W.fnOf "region_end" "Days.region_end" (defArgs s_Days_region_end) (defBody s_Days_region_end) (defScope s_Days_region_end) .none kV_Days_region_end dc_Days_region_end pm_Days_region_end an_Days_region_end cd_Days_region_end ct_Days_region_end), sl_Days_region_end⟩)
    (e_Days_region_end : PySem.W.codeIn K cd_Days_region_end "Days.region_end" = true)
    (k_Days_region_end : PySem.W.keepIn K (.ref f_Days_region_end) = true)
    (a_nearer : PySem.W.nsIn K mainGlobals "nearer" = some (some (.ref f_nearer)))
    (l_nearer : K.lookup f_nearer = some ⟨oc_nearer, od_nearer, .func (PySem.W.fnOf "nearer" "nearer" (defArgs s_nearer) (defBody s_nearer) (defScope s_nearer) .none kV_nearer dc_nearer pm_nearer an_nearer cd_nearer ct_nearer), sl_nearer⟩)
    (e_nearer : PySem.W.codeIn K cd_nearer "nearer" = true)
    (k_nearer : PySem.W.keepIn K (.ref f_nearer) = true)
    (a_unlike_from : PySem.W.nsIn K mainGlobals "unlike_from" = some (some (.ref f_unlike_from)))
    (l_unlike_from : K.lookup f_unlike_from = some ⟨oc_unlike_from, od_unlike_from, .func (PySem.W.fnOf "unlike_from" "unlike_from" (defArgs s_unlike_from) (defBody s_unlike_from) (defScope s_unlike_from) .none kV_unlike_from dc_unlike_from pm_unlike_from an_unlike_from cd_unlike_from ct_unlike_from), sl_unlike_from⟩)
    (e_unlike_from : PySem.W.codeIn K cd_unlike_from "unlike_from" = true)
    (k_unlike_from : PySem.W.keepIn K (.ref f_unlike_from) = true)
    (a_is_stretch : PySem.W.nsIn K mainGlobals "is_stretch" = some (some (.ref f_is_stretch)))
    (l_is_stretch : K.lookup f_is_stretch = some ⟨oc_is_stretch, od_is_stretch, .func (PySem.W.fnOf "is_stretch" "is_stretch" (defArgs s_is_stretch) (defBody s_is_stretch) (defScope s_is_stretch) .none kV_is_stretch dc_is_stretch pm_is_stretch an_is_stretch cd_is_stretch ct_is_stretch), sl_is_stretch⟩)
    (e_is_stretch : PySem.W.codeIn K cd_is_stretch "is_stretch" = true)
    (k_is_stretch : PySem.W.keepIn K (.ref f_is_stretch) = true)
    (a_are_stretches : PySem.W.nsIn K mainGlobals "are_stretches" = some (some (.ref f_are_stretches)))
    (l_are_stretches : K.lookup f_are_stretches = some ⟨oc_are_stretches, od_are_stretches, .func (PySem.W.fnOf "are_stretches" "are_stretches" (defArgs s_are_stretches) (defBody s_are_stretches) (defScope s_are_stretches) .none kV_are_stretches dc_are_stretches pm_are_stretches an_are_stretches cd_are_stretches ct_are_stretches), sl_are_stretches⟩)
    (e_are_stretches : PySem.W.codeIn K cd_are_stretches "are_stretches" = true)
    (k_are_stretches : PySem.W.keepIn K (.ref f_are_stretches) = true)
    (a_Course_init : PySem.W.findIn K (.ref c_Course) "__init__" = some (some (.ref f_Course_init)))
    (i_Course_init : PySem.W.isFn K (.ref f_Course_init) = true)
    (l_Course_init : K.lookup f_Course_init = some ⟨oc_Course_init, od_Course_init, .func (PySem.W.fnOf "__init__" "Course.__init__" (defArgs s_Course_init) (defBody s_Course_init) (defScope s_Course_init) .none kV_Course_init dc_Course_init pm_Course_init an_Course_init cd_Course_init ct_Course_init), sl_Course_init⟩)
    (e_Course_init : PySem.W.codeIn K cd_Course_init "Course.__init__" = true)
    (k_Course_init : PySem.W.keepIn K (.ref f_Course_init) = true)
    (a_Course_lay : PySem.W.findIn K (.ref c_Course) "lay" = some (some (.ref f_Course_lay)))
    (i_Course_lay : PySem.W.isFn K (.ref f_Course_lay) = true)
    (l_Course_lay : K.lookup f_Course_lay = some ⟨oc_Course_lay, od_Course_lay, .func (PySem.W.fnOf "lay" "Course.lay" (defArgs s_Course_lay) (defBody s_Course_lay) (defScope s_Course_lay) .none kV_Course_lay dc_Course_lay pm_Course_lay an_Course_lay cd_Course_lay ct_Course_lay), sl_Course_lay⟩)
    (e_Course_lay : PySem.W.codeIn K cd_Course_lay "Course.lay" = true)
    (k_Course_lay : PySem.W.keepIn K (.ref f_Course_lay) = true)
    (a_Course_eq : PySem.W.findIn K (.ref c_Course) "__eq__" = some (some (.ref f_Course_eq)))
    (i_Course_eq : PySem.W.isFn K (.ref f_Course_eq) = true)
    (l_Course_eq : K.lookup f_Course_eq = some ⟨oc_Course_eq, od_Course_eq, .func (PySem.W.fnOf "__eq__" "Course.__eq__" (defArgs s_Course_eq) (defBody s_Course_eq) (defScope s_Course_eq) .none kV_Course_eq dc_Course_eq pm_Course_eq an_Course_eq cd_Course_eq ct_Course_eq), sl_Course_eq⟩)
    (e_Course_eq : PySem.W.codeIn K cd_Course_eq "Course.__eq__" = true)
    (k_Course_eq : PySem.W.keepIn K (.ref f_Course_eq) = true)
    (a_stretch_at : PySem.W.nsIn K mainGlobals "stretch_at" = some (some (.ref f_stretch_at)))
    (l_stretch_at : K.lookup f_stretch_at = some ⟨oc_stretch_at, od_stretch_at, .func (PySem.W.fnOf "stretch_at" "stretch_at" (defArgs s_stretch_at) (defBody s_stretch_at) (defScope s_stretch_at) .none kV_stretch_at dc_stretch_at pm_stretch_at an_stretch_at cd_stretch_at ct_stretch_at), sl_stretch_at⟩)
    (e_stretch_at : PySem.W.codeIn K cd_stretch_at "stretch_at" = true)
    (k_stretch_at : PySem.W.keepIn K (.ref f_stretch_at) = true)
    (a_share_of : PySem.W.nsIn K mainGlobals "share_of" = some (some (.ref f_share_of)))
    (l_share_of : K.lookup f_share_of = some ⟨oc_share_of, od_share_of, .func (PySem.W.fnOf "share_of" "share_of" (defArgs s_share_of) (defBody s_share_of) (defScope s_share_of) .none kV_share_of dc_share_of pm_share_of an_share_of cd_share_of ct_share_of), sl_share_of⟩)
    (e_share_of : PySem.W.codeIn K cd_share_of "share_of" = true)
    (k_share_of : PySem.W.keepIn K (.ref f_share_of) = true)
    (a_days_of : PySem.W.nsIn K mainGlobals "days_of" = some (some (.ref f_days_of)))
    (l_days_of : K.lookup f_days_of = some ⟨oc_days_of, od_days_of, .func (PySem.W.fnOf "days_of" "days_of" (defArgs s_days_of) (defBody s_days_of) (defScope s_days_of) .none kV_days_of dc_days_of pm_days_of an_days_of cd_days_of ct_days_of), sl_days_of⟩)
    (e_days_of : PySem.W.codeIn K cd_days_of "days_of" = true)
    (k_days_of : PySem.W.keepIn K (.ref f_days_of) = true)
    (a_first_unlike : PySem.W.nsIn K mainGlobals "first_unlike" = some (some (.ref f_first_unlike)))
    (l_first_unlike : K.lookup f_first_unlike = some ⟨oc_first_unlike, od_first_unlike, .func (PySem.W.fnOf "first_unlike" "first_unlike" (defArgs s_first_unlike) (defBody s_first_unlike) (defScope s_first_unlike) .none kV_first_unlike dc_first_unlike pm_first_unlike an_first_unlike cd_first_unlike ct_first_unlike), sl_first_unlike⟩)
    (e_first_unlike : PySem.W.codeIn K cd_first_unlike "first_unlike" = true)
    (k_first_unlike : PySem.W.keepIn K (.ref f_first_unlike) = true)
    (a_law_well : PySem.W.nsIn K mainGlobals "_law_well" = some (some (.ref f_law_well)))
    (l_law_well : K.lookup f_law_well = some ⟨oc_law_well, od_law_well, .func (PySem.W.fnOf "_law_well" "_law_well" (defArgs s_law_well) (defBody s_law_well) (defScope s_law_well) .none kV_law_well dc_law_well pm_law_well an_law_well cd_law_well ct_law_well), sl_law_well⟩)
    (e_law_well : PySem.W.codeIn K cd_law_well "_law_well" = true)
    (k_law_well : PySem.W.keepIn K (.ref f_law_well) = true)
    (a_law_draw : PySem.W.nsIn K mainGlobals "_law_draw" = some (some (.ref f_law_draw)))
    (l_law_draw : K.lookup f_law_draw = some ⟨oc_law_draw, od_law_draw, .func (PySem.W.fnOf "_law_draw" "_law_draw" (defArgs s_law_draw) (defBody s_law_draw) (defScope s_law_draw) .none kV_law_draw dc_law_draw pm_law_draw an_law_draw cd_law_draw ct_law_draw), sl_law_draw⟩)
    (e_law_draw : PySem.W.codeIn K cd_law_draw "_law_draw" = true)
    (k_law_draw : PySem.W.keepIn K (.ref f_law_draw) = true)
    (a_law_one : PySem.W.nsIn K mainGlobals "_law_one" = some (some (.ref f_law_one)))
    (l_law_one : K.lookup f_law_one = some ⟨oc_law_one, od_law_one, .func (PySem.W.fnOf "_law_one" "_law_one" (defArgs s_law_one) (defBody s_law_one) (defScope s_law_one) .none kV_law_one dc_law_one pm_law_one an_law_one cd_law_one ct_law_one), sl_law_one⟩)
    (e_law_one : PySem.W.codeIn K cd_law_one "_law_one" = true)
    (k_law_one : PySem.W.keepIn K (.ref f_law_one) = true)
    (a_law_low : PySem.W.nsIn K mainGlobals "_law_low" = some (some (.ref f_law_low)))
    (l_law_low : K.lookup f_law_low = some ⟨oc_law_low, od_law_low, .func (PySem.W.fnOf "_law_low" "_law_low" (defArgs s_law_low) (defBody s_law_low) (defScope s_law_low) .none kV_law_low dc_law_low pm_law_low an_law_low cd_law_low ct_law_low), sl_law_low⟩)
    (e_law_low : PySem.W.codeIn K cd_law_low "_law_low" = true)
    (k_law_low : PySem.W.keepIn K (.ref f_law_low) = true)
    (a_law_sum : PySem.W.nsIn K mainGlobals "_law_sum" = some (some (.ref f_law_sum)))
    (l_law_sum : K.lookup f_law_sum = some ⟨oc_law_sum, od_law_sum, .func (PySem.W.fnOf "_law_sum" "_law_sum" (defArgs s_law_sum) (defBody s_law_sum) (defScope s_law_sum) .none kV_law_sum dc_law_sum pm_law_sum an_law_sum cd_law_sum ct_law_sum), sl_law_sum⟩)
    (e_law_sum : PySem.W.codeIn K cd_law_sum "_law_sum" = true)
    (k_law_sum : PySem.W.keepIn K (.ref f_law_sum) = true)
    (a_law_word : PySem.W.nsIn K mainGlobals "_law_word" = some (some (.ref f_law_word)))
    (l_law_word : K.lookup f_law_word = some ⟨oc_law_word, od_law_word, .func (PySem.W.fnOf "_law_word" "_law_word" (defArgs s_law_word) (defBody s_law_word) (defScope s_law_word) .none kV_law_word dc_law_word pm_law_word an_law_word cd_law_word ct_law_word), sl_law_word⟩)
    (e_law_word : PySem.W.codeIn K cd_law_word "_law_word" = true)
    (k_law_word : PySem.W.keepIn K (.ref f_law_word) = true)
    (a_law_stretches : PySem.W.nsIn K mainGlobals "_law_stretches" = some (some (.ref f_law_stretches)))
    (l_law_stretches : K.lookup f_law_stretches = some ⟨oc_law_stretches, od_law_stretches, .func (PySem.W.fnOf "_law_stretches" "_law_stretches" (defArgs s_law_stretches) (defBody s_law_stretches) (defScope s_law_stretches) .none kV_law_stretches dc_law_stretches pm_law_stretches an_law_stretches cd_law_stretches ct_law_stretches), sl_law_stretches⟩)
    (e_law_stretches : PySem.W.codeIn K cd_law_stretches "_law_stretches" = true)
    (k_law_stretches : PySem.W.keepIn K (.ref f_law_stretches) = true)
    (a_law_course : PySem.W.nsIn K mainGlobals "_law_course" = some (some (.ref f_law_course)))
    (l_law_course : K.lookup f_law_course = some ⟨oc_law_course, od_law_course, .func (PySem.W.fnOf "_law_course" "_law_course" (defArgs s_law_course) (defBody s_law_course) (defScope s_law_course) .none kV_law_course dc_law_course pm_law_course an_law_course cd_law_course ct_law_course), sl_law_course⟩)
    (e_law_course : PySem.W.codeIn K cd_law_course "_law_course" = true)
    (k_law_course : PySem.W.keepIn K (.ref f_law_course) = true)
    (a_law_on : PySem.W.nsIn K mainGlobals "_law_on" = some (some (.ref f_law_on)))
    (l_law_on : K.lookup f_law_on = some ⟨oc_law_on, od_law_on, .func (PySem.W.fnOf "_law_on" "_law_on" (defArgs s_law_on) (defBody s_law_on) (defScope s_law_on) .none kV_law_on dc_law_on pm_law_on an_law_on cd_law_on ct_law_on), sl_law_on⟩)
    (e_law_on : PySem.W.codeIn K cd_law_on "_law_on" = true)
    (k_law_on : PySem.W.keepIn K (.ref f_law_on) = true)
    (a_law_turned : PySem.W.nsIn K mainGlobals "_law_turned" = some (some (.ref f_law_turned)))
    (l_law_turned : K.lookup f_law_turned = some ⟨oc_law_turned, od_law_turned, .func (PySem.W.fnOf "_law_turned" "_law_turned" (defArgs s_law_turned) (defBody s_law_turned) (defScope s_law_turned) .none kV_law_turned dc_law_turned pm_law_turned an_law_turned cd_law_turned ct_law_turned), sl_law_turned⟩)
    (e_law_turned : PySem.W.codeIn K cd_law_turned "_law_turned" = true)
    (k_law_turned : PySem.W.keepIn K (.ref f_law_turned) = true)
    (a_law_cut : PySem.W.nsIn K mainGlobals "_law_cut" = some (some (.ref f_law_cut)))
    (l_law_cut : K.lookup f_law_cut = some ⟨oc_law_cut, od_law_cut, .func (PySem.W.fnOf "_law_cut" "_law_cut" (defArgs s_law_cut) (defBody s_law_cut) (defScope s_law_cut) .none kV_law_cut dc_law_cut pm_law_cut an_law_cut cd_law_cut ct_law_cut), sl_law_cut⟩)
    (e_law_cut : PySem.W.codeIn K cd_law_cut "_law_cut" = true)
    (k_law_cut : PySem.W.keepIn K (.ref f_law_cut) = true)
    (a_law_otherwise : PySem.W.nsIn K mainGlobals "_law_otherwise" = some (some (.ref f_law_otherwise)))
    (l_law_otherwise : K.lookup f_law_otherwise = some ⟨oc_law_otherwise, od_law_otherwise, .func (PySem.W.fnOf "_law_otherwise" "_law_otherwise" (defArgs s_law_otherwise) (defBody s_law_otherwise) (defScope s_law_otherwise) .none kV_law_otherwise dc_law_otherwise pm_law_otherwise an_law_otherwise cd_law_otherwise ct_law_otherwise), sl_law_otherwise⟩)
    (e_law_otherwise : PySem.W.codeIn K cd_law_otherwise "_law_otherwise" = true)
    (k_law_otherwise : PySem.W.keepIn K (.ref f_law_otherwise) = true)
    (a_law_changed : PySem.W.nsIn K mainGlobals "_law_changed" = some (some (.ref f_law_changed)))
    (l_law_changed : K.lookup f_law_changed = some ⟨oc_law_changed, od_law_changed, .func (PySem.W.fnOf "_law_changed" "_law_changed" (defArgs s_law_changed) (defBody s_law_changed) (defScope s_law_changed) .none kV_law_changed dc_law_changed pm_law_changed an_law_changed cd_law_changed ct_law_changed), sl_law_changed⟩)
    (e_law_changed : PySem.W.codeIn K cd_law_changed "_law_changed" = true)
    (k_law_changed : PySem.W.keepIn K (.ref f_law_changed) = true)
    (a_law_first : PySem.W.nsIn K mainGlobals "_law_first" = some (some (.ref f_law_first)))
    (l_law_first : K.lookup f_law_first = some ⟨oc_law_first, od_law_first, .func (PySem.W.fnOf "_law_first" "_law_first" (defArgs s_law_first) (defBody s_law_first) (defScope s_law_first) .none kV_law_first dc_law_first pm_law_first an_law_first cd_law_first ct_law_first), sl_law_first⟩)
    (e_law_first : PySem.W.codeIn K cd_law_first "_law_first" = true)
    (k_law_first : PySem.W.keepIn K (.ref f_law_first) = true)
    (a_law_right : PySem.W.nsIn K mainGlobals "_law_right" = some (some (.ref f_law_right)))
    (l_law_right : K.lookup f_law_right = some ⟨oc_law_right, od_law_right, .func (PySem.W.fnOf "_law_right" "_law_right" (defArgs s_law_right) (defBody s_law_right) (defScope s_law_right) .none kV_law_right dc_law_right pm_law_right an_law_right cd_law_right ct_law_right), sl_law_right⟩)
    (e_law_right : PySem.W.codeIn K cd_law_right "_law_right" = true)
    (k_law_right : PySem.W.keepIn K (.ref f_law_right) = true)
    (a_law : PySem.W.nsIn K mainGlobals "law" = some (some (.ref f_law)))
    (l_law : K.lookup f_law = some ⟨oc_law, od_law, .func (PySem.W.fnOf "law" "law" (defArgs s_law) (defBody s_law) (defScope s_law) .none kV_law dc_law pm_law an_law cd_law ct_law), sl_law⟩)
    (e_law : PySem.W.codeIn K cd_law "law" = true)
    (k_law : PySem.W.keepIn K (.ref f_law) = true)
    (a_MOST_STRETCHES : PySem.W.nsIn K mainGlobals "MOST_STRETCHES" = some (some (.int 60 tk_MOST_STRETCHES)))
    (a_MOST_WORD : PySem.W.nsIn K mainGlobals "MOST_WORD" = some (some (.int 60 tk_MOST_WORD)))
    (n_abs : PySem.W.nsIn K mainGlobals "abs" = some none)
    (n_all : PySem.W.nsIn K mainGlobals "all" = some none)
    (n_bool : PySem.W.nsIn K mainGlobals "bool" = some none)
    (n_enumerate : PySem.W.nsIn K mainGlobals "enumerate" = some none)
    (n_int : PySem.W.nsIn K mainGlobals "int" = some none)
    (n_isinstance : PySem.W.nsIn K mainGlobals "isinstance" = some none)
    (n_len : PySem.W.nsIn K mainGlobals "len" = some none)
    (n_list : PySem.W.nsIn K mainGlobals "list" = some none)
    (n_min : PySem.W.nsIn K mainGlobals "min" = some none)
    (n_range : PySem.W.nsIn K mainGlobals "range" = some none)
    (n_set : PySem.W.nsIn K mainGlobals "set" = some none)
    (n_sorted : PySem.W.nsIn K mainGlobals "sorted" = some none)
    (n_tuple : PySem.W.nsIn K mainGlobals "tuple" = some none)
    (n_zip : PySem.W.nsIn K mainGlobals "zip" = some none)
    (mk_Share : PySem.W.makesIn K c_Share = true)
    (kc_Share : PySem.W.keepIn K (.ref c_Share) = true)
    (pg_Share : PySem.W.plainGet K c_Share Str.empty = true)
    (hd_Share : PySem.W.hasDictIn K c_Share = true)
    (po_Share : PySem.W.plainOver K c_Share = true)
    (sa_Share : PySem.W.findIn K (.ref c_Share) "__setattr__" = some (some (.builtin "object.__setattr__")))
    (at_Share : PySem.W.findIn K (.ref c_Share) "__class__" = some (some (.builtin "object.__class__")))
    (mr_Share : PySem.W.mroIn K c_Share (.type "object") = some true)
    (no_top_Share : PySem.W.findIn K (.ref c_Share) "top" = some none)
    (no_bottom_Share : PySem.W.findIn K (.ref c_Share) "bottom" = some none)
    (mk_Course : PySem.W.makesIn K c_Course = true)
    (kc_Course : PySem.W.keepIn K (.ref c_Course) = true)
    (pg_Course : PySem.W.plainGet K c_Course Str.empty = true)
    (hd_Course : PySem.W.hasDictIn K c_Course = true)
    (po_Course : PySem.W.plainOver K c_Course = true)
    (sa_Course : PySem.W.findIn K (.ref c_Course) "__setattr__" = some (some (.builtin "object.__setattr__")))
    (at_Course : PySem.W.findIn K (.ref c_Course) "__class__" = some (some (.builtin "object.__class__")))
    (mr_Course : PySem.W.mroIn K c_Course (.type "object") = some true)
    (no_begins_Course : PySem.W.findIn K (.ref c_Course) "begins" = some none)
    (no_words_Course : PySem.W.findIn K (.ref c_Course) "words" = some none)
    (mk_Days : PySem.W.makesIn K c_Days = true)
    (kc_Days : PySem.W.keepIn K (.ref c_Days) = true)
    (pg_Days : PySem.W.plainGet K c_Days Str.empty = true)
    (hd_Days : PySem.W.hasDictIn K c_Days = true)
    (po_Days : PySem.W.plainOver K c_Days = true)
    (sa_Days : PySem.W.findIn K (.ref c_Days) "__setattr__" = some (some (.builtin "object.__setattr__")))
    (at_Days : PySem.W.findIn K (.ref c_Days) "__class__" = some (some (.builtin "object.__class__")))
    (mr_Days : PySem.W.mroIn K c_Days (.type "object") = some true)
    (no_value_Days : PySem.W.findIn K (.ref c_Days) "value" = some none)
    (no_begins_Days : PySem.W.findIn K (.ref c_Days) "begins" = some none)
    (no_spans_Days : PySem.W.findIn K (.ref c_Days) "spans" = some none)
    (no_known_Days : PySem.W.findIn K (.ref c_Days) "known" = some none)
    (hcd_days_of : cd_days_of = .ref c0_days_of)
    (hk_days_of : K.lookup c0_days_of = some ⟨ce_days_of, cf_days_of, .fields cg_days_of, ch_days_of⟩)
    (hv_days_of : cg_days_of[11]? = some (.ref p0_days_of))
    (hh_days_of : PySem.W.codeHdIn K c0_days_of p0_days_of = true)
    (np_days_of : K.lookup p0_days_of = none)
    (hn : PySem.W.specialIn K (.builtin "object.__class__") "__get__" = some (some (.builtin "getset_descriptor.__get__")))
    (ht : PySem.W.takesIn K (.builtin "object.__class__") = some true)
    (ic_Share : PySem.W.isClsIn K c_Share = true)
    (ty_Share : PySem.W.typeIn K (.ref c_Share) = some (.type "type"))
    (ne_Share : PySem.W.findIn K (.ref c_Share) "__ne__" = some (some (.builtin "object.__ne__")))
    (sT_Share_NoneType : PySem.W.subIn K (.type "NoneType") (.ref c_Share) = some false)
    (sF_Share_NoneType : PySem.W.subIn K (.ref c_Share) (.type "NoneType") = some false)
    (sT_Share_bool : PySem.W.subIn K (.type "bool") (.ref c_Share) = some false)
    (sF_Share_bool : PySem.W.subIn K (.ref c_Share) (.type "bool") = some false)
    (sT_Share_int : PySem.W.subIn K (.type "int") (.ref c_Share) = some false)
    (sF_Share_int : PySem.W.subIn K (.ref c_Share) (.type "int") = some false)
    (sT_Share_str : PySem.W.subIn K (.type "str") (.ref c_Share) = some false)
    (sF_Share_str : PySem.W.subIn K (.ref c_Share) (.type "str") = some false)
    (sT_Share_tuple : PySem.W.subIn K (.type "tuple") (.ref c_Share) = some false)
    (sF_Share_tuple : PySem.W.subIn K (.ref c_Share) (.type "tuple") = some false)
    (sT_Share_list : PySem.W.subIn K (.type "list") (.ref c_Share) = some false)
    (sF_Share_list : PySem.W.subIn K (.ref c_Share) (.type "list") = some false)
    (sT_Share_dict : PySem.W.subIn K (.type "dict") (.ref c_Share) = some false)
    (sF_Share_dict : PySem.W.subIn K (.ref c_Share) (.type "dict") = some false)
    (ss_Share_Share : PySem.W.subIn K (.ref c_Share) (.ref c_Share) = some true)
    (ss_Share_Course : PySem.W.subIn K (.ref c_Share) (.ref c_Course) = some false)
    (ss_Share_Days : PySem.W.subIn K (.ref c_Share) (.ref c_Days) = some false)
    (ic_Course : PySem.W.isClsIn K c_Course = true)
    (ty_Course : PySem.W.typeIn K (.ref c_Course) = some (.type "type"))
    (ne_Course : PySem.W.findIn K (.ref c_Course) "__ne__" = some (some (.builtin "object.__ne__")))
    (sT_Course_NoneType : PySem.W.subIn K (.type "NoneType") (.ref c_Course) = some false)
    (sF_Course_NoneType : PySem.W.subIn K (.ref c_Course) (.type "NoneType") = some false)
    (sT_Course_bool : PySem.W.subIn K (.type "bool") (.ref c_Course) = some false)
    (sF_Course_bool : PySem.W.subIn K (.ref c_Course) (.type "bool") = some false)
    (sT_Course_int : PySem.W.subIn K (.type "int") (.ref c_Course) = some false)
    (sF_Course_int : PySem.W.subIn K (.ref c_Course) (.type "int") = some false)
    (sT_Course_str : PySem.W.subIn K (.type "str") (.ref c_Course) = some false)
    (sF_Course_str : PySem.W.subIn K (.ref c_Course) (.type "str") = some false)
    (sT_Course_tuple : PySem.W.subIn K (.type "tuple") (.ref c_Course) = some false)
    (sF_Course_tuple : PySem.W.subIn K (.ref c_Course) (.type "tuple") = some false)
    (sT_Course_list : PySem.W.subIn K (.type "list") (.ref c_Course) = some false)
    (sF_Course_list : PySem.W.subIn K (.ref c_Course) (.type "list") = some false)
    (sT_Course_dict : PySem.W.subIn K (.type "dict") (.ref c_Course) = some false)
    (sF_Course_dict : PySem.W.subIn K (.ref c_Course) (.type "dict") = some false)
    (ss_Course_Share : PySem.W.subIn K (.ref c_Course) (.ref c_Share) = some false)
    (ss_Course_Course : PySem.W.subIn K (.ref c_Course) (.ref c_Course) = some true)
    (ss_Course_Days : PySem.W.subIn K (.ref c_Course) (.ref c_Days) = some false)
    (ic_Days : PySem.W.isClsIn K c_Days = true)
    (ty_Days : PySem.W.typeIn K (.ref c_Days) = some (.type "type"))
    (ne_Days : PySem.W.findIn K (.ref c_Days) "__ne__" = some (some (.builtin "object.__ne__")))
    (sT_Days_NoneType : PySem.W.subIn K (.type "NoneType") (.ref c_Days) = some false)
    (sF_Days_NoneType : PySem.W.subIn K (.ref c_Days) (.type "NoneType") = some false)
    (sT_Days_bool : PySem.W.subIn K (.type "bool") (.ref c_Days) = some false)
    (sF_Days_bool : PySem.W.subIn K (.ref c_Days) (.type "bool") = some false)
    (sT_Days_int : PySem.W.subIn K (.type "int") (.ref c_Days) = some false)
    (sF_Days_int : PySem.W.subIn K (.ref c_Days) (.type "int") = some false)
    (sT_Days_str : PySem.W.subIn K (.type "str") (.ref c_Days) = some false)
    (sF_Days_str : PySem.W.subIn K (.ref c_Days) (.type "str") = some false)
    (sT_Days_tuple : PySem.W.subIn K (.type "tuple") (.ref c_Days) = some false)
    (sF_Days_tuple : PySem.W.subIn K (.ref c_Days) (.type "tuple") = some false)
    (sT_Days_list : PySem.W.subIn K (.type "list") (.ref c_Days) = some false)
    (sF_Days_list : PySem.W.subIn K (.ref c_Days) (.type "list") = some false)
    (sT_Days_dict : PySem.W.subIn K (.type "dict") (.ref c_Days) = some false)
    (sF_Days_dict : PySem.W.subIn K (.ref c_Days) (.type "dict") = some false)
    (ss_Days_Share : PySem.W.subIn K (.ref c_Days) (.ref c_Share) = some false)
    (ss_Days_Course : PySem.W.subIn K (.ref c_Days) (.ref c_Course) = some false)
    (ss_Days_Days : PySem.W.subIn K (.ref c_Days) (.ref c_Days) = some true) : Nonempty (Facts K mg) :=
  ⟨{ c_Share := c_Share, gc_Share := PySem.W.mg_of X G ac_Share,
     c_Course := c_Course, gc_Course := PySem.W.mg_of X G ac_Course,
     c_Days := c_Days, gc_Days := PySem.W.mg_of X G ac_Days,
     f_is_whole := f_is_whole, d_is_whole := _, F_is_whole := (⟨⟨_, _, _, _, _, _, _, _, _, _, rfl, l_is_whole, e_is_whole, .inl ⟨rfl, rfl⟩, .inl rfl⟩, k_is_whole⟩ : FunD K "is_whole" "is_whole" (defArgs s_is_whole) (defBody s_is_whole) (defScope s_is_whole) [] [] f_is_whole _), b_is_whole := FunD.bindsN (⟨⟨_, _, _, _, _, _, _, _, _, _, rfl, l_is_whole, e_is_whole, .inl ⟨rfl, rfl⟩, .inl rfl⟩, k_is_whole⟩ : FunD K "is_whole" "is_whole" (defArgs s_is_whole) (defBody s_is_whole) (defScope s_is_whole) [] [] f_is_whole _) fun _ _ _ _ _ _ us hl => match us, hl with | [_], _ => rfl, g_is_whole := PySem.W.mg_of X G a_is_whole,
     f_common_of := f_common_of, d_common_of := _, F_common_of := (⟨⟨_, _, _, _, _, _, _, _, _, _, rfl, l_common_of, e_common_of, .inl ⟨rfl, rfl⟩, .inl rfl⟩, k_common_of⟩ : FunD K "common_of" "common_of" (defArgs s_common_of) (defBody s_common_of) (defScope s_common_of) [] [] f_common_of _), b_common_of := FunD.bindsN (⟨⟨_, _, _, _, _, _, _, _, _, _, rfl, l_common_of, e_common_of, .inl ⟨rfl, rfl⟩, .inl rfl⟩, k_common_of⟩ : FunD K "common_of" "common_of" (defArgs s_common_of) (defBody s_common_of) (defScope s_common_of) [] [] f_common_of _) fun _ _ _ _ _ _ us hl => match us, hl with | [_, _], _ => rfl, g_common_of := PySem.W.mg_of X G a_common_of,
     f_Share_init := f_Share_init, d_Share_init := _, F_Share_init := (⟨⟨_, _, _, _, _, _, _, _, _, _, rfl, l_Share_init, e_Share_init, .inr ⟨by decide, T_Share_init, o_Share_init, [.int 1 t0_Share_init], n_Share_init, rfl, to_Share_init, td_Share_init, (.cons ⟨_, rfl⟩ .nil)⟩, .inl rfl⟩, k_Share_init⟩ : FunD K "__init__" "Share.__init__" (defArgs s_Share_init) (defBody s_Share_init) (defScope s_Share_init) [V.int 1] [] f_Share_init _), w_Share_init_1 := FunD.binds1 (⟨⟨_, _, _, _, _, _, _, _, _, _, rfl, l_Share_init, e_Share_init, .inr ⟨by decide, T_Share_init, o_Share_init, [.int 1 t0_Share_init], n_Share_init, rfl, to_Share_init, td_Share_init, (.cons ⟨_, rfl⟩ .nil)⟩, .inl rfl⟩, k_Share_init⟩ : FunD K "__init__" "Share.__init__" (defArgs s_Share_init) (defBody s_Share_init) (defScope s_Share_init) [V.int 1] [] f_Share_init _) 2 0 (by decide) rfl fun _ _ _ _ _ _ _ us its hu hi => match us, its, hu, hi with | [_, _], [_], _, _ => ⟨_, rfl, rfl⟩,
     w_Share_init_0 := FunD.binds1 (⟨⟨_, _, _, _, _, _, _, _, _, _, rfl, l_Share_init, e_Share_init, .inr ⟨by decide, T_Share_init, o_Share_init, [.int 1 t0_Share_init], n_Share_init, rfl, to_Share_init, td_Share_init, (.cons ⟨_, rfl⟩ .nil)⟩, .inl rfl⟩, k_Share_init⟩ : FunD K "__init__" "Share.__init__" (defArgs s_Share_init) (defBody s_Share_init) (defScope s_Share_init) [V.int 1] [] f_Share_init _) 3 1 (by decide) rfl fun _ _ _ _ _ _ _ us its hu hi => match us, its, hu, hi with | [_, _, _], [_], _, _ => ⟨_, rfl, rfl⟩, i_Share_init := a_Share_init, t_Share_init := i_Share_init,
     f_Share_eq := f_Share_eq, d_Share_eq := _, F_Share_eq := (⟨⟨_, _, _, _, _, _, _, _, _, _, rfl, l_Share_eq, e_Share_eq, .inl ⟨rfl, rfl⟩, .inl rfl⟩, k_Share_eq⟩ : FunD K "__eq__" "Share.__eq__" (defArgs s_Share_eq) (defBody s_Share_eq) (defScope s_Share_eq) [] [] f_Share_eq _), b_Share_eq := FunD.bindsN (⟨⟨_, _, _, _, _, _, _, _, _, _, rfl, l_Share_eq, e_Share_eq, .inl ⟨rfl, rfl⟩, .inl rfl⟩, k_Share_eq⟩ : FunD K "__eq__" "Share.__eq__" (defArgs s_Share_eq) (defBody s_Share_eq) (defScope s_Share_eq) [] [] f_Share_eq _) fun _ _ _ _ _ _ us hl => match us, hl with | [_, _], _ => rfl, i_Share_eq := a_Share_eq, t_Share_eq := i_Share_eq,
     f_Days_init := f_Days_init, d_Days_init := _, F_Days_init := (⟨⟨_, _, _, _, _, _, _, _, _, _, rfl, l_Days_init, e_Days_init, .inl ⟨rfl, rfl⟩, .inl rfl⟩, k_Days_init⟩ : FunD K "__init__" "Days.__init__" (defArgs s_Days_init) (defBody s_Days_init) (defScope s_Days_init) [] [] f_Days_init _), b_Days_init := FunD.bindsN (⟨⟨_, _, _, _, _, _, _, _, _, _, rfl, l_Days_init, e_Days_init, .inl ⟨rfl, rfl⟩, .inl rfl⟩, k_Days_init⟩ : FunD K "__init__" "Days.__init__" (defArgs s_Days_init) (defBody s_Days_init) (defScope s_Days_init) [] [] f_Days_init _) fun _ _ _ _ _ _ us hl => match us, hl with | [_, _, _, _], _ => rfl, i_Days_init := a_Days_init, t_Days_init := i_Days_init,
     f_Days_thing := f_Days_thing, d_Days_thing := _, F_Days_thing := (⟨⟨_, _, _, _, _, _, _, _, _, _, rfl, l_Days_thing, e_Days_thing, .inl ⟨rfl, rfl⟩, .inl rfl⟩, k_Days_thing⟩ : FunD K "thing" "Days.thing" (defArgs s_Days_thing) (defBody s_Days_thing) (defScope s_Days_thing) [] [] f_Days_thing _), b_Days_thing := FunD.bindsN (⟨⟨_, _, _, _, _, _, _, _, _, _, rfl, l_Days_thing, e_Days_thing, .inl ⟨rfl, rfl⟩, .inl rfl⟩, k_Days_thing⟩ : FunD K "thing" "Days.thing" (defArgs s_Days_thing) (defBody s_Days_thing) (defScope s_Days_thing) [] [] f_Days_thing _) fun _ _ _ _ _ _ us hl => match us, hl with | [_, _], _ => rfl, i_Days_thing := a_Days_thing, t_Days_thing := i_Days_thing,
     f_Days_region := f_Days_region, d_Days_region := _, F_Days_region := (⟨⟨_, _, _, _, _, _, _, _, _, _, rfl, l_Days_region, e_Days_region, .inl ⟨rfl, rfl⟩, .inl rfl⟩, k_Days_region⟩ : FunD K "region" "Days.region" (defArgs s_Days_region) (defBody s_Days_region) (defScope s_Days_region) [] [] f_Days_region _), b_Days_region := FunD.bindsN (⟨⟨_, _, _, _, _, _, _, _, _, _, rfl, l_Days_region, e_Days_region, .inl ⟨rfl, rfl⟩, .inl rfl⟩, k_Days_region⟩ : FunD K "region" "Days.region" (defArgs s_Days_region) (defBody s_Days_region) (defScope s_Days_region) [] [] f_Days_region _) fun _ _ _ _ _ _ us hl => match us, hl with | [_, _], _ => rfl, i_Days_region := a_Days_region, t_Days_region := i_Days_region,
     f_Days_region_end := f_Days_region_end, d_Days_region_end := _, F_Days_region_end := (⟨⟨_, _, _, _, _, _, _, _, _, _, rfl, l_Days_region_end, e_Days_region_end, .inl ⟨rfl, rfl⟩, .inl rfl⟩, k_Days_region_end⟩ : FunD K "region_end" "Days.region_end" (defArgs s_Days_region_end) (defBody s_Days_region_end) (defScope s_Days_region_end) [] [] f_Days_region_end _), b_Days_region_end := FunD.bindsN (⟨⟨_, _, _, _, _, _, _, _, _, _, rfl, l_Days_region_end, e_Days_region_end, .inl ⟨rfl, rfl⟩, .inl rfl⟩, k_Days_region_end⟩ : FunD K "region_end" "Days.region_end" (defArgs s_Days_region_end) (defBody s_Days_region_end) (defScope s_Days_region_end) [] [] f_Days_region_end _) fun _ _ _ _ _ _ us hl => match us, hl with | [_, _], _ => rfl, i_Days_region_end := a_Days_region_end, t_Days_region_end := i_Days_region_end,
     f_nearer := f_nearer, d_nearer := _, F_nearer := (⟨⟨_, _, _, _, _, _, _, _, _, _, rfl, l_nearer, e_nearer, .inl ⟨rfl, rfl⟩, .inl rfl⟩, k_nearer⟩ : FunD K "nearer" "nearer" (defArgs s_nearer) (defBody s_nearer) (defScope s_nearer) [] [] f_nearer _), b_nearer := FunD.bindsN (⟨⟨_, _, _, _, _, _, _, _, _, _, rfl, l_nearer, e_nearer, .inl ⟨rfl, rfl⟩, .inl rfl⟩, k_nearer⟩ : FunD K "nearer" "nearer" (defArgs s_nearer) (defBody s_nearer) (defScope s_nearer) [] [] f_nearer _) fun _ _ _ _ _ _ us hl => match us, hl with | [_, _], _ => rfl, g_nearer := PySem.W.mg_of X G a_nearer,
     f_unlike_from := f_unlike_from, d_unlike_from := _, F_unlike_from := (⟨⟨_, _, _, _, _, _, _, _, _, _, rfl, l_unlike_from, e_unlike_from, .inl ⟨rfl, rfl⟩, .inl rfl⟩, k_unlike_from⟩ : FunD K "unlike_from" "unlike_from" (defArgs s_unlike_from) (defBody s_unlike_from) (defScope s_unlike_from) [] [] f_unlike_from _), b_unlike_from := FunD.bindsN (⟨⟨_, _, _, _, _, _, _, _, _, _, rfl, l_unlike_from, e_unlike_from, .inl ⟨rfl, rfl⟩, .inl rfl⟩, k_unlike_from⟩ : FunD K "unlike_from" "unlike_from" (defArgs s_unlike_from) (defBody s_unlike_from) (defScope s_unlike_from) [] [] f_unlike_from _) fun _ _ _ _ _ _ us hl => match us, hl with | [_, _, _, _], _ => rfl, g_unlike_from := PySem.W.mg_of X G a_unlike_from,
     f_is_stretch := f_is_stretch, d_is_stretch := _, F_is_stretch := (⟨⟨_, _, _, _, _, _, _, _, _, _, rfl, l_is_stretch, e_is_stretch, .inl ⟨rfl, rfl⟩, .inl rfl⟩, k_is_stretch⟩ : FunD K "is_stretch" "is_stretch" (defArgs s_is_stretch) (defBody s_is_stretch) (defScope s_is_stretch) [] [] f_is_stretch _), b_is_stretch := FunD.bindsN (⟨⟨_, _, _, _, _, _, _, _, _, _, rfl, l_is_stretch, e_is_stretch, .inl ⟨rfl, rfl⟩, .inl rfl⟩, k_is_stretch⟩ : FunD K "is_stretch" "is_stretch" (defArgs s_is_stretch) (defBody s_is_stretch) (defScope s_is_stretch) [] [] f_is_stretch _) fun _ _ _ _ _ _ us hl => match us, hl with | [_], _ => rfl, g_is_stretch := PySem.W.mg_of X G a_is_stretch,
     f_are_stretches := f_are_stretches, d_are_stretches := _, F_are_stretches := (⟨⟨_, _, _, _, _, _, _, _, _, _, rfl, l_are_stretches, e_are_stretches, .inl ⟨rfl, rfl⟩, .inl rfl⟩, k_are_stretches⟩ : FunD K "are_stretches" "are_stretches" (defArgs s_are_stretches) (defBody s_are_stretches) (defScope s_are_stretches) [] [] f_are_stretches _), b_are_stretches := FunD.bindsN (⟨⟨_, _, _, _, _, _, _, _, _, _, rfl, l_are_stretches, e_are_stretches, .inl ⟨rfl, rfl⟩, .inl rfl⟩, k_are_stretches⟩ : FunD K "are_stretches" "are_stretches" (defArgs s_are_stretches) (defBody s_are_stretches) (defScope s_are_stretches) [] [] f_are_stretches _) fun _ _ _ _ _ _ us hl => match us, hl with | [_], _ => rfl, g_are_stretches := PySem.W.mg_of X G a_are_stretches,
     f_Course_init := f_Course_init, d_Course_init := _, F_Course_init := (⟨⟨_, _, _, _, _, _, _, _, _, _, rfl, l_Course_init, e_Course_init, .inl ⟨rfl, rfl⟩, .inl rfl⟩, k_Course_init⟩ : FunD K "__init__" "Course.__init__" (defArgs s_Course_init) (defBody s_Course_init) (defScope s_Course_init) [] [] f_Course_init _), b_Course_init := FunD.bindsN (⟨⟨_, _, _, _, _, _, _, _, _, _, rfl, l_Course_init, e_Course_init, .inl ⟨rfl, rfl⟩, .inl rfl⟩, k_Course_init⟩ : FunD K "__init__" "Course.__init__" (defArgs s_Course_init) (defBody s_Course_init) (defScope s_Course_init) [] [] f_Course_init _) fun _ _ _ _ _ _ us hl => match us, hl with | [_, _], _ => rfl, i_Course_init := a_Course_init, t_Course_init := i_Course_init,
     f_Course_lay := f_Course_lay, d_Course_lay := _, F_Course_lay := (⟨⟨_, _, _, _, _, _, _, _, _, _, rfl, l_Course_lay, e_Course_lay, .inl ⟨rfl, rfl⟩, .inl rfl⟩, k_Course_lay⟩ : FunD K "lay" "Course.lay" (defArgs s_Course_lay) (defBody s_Course_lay) (defScope s_Course_lay) [] [] f_Course_lay _), b_Course_lay := FunD.bindsN (⟨⟨_, _, _, _, _, _, _, _, _, _, rfl, l_Course_lay, e_Course_lay, .inl ⟨rfl, rfl⟩, .inl rfl⟩, k_Course_lay⟩ : FunD K "lay" "Course.lay" (defArgs s_Course_lay) (defBody s_Course_lay) (defScope s_Course_lay) [] [] f_Course_lay _) fun _ _ _ _ _ _ us hl => match us, hl with | [_, _], _ => rfl, i_Course_lay := a_Course_lay, t_Course_lay := i_Course_lay,
     f_Course_eq := f_Course_eq, d_Course_eq := _, F_Course_eq := (⟨⟨_, _, _, _, _, _, _, _, _, _, rfl, l_Course_eq, e_Course_eq, .inl ⟨rfl, rfl⟩, .inl rfl⟩, k_Course_eq⟩ : FunD K "__eq__" "Course.__eq__" (defArgs s_Course_eq) (defBody s_Course_eq) (defScope s_Course_eq) [] [] f_Course_eq _), b_Course_eq := FunD.bindsN (⟨⟨_, _, _, _, _, _, _, _, _, _, rfl, l_Course_eq, e_Course_eq, .inl ⟨rfl, rfl⟩, .inl rfl⟩, k_Course_eq⟩ : FunD K "__eq__" "Course.__eq__" (defArgs s_Course_eq) (defBody s_Course_eq) (defScope s_Course_eq) [] [] f_Course_eq _) fun _ _ _ _ _ _ us hl => match us, hl with | [_, _], _ => rfl, i_Course_eq := a_Course_eq, t_Course_eq := i_Course_eq,
     f_stretch_at := f_stretch_at, d_stretch_at := _, F_stretch_at := (⟨⟨_, _, _, _, _, _, _, _, _, _, rfl, l_stretch_at, e_stretch_at, .inl ⟨rfl, rfl⟩, .inl rfl⟩, k_stretch_at⟩ : FunD K "stretch_at" "stretch_at" (defArgs s_stretch_at) (defBody s_stretch_at) (defScope s_stretch_at) [] [] f_stretch_at _), b_stretch_at := FunD.bindsN (⟨⟨_, _, _, _, _, _, _, _, _, _, rfl, l_stretch_at, e_stretch_at, .inl ⟨rfl, rfl⟩, .inl rfl⟩, k_stretch_at⟩ : FunD K "stretch_at" "stretch_at" (defArgs s_stretch_at) (defBody s_stretch_at) (defScope s_stretch_at) [] [] f_stretch_at _) fun _ _ _ _ _ _ us hl => match us, hl with | [_, _], _ => rfl, g_stretch_at := PySem.W.mg_of X G a_stretch_at,
     f_share_of := f_share_of, d_share_of := _, F_share_of := (⟨⟨_, _, _, _, _, _, _, _, _, _, rfl, l_share_of, e_share_of, .inl ⟨rfl, rfl⟩, .inl rfl⟩, k_share_of⟩ : FunD K "share_of" "share_of" (defArgs s_share_of) (defBody s_share_of) (defScope s_share_of) [] [] f_share_of _), b_share_of := FunD.bindsN (⟨⟨_, _, _, _, _, _, _, _, _, _, rfl, l_share_of, e_share_of, .inl ⟨rfl, rfl⟩, .inl rfl⟩, k_share_of⟩ : FunD K "share_of" "share_of" (defArgs s_share_of) (defBody s_share_of) (defScope s_share_of) [] [] f_share_of _) fun _ _ _ _ _ _ us hl => match us, hl with | [_, _], _ => rfl, g_share_of := PySem.W.mg_of X G a_share_of,
     f_days_of := f_days_of, d_days_of := _, F_days_of := (⟨⟨_, _, _, _, _, _, _, _, _, _, rfl, l_days_of, e_days_of, .inl ⟨rfl, rfl⟩, .inl rfl⟩, k_days_of⟩ : FunD K "days_of" "days_of" (defArgs s_days_of) (defBody s_days_of) (defScope s_days_of) [] [] f_days_of _), b_days_of := FunD.bindsN (⟨⟨_, _, _, _, _, _, _, _, _, _, rfl, l_days_of, e_days_of, .inl ⟨rfl, rfl⟩, .inl rfl⟩, k_days_of⟩ : FunD K "days_of" "days_of" (defArgs s_days_of) (defBody s_days_of) (defScope s_days_of) [] [] f_days_of _) fun _ _ _ _ _ _ us hl => match us, hl with | [_], _ => rfl, g_days_of := PySem.W.mg_of X G a_days_of,
     f_first_unlike := f_first_unlike, d_first_unlike := _, F_first_unlike := (⟨⟨_, _, _, _, _, _, _, _, _, _, rfl, l_first_unlike, e_first_unlike, .inl ⟨rfl, rfl⟩, .inl rfl⟩, k_first_unlike⟩ : FunD K "first_unlike" "first_unlike" (defArgs s_first_unlike) (defBody s_first_unlike) (defScope s_first_unlike) [] [] f_first_unlike _), b_first_unlike := FunD.bindsN (⟨⟨_, _, _, _, _, _, _, _, _, _, rfl, l_first_unlike, e_first_unlike, .inl ⟨rfl, rfl⟩, .inl rfl⟩, k_first_unlike⟩ : FunD K "first_unlike" "first_unlike" (defArgs s_first_unlike) (defBody s_first_unlike) (defScope s_first_unlike) [] [] f_first_unlike _) fun _ _ _ _ _ _ us hl => match us, hl with | [_, _], _ => rfl, g_first_unlike := PySem.W.mg_of X G a_first_unlike,
     f_law_well := f_law_well, d_law_well := _, F_law_well := (⟨⟨_, _, _, _, _, _, _, _, _, _, rfl, l_law_well, e_law_well, .inl ⟨rfl, rfl⟩, .inl rfl⟩, k_law_well⟩ : FunD K "_law_well" "_law_well" (defArgs s_law_well) (defBody s_law_well) (defScope s_law_well) [] [] f_law_well _), b_law_well := FunD.bindsN (⟨⟨_, _, _, _, _, _, _, _, _, _, rfl, l_law_well, e_law_well, .inl ⟨rfl, rfl⟩, .inl rfl⟩, k_law_well⟩ : FunD K "_law_well" "_law_well" (defArgs s_law_well) (defBody s_law_well) (defScope s_law_well) [] [] f_law_well _) fun _ _ _ _ _ _ us hl => match us, hl with | [_], _ => rfl, g_law_well := PySem.W.mg_of X G a_law_well,
     f_law_draw := f_law_draw, d_law_draw := _, F_law_draw := (⟨⟨_, _, _, _, _, _, _, _, _, _, rfl, l_law_draw, e_law_draw, .inl ⟨rfl, rfl⟩, .inl rfl⟩, k_law_draw⟩ : FunD K "_law_draw" "_law_draw" (defArgs s_law_draw) (defBody s_law_draw) (defScope s_law_draw) [] [] f_law_draw _), b_law_draw := FunD.bindsN (⟨⟨_, _, _, _, _, _, _, _, _, _, rfl, l_law_draw, e_law_draw, .inl ⟨rfl, rfl⟩, .inl rfl⟩, k_law_draw⟩ : FunD K "_law_draw" "_law_draw" (defArgs s_law_draw) (defBody s_law_draw) (defScope s_law_draw) [] [] f_law_draw _) fun _ _ _ _ _ _ us hl => match us, hl with | [_, _], _ => rfl, g_law_draw := PySem.W.mg_of X G a_law_draw,
     f_law_one := f_law_one, d_law_one := _, F_law_one := (⟨⟨_, _, _, _, _, _, _, _, _, _, rfl, l_law_one, e_law_one, .inl ⟨rfl, rfl⟩, .inl rfl⟩, k_law_one⟩ : FunD K "_law_one" "_law_one" (defArgs s_law_one) (defBody s_law_one) (defScope s_law_one) [] [] f_law_one _), b_law_one := FunD.bindsN (⟨⟨_, _, _, _, _, _, _, _, _, _, rfl, l_law_one, e_law_one, .inl ⟨rfl, rfl⟩, .inl rfl⟩, k_law_one⟩ : FunD K "_law_one" "_law_one" (defArgs s_law_one) (defBody s_law_one) (defScope s_law_one) [] [] f_law_one _) fun _ _ _ _ _ _ us hl => match us, hl with | [_, _], _ => rfl, g_law_one := PySem.W.mg_of X G a_law_one,
     f_law_low := f_law_low, d_law_low := _, F_law_low := (⟨⟨_, _, _, _, _, _, _, _, _, _, rfl, l_law_low, e_law_low, .inl ⟨rfl, rfl⟩, .inl rfl⟩, k_law_low⟩ : FunD K "_law_low" "_law_low" (defArgs s_law_low) (defBody s_law_low) (defScope s_law_low) [] [] f_law_low _), b_law_low := FunD.bindsN (⟨⟨_, _, _, _, _, _, _, _, _, _, rfl, l_law_low, e_law_low, .inl ⟨rfl, rfl⟩, .inl rfl⟩, k_law_low⟩ : FunD K "_law_low" "_law_low" (defArgs s_law_low) (defBody s_law_low) (defScope s_law_low) [] [] f_law_low _) fun _ _ _ _ _ _ us hl => match us, hl with | [_, _], _ => rfl, g_law_low := PySem.W.mg_of X G a_law_low,
     f_law_sum := f_law_sum, d_law_sum := _, F_law_sum := (⟨⟨_, _, _, _, _, _, _, _, _, _, rfl, l_law_sum, e_law_sum, .inl ⟨rfl, rfl⟩, .inl rfl⟩, k_law_sum⟩ : FunD K "_law_sum" "_law_sum" (defArgs s_law_sum) (defBody s_law_sum) (defScope s_law_sum) [] [] f_law_sum _), b_law_sum := FunD.bindsN (⟨⟨_, _, _, _, _, _, _, _, _, _, rfl, l_law_sum, e_law_sum, .inl ⟨rfl, rfl⟩, .inl rfl⟩, k_law_sum⟩ : FunD K "_law_sum" "_law_sum" (defArgs s_law_sum) (defBody s_law_sum) (defScope s_law_sum) [] [] f_law_sum _) fun _ _ _ _ _ _ us hl => match us, hl with | [_], _ => rfl, g_law_sum := PySem.W.mg_of X G a_law_sum,
     f_law_word := f_law_word, d_law_word := _, F_law_word := (⟨⟨_, _, _, _, _, _, _, _, _, _, rfl, l_law_word, e_law_word, .inl ⟨rfl, rfl⟩, .inl rfl⟩, k_law_word⟩ : FunD K "_law_word" "_law_word" (defArgs s_law_word) (defBody s_law_word) (defScope s_law_word) [] [] f_law_word _), b_law_word := FunD.bindsN (⟨⟨_, _, _, _, _, _, _, _, _, _, rfl, l_law_word, e_law_word, .inl ⟨rfl, rfl⟩, .inl rfl⟩, k_law_word⟩ : FunD K "_law_word" "_law_word" (defArgs s_law_word) (defBody s_law_word) (defScope s_law_word) [] [] f_law_word _) fun _ _ _ _ _ _ us hl => match us, hl with | [_, _, _], _ => rfl, g_law_word := PySem.W.mg_of X G a_law_word,
     f_law_stretches := f_law_stretches, d_law_stretches := _, F_law_stretches := (⟨⟨_, _, _, _, _, _, _, _, _, _, rfl, l_law_stretches, e_law_stretches, .inl ⟨rfl, rfl⟩, .inl rfl⟩, k_law_stretches⟩ : FunD K "_law_stretches" "_law_stretches" (defArgs s_law_stretches) (defBody s_law_stretches) (defScope s_law_stretches) [] [] f_law_stretches _), b_law_stretches := FunD.bindsN (⟨⟨_, _, _, _, _, _, _, _, _, _, rfl, l_law_stretches, e_law_stretches, .inl ⟨rfl, rfl⟩, .inl rfl⟩, k_law_stretches⟩ : FunD K "_law_stretches" "_law_stretches" (defArgs s_law_stretches) (defBody s_law_stretches) (defScope s_law_stretches) [] [] f_law_stretches _) fun _ _ _ _ _ _ us hl => match us, hl with | [_, _, _, _, _], _ => rfl, g_law_stretches := PySem.W.mg_of X G a_law_stretches,
     f_law_course := f_law_course, d_law_course := _, F_law_course := (⟨⟨_, _, _, _, _, _, _, _, _, _, rfl, l_law_course, e_law_course, .inl ⟨rfl, rfl⟩, .inl rfl⟩, k_law_course⟩ : FunD K "_law_course" "_law_course" (defArgs s_law_course) (defBody s_law_course) (defScope s_law_course) [] [] f_law_course _), b_law_course := FunD.bindsN (⟨⟨_, _, _, _, _, _, _, _, _, _, rfl, l_law_course, e_law_course, .inl ⟨rfl, rfl⟩, .inl rfl⟩, k_law_course⟩ : FunD K "_law_course" "_law_course" (defArgs s_law_course) (defBody s_law_course) (defScope s_law_course) [] [] f_law_course _) fun _ _ _ _ _ _ us hl => match us, hl with | [_], _ => rfl, g_law_course := PySem.W.mg_of X G a_law_course,
     f_law_on := f_law_on, d_law_on := _, F_law_on := (⟨⟨_, _, _, _, _, _, _, _, _, _, rfl, l_law_on, e_law_on, .inl ⟨rfl, rfl⟩, .inl rfl⟩, k_law_on⟩ : FunD K "_law_on" "_law_on" (defArgs s_law_on) (defBody s_law_on) (defScope s_law_on) [] [] f_law_on _), b_law_on := FunD.bindsN (⟨⟨_, _, _, _, _, _, _, _, _, _, rfl, l_law_on, e_law_on, .inl ⟨rfl, rfl⟩, .inl rfl⟩, k_law_on⟩ : FunD K "_law_on" "_law_on" (defArgs s_law_on) (defBody s_law_on) (defScope s_law_on) [] [] f_law_on _) fun _ _ _ _ _ _ us hl => match us, hl with | [_, _], _ => rfl, g_law_on := PySem.W.mg_of X G a_law_on,
     f_law_turned := f_law_turned, d_law_turned := _, F_law_turned := (⟨⟨_, _, _, _, _, _, _, _, _, _, rfl, l_law_turned, e_law_turned, .inl ⟨rfl, rfl⟩, .inl rfl⟩, k_law_turned⟩ : FunD K "_law_turned" "_law_turned" (defArgs s_law_turned) (defBody s_law_turned) (defScope s_law_turned) [] [] f_law_turned _), b_law_turned := FunD.bindsN (⟨⟨_, _, _, _, _, _, _, _, _, _, rfl, l_law_turned, e_law_turned, .inl ⟨rfl, rfl⟩, .inl rfl⟩, k_law_turned⟩ : FunD K "_law_turned" "_law_turned" (defArgs s_law_turned) (defBody s_law_turned) (defScope s_law_turned) [] [] f_law_turned _) fun _ _ _ _ _ _ us hl => match us, hl with | [_, _], _ => rfl, g_law_turned := PySem.W.mg_of X G a_law_turned,
     f_law_cut := f_law_cut, d_law_cut := _, F_law_cut := (⟨⟨_, _, _, _, _, _, _, _, _, _, rfl, l_law_cut, e_law_cut, .inl ⟨rfl, rfl⟩, .inl rfl⟩, k_law_cut⟩ : FunD K "_law_cut" "_law_cut" (defArgs s_law_cut) (defBody s_law_cut) (defScope s_law_cut) [] [] f_law_cut _), b_law_cut := FunD.bindsN (⟨⟨_, _, _, _, _, _, _, _, _, _, rfl, l_law_cut, e_law_cut, .inl ⟨rfl, rfl⟩, .inl rfl⟩, k_law_cut⟩ : FunD K "_law_cut" "_law_cut" (defArgs s_law_cut) (defBody s_law_cut) (defScope s_law_cut) [] [] f_law_cut _) fun _ _ _ _ _ _ us hl => match us, hl with | [_, _], _ => rfl, g_law_cut := PySem.W.mg_of X G a_law_cut,
     f_law_otherwise := f_law_otherwise, d_law_otherwise := _, F_law_otherwise := (⟨⟨_, _, _, _, _, _, _, _, _, _, rfl, l_law_otherwise, e_law_otherwise, .inl ⟨rfl, rfl⟩, .inl rfl⟩, k_law_otherwise⟩ : FunD K "_law_otherwise" "_law_otherwise" (defArgs s_law_otherwise) (defBody s_law_otherwise) (defScope s_law_otherwise) [] [] f_law_otherwise _), b_law_otherwise := FunD.bindsN (⟨⟨_, _, _, _, _, _, _, _, _, _, rfl, l_law_otherwise, e_law_otherwise, .inl ⟨rfl, rfl⟩, .inl rfl⟩, k_law_otherwise⟩ : FunD K "_law_otherwise" "_law_otherwise" (defArgs s_law_otherwise) (defBody s_law_otherwise) (defScope s_law_otherwise) [] [] f_law_otherwise _) fun _ _ _ _ _ _ us hl => match us, hl with | [_, _], _ => rfl, g_law_otherwise := PySem.W.mg_of X G a_law_otherwise,
     f_law_changed := f_law_changed, d_law_changed := _, F_law_changed := (⟨⟨_, _, _, _, _, _, _, _, _, _, rfl, l_law_changed, e_law_changed, .inl ⟨rfl, rfl⟩, .inl rfl⟩, k_law_changed⟩ : FunD K "_law_changed" "_law_changed" (defArgs s_law_changed) (defBody s_law_changed) (defScope s_law_changed) [] [] f_law_changed _), b_law_changed := FunD.bindsN (⟨⟨_, _, _, _, _, _, _, _, _, _, rfl, l_law_changed, e_law_changed, .inl ⟨rfl, rfl⟩, .inl rfl⟩, k_law_changed⟩ : FunD K "_law_changed" "_law_changed" (defArgs s_law_changed) (defBody s_law_changed) (defScope s_law_changed) [] [] f_law_changed _) fun _ _ _ _ _ _ us hl => match us, hl with | [_, _, _], _ => rfl, g_law_changed := PySem.W.mg_of X G a_law_changed,
     f_law_first := f_law_first, d_law_first := _, F_law_first := (⟨⟨_, _, _, _, _, _, _, _, _, _, rfl, l_law_first, e_law_first, .inl ⟨rfl, rfl⟩, .inl rfl⟩, k_law_first⟩ : FunD K "_law_first" "_law_first" (defArgs s_law_first) (defBody s_law_first) (defScope s_law_first) [] [] f_law_first _), b_law_first := FunD.bindsN (⟨⟨_, _, _, _, _, _, _, _, _, _, rfl, l_law_first, e_law_first, .inl ⟨rfl, rfl⟩, .inl rfl⟩, k_law_first⟩ : FunD K "_law_first" "_law_first" (defArgs s_law_first) (defBody s_law_first) (defScope s_law_first) [] [] f_law_first _) fun _ _ _ _ _ _ us hl => match us, hl with | [_, _], _ => rfl, g_law_first := PySem.W.mg_of X G a_law_first,
     f_law_right := f_law_right, d_law_right := _, F_law_right := (⟨⟨_, _, _, _, _, _, _, _, _, _, rfl, l_law_right, e_law_right, .inl ⟨rfl, rfl⟩, .inl rfl⟩, k_law_right⟩ : FunD K "_law_right" "_law_right" (defArgs s_law_right) (defBody s_law_right) (defScope s_law_right) [] [] f_law_right _), b_law_right := FunD.bindsN (⟨⟨_, _, _, _, _, _, _, _, _, _, rfl, l_law_right, e_law_right, .inl ⟨rfl, rfl⟩, .inl rfl⟩, k_law_right⟩ : FunD K "_law_right" "_law_right" (defArgs s_law_right) (defBody s_law_right) (defScope s_law_right) [] [] f_law_right _) fun _ _ _ _ _ _ us hl => match us, hl with | [_, _], _ => rfl, g_law_right := PySem.W.mg_of X G a_law_right,
     f_law := f_law, d_law := _, F_law := (⟨⟨_, _, _, _, _, _, _, _, _, _, rfl, l_law, e_law, .inl ⟨rfl, rfl⟩, .inl rfl⟩, k_law⟩ : FunD K "law" "law" (defArgs s_law) (defBody s_law) (defScope s_law) [] [] f_law _), b_law := FunD.bindsN (⟨⟨_, _, _, _, _, _, _, _, _, _, rfl, l_law, e_law, .inl ⟨rfl, rfl⟩, .inl rfl⟩, k_law⟩ : FunD K "law" "law" (defArgs s_law) (defBody s_law) (defScope s_law) [] [] f_law _) fun _ _ _ _ _ _ us hl => match us, hl with | [_], _ => rfl, g_law := PySem.W.mg_of X G a_law,
     bl := fun s u => .of_eq rfl,
     tk_MOST_STRETCHES := tk_MOST_STRETCHES, g_MOST_STRETCHES := PySem.W.mg_of X G a_MOST_STRETCHES,
     tk_MOST_WORD := tk_MOST_WORD, g_MOST_WORD := PySem.W.mg_of X G a_MOST_WORD,
     n_abs := PySem.W.mg_none_of X G n_abs,
     n_all := PySem.W.mg_none_of X G n_all,
     n_bool := PySem.W.mg_none_of X G n_bool,
     n_enumerate := PySem.W.mg_none_of X G n_enumerate,
     n_int := PySem.W.mg_none_of X G n_int,
     n_isinstance := PySem.W.mg_none_of X G n_isinstance,
     n_len := PySem.W.mg_none_of X G n_len,
     n_list := PySem.W.mg_none_of X G n_list,
     n_min := PySem.W.mg_none_of X G n_min,
     n_range := PySem.W.mg_none_of X G n_range,
     n_set := PySem.W.mg_none_of X G n_set,
     n_sorted := PySem.W.mg_none_of X G n_sorted,
     n_tuple := PySem.W.mg_none_of X G n_tuple,
     n_zip := PySem.W.mg_none_of X G n_zip,
     mk_Share := mk_Share,
     kc_Share := kc_Share,
     pg_Share := pg_Share,
     hd_Share := hd_Share,
     po_Share := po_Share,
     sa_Share := sa_Share,
     at_Share := at_Share,
     mr_Share := mr_Share,
     no_top_Share := no_top_Share,
     no_bottom_Share := no_bottom_Share,
     mk_Course := mk_Course,
     kc_Course := kc_Course,
     pg_Course := pg_Course,
     hd_Course := hd_Course,
     po_Course := po_Course,
     sa_Course := sa_Course,
     at_Course := at_Course,
     mr_Course := mr_Course,
     no_begins_Course := no_begins_Course,
     no_words_Course := no_words_Course,
     mk_Days := mk_Days,
     kc_Days := kc_Days,
     pg_Days := pg_Days,
     hd_Days := hd_Days,
     po_Days := po_Days,
     sa_Days := sa_Days,
     at_Days := at_Days,
     mr_Days := mr_Days,
     no_value_Days := no_value_Days,
     no_begins_Days := no_begins_Days,
     no_spans_Days := no_spans_Days,
     no_known_Days := no_known_Days,
     c0_days_of := c0_days_of,
     p0_days_of := p0_days_of,
     cd_days_of := hcd_days_of,
     ow_days_of := fun h O => O c0_days_of p0_days_of _ _ _ _ _ _ l_days_of rfl hcd_days_of hk_days_of hv_days_of,
     hh_days_of := hh_days_of,
     np_days_of := np_days_of,
     hn := hn,
     ht := ht,
     ic_Share := ic_Share,
     ty_Share := ty_Share,
     ne_Share := ne_Share,
     sT_Share_NoneType := sT_Share_NoneType,
     sF_Share_NoneType := sF_Share_NoneType,
     sT_Share_bool := sT_Share_bool,
     sF_Share_bool := sF_Share_bool,
     sT_Share_int := sT_Share_int,
     sF_Share_int := sF_Share_int,
     sT_Share_str := sT_Share_str,
     sF_Share_str := sF_Share_str,
     sT_Share_tuple := sT_Share_tuple,
     sF_Share_tuple := sF_Share_tuple,
     sT_Share_list := sT_Share_list,
     sF_Share_list := sF_Share_list,
     sT_Share_dict := sT_Share_dict,
     sF_Share_dict := sF_Share_dict,
     ss_Share_Share := ss_Share_Share,
     ss_Share_Course := ss_Share_Course,
     ss_Share_Days := ss_Share_Days,
     ic_Course := ic_Course,
     ty_Course := ty_Course,
     ne_Course := ne_Course,
     sT_Course_NoneType := sT_Course_NoneType,
     sF_Course_NoneType := sF_Course_NoneType,
     sT_Course_bool := sT_Course_bool,
     sF_Course_bool := sF_Course_bool,
     sT_Course_int := sT_Course_int,
     sF_Course_int := sF_Course_int,
     sT_Course_str := sT_Course_str,
     sF_Course_str := sF_Course_str,
     sT_Course_tuple := sT_Course_tuple,
     sF_Course_tuple := sF_Course_tuple,
     sT_Course_list := sT_Course_list,
     sF_Course_list := sF_Course_list,
     sT_Course_dict := sT_Course_dict,
     sF_Course_dict := sF_Course_dict,
     ss_Course_Share := ss_Course_Share,
     ss_Course_Course := ss_Course_Course,
     ss_Course_Days := ss_Course_Days,
     ic_Days := ic_Days,
     ty_Days := ty_Days,
     ne_Days := ne_Days,
     sT_Days_NoneType := sT_Days_NoneType,
     sF_Days_NoneType := sF_Days_NoneType,
     sT_Days_bool := sT_Days_bool,
     sF_Days_bool := sF_Days_bool,
     sT_Days_int := sT_Days_int,
     sF_Days_int := sF_Days_int,
     sT_Days_str := sT_Days_str,
     sF_Days_str := sF_Days_str,
     sT_Days_tuple := sT_Days_tuple,
     sF_Days_tuple := sF_Days_tuple,
     sT_Days_list := sT_Days_list,
     sF_Days_list := sF_Days_list,
     sT_Days_dict := sT_Days_dict,
     sF_Days_dict := sF_Days_dict,
     ss_Days_Share := ss_Days_Share,
     ss_Days_Course := ss_Days_Course,
     ss_Days_Days := ss_Days_Days }⟩
def lw (a b : Int) : Int × Int := (a.fdiv (Int.gcd a b : Int), b.fdiv (Int.gcd a b : Int))
def sh (q : Int × Int) : PV := .obj 0 [.int q.1, .int q.2]
def pr (q : Int × Int) : PV := .tup [.int q.1, .int q.2]
theorem bel_sh (n : Nat) (q : Int × Int) : bel n (sh q) = true := rfl
theorem bel_pr (n : Nat) (q : Int × Int) : bel n (pr q) = true := rfl
theorem gcd_step (a b : Int) : Int.gcd b (a.fmod b) = Int.gcd a b := by
  have h : a.fmod b = a + b * (- a.fdiv b) := by
    have := Int.mul_fdiv_add_fmod a b
    rw [Int.mul_neg]
    omega
  rw [h, Int.gcd_add_mul_left_right, Int.gcd_comm]
theorem fmod_lt (a : Int) {b : Int} (h : b ≠ 0) : (a.fmod b).natAbs < b.natAbs := by
  rw [Int.fmod_eq_emod]
  have h1 := Int.emod_nonneg a h
  have h2 := Int.emod_lt a h
  split
  · omega
  · rename_i hn
    have h3 : a % b ≠ 0 := fun z => hn (.inr (Int.dvd_of_emod_eq_zero z))
    omega
theorem okMod_ne {a b : Int} (h : b ≠ 0) : okMod a b = true := decide_eq_true h
theorem common_ok (a b : Int) (p : Pool) (hb : b.natAbs < fuel) : m_common_of [.int a, .int b] p = .ok (.int (Int.gcd a b : Int)) p := by
  obtain ⟨en2, p2, e, x, hx, rfl, hp⟩ := loopW_inv (t := mB (mBin pNe (mVar 1) (mC (.int 0)))) (body := sPar 0 1 (mCons (mVar 1) (mCons (mBin pMod (mVar 0) (mVar 1)) mNil)))
    (fun n en q => ∃ x y : Int, en = ⟨p.length, [some (.int x), some (.int y)]⟩ ∧ q = p ∧ Int.gcd x y = Int.gcd a b ∧ n = y.natAbs)
    (fun en q => ∃ x : Int, x.natAbs = Int.gcd a b ∧ en = ⟨p.length, [some (.int x), some (.int 0)]⟩ ∧ q = p) (fun n en q h => by
      obtain ⟨x, y, rfl, rfl, hg, rfl⟩ := h
      refine ⟨!decide (y = 0), q, ?_, ?_⟩
      · simp only [fnM, fnO, sSeq, sAsg, sIf, sRet, sNop, sSet, sExpr, mBin, mB, mVar, mC, mCall, mCons, mNil, mTup, mLst, mLstO, mFn, mAnd, mOr, mNot, mNeg, mIsi, mYes, itS, itE, itR1, tgN, tgT, tgCons, tgNil, mSl, oNo, oYes, Res.bind, Res.run, Ctl.andThen, En.set, En.sets, f2I, f2C, wipeE, pAdd, pSub, pMul, pDiv, pMod, pPow, pLt, pLe, pGt, pGe, pIx, cLen, cInt, List.map_cons, List.map_nil, List.length_cons, List.length_nil, List.replicate, List.append_nil, List.nil_append, List.cons_append, List.getElem?_cons_zero, List.getElem?_cons_succ, List.set_cons_zero, List.set_cons_succ, List.take_length, get_last, set_last, take_last, take_all1, len1, getL, getR, getQ, mAndV, mOrV, mNotV, mNeg, iniM, fnA, mIf, mChain, sPar, tyP, isT, pEq_int, pNe_int, pIx, cAbs, cMax, cMin, mFld, getF, R.sFld, put0, put1, put2, may_int, thaw_int, thaw_bl, thaw_non, if_true, Bool.not_true, Bool.not_false, atI_0, atI_1, atI_2, atI_3, ixN_30, ixN_31, ixN_32, R.sIx, take_set, Bool.false_eq_true, if_false]
      by_cases hy : y = 0
      · subst hy
        refine .inl ⟨rfl, x, ?_, rfl, rfl⟩
        rw [← hg, Int.gcd_zero_right]
      · refine .inr ⟨by rw [decide_eq_false hy]; rfl, ⟨q.length, [some (.int y), some (.int (x.fmod y))]⟩, q, (x.fmod y).natAbs, ?_, fmod_lt x hy, y, x.fmod y, rfl, rfl, (gcd_step x y).trans hg, rfl⟩
        have e1 := okMod_ne (a := x) hy
        simp only [fnM, fnO, sSeq, sAsg, sIf, sRet, sNop, sSet, sExpr, mBin, mB, mVar, mC, mCall, mCons, mNil, mTup, mLst, mLstO, mFn, mAnd, mOr, mNot, mNeg, mIsi, mYes, itS, itE, itR1, tgN, tgT, tgCons, tgNil, mSl, oNo, oYes, Res.bind, Res.run, Ctl.andThen, En.set, En.sets, f2I, f2C, wipeE, pAdd, pSub, pMul, pDiv, pMod, pPow, pLt, pLe, pGt, pGe, pIx, cLen, cInt, List.map_cons, List.map_nil, List.length_cons, List.length_nil, List.replicate, List.append_nil, List.nil_append, List.cons_append, List.getElem?_cons_zero, List.getElem?_cons_succ, List.set_cons_zero, List.set_cons_succ, List.take_length, get_last, set_last, take_last, take_all1, len1, getL, getR, getQ, mAndV, mOrV, mNotV, mNeg, iniM, fnA, mIf, mChain, sPar, tyP, isT, pEq_int, pNe_int, pIx, cAbs, cMax, cMin, mFld, getF, R.sFld, put0, put1, put2, may_int, thaw_int, thaw_bl, thaw_non, if_true, Bool.not_true, Bool.not_false, atI_0, atI_1, atI_2, atI_3, ixN_30, ixN_31, ixN_32, R.sIx, take_set, Bool.false_eq_true, if_false, e1]
      )
    fuel b.natAbs ⟨p.length, [some (.int a), some (.int b)]⟩ p hb ⟨a, b, rfl, rfl, rfl, rfl⟩
  subst hp
  unfold m_common_of
  have h : b_common_of ⟨p2.length, [PV.int a, PV.int b].map some ++ List.replicate (2 - [PV.int a, PV.int b].length) none⟩ p2 = .ret (.int (Int.gcd a b : Int)) p2 := by
    show sSeq (loopW _ _ fuel) _ ⟨p2.length, [some (.int a), some (.int b)]⟩ p2 = _
    unfold sSeq
    rw [e]
    simp only [fnM, fnO, sSeq, sAsg, sIf, sRet, sNop, sSet, sExpr, mBin, mB, mVar, mC, mCall, mCons, mNil, mTup, mLst, mLstO, mFn, mAnd, mOr, mNot, mNeg, mIsi, mYes, itS, itE, itR1, tgN, tgT, tgCons, tgNil, mSl, oNo, oYes, Res.bind, Res.run, Ctl.andThen, En.set, En.sets, f2I, f2C, wipeE, pAdd, pSub, pMul, pDiv, pMod, pPow, pLt, pLe, pGt, pGe, pIx, cLen, cInt, List.map_cons, List.map_nil, List.length_cons, List.length_nil, List.replicate, List.append_nil, List.nil_append, List.cons_append, List.getElem?_cons_zero, List.getElem?_cons_succ, List.set_cons_zero, List.set_cons_succ, List.take_length, get_last, set_last, take_last, take_all1, len1, getL, getR, getQ, mAndV, mOrV, mNotV, mNeg, iniM, fnA, mIf, mChain, sPar, tyP, isT, pEq_int, pNe_int, pIx, cAbs, cMax, cMin, mFld, getF, R.sFld, put0, put1, put2, may_int, thaw_int, thaw_bl, thaw_non, if_true, Bool.not_true, Bool.not_false, atI_0, atI_1, atI_2, atI_3, ixN_30, ixN_31, ixN_32, R.sIx, take_set, Bool.false_eq_true, if_false]
    have h2 : (if x < 0 then -x else x) = (Int.gcd a b : Int) := by
      rw [← hx]
      split <;> omega
    rw [h2]
  rw [fnM_ret h (thaw_bel rfl), List.take_length]
theorem whole_ok (a : Int) (p : Pool) : m_is_whole [.int a] p = .ok (.bl true) p := by
  have h : m_is_whole [.int a] p = .ok (.bl true) (p.take p.length) := rfl
  rw [h, List.take_length]
theorem gcd_pos {a b : Int} (h : b ≠ 0) : 0 < (Int.gcd a b : Int) := by
  have : 0 < Int.gcd a b := Int.gcd_pos_iff.mpr (.inr h)
  omega
theorem gcd_le {a b : Int} (h : b ≠ 0) : Int.gcd a b ≤ b.natAbs := Nat.le_of_dvd (by omega) (Nat.gcd_dvd_right _ _)
theorem okDiv_gcd {a b x : Int} (h : b ≠ 0) (hb : b.natAbs < fuel) : okDiv x (Int.gcd a b : Int) = true := by
  have h1 := gcd_pos (a := a) h
  have h2 := gcd_le (a := a) h
  refine decide_eq_true ⟨by omega, .inr ⟨h1, ?_⟩⟩
  have h3 : ((Int.gcd a b : Int)).natAbs < 2 ^ 4000 := by rw [Int.natAbs_natCast]; exact Nat.lt_of_le_of_lt h2 (show b.natAbs < 2 ^ 4000 from hb)
  have h4 := (Nat.log2_lt (n := ((Int.gcd a b : Int)).natAbs) (k := 4000) (by omega)).mpr h3
  omega
theorem okMul_of {a b : Int} (ha : a.natAbs < fuel) (hb : b.natAbs < fuel) : okMul a b = true := by
  refine decide_eq_true (.inr ?_)
  have l : ∀ n : Nat, n < 2 ^ 4000 → n.log2 < 4001 := fun n h => by
    by_cases hn : n = 0
    · subst hn
      decide
    · have := (Nat.log2_lt (n := n) (k := 4000) hn).mpr h
      omega
  have h1 := l _ ha
  have h2 := l _ hb
  clear ha hb l
  omega
theorem share_ok (a b : Int) (p : Pool) (h0 : 0 < b) (hb : b.natAbs < fuel) : m_Share_init [.int a, .int b] p = .ok (sh (lw a b)) p := by
  have e0 : decide (b = 0) = false := decide_eq_false (by omega)
  have e1 : decide (b < 0) = false := decide_eq_false (by omega)
  have e2 : ∀ q, m_common_of [.int a, .int b] q = .ok (.int (Int.gcd a b : Int)) q := fun q => common_ok a b q hb
  have e3 : ∀ x, okDiv x (Int.gcd a b : Int) = true := fun x => okDiv_gcd (by omega) hb
  have e4 : ∀ x p, m_is_whole [.int x] p = .ok (.bl true) p := whole_ok
  have e5 : thaw fldT p.length (p ++ [.obj 0 [.int (a.fdiv (Int.gcd a b : Int)), .int (b.fdiv (Int.gcd a b : Int))]]) (.own p.length) = some (sh (lw a b)) := thaw_obj rfl rfl
  unfold m_Share_init b_Share_init
  simp only [fnM, fnO, sSeq, sAsg, sIf, sRet, sNop, sSet, sExpr, mBin, mB, mVar, mC, mCall, mCons, mNil, mTup, mLst, mLstO, mFn, mAnd, mOr, mNot, mNeg, mIsi, mYes, itS, itE, itR1, tgN, tgT, tgCons, tgNil, mSl, oNo, oYes, Res.bind, Res.run, Ctl.andThen, En.set, En.sets, f2I, f2C, wipeE, pAdd, pSub, pMul, pDiv, pMod, pPow, pLt, pLe, pGt, pGe, pIx, cLen, cInt, List.map_cons, List.map_nil, List.length_cons, List.length_nil, List.replicate, List.append_nil, List.nil_append, List.cons_append, List.getElem?_cons_zero, List.getElem?_cons_succ, List.set_cons_zero, List.set_cons_succ, List.take_length, get_last, set_last, take_last, take_all1, len1, getL, getR, getQ, mAndV, mOrV, mNotV, mNeg, iniM, fnA, mIf, mChain, sPar, tyP, isT, pEq_int, pNe_int, pIx, cAbs, cMax, cMin, mFld, getF, R.sFld, put0, put1, put2, may_int, thaw_int, thaw_bl, thaw_non, if_true, Bool.not_true, Bool.not_false, atI_0, atI_1, atI_2, atI_3, ixN_30, ixN_31, ixN_32, R.sIx, take_set, Bool.false_eq_true, if_false, e0, e1, e2, e3, e4, e5, Bool.false_eq_true, if_false]
structure Fr (q : Int × Int) : Prop where
  pos : 0 < q.2
  s1 : q.1.natAbs < 2 ^ 1900
  s2 : q.2.natAbs < 2 ^ 1900
theorem pow_fuel {n : Nat} (h : n < 2 ^ 1900) : n < fuel := Nat.lt_trans h (Nat.pow_lt_pow_right (by decide) (by decide : 1900 < 4000))
theorem abs_eq (a : Int) : (if a < 0 then -a else a) = (a.natAbs : Int) := by split <;> omega
theorem getL_len {p : Pool} {x : PV} {xs : List PV} (e : getQ p x = some xs) : cLen [x] p = .ok (.int xs.length) p := by
  unfold cLen
  dsimp only
  rw [e]
structure Co (q : Int × Int) : Prop where
  pos : 0 < q.2
  co : Int.gcd q.1 q.2 = 1
theorem fdiv_gcd {a b : Int} : (a.fdiv (Int.gcd a b : Int)) * (Int.gcd a b : Int) = a := Int.fdiv_mul_cancel (Int.gcd_dvd_left a b)
theorem fdiv_gcd2 {a b : Int} : (b.fdiv (Int.gcd a b : Int)) * (Int.gcd a b : Int) = b := Int.fdiv_mul_cancel (Int.gcd_dvd_right a b)
theorem lw_co {a b : Int} (h : 0 < b) : Co (lw a b) := by
  have hg := gcd_pos (a := a) (b := b) (by omega)
  have e1 := fdiv_gcd (a := a) (b := b)
  have e2 := fdiv_gcd2 (a := a) (b := b)
  refine ⟨?_, ?_⟩
  · show 0 < b.fdiv _
    rcases Int.lt_or_le 0 (b.fdiv (Int.gcd a b : Int)) with z | z
    · exact z
    · have := Int.mul_le_mul_of_nonneg_right z (Int.le_of_lt hg)
      rw [e2, Int.zero_mul] at this
      omega
  · have h3 : Int.gcd (a.fdiv (Int.gcd a b : Int) * (Int.gcd a b : Int)) (b.fdiv (Int.gcd a b : Int) * (Int.gcd a b : Int)) = Int.gcd (a.fdiv (Int.gcd a b : Int)) (b.fdiv (Int.gcd a b : Int)) * Int.gcd a b := by
      rw [Int.gcd_mul_right, Int.natAbs_natCast]
    rw [e1, e2] at h3
    have h4 : 0 < Int.gcd a b := by omega
    have h5 : 1 * Int.gcd a b = Int.gcd (a.fdiv (Int.gcd a b : Int)) (b.fdiv (Int.gcd a b : Int)) * Int.gcd a b := by rw [Nat.one_mul]; exact h3
    exact (Nat.eq_of_mul_eq_mul_right h4 h5).symm
theorem lw_self {q : Int × Int} (h : Co q) : lw q.1 q.2 = q := by
  unfold lw
  rw [h.co]
  show (q.1.fdiv 1, q.2.fdiv 1) = q
  rw [Int.fdiv_one, Int.fdiv_one]
theorem lw_le {a b : Int} (h : 0 < b) : (lw a b).2 ≤ b ∧ (lw a b).1.natAbs ≤ a.natAbs := by
  have hg := gcd_pos (a := a) (b := b) (by omega)
  have e1 := fdiv_gcd (a := a) (b := b)
  have e2 := fdiv_gcd2 (a := a) (b := b)
  have hp := (lw_co (a := a) h).pos
  refine ⟨?_, ?_⟩
  · show b.fdiv (Int.gcd a b : Int) ≤ b
    have h1 : b.fdiv (Int.gcd a b : Int) * 1 ≤ b.fdiv (Int.gcd a b : Int) * (Int.gcd a b : Int) := Int.mul_le_mul_of_nonneg_left (by omega) (Int.le_of_lt hp)
    omega
  · show (a.fdiv (Int.gcd a b : Int)).natAbs ≤ a.natAbs
    have h1 : (a.fdiv (Int.gcd a b : Int)).natAbs * 1 ≤ (a.fdiv (Int.gcd a b : Int)).natAbs * Int.gcd a b := Nat.mul_le_mul_left _ (by omega)
    have h2 : (a.fdiv (Int.gcd a b : Int)).natAbs * Int.gcd a b = a.natAbs := by
      have h3 : (a.fdiv (Int.gcd a b : Int)).natAbs * ((Int.gcd a b : Int)).natAbs = a.natAbs := by rw [← Int.natAbs_mul, e1]
      rw [Int.natAbs_natCast] at h3
      exact h3
    omega
theorem small_fuel {n : Nat} (h : n < 2 ^ 64) : n < fuel := Nat.lt_trans h (Nat.pow_lt_pow_right (by decide) (by decide : 64 < 4000))
theorem fr_small {q : Int × Int} (h0 : 0 < q.2) (h1 : q.1.natAbs < 2 ^ 200) (h2 : q.2.natAbs < 2 ^ 200) : Fr q := by
  have h3 : 2 ^ 200 < 2 ^ 1900 := Nat.pow_lt_pow_right (by decide) (by decide)
  exact ⟨h0, Nat.lt_trans h1 h3, Nat.lt_trans h2 h3⟩
abbrev Fq := Int × Int
abbrev two (p : Pool) (k : Nat) (c s : Cell) : Pool := (p ++ [c]).set k s
theorem two_get {p : Pool} {k : Nat} (hl : k < p.length) (c s : Cell) : (two p k c s)[p.length]? = some c := by
  unfold two
  rw [List.getElem?_set_ne (by omega), get_last]
theorem two_set {p : Pool} {k : Nat} (hl : k < p.length) (c s c' : Cell) : (two p k c s).set p.length c' = two p k c' s := by
  unfold two
  rw [List.set_comm _ _ (by omega), set_last]
theorem two_lt {p : Pool} {k : Nat} (hl : k < p.length) (c : Cell) : k < (p ++ [c]).length := by rw [len1]; omega
theorem two_eq {p : Pool} {k : Nat} (hl : k < p.length) (c s : Cell) : two p k c s = p.set k s ++ [c] := List.set_append_left k s hl
theorem set_app {p : Pool} {k : Nat} (hl : k < p.length) (c s : Cell) : p.set k s ++ [c] = (p ++ [c]).set k s := (List.set_append_left k s hl).symm
theorem mayL_self (n : Nat) (xs : List PV) : mayL n n xs = true := by
  unfold mayL
  rw [decide_eq_true (Nat.le_refl n), Bool.true_or]
theorem share_self {q : Int × Int} (p : Pool) (c : Co q) (f : Fr q) : m_Share_init [.int q.1, .int q.2] p = .ok (sh q) p := by
  rw [share_ok q.1 q.2 p c.pos (pow_fuel f.s2), lw_self c]
def val (q : Fq) : Rat := (q.1 : Rat) / (q.2 : Rat)
structure Bd (t b : Nat) (q : Fq) : Prop where
  co : Co q
  t : q.1.natAbs ≤ t
  b : q.2 ≤ b
theorem Bd.fr {t b : Nat} {q : Fq} (h : Bd t b q) (ht : t < 2 ^ 200) (hb : b < 2 ^ 200) : Fr q := by
  have h4 := h.co.pos
  have h3 := h.b
  exact fr_small h4 (Nat.lt_of_le_of_lt h.t ht) (Nat.lt_of_le_of_lt (by omega) hb)
theorem Bd.mono {t b u c : Nat} {q : Fq} (h : Bd t b q) (h1 : t ≤ u) (h2 : b ≤ c) : Bd u c q := ⟨h.co, Nat.le_trans h.t h1, by have := h.b; omega⟩
def IsWell (n : Nat) (s : Cell) : Prop := ∃ a b c : Int, s = .lst [.int a, .int b, .int c] ∧ 0 ≤ b ∧ b < 2147483647 ∧ 0 ≤ c ∧ c ≤ n
theorem IsWell.mono {n m : Nat} {s : Cell} (h : IsWell n s) (k : n ≤ m) : IsWell m s := by
  obtain ⟨a, b, c, e, h1, h2, h3, h4⟩ := h
  exact ⟨a, b, c, e, h1, h2, h3, by omega⟩
theorem okMul_b (a : Int) (b : Bool) : okMul a (if b = true then 1 else 0) = true := decide_eq_true (.inl (.inr (by cases b <;> decide)))
theorem well_ok (cell : Int) (p : Pool) : ∃ s, m_law_well [.int cell] p = .ok (.own p.length) (p ++ [s]) ∧ IsWell 0 s := by
  have h1 := Int.fmod_nonneg_of_pos cell (b := 2147483647) (by decide)
  have h2 := Int.fmod_lt_of_pos cell (b := 2147483647) (by decide)
  have e1 : okMod cell 2147483647 = true := rfl
  refine ⟨.lst [.int (cell * (if decide ((10 : Int) ^ (18 : Int).toNat ≤ cell) = true then 1 else 0)), .int (cell.fmod 2147483647), .int 0], fnO_end rfl ?_, _, _, _, rfl, h1, h2, by decide, by decide⟩
  · show Ends (b_law_well ⟨p.length, [some (.int cell)]⟩ p) _
    unfold b_law_well
    (repeat (first | ((with_reducible first | apply R.go_seq_set | apply R.go_seq_par | apply R.go_seq_asg | apply R.go_seq_expr | apply R.go_ret | apply R.go_seq_ret | apply R.go_set | apply R.go_par | apply R.go_asg | apply R.go_expr); (focus ((repeat' (first | (with_reducible first | exact okMul_b _ _ | exact e1 | exact R.c_ok | exact R.nil_ok | exact R.yes_ok | exact R.atI_0 _ _ | exact R.atI_1 _ _ _ | exact R.atI_2 _ _ _ _ | exact R.atI_3 _ _ _ _ _) | (((with_reducible apply R.var_ok); exact rfl)) | (with_reducible first | apply R.cons_ok | apply R.fn0_ok | apply R.fn_ok | apply R.kw_ok | apply R.tup_ok | apply R.lst_ok | apply R.lstO_ok | apply R.len_ok | apply R.b_ok | apply R.add_ok | apply R.sub_ok | apply R.mul_ok | apply R.mod_ok | apply R.div_ok | apply R.neg_ok | apply R.lt_ok | apply R.gt_ok | apply R.ge_ok | apply R.eq_ok | apply R.ne_ok | apply R.ati_ok | apply R.getF_ok | apply R.not_ok | apply R.and_ok | apply R.or_ok | apply R.notV_ok) | (((with_reducible show R.getQ _ _ = some _); exact rfl)) | (((with_reducible show R.getF _ _ _ _ = some _); exact rfl)) | (((with_reducible show R.atI _ _ = some _); exact rfl)) | (((with_reducible show R.tgT _ _ _ = some _); exact rfl)) | (((with_reducible show R.tgN _ _ = some _); exact rfl)) | (((with_reducible show R.cMax _ _ = _); exact rfl)) | (((with_reducible show R.cMin _ _ = _); exact rfl)) | (((with_reducible show R.cAbs _ _ = _); exact rfl)) | (((with_reducible show R.cInt _ _ = _); exact rfl)) | (((with_reducible show R.cList _ _ = _); exact rfl)) | (((with_reducible show R.cListO _ _ = _); exact rfl)) | (((with_reducible show R.cTuple _ _ = _); exact rfl)) | (((with_reducible show R.pPow _ _ _ = _); exact rfl)) | (((with_reducible show R.ixN _ _ = some _); exact rfl)) | (((with_reducible show R.f2I _ _ _ _ = _); exact rfl)) | (((with_reducible show R.may _ _ _ = true); exact R.may_bel rfl)) | (((with_reducible show R.mayL _ _ _ = true); exact R.mayL_bels rfl)) | (with_reducible first | apply R.isi_ok | apply R.app_ok | apply R.call_ok | apply R.bin_ok) | (dsimp only [List.cons_append, List.nil_append, List.append_nil]))); done)); try (focus (first | ((with_reducible show R.tgT _ _ _ = some _); exact rfl) | ((with_reducible show R.tgN _ _ = some _); exact rfl)))) | (with_reducible first | apply R.go_seq_nop | apply R.go_assoc) | ((with_reducible first | apply R.go_seq_ix | apply R.go_ix); (focus ((repeat' (first | (with_reducible first | exact okMul_b _ _ | exact e1 | exact R.c_ok | exact R.nil_ok | exact R.yes_ok | exact R.atI_0 _ _ | exact R.atI_1 _ _ _ | exact R.atI_2 _ _ _ _ | exact R.atI_3 _ _ _ _ _) | (((with_reducible apply R.var_ok); exact rfl)) | (with_reducible first | apply R.cons_ok | apply R.fn0_ok | apply R.fn_ok | apply R.kw_ok | apply R.tup_ok | apply R.lst_ok | apply R.lstO_ok | apply R.len_ok | apply R.b_ok | apply R.add_ok | apply R.sub_ok | apply R.mul_ok | apply R.mod_ok | apply R.div_ok | apply R.neg_ok | apply R.lt_ok | apply R.gt_ok | apply R.ge_ok | apply R.eq_ok | apply R.ne_ok | apply R.ati_ok | apply R.getF_ok | apply R.not_ok | apply R.and_ok | apply R.or_ok | apply R.notV_ok) | (((with_reducible show R.getQ _ _ = some _); exact rfl)) | (((with_reducible show R.getF _ _ _ _ = some _); exact rfl)) | (((with_reducible show R.atI _ _ = some _); exact rfl)) | (((with_reducible show R.tgT _ _ _ = some _); exact rfl)) | (((with_reducible show R.tgN _ _ = some _); exact rfl)) | (((with_reducible show R.cMax _ _ = _); exact rfl)) | (((with_reducible show R.cMin _ _ = _); exact rfl)) | (((with_reducible show R.cAbs _ _ = _); exact rfl)) | (((with_reducible show R.cInt _ _ = _); exact rfl)) | (((with_reducible show R.cList _ _ = _); exact rfl)) | (((with_reducible show R.cListO _ _ = _); exact rfl)) | (((with_reducible show R.cTuple _ _ = _); exact rfl)) | (((with_reducible show R.pPow _ _ _ = _); exact rfl)) | (((with_reducible show R.ixN _ _ = some _); exact rfl)) | (((with_reducible show R.f2I _ _ _ _ = _); exact rfl)) | (((with_reducible show R.may _ _ _ = true); exact R.may_bel rfl)) | (((with_reducible show R.mayL _ _ _ = true); exact R.mayL_bels rfl)) | (with_reducible first | apply R.isi_ok | apply R.app_ok | apply R.call_ok | apply R.bin_ok) | (dsimp only [List.cons_append, List.nil_append, List.append_nil]))); done)); (focus ((repeat' (first | (with_reducible first | exact okMul_b _ _ | exact e1 | exact R.c_ok | exact R.nil_ok | exact R.yes_ok | exact R.atI_0 _ _ | exact R.atI_1 _ _ _ | exact R.atI_2 _ _ _ _ | exact R.atI_3 _ _ _ _ _) | (((with_reducible apply R.var_ok); exact rfl)) | (with_reducible first | apply R.cons_ok | apply R.fn0_ok | apply R.fn_ok | apply R.kw_ok | apply R.tup_ok | apply R.lst_ok | apply R.lstO_ok | apply R.len_ok | apply R.b_ok | apply R.add_ok | apply R.sub_ok | apply R.mul_ok | apply R.mod_ok | apply R.div_ok | apply R.neg_ok | apply R.lt_ok | apply R.gt_ok | apply R.ge_ok | apply R.eq_ok | apply R.ne_ok | apply R.ati_ok | apply R.getF_ok | apply R.not_ok | apply R.and_ok | apply R.or_ok | apply R.notV_ok) | (((with_reducible show R.getQ _ _ = some _); exact rfl)) | (((with_reducible show R.getF _ _ _ _ = some _); exact rfl)) | (((with_reducible show R.atI _ _ = some _); exact rfl)) | (((with_reducible show R.tgT _ _ _ = some _); exact rfl)) | (((with_reducible show R.tgN _ _ = some _); exact rfl)) | (((with_reducible show R.cMax _ _ = _); exact rfl)) | (((with_reducible show R.cMin _ _ = _); exact rfl)) | (((with_reducible show R.cAbs _ _ = _); exact rfl)) | (((with_reducible show R.cInt _ _ = _); exact rfl)) | (((with_reducible show R.cList _ _ = _); exact rfl)) | (((with_reducible show R.cListO _ _ = _); exact rfl)) | (((with_reducible show R.cTuple _ _ = _); exact rfl)) | (((with_reducible show R.pPow _ _ _ = _); exact rfl)) | (((with_reducible show R.ixN _ _ = some _); exact rfl)) | (((with_reducible show R.f2I _ _ _ _ = _); exact rfl)) | (((with_reducible show R.may _ _ _ = true); exact R.may_bel rfl)) | (((with_reducible show R.mayL _ _ _ = true); exact R.mayL_bels rfl)) | (with_reducible first | apply R.isi_ok | apply R.app_ok | apply R.call_ok | apply R.bin_ok) | (dsimp only [List.cons_append, List.nil_append, List.append_nil]))); done)); (focus ((repeat' (first | (with_reducible first | exact okMul_b _ _ | exact e1 | exact R.c_ok | exact R.nil_ok | exact R.yes_ok | exact R.atI_0 _ _ | exact R.atI_1 _ _ _ | exact R.atI_2 _ _ _ _ | exact R.atI_3 _ _ _ _ _) | (((with_reducible apply R.var_ok); exact rfl)) | (with_reducible first | apply R.cons_ok | apply R.fn0_ok | apply R.fn_ok | apply R.kw_ok | apply R.tup_ok | apply R.lst_ok | apply R.lstO_ok | apply R.len_ok | apply R.b_ok | apply R.add_ok | apply R.sub_ok | apply R.mul_ok | apply R.mod_ok | apply R.div_ok | apply R.neg_ok | apply R.lt_ok | apply R.gt_ok | apply R.ge_ok | apply R.eq_ok | apply R.ne_ok | apply R.ati_ok | apply R.getF_ok | apply R.not_ok | apply R.and_ok | apply R.or_ok | apply R.notV_ok) | (((with_reducible show R.getQ _ _ = some _); exact rfl)) | (((with_reducible show R.getF _ _ _ _ = some _); exact rfl)) | (((with_reducible show R.atI _ _ = some _); exact rfl)) | (((with_reducible show R.tgT _ _ _ = some _); exact rfl)) | (((with_reducible show R.tgN _ _ = some _); exact rfl)) | (((with_reducible show R.cMax _ _ = _); exact rfl)) | (((with_reducible show R.cMin _ _ = _); exact rfl)) | (((with_reducible show R.cAbs _ _ = _); exact rfl)) | (((with_reducible show R.cInt _ _ = _); exact rfl)) | (((with_reducible show R.cList _ _ = _); exact rfl)) | (((with_reducible show R.cListO _ _ = _); exact rfl)) | (((with_reducible show R.cTuple _ _ = _); exact rfl)) | (((with_reducible show R.pPow _ _ _ = _); exact rfl)) | (((with_reducible show R.ixN _ _ = some _); exact rfl)) | (((with_reducible show R.f2I _ _ _ _ = _); exact rfl)) | (((with_reducible show R.may _ _ _ = true); exact R.may_bel rfl)) | (((with_reducible show R.mayL _ _ _ = true); exact R.mayL_bels rfl)) | (with_reducible first | apply R.isi_ok | apply R.app_ok | apply R.call_ok | apply R.bin_ok) | (dsimp only [List.cons_append, List.nil_append, List.append_nil]))); done)); (focus (first | exact okMul_b _ _ | exact e1 | assumption)); (focus (first | exact okMul_b _ _ | exact e1 | exact rfl)); (focus (first | exact okMul_b _ _ | exact e1 | exact R.may_bel rfl))) | ((with_reducible first | apply R.go_seq_if_f | apply R.go_if_f); (focus ((repeat' (first | (with_reducible first | exact okMul_b _ _ | exact e1 | exact R.c_ok | exact R.nil_ok | exact R.yes_ok | exact R.atI_0 _ _ | exact R.atI_1 _ _ _ | exact R.atI_2 _ _ _ _ | exact R.atI_3 _ _ _ _ _) | (((with_reducible apply R.var_ok); exact rfl)) | (with_reducible first | apply R.cons_ok | apply R.fn0_ok | apply R.fn_ok | apply R.kw_ok | apply R.tup_ok | apply R.lst_ok | apply R.lstO_ok | apply R.len_ok | apply R.b_ok | apply R.add_ok | apply R.sub_ok | apply R.mul_ok | apply R.mod_ok | apply R.div_ok | apply R.neg_ok | apply R.lt_ok | apply R.gt_ok | apply R.ge_ok | apply R.eq_ok | apply R.ne_ok | apply R.ati_ok | apply R.getF_ok | apply R.not_ok | apply R.and_ok | apply R.or_ok | apply R.notV_ok) | (((with_reducible show R.getQ _ _ = some _); exact rfl)) | (((with_reducible show R.getF _ _ _ _ = some _); exact rfl)) | (((with_reducible show R.atI _ _ = some _); exact rfl)) | (((with_reducible show R.tgT _ _ _ = some _); exact rfl)) | (((with_reducible show R.tgN _ _ = some _); exact rfl)) | (((with_reducible show R.cMax _ _ = _); exact rfl)) | (((with_reducible show R.cMin _ _ = _); exact rfl)) | (((with_reducible show R.cAbs _ _ = _); exact rfl)) | (((with_reducible show R.cInt _ _ = _); exact rfl)) | (((with_reducible show R.cList _ _ = _); exact rfl)) | (((with_reducible show R.cListO _ _ = _); exact rfl)) | (((with_reducible show R.cTuple _ _ = _); exact rfl)) | (((with_reducible show R.pPow _ _ _ = _); exact rfl)) | (((with_reducible show R.ixN _ _ = some _); exact rfl)) | (((with_reducible show R.f2I _ _ _ _ = _); exact rfl)) | (((with_reducible show R.may _ _ _ = true); exact R.may_bel rfl)) | (((with_reducible show R.mayL _ _ _ = true); exact R.mayL_bels rfl)) | (with_reducible first | apply R.isi_ok | apply R.app_ok | apply R.call_ok | apply R.bin_ok) | (dsimp only [List.cons_append, List.nil_append, List.append_nil]))); done))) | ((with_reducible first | apply R.go_seq_if_t | apply R.go_if_t); (focus ((repeat' (first | (with_reducible first | exact okMul_b _ _ | exact e1 | exact R.c_ok | exact R.nil_ok | exact R.yes_ok | exact R.atI_0 _ _ | exact R.atI_1 _ _ _ | exact R.atI_2 _ _ _ _ | exact R.atI_3 _ _ _ _ _) | (((with_reducible apply R.var_ok); exact rfl)) | (with_reducible first | apply R.cons_ok | apply R.fn0_ok | apply R.fn_ok | apply R.kw_ok | apply R.tup_ok | apply R.lst_ok | apply R.lstO_ok | apply R.len_ok | apply R.b_ok | apply R.add_ok | apply R.sub_ok | apply R.mul_ok | apply R.mod_ok | apply R.div_ok | apply R.neg_ok | apply R.lt_ok | apply R.gt_ok | apply R.ge_ok | apply R.eq_ok | apply R.ne_ok | apply R.ati_ok | apply R.getF_ok | apply R.not_ok | apply R.and_ok | apply R.or_ok | apply R.notV_ok) | (((with_reducible show R.getQ _ _ = some _); exact rfl)) | (((with_reducible show R.getF _ _ _ _ = some _); exact rfl)) | (((with_reducible show R.atI _ _ = some _); exact rfl)) | (((with_reducible show R.tgT _ _ _ = some _); exact rfl)) | (((with_reducible show R.tgN _ _ = some _); exact rfl)) | (((with_reducible show R.cMax _ _ = _); exact rfl)) | (((with_reducible show R.cMin _ _ = _); exact rfl)) | (((with_reducible show R.cAbs _ _ = _); exact rfl)) | (((with_reducible show R.cInt _ _ = _); exact rfl)) | (((with_reducible show R.cList _ _ = _); exact rfl)) | (((with_reducible show R.cListO _ _ = _); exact rfl)) | (((with_reducible show R.cTuple _ _ = _); exact rfl)) | (((with_reducible show R.pPow _ _ _ = _); exact rfl)) | (((with_reducible show R.ixN _ _ = some _); exact rfl)) | (((with_reducible show R.f2I _ _ _ _ = _); exact rfl)) | (((with_reducible show R.may _ _ _ = true); exact R.may_bel rfl)) | (((with_reducible show R.mayL _ _ _ = true); exact R.mayL_bels rfl)) | (with_reducible first | apply R.isi_ok | apply R.app_ok | apply R.call_ok | apply R.bin_ok) | (dsimp only [List.cons_append, List.nil_append, List.append_nil]))); done)))))
    exact ⟨[], rfl⟩
theorem draw_ok (p : Pool) (k n : Nat) (s0 : Cell) (many : Int) (hl : k < p.length) (h0 : IsWell n s0) (hn : n ≤ 1000000) (h1 : 0 < many) (h2 : many < 2 ^ 200) :
    ∃ (d : Int) (s : Cell), m_law_draw [.own k, .int many] (p.set k s0) = .ok (.int d) (p.set k s) ∧ IsWell (n + 1) s ∧ 0 ≤ d ∧ d < many := by
  obtain ⟨a, b, c, rfl, b0, b1, c0, c1⟩ := h0
  have g : ∀ s : Cell, (p.set k s)[k]? = some s := fun s => List.getElem?_set_self hl
  have gs : ∀ s t : Cell, (p.set k s).set k t = p.set k t := fun s t => List.set_set ..
  have em : ∀ x, okMod x many = true := fun x => decide_eq_true (by omega)
  have ed : ∀ x, okDiv x many = true := fun x => by
    refine decide_eq_true ⟨by omega, .inr ⟨h1, ?_⟩⟩
    have := (Nat.log2_lt (n := many.natAbs) (k := 200) (by omega)).mpr (by omega)
    omega
  have hle : (p.set k (.lst [.int a, .int b, .int c])).length = p.length := List.length_set
  by_cases h : 0 < a
  · have q : ∀ d u s x, s = Cell.lst [.int u, .int b, .int c] → m_law_draw [.own k, .int many] (p.set k (.lst [.int a, .int b, .int c])) = .ok (.int d) (p.set k s) → 0 ≤ d → d < many → x = s →
        ∃ (d : Int) (s : Cell), m_law_draw [.own k, .int many] (p.set k (.lst [.int a, .int b, .int c])) = .ok (.int d) (p.set k s) ∧ IsWell (n + 1) s ∧ 0 ≤ d ∧ d < many :=
      fun d u s x e f d0 d1 _ => ⟨d, s, f, ⟨u, b, c, e, b0, b1, c0, by omega⟩, d0, d1⟩
    refine q (a.fmod many) (a.fdiv many) _ _ rfl (fnM_end (by rw [List.length_set, List.length_set]) rfl ?_) (Int.fmod_nonneg_of_pos _ h1) (Int.fmod_lt_of_pos _ h1) rfl
    show Ends (b_law_draw ⟨(p.set k _).length, [some (.own k), some (.int many), none, none, none]⟩ _) _
    unfold b_law_draw
    refine go_seq_if (v := decide (0 < a)) (by (repeat' (first | (with_reducible first | exact getQ_own (g _) | exact R.c_ok | exact R.nil_ok | exact R.yes_ok | exact R.atI_0 _ _ | exact R.atI_1 _ _ _ | exact R.atI_2 _ _ _ _ | exact R.atI_3 _ _ _ _ _) | (((with_reducible apply R.var_ok); exact rfl)) | (with_reducible first | apply R.cons_ok | apply R.fn0_ok | apply R.fn_ok | apply R.kw_ok | apply R.tup_ok | apply R.lst_ok | apply R.lstO_ok | apply R.len_ok | apply R.b_ok | apply R.add_ok | apply R.sub_ok | apply R.mul_ok | apply R.mod_ok | apply R.div_ok | apply R.neg_ok | apply R.lt_ok | apply R.gt_ok | apply R.ge_ok | apply R.eq_ok | apply R.ne_ok | apply R.ati_ok | apply R.getF_ok | apply R.not_ok | apply R.and_ok | apply R.or_ok | apply R.notV_ok) | (((with_reducible show R.getQ _ _ = some _); exact rfl)) | (((with_reducible show R.getF _ _ _ _ = some _); exact rfl)) | (((with_reducible show R.atI _ _ = some _); exact rfl)) | (((with_reducible show R.tgT _ _ _ = some _); exact rfl)) | (((with_reducible show R.tgN _ _ = some _); exact rfl)) | (((with_reducible show R.cMax _ _ = _); exact rfl)) | (((with_reducible show R.cMin _ _ = _); exact rfl)) | (((with_reducible show R.cAbs _ _ = _); exact rfl)) | (((with_reducible show R.cInt _ _ = _); exact rfl)) | (((with_reducible show R.cList _ _ = _); exact rfl)) | (((with_reducible show R.cListO _ _ = _); exact rfl)) | (((with_reducible show R.cTuple _ _ = _); exact rfl)) | (((with_reducible show R.pPow _ _ _ = _); exact rfl)) | (((with_reducible show R.ixN _ _ = some _); exact rfl)) | (((with_reducible show R.f2I _ _ _ _ = _); exact rfl)) | (((with_reducible show R.may _ _ _ = true); exact R.may_bel rfl)) | (((with_reducible show R.mayL _ _ _ = true); exact R.mayL_bels rfl)) | (with_reducible first | apply R.isi_ok | apply R.app_ok | apply R.call_ok | apply R.bin_ok) | (dsimp only [List.cons_append, List.nil_append, List.append_nil])))) (fun _ => ?_) (fun z => absurd h (of_decide_eq_false z))
    (repeat (first | ((with_reducible first | apply R.go_seq_set | apply R.go_seq_par | apply R.go_seq_asg | apply R.go_seq_expr | apply R.go_ret | apply R.go_seq_ret | apply R.go_set | apply R.go_par | apply R.go_asg | apply R.go_expr); (focus ((repeat' (first | (with_reducible first | exact getQ_own (g _) | exact em _ | exact ed _ | exact g _ | exact R.c_ok | exact R.nil_ok | exact R.yes_ok | exact R.atI_0 _ _ | exact R.atI_1 _ _ _ | exact R.atI_2 _ _ _ _ | exact R.atI_3 _ _ _ _ _) | (((with_reducible apply R.var_ok); exact rfl)) | (with_reducible first | apply R.cons_ok | apply R.fn0_ok | apply R.fn_ok | apply R.kw_ok | apply R.tup_ok | apply R.lst_ok | apply R.lstO_ok | apply R.len_ok | apply R.b_ok | apply R.add_ok | apply R.sub_ok | apply R.mul_ok | apply R.mod_ok | apply R.div_ok | apply R.neg_ok | apply R.lt_ok | apply R.gt_ok | apply R.ge_ok | apply R.eq_ok | apply R.ne_ok | apply R.ati_ok | apply R.getF_ok | apply R.not_ok | apply R.and_ok | apply R.or_ok | apply R.notV_ok) | (((with_reducible show R.getQ _ _ = some _); exact rfl)) | (((with_reducible show R.getF _ _ _ _ = some _); exact rfl)) | (((with_reducible show R.atI _ _ = some _); exact rfl)) | (((with_reducible show R.tgT _ _ _ = some _); exact rfl)) | (((with_reducible show R.tgN _ _ = some _); exact rfl)) | (((with_reducible show R.cMax _ _ = _); exact rfl)) | (((with_reducible show R.cMin _ _ = _); exact rfl)) | (((with_reducible show R.cAbs _ _ = _); exact rfl)) | (((with_reducible show R.cInt _ _ = _); exact rfl)) | (((with_reducible show R.cList _ _ = _); exact rfl)) | (((with_reducible show R.cListO _ _ = _); exact rfl)) | (((with_reducible show R.cTuple _ _ = _); exact rfl)) | (((with_reducible show R.pPow _ _ _ = _); exact rfl)) | (((with_reducible show R.ixN _ _ = some _); exact rfl)) | (((with_reducible show R.f2I _ _ _ _ = _); exact rfl)) | (((with_reducible show R.may _ _ _ = true); exact R.may_bel rfl)) | (((with_reducible show R.mayL _ _ _ = true); exact R.mayL_bels rfl)) | (with_reducible first | apply R.isi_ok | apply R.app_ok | apply R.call_ok | apply R.bin_ok) | (dsimp only [List.cons_append, List.nil_append, List.append_nil]))); done)); try (focus (first | ((with_reducible show R.tgT _ _ _ = some _); exact rfl) | ((with_reducible show R.tgN _ _ = some _); exact rfl)))) | (with_reducible first | apply R.go_seq_nop | apply R.go_assoc) | ((with_reducible first | apply R.go_seq_ix | apply R.go_ix); (focus ((repeat' (first | (with_reducible first | exact getQ_own (g _) | exact em _ | exact ed _ | exact g _ | exact R.c_ok | exact R.nil_ok | exact R.yes_ok | exact R.atI_0 _ _ | exact R.atI_1 _ _ _ | exact R.atI_2 _ _ _ _ | exact R.atI_3 _ _ _ _ _) | (((with_reducible apply R.var_ok); exact rfl)) | (with_reducible first | apply R.cons_ok | apply R.fn0_ok | apply R.fn_ok | apply R.kw_ok | apply R.tup_ok | apply R.lst_ok | apply R.lstO_ok | apply R.len_ok | apply R.b_ok | apply R.add_ok | apply R.sub_ok | apply R.mul_ok | apply R.mod_ok | apply R.div_ok | apply R.neg_ok | apply R.lt_ok | apply R.gt_ok | apply R.ge_ok | apply R.eq_ok | apply R.ne_ok | apply R.ati_ok | apply R.getF_ok | apply R.not_ok | apply R.and_ok | apply R.or_ok | apply R.notV_ok) | (((with_reducible show R.getQ _ _ = some _); exact rfl)) | (((with_reducible show R.getF _ _ _ _ = some _); exact rfl)) | (((with_reducible show R.atI _ _ = some _); exact rfl)) | (((with_reducible show R.tgT _ _ _ = some _); exact rfl)) | (((with_reducible show R.tgN _ _ = some _); exact rfl)) | (((with_reducible show R.cMax _ _ = _); exact rfl)) | (((with_reducible show R.cMin _ _ = _); exact rfl)) | (((with_reducible show R.cAbs _ _ = _); exact rfl)) | (((with_reducible show R.cInt _ _ = _); exact rfl)) | (((with_reducible show R.cList _ _ = _); exact rfl)) | (((with_reducible show R.cListO _ _ = _); exact rfl)) | (((with_reducible show R.cTuple _ _ = _); exact rfl)) | (((with_reducible show R.pPow _ _ _ = _); exact rfl)) | (((with_reducible show R.ixN _ _ = some _); exact rfl)) | (((with_reducible show R.f2I _ _ _ _ = _); exact rfl)) | (((with_reducible show R.may _ _ _ = true); exact R.may_bel rfl)) | (((with_reducible show R.mayL _ _ _ = true); exact R.mayL_bels rfl)) | (with_reducible first | apply R.isi_ok | apply R.app_ok | apply R.call_ok | apply R.bin_ok) | (dsimp only [List.cons_append, List.nil_append, List.append_nil]))); done)); (focus ((repeat' (first | (with_reducible first | exact getQ_own (g _) | exact em _ | exact ed _ | exact g _ | exact R.c_ok | exact R.nil_ok | exact R.yes_ok | exact R.atI_0 _ _ | exact R.atI_1 _ _ _ | exact R.atI_2 _ _ _ _ | exact R.atI_3 _ _ _ _ _) | (((with_reducible apply R.var_ok); exact rfl)) | (with_reducible first | apply R.cons_ok | apply R.fn0_ok | apply R.fn_ok | apply R.kw_ok | apply R.tup_ok | apply R.lst_ok | apply R.lstO_ok | apply R.len_ok | apply R.b_ok | apply R.add_ok | apply R.sub_ok | apply R.mul_ok | apply R.mod_ok | apply R.div_ok | apply R.neg_ok | apply R.lt_ok | apply R.gt_ok | apply R.ge_ok | apply R.eq_ok | apply R.ne_ok | apply R.ati_ok | apply R.getF_ok | apply R.not_ok | apply R.and_ok | apply R.or_ok | apply R.notV_ok) | (((with_reducible show R.getQ _ _ = some _); exact rfl)) | (((with_reducible show R.getF _ _ _ _ = some _); exact rfl)) | (((with_reducible show R.atI _ _ = some _); exact rfl)) | (((with_reducible show R.tgT _ _ _ = some _); exact rfl)) | (((with_reducible show R.tgN _ _ = some _); exact rfl)) | (((with_reducible show R.cMax _ _ = _); exact rfl)) | (((with_reducible show R.cMin _ _ = _); exact rfl)) | (((with_reducible show R.cAbs _ _ = _); exact rfl)) | (((with_reducible show R.cInt _ _ = _); exact rfl)) | (((with_reducible show R.cList _ _ = _); exact rfl)) | (((with_reducible show R.cListO _ _ = _); exact rfl)) | (((with_reducible show R.cTuple _ _ = _); exact rfl)) | (((with_reducible show R.pPow _ _ _ = _); exact rfl)) | (((with_reducible show R.ixN _ _ = some _); exact rfl)) | (((with_reducible show R.f2I _ _ _ _ = _); exact rfl)) | (((with_reducible show R.may _ _ _ = true); exact R.may_bel rfl)) | (((with_reducible show R.mayL _ _ _ = true); exact R.mayL_bels rfl)) | (with_reducible first | apply R.isi_ok | apply R.app_ok | apply R.call_ok | apply R.bin_ok) | (dsimp only [List.cons_append, List.nil_append, List.append_nil]))); done)); (focus ((repeat' (first | (with_reducible first | exact getQ_own (g _) | exact em _ | exact ed _ | exact g _ | exact R.c_ok | exact R.nil_ok | exact R.yes_ok | exact R.atI_0 _ _ | exact R.atI_1 _ _ _ | exact R.atI_2 _ _ _ _ | exact R.atI_3 _ _ _ _ _) | (((with_reducible apply R.var_ok); exact rfl)) | (with_reducible first | apply R.cons_ok | apply R.fn0_ok | apply R.fn_ok | apply R.kw_ok | apply R.tup_ok | apply R.lst_ok | apply R.lstO_ok | apply R.len_ok | apply R.b_ok | apply R.add_ok | apply R.sub_ok | apply R.mul_ok | apply R.mod_ok | apply R.div_ok | apply R.neg_ok | apply R.lt_ok | apply R.gt_ok | apply R.ge_ok | apply R.eq_ok | apply R.ne_ok | apply R.ati_ok | apply R.getF_ok | apply R.not_ok | apply R.and_ok | apply R.or_ok | apply R.notV_ok) | (((with_reducible show R.getQ _ _ = some _); exact rfl)) | (((with_reducible show R.getF _ _ _ _ = some _); exact rfl)) | (((with_reducible show R.atI _ _ = some _); exact rfl)) | (((with_reducible show R.tgT _ _ _ = some _); exact rfl)) | (((with_reducible show R.tgN _ _ = some _); exact rfl)) | (((with_reducible show R.cMax _ _ = _); exact rfl)) | (((with_reducible show R.cMin _ _ = _); exact rfl)) | (((with_reducible show R.cAbs _ _ = _); exact rfl)) | (((with_reducible show R.cInt _ _ = _); exact rfl)) | (((with_reducible show R.cList _ _ = _); exact rfl)) | (((with_reducible show R.cListO _ _ = _); exact rfl)) | (((with_reducible show R.cTuple _ _ = _); exact rfl)) | (((with_reducible show R.pPow _ _ _ = _); exact rfl)) | (((with_reducible show R.ixN _ _ = some _); exact rfl)) | (((with_reducible show R.f2I _ _ _ _ = _); exact rfl)) | (((with_reducible show R.may _ _ _ = true); exact R.may_bel rfl)) | (((with_reducible show R.mayL _ _ _ = true); exact R.mayL_bels rfl)) | (with_reducible first | apply R.isi_ok | apply R.app_ok | apply R.call_ok | apply R.bin_ok) | (dsimp only [List.cons_append, List.nil_append, List.append_nil]))); done)); (focus (first | exact getQ_own (g _) | exact em _ | exact ed _ | exact g _ | assumption)); (focus (first | exact getQ_own (g _) | exact em _ | exact ed _ | exact g _ | exact rfl)); (focus (first | exact getQ_own (g _) | exact em _ | exact ed _ | exact g _ | exact R.may_bel rfl))) | ((with_reducible first | apply R.go_seq_if_f | apply R.go_if_f); (focus ((repeat' (first | (with_reducible first | exact getQ_own (g _) | exact em _ | exact ed _ | exact g _ | exact R.c_ok | exact R.nil_ok | exact R.yes_ok | exact R.atI_0 _ _ | exact R.atI_1 _ _ _ | exact R.atI_2 _ _ _ _ | exact R.atI_3 _ _ _ _ _) | (((with_reducible apply R.var_ok); exact rfl)) | (with_reducible first | apply R.cons_ok | apply R.fn0_ok | apply R.fn_ok | apply R.kw_ok | apply R.tup_ok | apply R.lst_ok | apply R.lstO_ok | apply R.len_ok | apply R.b_ok | apply R.add_ok | apply R.sub_ok | apply R.mul_ok | apply R.mod_ok | apply R.div_ok | apply R.neg_ok | apply R.lt_ok | apply R.gt_ok | apply R.ge_ok | apply R.eq_ok | apply R.ne_ok | apply R.ati_ok | apply R.getF_ok | apply R.not_ok | apply R.and_ok | apply R.or_ok | apply R.notV_ok) | (((with_reducible show R.getQ _ _ = some _); exact rfl)) | (((with_reducible show R.getF _ _ _ _ = some _); exact rfl)) | (((with_reducible show R.atI _ _ = some _); exact rfl)) | (((with_reducible show R.tgT _ _ _ = some _); exact rfl)) | (((with_reducible show R.tgN _ _ = some _); exact rfl)) | (((with_reducible show R.cMax _ _ = _); exact rfl)) | (((with_reducible show R.cMin _ _ = _); exact rfl)) | (((with_reducible show R.cAbs _ _ = _); exact rfl)) | (((with_reducible show R.cInt _ _ = _); exact rfl)) | (((with_reducible show R.cList _ _ = _); exact rfl)) | (((with_reducible show R.cListO _ _ = _); exact rfl)) | (((with_reducible show R.cTuple _ _ = _); exact rfl)) | (((with_reducible show R.pPow _ _ _ = _); exact rfl)) | (((with_reducible show R.ixN _ _ = some _); exact rfl)) | (((with_reducible show R.f2I _ _ _ _ = _); exact rfl)) | (((with_reducible show R.may _ _ _ = true); exact R.may_bel rfl)) | (((with_reducible show R.mayL _ _ _ = true); exact R.mayL_bels rfl)) | (with_reducible first | apply R.isi_ok | apply R.app_ok | apply R.call_ok | apply R.bin_ok) | (dsimp only [List.cons_append, List.nil_append, List.append_nil]))); done))) | ((with_reducible first | apply R.go_seq_if_t | apply R.go_if_t); (focus ((repeat' (first | (with_reducible first | exact getQ_own (g _) | exact em _ | exact ed _ | exact g _ | exact R.c_ok | exact R.nil_ok | exact R.yes_ok | exact R.atI_0 _ _ | exact R.atI_1 _ _ _ | exact R.atI_2 _ _ _ _ | exact R.atI_3 _ _ _ _ _) | (((with_reducible apply R.var_ok); exact rfl)) | (with_reducible first | apply R.cons_ok | apply R.fn0_ok | apply R.fn_ok | apply R.kw_ok | apply R.tup_ok | apply R.lst_ok | apply R.lstO_ok | apply R.len_ok | apply R.b_ok | apply R.add_ok | apply R.sub_ok | apply R.mul_ok | apply R.mod_ok | apply R.div_ok | apply R.neg_ok | apply R.lt_ok | apply R.gt_ok | apply R.ge_ok | apply R.eq_ok | apply R.ne_ok | apply R.ati_ok | apply R.getF_ok | apply R.not_ok | apply R.and_ok | apply R.or_ok | apply R.notV_ok) | (((with_reducible show R.getQ _ _ = some _); exact rfl)) | (((with_reducible show R.getF _ _ _ _ = some _); exact rfl)) | (((with_reducible show R.atI _ _ = some _); exact rfl)) | (((with_reducible show R.tgT _ _ _ = some _); exact rfl)) | (((with_reducible show R.tgN _ _ = some _); exact rfl)) | (((with_reducible show R.cMax _ _ = _); exact rfl)) | (((with_reducible show R.cMin _ _ = _); exact rfl)) | (((with_reducible show R.cAbs _ _ = _); exact rfl)) | (((with_reducible show R.cInt _ _ = _); exact rfl)) | (((with_reducible show R.cList _ _ = _); exact rfl)) | (((with_reducible show R.cListO _ _ = _); exact rfl)) | (((with_reducible show R.cTuple _ _ = _); exact rfl)) | (((with_reducible show R.pPow _ _ _ = _); exact rfl)) | (((with_reducible show R.ixN _ _ = some _); exact rfl)) | (((with_reducible show R.f2I _ _ _ _ = _); exact rfl)) | (((with_reducible show R.may _ _ _ = true); exact R.may_bel rfl)) | (((with_reducible show R.mayL _ _ _ = true); exact R.mayL_bels rfl)) | (with_reducible first | apply R.isi_ok | apply R.app_ok | apply R.call_ok | apply R.bin_ok) | (dsimp only [List.cons_append, List.nil_append, List.append_nil]))); done)))))
    exact ⟨[], by rw [gs, List.append_nil]; rfl⟩
  · have q : ∀ d s, s = Cell.lst [.int a, .int b, .int (c + 1)] → m_law_draw [.own k, .int many] (p.set k (.lst [.int a, .int b, .int c])) = .ok (.int d) (p.set k s) → 0 ≤ d → d < many →
        ∃ (d : Int) (s : Cell), m_law_draw [.own k, .int many] (p.set k (.lst [.int a, .int b, .int c])) = .ok (.int d) (p.set k s) ∧ IsWell (n + 1) s ∧ 0 ≤ d ∧ d < many :=
      fun d s e f d0 d1 => ⟨d, s, f, ⟨a, b, c + 1, e, b0, b1, by omega, by omega⟩, d0, d1⟩
    have m0 := Int.fmod_nonneg_of_pos (c + 1) (b := 7) (by decide)
    have m1 := Int.fmod_lt_of_pos (c + 1) (b := 7) (by decide)
    obtain ⟨x, hx, ex⟩ := atI_mem [PV.int 2147483647, .int 2147483629, .int 2147483587, .int 2147483579, .int 2147483563, .int 2147483549, .int 2147483543] ((c + 1).fmod 7) m0 m1
    obtain ⟨z, rfl, z0, z1⟩ : ∃ z : Int, x = .int z ∧ 0 < z ∧ z ≤ 2147483647 := by
      simp only [List.mem_cons, List.not_mem_nil, or_false] at hx
      rcases hx with rfl | rfl | rfl | rfl | rfl | rfl | rfl <;> exact ⟨_, rfl, by decide, by decide⟩
    have p1 : okMod (c + 1) 7 = true := rfl
    have p2 : okMul 7919 (c + 1) = true := decide_eq_true (.inl (.inl (by decide)))
    have p3 : ∀ y, okMod y z = true := fun y => decide_eq_true (by omega)
    have p4 : pPow (.int (b + 7919 * (c + 1) + 1)) (.int 5) (p.set k (.lst [.int a, .int b, .int (c + 1)])) = .ok (.int ((b + 7919 * (c + 1) + 1) ^ (5 : Int).toNat)) (p.set k (.lst [.int a, .int b, .int (c + 1)])) := by
      have e : okPow (b + 7919 * (c + 1) + 1) 5 = true := decide_eq_true ⟨by decide, by decide, by omega⟩
      show (if okPow (b + 7919 * (c + 1) + 1) 5 = true then _ else _) = _
      rw [if_pos e]
    have p5 : ∀ y u : Int, okMul (y.fmod z + (c + 1)) u = true := fun y u => by
      have h1 := Int.fmod_nonneg_of_pos y (b := z) z0
      have h2 := Int.fmod_lt_of_pos y (b := z) z0
      exact decide_eq_true (.inl (.inl (by omega)))
    have p6 : ∀ y, okDiv y 1009 = true := fun _ => rfl
    have p7 : ∀ y, okDiv y 7 = true := fun _ => rfl
    refine q (Int.fmod (Int.fdiv (Int.fmod (((((b + 7919 * (c + 1) + 1) ^ (5 : Int).toNat).fmod z) + (c + 1)) * ((((b + 7919 * (c + 1) + 1) ^ (5 : Int).toNat).fmod z).fdiv 1009 + 69621)) z) 7) many) _ rfl (fnM_end (by rw [List.length_set, List.length_set]) rfl ?_) (Int.fmod_nonneg_of_pos _ h1) (Int.fmod_lt_of_pos _ h1)
    show Ends (b_law_draw ⟨(p.set k _).length, [some (.own k), some (.int many), none, none, none]⟩ _) _
    unfold b_law_draw
    refine go_seq_if (v := decide (0 < a)) (by (repeat' (first | (with_reducible first | exact getQ_own (g _) | exact R.c_ok | exact R.nil_ok | exact R.yes_ok | exact R.atI_0 _ _ | exact R.atI_1 _ _ _ | exact R.atI_2 _ _ _ _ | exact R.atI_3 _ _ _ _ _) | (((with_reducible apply R.var_ok); exact rfl)) | (with_reducible first | apply R.cons_ok | apply R.fn0_ok | apply R.fn_ok | apply R.kw_ok | apply R.tup_ok | apply R.lst_ok | apply R.lstO_ok | apply R.len_ok | apply R.b_ok | apply R.add_ok | apply R.sub_ok | apply R.mul_ok | apply R.mod_ok | apply R.div_ok | apply R.neg_ok | apply R.lt_ok | apply R.gt_ok | apply R.ge_ok | apply R.eq_ok | apply R.ne_ok | apply R.ati_ok | apply R.getF_ok | apply R.not_ok | apply R.and_ok | apply R.or_ok | apply R.notV_ok) | (((with_reducible show R.getQ _ _ = some _); exact rfl)) | (((with_reducible show R.getF _ _ _ _ = some _); exact rfl)) | (((with_reducible show R.atI _ _ = some _); exact rfl)) | (((with_reducible show R.tgT _ _ _ = some _); exact rfl)) | (((with_reducible show R.tgN _ _ = some _); exact rfl)) | (((with_reducible show R.cMax _ _ = _); exact rfl)) | (((with_reducible show R.cMin _ _ = _); exact rfl)) | (((with_reducible show R.cAbs _ _ = _); exact rfl)) | (((with_reducible show R.cInt _ _ = _); exact rfl)) | (((with_reducible show R.cList _ _ = _); exact rfl)) | (((with_reducible show R.cListO _ _ = _); exact rfl)) | (((with_reducible show R.cTuple _ _ = _); exact rfl)) | (((with_reducible show R.pPow _ _ _ = _); exact rfl)) | (((with_reducible show R.ixN _ _ = some _); exact rfl)) | (((with_reducible show R.f2I _ _ _ _ = _); exact rfl)) | (((with_reducible show R.may _ _ _ = true); exact R.may_bel rfl)) | (((with_reducible show R.mayL _ _ _ = true); exact R.mayL_bels rfl)) | (with_reducible first | apply R.isi_ok | apply R.app_ok | apply R.call_ok | apply R.bin_ok) | (dsimp only [List.cons_append, List.nil_append, List.append_nil])))) (fun z => absurd (of_decide_eq_true z) h) (fun _ => ?_)
    refine go_seq_nop ?_
    refine go_seq_ix (k := k) (n := 2) (by (repeat' (first | (with_reducible first | exact getQ_own (g _) | exact R.c_ok | exact R.nil_ok | exact R.yes_ok | exact R.atI_0 _ _ | exact R.atI_1 _ _ _ | exact R.atI_2 _ _ _ _ | exact R.atI_3 _ _ _ _ _) | (((with_reducible apply R.var_ok); exact rfl)) | (with_reducible first | apply R.cons_ok | apply R.fn0_ok | apply R.fn_ok | apply R.kw_ok | apply R.tup_ok | apply R.lst_ok | apply R.lstO_ok | apply R.len_ok | apply R.b_ok | apply R.add_ok | apply R.sub_ok | apply R.mul_ok | apply R.mod_ok | apply R.div_ok | apply R.neg_ok | apply R.lt_ok | apply R.gt_ok | apply R.ge_ok | apply R.eq_ok | apply R.ne_ok | apply R.ati_ok | apply R.getF_ok | apply R.not_ok | apply R.and_ok | apply R.or_ok | apply R.notV_ok) | (((with_reducible show R.getQ _ _ = some _); exact rfl)) | (((with_reducible show R.getF _ _ _ _ = some _); exact rfl)) | (((with_reducible show R.atI _ _ = some _); exact rfl)) | (((with_reducible show R.tgT _ _ _ = some _); exact rfl)) | (((with_reducible show R.tgN _ _ = some _); exact rfl)) | (((with_reducible show R.cMax _ _ = _); exact rfl)) | (((with_reducible show R.cMin _ _ = _); exact rfl)) | (((with_reducible show R.cAbs _ _ = _); exact rfl)) | (((with_reducible show R.cInt _ _ = _); exact rfl)) | (((with_reducible show R.cList _ _ = _); exact rfl)) | (((with_reducible show R.cListO _ _ = _); exact rfl)) | (((with_reducible show R.cTuple _ _ = _); exact rfl)) | (((with_reducible show R.pPow _ _ _ = _); exact rfl)) | (((with_reducible show R.ixN _ _ = some _); exact rfl)) | (((with_reducible show R.f2I _ _ _ _ = _); exact rfl)) | (((with_reducible show R.may _ _ _ = true); exact R.may_bel rfl)) | (((with_reducible show R.mayL _ _ _ = true); exact R.mayL_bels rfl)) | (with_reducible first | apply R.isi_ok | apply R.app_ok | apply R.call_ok | apply R.bin_ok) | (dsimp only [List.cons_append, List.nil_append, List.append_nil])))) (by (repeat' (first | (with_reducible first | exact R.c_ok | exact R.nil_ok | exact R.yes_ok | exact R.atI_0 _ _ | exact R.atI_1 _ _ _ | exact R.atI_2 _ _ _ _ | exact R.atI_3 _ _ _ _ _) | (((with_reducible apply R.var_ok); exact rfl)) | (with_reducible first | apply R.cons_ok | apply R.fn0_ok | apply R.fn_ok | apply R.kw_ok | apply R.tup_ok | apply R.lst_ok | apply R.lstO_ok | apply R.len_ok | apply R.b_ok | apply R.add_ok | apply R.sub_ok | apply R.mul_ok | apply R.mod_ok | apply R.div_ok | apply R.neg_ok | apply R.lt_ok | apply R.gt_ok | apply R.ge_ok | apply R.eq_ok | apply R.ne_ok | apply R.ati_ok | apply R.getF_ok | apply R.not_ok | apply R.and_ok | apply R.or_ok | apply R.notV_ok) | (((with_reducible show R.getQ _ _ = some _); exact rfl)) | (((with_reducible show R.getF _ _ _ _ = some _); exact rfl)) | (((with_reducible show R.atI _ _ = some _); exact rfl)) | (((with_reducible show R.tgT _ _ _ = some _); exact rfl)) | (((with_reducible show R.tgN _ _ = some _); exact rfl)) | (((with_reducible show R.cMax _ _ = _); exact rfl)) | (((with_reducible show R.cMin _ _ = _); exact rfl)) | (((with_reducible show R.cAbs _ _ = _); exact rfl)) | (((with_reducible show R.cInt _ _ = _); exact rfl)) | (((with_reducible show R.cList _ _ = _); exact rfl)) | (((with_reducible show R.cListO _ _ = _); exact rfl)) | (((with_reducible show R.cTuple _ _ = _); exact rfl)) | (((with_reducible show R.pPow _ _ _ = _); exact rfl)) | (((with_reducible show R.ixN _ _ = some _); exact rfl)) | (((with_reducible show R.f2I _ _ _ _ = _); exact rfl)) | (((with_reducible show R.may _ _ _ = true); exact R.may_bel rfl)) | (((with_reducible show R.mayL _ _ _ = true); exact R.mayL_bels rfl)) | (with_reducible first | apply R.isi_ok | apply R.app_ok | apply R.call_ok | apply R.bin_ok) | (dsimp only [List.cons_append, List.nil_append, List.append_nil])))) (by (repeat' (first | (with_reducible first | exact R.c_ok | exact R.nil_ok | exact R.yes_ok | exact R.atI_0 _ _ | exact R.atI_1 _ _ _ | exact R.atI_2 _ _ _ _ | exact R.atI_3 _ _ _ _ _) | (((with_reducible apply R.var_ok); exact rfl)) | (with_reducible first | apply R.cons_ok | apply R.fn0_ok | apply R.fn_ok | apply R.kw_ok | apply R.tup_ok | apply R.lst_ok | apply R.lstO_ok | apply R.len_ok | apply R.b_ok | apply R.add_ok | apply R.sub_ok | apply R.mul_ok | apply R.mod_ok | apply R.div_ok | apply R.neg_ok | apply R.lt_ok | apply R.gt_ok | apply R.ge_ok | apply R.eq_ok | apply R.ne_ok | apply R.ati_ok | apply R.getF_ok | apply R.not_ok | apply R.and_ok | apply R.or_ok | apply R.notV_ok) | (((with_reducible show R.getQ _ _ = some _); exact rfl)) | (((with_reducible show R.getF _ _ _ _ = some _); exact rfl)) | (((with_reducible show R.atI _ _ = some _); exact rfl)) | (((with_reducible show R.tgT _ _ _ = some _); exact rfl)) | (((with_reducible show R.tgN _ _ = some _); exact rfl)) | (((with_reducible show R.cMax _ _ = _); exact rfl)) | (((with_reducible show R.cMin _ _ = _); exact rfl)) | (((with_reducible show R.cAbs _ _ = _); exact rfl)) | (((with_reducible show R.cInt _ _ = _); exact rfl)) | (((with_reducible show R.cList _ _ = _); exact rfl)) | (((with_reducible show R.cListO _ _ = _); exact rfl)) | (((with_reducible show R.cTuple _ _ = _); exact rfl)) | (((with_reducible show R.pPow _ _ _ = _); exact rfl)) | (((with_reducible show R.ixN _ _ = some _); exact rfl)) | (((with_reducible show R.f2I _ _ _ _ = _); exact rfl)) | (((with_reducible show R.may _ _ _ = true); exact R.may_bel rfl)) | (((with_reducible show R.mayL _ _ _ = true); exact R.mayL_bels rfl)) | (with_reducible first | apply R.isi_ok | apply R.app_ok | apply R.call_ok | apply R.bin_ok) | (dsimp only [List.cons_append, List.nil_append, List.append_nil])))) (g _) rfl (may_bel rfl) ?_
    have es : [PV.int a, .int b, .int c].set 2 (.int (c + 1)) = [.int a, .int b, .int (c + 1)] := rfl
    rw [gs, es]
    (repeat (first | ((with_reducible first | apply R.go_seq_set | apply R.go_seq_par | apply R.go_seq_asg | apply R.go_seq_expr | apply R.go_ret | apply R.go_seq_ret | apply R.go_set | apply R.go_par | apply R.go_asg | apply R.go_expr); (focus ((repeat' (first | (with_reducible first | exact getQ_own (g _) | exact p1 | exact p2 | exact p3 _ | exact p4 | exact p5 _ _ | exact p6 _ | exact p7 _ | exact em _ | exact ex | exact R.c_ok | exact R.nil_ok | exact R.yes_ok | exact R.atI_0 _ _ | exact R.atI_1 _ _ _ | exact R.atI_2 _ _ _ _ | exact R.atI_3 _ _ _ _ _) | (((with_reducible apply R.var_ok); exact rfl)) | (with_reducible first | apply R.cons_ok | apply R.fn0_ok | apply R.fn_ok | apply R.kw_ok | apply R.tup_ok | apply R.lst_ok | apply R.lstO_ok | apply R.len_ok | apply R.b_ok | apply R.add_ok | apply R.sub_ok | apply R.mul_ok | apply R.mod_ok | apply R.div_ok | apply R.neg_ok | apply R.lt_ok | apply R.gt_ok | apply R.ge_ok | apply R.eq_ok | apply R.ne_ok | apply R.ati_ok | apply R.getF_ok | apply R.not_ok | apply R.and_ok | apply R.or_ok | apply R.notV_ok) | (((with_reducible show R.getQ _ _ = some _); exact rfl)) | (((with_reducible show R.getF _ _ _ _ = some _); exact rfl)) | (((with_reducible show R.atI _ _ = some _); exact rfl)) | (((with_reducible show R.tgT _ _ _ = some _); exact rfl)) | (((with_reducible show R.tgN _ _ = some _); exact rfl)) | (((with_reducible show R.cMax _ _ = _); exact rfl)) | (((with_reducible show R.cMin _ _ = _); exact rfl)) | (((with_reducible show R.cAbs _ _ = _); exact rfl)) | (((with_reducible show R.cInt _ _ = _); exact rfl)) | (((with_reducible show R.cList _ _ = _); exact rfl)) | (((with_reducible show R.cListO _ _ = _); exact rfl)) | (((with_reducible show R.cTuple _ _ = _); exact rfl)) | (((with_reducible show R.pPow _ _ _ = _); exact rfl)) | (((with_reducible show R.ixN _ _ = some _); exact rfl)) | (((with_reducible show R.f2I _ _ _ _ = _); exact rfl)) | (((with_reducible show R.may _ _ _ = true); exact R.may_bel rfl)) | (((with_reducible show R.mayL _ _ _ = true); exact R.mayL_bels rfl)) | (with_reducible first | apply R.isi_ok | apply R.app_ok | apply R.call_ok | apply R.bin_ok) | (dsimp only [List.cons_append, List.nil_append, List.append_nil]))); done)); try (focus (first | ((with_reducible show R.tgT _ _ _ = some _); exact rfl) | ((with_reducible show R.tgN _ _ = some _); exact rfl)))) | (with_reducible first | apply R.go_seq_nop | apply R.go_assoc) | ((with_reducible first | apply R.go_seq_ix | apply R.go_ix); (focus ((repeat' (first | (with_reducible first | exact getQ_own (g _) | exact p1 | exact p2 | exact p3 _ | exact p4 | exact p5 _ _ | exact p6 _ | exact p7 _ | exact em _ | exact ex | exact R.c_ok | exact R.nil_ok | exact R.yes_ok | exact R.atI_0 _ _ | exact R.atI_1 _ _ _ | exact R.atI_2 _ _ _ _ | exact R.atI_3 _ _ _ _ _) | (((with_reducible apply R.var_ok); exact rfl)) | (with_reducible first | apply R.cons_ok | apply R.fn0_ok | apply R.fn_ok | apply R.kw_ok | apply R.tup_ok | apply R.lst_ok | apply R.lstO_ok | apply R.len_ok | apply R.b_ok | apply R.add_ok | apply R.sub_ok | apply R.mul_ok | apply R.mod_ok | apply R.div_ok | apply R.neg_ok | apply R.lt_ok | apply R.gt_ok | apply R.ge_ok | apply R.eq_ok | apply R.ne_ok | apply R.ati_ok | apply R.getF_ok | apply R.not_ok | apply R.and_ok | apply R.or_ok | apply R.notV_ok) | (((with_reducible show R.getQ _ _ = some _); exact rfl)) | (((with_reducible show R.getF _ _ _ _ = some _); exact rfl)) | (((with_reducible show R.atI _ _ = some _); exact rfl)) | (((with_reducible show R.tgT _ _ _ = some _); exact rfl)) | (((with_reducible show R.tgN _ _ = some _); exact rfl)) | (((with_reducible show R.cMax _ _ = _); exact rfl)) | (((with_reducible show R.cMin _ _ = _); exact rfl)) | (((with_reducible show R.cAbs _ _ = _); exact rfl)) | (((with_reducible show R.cInt _ _ = _); exact rfl)) | (((with_reducible show R.cList _ _ = _); exact rfl)) | (((with_reducible show R.cListO _ _ = _); exact rfl)) | (((with_reducible show R.cTuple _ _ = _); exact rfl)) | (((with_reducible show R.pPow _ _ _ = _); exact rfl)) | (((with_reducible show R.ixN _ _ = some _); exact rfl)) | (((with_reducible show R.f2I _ _ _ _ = _); exact rfl)) | (((with_reducible show R.may _ _ _ = true); exact R.may_bel rfl)) | (((with_reducible show R.mayL _ _ _ = true); exact R.mayL_bels rfl)) | (with_reducible first | apply R.isi_ok | apply R.app_ok | apply R.call_ok | apply R.bin_ok) | (dsimp only [List.cons_append, List.nil_append, List.append_nil]))); done)); (focus ((repeat' (first | (with_reducible first | exact getQ_own (g _) | exact p1 | exact p2 | exact p3 _ | exact p4 | exact p5 _ _ | exact p6 _ | exact p7 _ | exact em _ | exact ex | exact R.c_ok | exact R.nil_ok | exact R.yes_ok | exact R.atI_0 _ _ | exact R.atI_1 _ _ _ | exact R.atI_2 _ _ _ _ | exact R.atI_3 _ _ _ _ _) | (((with_reducible apply R.var_ok); exact rfl)) | (with_reducible first | apply R.cons_ok | apply R.fn0_ok | apply R.fn_ok | apply R.kw_ok | apply R.tup_ok | apply R.lst_ok | apply R.lstO_ok | apply R.len_ok | apply R.b_ok | apply R.add_ok | apply R.sub_ok | apply R.mul_ok | apply R.mod_ok | apply R.div_ok | apply R.neg_ok | apply R.lt_ok | apply R.gt_ok | apply R.ge_ok | apply R.eq_ok | apply R.ne_ok | apply R.ati_ok | apply R.getF_ok | apply R.not_ok | apply R.and_ok | apply R.or_ok | apply R.notV_ok) | (((with_reducible show R.getQ _ _ = some _); exact rfl)) | (((with_reducible show R.getF _ _ _ _ = some _); exact rfl)) | (((with_reducible show R.atI _ _ = some _); exact rfl)) | (((with_reducible show R.tgT _ _ _ = some _); exact rfl)) | (((with_reducible show R.tgN _ _ = some _); exact rfl)) | (((with_reducible show R.cMax _ _ = _); exact rfl)) | (((with_reducible show R.cMin _ _ = _); exact rfl)) | (((with_reducible show R.cAbs _ _ = _); exact rfl)) | (((with_reducible show R.cInt _ _ = _); exact rfl)) | (((with_reducible show R.cList _ _ = _); exact rfl)) | (((with_reducible show R.cListO _ _ = _); exact rfl)) | (((with_reducible show R.cTuple _ _ = _); exact rfl)) | (((with_reducible show R.pPow _ _ _ = _); exact rfl)) | (((with_reducible show R.ixN _ _ = some _); exact rfl)) | (((with_reducible show R.f2I _ _ _ _ = _); exact rfl)) | (((with_reducible show R.may _ _ _ = true); exact R.may_bel rfl)) | (((with_reducible show R.mayL _ _ _ = true); exact R.mayL_bels rfl)) | (with_reducible first | apply R.isi_ok | apply R.app_ok | apply R.call_ok | apply R.bin_ok) | (dsimp only [List.cons_append, List.nil_append, List.append_nil]))); done)); (focus ((repeat' (first | (with_reducible first | exact getQ_own (g _) | exact p1 | exact p2 | exact p3 _ | exact p4 | exact p5 _ _ | exact p6 _ | exact p7 _ | exact em _ | exact ex | exact R.c_ok | exact R.nil_ok | exact R.yes_ok | exact R.atI_0 _ _ | exact R.atI_1 _ _ _ | exact R.atI_2 _ _ _ _ | exact R.atI_3 _ _ _ _ _) | (((with_reducible apply R.var_ok); exact rfl)) | (with_reducible first | apply R.cons_ok | apply R.fn0_ok | apply R.fn_ok | apply R.kw_ok | apply R.tup_ok | apply R.lst_ok | apply R.lstO_ok | apply R.len_ok | apply R.b_ok | apply R.add_ok | apply R.sub_ok | apply R.mul_ok | apply R.mod_ok | apply R.div_ok | apply R.neg_ok | apply R.lt_ok | apply R.gt_ok | apply R.ge_ok | apply R.eq_ok | apply R.ne_ok | apply R.ati_ok | apply R.getF_ok | apply R.not_ok | apply R.and_ok | apply R.or_ok | apply R.notV_ok) | (((with_reducible show R.getQ _ _ = some _); exact rfl)) | (((with_reducible show R.getF _ _ _ _ = some _); exact rfl)) | (((with_reducible show R.atI _ _ = some _); exact rfl)) | (((with_reducible show R.tgT _ _ _ = some _); exact rfl)) | (((with_reducible show R.tgN _ _ = some _); exact rfl)) | (((with_reducible show R.cMax _ _ = _); exact rfl)) | (((with_reducible show R.cMin _ _ = _); exact rfl)) | (((with_reducible show R.cAbs _ _ = _); exact rfl)) | (((with_reducible show R.cInt _ _ = _); exact rfl)) | (((with_reducible show R.cList _ _ = _); exact rfl)) | (((with_reducible show R.cListO _ _ = _); exact rfl)) | (((with_reducible show R.cTuple _ _ = _); exact rfl)) | (((with_reducible show R.pPow _ _ _ = _); exact rfl)) | (((with_reducible show R.ixN _ _ = some _); exact rfl)) | (((with_reducible show R.f2I _ _ _ _ = _); exact rfl)) | (((with_reducible show R.may _ _ _ = true); exact R.may_bel rfl)) | (((with_reducible show R.mayL _ _ _ = true); exact R.mayL_bels rfl)) | (with_reducible first | apply R.isi_ok | apply R.app_ok | apply R.call_ok | apply R.bin_ok) | (dsimp only [List.cons_append, List.nil_append, List.append_nil]))); done)); (focus (first | exact getQ_own (g _) | exact p1 | exact p2 | exact p3 _ | exact p4 | exact p5 _ _ | exact p6 _ | exact p7 _ | exact em _ | exact ex | assumption)); (focus (first | exact getQ_own (g _) | exact p1 | exact p2 | exact p3 _ | exact p4 | exact p5 _ _ | exact p6 _ | exact p7 _ | exact em _ | exact ex | exact rfl)); (focus (first | exact getQ_own (g _) | exact p1 | exact p2 | exact p3 _ | exact p4 | exact p5 _ _ | exact p6 _ | exact p7 _ | exact em _ | exact ex | exact R.may_bel rfl))) | ((with_reducible first | apply R.go_seq_if_f | apply R.go_if_f); (focus ((repeat' (first | (with_reducible first | exact getQ_own (g _) | exact p1 | exact p2 | exact p3 _ | exact p4 | exact p5 _ _ | exact p6 _ | exact p7 _ | exact em _ | exact ex | exact R.c_ok | exact R.nil_ok | exact R.yes_ok | exact R.atI_0 _ _ | exact R.atI_1 _ _ _ | exact R.atI_2 _ _ _ _ | exact R.atI_3 _ _ _ _ _) | (((with_reducible apply R.var_ok); exact rfl)) | (with_reducible first | apply R.cons_ok | apply R.fn0_ok | apply R.fn_ok | apply R.kw_ok | apply R.tup_ok | apply R.lst_ok | apply R.lstO_ok | apply R.len_ok | apply R.b_ok | apply R.add_ok | apply R.sub_ok | apply R.mul_ok | apply R.mod_ok | apply R.div_ok | apply R.neg_ok | apply R.lt_ok | apply R.gt_ok | apply R.ge_ok | apply R.eq_ok | apply R.ne_ok | apply R.ati_ok | apply R.getF_ok | apply R.not_ok | apply R.and_ok | apply R.or_ok | apply R.notV_ok) | (((with_reducible show R.getQ _ _ = some _); exact rfl)) | (((with_reducible show R.getF _ _ _ _ = some _); exact rfl)) | (((with_reducible show R.atI _ _ = some _); exact rfl)) | (((with_reducible show R.tgT _ _ _ = some _); exact rfl)) | (((with_reducible show R.tgN _ _ = some _); exact rfl)) | (((with_reducible show R.cMax _ _ = _); exact rfl)) | (((with_reducible show R.cMin _ _ = _); exact rfl)) | (((with_reducible show R.cAbs _ _ = _); exact rfl)) | (((with_reducible show R.cInt _ _ = _); exact rfl)) | (((with_reducible show R.cList _ _ = _); exact rfl)) | (((with_reducible show R.cListO _ _ = _); exact rfl)) | (((with_reducible show R.cTuple _ _ = _); exact rfl)) | (((with_reducible show R.pPow _ _ _ = _); exact rfl)) | (((with_reducible show R.ixN _ _ = some _); exact rfl)) | (((with_reducible show R.f2I _ _ _ _ = _); exact rfl)) | (((with_reducible show R.may _ _ _ = true); exact R.may_bel rfl)) | (((with_reducible show R.mayL _ _ _ = true); exact R.mayL_bels rfl)) | (with_reducible first | apply R.isi_ok | apply R.app_ok | apply R.call_ok | apply R.bin_ok) | (dsimp only [List.cons_append, List.nil_append, List.append_nil]))); done))) | ((with_reducible first | apply R.go_seq_if_t | apply R.go_if_t); (focus ((repeat' (first | (with_reducible first | exact getQ_own (g _) | exact p1 | exact p2 | exact p3 _ | exact p4 | exact p5 _ _ | exact p6 _ | exact p7 _ | exact em _ | exact ex | exact R.c_ok | exact R.nil_ok | exact R.yes_ok | exact R.atI_0 _ _ | exact R.atI_1 _ _ _ | exact R.atI_2 _ _ _ _ | exact R.atI_3 _ _ _ _ _) | (((with_reducible apply R.var_ok); exact rfl)) | (with_reducible first | apply R.cons_ok | apply R.fn0_ok | apply R.fn_ok | apply R.kw_ok | apply R.tup_ok | apply R.lst_ok | apply R.lstO_ok | apply R.len_ok | apply R.b_ok | apply R.add_ok | apply R.sub_ok | apply R.mul_ok | apply R.mod_ok | apply R.div_ok | apply R.neg_ok | apply R.lt_ok | apply R.gt_ok | apply R.ge_ok | apply R.eq_ok | apply R.ne_ok | apply R.ati_ok | apply R.getF_ok | apply R.not_ok | apply R.and_ok | apply R.or_ok | apply R.notV_ok) | (((with_reducible show R.getQ _ _ = some _); exact rfl)) | (((with_reducible show R.getF _ _ _ _ = some _); exact rfl)) | (((with_reducible show R.atI _ _ = some _); exact rfl)) | (((with_reducible show R.tgT _ _ _ = some _); exact rfl)) | (((with_reducible show R.tgN _ _ = some _); exact rfl)) | (((with_reducible show R.cMax _ _ = _); exact rfl)) | (((with_reducible show R.cMin _ _ = _); exact rfl)) | (((with_reducible show R.cAbs _ _ = _); exact rfl)) | (((with_reducible show R.cInt _ _ = _); exact rfl)) | (((with_reducible show R.cList _ _ = _); exact rfl)) | (((with_reducible show R.cListO _ _ = _); exact rfl)) | (((with_reducible show R.cTuple _ _ = _); exact rfl)) | (((with_reducible show R.pPow _ _ _ = _); exact rfl)) | (((with_reducible show R.ixN _ _ = some _); exact rfl)) | (((with_reducible show R.f2I _ _ _ _ = _); exact rfl)) | (((with_reducible show R.may _ _ _ = true); exact R.may_bel rfl)) | (((with_reducible show R.mayL _ _ _ = true); exact R.mayL_bels rfl)) | (with_reducible first | apply R.isi_ok | apply R.app_ok | apply R.call_ok | apply R.bin_ok) | (dsimp only [List.cons_append, List.nil_append, List.append_nil]))); done)))))
    exact ⟨[], by rw [List.append_nil]⟩
theorem one_ok' (p : Pool) (k n : Nat) (s0 : Cell) (xs : List PV) (hl : k < p.length) (h0 : IsWell n s0) (hn : n ≤ 1000000) (h1 : 0 < xs.length) (h2 : xs.length < 2 ^ 100) (hb : bels 0 xs = true) :
    ∃ (x : PV) (s : Cell), m_law_one [.own k, .lst xs] (p.set k s0) = .ok x (p.set k s) ∧ IsWell (n + 1) s ∧ x ∈ xs := by
  obtain ⟨d, s, e, hs, d0, d1⟩ := draw_ok p k n s0 xs.length hl h0 hn (by omega) (by omega)
  obtain ⟨x, hx, ex⟩ := atI_mem xs d d0 d1
  refine ⟨x, s, fnM_end (by rw [List.length_set, List.length_set]) (bels_iff.mp hb x hx) ?_, hs, hx⟩
  show Ends (b_law_one ⟨(p.set k _).length, [some (.own k), some (.lst xs)]⟩ _) _
  unfold b_law_one
  (repeat (first | ((with_reducible first | apply R.go_seq_set | apply R.go_seq_par | apply R.go_seq_asg | apply R.go_seq_expr | apply R.go_ret | apply R.go_seq_ret | apply R.go_set | apply R.go_par | apply R.go_asg | apply R.go_expr); (focus ((repeat' (first | (with_reducible first | exact e | exact ex | exact R.c_ok | exact R.nil_ok | exact R.yes_ok | exact R.atI_0 _ _ | exact R.atI_1 _ _ _ | exact R.atI_2 _ _ _ _ | exact R.atI_3 _ _ _ _ _) | (((with_reducible apply R.var_ok); exact rfl)) | (with_reducible first | apply R.cons_ok | apply R.fn0_ok | apply R.fn_ok | apply R.kw_ok | apply R.tup_ok | apply R.lst_ok | apply R.lstO_ok | apply R.len_ok | apply R.b_ok | apply R.add_ok | apply R.sub_ok | apply R.mul_ok | apply R.mod_ok | apply R.div_ok | apply R.neg_ok | apply R.lt_ok | apply R.gt_ok | apply R.ge_ok | apply R.eq_ok | apply R.ne_ok | apply R.ati_ok | apply R.getF_ok | apply R.not_ok | apply R.and_ok | apply R.or_ok | apply R.notV_ok) | (((with_reducible show R.getQ _ _ = some _); exact rfl)) | (((with_reducible show R.getF _ _ _ _ = some _); exact rfl)) | (((with_reducible show R.atI _ _ = some _); exact rfl)) | (((with_reducible show R.tgT _ _ _ = some _); exact rfl)) | (((with_reducible show R.tgN _ _ = some _); exact rfl)) | (((with_reducible show R.cMax _ _ = _); exact rfl)) | (((with_reducible show R.cMin _ _ = _); exact rfl)) | (((with_reducible show R.cAbs _ _ = _); exact rfl)) | (((with_reducible show R.cInt _ _ = _); exact rfl)) | (((with_reducible show R.cList _ _ = _); exact rfl)) | (((with_reducible show R.cListO _ _ = _); exact rfl)) | (((with_reducible show R.cTuple _ _ = _); exact rfl)) | (((with_reducible show R.pPow _ _ _ = _); exact rfl)) | (((with_reducible show R.ixN _ _ = some _); exact rfl)) | (((with_reducible show R.f2I _ _ _ _ = _); exact rfl)) | (((with_reducible show R.may _ _ _ = true); exact R.may_bel rfl)) | (((with_reducible show R.mayL _ _ _ = true); exact R.mayL_bels rfl)) | (with_reducible first | apply R.isi_ok | apply R.app_ok | apply R.call_ok | apply R.bin_ok) | (dsimp only [List.cons_append, List.nil_append, List.append_nil]))); done)); try (focus (first | ((with_reducible show R.tgT _ _ _ = some _); exact rfl) | ((with_reducible show R.tgN _ _ = some _); exact rfl)))) | (with_reducible first | apply R.go_seq_nop | apply R.go_assoc) | ((with_reducible first | apply R.go_seq_ix | apply R.go_ix); (focus ((repeat' (first | (with_reducible first | exact e | exact ex | exact R.c_ok | exact R.nil_ok | exact R.yes_ok | exact R.atI_0 _ _ | exact R.atI_1 _ _ _ | exact R.atI_2 _ _ _ _ | exact R.atI_3 _ _ _ _ _) | (((with_reducible apply R.var_ok); exact rfl)) | (with_reducible first | apply R.cons_ok | apply R.fn0_ok | apply R.fn_ok | apply R.kw_ok | apply R.tup_ok | apply R.lst_ok | apply R.lstO_ok | apply R.len_ok | apply R.b_ok | apply R.add_ok | apply R.sub_ok | apply R.mul_ok | apply R.mod_ok | apply R.div_ok | apply R.neg_ok | apply R.lt_ok | apply R.gt_ok | apply R.ge_ok | apply R.eq_ok | apply R.ne_ok | apply R.ati_ok | apply R.getF_ok | apply R.not_ok | apply R.and_ok | apply R.or_ok | apply R.notV_ok) | (((with_reducible show R.getQ _ _ = some _); exact rfl)) | (((with_reducible show R.getF _ _ _ _ = some _); exact rfl)) | (((with_reducible show R.atI _ _ = some _); exact rfl)) | (((with_reducible show R.tgT _ _ _ = some _); exact rfl)) | (((with_reducible show R.tgN _ _ = some _); exact rfl)) | (((with_reducible show R.cMax _ _ = _); exact rfl)) | (((with_reducible show R.cMin _ _ = _); exact rfl)) | (((with_reducible show R.cAbs _ _ = _); exact rfl)) | (((with_reducible show R.cInt _ _ = _); exact rfl)) | (((with_reducible show R.cList _ _ = _); exact rfl)) | (((with_reducible show R.cListO _ _ = _); exact rfl)) | (((with_reducible show R.cTuple _ _ = _); exact rfl)) | (((with_reducible show R.pPow _ _ _ = _); exact rfl)) | (((with_reducible show R.ixN _ _ = some _); exact rfl)) | (((with_reducible show R.f2I _ _ _ _ = _); exact rfl)) | (((with_reducible show R.may _ _ _ = true); exact R.may_bel rfl)) | (((with_reducible show R.mayL _ _ _ = true); exact R.mayL_bels rfl)) | (with_reducible first | apply R.isi_ok | apply R.app_ok | apply R.call_ok | apply R.bin_ok) | (dsimp only [List.cons_append, List.nil_append, List.append_nil]))); done)); (focus ((repeat' (first | (with_reducible first | exact e | exact ex | exact R.c_ok | exact R.nil_ok | exact R.yes_ok | exact R.atI_0 _ _ | exact R.atI_1 _ _ _ | exact R.atI_2 _ _ _ _ | exact R.atI_3 _ _ _ _ _) | (((with_reducible apply R.var_ok); exact rfl)) | (with_reducible first | apply R.cons_ok | apply R.fn0_ok | apply R.fn_ok | apply R.kw_ok | apply R.tup_ok | apply R.lst_ok | apply R.lstO_ok | apply R.len_ok | apply R.b_ok | apply R.add_ok | apply R.sub_ok | apply R.mul_ok | apply R.mod_ok | apply R.div_ok | apply R.neg_ok | apply R.lt_ok | apply R.gt_ok | apply R.ge_ok | apply R.eq_ok | apply R.ne_ok | apply R.ati_ok | apply R.getF_ok | apply R.not_ok | apply R.and_ok | apply R.or_ok | apply R.notV_ok) | (((with_reducible show R.getQ _ _ = some _); exact rfl)) | (((with_reducible show R.getF _ _ _ _ = some _); exact rfl)) | (((with_reducible show R.atI _ _ = some _); exact rfl)) | (((with_reducible show R.tgT _ _ _ = some _); exact rfl)) | (((with_reducible show R.tgN _ _ = some _); exact rfl)) | (((with_reducible show R.cMax _ _ = _); exact rfl)) | (((with_reducible show R.cMin _ _ = _); exact rfl)) | (((with_reducible show R.cAbs _ _ = _); exact rfl)) | (((with_reducible show R.cInt _ _ = _); exact rfl)) | (((with_reducible show R.cList _ _ = _); exact rfl)) | (((with_reducible show R.cListO _ _ = _); exact rfl)) | (((with_reducible show R.cTuple _ _ = _); exact rfl)) | (((with_reducible show R.pPow _ _ _ = _); exact rfl)) | (((with_reducible show R.ixN _ _ = some _); exact rfl)) | (((with_reducible show R.f2I _ _ _ _ = _); exact rfl)) | (((with_reducible show R.may _ _ _ = true); exact R.may_bel rfl)) | (((with_reducible show R.mayL _ _ _ = true); exact R.mayL_bels rfl)) | (with_reducible first | apply R.isi_ok | apply R.app_ok | apply R.call_ok | apply R.bin_ok) | (dsimp only [List.cons_append, List.nil_append, List.append_nil]))); done)); (focus ((repeat' (first | (with_reducible first | exact e | exact ex | exact R.c_ok | exact R.nil_ok | exact R.yes_ok | exact R.atI_0 _ _ | exact R.atI_1 _ _ _ | exact R.atI_2 _ _ _ _ | exact R.atI_3 _ _ _ _ _) | (((with_reducible apply R.var_ok); exact rfl)) | (with_reducible first | apply R.cons_ok | apply R.fn0_ok | apply R.fn_ok | apply R.kw_ok | apply R.tup_ok | apply R.lst_ok | apply R.lstO_ok | apply R.len_ok | apply R.b_ok | apply R.add_ok | apply R.sub_ok | apply R.mul_ok | apply R.mod_ok | apply R.div_ok | apply R.neg_ok | apply R.lt_ok | apply R.gt_ok | apply R.ge_ok | apply R.eq_ok | apply R.ne_ok | apply R.ati_ok | apply R.getF_ok | apply R.not_ok | apply R.and_ok | apply R.or_ok | apply R.notV_ok) | (((with_reducible show R.getQ _ _ = some _); exact rfl)) | (((with_reducible show R.getF _ _ _ _ = some _); exact rfl)) | (((with_reducible show R.atI _ _ = some _); exact rfl)) | (((with_reducible show R.tgT _ _ _ = some _); exact rfl)) | (((with_reducible show R.tgN _ _ = some _); exact rfl)) | (((with_reducible show R.cMax _ _ = _); exact rfl)) | (((with_reducible show R.cMin _ _ = _); exact rfl)) | (((with_reducible show R.cAbs _ _ = _); exact rfl)) | (((with_reducible show R.cInt _ _ = _); exact rfl)) | (((with_reducible show R.cList _ _ = _); exact rfl)) | (((with_reducible show R.cListO _ _ = _); exact rfl)) | (((with_reducible show R.cTuple _ _ = _); exact rfl)) | (((with_reducible show R.pPow _ _ _ = _); exact rfl)) | (((with_reducible show R.ixN _ _ = some _); exact rfl)) | (((with_reducible show R.f2I _ _ _ _ = _); exact rfl)) | (((with_reducible show R.may _ _ _ = true); exact R.may_bel rfl)) | (((with_reducible show R.mayL _ _ _ = true); exact R.mayL_bels rfl)) | (with_reducible first | apply R.isi_ok | apply R.app_ok | apply R.call_ok | apply R.bin_ok) | (dsimp only [List.cons_append, List.nil_append, List.append_nil]))); done)); (focus (first | exact e | exact ex | assumption)); (focus (first | exact e | exact ex | exact rfl)); (focus (first | exact e | exact ex | exact R.may_bel rfl))) | ((with_reducible first | apply R.go_seq_if_f | apply R.go_if_f); (focus ((repeat' (first | (with_reducible first | exact e | exact ex | exact R.c_ok | exact R.nil_ok | exact R.yes_ok | exact R.atI_0 _ _ | exact R.atI_1 _ _ _ | exact R.atI_2 _ _ _ _ | exact R.atI_3 _ _ _ _ _) | (((with_reducible apply R.var_ok); exact rfl)) | (with_reducible first | apply R.cons_ok | apply R.fn0_ok | apply R.fn_ok | apply R.kw_ok | apply R.tup_ok | apply R.lst_ok | apply R.lstO_ok | apply R.len_ok | apply R.b_ok | apply R.add_ok | apply R.sub_ok | apply R.mul_ok | apply R.mod_ok | apply R.div_ok | apply R.neg_ok | apply R.lt_ok | apply R.gt_ok | apply R.ge_ok | apply R.eq_ok | apply R.ne_ok | apply R.ati_ok | apply R.getF_ok | apply R.not_ok | apply R.and_ok | apply R.or_ok | apply R.notV_ok) | (((with_reducible show R.getQ _ _ = some _); exact rfl)) | (((with_reducible show R.getF _ _ _ _ = some _); exact rfl)) | (((with_reducible show R.atI _ _ = some _); exact rfl)) | (((with_reducible show R.tgT _ _ _ = some _); exact rfl)) | (((with_reducible show R.tgN _ _ = some _); exact rfl)) | (((with_reducible show R.cMax _ _ = _); exact rfl)) | (((with_reducible show R.cMin _ _ = _); exact rfl)) | (((with_reducible show R.cAbs _ _ = _); exact rfl)) | (((with_reducible show R.cInt _ _ = _); exact rfl)) | (((with_reducible show R.cList _ _ = _); exact rfl)) | (((with_reducible show R.cListO _ _ = _); exact rfl)) | (((with_reducible show R.cTuple _ _ = _); exact rfl)) | (((with_reducible show R.pPow _ _ _ = _); exact rfl)) | (((with_reducible show R.ixN _ _ = some _); exact rfl)) | (((with_reducible show R.f2I _ _ _ _ = _); exact rfl)) | (((with_reducible show R.may _ _ _ = true); exact R.may_bel rfl)) | (((with_reducible show R.mayL _ _ _ = true); exact R.mayL_bels rfl)) | (with_reducible first | apply R.isi_ok | apply R.app_ok | apply R.call_ok | apply R.bin_ok) | (dsimp only [List.cons_append, List.nil_append, List.append_nil]))); done))) | ((with_reducible first | apply R.go_seq_if_t | apply R.go_if_t); (focus ((repeat' (first | (with_reducible first | exact e | exact ex | exact R.c_ok | exact R.nil_ok | exact R.yes_ok | exact R.atI_0 _ _ | exact R.atI_1 _ _ _ | exact R.atI_2 _ _ _ _ | exact R.atI_3 _ _ _ _ _) | (((with_reducible apply R.var_ok); exact rfl)) | (with_reducible first | apply R.cons_ok | apply R.fn0_ok | apply R.fn_ok | apply R.kw_ok | apply R.tup_ok | apply R.lst_ok | apply R.lstO_ok | apply R.len_ok | apply R.b_ok | apply R.add_ok | apply R.sub_ok | apply R.mul_ok | apply R.mod_ok | apply R.div_ok | apply R.neg_ok | apply R.lt_ok | apply R.gt_ok | apply R.ge_ok | apply R.eq_ok | apply R.ne_ok | apply R.ati_ok | apply R.getF_ok | apply R.not_ok | apply R.and_ok | apply R.or_ok | apply R.notV_ok) | (((with_reducible show R.getQ _ _ = some _); exact rfl)) | (((with_reducible show R.getF _ _ _ _ = some _); exact rfl)) | (((with_reducible show R.atI _ _ = some _); exact rfl)) | (((with_reducible show R.tgT _ _ _ = some _); exact rfl)) | (((with_reducible show R.tgN _ _ = some _); exact rfl)) | (((with_reducible show R.cMax _ _ = _); exact rfl)) | (((with_reducible show R.cMin _ _ = _); exact rfl)) | (((with_reducible show R.cAbs _ _ = _); exact rfl)) | (((with_reducible show R.cInt _ _ = _); exact rfl)) | (((with_reducible show R.cList _ _ = _); exact rfl)) | (((with_reducible show R.cListO _ _ = _); exact rfl)) | (((with_reducible show R.cTuple _ _ = _); exact rfl)) | (((with_reducible show R.pPow _ _ _ = _); exact rfl)) | (((with_reducible show R.ixN _ _ = some _); exact rfl)) | (((with_reducible show R.f2I _ _ _ _ = _); exact rfl)) | (((with_reducible show R.may _ _ _ = true); exact R.may_bel rfl)) | (((with_reducible show R.mayL _ _ _ = true); exact R.mayL_bels rfl)) | (with_reducible first | apply R.isi_ok | apply R.app_ok | apply R.call_ok | apply R.bin_ok) | (dsimp only [List.cons_append, List.nil_append, List.append_nil]))); done)))))
  exact ⟨[], by rw [List.append_nil]⟩
theorem low_ok (a b : Int) (p : Pool) (h0 : 0 < b) (hb : b.natAbs < fuel) : m_law_low [.int a, .int b] p = .ok (pr (lw a b)) p := by
  obtain ⟨en2, p2, e, rfl, hp⟩ := loopW_inv (t := mB (mBin pGt (mVar 3) (mC (.int 0)))) (body := sPar 2 3 (mCons (mVar 3) (mCons (mBin pMod (mVar 2) (mVar 3)) mNil)))
    (fun n en q => ∃ x y : Int, en = ⟨p.length, [some (.int a), some (.int b), some (.int x), some (.int y)]⟩ ∧ q = p ∧ 0 ≤ x ∧ 0 ≤ y ∧ Int.gcd x y = Int.gcd a b ∧ n = y.natAbs)
    (fun en q => en = ⟨p.length, [some (.int a), some (.int b), some (.int (Int.gcd a b : Int)), some (.int 0)]⟩ ∧ q = p) (fun n en q h => by
      obtain ⟨x, y, rfl, rfl, hx, hy0, hg, rfl⟩ := h
      refine ⟨decide (0 < y), q, ?_, ?_⟩
      · (repeat' (first | (with_reducible first | exact R.c_ok | exact R.nil_ok | exact R.yes_ok | exact R.atI_0 _ _ | exact R.atI_1 _ _ _ | exact R.atI_2 _ _ _ _ | exact R.atI_3 _ _ _ _ _) | (((with_reducible apply R.var_ok); exact rfl)) | (with_reducible first | apply R.cons_ok | apply R.fn0_ok | apply R.fn_ok | apply R.kw_ok | apply R.tup_ok | apply R.lst_ok | apply R.lstO_ok | apply R.len_ok | apply R.b_ok | apply R.add_ok | apply R.sub_ok | apply R.mul_ok | apply R.mod_ok | apply R.div_ok | apply R.neg_ok | apply R.lt_ok | apply R.gt_ok | apply R.ge_ok | apply R.eq_ok | apply R.ne_ok | apply R.ati_ok | apply R.getF_ok | apply R.not_ok | apply R.and_ok | apply R.or_ok | apply R.notV_ok) | (((with_reducible show R.getQ _ _ = some _); exact rfl)) | (((with_reducible show R.getF _ _ _ _ = some _); exact rfl)) | (((with_reducible show R.atI _ _ = some _); exact rfl)) | (((with_reducible show R.tgT _ _ _ = some _); exact rfl)) | (((with_reducible show R.tgN _ _ = some _); exact rfl)) | (((with_reducible show R.cMax _ _ = _); exact rfl)) | (((with_reducible show R.cMin _ _ = _); exact rfl)) | (((with_reducible show R.cAbs _ _ = _); exact rfl)) | (((with_reducible show R.cInt _ _ = _); exact rfl)) | (((with_reducible show R.cList _ _ = _); exact rfl)) | (((with_reducible show R.cListO _ _ = _); exact rfl)) | (((with_reducible show R.cTuple _ _ = _); exact rfl)) | (((with_reducible show R.pPow _ _ _ = _); exact rfl)) | (((with_reducible show R.ixN _ _ = some _); exact rfl)) | (((with_reducible show R.f2I _ _ _ _ = _); exact rfl)) | (((with_reducible show R.may _ _ _ = true); exact R.may_bel rfl)) | (((with_reducible show R.mayL _ _ _ = true); exact R.mayL_bels rfl)) | (with_reducible first | apply R.isi_ok | apply R.app_ok | apply R.call_ok | apply R.bin_ok) | (dsimp only [List.cons_append, List.nil_append, List.append_nil])))
      by_cases hy : y = 0
      · subst hy
        refine .inl ⟨rfl, ?_, rfl⟩
        rw [← hg, Int.gcd_zero_right, Int.natAbs_of_nonneg hx]
      · refine .inr ⟨decide_eq_true (by omega), ⟨q.length, [some (.int a), some (.int b), some (.int y), some (.int (x.fmod y))]⟩, q, (x.fmod y).natAbs, ?_, fmod_lt x hy, y, x.fmod y, rfl, rfl, hy0, Int.fmod_nonneg_of_pos _ (by omega), (gcd_step x y).trans hg, rfl⟩
        have e1 := okMod_ne (a := x) hy
        exact par_nx (by (repeat' (first | (with_reducible first | exact e1 | exact R.c_ok | exact R.nil_ok | exact R.yes_ok | exact R.atI_0 _ _ | exact R.atI_1 _ _ _ | exact R.atI_2 _ _ _ _ | exact R.atI_3 _ _ _ _ _) | (((with_reducible apply R.var_ok); exact rfl)) | (with_reducible first | apply R.cons_ok | apply R.fn0_ok | apply R.fn_ok | apply R.kw_ok | apply R.tup_ok | apply R.lst_ok | apply R.lstO_ok | apply R.len_ok | apply R.b_ok | apply R.add_ok | apply R.sub_ok | apply R.mul_ok | apply R.mod_ok | apply R.div_ok | apply R.neg_ok | apply R.lt_ok | apply R.gt_ok | apply R.ge_ok | apply R.eq_ok | apply R.ne_ok | apply R.ati_ok | apply R.getF_ok | apply R.not_ok | apply R.and_ok | apply R.or_ok | apply R.notV_ok) | (((with_reducible show R.getQ _ _ = some _); exact rfl)) | (((with_reducible show R.getF _ _ _ _ = some _); exact rfl)) | (((with_reducible show R.atI _ _ = some _); exact rfl)) | (((with_reducible show R.tgT _ _ _ = some _); exact rfl)) | (((with_reducible show R.tgN _ _ = some _); exact rfl)) | (((with_reducible show R.cMax _ _ = _); exact rfl)) | (((with_reducible show R.cMin _ _ = _); exact rfl)) | (((with_reducible show R.cAbs _ _ = _); exact rfl)) | (((with_reducible show R.cInt _ _ = _); exact rfl)) | (((with_reducible show R.cList _ _ = _); exact rfl)) | (((with_reducible show R.cListO _ _ = _); exact rfl)) | (((with_reducible show R.cTuple _ _ = _); exact rfl)) | (((with_reducible show R.pPow _ _ _ = _); exact rfl)) | (((with_reducible show R.ixN _ _ = some _); exact rfl)) | (((with_reducible show R.f2I _ _ _ _ = _); exact rfl)) | (((with_reducible show R.may _ _ _ = true); exact R.may_bel rfl)) | (((with_reducible show R.mayL _ _ _ = true); exact R.mayL_bels rfl)) | (with_reducible first | apply R.isi_ok | apply R.app_ok | apply R.call_ok | apply R.bin_ok) | (dsimp only [List.cons_append, List.nil_append, List.append_nil]))))
      )
    fuel b.natAbs ⟨p.length, [some (.int a), some (.int b), some (.int (a.natAbs : Int)), some (.int (b.natAbs : Int))]⟩ p hb ⟨a.natAbs, b.natAbs, rfl, rfl, by omega, by omega, by unfold Int.gcd; rw [Int.natAbs_natCast, Int.natAbs_natCast], by rw [Int.natAbs_natCast]⟩
  subst hp
  have e3 : ∀ x, okDiv x (Int.gcd a b : Int) = true := fun x => okDiv_gcd (by omega) hb
  have ea : ∀ (x : Int) (q : Pool), cAbs [.int x] q = .ok (.int (x.natAbs : Int)) q := fun x q => by
    show Res.ok (PV.int (if x < 0 then -x else x)) q = _
    rw [abs_eq]
  refine fnM_end (q := p2) rfl (bel_pr 0 _) ?_
  show Ends (b_law_low ⟨p2.length, [some (.int a), some (.int b), none, none]⟩ p2) _
  unfold b_law_low
  refine go_seq_par (by (repeat' (first | (with_reducible first | exact ea _ _ | exact R.c_ok | exact R.nil_ok | exact R.yes_ok | exact R.atI_0 _ _ | exact R.atI_1 _ _ _ | exact R.atI_2 _ _ _ _ | exact R.atI_3 _ _ _ _ _) | (((with_reducible apply R.var_ok); exact rfl)) | (with_reducible first | apply R.cons_ok | apply R.fn0_ok | apply R.fn_ok | apply R.kw_ok | apply R.tup_ok | apply R.lst_ok | apply R.lstO_ok | apply R.len_ok | apply R.b_ok | apply R.add_ok | apply R.sub_ok | apply R.mul_ok | apply R.mod_ok | apply R.div_ok | apply R.neg_ok | apply R.lt_ok | apply R.gt_ok | apply R.ge_ok | apply R.eq_ok | apply R.ne_ok | apply R.ati_ok | apply R.getF_ok | apply R.not_ok | apply R.and_ok | apply R.or_ok | apply R.notV_ok) | (((with_reducible show R.getQ _ _ = some _); exact rfl)) | (((with_reducible show R.getF _ _ _ _ = some _); exact rfl)) | (((with_reducible show R.atI _ _ = some _); exact rfl)) | (((with_reducible show R.tgT _ _ _ = some _); exact rfl)) | (((with_reducible show R.tgN _ _ = some _); exact rfl)) | (((with_reducible show R.cMax _ _ = _); exact rfl)) | (((with_reducible show R.cMin _ _ = _); exact rfl)) | (((with_reducible show R.cAbs _ _ = _); exact rfl)) | (((with_reducible show R.cInt _ _ = _); exact rfl)) | (((with_reducible show R.cList _ _ = _); exact rfl)) | (((with_reducible show R.cListO _ _ = _); exact rfl)) | (((with_reducible show R.cTuple _ _ = _); exact rfl)) | (((with_reducible show R.pPow _ _ _ = _); exact rfl)) | (((with_reducible show R.ixN _ _ = some _); exact rfl)) | (((with_reducible show R.f2I _ _ _ _ = _); exact rfl)) | (((with_reducible show R.may _ _ _ = true); exact R.may_bel rfl)) | (((with_reducible show R.mayL _ _ _ = true); exact R.mayL_bels rfl)) | (with_reducible first | apply R.isi_ok | apply R.app_ok | apply R.call_ok | apply R.bin_ok) | (dsimp only [List.cons_append, List.nil_append, List.append_nil])))) ?_
  refine go_seq_nx e ?_
  refine go_seq_if (v := decide (b < 0)) (by (repeat' (first | (with_reducible first | exact R.c_ok | exact R.nil_ok | exact R.yes_ok | exact R.atI_0 _ _ | exact R.atI_1 _ _ _ | exact R.atI_2 _ _ _ _ | exact R.atI_3 _ _ _ _ _) | (((with_reducible apply R.var_ok); exact rfl)) | (with_reducible first | apply R.cons_ok | apply R.fn0_ok | apply R.fn_ok | apply R.kw_ok | apply R.tup_ok | apply R.lst_ok | apply R.lstO_ok | apply R.len_ok | apply R.b_ok | apply R.add_ok | apply R.sub_ok | apply R.mul_ok | apply R.mod_ok | apply R.div_ok | apply R.neg_ok | apply R.lt_ok | apply R.gt_ok | apply R.ge_ok | apply R.eq_ok | apply R.ne_ok | apply R.ati_ok | apply R.getF_ok | apply R.not_ok | apply R.and_ok | apply R.or_ok | apply R.notV_ok) | (((with_reducible show R.getQ _ _ = some _); exact rfl)) | (((with_reducible show R.getF _ _ _ _ = some _); exact rfl)) | (((with_reducible show R.atI _ _ = some _); exact rfl)) | (((with_reducible show R.tgT _ _ _ = some _); exact rfl)) | (((with_reducible show R.tgN _ _ = some _); exact rfl)) | (((with_reducible show R.cMax _ _ = _); exact rfl)) | (((with_reducible show R.cMin _ _ = _); exact rfl)) | (((with_reducible show R.cAbs _ _ = _); exact rfl)) | (((with_reducible show R.cInt _ _ = _); exact rfl)) | (((with_reducible show R.cList _ _ = _); exact rfl)) | (((with_reducible show R.cListO _ _ = _); exact rfl)) | (((with_reducible show R.cTuple _ _ = _); exact rfl)) | (((with_reducible show R.pPow _ _ _ = _); exact rfl)) | (((with_reducible show R.ixN _ _ = some _); exact rfl)) | (((with_reducible show R.f2I _ _ _ _ = _); exact rfl)) | (((with_reducible show R.may _ _ _ = true); exact R.may_bel rfl)) | (((with_reducible show R.mayL _ _ _ = true); exact R.mayL_bels rfl)) | (with_reducible first | apply R.isi_ok | apply R.app_ok | apply R.call_ok | apply R.bin_ok) | (dsimp only [List.cons_append, List.nil_append, List.append_nil])))) (fun z => absurd (of_decide_eq_true z) (by omega)) (fun _ => ?_)
  (repeat (first | ((with_reducible first | apply R.go_seq_set | apply R.go_seq_par | apply R.go_seq_asg | apply R.go_seq_expr | apply R.go_ret | apply R.go_seq_ret | apply R.go_set | apply R.go_par | apply R.go_asg | apply R.go_expr); (focus ((repeat' (first | (with_reducible first | exact e3 _ | exact R.c_ok | exact R.nil_ok | exact R.yes_ok | exact R.atI_0 _ _ | exact R.atI_1 _ _ _ | exact R.atI_2 _ _ _ _ | exact R.atI_3 _ _ _ _ _) | (((with_reducible apply R.var_ok); exact rfl)) | (with_reducible first | apply R.cons_ok | apply R.fn0_ok | apply R.fn_ok | apply R.kw_ok | apply R.tup_ok | apply R.lst_ok | apply R.lstO_ok | apply R.len_ok | apply R.b_ok | apply R.add_ok | apply R.sub_ok | apply R.mul_ok | apply R.mod_ok | apply R.div_ok | apply R.neg_ok | apply R.lt_ok | apply R.gt_ok | apply R.ge_ok | apply R.eq_ok | apply R.ne_ok | apply R.ati_ok | apply R.getF_ok | apply R.not_ok | apply R.and_ok | apply R.or_ok | apply R.notV_ok) | (((with_reducible show R.getQ _ _ = some _); exact rfl)) | (((with_reducible show R.getF _ _ _ _ = some _); exact rfl)) | (((with_reducible show R.atI _ _ = some _); exact rfl)) | (((with_reducible show R.tgT _ _ _ = some _); exact rfl)) | (((with_reducible show R.tgN _ _ = some _); exact rfl)) | (((with_reducible show R.cMax _ _ = _); exact rfl)) | (((with_reducible show R.cMin _ _ = _); exact rfl)) | (((with_reducible show R.cAbs _ _ = _); exact rfl)) | (((with_reducible show R.cInt _ _ = _); exact rfl)) | (((with_reducible show R.cList _ _ = _); exact rfl)) | (((with_reducible show R.cListO _ _ = _); exact rfl)) | (((with_reducible show R.cTuple _ _ = _); exact rfl)) | (((with_reducible show R.pPow _ _ _ = _); exact rfl)) | (((with_reducible show R.ixN _ _ = some _); exact rfl)) | (((with_reducible show R.f2I _ _ _ _ = _); exact rfl)) | (((with_reducible show R.may _ _ _ = true); exact R.may_bel rfl)) | (((with_reducible show R.mayL _ _ _ = true); exact R.mayL_bels rfl)) | (with_reducible first | apply R.isi_ok | apply R.app_ok | apply R.call_ok | apply R.bin_ok) | (dsimp only [List.cons_append, List.nil_append, List.append_nil]))); done)); try (focus (first | ((with_reducible show R.tgT _ _ _ = some _); exact rfl) | ((with_reducible show R.tgN _ _ = some _); exact rfl)))) | (with_reducible first | apply R.go_seq_nop | apply R.go_assoc) | ((with_reducible first | apply R.go_seq_ix | apply R.go_ix); (focus ((repeat' (first | (with_reducible first | exact e3 _ | exact R.c_ok | exact R.nil_ok | exact R.yes_ok | exact R.atI_0 _ _ | exact R.atI_1 _ _ _ | exact R.atI_2 _ _ _ _ | exact R.atI_3 _ _ _ _ _) | (((with_reducible apply R.var_ok); exact rfl)) | (with_reducible first | apply R.cons_ok | apply R.fn0_ok | apply R.fn_ok | apply R.kw_ok | apply R.tup_ok | apply R.lst_ok | apply R.lstO_ok | apply R.len_ok | apply R.b_ok | apply R.add_ok | apply R.sub_ok | apply R.mul_ok | apply R.mod_ok | apply R.div_ok | apply R.neg_ok | apply R.lt_ok | apply R.gt_ok | apply R.ge_ok | apply R.eq_ok | apply R.ne_ok | apply R.ati_ok | apply R.getF_ok | apply R.not_ok | apply R.and_ok | apply R.or_ok | apply R.notV_ok) | (((with_reducible show R.getQ _ _ = some _); exact rfl)) | (((with_reducible show R.getF _ _ _ _ = some _); exact rfl)) | (((with_reducible show R.atI _ _ = some _); exact rfl)) | (((with_reducible show R.tgT _ _ _ = some _); exact rfl)) | (((with_reducible show R.tgN _ _ = some _); exact rfl)) | (((with_reducible show R.cMax _ _ = _); exact rfl)) | (((with_reducible show R.cMin _ _ = _); exact rfl)) | (((with_reducible show R.cAbs _ _ = _); exact rfl)) | (((with_reducible show R.cInt _ _ = _); exact rfl)) | (((with_reducible show R.cList _ _ = _); exact rfl)) | (((with_reducible show R.cListO _ _ = _); exact rfl)) | (((with_reducible show R.cTuple _ _ = _); exact rfl)) | (((with_reducible show R.pPow _ _ _ = _); exact rfl)) | (((with_reducible show R.ixN _ _ = some _); exact rfl)) | (((with_reducible show R.f2I _ _ _ _ = _); exact rfl)) | (((with_reducible show R.may _ _ _ = true); exact R.may_bel rfl)) | (((with_reducible show R.mayL _ _ _ = true); exact R.mayL_bels rfl)) | (with_reducible first | apply R.isi_ok | apply R.app_ok | apply R.call_ok | apply R.bin_ok) | (dsimp only [List.cons_append, List.nil_append, List.append_nil]))); done)); (focus ((repeat' (first | (with_reducible first | exact e3 _ | exact R.c_ok | exact R.nil_ok | exact R.yes_ok | exact R.atI_0 _ _ | exact R.atI_1 _ _ _ | exact R.atI_2 _ _ _ _ | exact R.atI_3 _ _ _ _ _) | (((with_reducible apply R.var_ok); exact rfl)) | (with_reducible first | apply R.cons_ok | apply R.fn0_ok | apply R.fn_ok | apply R.kw_ok | apply R.tup_ok | apply R.lst_ok | apply R.lstO_ok | apply R.len_ok | apply R.b_ok | apply R.add_ok | apply R.sub_ok | apply R.mul_ok | apply R.mod_ok | apply R.div_ok | apply R.neg_ok | apply R.lt_ok | apply R.gt_ok | apply R.ge_ok | apply R.eq_ok | apply R.ne_ok | apply R.ati_ok | apply R.getF_ok | apply R.not_ok | apply R.and_ok | apply R.or_ok | apply R.notV_ok) | (((with_reducible show R.getQ _ _ = some _); exact rfl)) | (((with_reducible show R.getF _ _ _ _ = some _); exact rfl)) | (((with_reducible show R.atI _ _ = some _); exact rfl)) | (((with_reducible show R.tgT _ _ _ = some _); exact rfl)) | (((with_reducible show R.tgN _ _ = some _); exact rfl)) | (((with_reducible show R.cMax _ _ = _); exact rfl)) | (((with_reducible show R.cMin _ _ = _); exact rfl)) | (((with_reducible show R.cAbs _ _ = _); exact rfl)) | (((with_reducible show R.cInt _ _ = _); exact rfl)) | (((with_reducible show R.cList _ _ = _); exact rfl)) | (((with_reducible show R.cListO _ _ = _); exact rfl)) | (((with_reducible show R.cTuple _ _ = _); exact rfl)) | (((with_reducible show R.pPow _ _ _ = _); exact rfl)) | (((with_reducible show R.ixN _ _ = some _); exact rfl)) | (((with_reducible show R.f2I _ _ _ _ = _); exact rfl)) | (((with_reducible show R.may _ _ _ = true); exact R.may_bel rfl)) | (((with_reducible show R.mayL _ _ _ = true); exact R.mayL_bels rfl)) | (with_reducible first | apply R.isi_ok | apply R.app_ok | apply R.call_ok | apply R.bin_ok) | (dsimp only [List.cons_append, List.nil_append, List.append_nil]))); done)); (focus ((repeat' (first | (with_reducible first | exact e3 _ | exact R.c_ok | exact R.nil_ok | exact R.yes_ok | exact R.atI_0 _ _ | exact R.atI_1 _ _ _ | exact R.atI_2 _ _ _ _ | exact R.atI_3 _ _ _ _ _) | (((with_reducible apply R.var_ok); exact rfl)) | (with_reducible first | apply R.cons_ok | apply R.fn0_ok | apply R.fn_ok | apply R.kw_ok | apply R.tup_ok | apply R.lst_ok | apply R.lstO_ok | apply R.len_ok | apply R.b_ok | apply R.add_ok | apply R.sub_ok | apply R.mul_ok | apply R.mod_ok | apply R.div_ok | apply R.neg_ok | apply R.lt_ok | apply R.gt_ok | apply R.ge_ok | apply R.eq_ok | apply R.ne_ok | apply R.ati_ok | apply R.getF_ok | apply R.not_ok | apply R.and_ok | apply R.or_ok | apply R.notV_ok) | (((with_reducible show R.getQ _ _ = some _); exact rfl)) | (((with_reducible show R.getF _ _ _ _ = some _); exact rfl)) | (((with_reducible show R.atI _ _ = some _); exact rfl)) | (((with_reducible show R.tgT _ _ _ = some _); exact rfl)) | (((with_reducible show R.tgN _ _ = some _); exact rfl)) | (((with_reducible show R.cMax _ _ = _); exact rfl)) | (((with_reducible show R.cMin _ _ = _); exact rfl)) | (((with_reducible show R.cAbs _ _ = _); exact rfl)) | (((with_reducible show R.cInt _ _ = _); exact rfl)) | (((with_reducible show R.cList _ _ = _); exact rfl)) | (((with_reducible show R.cListO _ _ = _); exact rfl)) | (((with_reducible show R.cTuple _ _ = _); exact rfl)) | (((with_reducible show R.pPow _ _ _ = _); exact rfl)) | (((with_reducible show R.ixN _ _ = some _); exact rfl)) | (((with_reducible show R.f2I _ _ _ _ = _); exact rfl)) | (((with_reducible show R.may _ _ _ = true); exact R.may_bel rfl)) | (((with_reducible show R.mayL _ _ _ = true); exact R.mayL_bels rfl)) | (with_reducible first | apply R.isi_ok | apply R.app_ok | apply R.call_ok | apply R.bin_ok) | (dsimp only [List.cons_append, List.nil_append, List.append_nil]))); done)); (focus (first | exact e3 _ | assumption)); (focus (first | exact e3 _ | exact rfl)); (focus (first | exact e3 _ | exact R.may_bel rfl))) | ((with_reducible first | apply R.go_seq_if_f | apply R.go_if_f); (focus ((repeat' (first | (with_reducible first | exact e3 _ | exact R.c_ok | exact R.nil_ok | exact R.yes_ok | exact R.atI_0 _ _ | exact R.atI_1 _ _ _ | exact R.atI_2 _ _ _ _ | exact R.atI_3 _ _ _ _ _) | (((with_reducible apply R.var_ok); exact rfl)) | (with_reducible first | apply R.cons_ok | apply R.fn0_ok | apply R.fn_ok | apply R.kw_ok | apply R.tup_ok | apply R.lst_ok | apply R.lstO_ok | apply R.len_ok | apply R.b_ok | apply R.add_ok | apply R.sub_ok | apply R.mul_ok | apply R.mod_ok | apply R.div_ok | apply R.neg_ok | apply R.lt_ok | apply R.gt_ok | apply R.ge_ok | apply R.eq_ok | apply R.ne_ok | apply R.ati_ok | apply R.getF_ok | apply R.not_ok | apply R.and_ok | apply R.or_ok | apply R.notV_ok) | (((with_reducible show R.getQ _ _ = some _); exact rfl)) | (((with_reducible show R.getF _ _ _ _ = some _); exact rfl)) | (((with_reducible show R.atI _ _ = some _); exact rfl)) | (((with_reducible show R.tgT _ _ _ = some _); exact rfl)) | (((with_reducible show R.tgN _ _ = some _); exact rfl)) | (((with_reducible show R.cMax _ _ = _); exact rfl)) | (((with_reducible show R.cMin _ _ = _); exact rfl)) | (((with_reducible show R.cAbs _ _ = _); exact rfl)) | (((with_reducible show R.cInt _ _ = _); exact rfl)) | (((with_reducible show R.cList _ _ = _); exact rfl)) | (((with_reducible show R.cListO _ _ = _); exact rfl)) | (((with_reducible show R.cTuple _ _ = _); exact rfl)) | (((with_reducible show R.pPow _ _ _ = _); exact rfl)) | (((with_reducible show R.ixN _ _ = some _); exact rfl)) | (((with_reducible show R.f2I _ _ _ _ = _); exact rfl)) | (((with_reducible show R.may _ _ _ = true); exact R.may_bel rfl)) | (((with_reducible show R.mayL _ _ _ = true); exact R.mayL_bels rfl)) | (with_reducible first | apply R.isi_ok | apply R.app_ok | apply R.call_ok | apply R.bin_ok) | (dsimp only [List.cons_append, List.nil_append, List.append_nil]))); done))) | ((with_reducible first | apply R.go_seq_if_t | apply R.go_if_t); (focus ((repeat' (first | (with_reducible first | exact e3 _ | exact R.c_ok | exact R.nil_ok | exact R.yes_ok | exact R.atI_0 _ _ | exact R.atI_1 _ _ _ | exact R.atI_2 _ _ _ _ | exact R.atI_3 _ _ _ _ _) | (((with_reducible apply R.var_ok); exact rfl)) | (with_reducible first | apply R.cons_ok | apply R.fn0_ok | apply R.fn_ok | apply R.kw_ok | apply R.tup_ok | apply R.lst_ok | apply R.lstO_ok | apply R.len_ok | apply R.b_ok | apply R.add_ok | apply R.sub_ok | apply R.mul_ok | apply R.mod_ok | apply R.div_ok | apply R.neg_ok | apply R.lt_ok | apply R.gt_ok | apply R.ge_ok | apply R.eq_ok | apply R.ne_ok | apply R.ati_ok | apply R.getF_ok | apply R.not_ok | apply R.and_ok | apply R.or_ok | apply R.notV_ok) | (((with_reducible show R.getQ _ _ = some _); exact rfl)) | (((with_reducible show R.getF _ _ _ _ = some _); exact rfl)) | (((with_reducible show R.atI _ _ = some _); exact rfl)) | (((with_reducible show R.tgT _ _ _ = some _); exact rfl)) | (((with_reducible show R.tgN _ _ = some _); exact rfl)) | (((with_reducible show R.cMax _ _ = _); exact rfl)) | (((with_reducible show R.cMin _ _ = _); exact rfl)) | (((with_reducible show R.cAbs _ _ = _); exact rfl)) | (((with_reducible show R.cInt _ _ = _); exact rfl)) | (((with_reducible show R.cList _ _ = _); exact rfl)) | (((with_reducible show R.cListO _ _ = _); exact rfl)) | (((with_reducible show R.cTuple _ _ = _); exact rfl)) | (((with_reducible show R.pPow _ _ _ = _); exact rfl)) | (((with_reducible show R.ixN _ _ = some _); exact rfl)) | (((with_reducible show R.f2I _ _ _ _ = _); exact rfl)) | (((with_reducible show R.may _ _ _ = true); exact R.may_bel rfl)) | (((with_reducible show R.mayL _ _ _ = true); exact R.mayL_bels rfl)) | (with_reducible first | apply R.isi_ok | apply R.app_ok | apply R.call_ok | apply R.bin_ok) | (dsimp only [List.cons_append, List.nil_append, List.append_nil]))); done)))))
  exact ⟨[], by rw [List.append_nil]; rfl⟩
def DA : PV → Prop
  | .non => True
  | .bl _ => True
  | .int _ => True
  | .str _ => True
  | .obj c xs => c = 0 ∧ ∃ a b : Int, xs = [.int a, .int b]
  | _ => False
def DD (N : Nat) : Nat → PV → Prop
  | 0, x => DA x
  | n + 1, x => DA x ∨ ∃ xs, (x = .tup xs ∨ x = .lst xs) ∧ xs.length ≤ N ∧ ∀ y ∈ xs, DD N n y
theorem DD.atom {N : Nat} {x : PV} (h : DA x) : ∀ n, DD N n x
  | 0 => h
  | n + 1 => .inl h
theorem DD.up {N : Nat} : ∀ {n : Nat} {x : PV}, DD N n x → DD N (n + 1) x
  | 0, x, h => .inl h
  | n + 1, x, h => by
    rcases h with h | ⟨xs, e, hl, hy⟩
    · exact .inl h
    · exact .inr ⟨xs, e, hl, fun y m => (hy y m).up⟩
theorem DD.mono {N M : Nat} (k : N ≤ M) : ∀ {n : Nat} {x : PV}, DD N n x → DD M n x
  | 0, x, h => h
  | n + 1, x, h => by
    rcases h with h | ⟨xs, e, hl, hy⟩
    · exact .inl h
    · exact .inr ⟨xs, e, Nat.le_trans hl k, fun y m => (hy y m).mono k⟩
theorem DD.le {N n m : Nat} {x : PV} (h : DD N n x) (k : n ≤ m) : DD N m x := by
  induction k with
  | refl => exact h
  | step _ ih => exact ih.up
theorem DD.tup {N n : Nat} {xs : List PV} (hl : xs.length ≤ N) (h : ∀ y ∈ xs, DD N n y) : DD N (n + 1) (.tup xs) := .inr ⟨xs, .inl rfl, hl, h⟩
theorem DD.lst {N n : Nat} {xs : List PV} (hl : xs.length ≤ N) (h : ∀ y ∈ xs, DD N n y) : DD N (n + 1) (.lst xs) := .inr ⟨xs, .inr rfl, hl, h⟩
theorem DA.sh (q : Fq) : DA (sh q) := ⟨rfl, q.1, q.2, rfl⟩
theorem DD.sh {N n : Nat} (q : Fq) : DD N n (sh q) := .atom (DA.sh q) n
theorem DD.of_tup {N n : Nat} {xs : List PV} (h : DD N (n + 1) (.tup xs)) : xs.length ≤ N ∧ ∀ y ∈ xs, DD N n y := by
  rcases h with h | ⟨ys, e | e, hl, hy⟩
  · exact h.elim
  · cases e
    exact ⟨hl, hy⟩
  · cases e
theorem DA.bel {x : PV} (h : DA x) (n : Nat) : bel n x = true := by
  cases x with
  | obj c xs =>
    obtain ⟨_, a, b, rfl⟩ := h
    rfl
  | non => rfl
  | bl _ => rfl
  | int _ => rfl
  | str _ => rfl
  | _ => exact h.elim
theorem DD.bel {N : Nat} (k : Nat) : ∀ {n : Nat} {x : PV}, DD N n x → bel k x = true
  | 0, x, h => DA.bel h k
  | n + 1, x, h => by
    rcases h with h | ⟨xs, e, hl, hy⟩
    · exact DA.bel h k
    · have : bels k xs = true := bels_iff.mpr fun y m => (hy y m).bel k
      rcases e with rfl | rfl
      · exact this
      · exact this
theorem DD.bels {N n : Nat} (k : Nat) {xs : List PV} (h : ∀ y ∈ xs, DD N n y) : bels k xs = true := bels_iff.mpr fun y m => (h y m).bel k
def tyD : PV → Ty
  | .non => .non
  | .bl _ => .bl
  | .int _ => .int
  | .str _ => .str
  | .tup _ => .tup
  | .lst _ => .lst
  | .obj c _ => .cls c
  | _ => .non
theorem DA.ty {x : PV} (h : DA x) (p : Pool) : tyP 3 p x = some (tyD x) := by
  cases x with
  | obj c xs =>
    obtain ⟨rfl, a, b, rfl⟩ := h
    rfl
  | non => rfl
  | bl _ => rfl
  | int _ => rfl
  | str _ => rfl
  | _ => exact h.elim
theorem DD.ty {N : Nat} : ∀ {n : Nat} {x : PV}, DD N n x → ∀ p, tyP 3 p x = some (tyD x)
  | 0, x, h, p => DA.ty h p
  | n + 1, x, h, p => by
    rcases h with h | ⟨xs, rfl | rfl, hl, hy⟩
    · exact DA.ty h p
    · rfl
    · rfl
def isI : PV → Bool
  | .int _ => true
  | _ => false
theorem isI_ty (x : PV) : (isT .int (tyD x) && !isT .bl (tyD x)) = isI x := by
  cases x <;> rfl
theorem andV_ok' {a b : M PV} {en : En} {p : Pool} {x y : Bool} (h1 : a en p = .ok (.bl x) p) (h2 : b en p = .ok (.bl y) p) : mAndV a b en p = .ok (.bl (x && y)) p := by
  cases x
  · exact andV_f h1
  · exact (andV_t h1).trans h2
theorem wholeD {N n : Nat} {x : PV} (h : DD N n x) (p : Pool) : m_is_whole [x] p = .ok (.bl (isI x)) p := by
  have v : mVar 0 ⟨p.length, [some x]⟩ p = .ok x p := var_ok rfl
  have e := andV_ok' (isi_ok (n := 3) (T := .int) v (h.ty p)) (notV_ok (isi_ok (n := 3) (T := .bl) v (h.ty p)))
  rw [isI_ty] at e
  unfold m_is_whole
  exact fnM_pure (ret_ok e) rfl
def isSh : PV → Bool
  | .obj _ _ => true
  | _ => false
theorem isSh_ty {N n : Nat} {x : PV} (h : DD N n x) : isT (.cls 0) (tyD x) = isSh x := by
  have k : ∀ y, DA y → isT (.cls 0) (tyD y) = isSh y := fun y hy => by
    cases y with
    | obj c xs =>
      obtain ⟨rfl, _⟩ := hy
      rfl
    | non => rfl
    | bl _ => rfl
    | int _ => rfl
    | str _ => rfl
    | _ => exact hy.elim
  cases n with
  | zero => exact k x h
  | succ n =>
    rcases h with h | ⟨xs, rfl | rfl, hl, hy⟩
    · exact k x h
    · rfl
    · rfl
theorem bls_map {α : Type} (f : α → Bool) : ∀ xs : List α, bls (xs.map fun x => .bl (f x)) = some (xs.map f)
  | [] => rfl
  | x :: xs => by
    rw [List.map_cons]
    unfold bls
    rw [bls_map f xs]
    rfl
theorem cAll_map {α : Type} (f : α → Bool) (xs : List α) (p : Pool) : cAll [.lst (xs.map fun x => .bl (f x))] p = .ok (.bl (xs.all f)) p := by
  unfold cAll cFold
  dsimp only [getL]
  rw [bls_map]
  dsimp only
  rw [List.all_map]
  rfl
def goodD : PV → Bool
  | .non => true
  | .int i => decide (1 ≤ i)
  | _ => false
def goodW : PV → Bool
  | .tup ws => (decide (1 ≤ ws.length) && decide (ws.length ≤ 60)) && ws.all isSh
  | _ => false
def goodS : PV → Bool
  | .tup [d, w] => goodD d && goodW w
  | _ => false
theorem chain60 {a : M PV} {en : En} {p : Pool} {n : Nat} (h : a en p = .ok (.int (n : Nat)) p) : mChain pLe pLe (mC (.int 1)) a (mC (.int 60)) en p = .ok (.bl (decide (1 ≤ n) && decide (n ≤ 60))) p := by
  unfold mChain
  show (Res.ok (PV.int 1) p).bind _ = _
  dsimp only [Res.bind]
  rw [h]
  dsimp only [Res.bind]
  have e1 : pLe (.int 1) (.int (n : Int)) p = .ok (.bl (decide (1 ≤ n))) p := by
    show Res.ok (PV.bl (decide ((1 : Int) ≤ (n : Int)))) p = _
    congr 2
    exact decide_eq_decide.mpr (by omega)
  have e2 : pLe (.int (n : Int)) (.int 60) p = .ok (.bl (decide (n ≤ 60))) p := by
    show Res.ok (PV.bl (decide ((n : Int) ≤ (60 : Int)))) p = _
    congr 2
    exact decide_eq_decide.mpr (by omega)
  rw [e1]
  dsimp only
  by_cases h1 : 1 ≤ n
  · rw [decide_eq_true h1]
    exact e2
  · rw [decide_eq_false h1]
    rfl
theorem allsh_ok {it : M It0} {i : Nat} {ck : Pool → Bool} {N n : Nat} {en : En} {p : Pool} {xs : List PV} (hi : it en p = .ok ⟨xs, ck⟩ p) (hck : ∀ acc, ck (p ++ [.lst acc]) = true) (hx : ∀ y ∈ xs, DD N n y) (hl : xs.length ≤ big) (hs : i < en.sl.length) :
    mCall cAll (mCons (mLc it (tgN i) mYes (mIsi 3 (.cls 0) (mVar i)) [i]) mNil) en p = .ok (.bl (xs.all isSh)) p := by
  have c := lc_list (it := it) (g := tgN i) (te := mIsi 3 (.cls 0) (mVar i)) (vs := [i]) (en := en) (p := p) (p1 := p) xs id (fun x => .bl (isSh x)) (by rw [List.map_id]; exact hi) hck (fun x hm => ⟨[(i, x)], rfl, by simp, fun acc => ⟨by
    have v : mVar i (En.sets ⟨p.length + 1, wipeE en.sl [i]⟩ [(i, x)]) (p ++ [.lst acc]) = .ok x (p ++ [.lst acc]) := var_ok (by
      show ((en.sl.set i none).set i (some x))[i]? = _
      rw [List.getElem?_set_self (by rw [List.length_set]; exact hs)])
    have e := isi_ok (n := 3) (T := .cls 0) v ((hx x hm).ty _)
    rw [isSh_ty (hx x hm)] at e
    exact e, rfl⟩⟩) hl
  exact call_ok (f := cAll) (one_ok c) (cAll_map isSh xs p)
theorem days_test {en : En} {p : Pool} {d : PV} {a : M PV} {wh : M Bool} (v1 : a en p = .ok d p) (hw : wh en p = .ok (isI d) p) : mAnd (mB (mBin pNotN1 a (mC .non))) (mOr (mNot wh) (mB (mBin pLt a (mC (.int 1))))) en p = .ok (!goodD d) p := by
  have nn : mBin pNotN1 a (mC .non) en p = .ok (.bl (!isNon d)) p := bin_ok v1 c_ok rfl
  cases d with
  | non => exact and_f (b_ok nn)
  | int i =>
    refine (and_t (b_ok nn)).trans ((or_f (not_ok hw)).trans ((b_ok (lt_ok v1 c_ok)).trans ?_))
    show Res.ok (decide (i < 1)) p = .ok (!decide (1 ≤ i)) p
    congr 1
    by_cases h : 1 ≤ i
    · rw [decide_eq_true h, decide_eq_false (by omega)]
      rfl
    · rw [decide_eq_false h, decide_eq_true (by omega)]
      rfl
  | _ => exact (and_t (b_ok nn)).trans (or_t (not_ok hw))
theorem is_stretch_ok {N : Nat} (hN : N ≤ 90000) {x : PV} (h : DD N 3 x) (p : Pool) : m_is_stretch [x] p = .ok (.bl (goodS x)) p := by
  have hb : N ≤ big := Nat.le_trans hN (by decide)
  unfold m_is_stretch
  refine fnM_pure (x := .bl (goodS x)) ?_ rfl
  show b_is_stretch ⟨p.length, [some x, none, none, none]⟩ p = _
  have v0 : mVar 0 ⟨p.length, [some x, none, none, none]⟩ p = .ok x p := var_ok rfl
  have t0 := isi_ok (n := 3) (T := .tup) v0 (h.ty p)
  unfold b_is_stretch
  have no : ∀ rest : S, isT .tup (tyD x) = false → goodS x = false → sSeq (sIf (mOr (mNot (mB (mIsi 3 .tup (mVar 0)))) (mB (mBin pNe (mCall cLen (mCons (mVar 0) mNil)) (mC (.int 2))))) (sRet (mC (.bl false))) sNop) rest ⟨p.length, [some x, none, none, none]⟩ p = .ret (.bl (goodS x)) p := fun rest e g => by
    rw [e] at t0
    rw [g]
    exact seq_ret ((if_t (or_t (not_ok (b_ok t0)))).trans (ret_ok (m := mC (.bl false)) rfl))
  match x, h, v0, t0, no with
  | .tup xs, h, v0, t0, no =>
    obtain ⟨hl, hx⟩ := h.of_tup
    have ln : mBin pNe (mCall cLen (mCons (mVar 0) mNil)) (mC (.int 2)) ⟨p.length, [some (.tup xs), none, none, none]⟩ p = .ok (.bl (!decide ((xs.length : Int) = 2))) p := ne_ok (call_ok (f := cLen) (one_ok v0) (getL_len rfl)) c_ok
    match xs, hl, hx, v0, t0, ln with
    | [d, w], hl, hx, v0, t0, ln =>
      have hd : DD N 2 d := hx d List.mem_cons_self
      have hw : DD N 2 w := hx w (List.mem_cons_of_mem _ List.mem_cons_self)
      refine (seq_nx ((if_f (or_ff (not_ok (b_ok t0)) (b_ok ln))).trans rfl)).trans ?_
      refine (seq_nx (asg_nx (as := [(1, d), (2, w)]) v0 rfl)).trans ?_
      show sSeq _ _ ⟨p.length, [some (.tup [d, w]), some d, some w, none]⟩ p = .ret (.bl (goodD d && goodW w)) p
      have v1 : mVar 1 ⟨p.length, [some (.tup [d, w]), some d, some w, none]⟩ p = .ok d p := var_ok rfl
      have v2 : mVar 2 ⟨p.length, [some (.tup [d, w]), some d, some w, none]⟩ p = .ok w p := var_ok rfl
      have wh : mFn m_is_whole [] (mCons (mVar 1) mNil) ⟨p.length, [some (.tup [d, w]), some d, some w, none]⟩ p = .ok (.bl (isI d)) p := fn0_ok (one_ok v1) (wholeD hd p)
      have nn : mBin pNotN1 (mVar 1) (mC .non) ⟨p.length, [some (.tup [d, w]), some d, some w, none]⟩ p = .ok (.bl (!isNon d)) p := bin_ok v1 c_ok rfl
      have td := days_test v1 (b_ok wh)
      cases gd : goodD d with
      | false =>
        rw [gd] at td
        exact seq_ret ((if_t td).trans (ret_ok (m := mC (.bl false)) rfl))
      | true =>
        rw [gd] at td
        refine (seq_nx ((if_f td).trans rfl)).trans ?_
        show sSeq _ _ ⟨p.length, [some (.tup [d, w]), some d, some w, none]⟩ p = .ret (.bl (goodW w)) p
        have t2 := isi_ok (n := 3) (T := .tup) v2 (hw.ty p)
        match w, hw, v2, t2 with
        | .tup ws, hw, v2, t2 =>
          obtain ⟨hwl, hws⟩ := hw.of_tup
          have ch := chain60 (n := ws.length) (call_ok (f := cLen) (one_ok v2) (getL_len rfl))
          cases gc : (decide (1 ≤ ws.length) && decide (ws.length ≤ 60)) with
          | false =>
            rw [gc] at ch
            have e : goodW (.tup ws) = false := by
              show ((decide (1 ≤ ws.length) && decide (ws.length ≤ 60)) && ws.all isSh) = _
              rw [gc]
              rfl
            rw [e]
            exact seq_ret ((if_t ((or_f (not_ok (b_ok t2))).trans (not_ok (b_ok ch)))).trans (ret_ok (m := mC (.bl false)) rfl))
          | true =>
            rw [gc] at ch
            have e : goodW (.tup ws) = ws.all isSh := by
              show ((decide (1 ≤ ws.length) && decide (ws.length ≤ 60)) && ws.all isSh) = _
              rw [gc]
              rfl
            rw [e]
            refine (seq_nx ((if_f (or_ff (not_ok (b_ok t2)) (not_ok (b_ok ch)))).trans rfl)).trans ?_
            exact ret_ok (allsh_ok (i := 3) (itS_tup v2) (fun _ => rfl) hws (Nat.le_trans hwl hb) (by show 3 < 4; decide))
        | .non, hw, v2, t2 => exact seq_ret ((if_t (or_t (not_ok (b_ok t2)))).trans (ret_ok (m := mC (.bl false)) rfl))
        | .bl _, hw, v2, t2 => exact seq_ret ((if_t (or_t (not_ok (b_ok t2)))).trans (ret_ok (m := mC (.bl false)) rfl))
        | .int _, hw, v2, t2 => exact seq_ret ((if_t (or_t (not_ok (b_ok t2)))).trans (ret_ok (m := mC (.bl false)) rfl))
        | .str _, hw, v2, t2 => exact seq_ret ((if_t (or_t (not_ok (b_ok t2)))).trans (ret_ok (m := mC (.bl false)) rfl))
        | .lst _, hw, v2, t2 => exact seq_ret ((if_t (or_t (not_ok (b_ok t2)))).trans (ret_ok (m := mC (.bl false)) rfl))
        | .obj _ _, hw, v2, t2 => exact seq_ret ((if_t (or_t (not_ok (b_ok t2)))).trans (ret_ok (m := mC (.bl false)) rfl))
        | .own _, hw, v2, t2 => exact seq_ret ((if_t (or_t (not_ok (b_ok t2)))).trans (ret_ok (m := mC (.bl false)) rfl))
        | .scr _, hw, v2, t2 => exact seq_ret ((if_t (or_t (not_ok (b_ok t2)))).trans (ret_ok (m := mC (.bl false)) rfl))
        | .xs _ _, hw, v2, t2 => exact seq_ret ((if_t (or_t (not_ok (b_ok t2)))).trans (ret_ok (m := mC (.bl false)) rfl))
        | .xv _ _, hw, v2, t2 => exact seq_ret ((if_t (or_t (not_ok (b_ok t2)))).trans (ret_ok (m := mC (.bl false)) rfl))
        | .fn _, hw, v2, t2 => exact seq_ret ((if_t (or_t (not_ok (b_ok t2)))).trans (ret_ok (m := mC (.bl false)) rfl))
    | [], hl, hx, v0, t0, ln => exact seq_ret ((if_t ((or_f (not_ok (b_ok t0))).trans (b_ok ln))).trans (ret_ok (m := mC (.bl false)) rfl))
    | [a], hl, hx, v0, t0, ln => exact seq_ret ((if_t ((or_f (not_ok (b_ok t0))).trans (b_ok ln))).trans (ret_ok (m := mC (.bl false)) rfl))
    | a :: b :: c :: r, hl, hx, v0, t0, ln =>
      rw [decide_eq_false (by rw [List.length_cons, List.length_cons, List.length_cons]; omega)] at ln
      exact seq_ret ((if_t ((or_f (not_ok (b_ok t0))).trans (b_ok ln))).trans (ret_ok (m := mC (.bl false)) rfl))
  | .non, h, v0, t0, no => exact no _ rfl rfl
  | .bl _, h, v0, t0, no => exact no _ rfl rfl
  | .int _, h, v0, t0, no => exact no _ rfl rfl
  | .str _, h, v0, t0, no => exact no _ rfl rfl
  | .lst _, h, v0, t0, no => exact no _ rfl rfl
  | .obj _ _, h, v0, t0, no => exact no _ rfl rfl
  | .own _, h, v0, t0, no => exact no _ rfl rfl
  | .scr _, h, v0, t0, no => exact no _ rfl rfl
  | .xs _ _, h, v0, t0, no => exact no _ rfl rfl
  | .xv _ _, h, v0, t0, no => exact no _ rfl rfl
  | .fn _, h, v0, t0, no => exact no _ rfl rfl
theorem pAdd_lst {xs ys : List PV} {p : Pool} (h : xs.length + ys.length ≤ big) : pAdd (.lst xs) (.lst ys) p = .ok (.lst (xs ++ ys)) p := by
  show (if xs.length + ys.length ≤ big then Res.ok (PV.lst (xs ++ ys)) p else .stuck) = _
  rw [if_pos h]
def dayN : PV → Bool
  | .tup [d, _] => isNon d
  | _ => false
structure GL (xs : List PV) : Prop where
  l1 : 1 ≤ xs.length
  l60 : xs.length ≤ 60
  at_ : ∀ i x, xs[i]? = some x → goodS x = true ∧ dayN x = decide (i + 1 = xs.length)
theorem eqT_bls (n : Nat) : ∀ a b : List Bool, eqT (eqv n) (a.map PV.bl) (b.map PV.bl) = some (decide (a = b))
  | [], [] => rfl
  | [], _ :: _ => rfl
  | _ :: _, [] => rfl
  | x :: a, y :: b => by
    have ih := eqT_bls n a b
    have e1 : eqv n (.bl x) (.bl y) = some (decide (x = y)) := by
      cases n <;> cases x <;> cases y <;> rfl
    rw [List.map_cons, List.map_cons]
    unfold eqT
    rw [e1]
    by_cases z : x = y
    · rw [decide_eq_true z]
      dsimp only
      rw [ih, z]
      by_cases z2 : a = b
      · rw [decide_eq_true z2, z2]
        simp
      · rw [decide_eq_false z2, decide_eq_false (fun e => z2 (List.cons.inj e).2)]
    · rw [decide_eq_false z, decide_eq_false (fun e => z (List.cons.inj e).1)]
theorem pTr_bls {p : Pool} {a b : List Bool} (hl : a.length = b.length) : pTr fldT (eqvN .Eq 3) (.lst (a.map .bl)) (.lst (b.map .bl)) p = .ok (.bl (decide (a = b))) p := by
  have bb : ∀ l : List Bool, bels 0 (l.map PV.bl) = true := fun l => bels_iff.mpr fun x hx => by
    obtain ⟨y, _, rfl⟩ := List.mem_map.mp hx
    rfl
  have e : eqvN .Eq 3 (.lst (a.map .bl)) (.lst (b.map .bl)) = some (decide (a = b)) := by
    unfold eqvN
    rw [if_pos ⟨rfl, rfl⟩]
    show (if (a.map PV.bl).length = (b.map PV.bl).length then eqT (eqv 2) (a.map PV.bl) (b.map PV.bl) else some false).map _ = _
    rw [if_pos (by rw [List.length_map, List.length_map]; exact hl), eqT_bls]
    rfl
  unfold pTr
  rw [thaw_bel (x := .lst (a.map .bl)) (bb a), thaw_bel (x := .lst (b.map .bl)) (bb b)]
  dsimp only
  rw [e]
theorem goodS_pair {x : PV} (h : goodS x = true) : ∃ d w, x = .tup [d, w] ∧ goodD d = true ∧ goodW w = true := by
  unfold goodS at h
  split at h
  · rename_i d w
    rw [Bool.and_eq_true] at h
    exact ⟨d, w, rfl, h.1, h.2⟩
  · cases h
theorem lastB (n : Nat) : (List.replicate n false ++ [true]).length = n + 1 := by rw [List.length_append, List.length_replicate]; rfl
theorem ends_iff (xs : List PV) (h1 : 1 ≤ xs.length) : xs.map dayN = List.replicate (xs.length - 1) false ++ [true] ↔ ∀ i x, xs[i]? = some x → dayN x = decide (i + 1 = xs.length) := by
  have key : ∀ i, (List.replicate (xs.length - 1) false ++ [true])[i]? = if i < xs.length then some (decide (i + 1 = xs.length)) else none := fun i => by
    by_cases h : i < xs.length - 1
    · rw [List.getElem?_append_left (by rw [List.length_replicate]; exact h), List.getElem?_replicate, if_pos h, if_pos (by omega), decide_eq_false (by omega)]
    · by_cases h2 : i < xs.length
      · have e : i = xs.length - 1 := by omega
        rw [if_pos h2, decide_eq_true (by omega), List.getElem?_append_right (by rw [List.length_replicate]; omega), List.length_replicate, e, Nat.sub_self]
        rfl
      · rw [if_neg h2, List.getElem?_eq_none (by rw [lastB]; omega)]
  constructor
  · intro e i x hx
    have hi : i < xs.length := (List.getElem?_eq_some_iff.mp hx).1
    have := key i
    rw [← e, List.getElem?_map, hx, if_pos hi] at this
    exact Option.some.inj this
  · intro h
    refine List.ext_getElem? fun i => ?_
    rw [key i, List.getElem?_map]
    by_cases hi : i < xs.length
    · rw [if_pos hi, List.getElem?_eq_getElem hi]
      exact congrArg some (h i _ (List.getElem?_eq_getElem hi))
    · rw [if_neg hi, List.getElem?_eq_none (by omega)]
      rfl
structure Hnd (z : PV) (xs : List PV) (p : Pool) (ck : Pool → Bool) : Prop where
  ty : tyP 3 p z = some .lst
  q : getQ p z = some xs
  it : ∀ {m : M PV} {en : En}, m en p = .ok z p → itS m en p = .ok ⟨xs, ck⟩ p
  ck : ∀ acc, ck (p ++ [.lst acc]) = true
theorem Hnd.own {k : Nat} {xs : List PV} {p : Pool} (h : p[k]? = some (.lst xs)) : Hnd (.own k) xs p (ownCk k xs) := by
  refine ⟨?_, getQ_own h, fun hm => itS_own hm h, fun acc => ownCk_of (pre_get (List.prefix_append _ _) h)⟩
  show (match p[k]? with | some (.lst _) => some Ty.lst | some (.obj c _) => if c < 3 then some (.cls c) else none | _ => none) = some .lst
  rw [h]
theorem Hnd.lst (xs : List PV) (p : Pool) : Hnd (.lst xs) xs p noCk := ⟨rfl, rfl, fun h => itS_lst h, fun _ => rfl⟩
theorem are_ok {N : Nat} (hN : N ≤ 90000) {z : PV} {xs : List PV} {p : Pool} {ck : Pool → Bool} (H : Hnd z xs p ck) (hx : ∀ y ∈ xs, DD N 3 y) (hl : xs.length ≤ N) :
    (GL xs → m_are_stretches [z] p = .ok (.bl true) p) ∧ (¬ GL xs → m_are_stretches [z] p = .ok (.bl false) p) := by
  have hb : xs.length ≤ big := Nat.le_trans hl (Nat.le_trans hN (by decide))
  have main : ∀ b : Bool, ((GL xs ∧ b = true) ∨ (¬ GL xs ∧ b = false)) → m_are_stretches [z] p = .ok (.bl b) p := fun b hbb => by
    unfold m_are_stretches
    refine fnM_pure (x := .bl b) ?_ rfl
    show b_are_stretches ⟨p.length, [some z, none, none, none]⟩ p = _
    have v0 : mVar 0 ⟨p.length, [some z, none, none, none]⟩ p = .ok z p := var_ok rfl
    have t0 : mIsi 3 .lst (mVar 0) ⟨p.length, [some z, none, none, none]⟩ p = .ok (.bl true) p := isi_ok (t := .lst) v0 H.ty
    have ln : mCall cLen (mCons (mVar 0) mNil) ⟨p.length, [some z, none, none, none]⟩ p = .ok (.int (xs.length : Nat)) p := call_ok (f := cLen) (one_ok v0) (getL_len H.q)
    have ch := chain60 (n := xs.length) ln
    unfold b_are_stretches
    cases gc : (decide (1 ≤ xs.length) && decide (xs.length ≤ 60)) with
    | false =>
      rw [gc] at ch
      have e : b = false := by
        rcases hbb with ⟨g, _⟩ | ⟨_, e⟩
        · have := g.l1
          have := g.l60
          rw [decide_eq_true g.l1, decide_eq_true g.l60] at gc
          cases gc
        · exact e
      rw [e]
      exact seq_ret ((if_t ((or_f (not_ok (b_ok t0))).trans (not_ok (b_ok ch)))).trans (ret_ok (m := mC (.bl false)) rfl))
    | true =>
      rw [gc] at ch
      rw [Bool.and_eq_true, decide_eq_true_iff, decide_eq_true_iff] at gc
      refine (seq_nx ((if_f (or_ff (not_ok (b_ok t0)) (not_ok (b_ok ch)))).trans rfl)).trans ?_
      have c1 := lc_list (it := itS (mVar 0)) (g := tgN 3) (te := mFn m_is_stretch [] (mCons (mVar 3) mNil)) (vs := [3]) (en := ⟨p.length, [some z, none, none, none]⟩) (p := p) (p1 := p) xs id (fun x => .bl (goodS x)) (by rw [List.map_id]; exact H.it v0) H.ck
        (fun x hm => ⟨[(3, x)], rfl, rfl, fun acc => ⟨fn0_ok (one_ok (var_ok rfl)) (is_stretch_ok hN (hx x hm) _), rfl⟩⟩) hb
      have a1 : mCall cAll (mCons (mLc (itS (mVar 0)) (tgN 3) mYes (mFn m_is_stretch [] (mCons (mVar 3) mNil)) [3]) mNil) ⟨p.length, [some z, none, none, none]⟩ p = .ok (.bl (xs.all goodS)) p := call_ok (f := cAll) (one_ok c1) (cAll_map goodS xs p)
      cases ga : xs.all goodS with
      | false =>
        rw [ga] at a1
        have e : b = false := by
          rcases hbb with ⟨g, _⟩ | ⟨_, e⟩
          · have : xs.all goodS = true := List.all_eq_true.mpr fun x hm => by
              obtain ⟨i, hi, rfl⟩ := List.getElem_of_mem hm
              exact (g.at_ i _ (List.getElem?_eq_getElem hi)).1
            rw [ga] at this
            cases this
          · exact e
        rw [e]
        exact seq_ret ((if_t (not_ok (b_ok a1))).trans (ret_ok (m := mC (.bl false)) rfl))
      | true =>
        rw [ga] at a1
        refine (seq_nx ((if_f (not_ok (b_ok a1))).trans rfl)).trans ?_
        have ga := List.all_eq_true.mp ga
        have c2 := lc_list (it := itS (mVar 0)) (g := tgT 2 (tgCons (tgN 1) (tgCons (tgN 2) tgNil))) (te := mBin pIsN1 (mVar 1) (mC .non)) (vs := [1, 2]) (en := ⟨p.length, [some z, none, none, none]⟩) (p := p) (p1 := p) xs id (fun x => .bl (dayN x)) (by rw [List.map_id]; exact H.it v0) H.ck
          (fun x hm => by
            obtain ⟨d, w, rfl, _, _⟩ := goodS_pair (ga x hm)
            exact ⟨[(1, d), (2, w)], rfl, rfl, fun acc => ⟨bin_ok (var_ok rfl) c_ok rfl, rfl⟩⟩) hb
        have e2 : xs.map (fun x => PV.bl (dayN x)) = (xs.map dayN).map .bl := by
          rw [List.map_map]
          rfl
        rw [e2] at c2
        have m1 : mBin pSub (mCall cLen (mCons (mVar 0) mNil)) (mC (.int 1)) ⟨p.length, [some z, none, none, none]⟩ p = .ok (.int ((xs.length - 1 : Nat) : Int)) p := by
          have e : ((xs.length - 1 : Nat) : Int) = (xs.length : Int) - 1 := by omega
          rw [e]
          exact sub_ok ln c_ok
        have m2 : mBin pMul (mLst (mCons (mC (.bl false)) mNil)) (mBin pSub (mCall cLen (mCons (mVar 0) mNil)) (mC (.int 1))) ⟨p.length, [some z, none, none, none]⟩ p = .ok (.lst ((List.replicate (xs.length - 1) false).map .bl)) p := by
          refine bin_ok (x := .lst [.bl false]) (lst_ok (one_ok c_ok)) m1 ?_
          have h1 : ((xs.length - 1 : Nat) : Int) ≤ 1000 ∧ -1000 ≤ ((xs.length - 1 : Nat) : Int) ∧ [PV.bl false].length * ((xs.length - 1 : Nat) : Int).toNat ≤ big := by
            refine ⟨by omega, by omega, ?_⟩
            show 1 * _ ≤ 1000000
            omega
          show (if ((xs.length - 1 : Nat) : Int) ≤ 1000 ∧ -1000 ≤ ((xs.length - 1 : Nat) : Int) ∧ [PV.bl false].length * ((xs.length - 1 : Nat) : Int).toNat ≤ big then Res.ok (PV.lst (R.times ((xs.length - 1 : Nat) : Int).toNat [PV.bl false])) p else .stuck) = _
          rw [if_pos h1, Int.toNat_natCast]
          congr 2
          rw [List.map_replicate]
          show (List.replicate (xs.length - 1) [PV.bl false]).flatten = _
          induction xs.length - 1 with
          | zero => rfl
          | succ n ih => rw [List.replicate_succ, List.flatten_cons, ih]; rfl
        have m3 : mBin pAdd (mBin pMul (mLst (mCons (mC (.bl false)) mNil)) (mBin pSub (mCall cLen (mCons (mVar 0) mNil)) (mC (.int 1)))) (mLst (mCons (mC (.bl true)) mNil)) ⟨p.length, [some z, none, none, none]⟩ p = .ok (.lst ((List.replicate (xs.length - 1) false ++ [true]).map .bl)) p := by
          rw [List.map_append]
          refine bin_ok m2 (lst_ok (one_ok c_ok)) (pAdd_lst ?_)
          rw [List.length_map, List.length_replicate]
          show _ + 1 ≤ 1000000
          omega
        have fin := bin_ok (f := pTr fldT (eqvN .Eq 3)) c2 m3 (pTr_bls (by rw [List.length_map, lastB]; omega))
        have eb : decide (xs.map dayN = List.replicate (xs.length - 1) false ++ [true]) = b := by
          have e := ends_iff xs gc.1
          rcases hbb with ⟨g, rfl⟩ | ⟨g, rfl⟩
          · exact decide_eq_true (e.mpr fun i x hx => (g.at_ i x hx).2)
          · refine decide_eq_false fun k => g ⟨gc.1, gc.2, fun i x hx => ⟨ga x (List.mem_of_getElem? hx), e.mp k i x hx⟩⟩
        rw [eb] at fin
        exact ret_ok fin
  exact ⟨fun g => main true (.inl ⟨g, rfl⟩), fun g => main false (.inr ⟨g, rfl⟩)⟩
def sW (w : List Fq) : PV := .tup (w.map sh)
def stE (s : Int × List Fq) : PV := .tup [.int s.1, sW s.2]
def stP (L : List (Int × List Fq)) (w : List Fq) : List PV := L.map stE ++ [.tup [.non, sW w]]
structure GS (L : List (Int × List Fq)) (w : List Fq) : Prop where
  few : L.length + 1 ≤ 60
  day : ∀ s ∈ L, 1 ≤ s.1
  wl : ∀ s ∈ L, 1 ≤ s.2.length ∧ s.2.length ≤ 60
  ll : 1 ≤ w.length ∧ w.length ≤ 60
def begN (L : List (Int × List Fq)) : Nat → Int
  | 0 => 0
  | k + 1 => begN L k + ((L[k]?).getD (0, [])).1
def begs (L : List (Int × List Fq)) (j : Nat) : List Int := (List.range (j + 1)).map (begN L)
theorem begs_succ (L : List (Int × List Fq)) (j : Nat) : begs L (j + 1) = begs L j ++ [begN L (j + 1)] := by
  unfold begs
  rw [List.range_succ, List.map_append]
  rfl
def crs (L : List (Int × List Fq)) (w : List Fq) : PV := .obj 1 [.lst ((begs L L.length).map .int), .lst ((L.map fun s => sW s.2) ++ [sW w])]
theorem bel_sW (n : Nat) (w : List Fq) : bel n (sW w) = true := by
  show bels n (w.map sh) = true
  exact bels_iff.mpr fun x hx => by
    obtain ⟨q, _, rfl⟩ := List.mem_map.mp hx
    rfl
theorem bels_words (n : Nat) (L : List (Int × List Fq)) (w : List Fq) : bels n ((L.map fun s => sW s.2) ++ [sW w]) = true := bels_iff.mpr fun x hx => by
  rcases List.mem_append.mp hx with hx | hx
  · obtain ⟨s, _, rfl⟩ := List.mem_map.mp hx
    exact bel_sW n _
  · rw [List.mem_singleton.mp hx]
    exact bel_sW n _
theorem bels_int (n : Nat) (l : List Int) : bels n (l.map PV.int) = true := bels_iff.mpr fun x hx => by
  obtain ⟨q, _, rfl⟩ := List.mem_map.mp hx
  rfl
theorem bel_crs (n : Nat) (L : List (Int × List Fq)) (w : List Fq) : bel n (crs L w) = true := by
  show (bels n ((begs L L.length).map PV.int) && (bels n ((L.map fun s => sW s.2) ++ [sW w]) && true)) = true
  rw [bels_int, bels_words]
  rfl
structure HndX (z : PV) (xs : List PV) (p : Pool) (ck : Pool → Bool) : Prop where
  h : ∀ r, Hnd z xs (p ++ r) ck
  r : ∀ r, getR (p ++ r) z = some xs
  nt : ∀ ys, z ≠ .tup ys
theorem HndX.own {k : Nat} {xs : List PV} {p : Pool} (h : p[k]? = some (.lst xs)) : HndX (.own k) xs p (ownCk k xs) := ⟨fun r => .own (pre_get (List.prefix_append _ _) h), fun r => getQ_own (pre_get (List.prefix_append _ _) h), fun _ e => nomatch e⟩
theorem HndX.lst (xs : List PV) (p : Pool) : HndX (.lst xs) xs p noCk := ⟨fun r => .lst xs _, fun r => rfl, fun _ e => nomatch e⟩
theorem HndX.sl {z : PV} {xs : List PV} {p : Pool} {ck : Pool → Bool} (H : HndX z xs p ck) (r : Pool) {m : M PV} {en : En} (h : m en (p ++ r) = .ok z (p ++ r)) : mSl m oNo (oYes (mNeg (mC (.int 1)))) en (p ++ r) = .ok (.lst (cut xs none (some (-1)))) (p ++ r) := by
  have hr := H.r r
  have hn := H.nt
  unfold mSl
  rw [h]
  show (match z with
    | .tup xs => Res.ok (PV.tup (cut xs none (some (-1)))) (p ++ r)
    | x => match getR (p ++ r) x with
      | some xs => .ok (.lst (cut xs none (some (-1)))) (p ++ r)
      | none => .stuck) = _
  cases z with
  | tup ys => exact absurd rfl (hn ys)
  | _ =>
    dsimp only
    rw [hr]
theorem cut_init (l : List PV) (x : PV) : cut (l ++ [x]) none (some (-1)) = l := by
  unfold cut
  have h2 : HT.sIx (l ++ [x]).length (l ++ [x]).length (some (-1)) = l.length := by
    show (if (-1 : Int) < 0 then ((-1 : Int) + ((l ++ [x]).length : Int)).toNat else min (-1 : Int).toNat (l ++ [x]).length) = _
    rw [if_pos (by decide), List.length_append, List.length_singleton]
    omega
  rw [HT.sIx_none, h2, List.drop_zero, Nat.sub_zero, List.take_left]
theorem fld_nx {c i : Nat} {o a : M PV} {en : En} {p p1 p2 : Pool} {k : Nat} {y : PV} {cell cell' : Cell} (h1 : a en p = .ok y p1) (h2 : o en p1 = .ok (.own k) p2) (hm : may en.b k y = true) (hc : p2[k]? = some cell) (hp : putC c i y cell = some cell') : sFld c i o a en p = .next en (p2.set k cell') := by
  unfold R.sFld
  rw [h1]
  dsimp only [Res.run]
  rw [h2]
  dsimp only [Res.run]
  rw [if_pos hm, hc]
  dsimp only
  rw [hp]
theorem atI_end {α : Type} (xs : List α) (x : α) : atI (xs ++ [x]) (-1) = some x := by
  unfold atI ixN
  rw [if_neg (by decide), List.length_append, List.length_singleton, if_pos (by omega)]
  have e : ((-1 : Int) + ((xs.length + 1 : Nat) : Int)).toNat = xs.length := by omega
  rw [e]
  show (xs ++ [x])[xs.length]? = some x
  exact List.getElem?_concat_length
theorem thaw_crs {n k : Nat} {P : Pool} {bs : List PV} {ws : List PV} (g0 : P[n]? = some (.obj 1 [.own k, .lst ws])) (g1 : P[k]? = some (.lst bs)) (hk : n ≤ k) (hb : bels 0 bs = true) (hw : bels 0 ws = true) : thaw fldT n P (.own n) = some (.obj 1 [.lst bs, .lst ws]) := by
  have t1 : thw fldT n P 11 k = some (.lst bs) := by
    unfold thw
    rw [if_neg (by omega), g1]
    dsimp only
    rw [subs_bel hb]
  show thw fldT n P 12 n = _
  unfold thw
  rw [if_neg (Nat.lt_irrefl _), g0]
  dsimp only
  have hl : [PV.own k, .lst ws].length = (fldT 1).length := rfl
  rw [if_pos hl]
  have s2 : sub (thw fldT n P 11) (.lst ws) = some (.lst ws) := sub_bel (x := .lst ws) hw
  have s1 : sub (thw fldT n P 11) (.own k) = some (.lst bs) := t1
  have e : subs (thw fldT n P 11) [.own k, .lst ws] = some [.lst bs, .lst ws] := by
    unfold subs
    rw [s1]
    dsimp only
    unfold subs
    rw [s2]
    rfl
  rw [e]
def wordsP (L : List (Int × List Fq)) (w : List Fq) : List PV := (L.map fun s => sW s.2) ++ [sW w]
def Raw (xs : List PV) : Prop := xs = [] ∨ ∃ a b, xs = [a, b]
theorem Raw.p0 {xs : List PV} (h : Raw xs) (y : PV) : putC 1 0 y (.obj 1 xs) = some (.obj 1 (y :: xs.tail)) := by
  rcases h with rfl | ⟨a, b, rfl⟩ <;> rfl
theorem Raw.p1 {xs : List PV} (h : Raw xs) (x y : PV) : putC 1 1 y (.obj 1 (x :: xs.tail)) = some (.obj 1 [x, y]) := by
  rcases h with rfl | ⟨a, b, rfl⟩ <;> rfl
theorem lay_ok {L : List (Int × List Fq)} {w : List Fq} (g : GS L w) {z : PV} {q rr : Pool} {xs : List PV} (hx : Raw xs) {ck : Pool → Bool} (H : HndX z (stP L w) q ck) :
    m_Course_lay q.length [.own q.length, z] (q ++ .obj 1 xs :: rr) = .ok .non (q ++ .obj 1 [.own (q.length + 1 + rr.length), .lst (wordsP L w)] :: (rr ++ [.lst ((begs L L.length).map .int)])) := by
  obtain ⟨t, ht⟩ : ∃ t, t = xs.tail := ⟨_, rfl⟩
  obtain ⟨K, hK⟩ : ∃ K, K = q.length + 1 + rr.length := ⟨_, rfl⟩
  rw [← hK]
  have hx0 : ∀ y, putC 1 0 y (.obj 1 xs) = some (.obj 1 (y :: t)) := fun y => by rw [ht]; exact hx.p0 y
  have hx1 : ∀ x y, putC 1 1 y (.obj 1 (x :: t)) = some (.obj 1 [x, y]) := fun x y => by rw [ht]; exact hx.p1 x y
  have hfew := g.few
  have key : Ends (b_Course_lay ⟨q.length, [some (.own q.length), some z, none, none]⟩ (q ++ .obj 1 xs :: rr)) (fun c => ∃ en, c = .next en (q ++ .obj 1 [.own K, .lst (wordsP L w)] :: (rr ++ [.lst ((begs L L.length).map .int)]))) := by
    unfold b_Course_lay
    have len2 : ∀ c : Cell, (q ++ c :: rr).length = K := fun c => by rw [List.length_append, List.length_cons]; omega
    have q2 : ∀ c d : Cell, (q ++ c :: rr) ++ [d] = q ++ c :: (rr ++ [d]) := fun c d => by rw [List.append_assoc]; rfl
    have gl : ∀ c d : Cell, (q ++ c :: (rr ++ [d]))[q.length]? = some c := fun c d => by
      rw [List.getElem?_append_right (Nat.le_refl _), Nat.sub_self]
      rfl
    have gl1 : ∀ c d : Cell, (q ++ c :: (rr ++ [d]))[K]? = some d := fun c d => by
      rw [← q2, ← len2 c]
      exact List.getElem?_concat_length
    have st : ∀ c d e : Cell, (q ++ c :: (rr ++ [d])).set q.length e = q ++ e :: (rr ++ [d]) := fun c d e => by
      rw [List.set_append_right _ _ (Nat.le_refl _), Nat.sub_self]
      rfl
    have st1 : ∀ c d e : Cell, (q ++ c :: (rr ++ [d])).set K e = q ++ c :: (rr ++ [e]) := fun c d e => by
      rw [← q2, ← len2 c, List.set_append_right _ _ (Nat.le_refl _), Nat.sub_self, ← q2]
      rfl
    have f1 : R.sFld 1 0 (mVar 0) (mLstO (mCons (mC (.int 0)) mNil)) ⟨q.length, [some (.own q.length), some z, none, none]⟩ (q ++ .obj 1 xs :: rr) = .next ⟨q.length, [some (.own q.length), some z, none, none]⟩ (q ++ .obj 1 (.own K :: t) :: (rr ++ [.lst ((begs L 0).map .int)])) := by
      have e := fld_nx (c := 1) (i := 0) (o := mVar 0) (a := mLstO (mCons (mC (.int 0)) mNil)) (en := ⟨q.length, [some (.own q.length), some z, none, none]⟩) (p := q ++ .obj 1 xs :: rr) (k := q.length) (lstO_ok (one_ok c_ok)) (var_ok rfl) (by
        show (decide (q.length ≤ q.length) || _) = true
        rw [decide_eq_true (Nat.le_refl _)]
        rfl) (by rw [q2]; exact gl _ _) (hx0 _)
      rw [e, q2, st, len2]
      rfl
    refine go_seq_nx f1 ?_
    have hz : mSl (mVar 1) oNo (oYes (mNeg (mC (.int 1)))) ⟨q.length, [some (.own q.length), some z, none, none]⟩ (q ++ .obj 1 (.own K :: t) :: (rr ++ [.lst ((begs L 0).map .int)])) = .ok (.lst (L.map stE)) (q ++ .obj 1 (.own K :: t) :: (rr ++ [.lst ((begs L 0).map .int)])) := by
      rw [H.sl _ (var_ok rfl)]
      unfold stP
      rw [cut_init]
    refine go_seq_for (p1 := q ++ .obj 1 (.own K :: t) :: (rr ++ [.lst ((begs L 0).map .int)])) (z := ⟨L.map stE, noCk⟩) (fun k en r => r = q ++ .obj 1 (.own K :: t) :: (rr ++ [.lst ((begs L k).map .int)]) ∧ ∃ y2 y3, en = ⟨q.length, [some (.own q.length), some z, y2, y3]⟩)
      (itS_lst hz) ⟨rfl, none, none, rfl⟩ (fun _ _ _ _ => rfl) (fun k hk en r hI => ?_) (fun en r hI => ?_)
    · obtain ⟨rfl, y2, y3, rfl⟩ := hI
      have hk : k < (L.map stE).length := hk
      have hk2 : k < L.length := by rw [List.length_map] at hk; exact hk
      have ez : (⟨L.map stE, noCk⟩ : It0).xs[k] = .tup [.int L[k].1, sW L[k].2] := List.getElem_map _
      rw [ez]
      refine ⟨[(2, .int L[k].1), (3, sW L[k].2)], rfl, ?_⟩
      show Ends (sExpr _ ⟨q.length, [some (.own q.length), some z, some (.int L[k].1), some (sW L[k].2)]⟩ _) _
      have fo : mFld 1 0 (mVar 0) ⟨q.length, [some (.own q.length), some z, some (.int L[k].1), some (sW L[k].2)]⟩ (q ++ .obj 1 (.own K :: t) :: (rr ++ [.lst ((begs L k).map .int)])) = .ok (.own K) (q ++ .obj 1 (.own K :: t) :: (rr ++ [.lst ((begs L k).map .int)])) := getF_ok (x := .own q.length) (var_ok rfl) (by
        show (match (q ++ Cell.obj 1 (.own K :: t) :: (rr ++ [.lst ((begs L k).map .int)]))[q.length]? with
          | some (.obj d xs) => if d = 1 then xs[0]? else none
          | _ => none) = _
        rw [gl]
        rfl)
      have el : (begs L k).map PV.int = ((List.range k).map (begN L)).map PV.int ++ [.int (begN L k)] := by
        unfold begs
        rw [List.range_succ, List.map_append, List.map_append]
        rfl
      have la : mBin pIx (mFld 1 0 (mVar 0)) (mNeg (mC (.int 1))) ⟨q.length, [some (.own q.length), some z, some (.int L[k].1), some (sW L[k].2)]⟩ (q ++ .obj 1 (.own K :: t) :: (rr ++ [.lst ((begs L k).map .int)])) = .ok (.int (begN L k)) (q ++ .obj 1 (.own K :: t) :: (rr ++ [.lst ((begs L k).map .int)])) := by
        refine ati_ok fo (neg_ok c_ok) (getQ_own (gl1 _ _)) ?_
        rw [el]
        exact atI_end _ _
      have ad := add_ok la (var_ok (i := 2) (x := .int L[k].1) (en := ⟨q.length, [some (.own q.length), some z, some (.int L[k].1), some (sW L[k].2)]⟩) (p := q ++ .obj 1 (.own K :: t) :: (rr ++ [.lst ((begs L k).map .int)])) rfl)
      have e := app_ok fo (gl1 _ _) ad (gl1 _ _) (by
        show (decide (q.length ≤ K) || _) = true
        rw [decide_eq_true (by omega)]
        rfl) (by
        unfold begs
        rw [List.length_map, List.length_map, List.length_range]
        exact Nat.lt_of_lt_of_le (by omega : k + 1 < 1000) (by decide))
      refine go_expr e ⟨?_, _, _, rfl⟩
      rw [st1, begs_succ, List.map_append]
      have eb : begN L (k + 1) = begN L k + L[k].1 := by
        show begN L k + ((L[k]?).getD (0, [])).1 = _
        rw [List.getElem?_eq_getElem hk2]
        rfl
      rw [eb]
      rfl
    · obtain ⟨rfl, y2, y3, rfl⟩ := hI
      have e : (⟨L.map stE, noCk⟩ : It0).xs.length = L.length := List.length_map _
      rw [e]
      have c := lc_list (it := itS (mVar 1)) (g := tgT 2 (tgCons (tgN 2) (tgCons (tgN 3) tgNil))) (te := mVar 3) (vs := [2, 3]) (en := ⟨q.length, [some (.own q.length), some z, y2, y3]⟩) (p := q ++ .obj 1 (.own K :: t) :: (rr ++ [.lst ((begs L L.length).map .int)])) (p1 := q ++ .obj 1 (.own K :: t) :: (rr ++ [.lst ((begs L L.length).map .int)]))
        ((L.map fun s => ((some s.1, s.2) : Option Int × List Fq)) ++ [((none, w) : Option Int × List Fq)]) (fun s : Option Int × List Fq => .tup [match s.1 with | some i => .int i | none => .non, sW s.2]) (fun s => sW s.2) (by
          have es : ((L.map fun s => ((some s.1, s.2) : Option Int × List Fq)) ++ [((none, w) : Option Int × List Fq)]).map (fun s : Option Int × List Fq => PV.tup [match s.1 with | some i => .int i | none => .non, sW s.2]) = stP L w := by
            rw [List.map_append, List.map_map]
            rfl
          rw [es]
          exact (H.h _).it (var_ok rfl)) (H.h _).ck (fun s hs => ⟨[(2, match s.1 with | some i => .int i | none => .non), (3, sW s.2)], rfl, rfl, fun acc => ⟨var_ok rfl, bel_sW _ _⟩⟩) (by
          rw [List.length_append, List.length_map]
          exact Nat.le_trans (by show L.length + 1 ≤ 60; exact hfew) (by decide))
      have ew : ((L.map fun s => ((some s.1, s.2) : Option Int × List Fq)) ++ [((none, w) : Option Int × List Fq)]).map (fun s : Option Int × List Fq => sW s.2) = (L.map fun s => sW s.2) ++ [sW w] := by
        rw [List.map_append, List.map_map]
        rfl
      rw [ew] at c
      have f2 := fld_nx (c := 1) (i := 1) (o := mVar 0) (en := ⟨q.length, [some (.own q.length), some z, y2, y3]⟩) (k := q.length) c (var_ok rfl) (by
        show (decide (q.length ≤ q.length) || _) = true
        rw [decide_eq_true (Nat.le_refl _)]
        rfl) (gl _ _) (hx1 _ _)
      rw [st] at f2
      exact go_nx f2 ⟨_, rfl⟩
  obtain ⟨en, e⟩ := key.h
  unfold m_Course_lay fnS
  show (match b_Course_lay ⟨q.length, [some (.own q.length), some z, none, none]⟩ (q ++ .obj 1 xs :: rr) with
    | .ret x q => Res.ok x q
    | .next _ q => .ok .non q
    | _ => .stuck) = _
  rw [e]
theorem make_ok {L : List (Int × List Fq)} {w : List Fq} (g : GS L w) {z : PV} {q : Pool} {ck : Pool → Bool} (H : HndX z (stP L w) q ck) (hA : m_are_stretches [z] (q ++ [.obj 1 []]) = .ok (.bl true) (q ++ [.obj 1 []])) :
    m_Course_init q.length [z] q = .ok (.own q.length) (q ++ [.obj 1 [.own (q.length + 1), .lst (wordsP L w)], .lst ((begs L L.length).map .int)]) := by
  have e1 := lay_ok g (rr := []) (xs := []) (.inl rfl) H
  have hm : mMetS m_Course_lay 1 (mVar 0) (mCons (mVar 1) mNil) ⟨q.length, [some (.own q.length), some z]⟩ (q ++ [.obj 1 []]) = .ok .non (q ++ [.obj 1 [.own (q.length + 1), .lst (wordsP L w)], .lst ((begs L L.length).map .int)]) := by
    have o : isOwnO 1 (q ++ [Cell.obj 1 []]) (.own q.length) = true := by
      show (match (q ++ [Cell.obj 1 []])[q.length]? with
        | some (.obj d _) => decide (d = 1)
        | _ => false) = true
      rw [get_last]
      rfl
    unfold mMetS
    rw [var_ok (i := 0) (x := .own q.length) rfl]
    dsimp only [Res.bind]
    rw [if_pos o, one_ok (var_ok (i := 1) (x := z) rfl)]
    dsimp only [Res.bind]
    rw [e1]
    rfl
  have hb : b_Course_init ⟨q.length, [some (.own q.length), some z]⟩ (q ++ [.obj 1 []]) = .next ⟨q.length, [some (.own q.length), some z]⟩ (q ++ [.obj 1 [.own (q.length + 1), .lst (wordsP L w)], .lst ((begs L L.length).map .int)]) := by
    unfold b_Course_init
    refine (seq_nx ((if_f (not_ok (b_ok (fn0_ok (one_ok (var_ok rfl)) hA)))).trans rfl)).trans ?_
    exact expr_nx hm
  unfold m_Course_init iniS
  show (match b_Course_init ⟨q.length, [some (.own q.length), some z]⟩ (q ++ [.obj 1 []]) with
    | .next _ r => Res.ok (PV.own q.length) r
    | _ => .stuck) = _
  rw [hb]
def pickQ (ws : List Fq) (d : Int) : Fq := (ws[(d.fmod ws.length).toNat]?).getD (0, 1)
def onQ : List (Int × List Fq) → List Fq → Int → Fq
  | [], w, d => pickQ w d
  | s :: L, w, d => if d < s.1 then pickQ s.2 d else onQ L w (d - s.1)
def wdN (L : List (Int × List Fq)) (w : List Fq) (m : Nat) : List Fq := (((L.map Prod.snd) ++ [w])[m]?).getD []
theorem pick_at {ws : List Fq} (h : 1 ≤ ws.length) (d : Int) : ∃ n : Nat, d.fmod ws.length = (n : Int) ∧ n < ws.length ∧ ws[n]? = some (pickQ ws d) := by
  have h0 := Int.fmod_nonneg_of_pos d (b := (ws.length : Int)) (by omega)
  have h1 := Int.fmod_lt_of_pos d (b := (ws.length : Int)) (by omega)
  refine ⟨(d.fmod ws.length).toNat, by omega, by omega, ?_⟩
  unfold pickQ
  rw [List.getElem?_eq_getElem (by omega)]
  rfl
theorem ix_pick {f : Fq → PV} {ws : List Fq} {x : PV} {a b : M PV} {en : En} {p : Pool} {d : Int} (h : 1 ≤ ws.length) (ha : a en p = .ok x p) (hx : getQ p x = some (ws.map f)) (hb : b en p = .ok (.int d) p) : mBin pIx a (mBin pMod b (mCall cLen (mCons a mNil))) en p = .ok (f (pickQ ws d)) p := by
  obtain ⟨n, e, hn, hat⟩ := pick_at h d
  have l : mCall cLen (mCons a mNil) en p = .ok (.int (ws.length : Nat)) p := by
    have e := call_ok (f := cLen) (one_ok ha) (getL_len hx)
    rw [List.length_map] at e
    exact e
  have m : mBin pMod b (mCall cLen (mCons a mNil)) en p = .ok (.int (n : Int)) p := by
    rw [← e]
    exact mod_ok hb l (okMod_ne (by omega))
  exact at_ok (i := n) ha m hx (by rw [List.getElem?_map, hat]; rfl)
theorem begN_mono {L : List (Int × List Fq)} (hd : ∀ s ∈ L, 1 ≤ s.1) : ∀ k, k < L.length → begN L k + 1 ≤ begN L (k + 1) := fun k hk => by
  show _ ≤ begN L k + ((L[k]?).getD (0, [])).1
  rw [List.getElem?_eq_getElem hk]
  have := hd _ (List.getElem_mem hk)
  show _ ≤ begN L k + (L[k]).1
  omega
theorem begN_le {L : List (Int × List Fq)} (hd : ∀ s ∈ L, 1 ≤ s.1) {k m : Nat} (h : k ≤ m) (hm : m ≤ L.length) : begN L k ≤ begN L m := by
  induction m with
  | zero =>
    have : k = 0 := by omega
    subst this
    exact Int.le_refl _
  | succ m ih =>
    by_cases e : k = m + 1
    · subst e
      exact Int.le_refl _
    · have h1 := ih (by omega) (by omega)
      have h2 := begN_mono hd m (by omega)
      omega
theorem on_drop {L : List (Int × List Fq)} (w : List Fq) {d : Int} : ∀ k, k ≤ L.length → (∀ j, j < k → begN L (j + 1) ≤ d) → onQ L w d = onQ (L.drop k) w (d - begN L k)
  | 0, _, _ => by
    show _ = onQ L w (d - 0)
    rw [Int.sub_zero]
  | k + 1, hk, h => by
    rw [on_drop w k (by omega) fun j hj => h j (by omega)]
    have hk2 : k < L.length := by omega
    rw [List.drop_eq_getElem_cons hk2]
    have e : begN L (k + 1) = begN L k + (L[k]).1 := by
      show begN L k + ((L[k]?).getD (0, [])).1 = _
      rw [List.getElem?_eq_getElem hk2]
      rfl
    have h1 := h k (Nat.lt_succ_self _)
    show (if d - begN L k < (L[k]).1 then _ else onQ (L.drop (k + 1)) w (d - begN L k - (L[k]).1)) = _
    rw [if_neg (by omega), e]
    congr 1
    omega
theorem on_at {L : List (Int × List Fq)} (w : List Fq) (hd : ∀ s ∈ L, 1 ≤ s.1) {d : Int} {m : Nat} (hm : m ≤ L.length) (h1 : begN L m ≤ d) (h2 : ∀ i, m < i → i ≤ L.length → d < begN L i) : onQ L w d = pickQ (wdN L w m) (d - begN L m) := by
  rw [on_drop w m hm fun j hj => Int.le_trans (begN_le hd (by omega) hm) h1]
  by_cases e : m = L.length
  · subst e
    rw [List.drop_length]
    unfold wdN
    rw [List.getElem?_append_right (by rw [List.length_map]; exact Nat.le_refl _), List.length_map, Nat.sub_self]
    rfl
  · have hm2 : m < L.length := by omega
    rw [List.drop_eq_getElem_cons hm2]
    have e1 : begN L (m + 1) = begN L m + (L[m]).1 := by
      show begN L m + ((L[m]?).getD (0, [])).1 = _
      rw [List.getElem?_eq_getElem hm2]
      rfl
    have := h2 (m + 1) (Nat.lt_succ_self _) (by omega)
    show (if d - begN L m < (L[m]).1 then pickQ (L[m]).2 (d - begN L m) else _) = _
    rw [if_pos (by omega)]
    unfold wdN
    rw [List.getElem?_append_left (by rw [List.length_map]; exact hm2), List.getElem?_map, List.getElem?_eq_getElem hm2]
    rfl
theorem wd_len {L : List (Int × List Fq)} {w : List Fq} (g : GS L w) {m : Nat} (hm : m ≤ L.length) : 1 ≤ (wdN L w m).length := by
  unfold wdN
  by_cases e : m < L.length
  · rw [List.getElem?_append_left (by rw [List.length_map]; exact e), List.getElem?_map, List.getElem?_eq_getElem e]
    exact (g.wl _ (List.getElem_mem e)).1
  · have : m = L.length := by omega
    subst this
    rw [List.getElem?_append_right (by rw [List.length_map]; exact Nat.le_refl _), List.length_map, Nat.sub_self]
    exact g.ll.1
theorem wd_at {L : List (Int × List Fq)} {w : List Fq} {m : Nat} (hm : m ≤ L.length) : ((L.map fun s => sW s.2) ++ [sW w])[m]? = some (sW (wdN L w m)) := by
  unfold wdN
  have e0 : (L.map fun s => sW s.2) ++ [sW w] = ((L.map Prod.snd) ++ [w]).map sW := by
    rw [List.map_append, List.map_map]
    rfl
  rw [e0, List.getElem?_map, List.getElem?_eq_getElem (by rw [List.length_append, List.length_map]; show m < L.length + 1; omega)]
  rfl
theorem itEA_getf {m : M PV} {xs : List PV} {en : En} {p p1 : Pool} (h : m en p = .ok (.lst xs) p1) : itEA (mCons m mNil) en p = .ok ⟨enumZ 0 xs, noCk⟩ p1 := R.itEA_lst h
theorem stretch_at_ok (L : List (Int × List Fq)) (w : List Fq) {d : Int} (h0 : 0 ≤ d) (p : Pool) : ∃ m : Nat, m_stretch_at [crs L w, .int d] p = .ok (.int m) p ∧ m ≤ L.length ∧ begN L m ≤ d ∧ ∀ i, m < i → i ≤ L.length → d < begN L i := by
  have key : Ends (b_stretch_at ⟨p.length, [some (crs L w), some (.int d), none, none, none]⟩ p) (fun c => ∃ m : Nat, c = .ret (.int m) p ∧ m ≤ L.length ∧ begN L m ≤ d ∧ ∀ i, m < i → i ≤ L.length → d < begN L i) := by
    unfold b_stretch_at
    refine go_seq_set c_ok ?_
    refine go_seq_for (p1 := p) (z := ⟨enumZ 0 ((begs L L.length).map .int), noCk⟩) (fun k en q => q = p ∧ ∃ (m : Nat) (y3 y4 : Option PV), en = ⟨p.length, [some (crs L w), some (.int d), some (.int m), y3, y4]⟩ ∧ m ≤ L.length ∧ begN L m ≤ d ∧ ∀ i, m < i → i < k → d < begN L i)
      (itEA_getf (getF_ok (x := crs L w) (var_ok rfl) rfl)) ⟨rfl, 0, none, none, rfl, Nat.zero_le _, h0, fun i h1 h2 => absurd h2 (Nat.not_lt_zero _)⟩ (fun _ _ _ _ => rfl) (fun k hk en q hI => ?_) (fun en q hI => ?_)
    · obtain ⟨rfl, m, y3, y4, rfl, hm, h1, h2⟩ := hI
      obtain ⟨hk2, ez⟩ := enumZ_at (show k < (enumZ 0 ((begs L L.length).map .int)).length from hk)
      have hk3 : k < L.length + 1 := by
        unfold begs at hk2
        rw [List.length_map, List.length_map, List.length_range] at hk2
        exact hk2
      have eb : ((begs L L.length).map PV.int)[k] = .int (begN L k) := by
        rw [List.getElem_map]
        unfold begs
        rw [List.getElem_map, List.getElem_range]
      have ez : (⟨enumZ 0 ((begs L L.length).map .int), noCk⟩ : It0).xs[k] = .tup [.int k, .int (begN L k)] := by
        rw [← eb]
        exact ez
      rw [ez]
      refine ⟨[(3, .int k), (4, .int (begN L k))], rfl, ?_⟩
      show Ends (sIf _ _ _ ⟨q.length, [some (crs L w), some (.int d), some (.int m), some (.int k), some (.int (begN L k))]⟩ q) _
      refine go_if (v := decide (begN L k ≤ d)) (b_ok (bin_ok (x := .int (begN L k)) (y := .int d) (var_ok rfl) (var_ok rfl) rfl)) (fun h => ?_) (fun h => ?_)
      · have h := of_decide_eq_true h
        exact go_set (var_ok rfl) ⟨rfl, k, _, _, rfl, by omega, h, fun i a b => absurd b (by omega)⟩
      · have h := of_decide_eq_false h
        refine go_nop ⟨rfl, m, _, _, rfl, hm, h1, fun i a b => ?_⟩
        by_cases e : i = k
        · subst e
          omega
        · exact h2 i a (by omega)
    · obtain ⟨rfl, m, y3, y4, rfl, hm, h1, h2⟩ := hI
      have e : (⟨enumZ 0 ((begs L L.length).map .int), noCk⟩ : It0).xs.length = L.length + 1 := by
        show (enumZ 0 ((begs L L.length).map .int)).length = _
        rw [enumZ_len]
        unfold begs
        rw [List.length_map, List.length_map, List.length_range]
      rw [e] at h2
      exact go_ret (var_ok rfl) ⟨m, rfl, hm, h1, fun i a b => h2 i a (by omega)⟩
  obtain ⟨m, e, h⟩ := key.h
  exact ⟨m, fnM_end (q := p) rfl rfl ⟨[], by rw [List.append_nil]; exact e⟩, h⟩
theorem share_of_ok {L : List (Int × List Fq)} {w : List Fq} (g : GS L w) {d : Int} (h0 : 0 ≤ d) (p : Pool) : m_share_of [crs L w, .int d] p = .ok (sh (onQ L w d)) p := by
  obtain ⟨m, e1, hm, h1, h2⟩ := stretch_at_ok L w h0 p
  rw [on_at w g.day hm h1 h2]
  refine fnM_end (q := p) rfl (bel_sh 0 _) ?_
  show Ends (b_share_of ⟨p.length, [some (crs L w), some (.int d), none, none]⟩ p) _
  unfold b_share_of
  refine go_seq_set (fn0_ok (two_ok (var_ok rfl) (var_ok rfl)) e1) ?_
  refine go_seq_set (at_ok (i := m) (x := .lst ((L.map fun s => sW s.2) ++ [sW w])) (getF_ok (x := crs L w) (var_ok rfl) rfl) (var_ok rfl) rfl (wd_at hm)) ?_
  have hb : ((begs L L.length).map PV.int)[m]? = some (.int (begN L m)) := by
    unfold begs
    rw [List.getElem?_map, List.getElem?_map, List.getElem?_range (by omega)]
    rfl
  exact go_ret (ix_pick (f := sh) (x := sW (wdN L w m)) (wd_len g hm) (var_ok rfl) rfl (sub_ok (var_ok rfl) (at_ok (i := m) (x := .lst ((begs L L.length).map .int)) (getF_ok (x := crs L w) (var_ok rfl) rfl) (var_ok rfl) rfl hb))) ⟨[], by rw [List.append_nil]⟩
def toldE (f : Fq → PV) (s : Int × List Fq) : PV := .tup [.int s.1, .lst (s.2.map f)]
def toldP (f : Fq → PV) (L : List (Int × List Fq)) (w : List Fq) : List PV := L.map (toldE f) ++ [.tup [.non, .lst (w.map f)]]
theorem told_last (f : Fq → PV) (L : List (Int × List Fq)) (w : List Fq) (h : L.length < (toldP f L w).length) : (toldP f L w)[L.length] = .tup [.non, .lst (w.map f)] := by
  refine Option.some.inj ((List.getElem?_eq_getElem h).symm.trans ?_)
  unfold toldP
  rw [List.getElem?_append_right (by rw [List.length_map]; exact Nat.le_refl _), List.length_map, Nat.sub_self]
  rfl
theorem told_at (f : Fq → PV) (L : List (Int × List Fq)) (w : List Fq) {k : Nat} (hk : k < L.length) (h : k < (toldP f L w).length) : (toldP f L w)[k] = .tup [.int (L[k]).1, .lst ((L[k]).2.map f)] := by
  refine Option.some.inj ((List.getElem?_eq_getElem h).symm.trans ?_)
  unfold toldP
  rw [List.getElem?_append_left (by rw [List.length_map]; exact hk), List.getElem?_map, List.getElem?_eq_getElem hk]
  rfl
theorem law_on_ok {f : Fq → PV} (hf : ∀ q, bel 0 (f q) = true) {L : List (Int × List Fq)} {w : List Fq} (g : GS L w) {d : Int} (p : Pool) : m_law_on [.lst (toldP f L w), .int d] p = .ok (f (onQ L w d)) p := by
  refine fnM_end (q := p) rfl (hf _) ?_
  show Ends (b_law_on ⟨p.length, [some (.lst (toldP f L w)), some (.int d), none, none]⟩ p) _
  unfold b_law_on
  refine go_seq_for (p1 := p) (z := ⟨toldP f L w, noCk⟩) (fun k en q => q = p ∧ k ≤ L.length ∧ onQ L w d = onQ (L.drop k) w (d - begN L k) ∧ ∃ y2 y3, en = ⟨p.length, [some (.lst (toldP f L w)), some (.int (d - begN L k)), y2, y3]⟩)
    (itS_lst (var_ok rfl)) ⟨rfl, Nat.zero_le _, by show _ = onQ L w (d - 0); rw [Int.sub_zero], none, none, by show _ = En.mk p.length [_, some (.int (d - 0)), none, none]; rw [Int.sub_zero]⟩ (fun _ _ _ _ => rfl) (fun k hk en q hI => ?_) (fun en q hI => ?_)
  · obtain ⟨rfl, hkl, ho, y2, y3, rfl⟩ := hI
    rw [ho]
    by_cases e : k = L.length
    · subst e
      have ez : (⟨toldP f L w, noCk⟩ : It0).xs[L.length] = .tup [.non, .lst (w.map f)] := by
        exact told_last f L w hk
      rw [ez, List.drop_length]
      refine ⟨[(2, .non), (3, .lst (w.map f))], rfl, ?_⟩
      show Ends (sSeq _ _ ⟨q.length, [some (.lst (toldP f L w)), some (.int (d - begN L L.length)), some .non, some (.lst (w.map f))]⟩ q) _
      refine go_seq_if_t (or_t (b_ok (bin_ok (x := .non) (y := .non) (var_ok rfl) c_ok rfl))) ?_
      exact go_seq_ret (ix_pick (f := f) (x := .lst (w.map f)) g.ll.1 (var_ok rfl) rfl (var_ok rfl)) ⟨⟨[], by rw [List.append_nil]; rfl⟩⟩
    · have hk2 : k < L.length := by omega
      have ez : (⟨toldP f L w, noCk⟩ : It0).xs[k] = .tup [.int (L[k]).1, .lst ((L[k]).2.map f)] := by
        exact told_at f L w hk2 hk
      rw [ez, List.drop_eq_getElem_cons hk2]
      refine ⟨[(2, .int (L[k]).1), (3, .lst ((L[k]).2.map f))], rfl, ?_⟩
      show Ends (sSeq _ _ ⟨q.length, [some (.lst (toldP f L w)), some (.int (d - begN L k)), some (.int (L[k]).1), some (.lst ((L[k]).2.map f))]⟩ q) _
      have e1 : begN L (k + 1) = begN L k + (L[k]).1 := by
        show begN L k + ((L[k]?).getD (0, [])).1 = _
        rw [List.getElem?_eq_getElem hk2]
        rfl
      refine go_seq_if (v := decide (d - begN L k < (L[k]).1)) ((or_f (b_ok (bin_ok (x := .int (L[k]).1) (y := .non) (var_ok rfl) c_ok rfl))).trans (b_ok (lt_ok (var_ok rfl) (var_ok rfl)))) (fun h => ?_) (fun h => ?_)
      · have h := of_decide_eq_true h
        have eo : onQ (L[k] :: L.drop (k + 1)) w (d - begN L k) = pickQ (L[k]).2 (d - begN L k) := if_pos h
        rw [eo]
        exact go_seq_ret (ix_pick (f := f) (x := .lst ((L[k]).2.map f)) (g.wl _ (List.getElem_mem hk2)).1 (var_ok rfl) rfl (var_ok rfl)) ⟨⟨[], by rw [List.append_nil]; rfl⟩⟩
      · have h := of_decide_eq_false h
        refine go_seq_nop (go_set (sub_ok (var_ok rfl) (var_ok rfl)) ⟨rfl, by omega, ?_, some (.int (L[k]).1), some (.lst ((L[k]).2.map f)), ?_⟩)
        · have eo : onQ (L[k] :: L.drop (k + 1)) w (d - begN L k) = onQ (L.drop (k + 1)) w (d - begN L k - (L[k]).1) := if_neg h
          rw [eo, e1]
          congr 1
          omega
        · have ee : d - begN L (k + 1) = d - begN L k - (L[k]).1 := by omega
          rw [ee]
          rfl
  · obtain ⟨rfl, hkl, _⟩ := hI
    have e : (⟨toldP f L w, noCk⟩ : It0).xs.length = L.length + 1 := by
      show (toldP f L w).length = _
      unfold toldP
      rw [List.length_append, List.length_map]
      rfl
    omega
theorem pickQ_eq (w : List Fq) (d : Int) : pickQ w d = (w[(d % (w.length : Int)).toNat]?).getD (0, 1) := by
  unfold pickQ
  rw [Int.fmod_eq_emod_of_nonneg _ (by omega)]
theorem pick_len (w : List Fq) (d : Int) : pickQ w (d + (w.length : Int)) = pickQ w d := by
  rw [pickQ_eq, pickQ_eq, Int.add_emod_right]
def rot (w : List Fq) (m : Nat) : List Fq := w.drop m ++ w.take m
theorem rot_len (w : List Fq) {m : Nat} (h : m ≤ w.length) : (rot w m).length = w.length := by
  unfold rot
  rw [List.length_append, List.length_drop, List.length_take]
  omega
theorem rot_pick {w : List Fq} (h1 : 1 ≤ w.length) {m : Nat} (h : m ≤ w.length) (d : Int) : pickQ (rot w m) d = pickQ w (d + (m : Int)) := by
  rw [pickQ_eq, pickQ_eq, rot_len w h]
  have e0 : (d + (m : Int)) % (w.length : Int) = (d % (w.length : Int) + m) % (w.length : Int) := (Int.emod_add_emod _ _ _).symm
  have n0 := Int.emod_nonneg d (b := (w.length : Int)) (by omega)
  have n1 := Int.emod_lt_of_pos d (b := (w.length : Int)) (by omega)
  generalize hi : d % (w.length : Int) = i at *
  rw [e0]
  unfold rot
  by_cases c : i + m < w.length
  · rw [Int.emod_eq_of_lt (by omega) c, List.getElem?_append_left (by rw [List.length_drop]; omega), List.getElem?_drop]
    congr 2
    omega
  · have e1 : (i + (m : Int)) % (w.length : Int) = i + m - w.length := by
      have := Int.add_emod_right (i + m - (w.length : Int)) (w.length : Int)
      rw [show i + (m : Int) - (w.length : Int) + (w.length : Int) = i + m by omega] at this
      rw [this]
      exact Int.emod_eq_of_lt (by omega) (by omega)
    rw [e1, List.getElem?_append_right (by rw [List.length_drop]; omega), List.length_drop, List.getElem?_take_of_lt (by omega)]
    congr 2
    omega
def Per (w : List Fq) (m : Nat) : Prop := ∀ d : Int, pickQ w (d + (m : Int)) = pickQ w d
theorem Per.mul {w : List Fq} {r : Nat} (h : Per w r) (d : Int) : ∀ k : Nat, pickQ w (d + (r : Int) * (k : Int)) = pickQ w d
  | 0 => by
    show pickQ w (d + (r : Int) * 0) = _
    rw [Int.mul_zero, Int.add_zero]
  | k + 1 => by
    have e : d + (r : Int) * ((k + 1 : Nat) : Int) = (d + (r : Int) * (k : Int)) + r := by
      rw [Int.natCast_succ, Int.mul_add, Int.mul_one]
      omega
    rw [e, h, h.mul d k]
theorem Per.imul {w : List Fq} {r : Nat} (h : Per w r) (d k : Int) : pickQ w (d + (r : Int) * k) = pickQ w d := by
  rcases Int.le_total 0 k with c | c
  · obtain ⟨n, rfl⟩ := Int.eq_ofNat_of_zero_le c
    exact h.mul d n
  · obtain ⟨n, hn⟩ := Int.eq_ofNat_of_zero_le (show 0 ≤ -k by omega)
    have e : k = -(n : Int) := by omega
    subst e
    have := h.mul (d + (r : Int) * -(n : Int)) n
    rw [← this]
    congr 1
    rw [Int.mul_neg]
    omega
theorem Per.mod {w : List Fq} {r : Nat} (h : Per w r) (d : Int) : pickQ w (d % (r : Int)) = pickQ w d := by
  have := h.imul (d % (r : Int)) (d / (r : Int))
  rw [Int.emod_add_mul_ediv] at this
  exact this.symm
structure IsR (w : List Fq) (r : Nat) : Prop where
  pos : 1 ≤ r
  le : r ≤ w.length
  per : Per w r
  least : ∀ m, 1 ≤ m → m < r → ¬ Per w m
theorem fw {u v : Int → Fq} {p q : Nat} (hp : 1 ≤ p) (hq : 1 ≤ q) (hu : ∀ d, u (d + (p : Int)) = u d) (hv : ∀ d, v (d + (q : Int)) = v d) {s : Int} (h : ∀ d, s ≤ d → d < s + p + q → u d = v d) : ∀ (n : Nat) (d : Int), s - (n : Int) ≤ d → d < s + p + q → u d = v d
  | 0, d, h1, h2 => h d (by omega) h2
  | n + 1, d, h1, h2 => by
    by_cases c : s - (n : Int) ≤ d
    · exact fw hp hq hu hv h n d c h2
    · have ih := fw hp hq hu hv h n
      have a1 := ih (d + p) (by omega) (by omega)
      have a2 := ih (d + p + q) (by omega) (by omega)
      have a3 := ih (d + q) (by omega) (by omega)
      have b1 := hu (d + q)
      rw [show d + (q : Int) + p = d + p + q by omega] at b1
      rw [← hu d, a1, ← hv (d + p), ← a2, b1, a3, hv]
structure IsEnd (L : List (Int × List Fq)) (w : List Fq) (b : Int) : Prop where
  nn : 0 ≤ b
  le : b ≤ begN L L.length
  same : ∀ d, b ≤ d → onQ L w d = pickQ w (d - begN L L.length)
  first : b = 0 ∨ onQ L w (b - 1) ≠ pickQ w (b - 1 - begN L L.length)
theorem IsEnd.one {L : List (Int × List Fq)} {w : List Fq} {a b : Int} (ha : IsEnd L w a) (hb : IsEnd L w b) : a = b := by
  rcases Int.lt_trichotomy a b with c | c | c
  · rcases hb.first with e | e
    · have := ha.nn
      omega
    · exact absurd (ha.same (b - 1) (by omega)) e
  · exact c
  · rcases ha.first with e | e
    · have := hb.nn
      omega
    · exact absurd (hb.same (a - 1) (by omega)) e
theorem pick_mod (w : List Fq) (d : Int) : pickQ w (d % (w.length : Int)) = pickQ w d := by
  rw [pickQ_eq, pickQ_eq, Int.emod_emod]
def rotI (w : List Fq) (h : Int) : List Fq := rot w (h % (w.length : Int)).toNat
theorem rotI_m {w : List Fq} (h1 : 1 ≤ w.length) (h : Int) : (h % (w.length : Int)).toNat ≤ w.length ∧ (((h % (w.length : Int)).toNat : Nat) : Int) = h % (w.length : Int) := by
  have a := Int.emod_nonneg h (b := (w.length : Int)) (by omega)
  have b := Int.emod_lt_of_pos h (b := (w.length : Int)) (by omega)
  omega
theorem rotI_len {w : List Fq} (h1 : 1 ≤ w.length) (h : Int) : (rotI w h).length = w.length := rot_len w (rotI_m h1 h).1
theorem rotI_pick {w : List Fq} (h1 : 1 ≤ w.length) (h d : Int) : pickQ (rotI w h) d = pickQ w (d + h) := by
  unfold rotI
  rw [rot_pick h1 (rotI_m h1 h).1, (rotI_m h1 h).2, ← pick_mod w (d + h % (w.length : Int)), Int.add_comm d, Int.emod_add_emod, pick_mod, Int.add_comm]
theorem rotI_mem {w : List Fq} {h : Int} {q : Fq} (hq : q ∈ rotI w h) : q ∈ w := by
  unfold rotI rot at hq
  rcases List.mem_append.mp hq with h | h
  · exact List.mem_of_mem_drop h
  · exact List.mem_of_mem_take h
def cutL : List (Int × List Fq) → List Fq → Int → List (Int × List Fq)
  | [], w, h => if 0 < h then [(h, w)] else []
  | s :: L, w, h => (if 0 < h ∧ h < s.1 then [(h, s.2), (s.1 - h, rotI s.2 h)] else [s]) ++ cutL L w (h - s.1)
def cutW : List (Int × List Fq) → List Fq → Int → List Fq
  | [], w, h => if 0 < h then rotI w h else w
  | s :: L, w, h => cutW L w (h - s.1)
structure CC (P : Fq → Prop) (W : Nat) (L : List (Int × List Fq)) (w : List Fq) : Prop where
  day : ∀ s ∈ L, 1 ≤ s.1
  wl : ∀ s ∈ L, 1 ≤ s.2.length ∧ s.2.length ≤ W
  ll : 1 ≤ w.length ∧ w.length ≤ W
  lq : ∀ s ∈ L, ∀ q ∈ s.2, P q
  wq : ∀ q ∈ w, P q
def tot : List (Int × List Fq) → Int
  | [] => 0
  | s :: L => s.1 + tot L
theorem tot_nn : ∀ {L : List (Int × List Fq)}, (∀ s ∈ L, 1 ≤ s.1) → 0 ≤ tot L
  | [], _ => Int.le_refl 0
  | s :: L, h => by
    have := h s List.mem_cons_self
    have := tot_nn (L := L) fun t ht => h t (List.mem_cons_of_mem _ ht)
    show 0 ≤ s.1 + tot L
    omega
theorem CC.tl {P : Fq → Prop} {W : Nat} {s : Int × List Fq} {L : List (Int × List Fq)} {w : List Fq} (c : CC P W (s :: L) w) : CC P W L w :=
  ⟨fun t h => c.day t (List.mem_cons_of_mem _ h), fun t h => c.wl t (List.mem_cons_of_mem _ h), c.ll, fun t h => c.lq t (List.mem_cons_of_mem _ h), c.wq⟩
theorem cut_neg : ∀ {L : List (Int × List Fq)} {w : List Fq} {h : Int}, (∀ s ∈ L, 1 ≤ s.1) → h ≤ 0 → cutL L w h = L ∧ cutW L w h = w
  | [], w, h, _, h0 => by
    unfold cutL cutW
    rw [if_neg (by omega), if_neg (by omega)]
    exact ⟨rfl, rfl⟩
  | s :: L, w, h, hd, h0 => by
    have := hd s List.mem_cons_self
    obtain ⟨a, b⟩ := cut_neg (L := L) (w := w) (h := h - s.1) (fun t ht => hd t (List.mem_cons_of_mem _ ht)) (by omega)
    unfold cutL cutW
    rw [if_neg (by omega), a, b]
    exact ⟨rfl, rfl⟩
theorem cut_len {P : Fq → Prop} {W : Nat} : ∀ {L : List (Int × List Fq)} {w : List Fq} {h : Int}, CC P W L w → (cutL L w h).length ≤ L.length + 1
  | [], w, h, _ => by
    unfold cutL
    split
    · exact Nat.le_refl _
    · exact Nat.zero_le _
  | s :: L, w, h, c => by
    have ih := cut_len (L := L) (w := w) (h := h - s.1) c.tl
    unfold cutL
    split
    · rw [(cut_neg (w := w) c.tl.day (by omega)).1]
      exact Nat.le_refl _
    · show (s :: cutL L w (h - s.1)).length ≤ _
      rw [List.length_cons, List.length_cons]
      omega
theorem cut_cc {P : Fq → Prop} {W : Nat} : ∀ {L : List (Int × List Fq)} {w : List Fq} {h : Int}, CC P W L w → CC P W (cutL L w h) (cutW L w h)
  | [], w, h, c => by
    unfold cutL cutW
    split
    · rename_i h0
      refine ⟨fun s hs => ?_, fun s hs => ?_, by rw [rotI_len c.ll.1]; exact c.ll, fun s hs => ?_, fun q hq => c.wq q (rotI_mem hq)⟩
      · rw [List.mem_singleton.mp hs]
        exact h0
      · rw [List.mem_singleton.mp hs]
        exact c.ll
      · rw [List.mem_singleton.mp hs]
        exact c.wq
    · exact c
  | s :: L, w, h, c => by
    have ih := cut_cc (L := L) (w := w) (h := h - s.1) c.tl
    have hs := c.wl s List.mem_cons_self
    have key : ∀ t ∈ (if 0 < h ∧ h < s.1 then [(h, s.2), (s.1 - h, rotI s.2 h)] else [s]), 1 ≤ t.1 ∧ (1 ≤ t.2.length ∧ t.2.length ≤ W) ∧ ∀ q ∈ t.2, P q := fun t ht => by
      split at ht
      · rename_i hh
        rcases List.mem_cons.mp ht with rfl | ht
        · exact ⟨hh.1, hs, c.lq s List.mem_cons_self⟩
        · rw [List.mem_singleton.mp ht]
          refine ⟨?_, ?_, fun q hq => c.lq s List.mem_cons_self q (rotI_mem hq)⟩
          · show 1 ≤ s.1 - h
            omega
          · show 1 ≤ (rotI s.2 h).length ∧ _
            rw [rotI_len hs.1]
            exact hs
      · rw [List.mem_singleton.mp ht]
        exact ⟨c.day s List.mem_cons_self, hs, c.lq s List.mem_cons_self⟩
    unfold cutL cutW
    refine ⟨fun t ht => ?_, fun t ht => ?_, ih.ll, fun t ht => ?_, ih.wq⟩
    · rcases List.mem_append.mp ht with h | h
      · exact (key t h).1
      · exact ih.day t h
    · rcases List.mem_append.mp ht with h | h
      · exact (key t h).2.1
      · exact ih.wl t h
    · rcases List.mem_append.mp ht with h | h
      · exact (key t h).2.2
      · exact ih.lq t h
theorem cut_on {P : Fq → Prop} {W : Nat} : ∀ {L : List (Int × List Fq)} {w : List Fq} {h d : Int}, CC P W L w → 0 ≤ d → onQ (cutL L w h) (cutW L w h) d = onQ L w d
  | [], w, h, d, c, hd => by
    unfold cutL cutW
    by_cases h0 : 0 < h
    · rw [if_pos h0, if_pos h0]
      show (if d < h then pickQ w d else pickQ (rotI w h) (d - h)) = pickQ w d
      split
      · rfl
      · rw [rotI_pick c.ll.1, Int.sub_add_cancel]
    · rw [if_neg h0, if_neg h0]
  | s :: L, w, h, d, c, hd => by
    have ih : s.1 ≤ d → onQ (cutL L w (h - s.1)) (cutW L w (h - s.1)) (d - s.1) = onQ L w (d - s.1) := fun a => cut_on c.tl (by omega)
    have hs := c.wl s List.mem_cons_self
    unfold cutL cutW
    split
    · rename_i hh
      show (if d < h then pickQ s.2 d else if d - h < s.1 - h then pickQ (rotI s.2 h) (d - h) else onQ (cutL L w (h - s.1)) (cutW L w (h - s.1)) (d - h - (s.1 - h))) = if d < s.1 then pickQ s.2 d else onQ L w (d - s.1)
      by_cases c1 : d < h
      · rw [if_pos c1, if_pos (by omega)]
      · rw [if_neg c1]
        by_cases c2 : d < s.1
        · rw [if_pos (by omega), if_pos c2, rotI_pick hs.1, Int.sub_add_cancel]
        · rw [if_neg (by omega), if_neg c2, show d - h - (s.1 - h) = d - s.1 by omega]
          exact ih (by omega)
    · show (if d < s.1 then pickQ s.2 d else onQ (cutL L w (h - s.1)) (cutW L w (h - s.1)) (d - s.1)) = if d < s.1 then pickQ s.2 d else onQ L w (d - s.1)
      split
      · rfl
      · exact ih (by omega)
theorem cut_tot : ∀ {L : List (Int × List Fq)} {w : List Fq} {h B : Int}, 0 ≤ B → tot L ≤ B → h ≤ B → (∀ s ∈ L, 1 ≤ s.1) → tot (cutL L w h) ≤ B
  | [], w, h, B, b0, _, hB, _ => by
    unfold cutL
    split
    · show h + 0 ≤ B
      omega
    · exact b0
  | s :: L, w, h, B, b0, hL, hB, hd => by
    have hL : s.1 + tot L ≤ B := hL
    have hd' : ∀ t ∈ L, 1 ≤ t.1 := fun t ht => hd t (List.mem_cons_of_mem _ ht)
    have t0 := tot_nn hd'
    have ih := cut_tot (L := L) (w := w) (h := h - s.1) (B := B - s.1) (by omega) (by omega) (by omega) hd'
    unfold cutL
    split
    · show h + (s.1 - h + tot (cutL L w (h - s.1))) ≤ B
      omega
    · show s.1 + tot (cutL L w (h - s.1)) ≤ B
      omega
theorem beg_tot : ∀ {L : List (Int × List Fq)}, (∀ s ∈ L, 1 ≤ s.1) → ∀ m, m ≤ L.length → begN L m ≤ tot L
  | [], _, m, hm => by
    have : m = 0 := Nat.le_zero.mp hm
    subst this
    exact Int.le_refl 0
  | s :: L, hd, m, hm => by
    have hd' : ∀ t ∈ L, 1 ≤ t.1 := fun t ht => hd t (List.mem_cons_of_mem _ ht)
    have e : ∀ k, begN (s :: L) (k + 1) = s.1 + begN L k := fun k => by
      induction k with
      | zero =>
        show (0 : Int) + s.1 = s.1 + 0
        omega
      | succ k ih =>
        show begN (s :: L) (k + 1) + ((L[k]?).getD (0, [])).1 = s.1 + (begN L k + ((L[k]?).getD (0, [])).1)
        rw [ih]
        omega
    cases m with
    | zero =>
      have := hd s List.mem_cons_self
      have := tot_nn hd'
      show (0 : Int) ≤ s.1 + tot L
      omega
    | succ k =>
      have := beg_tot hd' k (by rw [List.length_cons] at hm; omega)
      rw [e]
      show _ ≤ s.1 + tot L
      omega
def Bdy : List (Int × List Fq) → Int → Prop
  | [], h => h = 0
  | s :: L, h => h = 0 ∨ Bdy L (h - s.1)
theorem Bdy.nn : ∀ {L : List (Int × List Fq)} {h : Int}, (∀ s ∈ L, 1 ≤ s.1) → Bdy L h → 0 ≤ h
  | [], h, _, b => by
    have b : h = 0 := b
    omega
  | s :: L, h, hd, b => by
    have := hd s List.mem_cons_self
    rcases b with b | b
    · omega
    · have := Bdy.nn (fun t ht => hd t (List.mem_cons_of_mem _ ht)) b
      omega
theorem cut_bd : ∀ {L : List (Int × List Fq)} {w : List Fq} {h : Int}, 0 ≤ h → Bdy (cutL L w h) h
  | [], w, h, h0 => by
    unfold cutL
    split
    · exact .inr (Int.sub_self h)
    · show h = 0
      omega
  | s :: L, w, h, h0 => by
    unfold cutL
    split
    · exact .inr (.inl (Int.sub_self h))
    · rename_i c
      show h = 0 ∨ Bdy (cutL L w (h - s.1)) (h - s.1)
      by_cases e : h = 0
      · exact .inl e
      · exact .inr (cut_bd (by omega))
theorem cut_keep : ∀ {L : List (Int × List Fq)} {w : List Fq} {h k : Int}, Bdy L k → Bdy (cutL L w h) k
  | [], w, h, k, b => by
    have b : k = 0 := b
    unfold cutL
    split
    · exact .inl b
    · exact b
  | s :: L, w, h, k, b => by
    unfold cutL
    rcases b with b | b
    · split
      · exact .inl b
      · exact .inl b
    · have ih := cut_keep (L := L) (w := w) (h := h - s.1) b
      split
      · refine .inr (.inr ?_)
        show Bdy (cutL L w (h - s.1)) (k - h - (s.1 - h))
        rw [show k - h - (s.1 - h) = k - s.1 by omega]
        exact ih
      · exact .inr ih
def hdw (f : Fq → Fq) : List Fq → List Fq
  | [] => []
  | q :: r => f q :: r
def chL (f : Fq → Fq) : List (Int × List Fq) → Int → List (Int × List Fq)
  | [], _ => []
  | s :: L, h => (s.1, if h = 0 then hdw f s.2 else s.2) :: chL f L (h - s.1)
def chW (f : Fq → Fq) : List (Int × List Fq) → List Fq → Int → List Fq
  | [], w, h => if h = 0 then hdw f w else w
  | s :: L, w, h => chW f L w (h - s.1)
theorem hdw_len (f : Fq → Fq) (w : List Fq) : (hdw f w).length = w.length := by cases w <;> rfl
theorem hdw_pick {f : Fq → Fq} {w : List Fq} (h : 1 ≤ w.length) : pickQ (hdw f w) 0 = f (pickQ w 0) := by
  cases w with
  | nil => exact absurd h (by decide)
  | cons q r =>
    rw [pickQ_eq, pickQ_eq]
    simp [hdw]
theorem ch_neg {f : Fq → Fq} : ∀ {L : List (Int × List Fq)} {w : List Fq} {h : Int}, (∀ s ∈ L, 1 ≤ s.1) → h < 0 → chL f L h = L ∧ chW f L w h = w
  | [], w, h, _, h0 => by
    unfold chL chW
    rw [if_neg (by omega)]
    exact ⟨rfl, rfl⟩
  | s :: L, w, h, hd, h0 => by
    have := hd s List.mem_cons_self
    obtain ⟨a, b⟩ := ch_neg (f := f) (L := L) (w := w) (h := h - s.1) (fun t ht => hd t (List.mem_cons_of_mem _ ht)) (by omega)
    unfold chL chW
    rw [if_neg (by omega), a, b]
    exact ⟨rfl, rfl⟩
theorem ch_len {f : Fq → Fq} : ∀ {L : List (Int × List Fq)} {h : Int}, (chL f L h).length = L.length
  | [], _ => rfl
  | s :: L, h => by
    show (chL f L (h - s.1)).length + 1 = L.length + 1
    rw [ch_len]
theorem ch_tot {f : Fq → Fq} : ∀ {L : List (Int × List Fq)} {h : Int}, tot (chL f L h) = tot L
  | [], _ => rfl
  | s :: L, h => by
    show s.1 + tot (chL f L (h - s.1)) = s.1 + tot L
    rw [ch_tot]
theorem hdw_cc {P Q : Fq → Prop} {f : Fq → Fq} (hPQ : ∀ q, P q → Q q) (hf : ∀ q, P q → Q (f q)) {w : List Fq} (h : ∀ q ∈ w, P q) : ∀ q ∈ hdw f w, Q q := by
  cases w with
  | nil => exact fun q hq => nomatch hq
  | cons a r =>
    intro q hq
    rcases List.mem_cons.mp hq with rfl | hq
    · exact hf a (h a List.mem_cons_self)
    · exact hPQ q (h q (List.mem_cons_of_mem _ hq))
theorem ch_cc {P Q : Fq → Prop} {f : Fq → Fq} (hPQ : ∀ q, P q → Q q) (hf : ∀ q, P q → Q (f q)) {W : Nat} : ∀ {L : List (Int × List Fq)} {w : List Fq} {h : Int}, CC P W L w → CC Q W (chL f L h) (chW f L w h)
  | [], w, h, c => by
    unfold chL chW
    refine ⟨fun _ h => (nomatch h), fun _ h => (nomatch h), ?_, fun _ h => (nomatch h), ?_⟩
    · split
      · rw [hdw_len]
        exact c.ll
      · exact c.ll
    · split
      · exact hdw_cc hPQ hf c.wq
      · exact fun q hq => hPQ q (c.wq q hq)
  | s :: L, w, h, c => by
    have ih := ch_cc hPQ hf (L := L) (w := w) (h := h - s.1) c.tl
    have hs := c.wl s List.mem_cons_self
    unfold chL chW
    refine ⟨fun t ht => ?_, fun t ht => ?_, ih.ll, fun t ht => ?_, ih.wq⟩
    · rcases List.mem_cons.mp ht with rfl | ht
      · exact c.day s List.mem_cons_self
      · exact ih.day t ht
    · rcases List.mem_cons.mp ht with rfl | ht
      · show 1 ≤ (if h = 0 then hdw f s.2 else s.2).length ∧ (if h = 0 then hdw f s.2 else s.2).length ≤ W
        split
        · rw [hdw_len]
          exact hs
        · exact hs
      · exact ih.wl t ht
    · rcases List.mem_cons.mp ht with rfl | ht
      · show ∀ q ∈ (if h = 0 then hdw f s.2 else s.2), Q q
        split
        · exact hdw_cc hPQ hf (c.lq s List.mem_cons_self)
        · exact fun q hq => hPQ q (c.lq s List.mem_cons_self q hq)
      · exact ih.lq t ht
theorem ch_on {P : Fq → Prop} {f : Fq → Fq} {W : Nat} : ∀ {L : List (Int × List Fq)} {w : List Fq} {h d : Int}, CC P W L w → Bdy L h → Bdy L (h + 1) → 0 ≤ d → onQ (chL f L h) (chW f L w h) d = if d = h then f (onQ L w d) else onQ L w d
  | [], w, h, d, c, b1, b2, hd => by
    have b1 : h = 0 := b1
    have b2 : h + 1 = 0 := b2
    omega
  | s :: L, w, h, d, c, b1, b2, hd => by
    have h1 := c.day s List.mem_cons_self
    have hs := c.wl s List.mem_cons_self
    have b2 : h + 1 = 0 ∨ Bdy L (h + 1 - s.1) := b2
    have h0 : 0 ≤ h := Bdy.nn c.day b1
    have b2 : Bdy L (h + 1 - s.1) := by
      rcases b2 with b | b
      · omega
      · exact b
    have n2 := Bdy.nn c.tl.day b2
    show (if d < s.1 then pickQ (if h = 0 then hdw f s.2 else s.2) d else onQ (chL f L (h - s.1)) (chW f L w (h - s.1)) (d - s.1)) = if d = h then f (if d < s.1 then pickQ s.2 d else onQ L w (d - s.1)) else if d < s.1 then pickQ s.2 d else onQ L w (d - s.1)
    by_cases e : h = 0
    · have e1 : s.1 = 1 := by omega
      obtain ⟨a, b⟩ := ch_neg (f := f) (L := L) (w := w) (h := h - s.1) c.tl.day (by omega)
      rw [if_pos e, a, b]
      by_cases c1 : d < s.1
      · have : d = 0 := by omega
        subst this
        rw [if_pos c1, if_pos c1, if_pos e.symm, hdw_pick hs.1]
      · rw [if_neg c1, if_neg c1, if_neg (by omega)]
    · have b1 : Bdy L (h - s.1) := by
        rcases b1 with b | b
        · exact absurd b e
        · exact b
      have n1 := Bdy.nn c.tl.day b1
      rw [if_neg e]
      by_cases c1 : d < s.1
      · rw [if_pos c1, if_pos c1, if_neg (by omega)]
      · rw [if_neg c1, if_neg c1, ch_on c.tl b1 (by rw [show h - s.1 + 1 = h + 1 - s.1 by omega]; exact b2) (by omega)]
        by_cases c2 : d = h
        · rw [if_pos c2, if_pos (by omega)]
        · rw [if_neg c2, if_neg (by omega)]
theorem pick_mem {w : List Fq} (h1 : 1 ≤ w.length) (d : Int) : pickQ w d ∈ w := by
  obtain ⟨n, _, _, h⟩ := pick_at h1 d
  exact List.mem_of_getElem? h
theorem on_mem {P : Fq → Prop} {W : Nat} : ∀ {L : List (Int × List Fq)} {w : List Fq} (_ : CC P W L w) (d : Int), P (onQ L w d)
  | [], w, c, d => c.wq _ (pick_mem c.ll.1 d)
  | s :: L, w, c, d => by
    show P (if d < s.1 then pickQ s.2 d else onQ L w (d - s.1))
    split
    · exact c.lq s List.mem_cons_self _ (pick_mem (c.wl s List.mem_cons_self).1 d)
    · exact on_mem c.tl _
theorem getK_app {kvs : List (Int × PV)} {d : Int} {v : PV} (h : getK kvs d = none) : getK (kvs ++ [(d, v)]) d = some v := by
  unfold getK at h ⊢
  rw [List.find?_append]
  cases e : kvs.find? fun q => decide (q.1 = d) with
  | some q =>
    rw [e] at h
    cases h
  | none =>
    simp
theorem getK_app2 {kvs : List (Int × PV)} {d i : Int} {v x : PV} (h : getK (kvs ++ [(d, v)]) i = some x) : getK kvs i = some x ∨ (i = d ∧ x = v) := by
  unfold getK at h ⊢
  rw [List.find?_append] at h
  cases e : kvs.find? fun q => decide (q.1 = i) with
  | some q =>
    rw [e] at h
    exact .inl h
  | none =>
    rw [e] at h
    by_cases c : d = i
    · simp [c] at h
      exact .inr ⟨c.symm, h.symm⟩
    · simp [c] at h
def KnownBy (L : List (Int × List Fq)) (w : List Fq) (kvs : List (Int × PV)) : Prop := ∀ i x, getK kvs i = some x → x = sh (onQ L w i)
theorem thing_ok {L : List (Int × List Fq)} {w : List Fq} (g : GS L w) {d : Int} (h0 : 0 ≤ d) {b k j : Nat} {p : Pool} {B S : PV} {kvs : List (Int × PV)} (ho : p[k]? = some (.obj 2 [.clo 0 (crs L w), B, S, .own j])) (hd : p[j]? = some (.dk kvs)) (hne : k ≠ j)
    (hk : KnownBy L w kvs) (hl : kvs.length < big) : ∃ kvs', m_Days_thing b [.own k, .int d] p = .ok (sh (onQ L w d)) (p.set j (.dk kvs')) ∧ KnownBy L w kvs' ∧ kvs'.length ≤ kvs.length + 1 := by
  have hj : j < p.length := (List.getElem?_eq_some_iff.mp hd).1
  have fld : ∀ {q : Pool}, q[k]? = some (.obj 2 [.clo 0 (crs L w), B, S, .own j]) → mFld 2 3 (mVar 0) ⟨b, [some (.own k), some (.int d)]⟩ q = .ok (.own j) q := fun {q} h => getF_ok (x := .own k) (var_ok rfl) (by
    unfold getF
    dsimp only
    rw [h]
    rfl)
  have get : ∀ {q : Pool} {kv : List (Int × PV)} {x : PV}, q[k]? = some (.obj 2 [.clo 0 (crs L w), B, S, .own j]) → q[j]? = some (.dk kv) → getK kv d = some x → sRet (mKGet (mFld 2 3 (mVar 0)) (mVar 1)) ⟨b, [some (.own k), some (.int d)]⟩ q = .ret x q := fun {q kv x} h1 h2 h3 => by
    refine ret_ok ?_
    unfold mKGet
    rw [fld h1]
    dsimp only [Res.bind]
    rw [var_ok (i := 1) (x := .int d) rfl]
    dsimp only [Res.bind]
    rw [h2]
    dsimp only
    rw [h3]
  have test : mKNotIn (mVar 1) (mFld 2 3 (mVar 0)) ⟨b, [some (.own k), some (.int d)]⟩ p = .ok (getK kvs d).isNone p := by
    unfold mKNotIn
    rw [var_ok (i := 1) (x := .int d) rfl]
    dsimp only [Res.bind]
    rw [fld ho]
    dsimp only [Res.bind]
    rw [hd]
  have fin : ∀ {kv : List (Int × PV)}, b_Days_thing ⟨b, [some (.own k), some (.int d)]⟩ p = .ret (sh (onQ L w d)) (p.set j (.dk kv)) → m_Days_thing b [.own k, .int d] p = .ok (sh (onQ L w d)) (p.set j (.dk kv)) := fun {kv} h => by
    unfold m_Days_thing fnS
    show (match b_Days_thing ⟨b, [some (.own k), some (.int d)]⟩ p with
      | .ret x q => Res.ok x q
      | .next _ q => .ok .non q
      | _ => .stuck) = _
    rw [h]
  cases e : getK kvs d with
  | some x =>
    rw [e] at test
    have hx := hk d x e
    subst hx
    refine ⟨kvs, fin ?_, hk, by omega⟩
    have hs : p.set j (.dk kvs) = p := by
      obtain ⟨h1, h2⟩ := List.getElem?_eq_some_iff.mp hd
      rw [← h2]
      exact List.set_getElem_self h1
    rw [hs]
    unfold b_Days_thing
    exact (seq_nx ((if_f test).trans rfl)).trans (get ho hd e)
  | none =>
    rw [e] at test
    refine ⟨kvs ++ [(d, sh (onQ L w d))], fin ?_, fun i x h => ?_, by rw [List.length_append]; exact Nat.le_refl _⟩
    · have clo : mClo tClos 2 0 (mVar 0) (mVar 1) ⟨b, [some (.own k), some (.int d)]⟩ p = .ok (sh (onQ L w d)) p := by
        unfold mClo
        rw [var_ok (i := 0) (x := .own k) rfl]
        dsimp only
        rw [ho]
        dsimp only
        rw [if_pos rfl]
        show (match tClos 0 with
          | some g => match mVar 1 ⟨b, [some (.own k), some (.int d)]⟩ p with
            | .ok z p2 => match g [crs L w, z] p2 with
              | .ok v p3 => Res.ok v p3
              | _ => .stuck
            | _ => .stuck
          | none => .stuck) = _
        show (match mVar 1 ⟨b, [some (.own k), some (.int d)]⟩ p with
            | .ok z p2 => match m_share_of [crs L w, z] p2 with
              | .ok v p3 => Res.ok v p3
              | _ => .stuck
            | _ => .stuck) = _
        rw [var_ok (i := 1) (x := .int d) rfl]
        dsimp only
        rw [share_of_ok g h0 p]
      have put : sKPut (mFld 2 3 (mVar 0)) (mVar 1) (mClo tClos 2 0 (mVar 0) (mVar 1)) ⟨b, [some (.own k), some (.int d)]⟩ p = .next ⟨b, [some (.own k), some (.int d)]⟩ (p.set j (.dk (kvs ++ [(d, sh (onQ L w d))]))) := by
        unfold sKPut
        rw [clo]
        dsimp only [Res.run]
        rw [fld ho]
        dsimp only [Res.run]
        rw [var_ok (i := 1) (x := .int d) rfl]
        dsimp only [Res.run]
        rw [hd]
        dsimp only
        rw [if_pos ⟨may_bel (bel_sh 0 _), hl, e⟩]
      unfold b_Days_thing
      refine (seq_nx ((if_t test).trans put)).trans (get (kv := kvs ++ [(d, sh (onQ L w d))]) ?_ ?_ (getK_app e))
      · rw [List.getElem?_set_ne hne.symm]
        exact ho
      · exact List.getElem?_set_self hj
    · rcases getK_app2 h with h | ⟨rfl, rfl⟩
      · exact hk i x h
      · rfl
def lensP (L : List (Int × List Fq)) (w : List Fq) : List PV := ((L.map Prod.snd) ++ [w]).map fun x => PV.int (x.length : Nat)
def dayO (L : List (Int × List Fq)) (w : List Fq) (j : Nat) : Cell := .obj 2 [.clo 0 (crs L w), .lst ((begs L L.length).map .int), .lst (lensP L w), .own j]
theorem getF_own {p : Pool} {k c i : Nat} {xs : List PV} {y : PV} (h : p[k]? = some (.obj c xs)) (e : xs[i]? = some y) : getF c i p (.own k) = some y := by
  unfold getF
  dsimp only
  rw [h]
  dsimp only
  rw [if_pos rfl]
  exact e
theorem region_ok (L : List (Int × List Fq)) (w : List Fq) {d : Int} (h0 : 0 ≤ d) {b k j : Nat} {p : Pool} (ho : p[k]? = some (dayO L w j)) : ∃ m : Nat, m_Days_region b [.own k, .int d] p = .ok (.int m) p ∧ m ≤ L.length ∧ begN L m ≤ d ∧ ∀ i, m < i → i ≤ L.length → d < begN L i := by
  have key : Ends (b_Days_region ⟨b, [some (.own k), some (.int d), none, none, none]⟩ p) (fun c => ∃ m : Nat, c = .ret (.int m) p ∧ m ≤ L.length ∧ begN L m ≤ d ∧ ∀ i, m < i → i ≤ L.length → d < begN L i) := by
    unfold b_Days_region
    refine go_seq_set c_ok ?_
    refine go_seq_for (p1 := p) (z := ⟨enumZ 0 ((begs L L.length).map .int), noCk⟩) (fun i en q => q = p ∧ ∃ (m : Nat) (y3 y4 : Option PV), en = ⟨b, [some (.own k), some (.int d), some (.int m), y3, y4]⟩ ∧ m ≤ L.length ∧ begN L m ≤ d ∧ ∀ i', m < i' → i' < i → d < begN L i')
      (itEA_getf (getF_ok (x := .own k) (var_ok rfl) (getF_own ho rfl))) ⟨rfl, 0, none, none, rfl, Nat.zero_le _, h0, fun i h1 h2 => absurd h2 (Nat.not_lt_zero _)⟩ (fun _ _ _ _ => rfl) (fun i hk en q hI => ?_) (fun en q hI => ?_)
    · obtain ⟨rfl, m, y3, y4, rfl, hm, h1, h2⟩ := hI
      obtain ⟨hk2, ez⟩ := enumZ_at (show i < (enumZ 0 ((begs L L.length).map .int)).length from hk)
      have hk3 : i < L.length + 1 := by
        unfold begs at hk2
        rw [List.length_map, List.length_map, List.length_range] at hk2
        exact hk2
      have eb : ((begs L L.length).map PV.int)[i] = .int (begN L i) := by
        rw [List.getElem_map]
        unfold begs
        rw [List.getElem_map, List.getElem_range]
      have ez : (⟨enumZ 0 ((begs L L.length).map .int), noCk⟩ : It0).xs[i] = .tup [.int i, .int (begN L i)] := by
        rw [← eb]
        exact ez
      rw [ez]
      refine ⟨[(3, .int i), (4, .int (begN L i))], rfl, ?_⟩
      show Ends (sIf _ _ _ ⟨b, [some (.own k), some (.int d), some (.int m), some (.int i), some (.int (begN L i))]⟩ q) _
      refine go_if (v := decide (begN L i ≤ d)) (b_ok (bin_ok (x := .int (begN L i)) (y := .int d) (var_ok rfl) (var_ok rfl) rfl)) (fun h => ?_) (fun h => ?_)
      · have h := of_decide_eq_true h
        exact go_set (var_ok rfl) ⟨rfl, i, _, _, rfl, by omega, h, fun i a b => absurd b (by omega)⟩
      · have h := of_decide_eq_false h
        refine go_nop ⟨rfl, m, _, _, rfl, hm, h1, fun i' a b => ?_⟩
        by_cases e : i' = i
        · subst e
          omega
        · exact h2 i' a (by omega)
    · obtain ⟨rfl, m, y3, y4, rfl, hm, h1, h2⟩ := hI
      have e : (⟨enumZ 0 ((begs L L.length).map .int), noCk⟩ : It0).xs.length = L.length + 1 := by
        show (enumZ 0 ((begs L L.length).map .int)).length = _
        rw [enumZ_len]
        unfold begs
        rw [List.length_map, List.length_map, List.length_range]
      rw [e] at h2
      exact go_ret (var_ok rfl) ⟨m, rfl, hm, h1, fun i a b => h2 i a (by omega)⟩
  obtain ⟨m, e, h⟩ := key.h
  refine ⟨m, ?_, h⟩
  unfold m_Days_region fnS
  show (match b_Days_region ⟨b, [some (.own k), some (.int d), none, none, none]⟩ p with
    | .ret x q => Res.ok x q
    | .next _ q => .ok .non q
    | _ => .stuck) = _
  rw [e]
def endP (L : List (Int × List Fq)) (m : Nat) : PV := if m < L.length then .int (begN L (m + 1)) else .non
theorem region_end_ok (L : List (Int × List Fq)) (w : List Fq) {m : Nat} (hm : m ≤ L.length) {b k j : Nat} {p : Pool} (ho : p[k]? = some (dayO L w j)) : m_Days_region_end b [.own k, .int m] p = .ok (endP L m) p := by
  have f : mFld 2 1 (mVar 0) ⟨b, [some (.own k), some (.int m)]⟩ p = .ok (.lst ((begs L L.length).map .int)) p := getF_ok (x := .own k) (var_ok rfl) (getF_own ho rfl)
  have l : mCall cLen (mCons (mFld 2 1 (mVar 0)) mNil) ⟨b, [some (.own k), some (.int m)]⟩ p = .ok (.int ((L.length + 1 : Nat) : Int)) p := by
    have e := len_ok (xs := (begs L L.length).map PV.int) f rfl
    rw [e]
    unfold begs
    rw [List.length_map, List.length_map, List.length_range]
  have t : mB (mBin pLt (mBin pAdd (mVar 1) (mC (.int 1))) (mCall cLen (mCons (mFld 2 1 (mVar 0)) mNil))) ⟨b, [some (.own k), some (.int m)]⟩ p = .ok (decide (m < L.length)) p := by
    have e := b_ok (lt_ok (add_ok (a := mVar 1) (x := (m : Int)) (var_ok (i := 1) (x := .int m) (en := ⟨b, [some (.own k), some (.int m)]⟩) (p := p) rfl) (c_ok (x := .int 1))) l)
    rw [e]
    congr 1
    exact decide_eq_decide.mpr (by omega)
  have key : b_Days_region_end ⟨b, [some (.own k), some (.int m)]⟩ p = .ret (endP L m) p := by
    unfold b_Days_region_end endP
    by_cases c : m < L.length
    · rw [if_pos c]
      rw [decide_eq_true c] at t
      refine ret_ok ?_
      unfold mIf
      rw [t]
      dsimp only [Res.bind]
      rw [if_pos rfl]
      have hb : ((begs L L.length).map PV.int)[m + 1]? = some (.int (begN L (m + 1))) := by
        unfold begs
        rw [List.getElem?_map, List.getElem?_map, List.getElem?_range (by omega)]
        rfl
      exact at_ok (i := m + 1) f (show _ = Res.ok (PV.int ((m + 1 : Nat) : Int)) p from add_ok (x := (m : Int)) (y := 1) (var_ok rfl) c_ok) rfl hb
    · rw [if_neg c]
      rw [decide_eq_false c] at t
      refine ret_ok ?_
      unfold mIf
      rw [t]
      rfl
  unfold m_Days_region_end fnS
  show (match b_Days_region_end ⟨b, [some (.own k), some (.int m)]⟩ p with
    | .ret x q => Res.ok x q
    | .next _ q => .ok .non q
    | _ => .stuck) = _
  rw [key]
theorem fw_all {u v : Int → Fq} {p q : Nat} (hp : 1 ≤ p) (hq : 1 ≤ q) (hu : ∀ d, u (d + (p : Int)) = u d) (hv : ∀ d, v (d + (q : Int)) = v d) {s : Int} (h : ∀ d, s ≤ d → d < s + p + q → u d = v d) (d : Int) : u d = v d := by
  have many : ∀ (f : Int → Fq) (r : Nat), (∀ d, f (d + (r : Int)) = f d) → ∀ (k : Nat) (d : Int), f (d + (k : Int) * (r : Int)) = f d := fun f r hf k => by
    induction k with
    | zero =>
      intro d
      rw [Int.natCast_zero, Int.zero_mul, Int.add_zero]
    | succ k ih =>
      intro d
      rw [show d + ((k + 1 : Nat) : Int) * (r : Int) = (d + (k : Int) * (r : Int)) + (r : Int) by rw [Int.natCast_succ, Int.add_mul, Int.one_mul]; omega, hf, ih]
  obtain ⟨n, hn⟩ : ∃ n : Nat, n = (d - s).toNat := ⟨_, rfl⟩
  have e1 := many u p hu (n * q) (d - ((n * q : Nat) : Int) * (p : Int))
  have e2 := many v q hv (n * p) (d - ((n * q : Nat) : Int) * (p : Int))
  have e3 : ((n * q : Nat) : Int) * (p : Int) = ((n * p : Nat) : Int) * (q : Int) := by
    rw [← Int.natCast_mul, ← Int.natCast_mul, Nat.mul_right_comm]
  rw [Int.sub_add_cancel] at e1
  rw [← e3, Int.sub_add_cancel] at e2
  have hle : n ≤ n * q * p := by
    have a : n * 1 ≤ n * q := Nat.mul_le_mul_left n hq
    have b : n * q * 1 ≤ n * q * p := Nat.mul_le_mul_left (n * q) hp
    omega
  have hle2 : (n : Int) ≤ ((n * q : Nat) : Int) * (p : Int) := by
    rw [← Int.natCast_mul]
    exact Int.ofNat_le.mpr hle
  have lt : d - ((n * q : Nat) : Int) * (p : Int) ≤ s := by omega
  rw [e1, e2]
  exact fw hp hq hu hv h (s - (d - ((n * q : Nat) : Int) * (p : Int))).toNat _ (by omega) (by omega)
theorem cmp_shN (q r : Fq) (p : Pool) : pTr fldT (fun x y => (fO 0 eqO x y).map (!·)) (sh q) (sh r) p = .ok (.bl (!decide (q = r))) p := by
  unfold pTr
  rw [thaw_bel (bel_sh 0 q), thaw_bel (bel_sh 0 r)]
  dsimp only
  have e : fO 0 eqO (sh q) (sh r) = some (decide (q = r)) := by
    show (if (0 : Nat) = 0 then (if (0 : Nat) = 0 then eqO [.int q.1, .int q.2] [.int r.1, .int r.2] else none) else none) = _
    rw [if_pos rfl, if_pos rfl]
    show some (decide (q.1 = r.1) && decide (q.2 = r.2)) = _
    congr 1
    by_cases h : q = r
    · subst h
      rw [decide_eq_true rfl, decide_eq_true rfl, decide_eq_true rfl]
      rfl
    · rw [decide_eq_false h]
      by_cases a : q.1 = r.1
      · have b : ¬ q.2 = r.2 := fun b => h (Prod.ext a b)
        rw [decide_eq_false b, Bool.and_false]
      · rw [decide_eq_false a, Bool.false_and]
  rw [e]
  rfl
theorem itR2_is {a : M (List PV)} {i j : Int} {en : En} {p p1 : Pool} (h : a en p = .ok [.int i, .int j] p1) (h1 : -1000000000000000000 ≤ i) (h2 : i ≤ 1000000000000000000) (h3 : -1000000000000000000 ≤ j) (h4 : j ≤ 1000000000000000000) : itR2 a en p = .ok ⟨rng i (j - i).toNat, noCk⟩ p1 := by
  unfold itR2
  rw [h]
  show (if -(2 ^ 62) ≤ i ∧ i < 2 ^ 62 ∧ -(2 ^ 62) ≤ j ∧ j < 2 ^ 62 then _ else _) = _
  rw [if_pos ⟨by omega, by omega, by omega, by omega⟩]
theorem rng_int (i : Int) (n j : Nat) (h : j < (rng i n).length) : (rng i n)[j] = .int (i + j) := by
  have h' : j < n := by
    rw [rng_len] at h
    exact h
  have e : (rng i n)[j]? = some (.int (i + j)) := by
    unfold rng
    rw [List.getElem?_map, List.getElem?_range h']
    rfl
  exact (List.getElem?_eq_some_iff.mp e).2
theorem metS_ok {f : Nat → FnM} {c k : Nat} {o : M PV} {a : M (List PV)} {en : En} {p p' : Pool} {xs fs : List PV} {y : PV} (ho : o en p = .ok (.own k) p) (hc : p[k]? = some (.obj c fs)) (ha : a en p = .ok xs p) (hf : f en.b (.own k :: xs) p = .ok y p') : mMetS f c o a en p = .ok y p' := by
  unfold mMetS
  rw [ho]
  dsimp only [Res.bind]
  have h : isOwnO c p (.own k) = true := by
    unfold isOwnO
    dsimp only
    rw [hc]
    exact decide_eq_true rfl
  rw [if_pos h, ha]
  dsimp only [Res.bind]
  rw [hf]
def oP : Option Int → PV
  | none => .non
  | some i => .int i
def endO (L : List (Int × List Fq)) (m : Nat) : Option Int := if m < L.length then some (begN L (m + 1)) else none
theorem endP_o (L : List (Int × List Fq)) (m : Nat) : endP L m = oP (endO L m) := by
  unfold endP endO
  split <;> rfl
def nearO : Option Int → Option Int → Option Int
  | none, y => y
  | some x, none => some x
  | some x, some y => some (if y < x then y else x)
theorem nearer_ok (a c : Option Int) (p : Pool) : m_nearer [oP a, oP c] p = .ok (oP (nearO a c)) p := by
  cases a with
  | none => cases c <;> exact fnM_pure (show b_nearer ⟨p.length, _⟩ p = _ from rfl) rfl
  | some x => cases c <;> exact fnM_pure (show b_nearer ⟨p.length, _⟩ p = _ from rfl) rfl
theorem lens_at {L : List (Int × List Fq)} {w : List Fq} {m : Nat} (hm : m ≤ L.length) : (lensP L w)[m]? = some (.int ((wdN L w m).length : Nat)) := by
  unfold lensP wdN
  rw [List.getElem?_map, List.getElem?_eq_getElem (by rw [List.length_append, List.length_map]; show m < L.length + 1; omega)]
  rfl
theorem app_at (q l : Pool) (i : Nat) : (q ++ l)[q.length + i]? = l[i]? := by rw [List.getElem?_append_right (Nat.le_add_right _ _), Nat.add_sub_cancel_left]
theorem app_set (q l : Pool) (i : Nat) (x : Cell) : (q ++ l).set (q.length + i) x = q ++ l.set i x := by rw [List.set_append_right _ _ (Nat.le_add_right _ _), Nat.add_sub_cancel_left]
def DP (L1 : List (Int × List Fq)) (w1 : List Fq) (L2 : List (Int × List Fq)) (w2 : List Fq) (q : Pool) (N : Nat) (p : Pool) : Prop :=
  ∃ kv1 kv2, p = q ++ [dayO L1 w1 (q.length + 1), .dk kv1, dayO L2 w2 (q.length + 3), .dk kv2] ∧ KnownBy L1 w1 kv1 ∧ KnownBy L2 w2 kv2 ∧ kv1.length ≤ N ∧ kv2.length ≤ N
section
variable {L1 : List (Int × List Fq)} {w1 : List Fq} {L2 : List (Int × List Fq)} {w2 : List Fq} {q p : Pool} {N : Nat}
theorem DP.o1 (h : DP L1 w1 L2 w2 q N p) : p[q.length]? = some (dayO L1 w1 (q.length + 1)) := by
  obtain ⟨kv1, kv2, rfl, _⟩ := h
  exact app_at q _ 0
theorem DP.o2 (h : DP L1 w1 L2 w2 q N p) : p[q.length + 2]? = some (dayO L2 w2 (q.length + 3)) := by
  obtain ⟨kv1, kv2, rfl, _⟩ := h
  exact app_at q _ 2
theorem DP.t1 (h : DP L1 w1 L2 w2 q N p) (g : GS L1 w1) {d : Int} (h0 : 0 ≤ d) (hN : N < big) (b : Nat) : ∃ p', m_Days_thing b [.own q.length, .int d] p = .ok (sh (onQ L1 w1 d)) p' ∧ DP L1 w1 L2 w2 q (N + 1) p' := by
  have o := h.o1
  obtain ⟨kv1, kv2, rfl, h1, h2, l1, l2⟩ := h
  obtain ⟨kv, e, hk, hl⟩ := thing_ok g h0 (b := b) o (app_at q _ 1) (by omega) h1 (by omega)
  exact ⟨_, e, kv, kv2, by rw [app_set]; rfl, hk, h2, by omega, by omega⟩
theorem DP.t2 (h : DP L1 w1 L2 w2 q N p) (g : GS L2 w2) {d : Int} (h0 : 0 ≤ d) (hN : N < big) (b : Nat) : ∃ p', m_Days_thing b [.own (q.length + 2), .int d] p = .ok (sh (onQ L2 w2 d)) p' ∧ DP L1 w1 L2 w2 q (N + 1) p' := by
  have o := h.o2
  obtain ⟨kv1, kv2, rfl, h1, h2, l1, l2⟩ := h
  obtain ⟨kv, e, hk, hl⟩ := thing_ok g h0 (b := b) o (app_at q _ 3) (by omega) h2 (by omega)
  exact ⟨_, e, kv1, kv, by rw [app_set]; rfl, h1, hk, by omega, by omega⟩
theorem test_ok (h : DP L1 w1 L2 w2 q N p) (g1 : GS L1 w1) (g2 : GS L2 w2) {d : Int} (h0 : 0 ≤ d) (hN : N + 1 < big) {en : En} (v0 : en.sl[0]? = some (some (.own q.length))) (v1 : en.sl[1]? = some (some (.own (q.length + 2)))) (v3 : en.sl[3]? = some (some (.int 0))) (v10 : en.sl[10]? = some (some (.int d))) :
    ∃ p', mB (mBin (pTr fldT (fun x y => (fO 0 eqO x y).map (!·))) (mMetS m_Days_thing 2 (mVar 0) (mCons (mVar 10) mNil)) (mMetS m_Days_thing 2 (mVar 1) (mCons (mBin pAdd (mVar 10) (mVar 3)) mNil))) en p = .ok (!decide (onQ L1 w1 d = onQ L2 w2 d)) p' ∧ DP L1 w1 L2 w2 q (N + 2) p' := by
  obtain ⟨p1, e1, D1⟩ := h.t1 g1 h0 (by omega) en.b
  obtain ⟨p2, e2, D2⟩ := D1.t2 g2 h0 hN en.b
  have a2 : mCons (mBin pAdd (mVar 10) (mVar 3)) mNil en p1 = .ok [.int d] p1 := by
    have e := one_ok (add_ok (var_ok (p := p1) v10) (var_ok v3))
    rw [Int.add_zero] at e
    exact e
  refine ⟨p2, b_ok (bin_ok (metS_ok (var_ok v0) h.o1 (one_ok (var_ok v10)) e1) (metS_ok (var_ok v1) D1.o2 a2 e2) (cmp_shN _ _ _)), D2⟩
end
def ulBody : S :=
  (sSeq (sSet (mMetS m_Days_region 2 (mVar 0) (mCons (mVar 2) mNil)) 4)
    (sSeq (sSet (mMetS m_Days_region 2 (mVar 1) (mCons (mBin pAdd (mVar 2) (mVar 3)) mNil)) 5)
    (sSeq (sSet (mMetS m_Days_region_end 2 (mVar 0) (mCons (mVar 4) mNil)) 6)
    (sSeq (sSet (mMetS m_Days_region_end 2 (mVar 1) (mCons (mVar 5) mNil)) 7)
    (sSeq (sSet (mFn m_nearer [] (mCons (mVar 6) (mCons (mIf (mB (mBin pIsN1 (mVar 7) (mC .non))) (mC .non) (mBin pSub (mVar 7) (mVar 3))) mNil))) 8)
    (sSeq (sSet (mBin pAdd (mBin pAdd (mVar 2) (mBin pIx (mFld 2 2 (mVar 0)) (mVar 4))) (mBin pIx (mFld 2 2 (mVar 1)) (mVar 5))) 9)
    (sSeq (sSet (mIf (mB (mBin pIsN1 (mVar 8) (mC .non))) (mVar 9) (mCall cMin (mCons (mVar 9) (mCons (mVar 8) mNil)))) 9)
    (sSeq (sFor (itR2 (mCons (mVar 2) (mCons (mVar 9) mNil))) (tgN 10)
    (sIf (mB (mBin (pTr fldT (fun x y => (fO 0 eqO x y).map (!·))) (mMetS m_Days_thing 2 (mVar 0) (mCons (mVar 10) mNil)) (mMetS m_Days_thing 2 (mVar 1) (mCons (mBin pAdd (mVar 10) (mVar 3)) mNil))))
    (sRet (mVar 10))
    sNop))
    (sSeq (sIf (mB (mBin pIsN1 (mVar 8) (mC .non)))
    (sRet (mC .non))
    sNop)
    (sSet (mVar 8) 2))))))))))
theorem ul_is : b_unlike_from = loopW (mB (mC (.bl true))) ulBody fuel := rfl
def uEn (b n : Nat) (day : Int) (y4 y5 y6 y7 y8 y9 y10 : Option PV) : En := ⟨b, [some (.own n), some (.own (n + 2)), some (.int day), some (.int 0), y4, y5, y6, y7, y8, y9, y10]⟩
structure IsReg (L : List (Int × List Fq)) (d : Int) (m : Nat) : Prop where
  le : m ≤ L.length
  lo : begN L m ≤ d
  hi : ∀ i, m < i → i ≤ L.length → d < begN L i
theorem IsReg.one {L : List (Int × List Fq)} {d : Int} {m n : Nat} (a : IsReg L d m) (b : IsReg L d n) : m = n := by
  rcases Nat.lt_trichotomy m n with h | h | h
  · have := a.hi n h b.le
    have := b.lo
    omega
  · exact h
  · have := b.hi m h a.le
    have := a.lo
    omega
def lastO (W : Int) : Option Int → Int
  | none => W
  | some x => if x < W then x else W
section
variable {L1 : List (Int × List Fq)} {w1 : List Fq} {L2 : List (Int × List Fq)} {w2 : List Fq} {q p : Pool} {N : Nat}
def Alk (L1 : List (Int × List Fq)) (w1 : List Fq) (L2 : List (Int × List Fq)) (w2 : List Fq) (a b : Int) : Prop := ∀ e, a ≤ e → e < b → onQ L1 w1 e = onQ L2 w2 e
theorem search_ok (h : DP L1 w1 L2 w2 q N p) (g1 : GS L1 w1) (g2 : GS L2 w2) {day last : Int} (h0 : 0 ≤ day) (hd : day ≤ 100000000000000000) (hpos : day ≤ last) (hl : last ≤ day + 200) (hN : N + 1000 < big) (b : Nat) (y4 y5 y6 y7 y8 y10 : Option PV) {k : S} {R : Ctl → Prop}
    (hr : ∀ e p', (∃ r, p' = q ++ r) → day ≤ e → e < last → Alk L1 w1 L2 w2 day e → onQ L1 w1 e ≠ onQ L2 w2 e → R (.ret (.int e) p'))
    (hk : ∀ p' z, DP L1 w1 L2 w2 q (N + 400) p' → Alk L1 w1 L2 w2 day last → Ends (k (uEn b q.length day y4 y5 y6 y7 y8 (some (.int last)) z) p') R) :
    Ends (sSeq (sFor (itR2 (mCons (mVar 2) (mCons (mVar 9) mNil))) (tgN 10)
      (sIf (mB (mBin (pTr fldT (fun x y => (fO 0 eqO x y).map (!·))) (mMetS m_Days_thing 2 (mVar 0) (mCons (mVar 10) mNil)) (mMetS m_Days_thing 2 (mVar 1) (mCons (mBin pAdd (mVar 10) (mVar 3)) mNil))))
        (sRet (mVar 10)) sNop)) k (uEn b q.length day y4 y5 y6 y7 y8 (some (.int last)) y10) p) R := by
  refine go_seq_for (p1 := p) (z := ⟨rng day (last - day).toNat, noCk⟩) (fun i en q' => ∃ z, en = uEn b q.length day y4 y5 y6 y7 y8 (some (.int last)) z ∧ DP L1 w1 L2 w2 q (N + 2 * i) q' ∧ Alk L1 w1 L2 w2 day (day + i))
    (itR2_is (two_ok (var_ok rfl) (var_ok rfl)) (by omega) (by omega) (by omega) (by omega)) ⟨y10, rfl, h, fun e a b => by omega⟩ (fun _ _ _ _ => rfl) (fun i hi en q' hI => ?_) (fun en q' hI => ?_)
  · obtain ⟨z, rfl, D, hA⟩ := hI
    have hi2 : i < (last - day).toNat := by
      have e : (rng day (last - day).toNat).length = (last - day).toNat := rng_len _ _
      rw [← e]
      exact hi
    refine ⟨[(10, .int (day + i))], by rw [rng_int day _ i hi]; rfl, ?_⟩
    show Ends (sIf _ _ _ (uEn b q.length day y4 y5 y6 y7 y8 (some (.int last)) (some (.int (day + i)))) q') _
    obtain ⟨p', e, D'⟩ := test_ok D g1 g2 (d := day + i) (by omega) (by omega) (en := uEn b q.length day y4 y5 y6 y7 y8 (some (.int last)) (some (.int (day + i)))) rfl rfl rfl rfl
    refine go_if e (fun c => ?_) (fun c => ?_)
    · have c : ¬ onQ L1 w1 (day + i) = onQ L2 w2 (day + i) := by
        rw [Bool.not_eq_true'] at c
        exact of_decide_eq_false c
      exact go_ret (var_ok rfl) ⟨hr (day + i) p' (by obtain ⟨_, _, e, _⟩ := D'; exact ⟨_, e⟩) (by omega) (by omega) hA c⟩
    · have c : onQ L1 w1 (day + i) = onQ L2 w2 (day + i) := by
        rw [Bool.not_eq_false'] at c
        exact of_decide_eq_true c
      refine go_nop ⟨_, rfl, ?_, fun e a b => ?_⟩
      · rw [show N + 2 * (i + 1) = N + 2 * i + 2 by omega]
        exact D'
      · by_cases x : e = day + i
        · rw [x]
          exact c
        · exact hA e a (by omega)
  · obtain ⟨z, rfl, D, hA⟩ := hI
    have e : (⟨rng day (last - day).toNat, noCk⟩ : It0).xs.length = (last - day).toNat := rng_len _ _
    rw [e] at D hA
    refine hk q' z ?_ fun x a b => hA x a (by omega)
    obtain ⟨kv1, kv2, e1, h1, h2, l1, l2⟩ := D
    exact ⟨kv1, kv2, e1, h1, h2, by omega, by omega⟩
end
theorem reg_on {L : List (Int × List Fq)} {w : List Fq} (g : GS L w) {day : Int} {m : Nat} (hr : IsReg L day m) {e : Int} (h : day ≤ e) (hx : ∀ x, endO L m = some x → e < x) : onQ L w e = pickQ (wdN L w m) (e - begN L m) := by
  refine on_at w g.day hr.le (by have := hr.lo; omega) fun i a b => ?_
  have c : m < L.length := by omega
  have := hx (begN L (m + 1)) (by unfold endO; rw [if_pos c])
  have := begN_le g.day (show m + 1 ≤ i by omega) b
  omega
theorem near_lt {a c : Option Int} {e : Int} (h : ∀ x, nearO a c = some x → e < x) : (∀ x, a = some x → e < x) ∧ ∀ x, c = some x → e < x := by
  cases a with
  | none => exact ⟨(fun _ z => nomatch z), h⟩
  | some x => cases c with
    | none => exact ⟨h, (fun _ z => nomatch z)⟩
    | some y =>
      have := h _ rfl
      refine ⟨fun _ z => ?_, fun _ z => ?_⟩ <;> cases z <;> (split at this <;> omega)
theorem reg_all {L1 : List (Int × List Fq)} {w1 : List Fq} {L2 : List (Int × List Fq)} {w2 : List Fq} (g1 : GS L1 w1) (g2 : GS L2 w2) {day : Int} {m1 m2 : Nat} (r1 : IsReg L1 day m1) (r2 : IsReg L2 day m2)
    (h : Alk L1 w1 L2 w2 day (lastO (day + ((wdN L1 w1 m1).length : Int) + ((wdN L2 w2 m2).length : Int)) (nearO (endO L1 m1) (endO L2 m2)))) : ∀ e, day ≤ e → (∀ x, nearO (endO L1 m1) (endO L2 m2) = some x → e < x) → onQ L1 w1 e = onQ L2 w2 e := fun e he hx => by
  obtain ⟨W, hW⟩ : ∃ W, W = day + ((wdN L1 w1 m1).length : Int) + ((wdN L2 w2 m2).length : Int) := ⟨_, rfl⟩
  rw [← hW] at h
  by_cases c : lastO W (nearO (endO L1 m1) (endO L2 m2)) = W
  · rw [c] at h
    have hle : ∀ x, nearO (endO L1 m1) (endO L2 m2) = some x → W ≤ x := fun x ex => by
      rw [ex] at c
      unfold lastO at c
      dsimp only at c
      split at c <;> omega
    have key := fw_all (u := fun d => pickQ (wdN L1 w1 m1) (d - begN L1 m1)) (v := fun d => pickQ (wdN L2 w2 m2) (d - begN L2 m2)) (p := (wdN L1 w1 m1).length) (q := (wdN L2 w2 m2).length) (wd_len g1 r1.le) (wd_len g2 r2.le) (fun d => by
      show pickQ _ (d + ((wdN L1 w1 m1).length : Int) - begN L1 m1) = _
      rw [show d + ((wdN L1 w1 m1).length : Int) - begN L1 m1 = d - begN L1 m1 + ((wdN L1 w1 m1).length : Int) by omega]
      exact pick_len _ _) (fun d => by
      show pickQ _ (d + ((wdN L2 w2 m2).length : Int) - begN L2 m2) = _
      rw [show d + ((wdN L2 w2 m2).length : Int) - begN L2 m2 = d - begN L2 m2 + ((wdN L2 w2 m2).length : Int) by omega]
      exact pick_len _ _) (s := day) (fun d a b => by
      have lt := near_lt (e := d) fun x ex => by
        have := hle x ex
        omega
      show pickQ _ (d - begN L1 m1) = pickQ _ (d - begN L2 m2)
      rw [← reg_on g1 r1 a lt.1, ← reg_on g2 r2 a lt.2]
      exact h d a (by omega)) e
    have lt := near_lt hx
    rw [reg_on g1 r1 he lt.1, reg_on g2 r2 he lt.2]
    exact key
  · cases ex : nearO (endO L1 m1) (endO L2 m2) with
    | none =>
      rw [ex] at c
      exact absurd rfl c
    | some x =>
      rw [ex] at c h
      unfold lastO at c h
      dsimp only at c h
      by_cases z : x < W
      · rw [if_pos z] at h
        exact h e he (hx x ex)
      · rw [if_neg z] at c
        exact absurd rfl c
theorem near_gt {L1 L2 : List (Int × List Fq)} {day : Int} {m1 m2 : Nat} (r1 : IsReg L1 day m1) (r2 : IsReg L2 day m2) {x : Int} (h : nearO (endO L1 m1) (endO L2 m2) = some x) : day < x ∧ ((m1 < L1.length ∧ x = begN L1 (m1 + 1)) ∨ (m2 < L2.length ∧ x = begN L2 (m2 + 1))) := by
  unfold endO at h
  by_cases a : m1 < L1.length
  · have e1 := r1.hi (m1 + 1) (by omega) a
    rw [if_pos a] at h
    by_cases b : m2 < L2.length
    · have e2 := r2.hi (m2 + 1) (by omega) b
      rw [if_pos b] at h
      have h : some (if begN L2 (m2 + 1) < begN L1 (m1 + 1) then begN L2 (m2 + 1) else begN L1 (m1 + 1)) = some x := h
      split at h
      · cases h
        exact ⟨e2, .inr ⟨b, rfl⟩⟩
      · cases h
        exact ⟨e1, .inl ⟨a, rfl⟩⟩
    · rw [if_neg b] at h
      cases h
      exact ⟨e1, .inl ⟨a, rfl⟩⟩
  · rw [if_neg a] at h
    by_cases b : m2 < L2.length
    · have e2 := r2.hi (m2 + 1) (by omega) b
      rw [if_pos b] at h
      cases h
      exact ⟨e2, .inr ⟨b, rfl⟩⟩
    · rw [if_neg b] at h
      cases h
theorem nonP (o : Option Int) : isNon (oP o) = o.isNone := by cases o <;> rfl
theorem turn_ok {L1 : List (Int × List Fq)} {w1 : List Fq} {L2 : List (Int × List Fq)} {w2 : List Fq} {q p : Pool} {N : Nat} (h : DP L1 w1 L2 w2 q N p) (g1 : GS L1 w1) (g2 : GS L2 w2) {day : Int} {m1 m2 : Nat} (r1 : IsReg L1 day m1) (r2 : IsReg L2 day m2) (h0 : 0 ≤ day) (hd : day ≤ 100000000000000000)
    (hs1 : (wdN L1 w1 m1).length ≤ 100) (hs2 : (wdN L2 w2 m2).length ≤ 100) (hN : N + 1000 < big) (b : Nat) (y4 y5 y6 y7 y8 y9 y10 : Option PV) :
    Ends (ulBody (uEn b q.length day y4 y5 y6 y7 y8 y9 y10) p) (fun c => (∃ e p', c = .ret (.int e) p' ∧ (∃ r, p' = q ++ r) ∧ day ≤ e ∧ Alk L1 w1 L2 w2 day e ∧ onQ L1 w1 e ≠ onQ L2 w2 e) ∨ (∃ p', c = .ret .non p' ∧ (∃ r, p' = q ++ r) ∧ ∀ e, day ≤ e → onQ L1 w1 e = onQ L2 w2 e) ∨
      ∃ p' x z4 z5 z6 z7 z8 z9 z10, c = .next (uEn b q.length x z4 z5 z6 z7 z8 z9 z10) p' ∧ DP L1 w1 L2 w2 q (N + 400) p' ∧ nearO (endO L1 m1) (endO L2 m2) = some x ∧ Alk L1 w1 L2 w2 day x) := by
  obtain ⟨n1, e1, i1⟩ := region_ok L1 w1 h0 (b := b) h.o1
  obtain rfl := IsReg.one (L := L1) ⟨i1.1, i1.2.1, i1.2.2⟩ r1
  obtain ⟨n2, e2, i2⟩ := region_ok L2 w2 h0 (b := b) h.o2
  obtain rfl := IsReg.one (L := L2) ⟨i2.1, i2.2.1, i2.2.2⟩ r2
  have f1 := region_end_ok L1 w1 r1.le (b := b) h.o1
  have f2 := region_end_ok L2 w2 r2.le (b := b) h.o2
  rw [endP_o] at f1 f2
  unfold ulBody
  refine go_seq_set (metS_ok (var_ok rfl) h.o1 (one_ok (var_ok rfl)) e1) ?_
  refine go_seq_set (metS_ok (var_ok rfl) h.o2 (one_ok (show _ = Res.ok (PV.int day) p from (add_ok (x := day) (y := 0) (var_ok rfl) (var_ok rfl)).trans (by rw [Int.add_zero]))) e2) ?_
  refine go_seq_set (metS_ok (var_ok rfl) h.o1 (one_ok (var_ok rfl)) f1) ?_
  refine go_seq_set (metS_ok (var_ok rfl) h.o2 (one_ok (var_ok rfl)) f2) ?_
  obtain ⟨o1, ho1⟩ : ∃ o, o = endO L1 n1 := ⟨_, rfl⟩
  obtain ⟨o2, ho2⟩ : ∃ o, o = endO L2 n2 := ⟨_, rfl⟩
  have hall := reg_all g1 g2 r1 r2
  rw [← ho1, ← ho2] at hall ⊢
  have hnear := fun x => near_gt r1 r2 (x := x)
  rw [← ho1, ← ho2] at hnear
  refine go_seq_set (p1 := p) (x := oP (nearO o1 o2)) (fn0_ok (two_ok (x := oP o1) (y := oP o2) (var_ok rfl) ?_) (nearer_ok o1 o2 p)) ?_
  · refine (if_ok (p1 := p) (v := o2.isNone) (b_ok (bin_ok (x := oP o2) (var_ok rfl) c_ok ?_))).trans ?_
    · show Res.ok (PV.bl (isNon (oP o2))) p = _
      rw [nonP]
    · cases o2 with
      | none => exact (if_pos rfl).trans c_ok
      | some x =>
        show _ = Res.ok (PV.int x) p
        exact (if_neg Bool.false_ne_true).trans ((sub_ok (x := x) (y := 0) (var_ok rfl) (var_ok rfl)).trans (by rw [Int.sub_zero]))
  obtain ⟨W, hW⟩ : ∃ W, W = day + ((wdN L1 w1 n1).length : Int) + ((wdN L2 w2 n2).length : Int) := ⟨_, rfl⟩
  rw [← hW] at hall
  refine go_seq_set (p1 := p) (x := .int W) ?_ ?_
  · rw [hW]
    exact add_ok (add_ok (var_ok rfl) (at_ok (i := n1) (getF_ok (x := .own q.length) (var_ok rfl) (getF_own h.o1 rfl)) (var_ok rfl) rfl (lens_at r1.le))) (at_ok (i := n2) (getF_ok (x := .own (q.length + 2)) (var_ok rfl) (getF_own h.o2 rfl)) (var_ok rfl) rfl (lens_at r2.le))
  obtain ⟨o, ho⟩ : ∃ o, o = nearO o1 o2 := ⟨_, rfl⟩
  rw [← ho] at hall hnear ⊢
  refine go_seq_set (p1 := p) (x := .int (lastO W o)) ?_ ?_
  · refine (if_ok (p1 := p) (v := o.isNone) (b_ok (bin_ok (x := oP o) (var_ok rfl) c_ok ?_))).trans ?_
    · show Res.ok (PV.bl (isNon (oP o))) p = _
      rw [nonP]
    · cases o with
      | none => exact (if_pos rfl).trans (var_ok rfl)
      | some x => exact (if_neg Bool.false_ne_true).trans (call_ok (two_ok (x := .int W) (y := .int x) (var_ok rfl) (var_ok rfl)) rfl)
  have w1p := wd_len g1 r1.le
  have w2p := wd_len g2 r2.le
  have b1 : day ≤ lastO W o := by
    cases o with
    | none =>
      show day ≤ W
      omega
    | some x =>
      have := (hnear x rfl).1
      show day ≤ if x < W then x else W
      split <;> omega
  have b2 : lastO W o ≤ day + 200 := by
    cases o with
    | none =>
      show W ≤ _
      omega
    | some x =>
      show (if x < W then x else W) ≤ _
      split <;> omega
  refine search_ok h g1 g2 h0 hd b1 b2 hN b _ _ _ _ _ _ (fun e p' hp a c A ne => .inl ⟨e, p', rfl, hp, a, A, ne⟩) fun p' z D A => ?_
  have al := hall A
  refine go_seq_if (v := o.isNone) (b_ok (bin_ok (x := oP o) (var_ok rfl) c_ok (show Res.ok (PV.bl (isNon (oP o))) p' = _ by rw [nonP]))) (fun c => ?_) (fun c => ?_)
  · cases o with
    | some x => cases c
    | none => exact go_seq_ret c_ok (.inr (.inl ⟨p', rfl, (by obtain ⟨_, _, e, _⟩ := D; exact ⟨_, e⟩), fun e he => al e he fun _ z => nomatch z⟩))
  · cases o with
    | none => cases c
    | some x =>
      refine go_seq_nop ?_
      refine go_set (var_ok rfl) (.inr (.inr ⟨p', x, _, _, _, _, _, _, _, rfl, D, rfl, fun e a c => al e a fun _ z => by cases z; exact c⟩))
theorem reg_ex (L : List (Int × List Fq)) {d : Int} (h0 : 0 ≤ d) : ∃ m, IsReg L d m := by
  obtain ⟨m, _, a, b, c⟩ := region_ok L [] h0 (b := 0) (k := 0) (j := 1) (p := [dayO L [] 1]) rfl
  exact ⟨m, a, b, c⟩
def FirstU (L1 : List (Int × List Fq)) (w1 : List Fq) (L2 : List (Int × List Fq)) (w2 : List Fq) (day : Int) (x : PV) : Prop :=
  (∃ e, x = .int e ∧ day ≤ e ∧ Alk L1 w1 L2 w2 day e ∧ onQ L1 w1 e ≠ onQ L2 w2 e) ∨ (x = .non ∧ ∀ e, day ≤ e → onQ L1 w1 e = onQ L2 w2 e)
theorem ul_loop {L1 : List (Int × List Fq)} {w1 : List Fq} {L2 : List (Int × List Fq)} {w2 : List Fq} {q : Pool} (g1 : GS L1 w1) (g2 : GS L2 w2) (hB1 : ∀ m, m ≤ L1.length → begN L1 m ≤ 100000000000000000) (hB2 : ∀ m, m ≤ L2.length → begN L2 m ≤ 100000000000000000)
    (hW1 : ∀ m, (wdN L1 w1 m).length ≤ 100) (hW2 : ∀ m, (wdN L2 w2 m).length ≤ 100) (b : Nat) : ∀ (n f N : Nat) (day : Int) (m1 m2 : Nat) (y4 y5 y6 y7 y8 y9 y10 : Option PV) (p : Pool), n < f → (L1.length - m1) + (L2.length - m2) ≤ n → DP L1 w1 L2 w2 q N p → IsReg L1 day m1 → IsReg L2 day m2 → 0 ≤ day → day ≤ 100000000000000000 → N + 400 * n + 1000 < big →
    ∃ x r, loopW (mB (mC (.bl true))) ulBody f (uEn b q.length day y4 y5 y6 y7 y8 y9 y10) p = .ret x (q ++ r) ∧ FirstU L1 w1 L2 w2 day x := fun n => by
  induction n with
  | zero =>
    intro f N day m1 m2 y4 y5 y6 y7 y8 y9 y10 p hf hn D r1 r2 h0 hd hN
    obtain ⟨f, rfl⟩ : ∃ k, f = k + 1 := ⟨f - 1, by omega⟩
    have T := (turn_ok D g1 g2 r1 r2 h0 hd (hW1 _) (hW2 _) (by omega) b y4 y5 y6 y7 y8 y9 y10).h
    have one : ∀ x p', ulBody (uEn b q.length day y4 y5 y6 y7 y8 y9 y10) p = .ret x p' → loopW (mB (mC (.bl true))) ulBody (f + 1) (uEn b q.length day y4 y5 y6 y7 y8 y9 y10) p = .ret x p' := fun x p' h => by
      show (match ulBody (uEn b q.length day y4 y5 y6 y7 y8 y9 y10) p with
        | .next en2 p2 => loopW (mB (mC (.bl true))) ulBody f en2 p2
        | .cont en2 p2 => loopW (mB (mC (.bl true))) ulBody f en2 p2
        | .brk en2 p2 => .next en2 p2
        | o => o) = _
      rw [h]
    rcases T with ⟨e, p', h, ⟨r, rfl⟩, a, A, ne⟩ | ⟨p', h, ⟨r, rfl⟩, A⟩ | ⟨p', x, z4, z5, z6, z7, z8, z9, z10, h, D2, hx, A⟩
    · exact ⟨_, r, one _ _ h, .inl ⟨e, rfl, a, A, ne⟩⟩
    · exact ⟨_, r, one _ _ h, .inr ⟨rfl, A⟩⟩
    · rcases (near_gt r1 r2 hx).2 with ⟨k, _⟩ | ⟨k, _⟩ <;> omega
  | succ n ih =>
    intro f N day m1 m2 y4 y5 y6 y7 y8 y9 y10 p hf hn D r1 r2 h0 hd hN
    obtain ⟨f, rfl⟩ : ∃ k, f = k + 1 := ⟨f - 1, by omega⟩
    have T := (turn_ok D g1 g2 r1 r2 h0 hd (hW1 _) (hW2 _) (by omega) b y4 y5 y6 y7 y8 y9 y10).h
    have st : loopW (mB (mC (.bl true))) ulBody (f + 1) (uEn b q.length day y4 y5 y6 y7 y8 y9 y10) p = (match ulBody (uEn b q.length day y4 y5 y6 y7 y8 y9 y10) p with
        | .next en2 p2 => loopW (mB (mC (.bl true))) ulBody f en2 p2
        | .cont en2 p2 => loopW (mB (mC (.bl true))) ulBody f en2 p2
        | .brk en2 p2 => .next en2 p2
        | o => o) := rfl
    rw [st]
    rcases T with ⟨e, p', h, ⟨r, rfl⟩, a, A, ne⟩ | ⟨p', h, ⟨r, rfl⟩, A⟩ | ⟨p', x, z4, z5, z6, z7, z8, z9, z10, h, D2, hx, A⟩
    · exact ⟨_, r, by rw [h], .inl ⟨e, rfl, a, A, ne⟩⟩
    · exact ⟨_, r, by rw [h], .inr ⟨rfl, A⟩⟩
    · obtain ⟨hlt, hc⟩ := near_gt r1 r2 hx
      obtain ⟨n1, s1⟩ := reg_ex L1 (d := x) (by omega)
      obtain ⟨n2, s2⟩ := reg_ex L2 (d := x) (by omega)
      have up : ∀ {L : List (Int × List Fq)} {m k : Nat}, IsReg L day m → IsReg L x k → m ≤ k := fun {L m k} a b => by
        by_cases c : m ≤ k
        · exact c
        · have := b.hi m (by omega) a.le
          have := a.lo
          omega
      have u1 := up r1 s1
      have u2 := up r2 s2
      have hm : (L1.length - n1) + (L2.length - n2) ≤ n := by
        rcases hc with ⟨k, e⟩ | ⟨k, e⟩
        · have : m1 + 1 ≤ n1 := by
            by_cases c : m1 + 1 ≤ n1
            · exact c
            · have := s1.hi (m1 + 1) (by omega) k
              omega
          have := s1.le
          omega
        · have : m2 + 1 ≤ n2 := by
            by_cases c : m2 + 1 ≤ n2
            · exact c
            · have := s2.hi (m2 + 1) (by omega) k
              omega
          have := s2.le
          omega
      have hx2 : x ≤ 100000000000000000 := by
        rcases hc with ⟨k, e⟩ | ⟨k, e⟩
        · have := hB1 (m1 + 1) k
          omega
        · have := hB2 (m2 + 1) k
          omega
      obtain ⟨y, r, e, F⟩ := ih f (N + 400) x n1 n2 z4 z5 z6 z7 z8 z9 z10 p' (by omega) hm D2 s1 s2 (by omega) hx2 (by omega)
      refine ⟨y, r, by rw [h]; exact e, ?_⟩
      rcases F with ⟨e', rfl, a, A2, ne⟩ | ⟨rfl, A2⟩
      · refine .inl ⟨e', rfl, by omega, fun i a c => ?_, ne⟩
        by_cases z : i < x
        · exact A i a z
        · exact A2 i (by omega) c
      · refine .inr ⟨rfl, fun i a => ?_⟩
        by_cases z : i < x
        · exact A i a z
        · exact A2 i (by omega)
theorem wlen {L : List (Int × List Fq)} {w : List Fq} (g : GS L w) (p : Pool) (b : Nat) (h : True) : mLc (itS (mFld 1 1 (mVar 0))) (tgN 1) mYes (mCall cLen (mCons (mVar 1) mNil)) [1] ⟨b, [some (crs L w), none]⟩ p = .ok (.lst (lensP L w)) p := by
  have e0 : (L.map fun s => sW s.2) ++ [sW w] = ((L.map Prod.snd) ++ [w]).map sW := by
    rw [List.map_append, List.map_map]
    rfl
  have hf := g.few
  have e := mLc_all (it := itS (mFld 1 1 (mVar 0))) (g := tgN 1) (te := mCall cLen (mCons (mVar 1) mNil)) (vs := [1]) (en := ⟨b, [some (crs L w), none]⟩) (p := p) (p1 := p) (z := ⟨((L.map Prod.snd) ++ [w]).map sW, noCk⟩)
    (fun x => match x with | .tup ys => .int (ys.length : Nat) | _ => .non) (by
      rw [← e0]
      exact itS_lst (getF_ok (x := crs L w) (var_ok rfl) rfl)) (fun _ => rfl) (fun x hx => by
      obtain ⟨u, _, rfl⟩ := List.mem_map.mp hx
      refine ⟨[(1, sW u)], rfl, rfl, fun acc => ⟨?_, rfl⟩⟩
      exact len_ok (xs := u.map sh) (x := sW u) (var_ok rfl) rfl) (by
      show (((L.map Prod.snd) ++ [w]).map sW).length ≤ 1000000
      rw [List.length_map, List.length_append, List.length_map]
      show L.length + 1 ≤ _
      omega)
  rw [e]
  congr 2
  rw [List.map_map]
  unfold lensP
  refine List.map_congr_left fun u _ => ?_
  show PV.int ((u.map sh).length : Nat) = _
  rw [List.length_map]
theorem days_of_ok {L : List (Int × List Fq)} {w : List Fq} (g : GS L w) (p : Pool) (b : Nat) : m_days_of b [crs L w] p = .ok (.own p.length) (p ++ [dayO L w (p.length + 1), .dk []]) := by
  have e : b_days_of ⟨b, [some (crs L w), none]⟩ p = .ret (.own p.length) (p ++ [dayO L w (p.length + 1), .dk []]) := by
    unfold b_days_of sRetC
    show (match mCons _ (mCons _ mNil) (⟨b, [some (crs L w), none]⟩ : En) p with
      | .ok [B, Sp] p1 => Ctl.ret (PV.own p1.length) (p1 ++ [Cell.obj 2 [PV.clo 0 (crs L w), B, Sp, PV.own (p1.length + 1)], Cell.dk []])
      | _ => .stuck) = _
    rw [two_ok (getF_ok (x := crs L w) (y := .lst ((begs L L.length).map .int)) (var_ok rfl) rfl) (wlen g p b trivial)]
    rfl
  unfold m_days_of fnK
  show (match b_days_of ⟨b, [some (crs L w), none]⟩ p with
    | .ret x q => Res.ok x q
    | _ => .stuck) = _
  rw [e]
theorem wd_short {L : List (Int × List Fq)} {w : List Fq} (g : GS L w) (m : Nat) : (wdN L w m).length ≤ 100 := by
  unfold wdN
  cases e : ((L.map Prod.snd) ++ [w])[m]? with
  | none => exact Nat.zero_le _
  | some x =>
    have hx := List.mem_of_getElem? e
    rcases List.mem_append.mp hx with h | h
    · obtain ⟨s, hs, rfl⟩ := List.mem_map.mp h
      have := (g.wl s hs).2
      show s.2.length ≤ 100
      omega
    · rw [List.mem_singleton] at h
      subst h
      have := g.ll.2
      show x.length ≤ 100
      omega
theorem known0 {L : List (Int × List Fq)} {w : List Fq} : KnownBy L w [] := fun i x h => by
  cases h
theorem unlike_ok {L1 : List (Int × List Fq)} {w1 : List Fq} {L2 : List (Int × List Fq)} {w2 : List Fq} (g1 : GS L1 w1) (g2 : GS L2 w2) (hB1 : ∀ m, m ≤ L1.length → begN L1 m ≤ 100000000000000000) (hB2 : ∀ m, m ≤ L2.length → begN L2 m ≤ 100000000000000000) (p : Pool) :
    ∃ x, m_first_unlike [crs L1 w1, crs L2 w2] p = .ok x p ∧ FirstU L1 w1 L2 w2 0 x := by
  obtain ⟨P, hP⟩ : ∃ P, P = p ++ [dayO L1 w1 (p.length + 1), .dk [], dayO L2 w2 (p.length + 3), .dk []] := ⟨_, rfl⟩
  have D : DP L1 w1 L2 w2 p 0 P := ⟨[], [], hP, known0, known0, Nat.le_refl _, Nat.le_refl _⟩
  obtain ⟨n1, s1⟩ := reg_ex L1 (d := 0) (Int.le_refl 0)
  obtain ⟨n2, s2⟩ := reg_ex L2 (d := 0) (Int.le_refl 0)
  have f1 := g1.few
  have f2 := g2.few
  obtain ⟨x, r, e, F⟩ := ul_loop g1 g2 hB1 hB2 (wd_short g1) (wd_short g2) P.length (L1.length + L2.length) fuel 0 0 n1 n2 none none none none none none none P (by
    have : (120 : Nat) < fuel := by
      unfold fuel
      exact Nat.lt_of_lt_of_le (by decide : (120 : Nat) < 2 ^ 7) (Nat.pow_le_pow_right (by decide) (by decide))
    omega) (by omega) D s1 s2 (Int.le_refl 0) (by decide) (by
    show 0 + 400 * (L1.length + L2.length) + 1000 < 1000000
    omega)
  have bx : bel 0 x = true := by
    rcases F with ⟨_, rfl, _⟩ | ⟨rfl, _⟩ <;> rfl
  have hl : P.length = p.length + 4 := by rw [hP, List.length_append]; rfl
  have e2 : m_unlike_from [.own p.length, .own (p.length + 2), .int 0, .int 0] P = .ok x ((p ++ r).take P.length) := by
    unfold m_unlike_from
    rw [ul_is]
    exact fnM_ret (q := p ++ r) (show loopW _ ulBody fuel (uEn P.length p.length 0 none none none none none none none) P = _ from e) (thaw_bel bx)
  refine ⟨x, ?_, F⟩
  have a1 := days_of_ok g1 p p.length
  have a2 := days_of_ok g2 (p ++ [dayO L1 w1 (p.length + 1), .dk []]) p.length
  have l2 : (p ++ [dayO L1 w1 (p.length + 1), Cell.dk []]).length = p.length + 2 := by rw [List.length_append]; rfl
  rw [l2] at a2
  have e3 : (p ++ [dayO L1 w1 (p.length + 1), Cell.dk []]) ++ [dayO L2 w2 (p.length + 2 + 1), Cell.dk []] = P := by
    rw [hP, List.append_assoc]
    rfl
  rw [e3] at a2
  have mk1 : mMkS m_days_of (mCons (mVar 0) mNil) ⟨p.length, [some (crs L1 w1), some (crs L2 w2)]⟩ p = .ok (.own p.length) (p ++ [dayO L1 w1 (p.length + 1), .dk []]) := by
    unfold mMkS
    rw [one_ok (var_ok rfl)]
    dsimp only [Res.bind]
    rw [a1]
  have mk2 : mMkS m_days_of (mCons (mVar 1) mNil) ⟨p.length, [some (crs L1 w1), some (crs L2 w2)]⟩ (p ++ [dayO L1 w1 (p.length + 1), .dk []]) = .ok (.own (p.length + 2)) P := by
    unfold mMkS
    rw [one_ok (var_ok rfl)]
    dsimp only [Res.bind]
    rw [a2]
  have key : b_first_unlike ⟨p.length, [some (crs L1 w1), some (crs L2 w2)]⟩ p = .ret x ((p ++ r).take P.length) := by
    unfold b_first_unlike
    exact ret_ok (fn0_ok (cons_ok mk1 (cons_ok mk2 (two_ok c_ok c_ok))) e2)
  unfold m_first_unlike
  rw [fnM_ret (q := (p ++ r).take P.length) key (thaw_bel bx)]
  congr 1
  rw [List.take_take, Nat.min_eq_left (by omega), List.take_left]
theorem lc_drawn' {en : En} {p0 P : Pool} {k : Nat} {s0 : Cell} {te : M PV} {a : M (List PV)} {i n : Nat} (hl : k < P.length) (J : Nat → Cell → List PV → Prop) (ha : a en p0 = .ok [.int n] (P.set k s0)) (hn : n ≤ big) (h0 : J 0 s0 [])
    (h : ∀ j s acc c, j < n → J j s acc → ∃ y s', te (En.set ⟨P.length + 1, wipeE en.sl [i]⟩ i (.int j)) ((P ++ [c]).set k s) = .ok y ((P ++ [c]).set k s') ∧ bel P.length y = true ∧ J (j + 1) s' (acc ++ [y])) :
    ∃ acc s, mLc (itR1 a) (tgN i) mYes te [i] en p0 = .ok (.lst acc) (P.set k s) ∧ J n s acc := by
  have hP : (P.set k s0).length = P.length := List.length_set
  obtain ⟨acc, q, e, hq, s, rfl, hJ⟩ := lc_inv (it := itR1 a) (g := tgN i) (tt := mYes) (te := te) (vs := [i]) (fun j acc q => ∃ s, q = P.set k s ∧ J j s acc) (itR1_ok ha hn) (fun _ _ _ _ _ => rfl) (fun j hj acc q hq ⟨s, e, hJ⟩ => by
    subst e
    have hj2 : j < n := by rw [rng_len] at hj; exact hj
    obtain ⟨y, s', e1, e2, e3⟩ := h j s acc (.lst acc) hj2 hJ
    rw [hP]
    refine ⟨[(i, .int j)], by rw [rng_get n j hj]; rfl, by simp, .inr ⟨P.set k s, y, P.set k s', rfl, ?_, List.length_set, e2, s', rfl, e3⟩⟩
    rw [set_app hl, set_app hl]
    exact e1) (by rw [rng_len]; exact hn) ⟨s0, rfl, h0⟩
  rw [rng_len] at hJ
  exact ⟨acc, s, e, hJ⟩
structure Sq (q : Fq) : Prop where
  co : Co q
  t : q.1.natAbs ≤ 20
  b : q.2 ∣ 6
theorem Sq.b6 {q : Fq} (h : Sq q) : q.2 ≤ 6 := Int.le_of_dvd (by decide) h.b
theorem Sq.fr {q : Fq} (h : Sq q) : Fr q := fr_small h.co.pos (Nat.lt_of_le_of_lt h.t (by decide)) (by have := h.b6; have := h.co.pos; omega)
theorem lw_dv {a b : Int} (h : 0 < b) {D : Int} (hd : b ∣ D) : (lw a b).2 ∣ D := by
  refine Int.dvd_trans ⟨(Int.gcd a b : Int), ?_⟩ hd
  exact (fdiv_gcd2 (a := a) (b := b)).symm
theorem lw_sq {a b : Int} (h0 : 1 ≤ b) (h3 : b ≤ 3) (ha : a.natAbs ≤ 20) : Sq (lw a b) := by
  refine ⟨lw_co (by omega), ?_, ?_⟩
  · exact Nat.le_trans (lw_le (by omega)).2 ha
  · refine lw_dv (by omega) ?_
    have : b = 1 ∨ b = 2 ∨ b = 3 := by omega
    rcases this with rfl | rfl | rfl
    · exact ⟨6, rfl⟩
    · exact ⟨3, rfl⟩
    · exact ⟨2, rfl⟩
theorem bels_prs (n : Nat) (l : List Fq) : bels n (l.map pr) = true := bels_iff.mpr fun x hx => by
  obtain ⟨q, _, rfl⟩ := List.mem_map.mp hx
  rfl
theorem int3 {a b c : Int} (x : PV) (hx : x ∈ [PV.int a, .int b, .int c]) : ∃ m : Int, x = .int m ∧ (m = a ∨ m = b ∨ m = c) := by
  simp only [List.mem_cons, List.not_mem_nil, or_false] at hx
  rcases hx with rfl | rfl | rfl
  · exact ⟨_, rfl, .inl rfl⟩
  · exact ⟨_, rfl, .inr (.inl rfl)⟩
  · exact ⟨_, rfl, .inr (.inr rfl)⟩
theorem lword_ok (P : Pool) (k n : Nat) (s0 : Cell) (hl : k < P.length) (h0 : IsWell n s0) (hn : n ≤ 900000) (most : Nat) (far : Int) (hm1 : 1 ≤ most) (hm : most ≤ 10) (hf : far = 0 ∨ far = 1) :
    ∃ (ws : List Fq) (s : Cell), m_law_word [.own k, .int most, .int far] (P.set k s0) = .ok (.lst (ws.map pr)) (P.set k s) ∧ IsWell (n + 24) s ∧ 1 ≤ ws.length ∧ ws.length ≤ most ∧ ∀ q ∈ ws, Sq q := by
  have hP : ∀ s : Cell, (P.set k s).length = P.length := fun s => List.length_set
  obtain ⟨x1, s1, e1, h1, hx1⟩ := one_ok' P k n s0 [.int 1, .int 1, .int 3] hl h0 (by omega) (by decide) (by decide) rfl
  obtain ⟨m1, rfl, hm1'⟩ := int3 x1 hx1
  obtain ⟨d1, s2, e2, h2, a1, b1⟩ := draw_ok P k (n + 1) s1 m1 hl h1 (by omega) (by omega) (by omega)
  obtain ⟨x2, s3, e3, h3, hx2⟩ := one_ok' P k (n + 2) s2 [.int 2, .int 3, .int 7] hl h2 (by omega) (by decide) (by decide) rfl
  obtain ⟨m2, rfl, hm2'⟩ := int3 x2 hx2
  obtain ⟨d2, s4, e4, h4, a2, b2⟩ := draw_ok P k (n + 3) s3 most hl h3 (by omega) (by omega) (by omega)
  obtain ⟨c, hc, hc1, hcm⟩ : ∃ c : Nat, 1 + d2 = (c : Int) ∧ 1 ≤ c ∧ c ≤ most := ⟨(1 + d2).toNat, by omega, by omega, by omega⟩
  have bb : 1 ≤ 1 + d1 ∧ 1 + d1 ≤ 3 := by omega
  obtain ⟨acc, s, e, ws, rfl, hw, hlen, hq⟩ := lc_drawn' (p0 := P.set k s3) (en := ⟨P.length, [some (.own k), some (.int most), some (.int far), some (.int (1 + d1)), some (.int m2), none]⟩) (i := 5) (n := c) (s0 := s4)
    (a := mCons (mBin pAdd (mC (.int 1)) (mFn m_law_draw [] (mCons (mVar 0) (mCons (mVar 1) mNil)))) mNil)
    (te := mFn m_law_low [] (mCons (mBin pSub (mFn m_law_draw [] (mCons (mVar 0) (mCons (mVar 4) mNil))) (mBin pMul (mVar 2) (mFn m_law_draw [] (mCons (mVar 0) (mCons (mC (.int 3)) mNil))))) (mCons (mVar 3) mNil))) hl
    (fun j s acc => ∃ ws : List Fq, acc = ws.map pr ∧ IsWell (n + 4 + 2 * j) s ∧ ws.length = j ∧ ∀ q ∈ ws, Sq q) (by
      rw [← hc]
      exact one_ok (add_ok c_ok (fn0_ok (two_ok (var_ok rfl) (var_ok rfl)) e4))) (Nat.le_trans hcm (Nat.le_trans hm (by decide))) ⟨[], rfl, h4, rfl, fun _ h => nomatch h⟩ (fun j s acc c' hj ⟨ws, ea, hw, hlen, hq⟩ => by
      have hl2 : k < (P ++ [c']).length := by rw [len1]; omega
      obtain ⟨t1, u1, f1, g1, r1, r2⟩ := draw_ok (P ++ [c']) k (n + 4 + 2 * j) s m2 hl2 hw (by omega) (by omega) (by omega)
      obtain ⟨t2, u2, f2, g2, r3, r4⟩ := draw_ok (P ++ [c']) k (n + 4 + 2 * j + 1) u1 3 hl2 g1 (by omega) (by decide) (by decide)
      have ea' : (t1 - far * t2).natAbs ≤ 20 := by
        rcases hf with rfl | rfl <;> omega
      have f3 := low_ok (t1 - far * t2) (1 + d1) ((P ++ [c']).set k u2) (by omega) (small_fuel (by omega))
      refine ⟨pr (lw (t1 - far * t2) (1 + d1)), u2, ?_, bel_pr _ _, ws ++ [lw (t1 - far * t2) (1 + d1)], by rw [ea, List.map_append]; rfl, g2, by rw [List.length_append, hlen]; rfl, fun q hq' => ?_⟩
      · exact fn0_ok (two_ok (sub_ok (fn0_ok (two_ok (var_ok rfl) (var_ok rfl)) f1) (mul_ok (var_ok rfl) (fn0_ok (two_ok (var_ok rfl) c_ok) f2) (decide_eq_true (.inl (.inr (by omega)))))) (var_ok rfl)) f3
      · rcases List.mem_append.mp hq' with h | h
        · exact hq q h
        · rw [List.mem_singleton.mp h]
          exact lw_sq bb.1 bb.2 ea')
  refine ⟨ws, s, fnM_end (q := P.set k s) (by rw [hP, hP]) (bels_prs 0 ws) ?_, hw.mono (by omega), by omega, by omega, hq⟩
  show Ends (b_law_word ⟨(P.set k s0).length, [some (.own k), some (.int most), some (.int far), none, none, none]⟩ (P.set k s0)) _
  rw [hP]
  unfold b_law_word
  refine go_seq_set (add_ok c_ok (fn0_ok (two_ok (var_ok rfl) (fn0_ok (two_ok (var_ok rfl) (lst_ok (three_ok c_ok c_ok c_ok))) e1)) e2)) ?_
  refine go_seq_set (fn0_ok (two_ok (var_ok rfl) (lst_ok (three_ok c_ok c_ok c_ok))) e3) ?_
  exact go_ret e ⟨[], by rw [List.append_nil]⟩
structure WQ (L : List (Int × List Fq)) (w : List Fq) : Prop where
  l : ∀ s ∈ L, ∀ q ∈ s.2, Sq q
  w : ∀ q ∈ w, Sq q
theorem bels_told (n : Nat) {f : Fq → PV} (hf : ∀ q, bel n (f q) = true) (L : List (Int × List Fq)) (w : List Fq) : bels n (toldP f L w) = true := by
  have e : ∀ w : List Fq, bels n (w.map f) = true := fun w => bels_iff.mpr fun x hx => by
    obtain ⟨q, _, rfl⟩ := List.mem_map.mp hx
    exact hf q
  refine bels_iff.mpr fun x hx => ?_
  rcases List.mem_append.mp hx with hx | hx
  · obtain ⟨s, _, rfl⟩ := List.mem_map.mp hx
    show (true && (bels n (s.2.map f) && true)) = true
    rw [e]
    rfl
  · rw [List.mem_singleton.mp hx]
    show (true && (bels n (w.map f) && true)) = true
    rw [e]
    rfl
def optP : Option Int → PV
  | some i => .int i
  | none => .non
def optL (L : List (Int × List Fq)) (w : List Fq) : List (Option Int × List Fq) := (L.map fun s => ((some s.1, s.2) : Option Int × List Fq)) ++ [((none, w) : Option Int × List Fq)]
theorem opt_told (f : Fq → PV) (L : List (Int × List Fq)) (w : List Fq) : (optL L w).map (fun s => PV.tup [optP s.1, .lst (s.2.map f)]) = toldP f L w := by
  unfold optL
  rw [List.map_append, List.map_map]
  rfl
theorem opt_st (L : List (Int × List Fq)) (w : List Fq) : (optL L w).map (fun s => PV.tup [optP s.1, sW s.2]) = stP L w := by
  unfold optL
  rw [List.map_append, List.map_map]
  rfl
theorem opt_len {L : List (Int × List Fq)} {w : List Fq} (g : GS L w) : (optL L w).length ≤ 60 := by
  unfold optL
  rw [List.length_append, List.length_map]
  exact g.few
theorem bel_opt (n : Nat) (o : Option Int) : bel n (optP o) = true := by cases o <;> rfl
theorem st_DD {L : List (Int × List Fq)} {w : List Fq} (g : GS L w) {N : Nat} (h : 60 ≤ N) : ∀ y ∈ stP L w, DD N 2 y := fun y hy => by
  have e : ∀ w : List Fq, w.length ≤ 60 → DD N 1 (sW w) := fun w hw => .tup (by rw [List.length_map]; omega) fun x hx => by
    obtain ⟨q, _, rfl⟩ := List.mem_map.mp hx
    exact .sh q
  rcases List.mem_append.mp hy with hy | hy
  · obtain ⟨s, hs, rfl⟩ := List.mem_map.mp hy
    refine .tup (by show 2 ≤ N; omega) fun x hx => ?_
    rcases List.mem_cons.mp hx with rfl | hx
    · exact .atom (show DA (.int s.1) from trivial) 1
    · rw [List.mem_singleton.mp hx]
      exact e _ (g.wl s hs).2
  · rw [List.mem_singleton.mp hy]
    refine .tup (by show 2 ≤ N; omega) fun x hx => ?_
    rcases List.mem_cons.mp hx with rfl | hx
    · exact .atom (show DA .non from trivial) 1
    · rw [List.mem_singleton.mp hx]
      exact e _ g.ll.2
theorem go_join {a b : S} {en : En} {p : Pool} {R : Ctl → Prop} (J : En → Pool → Prop) (h : Ends (a en p) fun c => ∃ en' p', c = .next en' p' ∧ J en' p') (k : ∀ en' p', J en' p' → Ends (b en' p') R) : Ends (sSeq a b en p) R := go_seq (h.mono fun c ⟨en', p', e, j⟩ => by
  subst e
  exact k en' p' j)
theorem cut_from' (l : List PV) {m : Nat} (h : m ≤ l.length) : cut l (some (m : Int)) none = l.drop m := by
  unfold cut
  rw [HT.sIx_none, HT.sIx_nat, Nat.min_eq_left h, List.take_of_length_le (by rw [List.length_drop]; exact Nat.le_refl _)]
theorem cut_to' (l : List PV) {m : Nat} (h : m ≤ l.length) : cut l none (some (m : Int)) = l.take m := by
  unfold cut
  rw [HT.sIx_none, HT.sIx_nat, Nat.min_eq_left h, List.drop_zero, Nat.sub_zero]
theorem sl_fromL {m a : M PV} {xs : List PV} {i : Nat} {en : En} {p : Pool} (h : m en p = .ok (.lst xs) p) (ha : a en p = .ok (.int (i : Int)) p) (hi : i ≤ xs.length) : mSl m (oYes a) oNo en p = .ok (.lst (xs.drop i)) p := by
  unfold mSl oYes
  rw [h]
  dsimp only [Res.bind]
  rw [ha]
  show Res.ok (PV.lst (cut xs (some (i : Int)) none)) p = _
  rw [cut_from' xs hi]
theorem sl_uptoL {m a : M PV} {xs : List PV} {i : Nat} {en : En} {p : Pool} (h : m en p = .ok (.lst xs) p) (ha : a en p = .ok (.int (i : Int)) p) (hi : i ≤ xs.length) : mSl m oNo (oYes a) en p = .ok (.lst (xs.take i)) p := by
  unfold mSl oYes
  rw [h]
  dsimp only [Res.bind]
  show ((a en p).bind _).bind _ = _
  rw [ha]
  show Res.ok (PV.lst (cut xs none (some (i : Int)))) p = _
  rw [cut_to' xs hi]
theorem pAdd_lst' {xs ys : List PV} {p : Pool} (h : xs.length + ys.length ≤ big) : pAdd (.lst xs) (.lst ys) p = .ok (.lst (xs ++ ys)) p := by
  unfold pAdd
  dsimp only [getL]
  rw [if_pos h]
theorem rot_map' (f : Fq → PV) (w : List Fq) (m : Nat) : (rot w m).map f = (w.map f).drop m ++ (w.map f).take m := by
  unfold rot
  rw [List.map_append, List.map_drop, List.map_take]
theorem turned_ok {w : List Fq} (h1 : 1 ≤ w.length) (hw : w.length ≤ 60) (h : Int) (p : Pool) : m_law_turned [.lst (w.map pr), .int h] p = .ok (.lst ((rotI w h).map pr)) p := by
  obtain ⟨a, b⟩ := rotI_m h1 h
  obtain ⟨i, hi⟩ : ∃ i, i = (h % (w.length : Int)).toNat := ⟨_, rfl⟩
  have er : rotI w h = rot w i := by rw [hi]; rfl
  rw [er]
  rw [← hi] at a b
  have hm : h.fmod ((w.length : Nat) : Int) = (i : Int) := by rw [Int.fmod_eq_emod_of_nonneg _ (by omega), b]
  refine fnM_end (q := p) rfl (bels_prs 0 _) ?_
  show Ends (b_law_turned ⟨p.length, [some (.lst (w.map pr)), some (.int h)]⟩ p) _
  unfold b_law_turned
  have ln : mCall cLen (mCons (mVar 0) mNil) ⟨p.length, [some (.lst (w.map pr)), some (.int h)]⟩ p = .ok (.int (w.length : Nat)) p := by
    have e := len_ok (xs := w.map pr) (var_ok (i := 0) (x := .lst (w.map pr)) (en := ⟨p.length, [some (.lst (w.map pr)), some (.int h)]⟩) (p := p) rfl) rfl
    rw [List.length_map] at e
    exact e
  refine go_seq_set (mod_ok (var_ok rfl) ln (okMod_ne (by omega))) ?_
  rw [hm]
  have hl : i ≤ (w.map pr).length := by rw [List.length_map]; exact a
  have v1 : mVar 1 ⟨p.length, [some (.lst (w.map pr)), some (.int (i : Int))]⟩ p = .ok (.int (i : Int)) p := var_ok rfl
  have v0 : mVar 0 ⟨p.length, [some (.lst (w.map pr)), some (.int (i : Int))]⟩ p = .ok (.lst (w.map pr)) p := var_ok rfl
  have e := pAdd_lst' (xs := (w.map pr).drop i) (ys := (w.map pr).take i) (p := p) (by
    rw [List.length_drop, List.length_take, List.length_map]
    exact Nat.le_trans (by omega : w.length - i + min i w.length ≤ 2000) (by decide))
  rw [← rot_map'] at e
  exact go_ret (bin_ok (sl_fromL v0 v1 hl) (sl_uptoL v0 v1 hl) e) ⟨[], by rw [List.append_nil]⟩
def cutBody : S := (sSeq (sSet (mBin pSub (mVar 1) (mVar 3)) 6)
    (sSeq (sIf (mAnd (mB (mBin pGt (mVar 6) (mC (.int 0)))) (mOr (mB (mBin pIsN1 (mVar 4) (mC .non))) (mB (mBin pLt (mVar 6) (mVar 4)))))
    (sSeq (sExpr (mMet fAppend (mVar 2) (mCons (mTup (mCons (mVar 6) (mCons (mVar 5) mNil))) mNil)))
    (sSeq (sSet (mC .non) 7)
    (sSeq (sIf (mB (mBin pNotN1 (mVar 4) (mC .non)))
    (sSet (mBin pSub (mVar 4) (mVar 6)) 7)
    sNop)
    (sExpr (mMet fAppend (mVar 2) (mCons (mTup (mCons (mVar 7) (mCons (mFn m_law_turned [] (mCons (mVar 5) (mCons (mVar 6) mNil))) mNil))) mNil))))))
    (sExpr (mMet fAppend (mVar 2) (mCons (mTup (mCons (mVar 4) (mCons (mVar 5) mNil))) mNil))))
    (sIf (mB (mBin pNotN1 (mVar 4) (mC .non)))
    (sSet (mBin pAdd (mVar 3) (mVar 4)) 3)
    sNop)))
def cEn (b : Nat) (z : PV) (day : Int) (k : Nat) (at_ : Int) (y4 y5 y6 y7 : Option PV) : En := ⟨b, [some z, some (.int day), some (.own k), some (.int at_), y4, y5, y6, y7]⟩
theorem app_last {i : Nat} {a : M PV} {en : En} {p : Pool} {acc : List PV} {y : PV} (h1 : en.sl[i]? = some (some (.own p.length))) (ha : a en (p ++ [.lst acc]) = .ok y (p ++ [.lst acc])) (hb : en.b ≤ p.length) (hl : acc.length < big) :
    sExpr (mMet fAppend (mVar i) (mCons a mNil)) en (p ++ [.lst acc]) = .next en (p ++ [.lst (acc ++ [y])]) := by
  have e := app_nx (en := en) (p := p ++ [.lst acc]) (k := p.length) (xs0 := acc) (xs := acc) (y := y) h1 (get_last _ _) ha (get_last _ _) (mayL_le hb) hl
  rw [e, set_last]
def onI (x : Option Int) (w : List Fq) : PV := .tup [optP x, .lst (w.map pr)]
def piece (x : Option Int) (u : List Fq) (h : Int) : List PV := match x with
  | some d => if 0 < h ∧ h < d then [onI (some h) u, onI (some (d - h)) (rotI u h)] else [onI (some d) u]
  | none => if 0 < h then [onI (some h) u, onI none (rotI u h)] else [onI none u]
theorem piece_ok {x : Option Int} {u : List Fq} (h1 : 1 ≤ u.length) (h60 : u.length ≤ 60) {b : Nat} {z : PV} {day at_ : Int} {y6 y7 : Option PV} {p : Pool} {acc : List PV} (hb : b ≤ p.length) (hl : acc.length + 2 < big) :
    ∃ y6' y7', cutBody (cEn b z day p.length at_ (some (optP x)) (some (.lst (u.map pr))) y6 y7) (p ++ [.lst acc]) = .next (cEn b z day p.length (at_ + x.getD 0) (some (optP x)) (some (.lst (u.map pr))) y6' y7') (p ++ [.lst (acc ++ piece x u (day - at_))]) := by
  have key : Ends (cutBody (cEn b z day p.length at_ (some (optP x)) (some (.lst (u.map pr))) y6 y7) (p ++ [.lst acc])) (fun c => ∃ y6' y7', c = .next (cEn b z day p.length (at_ + x.getD 0) (some (optP x)) (some (.lst (u.map pr))) y6' y7') (p ++ [.lst (acc ++ piece x u (day - at_))])) := by
    unfold cutBody cEn
    refine go_seq_set (x := .int (day - at_)) (sub_ok (var_ok rfl) (var_ok rfl)) ?_
    generalize hh : day - at_ = h
    have done : ∀ (y7 : Option PV) (acc' : List PV), Ends (sIf (mB (mBin pNotN1 (mVar 4) (mC .non))) (sSet (mBin pAdd (mVar 3) (mVar 4)) 3) sNop ⟨b, [some z, some (.int day), some (.own p.length), some (.int at_), some (optP x), some (.lst (u.map pr)), some (.int h), y7]⟩ (p ++ [.lst acc']))
        (fun c => ∃ y6' y7', c = .next ⟨b, [some z, some (.int day), some (.own p.length), some (.int (at_ + x.getD 0)), some (optP x), some (.lst (u.map pr)), y6', y7']⟩ (p ++ [.lst acc'])) := fun y7 acc' => by
      cases x with
      | none =>
        refine go_if_f (b_ok (bin_ok (x := .non) (y := .non) (var_ok rfl) c_ok rfl)) (go_nop ⟨some (.int h), y7, ?_⟩)
        show _ = Ctl.next ⟨b, [_, _, _, some (.int (at_ + 0)), _, _, _, _]⟩ _
        rw [Int.add_zero]
      | some d => exact go_if_t (b_ok (bin_ok (x := .int d) (y := .non) (var_ok rfl) c_ok rfl)) (go_set (add_ok (var_ok rfl) (var_ok rfl)) ⟨_, y7, rfl⟩)
    have gt : mB (mBin pGt (mVar 6) (mC (.int 0))) ⟨b, [some z, some (.int day), some (.own p.length), some (.int at_), some (optP x), some (.lst (u.map pr)), some (.int h), y7]⟩ (p ++ [.lst acc]) = .ok (decide (h > 0)) (p ++ [.lst acc]) := b_ok (bin_ok (x := .int h) (y := .int 0) (var_ok rfl) c_ok rfl)
    have plain : Ends (sSeq (sExpr (mMet fAppend (mVar 2) (mCons (mTup (mCons (mVar 4) (mCons (mVar 5) mNil))) mNil))) (sIf (mB (mBin pNotN1 (mVar 4) (mC .non))) (sSet (mBin pAdd (mVar 3) (mVar 4)) 3) sNop) ⟨b, [some z, some (.int day), some (.own p.length), some (.int at_), some (optP x), some (.lst (u.map pr)), some (.int h), y7]⟩ (p ++ [.lst acc]))
        (fun c => ∃ y6' y7', c = .next ⟨b, [some z, some (.int day), some (.own p.length), some (.int (at_ + x.getD 0)), some (optP x), some (.lst (u.map pr)), y6', y7']⟩ (p ++ [.lst (acc ++ [onI x u])])) :=
      go_seq_nx (app_last rfl (tup_ok (two_ok (var_ok rfl) (var_ok rfl))) hb (by omega)) (done _ _)
    have two : ∀ (r : Option Int), (x = none → r = none) → (∀ d, x = some d → r = some (d - h)) → Ends (sSeq (sSeq (sExpr (mMet fAppend (mVar 2) (mCons (mTup (mCons (mVar 6) (mCons (mVar 5) mNil))) mNil)))
      (sSeq (sSet (mC .non) 7)
      (sSeq (sIf (mB (mBin pNotN1 (mVar 4) (mC .non)))
      (sSet (mBin pSub (mVar 4) (mVar 6)) 7)
      sNop)
      (sExpr (mMet fAppend (mVar 2) (mCons (mTup (mCons (mVar 7) (mCons (mFn m_law_turned [] (mCons (mVar 5) (mCons (mVar 6) mNil))) mNil))) mNil))))))
      (sIf (mB (mBin pNotN1 (mVar 4) (mC .non))) (sSet (mBin pAdd (mVar 3) (mVar 4)) 3) sNop) ⟨b, [some z, some (.int day), some (.own p.length), some (.int at_), some (optP x), some (.lst (u.map pr)), some (.int h), y7]⟩ (p ++ [.lst acc]))
        (fun c => ∃ y6' y7', c = .next ⟨b, [some z, some (.int day), some (.own p.length), some (.int (at_ + x.getD 0)), some (optP x), some (.lst (u.map pr)), y6', y7']⟩ (p ++ [.lst (acc ++ [onI (some h) u, onI r (rotI u h)])])) := fun r r0 r1 => by
      refine go_assoc (go_seq_nx (app_last rfl (tup_ok (two_ok (var_ok rfl) (var_ok rfl))) hb (by omega)) ?_)
      refine go_assoc (go_seq_set c_ok ?_)
      refine go_assoc (go_join (fun en' p' => en' = ⟨b, [some z, some (.int day), some (.own p.length), some (.int at_), some (optP x), some (.lst (u.map pr)), some (.int h), some (optP r)]⟩ ∧ p' = p ++ [.lst (acc ++ [onI (some h) u])]) ?_ (fun en' p' ⟨e1, e2⟩ => ?_))
      · cases x with
        | none =>
          rw [r0 rfl]
          exact go_if_f (b_ok (bin_ok (x := .non) (y := .non) (var_ok rfl) c_ok rfl)) (go_nop ⟨_, _, rfl, rfl, rfl⟩)
        | some d =>
          rw [r1 d rfl]
          exact go_if_t (b_ok (bin_ok (x := .int d) (y := .non) (var_ok rfl) c_ok rfl)) (go_set (x := .int (d - h)) (sub_ok (var_ok rfl) (var_ok rfl)) ⟨_, _, rfl, rfl, rfl⟩)
      · subst e1
        subst e2
        refine go_seq_nx (app_last rfl (tup_ok (two_ok (var_ok rfl) (fn0_ok (two_ok (var_ok rfl) (var_ok rfl)) (turned_ok h1 h60 h _)))) hb (by rw [List.length_append]; show acc.length + 1 < big; omega)) ?_
        exact (done (some (optP r)) (acc ++ [onI (some h) u] ++ [onI r (rotI u h)])).mono fun c ⟨a, b', hc⟩ => ⟨a, b', by
          rw [hc, List.append_assoc]
          rfl⟩
    cases x with
    | none =>
      have isn : mB (mBin pIsN1 (mVar 4) (mC .non)) ⟨b, [some z, some (.int day), some (.own p.length), some (.int at_), some .non, some (.lst (u.map pr)), some (.int h), y7]⟩ (p ++ [.lst acc]) = .ok true (p ++ [.lst acc]) := b_ok (bin_ok (x := .non) (y := .non) (var_ok rfl) c_ok rfl)
      by_cases c : 0 < h
      · have gt' := gt
        rw [decide_eq_true (show h > 0 from c)] at gt'
        have ep : piece none u h = [onI (some h) u, onI none (rotI u h)] := if_pos c
        rw [ep]
        exact go_seq_if_t ((and_t gt').trans (or_t isn)) (two none (fun _ => rfl) (fun d e => by cases e))
      · have gt' := gt
        rw [decide_eq_false (show ¬ h > 0 from c)] at gt'
        have ep : piece none u h = [onI none u] := if_neg c
        rw [ep]
        exact go_seq_if_f (and_f gt') plain
    | some d =>
      have isn : mB (mBin pIsN1 (mVar 4) (mC .non)) ⟨b, [some z, some (.int day), some (.own p.length), some (.int at_), some (.int d), some (.lst (u.map pr)), some (.int h), y7]⟩ (p ++ [.lst acc]) = .ok false (p ++ [.lst acc]) := b_ok (bin_ok (x := .int d) (y := .non) (var_ok rfl) c_ok rfl)
      have lt : mB (mBin pLt (mVar 6) (mVar 4)) ⟨b, [some z, some (.int day), some (.own p.length), some (.int at_), some (.int d), some (.lst (u.map pr)), some (.int h), y7]⟩ (p ++ [.lst acc]) = .ok (decide (h < d)) (p ++ [.lst acc]) := b_ok (lt_ok (var_ok rfl) (var_ok rfl))
      by_cases c : 0 < h
      · have gt' := gt
        rw [decide_eq_true (show h > 0 from c)] at gt'
        by_cases c2 : h < d
        · have lt' := lt
          rw [decide_eq_true c2] at lt'
          have ep : piece (some d) u h = [onI (some h) u, onI (some (d - h)) (rotI u h)] := if_pos ⟨c, c2⟩
          rw [ep]
          exact go_seq_if_t ((and_t gt').trans ((or_f isn).trans lt')) (two (some (d - h)) (fun e => by cases e) (fun d' e => by cases e; rfl))
        · have lt' := lt
          rw [decide_eq_false c2] at lt'
          have ep : piece (some d) u h = [onI (some d) u] := if_neg (fun x => c2 x.2)
          rw [ep]
          exact go_seq_if_f ((and_t gt').trans ((or_f isn).trans lt')) plain
      · have gt' := gt
        rw [decide_eq_false (show ¬ h > 0 from c)] at gt'
        have ep : piece (some d) u h = [onI (some d) u] := if_neg (fun x => c x.1)
        rw [ep]
        exact go_seq_if_f (and_f gt') plain
  exact key.h
theorem told_cons (s : Int × List Fq) (L : List (Int × List Fq)) (w : List Fq) : toldP pr (s :: L) w = onI (some s.1) s.2 :: toldP pr L w := rfl
theorem told_nil (w : List Fq) : toldP pr [] w = [onI none w] := rfl
theorem told_app (K L : List (Int × List Fq)) (w : List Fq) : toldP pr (K ++ L) w = K.map (toldE pr) ++ toldP pr L w := by
  unfold toldP
  rw [List.map_append, List.append_assoc]
theorem piece_some (s : Int × List Fq) (h : Int) : piece (some s.1) s.2 h = (if 0 < h ∧ h < s.1 then [(h, s.2), (s.1 - h, rotI s.2 h)] else [s]).map (toldE pr) := by
  unfold piece
  dsimp only
  split <;> rfl
theorem cut_loop {W : Nat} (hW : W ≤ 60) {P : Fq → Prop} {ck : Pool → Bool} {b : Nat} {z : PV} {day : Int} {p : Pool} (hb : b ≤ p.length) (hck : ∀ acc, ck (p ++ [.lst acc]) = true) : ∀ (L : List (Int × List Fq)) (w : List Fq) (acc : List PV) (at_ : Int) (y4 y5 y6 y7 : Option PV), CC P W L w → acc.length + 2 * L.length + 2 < big →
    ∃ at' y4' y5' y6' y7', loopF ck (tgT 2 (tgCons (tgN 4) (tgCons (tgN 5) tgNil))) cutBody (toldP pr L w) (cEn b z day p.length at_ y4 y5 y6 y7) (p ++ [.lst acc]) = .next (cEn b z day p.length at' y4' y5' y6' y7') (p ++ [.lst (acc ++ toldP pr (cutL L w (day - at_)) (cutW L w (day - at_)))])
  | [], w, acc, at_, y4, y5, y6, y7, c, hl => by
    have hl : acc.length + 0 + 2 < big := hl
    obtain ⟨y6', y7', e⟩ := piece_ok (x := none) (y6 := y6) (y7 := y7) (b := b) (z := z) (day := day) (at_ := at_) c.ll.1 (Nat.le_trans c.ll.2 hW) hb (by omega : acc.length + 2 < big)
    refine ⟨at_ + (none : Option Int).getD 0, some .non, some (.lst (w.map pr)), y6', y7', ?_⟩
    rw [told_nil, for_nx (as := [(4, .non), (5, .lst (w.map pr))]) (hck _) rfl e, for_end (hck _)]
    congr 3
    unfold cutL cutW piece
    dsimp only
    by_cases h : 0 < day - at_
    · rw [if_pos h, if_pos h, if_pos h]
      rfl
    · rw [if_neg h, if_neg h, if_neg h]
      rfl
  | s :: L, w, acc, at_, y4, y5, y6, y7, c, hl => by
    have hl : acc.length + 2 * (L.length + 1) + 2 < big := hl
    have hs := c.wl s List.mem_cons_self
    obtain ⟨y6', y7', e⟩ := piece_ok (x := some s.1) (y6 := y6) (y7 := y7) (b := b) (z := z) (day := day) (at_ := at_) hs.1 (Nat.le_trans hs.2 hW) hb (by omega : acc.length + 2 < big)
    have pl : (piece (some s.1) s.2 (day - at_)).length ≤ 2 := by
      unfold piece
      dsimp only
      split <;> simp
    obtain ⟨a', z4, z5, z6, z7, ih⟩ := cut_loop hW hb hck L w (acc ++ piece (some s.1) s.2 (day - at_)) (at_ + s.1) (some (.int s.1)) (some (.lst (s.2.map pr))) y6' y7' c.tl (by rw [List.length_append]; omega)
    refine ⟨a', z4, z5, z6, z7, ?_⟩
    rw [told_cons, for_nx (as := [(4, .int s.1), (5, .lst (s.2.map pr))]) (hck _) rfl e]
    refine ih.trans ?_
    rw [show day - (at_ + s.1) = day - at_ - s.1 by omega, piece_some]
    congr 3
    refine congrArg Cell.lst ?_
    show _ = acc ++ toldP pr ((if 0 < day - at_ ∧ day - at_ < s.1 then [(day - at_, s.2), (s.1 - (day - at_), rotI s.2 (day - at_))] else [s]) ++ cutL L w (day - at_ - s.1)) (cutW L w (day - at_ - s.1))
    rw [told_app, List.append_assoc]
theorem cut_ok {W : Nat} (hW : W ≤ 60) {P : Fq → Prop} {L : List (Int × List Fq)} {w : List Fq} (c : CC P W L w) (hl : L.length ≤ 100) {z : PV} {p : Pool} {ck : Pool → Bool} (H : HndX z (toldP pr L w) p ck) (day : Int) :
    m_law_cut [z, .int day] p = .ok (.own p.length) (p ++ [.lst (toldP pr (cutL L w day) (cutW L w day))]) := by
  refine fnO_end (bels_told _ (bel_pr _) _ _) ?_
  show Ends (b_law_cut ⟨p.length, [some z, some (.int day), none, none, none, none, none, none]⟩ p) _
  unfold b_law_cut
  refine go_seq_set (lstO_ok nil_ok) ?_
  refine go_seq_set c_ok ?_
  obtain ⟨at', y4, y5, y6, y7, e⟩ := cut_loop hW (b := p.length) (z := z) (day := day) (p := p) (Nat.le_refl _) (fun acc => by
    have h := (H.h []).ck acc
    rw [List.append_nil] at h
    exact h) L w [] 0 none none none none c (by
    show 0 + 2 * L.length + 2 < 1000000
    omega)
  have e2 : sFor (itS (mVar 0)) (tgT 2 (tgCons (tgN 4) (tgCons (tgN 5) tgNil))) cutBody ⟨p.length, [some z, some (.int day), some (.own p.length), some (.int 0), none, none, none, none]⟩ (p ++ [.lst []]) = .next (cEn p.length z day p.length at' y4 y5 y6 y7) (p ++ [.lst (toldP pr (cutL L w day) (cutW L w day))]) := by
    have e := e
    rw [Int.sub_zero, List.nil_append] at e
    exact sFor_ok ((H.h [.lst []]).it (var_ok rfl)) e
  refine go_seq_nx e2 ?_
  exact go_ret (var_ok rfl) ⟨[], rfl⟩
structure S2 (q : Fq) : Prop where
  co : Co q
  t : q.1.natAbs ≤ 200
  b : q.2 ∣ 6
theorem Sq.s2 {q : Fq} (h : Sq q) : S2 q := ⟨h.co, Nat.le_trans h.t (by decide), h.b⟩
theorem S2.b6 {q : Fq} (h : S2 q) : q.2 ≤ 6 := Int.le_of_dvd (by decide) h.b
theorem S2.fr {q : Fq} (h : S2 q) : Fr q := fr_small h.co.pos (Nat.lt_of_le_of_lt h.t (by decide)) (by have := h.b6; have := h.co.pos; omega)
def sumk (k : Int) (q : Fq) : Fq := lw (q.1 * 2 + k * q.2) (q.2 * 2)
theorem lw_dvm {a b D : Int} (h : 0 < b) (hd : b ∣ a * D) : (lw a b).2 ∣ D := by
  have c := (lw_co (a := a) h).co
  have hg := gcd_pos (a := a) (b := b) (by omega)
  have e1 : (lw a b).1 * (Int.gcd a b : Int) = a := fdiv_gcd
  have e2 : (lw a b).2 * (Int.gcd a b : Int) = b := fdiv_gcd2
  obtain ⟨m, hm⟩ := hd
  have e3 : (lw a b).2 ∣ (lw a b).1 * D := ⟨m, by
    have : (Int.gcd a b : Int) * ((lw a b).1 * D) = (Int.gcd a b : Int) * ((lw a b).2 * m) := by
      rw [← Int.mul_assoc, ← Int.mul_assoc, Int.mul_comm _ (lw a b).1, Int.mul_comm _ (lw a b).2, e1, e2, hm]
    exact Int.eq_of_mul_eq_mul_left (by omega) this⟩
  have c1 : Nat.Coprime (lw a b).2.natAbs (lw a b).1.natAbs := Nat.Coprime.symm c
  have d : (lw a b).2.natAbs ∣ (lw a b).1.natAbs * D.natAbs := by
    rw [← Int.natAbs_mul]
    exact Int.natAbs_dvd_natAbs.mpr e3
  exact Int.natAbs_dvd_natAbs.mp (c1.dvd_of_dvd_mul_left d)
theorem sumk_ne {q : Fq} (h : Sq q) {k : Int} (k1 : 1 ≤ k) : sumk k q ≠ q := fun e => by
  have hp := h.co.pos
  have e1 : (lw (q.1 * 2 + k * q.2) (q.2 * 2)).1 * (Int.gcd (q.1 * 2 + k * q.2) (q.2 * 2) : Int) = q.1 * 2 + k * q.2 := fdiv_gcd
  have e2 : (lw (q.1 * 2 + k * q.2) (q.2 * 2)).2 * (Int.gcd (q.1 * 2 + k * q.2) (q.2 * 2) : Int) = q.2 * 2 := fdiv_gcd2
  have e0 : lw (q.1 * 2 + k * q.2) (q.2 * 2) = q := e
  rw [e0] at e1 e2
  have g2 := Int.eq_of_mul_eq_mul_left (by omega : q.2 ≠ 0) e2
  rw [g2] at e1
  have : 0 < k * q.2 := Int.mul_pos (by omega) hp
  omega
theorem sumk_abs {q : Fq} (h : Sq q) {k : Int} (k1 : 1 ≤ k) (k3 : k ≤ 3) : (q.1 * 2 + k * q.2).natAbs ≤ 58 := by
  have a := h.t
  have b := h.b6
  have c := h.co.pos
  have : k = 1 ∨ k = 2 ∨ k = 3 := by omega
  rcases this with rfl | rfl | rfl <;> omega
theorem sumk_s2 {q : Fq} (h : Sq q) {k : Int} (k1 : 1 ≤ k) (k3 : k ≤ 3) : S2 (sumk k q) := by
  have hp := h.co.pos
  refine ⟨lw_co (by omega), ?_, ?_⟩
  · have a := (lw_le (a := q.1 * 2 + k * q.2) (b := q.2 * 2) (by omega)).2
    have b := sumk_abs h k1 k3
    show (lw (q.1 * 2 + k * q.2) (q.2 * 2)).1.natAbs ≤ 200
    omega
  · refine lw_dvm (by omega) ?_
    obtain ⟨m, hm⟩ := h.b
    refine ⟨q.1 * m + k * 3, ?_⟩
    have e1 : (q.1 * 2 + k * q.2) * 6 = q.1 * 2 * 6 + k * q.2 * 6 := Int.add_mul _ _ _
    have e2 : q.2 * 2 * (q.1 * m + k * 3) = q.2 * 2 * (q.1 * m) + q.2 * 2 * (k * 3) := Int.mul_add _ _ _
    have e3 : q.1 * 2 * 6 = q.2 * 2 * (q.1 * m) := by
      rw [hm]
      simp [Int.mul_comm, Int.mul_left_comm, Int.mul_assoc]
    have e4 : k * q.2 * 6 = q.2 * 2 * (k * 3) := by
      rw [show (6 : Int) = 2 * 3 from rfl]
      simp [Int.mul_comm, Int.mul_left_comm, Int.mul_assoc]
    rw [e1, e2, e3, e4]
theorem sum2_ok {q : Fq} (h : Sq q) {k : Int} (k1 : 1 ≤ k) (k3 : k ≤ 3) (p : Pool) : m_law_sum [.lst [pr q, .tup [.int k, .int 2]]] p = .ok (pr (sumk k q)) p := by
  have hp := h.co.pos
  have hb := h.b6
  have ht := h.t
  have l1 : m_law_low [.int (0 * q.2 + q.1 * 1), .int (1 * q.2)] p = .ok (pr q) p := by
    rw [Int.zero_mul, Int.zero_add, Int.mul_one, Int.one_mul]
    have e := low_ok q.1 q.2 p hp (small_fuel (by omega))
    rw [lw_self h.co] at e
    exact e
  have l2 : m_law_low [.int (q.1 * 2 + k * q.2), .int (q.2 * 2)] p = .ok (pr (sumk k q)) p := low_ok _ _ p (by omega) (small_fuel (by omega))
  refine fnM_end (q := p) rfl (bel_pr 0 _) ?_
  show Ends (b_law_sum ⟨p.length, [some (.lst [pr q, .tup [.int k, .int 2]]), none, none, none, none]⟩ p) _
  unfold b_law_sum
  refine go_seq_asg (x := .tup [.int 0, .int 1]) (tup_ok (two_ok c_ok c_ok)) rfl ?_
  have m1 : ∀ a b : Int, a.natAbs ≤ 200 → b.natAbs ≤ 200 → okMul a b = true := fun a b ha hb => okMul_of (small_fuel (by omega)) (small_fuel (by omega))
  have st : ∀ (x y u v : Int) (r : Fq), x.natAbs ≤ 200 → y.natAbs ≤ 200 → u.natAbs ≤ 200 → v.natAbs ≤ 200 → m_law_low [.int (x * v + u * y), .int (y * v)] p = .ok (pr r) p →
      (sAsg (mFn m_law_low [] (mCons (mBin pAdd (mBin pMul (mVar 1) (mVar 4)) (mBin pMul (mVar 3) (mVar 2))) (mCons (mBin pMul (mVar 2) (mVar 4)) mNil))) (tgT 2 (tgCons (tgN 1) (tgCons (tgN 2) tgNil))))
        ⟨p.length, [some (.lst [pr q, .tup [.int k, .int 2]]), some (.int x), some (.int y), some (.int u), some (.int v)]⟩ p = .next ⟨p.length, [some (.lst [pr q, .tup [.int k, .int 2]]), some (.int r.1), some (.int r.2), some (.int u), some (.int v)]⟩ p := fun x y u v r h1 h2 h3 h4 e =>
    (asg_nx (x := pr r) (as := [(1, .int r.1), (2, .int r.2)]) (fn0_ok (two_ok (add_ok (mul_ok (var_ok rfl) (var_ok rfl) (m1 _ _ h1 h4)) (mul_ok (var_ok rfl) (var_ok rfl) (m1 _ _ h3 h2))) (mul_ok (var_ok rfl) (var_ok rfl) (m1 _ _ h2 h4))) e) rfl)
  have e := sFor_ok (r := .next ⟨p.length, [some (.lst [pr q, .tup [.int k, .int 2]]), some (.int (sumk k q).1), some (.int (sumk k q).2), some (.int k), some (.int 2)]⟩ p) (it := itS (mVar 0)) (g := tgT 2 (tgCons (tgN 3) (tgCons (tgN 4) tgNil))) (body := sAsg (mFn m_law_low [] (mCons (mBin pAdd (mBin pMul (mVar 1) (mVar 4)) (mBin pMul (mVar 3) (mVar 2))) (mCons (mBin pMul (mVar 2) (mVar 4)) mNil))) (tgT 2 (tgCons (tgN 1) (tgCons (tgN 2) tgNil))))
    (en := ⟨p.length, [some (.lst [pr q, .tup [.int k, .int 2]]), some (.int 0), some (.int 1), none, none]⟩) (p := p) (itS_lst (xs := [pr q, .tup [.int k, .int 2]]) (var_ok rfl)) (by
      refine (for_nx (as := [(3, .int q.1), (4, .int q.2)]) rfl rfl (st 0 1 q.1 q.2 q (by decide) (by decide) (by omega) (by omega) l1)).trans ?_
      refine (for_nx (as := [(3, .int k), (4, .int 2)]) rfl rfl (st q.1 q.2 k 2 (sumk k q) (by omega) (by omega) (by omega) (by decide) l2)).trans ?_
      exact for_end rfl)
  refine go_seq_nx e ?_
  exact go_ret (tup_ok (two_ok (var_ok rfl) (var_ok rfl))) ⟨[], by rw [List.append_nil]; rfl⟩
def chBody : S := (sSeq (sIf (mB (mBin pEq (mVar 4) (mVar 2)))
    (sSet (mBin pAdd (mLst (mCons (mFn m_law_sum [] (mCons (mLst (mCons (mBin pIx (mVar 7) (mC (.int 0))) (mCons (mTup (mCons (mBin pAdd (mC (.int 1)) (mFn m_law_draw [] (mCons (mVar 0) (mCons (mC (.int 3)) mNil)))) (mCons (mC (.int 2)) mNil))) mNil))) mNil)) mNil)) (mSl (mVar 7) (oYes (mC (.int 1))) oNo)) 7)
    sNop)
    (sSeq (sExpr (mMet fAppend (mVar 5) (mCons (mTup (mCons (mVar 6) (mCons (mVar 7) mNil))) mNil)))
    (sIf (mB (mBin pNotN1 (mVar 6) (mC .non)))
    (sSet (mBin pAdd (mVar 4) (mVar 6)) 4)
    sNop)))
def hEn (b k : Nat) (z : PV) (day : Int) (j : Nat) (at_ : Int) (r : Nat) (y6 y7 : Option PV) : En := ⟨b, [some (.own k), some z, some (.int day), some (.own j), some (.int at_), some (.own r), y6, y7]⟩
theorem ch_piece {x : Option Int} {u : List Fq} (h1 : 1 ≤ u.length) (h60 : u.length ≤ 60) (hq : ∀ q ∈ u, Sq q) {b k j n : Nat} {z : PV} {day at_ : Int} {P : Pool} {acc : List PV} {s : Cell} (hk : k < P.length) (hs : IsWell n s) (hn : n ≤ 900000) (hb : b ≤ P.length) (hl : acc.length + 2 < big) :
    ∃ (kk : Int) (s' : Cell) (y7 : Option PV), 1 ≤ kk ∧ kk ≤ 3 ∧ IsWell (n + 1) s' ∧ chBody (hEn b k z day j at_ P.length (some (optP x)) (some (.lst (u.map pr)))) (two P k (.lst acc) s) = .next (hEn b k z day j (at_ + x.getD 0) P.length (some (optP x)) y7) (two P k (.lst (acc ++ [onI x (if day - at_ = 0 then hdw (sumk kk) u else u)])) s') := by
  have fin : ∀ (v : List Fq) (s' : Cell), Ends (sSeq (sExpr (mMet fAppend (mVar 5) (mCons (mTup (mCons (mVar 6) (mCons (mVar 7) mNil))) mNil)))
    (sIf (mB (mBin pNotN1 (mVar 6) (mC .non)))
    (sSet (mBin pAdd (mVar 4) (mVar 6)) 4)
    sNop) (hEn b k z day j at_ P.length (some (optP x)) (some (.lst (v.map pr)))) (two P k (.lst acc) s')) (fun c => ∃ y7, c = .next (hEn b k z day j (at_ + x.getD 0) P.length (some (optP x)) y7) (two P k (.lst (acc ++ [onI x v])) s')) := fun v s' => by
    unfold hEn
    refine go_seq_nx (app_nx (k := P.length) rfl (two_get hk _ _) (tup_ok (two_ok (var_ok rfl) (var_ok rfl))) (two_get hk _ _) (mayL_le hb) (by omega)) ?_
    rw [two_set hk]
    cases x with
    | none =>
      refine go_if_f (b_ok (bin_ok (x := .non) (y := .non) (var_ok rfl) c_ok rfl)) (go_nop ⟨some (.lst (v.map pr)), ?_⟩)
      show _ = Ctl.next ⟨b, [_, _, _, _, some (.int (at_ + 0)), _, _, _]⟩ _
      rw [Int.add_zero]
      rfl
    | some d => exact go_if_t (b_ok (bin_ok (x := .int d) (y := .non) (var_ok rfl) c_ok rfl)) (go_set (add_ok (var_ok rfl) (var_ok rfl)) ⟨_, rfl⟩)
  have t : mB (mBin pEq (mVar 4) (mVar 2)) (hEn b k z day j at_ P.length (some (optP x)) (some (.lst (u.map pr)))) (two P k (.lst acc) s) = .ok (decide (at_ = day)) (two P k (.lst acc) s) := b_ok (bin_ok (x := .int at_) (y := .int day) (var_ok rfl) (var_ok rfl) (pEq_int _ _ _))
  by_cases c : at_ = day
  · rw [decide_eq_true c] at t
    obtain ⟨d, s1, e1, g1, d0, d3⟩ := draw_ok (P ++ [Cell.lst acc]) k n s 3 (two_lt hk _) hs (by omega) (by decide) (by decide)
    have e1 : m_law_draw [.own k, .int 3] (two P k (.lst acc) s) = .ok (.int d) (two P k (.lst acc) s1) := e1
    obtain ⟨q0, r, rfl⟩ : ∃ q0 r, u = q0 :: r := by
      cases u with
      | nil => exact absurd h1 (by decide)
      | cons a b => exact ⟨a, b, rfl⟩
    have hq0 := hq q0 List.mem_cons_self
    have key : Ends (chBody (hEn b k z day j at_ P.length (some (optP x)) (some (.lst ((q0 :: r).map pr)))) (two P k (.lst acc) s)) (fun c => ∃ y7, c = .next (hEn b k z day j (at_ + x.getD 0) P.length (some (optP x)) y7) (two P k (.lst (acc ++ [onI x (hdw (sumk (1 + d)) (q0 :: r))])) s1)) := by
      unfold chBody
      refine go_seq_if_t t ?_
      have a0 : mBin pIx (mVar 7) (mC (.int 0)) (hEn b k z day j at_ P.length (some (optP x)) (some (.lst ((q0 :: r).map pr)))) (two P k (.lst acc) s) = .ok (pr q0) (two P k (.lst acc) s) := at_ok (i := 0) (x := .lst ((q0 :: r).map pr)) (var_ok rfl) c_ok rfl rfl
      have a1 : mLst (mCons (mFn m_law_sum [] (mCons (mLst (mCons (mBin pIx (mVar 7) (mC (.int 0))) (mCons (mTup (mCons (mBin pAdd (mC (.int 1)) (mFn m_law_draw [] (mCons (mVar 0) (mCons (mC (.int 3)) mNil)))) (mCons (mC (.int 2)) mNil))) mNil))) mNil)) mNil) (hEn b k z day j at_ P.length (some (optP x)) (some (.lst ((q0 :: r).map pr)))) (two P k (.lst acc) s) = .ok (.lst [pr (sumk (1 + d) q0)]) (two P k (.lst acc) s1) :=
        lst_ok (one_ok (fn0_ok (one_ok (lst_ok (two_ok a0 (tup_ok (two_ok (add_ok c_ok (fn0_ok (two_ok (var_ok rfl) c_ok) e1)) c_ok))))) (sum2_ok hq0 (by omega) (by omega) _)))
      have a2 : mSl (mVar 7) (oYes (mC (.int 1))) oNo (hEn b k z day j at_ P.length (some (optP x)) (some (.lst ((q0 :: r).map pr)))) (two P k (.lst acc) s1) = .ok (.lst (((q0 :: r).map pr).drop 1)) (two P k (.lst acc) s1) := sl_fromL (i := 1) (var_ok rfl) c_ok (by rw [List.length_map, List.length_cons]; omega)
      have hr : r.length + 1 ≤ 60 := h60
      refine go_seq_set (x := .lst ((hdw (sumk (1 + d)) (q0 :: r)).map pr)) (bin_ok a1 a2 (pAdd_lst' (by
        show 1 + (r.map pr).length ≤ big
        rw [List.length_map]
        exact Nat.le_trans (by omega : 1 + r.length ≤ 60) (by decide)))) (fin _ _)
    obtain ⟨y7, e⟩ := key.h
    refine ⟨1 + d, s1, y7, by omega, by omega, g1, ?_⟩
    rw [if_pos (by omega)]
    exact e
  · rw [decide_eq_false c] at t
    have key : Ends (chBody (hEn b k z day j at_ P.length (some (optP x)) (some (.lst (u.map pr)))) (two P k (.lst acc) s)) (fun c => ∃ y7, c = .next (hEn b k z day j (at_ + x.getD 0) P.length (some (optP x)) y7) (two P k (.lst (acc ++ [onI x u])) s)) := by
      unfold chBody
      exact go_seq_if_f t (go_seq_nop (fin _ _))
    obtain ⟨y7, e⟩ := key.h
    refine ⟨1, s, y7, by decide, by decide, hs.mono (by omega), ?_⟩
    rw [if_neg (by omega)]
    exact e
theorem ch_loop {W : Nat} (hW : W ≤ 60) {ck : Pool → Bool} {b k j : Nat} {z : PV} {day : Int} {P : Pool} (hk : k < P.length) (hb : b ≤ P.length) (hck : ∀ acc s, ck (two P k (.lst acc) s) = true) : ∀ (L : List (Int × List Fq)) (w : List Fq) (acc : List PV) (at_ : Int) (y6 y7 : Option PV) (n : Nat) (s : Cell), CC Sq W L w → acc.length + L.length + 3 < big → IsWell n s → n + L.length + 1 ≤ 900000 →
    ∃ (kk : Int) (s' : Cell) (at' : Int) (y6' y7' : Option PV), 1 ≤ kk ∧ kk ≤ 3 ∧ IsWell (n + L.length + 1) s' ∧ loopF ck (tgT 2 (tgCons (tgN 6) (tgCons (tgN 7) tgNil))) chBody (toldP pr L w) (hEn b k z day j at_ P.length y6 y7) (two P k (.lst acc) s) = .next (hEn b k z day j at' P.length y6' y7') (two P k (.lst (acc ++ toldP pr (chL (sumk kk) L (day - at_)) (chW (sumk kk) L w (day - at_)))) s')
  | [], w, acc, at_, y6, y7, n, s, c, hl, hs, hn => by
    have hl : acc.length + 0 + 3 < big := hl
    have hn : n + 0 + 1 ≤ 900000 := hn
    obtain ⟨kk, s', y7', k1, k3, g, e⟩ := ch_piece (x := none) (b := b) (j := j) (z := z) (day := day) (at_ := at_) c.ll.1 (Nat.le_trans c.ll.2 hW) c.wq hk hs (by omega) hb (by omega : acc.length + 2 < big)
    refine ⟨kk, s', at_ + (none : Option Int).getD 0, some .non, y7', k1, k3, g, ?_⟩
    rw [told_nil, for_nx (as := [(6, .non), (7, .lst (w.map pr))]) (hck _ _) rfl e, for_end (hck _ _)]
    rfl
  | t :: L, w, acc, at_, y6, y7, n, s, c, hl, hs, hn => by
    have hl : acc.length + (L.length + 1) + 3 < big := hl
    have hn : n + (L.length + 1) + 1 ≤ 900000 := hn
    have ht := c.wl t List.mem_cons_self
    have hd := c.day t List.mem_cons_self
    obtain ⟨k1, s1, y7', k11, k13, g, e⟩ := ch_piece (x := some t.1) (b := b) (j := j) (z := z) (day := day) (at_ := at_) ht.1 (Nat.le_trans ht.2 hW) (c.lq t List.mem_cons_self) hk hs (by omega) hb (by omega : acc.length + 2 < big)
    obtain ⟨k2, s2, a', z6, z7, k21, k23, g2, ih⟩ := ch_loop hW hk hb hck L w (acc ++ [onI (some t.1) (if day - at_ = 0 then hdw (sumk k1) t.2 else t.2)]) (at_ + t.1) (some (.int t.1)) y7' (n + 1) s1 c.tl (by rw [List.length_append]; show acc.length + 1 + L.length + 3 < big; omega) g (by omega)
    have all : ∀ kk, (kk = k1 ∨ day - at_ ≠ 0) → (kk = k2 ∨ day - at_ = 0) → loopF ck (tgT 2 (tgCons (tgN 6) (tgCons (tgN 7) tgNil))) chBody (toldP pr (t :: L) w) (hEn b k z day j at_ P.length y6 y7) (two P k (.lst acc) s) = .next (hEn b k z day j a' P.length z6 z7) (two P k (.lst (acc ++ toldP pr (chL (sumk kk) (t :: L) (day - at_)) (chW (sumk kk) (t :: L) w (day - at_)))) s2) := fun kk h1 h2 => by
      rw [told_cons, for_nx (as := [(6, .int t.1), (7, .lst (t.2.map pr))]) (hck _ _) rfl e]
      refine ih.trans ?_
      rw [show day - (at_ + t.1) = day - at_ - t.1 by omega, List.append_assoc]
      have ea : onI (some t.1) (if day - at_ = 0 then hdw (sumk k1) t.2 else t.2) = onI (some t.1) (if day - at_ = 0 then hdw (sumk kk) t.2 else t.2) := by
        rcases h1 with rfl | h1
        · rfl
        · rw [if_neg h1, if_neg h1]
      have eb : chL (sumk k2) L (day - at_ - t.1) = chL (sumk kk) L (day - at_ - t.1) ∧ chW (sumk k2) L w (day - at_ - t.1) = chW (sumk kk) L w (day - at_ - t.1) := by
        rcases h2 with rfl | h2
        · exact ⟨rfl, rfl⟩
        · obtain ⟨u1, u2⟩ := ch_neg (f := sumk k2) (L := L) (w := w) (h := day - at_ - t.1) c.tl.day (by omega)
          obtain ⟨u3, u4⟩ := ch_neg (f := sumk kk) (L := L) (w := w) (h := day - at_ - t.1) c.tl.day (by omega)
          exact ⟨u1.trans u3.symm, u2.trans u4.symm⟩
      rw [ea, eb.1, eb.2]
      rfl
    have g2 : IsWell (n + (L.length + 1) + 1) s2 := g2.mono (by omega)
    by_cases h : day - at_ = 0
    · exact ⟨k1, s2, a', z6, z7, k11, k13, g2, all k1 (.inl rfl) (.inr h)⟩
    · exact ⟨k2, s2, a', z6, z7, k21, k23, g2, all k2 (.inr h) (.inl rfl)⟩
theorem thaw_own {n j : Nat} {q : Pool} {xs : List PV} (hj : n ≤ j) (h : q[j]? = some (.lst xs)) (hb : bels 0 xs = true) : thaw fldT n q (.own j) = some (.lst xs) := by
  show thw fldT n q deep j = _
  unfold deep thw
  rw [if_neg (by omega), h]
  dsimp only
  rw [subs_bel hb]
theorem CC.mono {P Q : Fq → Prop} (h : ∀ q, P q → Q q) {W : Nat} {L : List (Int × List Fq)} {w : List Fq} (c : CC P W L w) : CC Q W L w := ⟨c.day, c.wl, c.ll, fun s hs q hq => h q (c.lq s hs q hq), fun q hq => h q (c.wq q hq)⟩
theorem changed_ok {W : Nat} (hW : W ≤ 60) {L : List (Int × List Fq)} {w : List Fq} (c : CC Sq W L w) (hl : L.length ≤ 80) {day : Int} (d0 : 0 ≤ day) {P : Pool} {k n : Nat} {s0 : Cell} (hk : k < P.length) (h0 : IsWell n s0) (hn : n ≤ 800000) :
    ∃ (L' : List (Int × List Fq)) (w' : List Fq) (s : Cell), m_law_changed [.own k, .lst (toldP pr L w), .int day] (P.set k s0) = .ok (.lst (toldP pr L' w')) (P.set k s) ∧ IsWell (n + 100) s ∧ CC S2 W L' w' ∧ L'.length ≤ L.length + 2 ∧ (∀ B, 0 ≤ B → tot L ≤ B → day + 1 ≤ B → tot L' ≤ B) ∧ (∀ d, 0 ≤ d → d ≠ day → onQ L' w' d = onQ L w d) ∧ onQ L' w' day ≠ onQ L w day := by
  have hP : ∀ s : Cell, (P.set k s).length = P.length := fun s => List.length_set
  obtain ⟨L1, hL1⟩ : ∃ L1, L1 = cutL L w day := ⟨_, rfl⟩
  obtain ⟨w1, hw1⟩ : ∃ w1, w1 = cutW L w day := ⟨_, rfl⟩
  obtain ⟨L2, hL2⟩ : ∃ L2, L2 = cutL L1 w1 (day + 1) := ⟨_, rfl⟩
  obtain ⟨w2, hw2⟩ : ∃ w2, w2 = cutW L1 w1 (day + 1) := ⟨_, rfl⟩
  have c1 : CC Sq W L1 w1 := hL1 ▸ hw1 ▸ cut_cc c
  have c2 : CC Sq W L2 w2 := hL2 ▸ hw2 ▸ cut_cc c1
  have l1 : L1.length ≤ L.length + 1 := hL1 ▸ cut_len c
  have l2 : L2.length ≤ L1.length + 1 := hL2 ▸ cut_len c1
  have b1 : Bdy L2 day := hL2 ▸ cut_keep (hL1 ▸ cut_bd d0)
  have b2 : Bdy L2 (day + 1) := hL2 ▸ cut_bd (by omega)
  have e1 := cut_ok hW c (by omega) (HndX.lst (toldP pr L w) (P.set k s0)) day
  rw [hP, ← hL1, ← hw1] at e1
  have e2 := cut_ok hW c1 (by omega) (z := .own P.length) (HndX.own (k := P.length) (xs := toldP pr L1 w1) (p := P.set k s0 ++ [.lst (toldP pr L1 w1)]) (by rw [← hP s0]; exact get_last _ _)) (day + 1)
  rw [← hL2, ← hw2] at e2
  have eP : P.set k s0 ++ [Cell.lst (toldP pr L1 w1)] ++ [Cell.lst (toldP pr L2 w2)] = (P ++ [Cell.lst (toldP pr L1 w1)] ++ [Cell.lst (toldP pr L2 w2)]).set k s0 := by
    rw [set_app hk, set_app (two_lt hk _)]
  obtain ⟨Q, hQ⟩ : ∃ Q, Q = P ++ [Cell.lst (toldP pr L1 w1)] ++ [Cell.lst (toldP pr L2 w2)] := ⟨_, rfl⟩
  rw [← hQ] at eP
  have lQ : Q.length = P.length + 2 := by rw [hQ, len1, len1]
  have hkQ : k < Q.length := by omega
  have l3 : (P.set k s0 ++ [Cell.lst (toldP pr L1 w1)]).length = P.length + 1 := by rw [len1, hP]
  rw [eP, l3] at e2
  have gQ : ∀ acc s, (two Q k (.lst acc) s)[P.length + 1]? = some (.lst (toldP pr L2 w2)) := fun acc s => by
    unfold two
    rw [List.getElem?_set_ne (by omega), List.getElem?_append_left (by omega), hQ]
    have : P.length + 1 = (P ++ [Cell.lst (toldP pr L1 w1)]).length := by rw [len1]
    rw [this]
    exact get_last _ _
  obtain ⟨kk, s, at', y6, y7, k1, k3, g, lp⟩ := ch_loop hW (ck := ownCk (P.length + 1) (toldP pr L2 w2)) (b := P.length) (j := P.length + 1) (z := .lst (toldP pr L w)) (day := day) hkQ (by omega) (fun acc s => ownCk_of (gQ acc s)) L2 w2 [] 0 none none n s0 c2 (by
    show 0 + L2.length + 3 < 1000000
    omega) h0 (by omega)
  rw [Int.sub_zero, List.nil_append] at lp
  obtain ⟨L3, hL3⟩ : ∃ L3, L3 = chL (sumk kk) L2 day := ⟨_, rfl⟩
  obtain ⟨w3, hw3⟩ : ∃ w3, w3 = chW (sumk kk) L2 w2 day := ⟨_, rfl⟩
  rw [← hL3, ← hw3] at lp
  refine ⟨L3, w3, s, ?_, g.mono (by omega), hL3 ▸ hw3 ▸ ch_cc (fun q h => h.s2) (fun q h => sumk_s2 h k1 k3) c2, by rw [hL3, ch_len]; omega, fun B b0 h1 h2 => ?_, fun d hd hne => ?_, ?_⟩
  · have key : b_law_changed ⟨(P.set k s0).length, [some (.own k), some (.lst (toldP pr L w)), some (.int day), none, none, none, none, none]⟩ (P.set k s0) = .ret (.own Q.length) (two Q k (.lst (toldP pr L3 w3)) s) := by
      rw [hP]
      have K : Ends (b_law_changed ⟨P.length, [some (.own k), some (.lst (toldP pr L w)), some (.int day), none, none, none, none, none]⟩ (P.set k s0)) (fun c => c = .ret (.own Q.length) (two Q k (.lst (toldP pr L3 w3)) s)) := by
        unfold b_law_changed
        refine go_seq_set (fn0_ok (two_ok (fn0_ok (two_ok (var_ok rfl) (var_ok rfl)) e1) (add_ok (var_ok rfl) c_ok)) e2) ?_
        refine go_seq_set c_ok ?_
        have em := lstO_ok (en := ⟨P.length, [some (.own k), some (.lst (toldP pr L w)), some (.int day), some (.own (P.length + 1)), some (.int 0), none, none, none]⟩) (p := Q.set k s0) nil_ok
        rw [List.length_set, set_app hkQ] at em
        refine go_seq_set em ?_
        have ef : sFor (itS (mVar 3)) (tgT 2 (tgCons (tgN 6) (tgCons (tgN 7) tgNil))) chBody ⟨P.length, [some (.own k), some (.lst (toldP pr L w)), some (.int day), some (.own (P.length + 1)), some (.int 0), some (.own Q.length), none, none]⟩ ((Q ++ [Cell.lst []]).set k s0) = .next (hEn P.length k (.lst (toldP pr L w)) day (P.length + 1) at' Q.length y6 y7) (two Q k (.lst (toldP pr L3 w3)) s) :=
          sFor_ok (itS_own (var_ok rfl) (gQ [] s0)) lp
        refine go_seq_nx ef ?_
        exact go_ret (var_ok rfl) rfl
      exact K.h
    unfold m_law_changed
    have r := fnM_ret (fld := fldT) (N := 8) (xs := [.own k, .lst (toldP pr L w), .int day]) key (thaw_own (n := (P.set k s0).length) (xs := toldP pr L3 w3) (by rw [hP]; omega) (two_get hkQ _ _) (bels_told 0 (bel_pr 0) _ _))
    rw [r]
    congr 1
    rw [two_eq hkQ, hQ, List.append_assoc, List.set_append_left k s hk, List.append_assoc, hP]
    rw [← hP s]
    exact List.take_left
  · rw [hL3, ch_tot, hL2]
    exact cut_tot b0 (hL1 ▸ cut_tot b0 h1 (by omega) c.day) h2 c1.day
  · rw [hL3, hw3, ch_on c2 b1 b2 hd, if_neg hne, hL2, hw2, cut_on c1 hd, hL1, hw1, cut_on c hd]
  · rw [hL3, hw3, ch_on c2 b1 b2 d0, if_pos rfl, hL2, hw2, cut_on c1 d0, hL1, hw1, cut_on c d0]
    exact sumk_ne (on_mem c day) k1
structure WQ2 (L : List (Int × List Fq)) (w : List Fq) : Prop where
  l : ∀ s ∈ L, ∀ q ∈ s.2, S2 q
  w : ∀ q ∈ w, S2 q
theorem opt_mem2 {L : List (Int × List Fq)} {w : List Fq} (g : GS L w) (hq : WQ2 L w) {s : Option Int × List Fq} (h : s ∈ optL L w) : (∀ q ∈ s.2, S2 q) ∧ s.2.length ≤ 60 := by
  rcases List.mem_append.mp h with h | h
  · obtain ⟨t, ht, rfl⟩ := List.mem_map.mp h
    exact ⟨hq.l t ht, (g.wl t ht).2⟩
  · rw [List.mem_singleton.mp h]
    exact ⟨hq.w, g.ll.2⟩
theorem go_stE (s : Int × List Fq) (h : 1 ≤ s.1) (h1 : 1 ≤ s.2.length) (h2 : s.2.length ≤ 60) : goodS (stE s) = true := by
  show (decide (1 ≤ s.1) && ((decide (1 ≤ (s.2.map sh).length) && decide ((s.2.map sh).length ≤ 60)) && (s.2.map sh).all isSh)) = true
  rw [List.length_map, decide_eq_true h, decide_eq_true h1, decide_eq_true h2]
  have e : (s.2.map sh).all isSh = true := List.all_eq_true.mpr fun x hx => by
    obtain ⟨q, _, rfl⟩ := List.mem_map.mp hx
    rfl
  rw [e]
  rfl
theorem go_stL (w : List Fq) (h1 : 1 ≤ w.length) (h2 : w.length ≤ 60) : goodS (.tup [.non, sW w]) = true := by
  show (true && ((decide (1 ≤ (w.map sh).length) && decide ((w.map sh).length ≤ 60)) && (w.map sh).all isSh)) = true
  rw [List.length_map, decide_eq_true h1, decide_eq_true h2]
  have e : (w.map sh).all isSh = true := List.all_eq_true.mpr fun x hx => by
    obtain ⟨q, _, rfl⟩ := List.mem_map.mp hx
    rfl
  rw [e]
  rfl
theorem st_len (L : List (Int × List Fq)) (w : List Fq) : (stP L w).length = L.length + 1 := by
  unfold stP
  rw [List.length_append, List.length_map]
  rfl
theorem gs_gl {L : List (Int × List Fq)} {w : List Fq} (g : GS L w) : GL (stP L w) := by
  have hl := st_len L w
  have hf := g.few
  refine ⟨by omega, by omega, fun i x hx => ?_⟩
  rw [hl]
  by_cases c : i < L.length
  · unfold stP at hx
    rw [List.getElem?_append_left (by rw [List.length_map]; exact c), List.getElem?_map, List.getElem?_eq_getElem c] at hx
    have hx := Option.some.inj hx
    subst hx
    have hm := List.getElem_mem c
    refine ⟨go_stE _ (g.day _ hm) (g.wl _ hm).1 (g.wl _ hm).2, ?_⟩
    rw [decide_eq_false (by omega)]
    rfl
  · have hi := (List.getElem?_eq_some_iff.mp hx).1
    have e : i = L.length := by omega
    subst e
    unfold stP at hx
    rw [List.getElem?_append_right (by rw [List.length_map]; exact Nat.le_refl _), List.length_map, Nat.sub_self] at hx
    have hx := Option.some.inj hx
    subst hx
    refine ⟨go_stL w g.ll.1 g.ll.2, ?_⟩
    rw [decide_eq_true rfl]
    rfl
theorem are_yes {L : List (Int × List Fq)} {w : List Fq} (g : GS L w) {z : PV} {p : Pool} {ck : Pool → Bool} (H : Hnd z (stP L w) p ck) : m_are_stretches [z] p = .ok (.bl true) p := by
  have hf := g.few
  have hl := st_len L w
  exact (are_ok (N := 60) (by decide) H (fun y hy => (st_DD g (Nat.le_refl _) y hy).up) (by omega)).1 (gs_gl g)
theorem made_ok {L : List (Int × List Fq)} {w : List Fq} (g : GS L w) {z : PV} {q : Pool} {ck : Pool → Bool} (H : HndX z (stP L w) q ck) {a : M PV} {sl : List (Option PV)} (ha : a ⟨q.length, sl⟩ q = .ok z q) :
    mMkS m_Course_init (mCons a mNil) ⟨q.length, sl⟩ q = .ok (.own q.length) (q ++ [.obj 1 [.own (q.length + 1), .lst (wordsP L w)], .lst ((begs L L.length).map .int)]) := by
  unfold mMkS
  rw [one_ok ha]
  dsimp only [Res.bind]
  rw [make_ok g H (are_yes g (H.h _))]
theorem law_course_ok {L : List (Int × List Fq)} {w : List Fq} (g : GS L w) (hq : WQ2 L w) (p : Pool) : m_law_course [.lst (toldP pr L w)] p = .ok (crs L w) p := by
  have c := lc_list (it := itS (mVar 0)) (g := tgT 2 (tgCons (tgN 1) (tgCons (tgN 2) tgNil))) (te := mTup (mCons (mVar 1) (mCons (mCall cTuple (mCons (mLc (itS (mVar 2)) (tgT 2 (tgCons (tgN 3) (tgCons (tgN 4) tgNil))) mYes (mFn m_Share_init [] (mCons (mVar 3) (mCons (mVar 4) mNil))) [3, 4]) mNil)) mNil))) (vs := [1, 2])
    (en := ⟨p.length, [some (.lst (toldP pr L w)), none, none, none, none]⟩) (p := p) (p1 := p) (optL L w) (fun s => PV.tup [optP s.1, .lst (s.2.map pr)]) (fun s => PV.tup [optP s.1, sW s.2]) (by rw [opt_told]; exact itS_lst (var_ok rfl)) (fun _ => rfl) (fun s hs => by
      obtain ⟨h1, h2⟩ := opt_mem2 g hq hs
      refine ⟨[(1, optP s.1), (2, .lst (s.2.map pr))], rfl, rfl, fun acc => ⟨?_, ?_⟩⟩
      · have ci := lc_list (it := itS (mVar 2)) (g := tgT 2 (tgCons (tgN 3) (tgCons (tgN 4) tgNil))) (te := mFn m_Share_init [] (mCons (mVar 3) (mCons (mVar 4) mNil))) (vs := [3, 4])
          (en := ⟨p.length + 1, [some (.lst (toldP pr L w)), some (optP s.1), some (.lst (s.2.map pr)), none, none]⟩) (p := p ++ [.lst acc]) (p1 := p ++ [.lst acc]) s.2 pr sh (itS_lst (var_ok rfl)) (fun _ => rfl) (fun q hq' => ⟨[(3, .int q.1), (4, .int q.2)], rfl, rfl, fun acc2 => ⟨fn0_ok (two_ok (var_ok rfl) (var_ok rfl)) (share_self _ (h1 q hq').co (h1 q hq').fr), bel_sh _ _⟩⟩) (Nat.le_trans h2 (by decide))
        exact tup_ok (two_ok (var_ok rfl) (call_ok (f := cTuple) (one_ok ci) rfl))
      · show (bel _ (optP s.1) && (bel _ (sW s.2) && true)) = true
        rw [bel_opt, bel_sW]
        rfl) (Nat.le_trans (opt_len g) (by decide))
  rw [opt_st] at c
  have e := made_ok g (HndX.lst (stP L w) p) c
  have t : thaw fldT p.length (p ++ [.obj 1 [.own (p.length + 1), .lst (wordsP L w)], .lst ((begs L L.length).map .int)]) (.own p.length) = some (crs L w) := thaw_crs (k := p.length + 1) (by
    rw [List.getElem?_append_right (Nat.le_refl _), Nat.sub_self]
    rfl) (by
    rw [List.getElem?_append_right (Nat.le_succ _), show p.length + 1 - p.length = 1 by omega]
    rfl) (Nat.le_succ _) (bels_int 0 _) (bels_words 0 L w)
  have r := fnM_ret (fld := fldT) (N := 5) (body := b_law_course) (xs := [.lst (toldP pr L w)]) (ret_ok e) t
  rw [List.take_left] at r
  exact r
def rep (m : Nat) (u : List Fq) : List Fq := (List.replicate m u).flatten
theorem rep_succ (m : Nat) (u : List Fq) : rep (m + 1) u = u ++ rep m u := by
  unfold rep
  rw [List.replicate_succ, List.flatten_cons]
theorem rep_len (u : List Fq) : ∀ m, (rep m u).length = m * u.length
  | 0 => by
    show 0 = 0 * _
    rw [Nat.zero_mul]
  | m + 1 => by
    rw [rep_succ, List.length_append, rep_len u m, Nat.succ_mul]
    omega
theorem rep_get (u : List Fq) : ∀ m i, i < m * u.length → (rep m u)[i]? = u[i % u.length]?
  | 0, i, h => by
    rw [Nat.zero_mul] at h
    omega
  | m + 1, i, h => by
    rw [Nat.succ_mul] at h
    rw [rep_succ]
    by_cases c : i < u.length
    · rw [List.getElem?_append_left c, Nat.mod_eq_of_lt c]
    · rw [List.getElem?_append_right (by omega), rep_get u m (i - u.length) (by omega), Nat.mod_eq_sub_mod (by omega : i ≥ u.length)]
theorem rep_pick {u : List Fq} (h1 : 1 ≤ u.length) {m : Nat} (hm : 1 ≤ m) (d : Int) : pickQ (rep m u) d = pickQ u d := by
  have hpos : 1 ≤ m * u.length := Nat.le_trans (Nat.mul_le_mul hm h1) (Nat.le_refl _)
  rw [pickQ_eq, pickQ_eq, rep_len]
  have n0 := Int.emod_nonneg d (b := ((m * u.length : Nat) : Int)) (by omega)
  have n1 := Int.emod_lt_of_pos d (b := ((m * u.length : Nat) : Int)) (by omega)
  obtain ⟨i, hi⟩ : ∃ i : Nat, i = (d % ((m * u.length : Nat) : Int)).toNat := ⟨_, rfl⟩
  have e0 : d % ((m * u.length : Nat) : Int) = (i : Int) := by omega
  have e1 : (d % ((m * u.length : Nat) : Int)) % (u.length : Int) = d % (u.length : Int) := Int.emod_emod_of_dvd d ⟨(m : Int), by rw [Int.natCast_mul, Int.mul_comm]⟩
  rw [e0] at e1
  rw [← hi, rep_get u m i (by omega), ← e1, ← Int.natCast_emod, Int.toNat_natCast]
theorem on_set {v : List Fq} {w : List Fq} : ∀ {L : List (Int × List Fq)} {i : Nat} (hi : i < L.length) (_ : ∀ d, pickQ v d = pickQ (L[i]).2 d) (d : Int), onQ (L.set i ((L[i]).1, v)) w d = onQ L w d
  | s :: L, 0, _, h, d => by
    show (if d < s.1 then pickQ v d else onQ L w (d - s.1)) = if d < s.1 then pickQ s.2 d else onQ L w (d - s.1)
    rw [h d]
    rfl
  | s :: L, i + 1, hi, h, d => by
    show (if d < s.1 then pickQ s.2 d else onQ (L.set i ((L[i]'(Nat.lt_of_succ_lt_succ hi)).1, v)) w (d - s.1)) = if d < s.1 then pickQ s.2 d else onQ L w (d - s.1)
    rw [on_set (Nat.lt_of_succ_lt_succ hi) h]
theorem on_last_w {v w : List Fq} (h : ∀ d, pickQ v d = pickQ w d) : ∀ (L : List (Int × List Fq)) (d : Int), onQ L v d = onQ L w d
  | [], d => h d
  | s :: L, d => by
    show (if d < s.1 then pickQ s.2 d else onQ L v (d - s.1)) = if d < s.1 then pickQ s.2 d else onQ L w (d - s.1)
    rw [on_last_w h L]
theorem tot_set {v : List Fq} : ∀ {L : List (Int × List Fq)} {i : Nat} (hi : i < L.length), tot (L.set i ((L[i]).1, v)) = tot L
  | s :: L, 0, _ => rfl
  | s :: L, i + 1, hi => by
    show s.1 + tot (L.set i ((L[i]'(Nat.lt_of_succ_lt_succ hi)).1, v)) = s.1 + tot L
    rw [tot_set (Nat.lt_of_succ_lt_succ hi)]
theorem rep_mem {u : List Fq} {m : Nat} {q : Fq} (h : q ∈ rep m u) : q ∈ u := by
  unfold rep at h
  obtain ⟨l, hl, hq⟩ := List.mem_flatten.mp h
  rw [List.eq_of_mem_replicate hl] at hq
  exact hq
theorem told_len (f : Fq → PV) (L : List (Int × List Fq)) (w : List Fq) : (toldP f L w).length = L.length + 1 := by
  unfold toldP
  rw [List.length_append, List.length_map]
  rfl
theorem told_setL {L : List (Int × List Fq)} {w v : List Fq} {i : Nat} (hi : i < L.length) : (toldP pr L w).set i (onI (some (L[i]).1) v) = toldP pr (L.set i ((L[i]).1, v)) w := by
  unfold toldP
  rw [List.set_append_left _ _ (by rw [List.length_map]; exact hi), List.map_set]
  rfl
theorem told_setW {L : List (Int × List Fq)} {w v : List Fq} : (toldP pr L w).set L.length (onI none v) = toldP pr L v := by
  unfold toldP
  rw [List.set_append_right _ _ (by rw [List.length_map]; exact Nat.le_refl _), List.length_map, Nat.sub_self]
  rfl
theorem mul_word (u : List Fq) {d : Int} (d0 : 1 ≤ d) (d3 : d ≤ 3) (h60 : u.length ≤ 60) (p : Pool) : pMul (.lst (u.map pr)) (.int d) p = .ok (.lst ((rep d.toNat u).map pr)) p := by
  have hd : d.toNat ≤ 3 := by omega
  have hle : (u.map pr).length * d.toNat ≤ big := by
    rw [List.length_map]
    exact Nat.le_trans (Nat.mul_le_mul h60 hd) (by decide)
  show (if d ≤ 1000 ∧ -1000 ≤ d ∧ (u.map pr).length * d.toNat ≤ big then Res.ok (PV.lst (times d.toNat (u.map pr))) p else .stuck) = _
  rw [if_pos ⟨by omega, by omega, hle⟩]
  congr 2
  show (List.replicate d.toNat (u.map pr)).flatten = _
  unfold rep
  rw [List.map_flatten, List.map_replicate]
theorem CC.wide {P : Fq → Prop} {V W : Nat} (h : V ≤ W) {L : List (Int × List Fq)} {w : List Fq} (c : CC P V L w) : CC P W L w := ⟨c.day, fun s hs => ⟨(c.wl s hs).1, Nat.le_trans (c.wl s hs).2 h⟩, ⟨c.ll.1, Nat.le_trans c.ll.2 h⟩, c.lq, c.wq⟩
theorem repd {P : Fq → Prop} {V W : Nat} {L : List (Int × List Fq)} {w : List Fq} (c : CC P V L w) (hV : 3 * V ≤ W) {i m : Nat} (hi : i < L.length + 1) (h1 : 1 ≤ m) (h3 : m ≤ 3) :
    ∃ (o : Option Int) (u : List Fq) (L' : List (Int × List Fq)) (w' : List Fq), 1 ≤ u.length ∧ u.length ≤ V ∧ (toldP pr L w)[i]? = some (onI o u) ∧ (toldP pr L w).set i (onI o (rep m u)) = toldP pr L' w' ∧ CC P W L' w' ∧ L'.length = L.length ∧ tot L' = tot L ∧ ∀ d, onQ L' w' d = onQ L w d := by
  have mx : ∀ {n : Nat}, n ≤ V → m * n ≤ W := fun {n} hn => Nat.le_trans (Nat.mul_le_mul h3 hn) hV
  have m1 : ∀ {n : Nat}, 1 ≤ n → 1 ≤ m * n := fun {n} hn => Nat.mul_le_mul h1 hn
  have cW := c.wide (W := W) (by omega)
  by_cases h : i < L.length
  · have hs := c.wl _ (List.getElem_mem h)
    refine ⟨some (L[i]).1, (L[i]).2, L.set i ((L[i]).1, rep m (L[i]).2), w, hs.1, hs.2, ?_, told_setL h, ?_, List.length_set, tot_set h, fun d => on_set h (fun d => rep_pick hs.1 h1 d) d⟩
    · unfold toldP
      rw [List.getElem?_append_left (by rw [List.length_map]; exact h), List.getElem?_map, List.getElem?_eq_getElem h]
      rfl
    · have key : ∀ t ∈ L.set i ((L[i]).1, rep m (L[i]).2), t ∈ L ∨ t = ((L[i]).1, rep m (L[i]).2) := fun t ht => List.mem_or_eq_of_mem_set ht
      refine ⟨fun t ht => ?_, fun t ht => ?_, cW.ll, fun t ht => ?_, cW.wq⟩
      · rcases key t ht with k | rfl
        · exact c.day t k
        · exact c.day L[i] (List.getElem_mem h)
      · rcases key t ht with k | rfl
        · exact cW.wl t k
        · show 1 ≤ (rep m (L[i]).2).length ∧ (rep m (L[i]).2).length ≤ W
          rw [rep_len]
          exact ⟨m1 hs.1, mx hs.2⟩
      · rcases key t ht with k | rfl
        · exact c.lq t k
        · exact fun q hq => c.lq _ (List.getElem_mem h) q (rep_mem hq)
  · have e : i = L.length := by omega
    subst e
    refine ⟨none, w, L, rep m w, c.ll.1, c.ll.2, ?_, told_setW, ⟨c.day, cW.wl, by rw [rep_len]; exact ⟨m1 c.ll.1, mx c.ll.2⟩, c.lq, fun q hq => c.wq q (rep_mem hq)⟩, rfl, rfl, fun d => on_last_w (fun d => rep_pick c.ll.1 h1 d) L d⟩
    unfold toldP
    rw [List.getElem?_append_right (by rw [List.length_map]; exact Nat.le_refl _), List.length_map, Nat.sub_self]
    rfl
theorem otherwise_ok {P : Fq → Prop} {V W : Nat} (hV : 3 * V ≤ W) (hW : W ≤ 60) {L : List (Int × List Fq)} {w : List Fq} (c : CC P V L w) (hl : L.length ≤ 20) {p : Pool} {k n : Nat} {s0 : Cell} (hk : k < p.length) (h0 : IsWell n s0) (hn : n ≤ 800000) :
    ∃ (L' : List (Int × List Fq)) (w' : List Fq) (s : Cell), m_law_otherwise [.own k, .lst (toldP pr L w)] (p.set k s0) = .ok (.lst (toldP pr L' w')) (p.set k s) ∧ IsWell (n + 20) s ∧ CC P W L' w' ∧ L'.length ≤ L.length + 4 ∧ (∀ B, tot L ≤ B → 1000000000000 ≤ B → tot L' ≤ B) ∧ ∀ d, 0 ≤ d → onQ L' w' d = onQ L w d := by
  have hP : ∀ s : Cell, (p.set k s).length = p.length := fun s => List.length_set
  have key : Ends (b_law_otherwise ⟨p.length, [some (.own k), some (.lst (toldP pr L w)), none, none, none]⟩ (p.set k s0)) (fun o => ∃ (L' : List (Int × List Fq)) (w' : List Fq) (s : Cell) (j : Nat) (R : Pool), o = .ret (.own j) ((p ++ R).set k s) ∧ p.length ≤ j ∧ ((p ++ R).set k s)[j]? = some (.lst (toldP pr L' w')) ∧ IsWell (n + 20) s ∧ CC P W L' w' ∧ L'.length ≤ L.length + 4 ∧ (∀ B, tot L ≤ B → 1000000000000 ≤ B → tot L' ≤ B) ∧ ∀ d, 0 ≤ d → onQ L' w' d = onQ L w d) := by
    unfold b_law_otherwise
    refine go_seq_set (var_ok rfl) ?_
    obtain ⟨d1, s1, e1, g1, a1, b1⟩ := draw_ok p k n s0 4 hk h0 (by omega) (by decide) (by decide)
    obtain ⟨N, hN, N1, N4⟩ : ∃ N : Nat, 1 + d1 = (N : Int) ∧ 1 ≤ N ∧ N ≤ 4 := ⟨(1 + d1).toNat, by omega, by omega, by omega⟩
    refine go_seq_rng (n := N) (fun i en q => ∃ (R : Pool) (L' : List (Int × List Fq)) (w' : List Fq) (z : PV) (s : Cell) (y3 : Option PV), en = ⟨p.length, [some (.own k), some (.lst (toldP pr L w)), some z, y3, none]⟩ ∧ q = (p ++ R).set k s ∧ IsWell (n + 1 + 2 * i) s ∧ CC P V L' w' ∧ L'.length ≤ L.length + i ∧
      (∀ B, tot L ≤ B → 1000000000000 ≤ B → tot L' ≤ B) ∧ (∀ d, 0 ≤ d → onQ L' w' d = onQ L w d) ∧ ((i = 0 ∧ z = .lst (toldP pr L' w')) ∨ (∃ j, z = .own j ∧ p.length ≤ j ∧ (p ++ R)[j]? = some (.lst (toldP pr L' w'))))) (p1 := p.set k s1)
      (by rw [← hN]; exact one_ok (add_ok c_ok (fn0_ok (two_ok (var_ok rfl) c_ok) e1))) (Nat.le_trans N4 (by decide)) ⟨[], L, w, _, s1, none, rfl, by rw [List.append_nil], g1, c, by omega, fun B h _ => h, fun _ _ => rfl, .inl ⟨rfl, rfl⟩⟩ (fun i en q hi hI => ?_) (fun en q hI => ?_)
    · obtain ⟨R, L', w', z, s, y3, rfl, rfl, g, c', hl', ht, ho, hz⟩ := hI
      have hkR : k < (p ++ R).length := by rw [List.length_append]; omega
      obtain ⟨x, s2, e2, g2, hx⟩ := one_ok' (p ++ R) k (n + 1 + 2 * i) s [.int 9, .int 90, .int 1000000000000] hkR g (by omega) (by decide) (by decide) rfl
      obtain ⟨m, rfl, hm⟩ := int3 x hx
      obtain ⟨d, s3, e3, g3, a3, b3⟩ := draw_ok (p ++ R) k (n + 1 + 2 * i + 1) s2 m hkR g2 (by omega) (by omega) (by omega)
      have e10 : ∀ en q, mBin pPow (mC (.int 10)) (mC (.int 12)) en q = .ok (.int 1000000000000) q := fun _ _ => rfl
      have H : ∃ ck, HndX z (toldP pr L' w') ((p ++ R).set k s3) ck := by
        rcases hz with ⟨_, rfl⟩ | ⟨j, rfl, hj, ej⟩
        · exact ⟨_, HndX.lst _ _⟩
        · exact ⟨_, HndX.own (by rw [List.getElem?_set_ne (by omega)]; exact ej)⟩
      obtain ⟨ck, H⟩ := H
      have e4 := cut_ok (W := V) (by omega) c' (by omega) H d
      rw [List.length_set, set_app hkR] at e4
      refine go_set (fn0_ok (two_ok (var_ok rfl) (fn0_ok (two_ok (var_ok rfl) (fn0_ok (two_ok (var_ok rfl) (lst_ok (three_ok c_ok c_ok (e10 _ _)))) e2)) e3)) e4) ?_
      refine ⟨R ++ [.lst (toldP pr (cutL L' w' d) (cutW L' w' d))], cutL L' w' d, cutW L' w' d, _, s3, _, rfl, by rw [List.append_assoc], g3.mono (by omega), cut_cc c', by have := cut_len (h := d) c'; omega, fun B h1 h2 => cut_tot (by omega) (ht B h1 h2) (by omega) c'.day, fun d hd => (cut_on c' hd).trans (ho d hd), .inr ⟨(p ++ R).length, rfl, by rw [List.length_append]; omega, ?_⟩⟩
      rw [← List.append_assoc]
      exact get_last _ _
    · obtain ⟨R, L', w', z, s, y3, rfl, rfl, g, c', hl', ht, ho, hz⟩ := hI
      have hkR : k < (p ++ R).length := by rw [List.length_append]; omega
      obtain ⟨j, rfl, hj, ej⟩ : ∃ j, z = .own j ∧ p.length ≤ j ∧ (p ++ R)[j]? = some (.lst (toldP pr L' w')) := by
        rcases hz with ⟨h, _⟩ | h
        · omega
        · exact h
      have hjl : j < (p ++ R).length := (List.getElem?_eq_some_iff.mp ej).1
      have gj : ∀ s, ((p ++ R).set k s)[j]? = some (.lst (toldP pr L' w')) := fun s => by
        rw [List.getElem?_set_ne (by omega)]
        exact ej
      obtain ⟨at_, s2, e2, g2, a2, b2⟩ := draw_ok (p ++ R) k (n + 1 + 2 * N) s ((toldP pr L' w').length : Int) hkR g (by omega) (by rw [told_len]; omega) (by rw [told_len]; omega)
      obtain ⟨i, rfl⟩ := Int.eq_ofNat_of_zero_le a2
      rw [told_len] at b2
      obtain ⟨m, s3, e3, g3, a3, b3⟩ := draw_ok (p ++ R) k (n + 1 + 2 * N + 1) s2 3 hkR g2 (by omega) (by decide) (by decide)
      obtain ⟨o, u, L2, w2, u1, uV, ei, es, c2, l2, t2, o2⟩ := repd c' hV (i := i) (m := (1 + m).toNat) (by omega) (by omega) (by omega)
      have ln := len_ok (xs := toldP pr L' w') (var_ok (i := 2) (x := .own j) (en := ⟨p.length, [some (.own k), some (.lst (toldP pr L w)), some (.own j), y3, none]⟩) (p := (p ++ R).set k s) rfl) (getQ_own (gj s))
      refine go_seq_set (fn0_ok (two_ok (var_ok rfl) ln) e2) ?_
      have it : ∀ s, mBin pIx (mVar 2) (mVar 4) ⟨p.length, [some (.own k), some (.lst (toldP pr L w)), some (.own j), y3, some (.int (i : Int))]⟩ ((p ++ R).set k s) = .ok (onI o u) ((p ++ R).set k s) := fun s => at_ok (i := i) (x := .own j) (var_ok rfl) (var_ok rfl) (getQ_own (gj s)) ei
      have v0 := at_ok (i := 0) (x := onI o u) (y := optP o) (it s2) c_ok rfl rfl
      have v1 := at_ok (i := 1) (x := onI o u) (y := .lst (u.map pr)) (it s2) c_ok rfl rfl
      have ea : mBin pAdd (mC (.int 1)) (mFn m_law_draw [] (mCons (mVar 0) (mCons (mC (.int 3)) mNil))) ⟨p.length, [some (.own k), some (.lst (toldP pr L w)), some (.own j), y3, some (.int (i : Int))]⟩ ((p ++ R).set k s2) = .ok (.int (1 + m)) ((p ++ R).set k s3) := add_ok c_ok (fn0_ok (two_ok (var_ok rfl) c_ok) e3)
      have vv := tup_ok (two_ok v0 (bin_ok v1 ea (mul_word u (by omega) (by omega) (by omega) _)))
      have hlen : i < (toldP pr L' w').length := by rw [told_len]; omega
      refine go_seq_nx (ix_nx (k := j) (n := i) (y := onI o (rep (1 + m).toNat u)) vv (var_ok rfl) (var_ok rfl) (gj s3) hlen (may_le hj)) ?_
      rw [es]
      refine go_ret (var_ok rfl) ?_
      refine ⟨L2, w2, s3, j, R.set (j - p.length) (.lst (toldP pr L2 w2)), ?_, hj, ?_, g3.mono (by omega), c2, by omega, fun B h1 h2 => by rw [t2]; exact ht B h1 h2, fun d hd => (o2 d).trans (ho d hd)⟩
      · rw [List.set_comm _ _ (by omega : k ≠ j), List.set_append_right _ _ hj]
      · rw [List.getElem?_set_ne (by omega), List.getElem?_append_right hj, List.getElem?_set_self (by rw [List.length_append] at hjl; omega)]
  obtain ⟨L', w', s, j, R, e, hj, ej, g, c', hl', ht, ho⟩ := key.h
  refine ⟨L', w', s, ?_, g, c', hl', ht, ho⟩
  unfold m_law_otherwise
  have e : b_law_otherwise ⟨(p.set k s0).length, [some (.own k), some (.lst (toldP pr L w)), none, none, none]⟩ (p.set k s0) = .ret (.own j) ((p ++ R).set k s) := by
    rw [hP]
    exact e
  have r := fnM_ret (fld := fldT) (N := 5) (xs := [.own k, .lst (toldP pr L w)]) e (thaw_own (n := (p.set k s0).length) (by rw [hP]; exact hj) ej (bels_told 0 (bel_pr 0) _ _))
  rw [r]
  congr 1
  rw [List.set_append_left _ _ hk, hP, ← hP s]
  exact List.take_left
def begT (L : List (Int × List Fq)) (j : Nat) : List PV := (List.range j).map fun i => PV.int (begN L (i + 1))
theorem begT_succ (L : List (Int × List Fq)) (j : Nat) : begT L (j + 1) = begT L j ++ [.int (begN L (j + 1))] := by
  unfold begT
  rw [List.range_succ, List.map_append]
  rfl
def fEn (b : Nat) (A B : PV) (k : Nat) (z : PV) (y4 y5 y6 : Option PV) : En := ⟨b, [some A, some B, some (.own k), some z, y4, y5, y6, none, none, none, none]⟩
def begBody : S := (sSeq (sSet (mC (.int 0)) 4)
    (sFor (itS (mSl (mVar 3) oNo (oYes (mNeg (mC (.int 1)))))) (tgT 2 (tgCons (tgN 5) (tgCons (tgN 6) tgNil)))
    (sSeq (sSet (mBin pAdd (mVar 4) (mVar 5)) 4)
    (sExpr (mMet fAppend (mVar 2) (mCons (mVar 4) mNil))))))
theorem beg_ok {L : List (Int × List Fq)} {w : List Fq} (hl : L.length ≤ 100) {b : Nat} {A B : PV} {p : Pool} (hb : b ≤ p.length) {acc : List PV} (ha : acc.length ≤ 1000) (y4 y5 y6 : Option PV) :
    ∃ z4 z5 z6, begBody (fEn b A B p.length (.lst (toldP pr L w)) y4 y5 y6) (p ++ [.lst acc]) = .next (fEn b A B p.length (.lst (toldP pr L w)) z4 z5 z6) (p ++ [.lst (acc ++ begT L L.length)]) := by
  have key : Ends (begBody (fEn b A B p.length (.lst (toldP pr L w)) y4 y5 y6) (p ++ [.lst acc])) (fun c => ∃ z4 z5 z6, c = .next (fEn b A B p.length (.lst (toldP pr L w)) z4 z5 z6) (p ++ [.lst (acc ++ begT L L.length)])) := by
    unfold begBody fEn
    refine go_seq_set c_ok ?_
    have sl : mSl (mVar 3) oNo (oYes (mNeg (mC (.int 1)))) ⟨b, [some A, some B, some (.own p.length), some (.lst (toldP pr L w)), some (.int 0), y5, y6, none, none, none, none]⟩ (p ++ [.lst acc]) = .ok (.lst (L.map (toldE pr))) (p ++ [.lst acc]) := by
      have e := (HndX.lst (toldP pr L w) (p ++ [.lst acc])).sl [] (m := mVar 3) (en := ⟨b, [some A, some B, some (.own p.length), some (.lst (toldP pr L w)), some (.int 0), y5, y6, none, none, none, none]⟩) (by
        rw [List.append_nil]
        exact var_ok rfl)
      rw [List.append_nil] at e
      rw [e]
      have e2 : cut (toldP pr L w) none (some (-1)) = L.map (toldE pr) := cut_init _ _
      rw [e2]
    refine go_for (z := ⟨L.map (toldE pr), noCk⟩) (fun j en q => ∃ y5 y6, en = ⟨b, [some A, some B, some (.own p.length), some (.lst (toldP pr L w)), some (.int (begN L j)), y5, y6, none, none, none, none]⟩ ∧ q = p ++ [.lst (acc ++ begT L j)]) (itS_lst sl) ⟨y5, y6, rfl, by rw [show begT L 0 = [] from rfl, List.append_nil]⟩ (fun _ _ _ _ => rfl) (fun j hj en q hI => ?_) (fun en q hI => ?_)
    · obtain ⟨y5, y6, rfl, rfl⟩ := hI
      have hj2 : j < L.length := by
        have h : j < (L.map (toldE pr)).length := hj
        rw [List.length_map] at h
        exact h
      have ez : (⟨L.map (toldE pr), noCk⟩ : It0).xs[j] = toldE pr L[j] := List.getElem_map _
      rw [ez]
      refine ⟨[(5, .int (L[j]).1), (6, .lst ((L[j]).2.map pr))], rfl, ?_⟩
      show Ends (sSeq _ _ ⟨b, [some A, some B, some (.own p.length), some (.lst (toldP pr L w)), some (.int (begN L j)), some (.int (L[j]).1), some (.lst ((L[j]).2.map pr)), none, none, none, none]⟩ _) _
      have e1 : begN L (j + 1) = begN L j + (L[j]).1 := by
        show begN L j + ((L[j]?).getD (0, [])).1 = _
        rw [List.getElem?_eq_getElem hj2]
        rfl
      refine go_seq_set (x := .int (begN L (j + 1))) (by rw [e1]; exact add_ok (var_ok rfl) (var_ok rfl)) ?_
      have bl : (begT L j).length = j := by unfold begT; rw [List.length_map, List.length_range]
      refine go_nx (app_last (y := .int (begN L (j + 1))) rfl (var_ok rfl) hb (by
        rw [List.length_append, bl]
        show acc.length + j < 1000000
        omega)) ⟨_, _, rfl, ?_⟩
      rw [begT_succ, List.append_assoc]
    · obtain ⟨y5, y6, rfl, rfl⟩ := hI
      have e : (⟨L.map (toldE pr), noCk⟩ : It0).xs.length = L.length := by
        show (L.map (toldE pr)).length = _
        rw [List.length_map]
      rw [e]
      exact ⟨_, _, _, rfl⟩
  exact key.h
theorem begT_ints (L : List (Int × List Fq)) (j : Nat) : begT L j = ((List.range j).map fun i => begN L (i + 1)).map PV.int := by
  unfold begT
  rw [List.map_map]
  rfl
def allB (L1 L2 : List (Int × List Fq)) : List Int := 0 :: ((List.range L1.length).map (fun i => begN L1 (i + 1)) ++ (List.range L2.length).map fun i => begN L2 (i + 1))
theorem allB_l {L1 L2 : List (Int × List Fq)} {k : Nat} (hk : k ≤ L1.length) : begN L1 k ∈ allB L1 L2 := by
  cases k with
  | zero => exact List.mem_cons_self
  | succ k => exact List.mem_cons_of_mem _ (List.mem_append_left _ (List.mem_map.mpr ⟨k, List.mem_range.mpr hk, rfl⟩))
theorem allB_r {L1 L2 : List (Int × List Fq)} {k : Nat} (hk : k ≤ L2.length) : begN L2 k ∈ allB L1 L2 := by
  cases k with
  | zero => exact List.mem_cons_self
  | succ k => exact List.mem_cons_of_mem _ (List.mem_append_right _ (List.mem_map.mpr ⟨k, List.mem_range.mpr hk, rfl⟩))
theorem allB_bd {L1 L2 : List (Int × List Fq)} {B : Int} (b0 : 0 ≤ B) (h1 : ∀ k, k ≤ L1.length → 0 ≤ begN L1 k ∧ begN L1 k ≤ B) (h2 : ∀ k, k ≤ L2.length → 0 ≤ begN L2 k ∧ begN L2 k ≤ B) : ∀ x ∈ allB L1 L2, 0 ≤ x ∧ x ≤ B := fun x hx => by
  rcases List.mem_cons.mp hx with rfl | hx
  · exact ⟨Int.le_refl 0, b0⟩
  · rcases List.mem_append.mp hx with hx | hx
    · obtain ⟨i, hi, rfl⟩ := List.mem_map.mp hx
      exact h1 _ (List.mem_range.mp hi)
    · obtain ⟨i, hi, rfl⟩ := List.mem_map.mp hx
      exact h2 _ (List.mem_range.mp hi)
theorem region_alike {L1 : List (Int × List Fq)} {w1 : List Fq} {L2 : List (Int × List Fq)} {w2 : List Fq} (g1 : GS L1 w1) (g2 : GS L2 w2) {b e : Int} (hb : 0 ≤ b) (n1 : ∀ k, k ≤ L1.length → begN L1 k ≤ b ∨ e ≤ begN L1 k) (n2 : ∀ k, k ≤ L2.length → begN L2 k ≤ b ∨ e ≤ begN L2 k)
    (hW1 : ∀ m, (wdN L1 w1 m).length ≤ 20) (hW2 : ∀ m, (wdN L2 w2 m).length ≤ 20) (h : Alk L1 w1 L2 w2 b (b + 40)) (he : b + 40 ≤ e) : Alk L1 w1 L2 w2 b e := fun d d1 d2 => by
  obtain ⟨m1, r1⟩ := reg_ex L1 hb
  obtain ⟨m2, r2⟩ := reg_ex L2 hb
  have o1 : ∀ d, b ≤ d → d < e → onQ L1 w1 d = pickQ (wdN L1 w1 m1) (d - begN L1 m1) := fun d a c => on_at w1 g1.day r1.le (Int.le_trans r1.lo a) fun i i1 i2 => by
    have := r1.hi i i1 i2
    rcases n1 i i2 with h | h <;> omega
  have o2 : ∀ d, b ≤ d → d < e → onQ L2 w2 d = pickQ (wdN L2 w2 m2) (d - begN L2 m2) := fun d a c => on_at w2 g2.day r2.le (Int.le_trans r2.lo a) fun i i1 i2 => by
    have := r2.hi i i1 i2
    rcases n2 i i2 with h | h <;> omega
  rw [o1 d d1 d2, o2 d d1 d2]
  have k1 := hW1 m1
  have k2 := hW2 m2
  refine fw_all (u := fun d => pickQ (wdN L1 w1 m1) (d - begN L1 m1)) (v := fun d => pickQ (wdN L2 w2 m2) (d - begN L2 m2)) (wd_len g1 r1.le) (wd_len g2 r2.le) (fun d => ?_) (fun d => ?_) (s := b) (fun d a c => ?_) d
  · show pickQ _ (d + ((wdN L1 w1 m1).length : Int) - begN L1 m1) = _
    rw [show d + ((wdN L1 w1 m1).length : Int) - begN L1 m1 = d - begN L1 m1 + ((wdN L1 w1 m1).length : Int) by omega]
    exact pick_len _ _
  · show pickQ _ (d + ((wdN L2 w2 m2).length : Int) - begN L2 m2) = _
    rw [show d + ((wdN L2 w2 m2).length : Int) - begN L2 m2 = d - begN L2 m2 + ((wdN L2 w2 m2).length : Int) by omega]
    exact pick_len _ _
  · show pickQ _ _ = pickQ _ _
    rw [← o1 d a (by omega), ← o2 d a (by omega)]
    exact h d a (by omega)
theorem alk_join {L1 : List (Int × List Fq)} {w1 : List Fq} {L2 : List (Int × List Fq)} {w2 : List Fq} {a b c : Int} (h1 : Alk L1 w1 L2 w2 a b) (h2 : Alk L1 w1 L2 w2 b c) : Alk L1 w1 L2 w2 a c := fun e x y => by
  by_cases z : e < b
  · exact h1 e x z
  · exact h2 e (by omega) y
def rEn (b : Nat) (A B : PV) (bs : List Int) (y3 y4 y5 y6 y7 y8 y9 y10 : Option PV) : En := ⟨b, [some A, some B, some (.lst (bs.map .int)), y3, y4, y5, y6, y7, y8, y9, y10]⟩
def regBody : S := (sSeq (sSet (mBin pAdd (mVar 7) (mC (.int 40))) 9)
    (sSeq (sIf (mB (mBin pNotN1 (mVar 8) (mC .non)))
    (sSet (mCall cMin (mCons (mVar 9) (mCons (mVar 8) mNil))) 9)
    sNop)
    (sFor (itR2 (mCons (mVar 7) (mCons (mVar 9) mNil))) (tgN 10)
    (sIf (mB (mBin (pTr fldT (eqvN .NotEq 3)) (mFn m_law_on [] (mCons (mVar 0) (mCons (mVar 10) mNil))) (mFn m_law_on [] (mCons (mVar 1) (mCons (mVar 10) mNil)))))
    (sRet (mVar 10))
    sNop))))
theorem cmp_prN' (q r : Fq) (p : Pool) : pTr fldT (eqvN .NotEq 3) (pr q) (pr r) p = .ok (.bl (!decide (q = r))) p := by
  have e : eqv 3 (pr q) (pr r) = some (decide (q = r)) := by
    show eqT (eqv 2) [.int q.1, .int q.2] [.int r.1, .int r.2] = _
    have h : ∀ a b : Int, eqv 2 (.int a) (.int b) = some (decide (a = b)) := fun a b => by
      show some (eqV (.int a) (.int b)) = _
      simp only [eqV]
      by_cases c : a = b <;> simp [c]
    unfold eqT
    rw [h]
    by_cases c : q.1 = r.1
    · rw [decide_eq_true c]
      dsimp only
      unfold eqT
      rw [h]
      by_cases c2 : q.2 = r.2
      · rw [decide_eq_true c2, decide_eq_true (Prod.ext c c2)]
        rfl
      · rw [decide_eq_false c2, decide_eq_false (fun z => c2 (by rw [z]))]
    · rw [decide_eq_false c, decide_eq_false (fun z => c (by rw [z]))]
  have e2 : eqvN .NotEq 3 (pr q) (pr r) = some (!decide (q = r)) := by
    unfold eqvN
    rw [if_pos ⟨rfl, rfl⟩, e]
    rfl
  unfold pTr
  rw [thaw_bel (bel_pr 0 q), thaw_bel (bel_pr 0 r)]
  dsimp only
  rw [e2]
theorem reg_ok {L1 : List (Int × List Fq)} {w1 : List Fq} {L2 : List (Int × List Fq)} {w2 : List Fq} (g1 : GS L1 w1) (g2 : GS L2 w2) {b : Nat} {bs : List Int} {y3 y4 y5 y6 y9 y10 : Option PV} {p : Pool} {day : Int} {fin : Option Int} (h0 : 0 ≤ day) (hB : day ≤ 100000000000000000) (hf : ∀ f, fin = some f → day < f)
    (nb1 : ∀ k, k ≤ L1.length → begN L1 k ≤ day ∨ ∃ f, fin = some f ∧ f ≤ begN L1 k) (nb2 : ∀ k, k ≤ L2.length → begN L2 k ≤ day ∨ ∃ f, fin = some f ∧ f ≤ begN L2 k) (hW1 : ∀ m, (wdN L1 w1 m).length ≤ 20) (hW2 : ∀ m, (wdN L2 w2 m).length ≤ 20) (hA : Alk L1 w1 L2 w2 0 day) {R : Ctl → Prop}
    (hr : ∀ e, 0 ≤ e → Alk L1 w1 L2 w2 0 e → onQ L1 w1 e ≠ onQ L2 w2 e → R (.ret (.int e) p))
    (hk : ∀ z9 z10, (∀ e, (∀ f, fin = some f → e ≤ f) → Alk L1 w1 L2 w2 0 e) → R (.next (rEn b (.lst (toldP pr L1 w1)) (.lst (toldP pr L2 w2)) bs y3 y4 y5 y6 (some (.int day)) (some (optP fin)) z9 z10) p)) :
    Ends (regBody (rEn b (.lst (toldP pr L1 w1)) (.lst (toldP pr L2 w2)) bs y3 y4 y5 y6 (some (.int day)) (some (optP fin)) y9 y10) p) R := by
  unfold regBody rEn
  refine go_seq_set (add_ok (var_ok rfl) c_ok) ?_
  obtain ⟨last, hl⟩ : ∃ last : Int, last = (match fin with | some f => if f < day + 40 then f else day + 40 | none => day + 40) := ⟨_, rfl⟩
  have l1 : day < last ∧ last ≤ day + 40 := by
    cases fin with
    | none =>
      have hl : last = day + 40 := hl
      omega
    | some f =>
      have hl : last = if f < day + 40 then f else day + 40 := hl
      have := hf f rfl
      split at hl <;> omega
  refine go_join (fun en' q => en' = ⟨b, [some (.lst (toldP pr L1 w1)), some (.lst (toldP pr L2 w2)), some (.lst (bs.map .int)), y3, y4, y5, y6, some (.int day), some (optP fin), some (.int last), y10]⟩ ∧ q = p) ?_ (fun en' q ⟨e1, e2⟩ => ?_)
  · cases fin with
    | none =>
      refine go_if_f (b_ok (bin_ok (x := .non) (y := .non) (var_ok rfl) c_ok rfl)) (go_nop ⟨_, _, rfl, ?_, rfl⟩)
      rw [hl]
      rfl
    | some f =>
      refine go_if_t (b_ok (bin_ok (x := .int f) (y := .non) (var_ok rfl) c_ok rfl)) (go_set (x := .int last) ?_ ⟨_, _, rfl, rfl, rfl⟩)
      rw [hl]
      exact call_ok (f := cMin) (two_ok (var_ok rfl) (var_ok rfl)) rfl
  · subst e1
    subst e2
    refine go_for (p1 := q) (z := ⟨rng day (last - day).toNat, noCk⟩) (fun i en q' => q' = q ∧ (∃ z, en = ⟨b, [some (.lst (toldP pr L1 w1)), some (.lst (toldP pr L2 w2)), some (.lst (bs.map .int)), y3, y4, y5, y6, some (.int day), some (optP fin), some (.int last), z]⟩) ∧ Alk L1 w1 L2 w2 0 (day + i))
      (itR2_is (two_ok (var_ok rfl) (var_ok rfl)) (by omega) (by omega) (by omega) (by omega)) ⟨rfl, ⟨y10, rfl⟩, by rw [show day + ((0 : Nat) : Int) = day by omega]; exact hA⟩ (fun _ _ _ _ => rfl) (fun i hi en q' hI => ?_) (fun en q' hI => ?_)
    · obtain ⟨rfl, ⟨z, rfl⟩, hA⟩ := hI
      refine ⟨[(10, .int (day + i))], by rw [rng_int day _ i hi]; rfl, ?_⟩
      show Ends (sIf _ _ _ ⟨b, [some (.lst (toldP pr L1 w1)), some (.lst (toldP pr L2 w2)), some (.lst (bs.map .int)), y3, y4, y5, y6, some (.int day), some (optP fin), some (.int last), some (.int (day + i))]⟩ q') _
      have t := b_ok (bin_ok (fn0_ok (two_ok (var_ok (i := 0) (x := .lst (toldP pr L1 w1)) (en := ⟨b, [some (.lst (toldP pr L1 w1)), some (.lst (toldP pr L2 w2)), some (.lst (bs.map .int)), y3, y4, y5, y6, some (.int day), some (optP fin), some (.int last), some (.int (day + i))]⟩) (p := q') rfl) (var_ok (i := 10) (x := .int (day + i)) rfl)) (law_on_ok (f := pr) (bel_pr 0) g1 q')) (fn0_ok (two_ok (var_ok (i := 1) (x := .lst (toldP pr L2 w2)) rfl) (var_ok (i := 10) (x := .int (day + i)) rfl)) (law_on_ok (f := pr) (bel_pr 0) g2 q')) (cmp_prN' (onQ L1 w1 (day + i)) (onQ L2 w2 (day + i)) q'))
      refine go_if t (fun h => ?_) (fun h => ?_)
      · have hne : onQ L1 w1 (day + i) ≠ onQ L2 w2 (day + i) := fun e => by
          rw [decide_eq_true e] at h
          cases h
        exact go_ret (var_ok rfl) (hr _ (by omega) hA hne)
      · have heq : onQ L1 w1 (day + i) = onQ L2 w2 (day + i) := Decidable.byContradiction fun e => by
          rw [decide_eq_false e] at h
          cases h
        refine go_nop ⟨rfl, ⟨_, rfl⟩, fun e x y => ?_⟩
        by_cases c : e < day + i
        · exact hA e x c
        · have : e = day + i := by omega
          subst this
          exact heq
    · obtain ⟨rfl, ⟨z, rfl⟩, hA⟩ := hI
      have hA : Alk L1 w1 L2 w2 0 last := by
        have e : (⟨rng day (last - day).toNat, noCk⟩ : It0).xs.length = (last - day).toNat := rng_len _ _
        rw [e] at hA
        rw [show last = day + ((last - day).toNat : Int) by omega]
        exact hA
      refine hk _ _ fun e he => ?_
      by_cases c : e ≤ last
      · exact fun d x y => hA d x (by omega)
      · have h40 : last = day + 40 := by
          cases fin with
          | none => exact hl
          | some f =>
            have hl : last = if f < day + 40 then f else day + 40 := hl
            have := he f rfl
            split at hl <;> omega
        refine alk_join (b := day) (fun d x y => hA d x (by omega)) (region_alike g1 g2 h0 (fun k hk => ?_) (fun k hk => ?_) hW1 hW2 (fun d x y => hA d (by omega) (by omega)) (by omega))
        · rcases nb1 k hk with h | ⟨f, hf, h⟩
          · exact .inl h
          · have := he f hf
            exact .inr (by omega)
        · rcases nb2 k hk with h | ⟨f, hf, h⟩
          · exact .inl h
          · have := he f hf
            exact .inr (by omega)
theorem uniq_len : ∀ l : List Int, (uniqI l).length ≤ l.length
  | [] => Nat.le_refl _
  | x :: xs => by
    have := uniq_len xs
    unfold uniqI
    split
    · rw [List.length_cons]
      omega
    · rw [List.length_cons, List.length_cons]
      omega
theorem zip_item {bs : List Int} {j : Nat} (hj : j < bs.length) : ((bs.drop 1).map PV.int ++ [PV.non])[j]? = some (optP (bs[j + 1]?)) := by
  by_cases c : j + 1 < bs.length
  · rw [List.getElem?_append_left (by rw [List.length_map, List.length_drop]; omega), List.getElem?_map, List.getElem?_drop, Nat.add_comm 1 j, List.getElem?_eq_getElem c]
    rfl
  · rw [List.getElem?_append_right (by rw [List.length_map, List.length_drop]; omega), List.length_map, List.length_drop, List.getElem?_eq_none (by omega : bs.length ≤ j + 1), show j - (bs.length - 1) = 0 by omega]
    rfl
theorem up_lt {bs : List Int} (h : bs.Pairwise (· < ·)) {i j : Nat} (hj : j < bs.length) (hij : i < j) : bs[i]'(by omega) < bs[j] := List.pairwise_iff_getElem.mp h i j (by omega) hj hij
theorem up_near {bs : List Int} (h : bs.Pairwise (· < ·)) {x : Int} (hx : x ∈ bs) {j : Nat} (hj : j < bs.length) : x ≤ bs[j] ∨ ∃ f, bs[j + 1]? = some f ∧ f ≤ x := by
  obtain ⟨i, hi, rfl⟩ := List.getElem_of_mem hx
  rcases Nat.lt_trichotomy i j with c | c | c
  · exact .inl (Int.le_of_lt (up_lt h hj c))
  · subst c
    exact .inl (Int.le_refl _)
  · refine .inr ⟨bs[j + 1]'(by omega), List.getElem?_eq_getElem _, ?_⟩
    by_cases e : i = j + 1
    · subst e
      exact Int.le_refl _
    · exact Int.le_of_lt (up_lt h hi (by omega))
theorem begN_nn {L : List (Int × List Fq)} (hd : ∀ s ∈ L, 1 ≤ s.1) {k : Nat} (hk : k ≤ L.length) : 0 ≤ begN L k := begN_le hd (Nat.zero_le k) hk
theorem first_ok {L1 : List (Int × List Fq)} {w1 : List Fq} {L2 : List (Int × List Fq)} {w2 : List Fq} (g1 : GS L1 w1) (g2 : GS L2 w2) (hB1 : ∀ m, m ≤ L1.length → begN L1 m ≤ 100000000000000000) (hB2 : ∀ m, m ≤ L2.length → begN L2 m ≤ 100000000000000000) (hW1 : ∀ m, (wdN L1 w1 m).length ≤ 20) (hW2 : ∀ m, (wdN L2 w2 m).length ≤ 20) (p : Pool) :
    ∃ x, m_law_first [.lst (toldP pr L1 w1), .lst (toldP pr L2 w2)] p = .ok x p ∧ FirstU L1 w1 L2 w2 0 x := by
  have f1 := g1.few
  have f2 := g2.few
  obtain ⟨bs, hbs⟩ : ∃ bs, bs = sortU (allB L1 L2) := ⟨_, rfl⟩
  have up : bs.Pairwise (· < ·) := hbs ▸ sortU_up _
  have mem : ∀ x, x ∈ bs ↔ x ∈ allB L1 L2 := fun x => by rw [hbs]; exact mem_sortU
  have bd : ∀ x ∈ bs, 0 ≤ x ∧ x ≤ 100000000000000000 := fun x hx => allB_bd (by decide) (fun k hk => ⟨begN_nn g1.day hk, hB1 k hk⟩) (fun k hk => ⟨begN_nn g2.day hk, hB2 k hk⟩) x ((mem x).mp hx)
  have m0 : (0 : Int) ∈ bs := (mem 0).mpr List.mem_cons_self
  have key : Ends (b_law_first ⟨p.length, [some (.lst (toldP pr L1 w1)), some (.lst (toldP pr L2 w2)), none, none, none, none, none, none, none, none, none]⟩ p) (fun c => ∃ x r, c = .ret x (p ++ r) ∧ FirstU L1 w1 L2 w2 0 x) := by
    unfold b_law_first
    refine go_seq_set (lstO_ok (one_ok c_ok)) ?_
    obtain ⟨u4, u5, u6, e1⟩ := beg_ok (L := L1) (w := w1) (by omega) (b := p.length) (A := .lst (toldP pr L1 w1)) (B := .lst (toldP pr L2 w2)) (p := p) (Nat.le_refl _) (acc := [.int 0]) (by decide) none none none
    obtain ⟨v4, v5, v6, e2⟩ := beg_ok (L := L2) (w := w2) (by omega) (b := p.length) (A := .lst (toldP pr L1 w1)) (B := .lst (toldP pr L2 w2)) (p := p) (Nat.le_refl _) (acc := [.int 0] ++ begT L1 L1.length) (by
      rw [List.length_append]
      unfold begT
      rw [List.length_map, List.length_range]
      show 1 + L1.length ≤ 1000
      omega) u4 u5 u6
    have ef : sFor (itS (mLst (mCons (mVar 0) (mCons (mVar 1) mNil)))) (tgN 3) begBody ⟨p.length, [some (.lst (toldP pr L1 w1)), some (.lst (toldP pr L2 w2)), some (.own p.length), none, none, none, none, none, none, none, none]⟩ (p ++ [.lst [.int 0]]) = .next (fEn p.length (.lst (toldP pr L1 w1)) (.lst (toldP pr L2 w2)) p.length (.lst (toldP pr L2 w2)) v4 v5 v6) (p ++ [.lst ([.int 0] ++ begT L1 L1.length ++ begT L2 L2.length)]) := by
      refine sFor_ok (itS_lst (lst_ok (two_ok (var_ok rfl) (var_ok rfl)))) ?_
      refine (for_nx (as := [(3, .lst (toldP pr L1 w1))]) rfl rfl e1).trans ?_
      refine (for_nx (as := [(3, .lst (toldP pr L2 w2))]) rfl rfl e2).trans ?_
      exact for_end rfl
    refine go_seq_nx ef ?_
    have ei : [PV.int 0] ++ begT L1 L1.length ++ begT L2 L2.length = (allB L1 L2).map PV.int := by
      rw [begT_ints, begT_ints]
      unfold allB
      rw [List.map_cons, List.map_append]
      rfl
    rw [ei]
    have es : mSortSI (mVar 2) (fEn p.length (.lst (toldP pr L1 w1)) (.lst (toldP pr L2 w2)) p.length (.lst (toldP pr L2 w2)) v4 v5 v6) (p ++ [.lst ((allB L1 L2).map .int)]) = .ok (.lst (bs.map .int)) (p ++ [.lst ((allB L1 L2).map .int)]) := by
      unfold mSortSI
      rw [var_ok (x := .own p.length) rfl]
      have hg : getR (p ++ [Cell.lst ((allB L1 L2).map PV.int)]) (.own p.length) = some ((allB L1 L2).map PV.int) := by
        show (match (p ++ [Cell.lst ((allB L1 L2).map PV.int)])[p.length]? with | some (.lst xs) => some xs | _ => none) = _
        rw [get_last]
      show (match getR (p ++ [Cell.lst ((allB L1 L2).map PV.int)]) (.own p.length) with | some ys => _ | none => _) = _
      rw [hg]
      dsimp only
      rw [its_ints]
      dsimp only
      rw [if_pos (by
        unfold allB
        rw [List.length_cons, List.length_append, List.length_map, List.length_map, List.length_range, List.length_range]
        omega), ← hbs]
    refine go_seq_set es ?_
    have v2 : mVar 2 ⟨p.length, [some (.lst (toldP pr L1 w1)), some (.lst (toldP pr L2 w2)), some (.lst (bs.map .int)), some (.lst (toldP pr L2 w2)), v4, v5, v6, none, none, none, none]⟩ (p ++ [.lst ((allB L1 L2).map .int)]) = .ok (.lst (bs.map .int)) (p ++ [.lst ((allB L1 L2).map .int)]) := var_ok rfl
    have bl : 1 ≤ bs.length := List.length_pos_of_mem m0
    have bu : bs.length ≤ 200 := by
      have h1 : (sortU (allB L1 L2)).length ≤ (allB L1 L2).length := by
        unfold sortU
        rw [List.length_mergeSort]
        exact uniq_len _
      have h2 : (allB L1 L2).length = L1.length + L2.length + 1 := by
        unfold allB
        rw [List.length_cons, List.length_append, List.length_map, List.length_map, List.length_range, List.length_range]
      rw [hbs]
      omega
    have sl := sl_fromL (i := 1) v2 c_ok (by rw [List.length_map]; exact bl)
    have hz : itZA (mCons (mVar 2) (mCons (mBin pAdd (mSl (mVar 2) (oYes (mC (.int 1))) oNo) (mLst (mCons (mC .non) mNil))) mNil)) ⟨p.length, [some (.lst (toldP pr L1 w1)), some (.lst (toldP pr L2 w2)), some (.lst (bs.map .int)), some (.lst (toldP pr L2 w2)), v4, v5, v6, none, none, none, none]⟩ (p ++ [.lst ((allB L1 L2).map .int)])
        = .ok ⟨zipZ (bs.map .int) ((bs.drop 1).map PV.int ++ [PV.non]), noCk⟩ (p ++ [.lst ((allB L1 L2).map .int)]) := by
      have e2 : mBin pAdd (mSl (mVar 2) (oYes (mC (.int 1))) oNo) (mLst (mCons (mC .non) mNil)) ⟨p.length, [some (.lst (toldP pr L1 w1)), some (.lst (toldP pr L2 w2)), some (.lst (bs.map .int)), some (.lst (toldP pr L2 w2)), v4, v5, v6, none, none, none, none]⟩ (p ++ [.lst ((allB L1 L2).map .int)]) = .ok (.lst ((bs.map PV.int).drop 1 ++ [PV.non])) (p ++ [.lst ((allB L1 L2).map .int)]) := bin_ok (f := pAdd) sl (lst_ok (one_ok (c_ok (x := PV.non)))) (pAdd_lst' (by
        rw [List.length_drop, List.length_map]
        show bs.length - 1 + 1 ≤ 1000000
        omega))
      unfold itZA
      rw [two_ok v2 e2, ← List.map_drop]
      rfl
    have zl : (zipZ (bs.map PV.int) ((bs.drop 1).map PV.int ++ [PV.non])).length = bs.length := by
      rw [zipZ_length, List.length_map, List.length_append, List.length_map, List.length_drop]
      show min bs.length (bs.length - 1 + 1) = _
      omega
    refine go_seq_for (z := ⟨zipZ (bs.map .int) ((bs.drop 1).map PV.int ++ [PV.non]), noCk⟩) (fun j en q => q = p ++ [.lst ((allB L1 L2).map .int)] ∧ (∃ y7 y8 y9 y10, en = rEn p.length (.lst (toldP pr L1 w1)) (.lst (toldP pr L2 w2)) bs (some (.lst (toldP pr L2 w2))) v4 v5 v6 y7 y8 y9 y10) ∧ (∀ x, bs[j]? = some x → Alk L1 w1 L2 w2 0 x) ∧ (bs[j]? = none → ∀ x, Alk L1 w1 L2 w2 0 x))
      hz ⟨rfl, ⟨none, none, none, none, rfl⟩, fun x hx e a b => ?_, fun hn => ?_⟩ (fun _ _ _ _ => rfl) (fun j hj en q hI => ?_) (fun en q hI => ?_)
    · exfalso
      obtain ⟨i, hi, ei⟩ := List.getElem_of_mem m0
      rw [List.getElem?_eq_getElem (by omega)] at hx
      have hx := Option.some.inj hx
      by_cases c : i = 0
      · subst c
        omega
      · have := up_lt up hi (by omega : 0 < i)
        omega
    · rw [List.getElem?_eq_getElem (by omega)] at hn
      cases hn
    · obtain ⟨rfl, ⟨y7, y8, y9, y10, rfl⟩, hA, _⟩ := hI
      have hj2 : j < bs.length := by rw [← zl]; exact hj
      have ez : (⟨zipZ (bs.map .int) ((bs.drop 1).map PV.int ++ [PV.non]), noCk⟩ : It0).xs[j] = .tup [.int bs[j], optP (bs[j + 1]?)] := zipZ_at (by rw [zl]; exact hj2) (by rw [List.getElem?_map, List.getElem?_eq_getElem hj2]; rfl) (zip_item hj2)
      rw [ez]
      refine ⟨[(7, .int bs[j]), (8, optP (bs[j + 1]?))], rfl, ?_⟩
      have bj := bd _ (List.getElem_mem hj2)
      refine reg_ok g1 g2 (bs := bs) (fin := bs[j + 1]?) bj.1 bj.2 (fun f hf => ?_) (fun k hk => up_near up ((mem _).mpr (allB_l hk)) hj2) (fun k hk => up_near up ((mem _).mpr (allB_r hk)) hj2) hW1 hW2 (hA _ (List.getElem?_eq_getElem hj2)) (fun e he a ne => ?_) (fun z9 z10 h => ?_)
      · obtain ⟨h, e⟩ := List.getElem?_eq_some_iff.mp hf
        rw [← e]
        exact up_lt up h (Nat.lt_succ_self j)
      · exact ⟨⟨_, [Cell.lst ((allB L1 L2).map .int)], rfl, .inl ⟨e, rfl, he, a, ne⟩⟩⟩
      · refine ⟨rfl, ⟨_, _, _, _, rfl⟩, fun x hx => h x fun f hf => ?_, fun hn x => h x fun f hf => ?_⟩
        · rw [hx] at hf
          cases hf
          exact Int.le_refl _
        · rw [hn] at hf
          cases hf
    · obtain ⟨rfl, ⟨y7, y8, y9, y10, rfl⟩, _, hA⟩ := hI
      have hA := hA (by
        show bs[(zipZ (bs.map PV.int) ((bs.drop 1).map PV.int ++ [PV.non])).length]? = none
        rw [zl]
        exact List.getElem?_eq_none (Nat.le_refl _))
      exact go_ret c_ok ⟨_, [Cell.lst ((allB L1 L2).map .int)], rfl, .inr ⟨rfl, fun e he => hA (e + 1) e he (by omega)⟩⟩
  obtain ⟨x, r, e, F⟩ := key.h
  have bx : bel 0 x = true := by
    rcases F with ⟨_, rfl, _⟩ | ⟨rfl, _⟩ <;> rfl
  exact ⟨x, fnM_end (q := p) rfl bx ⟨r, e⟩, F⟩
theorem FirstU.one {L1 : List (Int × List Fq)} {w1 : List Fq} {L2 : List (Int × List Fq)} {w2 : List Fq} {x y : PV} (a : FirstU L1 w1 L2 w2 0 x) (b : FirstU L1 w1 L2 w2 0 y) : x = y := by
  rcases a with ⟨e, rfl, e0, eA, en⟩ | ⟨rfl, eA⟩
  · rcases b with ⟨f, rfl, f0, fA, fn⟩ | ⟨rfl, fA⟩
    · rcases Int.lt_trichotomy e f with c | c | c
      · exact absurd (fA e e0 c) en
      · rw [c]
      · exact absurd (eA f f0 c) fn
    · exact absurd (fA e e0) en
  · rcases b with ⟨f, rfl, f0, fA, fn⟩ | ⟨rfl, fA⟩
    · exact absurd (eA f f0) fn
    · rfl
theorem FirstU.symm {L1 : List (Int × List Fq)} {w1 : List Fq} {L2 : List (Int × List Fq)} {w2 : List Fq} {d : Int} {x : PV} (a : FirstU L1 w1 L2 w2 d x) : FirstU L2 w2 L1 w1 d x := by
  rcases a with ⟨e, rfl, e0, eA, en⟩ | ⟨rfl, eA⟩
  · exact .inl ⟨e, rfl, e0, fun i a b => (eA i a b).symm, fun h => en h.symm⟩
  · exact .inr ⟨rfl, fun i a => (eA i a).symm⟩
theorem CC.gs {P : Fq → Prop} {W : Nat} {L : List (Int × List Fq)} {w : List Fq} (c : CC P W L w) (hW : W ≤ 60) (hl : L.length ≤ 59) : GS L w := ⟨by omega, c.day, fun s hs => ⟨(c.wl s hs).1, Nat.le_trans (c.wl s hs).2 hW⟩, c.ll.1, Nat.le_trans c.ll.2 hW⟩
theorem CC.wd {P : Fq → Prop} {W : Nat} {L : List (Int × List Fq)} {w : List Fq} (c : CC P W L w) (m : Nat) : (wdN L w m).length ≤ W := by
  unfold wdN
  cases e : ((L.map Prod.snd) ++ [w])[m]? with
  | none => exact Nat.zero_le _
  | some x =>
    have hx := List.mem_of_getElem? e
    rcases List.mem_append.mp hx with h | h
    · obtain ⟨s, hs, rfl⟩ := List.mem_map.mp h
      exact (c.wl s hs).2
    · rw [List.mem_singleton] at h
      subst h
      exact c.ll.2
theorem pNe_same {L1 : List (Int × List Fq)} {w1 : List Fq} {L2 : List (Int × List Fq)} {w2 : List Fq} {x : PV} (a : FirstU L1 w1 L2 w2 0 x) (p : Pool) : pNe x x p = .ok (.bl false) p := by
  rcases a with ⟨e, rfl, _⟩ | ⟨rfl, _⟩
  · rw [pNe_int, decide_eq_true rfl]
    rfl
  · rfl
structure Told (L : List (Int × List Fq)) (w : List Fq) : Prop where
  c : CC S2 20 L w
  few : L.length ≤ 59
  t : tot L ≤ 100000000000000000
theorem Told.gs {L : List (Int × List Fq)} {w : List Fq} (h : Told L w) : GS L w := h.c.gs (by decide) h.few
theorem Told.b {L : List (Int × List Fq)} {w : List Fq} (h : Told L w) (m : Nat) (hm : m ≤ L.length) : begN L m ≤ 100000000000000000 := Int.le_trans (beg_tot h.c.day m hm) h.t
theorem q_crs {L1 : List (Int × List Fq)} {w1 : List Fq} {L2 : List (Int × List Fq)} {w2 : List Fq} (h1 : Told L1 w1) (h2 : Told L2 w2) {x : PV} (F : FirstU L1 w1 L2 w2 0 x) : qCourse (crs L1 w1) (crs L2 w2) = some (isNon x) := by
  obtain ⟨y, e, G⟩ := unlike_ok h1.gs h2.gs h1.b h2.b []
  cases F.one G
  show (match m_first_unlike [crs L1 w1, crs L2 w2] [] with
      | .ok .non [] => some true
      | .ok (.int _) [] => some false
      | _ => none) = _
  rw [e]
  rcases F with ⟨_, rfl, _⟩ | ⟨rfl, _⟩ <;> rfl
theorem tr_of {f : PV → PV → Option Bool} {x y : PV} {b : Bool} (hx : bel 0 x = true) (hy : bel 0 y = true) (h : f x y = some b) (p : Pool) : pTr fldT f x y p = .ok (.bl b) p := by
  unfold pTr
  rw [thaw_bel hx, thaw_bel hy]
  dsimp only
  rw [h]
theorem law_right_ok {L1 : List (Int × List Fq)} {w1 : List Fq} {L2 : List (Int × List Fq)} {w2 : List Fq} (h1 : Told L1 w1) (h2 : Told L2 w2) (p : Pool) : m_law_right [.lst (toldP pr L1 w1), .lst (toldP pr L2 w2)] p = .ok (.bl true) p := by
  obtain ⟨x, e1, F⟩ := first_ok h1.gs h2.gs h1.b h2.b h1.c.wd h2.c.wd p
  obtain ⟨y, e2, G⟩ := unlike_ok h1.gs h2.gs h1.b h2.b p
  obtain ⟨z, e3, G2⟩ := unlike_ok h2.gs h1.gs h2.b h1.b p
  cases F.one G
  cases F.one G2.symm
  have q1 := q_crs h1 h2 F
  have q2 : (fun x y => (qCourse x y).map (!·)) (crs L2 w2) (crs L1 w1) = some (!isNon x) := by
    show (qCourse (crs L2 w2) (crs L1 w1)).map (!·) = _
    rw [q_crs h2 h1 F.symm]
    rfl
  have xx : isNon x = true ∨ isNon x = false := by cases isNon x <;> simp
  refine fnM_end (q := p) rfl rfl ?_
  show Ends (b_law_right ⟨p.length, [some (.lst (toldP pr L1 w1)), some (.lst (toldP pr L2 w2)), none, none, none]⟩ p) _
  unfold b_law_right
  refine go_seq_set (fn0_ok (two_ok (var_ok rfl) (var_ok rfl)) e1) ?_
  refine go_seq_par (two_ok (fn0_ok (one_ok (var_ok rfl)) (law_course_ok h1.gs ⟨h1.c.lq, h1.c.wq⟩ p)) (fn0_ok (one_ok (var_ok rfl)) (law_course_ok h2.gs ⟨h2.c.lq, h2.c.wq⟩ p))) ?_
  have v2 : mVar 2 ⟨p.length, [some (.lst (toldP pr L1 w1)), some (.lst (toldP pr L2 w2)), some x, some (crs L1 w1), some (crs L2 w2)]⟩ p = .ok x p := var_ok rfl
  have v3 : mVar 3 ⟨p.length, [some (.lst (toldP pr L1 w1)), some (.lst (toldP pr L2 w2)), some x, some (crs L1 w1), some (crs L2 w2)]⟩ p = .ok (crs L1 w1) p := var_ok rfl
  have v4 : mVar 4 ⟨p.length, [some (.lst (toldP pr L1 w1)), some (.lst (toldP pr L2 w2)), some x, some (crs L1 w1), some (crs L2 w2)]⟩ p = .ok (crs L2 w2) p := var_ok rfl
  refine go_seq_if_f (or_ff (b_ok (bin_ok (fn0_ok (two_ok v3 v4) e2) v2 (pNe_same F p))) (b_ok (bin_ok (fn0_ok (two_ok v4 v3) e3) v2 (pNe_same F p)))) (go_seq_nop ?_)
  have bb : ∀ b : Bool, pEq (.bl b) (.bl b) p = .ok (.bl true) p := fun b => by cases b <;> rfl
  have t1 : mBin pEq (mBin (pTr fldT qCourse) (mVar 3) (mVar 4)) (mBin pIsN1 (mVar 2) (mC .non)) ⟨p.length, [some (.lst (toldP pr L1 w1)), some (.lst (toldP pr L2 w2)), some x, some (crs L1 w1), some (crs L2 w2)]⟩ p = .ok (.bl true) p :=
    bin_ok (bin_ok v3 v4 (tr_of (bel_crs 0 _ _) (bel_crs 0 _ _) q1 p)) (bin_ok (x := x) (y := .non) v2 c_ok rfl) (bb _)
  have t2 : mBin pEq (mBin (pTr fldT (fun x y => (qCourse x y).map (!·))) (mVar 4) (mVar 3)) (mBin pNotN1 (mVar 2) (mC .non)) ⟨p.length, [some (.lst (toldP pr L1 w1)), some (.lst (toldP pr L2 w2)), some x, some (crs L1 w1), some (crs L2 w2)]⟩ p = .ok (.bl true) p :=
    bin_ok (bin_ok v4 v3 (tr_of (bel_crs 0 _ _) (bel_crs 0 _ _) q2 p)) (bin_ok (x := x) (y := .non) v2 c_ok rfl) (bb _)
  exact go_ret ((andV_t t1).trans t2) ⟨[], by rw [List.append_nil]⟩
theorem lstretches_ok (P : Pool) (k n : Nat) (s0 : Cell) (hl : k < P.length) (h0 : IsWell n s0) (hn : n ≤ 800000) (most word long : Nat) (far : Int) (hm1 : 1 ≤ most) (hm : most ≤ 10) (hw1 : 1 ≤ word) (hw10 : word ≤ 10) (hl1 : 1 ≤ long) (hlg : long ≤ 1000000000000) (hf : far = 0 ∨ far = 1) :
    ∃ (L : List (Int × List Fq)) (w : List Fq) (s : Cell), m_law_stretches [.own k, .int most, .int word, .int long, .int far] (P.set k s0) = .ok (.lst (toldP pr L w)) (P.set k s) ∧ IsWell (n + 300) s ∧ GS L w ∧ WQ L w ∧ L.length < most ∧ (∀ s ∈ L, s.1 ≤ long ∧ s.2.length ≤ word) ∧ w.length ≤ word := by
  have hP : ∀ s : Cell, (P.set k s).length = P.length := fun s => List.length_set
  have key : Ends (b_law_stretches ⟨P.length, [some (.own k), some (.int most), some (.int word), some (.int long), some (.int far), none, none]⟩ (P.set k s0)) (fun c => ∃ (L : List (Int × List Fq)) (w : List Fq) (s : Cell) (r : Pool), c = .ret (.lst (toldP pr L w)) (P.set k s ++ r) ∧ IsWell (n + 300) s ∧ GS L w ∧ WQ L w ∧ L.length < most ∧ (∀ s ∈ L, s.1 ≤ long ∧ s.2.length ≤ word) ∧ w.length ≤ word) := by
    unfold b_law_stretches
    refine go_seq_set (x := .own P.length) (p1 := two P k (.lst []) s0) (by
      have e := lstO_ok (en := ⟨P.length, [some (.own k), some (.int most), some (.int word), some (.int long), some (.int far), none, none]⟩) (p := P.set k s0) nil_ok
      rw [hP, set_app hl] at e
      exact e) ?_
    obtain ⟨d, s1, e1, h1, a1, b1⟩ := draw_ok (P ++ [Cell.lst []]) k n s0 most (two_lt hl _) h0 (by omega) (by omega) (by omega)
    have e1 : m_law_draw [.own k, .int most] (two P k (.lst []) s0) = .ok (.int d) (two P k (.lst []) s1) := e1
    obtain ⟨c, hc, hcm⟩ : ∃ c : Nat, d = (c : Int) ∧ c < most := ⟨d.toNat, by omega, by omega⟩
    subst hc
    refine go_seq_rng (n := c) (fun i en q => ∃ (L : List (Int × List Fq)) (s : Cell) (x6 : Option PV), en = ⟨P.length, [some (.own k), some (.int most), some (.int word), some (.int long), some (.int far), some (.own P.length), x6]⟩ ∧ q = two P k (.lst (L.map (toldE pr))) s ∧ IsWell (n + 1 + 25 * i) s ∧ L.length = i ∧ (∀ s ∈ L, 1 ≤ s.1 ∧ s.1 ≤ long ∧ 1 ≤ s.2.length ∧ s.2.length ≤ word ∧ ∀ q ∈ s.2, Sq q)) (p1 := two P k (.lst []) s1)
      (one_ok (fn0_ok (two_ok (var_ok rfl) (var_ok rfl)) e1)) (Nat.le_trans (by omega : c ≤ 10) (by decide)) ⟨[], s1, none, rfl, rfl, h1, rfl, fun _ h => nomatch h⟩ (fun i en q hi hI => ?_) (fun en q hI => ?_)
    · obtain ⟨L, s, x6, rfl, rfl, hw, hLl, hL⟩ := hI
      obtain ⟨d2, s2, e2, h2, a2, b2⟩ := draw_ok (P ++ [Cell.lst (L.map (toldE pr))]) k (n + 1 + 25 * i) s long (two_lt hl _) hw (by omega) (by omega) (by omega)
      have e2 : m_law_draw [.own k, .int long] (two P k (.lst (L.map (toldE pr))) s) = .ok (.int d2) (two P k (.lst (L.map (toldE pr))) s2) := e2
      obtain ⟨ws, s3, e3, h3, w1, w2, w3⟩ := lword_ok (P ++ [Cell.lst (L.map (toldE pr))]) k (n + 1 + 25 * i + 1) s2 (two_lt hl _) h2 (by omega) word far hw1 hw10 hf
      have e3 : m_law_word [.own k, .int word, .int far] (two P k (.lst (L.map (toldE pr))) s2) = .ok (.lst (ws.map pr)) (two P k (.lst (L.map (toldE pr))) s3) := e3
      refine go_nx (app_nx (k := P.length) rfl (two_get hl _ _) (tup_ok (two_ok (add_ok c_ok (fn0_ok (two_ok (var_ok rfl) (var_ok rfl)) e2)) (fn0_ok (three_ok (var_ok rfl) (var_ok rfl) (var_ok rfl)) e3))) (two_get hl _ _) (mayL_self _ _) (by
        rw [List.length_map, hLl]
        exact Nat.lt_of_lt_of_le (by omega : i < 10) (by decide))) ?_
      rw [two_set hl]
      refine ⟨L ++ [(1 + d2, ws)], s3, _, rfl, by rw [List.map_append]; rfl, h3.mono (by omega), by rw [List.length_append, hLl]; rfl, fun t ht => ?_⟩
      rcases List.mem_append.mp ht with h | h
      · exact hL t h
      · rw [List.mem_singleton.mp h]
        exact ⟨by show 1 ≤ 1 + d2; omega, by show 1 + d2 ≤ (long : Int); omega, w1, w2, w3⟩
    · obtain ⟨L, s, x6, rfl, rfl, hw, hLl, hL⟩ := hI
      obtain ⟨ws, s3, e3, h3, w1, w2, w3⟩ := lword_ok (P ++ [Cell.lst (L.map (toldE pr))]) k (n + 1 + 25 * c) s (two_lt hl _) hw (by omega) word far hw1 hw10 hf
      have e3 : m_law_word [.own k, .int word, .int far] (two P k (.lst (L.map (toldE pr))) s) = .ok (.lst (ws.map pr)) (two P k (.lst (L.map (toldE pr))) s3) := e3
      have ea : pAdd (.own P.length) (.lst [.tup [.non, .lst (ws.map pr)]]) (two P k (.lst (L.map (toldE pr))) s3) = .ok (.lst (toldP pr L ws)) (two P k (.lst (L.map (toldE pr))) s3) := by
        have g : getL (two P k (.lst (L.map (toldE pr))) s3) (.own P.length) = some (L.map (toldE pr)) := by
          show (match (two P k (.lst (L.map (toldE pr))) s3)[P.length]? with | some (.lst xs) => some xs | _ => none) = _
          rw [two_get hl]
        unfold pAdd
        dsimp only
        rw [g]
        show (if (L.map (toldE pr)).length + 1 ≤ big then Res.ok (PV.lst (L.map (toldE pr) ++ [.tup [.non, .lst (ws.map pr)]])) _ else .stuck) = _
        rw [if_pos (by
          rw [List.length_map, hLl]
          exact Nat.le_trans (by omega : c + 1 ≤ 11) (by decide))]
        rfl
      refine go_ret (bin_ok (var_ok rfl) (lst_ok (one_ok (tup_ok (two_ok c_ok (fn0_ok (three_ok (var_ok rfl) (var_ok rfl) (var_ok rfl)) e3))))) ea) ⟨L, ws, s3, [Cell.lst (L.map (toldE pr))], ?_, h3.mono (by omega), ⟨by omega, fun t ht => (hL t ht).1, fun t ht => ⟨(hL t ht).2.2.1, Nat.le_trans (hL t ht).2.2.2.1 (by omega)⟩, w1, by omega⟩, ⟨fun t ht => (hL t ht).2.2.2.2, w3⟩, by omega, fun t ht => ⟨(hL t ht).2.1, (hL t ht).2.2.2.1⟩, w2⟩
      rw [two_eq hl]
  obtain ⟨L, w, s, r, e, hw, h⟩ := key.h
  refine ⟨L, w, s, fnM_end (q := P.set k s) (by rw [hP, hP]) (bels_told 0 (bel_pr 0) L w) ?_, hw, h⟩
  show Ends (b_law_stretches ⟨(P.set k s0).length, [some (.own k), some (.int most), some (.int word), some (.int long), some (.int far), none, none]⟩ (P.set k s0)) _
  rw [hP]
  exact ⟨r, e⟩
theorem tot_le {B : Int} : ∀ {L : List (Int × List Fq)}, (∀ s ∈ L, s.1 ≤ B) → tot L ≤ (L.length : Int) * B
  | [], _ => by
    show (0 : Int) ≤ (0 : Nat) * B
    omega
  | s :: L, h => by
    have h1 := h s List.mem_cons_self
    have ih := tot_le (L := L) fun t ht => h t (List.mem_cons_of_mem _ ht)
    show s.1 + tot L ≤ ((L.length + 1 : Nat) : Int) * B
    rw [Int.natCast_add, Int.add_mul, show ((1 : Nat) : Int) * B = B by omega]
    omega
theorem cc_of {L : List (Int × List Fq)} {w : List Fq} {W : Nat} (g : GS L w) (q : WQ L w) (h1 : ∀ s ∈ L, s.2.length ≤ W) (h2 : w.length ≤ W) : CC Sq W L w := ⟨g.day, fun s hs => ⟨(g.wl s hs).1, h1 s hs⟩, ⟨g.ll.1, h2⟩, q.l, q.w⟩
theorem told_of {L : List (Int × List Fq)} {w : List Fq} {P : Fq → Prop} (hP : ∀ q, P q → S2 q) {W : Nat} (hW : W ≤ 20) (c : CC P W L w) (hl : L.length ≤ 59) (ht : tot L ≤ 100000000000000000) : Told L w := ⟨(c.mono hP).wide hW, hl, ht⟩
theorem cut_len8 {xs : List PV} {a b : Option Int} : (cut xs a b).length ≤ xs.length := by
  unfold cut
  rw [List.length_take, List.length_drop]
  omega
theorem cut_mem8 {xs : List PV} {a b : Option Int} {x : PV} (h : x ∈ cut xs a b) : x ∈ xs := List.mem_of_mem_drop (List.mem_of_mem_take h)
theorem toIs8 (ns : List Int) (a b : Option Int) : ∀ z ∈ cut (ns.map PV.int) a b ++ [PV.int 0, .int 1], ∃ n : Int, z = .int n := fun z hz => by
  rcases List.mem_append.mp hz with hz | hz
  · obtain ⟨n, _, rfl⟩ := List.mem_map.mp (cut_mem8 hz)
    exact ⟨n, rfl⟩
  · simp only [List.mem_cons, List.not_mem_nil, or_false] at hz
    rcases hz with rfl | rfl
    · exact ⟨0, rfl⟩
    · exact ⟨1, rfl⟩
theorem script_ok8 (ns : List Int) (hn : ns.length ≤ 63) (hi : Int) (b : Nat) (sl : List (Option PV)) (p : Pool) (h0 : sl[0]? = some (some (.scr ns))) : itS (mBin pAdd (mSl (mVar 0) oNo (oYes (mC (.int hi)))) (mLst (mCons (mC (.int 0)) (mCons (mC (.int 1)) mNil)))) ⟨b, sl⟩ p = .ok ⟨cut (ns.map .int) none (some hi) ++ [.int 0, .int 1], noCk⟩ p := by
  have h1 : mSl (mVar 0) oNo (oYes (mC (.int hi))) ⟨b, sl⟩ p = .ok (.lst (cut (ns.map .int) none (some hi))) p := by
    unfold mSl
    rw [var_ok h0]
    rfl
  have hl := cut_len8 (xs := ns.map PV.int) (a := none) (b := some hi)
  rw [List.length_map] at hl
  refine itS_lst (bin_ok h1 (lst_ok (two_ok c_ok c_ok)) (pAdd_lst' ?_))
  show _ + 2 ≤ 1000000
  omega
structure Odd (L : List (Int × List Fq)) (w : List Fq) (x : PV) : Prop where
  b : bel 0 x = true
  l : qCourse (crs L w) x = some false
  r : fOr (fRC qCourse) qShare x (crs L w) = some false
theorem law_ok (ns : List Int) (hn : ns.length ≤ 63) : m_law [.scr ns] [] = .ok (.bl true) [] := by
  refine fnM_end (q := []) (x := .bl true) rfl rfl ?_
  show Ends (b_law ⟨0, [some (.scr ns), none, none, none, none, none, none, none, none]⟩ []) _
  unfold b_law
  refine go_seq_for (fun _ en _ => ∃ y1 y2 y3 y4 y5 y6 y7 y8 : Option PV, en = ⟨0, [some (.scr ns), y1, y2, y3, y4, y5, y6, y7, y8]⟩) (script_ok8 ns hn 8 0 _ [] rfl) ⟨_, _, _, _, _, _, _, _, rfl⟩ (fun _ _ _ _ => rfl) (fun j hj en q hI => ?_) (fun en q hI => ?_)
  · obtain ⟨y1, y2, y3, y4, y5, y6, y7, y8, rfl⟩ := hI
    obtain ⟨c, ec⟩ := toIs8 ns none (some 8) _ (List.getElem_mem hj)
    have ec : (⟨cut (ns.map .int) none (some 8) ++ [.int 0, .int 1], noCk⟩ : It0).xs[j] = .int c := ec
    rw [ec]
    refine ⟨[(1, .int c)], rfl, ?_⟩
    show Ends (sSeq _ _ ⟨0, [some (.scr ns), some (.int c), y2, y3, y4, y5, y6, y7, y8]⟩ q) _
    obtain ⟨s0, e1, h0⟩ := well_ok c q
    have e0 : q ++ [s0] = (q ++ [s0]).set q.length s0 := (set_last q s0 s0).symm
    have hl : q.length < (q ++ [s0]).length := by rw [len1]; omega
    generalize q ++ [s0] = P at *
    generalize q.length = k at *
    have e10 : ∀ en q, mBin pPow (mC (.int 10)) (mC (.int 12)) en q = .ok (.int 1000000000000) q := fun _ _ => rfl
    refine go_seq_set (fn0_ok (one_ok (var_ok rfl)) e1) ?_
    rw [e0]
    obtain ⟨x1, s1, e2, h1, hx1⟩ := one_ok' P k 0 s0 [.int 9, .int 40, .int 1000000000000] hl h0 (by decide) (by decide) (by decide) rfl
    obtain ⟨m1, rfl, hm1⟩ := int3 x1 hx1
    obtain ⟨lg, rfl⟩ := Int.eq_ofNat_of_zero_le (show 0 ≤ m1 by omega)
    obtain ⟨L, w, s2, e3, h2, g, wq, l4, bd, wl⟩ := lstretches_ok P k 1 s1 hl h1 (by decide) 4 4 lg 1 (by decide) (by decide) (by decide) (by decide) (by omega) (by omega) (.inr rfl)
    have c4 := cc_of g wq (fun s hs => (bd s hs).2) wl
    have t4 : tot L ≤ 4000000000000 := by
      have := tot_le (L := L) (B := 1000000000000) fun s hs => by
        have := (bd s hs).1
        omega
      have : (L.length : Int) * 1000000000000 ≤ 3 * 1000000000000 := Int.mul_le_mul_of_nonneg_right (by omega) (by decide)
      omega
    have T1 : Told L w := told_of (fun q h => h.s2) (by decide) c4 (by omega) (by omega)
    refine go_seq_set (fn0_ok (cons_ok (var_ok rfl) (cons_ok c_ok (cons_ok c_ok (two_ok (fn0_ok (two_ok (var_ok rfl) (lst_ok (three_ok c_ok c_ok (e10 _ _)))) e2) c_ok)))) e3) ?_
    obtain ⟨L2, w2, s3, e4, h3, c12, l2, t2, o2⟩ := otherwise_ok (W := 12) (by decide) (by decide) c4 (by omega) (p := P) (k := k) (n := 301) hl h2 (by decide)
    have t12 := t2 4000000000000 t4 (by decide)
    have T2 : Told L2 w2 := told_of (fun q h => h.s2) (by decide) c12 (by omega) (by omega)
    refine go_seq_set (fn0_ok (two_ok (var_ok rfl) (var_ok rfl)) e4) ?_
    obtain ⟨x, e5, F⟩ := first_ok T1.gs T2.gs T1.b T2.b T1.c.wd T2.c.wd (P.set k s3)
    have ex : x = .non := by
      rcases F with ⟨e, rfl, e0, _, ne⟩ | ⟨rfl, _⟩
      · exact absurd (o2 e e0).symm ne
      · rfl
    subst ex
    refine go_seq_if_f (or_ff (b_ok (bin_ok (x := .non) (y := .non) (fn0_ok (two_ok (var_ok rfl) (var_ok rfl)) e5) c_ok rfl)) (not_t (b_ok (fn0_ok (two_ok (var_ok rfl) (var_ok rfl)) (law_right_ok T1 T2 _))))) (go_seq_nop ?_)
    obtain ⟨x2, s4, e6, h4, hx2⟩ := one_ok' P k 321 s3 [.int 12, .int 99, .int 1000000000000] hl h3 (by decide) (by decide) (by decide) rfl
    obtain ⟨m2, rfl, hm2⟩ := int3 x2 hx2
    obtain ⟨day, s5, e7, h5, d0, d1⟩ := draw_ok P k 322 s4 m2 hl h4 (by decide) (by omega) (by omega)
    refine go_seq_set (fn0_ok (two_ok (var_ok rfl) (fn0_ok (two_ok (var_ok rfl) (lst_ok (three_ok c_ok c_ok (e10 _ _)))) e6)) e7) ?_
    obtain ⟨L3, w3, s6, e8, h6, c3, l3, t3, _, _⟩ := changed_ok (by decide) c12 (by omega) d0 (P := P) (k := k) (n := 323) hl h5 (by decide)
    have T3 : Told L3 w3 := told_of (fun q h => h) (by decide) c3 (by omega) (Int.le_trans (t3 5000000000000 (by decide) (by omega) (by omega)) (by decide))
    refine go_seq_if_f (not_t (b_ok (fn0_ok (two_ok (fn0_ok (three_ok (var_ok rfl) (var_ok rfl) (var_ok rfl)) e8) (var_ok rfl)) (law_right_ok T3 T1 _)))) (go_seq_nop ?_)
    obtain ⟨L4, w4, s7, e9, h7, g4, wq4, l4', bd4, wl4⟩ := lstretches_ok P k 423 s6 hl h6 (by decide) 3 3 9 1 (by decide) (by decide) (by decide) (by decide) (by decide) (by decide) (.inr rfl)
    have T4 : Told L4 w4 := told_of (fun q h => h.s2) (by decide) (cc_of (W := 3) g4 wq4 (fun s hs => (bd4 s hs).2) wl4) (by omega) (by
      have := tot_le (L := L4) (B := 9) fun s hs => (bd4 s hs).1
      omega)
    refine go_seq_if_f (not_t (b_ok (fn0_ok (two_ok (var_ok rfl) (fn0_ok (cons_ok (var_ok rfl) (cons_ok c_ok (cons_ok c_ok (two_ok c_ok c_ok)))) e9)) (law_right_ok T1 T4 _)))) (go_seq_nop ?_)
    obtain ⟨L5, w5, s8, eA, h8, c5, l5, t5, o5, n5⟩ := changed_ok (by decide) c4 (by omega) d0 (P := P) (k := k) (n := 723) hl h7 (by decide)
    have T5 : Told L5 w5 := told_of (fun q h => h) (by decide) c5 (by omega) (Int.le_trans (t5 5000000000000 (by decide) (by omega) (by omega)) (by decide))
    refine go_seq_set (fn0_ok (three_ok (var_ok rfl) (var_ok rfl) (var_ok rfl)) eA) ?_
    obtain ⟨y, eB, G⟩ := unlike_ok T1.gs T5.gs T1.b T5.b (P.set k s8)
    have ey : y = .int day := G.one (.inl ⟨day, rfl, d0, fun i a b => (o5 i a (by omega)).symm, fun h => n5 h.symm⟩)
    subst ey
    have lc1 := law_course_ok T1.gs ⟨T1.c.lq, T1.c.wq⟩ (P.set k s8)
    have lc5 := law_course_ok T5.gs ⟨T5.c.lq, T5.c.wq⟩ (P.set k s8)
    refine go_seq_if_f (b_ok (bin_ok (x := .int day) (y := .int day) (fn0_ok (two_ok (fn0_ok (one_ok (var_ok rfl)) lc1) (fn0_ok (one_ok (var_ok rfl)) lc5)) eB) (var_ok rfl) (pTr_ne rfl rfl (eqv_int 3 day)))) (go_seq_nop ?_)
    refine go_seq_set (fn0_ok (one_ok (var_ok rfl)) lc1) ?_
    have es := share_self (q := ((1 : Int), (1 : Int))) (P.set k s8) ⟨by decide, by decide⟩ (fr_small (by decide) (by decide) (by decide))
    obtain ⟨o, s9, eC, h9, ho⟩ := one_ok' P k 823 s8 [.non, .int 0, .lst (toldP pr L w), .str "course", .lst [crs L w], sh (1, 1), .bl true, .dct] hl h8 (by decide) (by show 0 < 8; decide) (by show 8 < 2 ^ 100; decide) (by
      show (true && (true && (bels 0 (toldP pr L w) && (true && ((bel 0 (crs L w) && true) && true))))) = true
      rw [bels_told 0 (bel_pr 0), bel_crs]
      rfl)
    refine go_seq_set (x := o) (p1 := P.set k s9) (fn0_ok (two_ok (var_ok rfl) (lst_ok (xs := [.non, .int 0, .lst (toldP pr L w), .str "course", .lst [crs L w], sh (1, 1), .bl true, .dct]) (p1 := P.set k s8) ?_)) eC) ?_
    · exact cons_ok c_ok (cons_ok c_ok (cons_ok (var_ok rfl) (cons_ok c_ok (cons_ok (lst_ok (one_ok (var_ok rfl))) (cons_ok (fn_ok (one_ok c_ok) es) (two_ok (bin_ok c_ok c_ok (pEq_int 1 1 _)) c_ok))))))
    have O : Odd L w o := by
      simp only [List.mem_cons, List.not_mem_nil, or_false] at ho
      rcases ho with rfl | rfl | rfl | rfl | rfl | rfl | rfl | rfl
      · exact ⟨rfl, rfl, rfl⟩
      · exact ⟨rfl, rfl, rfl⟩
      · exact ⟨bels_told 0 (bel_pr 0) L w, rfl, rfl⟩
      · exact ⟨rfl, rfl, rfl⟩
      · exact ⟨by
          show (bel 0 (crs L w) && true) = true
          rw [bel_crs]
          rfl, rfl, rfl⟩
      · exact ⟨rfl, rfl, rfl⟩
      · exact ⟨rfl, rfl, rfl⟩
      · exact ⟨rfl, rfl, rfl⟩
    have v7 : mVar 7 ⟨0, [some (.scr ns), some (.int c), some (.own k), some (.lst (toldP pr L w)), some (.lst (toldP pr L2 w2)), some (.int day), some (.lst (toldP pr L5 w5)), some (crs L w), some o]⟩ (P.set k s9) = .ok (crs L w) (P.set k s9) := var_ok rfl
    have v8 : mVar 8 ⟨0, [some (.scr ns), some (.int c), some (.own k), some (.lst (toldP pr L w)), some (.lst (toldP pr L2 w2)), some (.int day), some (.lst (toldP pr L5 w5)), some (crs L w), some o]⟩ (P.set k s9) = .ok o (P.set k s9) := var_ok rfl
    have u1 := b_ok (bin_ok v7 v8 (tr_of (bel_crs 0 L w) O.b O.l (P.set k s9)))
    have u2 := b_ok (bin_ok v8 v7 (tr_of O.b (bel_crs 0 L w) O.r (P.set k s9)))
    have u3 := not_t (b_ok (bin_ok v7 v8 (tr_of (f := fun x y => (qCourse x y).map (!·)) (bel_crs 0 L w) O.b (by
      show (qCourse (crs L w) o).map (!·) = _
      rw [O.l]
      rfl) (P.set k s9))))
    exact go_if_f (or_ff u1 (or_ff u2 u3)) (go_nop ⟨_, _, _, _, _, _, _, _, rfl⟩)
  · obtain ⟨y1, y2, y3, y4, y5, y6, y7, y8, rfl⟩ := hI
    exact go_ret c_ok ⟨q, rfl⟩
section
variable {K : PySem.W.Frag} {mg : Str → Option Value}
def spLaw (T : Facts K mg) : Sp := fun vs H Q _ => ∃ (a : Addr) (ns : List Int), vs = [.ref a] ∧ SqL K H a (ns.map V.int) ∧ ns.length ≤ 63 ∧ LamX.Tabs (cfg T).tabs H ∧ ∀ H', Q (.bl true) H'
theorem sqL_noTab {K : PySem.W.Frag} {H : Hp} {a : Addr} {xs : List V} (h : SqL K H a xs) : SqL K (noTab H) a xs := by
  rcases h with (h | ⟨o, h⟩) | h
  · exact .inl (.inl (noTab_of h (fun _ z => nomatch z)))
  · exact .inl (.inr ⟨o, noTab_of h (fun _ z => nomatch z)⟩)
  · exact .inr h
theorem law_imp {P : Program} {w : World} {base : Heap} (T : Facts K mg) (B : TBs T base) : FnOk P w K mg base (L2.CX P w) 16 T.f_law T.d_law ["script"] (spLaw T) := (ok_law T B).imp fun vs H Q E ⟨a, ns, e, hS, hl, hT, k⟩ => by
  subst e
  refine ⟨rfl, ⟨0, fun _ => none⟩, (⟨noTab H, []⟩ : Wd), [], [.scr ns], ⟨noTab_sub, rfl, List.nodup_nil, Nat.le_refl _, fun _ _ => rfl, fun _ _ e => (nomatch e), fun k c a e _ => by simp at e, noTab_nt, hT⟩, Reps.cons ⟨a, rfl, sqL_noTab hS⟩ Reps.nil, ?_⟩
  rw [law_ok ns hl]
  intro w' H' v l S r
  have r : v = .bl true := r
  rw [r]
  exact k H'
theorem walk {l : PySem.W.OpenLaw} {q : Program} {loose : List Str} {XP : (Str → Option Value) → Heap → Prop} {YP : World → Heap → Prop} {d : DefRec} {K : Params → PySem.W.Frag} (hn : l.most = some 63) (hdf : d.params.defaults = []) (hd : d.name = "law") (there : (∃ e ∈ PyProof.Rows.recsOf q, e.name = ("days_of" : Str)))
    (hY : ∀ (w : World) (h : Heap), YP w h → (K w.params).In h)
    (F : ∀ (w : World) (mg : Str → Option Value) (h : Heap), (K w.params).In h → h.Ns mainGlobals mg → Nonempty (Facts (K w.params) mg)) :
    PySem.W.WalkO q loose XP YP l.row.toRowW d [] (fun f vs => PySem.call f vs) := by
  refine walk_tabs (n := 63) (k := 16) (x := "script") (K := K) (CX := fun w => L2.CX l.prog w) ["days_of"] hn (by decide) hdf ⟨rfl, by decide, by decide⟩ (fun y hp => by
    simp only [List.mem_cons, List.not_mem_nil, or_false] at hp
    rcases hp with rfl
    · exact there) hY (fun w mg fa h Y KX G hm hT => ?_) fun _ _ _ _ _ ⟨_, _, _, _, _, _, _, _, _, _, _, _, z⟩ => z
  obtain ⟨T⟩ := F w mg h KX G
  rw [hd] at hm
  have e := hm.symm.trans T.g_law
  cases e
  refine ⟨T.d_law, [(T.c0_days_of, T.p0_days_of)], spLaw T, fun p hp => ?_, fun p hp => ?_, fun p hp => ?_, T.bl, fun H a ns hl _ hH hS => ⟨a, ns, rfl, hS, hl, fun p hp => ?_, fun _ => rfl⟩, fun base _ _ hB => law_imp T (hB _ (.head _))⟩
  · simp only [List.mem_cons, List.not_mem_nil, or_false] at hp
    rcases hp with rfl
    · exact T.ow_days_of h (hT "days_of" (.head _) _ T.g_days_of)
  · simp only [List.mem_cons, List.not_mem_nil, or_false] at hp
    rcases hp with rfl
    · exact T.np_days_of
  · simp only [List.mem_cons, List.not_mem_nil, or_false] at hp
    rcases hp with rfl
    · exact PySem.W.codeHd_of_K KX T.hh_days_of
  · have hp : p ∈ ([(T.p0_days_of, ((Str.ofString "days_of" ++ ".<locals>.") ++ "<lambda>" : Str))] : List (Addr × Str)) := hp
    simp only [List.mem_cons, List.not_mem_nil, or_false] at hp
    rcases hp with rfl
    · exact LamX.TabS.nil (hH _ (.head _))
end
end K12
open PySem PySem.W PyProof.Rows in
set_option maxRecDepth 100000 in
set_option maxHeartbeats 0 in
theorem PySem.Challenge.cw_rillweb_k12_courses_compared_holds : PySem.Challenge.rw_rillweb_k12_courses_compared.Holds := by
  w_on; o_law; k_head; (case hw => w_witness2)
  k_fill
  refine K12.walk (l := PySem.Challenge.rw_rillweb_k12_courses_compared) rfl rfl (by rfl) ?T (fun w h Y => PySem.W.km_in_of Y) ?F
  case T => decide +kernel
  case F =>
    intro w mg h KX G
    refine' K12.facts_mk KX G ?ac_Share ?ac_Course ?ac_Days ?a_is_whole ?l_is_whole ?e_is_whole ?k_is_whole ?a_common_of ?l_common_of ?e_common_of ?k_common_of ?a_Share_init ?i_Share_init ?l_Share_init ?to_Share_init ?td_Share_init ?e_Share_init ?k_Share_init ?a_Share_eq ?i_Share_eq ?l_Share_eq ?e_Share_eq ?k_Share_eq ?a_Days_init ?i_Days_init ?l_Days_init ?e_Days_init ?k_Days_init ?a_Days_thing ?i_Days_thing ?l_Days_thing ?e_Days_thing ?k_Days_thing ?a_Days_region ?i_Days_region ?l_Days_region ?e_Days_region ?k_Days_region ?a_Days_region_end ?i_Days_region_end ?l_Days_region_end ?e_Days_region_end ?k_Days_region_end ?a_nearer ?l_nearer ?e_nearer ?k_nearer ?a_unlike_from ?l_unlike_from ?e_unlike_from ?k_unlike_from ?a_is_stretch ?l_is_stretch ?e_is_stretch ?k_is_stretch ?a_are_stretches ?l_are_stretches ?e_are_stretches ?k_are_stretches ?a_Course_init ?i_Course_init ?l_Course_init ?e_Course_init ?k_Course_init ?a_Course_lay ?i_Course_lay ?l_Course_lay ?e_Course_lay ?k_Course_lay ?a_Course_eq ?i_Course_eq ?l_Course_eq ?e_Course_eq ?k_Course_eq ?a_stretch_at ?l_stretch_at ?e_stretch_at ?k_stretch_at ?a_share_of ?l_share_of ?e_share_of ?k_share_of ?a_days_of ?l_days_of ?e_days_of ?k_days_of ?a_first_unlike ?l_first_unlike ?e_first_unlike ?k_first_unlike ?a_law_well ?l_law_well ?e_law_well ?k_law_well ?a_law_draw ?l_law_draw ?e_law_draw ?k_law_draw ?a_law_one ?l_law_one ?e_law_one ?k_law_one ?a_law_low ?l_law_low ?e_law_low ?k_law_low ?a_law_sum ?l_law_sum ?e_law_sum ?k_law_sum ?a_law_word ?l_law_word ?e_law_word ?k_law_word ?a_law_stretches ?l_law_stretches ?e_law_stretches ?k_law_stretches ?a_law_course ?l_law_course ?e_law_course ?k_law_course ?a_law_on ?l_law_on ?e_law_on ?k_law_on ?a_law_turned ?l_law_turned ?e_law_turned ?k_law_turned ?a_law_cut ?l_law_cut ?e_law_cut ?k_law_cut ?a_law_otherwise ?l_law_otherwise ?e_law_otherwise ?k_law_otherwise ?a_law_changed ?l_law_changed ?e_law_changed ?k_law_changed ?a_law_first ?l_law_first ?e_law_first ?k_law_first ?a_law_right ?l_law_right ?e_law_right ?k_law_right ?a_law ?l_law ?e_law ?k_law ?a_MOST_STRETCHES ?a_MOST_WORD ?n_abs ?n_all ?n_bool ?n_enumerate ?n_int ?n_isinstance ?n_len ?n_list ?n_min ?n_range ?n_set ?n_sorted ?n_tuple ?n_zip ?mk_Share ?kc_Share ?pg_Share ?hd_Share ?po_Share ?sa_Share ?at_Share ?mr_Share ?no_top_Share ?no_bottom_Share ?mk_Course ?kc_Course ?pg_Course ?hd_Course ?po_Course ?sa_Course ?at_Course ?mr_Course ?no_begins_Course ?no_words_Course ?mk_Days ?kc_Days ?pg_Days ?hd_Days ?po_Days ?sa_Days ?at_Days ?mr_Days ?no_value_Days ?no_begins_Days ?no_spans_Days ?no_known_Days ?hcd_days_of ?hk_days_of ?hv_days_of ?hh_days_of ?np_days_of ?hn ?ht ?ic_Share ?ty_Share ?ne_Share ?sT_Share_NoneType ?sF_Share_NoneType ?sT_Share_bool ?sF_Share_bool ?sT_Share_int ?sF_Share_int ?sT_Share_str ?sF_Share_str ?sT_Share_tuple ?sF_Share_tuple ?sT_Share_list ?sF_Share_list ?sT_Share_dict ?sF_Share_dict ?ss_Share_Share ?ss_Share_Course ?ss_Share_Days ?ic_Course ?ty_Course ?ne_Course ?sT_Course_NoneType ?sF_Course_NoneType ?sT_Course_bool ?sF_Course_bool ?sT_Course_int ?sF_Course_int ?sT_Course_str ?sF_Course_str ?sT_Course_tuple ?sF_Course_tuple ?sT_Course_list ?sF_Course_list ?sT_Course_dict ?sF_Course_dict ?ss_Course_Share ?ss_Course_Course ?ss_Course_Days ?ic_Days ?ty_Days ?ne_Days ?sT_Days_NoneType ?sF_Days_NoneType ?sT_Days_bool ?sF_Days_bool ?sT_Days_int ?sF_Days_int ?sT_Days_str ?sF_Days_str ?sT_Days_tuple ?sF_Days_tuple ?sT_Days_list ?sF_Days_list ?sT_Days_dict ?sF_Days_dict ?ss_Days_Share ?ss_Days_Course ?ss_Days_Days
    (case ac_Share => first | rfl | k_is | decide)
    (case ac_Course => first | rfl | k_is | decide)
    (case ac_Days => first | rfl | k_is | decide)
    (case a_is_whole => first | rfl | k_is | decide)
    (case l_is_whole => first | rfl | k_is | decide)
    (case e_is_whole => first | rfl | k_is | decide)
    (case k_is_whole => first | rfl | k_is | decide)
    (case a_common_of => first | rfl | k_is | decide)
    (case l_common_of => first | rfl | k_is | decide)
    (case e_common_of => first | rfl | k_is | decide)
    (case k_common_of => first | rfl | k_is | decide)
    (case a_Share_init => first | rfl | k_is | decide)
    (case i_Share_init => first | rfl | k_is | decide)
    (case l_Share_init => first | rfl | k_is | decide)
    (case to_Share_init => first | rfl | k_is | decide)
    (case td_Share_init => first | rfl | k_is | decide)
    (case e_Share_init => first | rfl | k_is | decide)
    (case k_Share_init => first | rfl | k_is | decide)
    (case a_Share_eq => first | rfl | k_is | decide)
    (case i_Share_eq => first | rfl | k_is | decide)
    (case l_Share_eq => first | rfl | k_is | decide)
    (case e_Share_eq => first | rfl | k_is | decide)
    (case k_Share_eq => first | rfl | k_is | decide)
    (case a_Days_init => first | rfl | k_is | decide)
    (case i_Days_init => first | rfl | k_is | decide)
    (case l_Days_init => first | rfl | k_is | decide)
    (case e_Days_init => first | rfl | k_is | decide)
    (case k_Days_init => first | rfl | k_is | decide)
    (case a_Days_thing => first | rfl | k_is | decide)
    (case i_Days_thing => first | rfl | k_is | decide)
    (case l_Days_thing => first | rfl | k_is | decide)
    (case e_Days_thing => first | rfl | k_is | decide)
    (case k_Days_thing => first | rfl | k_is | decide)
    (case a_Days_region => first | rfl | k_is | decide)
    (case i_Days_region => first | rfl | k_is | decide)
    (case l_Days_region => first | rfl | k_is | decide)
    (case e_Days_region => first | rfl | k_is | decide)
    (case k_Days_region => first | rfl | k_is | decide)
    (case a_Days_region_end => first | rfl | k_is | decide)
    (case i_Days_region_end => first | rfl | k_is | decide)
    (case l_Days_region_end => first | rfl | k_is | decide)
    (case e_Days_region_end => first | rfl | k_is | decide)
    (case k_Days_region_end => first | rfl | k_is | decide)
    (case a_nearer => first | rfl | k_is | decide)
    (case l_nearer => first | rfl | k_is | decide)
    (case e_nearer => first | rfl | k_is | decide)
    (case k_nearer => first | rfl | k_is | decide)
    (case a_unlike_from => first | rfl | k_is | decide)
    (case l_unlike_from => first | rfl | k_is | decide)
    (case e_unlike_from => first | rfl | k_is | decide)
    (case k_unlike_from => first | rfl | k_is | decide)
    (case a_is_stretch => first | rfl | k_is | decide)
    (case l_is_stretch => first | rfl | k_is | decide)
    (case e_is_stretch => first | rfl | k_is | decide)
    (case k_is_stretch => first | rfl | k_is | decide)
    (case a_are_stretches => first | rfl | k_is | decide)
    (case l_are_stretches => first | rfl | k_is | decide)
    (case e_are_stretches => first | rfl | k_is | decide)
    (case k_are_stretches => first | rfl | k_is | decide)
    (case a_Course_init => first | rfl | k_is | decide)
    (case i_Course_init => first | rfl | k_is | decide)
    (case l_Course_init => first | rfl | k_is | decide)
    (case e_Course_init => first | rfl | k_is | decide)
    (case k_Course_init => first | rfl | k_is | decide)
    (case a_Course_lay => first | rfl | k_is | decide)
    (case i_Course_lay => first | rfl | k_is | decide)
    (case l_Course_lay => first | rfl | k_is | decide)
    (case e_Course_lay => first | rfl | k_is | decide)
    (case k_Course_lay => first | rfl | k_is | decide)
    (case a_Course_eq => first | rfl | k_is | decide)
    (case i_Course_eq => first | rfl | k_is | decide)
    (case l_Course_eq => first | rfl | k_is | decide)
    (case e_Course_eq => first | rfl | k_is | decide)
    (case k_Course_eq => first | rfl | k_is | decide)
    (case a_stretch_at => first | rfl | k_is | decide)
    (case l_stretch_at => first | rfl | k_is | decide)
    (case e_stretch_at => first | rfl | k_is | decide)
    (case k_stretch_at => first | rfl | k_is | decide)
    (case a_share_of => first | rfl | k_is | decide)
    (case l_share_of => first | rfl | k_is | decide)
    (case e_share_of => first | rfl | k_is | decide)
    (case k_share_of => first | rfl | k_is | decide)
    (case a_days_of => first | rfl | k_is | decide)
    (case l_days_of => first | rfl | k_is | decide)
    (case e_days_of => first | rfl | k_is | decide)
    (case k_days_of => first | rfl | k_is | decide)
    (case a_first_unlike => first | rfl | k_is | decide)
    (case l_first_unlike => first | rfl | k_is | decide)
    (case e_first_unlike => first | rfl | k_is | decide)
    (case k_first_unlike => first | rfl | k_is | decide)
    (case a_law_well => first | rfl | k_is | decide)
    (case l_law_well => first | rfl | k_is | decide)
    (case e_law_well => first | rfl | k_is | decide)
    (case k_law_well => first | rfl | k_is | decide)
    (case a_law_draw => first | rfl | k_is | decide)
    (case l_law_draw => first | rfl | k_is | decide)
    (case e_law_draw => first | rfl | k_is | decide)
    (case k_law_draw => first | rfl | k_is | decide)
    (case a_law_one => first | rfl | k_is | decide)
    (case l_law_one => first | rfl | k_is | decide)
    (case e_law_one => first | rfl | k_is | decide)
    (case k_law_one => first | rfl | k_is | decide)
    (case a_law_low => first | rfl | k_is | decide)
    (case l_law_low => first | rfl | k_is | decide)
    (case e_law_low => first | rfl | k_is | decide)
    (case k_law_low => first | rfl | k_is | decide)
    (case a_law_sum => first | rfl | k_is | decide)
    (case l_law_sum => first | rfl | k_is | decide)
    (case e_law_sum => first | rfl | k_is | decide)
    (case k_law_sum => first | rfl | k_is | decide)
    (case a_law_word => first | rfl | k_is | decide)
    (case l_law_word => first | rfl | k_is | decide)
    (case e_law_word => first | rfl | k_is | decide)
    (case k_law_word => first | rfl | k_is | decide)
    (case a_law_stretches => first | rfl | k_is | decide)
    (case l_law_stretches => first | rfl | k_is | decide)
    (case e_law_stretches => first | rfl | k_is | decide)
    (case k_law_stretches => first | rfl | k_is | decide)
    (case a_law_course => first | rfl | k_is | decide)
    (case l_law_course => first | rfl | k_is | decide)
    (case e_law_course => first | rfl | k_is | decide)
    (case k_law_course => first | rfl | k_is | decide)
    (case a_law_on => first | rfl | k_is | decide)
    (case l_law_on => first | rfl | k_is | decide)
    (case e_law_on => first | rfl | k_is | decide)
    (case k_law_on => first | rfl | k_is | decide)
    (case a_law_turned => first | rfl | k_is | decide)
    (case l_law_turned => first | rfl | k_is | decide)
    (case e_law_turned => first | rfl | k_is | decide)
    (case k_law_turned => first | rfl | k_is | decide)
    (case a_law_cut => first | rfl | k_is | decide)
    (case l_law_cut => first | rfl | k_is | decide)
    (case e_law_cut => first | rfl | k_is | decide)
    (case k_law_cut => first | rfl | k_is | decide)
    (case a_law_otherwise => first | rfl | k_is | decide)
    (case l_law_otherwise => first | rfl | k_is | decide)
    (case e_law_otherwise => first | rfl | k_is | decide)
    (case k_law_otherwise => first | rfl | k_is | decide)
    (case a_law_changed => first | rfl | k_is | decide)
    (case l_law_changed => first | rfl | k_is | decide)
    (case e_law_changed => first | rfl | k_is | decide)
    (case k_law_changed => first | rfl | k_is | decide)
    (case a_law_first => first | rfl | k_is | decide)
    (case l_law_first => first | rfl | k_is | decide)
    (case e_law_first => first | rfl | k_is | decide)
    (case k_law_first => first | rfl | k_is | decide)
    (case a_law_right => first | rfl | k_is | decide)
    (case l_law_right => first | rfl | k_is | decide)
    (case e_law_right => first | rfl | k_is | decide)
    (case k_law_right => first | rfl | k_is | decide)
    (case a_law => first | rfl | k_is | decide)
    (case l_law => first | rfl | k_is | decide)
    (case e_law => first | rfl | k_is | decide)
    (case k_law => first | rfl | k_is | decide)
    (case a_MOST_STRETCHES => first | rfl | k_is | decide)
    (case a_MOST_WORD => first | rfl | k_is | decide)
    (case n_abs => first | rfl | k_is | decide)
    (case n_all => first | rfl | k_is | decide)
    (case n_bool => first | rfl | k_is | decide)
    (case n_enumerate => first | rfl | k_is | decide)
    (case n_int => first | rfl | k_is | decide)
    (case n_isinstance => first | rfl | k_is | decide)
    (case n_len => first | rfl | k_is | decide)
    (case n_list => first | rfl | k_is | decide)
    (case n_min => first | rfl | k_is | decide)
    (case n_range => first | rfl | k_is | decide)
    (case n_set => first | rfl | k_is | decide)
    (case n_sorted => first | rfl | k_is | decide)
    (case n_tuple => first | rfl | k_is | decide)
    (case n_zip => first | rfl | k_is | decide)
    (case mk_Share => first | rfl | k_is | decide)
    (case kc_Share => first | rfl | k_is | decide)
    (case pg_Share => first | rfl | k_is | decide)
    (case hd_Share => first | rfl | k_is | decide)
    (case po_Share => first | rfl | k_is | decide)
    (case sa_Share => first | rfl | k_is | decide)
    (case at_Share => first | rfl | k_is | decide)
    (case mr_Share => first | rfl | k_is | decide)
    (case no_top_Share => first | rfl | k_is | decide)
    (case no_bottom_Share => first | rfl | k_is | decide)
    (case mk_Course => first | rfl | k_is | decide)
    (case kc_Course => first | rfl | k_is | decide)
    (case pg_Course => first | rfl | k_is | decide)
    (case hd_Course => first | rfl | k_is | decide)
    (case po_Course => first | rfl | k_is | decide)
    (case sa_Course => first | rfl | k_is | decide)
    (case at_Course => first | rfl | k_is | decide)
    (case mr_Course => first | rfl | k_is | decide)
    (case no_begins_Course => first | rfl | k_is | decide)
    (case no_words_Course => first | rfl | k_is | decide)
    (case mk_Days => first | rfl | k_is | decide)
    (case kc_Days => first | rfl | k_is | decide)
    (case pg_Days => first | rfl | k_is | decide)
    (case hd_Days => first | rfl | k_is | decide)
    (case po_Days => first | rfl | k_is | decide)
    (case sa_Days => first | rfl | k_is | decide)
    (case at_Days => first | rfl | k_is | decide)
    (case mr_Days => first | rfl | k_is | decide)
    (case no_value_Days => first | rfl | k_is | decide)
    (case no_begins_Days => first | rfl | k_is | decide)
    (case no_spans_Days => first | rfl | k_is | decide)
    (case no_known_Days => first | rfl | k_is | decide)
    (case hcd_days_of => first | rfl | k_is | decide)
    (case hk_days_of => first | rfl | k_is | decide)
    (case hv_days_of => first | rfl | k_is | decide)
    (case hh_days_of => first | rfl | k_is | decide)
    (case np_days_of => first | rfl | k_is | decide)
    (case hn => first | rfl | k_is | decide)
    (case ht => first | rfl | k_is | decide)
    (case ic_Share => first | rfl | k_is | decide)
    (case ty_Share => first | rfl | k_is | decide)
    (case ne_Share => first | rfl | k_is | decide)
    (case sT_Share_NoneType => first | rfl | k_is | decide)
    (case sF_Share_NoneType => first | rfl | k_is | decide)
    (case sT_Share_bool => first | rfl | k_is | decide)
    (case sF_Share_bool => first | rfl | k_is | decide)
    (case sT_Share_int => first | rfl | k_is | decide)
    (case sF_Share_int => first | rfl | k_is | decide)
    (case sT_Share_str => first | rfl | k_is | decide)
    (case sF_Share_str => first | rfl | k_is | decide)
    (case sT_Share_tuple => first | rfl | k_is | decide)
    (case sF_Share_tuple => first | rfl | k_is | decide)
    (case sT_Share_list => first | rfl | k_is | decide)
    (case sF_Share_list => first | rfl | k_is | decide)
    (case sT_Share_dict => first | rfl | k_is | decide)
    (case sF_Share_dict => first | rfl | k_is | decide)
    (case ss_Share_Share => first | rfl | k_is | decide)
    (case ss_Share_Course => first | rfl | k_is | decide)
    (case ss_Share_Days => first | rfl | k_is | decide)
    (case ic_Course => first | rfl | k_is | decide)
    (case ty_Course => first | rfl | k_is | decide)
    (case ne_Course => first | rfl | k_is | decide)
    (case sT_Course_NoneType => first | rfl | k_is | decide)
    (case sF_Course_NoneType => first | rfl | k_is | decide)
    (case sT_Course_bool => first | rfl | k_is | decide)
    (case sF_Course_bool => first | rfl | k_is | decide)
    (case sT_Course_int => first | rfl | k_is | decide)
    (case sF_Course_int => first | rfl | k_is | decide)
    (case sT_Course_str => first | rfl | k_is | decide)
    (case sF_Course_str => first | rfl | k_is | decide)
    (case sT_Course_tuple => first | rfl | k_is | decide)
    (case sF_Course_tuple => first | rfl | k_is | decide)
    (case sT_Course_list => first | rfl | k_is | decide)
    (case sF_Course_list => first | rfl | k_is | decide)
    (case sT_Course_dict => first | rfl | k_is | decide)
    (case sF_Course_dict => first | rfl | k_is | decide)
    (case ss_Course_Share => first | rfl | k_is | decide)
    (case ss_Course_Course => first | rfl | k_is | decide)
    (case ss_Course_Days => first | rfl | k_is | decide)
    (case ic_Days => first | rfl | k_is | decide)
    (case ty_Days => first | rfl | k_is | decide)
    (case ne_Days => first | rfl | k_is | decide)
    (case sT_Days_NoneType => first | rfl | k_is | decide)
    (case sF_Days_NoneType => first | rfl | k_is | decide)
    (case sT_Days_bool => first | rfl | k_is | decide)
    (case sF_Days_bool => first | rfl | k_is | decide)
    (case sT_Days_int => first | rfl | k_is | decide)
    (case sF_Days_int => first | rfl | k_is | decide)
    (case sT_Days_str => first | rfl | k_is | decide)
    (case sF_Days_str => first | rfl | k_is | decide)
    (case sT_Days_tuple => first | rfl | k_is | decide)
    (case sF_Days_tuple => first | rfl | k_is | decide)
    (case sT_Days_list => first | rfl | k_is | decide)
    (case sF_Days_list => first | rfl | k_is | decide)
    (case sT_Days_dict => first | rfl | k_is | decide)
    (case sF_Days_dict => first | rfl | k_is | decide)
    (case ss_Days_Share => first | rfl | k_is | decide)
    (case ss_Days_Course => first | rfl | k_is | decide)
    (case ss_Days_Days => first | rfl | k_is | decide)
#print axioms PySem.Challenge.cw_rillweb_k12_courses_compared_holds
