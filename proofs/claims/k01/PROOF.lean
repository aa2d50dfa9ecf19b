import PyProof.Rows.All
import Wide.All
import OpenK.AllK
import Wide.FinOn
import HandS.ForMost
import HandS.ForExc
import HandS.IsInst
import HandS.ExcIs
import HandS.ExcField
import HandS.ExcInit
import HandS.TryMany
import HandS.Flow
import HandS.Style
import HandS.CallSlots
import KE.KExcIs
import HandS.Evl
import HandS.SortInts
import HandS.Strs
import HandS.SetFor
import PySem.Challenge.RW_keysieve_k01_places
set_option Elab.async false
set_option linter.all false
set_option maxRecDepth 100000
set_option maxHeartbeats 4000000
/-! KS: a layer over HandS for programs whose values are plain data. -/
namespace KS
open PySem L2

/-! ### how a heap may go on -/
/-- all that was known stays, but at the places m; tuples stay everywhere; nothing is forgotten -/
structure Gr (m : List Addr) (H H' : Hp) : Prop where
  keep : ∀ a o, H a = some o → a ∉ m → H' a = some o
  tup : ∀ a xs, H a = some (.tup xs) → H' a = some (.tup xs)
  dom : ∀ a, H' a = none → H a = none
theorem Gr.refl {m : List Addr} {H : Hp} : Gr m H H := ⟨fun _ _ h _ => h, fun _ _ h => h, fun _ h => h⟩
theorem Gr.trans {m : List Addr} {H H1 H2 : Hp} (a : Gr m H H1) (b : Gr m H1 H2) : Gr m H H2 :=
  ⟨fun c o h n => b.keep c o (a.keep c o h n) n, fun c xs h => b.tup c xs (a.tup c xs h), fun c h => a.dom c (b.dom c h)⟩
theorem Gr.mono {m m' : List Addr} {H H' : Hp} (a : Gr m H H') (s : ∀ x, x ∈ m → x ∈ m') : Gr m' H H' :=
  ⟨fun c o h n => a.keep c o h fun z => n (s c z), a.tup, a.dom⟩
theorem Gr.any {m : List Addr} {H H' : Hp} (a : Gr [] H H') : Gr m H H' := a.mono fun _ z => absurd z (by simp)
theorem Gr.new {m : List Addr} {H : Hp} {p : Addr} {o : HO} (h : H p = none) : Gr m H (upd H p o) :=
  ⟨fun a u e _ => by rw [upd_ne (ne_of_none e h)]; exact e, fun a u e => by rw [upd_ne (ne_of_none e h)]; exact e, fun a e => by
    by_cases z : a = p
    · rw [z]; exact h
    · rw [upd_ne z] at e; exact e⟩
theorem Gr.at0 {H H' : Hp} (g : Gr [] H H') {a : Addr} {o : HO} (h : H a = some o) : H' a = some o := g.keep a o h (by simp)
/-- what is new since H may change -/
theorem Gr.mut {m : List Addr} {H H' : Hp} {p : Addr} {o : HO} (g : Gr m H H') (h : H p = none) : Gr m H (upd H' p o) :=
  ⟨fun a u e n => by rw [upd_ne (ne_of_none e h)]; exact g.keep a u e n, fun a u e => by rw [upd_ne (ne_of_none e h)]; exact g.tup a u e, fun a e => by
    by_cases z : a = p
    · rw [z]; exact h
    · rw [upd_ne z] at e; exact g.dom a e⟩
/-- what stands at a place of m may change -/
theorem Gr.put {m : List Addr} {H H' : Hp} {p : Addr} {o u : HO} (g : Gr m H H') (hp : p ∈ m) (h : H' p = some u) (nt : ∀ xs, u ≠ .tup xs) : Gr m H (upd H' p o) :=
  ⟨fun a v e n => by rw [upd_ne (fun z => n (by rw [z]; exact hp))]; exact g.keep a v e n, fun a xs e => by
    have e' := g.tup a xs e
    rw [upd_ne (fun z => by rw [z, h] at e'; exact nt xs (Option.some.inj e'))]; exact e', fun a e => by
    by_cases z : a = p
    · rw [z, upd_same] at e; cases e
    · rw [upd_ne z] at e; exact g.dom a e⟩
theorem Gr.ne {m : List Addr} {H H' : Hp} (g : Gr m H H') {a p : Addr} {o : HO} (h : H a = some o) (hp : H' p = none) : a ≠ p := fun z => by
  rw [z, g.dom p hp] at h
  cases h
theorem Gr.sq {K : PySem.W.Frag} {H H' : Hp} (g : Gr [] H H') {a : Addr} {xs : List V} (h : SqL K H a xs) : SqL K H' a xs := by
  rcases h with (h | ⟨o, h⟩) | h
  · exact .inl (.inl (g.at0 h))
  · exact .inl (.inr ⟨o, g.at0 h⟩)
  · exact .inr h

/-! ### the state of the draws -/
def DrawAt (p q : Addr) (H : Hp) : Prop := ∃ (m : Int) (cs : List Int) (i : Int), H p = some (.lst [.int m, .ref q, .int i]) ∧ H q = some (.lst (cs.map V.int)) ∧ cs.length ≤ 63
/-- whose draws may happen on the way: none, or those of the list at p with its cells at q -/
abbrev Dst := Option (Addr × Addr)
def Dst.m : Dst → List Addr
  | none => []
  | some (p, q) => [p, q]
def Dst.ok : Dst → Hp → Prop
  | none, _ => True
  | some (p, q), H => DrawAt p q H
theorem DrawAt.go {p q : Addr} {H H' : Hp} (d : DrawAt p q H) (hp : ∀ o, H p = some o → H' p = some o) (hq : ∀ o, H q = some o → H' q = some o) : DrawAt p q H' := by
  obtain ⟨m, cs, i, h1, h2, h3⟩ := d
  exact ⟨m, cs, i, hp _ h1, hq _ h2, h3⟩
structure Gd (D : Dst) (H H' : Hp) : Prop where
  gr : Gr D.m H H'
  ok : D.ok H → D.ok H'
theorem Gd.refl {D : Dst} {H : Hp} : Gd D H H := ⟨Gr.refl, fun h => h⟩
theorem Gd.trans {D : Dst} {H H1 H2 : Hp} (a : Gd D H H1) (b : Gd D H1 H2) : Gd D H H2 := ⟨a.gr.trans b.gr, fun h => b.ok (a.ok h)⟩
theorem Gd.pure {D : Dst} {H H' : Hp} (g : Gr [] H H') : Gd D H H' := ⟨g.any, by
  rcases D with _ | ⟨p, q⟩
  · exact fun h => h
  · exact fun h => DrawAt.go h (fun o e => g.at0 e) (fun o e => g.at0 e)⟩
theorem Gd.new {D : Dst} {H : Hp} {p : Addr} {o : HO} (h : H p = none) : Gd D H (upd H p o) := .pure (.new h)
theorem Gd.gr0 {H H' : Hp} (g : Gd none H H') : Gr [] H H' := g.gr
/-- where one stands: m: the places that may change; they are there; the draws' state is well -/
structure Cc (D : Dst) (m : List Addr) (H : Hp) : Prop where
  sub : ∀ a, a ∈ D.m → a ∈ m
  dm : ∀ a, a ∈ m → H a ≠ none
  ok : D.ok H
theorem Cc.go {D : Dst} {m : List Addr} {H H' : Hp} (c : Cc D m H) (g : Gd D H H') : Cc D m H' := ⟨c.sub, fun a h z => c.dm a h (g.gr.dom a z), g.ok c.ok⟩
theorem Cc.free {D : Dst} {m : List Addr} {H : Hp} (c : Cc D m H) {p : Addr} (h : H p = none) : p ∉ m := fun z => c.dm p z h
theorem Cc.nil {H : Hp} : Cc none [] H := ⟨fun _ h => h, fun _ h => absurd h (by simp), trivial⟩
theorem Cc.none {D : Dst} {m : List Addr} {H : Hp} (c : Cc D m H) : Cc Option.none m H := ⟨fun _ h => absurd h (by simp [Dst.m]), c.dm, trivial⟩
theorem Cc.cons {D : Dst} {m : List Addr} {H : Hp} (c : Cc D m H) {a : Addr} {o : HO} (h : H a = some o) : Cc D (a :: m) H :=
  ⟨fun x hx => List.mem_cons_of_mem _ (c.sub x hx), fun x hx => by
    rcases List.mem_cons.mp hx with z | z
    · rw [z, h]; simp
    · exact c.dm x z, c.ok⟩

/-! ### values that represent data: no cell of a list stands at a place of m -/
class Rp (α : Type) where
  rp : List Addr → Hp → α → V → Prop
  go : ∀ {m m' : List Addr} {H H' : Hp} {x : α} {v : V}, (∀ a o, H a = some o → a ∉ m → a ∉ m' ∧ H' a = some o) → (∀ a xs, H a = some (.tup xs) → H' a = some (.tup xs)) → rp m H x v → rp m' H' x v
/-- data without lists: it stays whatever happens -/
class Nl (α : Type) [Rp α] where
  nl : ∀ {m m' : List Addr} {H H' : Hp} {x : α} {v : V}, (∀ a xs, H a = some (.tup xs) → H' a = some (.tup xs)) → Rp.rp m H x v → Rp.rp m' H' x v
instance : Rp Int := ⟨fun _ _ i v => v = .int i, fun _ _ h => h⟩
instance : Nl Int := ⟨fun _ h => h⟩
instance : Rp Bool := ⟨fun _ _ i v => v = .bl i, fun _ _ h => h⟩
instance : Nl Bool := ⟨fun _ h => h⟩
instance : Rp Unit := ⟨fun _ _ _ v => v = .non, fun _ _ h => h⟩
instance : Nl Unit := ⟨fun _ h => h⟩
instance : Rp Str := ⟨fun _ _ i v => v = .str i, fun _ _ h => h⟩
instance : Nl Str := ⟨fun _ h => h⟩
theorem paired_go {α β : Type} {F G : α → β → Prop} {l : List α} {r : List β} (h : Paired F l r) (k : ∀ a b, F a b → G a b) : Paired G l r := Paired.mapP h k
instance {α β : Type} [Rp α] [Rp β] : Rp (α × β) := ⟨fun m H x v => ∃ a u w, v = .ref a ∧ H a = some (.tup [u, w]) ∧ Rp.rp m H x.1 u ∧ Rp.rp m H x.2 w,
  fun k t ⟨a, u, w, e, h, h1, h2⟩ => ⟨a, u, w, e, t a _ h, Rp.go k t h1, Rp.go k t h2⟩⟩
instance {α β : Type} [Rp α] [Rp β] [Nl α] [Nl β] : Nl (α × β) := ⟨fun t ⟨a, u, w, e, h, h1, h2⟩ => ⟨a, u, w, e, t a _ h, Nl.nl t h1, Nl.nl t h2⟩⟩
/-- a triple as a tuple of three -/
structure Tri (α β γ : Type) where
  a : α
  b : β
  c : γ
  deriving DecidableEq
instance {α β γ : Type} [Rp α] [Rp β] [Rp γ] : Rp (Tri α β γ) := ⟨fun m H x v => ∃ a u w z, v = .ref a ∧ H a = some (.tup [u, w, z]) ∧ Rp.rp m H x.a u ∧ Rp.rp m H x.b w ∧ Rp.rp m H x.c z,
  fun k t ⟨a, u, w, z, e, h, h1, h2, h3⟩ => ⟨a, u, w, z, e, t a _ h, Rp.go k t h1, Rp.go k t h2, Rp.go k t h3⟩⟩
instance {α β γ : Type} [Rp α] [Rp β] [Rp γ] [Nl α] [Nl β] [Nl γ] : Nl (Tri α β γ) := ⟨fun t ⟨a, u, w, z, e, h, h1, h2, h3⟩ => ⟨a, u, w, z, e, t a _ h, Nl.nl t h1, Nl.nl t h2, Nl.nl t h3⟩⟩
/-- a tuple of any length -/
structure Tp (α : Type) where
  l : List α
  deriving DecidableEq
instance {α : Type} [Rp α] : Rp (Tp α) := ⟨fun m H x v => ∃ a vs, v = .ref a ∧ H a = some (.tup vs) ∧ Paired (Rp.rp m H) x.l vs,
  fun k t ⟨a, vs, e, h, h1⟩ => ⟨a, vs, e, t a _ h, paired_go h1 fun _ _ => Rp.go k t⟩⟩
instance {α : Type} [Rp α] [Nl α] : Nl (Tp α) := ⟨fun t ⟨a, vs, e, h, h1⟩ => ⟨a, vs, e, t a _ h, paired_go h1 fun _ _ => Nl.nl t⟩⟩
/-- a list that nobody changes -/
instance {α : Type} [Rp α] : Rp (List α) := ⟨fun m H x v => ∃ a vs, v = .ref a ∧ a ∉ m ∧ H a = some (.lst vs) ∧ Paired (Rp.rp m H) x vs,
  fun k t ⟨a, vs, e, n, h, h1⟩ => ⟨a, vs, e, (k a _ h n).1, (k a _ h n).2, paired_go h1 fun _ _ => Rp.go k t⟩⟩
instance {α : Type} [Rp α] : Rp (Option α) := ⟨fun m H x v => match x with
  | none => v = .non
  | some y => Rp.rp m H y v, fun {m m' H H' x v} k t h => by
    cases x with
    | none => exact h
    | some y => exact Rp.go k t h⟩
theorem nl_opt {α : Type} [Rp α] [Nl α] {m m' : List Addr} {H H' : Hp} : ∀ {x : Option α} {v : V}, (∀ a xs, H a = some (.tup xs) → H' a = some (.tup xs)) → Rp.rp m H x v → Rp.rp m' H' x v
  | none, _, _, h => h
  | some y, v, t, h => Nl.nl (α := α) (m := m) (x := y) (v := v) t h
instance {α : Type} [Rp α] [Nl α] : Nl (Option α) := ⟨fun t h => nl_opt t h⟩
section
variable {α β : Type} [Rp α] [Rp β] {D : Dst} {m m' : List Addr} {H H' : Hp} {x : α} {v : V} {a p : Addr}
theorem rp_gr {ms : List Addr} (h : Rp.rp m H x v) (g : Gr ms H H') (s : ∀ a, a ∈ ms → a ∈ m) : Rp.rp m H' x v :=
  Rp.go (fun a o e n => ⟨n, g.keep a o e fun z => n (s a z)⟩) (fun a xs e => g.tup a xs e) h
theorem rp_gd (h : Rp.rp m H x v) (c : Cc D m H) (g : Gd D H H') : Rp.rp m H' x v := rp_gr h g.gr c.sub
theorem rp_g0 (h : Rp.rp m H x v) (g : Gr [] H H') : Rp.rp m H' x v := rp_gr h g (by simp)
theorem rp_less (h : Rp.rp m H x v) (s : ∀ a, a ∈ m' → a ∈ m) : Rp.rp m' H x v := Rp.go (fun a o e n => ⟨fun z => n (s a z), e⟩) (fun _ _ e => e) h
theorem rp_nil (h : Rp.rp m H x v) : Rp.rp [] H x v := rp_less h (by simp)
/-- a place that H does not know may be added -/
theorem rp_more (h : Rp.rp m H x v) (hp : H p = none) : Rp.rp (p :: m) H x v :=
  Rp.go (fun a o e n => ⟨fun z => (List.mem_cons.mp z).elim (fun q => ne_of_none e hp q) n, e⟩) (fun _ _ e => e) h
theorem rp_nl [Nl α] (h : Rp.rp m H x v) (t : ∀ a xs, H a = some (.tup xs) → H' a = some (.tup xs)) : Rp.rp m' H' x v := Nl.nl t h
theorem rp_int {i : Int} (h : Rp.rp m H i v) : v = .int i := h
theorem rp_bool {i : Bool} (h : Rp.rp m H i v) : v = .bl i := h
theorem rp_str {i : Str} (h : Rp.rp m H i v) : v = .str i := h
/-- a list of its own at a -/
def Own (m : List Addr) (H : Hp) (a : Addr) (xs : List α) : Prop := a ∉ m ∧ ∃ vs, H a = some (.lst vs) ∧ Paired (Rp.rp m H) xs vs
theorem Own.rp {xs : List α} (o : Own m H a xs) : Rp.rp m H xs (.ref a) := let ⟨n, vs, h, q⟩ := o; ⟨a, vs, rfl, n, h, q⟩
theorem Own.nil (h : a ∉ m) (e : H a = some (.lst [])) : Own m H a ([] : List α) := ⟨h, [], e, .nil⟩
theorem Own.go {xs : List α} {ms : List Addr} (o : Own m H a xs) (g : Gr ms H H') (s : ∀ a, a ∈ ms → a ∈ m) : Own m H' a xs := let ⟨n, vs, h, q⟩ := o
  ⟨n, vs, g.keep a _ h fun z => n (s a z), paired_go q fun _ _ r => rp_gr r g s⟩
theorem Own.gd {xs : List α} (o : Own m H a xs) (c : Cc D m H) (g : Gd D H H') : Own m H' a xs := o.go g.gr c.sub
theorem Own.ex {xs : List α} (o : Own m H a xs) : ∃ vs, H a = some (.lst vs) ∧ Paired (Rp.rp m H) xs vs ∧ xs.length = vs.length := let ⟨_, vs, h, q⟩ := o; ⟨vs, h, q, q.length⟩
theorem upd_tup {o : HO} {u : HO} (h : H a = some u) (nt : ∀ xs, u ≠ .tup xs) : ∀ b xs, H b = some (.tup xs) → upd H a o b = some (.tup xs) := fun b xs e => by
  rw [upd_ne (fun z => by rw [z, h] at e; exact nt xs (Option.some.inj e))]
  exact e
theorem Own.app [Nl α] {xs : List α} {vs : List V} (o : Own m H a xs) (h : H a = some (.lst vs)) (r : Rp.rp m' H x v) : Own m (upd H a (.lst (vs ++ [v]))) a (xs ++ [x]) := by
  obtain ⟨n, vs', h', q⟩ := o
  rw [h] at h'
  cases h'
  have t := upd_tup (o := .lst (vs ++ [v])) h (fun xs z => by cases z)
  exact ⟨n, _, upd_same, (paired_go q fun _ _ r => rp_nl r t).snoc (rp_nl r t)⟩
/-- another object changes -/
theorem Own.upd_ne [Nl α] {xs : List α} {b : Addr} {u o' : HO} (o : Own m H a xs) (h : a ≠ b) (hb : H b = some u) (nt : ∀ xs, u ≠ .tup xs) : Own m (upd H b o') a xs := by
  obtain ⟨n, vs, h', q⟩ := o
  exact ⟨n, vs, by rw [L2.upd_ne h]; exact h', paired_go q fun _ _ r => rp_nl r (upd_tup hb nt)⟩
theorem paired_ints {ns : List Int} {vs : List V} (h : Paired (Rp.rp m H) ns vs) : vs = ns.map V.int := by
  induction h with
  | nil => rfl
  | cons e _ ih => rw [ih, rp_int e]; rfl
theorem ints_paired (ns : List Int) : Paired (Rp.rp m H) ns (ns.map V.int) := by
  induction ns with
  | nil => exact .nil
  | cons n ns ih => exact .cons rfl ih
theorem Own.ints {ns : List Int} (o : Own m H a ns) : H a = some (.lst (ns.map V.int)) := by
  obtain ⟨_, vs, h, q⟩ := o
  rw [h, paired_ints q]
theorem Own.of_ints {ns : List Int} (h : a ∉ m) (e : H a = some (.lst (ns.map V.int))) : Own m H a ns := ⟨h, _, e, ints_paired ns⟩
end

/-! ### what an expression is worth -/
section
variable {α β γ : Type} [Rp α] [Rp β] [Rp γ]
/-- te comes to some x with p x, whatever was new since H; only the draws' state may have gone on -/
def Ev (D : Dst) (m : List Addr) (te : TE) (σ : St) (H : Hp) (p : α → Prop) : Prop :=
  ∀ H1, Gd D H H1 → Cc D m H1 → ∀ Q : VK, (∀ x v H2, Gd D H1 H2 → Rp.rp m H2 x v → p x → Q v H2) → te σ H1 Q
/-- .. to x -/
abbrev EvV (D : Dst) (m : List Addr) (te : TE) (σ : St) (H : Hp) (x : α) : Prop := Ev D m te σ H fun y => y = x
/-- .. to a new list of its own -/
def EvL (D : Dst) (m : List Addr) (te : TE) (σ : St) (H : Hp) (p : List α → Prop) : Prop :=
  ∀ H1, Gd D H H1 → Cc D m H1 → ∀ Q : VK, (∀ xs a H2, H1 a = none → Gd D H1 H2 → Own m H2 a xs → p xs → Q (.ref a) H2) → te σ H1 Q
abbrev EvLV (D : Dst) (m : List Addr) (te : TE) (σ : St) (H : Hp) (xs : List α) : Prop := EvL D m te σ H fun y => y = xs
/-- a test -/
def EvT (D : Dst) (m : List Addr) (t : TT) (σ : St) (H : Hp) (p : Bool → Prop) : Prop :=
  ∀ H1, Gd D H H1 → Cc D m H1 → ∀ Q : Bool → Hp → Prop, (∀ b H2, Gd D H1 H2 → p b → Q b H2) → t σ H1 Q
abbrev EvB (D : Dst) (m : List Addr) (t : TT) (σ : St) (H : Hp) (b : Bool) : Prop := EvT D m t σ H fun c => c = b
/-- arguments: any values, told by their heap -/
def EvA (D : Dst) (m : List Addr) (t : TA) (σ : St) (H : Hp) (p : List V → Hp → Prop) : Prop :=
  ∀ H1, Gd D H H1 → Cc D m H1 → ∀ Q : List V → Hp → Prop, (∀ vs H2, Gd D H1 H2 → p vs H2 → Q vs H2) → t σ H1 Q
variable {K : PySem.W.Frag} {D : Dst} {m : List Addr} {σ : St} {H H' : Hp} {ta tb te : TE} {x : α} {y : β} {v : V}
theorem Ev.mono {p : α → Prop} (h : Ev D m te σ H p) (g : Gd D H H') : Ev D m te σ H' p := fun H1 a => h H1 (g.trans a)
theorem Ev.imp {p q : α → Prop} (h : Ev D m te σ H p) (k : ∀ x, p x → q x) : Ev D m te σ H q := fun H1 g c Q w => h H1 g c Q fun x v H2 g2 r z => w x v H2 g2 r (k x z)
theorem EvL.ev {p : List α → Prop} (h : EvL D m te σ H p) : Ev D m te σ H p := fun H1 g c Q w => h H1 g c Q fun xs a H2 _ g2 o z => w xs (.ref a) H2 g2 o.rp z
theorem EvL.mono {p : List α → Prop} (h : EvL D m te σ H p) (g : Gd D H H') : EvL D m te σ H' p := fun H1 a => h H1 (g.trans a)
theorem EvL.imp {p q : List α → Prop} (h : EvL D m te σ H p) (k : ∀ x, p x → q x) : EvL D m te σ H q := fun H1 g c Q w => h H1 g c Q fun x a H2 n g2 r z => w x a H2 n g2 r (k x z)
theorem EvT.mono {t : TT} {p : Bool → Prop} (h : EvT D m t σ H p) (g : Gd D H H') : EvT D m t σ H' p := fun H1 a => h H1 (g.trans a)
theorem EvT.imp {t : TT} {p q : Bool → Prop} (h : EvT D m t σ H p) (k : ∀ x, p x → q x) : EvT D m t σ H q := fun H1 g c Q w => h H1 g c Q fun b H2 g2 z => w b H2 g2 (k b z)
theorem Ev.any {p : α → Prop} (h : Ev D m te σ H p) : Ev D m te σ H fun _ : α => True := h.imp fun _ _ => trivial
theorem Ev.to {p : α → Prop} {x : α} (h : EvV D m te σ H x) (k : p x) : Ev D m te σ H p := h.imp fun _ e => by rw [e]; exact k

theorem ev_c {i : Int} : EvV D m (tC (.int i)) σ H i := fun H1 _ _ Q q => q i _ H1 .refl rfl rfl
theorem ev_b {i : Bool} : EvV D m (tC (.bl i)) σ H i := fun H1 _ _ Q q => q i _ H1 .refl rfl rfl
theorem ev_s {i : Str} : EvV D m (tC (.str i)) σ H i := fun H1 _ _ Q q => q i _ H1 .refl rfl rfl
theorem ev_non : EvV D m (tC .non) σ H (none : Option α) := fun H1 _ _ Q q => q none _ H1 .refl rfl rfl
/-- a name -/
theorem ev_v {i : Nat} (h : σ[i]? = some (some v)) (r : Rp.rp m H x v) : EvV D m (tVar i) σ H x := fun H1 g c Q q => ⟨v, h, q x v H1 .refl (rp_gr r g.gr c.sub) rfl⟩
theorem ev_vi {i : Nat} {n : Int} (h : σ[i]? = some (some (.int n)) := by rfl) : EvV D m (tVar i) σ H n := fun H1 _ _ Q q => ⟨_, h, q n _ H1 .refl rfl rfl⟩
theorem ev_vb {i : Nat} {n : Bool} (h : σ[i]? = some (some (.bl n)) := by rfl) : EvV D m (tVar i) σ H n := fun H1 _ _ Q q => ⟨_, h, q n _ H1 .refl rfl rfl⟩
theorem ev_vs {i : Nat} {n : Str} (h : σ[i]? = some (some (.str n)) := by rfl) : EvV D m (tVar i) σ H n := fun H1 _ _ Q q => ⟨_, h, q n _ H1 .refl rfl rfl⟩

/-! whole numbers -/
theorem ev_i0 {g : Int → Int → Int} {p q r : Int → Prop} (ha : Ev D m ta σ H p) (hb : Ev D m tb σ H q) (k : ∀ i j, p i → q j → r (g i j)) : Ev D m (tOp (rI0 fun i j => .int (g i j)) ta tb) σ H r := fun H1 e c Q w =>
  ha H1 e c _ fun i v H2 e2 ri pi => hb H2 (e.trans e2) (c.go e2) _ fun j u H3 e3 rj qj => ⟨i, j, ri, rj, w _ _ H3 (e2.trans e3) rfl (k i j pi qj)⟩
theorem ev_iC {C : Int → Int → Prop} {g : Int → Int → Int} {p q r : Int → Prop} (ha : Ev D m ta σ H p) (hb : Ev D m tb σ H q) (hc : ∀ i j, p i → q j → C i j) (k : ∀ i j, p i → q j → r (g i j)) : Ev D m (tOp (rI C fun i j => .int (g i j)) ta tb) σ H r := fun H1 e c Q w =>
  ha H1 e c _ fun i v H2 e2 ri pi => hb H2 (e.trans e2) (c.go e2) _ fun j u H3 e3 rj qj => ⟨i, j, ri, rj, hc i j pi qj, w _ _ H3 (e2.trans e3) rfl (k i j pi qj)⟩
theorem ev_o {g : Int → Int → Int} {i j : Int} (ha : EvV D m ta σ H i) (hb : EvV D m tb σ H j) : EvV D m (tOp (rI0 fun i j => .int (g i j)) ta tb) σ H (g i j) := ev_i0 ha hb fun _ _ a b => by rw [a, b]
theorem ev_oC {C : Int → Int → Prop} {g : Int → Int → Int} {i j : Int} (ha : EvV D m ta σ H i) (hb : EvV D m tb σ H j) (hc : C i j) : EvV D m (tOp (rI C fun i j => .int (g i j)) ta tb) σ H (g i j) :=
  ev_iC ha hb (fun _ _ a b => by rw [a, b]; exact hc) fun _ _ a b => by rw [a, b]
theorem ev_un {g : Int → Int} {p r : Int → Prop} (ha : Ev D m ta σ H p) (k : ∀ i, p i → r (g i)) : Ev D m (tUn (rU fun i => .int (g i)) ta) σ H r := fun H1 e c Q w =>
  ha H1 e c _ fun i v H2 e2 ri pi => ⟨i, ri, w _ _ H2 e2 rfl (k i pi)⟩
/-- comparisons of whole numbers -/
theorem ev_ib {g : Int → Int → Bool} {p q : Int → Prop} {r : Bool → Prop} (ha : Ev D m ta σ H p) (hb : Ev D m tb σ H q) (k : ∀ i j, p i → q j → r (g i j)) : Ev D m (tOp (rI0 fun i j => .bl (g i j)) ta tb) σ H r := fun H1 e c Q w =>
  ha H1 e c _ fun i v H2 e2 ri pi => hb H2 (e.trans e2) (c.go e2) _ fun j u H3 e3 rj qj => ⟨i, j, ri, rj, w _ _ H3 (e2.trans e3) rfl (k i j pi qj)⟩
theorem ev_ob {g : Int → Int → Bool} {i j : Int} (ha : EvV D m ta σ H i) (hb : EvV D m tb σ H j) : EvV D m (tOp (rI0 fun i j => .bl (g i j)) ta tb) σ H (g i j) := ev_ib ha hb fun _ _ a b => by rw [a, b]
theorem ev_eqI {p q : Int → Prop} {r : Bool → Prop} (ha : Ev D m ta σ H p) (hb : Ev D m tb σ H q) (k : ∀ i j, p i → q j → r (decide (i = j))) : Ev D m (tOp rEq ta tb) σ H r := fun H1 e c Q w =>
  ha H1 e c _ fun i v H2 e2 ri pi => hb H2 (e.trans e2) (c.go e2) _ fun j u H3 e3 rj qj => by
    cases rp_int ri; cases rp_int rj
    exact ⟨rfl, w _ _ H3 (e2.trans e3) (show V.bl _ = V.bl _ by rw [dec_int, Bool.beq_eq_decide_eq]) (k i j pi qj)⟩
theorem ev_eqV {i j : Int} (ha : EvV D m ta σ H i) (hb : EvV D m tb σ H j) : EvV D m (tOp rEq ta tb) σ H (decide (i = j)) := ev_eqI ha hb fun _ _ a b => by rw [a, b]
theorem ev_neI {p q : Int → Prop} {r : Bool → Prop} (ha : Ev D m ta σ H p) (hb : Ev D m tb σ H q) (k : ∀ i j, p i → q j → r (!decide (i = j))) : Ev D m (tOp rNe ta tb) σ H r := fun H1 e c Q w =>
  ha H1 e c _ fun i v H2 e2 ri pi => hb H2 (e.trans e2) (c.go e2) _ fun j u H3 e3 rj qj => by
    cases rp_int ri; cases rp_int rj
    exact ⟨rfl, w _ _ H3 (e2.trans e3) (show V.bl _ = V.bl _ by rw [dec_int, Bool.beq_eq_decide_eq]) (k i j pi qj)⟩
theorem ev_neV {i j : Int} (ha : EvV D m ta σ H i) (hb : EvV D m tb σ H j) : EvV D m (tOp rNe ta tb) σ H (!decide (i = j)) := ev_neI ha hb fun _ _ a b => by rw [a, b]
theorem ev_eqS {i j : Str} (ha : EvV D m ta σ H i) (hb : EvV D m tb σ H j) : EvV D m (tOp rEq ta tb) σ H (decide (i = j)) := fun H1 e c Q w =>
  ha H1 e c _ fun i' v H2 e2 ri pi => hb H2 (e.trans e2) (c.go e2) _ fun j' u H3 e3 rj qj => by
    cases rp_str ri; cases rp_str rj; cases pi; cases qj
    exact ⟨rfl, w _ _ H3 (e2.trans e3) (show V.bl _ = V.bl _ by rw [dec_str]; congr 1) rfl⟩
theorem ev_neS {i j : Str} (ha : EvV D m ta σ H i) (hb : EvV D m tb σ H j) : EvV D m (tOp rNe ta tb) σ H (!decide (i = j)) := fun H1 e c Q w =>
  ha H1 e c _ fun i' v H2 e2 ri pi => hb H2 (e.trans e2) (c.go e2) _ fun j' u H3 e3 rj qj => by
    cases rp_str ri; cases rp_str rj; cases pi; cases qj
    exact ⟨rfl, w _ _ H3 (e2.trans e3) (show V.bl _ = V.bl _ by rw [dec_str]; congr 1) rfl⟩
/-- a < b < c of whole numbers -/
theorem ev_chain {g g' : Int → Int → Bool} {tc : TE} {i j k : Int} (ha : EvV D m ta σ H i) (hb : EvV D m tb σ H j) (hc : EvV D m tc σ H k) :
    EvV D m (tChain (rI0 fun i j => .bl (g i j)) (rI0 fun i j => .bl (g' i j)) ta tb tc) σ H (g i j && g' j k) := fun H1 e c Q w =>
  ha H1 e c _ fun i' v H2 e2 ri pi => hb H2 (e.trans e2) (c.go e2) _ fun j' u H3 e3 rj qj => by
    cases pi; cases qj
    refine ⟨i, j, ri, rj, g i j, rfl, ?_⟩
    cases hg : g i j with
    | true =>
      rw [if_pos rfl]
      exact hc H3 ((e.trans e2).trans e3) ((c.go e2).go e3) _ fun k' z H4 e4 rk pk => by
        cases pk
        exact ⟨j, k, rj, rk, w _ _ H4 ((e2.trans e3).trans e4) rfl (by rw [hg, Bool.true_and])⟩
    | false =>
      rw [if_neg Bool.false_ne_true]
      exact w _ _ H3 (e2.trans e3) rfl (by rw [hg, Bool.false_and])

/-! tests -/
variable {t u : TT}
theorem et_e {p : Bool → Prop} (h : Ev D m te σ H p) : EvT D m (tTest te) σ H p := fun H1 e c Q w => h H1 e c _ fun b v H2 e2 r z => ⟨b, r, w b H2 e2 z⟩
theorem et_B {p : Bool → Prop} (h : Ev D m te σ H p) : EvT D m (tB te) σ H p := fun H1 e c Q w => h H1 e c _ fun b v H2 e2 r z => ⟨b, r, w b H2 e2 z⟩
theorem et_and {p q r : Bool → Prop} (h1 : EvT D m t σ H p) (h2 : p true → EvT D m u σ H q) (k0 : p false → r false) (k1 : ∀ b, p true → q b → r b) : EvT D m (tAnd t u) σ H r := fun H1 e c Q w => h1 H1 e c _ fun b H2 e2 z => by
  cases b with
  | true =>
    show u σ H2 Q
    exact h2 z H2 (e.trans e2) (c.go e2) Q fun b H3 e3 y => w b H3 (e2.trans e3) (k1 b z y)
  | false => exact w false H2 e2 (k0 z)
theorem et_or {p q r : Bool → Prop} (h1 : EvT D m t σ H p) (h2 : p false → EvT D m u σ H q) (k0 : p true → r true) (k1 : ∀ b, p false → q b → r b) : EvT D m (tOr t u) σ H r := fun H1 e c Q w => h1 H1 e c _ fun b H2 e2 z => by
  cases b with
  | true => exact w true H2 e2 (k0 z)
  | false =>
    show u σ H2 Q
    exact h2 z H2 (e.trans e2) (c.go e2) Q fun b H3 e3 y => w b H3 (e2.trans e3) (k1 b z y)
theorem et_andV {a b : Bool} (h1 : EvB D m t σ H a) (h2 : a = true → EvB D m u σ H b) : EvB D m (tAnd t u) σ H (a && b) :=
  et_and h1 (fun e => h2 e.symm) (fun e => by rw [← e]; rfl) fun c e e2 => by rw [← e, e2]; rfl
theorem et_orV {a b : Bool} (h1 : EvB D m t σ H a) (h2 : a = false → EvB D m u σ H b) : EvB D m (tOr t u) σ H (a || b) :=
  et_or h1 (fun e => h2 e.symm) (fun e => by rw [← e]; rfl) fun c e e2 => by rw [← e, e2]; rfl
theorem et_not {p q : Bool → Prop} (h : EvT D m t σ H p) (k : ∀ b, p b → q (!b)) : EvT D m (tNot t) σ H q := fun H1 e c Q w => h H1 e c _ fun b H2 e2 z => w _ H2 e2 (k b z)
theorem et_notV {a : Bool} (h : EvB D m t σ H a) : EvB D m (tNot t) σ H (!a) := et_not h fun b e => by rw [e]
theorem ev_andV {a b : Bool} (h1 : EvV D m ta σ H a) (h2 : a = true → EvV D m tb σ H b) : EvV D m (tAndV ta tb) σ H (a && b) := fun H1 e c Q w => h1 H1 e c _ fun a' v H2 e2 r z => by
  cases z
  refine ⟨a, r, ?_⟩
  cases a with
  | true => rw [if_pos rfl]; exact h2 rfl H2 (e.trans e2) (c.go e2) Q fun b' v H3 e3 r3 z => w b' v H3 (e2.trans e3) r3 z
  | false => rw [if_neg Bool.false_ne_true]; exact w false _ H2 e2 rfl rfl
theorem ev_orV {a b : Bool} (h1 : EvV D m ta σ H a) (h2 : a = false → EvV D m tb σ H b) : EvV D m (tOrV ta tb) σ H (a || b) := fun H1 e c Q w => h1 H1 e c _ fun a' v H2 e2 r z => by
  cases z
  refine ⟨a, r, ?_⟩
  cases a with
  | true => rw [if_pos rfl]; exact w true _ H2 e2 rfl rfl
  | false => rw [if_neg Bool.false_ne_true]; exact h2 rfl H2 (e.trans e2) (c.go e2) Q fun b' v H3 e3 r3 z => w b' v H3 (e2.trans e3) r3 z
theorem ev_notV {a : Bool} (h1 : EvV D m ta σ H a) : EvV D m (tNotV ta) σ H (!a) := fun H1 e c Q w => h1 H1 e c _ fun a' v H2 e2 r z => by
  cases z
  exact ⟨a, r, w _ _ H2 e2 rfl rfl⟩
/-- a if t else b -/
theorem ev_if {b : Bool} {p : α → Prop} (h : EvB D m t σ H b) (h1 : b = true → Ev D m ta σ H p) (h2 : b = false → Ev D m tb σ H p) : Ev D m (tIf t ta tb) σ H p := fun H1 e c Q w => h H1 e c _ fun b' H2 e2 z => by
  cases z
  cases b with
  | true => rw [if_pos rfl]; exact h1 rfl H2 (e.trans e2) (c.go e2) Q fun x v H3 e3 => w x v H3 (e2.trans e3)
  | false => rw [if_neg Bool.false_ne_true]; exact h2 rfl H2 (e.trans e2) (c.go e2) Q fun x v H3 e3 => w x v H3 (e2.trans e3)
theorem ev_ifP {q : Bool → Prop} {p : α → Prop} (h : EvT D m t σ H q) (h1 : q true → Ev D m ta σ H p) (h2 : q false → Ev D m tb σ H p) : Ev D m (tIf t ta tb) σ H p := fun H1 e c Q w => h H1 e c _ fun b' H2 e2 z => by
  cases b' with
  | true => rw [if_pos rfl]; exact h1 z H2 (e.trans e2) (c.go e2) Q fun x v H3 e3 => w x v H3 (e2.trans e3)
  | false => rw [if_neg Bool.false_ne_true]; exact h2 z H2 (e.trans e2) (c.go e2) Q fun x v H3 e3 => w x v H3 (e2.trans e3)

/-! tuples, lists -/
/-- (a, b) -/
theorem ev_pair {p : α → Prop} {q : β → Prop} {r : α × β → Prop} (ha : Ev D m ta σ H p) (hb : Ev D m tb σ H q) (k : ∀ x y, p x → q y → r (x, y)) : Ev D m (tTup (tCons ta (tCons tb tNil))) σ H r := fun H1 e c Q w =>
  ha H1 e c _ fun x v H2 e2 rx px => hb H2 (e.trans e2) (c.go e2) _ fun y u H3 e3 ry qy => ⟨(by show 2 ≤ sizeLine; decide), fun a ha =>
    w (x, y) _ _ ((e2.trans e3).trans (.new ha)) ⟨a, v, u, rfl, upd_same, rp_g0 (rp_gd rx (c.go e2) e3) (.new ha), rp_g0 ry (.new ha)⟩ (k x y px qy)⟩
theorem ev_pairV {x : α} {y : β} (ha : EvV D m ta σ H x) (hb : EvV D m tb σ H y) : EvV D m (tTup (tCons ta (tCons tb tNil))) σ H (x, y) := ev_pair ha hb fun _ _ a b => by rw [a, b]
theorem ev_tri {tc : TE} {p : α → Prop} {q : β → Prop} {s : γ → Prop} {r : Tri α β γ → Prop} (ha : Ev D m ta σ H p) (hb : Ev D m tb σ H q) (hc : Ev D m tc σ H s) (k : ∀ x y z, p x → q y → s z → r ⟨x, y, z⟩) : Ev D m (tTup (tCons ta (tCons tb (tCons tc tNil)))) σ H r := fun H1 e c Q w =>
  ha H1 e c _ fun x v H2 e2 rx px => hb H2 (e.trans e2) (c.go e2) _ fun y u H3 e3 ry qy => hc H3 ((e.trans e2).trans e3) ((c.go e2).go e3) _ fun z o H4 e4 rz sz => ⟨(by show 3 ≤ sizeLine; decide), fun a ha =>
    w ⟨x, y, z⟩ _ _ (((e2.trans e3).trans e4).trans (.new ha)) ⟨a, v, u, o, rfl, upd_same, rp_g0 (rp_gd (rp_gd rx (c.go e2) e3) ((c.go e2).go e3) e4) (.new ha), rp_g0 (rp_gd ry ((c.go e2).go e3) e4) (.new ha), rp_g0 rz (.new ha)⟩ (k x y z px qy sz)⟩
/-- items of a display, all alike -/
def EvI (D : Dst) (m : List Addr) (t : TA) (σ : St) (H : Hp) (p : List α → Prop) : Prop :=
  ∀ H1, Gd D H H1 → Cc D m H1 → ∀ Q : List V → Hp → Prop, (∀ xs vs H2, Gd D H1 H2 → Paired (Rp.rp m H2) xs vs → p xs → Q vs H2) → t σ H1 Q
theorem ei_nil : EvI D m tNil σ H (fun xs : List α => xs = []) := fun H1 _ _ Q w => w [] [] H1 .refl .nil rfl
theorem ei_cons {tr : TA} {p : α → Prop} {q r : List α → Prop} (ha : Ev D m ta σ H p) (hr : EvI D m tr σ H q) (k : ∀ x xs, p x → q xs → r (x :: xs)) : EvI D m (tCons ta tr) σ H r := fun H1 e c Q w =>
  ha H1 e c _ fun x v H2 e2 rx px => hr H2 (e.trans e2) (c.go e2) _ fun xs vs H3 e3 rs qs => w (x :: xs) (v :: vs) H3 (e2.trans e3) (.cons (rp_gd rx (c.go e2) e3) rs) (k x xs px qs)
theorem ei_consV {tr : TA} {x : α} {xs : List α} (ha : EvV D m ta σ H x) (hr : EvI D m tr σ H (fun ys => ys = xs)) : EvI D m (tCons ta tr) σ H (fun ys => ys = x :: xs) := ei_cons ha hr fun _ _ a b => by rw [a, b]
theorem el_lst {ti : TA} {p : List α → Prop} (h : EvI D m ti σ H p) (hl : ∀ xs, p xs → xs.length ≤ 100000) : EvL D m (tLst ti) σ H p := fun H1 e c Q w =>
  h H1 e c _ fun xs vs H2 e2 rs ps => ⟨by have := rs.length; exact Evl.sz_of (this ▸ hl xs ps), fun a ha => w xs a _ (e2.gr.dom a ha) (e2.trans (.new ha))
    ⟨(c.go e2).free ha, vs, upd_same, paired_go rs fun _ _ r => rp_g0 r (.new ha)⟩ ps⟩
theorem ev_tp {ti : TA} {p : List α → Prop} {q : Tp α → Prop} (h : EvI D m ti σ H p) (hl : ∀ xs, p xs → xs.length ≤ 100000) (k : ∀ xs, p xs → q ⟨xs⟩) : Ev D m (tTup ti) σ H q := fun H1 e c Q w =>
  h H1 e c _ fun xs vs H2 e2 rs ps => ⟨by have := rs.length; exact Evl.sz_of (this ▸ hl xs ps), fun a ha => w ⟨xs⟩ _ _ (e2.trans (.new ha)) ⟨a, vs, rfl, upd_same, paired_go rs fun _ _ r => rp_g0 r (.new ha)⟩ (k xs ps)⟩
theorem rp_lst {xs : List α} (r : Rp.rp m H xs v) : ∃ a vs, v = .ref a ∧ a ∉ m ∧ H a = some (.lst vs) ∧ Paired (Rp.rp m H) xs vs := r
theorem paired_at {α β : Type} {F : α → β → Prop} : ∀ {l : List α} {r : List β} {i : Nat} {x : α}, Paired F l r → l[i]? = some x → ∃ y, r[i]? = some y ∧ F x y
  | _, _, _, _, .nil, e => by simp at e
  | _, _, 0, _, .cons h _, e => by simp at e; subst e; exact ⟨_, rfl, h⟩
  | _, _, i + 1, x, .cons _ t, e => by simpa using paired_at (i := i) t (by simpa using e)
theorem paired_atI {F : α → V → Prop} {l : List α} {r : List V} {i : Int} {x : α} (h : Paired F l r) (e : atI l i = some x) : ∃ y, atI r i = some y ∧ F x y := by
  unfold atI at e ⊢
  rw [← h.length]
  cases q : ixN l.length i with
  | none => rw [q] at e; cases e
  | some j =>
    rw [q] at e
    exact paired_at h e
/-- xs[i] -/
theorem ev_ixL {xs : List α} {q : Int → Prop} {p : α → Prop} (ha : EvV D m ta σ H xs) (hb : Ev D m tb σ H q) (k : ∀ i, q i → ∃ x, atI xs i = some x ∧ p x) : Ev D m (tOp (rIxL K) ta tb) σ H p := fun H1 e c Q w =>
  ha H1 e c _ fun xs' v H2 e2 rx px => hb H2 (e.trans e2) (c.go e2) _ fun j u H3 e3 rj qj => by
    cases px
    obtain ⟨x, hx, px⟩ := k j qj
    obtain ⟨a, vs, rfl, n, h, ps⟩ := rp_lst (rp_gd rx (c.go e2) e3)
    obtain ⟨y, hy, ry⟩ := paired_atI ps hx
    exact ⟨a, vs, j, y, rfl, rj, .of h, hy, w x y H3 (e2.trans e3) ry px⟩
theorem ev_ixL' {s : List α → Prop} {q : Int → Prop} {p : α → Prop} (ha : Ev D m ta σ H s) (hb : Ev D m tb σ H q) (k : ∀ xs i, s xs → q i → ∃ x, atI xs i = some x ∧ p x) : Ev D m (tOp (rIxL K) ta tb) σ H p := fun H1 e c Q w =>
  ha H1 e c _ fun xs v H2 e2 rx px => hb H2 (e.trans e2) (c.go e2) _ fun j u H3 e3 rj qj => by
    obtain ⟨x, hx, px⟩ := k xs j px qj
    obtain ⟨a, vs, rfl, n, h, ps⟩ := rp_lst (rp_gd rx (c.go e2) e3)
    obtain ⟨y, hy, ry⟩ := paired_atI ps hx
    exact ⟨a, vs, j, y, rfl, rj, .of h, hy, w x y H3 (e2.trans e3) ry px⟩
theorem ev_ixLV {xs : List α} {i : Int} {x : α} (ha : EvV D m ta σ H xs) (hb : EvV D m tb σ H i) (k : atI xs i = some x) : EvV D m (tOp (rIxL K) ta tb) σ H x := ev_ixL ha hb fun j e => ⟨x, by rw [e]; exact k, rfl⟩
/-- t[0], t[1] of a pair -/
theorem ev_ix0 {x : α × β} (ha : EvV D m ta σ H x) : EvV D m (tOp (rIxT K) ta (tC (.int 0))) σ H x.1 := fun H1 e c Q w =>
  ha H1 e c _ fun x' v H2 e2 rx px => by
    cases px
    obtain ⟨a, u, z, rfl, h, r1, r2⟩ := rx
    exact ⟨a, _, 0, u, rfl, rfl, .of h, rfl, w _ _ H2 e2 r1 rfl⟩
theorem ev_ix1 {x : α × β} (ha : EvV D m ta σ H x) : EvV D m (tOp (rIxT K) ta (tC (.int 1))) σ H x.2 := fun H1 e c Q w =>
  ha H1 e c _ fun x' v H2 e2 rx px => by
    cases px
    obtain ⟨a, u, z, rfl, h, r1, r2⟩ := rx
    exact ⟨a, _, 1, z, rfl, rfl, .of h, rfl, w _ _ H2 e2 r2 rfl⟩
/-- len of a list -/
def rLen (K : PySem.W.Frag) : List V → Hp → VK → Prop := fun xs H Q => ∃ p ys, xs = [.ref p] ∧ (SqL K H p ys ∨ SqT K H p ys) ∧ Q (.int ys.length) H
theorem ev_len {xs : List α} (ha : EvV D m ta σ H xs) : EvV D m (tCB (rLen K) (tCons ta tNil)) σ H (xs.length : Int) := fun H1 e c Q w =>
  ha H1 e c _ fun xs' v H2 e2 rx px => by
    cases px
    obtain ⟨a, vs, rfl, n, h, ps⟩ := rp_lst rx
    exact ⟨a, vs, rfl, .inl (.of h), w _ _ H2 e2 (by rw [← ps.length]; rfl) rfl⟩
theorem ev_lenT {xs : Tp α} (ha : EvV D m ta σ H xs) : EvV D m (tCB (rLen K) (tCons ta tNil)) σ H (xs.l.length : Int) := fun H1 e c Q w =>
  ha H1 e c _ fun xs' v H2 e2 rx px => by
    cases px
    obtain ⟨a, vs, rfl, h, ps⟩ := rx
    exact ⟨a, vs, rfl, .inr (.of h), w _ _ H2 e2 (by rw [← ps.length]; rfl) rfl⟩
/-- list(xs) -/
def rList (K : PySem.W.Frag) : List V → Hp → VK → Prop := fun xs H Q => ∃ p ys, xs = [.ref p] ∧ (SqL K H p ys ∨ SqT K H p ys) ∧ ∀ l, H l = none → Q (.ref l) (upd H l (.lst ys))
theorem el_list {xs : List α} (ha : EvV D m ta σ H xs) : EvLV D m (tCB (rList K) (tCons ta tNil)) σ H xs := fun H1 e c Q w =>
  ha H1 e c _ fun xs' v H2 e2 rx px => by
    cases px
    obtain ⟨a, vs, rfl, n, h, ps⟩ := rp_lst rx
    exact ⟨a, vs, rfl, .inl (.of h), fun l hl => w xs l _ (e2.gr.dom l hl) (e2.trans (.new hl)) ⟨(c.go e2).free hl, vs, upd_same, paired_go ps fun _ _ r => rp_g0 r (.new hl)⟩ rfl⟩
theorem el_listT {xs : Tp α} (ha : EvV D m ta σ H xs) : EvLV D m (tCB (rList K) (tCons ta tNil)) σ H xs.l := fun H1 e c Q w =>
  ha H1 e c _ fun xs' v H2 e2 rx px => by
    cases px
    obtain ⟨a, vs, rfl, h, ps⟩ := rx
    exact ⟨a, vs, rfl, .inr (.of h), fun l hl => w xs.l l _ (e2.gr.dom l hl) (e2.trans (.new hl)) ⟨(c.go e2).free hl, vs, upd_same, paired_go ps fun _ _ r => rp_g0 r (.new hl)⟩ rfl⟩
/-- xs + ys -/
theorem rCat_ok {p q : List α → Prop} {r : List α → Prop} {rc : R2} (hrc : ∀ a b (us ws : List V) H Q, H a = some (.lst us) → H b = some (.lst ws) → us.length ≤ 100000 → ws.length ≤ 100000 → (∀ l, H l = none → Q (.ref l) (upd H l (.lst (us ++ ws)))) → rc (.ref a) (.ref b) H Q)
    (ha : Ev D m ta σ H p) (hb : Ev D m tb σ H q) (hl : ∀ xs ys, p xs → q ys → xs.length ≤ 100000 ∧ ys.length ≤ 100000) (k : ∀ xs ys, p xs → q ys → r (xs ++ ys)) : EvL D m (tOp rc ta tb) σ H r := fun H1 e c Q w =>
  ha H1 e c _ fun xs v H2 e2 rx px => hb H2 (e.trans e2) (c.go e2) _ fun ys u H3 e3 ry qy => by
    obtain ⟨a, vs, rfl, n, h, ps⟩ := rp_lst (rp_gd rx (c.go e2) e3)
    obtain ⟨b, us, rfl, n', h', ps'⟩ := rp_lst ry
    have z := hl xs ys px qy
    refine hrc a b vs us H3 Q h h' (by rw [← ps.length]; exact z.1) (by rw [← ps'.length]; exact z.2) fun l hl => ?_
    have app : ∀ {l1 l2 : List α} {r1 r2 : List V}, Paired (Rp.rp m H3) l1 r1 → Paired (Rp.rp m H3) l2 r2 → Paired (Rp.rp m H3) (l1 ++ l2) (r1 ++ r2) := fun {l1 l2 r1 r2} h1 h2 => by
      induction h1 with
      | nil => exact h2
      | cons a _ ih => exact .cons a ih
    exact w (xs ++ ys) l _ ((e2.trans e3).gr.dom l hl) ((e2.trans e3).trans (.new hl)) ⟨((c.go e2).go e3).free hl, _, upd_same, paired_go (app ps ps') fun _ _ r => rp_g0 r (.new hl)⟩ (k xs ys px qy)
end

/-! ### statements -/
section
variable {α β : Type} [Rp α] [Rp β] {K : PySem.W.Frag} {D : Dst} {m : List Addr} {σ : St} {H H' : Hp} {ta tb te : TE} {tt : TT} {v : V} {En : Ends} {i : Nat} {t u : TS}
theorem s_set {p : α → Prop} (c : Cc D m H) (h : Ev D m te σ H p) (k : ∀ x v H1, Gd D H H1 → Rp.rp m H1 x v → p x → En.nx (σ.set i (some v)) H1) : tAsg te (gName i) En σ H := h H .refl c _ fun x v H1 g r z => k x v H1 g r z
theorem s_setV {x : α} (c : Cc D m H) (h : EvV D m te σ H x) (k : ∀ v H1, Gd D H H1 → Rp.rp m H1 x v → En.nx (σ.set i (some v)) H1) : tAsg te (gName i) En σ H := s_set c h fun x v H1 g r z => by cases z; exact k v H1 g r
theorem s_setI {p : Int → Prop} (c : Cc D m H) (h : Ev D m te σ H p) (k : ∀ n H1, Gd D H H1 → p n → En.nx (σ.set i (some (.int n))) H1) : tAsg te (gName i) En σ H := s_set c h fun x v H1 g r z => by cases rp_int r; exact k x H1 g z
theorem s_setIV {n : Int} (c : Cc D m H) (h : EvV D m te σ H n) (k : ∀ H1, Gd D H H1 → En.nx (σ.set i (some (.int n))) H1) : tAsg te (gName i) En σ H := s_setI c h fun x H1 g z => by cases z; exact k H1 g
theorem s_setBV {b : Bool} (c : Cc D m H) (h : EvV D m te σ H b) (k : ∀ H1, Gd D H H1 → En.nx (σ.set i (some (.bl b))) H1) : tAsg te (gName i) En σ H := s_set c h fun x v H1 g r z => by cases rp_bool r; cases z; exact k H1 g
theorem s_setSV {b : Str} (c : Cc D m H) (h : EvV D m te σ H b) (k : ∀ H1, Gd D H H1 → En.nx (σ.set i (some (.str b))) H1) : tAsg te (gName i) En σ H := s_set c h fun x v H1 g r z => by cases rp_str r; cases z; exact k H1 g
theorem s_setL {p : List α → Prop} (c : Cc D m H) (h : EvL D m te σ H p) (k : ∀ xs a H1, H a = none → Gd D H H1 → Own m H1 a xs → p xs → En.nx (σ.set i (some (.ref a))) H1) : tAsg te (gName i) En σ H := h H .refl c _ fun x a H1 n g r z => k x a H1 n g r z
theorem s_setLV {xs : List α} (c : Cc D m H) (h : EvLV D m te σ H xs) (k : ∀ a H1, H a = none → Gd D H H1 → Own m H1 a xs → En.nx (σ.set i (some (.ref a))) H1) : tAsg te (gName i) En σ H := s_setL c h fun x a H1 n g r z => by cases z; exact k a H1 n g r
theorem s_drop {p : α → Prop} (c : Cc D m H) (h : Ev D m te σ H p) (k : ∀ x H1, Gd D H H1 → p x → En.nx σ H1) : tDrop te En σ H := h H .refl c _ fun x v H1 g _ z => k x H1 g z
theorem s_ret {p : α → Prop} (c : Cc D m H) (h : Ev D m te σ H p) (k : ∀ x v H1, Gd D H H1 → Rp.rp m H1 x v → p x → En.rt v H1) : tRet te En σ H := h H .refl c _ fun x v H1 g r z => k x v H1 g r z
theorem s_retV {x : α} (c : Cc D m H) (h : EvV D m te σ H x) (k : ∀ v H1, Gd D H H1 → Rp.rp m H1 x v → En.rt v H1) : tRet te En σ H := s_ret c h fun x v H1 g r z => by cases z; exact k v H1 g r
theorem s_retL {p : List α → Prop} (c : Cc D m H) (h : EvL D m te σ H p) (k : ∀ xs a H1, H a = none → Gd D H H1 → Own m H1 a xs → p xs → En.rt (.ref a) H1) : tRet te En σ H := h H .refl c _ fun x a H1 n g r z => k x a H1 n g r z
theorem s_retLV {xs : List α} (c : Cc D m H) (h : EvLV D m te σ H xs) (k : ∀ a H1, H a = none → Gd D H H1 → Own m H1 a xs → En.rt (.ref a) H1) : tRet te En σ H := s_retL c h fun x a H1 n g r z => by cases z; exact k a H1 n g r
theorem s_if {p : Bool → Prop} (c : Cc D m H) (h : EvT D m tt σ H p) (h1 : p true → ∀ H1, Gd D H H1 → t En σ H1) (h2 : p false → ∀ H1, Gd D H H1 → u En σ H1) : tIfS tt t u En σ H := h H .refl c _ fun b H1 g z => by
  cases b with
  | true => rw [if_pos rfl]; exact h1 z H1 g
  | false => rw [if_neg Bool.false_ne_true]; exact h2 z H1 g
theorem s_ifV {b : Bool} (c : Cc D m H) (h : EvB D m tt σ H b) (h1 : b = true → ∀ H1, Gd D H H1 → t En σ H1) (h2 : b = false → ∀ H1, Gd D H H1 → u En σ H1) : tIfS tt t u En σ H := s_if c h (fun e => h1 e.symm) fun e => h2 e.symm
theorem s_next (k : En.nx σ H) : tNext En σ H := k
/-- for x in range(n) -/
theorem s_forR1 {g : TG} {p : Int → Prop} (c : Cc D m H) (h : Ev D m te σ H p)
    (k : ∀ n H1, Gd D H H1 → p n → (-(2 ^ 62) ≤ n ∧ n < 2 ^ 62) ∧ ∃ Pv : Nat → St → Hp → Prop, Pv 0 σ H1 ∧ (∀ (j : Nat) σ' H', (j : Int) < n → Pv j σ' H' → g (.int (j : Int)) σ' H' fun σ2 H2 => t { En with nx := Pv (j + 1), ct := Pv (j + 1), bk := En.nx } σ2 H2) ∧ ∀ σ' H', Pv n.toNat σ' H' → En.nx σ' H') :
    tFor (iRng1 (tCons te tNil)) g t En σ H := h H .refl c _ fun n v H1 gd r z => by
  cases rp_int r
  obtain ⟨⟨b1, b2⟩, Pv, h0, hs, hd⟩ := k n H1 gd z
  refine ⟨n, rfl, b1, b2, for_range (lo := 0) (n := n.toNat) Pv h0 (fun j σ' H' hj hp => ?_) hd⟩
  have q := hs j σ' H' (by omega) hp
  rw [Int.zero_add]
  exact q
/-- for x in range(a, b) -/
theorem s_forR2 {g : TG} {p q : Int → Prop} (c : Cc D m H) (h : Ev D m ta σ H p) (h' : Ev D m tb σ H q)
    (k : ∀ lo n H1, Gd D H H1 → p lo → q n → (-(2 ^ 62) ≤ lo ∧ lo < 2 ^ 62 ∧ -(2 ^ 62) ≤ n ∧ n < 2 ^ 62) ∧ ∃ Pv : Nat → St → Hp → Prop, Pv 0 σ H1 ∧ (∀ (j : Nat) σ' H', lo + (j : Int) < n → Pv j σ' H' → g (.int (lo + (j : Int))) σ' H' fun σ2 H2 => t { En with nx := Pv (j + 1), ct := Pv (j + 1), bk := En.nx } σ2 H2) ∧ ∀ σ' H', Pv (n - lo).toNat σ' H' → En.nx σ' H') :
    tFor (iRng2 (tCons ta (tCons tb tNil))) g t En σ H := h H .refl c _ fun lo v H1 gd r z => h' H1 gd (c.go gd) _ fun n v' H2 gd2 r' z' => by
  cases rp_int r
  cases rp_int r'
  obtain ⟨hb, Pv, h0, hs, hd⟩ := k lo n H2 (gd.trans gd2) z z'
  exact ⟨lo, n, rfl, hb, for_range (lo := lo) (n := (n - lo).toNat) Pv h0 (fun j σ' H' hj hp => hs j σ' H' (by omega) hp) hd⟩
/-- for x in xs -/
theorem s_forL {g : TG} {xs : List α} (c : Cc D m H) (h : EvV D m te σ H xs)
    (k : ∀ a vs H1, Gd D H H1 → a ∉ m → H1 a = some (.lst vs) → Paired (Rp.rp m H1) xs vs → ∃ Pv : Nat → St → Hp → Prop, Pv 0 σ H1 ∧ (∀ j σ' H', Pv j σ' H' → H' a = some (.lst vs)) ∧
      (∀ (j : Nat) x v σ' H', xs[j]? = some x → Rp.rp m H1 x v → Pv j σ' H' → g v σ' H' fun σ2 H2 => t { En with nx := Pv (j + 1), ct := Pv (j + 1), bk := En.nx } σ2 H2) ∧ ∀ σ' H', Pv xs.length σ' H' → En.nx σ' H') :
    tFor (iList K te) g t En σ H := h H .refl c _ fun xs' v H1 gd r z => by
  cases z
  obtain ⟨a, vs, rfl, n, ha, ps⟩ := rp_lst r
  obtain ⟨Pv, h0, hl, hs, hd⟩ := k a vs H1 gd n ha ps
  refine ⟨a, rfl, ⟨vs, .of ha⟩, for_list (K := K) (a := a) (xs := vs) Pv h0 (fun j σ' H' _ hp => .of (hl j σ' H' hp)) (fun j w σ' H' hj hp => ?_) (fun σ' H' hp => hd σ' H' (by rw [ps.length]; exact hp))⟩
  have hlt : j < xs.length := by rw [ps.length]; exact (List.getElem?_eq_some_iff.mp hj).1
  obtain ⟨y, hy, ry⟩ := paired_at ps (List.getElem?_eq_getElem hlt)
  rw [hj] at hy
  cases hy
  exact hs j _ w σ' H' (List.getElem?_eq_getElem hlt) ry hp
/-- .. xs any list with p xs -/
theorem s_forLP {g : TG} {p : List α → Prop} (c : Cc D m H) (h : Ev D m te σ H p)
    (k : ∀ xs a vs H1, p xs → Gd D H H1 → a ∉ m → H1 a = some (.lst vs) → Paired (Rp.rp m H1) xs vs → ∃ Pv : Nat → St → Hp → Prop, Pv 0 σ H1 ∧ (∀ j σ' H', Pv j σ' H' → H' a = some (.lst vs)) ∧
      (∀ (j : Nat) x v σ' H', xs[j]? = some x → Rp.rp m H1 x v → Pv j σ' H' → g v σ' H' fun σ2 H2 => t { En with nx := Pv (j + 1), ct := Pv (j + 1), bk := En.nx } σ2 H2) ∧ ∀ σ' H', Pv xs.length σ' H' → En.nx σ' H') :
    tFor (iList K te) g t En σ H := h H .refl c _ fun xs v H1 gd r z => by
  obtain ⟨a, vs, rfl, n, ha, ps⟩ := rp_lst r
  obtain ⟨Pv, h0, hl, hs, hd⟩ := k xs a vs H1 z gd n ha ps
  refine ⟨a, rfl, ⟨vs, .of ha⟩, for_list (K := K) (a := a) (xs := vs) Pv h0 (fun j σ' H' _ hp => .of (hl j σ' H' hp)) (fun j w σ' H' hj hp => ?_) (fun σ' H' hp => hd σ' H' (by rw [ps.length]; exact hp))⟩
  have hlt : j < xs.length := by rw [ps.length]; exact (List.getElem?_eq_some_iff.mp hj).1
  obtain ⟨y, hy, ry⟩ := paired_at ps (List.getElem?_eq_getElem hlt)
  rw [hj] at hy
  cases hy
  exact hs j _ w σ' H' (List.getElem?_eq_getElem hlt) ry hp
theorem q_forLP {z : TS} {g : TG} {p : List α → Prop} (c : Cc D m H) (h : Ev D m te σ H p)
    (k : ∀ xs a vs H1, p xs → Gd D H H1 → a ∉ m → H1 a = some (.lst vs) → Paired (Rp.rp m H1) xs vs → ∃ Pv : Nat → St → Hp → Prop, Pv 0 σ H1 ∧ (∀ j σ' H', Pv j σ' H' → H' a = some (.lst vs)) ∧
      (∀ (j : Nat) x v σ' H', xs[j]? = some x → Rp.rp m H1 x v → Pv j σ' H' → g v σ' H' fun σ2 H2 => t { En with nx := Pv (j + 1), ct := Pv (j + 1), bk := z En } σ2 H2) ∧ ∀ σ' H', Pv xs.length σ' H' → z En σ' H') :
    tSeq (tFor (iList K te) g t) z En σ H := s_forLP (En := { En with nx := z En }) c h k
/-- a target (a, b): the pair is split -/
theorem g_pair {i j : Nat} {x : α × β} {R : St → Hp → Prop} (r : Rp.rp m H x v) (k : ∀ u w, Rp.rp m H x.1 u → Rp.rp m H x.2 w → R ((σ.set i (some u)).set j (some w)) H) : gTup K 2 (gCons (gName i) (gCons (gName j) gNil)) v σ H R := by
  obtain ⟨a, u, w, rfl, h, r1, r2⟩ := r
  exact ⟨a, _, rfl, .of h, rfl, u, _, rfl, w, _, rfl, rfl, k u w r1 r2⟩
/-- xs.append(e) -/
theorem s_app [Nl α] {xs : List α} {a : Addr} {p : α → Prop} (c : Cc D m H) (o : Own m H a xs) (hv : σ[i]? = some (some (.ref a))) (h : Ev D m te σ H p) (hz : xs.length < 100000)
    (k : ∀ x H1 H2, Gd D H H1 → p x → Own m H2 a (xs ++ [x]) → (∃ vs, H2 = upd H1 a (.lst vs)) → En.nx σ H2) : tDrop (tBM K "list" rAppend (tVar i) (tCons te tNil)) En σ H := by
  obtain ⟨n, vs, ha, ps⟩ := id o
  refine ⟨_, hv, .inl ⟨rfl, _, .inl (.inl ha)⟩, h H .refl c _ fun x v H1 g r z => ?_⟩
  have o1 := o.gd c g
  have ha1 : H1 a = some (.lst vs) := g.gr.keep a _ ha fun q => n (c.sub a q)
  exact ⟨a, vs, v, rfl, rfl, ha1, by rw [← ps.length]; exact Evl.sz_lt hz, k x H1 _ g z (o1.app ha1 r) ⟨_, rfl⟩⟩
/-! the same, more statements behind -/
theorem q_set {z : TS} {p : α → Prop} (c : Cc D m H) (h : Ev D m te σ H p) (k : ∀ x v H1, Gd D H H1 → Rp.rp m H1 x v → p x → z En (σ.set i (some v)) H1) : tSeq (tAsg te (gName i)) z En σ H := s_set (En := { En with nx := z En }) c h k
theorem q_setV {z : TS} {x : α} (c : Cc D m H) (h : EvV D m te σ H x) (k : ∀ v H1, Gd D H H1 → Rp.rp m H1 x v → z En (σ.set i (some v)) H1) : tSeq (tAsg te (gName i)) z En σ H := s_setV (En := { En with nx := z En }) c h k
theorem q_setI {z : TS} {p : Int → Prop} (c : Cc D m H) (h : Ev D m te σ H p) (k : ∀ n H1, Gd D H H1 → p n → z En (σ.set i (some (.int n))) H1) : tSeq (tAsg te (gName i)) z En σ H := s_setI (En := { En with nx := z En }) c h k
theorem q_setIV {z : TS} {n : Int} (c : Cc D m H) (h : EvV D m te σ H n) (k : ∀ H1, Gd D H H1 → z En (σ.set i (some (.int n))) H1) : tSeq (tAsg te (gName i)) z En σ H := s_setIV (En := { En with nx := z En }) c h k
theorem q_setBV {z : TS} {b : Bool} (c : Cc D m H) (h : EvV D m te σ H b) (k : ∀ H1, Gd D H H1 → z En (σ.set i (some (.bl b))) H1) : tSeq (tAsg te (gName i)) z En σ H := s_setBV (En := { En with nx := z En }) c h k
theorem q_setSV {z : TS} {b : Str} (c : Cc D m H) (h : EvV D m te σ H b) (k : ∀ H1, Gd D H H1 → z En (σ.set i (some (.str b))) H1) : tSeq (tAsg te (gName i)) z En σ H := s_setSV (En := { En with nx := z En }) c h k
theorem q_setL {z : TS} {p : List α → Prop} (c : Cc D m H) (h : EvL D m te σ H p) (k : ∀ xs a H1, H a = none → Gd D H H1 → Own m H1 a xs → p xs → z En (σ.set i (some (.ref a))) H1) : tSeq (tAsg te (gName i)) z En σ H := s_setL (En := { En with nx := z En }) c h k
theorem q_setLV {z : TS} {xs : List α} (c : Cc D m H) (h : EvLV D m te σ H xs) (k : ∀ a H1, H a = none → Gd D H H1 → Own m H1 a xs → z En (σ.set i (some (.ref a))) H1) : tSeq (tAsg te (gName i)) z En σ H := s_setLV (En := { En with nx := z En }) c h k
theorem q_drop {z : TS} {p : α → Prop} (c : Cc D m H) (h : Ev D m te σ H p) (k : ∀ x H1, Gd D H H1 → p x → z En σ H1) : tSeq (tDrop te) z En σ H := s_drop (En := { En with nx := z En }) c h k
theorem q_if {z : TS} {p : Bool → Prop} (c : Cc D m H) (h : EvT D m tt σ H p) (h1 : p true → ∀ H1, Gd D H H1 → t { En with nx := z En } σ H1) (h2 : p false → ∀ H1, Gd D H H1 → u { En with nx := z En } σ H1) : tSeq (tIfS tt t u) z En σ H := s_if (En := { En with nx := z En }) c h h1 h2
theorem q_ifV {z : TS} {b : Bool} (c : Cc D m H) (h : EvB D m tt σ H b) (h1 : b = true → ∀ H1, Gd D H H1 → t { En with nx := z En } σ H1) (h2 : b = false → ∀ H1, Gd D H H1 → u { En with nx := z En } σ H1) : tSeq (tIfS tt t u) z En σ H := s_ifV (En := { En with nx := z En }) c h h1 h2
theorem q_forR1 {z : TS} {g : TG} {p : Int → Prop} (c : Cc D m H) (h : Ev D m te σ H p)
    (k : ∀ n H1, Gd D H H1 → p n → (-(2 ^ 62) ≤ n ∧ n < 2 ^ 62) ∧ ∃ Pv : Nat → St → Hp → Prop, Pv 0 σ H1 ∧ (∀ (j : Nat) σ' H', (j : Int) < n → Pv j σ' H' → g (.int (j : Int)) σ' H' fun σ2 H2 => t { En with nx := Pv (j + 1), ct := Pv (j + 1), bk := z En } σ2 H2) ∧ ∀ σ' H', Pv n.toNat σ' H' → z En σ' H') : tSeq (tFor (iRng1 (tCons te tNil)) g t) z En σ H := s_forR1 (En := { En with nx := z En }) c h k
theorem q_forR2 {z : TS} {g : TG} {p q : Int → Prop} (c : Cc D m H) (h : Ev D m ta σ H p) (h' : Ev D m tb σ H q)
    (k : ∀ lo n H1, Gd D H H1 → p lo → q n → (-(2 ^ 62) ≤ lo ∧ lo < 2 ^ 62 ∧ -(2 ^ 62) ≤ n ∧ n < 2 ^ 62) ∧ ∃ Pv : Nat → St → Hp → Prop, Pv 0 σ H1 ∧ (∀ (j : Nat) σ' H', lo + (j : Int) < n → Pv j σ' H' → g (.int (lo + (j : Int))) σ' H' fun σ2 H2 => t { En with nx := Pv (j + 1), ct := Pv (j + 1), bk := z En } σ2 H2) ∧ ∀ σ' H', Pv (n - lo).toNat σ' H' → z En σ' H') : tSeq (tFor (iRng2 (tCons ta (tCons tb tNil))) g t) z En σ H := s_forR2 (En := { En with nx := z En }) c h h' k
theorem q_forL {z : TS} {g : TG} {xs : List α} (c : Cc D m H) (h : EvV D m te σ H xs)
    (k : ∀ a vs H1, Gd D H H1 → a ∉ m → H1 a = some (.lst vs) → Paired (Rp.rp m H1) xs vs → ∃ Pv : Nat → St → Hp → Prop, Pv 0 σ H1 ∧ (∀ j σ' H', Pv j σ' H' → H' a = some (.lst vs)) ∧
      (∀ (j : Nat) x v σ' H', xs[j]? = some x → Rp.rp m H1 x v → Pv j σ' H' → g v σ' H' fun σ2 H2 => t { En with nx := Pv (j + 1), ct := Pv (j + 1), bk := z En } σ2 H2) ∧ ∀ σ' H', Pv xs.length σ' H' → z En σ' H') : tSeq (tFor (iList K te) g t) z En σ H := s_forL (En := { En with nx := z En }) c h k
theorem q_app {z : TS} [Nl α] {xs : List α} {a : Addr} {p : α → Prop} (c : Cc D m H) (o : Own m H a xs) (hv : σ[i]? = some (some (.ref a))) (h : Ev D m te σ H p) (hz : xs.length < 100000)
    (k : ∀ x H1 H2, Gd D H H1 → p x → Own m H2 a (xs ++ [x]) → (∃ vs, H2 = upd H1 a (.lst vs)) → z En σ H2) : tSeq (tDrop (tBM K "list" rAppend (tVar i) (tCons te tNil))) z En σ H := s_app (En := { En with nx := z En }) c o hv h hz k
end

/-! ### comprehensions -/
theorem mut_gd {D : Dst} {m : List Addr} {H H' : Hp} {a : Addr} {o : HO} (g : Gd D H H') (c : Cc D m H) (h : H a = none) : Gd D H (upd H' a o) := by
  refine ⟨g.gr.mut h, fun ok => ?_⟩
  have ok' := g.ok ok
  rcases D with _ | ⟨p, q⟩
  · trivial
  · refine DrawAt.go ok' (fun o e => ?_) (fun o e => ?_)
    · have hp : H p ≠ none := c.dm p (c.sub p (by simp [Dst.m]))
      rw [upd_ne (fun z => hp (by rw [z]; exact h))]; exact e
    · have hp : H q ≠ none := c.dm q (c.sub q (by simp [Dst.m]))
      rw [upd_ne (fun z => hp (by rw [z]; exact h))]; exact e
section
variable {α β : Type} [Rp α] [Rp β] {K : PySem.W.Frag} {D : Dst} {m : List Addr} {σ : St} {H H' : Hp} {ta tb te tl : TE} {tt : TT} {v : V} {g : TG} {ws : List Nat}
/-- one turn of a comprehension: the target, the test, the item -/
def LcT (D : Dst) (m : List Addr) (g : TG) (tt : TT) (te : TE) (ws : List Nat) (σ : St) (v : V) (H : Hp) (pt : Bool → Prop) (py : β → Prop) : Prop :=
  ∃ σ2, (∀ H' R, (∀ a xs, H a = some (.tup xs) → H' a = some (.tup xs)) → R σ2 H' → g v (wipe σ ws) H' R) ∧ wipe σ2 ws = wipe σ ws ∧ EvT D m tt σ2 H pt ∧ (pt true → Ev D m te σ2 H py)
theorem lc_turn [Nl β] {a : Addr} {H1 : Hp} {acc : List β} {pt : Bool → Prop} {py : β → Prop} {P : Hp → Prop} (hT : LcT D m g tt te ws σ v H pt py) (c : Cc D m H1) (gh : Gd D H H1) (o : Own m H1 a acc) (hz : acc.length < 100000)
    (k1 : ∀ y vs H2, Gd D H1 H2 → pt true → py y → Own m (upd H2 a (.lst vs)) a (acc ++ [y]) → P (upd H2 a (.lst vs))) (k2 : ∀ H2, Gd D H1 H2 → pt false → P H2) :
    g v (wipe σ ws) H1 fun σ2 H2 => wipe σ2 ws = wipe σ ws ∧ tt σ2 H2 fun b H3 => if b = true then te σ2 H3 fun y H4 => ∃ acc, H4 a = some (.lst acc) ∧ acc.length < sizeLine ∧ P (upd H4 a (.lst (acc ++ [y]))) else P H3 := by
  obtain ⟨σ2, hg, hw, ht, he⟩ := hT
  refine hg _ _ gh.gr.tup ⟨hw, ht H1 gh c _ fun b H3 g3 z => ?_⟩
  cases b with
  | true =>
    rw [if_pos rfl]
    refine he z H3 (gh.trans g3) (c.go g3) _ fun y w H4 g4 r py => ?_
    have o4 := (o.gd c g3).gd (c.go g3) g4
    obtain ⟨vs, h4, ps, hl⟩ := o4.ex
    exact ⟨vs, h4, by rw [← hl]; exact Evl.sz_lt hz, k1 y _ H4 (g3.trans g4) z py (o4.app h4 r)⟩
  | false =>
    rw [if_neg Bool.false_ne_true]
    exact k2 H3 g3 z
/-- [e for x in xs if t], told by an invariant -/
theorem el_lcL [Nl β] {xs : List α} {p : List β → Prop} (I : Nat → List β → Prop) (h : EvV D m tl σ H xs) (hz : xs.length ≤ 90000) (h0 : I 0 [])
    (hs : ∀ (j : Nat) x v H1 acc, xs[j]? = some x → Gd D H H1 → Cc D m H1 → Rp.rp m H1 x v → I j acc → ∃ pt py, LcT D m g tt te ws σ v H1 pt py ∧ (∀ y, pt true → py y → I (j + 1) (acc ++ [y])) ∧ (pt false → I (j + 1) acc))
    (hd : ∀ acc, I xs.length acc → p acc) : EvL D m (tLc (iList K tl) g tt te ws) σ H p := fun H1 e c Q w => h H1 e c _ fun xs' v H2 e2 r z => by
  cases z
  obtain ⟨a, vs, rfl, n, ha, ps⟩ := rp_lst r
  have c2 := c.go e2
  refine ⟨a, rfl, ⟨vs, .of ha⟩, fun Dl hD => ?_⟩
  have nD : Dl ∉ m := c2.free hD
  refine lc_list (K := K) (a := a) (xs := vs) (fun j H' => ∃ acc, Gd D H2 H' ∧ Own m H' Dl acc ∧ acc.length ≤ j ∧ I j acc) ⟨[], .new hD, .nil nD upd_same, Nat.zero_le _, h0⟩ (fun j H' hj ⟨acc, g', _⟩ => .of (g'.gr.keep a _ ha fun q => n (c2.sub a q))) (fun j u H' hj ⟨acc, g', o, hl, hI⟩ => ?_) (fun H' ⟨acc, g', o, hl, hI⟩ => ?_)
  · have hlt : j < xs.length := by rw [ps.length]; exact (List.getElem?_eq_some_iff.mp hj).1
    obtain ⟨y, hy, ry⟩ := paired_at ps (List.getElem?_eq_getElem hlt)
    rw [hj] at hy
    cases hy
    obtain ⟨pt, py, hT, k1, k2⟩ := hs j _ u H' acc (List.getElem?_eq_getElem hlt) ((e.trans e2).trans g') (c2.go g') (rp_gd ry c2 g') hI
    refine lc_turn hT (c2.go g') .refl o (by omega) (fun y ws H4 g4 z py o4 => ⟨acc ++ [y], mut_gd (g'.trans g4) c2 hD, o4, by simp; omega, k1 y z py⟩) (fun H4 g4 z => ⟨acc, g'.trans g4, o.gd (c2.go g') g4, by omega, k2 z⟩)
  · exact w acc Dl H' (e2.gr.dom Dl hD) (e2.trans g') o (hd acc (by rw [ps.length]; exact hI))
/-- [e for x in range(n) if t] -/
theorem el_lcR1 [Nl β] {q : Int → Prop} {p : List β → Prop} (I : Int → Nat → List β → Prop) (h : Ev D m tl σ H q) (hz : ∀ n, q n → n ≤ 90000 ∧ -(2 ^ 62) ≤ n) (h0 : ∀ n, q n → I n 0 [])
    (hs : ∀ (n : Int) (j : Nat) H1 acc, q n → (j : Int) < n → Gd D H H1 → Cc D m H1 → I n j acc → ∃ pt py, LcT D m g tt te ws σ (.int (j : Int)) H1 pt py ∧ (∀ y, pt true → py y → I n (j + 1) (acc ++ [y])) ∧ (pt false → I n (j + 1) acc))
    (hd : ∀ n acc, q n → I n n.toNat acc → p acc) : EvL D m (tLc (iRng1 (tCons tl tNil)) g tt te ws) σ H p := fun H1 e c Q w => h H1 e c _ fun n v H2 e2 r z => by
  cases rp_int r
  have c2 := c.go e2
  have b := hz n z
  refine ⟨n, rfl, b.2, by omega, fun Dl hD => ?_⟩
  have nD : Dl ∉ m := c2.free hD
  refine lc_range (lo := 0) (n := n.toNat) (fun j H' => ∃ acc, Gd D H2 H' ∧ Own m H' Dl acc ∧ acc.length ≤ j ∧ I n j acc) ⟨[], .new hD, .nil nD upd_same, Nat.zero_le _, h0 n z⟩ (fun j H' hj ⟨acc, g', o, hl, hI⟩ => ?_) (fun H' ⟨acc, g', o, hl, hI⟩ => ?_)
  · obtain ⟨pt, py, hT, k1, k2⟩ := hs n j H' acc z (by omega) ((e.trans e2).trans g') (c2.go g') hI
    rw [Int.zero_add]
    refine lc_turn hT (c2.go g') .refl o (by omega) (fun y ws H4 g4 z py o4 => ⟨acc ++ [y], mut_gd (g'.trans g4) c2 hD, o4, by simp; omega, k1 y z py⟩) (fun H4 g4 z => ⟨acc, g'.trans g4, o.gd (c2.go g') g4, by omega, k2 z⟩)
  · exact w acc Dl H' (e2.gr.dom Dl hD) (e2.trans g') o (hd n acc z hI)
theorem tYes_ok {σ : St} {H : Hp} : EvB D m tYes σ H true := fun H1 _ _ Q w => w true H1 .refl rfl
/-- the target a name -/
theorem lcT_name {i : Nat} {pt : Bool → Prop} {py : β → Prop} (hw : wipe ((wipe σ ws).set i (some v)) ws = wipe σ ws) (ht : EvT D m tt ((wipe σ ws).set i (some v)) H pt) (he : pt true → Ev D m te ((wipe σ ws).set i (some v)) H py) :
    LcT D m (gName i) tt te ws σ v H pt py := ⟨_, fun _ _ _ r => r, hw, ht, he⟩
/-- the target a pair of names -/
theorem lcT_pair {γ δ : Type} [Rp γ] [Rp δ] {i j : Nat} {x : γ × δ} {pt : Bool → Prop} {py : β → Prop} (r : Rp.rp m H x v)
    (k : ∀ u w, Rp.rp m H x.1 u → Rp.rp m H x.2 w → wipe (((wipe σ ws).set i (some u)).set j (some w)) ws = wipe σ ws ∧ EvT D m tt (((wipe σ ws).set i (some u)).set j (some w)) H pt ∧ (pt true → Ev D m te (((wipe σ ws).set i (some u)).set j (some w)) H py)) :
    LcT D m (gTup K 2 (gCons (gName i) (gCons (gName j) gNil))) tt te ws σ v H pt py := by
  obtain ⟨a, u, w, rfl, h, r1, r2⟩ := r
  obtain ⟨h1, h2, h3⟩ := k u w r1 r2
  exact ⟨_, fun H' R t hr => ⟨a, _, rfl, .of (t a _ h), rfl, u, _, rfl, w, _, rfl, rfl, hr⟩, h1, h2, h3⟩
/-- [f(x) for x in xs] -/
theorem el_map [Nl β] {xs : List α} (f : α → β) (h : EvV D m tl σ H xs) (hz : xs.length ≤ 90000) (hs : ∀ x v H1, x ∈ xs → Gd D H H1 → Cc D m H1 → Rp.rp m H1 x v → LcT D m g tYes te ws σ v H1 (fun b => b = true) (fun y => y = f x)) :
    EvLV D m (tLc (iList K tl) g tYes te ws) σ H (xs.map f) :=
  el_lcL (fun j acc => acc = (xs.take j).map f) h hz rfl (fun j x v H1 acc hx g' c' r hI => ⟨_, _, hs x v H1 (List.mem_of_getElem? hx) g' c' r, fun y _ e => by rw [hI, e, List.take_add_one, hx]; simp, fun z => by cases z⟩) (fun acc hI => by rw [hI, List.take_length])
/-- [f(x) for x in xs if p(x)] -/
theorem el_filterMap [Nl β] {xs : List α} (q : α → Bool) (f : α → β) (h : EvV D m tl σ H xs) (hz : xs.length ≤ 90000) (hs : ∀ x v H1, x ∈ xs → Gd D H H1 → Cc D m H1 → Rp.rp m H1 x v → LcT D m g tt te ws σ v H1 (fun b => b = q x) (fun y => y = f x)) :
    EvLV D m (tLc (iList K tl) g tt te ws) σ H ((xs.filter q).map f) :=
  el_lcL (fun j acc => acc = ((xs.take j).filter q).map f) h hz rfl (fun j x v H1 acc hx g' c' r hI => ⟨_, _, hs x v H1 (List.mem_of_getElem? hx) g' c' r, fun y z e => by rw [hI, e, List.take_add_one, hx]; simp [← z], fun z => by rw [hI, List.take_add_one, hx]; simp [← z]⟩) (fun acc hI => by rw [hI, List.take_length])
end

/-! ### arguments; what a def promises -/
class RpA (A : Type) where
  rpa : List Addr → Hp → A → List V → Prop
  go : ∀ {m m' : List Addr} {H H' : Hp} {x : A} {vs : List V}, (∀ a o, H a = some o → a ∉ m → a ∉ m' ∧ H' a = some o) → (∀ a xs, H a = some (.tup xs) → H' a = some (.tup xs)) → rpa m H x vs → rpa m' H' x vs
instance : RpA Unit := ⟨fun _ _ _ vs => vs = [], fun _ _ h => h⟩
instance {α A : Type} [Rp α] [RpA A] : RpA (α × A) := ⟨fun m H x vs => ∃ v r, vs = v :: r ∧ Rp.rp m H x.1 v ∧ RpA.rpa m H x.2 r, fun k t ⟨v, r, e, h1, h2⟩ => ⟨v, r, e, Rp.go k t h1, RpA.go k t h2⟩⟩
section
variable {α β A R : Type} [Rp α] [Rp β] [RpA A] [Rp R] {K : PySem.W.Frag} {D : Dst} {m : List Addr} {σ : St} {H H' : Hp} {te : TE} {ta tr : TA} {v : V} {vs : List V}
theorem rpa_gr {ms : List Addr} {x : A} (h : RpA.rpa m H x vs) (g : Gr ms H H') (s : ∀ a, a ∈ ms → a ∈ m) : RpA.rpa m H' x vs := RpA.go (fun a o e n => ⟨n, g.keep a o e fun z => n (s a z)⟩) (fun a xs e => g.tup a xs e) h
theorem rpa_gd {x : A} (h : RpA.rpa m H x vs) (c : Cc D m H) (g : Gd D H H') : RpA.rpa m H' x vs := rpa_gr h g.gr c.sub
/-- arguments that come to x with p x -/
def EvAr (D : Dst) (m : List Addr) (t : TA) (σ : St) (H : Hp) (p : A → Prop) : Prop :=
  ∀ H1, Gd D H H1 → Cc D m H1 → ∀ Q : List V → Hp → Prop, (∀ x vs H2, Gd D H1 H2 → RpA.rpa m H2 x vs → p x → Q vs H2) → t σ H1 Q
theorem ea_nil : EvAr D m tNil σ H (fun x : Unit => x = ()) := fun H1 _ _ Q w => w () [] H1 .refl rfl rfl
theorem ea_cons {p : α → Prop} {q : A → Prop} {r : α × A → Prop} (h : Ev D m te σ H p) (hr : EvAr D m tr σ H q) (k : ∀ x y, p x → q y → r (x, y)) : EvAr D m (tCons te tr) σ H r := fun H1 e c Q w =>
  h H1 e c _ fun x v H2 e2 rx px => hr H2 (e.trans e2) (c.go e2) _ fun y vs H3 e3 ry qy => w (x, y) (v :: vs) H3 (e2.trans e3) ⟨v, vs, rfl, rp_gd rx (c.go e2) e3, ry⟩ (k x y px qy)
theorem ea_c {x : α} {y : A} (h : EvV D m te σ H x) (hr : EvAr D m tr σ H (fun z => z = y)) : EvAr D m (tCons te tr) σ H (fun z => z = (x, y)) := ea_cons h hr fun _ _ a b => by rw [a, b]
end
/-! the errors -/
structure Er where
  (base badSieve badKey notIn stuck unlike noSieve badText : Addr)
inductive Err where
  | badSieve (why : Str)
  | badKey
  | notIn
  | stuck (cells : List Int)
  | unlike
  | noSieve (paper : List (Tri Int Int (List Int)))
  | badText (row : Int)
/-- how an error lies: its class, its dict -/
def ErrAt (T : Er) (H0 H : Hp) : Err → Value → Option Addr → Prop
  | .badSieve w, c, d => c = .ref T.badSieve ∧ ∃ a, d = some a ∧ H a = some (.xd [("why", .str w)])
  | .badKey, c, d => c = .ref T.badKey ∧ d = none
  | .notIn, c, d => c = .ref T.notIn ∧ d = none
  | .stuck l, c, d => c = .ref T.stuck ∧ ∃ a b, d = some a ∧ H a = some (.xd [("cells", .ref b)]) ∧ ∀ m, (∀ x, x ∈ m → H0 x ≠ none) → Own m H b l
  | .unlike, c, d => c = .ref T.unlike ∧ d = none
  | .noSieve p, c, d => c = .ref T.noSieve ∧ ∃ a v, d = some a ∧ H a = some (.xd [("paper", v)]) ∧ ∀ m, (∀ x, x ∈ m → H0 x ≠ none) → Rp.rp m H p v
  | .badText r, c, d => c = .ref T.badText ∧ ∃ a, d = some a ∧ H a = some (.xd [("row", .int r)])
theorem ErrAt.from {T : Er} {ms : List Addr} {H0 H1 H : Hp} {e : Err} {c : Value} {d : Option Addr} (h : ErrAt T H1 H e c d) (g : Gr ms H0 H1) : ErrAt T H0 H e c d := by
  cases e with
  | stuck l =>
    obtain ⟨h1, a, b, h2, h3, h4⟩ := h
    exact ⟨h1, a, b, h2, h3, fun m hm => h4 m fun x hx q => hm x hx (g.dom x q)⟩
  | noSieve p =>
    obtain ⟨h1, a, b, h2, h3, h4⟩ := h
    exact ⟨h1, a, b, h2, h3, fun m hm => h4 m fun x hx q => hm x hx (g.dom x q)⟩
  | badSieve w => exact h
  | badKey => exact h
  | notIn => exact h
  | unlike => exact h
  | badText r => exact h
section
variable {α β A R : Type} [Rp α] [Rp β] [RpA A] [Rp R] {K : PySem.W.Frag} {D : Dst} {m : List Addr} {σ : St} {H H' : Hp} {te : TE} {ta tr : TA} {v : V} {vs : List V} {T : Er}
/-- nothing changes; the answer is f of the arguments -/
def SpF (pre : A → Prop) (f : A → R) : Sp := fun vs H Q _ => ∃ m x, Cc none m H ∧ RpA.rpa m H x vs ∧ pre x ∧ ∀ v H', Gr [] H H' → Rp.rp m H' (f x) v → Q v H'
/-- .. a new list -/
def SpL (pre : A → Prop) (f : A → List β) : Sp := fun vs H Q _ => ∃ m x, Cc none m H ∧ RpA.rpa m H x vs ∧ pre x ∧ ∀ a H', H a = none → Gr [] H H' → Own m H' a (f x) → Q (.ref a) H'
/-- nothing changes; an answer, or an error -/
def SpX (T : Er) (pre : A → Prop) (f : A → Except Err R) : Sp := fun vs H Q E => ∃ m x, Cc none m H ∧ RpA.rpa m H x vs ∧ pre x ∧ (∀ y, f x = .ok y → ∀ v H', Gr [] H H' → Rp.rp m H' y v → Q v H') ∧
  ∀ e, f x = .error e → ∀ c d H', Gr [] H H' → ErrAt T H H' e c d → E c d H'
def SpXL (T : Er) (pre : A → Prop) (f : A → Except Err (List β)) : Sp := fun vs H Q E => ∃ m x, Cc none m H ∧ RpA.rpa m H x vs ∧ pre x ∧ (∀ y, f x = .ok y → ∀ a H', H a = none → Gr [] H H' → Own m H' a y → Q (.ref a) H') ∧
  ∀ e, f x = .error e → ∀ c d H', Gr [] H H' → ErrAt T H H' e c d → E c d H'
theorem ev_call {pre : A → Prop} {f : A → R} {E : XK} {q : A → Prop} {p : R → Prop} (h : EvAr D m ta σ H q) (hp : ∀ x, q x → pre x ∧ p (f x)) : Ev D m (tCall (SpF pre f) [] E ta) σ H p := fun H1 e c Q w =>
  h H1 e c _ fun x vs H2 e2 rx qx => ⟨m, x, (c.go e2).none, (by rw [List.append_nil]; exact rx), (hp x qx).1, fun v H' g r => w _ v H' (e2.trans (.pure g)) r (hp x qx).2⟩
theorem ev_callV {pre : A → Prop} {f : A → R} {E : XK} {x : A} (h : EvAr D m ta σ H fun y => y = x) (hp : pre x) : EvV D m (tCall (SpF pre f) [] E ta) σ H (f x) := ev_call h fun y e => by rw [e]; exact ⟨hp, rfl⟩
theorem el_call {pre : A → Prop} {f : A → List β} {E : XK} {q : A → Prop} {p : List β → Prop} (h : EvAr D m ta σ H q) (hp : ∀ x, q x → pre x ∧ p (f x)) : EvL D m (tCall (SpL pre f) [] E ta) σ H p := fun H1 e c Q w =>
  h H1 e c _ fun x vs H2 e2 rx qx => ⟨m, x, (c.go e2).none, (by rw [List.append_nil]; exact rx), (hp x qx).1, fun a H' n g r => w _ a H' (e2.gr.dom a n) (e2.trans (.pure g)) r (hp x qx).2⟩
theorem el_callV {pre : A → Prop} {f : A → List β} {E : XK} {x : A} (h : EvAr D m ta σ H fun y => y = x) (hp : pre x) : EvLV D m (tCall (SpL pre f) [] E ta) σ H (f x) := el_call h fun y e => by rw [e]; exact ⟨hp, rfl⟩
/-- te comes to what r tells, or raises it -/
def EvX (T : Er) (D : Dst) (m : List Addr) (te : TE) (σ : St) (H : Hp) (E : XK) (r : Except Err α) : Prop :=
  ∀ H1, Gd D H H1 → Cc D m H1 → ∀ Q : VK, (∀ x, r = .ok x → ∀ v H2, Gd D H1 H2 → Rp.rp m H2 x v → Q v H2) → (∀ e, r = .error e → ∀ c d H2, Gd D H1 H2 → ErrAt T H1 H2 e c d → E c d H2) → te σ H1 Q
def EvXL (T : Er) (D : Dst) (m : List Addr) (te : TE) (σ : St) (H : Hp) (E : XK) (r : Except Err (List α)) : Prop :=
  ∀ H1, Gd D H H1 → Cc D m H1 → ∀ Q : VK, (∀ x, r = .ok x → ∀ a H2, H1 a = none → Gd D H1 H2 → Own m H2 a x → Q (.ref a) H2) → (∀ e, r = .error e → ∀ c d H2, Gd D H1 H2 → ErrAt T H1 H2 e c d → E c d H2) → te σ H1 Q
theorem EvX.ok {E : XK} {r : Except Err α} {x : α} (h : EvX T D m te σ H E r) (e : r = .ok x) : EvV D m te σ H x := fun H1 g c Q w => h H1 g c Q (fun y ey v H2 g2 ry => by rw [e] at ey; cases ey; exact w x v H2 g2 ry rfl) fun y ey => by rw [e] at ey; cases ey
theorem EvXL.ok {E : XK} {r : Except Err (List α)} {x : List α} (h : EvXL T D m te σ H E r) (e : r = .ok x) : EvLV D m te σ H x := fun H1 g c Q w => h H1 g c Q (fun y ey a H2 n g2 ry => by rw [e] at ey; cases ey; exact w x a H2 n g2 ry rfl) fun y ey => by rw [e] at ey; cases ey
theorem ex_call {pre : A → Prop} {f : A → Except Err R} {E : XK} {x : A} (h : EvAr D m ta σ H fun y => y = x) (hp : pre x) : EvX T D m (tCall (SpX T pre f) [] E ta) σ H E (f x) := fun H1 e c Q w1 w2 =>
  h H1 e c _ fun y vs H2 e2 rx qx => by
    cases qx
    exact ⟨m, x, (c.go e2).none, (by rw [List.append_nil]; exact rx), hp, fun y ey v H' g r => w1 y ey v H' (e2.trans (.pure g)) r, fun y ey c d H' g r => w2 y ey c d H' (e2.trans (.pure g)) (r.from e2.gr)⟩
theorem ex_callL {pre : A → Prop} {f : A → Except Err (List β)} {E : XK} {x : A} (h : EvAr D m ta σ H fun y => y = x) (hp : pre x) : EvXL T D m (tCall (SpXL T pre f) [] E ta) σ H E (f x) := fun H1 e c Q w1 w2 =>
  h H1 e c _ fun y vs H2 e2 rx qx => by
    cases qx
    exact ⟨m, x, (c.go e2).none, (by rw [List.append_nil]; exact rx), hp, fun y ey a H' n g r => w1 y ey a H' (e2.gr.dom a n) (e2.trans (.pure g)) r, fun y ey c d H' g r => w2 y ey c d H' (e2.trans (.pure g)) (r.from e2.gr)⟩
/-- the same in a try, where what is wished hangs on the slots -/
theorem ex_callS {pre : A → Prop} {f : A → Except Err R} {E : St → XK} {x : A} (h : EvAr D m ta σ H fun y => y = x) (hp : pre x) : EvX T D m (tCallS (SpX T pre f) E ta) σ H (E σ) (f x) := fun H1 e c Q w1 w2 =>
  h H1 e c _ fun y vs H2 e2 rx qx => by
    cases qx
    exact ⟨m, x, (c.go e2).none, rx, hp, fun y ey v H' g r => w1 y ey v H' (e2.trans (.pure g)) r, fun y ey c d H' g r => w2 y ey c d H' (e2.trans (.pure g)) (r.from e2.gr)⟩
theorem ex_callLS {pre : A → Prop} {f : A → Except Err (List β)} {E : St → XK} {x : A} (h : EvAr D m ta σ H fun y => y = x) (hp : pre x) : EvXL T D m (tCallS (SpXL T pre f) E ta) σ H (E σ) (f x) := fun H1 e c Q w1 w2 =>
  h H1 e c _ fun y vs H2 e2 rx qx => by
    cases qx
    exact ⟨m, x, (c.go e2).none, rx, hp, fun y ey a H' n g r => w1 y ey a H' (e2.gr.dom a n) (e2.trans (.pure g)) r, fun y ey c d H' g r => w2 y ey c d H' (e2.trans (.pure g)) (r.from e2.gr)⟩
theorem EvXL.x {E : XK} {r : Except Err (List α)} (h : EvXL T D m te σ H E r) : EvX T D m te σ H E r := fun H1 g c Q w1 w2 => h H1 g c Q (fun x ex a H2 _ g2 o => w1 x ex _ H2 g2 o.rp) w2
variable {En : Ends} {E : XK} {i : Nat}
theorem s_dropX {r : Except Err α} (c : Cc D m H) (h : EvX T D m te σ H E r) (k1 : ∀ x, r = .ok x → ∀ H1, Gd D H H1 → En.nx σ H1) (k2 : ∀ e, r = .error e → ∀ c d H1, Gd D H H1 → ErrAt T H H1 e c d → E c d H1) : tDrop te En σ H :=
  h H .refl c _ (fun x ex v H1 g _ => k1 x ex H1 g) k2
theorem s_setX {r : Except Err α} (c : Cc D m H) (h : EvX T D m te σ H E r) (k1 : ∀ x, r = .ok x → ∀ v H1, Gd D H H1 → Rp.rp m H1 x v → En.nx (σ.set i (some v)) H1) (k2 : ∀ e, r = .error e → ∀ c d H1, Gd D H H1 → ErrAt T H H1 e c d → E c d H1) : tAsg te (gName i) En σ H :=
  h H .refl c _ (fun x ex v H1 g r => k1 x ex v H1 g r) k2
theorem s_setXL {r : Except Err (List α)} (c : Cc D m H) (h : EvXL T D m te σ H E r) (k1 : ∀ x, r = .ok x → ∀ a H1, H a = none → Gd D H H1 → Own m H1 a x → En.nx (σ.set i (some (.ref a))) H1) (k2 : ∀ e, r = .error e → ∀ c d H1, Gd D H H1 → ErrAt T H H1 e c d → E c d H1) : tAsg te (gName i) En σ H :=
  h H .refl c _ (fun x ex a H1 n g r => k1 x ex a H1 n g r) k2
theorem s_retX {r : Except Err α} (c : Cc D m H) (h : EvX T D m te σ H E r) (k1 : ∀ x, r = .ok x → ∀ v H1, Gd D H H1 → Rp.rp m H1 x v → En.rt v H1) (k2 : ∀ e, r = .error e → ∀ c d H1, Gd D H H1 → ErrAt T H H1 e c d → E c d H1) : tRet te En σ H :=
  h H .refl c _ (fun x ex v H1 g r => k1 x ex v H1 g r) k2
theorem s_retXL {r : Except Err (List α)} (c : Cc D m H) (h : EvXL T D m te σ H E r) (k1 : ∀ x, r = .ok x → ∀ a H1, H a = none → Gd D H H1 → Own m H1 a x → En.rt (.ref a) H1) (k2 : ∀ e, r = .error e → ∀ c d H1, Gd D H H1 → ErrAt T H H1 e c d → E c d H1) : tRet te En σ H :=
  h H .refl c _ (fun x ex a H1 n g r => k1 x ex a H1 n g r) k2
/-! the same, more statements behind -/
theorem q_dropX {z : TS} {r : Except Err α} (c : Cc D m H) (h : EvX T D m te σ H E r) (k1 : ∀ x, r = .ok x → ∀ H1, Gd D H H1 → z En σ H1) (k2 : ∀ e, r = .error e → ∀ c d H1, Gd D H H1 → ErrAt T H H1 e c d → E c d H1) : tSeq (tDrop te) z En σ H := s_dropX (En := { En with nx := z En }) c h k1 k2
theorem q_setX {z : TS} {r : Except Err α} (c : Cc D m H) (h : EvX T D m te σ H E r) (k1 : ∀ x, r = .ok x → ∀ v H1, Gd D H H1 → Rp.rp m H1 x v → z En (σ.set i (some v)) H1) (k2 : ∀ e, r = .error e → ∀ c d H1, Gd D H H1 → ErrAt T H H1 e c d → E c d H1) : tSeq (tAsg te (gName i)) z En σ H := s_setX (En := { En with nx := z En }) c h k1 k2
theorem q_setXL {z : TS} {r : Except Err (List α)} (c : Cc D m H) (h : EvXL T D m te σ H E r) (k1 : ∀ x, r = .ok x → ∀ a H1, H a = none → Gd D H H1 → Own m H1 a x → z En (σ.set i (some (.ref a))) H1) (k2 : ∀ e, r = .error e → ∀ c d H1, Gd D H H1 → ErrAt T H H1 e c d → E c d H1) : tSeq (tAsg te (gName i)) z En σ H := s_setXL (En := { En with nx := z En }) c h k1 k2
end
/-! in the def that may raise: what a callee raises leaves it, too -/
theorem passX {X : Cx} {E : XK} {E₁ : Value → Shared → Prop} (hs : X.stack = X.env :: X.outer) (hf : X.env.frame = some X.env.locals) (hex : X.ex = [])
    (hx : X.xe = fun e s' => wpAny (model X.prog X.w) X.A (leaving X.env e) (fun _ s'' => L2.CX X.prog X.w X.outer X.H_0 X.s_0 E e s'') E₁ s') : Passes (L2.CX X.prog X.w) X E :=
  passes_call (takes_of hs hf hex hx) fun _ _ _ _ h => h
/-- the method of an object called in a try -/
def tMethS (C : Addr) (m : Str) (sp : Sp) (E : St → XK) (ta : TE) (t : TA) : TE := fun σ H Q => ta σ H fun x H1 => ∃ a dx fs, x = .ref a ∧ H1 a = some (.ins C dx fs) ∧ fs.lookup m = none ∧
  t σ H1 fun vs H2 => sp (x :: vs) H2 Q (E σ)
theorem pe_methE {X : Cx} {CX : CXT} {k : Nat} {f C : Addr} {fd : FuncData} {ps : List Str} {sp : Sp} {E : St → XK} {m : Str} {pos apos : Pos} {e o : Expr} {es : List Expr} {ta : TE} {t : TA}
    {pl : Sem Bool} (he : PE X o ta) (c : Cls X.K C) (hm : Meth X.K C m f) (F : FnOk X.prog X.w X.K X.mg X.base CX k f fd ps sp) (hr : Room k X.A) (hb : Binds X.K fd ps []) (hx : ∀ σ, PassesAt CX X σ (E σ)) (ha : PA X (e :: es) t)
    (hst : starEach (e :: es) X.env = (false, eval e X.env) :: starEach es X.env := by rfl) (hpl : (backTo pos (starEach es X.env)).any (·.1) = false := by rfl)
    (ht : eval (.Call (.Attribute o m apos) (e :: es) [] pos) X.env = (do
      let ov ← eval o X.env
      standAt apos.atName
      let (f, first) ← holding [ov] (getMethod ov m pl)
      callWith pos f first (backTo pos (starEach (e :: es) X.env)) (backToKw pos (keywordEach [] X.env))) := by rfl) :
    PE X (.Call (.Attribute o m apos) (e :: es) [] pos) (tMethS C m sp E ta t) := by
  refine ⟨fun pins s σ H Q I h => ?_⟩
  refine PySem.W.methodCall_KW (pl := pl) (thn (he.run pins s σ H _ I h) fun u s1 ⟨x, H1, I1, rx, a, dx, fs, ex, ea, l, q⟩ => ?_) ht
  subst ex
  obtain rfl : u = Value.ref a := rx
  refine getmeth_ok I1 ea c hm l ?_
  refine PySem.W.callWith_K (first := [.ref a]) (h₀ := X.base) I.ok.mod.kin hm.kp (thn (ha.run pos pins s1 σ H1 _ I1 q) fun us s2 ⟨vs, H2, I2, r, q2⟩ => ⟨I2.kIn, ?_⟩) hst hpl
  exact run_fnS (us := .ref a :: us) (vs := .ref a :: vs) F hr hb (hx σ) I2 (.cons rfl r) q2

theorem g_name {i : Nat} {v : V} {σ : St} {H : Hp} {R : St → Hp → Prop} (h : R (σ.set i (some v)) H) : gName i v σ H R := h
/-- raw readings, more statements behind -/
theorem q_rawA {te : TE} {g : TG} {z : TS} {En : Ends} {σ : St} {H : Hp} (h : te σ H fun x H1 => g x σ H1 (z En)) : tSeq (tAsg te g) z En σ H := h
theorem q_rawD {te : TE} {z : TS} {En : Ends} {σ : St} {H : Hp} (h : te σ H fun _ H1 => z En σ H1) : tSeq (tDrop te) z En σ H := h
theorem q_rawIf {c : TT} {t u z : TS} {En : Ends} {σ : St} {H : Hp} (h : c σ H fun b H1 => if b = true then t { En with nx := z En } σ H1 else u { En with nx := z En } σ H1) : tSeq (tIfS c t u) z En σ H := h
theorem q_rawWhen {c : TT} {t z : TS} {En : Ends} {σ : St} {H : Hp} (h : c σ H fun b H1 => if b = true then t { En with nx := z En } σ H1 else z En σ H1) : tSeq (tIfS c t tNext) z En σ H := h
section
variable {D : Dst} {m : List Addr} {σ : St} {H : Hp} {tt : TT} {t z : TS} {En : Ends}
/-- an if without else -/
theorem q_when {p : Bool → Prop} (c : Cc D m H) (h : EvT D m tt σ H p) (h1 : p true → ∀ H1, Gd D H H1 → t { En with nx := z En } σ H1) (h2 : p false → ∀ H1, Gd D H H1 → z En σ H1) : tSeq (tIfS tt t tNext) z En σ H := s_if (En := { En with nx := z En }) c h h1 h2
theorem q_whenV {b : Bool} (c : Cc D m H) (h : EvB D m tt σ H b) (h1 : b = true → ∀ H1, Gd D H H1 → t { En with nx := z En } σ H1) (h2 : b = false → ∀ H1, Gd D H H1 → z En σ H1) : tSeq (tIfS tt t tNext) z En σ H := s_ifV (En := { En with nx := z En }) c h h1 h2
theorem s_when {p : Bool → Prop} (c : Cc D m H) (h : EvT D m tt σ H p) (h1 : p true → ∀ H1, Gd D H H1 → t En σ H1) (h2 : p false → ∀ H1, Gd D H H1 → En.nx σ H1) : tIfS tt t tNext En σ H := s_if c h h1 h2
theorem s_whenV {b : Bool} (c : Cc D m H) (h : EvB D m tt σ H b) (h1 : b = true → ∀ H1, Gd D H H1 → t En σ H1) (h2 : b = false → ∀ H1, Gd D H H1 → En.nx σ H1) : tIfS tt t tNext En σ H := s_ifV c h h1 h2
/-- a test that comes out false: what hangs on it is not asked -/
theorem q_skip {p : Bool → Prop} (c : Cc D m H) (h : EvT D m tt σ H p) (hf : ∀ b, p b → b = false) (h2 : ∀ H1, Gd D H H1 → z En σ H1) : tSeq (tIfS tt t tNext) z En σ H := q_when c h (fun q => by cases hf _ q) fun _ => h2
theorem s_skip {p : Bool → Prop} (c : Cc D m H) (h : EvT D m tt σ H p) (hf : ∀ b, p b → b = false) (h2 : ∀ H1, Gd D H H1 → En.nx σ H1) : tIfS tt t tNext En σ H := s_when c h (fun q => by cases hf _ q) fun _ => h2
end
/-- if t: x = e, x holding something as good already -/
theorem q_ifset {α : Type} [Rp α] {D : Dst} {m : List Addr} {σ : St} {H : Hp} {tt : TT} {te : TE} {z : TS} {En : Ends} {i : Nat} {q : Bool → Prop} {p : α → Prop} (c : Cc D m H) (h : EvT D m tt σ H q) (h1 : q true → Ev D m te σ H p) (h0 : q false → ∃ x v, σ[i]? = some (some v) ∧ Rp.rp m H x v ∧ p x)
    (k : ∀ x v H1, Gd D H H1 → Rp.rp m H1 x v → p x → z En (σ.set i (some v)) H1) : tSeq (tIfS tt (tAsg te (gName i)) tNext) z En σ H :=
  q_when c h (fun z H1 g => s_set (c.go g) ((h1 z).mono g) fun x v H2 g2 r px => k x v H2 (g.trans g2) r px) fun z H1 g => by
    obtain ⟨x, v, e, r, px⟩ := h0 z
    have q := k x v H1 g (rp_gd r c g) px
    have e2 : σ.set i (some v) = σ := by
      apply List.ext_getElem?
      intro j
      rw [List.getElem?_set]
      split
      · rename_i ej
        subst ej
        rw [e]
        have hlt := (List.getElem?_eq_some_iff.mp e).1
        simp [hlt]
      · rfl
    rw [e2] at q
    exact q
/-- try: what is wished of the body's errors hangs on what follows -/
theorem q_try {tb : WX → TS} {W : Ends → WX} {z : TS} {En : Ends} {σ : St} {H : Hp} (h : tb (W { En with nx := z En }) { En with nx := z En } σ H) : tSeq (fun D σ H => tb (W D) D σ H) z En σ H := h
/-- a statement ahead of others -/
theorem sq {t u : TS} {En : Ends} {σ : St} {H : Hp} (h : t { En with nx := u En } σ H) : tSeq t u En σ H := h
/-! ### draws -/
/-- what the law promises -/
def spLaw (K : PySem.W.Frag) : Sp := fun vs H Q _ => ∃ (a : Addr) (ns : List Int), vs = [.ref a] ∧ SqL K H a (ns.map V.int) ∧ ns.length ≤ 63 ∧ ∀ H', Q (.bl true) H'
def spMix (K : PySem.W.Frag) : Sp := fun vs H Q _ => ∃ (a : Addr) (ns : List Int) (seed : Int), vs = [.ref a, .int seed] ∧ SqL K H a (ns.map V.int) ∧ ns.length ≤ 63 ∧
  ∀ p q H', H p = none → H q = none → p ≠ q → Gr [] H H' → DrawAt p q H' → Q (.ref p) H'
/-- a draw: some number below many -/
def spNext : Sp := fun vs H Q _ => ∃ (p q : Addr) (many : Int), vs = [.ref p, .int many] ∧ DrawAt p q H ∧ 0 < many ∧ many < 1073741824 ∧ ∀ n H', 0 ≤ n → n < many → Gr [p, q] H H' → DrawAt p q H' → Q (.int n) H'
/-- drawn data: a value by the draws of p, q and further arguments; m: what else may not be touched by the answer -/
def SpD {A R : Type} [RpA A] [Rp R] (pre : A → Prop) (res : A → R → Prop) : Sp := fun vs H Q _ => ∃ (p q : Addr) (m : List Addr) (x : A) (ws : List V), vs = .ref p :: ws ∧ Cc (some (p, q)) m H ∧ RpA.rpa m H x ws ∧ pre x ∧
  ∀ y v H', Gd (some (p, q)) H H' → Rp.rp m H' y v → res x y → Q v H'
def SpDL {A β : Type} [RpA A] [Rp β] (pre : A → Prop) (res : A → List β → Prop) : Sp := fun vs H Q _ => ∃ (p q : Addr) (m : List Addr) (x : A) (ws : List V), vs = .ref p :: ws ∧ Cc (some (p, q)) m H ∧ RpA.rpa m H x ws ∧ pre x ∧
  ∀ ys a H', H a = none → Gd (some (p, q)) H H' → Own m H' a ys → res x ys → Q (.ref a) H'
section
variable {α β A R : Type} [Rp α] [Rp β] [RpA A] [Rp R] {K : PySem.W.Frag} {m : List Addr} {σ : St} {H H' : Hp} {te : TE} {ta : TA} {p q : Addr} {i : Nat} {E : XK}
theorem gd_of {H H' : Hp} (g : Gr [p, q] H H') (d : DrawAt p q H') : Gd (some (p, q)) H H' := ⟨g, fun _ => d⟩
/-- _law_next(h, many) -/
theorem ev_next {s : Int → Prop} {r : Int → Prop} (hv : σ[i]? = some (some (.ref p))) (h : Ev (some (p, q)) m te σ H s) (hb : ∀ n, s n → 0 < n ∧ n < 1073741824) (k : ∀ n j, s n → 0 ≤ j → j < n → r j) :
    Ev (some (p, q)) m (tCall spNext [] E (tCons (tVar i) (tCons te tNil))) σ H r := fun H1 e c Q w => ⟨_, hv, h H1 e c _ fun n v H2 e2 rn sn => by
  cases rp_int rn
  exact ⟨p, q, n, rfl, (c.go e2).ok, (hb n sn).1, (hb n sn).2, fun j H' h0 h1 g d => w j _ H' (e2.trans (gd_of g d)) rfl (k n j sn h0 h1)⟩⟩
/-- .. a written bound -/
theorem ev_nextC {b : Int} (hv : σ[i]? = some (some (.ref p))) (hb : 0 < b ∧ b < 1073741824) : Ev (some (p, q)) m (tCall spNext [] E (tCons (tVar i) (tCons (tC (.int b)) tNil))) σ H (fun n : Int => 0 ≤ n ∧ n < b) :=
  ev_next hv ev_c (fun n e => by rw [e]; exact hb) fun n j e h0 h1 => ⟨h0, by rw [← e]; exact h1⟩
theorem ev_drawn {pre : A → Prop} {res : A → R → Prop} {s : A → Prop} {r : R → Prop} (hv : σ[i]? = some (some (.ref p))) (h : EvAr (some (p, q)) m ta σ H s) (hp : ∀ x, s x → pre x ∧ ∀ y, res x y → r y) :
    Ev (some (p, q)) m (tCall (SpD pre res) [] E (tCons (tVar i) ta)) σ H r := fun H1 e c Q w => ⟨_, hv, h H1 e c _ fun x vs H2 e2 rx sx => ⟨p, q, m, x, vs ++ [], rfl, c.go e2, (by rw [List.append_nil]; exact rx), (hp x sx).1, fun y v H' g ry z => w y v H' (e2.trans g) ry ((hp x sx).2 y z)⟩⟩
theorem el_drawn {pre : A → Prop} {res : A → List β → Prop} {s : A → Prop} {r : List β → Prop} (hv : σ[i]? = some (some (.ref p))) (h : EvAr (some (p, q)) m ta σ H s) (hp : ∀ x, s x → pre x ∧ ∀ y, res x y → r y) :
    EvL (some (p, q)) m (tCall (SpDL pre res) [] E (tCons (tVar i) ta)) σ H r := fun H1 e c Q w => ⟨_, hv, h H1 e c _ fun x vs H2 e2 rx sx => ⟨p, q, m, x, vs ++ [], rfl, c.go e2, (by rw [List.append_nil]; exact rx), (hp x sx).1, fun y a H' n g ry z => w y a H' (e2.gr.dom a n) (e2.trans g) ry ((hp x sx).2 y z)⟩⟩
theorem Cc.draw (c : Cc (some (p, q)) m H) : DrawAt p q H := c.ok
theorem cc_draw (d : DrawAt p q H) : Cc (some (p, q)) [p, q] H := ⟨fun _ h => h, fun a h => by
  obtain ⟨_, cs, _, h1, h2, _⟩ := d
  rcases List.mem_cons.mp h with z | z
  · rw [z, h1]; simp
  · rw [List.mem_singleton.mp z, h2]; simp, d⟩
end

/-! ### rules within a comprehension: the written part by its name -/
section
variable {X : Cx} {K : PySem.W.Frag} {e : Expr} {ta : TE} {f : Str} {pos : Pos}
theorem pe_fldK (he : PE X e ta) (hb : attributeBase e f X.env (eval e X.env) = eval e X.env) (hk : X.K = K := by rfl) : PE X (.Attribute e f pos) (tFld K ta f) := hk ▸ pe_fld he hb
theorem pi_listK {tg l : Expr} {tl : TE} (hl : PE X l tl) (hk : X.K = K := by rfl) : PI X tg l (iList K tl) := hk ▸ pi_list hl
theorem pi_tupK {tg l : Expr} {tl : TE} (hl : PE X l tl) (hk : X.K = K := by rfl) : PI X tg l (iTup K tl) := hk ▸ pi_tup hl
variable {o : Expr} {es : List Expr} {to : TE} {t : TA} {name : Str} {apos cpos : Pos} {T id : String} {r : V → List V → Hp → VK → Prop}
theorem pe_bm0K (pa : PySem.PlainAttrs T) (slot : PySem.Slot T name id) (hty : typeOf (.builtin id) = pure (.type "method_descriptor")) (hm : MtR X id r) (ho : PE X o to)
    (hbase : attributeBase o name X.env (eval o X.env) = eval o X.env := by rfl) (hline : (apos.endLine == cpos.line) = true := by rfl) (hk : X.K = K := by rfl) : PE X (.Call (.Attribute o name apos) [] [] cpos) (tBM0 K T r to) := hk ▸ pe_bm0 pa slot hty hm ho hbase hline
end

/-! ### the top's facts -/
section
variable {K : PySem.W.Frag} {h : Heap} {mg : Str → Option Value} {x qual : Str} {st : Stmt} {f c : Addr} {oc kV dc pm cd ct : Value} {od an : Option Addr} {sl : Array (Option Value)}
theorem clsX (X : K.In h) (G : h.Ns mainGlobals mg) (a : PySem.W.nsIn K mainGlobals x = some (some (.ref c))) : ∃ c, PySem.W.nsIn K mainGlobals x = some (some (.ref c)) ∧ mg x = some (.ref c) := ⟨c, a, PySem.W.mg_of X G a⟩
theorem fnX (X : K.In h) (G : h.Ns mainGlobals mg) (a : PySem.W.nsIn K mainGlobals x = some (some (.ref f))) (l : K.lookup f = some ⟨oc, od, .func (PySem.W.fnOf x x (defArgs st) (defBody st) (defScope st) .none kV dc pm an cd ct), sl⟩)
    (hc : PySem.W.codeIn K cd x = true) (k : PySem.W.keepIn K (.ref f) = true) : ∃ f d, mg x = some (.ref f) ∧ Fun K x x st f d := ⟨f, _, PySem.W.mg_of X G a, fun_mk (st := st) l hc k⟩
theorem meX {C : Addr} (a : PySem.W.findIn K (.ref C) x = some (some (.ref f))) (i : PySem.W.isFn K (.ref f) = true) (l : K.lookup f = some ⟨oc, od, .func (PySem.W.fnOf x qual (defArgs st) (defBody st) (defScope st) .none kV dc pm an cd ct), sl⟩)
    (hc : PySem.W.codeIn K cd qual = true) (k : PySem.W.keepIn K (.ref f) = true) : ∃ f d, Meth K C x f ∧ Fun K x qual st f d := ⟨f, _, ⟨a, i, k⟩, fun_mk (st := st) l hc k⟩
theorem intX {i : Int} {t : Tok} (X : K.In h) (G : h.Ns mainGlobals mg) (a : PySem.W.nsIn K mainGlobals x = some (some (.int i t))) : ∃ t, mg x = some (.int i t) := ⟨t, PySem.W.mg_of X G a⟩
theorem strX {i : Str} {t : Tok} (X : K.In h) (G : h.Ns mainGlobals mg) (a : PySem.W.nsIn K mainGlobals x = some (some (.str i t))) : ∃ t, mg x = some (.str i t) := ⟨t, PySem.W.mg_of X G a⟩
end
/-- the law's one parameter is bound -/
theorem law_binds {K : PySem.W.Frag} {x qual : Str} {st : Stmt} {f : Addr} {fd : FuncData} {p : Str} (F : Fun K x qual st f fd)
    (h : ∀ (kV doc pm : Value) (an : Option Addr) (cdv ct : Value) (u : Value), bindArgs (PySem.W.fnOf x qual (defArgs st) (defBody st) (defScope st) .none kV doc pm an cdv ct) ⟨[u], []⟩ = pure [(p, u)]) (s : Shared) (u : Value) : BindsTo s fd ⟨[u], []⟩ [(p, u)] := by
  obtain ⟨oc, od, kV, doc, pm, an, cdv, ct, osl, rfl, lk, hcd⟩ := F.ex
  exact .of_eq (h kV doc pm an cdv ct u)

/-! ### data as a whole: == of any depth -/
class Dat (α : Type) [Rp α] where
  dat : α → PyData
  okd : α → Prop
  dep : Nat
  dp : ∀ {K : PySem.W.Frag} {m : List Addr} {H : Hp} {x : α} {v : V}, Rp.rp m H x v → Dp K H v (dat x)
  can : ∀ x : α, okd x → (dat x).canLay0 = true
  depth : ∀ x : α, (dat x).depth ≤ dep
  eq : ∀ x y : α, PyData.eqv (dat x) (dat y) = true ↔ x = y
instance : Dat Int := ⟨fun i => .int i, fun _ => True, 0, fun {K m H x v} r => by cases rp_int r; exact .int x, fun _ _ => by simp only [PyData.canLay0], fun _ => by simp [PyData.depth], fun x y => by simp [PyData.eqv]⟩
instance : Dat Bool := ⟨fun i => .bool i, fun _ => True, 0, fun {K m H x v} r => by cases rp_bool r; exact .bl x, fun _ _ => by simp only [PyData.canLay0], fun _ => by simp [PyData.depth], fun x y => by simp [PyData.eqv]⟩
instance : Dat Str := ⟨fun i => .str i, fun i => PyData.strOk i = true, 0, fun {K m H x v} r => by cases rp_str r; exact .str x, fun _ h => by simp only [PyData.canLay0]; exact h, fun _ => by simp [PyData.depth], fun x y => by simp [PyData.eqv]⟩
section
variable {α β γ : Type} [Rp α] [Rp β] [Rp γ] [Dat α] [Dat β] [Dat γ] {K : PySem.W.Frag} {m : List Addr} {H : Hp}
theorem dpAll_of {xs : List α} {vs : List V} (h : Paired (Rp.rp m H) xs vs) : DpAll K H vs (xs.map Dat.dat) := by
  induction h with
  | nil => exact .nil
  | cons r _ ih => exact .cons (Dat.dp r) ih
theorem canAll {xs : List α} (h : ∀ x, x ∈ xs → Dat.okd x) : PyData.canLayAll0 (xs.map Dat.dat) = true := by
  induction xs with
  | nil => simp [PyData.canLayAll0]
  | cons x xs ih =>
    rw [List.map_cons, PyData.canLayAll0, Dat.can x (h x (by simp)), ih fun y hy => h y (by simp [hy])]
    rfl
theorem depAll (xs : List α) : PyData.depthAll (xs.map Dat.dat) ≤ Dat.dep α := by
  induction xs with
  | nil => simp [PyData.depthAll]
  | cons x xs ih =>
    rw [List.map_cons, PyData.depthAll]
    exact Nat.max_le.mpr ⟨Dat.depth x, ih⟩
theorem eqAll : ∀ xs ys : List α, PyData.eqvAll (xs.map Dat.dat) (ys.map Dat.dat) = true ↔ xs = ys
  | [], [] => by simp [PyData.eqvAll]
  | [], y :: ys => by simp [PyData.eqvAll]
  | x :: xs, [] => by simp [PyData.eqvAll]
  | x :: xs, y :: ys => by rw [List.map_cons, List.map_cons, PyData.eqvAll, Bool.and_eq_true, Dat.eq, eqAll xs ys]; simp
instance : Dat (List α) := ⟨fun xs => .list (xs.map Dat.dat), fun xs => ∀ x, x ∈ xs → Dat.okd x, Dat.dep α + 1, fun ⟨a, vs, e, n, h, ps⟩ => by rw [e]; exact .lst (.of h) (dpAll_of ps), fun xs h => by rw [PyData.canLay0]; exact canAll h, fun xs => by
  rw [PyData.depth]; have := depAll xs; omega, fun xs ys => by rw [PyData.eqv]; exact eqAll xs ys⟩
instance : Dat (Tp α) := ⟨fun xs => .tuple (xs.l.map Dat.dat), fun xs => ∀ x, x ∈ xs.l → Dat.okd x, Dat.dep α + 1, fun ⟨a, vs, e, h, ps⟩ => by rw [e]; exact .tup (.of h) (dpAll_of ps), fun xs h => by rw [PyData.canLay0]; exact canAll h, fun xs => by
  rw [PyData.depth]; have := depAll xs.l; omega, fun xs ys => by rw [PyData.eqv, eqAll xs.l ys.l]; cases xs; cases ys; simp⟩
instance : Dat (α × β) := ⟨fun x => .tuple [Dat.dat x.1, Dat.dat x.2], fun x => Dat.okd x.1 ∧ Dat.okd x.2, max (Dat.dep α) (Dat.dep β) + 1, fun ⟨a, u, w, e, h, r1, r2⟩ => by rw [e]; exact .tup (.of h) (.cons (Dat.dp r1) (.cons (Dat.dp r2) .nil)), fun x h => by
  rw [PyData.canLay0, PyData.canLayAll0, PyData.canLayAll0, PyData.canLayAll0, Dat.can _ h.1, Dat.can _ h.2]; rfl, fun x => by
  rw [PyData.depth, PyData.depthAll, PyData.depthAll, PyData.depthAll]; have h1 := Dat.depth x.1; have h2 := Dat.depth x.2; omega, fun x y => by
  rw [PyData.eqv, PyData.eqvAll, PyData.eqvAll, PyData.eqvAll, Bool.and_true, Bool.and_eq_true, Dat.eq, Dat.eq]; cases x; cases y; simp⟩
instance : Dat (Tri α β γ) := ⟨fun x => .tuple [Dat.dat x.a, Dat.dat x.b, Dat.dat x.c], fun x => Dat.okd x.a ∧ Dat.okd x.b ∧ Dat.okd x.c, max (Dat.dep α) (max (Dat.dep β) (Dat.dep γ)) + 1, fun ⟨a, u, w, z, e, h, r1, r2, r3⟩ => by rw [e]; exact .tup (.of h) (.cons (Dat.dp r1) (.cons (Dat.dp r2) (.cons (Dat.dp r3) .nil))), fun x h => by
  rw [PyData.canLay0, PyData.canLayAll0, PyData.canLayAll0, PyData.canLayAll0, PyData.canLayAll0, Dat.can _ h.1, Dat.can _ h.2.1, Dat.can _ h.2.2]; rfl, fun x => by
  rw [PyData.depth, PyData.depthAll, PyData.depthAll, PyData.depthAll, PyData.depthAll]; have h1 := Dat.depth x.a; have h2 := Dat.depth x.b; have h3 := Dat.depth x.c; omega, fun x y => by
  rw [PyData.eqv, PyData.eqvAll, PyData.eqvAll, PyData.eqvAll, PyData.eqvAll, Bool.and_true, Bool.and_eq_true, Bool.and_eq_true, Dat.eq, Dat.eq, Dat.eq]; cases x; cases y; simp⟩
theorem eqv_dec [DecidableEq α] (x y : α) : PyData.eqv (Dat.dat x) (Dat.dat y) = decide (x = y) := by
  by_cases h : x = y
  · rw [decide_eq_true h]; exact (Dat.eq x y).mpr h
  · rw [decide_eq_false h]; exact Bool.eq_false_iff.mpr fun z => h ((Dat.eq x y).mp z)
theorem shaped_of {x : α} (h : Dat.okd x) (hd : Dat.dep α ≤ 64) : SeqAt.shaped (Dat.dat x) = true := Bool.and_eq_true_iff.mpr ⟨Dat.can x h, decide_eq_true (Nat.le_trans (Dat.depth x) hd)⟩
variable {D : Dst} {σ : St} {ta tb : TE}
theorem ev_eqD [DecidableEq α] {p q : α → Prop} {r : Bool → Prop} (ha : Ev D m ta σ H p) (hb : Ev D m tb σ H q) (ok : ∀ x y, p x → q y → Dat.okd x ∧ Dat.okd y) (k : ∀ x y, p x → q y → r (decide (x = y))) (hd : Dat.dep α ≤ 64 := by decide) : Ev D m (tOp (rEqD K) ta tb) σ H r := fun H1 e c Q w =>
  ha H1 e c _ fun x v H2 e2 rx px => hb H2 (e.trans e2) (c.go e2) _ fun y u H3 e3 ry qy => ⟨_, _, Dat.dp (rp_gd rx (c.go e2) e3), Dat.dp ry, shaped_of (ok x y px qy).1 hd, shaped_of (ok x y px qy).2 hd, w _ _ H3 (e2.trans e3) (show V.bl _ = V.bl _ by rw [eqv_dec]) (k x y px qy)⟩
theorem ev_neD [DecidableEq α] {p q : α → Prop} {r : Bool → Prop} (ha : Ev D m ta σ H p) (hb : Ev D m tb σ H q) (ok : ∀ x y, p x → q y → Dat.okd x ∧ Dat.okd y) (k : ∀ x y, p x → q y → r (!decide (x = y))) (hd : Dat.dep α ≤ 64 := by decide) : Ev D m (tOp (rNeD K) ta tb) σ H r := fun H1 e c Q w =>
  ha H1 e c _ fun x v H2 e2 rx px => hb H2 (e.trans e2) (c.go e2) _ fun y u H3 e3 ry qy => ⟨_, _, Dat.dp (rp_gd rx (c.go e2) e3), Dat.dp ry, shaped_of (ok x y px qy).1 hd, shaped_of (ok x y px qy).2 hd, w _ _ H3 (e2.trans e3) (show V.bl _ = V.bl _ by rw [eqv_dec]) (k x y px qy)⟩
theorem ev_eqDV [DecidableEq α] {x y : α} (ha : EvV D m ta σ H x) (hb : EvV D m tb σ H y) (o1 : Dat.okd x) (o2 : Dat.okd y) (hd : Dat.dep α ≤ 64 := by decide) : EvV D m (tOp (rEqD K) ta tb) σ H (decide (x = y)) :=
  ev_eqD ha hb (fun _ _ a b => by rw [a, b]; exact ⟨o1, o2⟩) (fun _ _ a b => by rw [a, b]) hd
theorem ev_neDV [DecidableEq α] {x y : α} (ha : EvV D m ta σ H x) (hb : EvV D m tb σ H y) (o1 : Dat.okd x) (o2 : Dat.okd y) (hd : Dat.dep α ≤ 64 := by decide) : EvV D m (tOp (rNeD K) ta tb) σ H (!decide (x = y)) :=
  ev_neD ha hb (fun _ _ a b => by rw [a, b]; exact ⟨o1, o2⟩) (fun _ _ a b => by rw [a, b]) hd
end
theorem ok_ints (xs : List Int) : Dat.okd xs := fun _ _ => trivial
theorem ok_hands (xs : List (Int × Int)) : Dat.okd xs := fun _ _ => ⟨trivial, trivial⟩
/-- [] as any list -/
theorem el_nil {α : Type} [Rp α] {D : Dst} {m : List Addr} {σ : St} {H : Hp} : EvLV D m (tLst tNil) σ H ([] : List α) := el_lst ei_nil fun xs e => by rw [e]; simp

/-! ### isinstance -/
section
variable {D : Dst} {m : List Addr} {σ : St} {H : Hp} {ta : TE} {K : PySem.W.Frag} {n : String} {b : Bool}
theorem ev_isT {α : Type} [Rp α] {t : String} {p : α → Prop} (ha : Ev D m ta σ H p) (ty : ∀ x v H', Rp.rp m H' x v → p x → TyX K H' v (.type t)) (h : kitB t n = some b) : EvV D m (tCB (rIsi K) (tCons ta (tCons (tC (.ty n)) tNil))) σ H b := fun H1 e c Q w =>
  ha H1 e c _ fun x v H2 e2 r px => ⟨v, _, _, _, b, rfl, .ty n, ty x v H2 r px, kit_ty h, w b _ H2 e2 rfl rfl⟩
theorem ty_list {α : Type} [Rp α] {m : List Addr} {H : Hp} {x : List α} {v : V} (r : Rp.rp m H x v) : TyX K H v (.type "list") := by
  obtain ⟨a, vs, rfl, n, h, _⟩ := r
  exact .base (.lst h)
theorem ty_int {m : List Addr} {H : Hp} {x : Int} {v : V} (r : Rp.rp m H x v) : TyX K H v (.type "int") := by cases rp_int r; exact .base (.int x)
theorem ty_bool {m : List Addr} {H : Hp} {x : Bool} {v : V} (r : Rp.rp m H x v) : TyX K H v (.type "bool") := by cases rp_bool r; exact .base (.bl x)
theorem ty_str {m : List Addr} {H : Hp} {x : Str} {v : V} (r : Rp.rp m H x v) : TyX K H v (.type "str") := by cases rp_str r; exact .base (.str x)
theorem ty_tp {α : Type} [Rp α] {m : List Addr} {H : Hp} {x : Tp α} {v : V} (r : Rp.rp m H x v) : TyX K H v (.type "tuple") := by
  obtain ⟨a, vs, rfl, h, _⟩ := r
  exact .base (.tup h)
theorem ty_pair {α β : Type} [Rp α] [Rp β] {m : List Addr} {H : Hp} {x : α × β} {v : V} (r : Rp.rp m H x v) : TyX K H v (.type "tuple") := by
  obtain ⟨a, u, w, rfl, h, _⟩ := r
  exact .base (.tup h)
theorem ev_isL {α : Type} [Rp α] {x : List α} (ha : EvV D m ta σ H x) (h : kitB "list" n = some b := by decide +kernel) : EvV D m (tCB (rIsi K) (tCons ta (tCons (tC (.ty n)) tNil))) σ H b := ev_isT ha (fun _ _ _ r _ => ty_list r) h
theorem ev_isI {p : Int → Prop} (ha : Ev D m ta σ H p) (h : kitB "int" n = some b := by decide +kernel) : EvV D m (tCB (rIsi K) (tCons ta (tCons (tC (.ty n)) tNil))) σ H b := ev_isT ha (fun _ _ _ r _ => ty_int r) h
theorem ev_isB {p : Bool → Prop} (ha : Ev D m ta σ H p) (h : kitB "bool" n = some b := by decide +kernel) : EvV D m (tCB (rIsi K) (tCons ta (tCons (tC (.ty n)) tNil))) σ H b := ev_isT ha (fun _ _ _ r _ => ty_bool r) h
end

/-- xs + ys -/
theorem el_catP {α : Type} [Rp α] {D : Dst} {m : List Addr} {σ : St} {H : Hp} {ta tb : TE} {p q r : List α → Prop} (ha : Ev D m ta σ H p) (hb : Ev D m tb σ H q) (hl : ∀ xs ys, p xs → q ys → xs.length ≤ 100000 ∧ ys.length ≤ 100000) (k : ∀ xs ys, p xs → q ys → r (xs ++ ys)) : EvL D m (tOp rCat ta tb) σ H r :=
  rCat_ok (fun a b us ws H Q h1 h2 l1 l2 k => ⟨a, b, us, ws, rfl, rfl, h1, h2, Nat.le_trans (Nat.add_le_add l1 l2) (by decide), k⟩) ha hb hl k
theorem el_catV {α : Type} [Rp α] {D : Dst} {m : List Addr} {σ : St} {H : Hp} {ta tb : TE} {xs ys : List α} (ha : EvV D m ta σ H xs) (hb : EvV D m tb σ H ys) (hl : xs.length ≤ 100000 ∧ ys.length ≤ 100000) : EvLV D m (tOp rCat ta tb) σ H (xs ++ ys) :=
  el_catP ha hb (fun _ _ a b => by rw [a, b]; exact hl) fun _ _ a b => by rw [a, b]

/-! ### isinstance of a caught error -/
/-- the dict of a caught error is told by H -/
def DcOk (H : Hp) : Option Addr → Prop
  | none => True
  | some d => ∃ fs, H d = some (.xd fs)
def rIsX (K : PySem.W.Frag) (cls : Value) (d : Option Addr) (a : Addr) : List V → Hp → VK → Prop := fun xs H Q => ∃ (D : Addr) (c : V) (cv : Value) (b : Bool), cls = .ref D ∧ ExcC K D ∧ DcOk H d ∧ xs = [.ref a, c] ∧ ClsV c cv ∧ PySem.W.kitOne K (.ref D) cv = some b ∧ Q (.bl b) H
def rIsXT (K : PySem.W.Frag) (cls : Value) (d : Option Addr) (a : Addr) : List V → Hp → VK → Prop := fun xs H Q => ∃ (D tp : Addr) (cs : List V) (us : List Value) (b : Bool), cls = .ref D ∧ ExcC K D ∧ DcOk H d ∧ xs = [.ref a, .ref tp] ∧ H tp = some (.tup cs) ∧ Paired ClsV cs us ∧ PySem.W.kitAny K (.ref D) us = some b ∧ Q (.bl b) H
section
variable {X : Cx} {a : Addr} {oe : Obj} {cls : Value} {d : Option Addr} {pn : List (Addr × Obj)}
theorem exc_at {pins : List (Addr × Obj)} {σ : St} {H : Hp} {s : Shared} (hz : Zc cls d oe) (hf : ∃ vs, oe.data = .fields vs) (I : Inv (X.suite a ((a, oe) :: pn)) pins σ H s) {D : Addr} (e : cls = .ref D) (hd : DcOk H d) :
    ∃ od, PySem.W.InstAt s.heap a oe D od := by
  obtain ⟨ha, _⟩ := I.pin (a, oe) (List.mem_append_left _ List.mem_cons_self)
  obtain ⟨vs, hv⟩ := hf
  subst e
  cases d with
  | none => exact ⟨none, ha, hz.1, by unfold PySem.W.notCls; rw [hv] <;> rfl, by rw [hz.2]; trivial⟩
  | some dd =>
    obtain ⟨fs, h⟩ := hd
    have hx : ObjOk X.prog X.w H s.heap dd (.xd fs) := I.hok dd _ h
    obtain ⟨mA, hns, hr⟩ := hx
    obtain ⟨od, ho, hl⟩ := lookIn_ns hns
    exact ⟨some od, ha, hz.1, by unfold PySem.W.notCls; rw [hv] <;> rfl, by rw [hz.2]; exact ho⟩
theorem kitX_of {D : Addr} {K : PySem.W.Frag} {od : Option Obj} (C : ExcC K D) : PySem.W.KitX K (.ref a) (.ref D) (fun h => PySem.W.InstAt h a oe D od) :=
  PySem.W.kitx_exc (by obtain ⟨cd, hc, _⟩ := PySem.W.any_some C.hd; rw [hc]; rfl) C.hg C.hk C.hs C.ha C.hn C.ht C.hm
theorem call_isX (hz : Zc cls d oe) (hf : ∃ vs, oe.data = .fields vs) : CallR (X.suite a ((a, oe) :: pn)) (.builtin "isinstance") (rIsX X.K cls d a) := by
  intro pins s σ H xs us Q I r h
  obtain ⟨D, c, cv, b, ec, C, hd, rfl, hcv, e, q⟩ := h
  obtain ⟨u1, u2, rfl, r1, r2⟩ := vals2 r
  cases (show u1 = Value.ref a from r1)
  cases hcv.eq r2
  obtain ⟨od, J⟩ := exc_at hz hf I ec hd
  exact PySem.W.kia_one (kitX_of C) I.kIn J e (fun z => nomatch z) fun tk => ⟨.bl b, H, I.kept (t' := tk) fun _ _ z => z, rfl, q⟩
theorem call_isXT (hz : Zc cls d oe) (hf : ∃ vs, oe.data = .fields vs) : CallR (X.suite a ((a, oe) :: pn)) (.builtin "isinstance") (rIsXT X.K cls d a) := by
  intro pins s σ H xs us Q I r h
  obtain ⟨D, tp, cs, ws, b, ec, C, hd, rfl, hT, k, e, q⟩ := h
  obtain ⟨u1, u2, rfl, r1, r2⟩ := vals2 r
  cases (show u1 = Value.ref a from r1)
  cases (show u2 = Value.ref tp from r2)
  obtain ⟨od, J⟩ := exc_at hz hf I ec hd
  obtain ⟨_, its, rv, o, h1, h2, n, h3⟩ := (show ObjOk X.prog X.w H s.heap tp (.tup cs) from I.hok tp _ hT)
  have e3 := ClsV.all k rv
  subst e3
  obtain ⟨oc, od', dt, sl⟩ := o
  simp only at h2 h3
  subst h2 h3
  exact PySem.W.kia_tup (kitX_of C) I.kIn J h1 e (fun z => nomatch z) fun tk => ⟨.bl b, H, I.kept (t' := tk) fun _ _ z => z, rfl, q⟩
end
section
variable {D : Dst} {m : List Addr} {σ : St} {H : Hp} {K : PySem.W.Frag} {cls : Value} {d : Option Addr} {a C : Addr} {i : Nat} {b : Bool}
/-- isinstance(e, c) in the suite -/
theorem ev_isX {c : V} {cv : Value} (hv : σ[i]? = some (some (.ref a))) (ec : cls = .ref C) (X : ExcC K C) (hd : DcOk H d) (nd : ∀ x, d = some x → x ∉ D.m) (hc : ClsV c cv) (e : PySem.W.kitOne K (.ref C) cv = some b) : EvV D m (tCB (rIsX K cls d a) (tCons (tVar i) (tCons (tC c) tNil))) σ H b := fun H1 g cc Q w =>
  ⟨_, hv, C, c, cv, b, ec, X, (by
    cases d with
    | none => trivial
    | some x => obtain ⟨fs, h⟩ := hd; exact ⟨fs, g.gr.keep x _ h (nd x rfl)⟩), rfl, hc, e, w b _ H1 .refl rfl rfl⟩
theorem ev_isXT {cs : List V} {us : List Value} {ta : TA} (hta : ∀ (H : Hp) (Q : List V → Hp → Prop), Q cs H → ta σ H Q) (hv : σ[i]? = some (some (.ref a))) (ec : cls = .ref C) (X : ExcC K C) (hd : DcOk H d) (nd : ∀ x, d = some x → x ∉ D.m) (hl : cs.length ≤ 100) (hc : Paired ClsV cs us) (e : PySem.W.kitAny K (.ref C) us = some b) :
    EvV D m (tCB (rIsXT K cls d a) (tCons (tVar i) (tCons (tTup ta) tNil))) σ H b := fun H1 g cc Q w =>
  ⟨_, hv, hta H1 _ ⟨Evl.sz_of (Nat.le_trans hl (by decide)), fun tp hp => ⟨C, tp, cs, us, b, ec, X, (by
    cases d with
    | none => trivial
    | some x => obtain ⟨fs, h⟩ := hd; exact ⟨fs, (Gr.new (m := []) hp).at0 (g.gr.keep x _ h (nd x rfl))⟩), rfl, upd_same, hc, e, w b _ _ (.new hp) rfl rfl⟩⟩⟩
theorem kany_f {t c : Value} {cs : List Value} (h : PySem.W.kitOne K t c = some false) (r : PySem.W.kitAny K t cs = some b) : PySem.W.kitAny K t (c :: cs) = some b := kitAny_cons h (fun _ => r) fun z => by cases z
theorem kany_t {t c : Value} {cs : List Value} (h : PySem.W.kitOne K t c = some true) : PySem.W.kitAny K t (c :: cs) = some true := kitAny_cons h (fun z => by cases z) fun _ => rfl
end

section
variable {X : Cx} {K : PySem.W.Frag} {o e : Expr} {es : List Expr} {to : TE} {t : TA} {name : Str} {apos cpos : Pos} {T id : String} {r : V → List V → Hp → VK → Prop}
theorem pe_bmK (pa : PySem.PlainAttrs T) (slot : PySem.Slot T name id) (hty : typeOf (.builtin id) = pure (.type "method_descriptor")) (hm : MtR X id r) (ho : PE X o to) (ha : PA X (e :: es) t)
    (hbase : attributeBase o name X.env (eval o X.env) = eval o X.env := by rfl)
    (hfew : ((backTo cpos (starEach (e :: es) X.env)).all (fun x => !x.1) && (backToKw cpos (keywordEach [] X.env)).all (fun x => x.1.isSome)
      && decide ((e :: es).length + ([] : List Keyword).length + (if ([] : List Keyword).isEmpty then 0 else 1) < 30)) = true := by rfl)
    (hline : (apos.endLine == cpos.line) = true := by rfl) (hs : starEach (e :: es) X.env = (false, eval e X.env) :: starEach es X.env := by rfl) (hplain : (backTo cpos (starEach es X.env)).any (·.1) = false := by rfl) (hk : X.K = K := by rfl) :
    PE X (.Call (.Attribute o name apos) (e :: es) [] cpos) (tBM K T r to t) := hk ▸ pe_bm pa slot hty hm ho ha hbase hfew hline hs hplain
end

/-! ### more rules -/
section
variable {α β : Type} [Rp α] [Rp β] {K : PySem.W.Frag} {D : Dst} {m m' : List Addr} {σ : St} {H H' : Hp} {ta tb te : TE} {tt : TT} {v : V} {En : Ends} {i : Nat} {t u z : TS} {a p : Addr}
/-- an if whose both ways come to what is asked ahead of what follows -/
theorem q_ifJ {pb : Bool → Prop} (J : St → Hp → Prop) (c : Cc D m H) (h : EvT D m tt σ H pb) (hz : ∀ σ1 H1, J σ1 H1 → z En σ1 H1) (h1 : (∀ σ1 H1, J σ1 H1 → z En σ1 H1) → pb true → ∀ H1, Gd D H H1 → t { En with nx := z En } σ H1) (h2 : (∀ σ1 H1, J σ1 H1 → z En σ1 H1) → pb false → ∀ H1, Gd D H H1 → u { En with nx := z En } σ H1) :
    tSeq (tIfS tt t u) z En σ H := q_if c h (h1 hz) (h2 hz)
theorem Own.more [Nl α] {xs : List α} (o : Own m H a xs) (hp : H p = none) : Own (p :: m) H a xs := by
  obtain ⟨n, vs, h, q⟩ := o
  refine ⟨?_, vs, h, paired_go q fun _ _ r => rp_nl r fun _ _ e => e⟩
  intro z
  rcases List.mem_cons.mp z with z | z
  · rw [z, hp] at h; cases h
  · exact n z
theorem Own.less [Nl α] {xs : List α} (o : Own m H a xs) (h : ∀ x, x ∈ m' → x ∈ m) : Own m' H a xs := by
  obtain ⟨n, vs, e, q⟩ := o
  exact ⟨fun z => n (h a z), vs, e, paired_go q fun _ _ r => rp_nl r fun _ _ e => e⟩
theorem Own.ne_new {xs : List α} (o : Own m H a xs) (hp : H p = none) : a ≠ p := by
  obtain ⟨vs, h, _⟩ := o.ex
  exact ne_of_none h hp
theorem Cc.goM (c : Cc D m H) (g : Gr m H H') (ok : D.ok H') : Cc D m H' := ⟨c.sub, fun a h z => c.dm a h (g.dom a z), ok⟩
/-- a list that is new stands apart from all that was there -/
theorem Own.mem_more [Nl α] {xs : List α} (o : Own m H' a xs) (hp : H a = none) (h : ∀ b, b ∈ m' → H b ≠ none) : Own m' H' a xs := by
  obtain ⟨n, vs, e, q⟩ := o
  exact ⟨fun z => h a z hp, vs, e, paired_go q fun _ _ r => rp_nl r fun _ _ e => e⟩
/-- x is not True -/
theorem ev_notB {x y : Bool} (ha : EvV D m ta σ H x) (hb : EvV D m tb σ H y) : EvV D m (tOp rNotB ta tb) σ H (!decide (x = y)) := fun H1 e c Q w =>
  ha H1 e c _ fun x' v H2 e2 ri pi => hb H2 (e.trans e2) (c.go e2) _ fun y' u H3 e3 rj qj => by
    subst pi qj
    cases rp_bool ri
    cases rp_bool rj
    exact ⟨x', y', rfl, rfl, w _ _ H3 (e2.trans e3) rfl rfl⟩
theorem ev_isB' {x y : Bool} (ha : EvV D m ta σ H x) (hb : EvV D m tb σ H y) : EvV D m (tOp rIsB ta tb) σ H (decide (x = y)) := fun H1 e c Q w =>
  ha H1 e c _ fun x' v H2 e2 ri pi => hb H2 (e.trans e2) (c.go e2) _ fun y' u H3 e3 rj qj => by
    subst pi qj
    cases rp_bool ri
    cases rp_bool rj
    exact ⟨x', y', rfl, rfl, w _ _ H3 (e2.trans e3) rfl rfl⟩
/-- x is None, is not None -/
theorem ev_isN (hv : σ[i]? = some (some v)) : EvV D m (tOp (fun x y H Q => y = .non ∧ Q (.bl (decide (x = .non))) H) (tVar i) (tC .non)) σ H (decide (v = .non)) := fun H1 e c Q w => ⟨_, hv, rfl, w _ _ H1 .refl rfl rfl⟩
theorem ev_notN (hv : σ[i]? = some (some v)) : EvV D m (tOp (fun x y H Q => y = .non ∧ Q (.bl (!decide (x = .non))) H) (tVar i) (tC .non)) σ H (!decide (v = .non)) := fun H1 e c Q w => ⟨_, hv, rfl, w _ _ H1 .refl rfl rfl⟩
theorem ev_isN0 (hv : σ[i]? = some (some .non)) : EvV D m (tOp (fun x y H Q => y = .non ∧ Q (.bl (decide (x = .non))) H) (tVar i) (tC .non)) σ H true := (ev_isN hv).imp fun b e => by rw [e]; rfl
theorem ev_isN1 (hv : σ[i]? = some (some (.ref a))) : EvV D m (tOp (fun x y H Q => y = .non ∧ Q (.bl (decide (x = .non))) H) (tVar i) (tC .non)) σ H false := (ev_isN hv).imp fun b e => by rw [e]; rfl
theorem ev_notN0 (hv : σ[i]? = some (some .non)) : EvV D m (tOp (fun x y H Q => y = .non ∧ Q (.bl (!decide (x = .non))) H) (tVar i) (tC .non)) σ H false := (ev_notN hv).imp fun b e => by rw [e]; rfl
theorem ev_notN1 (hv : σ[i]? = some (some (.ref a))) : EvV D m (tOp (fun x y H Q => y = .non ∧ Q (.bl (!decide (x = .non))) H) (tVar i) (tC .non)) σ H true := (ev_notN hv).imp fun b e => by rw [e]; rfl
/-- None == [..] -/
theorem ev_eqNL [Dat α] {xs : List α} (hv : σ[i]? = some (some .non)) (hb : EvV D m tb σ H xs) (ok : Dat.okd xs) (hd : Dat.dep (List α) ≤ 64 := by decide) : EvV D m (tOp (rEqD K) (tVar i) tb) σ H false := fun H1 e c Q w => ⟨_, hv, hb H1 e c _ fun xs' u H2 e2 r q => by
  subst q
  exact ⟨.none, _, .non, Dat.dp r, rfl, shaped_of ok hd, w false _ H2 e2 rfl rfl⟩⟩
/-- e.append(x), e a new list -/
theorem s_appL [Nl α] {xs : List α} {x : α} (c : Cc D m H) (h : EvLV D m te σ H xs) (hb : EvV D m tb σ H x) (hz : xs.length < 100000) (k : ∀ H2, Gd D H H2 → En.nx σ H2) : tDrop (tBM K "list" rAppend te (tCons tb tNil)) En σ H := h H .refl c _ fun ys a H1 n g o e => by
  subst e
  obtain ⟨_, vs, ha, ps⟩ := id o
  refine ⟨.inl ⟨rfl, _, .inl (.inl ha)⟩, hb H1 g (c.go g) _ fun x v H2 g2 r z => ?_⟩
  have h2 : H2 a = some (.lst vs) := g2.gr.keep a _ ha fun q => o.1 (c.sub a q)
  exact ⟨a, vs, v, rfl, rfl, h2, by rw [← ps.length]; exact Evl.sz_lt hz, k _ (mut_gd (g.trans g2) c n)⟩
theorem q_appL [Nl α] {xs : List α} {x : α} (c : Cc D m H) (h : EvLV D m te σ H xs) (hb : EvV D m tb σ H x) (hz : xs.length < 100000) (k : ∀ H2, Gd D H H2 → z En σ H2) : tSeq (tDrop (tBM K "list" rAppend te (tCons tb tNil))) z En σ H := s_appL (En := { En with nx := z En }) c h hb hz k
/-- xs.clear() -/
theorem q_clear {xs : List α} (o : Own m H a xs) (hv : σ[i]? = some (some (.ref a))) (k : z En σ (upd H a (.lst []))) : tSeq (tDrop (tBM0 K "list" rClear (tVar i))) z En σ H := by
  obtain ⟨n, vs, ha, ps⟩ := o
  exact ⟨_, hv, .inl ⟨rfl, _, .inl (.inl ha)⟩, a, vs, rfl, rfl, ha, k⟩
theorem first_at {l : List Int} {k : Int} (h : k ∈ l) : ∃ n, l[n]? = some k ∧ ∀ m : Nat, m < n → l[m]? ≠ some k := by
  induction l with
  | nil => simp at h
  | cons a r ih =>
    by_cases e : a = k
    · exact ⟨0, by simp [e], fun m h => by omega⟩
    · have hr : k ∈ r := by
        rcases List.mem_cons.mp h with z | z
        · exact absurd z.symm e
        · exact z
      obtain ⟨n, h1, h2⟩ := ih hr
      refine ⟨n + 1, by simpa using h1, fun m hm => ?_⟩
      cases m with
      | zero => simpa using e
      | succ m => simpa using h2 m (by omega)
end
/-! ### [a, b, ..][i], each item well -/
section
variable {K : PySem.W.Frag} {D : Dst} {m : List Addr} {σ : St} {H : Hp} {ta te : TE} {ti tr : TA} {P : Int → Prop} {n : Nat}
def AllN (n : Nat) (P : Int → Prop) (xs : List Int) : Prop := xs.length = n ∧ ∀ x, x ∈ xs → P x
theorem ei_all0 : EvI D m tNil σ H (AllN 0 P) := fun H1 _ _ Q w => w [] [] H1 .refl .nil ⟨rfl, by simp⟩
theorem ei_allS (h : Ev D m ta σ H P) (hr : EvI D m tr σ H (AllN n P)) : EvI D m (tCons ta tr) σ H (AllN (n + 1) P) := ei_cons h hr fun x xs hx hxs => ⟨by rw [List.length_cons, hxs.1], fun y hy => by
  rcases List.mem_cons.mp hy with z | z
  · rw [z]; exact hx
  · exact hxs.2 y z⟩
theorem ev_pick {q : Int → Prop} (h : EvI D m ti σ H (AllN n P)) (hi : Ev D m te σ H q) (hq : ∀ i, q i → 0 ≤ i ∧ i < (n : Int)) (hn : n ≤ 1000 := by decide) : Ev D m (tOp (rIxL K) (tLst ti) te) σ H P :=
  ev_ixL' (EvL.ev (el_lst h fun xs e => by rw [e.1]; omega)) hi fun xs i hxs hi' => by
    obtain ⟨b0, b1⟩ := hq i hi'
    have hlt : i.toNat < xs.length := by rw [hxs.1]; omega
    have e := atI_nat (List.getElem?_eq_getElem hlt)
    rw [show ((i.toNat : Nat) : Int) = i by omega] at e
    exact ⟨_, e, hxs.2 _ (List.getElem_mem hlt)⟩
theorem ev_cP {i : Int} (h : P i) : Ev D m (tC (.int i)) σ H P := ev_c.imp fun j e => by rw [e]; exact h
end
end KS
set_option Elab.async false
set_option linter.all false
set_option maxRecDepth 100000
set_option maxHeartbeats 4000000
namespace KS
open PySem L2
/-! ### errors with a field of their own -/
/-- what an own error's __init__ does: self.f = v -/
def spErrI (C : Addr) (f : Str) : Sp := fun vs H Q _ => ∃ (a : Addr) (v : V), vs = [.ref a, v] ∧ H a = some (exo a C none) ∧ ∀ dx, H dx = none → dx ≠ a → Q .non (upd (upd H dx (exd dx [(f, v)])) a (exo a C (some dx)))
theorem mk_err {α : Type} [Rp α] {D : Dst} {m : List Addr} {C : Addr} {f : Str} {te : TE} {σ : St} {H : Hp} {Q : XK} {p : α → Prop} (c : Cc D m H) (h : Ev D m te σ H p)
    (k : ∀ x v H1, Gd D H H1 → Rp.rp m H1 x v → p x → ∀ d, H1 d = none → Q (.ref C) (some d) (upd H1 d (.xd [(f, v)]))) : tMkO C (spErrI C f) [] (tCons te tNil) σ H Q := h H .refl c _ fun x v H1 g r px => by
  refine ⟨(by show 1 ≤ 1000; decide), fun a ha => ⟨a, v, rfl, upd_same, fun dx hd hne => ⟨rfl, dx, [(f, v)], upd_same, by rw [upd_ne hne]; exact upd_same, by rw [upd_ne hne] at hd; exact hd, ?_⟩⟩⟩
  rw [upd_ne hne] at hd
  have e : upd (del (upd (upd (upd H1 a (exo a C none)) dx (exd dx [(f, v)])) a (exo a C (some dx))) a) dx (.xd [(f, v)]) = upd H1 dx (.xd [(f, v)]) := by
    funext b
    by_cases hb : b = dx
    · rw [hb, upd_same, upd_same]
    · rw [upd_ne hb, upd_ne hb]
      by_cases hba : b = a
      · rw [hba, del_same, ha]
      · rw [del_ne hba, upd_ne hba, upd_ne hb, upd_ne hba]
  rw [e]
  exact k x v H1 g r px dx hd

theorem mk_errV {C : Addr} {f : Str} {i : Nat} {v : V} {σ : St} {H : Hp} {Q : XK} (hv : σ[i]? = some (some v)) (k : ∀ d, H d = none → Q (.ref C) (some d) (upd H d (.xd [(f, v)]))) : tMkO C (spErrI C f) [] (tCons (tVar i) tNil) σ H Q := by
  refine ⟨v, hv, (by show 1 ≤ 1000; decide), fun a ha => ⟨a, v, rfl, upd_same, fun dx hd hne => ⟨rfl, dx, [(f, v)], upd_same, by rw [upd_ne hne]; exact upd_same, by rw [upd_ne hne] at hd; exact hd, ?_⟩⟩⟩
  rw [upd_ne hne] at hd
  have e : upd (del (upd (upd (upd H a (exo a C none)) dx (exd dx [(f, v)])) a (exo a C (some dx))) a) dx (.xd [(f, v)]) = upd H dx (.xd [(f, v)]) := by
    funext b
    by_cases hb : b = dx
    · rw [hb, upd_same, upd_same]
    · rw [upd_ne hb, upd_ne hb]
      by_cases hba : b = a
      · rw [hba, del_same, ha]
      · rw [del_ne hba, upd_ne hba, upd_ne hb, upd_ne hba]
  rw [e]
  exact k dx hd

/-- from the left, item by item -/
theorem snoc_ind {α : Type} {P : List α → Prop} (nil : P []) (snoc : ∀ l a, P l → P (l ++ [a])) (l : List α) : P l := by
  have h : ∀ r : List α, P r.reverse := by
    intro r
    induction r with
    | nil => exact nil
    | cons a r ih => rw [List.reverse_cons]; exact snoc _ _ ih
  have q := h l.reverse
  rw [List.reverse_reverse] at q
  exact q

/-! ### dicts of whole numbers -/
/-- a dict from numbers to numbers, in its order -/
structure Dc where
  l : List (Int × Int)
def dK (l : List (Int × Int)) : List (Key × V) := l.map fun kv => (Sum.inl kv.1, V.int kv.2)
instance : Rp Dc := ⟨fun m H x v => ∃ a, v = .ref a ∧ a ∉ m ∧ H a = some (.dK (dK x.l)), fun k _ ⟨a, e, n, h⟩ => ⟨a, e, (k a _ h n).1, (k a _ h n).2⟩⟩
def look (l : List (Int × Int)) (k : Int) : Option Int := (l.find? fun kv => decide (kv.1 = k)).map (·.2)
def put (l : List (Int × Int)) (k v : Int) : List (Int × Int) := if (l.any fun kv => decide (kv.1 = k)) = true then l.map (fun kv => if kv.1 = k then (kv.1, v) else kv) else l ++ [(k, v)]
theorem val_dK (l : List (Int × Int)) (k : Int) : valV (dK l) (Sum.inl k) = (look l k).map V.int := by
  induction l with
  | nil => rfl
  | cons p r ih =>
    by_cases e : p.1 = k
    · have e1 : valV (dK (p :: r)) (Sum.inl k) = some (V.int p.2) := valV_pos (congrArg Sum.inl e)
      have e2 : look (p :: r) k = some p.2 := by unfold look; rw [List.find?_cons, decide_eq_true e]; rfl
      rw [e1, e2]; rfl
    · have e1 : valV (dK (p :: r)) (Sum.inl k) = valV (dK r) (Sum.inl k) := valV_neg fun z => e (Sum.inl.inj z)
      have e2 : look (p :: r) k = look r k := by unfold look; rw [List.find?_cons, decide_eq_false e]
      rw [e1, e2, ih]
theorem any_dK (l : List (Int × Int)) (k : Int) : ((dK l).any fun kv => decide (kv.1 = (Sum.inl k : Key))) = l.any fun kv => decide (kv.1 = k) := by
  unfold dK
  rw [List.any_map]
  congr 1
  funext kv
  show decide ((Sum.inl kv.1 : Key) = Sum.inl k) = decide (kv.1 = k)
  by_cases e : kv.1 = k
  · rw [decide_eq_true e, decide_eq_true (congrArg Sum.inl e)]
  · rw [decide_eq_false e, decide_eq_false fun z => e (Sum.inl.inj z)]
theorem put_dK (l : List (Int × Int)) (k v : Int) : putK (dK l) (Sum.inl k) (.int v) = dK (put l k v) := by
  unfold putK put
  rw [any_dK]
  by_cases h : (l.any fun kv => decide (kv.1 = k)) = true
  · rw [if_pos h, if_pos h]
    unfold dK
    rw [List.map_map, List.map_map]
    refine List.map_congr_left fun kv _ => ?_
    show (if (Sum.inl kv.1 : Key) = Sum.inl k then ((Sum.inl kv.1 : Key), V.int v) else (Sum.inl kv.1, V.int kv.2)) = (Sum.inl (if kv.1 = k then (kv.1, v) else kv).1, V.int (if kv.1 = k then (kv.1, v) else kv).2)
    by_cases e : kv.1 = k
    · rw [if_pos e, if_pos (congrArg Sum.inl e)]
    · rw [if_neg e, if_neg fun z => e (Sum.inl.inj z)]
  · rw [if_neg h, if_neg h]
    unfold dK
    rw [List.map_append]
    rfl
theorem look_put (l : List (Int × Int)) (k j v : Int) : look (put l k v) j = if j = k then some v else look l j := by
  have h := valV_put (dK l) (Sum.inl k) (Sum.inl j) (V.int v)
  rw [put_dK, val_dK, val_dK] at h
  by_cases e : j = k
  · rw [if_pos (congrArg Sum.inl e)] at h
    rw [if_pos e]
    cases q : look (put l k v) j with
    | none => rw [q] at h; cases h
    | some y => rw [q] at h; simpa using h
  · rw [if_neg fun z => e (Sum.inl.inj z)] at h
    rw [if_neg e]
    cases q : look (put l k v) j with
    | none =>
      rw [q] at h
      cases q2 : look l j with
      | none => rfl
      | some z => rw [q2] at h; cases h
    | some y =>
      rw [q] at h
      cases q2 : look l j with
      | none => rw [q2] at h; cases h
      | some z => rw [q2] at h; simpa using h
theorem put_len (l : List (Int × Int)) (k v : Int) : (put l k v).length ≤ l.length + 1 := by
  unfold put
  split <;> simp
/-- how often each is met, in the order of the first times -/
def tally (cs : List Int) : List (Int × Int) := cs.foldl (fun d c => put d c ((look d c).getD 0 + 1)) []
theorem tally_snoc (cs : List Int) (c : Int) : tally (cs ++ [c]) = put (tally cs) c ((look (tally cs) c).getD 0 + 1) := by
  unfold tally
  rw [List.foldl_append]
  rfl
theorem tally_len (cs : List Int) : (tally cs).length ≤ cs.length := by
  induction cs using snoc_ind with
  | nil => decide
  | snoc cs c ih =>
    rw [tally_snoc, List.length_append]
    exact Nat.le_trans (put_len _ _ _) (Nat.add_le_add_right ih 1)
theorem look_tally (cs : List Int) (c : Int) : look (tally cs) c = if c ∈ cs then some (cs.count c : Int) else none := by
  induction cs using snoc_ind with
  | nil => simp [tally, look]
  | snoc cs d ih =>
    rw [tally_snoc, look_put]
    by_cases e : c = d
    · subst e
      have hm : c ∈ cs ++ [c] := List.mem_append_right _ List.mem_cons_self
      have h1 : List.count c [c] = 1 := by simp
      rw [if_pos rfl, ih, if_pos hm, List.count_append, h1]
      by_cases h : c ∈ cs
      · rw [if_pos h]; simp
      · rw [if_neg h, List.count_eq_zero.mpr h]; simp
    · rw [if_neg e, ih, List.count_append]
      have h1 : (c ∈ cs ++ [d]) ↔ c ∈ cs := by simp [e]
      have h2 : List.count c [d] = 0 := List.count_eq_zero.mpr (by simp [e])
      rw [h2]
      by_cases h : c ∈ cs
      · rw [if_pos h, if_pos (h1.mpr h)]; simp
      · rw [if_neg h, if_neg fun z => h (h1.mp z)]
theorem put_keys (l : List (Int × Int)) (k v : Int) : (put l k v).map (·.1) = if k ∈ l.map (·.1) then l.map (·.1) else l.map (·.1) ++ [k] := by
  unfold put
  have e : ((l.any fun kv => decide (kv.1 = k)) = true) ↔ k ∈ l.map (·.1) := by
    rw [List.any_eq_true]
    constructor
    · rintro ⟨kv, h1, h2⟩
      exact List.mem_map.mpr ⟨kv, h1, of_decide_eq_true h2⟩
    · intro h
      obtain ⟨kv, h1, h2⟩ := List.mem_map.mp h
      exact ⟨kv, h1, decide_eq_true h2⟩
  by_cases h : k ∈ l.map (·.1)
  · rw [if_pos (e.mpr h), if_pos h, List.map_map]
    refine List.map_congr_left fun kv _ => ?_
    show (if kv.1 = k then (kv.1, v) else kv).1 = kv.1
    split <;> rfl
  · rw [if_neg (fun z => h (e.mp z)), if_neg h, List.map_append]
    rfl
theorem tally_keys_nodup (cs : List Int) : ((tally cs).map (·.1)).Nodup := by
  induction cs using snoc_ind with
  | nil => simp [tally]
  | snoc cs c ih =>
    rw [tally_snoc, put_keys]
    split
    · exact ih
    · rename_i h
      rw [List.nodup_append]
      refine ⟨ih, by simp, ?_⟩
      intro a ha b hb e
      rw [List.mem_singleton.mp hb] at e
      exact h (e ▸ ha)
theorem tally_mem (cs : List Int) (c n : Int) : (c, n) ∈ tally cs ↔ c ∈ cs ∧ n = (cs.count c : Int) := by
  have hn := tally_keys_nodup cs
  have key : ∀ (l : List (Int × Int)), (l.map (·.1)).Nodup → ((c, n) ∈ l ↔ look l c = some n) := by
    intro l
    induction l with
    | nil => intro _; simp [look]
    | cons p r ih =>
      intro h
      rw [List.map_cons, List.nodup_cons] at h
      by_cases e : p.1 = c
      · have e2 : look (p :: r) c = some p.2 := by unfold look; rw [List.find?_cons, decide_eq_true e]; rfl
        rw [e2, List.mem_cons]
        constructor
        · rintro (z | z)
          · rw [← z]
          · exact absurd (List.mem_map.mpr ⟨_, z, rfl⟩) (e ▸ h.1)
        · intro z
          left
          rw [← e, ← Option.some.inj z]
      · have e2 : look (p :: r) c = look r c := by unfold look; rw [List.find?_cons, decide_eq_false e]
        rw [e2, ← ih h.2, List.mem_cons]
        constructor
        · rintro (z | z)
          · rw [← z] at e; exact absurd rfl e
          · exact z
        · exact Or.inr
  rw [key _ hn, look_tally]
  constructor
  · intro h
    by_cases hc : c ∈ cs
    · rw [if_pos hc] at h; exact ⟨hc, (Option.some.inj h).symm⟩
    · rw [if_neg hc] at h; cases h
  · rintro ⟨hc, rfl⟩
    rw [if_pos hc]

/-! ### any walk, in a comprehension and in a loop -/
theorem lc_gen {J : It} {n : Nat} {g : TG} {tt : TT} {te : TE} {vs : List Nat} {σ : St} {H1 : Hp} {D : Addr} {Qd : Hp → Prop} (Pv : Nat → Hp → Prop) (h0 : Pv 0 (upd H1 D (.lst []))) (hst : ∀ H, Pv n H → J.stop n H) (hgo : ∀ i H, i < n → Pv i H → J.go i H)
    (hs : ∀ i x H H', i < n → Pv i H → J.yld i H x H' → g x (wipe σ vs) H' fun σ2 H2 => wipe σ2 vs = wipe σ vs ∧ tt σ2 H2 fun b H3 =>
      if b = true then te σ2 H3 fun y H4 => ∃ acc, H4 D = some (.lst acc) ∧ acc.length < sizeLine ∧ Pv (i + 1) (upd H4 D (.lst (acc ++ [y]))) else Pv (i + 1) H3) (hd : ∀ H, Pv n H → Qd H) :
    ∃ W : Nat → Nat → Hp → Prop, (∃ m, W 0 m (upd H1 D (.lst []))) ∧ ∀ i m H, W i m H →
      (J.stop i H ∧ Qd H) ∨ (J.go i H ∧ ∃ Nx : Hp → Prop, (∀ H', Nx H' → ∃ m', m' < m ∧ W (i + 1) m' H') ∧ ∀ x H', J.yld i H x H' → g x (wipe σ vs) H' fun σ2 H2 => wipe σ2 vs = wipe σ vs ∧ tt σ2 H2 fun b H3 =>
        if b = true then te σ2 H3 fun y H4 => ∃ acc, H4 D = some (.lst acc) ∧ acc.length < sizeLine ∧ Nx (upd H4 D (.lst (acc ++ [y]))) else Nx H3) := by
  refine ⟨fun i k H => k = n - i ∧ i ≤ n ∧ Pv i H, ⟨n, by simp, Nat.zero_le _, h0⟩, ?_⟩
  rintro i k H ⟨rfl, hi, p⟩
  by_cases hlt : i < n
  · exact .inr ⟨hgo i H hlt p, Pv (i + 1), fun H' p' => ⟨n - (i + 1), by omega, rfl, hlt, p'⟩, fun x H' y => hs i x H H' hlt p y⟩
  · have e : i = n := by omega
    subst e
    exact .inl ⟨hst H p, hd H p⟩
theorem for_gen {J : It} {n : Nat} {g : TG} {tb : TS} {D : Ends} {σ : St} {H : Hp} (Pv : Nat → St → Hp → Prop) (h0 : Pv 0 σ H) (hst : ∀ σ H, Pv n σ H → J.stop n H) (hgo : ∀ i σ H, i < n → Pv i σ H → J.go i H)
    (hs : ∀ i x σ H H', i < n → Pv i σ H → J.yld i H x H' → g x σ H' fun σ2 H2 => tb { D with nx := Pv (i + 1), ct := Pv (i + 1), bk := D.nx } σ2 H2) (hd : ∀ σ H, Pv n σ H → D.nx σ H) :
    ∃ W : Nat → Nat → St → Hp → Prop, (∃ m, W 0 m σ H) ∧ ∀ i m σ H, W i m σ H →
      (J.stop i H ∧ D.nx σ H) ∨ (J.go i H ∧ ∃ N : St → Hp → Prop, (∀ σ' H', N σ' H' → ∃ m', m' < m ∧ W (i + 1) m' σ' H') ∧ ∀ x H', J.yld i H x H' → g x σ H' fun σ2 H2 => tb { D with nx := N, ct := N, bk := D.nx } σ2 H2) := by
  refine ⟨fun i k σ H => k = n - i ∧ i ≤ n ∧ Pv i σ H, ⟨n, by simp, Nat.zero_le _, h0⟩, ?_⟩
  rintro i k σ H ⟨rfl, hi, p⟩
  by_cases hlt : i < n
  · exact .inr ⟨hgo i σ H hlt p, Pv (i + 1), fun σ' H' p' => ⟨n - (i + 1), by omega, rfl, hlt, p'⟩, fun x H' y => hs i x σ H H' hlt p y⟩
  · have e : i = n := by omega
    subst e
    exact .inl ⟨hst σ H p, hd σ H p⟩

/-! ### a dict of numbers: read, written, walked -/
section
variable {D : Dst} {m : List Addr} {σ : St} {H H' : Hp} {td ty tx : TE} {d : Addr} {l : List (Int × Int)} {i : Nat}
/-- the dict at d; what changes it is told elsewhere -/
structure DAt (m : List Addr) (H : Hp) (d : Addr) (l : List (Int × Int)) : Prop where
  nm : d ∉ m
  at_ : H d = some (.dK (dK l))
theorem DAt.rp (h : DAt m H d l) : Rp.rp m H (Dc.mk l) (.ref d) := ⟨d, rfl, h.nm, h.at_⟩
theorem DAt.gd (h : DAt m H d l) (c : Cc D m H) (g : Gd D H H') : DAt m H' d l := ⟨h.nm, g.gr.keep d _ h.at_ fun z => h.nm (c.sub d z)⟩
/-- d.get(k, x) -/
theorem ev_dget2 {k v : Int} (hv : σ[i]? = some (some (.ref d))) (hd : H d = some (.dK (dK l))) (nd : d ∉ D.m) (hk : EvV D m ty σ H k) (hx : EvV D m tx σ H v) : EvV D m (tDGet2 (tVar i) ty tx) σ H ((look l k).getD v) := fun H1 g c Q w => by
  have h1 := g.gr.keep d _ hd nd
  refine ⟨_, hv, d, rfl, .inl ⟨_, .inl h1⟩, hk H1 g c _ fun k' u H2 g2 rk ek => hx H2 (g.trans g2) (c.go g2) _ fun v' u' H3 g3 rx ex => ?_⟩
  subst ek ex
  cases rp_int rk
  cases rp_int rx
  have h3 := g3.gr.keep d _ (g2.gr.keep d _ h1 nd) nd
  refine ⟨_, DGet.k (k := Sum.inl _) h3, ?_⟩
  rw [val_dK]
  refine w _ _ H3 (g2.trans g3) ?_ rfl
  cases look l k' <;> rfl
/-- d[k], there; d perhaps locked by a walk -/
theorem ev_dget {k v : Int} (hv : σ[i]? = some (some (.ref d))) (hd : Rd H d (.dK (dK l))) (nd : d ∉ D.m) (hk : EvV D m ty σ H k) (hl : look l k = some v) : EvV D m (tDGet (tVar i) ty) σ H v := fun H1 g c Q w => by
  refine ⟨_, hv, hk H1 g c _ fun k' u H2 g2 rk ek => ?_⟩
  subst ek
  cases rp_int rk
  have h2 : Rd H2 d (.dK (dK l)) := by
    rcases hd with h | ⟨o, h⟩
    · exact .inl (g2.gr.keep d _ (g.gr.keep d _ h nd) nd)
    · exact .inr ⟨o, g2.gr.keep d _ (g.gr.keep d _ h nd) nd⟩
  exact ⟨d, .int v, rfl, .inl ⟨_, Sum.inl k', h2, rfl, by rw [val_dK, hl]; rfl⟩, w v _ H2 g2 rfl rfl⟩
/-- d[k] = e -/
theorem s_dput {En : Ends} {tv : TE} {k v : Int} (c : Cc D m H) (hv : σ[i]? = some (some (.ref d))) (hd : H d = some (.dK (dK l))) (nd : d ∉ D.m) (he : EvV D m tv σ H v) (hk : EvV D m ty σ H k) (hl : l.length < 100000)
    (kk : ∀ H1, Gd D H H1 → En.nx σ (upd H1 d (.dK (dK (put l k v))))) : sDPut (tVar i) ty tv En σ H := he H .refl c _ fun v' u H1 g r ev => ⟨_, hv, hk H1 g (c.go g) _ fun k' u' H2 g2 r' ek => by
  subst ev ek
  cases rp_int r
  cases rp_int r'
  have h2 := g2.gr.keep d _ (g.gr.keep d _ hd nd) nd
  refine ⟨d, _, rfl, DPut.k (k := Sum.inl _) h2 (by unfold dK; rw [List.length_map]; exact Evl.sz_lt hl), ?_⟩
  rw [put_dK]
  exact kk H2 (g.trans g2)⟩
/-- {} -/
theorem s_dnew {En : Ends} (c : Cc D m H) (k : ∀ d H1, H d = none → Gd D H H1 → DAt m H1 d [] → En.nx (σ.set i (some (.ref d))) H1) : tAsg tDNewK (gName i) En σ H := fun d hd => k d _ hd (.new hd) ⟨c.free hd, upd_same⟩
variable {β : Type} [Rp β] [Nl β] {g : TG} {tt : TT} {te : TE} {ws : List Nat}
/-- [e for k in d if t]: the dict stands under a lock meanwhile -/
theorem el_lcKeys {p : List β → Prop} (I : Nat → List β → Prop) (hv : σ[i]? = some (some (.ref d))) (hd : H d = some (.dK (dK l))) (hdm : d ∈ m) (hz : l.length ≤ 90000) (h0 : I 0 [])
    (hs : ∀ (j : Nat) kv od H1 acc, l[j]? = some kv → Gr [d] H H1 → H1 d = some (.frz od (.dK (dK l))) → Cc none m H1 → I j acc → ∃ pt py, LcT none m g tt te ws σ (.int kv.1) H1 pt py ∧ (∀ y, pt true → py y → I (j + 1) (acc ++ [y])) ∧ (pt false → I (j + 1) acc))
    (hp : ∀ acc, I l.length acc → p acc) : EvL none m (tLockE (tLc (iKeys (tVar i)) g tt te ws)) σ H p := fun H0 g0 c0 Q w => by
  have hd0 := g0.gr0.at0 hd
  refine ⟨d, _, hd0, trivial, fun od => ⟨_, hv, d, od, rfl, .inl ⟨dK l, upd_same, fun Dl hD => ?_⟩⟩⟩
  have nDd : Dl ≠ d := fun z => by rw [z, upd_same] at hD; cases hD
  have hDl : H0 Dl = none := by rw [upd_ne nDd] at hD; exact hD
  have nD : Dl ∉ m := c0.free hDl
  have lk : Gr [d] H0 (upd H0 d (.frz od (.dK (dK l)))) := Gr.refl.put (by simp) hd0 (fun _ z => by cases z)
  have cl : Cc none m (upd H0 d (.frz od (.dK (dK l)))) := ⟨fun _ h => absurd h (by simp [Dst.m]), fun a ha => by
    by_cases z : a = d
    · rw [z, upd_same]; simp
    · rw [upd_ne z]; exact c0.dm a ha, trivial⟩
  have hlen : (dK l).length = l.length := by unfold dK; rw [List.length_map]
  have goal := lc_gen (J := Itk d od (dK l)) (n := l.length) (g := g) (tt := tt) (te := te) (vs := ws) (σ := σ) (H1 := upd H0 d (.frz od (.dK (dK l)))) (D := Dl) (Qd := fun H' => H' d = some (.frz od (.dK (dK l))) ∧ Q (.ref Dl) (upd H' d (.dK (dK l))))
    (fun j H' => ∃ acc, Gd none (upd H0 d (.frz od (.dK (dK l)))) H' ∧ Own m H' Dl acc ∧ acc.length ≤ j ∧ I j acc) ⟨[], .new hD, .nil nD upd_same, Nat.zero_le _, h0⟩
    (fun H' ⟨acc, g', _⟩ => ⟨g'.gr0.at0 upd_same, by rw [hlen]; exact Nat.le_refl _⟩) (fun j H' hj ⟨acc, g', _⟩ => ⟨g'.gr0.at0 upd_same, by rw [hlen]; exact hj⟩)
    (fun j x H' H'' hj ⟨acc, g', o, hl, hI⟩ y => ?_) (fun H' ⟨acc, g', o, hl, hI⟩ => ?_)
  · exact goal
  · obtain ⟨rfl, k, v, hkv, rfl⟩ := y
    have hkl : l[j]? = some l[j] := List.getElem?_eq_getElem hj
    have e : k = Sum.inl l[j].1 := by
      unfold dK at hkv
      rw [List.getElem?_map, hkl] at hkv
      simp at hkv
      exact hkv.1.symm
    subst e
    have gall : Gr [d] H H'' := (g0.gr0.any).trans (lk.trans g'.gr0.any)
    obtain ⟨pt, py, hT, k1, k2⟩ := hs j l[j] od H'' acc hkl gall (g'.gr0.at0 upd_same) (cl.go g') hI
    exact lc_turn hT (cl.go g') .refl o (by omega) (fun y ws H4 g4 z py o4 => ⟨acc ++ [y], mut_gd (g'.trans g4) cl hD, o4, by simp; omega, k1 y z py⟩) (fun H4 g4 z => ⟨acc, g'.trans g4, o.gd (cl.go g') g4, by omega, k2 z⟩)
  · have hd' := g'.gr0.at0 (upd_same (H := H0) (a := d) (o := .frz od (.dK (dK l))))
    refine ⟨hd', w acc Dl _ hDl (.pure ⟨fun a u e _ => ?_, fun a xs e => ?_, fun a e => ?_⟩) (o.upd_ne nDd hd' (fun _ z => by cases z)) (hp acc hI)⟩
    · by_cases z : a = d
      · rw [z, upd_same]; rw [z, hd0] at e; exact e
      · rw [upd_ne z]; exact g'.gr0.at0 (by rw [upd_ne z]; exact e)
    · have z : a ≠ d := fun z => by rw [z, hd0] at e; cases e
      rw [upd_ne z]; exact g'.gr0.at0 (by rw [upd_ne z]; exact e)
    · by_cases z : a = d
      · rw [z, upd_same] at e; cases e
      · rw [upd_ne z] at e
        have q := g'.gr.dom a e
        rw [upd_ne z] at q; exact q
end

/-! ### sorted -/
def isort (xs : List Int) : List Int := xs.mergeSort fun a b => decide (a ≤ b)
theorem isort_perm (xs : List Int) : (isort xs).Perm xs := List.mergeSort_perm _ _
theorem isort_le (xs : List Int) : (isort xs).Pairwise (· ≤ ·) := by
  have h := List.pairwise_mergeSort (le := fun a b : Int => decide (a ≤ b)) (fun a b c h1 h2 => by simp at *; omega) (fun a b => by simp; omega) xs
  exact h.imp fun h => by simpa using h
theorem isort_mem {xs : List Int} {x : Int} : x ∈ isort xs ↔ x ∈ xs := (isort_perm xs).mem_iff
theorem lt_unique : ∀ {a b : List Int}, a.Pairwise (· < ·) → b.Pairwise (· < ·) → (∀ x, x ∈ a ↔ x ∈ b) → a = b
  | [], [], _, _, _ => rfl
  | [], y :: b, _, _, h => absurd ((h y).mpr (by simp)) (by simp)
  | x :: a, [], _, _, h => absurd ((h x).mp (by simp)) (by simp)
  | x :: a, y :: b, ha, hb, h => by
    rw [List.pairwise_cons] at ha hb
    have e : x = y := by
      rcases List.mem_cons.mp ((h x).mp (by simp)) with z | z
      · exact z
      · rcases List.mem_cons.mp ((h y).mpr (by simp)) with z' | z'
        · exact z'.symm
        · have h1 := hb.1 x z
          have h2 := ha.1 y z'
          omega
    subst e
    congr 1
    refine lt_unique ha.2 hb.2 fun z => ?_
    constructor
    · intro hz
      rcases List.mem_cons.mp ((h z).mp (List.mem_cons_of_mem _ hz)) with q | q
      · rw [q] at hz; exact absurd (ha.1 x hz) (by omega)
      · exact q
    · intro hz
      rcases List.mem_cons.mp ((h z).mpr (List.mem_cons_of_mem _ hz)) with q | q
      · rw [q] at hz; exact absurd (hb.1 x hz) (by omega)
      · exact q
/-- the members, each once, rising -/
def once : List Int → List Int
  | [] => []
  | x :: xs => if x ∈ xs then once xs else x :: once xs
theorem once_mem {x : Int} : ∀ {xs : List Int}, x ∈ once xs ↔ x ∈ xs
  | [] => by simp [once]
  | y :: xs => by
    unfold once
    by_cases h : y ∈ xs
    · rw [if_pos h, once_mem, List.mem_cons]
      constructor
      · exact .inr
      · rintro (rfl | z)
        · exact h
        · exact z
    · rw [if_neg h, List.mem_cons, List.mem_cons, once_mem]
theorem once_nodup : ∀ xs : List Int, (once xs).Nodup
  | [] => by simp [once]
  | y :: xs => by
    unfold once
    by_cases h : y ∈ xs
    · rw [if_pos h]; exact once_nodup xs
    · rw [if_neg h, List.nodup_cons, once_mem]
      exact ⟨h, once_nodup xs⟩
def sset (xs : List Int) : List Int := isort (once xs)
theorem sset_lt (xs : List Int) : (sset xs).Pairwise (· < ·) := by
  have h1 := isort_le (once xs)
  have h2 : (isort (once xs)).Nodup := (isort_perm _).nodup_iff.mpr (once_nodup xs)
  unfold sset
  have := h1.and h2
  exact this.imp fun ⟨a, b⟩ => by omega
theorem sset_mem {xs : List Int} {x : Int} : x ∈ sset xs ↔ x ∈ xs := by
  unfold sset
  rw [isort_mem, once_mem]
section
variable {D : Dst} {m : List Addr} {σ : St} {H : Hp} {te : TE} {K : PySem.W.Frag}
/-- sorted(xs) -/
theorem el_sorted {xs : List Int} (h : EvV D m te σ H xs) : EvLV D m (tCB (rSortedI K) (tCons te tNil)) σ H (isort xs) := fun H1 g c Q w => h H1 g c _ fun xs' v H2 g2 r e => by
  subst e
  obtain ⟨a, vs, rfl, n, ha, ps⟩ := rp_lst r
  have := paired_ints ps
  subst this
  refine ⟨a, xs', rfl, .of ha, fun ns p hp hs hn => ?_⟩
  have e : ns = isort xs' := PySem.W.ksm_same (hp.trans (isort_perm xs').symm) hs (isort_le xs')
  subst e
  exact w _ p _ (g2.gr.dom p hn) (g2.trans (.new hn)) (.of_ints ((c.go g2).free hn) upd_same) rfl
end
/-! ### the program's mathematics -/
def needKey (k : Int) : Except Err Unit := if 0 ≤ k ∧ k < 10007 then .ok () else .error .badKey
def pointed (hands : List (Int × Int)) (size key : Int) : List Int := hands.map fun h => (key * h.1 + h.2) % 10007 % size
def places (hands : List (Int × Int)) (size key : Int) : Except Err (List Int) := if 0 ≤ key ∧ key < 10007 then .ok (pointed hands size key) else .error .badKey
def HandOk (h : Int × Int) : Prop := 1 ≤ h.1 ∧ h.1 ≤ 10006 ∧ 0 ≤ h.2 ∧ h.2 ≤ 10006
def HandsOk (most : Int) (hs : List (Int × Int)) : Prop := 1 ≤ hs.length ∧ (hs.length : Int) ≤ most ∧ ∀ h, h ∈ hs → HandOk h
def KeyOk (k : Int) : Prop := 0 ≤ k ∧ k < 10007
def KeysOk (many : Int) (ks : List Int) : Prop := (ks.length : Int) = many ∧ ∀ k, k ∈ ks → KeyOk k
end KS
set_option Elab.async false
set_option linter.all false
set_option maxRecDepth 100000
set_option maxHeartbeats 4000000
namespace KW
open PySem L2 KS
def topS (i : Nat) : Stmt := PySem.Challenge.pw_keysieve_k01_places.main.body.getD i (.Pass ⟨0, 0, 0, 0⟩)
abbrev s_need_key : Stmt := topS 11
abbrev N_need_key : List Str := ["key"]
theorem sc_need_key : FnScope N_need_key ["key"] (defScope s_need_key) := ⟨rfl, rfl, rfl, by decide +kernel, rfl, by decide +kernel, by decide +kernel⟩
abbrev s_pointed : Stmt := topS 12
abbrev N_pointed : List Str := ["hands", "size", "key", "times", "more"]
theorem sc_pointed : FnScope N_pointed ["hands", "size", "key"] (defScope s_pointed) := ⟨rfl, rfl, rfl, by decide +kernel, rfl, by decide +kernel, by decide +kernel⟩
abbrev s_places : Stmt := topS 13
abbrev N_places : List Str := ["hands", "size", "key"]
theorem sc_places : FnScope N_places ["hands", "size", "key"] (defScope s_places) := ⟨rfl, rfl, rfl, by decide +kernel, rfl, by decide +kernel, by decide +kernel⟩
abbrev s__law_mix : Stmt := topS 15
abbrev N__law_mix : List Str := ["_law_script", "_law_seed", "_law_mixed", "_law_cell"]
theorem sc__law_mix : FnScope N__law_mix ["_law_script", "_law_seed"] (defScope s__law_mix) := ⟨rfl, rfl, rfl, by decide +kernel, rfl, by decide +kernel, by decide +kernel⟩
abbrev s__law_next : Stmt := topS 16
abbrev N__law_next : List Str := ["_law_h", "_law_many", "_law_at", "_law_cell"]
theorem sc__law_next : FnScope N__law_next ["_law_h", "_law_many"] (defScope s__law_next) := ⟨rfl, rfl, rfl, by decide +kernel, rfl, by decide +kernel, by decide +kernel⟩
abbrev s__law_hands : Stmt := topS 17
abbrev N__law_hands : List Str := ["_law_h", "_law_most", "_law_found", "_law_way", "_law_k", "_law_hand"]
theorem sc__law_hands : FnScope N__law_hands ["_law_h", "_law_most"] (defScope s__law_hands) := ⟨rfl, rfl, rfl, by decide +kernel, rfl, by decide +kernel, by decide +kernel⟩
abbrev s__law_keys : Stmt := topS 18
abbrev N__law_keys : List Str := ["_law_h", "_law_many", "_law_few", "_law_k", "_law_way", "_law_found"]
theorem sc__law_keys : FnScope N__law_keys ["_law_h", "_law_many"] (defScope s__law_keys) := ⟨rfl, rfl, rfl, by decide +kernel, rfl, by decide +kernel, by decide +kernel⟩
abbrev s__law_cells : Stmt := topS 19
abbrev N__law_cells : List Str := ["_law_hands_here", "_law_size", "_law_key", "_law_hand"]
theorem sc__law_cells : FnScope N__law_cells ["_law_hands_here", "_law_size", "_law_key"] (defScope s__law_cells) := ⟨rfl, rfl, rfl, by decide +kernel, rfl, by decide +kernel, by decide +kernel⟩
abbrev s__law_are : Stmt := topS 20
abbrev N__law_are : List Str := ["_law_found", "_law_due", "_law_k"]
theorem sc__law_are : FnScope N__law_are ["_law_found", "_law_due"] (defScope s__law_are) := ⟨rfl, rfl, rfl, by decide +kernel, rfl, by decide +kernel, by decide +kernel⟩
abbrev s_BadSieve_init : Stmt := inClass (topS 2) 0
abbrev N_BadSieve_init : List Str := ["self", "why"]
theorem sc_BadSieve_init : FnScope N_BadSieve_init ["self", "why"] (defScope s_BadSieve_init) := ⟨rfl, rfl, rfl, by decide +kernel, rfl, by decide +kernel, by decide +kernel⟩
abbrev s_Stuck_init : Stmt := inClass (topS 5) 0
abbrev N_Stuck_init : List Str := ["self", "cells"]
theorem sc_Stuck_init : FnScope N_Stuck_init ["self", "cells"] (defScope s_Stuck_init) := ⟨rfl, rfl, rfl, by decide +kernel, rfl, by decide +kernel, by decide +kernel⟩
abbrev s_NoSieve_init : Stmt := inClass (topS 7) 0
abbrev N_NoSieve_init : List Str := ["self", "paper"]
theorem sc_NoSieve_init : FnScope N_NoSieve_init ["self", "paper"] (defScope s_NoSieve_init) := ⟨rfl, rfl, rfl, by decide +kernel, rfl, by decide +kernel, by decide +kernel⟩
abbrev s_BadText_init : Stmt := inClass (topS 8) 0
abbrev N_BadText_init : List Str := ["self", "row"]
theorem sc_BadText_init : FnScope N_BadText_init ["self", "row"] (defScope s_BadText_init) := ⟨rfl, rfl, rfl, by decide +kernel, rfl, by decide +kernel, by decide +kernel⟩
abbrev s__law_refused : Stmt := topS 21
abbrev N__law_refused : List Str := ["_law_hands_here", "_law_size", "_law_key", "e", "_law_odd"]
theorem sc__law_refused : FnScope N__law_refused ["_law_hands_here", "_law_size", "_law_key"] (defScope s__law_refused) := ⟨rfl, rfl, rfl, by decide +kernel, rfl, by decide +kernel, by decide +kernel⟩
abbrev s_law : Stmt := topS 22
abbrev N_law : List Str := ["_law_script", "_law_h", "_law_turn", "_law_hands_here", "_law_size", "_law_handed", "_law_key", "_law_time", "_law_found", "_law_far", "_law_bad"]
theorem sc_law : FnScope N_law ["_law_script"] (defScope s_law) := ⟨rfl, rfl, rfl, by decide +kernel, rfl, by decide +kernel, by decide +kernel⟩
structure Txt (K : PySem.W.Frag) (mg : Str → Option Value) where
  c_SieveError : Addr
  m_SieveError : mg "SieveError" = some (.ref c_SieveError)
  c_BadSieve : Addr
  m_BadSieve : mg "BadSieve" = some (.ref c_BadSieve)
  c_BadKey : Addr
  m_BadKey : mg "BadKey" = some (.ref c_BadKey)
  c_NotIn : Addr
  m_NotIn : mg "NotIn" = some (.ref c_NotIn)
  c_Stuck : Addr
  m_Stuck : mg "Stuck" = some (.ref c_Stuck)
  c_Unlike : Addr
  m_Unlike : mg "Unlike" = some (.ref c_Unlike)
  c_NoSieve : Addr
  m_NoSieve : mg "NoSieve" = some (.ref c_NoSieve)
  c_BadText : Addr
  m_BadText : mg "BadText" = some (.ref c_BadText)
  f_need_key : Addr
  d_need_key : FuncData
  m_need_key : mg "need_key" = some (.ref f_need_key)
  F_need_key : Fun K "need_key" "need_key" s_need_key f_need_key d_need_key
  f_pointed : Addr
  d_pointed : FuncData
  m_pointed : mg "pointed" = some (.ref f_pointed)
  F_pointed : Fun K "pointed" "pointed" s_pointed f_pointed d_pointed
  f_places : Addr
  d_places : FuncData
  m_places : mg "places" = some (.ref f_places)
  F_places : Fun K "places" "places" s_places f_places d_places
  f__law_mix : Addr
  d__law_mix : FuncData
  m__law_mix : mg "_law_mix" = some (.ref f__law_mix)
  F__law_mix : Fun K "_law_mix" "_law_mix" s__law_mix f__law_mix d__law_mix
  f__law_next : Addr
  d__law_next : FuncData
  m__law_next : mg "_law_next" = some (.ref f__law_next)
  F__law_next : Fun K "_law_next" "_law_next" s__law_next f__law_next d__law_next
  f__law_hands : Addr
  d__law_hands : FuncData
  m__law_hands : mg "_law_hands" = some (.ref f__law_hands)
  F__law_hands : Fun K "_law_hands" "_law_hands" s__law_hands f__law_hands d__law_hands
  f__law_keys : Addr
  d__law_keys : FuncData
  m__law_keys : mg "_law_keys" = some (.ref f__law_keys)
  F__law_keys : Fun K "_law_keys" "_law_keys" s__law_keys f__law_keys d__law_keys
  f__law_cells : Addr
  d__law_cells : FuncData
  m__law_cells : mg "_law_cells" = some (.ref f__law_cells)
  F__law_cells : Fun K "_law_cells" "_law_cells" s__law_cells f__law_cells d__law_cells
  f__law_are : Addr
  d__law_are : FuncData
  m__law_are : mg "_law_are" = some (.ref f__law_are)
  F__law_are : Fun K "_law_are" "_law_are" s__law_are f__law_are d__law_are
  f_BadSieve_init : Addr
  d_BadSieve_init : FuncData
  me_BadSieve_init : Meth K c_BadSieve "__init__" f_BadSieve_init
  F_BadSieve_init : Fun K "__init__" "BadSieve.__init__" s_BadSieve_init f_BadSieve_init d_BadSieve_init
  f_Stuck_init : Addr
  d_Stuck_init : FuncData
  me_Stuck_init : Meth K c_Stuck "__init__" f_Stuck_init
  F_Stuck_init : Fun K "__init__" "Stuck.__init__" s_Stuck_init f_Stuck_init d_Stuck_init
  f_NoSieve_init : Addr
  d_NoSieve_init : FuncData
  me_NoSieve_init : Meth K c_NoSieve "__init__" f_NoSieve_init
  F_NoSieve_init : Fun K "__init__" "NoSieve.__init__" s_NoSieve_init f_NoSieve_init d_NoSieve_init
  f_BadText_init : Addr
  d_BadText_init : FuncData
  me_BadText_init : Meth K c_BadText "__init__" f_BadText_init
  F_BadText_init : Fun K "__init__" "BadText.__init__" s_BadText_init f_BadText_init d_BadText_init
  f__law_refused : Addr
  d__law_refused : FuncData
  m__law_refused : mg "_law_refused" = some (.ref f__law_refused)
  F__law_refused : Fun K "_law_refused" "_law_refused" s__law_refused f__law_refused d__law_refused
  em_BadKey_SieveError : PySem.W.exmOne K (.ref c_BadKey) (.ref c_SieveError) = some true
  tg_RING : Tok
  g_RING : mg "RING" = some (.int 10007 tg_RING)
  is_BadKey : ExcC K c_BadKey
  kc_BadKey : PySem.W.keepIn K (.ref c_BadKey) = true
  ki_BadKey_BadKey : PySem.W.kitOne K (.ref c_BadKey) (.ref c_BadKey) = some true
  ki_BadKey_BadSieve : PySem.W.kitOne K (.ref c_BadKey) (.ref c_BadSieve) = some false
  ki_BadKey_BadText : PySem.W.kitOne K (.ref c_BadKey) (.ref c_BadText) = some false
  ki_BadKey_NoSieve : PySem.W.kitOne K (.ref c_BadKey) (.ref c_NoSieve) = some false
  ki_BadKey_NotIn : PySem.W.kitOne K (.ref c_BadKey) (.ref c_NotIn) = some false
  ki_BadKey_Stuck : PySem.W.kitOne K (.ref c_BadKey) (.ref c_Stuck) = some false
  ki_BadKey_Unlike : PySem.W.kitOne K (.ref c_BadKey) (.ref c_Unlike) = some false
  ki_BadKey_ValueError : PySem.W.kitOne K (.ref c_BadKey) (.type "ValueError") = some true
  n_ValueError : mg "ValueError" = none
  n_bool : mg "bool" = none
  n_int : mg "int" = none
  n_isinstance : mg "isinstance" = none
  n_len : mg "len" = none
  n_list : mg "list" = none
  n_max : mg "max" = none
  n_range : mg "range" = none
  ox_BadSieve : OexC K c_BadSieve
  ox_BadText : OexC K c_BadText
  ox_NoSieve : OexC K c_NoSieve
  ox_Stuck : OexC K c_Stuck
  x_BadKey : PySem.W.excIn K c_BadKey [.type "ValueError", .type "Exception", .type "BaseException", .type "object"] "ValueError.__new__" = true
  xb_BadKey : PySem.W.subIn K (.ref c_BadKey) (.type "BaseException") = some true
  xn_BadSieve_why : PySem.W.findIn K (.ref c_BadSieve) "why" = some none
  xn_BadText_row : PySem.W.findIn K (.ref c_BadText) "row" = some none
  xn_NoSieve_paper : PySem.W.findIn K (.ref c_NoSieve) "paper" = some none
  xn_Stuck_cells : PySem.W.findIn K (.ref c_Stuck) "cells" = some none
  xt_BadKey : PySem.W.typeIn K (.ref c_BadKey) = some (.type "type")
def Txt.er {K : PySem.W.Frag} {mg : Str → Option Value} (T : Txt K mg) : KS.Er := ⟨T.c_SieveError, T.c_BadSieve, T.c_BadKey, T.c_NotIn, T.c_Stuck, T.c_Unlike, T.c_NoSieve, T.c_BadText⟩
theorem Txt.b_need_key {K : PySem.W.Frag} {mg : Str → Option Value} (T : Txt K mg) : Binds K T.d_need_key ["key"] [] := T.F_need_key.binds fun _ _ _ _ _ _ us hl => match us, hl with | [_], _ => rfl
theorem Txt.k_need_key {K : PySem.W.Frag} {mg : Str → Option Value} (T : Txt K mg) : PySem.W.keepIn K (.ref T.f_need_key) = true := T.F_need_key.kp
theorem Txt.b_pointed {K : PySem.W.Frag} {mg : Str → Option Value} (T : Txt K mg) : Binds K T.d_pointed ["hands", "size", "key"] [] := T.F_pointed.binds fun _ _ _ _ _ _ us hl => match us, hl with | [_, _, _], _ => rfl
theorem Txt.k_pointed {K : PySem.W.Frag} {mg : Str → Option Value} (T : Txt K mg) : PySem.W.keepIn K (.ref T.f_pointed) = true := T.F_pointed.kp
theorem Txt.b_places {K : PySem.W.Frag} {mg : Str → Option Value} (T : Txt K mg) : Binds K T.d_places ["hands", "size", "key"] [] := T.F_places.binds fun _ _ _ _ _ _ us hl => match us, hl with | [_, _, _], _ => rfl
theorem Txt.k_places {K : PySem.W.Frag} {mg : Str → Option Value} (T : Txt K mg) : PySem.W.keepIn K (.ref T.f_places) = true := T.F_places.kp
theorem Txt.b__law_mix {K : PySem.W.Frag} {mg : Str → Option Value} (T : Txt K mg) : Binds K T.d__law_mix ["_law_script", "_law_seed"] [] := T.F__law_mix.binds fun _ _ _ _ _ _ us hl => match us, hl with | [_, _], _ => rfl
theorem Txt.k__law_mix {K : PySem.W.Frag} {mg : Str → Option Value} (T : Txt K mg) : PySem.W.keepIn K (.ref T.f__law_mix) = true := T.F__law_mix.kp
theorem Txt.b__law_next {K : PySem.W.Frag} {mg : Str → Option Value} (T : Txt K mg) : Binds K T.d__law_next ["_law_h", "_law_many"] [] := T.F__law_next.binds fun _ _ _ _ _ _ us hl => match us, hl with | [_, _], _ => rfl
theorem Txt.k__law_next {K : PySem.W.Frag} {mg : Str → Option Value} (T : Txt K mg) : PySem.W.keepIn K (.ref T.f__law_next) = true := T.F__law_next.kp
theorem Txt.b__law_hands {K : PySem.W.Frag} {mg : Str → Option Value} (T : Txt K mg) : Binds K T.d__law_hands ["_law_h", "_law_most"] [] := T.F__law_hands.binds fun _ _ _ _ _ _ us hl => match us, hl with | [_, _], _ => rfl
theorem Txt.k__law_hands {K : PySem.W.Frag} {mg : Str → Option Value} (T : Txt K mg) : PySem.W.keepIn K (.ref T.f__law_hands) = true := T.F__law_hands.kp
theorem Txt.b__law_keys {K : PySem.W.Frag} {mg : Str → Option Value} (T : Txt K mg) : Binds K T.d__law_keys ["_law_h", "_law_many"] [] := T.F__law_keys.binds fun _ _ _ _ _ _ us hl => match us, hl with | [_, _], _ => rfl
theorem Txt.k__law_keys {K : PySem.W.Frag} {mg : Str → Option Value} (T : Txt K mg) : PySem.W.keepIn K (.ref T.f__law_keys) = true := T.F__law_keys.kp
theorem Txt.b__law_cells {K : PySem.W.Frag} {mg : Str → Option Value} (T : Txt K mg) : Binds K T.d__law_cells ["_law_hands_here", "_law_size", "_law_key"] [] := T.F__law_cells.binds fun _ _ _ _ _ _ us hl => match us, hl with | [_, _, _], _ => rfl
theorem Txt.k__law_cells {K : PySem.W.Frag} {mg : Str → Option Value} (T : Txt K mg) : PySem.W.keepIn K (.ref T.f__law_cells) = true := T.F__law_cells.kp
theorem Txt.b__law_are {K : PySem.W.Frag} {mg : Str → Option Value} (T : Txt K mg) : Binds K T.d__law_are ["_law_found", "_law_due"] [] := T.F__law_are.binds fun _ _ _ _ _ _ us hl => match us, hl with | [_, _], _ => rfl
theorem Txt.k__law_are {K : PySem.W.Frag} {mg : Str → Option Value} (T : Txt K mg) : PySem.W.keepIn K (.ref T.f__law_are) = true := T.F__law_are.kp
theorem Txt.b_BadSieve_init {K : PySem.W.Frag} {mg : Str → Option Value} (T : Txt K mg) : Binds K T.d_BadSieve_init ["self", "why"] [] := T.F_BadSieve_init.binds fun _ _ _ _ _ _ us hl => match us, hl with | [_, _], _ => rfl
theorem Txt.k_BadSieve_init {K : PySem.W.Frag} {mg : Str → Option Value} (T : Txt K mg) : PySem.W.keepIn K (.ref T.f_BadSieve_init) = true := T.F_BadSieve_init.kp
theorem Txt.b_Stuck_init {K : PySem.W.Frag} {mg : Str → Option Value} (T : Txt K mg) : Binds K T.d_Stuck_init ["self", "cells"] [] := T.F_Stuck_init.binds fun _ _ _ _ _ _ us hl => match us, hl with | [_, _], _ => rfl
theorem Txt.k_Stuck_init {K : PySem.W.Frag} {mg : Str → Option Value} (T : Txt K mg) : PySem.W.keepIn K (.ref T.f_Stuck_init) = true := T.F_Stuck_init.kp
theorem Txt.b_NoSieve_init {K : PySem.W.Frag} {mg : Str → Option Value} (T : Txt K mg) : Binds K T.d_NoSieve_init ["self", "paper"] [] := T.F_NoSieve_init.binds fun _ _ _ _ _ _ us hl => match us, hl with | [_, _], _ => rfl
theorem Txt.k_NoSieve_init {K : PySem.W.Frag} {mg : Str → Option Value} (T : Txt K mg) : PySem.W.keepIn K (.ref T.f_NoSieve_init) = true := T.F_NoSieve_init.kp
theorem Txt.b_BadText_init {K : PySem.W.Frag} {mg : Str → Option Value} (T : Txt K mg) : Binds K T.d_BadText_init ["self", "row"] [] := T.F_BadText_init.binds fun _ _ _ _ _ _ us hl => match us, hl with | [_, _], _ => rfl
theorem Txt.k_BadText_init {K : PySem.W.Frag} {mg : Str → Option Value} (T : Txt K mg) : PySem.W.keepIn K (.ref T.f_BadText_init) = true := T.F_BadText_init.kp
theorem Txt.b__law_refused {K : PySem.W.Frag} {mg : Str → Option Value} (T : Txt K mg) : Binds K T.d__law_refused ["_law_hands_here", "_law_size", "_law_key"] [] := T.F__law_refused.binds fun _ _ _ _ _ _ us hl => match us, hl with | [_, _, _], _ => rfl
theorem Txt.k__law_refused {K : PySem.W.Frag} {mg : Str → Option Value} (T : Txt K mg) : PySem.W.keepIn K (.ref T.f__law_refused) = true := T.F__law_refused.kp
section
variable {P : Program} {w : World} {K : PySem.W.Frag} {mg : Str → Option Value} {base : Heap}
theorem ok_need_key (T : Txt K mg) : FnOk P w K mg base (L2.CX P w) 1 T.f_need_key T.d_need_key ["key"] (SpX T.er (fun _ => True) fun x : Int × Unit => needKey x.1) := by
  refine T.F_need_key.okX sc_need_key (fun vs H Q E h => ?_) (fun cdv A outer s H vs Q E hr h => ?_)
  · obtain ⟨m, x, c, ⟨v, r, rfl, rk, rfl⟩, _⟩ := h
    rfl
  · obtain ⟨m, ⟨key, u⟩, c, ⟨v, r, rfl, rk, rfl⟩, -, k1, k2⟩ := h
    cases rp_int rk
    refine ⟨_, (pss_one (ps_if (pt_not (pt_chain op_le op_lt pe_int (pv 0) (pe_glob (v := .int 10007) rfl T.g_RING ⟨_, rfl⟩)))
  (pss_one (ps_raise rfl (takes_of rfl rfl rfl rfl) (pmk_own PySem.F.excBase_ValueError T.x_BadKey T.m_BadKey T.kc_BadKey (raises_own T.xb_BadKey T.xt_BadKey) rfl)))
  pss_nil)), ?_⟩
    refine s_ifV c (et_notV (et_e (ev_chain ev_c ev_vi ev_c))) (fun e H1 g => ?_) (fun e H1 g => ?_)
    · refine k2 .badKey ?_ _ _ H1 g.gr0 ⟨rfl, rfl⟩
      show needKey key = _
      unfold needKey
      rw [if_neg]
      intro z
      simp [z.1, z.2] at e
    · refine k1 () ?_ _ H1 g.gr0 rfl
      show needKey key = _
      unfold needKey
      rw [if_pos]
      simpa using e
theorem ok_pointed (T : Txt K mg) : FnOk P w K mg base CX0 1 T.f_pointed T.d_pointed ["hands", "size", "key"]
    (SpL (fun x : List (Int × Int) × Int × Int × Unit => x.1.length ≤ 90000 ∧ 0 < x.2.1 ∧ -(2 ^ 64) < x.2.2.1 ∧ x.2.2.1 < 2 ^ 64) fun x => pointed x.1 x.2.1 x.2.2.1) := by
  refine T.F_pointed.ok sc_pointed (fun vs H Q E h => ?_) (fun cdv A outer s H vs Q E hr h => ?_)
  · obtain ⟨m, x, c, ⟨v, r, rfl, rk, ⟨v2, r2, rfl, rk2, ⟨v3, r3, rfl, rk3, rfl⟩⟩⟩, _⟩ := h
    rfl
  · obtain ⟨m, ⟨hands, size, key, u⟩, c, ⟨v, r, rfl, rk, ⟨v2, r2, rfl, rk2, ⟨v3, r3, rfl, rk3, rfl⟩⟩⟩, ⟨hl, h1, h2⟩, k⟩ := h
    cases (show v2 = V.int size from rk2)
    cases (show v3 = V.int key from rk3)
    refine ⟨_, (pss_one (ps_ret (pe_lc (own := [("times", 3), ("more", 4)]) (g := gTup K 2 (gCons (gName 3) (gCons (gName 4) gNil))) (tt := tYes) (by rfl) sc_pointed.nd (pi_list (pv 0)) (blkOk_by (own := [("times", 3), ("more", 4)]) (N := N_pointed) (sc := defScope s_pointed) (by decide +kernel)) (fun _ _ _ _ _ => (pg_tup rfl (pgs_cons (pg_name (i := 3) sc_pointed.nd rfl (Or.inl rfl) (.inr rfl)) (pgs_cons (pg_name (i := 4) sc_pointed.nd rfl (Or.inl rfl) (.inr rfl)) pgs_nil)))) (fun _ _ _ _ _ => pts_nil) (fun _ _ _ _ _ => (pe_op op_mod (pe_op op_mod (pe_op op_add (pe_op op_mul (pv 2) (pv 3)) (pv 4)) (pe_glob (v := .int 10007) rfl T.g_RING ⟨_, rfl⟩)) (pv 1)))))), ?_⟩
    refine s_retLV c (el_map (fun h : Int × Int => (key * h.1 + h.2) % 10007 % size) (ev_v rfl rk) hl fun x v H1 _ g c1 r => lcT_pair r fun u w ru rw => ?_) fun a H1 n g o => k a H1 n g.gr0 o
    cases rp_int ru
    cases rp_int rw
    exact ⟨rfl, tYes_ok, fun _ => ev_oC (ev_oC (ev_o (ev_oC ev_vi ev_vi (.inl h2)) ev_vi) ev_c (by decide)) ev_vi h1⟩
theorem ok_places (T : Txt K mg) : FnOk P w K mg base (L2.CX P w) 2 T.f_places T.d_places ["hands", "size", "key"]
    (SpXL T.er (fun x : List (Int × Int) × Int × Int × Unit => x.1.length ≤ 90000 ∧ 0 < x.2.1) fun x => places x.1 x.2.1 x.2.2.1) := by
  refine T.F_places.okX sc_places (fun vs H Q E h => ?_) (fun cdv A outer s H vs Q E hr h => ?_)
  · obtain ⟨m, x, c, ⟨v, r, rfl, rk, ⟨v2, r2, rfl, rk2, ⟨v3, r3, rfl, rk3, rfl⟩⟩⟩, _⟩ := h
    rfl
  · obtain ⟨m, ⟨hands, size, key, u⟩, c, ⟨v, r, rfl, rk, ⟨v2, r2, rfl, rk2, ⟨v3, r3, rfl, rk3, rfl⟩⟩⟩, ⟨hl, h1⟩, k1, k2⟩ := h
    cases (show v2 = V.int size from rk2)
    cases (show v3 = V.int key from rk3)
    refine ⟨_, (pss_cons (ps_expr (pe_call (ok_need_key T) (hr.mono (by decide)) rfl T.m_need_key T.k_need_key T.b_need_key .nil (passX rfl rfl rfl rfl) (pa_cons (pv 2) pa_nil)))
  (pss_one (ps_ret (pe_call (ok_pointed T) (hr.mono (by decide)) rfl T.m_pointed T.k_pointed T.b_pointed .nil pass0 (pa_cons (pv 0) (pa_cons (pv 1) (pa_cons (pv 2) pa_nil))))))), ?_⟩
    refine q_dropX c (ex_call (ea_c ev_vi ea_nil) trivial) (fun x hx H1 g => ?_) (fun e he cl d H1 g z => k2 e ?_ cl d H1 g.gr0 z)
    · have hk : 0 ≤ key ∧ key < 10007 := by
        by_cases z : 0 ≤ key ∧ key < 10007
        · exact z
        · change needKey key = _ at hx
          unfold needKey at hx
          rw [if_neg z] at hx
          cases hx
      refine s_retLV (c.go g) (el_callV (x := (hands, size, key, ())) (ea_c (ev_v rfl (rp_gd rk c g)) (ea_c ev_vi (ea_c ev_vi ea_nil))) ⟨hl, h1, by show -(2 ^ 64) < key; omega, by show key < 2 ^ 64; omega⟩) fun a H2 n g2 o => k1 _ ?_ a H2 (g.gr.dom a n) (g.trans g2).gr0 o
      show places hands size key = _
      unfold places
      rw [if_pos hk]
    · show places hands size key = _
      change needKey key = _ at he
      unfold needKey at he
      unfold places
      by_cases z : 0 ≤ key ∧ key < 10007
      · rw [if_pos z] at he; cases he
      · rw [if_neg z] at he ⊢; cases he; rfl
theorem ok__law_mix (T : Txt K mg) : FnOk P w K mg base CX0 1 T.f__law_mix T.d__law_mix ["_law_script", "_law_seed"] (spMix K) := by
  refine T.F__law_mix.ok sc__law_mix (fun vs H Q E h => ?_) (fun cdv A outer s H vs Q E hr h => ?_)
  · obtain ⟨a, ns, seed, rfl, _⟩ := h
    rfl
  · obtain ⟨a, ns, seed, rfl, hS, hl, k⟩ := h
    refine ⟨_, (pss_cons (ps_set (i := 2) sc__law_mix.nd rfl (Or.inl rfl) (pv 1))
  (pss_cons (ps_for PassesOwn.never rfl (pi_list (pv 0)) (pg_name (i := 3) sc__law_mix.nd rfl (Or.inl rfl))
  (pss_one (ps_set (i := 2) sc__law_mix.nd rfl (Or.inl rfl) (pe_op op_mod (pe_op op_add (pe_op op_add (pe_op op_mul (pv 2) pe_int) (pe_op op_mod (pv 3) pe_int)) pe_int) pe_int))))
  (pss_one (ps_ret (pe_lst (pa_cons (pv 2) (pa_cons (pe_callTy call_list_of (by rfl) T.n_list (by decide +kernel) (pa_cons (pv 0) pa_nil)) (pa_cons pe_int pa_nil)))))))), ?_⟩
    refine ⟨_, rfl, ?_⟩
    refine ⟨_, rfl, a, rfl, ⟨_, hS⟩, for_list (K := K) (a := a) (xs := ns.map V.int) (fun i s2 H2 => ∃ (n : Int) (v : Option V), s2 = [some (.ref a), some (.int seed), some (.int n), v] ∧ H2 = H) ⟨seed, none, rfl, rfl⟩ (fun i s2 H2 _ ⟨_, _, _, e⟩ => by rw [e]; exact hS) ?_ ?_⟩
    · rintro i y s2 H2 hi ⟨n, v, rfl, rfl⟩
      obtain ⟨z, rfl⟩ : ∃ z, y = V.int z := by
        rw [List.getElem?_map] at hi
        cases e : ns[i]? with
        | none => rw [e] at hi; cases hi
        | some z => rw [e] at hi; exact ⟨z, (Option.some.inj hi).symm⟩
      refine ⟨_, rfl, _, _, rfl, rfl, .inr (by decide), _, rfl, _, _, rfl, rfl, (by show (0 : Int) < 2147483629; decide), _, _, rfl, rfl, _, _, rfl, rfl, _, _, rfl, rfl, (by show (0 : Int) < 2147483647; decide), ?_⟩
      exact ⟨_, _, rfl, rfl⟩
    · rintro s2 H2 ⟨n, v, rfl, rfl⟩
      refine ⟨_, rfl, _, rfl, a, _, rfl, .inl hS, fun l hl' => ⟨(by show 3 ≤ sizeLine; decide), fun p hp => ?_⟩⟩
      have hlp : l ≠ p := ne_of_none upd_same hp
      have hp' : H2 p = none := by rw [upd_ne hlp.symm] at hp; exact hp
      refine k p l _ hp' hl' hlp.symm ((Gr.new hl').trans (Gr.new hp)) ⟨n, ns, 0, upd_same, ?_, hl⟩
      rw [upd_ne hlp]
      exact upd_same
theorem ok__law_next (T : Txt K mg) : FnOk P w K mg base CX0 1 T.f__law_next T.d__law_next ["_law_h", "_law_many"] spNext := by
  refine T.F__law_next.ok sc__law_next (fun vs H Q E h => ?_) (fun cdv A outer s H vs Q E hr h => ?_)
  · obtain ⟨p, q, many, rfl, _⟩ := h
    rfl
  · obtain ⟨p, q, many, rfl, ⟨m, cs, i, hp, hq, hl⟩, h0, h1, k⟩ := h
    have npq : p ≠ q := ne_of hp hq (by
      intro z
      have z2 := HO.lst.inj z
      cases cs with
      | nil => cases z2
      | cons a r =>
        cases r with
        | nil => cases z2
        | cons b r => cases z2)
    have hlen : ((cs.map V.int).length : Int) = (cs.length : Int) := by rw [List.length_map]
    refine ⟨_, (pss_cons (ps_set (i := 2) sc__law_next.nd rfl (Or.inl rfl) (pe_op op_mod (pe_ix ix_list (pv 0) pe_int (fun _ _ => rfl)) (pe_callB (call_max2 rfl) (by rfl) T.n_max (by decide +kernel) (pa_cons pe_int (pa_cons (pe_callB call_len_seq (by rfl) T.n_len (by decide +kernel) (pa_cons (pe_ix ix_list (pv 0) pe_int (fun _ _ => rfl)) pa_nil)) pa_nil)))))
  (pss_cons (ps_set (i := 3) sc__law_next.nd rfl (Or.inl rfl) (pe_ifExp (pt_cmpR (op_neD hr.units) (pe_ix ix_list (pv 0) pe_int (fun _ _ => rfl)) (pe_lst pa_nil) (nomark _)) (pe_ix ix_list (pe_ix ix_list (pv 0) pe_int (fun _ _ => rfl)) (pv 2) (fun _ _ => rfl)) pe_int))
  (pss_cons (ps_if (pt_cmpR op_ge (pv 3) (pe_op op_pow pe_int pe_int) (nomark _))
  (pss_cons (ps_asg (pe_op op_fdiv (pv 3) (pv 1)) (pg_sub (pe_ix ix_list (pv 0) pe_int (fun _ _ => rfl)) (pv 2) set_list))
  (pss_one (ps_ret (pe_op op_mod (pv 3) (pv 1)))))
  pss_nil)
  (pss_cons (ps_asg (pe_op op_mod (pe_op op_add (pe_op op_add (pe_op op_mul (pe_ix ix_list (pv 0) pe_int (fun _ _ => rfl)) pe_int) (pe_op op_mul (pv 3) pe_int)) pe_int) pe_int) (pg_sub (pv 0) pe_int set_list))
  (pss_cons (ps_asg (pe_op op_add (pe_ix ix_list (pv 0) pe_int (fun _ _ => rfl)) pe_int) (pg_sub (pv 0) pe_int set_list))
  (pss_one (ps_ret (pe_op op_mod (pe_op op_fdiv (pe_ix ix_list (pv 0) pe_int (fun _ _ => rfl)) pe_int) (pv 1))))))))), ?_⟩
    -- at = h[2] % max(1, len(h[1]))
    obtain ⟨w1, ew1, hw1⟩ : ∃ w1 : Int, w1 = (if ((cs.map V.int).length : Int) > 1 then ((cs.map V.int).length : Int) else 1) ∧ 0 < w1 := ⟨_, rfl, by split <;> omega⟩
    refine q_rawA ?_
    refine ⟨_, rfl, p, _, 2, _, rfl, rfl, .of hp, rfl, _, rfl, p, _, 1, _, rfl, rfl, .of hp, rfl, q, _, rfl, .inl (.of hq), 1, _, rfl, i, _, rfl, rfl, by rw [← ew1]; exact hw1, ?_⟩
    rw [← ew1]
    obtain ⟨at', eat, hat0, hat1⟩ : ∃ at' : Int, at' = i % w1 ∧ 0 ≤ at' ∧ at' < w1 := ⟨_, rfl, Int.emod_nonneg _ (by omega), Int.emod_lt_of_pos _ hw1⟩
    -- cell = h[1][at] if h[1] != [] else 0
    refine g_name ?_
    refine q_setI (D := none) (m := []) (p := fun cell : Int => (cs[at'.toNat]? = some cell ∧ at' < cs.length) ∨ cell = 0) .nil (fun H0 g0 c0 Q' w' => ?_) (fun cell H1 g1 hcell => ?_)
    · have hp0 := g0.gr0.at0 hp
      have hq0 := g0.gr0.at0 hq
      refine ⟨_, rfl, p, _, 1, _, rfl, rfl, .of hp0, rfl, (by show 0 ≤ sizeLine; decide), fun l hl' => ?_⟩
      have g1 : Gr [] H0 (upd H0 l (.lst [])) := Gr.new hl'
      have hp1 := g1.at0 hp0
      have hq1 := g1.at0 hq0
      refine ⟨_, _, Dat.dp (α := List Int) (m := []) ⟨q, _, rfl, by simp, hq1, ints_paired cs⟩, Dat.dp (α := List Int) (x := []) (m := []) ⟨l, _, rfl, by simp, upd_same, .nil⟩, shaped_of (ok_ints _) (by decide), shaped_of (ok_ints _) (by decide), _, rfl, ?_⟩
      rw [eqv_dec]
      by_cases hc : cs = []
      · rw [decide_eq_true hc]
        exact iteF (w' 0 _ _ (.pure g1) rfl (.inr rfl))
      · rw [decide_eq_false hc]
        refine iteT ?_
        have hpos : 0 < cs.length := List.length_pos_iff.mpr hc
        have hw : w1 = (cs.length : Int) := by
          rw [ew1, List.length_map]; split <;> omega
        have hlt : at'.toNat < cs.length := by omega
        refine ⟨_, rfl, p, _, 1, _, rfl, rfl, .of hp1, rfl, _, rfl, q, _, at', .int cs[at'.toNat], rfl, by rw [eat], .of hq1, at_of (j := at'.toNat) (by omega) (by rw [List.getElem?_map, List.getElem?_eq_getElem hlt]; rfl), ?_⟩
        exact w' _ _ _ (.pure g1) rfl (.inl ⟨List.getElem?_eq_getElem hlt, by omega⟩)
    · have hp1 := g1.gr0.at0 hp
      have hq1 := g1.gr0.at0 hq
      -- if cell >= 10 ** 18
      refine q_rawWhen ?_
      refine ⟨_, rfl, _, _, rfl, rfl, ⟨by decide, by decide, by decide⟩, _, _, rfl, rfl, _, rfl, ite2 (fun hge => ?_) (fun hge => ?_)⟩
      · have hge' : (1000000000000000000 : Int) ≤ cell := by simpa using hge
        obtain ⟨hc1, hc2⟩ : cs[at'.toNat]? = some cell ∧ at' < cs.length := hcell.elim (fun z => z) fun z => by omega
        -- h[1][at] = cell // many; return cell % many
        have hix : ixN (cs.map V.int).length at' = some at'.toNat := by
          unfold ixN
          rw [if_pos hat0, if_pos (by rw [List.length_map]; exact hc2)]
        refine q_rawA ?_
        refine ⟨_, rfl, _, rfl, _, _, rfl, rfl, ⟨h0, h1⟩, _, rfl, p, _, 1, _, rfl, rfl, .of hp1, rfl, _, rfl, q, _, at', at'.toNat, rfl, by rw [eat], hq1, hix, ?_⟩
        refine ⟨_, rfl, _, rfl, _, _, rfl, rfl, h0, ?_⟩
        refine k _ _ (Int.emod_nonneg _ (by omega)) (Int.emod_lt_of_pos _ h0) ((g1.gr0.any).put (by simp) hq1 (fun _ z => by cases z)) ⟨m, cs.set at'.toNat (cell / many), i, by rw [upd_ne npq]; exact hp1, ?_, by rw [List.length_set]; exact hl⟩
        rw [upd_same, List.map_set]
      · -- h[0] = ..; h[2] = h[2] + 1; return h[0] // 7 % many
        refine q_rawA ?_
        refine ⟨_, rfl, p, _, 0, _, rfl, rfl, .of hp1, rfl, _, _, rfl, rfl, .inr (by decide), _, rfl, _, _, rfl, rfl, .inr (by decide), _, _, rfl, rfl, _, _, rfl, rfl, _, _, rfl, rfl, (by show (0 : Int) < 2147483647; decide), _, rfl, p, _, 0, 0, rfl, rfl, hp1, rfl, ?_⟩
        refine q_rawA ?_
        refine ⟨_, rfl, p, _, 2, _, rfl, rfl, .of upd_same, rfl, _, _, rfl, rfl, _, rfl, p, _, 2, 2, rfl, rfl, upd_same, rfl, ?_⟩
        rw [upd_upd]
        refine ⟨_, rfl, p, _, 0, _, rfl, rfl, .of upd_same, rfl, _, _, rfl, rfl, ⟨by decide, by decide⟩, _, rfl, _, _, rfl, rfl, h0, ?_⟩
        refine k _ _ (Int.emod_nonneg _ (by omega)) (Int.emod_lt_of_pos _ h0) ((g1.gr0.any).put (by simp) hp1 (fun _ z => by cases z)) ⟨_, cs, _, upd_same, ?_, hl⟩
        rw [upd_ne npq.symm]
        exact hq1
/-! ### what is drawn -/
abbrev spHands : Sp := SpDL (fun x : Int × Unit => 0 < x.1 ∧ x.1 ≤ 100) fun x ys => HandsOk x.1 ys
abbrev spKeys : Sp := SpDL (fun x : Int × Unit => 0 ≤ x.1 ∧ x.1 ≤ 1000) fun x ys => KeysOk x.1 ys
theorem at_ofA {α : Type} {xs : List α} {z : Int} {j : Nat} {v : α} (e : z = (j : Int)) (h : xs[j]? = some v) : atI xs z = some v := by
  rw [e]
  exact atI_nat h
theorem atI_of {α : Type} {xs : List α} {i : Int} (h0 : 0 ≤ i) (h1 : i < xs.length) : ∃ x, atI xs i = some x ∧ x ∈ xs := by
  have hl : i.toNat < xs.length := by omega
  exact ⟨xs[i.toNat], at_ofA (j := i.toNat) (by omega) (List.getElem?_eq_getElem hl), List.getElem_mem hl⟩
theorem ok__law_hands (T : Txt K mg) : FnOk P w K mg base CX0 2 T.f__law_hands T.d__law_hands ["_law_h", "_law_most"] spHands := by
  refine T.F__law_hands.ok sc__law_hands (fun vs H Q E h => ?_) (fun cdv A outer s H vs Q E hr h => ?_)
  · obtain ⟨p, q, m, x, ws, rfl, _, ⟨v, r, rfl, rk, rfl⟩, _⟩ := h
    rfl
  · obtain ⟨p, q, m, ⟨most, u⟩, ws, rfl, c, ⟨v, r, rfl, rk, rfl⟩, ⟨h0, h1⟩, k⟩ := h
    cases (show v = V.int most from rk)
    replace h0 : 0 < most := h0
    replace h1 : most ≤ 100 := h1
    refine ⟨_, (pss_cons (ps_set (i := 2) sc__law_hands.nd rfl (Or.inl rfl) (pe_lst pa_nil))
  (pss_cons (ps_set (i := 3) sc__law_hands.nd rfl (Or.inl rfl) (pe_call (ok__law_next T) (hr.mono (by decide)) rfl T.m__law_next T.k__law_next T.b__law_next .nil pass0 (pa_cons (pv 0) (pa_cons pe_int pa_nil))))
  (pss_cons (ps_for PassesOwn.never rfl (pi_range1 rfl T.n_range (pa_cons (pe_op op_add pe_int (pe_call (ok__law_next T) (hr.mono (by decide)) rfl T.m__law_next T.k__law_next T.b__law_next .nil pass0 (pa_cons (pv 0) (pa_cons (pv 1) pa_nil)))) pa_nil)) (pg_name (i := 4) sc__law_hands.nd rfl (Or.inl rfl))
  (pss_cons (ps_set (i := 5) sc__law_hands.nd rfl (Or.inl rfl) (pe_tup (pa_cons (pe_op op_add pe_int (pe_call (ok__law_next T) (hr.mono (by decide)) rfl T.m__law_next T.k__law_next T.b__law_next .nil pass0 (pa_cons (pv 0) (pa_cons pe_int pa_nil)))) (pa_cons (pe_call (ok__law_next T) (hr.mono (by decide)) rfl T.m__law_next T.k__law_next T.b__law_next .nil pass0 (pa_cons (pv 0) (pa_cons pe_int pa_nil))) pa_nil))))
  (pss_cons (ps_if (pt_cmpR op_eq (pv 3) pe_int (nomark _))
  (pss_one (ps_set (i := 5) sc__law_hands.nd rfl (Or.inl rfl) (pe_tup (pa_cons (pe_ix ix_list (pe_lst (pa_cons pe_int (pa_cons pe_int (pa_cons pe_int pa_nil)))) (pe_call (ok__law_next T) (hr.mono (by decide)) rfl T.m__law_next T.k__law_next T.b__law_next .nil pass0 (pa_cons (pv 0) (pa_cons pe_int pa_nil))) (fun _ _ => rfl)) (pa_cons (pe_ix ix_list (pe_lst (pa_cons pe_int (pa_cons pe_int (pa_cons pe_int pa_nil)))) (pe_call (ok__law_next T) (hr.mono (by decide)) rfl T.m__law_next T.k__law_next T.b__law_next .nil pass0 (pa_cons (pv 0) (pa_cons pe_int pa_nil))) (fun _ _ => rfl)) pa_nil)))))
  pss_nil)
  (pss_cons (ps_if (PW.pt (pw_and (pt_cmpR op_eq (pv 3) pe_int (nomark _)) (pw_and (pt_cmpR (op_neD hr.units) (pv 2) (pe_lst pa_nil) (nomark _)) (pw_and1 (pt_cmpR op_eq (pe_call (ok__law_next T) (hr.mono (by decide)) rfl T.m__law_next T.k__law_next T.b__law_next .nil pass0 (pa_cons (pv 0) (pa_cons pe_int pa_nil))) pe_int (nomark _))))))
  (pss_one (ps_set (i := 5) sc__law_hands.nd rfl (Or.inl rfl) (pe_ix ix_list (pv 2) pe_int (fun _ _ => rfl))))
  pss_nil)
  (pss_one (ps_expr (pe_bm PySem.F.plainAttrs_list PySem.F.slot_list_append PySem.F.type_list_append mt_append (pv 2) (pa_cons (pv 5) pa_nil))))))))
  (pss_one (ps_ret (pv 2)))))), ?_⟩
    refine q_setLV (α := Int × Int) c el_nil fun a H1 na g1 o1 => ?_
    have c1 := c.go g1
    refine q_setI c1 (ev_nextC rfl (by decide)) fun way H2 g2 hway => ?_
    have c2 := c1.go g2
    have o2 := o1.gd c1 g2
    refine q_forR1 c2 (ev_i0 (r := fun n => 1 ≤ n ∧ n ≤ most) ev_c (ev_next (r := fun j => 0 ≤ j ∧ j < most) rfl ev_vi (fun n e => by rw [e]; omega) fun n j e a b => ⟨a, by rw [← e]; exact b⟩) (fun i j e b => by subst e; omega)) fun n H3 g3 hn => ⟨by omega, ?_⟩
    refine ⟨fun j s2 H' => ∃ (ys : List (Int × Int)) (x y : Option V), s2 = [some (.ref p), some (.int most), some (.ref a), some (.int way), x, y] ∧ Gd (some (p, q)) H H' ∧ Own m H' a ys ∧ ys.length = j ∧ ∀ h, h ∈ ys → HandOk h,
      ⟨[], none, none, rfl, (g1.trans g2).trans g3, o2.gd c2 g3, rfl, by simp⟩, ?_, ?_⟩
    · rintro j s2 H' hj ⟨ys, x, y, rfl, g', o', hl, hy⟩
      have c' := c.go g'
      refine g_name ?_
      refine q_set (p := HandOk) c' (ev_pair (p := fun i : Int => 1 ≤ i ∧ i ≤ 10006) (q := fun i : Int => 0 ≤ i ∧ i ≤ 10006) (ev_i0 ev_c (ev_nextC rfl (by decide)) fun i j e b => by subst e; omega) ((ev_nextC rfl (by decide)).imp fun i e => by omega) fun i j a b => ⟨a.1, a.2, b.1, b.2⟩) fun hd v H4 g4 r4 hd4 => ?_
      have c4 := c'.go g4
      refine q_ifset (α := Int × Int) (p := HandOk) c4 (et_e (ev_eqV ev_vi ev_c)) (fun _ => ev_pair (p := fun i : Int => 1 ≤ i ∧ i ≤ 10006) (q := fun i : Int => 0 ≤ i ∧ i ≤ 10006)
        (ev_ixL (xs := [1, 2, 10006]) (el_lst (ei_consV ev_c (ei_consV ev_c (ei_consV ev_c ei_nil))) (fun xs e => by rw [e]; decide)).ev (ev_nextC rfl (by decide)) fun i b => ?_)
        (ev_ixL (xs := [0, 1, 10006]) (el_lst (ei_consV ev_c (ei_consV ev_c (ei_consV ev_c ei_nil))) (fun xs e => by rw [e]; decide)).ev (ev_nextC rfl (by decide)) fun i b => ?_) (fun i j a b => ⟨a.1, a.2, b.1, b.2⟩)) (fun _ => ⟨hd, v, rfl, r4, hd4⟩) fun hd v H5 g5 r5 hd5 => ?_
      · obtain ⟨x, hx, hm⟩ := atI_of (xs := ([1, 2, 10006] : List Int)) b.1 b.2
        refine ⟨x, hx, ?_⟩
        simp at hm
        omega
      · obtain ⟨x, hx, hm⟩ := atI_of (xs := ([0, 1, 10006] : List Int)) b.1 b.2
        refine ⟨x, hx, ?_⟩
        simp at hm
        omega
      have c5 := c4.go g5
      have o5 := (o'.gd c' g4).gd c4 g5
      refine q_ifset (α := Int × Int) (p := HandOk) (q := fun b => b = true → ys ≠ []) c5 (et_and (p := fun _ => True) (q := fun b => b = true → ys ≠ []) (et_e (ev_eqI (p := fun _ => True) (q := fun _ => True) (Ev.any ev_vi) (Ev.any ev_c) fun _ _ _ _ => trivial)) (fun _ => et_and (p := fun b => b = true → ys ≠ []) (q := fun _ => True)
        (et_e ((ev_neDV (ev_v rfl o5.rp) el_nil.ev (ok_hands _) (ok_hands _)).imp fun b e z => by rw [z] at e; simpa using e.symm)) (fun _ => et_e (ev_eqI (p := fun _ => True) (q := fun _ => True) (Ev.any (ev_nextC rfl (by decide))) (Ev.any ev_c) fun _ _ _ _ => trivial)) (fun _ z => by cases z) (fun b e _ _ => e rfl)) (fun _ z => by cases z) (fun b _ e => e))
        (fun e => ?_) (fun _ => ⟨hd, v, rfl, r5, hd5⟩) fun hd v H6 g6 r6 hd6 => ?_
      · have hne := e rfl
        have hpos : 0 < ys.length := List.length_pos_iff.mpr hne
        refine ev_ixL (xs := ys) (ev_v rfl o5.rp) ev_c fun i e => ?_
        subst e
        obtain ⟨x, hx, hm⟩ := atI_of (xs := ys) (i := 0) (by omega) (by omega)
        exact ⟨x, hx, hy x hm⟩
      have c6 := c5.go g6
      have o6 := o5.gd c5 g6
      refine s_app (α := Int × Int) (p := HandOk) c6 o6 rfl ((ev_v rfl r6).to hd6) (by omega) fun x H7 H8 g7 hx o8 e8 => ?_
      obtain ⟨vs, rfl⟩ := e8
      refine ⟨ys ++ [x], _, _, rfl, ?_, o8, by simp [hl], ?_⟩
      · exact mut_gd ((((g'.trans g4).trans g5).trans g6).trans g7) c na
      · intro h hh
        rcases List.mem_append.mp hh with z | z
        · exact hy h z
        · rw [List.mem_singleton.mp z]; exact hx
    · rintro s2 H' ⟨ys, x, y, rfl, g', o', hl, hy⟩
      refine ⟨_, rfl, k ys a H' na g' o' ⟨by omega, by show (ys.length : Int) ≤ most; omega, hy⟩⟩
theorem ok__law_keys (T : Txt K mg) : FnOk P w K mg base CX0 2 T.f__law_keys T.d__law_keys ["_law_h", "_law_many"] spKeys := by
  refine T.F__law_keys.ok sc__law_keys (fun vs H Q E h => ?_) (fun cdv A outer s H vs Q E hr h => ?_)
  · obtain ⟨p, q, m, x, ws, rfl, _, ⟨v, r, rfl, rk, rfl⟩, _⟩ := h
    rfl
  · obtain ⟨p, q, m, ⟨many, u⟩, ws, rfl, c, ⟨v, r, rfl, rk, rfl⟩, ⟨h0, h1⟩, k⟩ := h
    cases (show v = V.int many from rk)
    replace h0 : 0 ≤ many := h0
    replace h1 : many ≤ 1000 := h1
    refine ⟨_, (pss_cons (ps_setLc (i := 2) (own := [("_law_k", 3)]) (g := gName 3) (tt := tYes) rfl sc__law_keys.nd rfl rfl (sw_true rfl rfl rfl (by decide +kernel)) (pi_range1 rfl T.n_range (pa_cons pe_int pa_nil)) (blkOk_by (own := [("_law_k", 3)]) (N := N__law_keys) (sc := defScope s__law_keys) (by decide +kernel)) (fun _ _ _ _ _ => (pg_name (i := 3) sc__law_keys.nd rfl (Or.inl rfl) (.inr rfl))) (fun _ _ _ _ _ => pts_nil) (fun _ _ _ _ _ => (pe_call (ok__law_next T) (hr.mono (by decide)) rfl T.m__law_next T.k__law_next T.b__law_next .nil pass0 (pa_cons (pv 0) (pa_cons pe_int pa_nil)))))
  (pss_cons (ps_set (i := 4) sc__law_keys.nd rfl (Or.inl rfl) (pe_call (ok__law_next T) (hr.mono (by decide)) rfl T.m__law_next T.k__law_next T.b__law_next .nil pass0 (pa_cons (pv 0) (pa_cons pe_int pa_nil))))
  (pss_cons (ps_set (i := 5) sc__law_keys.nd rfl (Or.inl rfl) (pe_lst pa_nil))
  (pss_cons (ps_for PassesOwn.never rfl (pi_range1 rfl T.n_range (pa_cons (pv 1) pa_nil)) (pg_name (i := 3) sc__law_keys.nd rfl (Or.inl rfl))
  (pss_one (ps_expr (pe_bm PySem.F.plainAttrs_list PySem.F.slot_list_append PySem.F.type_list_append mt_append (pv 5) (pa_cons (pe_ix ix_list (pe_lst (pa_cons (pe_ix ix_list (pv 2) (pe_call (ok__law_next T) (hr.mono (by decide)) rfl T.m__law_next T.k__law_next T.b__law_next .nil pass0 (pa_cons (pv 0) (pa_cons pe_int pa_nil))) (fun _ _ => rfl)) (pa_cons (pe_call (ok__law_next T) (hr.mono (by decide)) rfl T.m__law_next T.k__law_next T.b__law_next .nil pass0 (pa_cons (pv 0) (pa_cons pe_int pa_nil))) (pa_cons (pe_call (ok__law_next T) (hr.mono (by decide)) rfl T.m__law_next T.k__law_next T.b__law_next .nil pass0 (pa_cons (pv 0) (pa_cons pe_int pa_nil))) pa_nil)))) (pv 4) (fun _ _ => rfl)) pa_nil)))))
  (pss_one (ps_ret (pv 5))))))), ?_⟩
    refine q_setL (p := KeysOk 4) c (el_lcR1 (β := Int) (q := fun n => n = 4) (fun n j acc => acc.length = j ∧ ∀ y, y ∈ acc → KeyOk y) ev_c (fun n e => by subst e; decide) (fun n e => ⟨rfl, by simp⟩) (fun n j H1 acc e hj g c1 hI => ⟨fun b => b = true, KeyOk, lcT_name rfl tYes_ok fun _ => (ev_nextC rfl (by decide)), fun y _ hy => ⟨by simp [hI.1], fun z hz => ?_⟩, fun z => by cases z⟩) fun n acc e hI => ⟨by rw [hI.1, e]; rfl, hI.2⟩) fun few af H1 nf g1 of hfew => ?_
    · rcases List.mem_append.mp hz with z1 | z1
      · exact hI.2 z z1
      · rw [List.mem_singleton.mp z1]; exact hy
    have c1 := c.go g1
    refine q_setI c1 (ev_nextC rfl (by decide)) fun way H2 g2 hway => ?_
    have c2 := c1.go g2
    have of2 := of.gd c1 g2
    refine q_setLV (α := Int) c2 el_nil fun a H3 na g3 o3 => ?_
    have c3 := c2.go g3
    have of3 := of2.gd c2 g3
    have na0 : H a = none := g1.gr.dom a (g2.gr.dom a na)
    refine q_forR1 c3 ev_vi fun n H4 g4 hn => ⟨by subst hn; omega, ?_⟩
    subst hn
    have g04 : Gd (some (p, q)) H H4 := ((g1.trans g2).trans g3).trans g4
    have c4 := c3.go g4
    have of4 := of3.gd c3 g4
    have hlf : (few.length : Int) = 4 := hfew.1
    refine ⟨fun j s2 H' => ∃ (ys : List Int) (x : Option V), s2 = [some (.ref p), some (.int n), some (.ref af), x, some (.int way), some (.ref a)] ∧ Gd (some (p, q)) H H' ∧ Own m H' af few ∧ Own m H' a ys ∧ ys.length = j ∧ ∀ h, h ∈ ys → KeyOk h,
      ⟨[], none, rfl, g04, of4, o3.gd c3 g4, rfl, by simp⟩, ?_, ?_⟩
    · rintro j s2 H' hj ⟨ys, x, rfl, g', off, o', hl, hy⟩
      have c' := c.go g'
      refine g_name ?_
      refine s_app (α := Int) (p := KeyOk) c' o' rfl (ev_ixL' (el_lst (p := fun xs : List Int => xs.length = 3 ∧ ∀ y, y ∈ xs → KeyOk y) (ei_cons (p := KeyOk) (q := fun xs : List Int => xs.length = 2 ∧ ∀ y, y ∈ xs → KeyOk y) (ev_ixL (xs := few) (ev_v rfl off.rp) (ev_nextC rfl (by decide)) fun i b => ?_)
        (ei_cons (p := KeyOk) (q := fun xs : List Int => xs.length = 1 ∧ ∀ y, y ∈ xs → KeyOk y) ((ev_nextC rfl (by decide)).imp fun i b => ⟨b.1, by omega⟩) (ei_cons (p := KeyOk) (q := fun xs : List Int => xs = []) (ev_nextC rfl (by decide)) ei_nil fun x xs hx e => by subst e; simp [hx]) fun x xs hx e => ⟨by simp [e.1], by simpa [hx] using e.2⟩)
        fun x xs hx e => ⟨by simp [e.1], by simpa [hx] using e.2⟩) fun xs e => by omega).ev ev_vi fun xs i hxs e => ?_) (by omega) fun x H7 H8 g7 hx o8 e8 => ?_
      · obtain ⟨x, hx, hm⟩ := atI_of (xs := few) b.1 (by omega)
        exact ⟨x, hx, hfew.2 x hm⟩
      · obtain ⟨x, hx, hm⟩ := atI_of (xs := xs) (i := way) hway.1 (by omega)
        exact ⟨x, by rw [e]; exact hx, hxs.2 x hm⟩
      · obtain ⟨vs, rfl⟩ := e8
        have off7 := off.gd c' g7
        have nfa : af ≠ a := fun e => by
          obtain ⟨vf, hvf, _⟩ := of2.ex
          rw [e, na] at hvf
          cases hvf
        obtain ⟨va, ha7, _⟩ := (o'.gd c' g7).ex
        refine ⟨ys ++ [x], _, rfl, mut_gd (g'.trans g7) c na0, off7.upd_ne nfa ha7 (fun _ z => by cases z), o8, by simp [hl], ?_⟩
        · intro h hh
          rcases List.mem_append.mp hh with z | z
          · exact hy h z
          · rw [List.mem_singleton.mp z]; exact hx
    · rintro s2 H' ⟨ys, x, rfl, g', off, o', hl, hy⟩
      refine ⟨_, rfl, k ys a H' na0 g' o' ⟨by show (ys.length : Int) = n; omega, hy⟩⟩
theorem ok__law_cells (T : Txt K mg) : FnOk P w K mg base CX0 1 T.f__law_cells T.d__law_cells ["_law_hands_here", "_law_size", "_law_key"]
    (SpL (fun x : List (Int × Int) × Int × Int × Unit => x.1.length ≤ 90000 ∧ 0 < x.2.1 ∧ -(2 ^ 64) < x.2.2.1 ∧ x.2.2.1 < 2 ^ 64) fun x => pointed x.1 x.2.1 x.2.2.1) := by
  refine T.F__law_cells.ok sc__law_cells (fun vs H Q E h => ?_) (fun cdv A outer s H vs Q E hr h => ?_)
  · obtain ⟨m, x, c, ⟨v, r, rfl, rk, ⟨v2, r2, rfl, rk2, ⟨v3, r3, rfl, rk3, rfl⟩⟩⟩, _⟩ := h
    rfl
  · obtain ⟨m, ⟨hands, size, key, u⟩, c, ⟨v, r, rfl, rk, ⟨v2, r2, rfl, rk2, ⟨v3, r3, rfl, rk3, rfl⟩⟩⟩, ⟨hl, h1, h2⟩, k⟩ := h
    cases (show v2 = V.int size from rk2)
    cases (show v3 = V.int key from rk3)
    refine ⟨_, (pss_one (ps_ret (pe_lc (own := [("_law_hand", 3)]) (g := gName 3) (tt := tYes) (by rfl) sc__law_cells.nd (pi_list (pv 0)) (blkOk_by (own := [("_law_hand", 3)]) (N := N__law_cells) (sc := defScope s__law_cells) (by decide +kernel)) (fun _ _ _ _ _ => (pg_name (i := 3) sc__law_cells.nd rfl (Or.inl rfl) (.inr rfl))) (fun _ _ _ _ _ => pts_nil) (fun _ _ _ _ _ => (pe_op op_mod (pe_op op_mod (pe_op op_add (pe_op op_mul (pv 2) (pe_ix (show IxR _ (rIxT K) from ix_tup) (pv 3) pe_int (fun _ _ => rfl))) (pe_ix (show IxR _ (rIxT K) from ix_tup) (pv 3) pe_int (fun _ _ => rfl))) pe_int) (pv 1)))))), ?_⟩
    refine s_retLV c (el_map (fun h : Int × Int => (key * h.1 + h.2) % 10007 % size) (ev_v rfl rk) hl fun x v H1 _ g c1 r => lcT_name rfl tYes_ok fun _ => ?_) fun a H1 n g o => k a H1 n g.gr0 o
    exact ev_oC (ev_oC (ev_o (ev_oC ev_vi (ev_ix0 (ev_v rfl r)) (.inl h2)) (ev_ix1 (ev_v rfl r))) ev_c (by decide)) ev_vi h1
theorem ok__law_are (T : Txt K mg) : FnOk P w K mg base CX0 1 T.f__law_are T.d__law_are ["_law_found", "_law_due"]
    (SpF (fun x : List Int × List Int × Unit => x.2.1.length ≤ 90000) fun x => decide (x.1 = x.2.1)) := by
  refine T.F__law_are.ok sc__law_are (fun vs H Q E h => ?_) (fun cdv A outer s H vs Q E hr h => ?_)
  · obtain ⟨m, x, c, ⟨v, r, rfl, rk, ⟨v2, r2, rfl, rk2, rfl⟩⟩, _⟩ := h
    rfl
  · obtain ⟨m, ⟨found, due, u⟩, c, ⟨v, r, rfl, rk, ⟨v2, r2, rfl, rk2, rfl⟩⟩, hl, k⟩ := h
    dsimp only at rk rk2 hl k
    refine ⟨_, (pss_cons (ps_if (PW.pt (pw_or (pt_not (pt_val (pe_callB call_isi (by rfl) T.n_isinstance (by decide +kernel) (pa_cons (pv 0) (pa_cons (pe_bltn (v := .ty "list") rfl T.n_list (by decide +kernel) rfl) pa_nil))))) (pw_or1 (pt_cmpR op_ne (pe_callB call_len_seq (by rfl) T.n_len (by decide +kernel) (pa_cons (pv 0) pa_nil)) (pe_callB call_len_seq (by rfl) T.n_len (by decide +kernel) (pa_cons (pv 1) pa_nil)) (nomark _)))))
  (pss_one (ps_ret pe_bl))
  pss_nil)
  (pss_cons (ps_for PassesOwn.never rfl (pi_range1 rfl T.n_range (pa_cons (pe_callB call_len_seq (by rfl) T.n_len (by decide +kernel) (pa_cons (pv 1) pa_nil)) pa_nil)) (pg_name (i := 2) sc__law_are.nd rfl (Or.inl rfl))
  (pss_one (ps_if (PW.pt (pw_or (pt_val (pe_callB call_isi (by rfl) T.n_isinstance (by decide +kernel) (pa_cons (pe_ix ix_list (pv 0) (pv 2) (fun _ _ => rfl)) (pa_cons (pe_bltn (v := .ty "bool") rfl T.n_bool (by decide +kernel) rfl) pa_nil)))) (pw_or (pt_not (pt_val (pe_callB call_isi (by rfl) T.n_isinstance (by decide +kernel) (pa_cons (pe_ix ix_list (pv 0) (pv 2) (fun _ _ => rfl)) (pa_cons (pe_bltn (v := .ty "int") rfl T.n_int (by decide +kernel) rfl) pa_nil))))) (pw_or1 (pt_cmpR op_ne (pe_ix ix_list (pv 0) (pv 2) (fun _ _ => rfl)) (pe_ix ix_list (pv 1) (pv 2) (fun _ _ => rfl)) (nomark _))))))
  (pss_one (ps_ret pe_bl))
  pss_nil)))
  (pss_one (ps_ret pe_bl)))), ?_⟩
    refine q_whenV c (et_orV (et_notV (et_B (ev_isL (b := true) (ev_v rfl rk)))) fun _ => et_e (ev_neV (ev_len (ev_v rfl rk)) (ev_len (ev_v rfl rk2)))) (fun e H1 g => ?_) (fun e H1 g => ?_)
    · refine s_retV (c.go g) ev_b fun v H2 g2 rb => k v H2 (g.trans g2).gr0 ?_
      have : found ≠ due := fun z => by simp [z] at e
      show Rp.rp m H2 (decide (found = due)) v
      rw [decide_eq_false this]; exact rb
    · have hlen : found.length = due.length := by
        simp at e
        omega
      have c1 := c.go g
      refine q_forR1 c1 (ev_len (ev_v rfl (rp_gd rk2 c g))) fun n H2 g2 hn => ⟨by subst hn; omega, ?_⟩
      subst hn
      refine ⟨fun j s2 H' => ∃ x : Option V, s2 = [some v, some v2, x] ∧ Gd none H H' ∧ found.take j = due.take j, ⟨none, rfl, g.trans g2, rfl⟩, ?_, ?_⟩
      · rintro j s2 H' hj ⟨x, rfl, g', he⟩
        have hj1 : j < found.length := by omega
        have hj2 : j < due.length := by omega
        have c' := c.go g'
        have r1 := rp_gd rk c g'
        have r2 := rp_gd rk2 c g'
        refine g_name ?_
        have i1 : EvV none m (tOp (rIxL K) (tVar 0) (tVar 2)) [some v, some v2, some (V.int (j : Int))] H' found[j] := ev_ixLV (ev_v rfl r1) ev_vi (atI_nat (List.getElem?_eq_getElem hj1))
        have i2 : EvV none m (tOp (rIxL K) (tVar 1) (tVar 2)) [some v, some v2, some (V.int (j : Int))] H' due[j] := ev_ixLV (ev_v rfl r2) ev_vi (atI_nat (List.getElem?_eq_getElem hj2))
        refine s_whenV c' (et_orV (et_B (ev_isI (b := false) i1)) fun _ => et_orV (et_notV (et_B (ev_isI (b := true) i1))) fun _ => et_e (ev_neV i1 i2)) (fun e H3 g3 => ?_) (fun e H3 g3 => ?_)
        · refine s_retV (c'.go g3) ev_b fun v H4 g4 rb => k v H4 ((g'.trans g3).trans g4).gr0 ?_
          have : found ≠ due := fun z => by simp [z] at e
          show Rp.rp m H4 (decide (found = due)) v
          rw [decide_eq_false this]; exact rb
        · refine ⟨_, rfl, g'.trans g3, ?_⟩
          have e' : found[j] = due[j] := by simpa using e
          rw [List.take_add_one, List.take_add_one, he, List.getElem?_eq_getElem hj1, List.getElem?_eq_getElem hj2, e']
      · rintro s2 H' ⟨x, rfl, g', he⟩
        refine s_retV (c.go g') ev_b fun v H4 g4 rb => k v H4 (g'.trans g4).gr0 ?_
        have hz : ((due.length : Int)).toNat = due.length := by omega
        rw [hz, List.take_length, ← hlen, List.take_length] at he
        show Rp.rp m H4 (decide (found = due)) v
        rw [decide_eq_true he]; exact rb

theorem ok_BadSieve_init (T : Txt K mg) : FnOk P w K mg base CX0 1 T.f_BadSieve_init T.d_BadSieve_init ["self", "why"] (spErrI T.c_BadSieve "why") := by
  refine T.F_BadSieve_init.ok sc_BadSieve_init (fun vs H Q E h => ?_) (fun cdv A outer s H vs Q E hr h => ?_)
  · obtain ⟨a, v, rfl, _⟩ := h
    rfl
  · obtain ⟨a, v, rfl, ha, k⟩ := h
    refine ⟨_, (pss_one (ps_ost (pv 0) (pv 1))), ?_⟩
    exact ⟨_, rfl, _, rfl, a, T.c_BadSieve, rfl, T.ox_BadSieve, T.xn_BadSieve_why, .inl ⟨ha, fun dx hd ne => k dx hd ne⟩⟩
theorem ok_Stuck_init (T : Txt K mg) : FnOk P w K mg base CX0 1 T.f_Stuck_init T.d_Stuck_init ["self", "cells"] (spErrI T.c_Stuck "cells") := by
  refine T.F_Stuck_init.ok sc_Stuck_init (fun vs H Q E h => ?_) (fun cdv A outer s H vs Q E hr h => ?_)
  · obtain ⟨a, v, rfl, _⟩ := h
    rfl
  · obtain ⟨a, v, rfl, ha, k⟩ := h
    refine ⟨_, (pss_one (ps_ost (pv 0) (pv 1))), ?_⟩
    exact ⟨_, rfl, _, rfl, a, T.c_Stuck, rfl, T.ox_Stuck, T.xn_Stuck_cells, .inl ⟨ha, fun dx hd ne => k dx hd ne⟩⟩
theorem ok_NoSieve_init (T : Txt K mg) : FnOk P w K mg base CX0 1 T.f_NoSieve_init T.d_NoSieve_init ["self", "paper"] (spErrI T.c_NoSieve "paper") := by
  refine T.F_NoSieve_init.ok sc_NoSieve_init (fun vs H Q E h => ?_) (fun cdv A outer s H vs Q E hr h => ?_)
  · obtain ⟨a, v, rfl, _⟩ := h
    rfl
  · obtain ⟨a, v, rfl, ha, k⟩ := h
    refine ⟨_, (pss_one (ps_ost (pv 0) (pv 1))), ?_⟩
    exact ⟨_, rfl, _, rfl, a, T.c_NoSieve, rfl, T.ox_NoSieve, T.xn_NoSieve_paper, .inl ⟨ha, fun dx hd ne => k dx hd ne⟩⟩
theorem ok_BadText_init (T : Txt K mg) : FnOk P w K mg base CX0 1 T.f_BadText_init T.d_BadText_init ["self", "row"] (spErrI T.c_BadText "row") := by
  refine T.F_BadText_init.ok sc_BadText_init (fun vs H Q E h => ?_) (fun cdv A outer s H vs Q E hr h => ?_)
  · obtain ⟨a, v, rfl, _⟩ := h
    rfl
  · obtain ⟨a, v, rfl, ha, k⟩ := h
    refine ⟨_, (pss_one (ps_ost (pv 0) (pv 1))), ?_⟩
    exact ⟨_, rfl, _, rfl, a, T.c_BadText, rfl, T.ox_BadText, T.xn_BadText_row, .inl ⟨ha, fun dx hd ne => k dx hd ne⟩⟩
theorem ok__law_refused (T : Txt K mg) : FnOk P w K mg base CX0 3 T.f__law_refused T.d__law_refused ["_law_hands_here", "_law_size", "_law_key"]
    (SpF (fun x : List (Int × Int) × Int × Int × Unit => x.1.length ≤ 90000 ∧ 0 < x.2.1 ∧ ¬ (0 ≤ x.2.2.1 ∧ x.2.2.1 < 10007)) fun _ => true) := by
  refine T.F__law_refused.ok sc__law_refused (fun vs H Q E h => ?_) (fun cdv A outer s H vs Q E hr h => ?_)
  · obtain ⟨m, x, c, ⟨v, r, rfl, rk, ⟨v2, r2, rfl, rk2, ⟨v3, r3, rfl, rk3, rfl⟩⟩⟩, _⟩ := h
    rfl
  · obtain ⟨m, ⟨hands, size, key, u⟩, c, ⟨v, r, rfl, rk, ⟨v2, r2, rfl, rk2, ⟨v3, r3, rfl, rk3, rfl⟩⟩⟩, ⟨hl, h1, h2⟩, k⟩ := h
    cases (show v2 = V.int size from rk2)
    cases (show v3 = V.int key from rk3)
    dsimp only at rk hl h1 h2 k
    refine ⟨_, (pss_cons (ps_try_as (i := 3) rfl rfl sc__law_refused.nd rfl rfl ⟨rfl, by decide, .inl T.m_SieveError⟩ takes0 (fun W pn xe tk po => (pss_one (ps_expr (pe_callS (ok_places T) (hr.mono (by decide)) rfl T.m_places T.k_places T.b_places (fun s => passAt tk s) (pa_cons (pv 0) (pa_cons (pv 1) (pa_cons (pv 2) pa_nil)))))))
  (fun a oe cls d pn hz hf => (pss_cons (ps_set (i := 4) sc__law_refused.nd rfl (Or.inl rfl) (pe_callB (call_isXT hz hf) (by rfl) T.n_isinstance (by decide +kernel) (pa_cons (pv 3) (pa_cons (pe_tup (pa_cons (pe_glob (v := .ref T.c_BadSieve) rfl T.m_BadSieve rfl) (pa_cons (pe_glob (v := .ref T.c_BadText) rfl T.m_BadText rfl) (pa_cons (pe_glob (v := .ref T.c_NoSieve) rfl T.m_NoSieve rfl) (pa_cons (pe_glob (v := .ref T.c_NotIn) rfl T.m_NotIn rfl) (pa_cons (pe_glob (v := .ref T.c_Stuck) rfl T.m_Stuck rfl) (pa_cons (pe_glob (v := .ref T.c_Unlike) rfl T.m_Unlike rfl) pa_nil))))))) pa_nil))))
  (pss_one (ps_ret (pe_and (pe_callB (call_isX hz hf) (by rfl) T.n_isinstance (by decide +kernel) (pa_cons (pv 3) (pa_cons (pe_glob (v := .ref T.c_BadKey) rfl T.m_BadKey rfl) pa_nil))) (pe_and (pe_callB (call_isX hz hf) (by rfl) T.n_isinstance (by decide +kernel) (pa_cons (pv 3) (pa_cons (pe_bltn (v := .ty "ValueError") rfl T.n_ValueError (by decide +kernel) rfl) pa_nil))) (pe_one (pe_not (pv 4))))))))))
  (pss_one (ps_ret pe_bl))), ?_⟩
    have hp : places hands size key = .error .badKey := if_neg h2
    refine sq ?_
    show tDrop _ _ _ _
    refine (s_dropX c (EvXL.x (ex_callLS (x := (hands, size, key, ())) (ea_c (ev_v rfl rk) (ea_c ev_vi (ea_c ev_vi ea_nil))) ⟨hl, h1⟩)) (fun x hx H1 g => ?_) (fun e he cl d H1 g z => ?_))
    · change places hands size key = _ at hx
      rw [hp] at hx
      cases hx
    · change places hands size key = _ at he
      rw [hp] at he
      cases he
      obtain ⟨rfl, rfl⟩ := z
      refine ⟨true, T.em_BadKey_SieveError, fun _ a ha => ?_, fun z => by cases z⟩
      have c1 := c.go g
      refine q_setBV c1 (ev_isXT (C := T.c_BadKey) (fun _ _ h => h) rfl rfl T.is_BadKey trivial (fun _ z => by cases z) (by show 6 ≤ 100; decide) (.cons (.own _) (.cons (.own _) (.cons (.own _) (.cons (.own _) (.cons (.own _) (.cons (.own _) .nil))))))
        (kany_f T.ki_BadKey_BadSieve (kany_f T.ki_BadKey_BadText (kany_f T.ki_BadKey_NoSieve (kany_f T.ki_BadKey_NotIn (kany_f T.ki_BadKey_Stuck (kany_f T.ki_BadKey_Unlike kitAny_nil))))))) fun H2 g2 => ?_
      have c2 := c1.go g2
      refine s_retV c2 (ev_andV (ev_isX (C := T.c_BadKey) rfl rfl T.is_BadKey trivial (fun _ z => by cases z) (.own _) T.ki_BadKey_BadKey) fun _ => ev_andV (ev_isX (C := T.c_BadKey) rfl rfl T.is_BadKey trivial (fun _ z => by cases z) (.ty _) T.ki_BadKey_ValueError) fun _ => ev_notV ev_vb) fun v H3 g3 r3 => ?_
      exact k v H3 ((g.trans g2).trans g3).gr0 r3
theorem ok_law (T : Txt K mg) {f : Addr} {fd : FuncData} (F : Fun K "law" "law" s_law f fd) : FnOk P w K mg base CX0 4 f fd ["_law_script"] (spLaw K) := by
  refine F.ok sc_law (fun vs H Q E h => ?_) (fun cdv A outer s H vs Q E hr h => ?_)
  · obtain ⟨a, ns, rfl, _⟩ := h
    rfl
  · obtain ⟨a, ns, rfl, hS, hl, k⟩ := h
    refine ⟨_, (pss_cons (ps_set (i := 1) sc_law.nd rfl (Or.inl rfl) (pe_call (ok__law_mix T) (hr.mono (by decide)) rfl T.m__law_mix T.k__law_mix T.b__law_mix .nil pass0 (pa_cons (pv 0) (pa_cons pe_int pa_nil))))
  (pss_cons (ps_for PassesOwn.never rfl (pi_range1 rfl T.n_range (pa_cons pe_int pa_nil)) (pg_name (i := 2) sc_law.nd rfl (Or.inl rfl))
  (pss_cons (ps_set (i := 3) sc_law.nd rfl (Or.inl rfl) (pe_call (ok__law_hands T) (hr.mono (by decide)) rfl T.m__law_hands T.k__law_hands T.b__law_hands .nil pass0 (pa_cons (pv 1) (pa_cons pe_int pa_nil))))
  (pss_cons (ps_set (i := 4) sc_law.nd rfl (Or.inl rfl) (pe_op op_add pe_int (pe_call (ok__law_next T) (hr.mono (by decide)) rfl T.m__law_next T.k__law_next T.b__law_next .nil pass0 (pa_cons (pv 1) (pa_cons pe_int pa_nil)))))
  (pss_cons (ps_set (i := 5) sc_law.nd rfl (Or.inl rfl) (pe_callTy call_list_of (by rfl) T.n_list (by decide +kernel) (pa_cons (pv 3) pa_nil)))
  (pss_cons (ps_for PassesOwn.never rfl (pi_list (pe_op op_cat (pe_call (ok__law_keys T) (hr.mono (by decide)) rfl T.m__law_keys T.k__law_keys T.b__law_keys .nil pass0 (pa_cons (pv 1) (pa_cons pe_int pa_nil))) (pe_lst (pa_cons pe_int (pa_cons pe_int pa_nil))))) (pg_name (i := 6) sc_law.nd rfl (Or.inl rfl))
  (pss_one (ps_for PassesOwn.never rfl (pi_range1 rfl T.n_range (pa_cons pe_int pa_nil)) (pg_name (i := 7) sc_law.nd rfl (Or.inl rfl))
  (pss_cons (ps_set (i := 8) sc_law.nd rfl (Or.inl rfl) (pe_call (ok_places T) (hr.mono (by decide)) rfl T.m_places T.k_places T.b_places .nil passL (pa_cons (pv 5) (pa_cons (pv 4) (pa_cons (pv 6) pa_nil)))))
  (pss_cons (ps_if (pt_not (pt_val (pe_call (ok__law_are T) (hr.mono (by decide)) rfl T.m__law_are T.k__law_are T.b__law_are .nil pass0 (pa_cons (pv 8) (pa_cons (pe_call (ok__law_cells T) (hr.mono (by decide)) rfl T.m__law_cells T.k__law_cells T.b__law_cells .nil pass0 (pa_cons (pv 3) (pa_cons (pv 4) (pa_cons (pv 6) pa_nil)))) pa_nil)))))
  (pss_one (ps_ret pe_bl))
  pss_nil)
  (pss_one (ps_expr (pe_bm PySem.F.plainAttrs_list PySem.F.slot_list_append PySem.F.type_list_append mt_append (pv 8) (pa_cons pe_int pa_nil)))))))))
  (pss_cons (ps_set (i := 9) sc_law.nd rfl (Or.inl rfl) (pe_call (ok__law_next T) (hr.mono (by decide)) rfl T.m__law_next T.k__law_next T.b__law_next .nil pass0 (pa_cons (pv 1) (pa_cons (pe_op op_pow pe_int pe_int) pa_nil))))
  (pss_cons (ps_set (i := 10) sc_law.nd rfl (Or.inl rfl) (pe_ix ix_list (pe_lst (pa_cons (pe_un un_neg pe_int) (pa_cons pe_int (pa_cons (pe_op op_sub (pe_un un_neg pe_int) (pv 9)) (pa_cons (pe_op op_add pe_int (pv 9)) pa_nil))))) (pe_call (ok__law_next T) (hr.mono (by decide)) rfl T.m__law_next T.k__law_next T.b__law_next .nil pass0 (pa_cons (pv 1) (pa_cons pe_int pa_nil))) (fun _ _ => rfl)))
  (pss_one (ps_if (PW.pt (pw_or (pt_cmpR (op_neD hr.units) (pv 5) (pv 3) (nomark _)) (pw_or1 (pt_not (pt_val (pe_call (ok__law_refused (P := P) (w := w) (base := base) T) (hr.mono (by decide)) rfl T.m__law_refused T.k__law_refused T.b__law_refused .nil pass0 (pa_cons (pv 3) (pa_cons (pv 4) (pa_cons (pv 10) pa_nil)))))))))
  (pss_one (ps_ret pe_bl))
  pss_nil)))))))))
  (pss_one (ps_ret pe_bl)))), ?_⟩
    refine q_rawA ⟨_, rfl, a, ns, 11, rfl, hS, hl, fun p q H1 np nq npq g1 d1 => g_name ?_⟩
    have c1 := cc_draw d1
    refine q_forR1 c1 ev_c fun n H2 g2 hn => ⟨by subst hn; decide, ?_⟩
    subst hn
    refine ⟨fun j s2 H' => ∃ x2 x3 x4 x5 x6 x7 x8 x9 x10 : Option V, s2 = [some (.ref a), some (.ref p), x2, x3, x4, x5, x6, x7, x8, x9, x10] ∧ DrawAt p q H', ⟨none, none, none, none, none, none, none, none, none, rfl, (c1.go g2).ok⟩, ?_, ?_⟩
    · rintro j s2 H' hj ⟨x2, x3, x4, x5, x6, x7, x8, x9, x10, rfl, d'⟩
      have c' := cc_draw d'
      refine g_name ?_
      -- hands, size, handed
      refine q_setL (p := HandsOk 6) c' (el_drawn rfl (ea_c ev_c ea_nil) fun x e => by subst e; exact ⟨⟨by decide, by decide⟩, fun y z => z⟩) fun hands ah H3 nh g3 oh hh => ?_
      have c3 := c'.go g3
      refine q_setI (p := fun n => 1 ≤ n ∧ n ≤ 96) c3 (ev_i0 ev_c (ev_nextC rfl (by decide)) fun i j e b => by subst e; omega) fun size H4 g4 hs => ?_
      have c4 := c3.go g4
      have rh4 := (oh.gd c3 g4).rp
      refine q_setLV c4 (el_list (ev_v rfl rh4)) fun ad H5 nd g5 od => ?_
      have c5 := c4.go g5
      have rh5 := rp_gd rh4 c4 g5
      have rd5 := od.rp
      have hlen : hands.length ≤ 90000 := by have := hh.2.1; omega
      -- for key in ..
      refine q_forLP (p := fun ks : List Int => ∀ x, x ∈ ks → KeyOk x) c5 (el_catP (p := KeysOk 3) (q := fun ks : List Int => ks = [0, 10006]) (el_drawn rfl (ea_c ev_c ea_nil) fun x e => by subst e; exact ⟨⟨by decide, by decide⟩, fun y z => z⟩).ev
        (el_lst (ei_consV ev_c (ei_consV ev_c ei_nil)) fun xs e => by rw [e]; decide).ev (fun xs ys a b => by subst b; have := a.1; exact ⟨by omega, by decide⟩) fun xs ys a b x hx => ?_).ev fun ks ak vk H6 hk g6 nk hak pk => ?_
      · subst b
        rcases List.mem_append.mp hx with z | z
        · exact a.2 x z
        · have : x = 0 ∨ x = 10006 := by simpa using z
          unfold KeyOk
          omega
      have c6 := c5.go g6
      refine ⟨fun i s2 H' => ∃ y6 y7 y8 : Option V, s2 = [some (.ref a), some (.ref p), some (.int (j : Int)), some (.ref ah), some (.int size), some (.ref ad), y6, y7, y8, x9, x10] ∧ Gd (some (p, q)) H6 H', ⟨x6, x7, x8, rfl, .refl⟩, fun i s2 H' ⟨_, _, _, _, g⟩ => g.gr.keep ak _ hak nk, ?_, ?_⟩
      · rintro i key v s2 H7 hi rv ⟨y6, y7, y8, rfl, g7⟩
        cases rp_int rv
        have hkey := hk key (List.mem_of_getElem? hi)
        have c7 := c6.go g7
        refine g_name ?_
        -- for time in range(2)
        refine s_forR1 c7 ev_c fun n H8 g8 hn => ⟨by subst hn; decide, ?_⟩
        subst hn
        refine ⟨fun t s2 H' => ∃ y7 y8 : Option V, s2 = [some (.ref a), some (.ref p), some (.int (j : Int)), some (.ref ah), some (.int size), some (.ref ad), some (.int key), y7, y8, x9, x10] ∧ Gd (some (p, q)) H6 H', ⟨y7, y8, rfl, g7.trans g8⟩, ?_, ?_⟩
        · rintro t s2 H9 ht ⟨y7, y8, rfl, g9⟩
          have c9 := c6.go g9
          have g59 := g6.trans g9
          have rh9 := rp_gd rh5 c5 g59
          have rd9 := rp_gd rd5 c5 g59
          refine g_name ?_
          have hpl : places hands size key = .ok (pointed hands size key) := if_pos hkey
          refine q_setLV c9 ((ex_callL (x := (hands, size, key, ())) (ea_c (ev_v rfl rd9) (ea_c ev_vi (ea_c ev_vi ea_nil))) ⟨hlen, by show 0 < size; omega⟩).ok hpl) fun af H10 nf g10 of => ?_
          have c10 := c9.go g10
          have rh10 := rp_gd rh9 c9 g10
          refine q_skip c10 (et_notV (et_B (ev_callV (x := (pointed hands size key, pointed hands size key, ())) (ea_c (ev_v rfl of.rp) (ea_c (el_callV (x := (hands, size, key, ())) (ea_c (ev_v rfl rh10) (ea_c ev_vi (ea_c ev_vi ea_nil))) ⟨hlen, by show 0 < size; omega, by have := hkey.1; show -(2 ^ 64) < key; omega, by have := hkey.2; show key < 2 ^ 64; omega⟩).ev ea_nil)) (by simp [pointed]; omega)))) (fun b e => by simpa using e) fun H11 g11 => ?_
          have c11 := c10.go g11
          refine s_app (α := Int) (p := fun x => x = 0) c11 (of.gd c10 g11) rfl ev_c (by simp [pointed]; omega) fun x H12 H13 g12 hx o13 e13 => ?_
          obtain ⟨vs, rfl⟩ := e13
          exact ⟨_, _, rfl, mut_gd (((g9.trans g10).trans g11).trans g12) c6 (g9.gr.dom af nf)⟩
        · rintro s2 H9 ⟨y7, y8, rfl, g9⟩
          exact ⟨_, _, _, rfl, g9⟩
      · rintro s2 H7 ⟨y6, y7, y8, rfl, g7⟩
        have c7 := c6.go g7
        have g57 := g6.trans g7
        have rh7 := rp_gd rh5 c5 g57
        have rd7 := rp_gd rd5 c5 g57
        refine q_setI (p := fun n => 0 ≤ n ∧ n < 1000000) c7 (ev_next rfl (ev_oC ev_c ev_c ⟨by decide, by decide, by decide⟩) (fun n e => by subst e; decide) fun n j e h0 h1 => by subst e; exact ⟨h0, h1⟩) fun far H8 g8 hf => ?_
        have c8 := c7.go g8
        refine q_setI (p := fun n => ¬ (0 ≤ n ∧ n < 10007)) c8 (ev_ixL (xs := [-1, 10007, -2 - far, 10008 + far]) (el_lst (ei_consV (ev_un (r := fun i => i = -1) ev_c fun i e => by rw [e]) (ei_consV ev_c (ei_consV (ev_o (ev_un (r := fun i => i = -2) ev_c fun i e => by rw [e]) ev_vi) (ei_consV (ev_o ev_c ev_vi) ei_nil)))) fun xs e => by rw [e]; show 4 ≤ 100000; decide).ev (ev_nextC rfl (by decide)) fun i b => ?_) fun bad H9 g9 hb => ?_
        · obtain ⟨x, hx, hm⟩ := atI_of (xs := ([-1, 10007, -2 - far, 10008 + far] : List Int)) b.1 b.2
          refine ⟨x, hx, ?_⟩
          simp at hm
          omega
        have c9 := c8.go g9
        have rh9 := rp_gd (rp_gd rh7 c7 g8) c8 g9
        have rd9 := rp_gd (rp_gd rd7 c7 g8) c8 g9
        refine s_skip c9 (et_orV (et_e (ev_neDV (ev_v rfl rd9) (ev_v rfl rh9) (ok_hands _) (ok_hands _))) fun _ => et_notV (et_B (ev_callV (x := (hands, size, bad, ())) (ea_c (ev_v rfl rh9) (ea_c ev_vi (ea_c ev_vi ea_nil))) ⟨hlen, by show 0 < size; omega, hb⟩))) (fun b e => by simpa using e) fun H10 g10 => ?_
        exact ⟨_, _, _, _, _, _, _, _, _, rfl, (c9.go g10).ok⟩
    · rintro s2 H' ⟨x2, x3, x4, x5, x6, x7, x8, x9, x10, rfl, d'⟩
      exact k _

end
end KW

namespace KW
open PySem L2 KS
theorem all_mk {P : Program} {w : World} {K : PySem.W.Frag} {h : Heap} {mg : Str → Option Value} {fa : Addr} (X : K.In h) (G : h.Ns mainGlobals mg) (hfa : mg "law" = some (.ref fa))
    {c_SieveError : Addr} {c_BadSieve : Addr} {c_BadKey : Addr} {c_NotIn : Addr} {c_Stuck : Addr} {c_Unlike : Addr} {c_NoSieve : Addr} {c_BadText : Addr} {f_need_key : Addr} {od_need_key an_need_key : Option Addr} {sl_need_key : Array (Option Value)} {oc_need_key kV_need_key dc_need_key pm_need_key cd_need_key ct_need_key : Value} {f_pointed : Addr} {od_pointed an_pointed : Option Addr} {sl_pointed : Array (Option Value)} {oc_pointed kV_pointed dc_pointed pm_pointed cd_pointed ct_pointed : Value} {f_places : Addr} {od_places an_places : Option Addr} {sl_places : Array (Option Value)} {oc_places kV_places dc_places pm_places cd_places ct_places : Value} {f__law_mix : Addr} {od__law_mix an__law_mix : Option Addr} {sl__law_mix : Array (Option Value)} {oc__law_mix kV__law_mix dc__law_mix pm__law_mix cd__law_mix ct__law_mix : Value} {f__law_next : Addr} {od__law_next an__law_next : Option Addr} {sl__law_next : Array (Option Value)} {oc__law_next kV__law_next dc__law_next pm__law_next cd__law_next ct__law_next : Value} {f__law_hands : Addr} {od__law_hands an__law_hands : Option Addr} {sl__law_hands : Array (Option Value)} {oc__law_hands kV__law_hands dc__law_hands pm__law_hands cd__law_hands ct__law_hands : Value} {f__law_keys : Addr} {od__law_keys an__law_keys : Option Addr} {sl__law_keys : Array (Option Value)} {oc__law_keys kV__law_keys dc__law_keys pm__law_keys cd__law_keys ct__law_keys : Value} {f__law_cells : Addr} {od__law_cells an__law_cells : Option Addr} {sl__law_cells : Array (Option Value)} {oc__law_cells kV__law_cells dc__law_cells pm__law_cells cd__law_cells ct__law_cells : Value} {f__law_are : Addr} {od__law_are an__law_are : Option Addr} {sl__law_are : Array (Option Value)} {oc__law_are kV__law_are dc__law_are pm__law_are cd__law_are ct__law_are : Value} {f_BadSieve_init : Addr} {od_BadSieve_init an_BadSieve_init : Option Addr} {sl_BadSieve_init : Array (Option Value)} {oc_BadSieve_init kV_BadSieve_init dc_BadSieve_init pm_BadSieve_init cd_BadSieve_init ct_BadSieve_init : Value} {f_Stuck_init : Addr} {od_Stuck_init an_Stuck_init : Option Addr} {sl_Stuck_init : Array (Option Value)} {oc_Stuck_init kV_Stuck_init dc_Stuck_init pm_Stuck_init cd_Stuck_init ct_Stuck_init : Value} {f_NoSieve_init : Addr} {od_NoSieve_init an_NoSieve_init : Option Addr} {sl_NoSieve_init : Array (Option Value)} {oc_NoSieve_init kV_NoSieve_init dc_NoSieve_init pm_NoSieve_init cd_NoSieve_init ct_NoSieve_init : Value} {f_BadText_init : Addr} {od_BadText_init an_BadText_init : Option Addr} {sl_BadText_init : Array (Option Value)} {oc_BadText_init kV_BadText_init dc_BadText_init pm_BadText_init cd_BadText_init ct_BadText_init : Value} {f__law_refused : Addr} {od__law_refused an__law_refused : Option Addr} {sl__law_refused : Array (Option Value)} {oc__law_refused kV__law_refused dc__law_refused pm__law_refused cd__law_refused ct__law_refused : Value} {f_law : Addr} {od_law an_law : Option Addr} {sl_law : Array (Option Value)} {oc_law kV_law dc_law pm_law cd_law ct_law : Value} {tg_RING : Tok} {nm_BadSieve q_BadSieve : Str} {N_BadSieve : Addr} {bs_BadSieve sub_BadSieve : List Value} {sn_BadSieve : List Str} {ab_BadSieve : Bool} {col_BadSieve : Option Bool} {dd_BadSieve : Option Addr} {m0_BadSieve m1_BadSieve m2_BadSieve m3_BadSieve m5_BadSieve : Option Value} {nm_BadText q_BadText : Str} {N_BadText : Addr} {bs_BadText sub_BadText : List Value} {sn_BadText : List Str} {ab_BadText : Bool} {col_BadText : Option Bool} {dd_BadText : Option Addr} {m0_BadText m1_BadText m2_BadText m3_BadText m5_BadText : Option Value} {nm_NoSieve q_NoSieve : Str} {N_NoSieve : Addr} {bs_NoSieve sub_NoSieve : List Value} {sn_NoSieve : List Str} {ab_NoSieve : Bool} {col_NoSieve : Option Bool} {dd_NoSieve : Option Addr} {m0_NoSieve m1_NoSieve m2_NoSieve m3_NoSieve m5_NoSieve : Option Value} {nm_Stuck q_Stuck : Str} {N_Stuck : Addr} {bs_Stuck sub_Stuck : List Value} {sn_Stuck : List Str} {ab_Stuck : Bool} {col_Stuck : Option Bool} {dd_Stuck : Option Addr} {m0_Stuck m1_Stuck m2_Stuck m3_Stuck m5_Stuck : Option Value}
    (a_SieveError : PySem.W.nsIn K mainGlobals "SieveError" = some (some (.ref c_SieveError)))
    (a_BadSieve : PySem.W.nsIn K mainGlobals "BadSieve" = some (some (.ref c_BadSieve)))
    (a_BadKey : PySem.W.nsIn K mainGlobals "BadKey" = some (some (.ref c_BadKey)))
    (a_NotIn : PySem.W.nsIn K mainGlobals "NotIn" = some (some (.ref c_NotIn)))
    (a_Stuck : PySem.W.nsIn K mainGlobals "Stuck" = some (some (.ref c_Stuck)))
    (a_Unlike : PySem.W.nsIn K mainGlobals "Unlike" = some (some (.ref c_Unlike)))
    (a_NoSieve : PySem.W.nsIn K mainGlobals "NoSieve" = some (some (.ref c_NoSieve)))
    (a_BadText : PySem.W.nsIn K mainGlobals "BadText" = some (some (.ref c_BadText)))
    (a_need_key : PySem.W.nsIn K mainGlobals "need_key" = some (some (.ref f_need_key)))
    (l_need_key : K.lookup f_need_key = some ⟨oc_need_key, od_need_key, .func (PySem.W.fnOf "need_key" "need_key" (defArgs s_need_key) (defBody s_need_key) (defScope s_need_key) .none kV_need_key dc_need_key pm_need_key an_need_key cd_need_key ct_need_key), sl_need_key⟩)
    (o_need_key : PySem.W.codeIn K cd_need_key "need_key" = true)
    (q_need_key : PySem.W.keepIn K (.ref f_need_key) = true)
    (a_pointed : PySem.W.nsIn K mainGlobals "pointed" = some (some (.ref f_pointed)))
    (l_pointed : K.lookup f_pointed = some ⟨oc_pointed, od_pointed, .func (PySem.W.fnOf "pointed" "pointed" (defArgs s_pointed) (defBody s_pointed) (defScope s_pointed) .none kV_pointed dc_pointed pm_pointed an_pointed cd_pointed ct_pointed), sl_pointed⟩)
    (o_pointed : PySem.W.codeIn K cd_pointed "pointed" = true)
    (q_pointed : PySem.W.keepIn K (.ref f_pointed) = true)
    (a_places : PySem.W.nsIn K mainGlobals "places" = some (some (.ref f_places)))
    (l_places : K.lookup f_places = some ⟨oc_places, od_places, .func (PySem.W.fnOf "places" "places" (defArgs s_places) (defBody s_places) (defScope s_places) .none kV_places dc_places pm_places an_places cd_places ct_places), sl_places⟩)
    (o_places : PySem.W.codeIn K cd_places "places" = true)
    (q_places : PySem.W.keepIn K (.ref f_places) = true)
    (a__law_mix : PySem.W.nsIn K mainGlobals "_law_mix" = some (some (.ref f__law_mix)))
    (l__law_mix : K.lookup f__law_mix = some ⟨oc__law_mix, od__law_mix, .func (PySem.W.fnOf "_law_mix" "_law_mix" (defArgs s__law_mix) (defBody s__law_mix) (defScope s__law_mix) .none kV__law_mix dc__law_mix pm__law_mix an__law_mix cd__law_mix ct__law_mix), sl__law_mix⟩)
    (o__law_mix : PySem.W.codeIn K cd__law_mix "_law_mix" = true)
    (q__law_mix : PySem.W.keepIn K (.ref f__law_mix) = true)
    (a__law_next : PySem.W.nsIn K mainGlobals "_law_next" = some (some (.ref f__law_next)))
    (l__law_next : K.lookup f__law_next = some ⟨oc__law_next, od__law_next, .func (PySem.W.fnOf "_law_next" "_law_next" (defArgs s__law_next) (defBody s__law_next) (defScope s__law_next) .none kV__law_next dc__law_next pm__law_next an__law_next cd__law_next ct__law_next), sl__law_next⟩)
    (o__law_next : PySem.W.codeIn K cd__law_next "_law_next" = true)
    (q__law_next : PySem.W.keepIn K (.ref f__law_next) = true)
    (a__law_hands : PySem.W.nsIn K mainGlobals "_law_hands" = some (some (.ref f__law_hands)))
    (l__law_hands : K.lookup f__law_hands = some ⟨oc__law_hands, od__law_hands, .func (PySem.W.fnOf "_law_hands" "_law_hands" (defArgs s__law_hands) (defBody s__law_hands) (defScope s__law_hands) .none kV__law_hands dc__law_hands pm__law_hands an__law_hands cd__law_hands ct__law_hands), sl__law_hands⟩)
    (o__law_hands : PySem.W.codeIn K cd__law_hands "_law_hands" = true)
    (q__law_hands : PySem.W.keepIn K (.ref f__law_hands) = true)
    (a__law_keys : PySem.W.nsIn K mainGlobals "_law_keys" = some (some (.ref f__law_keys)))
    (l__law_keys : K.lookup f__law_keys = some ⟨oc__law_keys, od__law_keys, .func (PySem.W.fnOf "_law_keys" "_law_keys" (defArgs s__law_keys) (defBody s__law_keys) (defScope s__law_keys) .none kV__law_keys dc__law_keys pm__law_keys an__law_keys cd__law_keys ct__law_keys), sl__law_keys⟩)
    (o__law_keys : PySem.W.codeIn K cd__law_keys "_law_keys" = true)
    (q__law_keys : PySem.W.keepIn K (.ref f__law_keys) = true)
    (a__law_cells : PySem.W.nsIn K mainGlobals "_law_cells" = some (some (.ref f__law_cells)))
    (l__law_cells : K.lookup f__law_cells = some ⟨oc__law_cells, od__law_cells, .func (PySem.W.fnOf "_law_cells" "_law_cells" (defArgs s__law_cells) (defBody s__law_cells) (defScope s__law_cells) .none kV__law_cells dc__law_cells pm__law_cells an__law_cells cd__law_cells ct__law_cells), sl__law_cells⟩)
    (o__law_cells : PySem.W.codeIn K cd__law_cells "_law_cells" = true)
    (q__law_cells : PySem.W.keepIn K (.ref f__law_cells) = true)
    (a__law_are : PySem.W.nsIn K mainGlobals "_law_are" = some (some (.ref f__law_are)))
    (l__law_are : K.lookup f__law_are = some ⟨oc__law_are, od__law_are, .func (PySem.W.fnOf "_law_are" "_law_are" (defArgs s__law_are) (defBody s__law_are) (defScope s__law_are) .none kV__law_are dc__law_are pm__law_are an__law_are cd__law_are ct__law_are), sl__law_are⟩)
    (o__law_are : PySem.W.codeIn K cd__law_are "_law_are" = true)
    (q__law_are : PySem.W.keepIn K (.ref f__law_are) = true)
    (a_BadSieve_init : PySem.W.findIn K (.ref c_BadSieve) "__init__" = some (some (.ref f_BadSieve_init)))
    (i_BadSieve_init : PySem.W.isFn K (.ref f_BadSieve_init) = true)
    (l_BadSieve_init : K.lookup f_BadSieve_init = some ⟨oc_BadSieve_init, od_BadSieve_init, .func (PySem.W.fnOf "__init__" "BadSieve.__init__" (defArgs s_BadSieve_init) (defBody s_BadSieve_init) (defScope s_BadSieve_init) .none kV_BadSieve_init dc_BadSieve_init pm_BadSieve_init an_BadSieve_init cd_BadSieve_init ct_BadSieve_init), sl_BadSieve_init⟩)
    (o_BadSieve_init : PySem.W.codeIn K cd_BadSieve_init "BadSieve.__init__" = true)
    (q_BadSieve_init : PySem.W.keepIn K (.ref f_BadSieve_init) = true)
    (a_Stuck_init : PySem.W.findIn K (.ref c_Stuck) "__init__" = some (some (.ref f_Stuck_init)))
    (i_Stuck_init : PySem.W.isFn K (.ref f_Stuck_init) = true)
    (l_Stuck_init : K.lookup f_Stuck_init = some ⟨oc_Stuck_init, od_Stuck_init, .func (PySem.W.fnOf "__init__" "Stuck.__init__" (defArgs s_Stuck_init) (defBody s_Stuck_init) (defScope s_Stuck_init) .none kV_Stuck_init dc_Stuck_init pm_Stuck_init an_Stuck_init cd_Stuck_init ct_Stuck_init), sl_Stuck_init⟩)
    (o_Stuck_init : PySem.W.codeIn K cd_Stuck_init "Stuck.__init__" = true)
    (q_Stuck_init : PySem.W.keepIn K (.ref f_Stuck_init) = true)
    (a_NoSieve_init : PySem.W.findIn K (.ref c_NoSieve) "__init__" = some (some (.ref f_NoSieve_init)))
    (i_NoSieve_init : PySem.W.isFn K (.ref f_NoSieve_init) = true)
    (l_NoSieve_init : K.lookup f_NoSieve_init = some ⟨oc_NoSieve_init, od_NoSieve_init, .func (PySem.W.fnOf "__init__" "NoSieve.__init__" (defArgs s_NoSieve_init) (defBody s_NoSieve_init) (defScope s_NoSieve_init) .none kV_NoSieve_init dc_NoSieve_init pm_NoSieve_init an_NoSieve_init cd_NoSieve_init ct_NoSieve_init), sl_NoSieve_init⟩)
    (o_NoSieve_init : PySem.W.codeIn K cd_NoSieve_init "NoSieve.__init__" = true)
    (q_NoSieve_init : PySem.W.keepIn K (.ref f_NoSieve_init) = true)
    (a_BadText_init : PySem.W.findIn K (.ref c_BadText) "__init__" = some (some (.ref f_BadText_init)))
    (i_BadText_init : PySem.W.isFn K (.ref f_BadText_init) = true)
    (l_BadText_init : K.lookup f_BadText_init = some ⟨oc_BadText_init, od_BadText_init, .func (PySem.W.fnOf "__init__" "BadText.__init__" (defArgs s_BadText_init) (defBody s_BadText_init) (defScope s_BadText_init) .none kV_BadText_init dc_BadText_init pm_BadText_init an_BadText_init cd_BadText_init ct_BadText_init), sl_BadText_init⟩)
    (o_BadText_init : PySem.W.codeIn K cd_BadText_init "BadText.__init__" = true)
    (q_BadText_init : PySem.W.keepIn K (.ref f_BadText_init) = true)
    (a__law_refused : PySem.W.nsIn K mainGlobals "_law_refused" = some (some (.ref f__law_refused)))
    (l__law_refused : K.lookup f__law_refused = some ⟨oc__law_refused, od__law_refused, .func (PySem.W.fnOf "_law_refused" "_law_refused" (defArgs s__law_refused) (defBody s__law_refused) (defScope s__law_refused) .none kV__law_refused dc__law_refused pm__law_refused an__law_refused cd__law_refused ct__law_refused), sl__law_refused⟩)
    (o__law_refused : PySem.W.codeIn K cd__law_refused "_law_refused" = true)
    (q__law_refused : PySem.W.keepIn K (.ref f__law_refused) = true)
    (a_law : PySem.W.nsIn K mainGlobals "law" = some (some (.ref f_law)))
    (l_law : K.lookup f_law = some ⟨oc_law, od_law, .func (PySem.W.fnOf "law" "law" (defArgs s_law) (defBody s_law) (defScope s_law) .none kV_law dc_law pm_law an_law cd_law ct_law), sl_law⟩)
    (o_law : PySem.W.codeIn K cd_law "law" = true)
    (q_law : PySem.W.keepIn K (.ref f_law) = true)
    (eb_SieveError : PySem.W.subIn K (.ref c_SieveError) (.type "BaseException") = some true)
    (ed_SieveError : PySem.W.hasDictIn K c_SieveError = true)
    (et_SieveError : PySem.W.typeIn K (.ref c_SieveError) = some (.type "type"))
    (es_BadKey_SieveError : PySem.W.subIn K (.ref c_BadKey) (.ref c_SieveError) = some true)
    (zg_RING : PySem.W.nsIn K mainGlobals "RING" = some (some (.int 10007 tg_RING)))
    (zis_BadKey0 : PySem.W.findIn K (.ref c_BadKey) "__getattribute__" = some (some (.builtin "BaseException.__getattribute__")))
    (zis_BadKey1 : PySem.W.findIn K (.ref c_BadKey) "__getattr__" = some none)
    (zis_BadKey2 : PySem.W.subIn K (.ref c_BadKey) (.type "BaseException") = some true)
    (zis_BadKey3 : PySem.W.hasDictIn K c_BadKey = true)
    (zis_BadKey4 : PySem.W.findIn K (.ref c_BadKey) "__class__" = some (some (.builtin "object.__class__")))
    (zis_BadKey5 : PySem.W.specialIn K (.builtin "object.__class__") "__get__" = some (some (.builtin "getset_descriptor.__get__")))
    (zis_BadKey6 : PySem.W.takesIn K (.builtin "object.__class__") = some true)
    (zis_BadKey7 : PySem.W.mroIn K c_BadKey (.type "object") = some true)
    (zkc_BadKey : PySem.W.keepIn K (.ref c_BadKey) = true)
    (zki_BadKey_BadKey : PySem.W.kitOne K (.ref c_BadKey) (.ref c_BadKey) = some true)
    (zki_BadKey_BadSieve : PySem.W.kitOne K (.ref c_BadKey) (.ref c_BadSieve) = some false)
    (zki_BadKey_BadText : PySem.W.kitOne K (.ref c_BadKey) (.ref c_BadText) = some false)
    (zki_BadKey_NoSieve : PySem.W.kitOne K (.ref c_BadKey) (.ref c_NoSieve) = some false)
    (zki_BadKey_NotIn : PySem.W.kitOne K (.ref c_BadKey) (.ref c_NotIn) = some false)
    (zki_BadKey_Stuck : PySem.W.kitOne K (.ref c_BadKey) (.ref c_Stuck) = some false)
    (zki_BadKey_Unlike : PySem.W.kitOne K (.ref c_BadKey) (.ref c_Unlike) = some false)
    (zki_BadKey_ValueError : PySem.W.kitOne K (.ref c_BadKey) (.type "ValueError") = some true)
    (zn_ValueError : PySem.W.nsIn K mainGlobals "ValueError" = some none)
    (zn_bool : PySem.W.nsIn K mainGlobals "bool" = some none)
    (zn_int : PySem.W.nsIn K mainGlobals "int" = some none)
    (zn_isinstance : PySem.W.nsIn K mainGlobals "isinstance" = some none)
    (zn_len : PySem.W.nsIn K mainGlobals "len" = some none)
    (zn_list : PySem.W.nsIn K mainGlobals "list" = some none)
    (zn_max : PySem.W.nsIn K mainGlobals "max" = some none)
    (zn_range : PySem.W.nsIn K mainGlobals "range" = some none)
    (zl_BadSieve : K.lookup c_BadSieve = some (PySem.excClassObj nm_BadSieve q_BadSieve c_BadSieve N_BadSieve bs_BadSieve [.ref c_SieveError, .type "ValueError", .type "Exception", .type "BaseException", .type "object"] true sn_BadSieve sub_BadSieve ab_BadSieve col_BadSieve dd_BadSieve m0_BadSieve m1_BadSieve m2_BadSieve m3_BadSieve m5_BadSieve "ValueError.__new__"))
    (zs_BadSieve : PySem.W.findIn K (.ref c_BadSieve) "__setattr__" = some (some (.builtin "object.__setattr__")))
    (eb_BadSieve : PySem.W.subIn K (.ref c_BadSieve) (.type "BaseException") = some true)
    (et_BadSieve : PySem.W.typeIn K (.ref c_BadSieve) = some (.type "type"))
    (ek_BadSieve : PySem.W.keepIn K (.ref c_BadSieve) = true)
    (zl_BadText : K.lookup c_BadText = some (PySem.excClassObj nm_BadText q_BadText c_BadText N_BadText bs_BadText [.ref c_SieveError, .type "ValueError", .type "Exception", .type "BaseException", .type "object"] true sn_BadText sub_BadText ab_BadText col_BadText dd_BadText m0_BadText m1_BadText m2_BadText m3_BadText m5_BadText "ValueError.__new__"))
    (zs_BadText : PySem.W.findIn K (.ref c_BadText) "__setattr__" = some (some (.builtin "object.__setattr__")))
    (eb_BadText : PySem.W.subIn K (.ref c_BadText) (.type "BaseException") = some true)
    (et_BadText : PySem.W.typeIn K (.ref c_BadText) = some (.type "type"))
    (ek_BadText : PySem.W.keepIn K (.ref c_BadText) = true)
    (zl_NoSieve : K.lookup c_NoSieve = some (PySem.excClassObj nm_NoSieve q_NoSieve c_NoSieve N_NoSieve bs_NoSieve [.ref c_SieveError, .type "ValueError", .type "Exception", .type "BaseException", .type "object"] true sn_NoSieve sub_NoSieve ab_NoSieve col_NoSieve dd_NoSieve m0_NoSieve m1_NoSieve m2_NoSieve m3_NoSieve m5_NoSieve "ValueError.__new__"))
    (zs_NoSieve : PySem.W.findIn K (.ref c_NoSieve) "__setattr__" = some (some (.builtin "object.__setattr__")))
    (eb_NoSieve : PySem.W.subIn K (.ref c_NoSieve) (.type "BaseException") = some true)
    (et_NoSieve : PySem.W.typeIn K (.ref c_NoSieve) = some (.type "type"))
    (ek_NoSieve : PySem.W.keepIn K (.ref c_NoSieve) = true)
    (zl_Stuck : K.lookup c_Stuck = some (PySem.excClassObj nm_Stuck q_Stuck c_Stuck N_Stuck bs_Stuck [.ref c_SieveError, .type "ValueError", .type "Exception", .type "BaseException", .type "object"] true sn_Stuck sub_Stuck ab_Stuck col_Stuck dd_Stuck m0_Stuck m1_Stuck m2_Stuck m3_Stuck m5_Stuck "ValueError.__new__"))
    (zs_Stuck : PySem.W.findIn K (.ref c_Stuck) "__setattr__" = some (some (.builtin "object.__setattr__")))
    (eb_Stuck : PySem.W.subIn K (.ref c_Stuck) (.type "BaseException") = some true)
    (et_Stuck : PySem.W.typeIn K (.ref c_Stuck) = some (.type "type"))
    (ek_Stuck : PySem.W.keepIn K (.ref c_Stuck) = true)
    (zx_BadKey : PySem.W.excIn K c_BadKey [.type "ValueError", .type "Exception", .type "BaseException", .type "object"] "ValueError.__new__" = true)
    (zxb_BadKey : PySem.W.subIn K (.ref c_BadKey) (.type "BaseException") = some true)
    (zxn_BadSieve_why : PySem.W.findIn K (.ref c_BadSieve) "why" = some none)
    (zxn_BadText_row : PySem.W.findIn K (.ref c_BadText) "row" = some none)
    (zxn_NoSieve_paper : PySem.W.findIn K (.ref c_NoSieve) "paper" = some none)
    (zxn_Stuck_cells : PySem.W.findIn K (.ref c_Stuck) "cells" = some none)
    (zxt_BadKey : PySem.W.typeIn K (.ref c_BadKey) = some (.type "type")) :
    ∃ fd : FuncData, (∀ (s : Shared) (u : Value), BindsTo s fd ⟨[u], []⟩ [("_law_script", u)]) ∧ ∀ base : Heap, K.In base → base.Ns mainGlobals mg → FnOk P w K mg base CX0 4 fa fd ["_law_script"] (KS.spLaw K) := by
  have e := hfa.symm.trans (PySem.W.mg_of X G a_law)
  cases e
  have T : Txt K mg := { c_SieveError := c_SieveError, m_SieveError := PySem.W.mg_of X G a_SieveError, c_BadSieve := c_BadSieve, m_BadSieve := PySem.W.mg_of X G a_BadSieve, c_BadKey := c_BadKey, m_BadKey := PySem.W.mg_of X G a_BadKey, c_NotIn := c_NotIn, m_NotIn := PySem.W.mg_of X G a_NotIn, c_Stuck := c_Stuck, m_Stuck := PySem.W.mg_of X G a_Stuck, c_Unlike := c_Unlike, m_Unlike := PySem.W.mg_of X G a_Unlike, c_NoSieve := c_NoSieve, m_NoSieve := PySem.W.mg_of X G a_NoSieve, c_BadText := c_BadText, m_BadText := PySem.W.mg_of X G a_BadText, f_need_key := f_need_key, d_need_key := _, m_need_key := PySem.W.mg_of X G a_need_key, F_need_key := fun_mk (st := s_need_key) l_need_key o_need_key q_need_key, f_pointed := f_pointed, d_pointed := _, m_pointed := PySem.W.mg_of X G a_pointed, F_pointed := fun_mk (st := s_pointed) l_pointed o_pointed q_pointed, f_places := f_places, d_places := _, m_places := PySem.W.mg_of X G a_places, F_places := fun_mk (st := s_places) l_places o_places q_places, f__law_mix := f__law_mix, d__law_mix := _, m__law_mix := PySem.W.mg_of X G a__law_mix, F__law_mix := fun_mk (st := s__law_mix) l__law_mix o__law_mix q__law_mix, f__law_next := f__law_next, d__law_next := _, m__law_next := PySem.W.mg_of X G a__law_next, F__law_next := fun_mk (st := s__law_next) l__law_next o__law_next q__law_next, f__law_hands := f__law_hands, d__law_hands := _, m__law_hands := PySem.W.mg_of X G a__law_hands, F__law_hands := fun_mk (st := s__law_hands) l__law_hands o__law_hands q__law_hands, f__law_keys := f__law_keys, d__law_keys := _, m__law_keys := PySem.W.mg_of X G a__law_keys, F__law_keys := fun_mk (st := s__law_keys) l__law_keys o__law_keys q__law_keys, f__law_cells := f__law_cells, d__law_cells := _, m__law_cells := PySem.W.mg_of X G a__law_cells, F__law_cells := fun_mk (st := s__law_cells) l__law_cells o__law_cells q__law_cells, f__law_are := f__law_are, d__law_are := _, m__law_are := PySem.W.mg_of X G a__law_are, F__law_are := fun_mk (st := s__law_are) l__law_are o__law_are q__law_are, f_BadSieve_init := f_BadSieve_init, d_BadSieve_init := _, me_BadSieve_init := ⟨a_BadSieve_init, i_BadSieve_init, q_BadSieve_init⟩, F_BadSieve_init := fun_mk (st := s_BadSieve_init) l_BadSieve_init o_BadSieve_init q_BadSieve_init, f_Stuck_init := f_Stuck_init, d_Stuck_init := _, me_Stuck_init := ⟨a_Stuck_init, i_Stuck_init, q_Stuck_init⟩, F_Stuck_init := fun_mk (st := s_Stuck_init) l_Stuck_init o_Stuck_init q_Stuck_init, f_NoSieve_init := f_NoSieve_init, d_NoSieve_init := _, me_NoSieve_init := ⟨a_NoSieve_init, i_NoSieve_init, q_NoSieve_init⟩, F_NoSieve_init := fun_mk (st := s_NoSieve_init) l_NoSieve_init o_NoSieve_init q_NoSieve_init, f_BadText_init := f_BadText_init, d_BadText_init := _, me_BadText_init := ⟨a_BadText_init, i_BadText_init, q_BadText_init⟩, F_BadText_init := fun_mk (st := s_BadText_init) l_BadText_init o_BadText_init q_BadText_init, f__law_refused := f__law_refused, d__law_refused := _, m__law_refused := PySem.W.mg_of X G a__law_refused, F__law_refused := fun_mk (st := s__law_refused) l__law_refused o__law_refused q__law_refused, em_BadKey_SieveError := PySem.W.exm_ref eb_SieveError ed_SieveError et_SieveError es_BadKey_SieveError, tg_RING := tg_RING, g_RING := PySem.W.mg_of X G zg_RING, is_BadKey := ⟨zis_BadKey0, zis_BadKey1, zis_BadKey2, zis_BadKey3, zis_BadKey4, zis_BadKey5, zis_BadKey6, zis_BadKey7⟩, kc_BadKey := zkc_BadKey, ki_BadKey_BadKey := zki_BadKey_BadKey, ki_BadKey_BadSieve := zki_BadKey_BadSieve, ki_BadKey_BadText := zki_BadKey_BadText, ki_BadKey_NoSieve := zki_BadKey_NoSieve, ki_BadKey_NotIn := zki_BadKey_NotIn, ki_BadKey_Stuck := zki_BadKey_Stuck, ki_BadKey_Unlike := zki_BadKey_Unlike, ki_BadKey_ValueError := zki_BadKey_ValueError, n_ValueError := PySem.W.mg_none_of X G zn_ValueError, n_bool := PySem.W.mg_none_of X G zn_bool, n_int := PySem.W.mg_none_of X G zn_int, n_isinstance := PySem.W.mg_none_of X G zn_isinstance, n_len := PySem.W.mg_none_of X G zn_len, n_list := PySem.W.mg_none_of X G zn_list, n_max := PySem.W.mg_none_of X G zn_max, n_range := PySem.W.mg_none_of X G zn_range, ox_BadSieve := ⟨⟨_, _, _, _, _, _, _, _, _, _, _, _, _, _, _, zl_BadSieve, rfl⟩, zs_BadSieve, eb_BadSieve, et_BadSieve, ek_BadSieve⟩, ox_BadText := ⟨⟨_, _, _, _, _, _, _, _, _, _, _, _, _, _, _, zl_BadText, rfl⟩, zs_BadText, eb_BadText, et_BadText, ek_BadText⟩, ox_NoSieve := ⟨⟨_, _, _, _, _, _, _, _, _, _, _, _, _, _, _, zl_NoSieve, rfl⟩, zs_NoSieve, eb_NoSieve, et_NoSieve, ek_NoSieve⟩, ox_Stuck := ⟨⟨_, _, _, _, _, _, _, _, _, _, _, _, _, _, _, zl_Stuck, rfl⟩, zs_Stuck, eb_Stuck, et_Stuck, ek_Stuck⟩, x_BadKey := zx_BadKey, xb_BadKey := zxb_BadKey, xn_BadSieve_why := zxn_BadSieve_why, xn_BadText_row := zxn_BadText_row, xn_NoSieve_paper := zxn_NoSieve_paper, xn_Stuck_cells := zxn_Stuck_cells, xt_BadKey := zxt_BadKey }
  have F_law := fun_mk (st := s_law) l_law o_law q_law
  exact ⟨_, KS.law_binds F_law (fun _ _ _ _ _ _ _ => rfl), fun base _ _ => ok_law T F_law⟩
theorem walk {l : PySem.W.OpenLaw} {q : Program} {loose : List Str} {XP : (Str → Option Value) → Heap → Prop} {YP : World → Heap → Prop} {d : DefRec} {K : Params → PySem.W.Frag} (hn : l.most = some 63) (hdf : d.params.defaults = [])
    (hY : ∀ (w : World) (h : Heap), YP w h → (K w.params).In h)
    (F : ∀ (w : World) (mg : Str → Option Value) (fa : Addr) (h : Heap), (K w.params).In h → h.Ns mainGlobals mg → mg d.name = some (.ref fa) →
      ∃ fd : FuncData, (∀ (s : Shared) (u : Value), BindsTo s fd ⟨[u], []⟩ [("_law_script", u)]) ∧ ∀ base : Heap, (K w.params).In base → base.Ns mainGlobals mg → FnOk l.prog w (K w.params) mg base CX0 4 fa fd ["_law_script"] (KS.spLaw (K w.params))) :
    PySem.W.WalkO q loose XP YP l.row.toRowW d [] (fun f vs => PySem.call f vs) :=
  L2.walk_of (n := 63) (k := 4) (x := "_law_script") (CX := fun _ => CX0) (sp := fun w => KS.spLaw (K w.params)) hn (by decide) hdf ⟨rfl, by decide, by decide⟩ hY F (fun _ _ a ns hl _ hS => ⟨a, ns, rfl, hS, hl, fun _ => rfl⟩) fun _ _ _ _ _ z => z
end KW
open PySem PySem.W PyProof.Rows
set_option maxRecDepth 100000 in
set_option maxHeartbeats 0 in
theorem PySem.Challenge.cw_keysieve_k01_places_holds : PySem.Challenge.rw_keysieve_k01_places.Holds := by
  w_on; o_law; k_head; (case hw => w_witness2)
  k_fill
  refine KW.walk (l := PySem.Challenge.rw_keysieve_k01_places) rfl rfl (fun w h Y => PySem.W.kIn_of Y) ?F
  case F =>
    intro w mg fa h KX G hmg
    refine' KW.all_mk KX G hmg ?a_SieveError ?a_BadSieve ?a_BadKey ?a_NotIn ?a_Stuck ?a_Unlike ?a_NoSieve ?a_BadText ?a_need_key ?l_need_key ?o_need_key ?q_need_key ?a_pointed ?l_pointed ?o_pointed ?q_pointed ?a_places ?l_places ?o_places ?q_places ?a__law_mix ?l__law_mix ?o__law_mix ?q__law_mix ?a__law_next ?l__law_next ?o__law_next ?q__law_next ?a__law_hands ?l__law_hands ?o__law_hands ?q__law_hands ?a__law_keys ?l__law_keys ?o__law_keys ?q__law_keys ?a__law_cells ?l__law_cells ?o__law_cells ?q__law_cells ?a__law_are ?l__law_are ?o__law_are ?q__law_are ?a_BadSieve_init ?i_BadSieve_init ?l_BadSieve_init ?o_BadSieve_init ?q_BadSieve_init ?a_Stuck_init ?i_Stuck_init ?l_Stuck_init ?o_Stuck_init ?q_Stuck_init ?a_NoSieve_init ?i_NoSieve_init ?l_NoSieve_init ?o_NoSieve_init ?q_NoSieve_init ?a_BadText_init ?i_BadText_init ?l_BadText_init ?o_BadText_init ?q_BadText_init ?a__law_refused ?l__law_refused ?o__law_refused ?q__law_refused ?a_law ?l_law ?o_law ?q_law ?eb_SieveError ?ed_SieveError ?et_SieveError ?es_BadKey_SieveError ?zg_RING ?zis_BadKey0 ?zis_BadKey1 ?zis_BadKey2 ?zis_BadKey3 ?zis_BadKey4 ?zis_BadKey5 ?zis_BadKey6 ?zis_BadKey7 ?zkc_BadKey ?zki_BadKey_BadKey ?zki_BadKey_BadSieve ?zki_BadKey_BadText ?zki_BadKey_NoSieve ?zki_BadKey_NotIn ?zki_BadKey_Stuck ?zki_BadKey_Unlike ?zki_BadKey_ValueError ?zn_ValueError ?zn_bool ?zn_int ?zn_isinstance ?zn_len ?zn_list ?zn_max ?zn_range ?zl_BadSieve ?zs_BadSieve ?eb_BadSieve ?et_BadSieve ?ek_BadSieve ?zl_BadText ?zs_BadText ?eb_BadText ?et_BadText ?ek_BadText ?zl_NoSieve ?zs_NoSieve ?eb_NoSieve ?et_NoSieve ?ek_NoSieve ?zl_Stuck ?zs_Stuck ?eb_Stuck ?et_Stuck ?ek_Stuck ?zx_BadKey ?zxb_BadKey ?zxn_BadSieve_why ?zxn_BadText_row ?zxn_NoSieve_paper ?zxn_Stuck_cells ?zxt_BadKey
    (case a_SieveError => k_is)
    (case a_BadSieve => k_is)
    (case a_BadKey => k_is)
    (case a_NotIn => k_is)
    (case a_Stuck => k_is)
    (case a_Unlike => k_is)
    (case a_NoSieve => k_is)
    (case a_BadText => k_is)
    (case a_need_key => k_is)
    (case l_need_key => k_is)
    (case o_need_key => k_is)
    (case q_need_key => k_is)
    (case a_pointed => k_is)
    (case l_pointed => k_is)
    (case o_pointed => k_is)
    (case q_pointed => k_is)
    (case a_places => k_is)
    (case l_places => k_is)
    (case o_places => k_is)
    (case q_places => k_is)
    (case a__law_mix => k_is)
    (case l__law_mix => k_is)
    (case o__law_mix => k_is)
    (case q__law_mix => k_is)
    (case a__law_next => k_is)
    (case l__law_next => k_is)
    (case o__law_next => k_is)
    (case q__law_next => k_is)
    (case a__law_hands => k_is)
    (case l__law_hands => k_is)
    (case o__law_hands => k_is)
    (case q__law_hands => k_is)
    (case a__law_keys => k_is)
    (case l__law_keys => k_is)
    (case o__law_keys => k_is)
    (case q__law_keys => k_is)
    (case a__law_cells => k_is)
    (case l__law_cells => k_is)
    (case o__law_cells => k_is)
    (case q__law_cells => k_is)
    (case a__law_are => k_is)
    (case l__law_are => k_is)
    (case o__law_are => k_is)
    (case q__law_are => k_is)
    (case a_BadSieve_init => k_is)
    (case i_BadSieve_init => k_is)
    (case l_BadSieve_init => k_is)
    (case o_BadSieve_init => k_is)
    (case q_BadSieve_init => k_is)
    (case a_Stuck_init => k_is)
    (case i_Stuck_init => k_is)
    (case l_Stuck_init => k_is)
    (case o_Stuck_init => k_is)
    (case q_Stuck_init => k_is)
    (case a_NoSieve_init => k_is)
    (case i_NoSieve_init => k_is)
    (case l_NoSieve_init => k_is)
    (case o_NoSieve_init => k_is)
    (case q_NoSieve_init => k_is)
    (case a_BadText_init => k_is)
    (case i_BadText_init => k_is)
    (case l_BadText_init => k_is)
    (case o_BadText_init => k_is)
    (case q_BadText_init => k_is)
    (case a__law_refused => k_is)
    (case l__law_refused => k_is)
    (case o__law_refused => k_is)
    (case q__law_refused => k_is)
    (case a_law => k_is)
    (case l_law => k_is)
    (case o_law => k_is)
    (case q_law => k_is)
    (case eb_SieveError => k_is)
    (case ed_SieveError => k_is)
    (case et_SieveError => k_is)
    (case es_BadKey_SieveError => first | rfl | k_is)
    (case zg_RING => k_is)
    (case zis_BadKey0 => k_is)
    (case zis_BadKey1 => k_is)
    (case zis_BadKey2 => k_is)
    (case zis_BadKey3 => k_is)
    (case zis_BadKey4 => k_is)
    (case zis_BadKey5 => k_is)
    (case zis_BadKey6 => k_is)
    (case zis_BadKey7 => k_is)
    (case zkc_BadKey => k_is)
    (case zki_BadKey_BadKey => first | rfl | kit_is)
    (case zki_BadKey_BadSieve => first | rfl | kit_is)
    (case zki_BadKey_BadText => first | rfl | kit_is)
    (case zki_BadKey_NoSieve => first | rfl | kit_is)
    (case zki_BadKey_NotIn => first | rfl | kit_is)
    (case zki_BadKey_Stuck => first | rfl | kit_is)
    (case zki_BadKey_Unlike => first | rfl | kit_is)
    (case zki_BadKey_ValueError => first | rfl | kit_is)
    (case zn_ValueError => k_is)
    (case zn_bool => k_is)
    (case zn_int => k_is)
    (case zn_isinstance => k_is)
    (case zn_len => k_is)
    (case zn_list => k_is)
    (case zn_max => k_is)
    (case zn_range => k_is)
    (case zl_BadSieve => k_is)
    (case zs_BadSieve => k_is)
    (case eb_BadSieve => k_is)
    (case et_BadSieve => k_is)
    (case ek_BadSieve => k_is)
    (case zl_BadText => k_is)
    (case zs_BadText => k_is)
    (case eb_BadText => k_is)
    (case et_BadText => k_is)
    (case ek_BadText => k_is)
    (case zl_NoSieve => k_is)
    (case zs_NoSieve => k_is)
    (case eb_NoSieve => k_is)
    (case et_NoSieve => k_is)
    (case ek_NoSieve => k_is)
    (case zl_Stuck => k_is)
    (case zs_Stuck => k_is)
    (case eb_Stuck => k_is)
    (case et_Stuck => k_is)
    (case ek_Stuck => k_is)
    (case zx_BadKey => k_exc)
    (case zxb_BadKey => k_is)
    (case zxn_BadSieve_why => k_is)
    (case zxn_BadText_row => k_is)
    (case zxn_NoSieve_paper => k_is)
    (case zxn_Stuck_cells => k_is)
    (case zxt_BadKey => k_is)
#print axioms PySem.Challenge.cw_keysieve_k01_places_holds
