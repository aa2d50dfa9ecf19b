import PyProof.Rows.All
import Wide.All
import OpenK.AllK
import Wide.FinOn
import HandS.ForMost
import HandS.ForExc
import HandS.IsInst
import HandS.ExcIs
import HandS.ExcField
import HandS.ExcInit
import HandS.TryMany
import HandS.Flow
import HandS.Style
import HandS.CallSlots
import KE.KExcIs
import HandS.Evl
import HandS.SortInts
import HandS.Strs
import HandS.SetFor
import HandS.Zip
import HandS.Codes
import HandS.More
import HandS.TupAny
import HandS.Walk
import HandS.Conv
import KE.DataMinMax
import HandS.Lambda
import HandS.EndTab
import HandS.EndOwn
import HandS.Nested
import PySem.Challenge.RW_keysieve_k05_yeses_of_a_universe
set_option Elab.async false
set_option linter.all false
set_option maxRecDepth 100000
set_option maxHeartbeats 4000000
/-! KS: a layer over HandS for programs whose values are plain data. -/
namespace KS
open PySem L2

/-! ### how a heap may go on -/
/-- all that was known stays, but at the places m; tuples stay everywhere; nothing is forgotten -/
structure Gr (m : List Addr) (H H' : Hp) : Prop where
  keep : ∀ a o, H a = some o → a ∉ m → H' a = some o
  tup : ∀ a xs, H a = some (.tup xs) → H' a = some (.tup xs)
  dom : ∀ a, H' a = none → H a = none
theorem Gr.refl {m : List Addr} {H : Hp} : Gr m H H := ⟨fun _ _ h _ => h, fun _ _ h => h, fun _ h => h⟩
theorem Gr.trans {m : List Addr} {H H1 H2 : Hp} (a : Gr m H H1) (b : Gr m H1 H2) : Gr m H H2 :=
  ⟨fun c o h n => b.keep c o (a.keep c o h n) n, fun c xs h => b.tup c xs (a.tup c xs h), fun c h => a.dom c (b.dom c h)⟩
theorem Gr.mono {m m' : List Addr} {H H' : Hp} (a : Gr m H H') (s : ∀ x, x ∈ m → x ∈ m') : Gr m' H H' :=
  ⟨fun c o h n => a.keep c o h fun z => n (s c z), a.tup, a.dom⟩
theorem Gr.any {m : List Addr} {H H' : Hp} (a : Gr [] H H') : Gr m H H' := a.mono fun _ z => absurd z (by simp)
theorem Gr.new {m : List Addr} {H : Hp} {p : Addr} {o : HO} (h : H p = none) : Gr m H (upd H p o) :=
  ⟨fun a u e _ => by rw [upd_ne (ne_of_none e h)]; exact e, fun a u e => by rw [upd_ne (ne_of_none e h)]; exact e, fun a e => by
    by_cases z : a = p
    · rw [z]; exact h
    · rw [upd_ne z] at e; exact e⟩
theorem Gr.at0 {H H' : Hp} (g : Gr [] H H') {a : Addr} {o : HO} (h : H a = some o) : H' a = some o := g.keep a o h (by simp)
/-- what is new since H may change -/
theorem Gr.mut {m : List Addr} {H H' : Hp} {p : Addr} {o : HO} (g : Gr m H H') (h : H p = none) : Gr m H (upd H' p o) :=
  ⟨fun a u e n => by rw [upd_ne (ne_of_none e h)]; exact g.keep a u e n, fun a u e => by rw [upd_ne (ne_of_none e h)]; exact g.tup a u e, fun a e => by
    by_cases z : a = p
    · rw [z]; exact h
    · rw [upd_ne z] at e; exact g.dom a e⟩
/-- what stands at a place of m may change -/
theorem Gr.put {m : List Addr} {H H' : Hp} {p : Addr} {o u : HO} (g : Gr m H H') (hp : p ∈ m) (h : H' p = some u) (nt : ∀ xs, u ≠ .tup xs) : Gr m H (upd H' p o) :=
  ⟨fun a v e n => by rw [upd_ne (fun z => n (by rw [z]; exact hp))]; exact g.keep a v e n, fun a xs e => by
    have e' := g.tup a xs e
    rw [upd_ne (fun z => by rw [z, h] at e'; exact nt xs (Option.some.inj e'))]; exact e', fun a e => by
    by_cases z : a = p
    · rw [z, upd_same] at e; cases e
    · rw [upd_ne z] at e; exact g.dom a e⟩
theorem Gr.ne {m : List Addr} {H H' : Hp} (g : Gr m H H') {a p : Addr} {o : HO} (h : H a = some o) (hp : H' p = none) : a ≠ p := fun z => by
  rw [z, g.dom p hp] at h
  cases h
theorem Gr.sq {K : PySem.W.Frag} {H H' : Hp} (g : Gr [] H H') {a : Addr} {xs : List V} (h : SqL K H a xs) : SqL K H' a xs := by
  rcases h with (h | ⟨o, h⟩) | h
  · exact .inl (.inl (g.at0 h))
  · exact .inl (.inr ⟨o, g.at0 h⟩)
  · exact .inr h

/-! ### the state of the draws -/
def DrawAt (p q : Addr) (H : Hp) : Prop := ∃ (m : Int) (cs : List Int) (i : Int), H p = some (.lst [.int m, .ref q, .int i]) ∧ H q = some (.lst (cs.map V.int)) ∧ cs.length ≤ 63
/-- whose draws may happen on the way: none, or those of the list at p with its cells at q -/
abbrev Dst := Option (Addr × Addr)
def Dst.m : Dst → List Addr
  | none => []
  | some (p, q) => [p, q]
def Dst.ok : Dst → Hp → Prop
  | none, _ => True
  | some (p, q), H => DrawAt p q H
theorem DrawAt.go {p q : Addr} {H H' : Hp} (d : DrawAt p q H) (hp : ∀ o, H p = some o → H' p = some o) (hq : ∀ o, H q = some o → H' q = some o) : DrawAt p q H' := by
  obtain ⟨m, cs, i, h1, h2, h3⟩ := d
  exact ⟨m, cs, i, hp _ h1, hq _ h2, h3⟩
structure Gd (D : Dst) (H H' : Hp) : Prop where
  gr : Gr D.m H H'
  ok : D.ok H → D.ok H'
theorem Gd.refl {D : Dst} {H : Hp} : Gd D H H := ⟨Gr.refl, fun h => h⟩
theorem Gd.trans {D : Dst} {H H1 H2 : Hp} (a : Gd D H H1) (b : Gd D H1 H2) : Gd D H H2 := ⟨a.gr.trans b.gr, fun h => b.ok (a.ok h)⟩
theorem Gd.pure {D : Dst} {H H' : Hp} (g : Gr [] H H') : Gd D H H' := ⟨g.any, by
  rcases D with _ | ⟨p, q⟩
  · exact fun h => h
  · exact fun h => DrawAt.go h (fun o e => g.at0 e) (fun o e => g.at0 e)⟩
theorem Gd.new {D : Dst} {H : Hp} {p : Addr} {o : HO} (h : H p = none) : Gd D H (upd H p o) := .pure (.new h)
theorem Gd.gr0 {H H' : Hp} (g : Gd none H H') : Gr [] H H' := g.gr
/-- where one stands: m: the places that may change; they are there; the draws' state is well -/
structure Cc (D : Dst) (m : List Addr) (H : Hp) : Prop where
  sub : ∀ a, a ∈ D.m → a ∈ m
  dm : ∀ a, a ∈ m → H a ≠ none
  ok : D.ok H
theorem Cc.go {D : Dst} {m : List Addr} {H H' : Hp} (c : Cc D m H) (g : Gd D H H') : Cc D m H' := ⟨c.sub, fun a h z => c.dm a h (g.gr.dom a z), g.ok c.ok⟩
theorem Cc.free {D : Dst} {m : List Addr} {H : Hp} (c : Cc D m H) {p : Addr} (h : H p = none) : p ∉ m := fun z => c.dm p z h
theorem Cc.nil {H : Hp} : Cc none [] H := ⟨fun _ h => h, fun _ h => absurd h (by simp), trivial⟩
theorem Cc.none {D : Dst} {m : List Addr} {H : Hp} (c : Cc D m H) : Cc Option.none m H := ⟨fun _ h => absurd h (by simp [Dst.m]), c.dm, trivial⟩
theorem Cc.cons {D : Dst} {m : List Addr} {H : Hp} (c : Cc D m H) {a : Addr} {o : HO} (h : H a = some o) : Cc D (a :: m) H :=
  ⟨fun x hx => List.mem_cons_of_mem _ (c.sub x hx), fun x hx => by
    rcases List.mem_cons.mp hx with z | z
    · rw [z, h]; simp
    · exact c.dm x z, c.ok⟩

/-! ### values that represent data: no cell of a list stands at a place of m -/
class Rp (α : Type) where
  rp : List Addr → Hp → α → V → Prop
  go : ∀ {m m' : List Addr} {H H' : Hp} {x : α} {v : V}, (∀ a o, H a = some o → a ∉ m → a ∉ m' ∧ H' a = some o) → (∀ a xs, H a = some (.tup xs) → H' a = some (.tup xs)) → rp m H x v → rp m' H' x v
/-- data without lists: it stays whatever happens -/
class Nl (α : Type) [Rp α] where
  nl : ∀ {m m' : List Addr} {H H' : Hp} {x : α} {v : V}, (∀ a xs, H a = some (.tup xs) → H' a = some (.tup xs)) → Rp.rp m H x v → Rp.rp m' H' x v
instance : Rp Int := ⟨fun _ _ i v => v = .int i, fun _ _ h => h⟩
instance : Nl Int := ⟨fun _ h => h⟩
instance : Rp Bool := ⟨fun _ _ i v => v = .bl i, fun _ _ h => h⟩
instance : Nl Bool := ⟨fun _ h => h⟩
instance : Rp Unit := ⟨fun _ _ _ v => v = .non, fun _ _ h => h⟩
instance : Nl Unit := ⟨fun _ h => h⟩
instance : Rp Str := ⟨fun _ _ i v => v = .str i, fun _ _ h => h⟩
instance : Nl Str := ⟨fun _ h => h⟩
theorem paired_go {α β : Type} {F G : α → β → Prop} {l : List α} {r : List β} (h : Paired F l r) (k : ∀ a b, F a b → G a b) : Paired G l r := Paired.mapP h k
instance {α β : Type} [Rp α] [Rp β] : Rp (α × β) := ⟨fun m H x v => ∃ a u w, v = .ref a ∧ H a = some (.tup [u, w]) ∧ Rp.rp m H x.1 u ∧ Rp.rp m H x.2 w,
  fun k t ⟨a, u, w, e, h, h1, h2⟩ => ⟨a, u, w, e, t a _ h, Rp.go k t h1, Rp.go k t h2⟩⟩
instance {α β : Type} [Rp α] [Rp β] [Nl α] [Nl β] : Nl (α × β) := ⟨fun t ⟨a, u, w, e, h, h1, h2⟩ => ⟨a, u, w, e, t a _ h, Nl.nl t h1, Nl.nl t h2⟩⟩
/-- a triple as a tuple of three -/
structure Tri (α β γ : Type) where
  a : α
  b : β
  c : γ
  deriving DecidableEq
instance {α β γ : Type} [Rp α] [Rp β] [Rp γ] : Rp (Tri α β γ) := ⟨fun m H x v => ∃ a u w z, v = .ref a ∧ H a = some (.tup [u, w, z]) ∧ Rp.rp m H x.a u ∧ Rp.rp m H x.b w ∧ Rp.rp m H x.c z,
  fun k t ⟨a, u, w, z, e, h, h1, h2, h3⟩ => ⟨a, u, w, z, e, t a _ h, Rp.go k t h1, Rp.go k t h2, Rp.go k t h3⟩⟩
instance {α β γ : Type} [Rp α] [Rp β] [Rp γ] [Nl α] [Nl β] [Nl γ] : Nl (Tri α β γ) := ⟨fun t ⟨a, u, w, z, e, h, h1, h2, h3⟩ => ⟨a, u, w, z, e, t a _ h, Nl.nl t h1, Nl.nl t h2, Nl.nl t h3⟩⟩
/-- a tuple of any length -/
structure Tp (α : Type) where
  l : List α
  deriving DecidableEq
instance {α : Type} [Rp α] : Rp (Tp α) := ⟨fun m H x v => ∃ a vs, v = .ref a ∧ H a = some (.tup vs) ∧ Paired (Rp.rp m H) x.l vs,
  fun k t ⟨a, vs, e, h, h1⟩ => ⟨a, vs, e, t a _ h, paired_go h1 fun _ _ => Rp.go k t⟩⟩
instance {α : Type} [Rp α] [Nl α] : Nl (Tp α) := ⟨fun t ⟨a, vs, e, h, h1⟩ => ⟨a, vs, e, t a _ h, paired_go h1 fun _ _ => Nl.nl t⟩⟩
/-- a list that nobody changes -/
instance {α : Type} [Rp α] : Rp (List α) := ⟨fun m H x v => ∃ a vs, v = .ref a ∧ a ∉ m ∧ H a = some (.lst vs) ∧ Paired (Rp.rp m H) x vs,
  fun k t ⟨a, vs, e, n, h, h1⟩ => ⟨a, vs, e, (k a _ h n).1, (k a _ h n).2, paired_go h1 fun _ _ => Rp.go k t⟩⟩
instance {α : Type} [Rp α] : Rp (Option α) := ⟨fun m H x v => match x with
  | none => v = .non
  | some y => Rp.rp m H y v, fun {m m' H H' x v} k t h => by
    cases x with
    | none => exact h
    | some y => exact Rp.go k t h⟩
theorem nl_opt {α : Type} [Rp α] [Nl α] {m m' : List Addr} {H H' : Hp} : ∀ {x : Option α} {v : V}, (∀ a xs, H a = some (.tup xs) → H' a = some (.tup xs)) → Rp.rp m H x v → Rp.rp m' H' x v
  | none, _, _, h => h
  | some y, v, t, h => Nl.nl (α := α) (m := m) (x := y) (v := v) t h
instance {α : Type} [Rp α] [Nl α] : Nl (Option α) := ⟨fun t h => nl_opt t h⟩
section
variable {α β : Type} [Rp α] [Rp β] {D : Dst} {m m' : List Addr} {H H' : Hp} {x : α} {v : V} {a p : Addr}
theorem rp_gr {ms : List Addr} (h : Rp.rp m H x v) (g : Gr ms H H') (s : ∀ a, a ∈ ms → a ∈ m) : Rp.rp m H' x v :=
  Rp.go (fun a o e n => ⟨n, g.keep a o e fun z => n (s a z)⟩) (fun a xs e => g.tup a xs e) h
theorem rp_gd (h : Rp.rp m H x v) (c : Cc D m H) (g : Gd D H H') : Rp.rp m H' x v := rp_gr h g.gr c.sub
theorem rp_g0 (h : Rp.rp m H x v) (g : Gr [] H H') : Rp.rp m H' x v := rp_gr h g (by simp)
theorem rp_less (h : Rp.rp m H x v) (s : ∀ a, a ∈ m' → a ∈ m) : Rp.rp m' H x v := Rp.go (fun a o e n => ⟨fun z => n (s a z), e⟩) (fun _ _ e => e) h
theorem rp_nil (h : Rp.rp m H x v) : Rp.rp [] H x v := rp_less h (by simp)
/-- a place that H does not know may be added -/
theorem rp_more (h : Rp.rp m H x v) (hp : H p = none) : Rp.rp (p :: m) H x v :=
  Rp.go (fun a o e n => ⟨fun z => (List.mem_cons.mp z).elim (fun q => ne_of_none e hp q) n, e⟩) (fun _ _ e => e) h
theorem rp_nl [Nl α] (h : Rp.rp m H x v) (t : ∀ a xs, H a = some (.tup xs) → H' a = some (.tup xs)) : Rp.rp m' H' x v := Nl.nl t h
theorem rp_int {i : Int} (h : Rp.rp m H i v) : v = .int i := h
theorem rp_bool {i : Bool} (h : Rp.rp m H i v) : v = .bl i := h
theorem rp_str {i : Str} (h : Rp.rp m H i v) : v = .str i := h
/-- a list of its own at a -/
def Own (m : List Addr) (H : Hp) (a : Addr) (xs : List α) : Prop := a ∉ m ∧ ∃ vs, H a = some (.lst vs) ∧ Paired (Rp.rp m H) xs vs
theorem Own.rp {xs : List α} (o : Own m H a xs) : Rp.rp m H xs (.ref a) := let ⟨n, vs, h, q⟩ := o; ⟨a, vs, rfl, n, h, q⟩
theorem Own.nil (h : a ∉ m) (e : H a = some (.lst [])) : Own m H a ([] : List α) := ⟨h, [], e, .nil⟩
theorem Own.go {xs : List α} {ms : List Addr} (o : Own m H a xs) (g : Gr ms H H') (s : ∀ a, a ∈ ms → a ∈ m) : Own m H' a xs := let ⟨n, vs, h, q⟩ := o
  ⟨n, vs, g.keep a _ h fun z => n (s a z), paired_go q fun _ _ r => rp_gr r g s⟩
theorem Own.gd {xs : List α} (o : Own m H a xs) (c : Cc D m H) (g : Gd D H H') : Own m H' a xs := o.go g.gr c.sub
theorem Own.ex {xs : List α} (o : Own m H a xs) : ∃ vs, H a = some (.lst vs) ∧ Paired (Rp.rp m H) xs vs ∧ xs.length = vs.length := let ⟨_, vs, h, q⟩ := o; ⟨vs, h, q, q.length⟩
theorem upd_tup {o : HO} {u : HO} (h : H a = some u) (nt : ∀ xs, u ≠ .tup xs) : ∀ b xs, H b = some (.tup xs) → upd H a o b = some (.tup xs) := fun b xs e => by
  rw [upd_ne (fun z => by rw [z, h] at e; exact nt xs (Option.some.inj e))]
  exact e
theorem Own.app [Nl α] {xs : List α} {vs : List V} (o : Own m H a xs) (h : H a = some (.lst vs)) (r : Rp.rp m' H x v) : Own m (upd H a (.lst (vs ++ [v]))) a (xs ++ [x]) := by
  obtain ⟨n, vs', h', q⟩ := o
  rw [h] at h'
  cases h'
  have t := upd_tup (o := .lst (vs ++ [v])) h (fun xs z => by cases z)
  exact ⟨n, _, upd_same, (paired_go q fun _ _ r => rp_nl r t).snoc (rp_nl r t)⟩
/-- another object changes -/
theorem Own.upd_ne [Nl α] {xs : List α} {b : Addr} {u o' : HO} (o : Own m H a xs) (h : a ≠ b) (hb : H b = some u) (nt : ∀ xs, u ≠ .tup xs) : Own m (upd H b o') a xs := by
  obtain ⟨n, vs, h', q⟩ := o
  exact ⟨n, vs, by rw [L2.upd_ne h]; exact h', paired_go q fun _ _ r => rp_nl r (upd_tup hb nt)⟩
theorem paired_ints {ns : List Int} {vs : List V} (h : Paired (Rp.rp m H) ns vs) : vs = ns.map V.int := by
  induction h with
  | nil => rfl
  | cons e _ ih => rw [ih, rp_int e]; rfl
theorem ints_paired (ns : List Int) : Paired (Rp.rp m H) ns (ns.map V.int) := by
  induction ns with
  | nil => exact .nil
  | cons n ns ih => exact .cons rfl ih
theorem Own.ints {ns : List Int} (o : Own m H a ns) : H a = some (.lst (ns.map V.int)) := by
  obtain ⟨_, vs, h, q⟩ := o
  rw [h, paired_ints q]
theorem Own.of_ints {ns : List Int} (h : a ∉ m) (e : H a = some (.lst (ns.map V.int))) : Own m H a ns := ⟨h, _, e, ints_paired ns⟩
end

/-! ### what an expression is worth -/
section
variable {α β γ : Type} [Rp α] [Rp β] [Rp γ]
/-- te comes to some x with p x, whatever was new since H; only the draws' state may have gone on -/
def Ev (D : Dst) (m : List Addr) (te : TE) (σ : St) (H : Hp) (p : α → Prop) : Prop :=
  ∀ H1, Gd D H H1 → Cc D m H1 → ∀ Q : VK, (∀ x v H2, Gd D H1 H2 → Rp.rp m H2 x v → p x → Q v H2) → te σ H1 Q
/-- .. to x -/
abbrev EvV (D : Dst) (m : List Addr) (te : TE) (σ : St) (H : Hp) (x : α) : Prop := Ev D m te σ H fun y => y = x
/-- .. to a new list of its own -/
def EvL (D : Dst) (m : List Addr) (te : TE) (σ : St) (H : Hp) (p : List α → Prop) : Prop :=
  ∀ H1, Gd D H H1 → Cc D m H1 → ∀ Q : VK, (∀ xs a H2, H1 a = none → Gd D H1 H2 → Own m H2 a xs → p xs → Q (.ref a) H2) → te σ H1 Q
abbrev EvLV (D : Dst) (m : List Addr) (te : TE) (σ : St) (H : Hp) (xs : List α) : Prop := EvL D m te σ H fun y => y = xs
/-- a test -/
def EvT (D : Dst) (m : List Addr) (t : TT) (σ : St) (H : Hp) (p : Bool → Prop) : Prop :=
  ∀ H1, Gd D H H1 → Cc D m H1 → ∀ Q : Bool → Hp → Prop, (∀ b H2, Gd D H1 H2 → p b → Q b H2) → t σ H1 Q
abbrev EvB (D : Dst) (m : List Addr) (t : TT) (σ : St) (H : Hp) (b : Bool) : Prop := EvT D m t σ H fun c => c = b
/-- arguments: any values, told by their heap -/
def EvA (D : Dst) (m : List Addr) (t : TA) (σ : St) (H : Hp) (p : List V → Hp → Prop) : Prop :=
  ∀ H1, Gd D H H1 → Cc D m H1 → ∀ Q : List V → Hp → Prop, (∀ vs H2, Gd D H1 H2 → p vs H2 → Q vs H2) → t σ H1 Q
variable {K : PySem.W.Frag} {D : Dst} {m : List Addr} {σ : St} {H H' : Hp} {ta tb te : TE} {x : α} {y : β} {v : V}
theorem Ev.mono {p : α → Prop} (h : Ev D m te σ H p) (g : Gd D H H') : Ev D m te σ H' p := fun H1 a => h H1 (g.trans a)
theorem Ev.imp {p q : α → Prop} (h : Ev D m te σ H p) (k : ∀ x, p x → q x) : Ev D m te σ H q := fun H1 g c Q w => h H1 g c Q fun x v H2 g2 r z => w x v H2 g2 r (k x z)
theorem EvL.ev {p : List α → Prop} (h : EvL D m te σ H p) : Ev D m te σ H p := fun H1 g c Q w => h H1 g c Q fun xs a H2 _ g2 o z => w xs (.ref a) H2 g2 o.rp z
theorem EvL.mono {p : List α → Prop} (h : EvL D m te σ H p) (g : Gd D H H') : EvL D m te σ H' p := fun H1 a => h H1 (g.trans a)
theorem EvL.imp {p q : List α → Prop} (h : EvL D m te σ H p) (k : ∀ x, p x → q x) : EvL D m te σ H q := fun H1 g c Q w => h H1 g c Q fun x a H2 n g2 r z => w x a H2 n g2 r (k x z)
theorem EvT.mono {t : TT} {p : Bool → Prop} (h : EvT D m t σ H p) (g : Gd D H H') : EvT D m t σ H' p := fun H1 a => h H1 (g.trans a)
theorem EvT.imp {t : TT} {p q : Bool → Prop} (h : EvT D m t σ H p) (k : ∀ x, p x → q x) : EvT D m t σ H q := fun H1 g c Q w => h H1 g c Q fun b H2 g2 z => w b H2 g2 (k b z)
theorem Ev.any {p : α → Prop} (h : Ev D m te σ H p) : Ev D m te σ H fun _ : α => True := h.imp fun _ _ => trivial
theorem Ev.to {p : α → Prop} {x : α} (h : EvV D m te σ H x) (k : p x) : Ev D m te σ H p := h.imp fun _ e => by rw [e]; exact k

theorem ev_c {i : Int} : EvV D m (tC (.int i)) σ H i := fun H1 _ _ Q q => q i _ H1 .refl rfl rfl
theorem ev_b {i : Bool} : EvV D m (tC (.bl i)) σ H i := fun H1 _ _ Q q => q i _ H1 .refl rfl rfl
theorem ev_s {i : Str} : EvV D m (tC (.str i)) σ H i := fun H1 _ _ Q q => q i _ H1 .refl rfl rfl
theorem ev_non : EvV D m (tC .non) σ H (none : Option α) := fun H1 _ _ Q q => q none _ H1 .refl rfl rfl
/-- a name -/
theorem ev_v {i : Nat} (h : σ[i]? = some (some v)) (r : Rp.rp m H x v) : EvV D m (tVar i) σ H x := fun H1 g c Q q => ⟨v, h, q x v H1 .refl (rp_gr r g.gr c.sub) rfl⟩
theorem ev_vi {i : Nat} {n : Int} (h : σ[i]? = some (some (.int n)) := by rfl) : EvV D m (tVar i) σ H n := fun H1 _ _ Q q => ⟨_, h, q n _ H1 .refl rfl rfl⟩
theorem ev_vb {i : Nat} {n : Bool} (h : σ[i]? = some (some (.bl n)) := by rfl) : EvV D m (tVar i) σ H n := fun H1 _ _ Q q => ⟨_, h, q n _ H1 .refl rfl rfl⟩
theorem ev_vs {i : Nat} {n : Str} (h : σ[i]? = some (some (.str n)) := by rfl) : EvV D m (tVar i) σ H n := fun H1 _ _ Q q => ⟨_, h, q n _ H1 .refl rfl rfl⟩

/-! whole numbers -/
theorem ev_i0 {g : Int → Int → Int} {p q r : Int → Prop} (ha : Ev D m ta σ H p) (hb : Ev D m tb σ H q) (k : ∀ i j, p i → q j → r (g i j)) : Ev D m (tOp (rI0 fun i j => .int (g i j)) ta tb) σ H r := fun H1 e c Q w =>
  ha H1 e c _ fun i v H2 e2 ri pi => hb H2 (e.trans e2) (c.go e2) _ fun j u H3 e3 rj qj => ⟨i, j, ri, rj, w _ _ H3 (e2.trans e3) rfl (k i j pi qj)⟩
theorem ev_iC {C : Int → Int → Prop} {g : Int → Int → Int} {p q r : Int → Prop} (ha : Ev D m ta σ H p) (hb : Ev D m tb σ H q) (hc : ∀ i j, p i → q j → C i j) (k : ∀ i j, p i → q j → r (g i j)) : Ev D m (tOp (rI C fun i j => .int (g i j)) ta tb) σ H r := fun H1 e c Q w =>
  ha H1 e c _ fun i v H2 e2 ri pi => hb H2 (e.trans e2) (c.go e2) _ fun j u H3 e3 rj qj => ⟨i, j, ri, rj, hc i j pi qj, w _ _ H3 (e2.trans e3) rfl (k i j pi qj)⟩
theorem ev_o {g : Int → Int → Int} {i j : Int} (ha : EvV D m ta σ H i) (hb : EvV D m tb σ H j) : EvV D m (tOp (rI0 fun i j => .int (g i j)) ta tb) σ H (g i j) := ev_i0 ha hb fun _ _ a b => by rw [a, b]
theorem ev_oC {C : Int → Int → Prop} {g : Int → Int → Int} {i j : Int} (ha : EvV D m ta σ H i) (hb : EvV D m tb σ H j) (hc : C i j) : EvV D m (tOp (rI C fun i j => .int (g i j)) ta tb) σ H (g i j) :=
  ev_iC ha hb (fun _ _ a b => by rw [a, b]; exact hc) fun _ _ a b => by rw [a, b]
theorem ev_un {g : Int → Int} {p r : Int → Prop} (ha : Ev D m ta σ H p) (k : ∀ i, p i → r (g i)) : Ev D m (tUn (rU fun i => .int (g i)) ta) σ H r := fun H1 e c Q w =>
  ha H1 e c _ fun i v H2 e2 ri pi => ⟨i, ri, w _ _ H2 e2 rfl (k i pi)⟩
/-- comparisons of whole numbers -/
theorem ev_ib {g : Int → Int → Bool} {p q : Int → Prop} {r : Bool → Prop} (ha : Ev D m ta σ H p) (hb : Ev D m tb σ H q) (k : ∀ i j, p i → q j → r (g i j)) : Ev D m (tOp (rI0 fun i j => .bl (g i j)) ta tb) σ H r := fun H1 e c Q w =>
  ha H1 e c _ fun i v H2 e2 ri pi => hb H2 (e.trans e2) (c.go e2) _ fun j u H3 e3 rj qj => ⟨i, j, ri, rj, w _ _ H3 (e2.trans e3) rfl (k i j pi qj)⟩
theorem ev_ob {g : Int → Int → Bool} {i j : Int} (ha : EvV D m ta σ H i) (hb : EvV D m tb σ H j) : EvV D m (tOp (rI0 fun i j => .bl (g i j)) ta tb) σ H (g i j) := ev_ib ha hb fun _ _ a b => by rw [a, b]
theorem ev_eqI {p q : Int → Prop} {r : Bool → Prop} (ha : Ev D m ta σ H p) (hb : Ev D m tb σ H q) (k : ∀ i j, p i → q j → r (decide (i = j))) : Ev D m (tOp rEq ta tb) σ H r := fun H1 e c Q w =>
  ha H1 e c _ fun i v H2 e2 ri pi => hb H2 (e.trans e2) (c.go e2) _ fun j u H3 e3 rj qj => by
    cases rp_int ri; cases rp_int rj
    exact ⟨rfl, w _ _ H3 (e2.trans e3) (show V.bl _ = V.bl _ by rw [dec_int, Bool.beq_eq_decide_eq]) (k i j pi qj)⟩
theorem ev_eqV {i j : Int} (ha : EvV D m ta σ H i) (hb : EvV D m tb σ H j) : EvV D m (tOp rEq ta tb) σ H (decide (i = j)) := ev_eqI ha hb fun _ _ a b => by rw [a, b]
theorem ev_neI {p q : Int → Prop} {r : Bool → Prop} (ha : Ev D m ta σ H p) (hb : Ev D m tb σ H q) (k : ∀ i j, p i → q j → r (!decide (i = j))) : Ev D m (tOp rNe ta tb) σ H r := fun H1 e c Q w =>
  ha H1 e c _ fun i v H2 e2 ri pi => hb H2 (e.trans e2) (c.go e2) _ fun j u H3 e3 rj qj => by
    cases rp_int ri; cases rp_int rj
    exact ⟨rfl, w _ _ H3 (e2.trans e3) (show V.bl _ = V.bl _ by rw [dec_int, Bool.beq_eq_decide_eq]) (k i j pi qj)⟩
theorem ev_neV {i j : Int} (ha : EvV D m ta σ H i) (hb : EvV D m tb σ H j) : EvV D m (tOp rNe ta tb) σ H (!decide (i = j)) := ev_neI ha hb fun _ _ a b => by rw [a, b]
theorem ev_eqS {i j : Str} (ha : EvV D m ta σ H i) (hb : EvV D m tb σ H j) : EvV D m (tOp rEq ta tb) σ H (decide (i = j)) := fun H1 e c Q w =>
  ha H1 e c _ fun i' v H2 e2 ri pi => hb H2 (e.trans e2) (c.go e2) _ fun j' u H3 e3 rj qj => by
    cases rp_str ri; cases rp_str rj; cases pi; cases qj
    exact ⟨rfl, w _ _ H3 (e2.trans e3) (show V.bl _ = V.bl _ by rw [dec_str]; congr 1) rfl⟩
theorem ev_neS {i j : Str} (ha : EvV D m ta σ H i) (hb : EvV D m tb σ H j) : EvV D m (tOp rNe ta tb) σ H (!decide (i = j)) := fun H1 e c Q w =>
  ha H1 e c _ fun i' v H2 e2 ri pi => hb H2 (e.trans e2) (c.go e2) _ fun j' u H3 e3 rj qj => by
    cases rp_str ri; cases rp_str rj; cases pi; cases qj
    exact ⟨rfl, w _ _ H3 (e2.trans e3) (show V.bl _ = V.bl _ by rw [dec_str]; congr 1) rfl⟩
/-- a < b < c of whole numbers -/
theorem ev_chain {g g' : Int → Int → Bool} {tc : TE} {i j k : Int} (ha : EvV D m ta σ H i) (hb : EvV D m tb σ H j) (hc : EvV D m tc σ H k) :
    EvV D m (tChain (rI0 fun i j => .bl (g i j)) (rI0 fun i j => .bl (g' i j)) ta tb tc) σ H (g i j && g' j k) := fun H1 e c Q w =>
  ha H1 e c _ fun i' v H2 e2 ri pi => hb H2 (e.trans e2) (c.go e2) _ fun j' u H3 e3 rj qj => by
    cases pi; cases qj
    refine ⟨i, j, ri, rj, g i j, rfl, ?_⟩
    cases hg : g i j with
    | true =>
      rw [if_pos rfl]
      exact hc H3 ((e.trans e2).trans e3) ((c.go e2).go e3) _ fun k' z H4 e4 rk pk => by
        cases pk
        exact ⟨j, k, rj, rk, w _ _ H4 ((e2.trans e3).trans e4) rfl (by rw [hg, Bool.true_and])⟩
    | false =>
      rw [if_neg Bool.false_ne_true]
      exact w _ _ H3 (e2.trans e3) rfl (by rw [hg, Bool.false_and])

/-! tests -/
variable {t u : TT}
theorem et_e {p : Bool → Prop} (h : Ev D m te σ H p) : EvT D m (tTest te) σ H p := fun H1 e c Q w => h H1 e c _ fun b v H2 e2 r z => ⟨b, r, w b H2 e2 z⟩
theorem et_B {p : Bool → Prop} (h : Ev D m te σ H p) : EvT D m (tB te) σ H p := fun H1 e c Q w => h H1 e c _ fun b v H2 e2 r z => ⟨b, r, w b H2 e2 z⟩
theorem et_and {p q r : Bool → Prop} (h1 : EvT D m t σ H p) (h2 : p true → EvT D m u σ H q) (k0 : p false → r false) (k1 : ∀ b, p true → q b → r b) : EvT D m (tAnd t u) σ H r := fun H1 e c Q w => h1 H1 e c _ fun b H2 e2 z => by
  cases b with
  | true =>
    show u σ H2 Q
    exact h2 z H2 (e.trans e2) (c.go e2) Q fun b H3 e3 y => w b H3 (e2.trans e3) (k1 b z y)
  | false => exact w false H2 e2 (k0 z)
theorem et_or {p q r : Bool → Prop} (h1 : EvT D m t σ H p) (h2 : p false → EvT D m u σ H q) (k0 : p true → r true) (k1 : ∀ b, p false → q b → r b) : EvT D m (tOr t u) σ H r := fun H1 e c Q w => h1 H1 e c _ fun b H2 e2 z => by
  cases b with
  | true => exact w true H2 e2 (k0 z)
  | false =>
    show u σ H2 Q
    exact h2 z H2 (e.trans e2) (c.go e2) Q fun b H3 e3 y => w b H3 (e2.trans e3) (k1 b z y)
theorem et_andV {a b : Bool} (h1 : EvB D m t σ H a) (h2 : a = true → EvB D m u σ H b) : EvB D m (tAnd t u) σ H (a && b) :=
  et_and h1 (fun e => h2 e.symm) (fun e => by rw [← e]; rfl) fun c e e2 => by rw [← e, e2]; rfl
theorem et_orV {a b : Bool} (h1 : EvB D m t σ H a) (h2 : a = false → EvB D m u σ H b) : EvB D m (tOr t u) σ H (a || b) :=
  et_or h1 (fun e => h2 e.symm) (fun e => by rw [← e]; rfl) fun c e e2 => by rw [← e, e2]; rfl
theorem et_not {p q : Bool → Prop} (h : EvT D m t σ H p) (k : ∀ b, p b → q (!b)) : EvT D m (tNot t) σ H q := fun H1 e c Q w => h H1 e c _ fun b H2 e2 z => w _ H2 e2 (k b z)
theorem et_notV {a : Bool} (h : EvB D m t σ H a) : EvB D m (tNot t) σ H (!a) := et_not h fun b e => by rw [e]
theorem ev_andV {a b : Bool} (h1 : EvV D m ta σ H a) (h2 : a = true → EvV D m tb σ H b) : EvV D m (tAndV ta tb) σ H (a && b) := fun H1 e c Q w => h1 H1 e c _ fun a' v H2 e2 r z => by
  cases z
  refine ⟨a, r, ?_⟩
  cases a with
  | true => rw [if_pos rfl]; exact h2 rfl H2 (e.trans e2) (c.go e2) Q fun b' v H3 e3 r3 z => w b' v H3 (e2.trans e3) r3 z
  | false => rw [if_neg Bool.false_ne_true]; exact w false _ H2 e2 rfl rfl
theorem ev_orV {a b : Bool} (h1 : EvV D m ta σ H a) (h2 : a = false → EvV D m tb σ H b) : EvV D m (tOrV ta tb) σ H (a || b) := fun H1 e c Q w => h1 H1 e c _ fun a' v H2 e2 r z => by
  cases z
  refine ⟨a, r, ?_⟩
  cases a with
  | true => rw [if_pos rfl]; exact w true _ H2 e2 rfl rfl
  | false => rw [if_neg Bool.false_ne_true]; exact h2 rfl H2 (e.trans e2) (c.go e2) Q fun b' v H3 e3 r3 z => w b' v H3 (e2.trans e3) r3 z
theorem ev_notV {a : Bool} (h1 : EvV D m ta σ H a) : EvV D m (tNotV ta) σ H (!a) := fun H1 e c Q w => h1 H1 e c _ fun a' v H2 e2 r z => by
  cases z
  exact ⟨a, r, w _ _ H2 e2 rfl rfl⟩
/-- a if t else b -/
theorem ev_if {b : Bool} {p : α → Prop} (h : EvB D m t σ H b) (h1 : b = true → Ev D m ta σ H p) (h2 : b = false → Ev D m tb σ H p) : Ev D m (tIf t ta tb) σ H p := fun H1 e c Q w => h H1 e c _ fun b' H2 e2 z => by
  cases z
  cases b with
  | true => rw [if_pos rfl]; exact h1 rfl H2 (e.trans e2) (c.go e2) Q fun x v H3 e3 => w x v H3 (e2.trans e3)
  | false => rw [if_neg Bool.false_ne_true]; exact h2 rfl H2 (e.trans e2) (c.go e2) Q fun x v H3 e3 => w x v H3 (e2.trans e3)
theorem ev_ifP {q : Bool → Prop} {p : α → Prop} (h : EvT D m t σ H q) (h1 : q true → Ev D m ta σ H p) (h2 : q false → Ev D m tb σ H p) : Ev D m (tIf t ta tb) σ H p := fun H1 e c Q w => h H1 e c _ fun b' H2 e2 z => by
  cases b' with
  | true => rw [if_pos rfl]; exact h1 z H2 (e.trans e2) (c.go e2) Q fun x v H3 e3 => w x v H3 (e2.trans e3)
  | false => rw [if_neg Bool.false_ne_true]; exact h2 z H2 (e.trans e2) (c.go e2) Q fun x v H3 e3 => w x v H3 (e2.trans e3)

/-! tuples, lists -/
/-- (a, b) -/
theorem ev_pair {p : α → Prop} {q : β → Prop} {r : α × β → Prop} (ha : Ev D m ta σ H p) (hb : Ev D m tb σ H q) (k : ∀ x y, p x → q y → r (x, y)) : Ev D m (tTup (tCons ta (tCons tb tNil))) σ H r := fun H1 e c Q w =>
  ha H1 e c _ fun x v H2 e2 rx px => hb H2 (e.trans e2) (c.go e2) _ fun y u H3 e3 ry qy => ⟨(by show 2 ≤ sizeLine; decide), fun a ha =>
    w (x, y) _ _ ((e2.trans e3).trans (.new ha)) ⟨a, v, u, rfl, upd_same, rp_g0 (rp_gd rx (c.go e2) e3) (.new ha), rp_g0 ry (.new ha)⟩ (k x y px qy)⟩
theorem ev_pairV {x : α} {y : β} (ha : EvV D m ta σ H x) (hb : EvV D m tb σ H y) : EvV D m (tTup (tCons ta (tCons tb tNil))) σ H (x, y) := ev_pair ha hb fun _ _ a b => by rw [a, b]
theorem ev_tri {tc : TE} {p : α → Prop} {q : β → Prop} {s : γ → Prop} {r : Tri α β γ → Prop} (ha : Ev D m ta σ H p) (hb : Ev D m tb σ H q) (hc : Ev D m tc σ H s) (k : ∀ x y z, p x → q y → s z → r ⟨x, y, z⟩) : Ev D m (tTup (tCons ta (tCons tb (tCons tc tNil)))) σ H r := fun H1 e c Q w =>
  ha H1 e c _ fun x v H2 e2 rx px => hb H2 (e.trans e2) (c.go e2) _ fun y u H3 e3 ry qy => hc H3 ((e.trans e2).trans e3) ((c.go e2).go e3) _ fun z o H4 e4 rz sz => ⟨(by show 3 ≤ sizeLine; decide), fun a ha =>
    w ⟨x, y, z⟩ _ _ (((e2.trans e3).trans e4).trans (.new ha)) ⟨a, v, u, o, rfl, upd_same, rp_g0 (rp_gd (rp_gd rx (c.go e2) e3) ((c.go e2).go e3) e4) (.new ha), rp_g0 (rp_gd ry ((c.go e2).go e3) e4) (.new ha), rp_g0 rz (.new ha)⟩ (k x y z px qy sz)⟩
/-- items of a display, all alike -/
def EvI (D : Dst) (m : List Addr) (t : TA) (σ : St) (H : Hp) (p : List α → Prop) : Prop :=
  ∀ H1, Gd D H H1 → Cc D m H1 → ∀ Q : List V → Hp → Prop, (∀ xs vs H2, Gd D H1 H2 → Paired (Rp.rp m H2) xs vs → p xs → Q vs H2) → t σ H1 Q
theorem ei_nil : EvI D m tNil σ H (fun xs : List α => xs = []) := fun H1 _ _ Q w => w [] [] H1 .refl .nil rfl
theorem ei_cons {tr : TA} {p : α → Prop} {q r : List α → Prop} (ha : Ev D m ta σ H p) (hr : EvI D m tr σ H q) (k : ∀ x xs, p x → q xs → r (x :: xs)) : EvI D m (tCons ta tr) σ H r := fun H1 e c Q w =>
  ha H1 e c _ fun x v H2 e2 rx px => hr H2 (e.trans e2) (c.go e2) _ fun xs vs H3 e3 rs qs => w (x :: xs) (v :: vs) H3 (e2.trans e3) (.cons (rp_gd rx (c.go e2) e3) rs) (k x xs px qs)
theorem ei_consV {tr : TA} {x : α} {xs : List α} (ha : EvV D m ta σ H x) (hr : EvI D m tr σ H (fun ys => ys = xs)) : EvI D m (tCons ta tr) σ H (fun ys => ys = x :: xs) := ei_cons ha hr fun _ _ a b => by rw [a, b]
theorem el_lst {ti : TA} {p : List α → Prop} (h : EvI D m ti σ H p) (hl : ∀ xs, p xs → xs.length ≤ 100000) : EvL D m (tLst ti) σ H p := fun H1 e c Q w =>
  h H1 e c _ fun xs vs H2 e2 rs ps => ⟨by have := rs.length; exact Evl.sz_of (this ▸ hl xs ps), fun a ha => w xs a _ (e2.gr.dom a ha) (e2.trans (.new ha))
    ⟨(c.go e2).free ha, vs, upd_same, paired_go rs fun _ _ r => rp_g0 r (.new ha)⟩ ps⟩
theorem ev_tp {ti : TA} {p : List α → Prop} {q : Tp α → Prop} (h : EvI D m ti σ H p) (hl : ∀ xs, p xs → xs.length ≤ 100000) (k : ∀ xs, p xs → q ⟨xs⟩) : Ev D m (tTup ti) σ H q := fun H1 e c Q w =>
  h H1 e c _ fun xs vs H2 e2 rs ps => ⟨by have := rs.length; exact Evl.sz_of (this ▸ hl xs ps), fun a ha => w ⟨xs⟩ _ _ (e2.trans (.new ha)) ⟨a, vs, rfl, upd_same, paired_go rs fun _ _ r => rp_g0 r (.new ha)⟩ (k xs ps)⟩
theorem rp_lst {xs : List α} (r : Rp.rp m H xs v) : ∃ a vs, v = .ref a ∧ a ∉ m ∧ H a = some (.lst vs) ∧ Paired (Rp.rp m H) xs vs := r
theorem paired_at {α β : Type} {F : α → β → Prop} : ∀ {l : List α} {r : List β} {i : Nat} {x : α}, Paired F l r → l[i]? = some x → ∃ y, r[i]? = some y ∧ F x y
  | _, _, _, _, .nil, e => by simp at e
  | _, _, 0, _, .cons h _, e => by simp at e; subst e; exact ⟨_, rfl, h⟩
  | _, _, i + 1, x, .cons _ t, e => by simpa using paired_at (i := i) t (by simpa using e)
theorem paired_atI {F : α → V → Prop} {l : List α} {r : List V} {i : Int} {x : α} (h : Paired F l r) (e : atI l i = some x) : ∃ y, atI r i = some y ∧ F x y := by
  unfold atI at e ⊢
  rw [← h.length]
  cases q : ixN l.length i with
  | none => rw [q] at e; cases e
  | some j =>
    rw [q] at e
    exact paired_at h e
/-- xs[i] -/
theorem ev_ixL {xs : List α} {q : Int → Prop} {p : α → Prop} (ha : EvV D m ta σ H xs) (hb : Ev D m tb σ H q) (k : ∀ i, q i → ∃ x, atI xs i = some x ∧ p x) : Ev D m (tOp (rIxL K) ta tb) σ H p := fun H1 e c Q w =>
  ha H1 e c _ fun xs' v H2 e2 rx px => hb H2 (e.trans e2) (c.go e2) _ fun j u H3 e3 rj qj => by
    cases px
    obtain ⟨x, hx, px⟩ := k j qj
    obtain ⟨a, vs, rfl, n, h, ps⟩ := rp_lst (rp_gd rx (c.go e2) e3)
    obtain ⟨y, hy, ry⟩ := paired_atI ps hx
    exact ⟨a, vs, j, y, rfl, rj, .of h, hy, w x y H3 (e2.trans e3) ry px⟩
theorem ev_ixL' {s : List α → Prop} {q : Int → Prop} {p : α → Prop} (ha : Ev D m ta σ H s) (hb : Ev D m tb σ H q) (k : ∀ xs i, s xs → q i → ∃ x, atI xs i = some x ∧ p x) : Ev D m (tOp (rIxL K) ta tb) σ H p := fun H1 e c Q w =>
  ha H1 e c _ fun xs v H2 e2 rx px => hb H2 (e.trans e2) (c.go e2) _ fun j u H3 e3 rj qj => by
    obtain ⟨x, hx, px⟩ := k xs j px qj
    obtain ⟨a, vs, rfl, n, h, ps⟩ := rp_lst (rp_gd rx (c.go e2) e3)
    obtain ⟨y, hy, ry⟩ := paired_atI ps hx
    exact ⟨a, vs, j, y, rfl, rj, .of h, hy, w x y H3 (e2.trans e3) ry px⟩
theorem ev_ixLV {xs : List α} {i : Int} {x : α} (ha : EvV D m ta σ H xs) (hb : EvV D m tb σ H i) (k : atI xs i = some x) : EvV D m (tOp (rIxL K) ta tb) σ H x := ev_ixL ha hb fun j e => ⟨x, by rw [e]; exact k, rfl⟩
/-- t[0], t[1] of a pair -/
theorem ev_ix0 {x : α × β} (ha : EvV D m ta σ H x) : EvV D m (tOp (rIxT K) ta (tC (.int 0))) σ H x.1 := fun H1 e c Q w =>
  ha H1 e c _ fun x' v H2 e2 rx px => by
    cases px
    obtain ⟨a, u, z, rfl, h, r1, r2⟩ := rx
    exact ⟨a, _, 0, u, rfl, rfl, .of h, rfl, w _ _ H2 e2 r1 rfl⟩
theorem ev_ix1 {x : α × β} (ha : EvV D m ta σ H x) : EvV D m (tOp (rIxT K) ta (tC (.int 1))) σ H x.2 := fun H1 e c Q w =>
  ha H1 e c _ fun x' v H2 e2 rx px => by
    cases px
    obtain ⟨a, u, z, rfl, h, r1, r2⟩ := rx
    exact ⟨a, _, 1, z, rfl, rfl, .of h, rfl, w _ _ H2 e2 r2 rfl⟩
/-- len of a list -/
def rLen (K : PySem.W.Frag) : List V → Hp → VK → Prop := fun xs H Q => ∃ p ys, xs = [.ref p] ∧ (SqL K H p ys ∨ SqT K H p ys) ∧ Q (.int ys.length) H
theorem ev_len {xs : List α} (ha : EvV D m ta σ H xs) : EvV D m (tCB (rLen K) (tCons ta tNil)) σ H (xs.length : Int) := fun H1 e c Q w =>
  ha H1 e c _ fun xs' v H2 e2 rx px => by
    cases px
    obtain ⟨a, vs, rfl, n, h, ps⟩ := rp_lst rx
    exact ⟨a, vs, rfl, .inl (.of h), w _ _ H2 e2 (by rw [← ps.length]; rfl) rfl⟩
theorem ev_lenT {xs : Tp α} (ha : EvV D m ta σ H xs) : EvV D m (tCB (rLen K) (tCons ta tNil)) σ H (xs.l.length : Int) := fun H1 e c Q w =>
  ha H1 e c _ fun xs' v H2 e2 rx px => by
    cases px
    obtain ⟨a, vs, rfl, h, ps⟩ := rx
    exact ⟨a, vs, rfl, .inr (.of h), w _ _ H2 e2 (by rw [← ps.length]; rfl) rfl⟩
/-- list(xs) -/
def rList (K : PySem.W.Frag) : List V → Hp → VK → Prop := fun xs H Q => ∃ p ys, xs = [.ref p] ∧ (SqL K H p ys ∨ SqT K H p ys) ∧ ∀ l, H l = none → Q (.ref l) (upd H l (.lst ys))
theorem el_list {xs : List α} (ha : EvV D m ta σ H xs) : EvLV D m (tCB (rList K) (tCons ta tNil)) σ H xs := fun H1 e c Q w =>
  ha H1 e c _ fun xs' v H2 e2 rx px => by
    cases px
    obtain ⟨a, vs, rfl, n, h, ps⟩ := rp_lst rx
    exact ⟨a, vs, rfl, .inl (.of h), fun l hl => w xs l _ (e2.gr.dom l hl) (e2.trans (.new hl)) ⟨(c.go e2).free hl, vs, upd_same, paired_go ps fun _ _ r => rp_g0 r (.new hl)⟩ rfl⟩
theorem el_listT {xs : Tp α} (ha : EvV D m ta σ H xs) : EvLV D m (tCB (rList K) (tCons ta tNil)) σ H xs.l := fun H1 e c Q w =>
  ha H1 e c _ fun xs' v H2 e2 rx px => by
    cases px
    obtain ⟨a, vs, rfl, h, ps⟩ := rx
    exact ⟨a, vs, rfl, .inr (.of h), fun l hl => w xs.l l _ (e2.gr.dom l hl) (e2.trans (.new hl)) ⟨(c.go e2).free hl, vs, upd_same, paired_go ps fun _ _ r => rp_g0 r (.new hl)⟩ rfl⟩
/-- xs + ys -/
theorem rCat_ok {p q : List α → Prop} {r : List α → Prop} {rc : R2} (hrc : ∀ a b (us ws : List V) H Q, H a = some (.lst us) → H b = some (.lst ws) → us.length ≤ 100000 → ws.length ≤ 100000 → (∀ l, H l = none → Q (.ref l) (upd H l (.lst (us ++ ws)))) → rc (.ref a) (.ref b) H Q)
    (ha : Ev D m ta σ H p) (hb : Ev D m tb σ H q) (hl : ∀ xs ys, p xs → q ys → xs.length ≤ 100000 ∧ ys.length ≤ 100000) (k : ∀ xs ys, p xs → q ys → r (xs ++ ys)) : EvL D m (tOp rc ta tb) σ H r := fun H1 e c Q w =>
  ha H1 e c _ fun xs v H2 e2 rx px => hb H2 (e.trans e2) (c.go e2) _ fun ys u H3 e3 ry qy => by
    obtain ⟨a, vs, rfl, n, h, ps⟩ := rp_lst (rp_gd rx (c.go e2) e3)
    obtain ⟨b, us, rfl, n', h', ps'⟩ := rp_lst ry
    have z := hl xs ys px qy
    refine hrc a b vs us H3 Q h h' (by rw [← ps.length]; exact z.1) (by rw [← ps'.length]; exact z.2) fun l hl => ?_
    have app : ∀ {l1 l2 : List α} {r1 r2 : List V}, Paired (Rp.rp m H3) l1 r1 → Paired (Rp.rp m H3) l2 r2 → Paired (Rp.rp m H3) (l1 ++ l2) (r1 ++ r2) := fun {l1 l2 r1 r2} h1 h2 => by
      induction h1 with
      | nil => exact h2
      | cons a _ ih => exact .cons a ih
    exact w (xs ++ ys) l _ ((e2.trans e3).gr.dom l hl) ((e2.trans e3).trans (.new hl)) ⟨((c.go e2).go e3).free hl, _, upd_same, paired_go (app ps ps') fun _ _ r => rp_g0 r (.new hl)⟩ (k xs ys px qy)
end

/-! ### statements -/
section
variable {α β : Type} [Rp α] [Rp β] {K : PySem.W.Frag} {D : Dst} {m : List Addr} {σ : St} {H H' : Hp} {ta tb te : TE} {tt : TT} {v : V} {En : Ends} {i : Nat} {t u : TS}
theorem s_set {p : α → Prop} (c : Cc D m H) (h : Ev D m te σ H p) (k : ∀ x v H1, Gd D H H1 → Rp.rp m H1 x v → p x → En.nx (σ.set i (some v)) H1) : tAsg te (gName i) En σ H := h H .refl c _ fun x v H1 g r z => k x v H1 g r z
theorem s_setV {x : α} (c : Cc D m H) (h : EvV D m te σ H x) (k : ∀ v H1, Gd D H H1 → Rp.rp m H1 x v → En.nx (σ.set i (some v)) H1) : tAsg te (gName i) En σ H := s_set c h fun x v H1 g r z => by cases z; exact k v H1 g r
theorem s_setI {p : Int → Prop} (c : Cc D m H) (h : Ev D m te σ H p) (k : ∀ n H1, Gd D H H1 → p n → En.nx (σ.set i (some (.int n))) H1) : tAsg te (gName i) En σ H := s_set c h fun x v H1 g r z => by cases rp_int r; exact k x H1 g z
theorem s_setIV {n : Int} (c : Cc D m H) (h : EvV D m te σ H n) (k : ∀ H1, Gd D H H1 → En.nx (σ.set i (some (.int n))) H1) : tAsg te (gName i) En σ H := s_setI c h fun x H1 g z => by cases z; exact k H1 g
theorem s_setBV {b : Bool} (c : Cc D m H) (h : EvV D m te σ H b) (k : ∀ H1, Gd D H H1 → En.nx (σ.set i (some (.bl b))) H1) : tAsg te (gName i) En σ H := s_set c h fun x v H1 g r z => by cases rp_bool r; cases z; exact k H1 g
theorem s_setSV {b : Str} (c : Cc D m H) (h : EvV D m te σ H b) (k : ∀ H1, Gd D H H1 → En.nx (σ.set i (some (.str b))) H1) : tAsg te (gName i) En σ H := s_set c h fun x v H1 g r z => by cases rp_str r; cases z; exact k H1 g
theorem s_setL {p : List α → Prop} (c : Cc D m H) (h : EvL D m te σ H p) (k : ∀ xs a H1, H a = none → Gd D H H1 → Own m H1 a xs → p xs → En.nx (σ.set i (some (.ref a))) H1) : tAsg te (gName i) En σ H := h H .refl c _ fun x a H1 n g r z => k x a H1 n g r z
theorem s_setLV {xs : List α} (c : Cc D m H) (h : EvLV D m te σ H xs) (k : ∀ a H1, H a = none → Gd D H H1 → Own m H1 a xs → En.nx (σ.set i (some (.ref a))) H1) : tAsg te (gName i) En σ H := s_setL c h fun x a H1 n g r z => by cases z; exact k a H1 n g r
theorem s_drop {p : α → Prop} (c : Cc D m H) (h : Ev D m te σ H p) (k : ∀ x H1, Gd D H H1 → p x → En.nx σ H1) : tDrop te En σ H := h H .refl c _ fun x v H1 g _ z => k x H1 g z
theorem s_ret {p : α → Prop} (c : Cc D m H) (h : Ev D m te σ H p) (k : ∀ x v H1, Gd D H H1 → Rp.rp m H1 x v → p x → En.rt v H1) : tRet te En σ H := h H .refl c _ fun x v H1 g r z => k x v H1 g r z
theorem s_retV {x : α} (c : Cc D m H) (h : EvV D m te σ H x) (k : ∀ v H1, Gd D H H1 → Rp.rp m H1 x v → En.rt v H1) : tRet te En σ H := s_ret c h fun x v H1 g r z => by cases z; exact k v H1 g r
theorem s_retL {p : List α → Prop} (c : Cc D m H) (h : EvL D m te σ H p) (k : ∀ xs a H1, H a = none → Gd D H H1 → Own m H1 a xs → p xs → En.rt (.ref a) H1) : tRet te En σ H := h H .refl c _ fun x a H1 n g r z => k x a H1 n g r z
theorem s_retLV {xs : List α} (c : Cc D m H) (h : EvLV D m te σ H xs) (k : ∀ a H1, H a = none → Gd D H H1 → Own m H1 a xs → En.rt (.ref a) H1) : tRet te En σ H := s_retL c h fun x a H1 n g r z => by cases z; exact k a H1 n g r
theorem s_if {p : Bool → Prop} (c : Cc D m H) (h : EvT D m tt σ H p) (h1 : p true → ∀ H1, Gd D H H1 → t En σ H1) (h2 : p false → ∀ H1, Gd D H H1 → u En σ H1) : tIfS tt t u En σ H := h H .refl c _ fun b H1 g z => by
  cases b with
  | true => rw [if_pos rfl]; exact h1 z H1 g
  | false => rw [if_neg Bool.false_ne_true]; exact h2 z H1 g
theorem s_ifV {b : Bool} (c : Cc D m H) (h : EvB D m tt σ H b) (h1 : b = true → ∀ H1, Gd D H H1 → t En σ H1) (h2 : b = false → ∀ H1, Gd D H H1 → u En σ H1) : tIfS tt t u En σ H := s_if c h (fun e => h1 e.symm) fun e => h2 e.symm
theorem s_next (k : En.nx σ H) : tNext En σ H := k
/-- for x in range(n) -/
theorem s_forR1 {g : TG} {p : Int → Prop} (c : Cc D m H) (h : Ev D m te σ H p)
    (k : ∀ n H1, Gd D H H1 → p n → (-(2 ^ 62) ≤ n ∧ n < 2 ^ 62) ∧ ∃ Pv : Nat → St → Hp → Prop, Pv 0 σ H1 ∧ (∀ (j : Nat) σ' H', (j : Int) < n → Pv j σ' H' → g (.int (j : Int)) σ' H' fun σ2 H2 => t { En with nx := Pv (j + 1), ct := Pv (j + 1), bk := En.nx } σ2 H2) ∧ ∀ σ' H', Pv n.toNat σ' H' → En.nx σ' H') :
    tFor (iRng1 (tCons te tNil)) g t En σ H := h H .refl c _ fun n v H1 gd r z => by
  cases rp_int r
  obtain ⟨⟨b1, b2⟩, Pv, h0, hs, hd⟩ := k n H1 gd z
  refine ⟨n, rfl, b1, b2, for_range (lo := 0) (n := n.toNat) Pv h0 (fun j σ' H' hj hp => ?_) hd⟩
  have q := hs j σ' H' (by omega) hp
  rw [Int.zero_add]
  exact q
/-- for x in range(a, b) -/
theorem s_forR2 {g : TG} {p q : Int → Prop} (c : Cc D m H) (h : Ev D m ta σ H p) (h' : Ev D m tb σ H q)
    (k : ∀ lo n H1, Gd D H H1 → p lo → q n → (-(2 ^ 62) ≤ lo ∧ lo < 2 ^ 62 ∧ -(2 ^ 62) ≤ n ∧ n < 2 ^ 62) ∧ ∃ Pv : Nat → St → Hp → Prop, Pv 0 σ H1 ∧ (∀ (j : Nat) σ' H', lo + (j : Int) < n → Pv j σ' H' → g (.int (lo + (j : Int))) σ' H' fun σ2 H2 => t { En with nx := Pv (j + 1), ct := Pv (j + 1), bk := En.nx } σ2 H2) ∧ ∀ σ' H', Pv (n - lo).toNat σ' H' → En.nx σ' H') :
    tFor (iRng2 (tCons ta (tCons tb tNil))) g t En σ H := h H .refl c _ fun lo v H1 gd r z => h' H1 gd (c.go gd) _ fun n v' H2 gd2 r' z' => by
  cases rp_int r
  cases rp_int r'
  obtain ⟨hb, Pv, h0, hs, hd⟩ := k lo n H2 (gd.trans gd2) z z'
  exact ⟨lo, n, rfl, hb, for_range (lo := lo) (n := (n - lo).toNat) Pv h0 (fun j σ' H' hj hp => hs j σ' H' (by omega) hp) hd⟩
/-- for x in xs -/
theorem s_forL {g : TG} {xs : List α} (c : Cc D m H) (h : EvV D m te σ H xs)
    (k : ∀ a vs H1, Gd D H H1 → a ∉ m → H1 a = some (.lst vs) → Paired (Rp.rp m H1) xs vs → ∃ Pv : Nat → St → Hp → Prop, Pv 0 σ H1 ∧ (∀ j σ' H', Pv j σ' H' → H' a = some (.lst vs)) ∧
      (∀ (j : Nat) x v σ' H', xs[j]? = some x → Rp.rp m H1 x v → Pv j σ' H' → g v σ' H' fun σ2 H2 => t { En with nx := Pv (j + 1), ct := Pv (j + 1), bk := En.nx } σ2 H2) ∧ ∀ σ' H', Pv xs.length σ' H' → En.nx σ' H') :
    tFor (iList K te) g t En σ H := h H .refl c _ fun xs' v H1 gd r z => by
  cases z
  obtain ⟨a, vs, rfl, n, ha, ps⟩ := rp_lst r
  obtain ⟨Pv, h0, hl, hs, hd⟩ := k a vs H1 gd n ha ps
  refine ⟨a, rfl, ⟨vs, .of ha⟩, for_list (K := K) (a := a) (xs := vs) Pv h0 (fun j σ' H' _ hp => .of (hl j σ' H' hp)) (fun j w σ' H' hj hp => ?_) (fun σ' H' hp => hd σ' H' (by rw [ps.length]; exact hp))⟩
  have hlt : j < xs.length := by rw [ps.length]; exact (List.getElem?_eq_some_iff.mp hj).1
  obtain ⟨y, hy, ry⟩ := paired_at ps (List.getElem?_eq_getElem hlt)
  rw [hj] at hy
  cases hy
  exact hs j _ w σ' H' (List.getElem?_eq_getElem hlt) ry hp
/-- .. xs any list with p xs -/
theorem s_forLP {g : TG} {p : List α → Prop} (c : Cc D m H) (h : Ev D m te σ H p)
    (k : ∀ xs a vs H1, p xs → Gd D H H1 → a ∉ m → H1 a = some (.lst vs) → Paired (Rp.rp m H1) xs vs → ∃ Pv : Nat → St → Hp → Prop, Pv 0 σ H1 ∧ (∀ j σ' H', Pv j σ' H' → H' a = some (.lst vs)) ∧
      (∀ (j : Nat) x v σ' H', xs[j]? = some x → Rp.rp m H1 x v → Pv j σ' H' → g v σ' H' fun σ2 H2 => t { En with nx := Pv (j + 1), ct := Pv (j + 1), bk := En.nx } σ2 H2) ∧ ∀ σ' H', Pv xs.length σ' H' → En.nx σ' H') :
    tFor (iList K te) g t En σ H := h H .refl c _ fun xs v H1 gd r z => by
  obtain ⟨a, vs, rfl, n, ha, ps⟩ := rp_lst r
  obtain ⟨Pv, h0, hl, hs, hd⟩ := k xs a vs H1 z gd n ha ps
  refine ⟨a, rfl, ⟨vs, .of ha⟩, for_list (K := K) (a := a) (xs := vs) Pv h0 (fun j σ' H' _ hp => .of (hl j σ' H' hp)) (fun j w σ' H' hj hp => ?_) (fun σ' H' hp => hd σ' H' (by rw [ps.length]; exact hp))⟩
  have hlt : j < xs.length := by rw [ps.length]; exact (List.getElem?_eq_some_iff.mp hj).1
  obtain ⟨y, hy, ry⟩ := paired_at ps (List.getElem?_eq_getElem hlt)
  rw [hj] at hy
  cases hy
  exact hs j _ w σ' H' (List.getElem?_eq_getElem hlt) ry hp
theorem q_forLP {z : TS} {g : TG} {p : List α → Prop} (c : Cc D m H) (h : Ev D m te σ H p)
    (k : ∀ xs a vs H1, p xs → Gd D H H1 → a ∉ m → H1 a = some (.lst vs) → Paired (Rp.rp m H1) xs vs → ∃ Pv : Nat → St → Hp → Prop, Pv 0 σ H1 ∧ (∀ j σ' H', Pv j σ' H' → H' a = some (.lst vs)) ∧
      (∀ (j : Nat) x v σ' H', xs[j]? = some x → Rp.rp m H1 x v → Pv j σ' H' → g v σ' H' fun σ2 H2 => t { En with nx := Pv (j + 1), ct := Pv (j + 1), bk := z En } σ2 H2) ∧ ∀ σ' H', Pv xs.length σ' H' → z En σ' H') :
    tSeq (tFor (iList K te) g t) z En σ H := s_forLP (En := { En with nx := z En }) c h k
/-- a target (a, b): the pair is split -/
theorem g_pair {i j : Nat} {x : α × β} {R : St → Hp → Prop} (r : Rp.rp m H x v) (k : ∀ u w, Rp.rp m H x.1 u → Rp.rp m H x.2 w → R ((σ.set i (some u)).set j (some w)) H) : gTup K 2 (gCons (gName i) (gCons (gName j) gNil)) v σ H R := by
  obtain ⟨a, u, w, rfl, h, r1, r2⟩ := r
  exact ⟨a, _, rfl, .of h, rfl, u, _, rfl, w, _, rfl, rfl, k u w r1 r2⟩
/-- xs.append(e) -/
theorem s_app [Nl α] {xs : List α} {a : Addr} {p : α → Prop} (c : Cc D m H) (o : Own m H a xs) (hv : σ[i]? = some (some (.ref a))) (h : Ev D m te σ H p) (hz : xs.length < 100000)
    (k : ∀ x H1 H2, Gd D H H1 → p x → Own m H2 a (xs ++ [x]) → (∃ vs, H2 = upd H1 a (.lst vs)) → En.nx σ H2) : tDrop (tBM K "list" rAppend (tVar i) (tCons te tNil)) En σ H := by
  obtain ⟨n, vs, ha, ps⟩ := id o
  refine ⟨_, hv, .inl ⟨rfl, _, .inl (.inl ha)⟩, h H .refl c _ fun x v H1 g r z => ?_⟩
  have o1 := o.gd c g
  have ha1 : H1 a = some (.lst vs) := g.gr.keep a _ ha fun q => n (c.sub a q)
  exact ⟨a, vs, v, rfl, rfl, ha1, by rw [← ps.length]; exact Evl.sz_lt hz, k x H1 _ g z (o1.app ha1 r) ⟨_, rfl⟩⟩
/-! the same, more statements behind -/
theorem q_set {z : TS} {p : α → Prop} (c : Cc D m H) (h : Ev D m te σ H p) (k : ∀ x v H1, Gd D H H1 → Rp.rp m H1 x v → p x → z En (σ.set i (some v)) H1) : tSeq (tAsg te (gName i)) z En σ H := s_set (En := { En with nx := z En }) c h k
theorem q_setV {z : TS} {x : α} (c : Cc D m H) (h : EvV D m te σ H x) (k : ∀ v H1, Gd D H H1 → Rp.rp m H1 x v → z En (σ.set i (some v)) H1) : tSeq (tAsg te (gName i)) z En σ H := s_setV (En := { En with nx := z En }) c h k
theorem q_setI {z : TS} {p : Int → Prop} (c : Cc D m H) (h : Ev D m te σ H p) (k : ∀ n H1, Gd D H H1 → p n → z En (σ.set i (some (.int n))) H1) : tSeq (tAsg te (gName i)) z En σ H := s_setI (En := { En with nx := z En }) c h k
theorem q_setIV {z : TS} {n : Int} (c : Cc D m H) (h : EvV D m te σ H n) (k : ∀ H1, Gd D H H1 → z En (σ.set i (some (.int n))) H1) : tSeq (tAsg te (gName i)) z En σ H := s_setIV (En := { En with nx := z En }) c h k
theorem q_setBV {z : TS} {b : Bool} (c : Cc D m H) (h : EvV D m te σ H b) (k : ∀ H1, Gd D H H1 → z En (σ.set i (some (.bl b))) H1) : tSeq (tAsg te (gName i)) z En σ H := s_setBV (En := { En with nx := z En }) c h k
theorem q_setSV {z : TS} {b : Str} (c : Cc D m H) (h : EvV D m te σ H b) (k : ∀ H1, Gd D H H1 → z En (σ.set i (some (.str b))) H1) : tSeq (tAsg te (gName i)) z En σ H := s_setSV (En := { En with nx := z En }) c h k
theorem q_setL {z : TS} {p : List α → Prop} (c : Cc D m H) (h : EvL D m te σ H p) (k : ∀ xs a H1, H a = none → Gd D H H1 → Own m H1 a xs → p xs → z En (σ.set i (some (.ref a))) H1) : tSeq (tAsg te (gName i)) z En σ H := s_setL (En := { En with nx := z En }) c h k
theorem q_setLV {z : TS} {xs : List α} (c : Cc D m H) (h : EvLV D m te σ H xs) (k : ∀ a H1, H a = none → Gd D H H1 → Own m H1 a xs → z En (σ.set i (some (.ref a))) H1) : tSeq (tAsg te (gName i)) z En σ H := s_setLV (En := { En with nx := z En }) c h k
theorem q_drop {z : TS} {p : α → Prop} (c : Cc D m H) (h : Ev D m te σ H p) (k : ∀ x H1, Gd D H H1 → p x → z En σ H1) : tSeq (tDrop te) z En σ H := s_drop (En := { En with nx := z En }) c h k
theorem q_if {z : TS} {p : Bool → Prop} (c : Cc D m H) (h : EvT D m tt σ H p) (h1 : p true → ∀ H1, Gd D H H1 → t { En with nx := z En } σ H1) (h2 : p false → ∀ H1, Gd D H H1 → u { En with nx := z En } σ H1) : tSeq (tIfS tt t u) z En σ H := s_if (En := { En with nx := z En }) c h h1 h2
theorem q_ifV {z : TS} {b : Bool} (c : Cc D m H) (h : EvB D m tt σ H b) (h1 : b = true → ∀ H1, Gd D H H1 → t { En with nx := z En } σ H1) (h2 : b = false → ∀ H1, Gd D H H1 → u { En with nx := z En } σ H1) : tSeq (tIfS tt t u) z En σ H := s_ifV (En := { En with nx := z En }) c h h1 h2
theorem q_forR1 {z : TS} {g : TG} {p : Int → Prop} (c : Cc D m H) (h : Ev D m te σ H p)
    (k : ∀ n H1, Gd D H H1 → p n → (-(2 ^ 62) ≤ n ∧ n < 2 ^ 62) ∧ ∃ Pv : Nat → St → Hp → Prop, Pv 0 σ H1 ∧ (∀ (j : Nat) σ' H', (j : Int) < n → Pv j σ' H' → g (.int (j : Int)) σ' H' fun σ2 H2 => t { En with nx := Pv (j + 1), ct := Pv (j + 1), bk := z En } σ2 H2) ∧ ∀ σ' H', Pv n.toNat σ' H' → z En σ' H') : tSeq (tFor (iRng1 (tCons te tNil)) g t) z En σ H := s_forR1 (En := { En with nx := z En }) c h k
theorem q_forR2 {z : TS} {g : TG} {p q : Int → Prop} (c : Cc D m H) (h : Ev D m ta σ H p) (h' : Ev D m tb σ H q)
    (k : ∀ lo n H1, Gd D H H1 → p lo → q n → (-(2 ^ 62) ≤ lo ∧ lo < 2 ^ 62 ∧ -(2 ^ 62) ≤ n ∧ n < 2 ^ 62) ∧ ∃ Pv : Nat → St → Hp → Prop, Pv 0 σ H1 ∧ (∀ (j : Nat) σ' H', lo + (j : Int) < n → Pv j σ' H' → g (.int (lo + (j : Int))) σ' H' fun σ2 H2 => t { En with nx := Pv (j + 1), ct := Pv (j + 1), bk := z En } σ2 H2) ∧ ∀ σ' H', Pv (n - lo).toNat σ' H' → z En σ' H') : tSeq (tFor (iRng2 (tCons ta (tCons tb tNil))) g t) z En σ H := s_forR2 (En := { En with nx := z En }) c h h' k
theorem q_forL {z : TS} {g : TG} {xs : List α} (c : Cc D m H) (h : EvV D m te σ H xs)
    (k : ∀ a vs H1, Gd D H H1 → a ∉ m → H1 a = some (.lst vs) → Paired (Rp.rp m H1) xs vs → ∃ Pv : Nat → St → Hp → Prop, Pv 0 σ H1 ∧ (∀ j σ' H', Pv j σ' H' → H' a = some (.lst vs)) ∧
      (∀ (j : Nat) x v σ' H', xs[j]? = some x → Rp.rp m H1 x v → Pv j σ' H' → g v σ' H' fun σ2 H2 => t { En with nx := Pv (j + 1), ct := Pv (j + 1), bk := z En } σ2 H2) ∧ ∀ σ' H', Pv xs.length σ' H' → z En σ' H') : tSeq (tFor (iList K te) g t) z En σ H := s_forL (En := { En with nx := z En }) c h k
theorem q_app {z : TS} [Nl α] {xs : List α} {a : Addr} {p : α → Prop} (c : Cc D m H) (o : Own m H a xs) (hv : σ[i]? = some (some (.ref a))) (h : Ev D m te σ H p) (hz : xs.length < 100000)
    (k : ∀ x H1 H2, Gd D H H1 → p x → Own m H2 a (xs ++ [x]) → (∃ vs, H2 = upd H1 a (.lst vs)) → z En σ H2) : tSeq (tDrop (tBM K "list" rAppend (tVar i) (tCons te tNil))) z En σ H := s_app (En := { En with nx := z En }) c o hv h hz k
end

/-! ### comprehensions -/
theorem mut_gd {D : Dst} {m : List Addr} {H H' : Hp} {a : Addr} {o : HO} (g : Gd D H H') (c : Cc D m H) (h : H a = none) : Gd D H (upd H' a o) := by
  refine ⟨g.gr.mut h, fun ok => ?_⟩
  have ok' := g.ok ok
  rcases D with _ | ⟨p, q⟩
  · trivial
  · refine DrawAt.go ok' (fun o e => ?_) (fun o e => ?_)
    · have hp : H p ≠ none := c.dm p (c.sub p (by simp [Dst.m]))
      rw [upd_ne (fun z => hp (by rw [z]; exact h))]; exact e
    · have hp : H q ≠ none := c.dm q (c.sub q (by simp [Dst.m]))
      rw [upd_ne (fun z => hp (by rw [z]; exact h))]; exact e
section
variable {α β : Type} [Rp α] [Rp β] {K : PySem.W.Frag} {D : Dst} {m : List Addr} {σ : St} {H H' : Hp} {ta tb te tl : TE} {tt : TT} {v : V} {g : TG} {ws : List Nat}
/-- one turn of a comprehension: the target, the test, the item -/
def LcT (D : Dst) (m : List Addr) (g : TG) (tt : TT) (te : TE) (ws : List Nat) (σ : St) (v : V) (H : Hp) (pt : Bool → Prop) (py : β → Prop) : Prop :=
  ∃ σ2, (∀ H' R, (∀ a xs, H a = some (.tup xs) → H' a = some (.tup xs)) → R σ2 H' → g v (wipe σ ws) H' R) ∧ wipe σ2 ws = wipe σ ws ∧ EvT D m tt σ2 H pt ∧ (pt true → Ev D m te σ2 H py)
theorem lc_turn [Nl β] {a : Addr} {H1 : Hp} {acc : List β} {pt : Bool → Prop} {py : β → Prop} {P : Hp → Prop} (hT : LcT D m g tt te ws σ v H pt py) (c : Cc D m H1) (gh : Gd D H H1) (o : Own m H1 a acc) (hz : acc.length < 100000)
    (k1 : ∀ y vs H2, Gd D H1 H2 → pt true → py y → Own m (upd H2 a (.lst vs)) a (acc ++ [y]) → P (upd H2 a (.lst vs))) (k2 : ∀ H2, Gd D H1 H2 → pt false → P H2) :
    g v (wipe σ ws) H1 fun σ2 H2 => wipe σ2 ws = wipe σ ws ∧ tt σ2 H2 fun b H3 => if b = true then te σ2 H3 fun y H4 => ∃ acc, H4 a = some (.lst acc) ∧ acc.length < sizeLine ∧ P (upd H4 a (.lst (acc ++ [y]))) else P H3 := by
  obtain ⟨σ2, hg, hw, ht, he⟩ := hT
  refine hg _ _ gh.gr.tup ⟨hw, ht H1 gh c _ fun b H3 g3 z => ?_⟩
  cases b with
  | true =>
    rw [if_pos rfl]
    refine he z H3 (gh.trans g3) (c.go g3) _ fun y w H4 g4 r py => ?_
    have o4 := (o.gd c g3).gd (c.go g3) g4
    obtain ⟨vs, h4, ps, hl⟩ := o4.ex
    exact ⟨vs, h4, by rw [← hl]; exact Evl.sz_lt hz, k1 y _ H4 (g3.trans g4) z py (o4.app h4 r)⟩
  | false =>
    rw [if_neg Bool.false_ne_true]
    exact k2 H3 g3 z
/-- [e for x in xs if t], told by an invariant -/
theorem el_lcL [Nl β] {xs : List α} {p : List β → Prop} (I : Nat → List β → Prop) (h : EvV D m tl σ H xs) (hz : xs.length ≤ 90000) (h0 : I 0 [])
    (hs : ∀ (j : Nat) x v H1 acc, xs[j]? = some x → Gd D H H1 → Cc D m H1 → Rp.rp m H1 x v → I j acc → ∃ pt py, LcT D m g tt te ws σ v H1 pt py ∧ (∀ y, pt true → py y → I (j + 1) (acc ++ [y])) ∧ (pt false → I (j + 1) acc))
    (hd : ∀ acc, I xs.length acc → p acc) : EvL D m (tLc (iList K tl) g tt te ws) σ H p := fun H1 e c Q w => h H1 e c _ fun xs' v H2 e2 r z => by
  cases z
  obtain ⟨a, vs, rfl, n, ha, ps⟩ := rp_lst r
  have c2 := c.go e2
  refine ⟨a, rfl, ⟨vs, .of ha⟩, fun Dl hD => ?_⟩
  have nD : Dl ∉ m := c2.free hD
  refine lc_list (K := K) (a := a) (xs := vs) (fun j H' => ∃ acc, Gd D H2 H' ∧ Own m H' Dl acc ∧ acc.length ≤ j ∧ I j acc) ⟨[], .new hD, .nil nD upd_same, Nat.zero_le _, h0⟩ (fun j H' hj ⟨acc, g', _⟩ => .of (g'.gr.keep a _ ha fun q => n (c2.sub a q))) (fun j u H' hj ⟨acc, g', o, hl, hI⟩ => ?_) (fun H' ⟨acc, g', o, hl, hI⟩ => ?_)
  · have hlt : j < xs.length := by rw [ps.length]; exact (List.getElem?_eq_some_iff.mp hj).1
    obtain ⟨y, hy, ry⟩ := paired_at ps (List.getElem?_eq_getElem hlt)
    rw [hj] at hy
    cases hy
    obtain ⟨pt, py, hT, k1, k2⟩ := hs j _ u H' acc (List.getElem?_eq_getElem hlt) ((e.trans e2).trans g') (c2.go g') (rp_gd ry c2 g') hI
    refine lc_turn hT (c2.go g') .refl o (by omega) (fun y ws H4 g4 z py o4 => ⟨acc ++ [y], mut_gd (g'.trans g4) c2 hD, o4, by simp; omega, k1 y z py⟩) (fun H4 g4 z => ⟨acc, g'.trans g4, o.gd (c2.go g') g4, by omega, k2 z⟩)
  · exact w acc Dl H' (e2.gr.dom Dl hD) (e2.trans g') o (hd acc (by rw [ps.length]; exact hI))
/-- [e for x in range(n) if t] -/
theorem el_lcR1 [Nl β] {q : Int → Prop} {p : List β → Prop} (I : Int → Nat → List β → Prop) (h : Ev D m tl σ H q) (hz : ∀ n, q n → n ≤ 90000 ∧ -(2 ^ 62) ≤ n) (h0 : ∀ n, q n → I n 0 [])
    (hs : ∀ (n : Int) (j : Nat) H1 acc, q n → (j : Int) < n → Gd D H H1 → Cc D m H1 → I n j acc → ∃ pt py, LcT D m g tt te ws σ (.int (j : Int)) H1 pt py ∧ (∀ y, pt true → py y → I n (j + 1) (acc ++ [y])) ∧ (pt false → I n (j + 1) acc))
    (hd : ∀ n acc, q n → I n n.toNat acc → p acc) : EvL D m (tLc (iRng1 (tCons tl tNil)) g tt te ws) σ H p := fun H1 e c Q w => h H1 e c _ fun n v H2 e2 r z => by
  cases rp_int r
  have c2 := c.go e2
  have b := hz n z
  refine ⟨n, rfl, b.2, by omega, fun Dl hD => ?_⟩
  have nD : Dl ∉ m := c2.free hD
  refine lc_range (lo := 0) (n := n.toNat) (fun j H' => ∃ acc, Gd D H2 H' ∧ Own m H' Dl acc ∧ acc.length ≤ j ∧ I n j acc) ⟨[], .new hD, .nil nD upd_same, Nat.zero_le _, h0 n z⟩ (fun j H' hj ⟨acc, g', o, hl, hI⟩ => ?_) (fun H' ⟨acc, g', o, hl, hI⟩ => ?_)
  · obtain ⟨pt, py, hT, k1, k2⟩ := hs n j H' acc z (by omega) ((e.trans e2).trans g') (c2.go g') hI
    rw [Int.zero_add]
    refine lc_turn hT (c2.go g') .refl o (by omega) (fun y ws H4 g4 z py o4 => ⟨acc ++ [y], mut_gd (g'.trans g4) c2 hD, o4, by simp; omega, k1 y z py⟩) (fun H4 g4 z => ⟨acc, g'.trans g4, o.gd (c2.go g') g4, by omega, k2 z⟩)
  · exact w acc Dl H' (e2.gr.dom Dl hD) (e2.trans g') o (hd n acc z hI)
theorem tYes_ok {σ : St} {H : Hp} : EvB D m tYes σ H true := fun H1 _ _ Q w => w true H1 .refl rfl
/-- the target a name -/
theorem lcT_name {i : Nat} {pt : Bool → Prop} {py : β → Prop} (hw : wipe ((wipe σ ws).set i (some v)) ws = wipe σ ws) (ht : EvT D m tt ((wipe σ ws).set i (some v)) H pt) (he : pt true → Ev D m te ((wipe σ ws).set i (some v)) H py) :
    LcT D m (gName i) tt te ws σ v H pt py := ⟨_, fun _ _ _ r => r, hw, ht, he⟩
/-- the target a pair of names -/
theorem lcT_pair {γ δ : Type} [Rp γ] [Rp δ] {i j : Nat} {x : γ × δ} {pt : Bool → Prop} {py : β → Prop} (r : Rp.rp m H x v)
    (k : ∀ u w, Rp.rp m H x.1 u → Rp.rp m H x.2 w → wipe (((wipe σ ws).set i (some u)).set j (some w)) ws = wipe σ ws ∧ EvT D m tt (((wipe σ ws).set i (some u)).set j (some w)) H pt ∧ (pt true → Ev D m te (((wipe σ ws).set i (some u)).set j (some w)) H py)) :
    LcT D m (gTup K 2 (gCons (gName i) (gCons (gName j) gNil))) tt te ws σ v H pt py := by
  obtain ⟨a, u, w, rfl, h, r1, r2⟩ := r
  obtain ⟨h1, h2, h3⟩ := k u w r1 r2
  exact ⟨_, fun H' R t hr => ⟨a, _, rfl, .of (t a _ h), rfl, u, _, rfl, w, _, rfl, rfl, hr⟩, h1, h2, h3⟩
/-- [f(x) for x in xs] -/
theorem el_map [Nl β] {xs : List α} (f : α → β) (h : EvV D m tl σ H xs) (hz : xs.length ≤ 90000) (hs : ∀ x v H1, x ∈ xs → Gd D H H1 → Cc D m H1 → Rp.rp m H1 x v → LcT D m g tYes te ws σ v H1 (fun b => b = true) (fun y => y = f x)) :
    EvLV D m (tLc (iList K tl) g tYes te ws) σ H (xs.map f) :=
  el_lcL (fun j acc => acc = (xs.take j).map f) h hz rfl (fun j x v H1 acc hx g' c' r hI => ⟨_, _, hs x v H1 (List.mem_of_getElem? hx) g' c' r, fun y _ e => by rw [hI, e, List.take_add_one, hx]; simp, fun z => by cases z⟩) (fun acc hI => by rw [hI, List.take_length])
/-- [f(x) for x in xs if p(x)] -/
theorem el_filterMap [Nl β] {xs : List α} (q : α → Bool) (f : α → β) (h : EvV D m tl σ H xs) (hz : xs.length ≤ 90000) (hs : ∀ x v H1, x ∈ xs → Gd D H H1 → Cc D m H1 → Rp.rp m H1 x v → LcT D m g tt te ws σ v H1 (fun b => b = q x) (fun y => y = f x)) :
    EvLV D m (tLc (iList K tl) g tt te ws) σ H ((xs.filter q).map f) :=
  el_lcL (fun j acc => acc = ((xs.take j).filter q).map f) h hz rfl (fun j x v H1 acc hx g' c' r hI => ⟨_, _, hs x v H1 (List.mem_of_getElem? hx) g' c' r, fun y z e => by rw [hI, e, List.take_add_one, hx]; simp [← z], fun z => by rw [hI, List.take_add_one, hx]; simp [← z]⟩) (fun acc hI => by rw [hI, List.take_length])
end

/-! ### arguments; what a def promises -/
class RpA (A : Type) where
  rpa : List Addr → Hp → A → List V → Prop
  go : ∀ {m m' : List Addr} {H H' : Hp} {x : A} {vs : List V}, (∀ a o, H a = some o → a ∉ m → a ∉ m' ∧ H' a = some o) → (∀ a xs, H a = some (.tup xs) → H' a = some (.tup xs)) → rpa m H x vs → rpa m' H' x vs
instance : RpA Unit := ⟨fun _ _ _ vs => vs = [], fun _ _ h => h⟩
instance {α A : Type} [Rp α] [RpA A] : RpA (α × A) := ⟨fun m H x vs => ∃ v r, vs = v :: r ∧ Rp.rp m H x.1 v ∧ RpA.rpa m H x.2 r, fun k t ⟨v, r, e, h1, h2⟩ => ⟨v, r, e, Rp.go k t h1, RpA.go k t h2⟩⟩
section
variable {α β A R : Type} [Rp α] [Rp β] [RpA A] [Rp R] {K : PySem.W.Frag} {D : Dst} {m : List Addr} {σ : St} {H H' : Hp} {te : TE} {ta tr : TA} {v : V} {vs : List V}
theorem rpa_gr {ms : List Addr} {x : A} (h : RpA.rpa m H x vs) (g : Gr ms H H') (s : ∀ a, a ∈ ms → a ∈ m) : RpA.rpa m H' x vs := RpA.go (fun a o e n => ⟨n, g.keep a o e fun z => n (s a z)⟩) (fun a xs e => g.tup a xs e) h
theorem rpa_gd {x : A} (h : RpA.rpa m H x vs) (c : Cc D m H) (g : Gd D H H') : RpA.rpa m H' x vs := rpa_gr h g.gr c.sub
/-- arguments that come to x with p x -/
def EvAr (D : Dst) (m : List Addr) (t : TA) (σ : St) (H : Hp) (p : A → Prop) : Prop :=
  ∀ H1, Gd D H H1 → Cc D m H1 → ∀ Q : List V → Hp → Prop, (∀ x vs H2, Gd D H1 H2 → RpA.rpa m H2 x vs → p x → Q vs H2) → t σ H1 Q
theorem ea_nil : EvAr D m tNil σ H (fun x : Unit => x = ()) := fun H1 _ _ Q w => w () [] H1 .refl rfl rfl
theorem ea_cons {p : α → Prop} {q : A → Prop} {r : α × A → Prop} (h : Ev D m te σ H p) (hr : EvAr D m tr σ H q) (k : ∀ x y, p x → q y → r (x, y)) : EvAr D m (tCons te tr) σ H r := fun H1 e c Q w =>
  h H1 e c _ fun x v H2 e2 rx px => hr H2 (e.trans e2) (c.go e2) _ fun y vs H3 e3 ry qy => w (x, y) (v :: vs) H3 (e2.trans e3) ⟨v, vs, rfl, rp_gd rx (c.go e2) e3, ry⟩ (k x y px qy)
theorem ea_c {x : α} {y : A} (h : EvV D m te σ H x) (hr : EvAr D m tr σ H (fun z => z = y)) : EvAr D m (tCons te tr) σ H (fun z => z = (x, y)) := ea_cons h hr fun _ _ a b => by rw [a, b]
end
/-! the errors -/
structure Er where
  (base badSieve badKey notIn stuck unlike noSieve badText : Addr)
inductive Err where
  | badSieve (why : Str)
  | badKey
  | notIn
  | stuck (cells : List Int)
  | unlike
  | noSieve (paper : List (Tri Int Int (List Int)))
  | badText (row : Int)
/-- how an error lies: its class, its dict -/
def ErrAt (T : Er) (H0 H : Hp) : Err → Value → Option Addr → Prop
  | .badSieve w, c, d => c = .ref T.badSieve ∧ ∃ a, d = some a ∧ H a = some (.xd [("why", .str w)])
  | .badKey, c, d => c = .ref T.badKey ∧ d = none
  | .notIn, c, d => c = .ref T.notIn ∧ d = none
  | .stuck l, c, d => c = .ref T.stuck ∧ ∃ a b, d = some a ∧ H a = some (.xd [("cells", .ref b)]) ∧ ∀ m, (∀ x, x ∈ m → H0 x ≠ none) → Own m H b l
  | .unlike, c, d => c = .ref T.unlike ∧ d = none
  | .noSieve p, c, d => c = .ref T.noSieve ∧ ∃ a v, d = some a ∧ H a = some (.xd [("paper", v)]) ∧ ∀ m, (∀ x, x ∈ m → H0 x ≠ none) → Rp.rp m H p v
  | .badText r, c, d => c = .ref T.badText ∧ ∃ a, d = some a ∧ H a = some (.xd [("row", .int r)])
theorem ErrAt.from {T : Er} {ms : List Addr} {H0 H1 H : Hp} {e : Err} {c : Value} {d : Option Addr} (h : ErrAt T H1 H e c d) (g : Gr ms H0 H1) : ErrAt T H0 H e c d := by
  cases e with
  | stuck l =>
    obtain ⟨h1, a, b, h2, h3, h4⟩ := h
    exact ⟨h1, a, b, h2, h3, fun m hm => h4 m fun x hx q => hm x hx (g.dom x q)⟩
  | noSieve p =>
    obtain ⟨h1, a, b, h2, h3, h4⟩ := h
    exact ⟨h1, a, b, h2, h3, fun m hm => h4 m fun x hx q => hm x hx (g.dom x q)⟩
  | badSieve w => exact h
  | badKey => exact h
  | notIn => exact h
  | unlike => exact h
  | badText r => exact h
section
variable {α β A R : Type} [Rp α] [Rp β] [RpA A] [Rp R] {K : PySem.W.Frag} {D : Dst} {m : List Addr} {σ : St} {H H' : Hp} {te : TE} {ta tr : TA} {v : V} {vs : List V} {T : Er}
/-- nothing changes; the answer is f of the arguments -/
def SpF (pre : A → Prop) (f : A → R) : Sp := fun vs H Q _ => ∃ m x, Cc none m H ∧ RpA.rpa m H x vs ∧ pre x ∧ ∀ v H', Gr [] H H' → Rp.rp m H' (f x) v → Q v H'
/-- .. a new list -/
def SpL (pre : A → Prop) (f : A → List β) : Sp := fun vs H Q _ => ∃ m x, Cc none m H ∧ RpA.rpa m H x vs ∧ pre x ∧ ∀ a H', H a = none → Gr [] H H' → Own m H' a (f x) → Q (.ref a) H'
/-- nothing changes; an answer, or an error -/
def SpX (T : Er) (pre : A → Prop) (f : A → Except Err R) : Sp := fun vs H Q E => ∃ m x, Cc none m H ∧ RpA.rpa m H x vs ∧ pre x ∧ (∀ y, f x = .ok y → ∀ v H', Gr [] H H' → Rp.rp m H' y v → Q v H') ∧
  ∀ e, f x = .error e → ∀ c d H', Gr [] H H' → ErrAt T H H' e c d → E c d H'
def SpXL (T : Er) (pre : A → Prop) (f : A → Except Err (List β)) : Sp := fun vs H Q E => ∃ m x, Cc none m H ∧ RpA.rpa m H x vs ∧ pre x ∧ (∀ y, f x = .ok y → ∀ a H', H a = none → Gr [] H H' → Own m H' a y → Q (.ref a) H') ∧
  ∀ e, f x = .error e → ∀ c d H', Gr [] H H' → ErrAt T H H' e c d → E c d H'
theorem ev_call {pre : A → Prop} {f : A → R} {E : XK} {q : A → Prop} {p : R → Prop} (h : EvAr D m ta σ H q) (hp : ∀ x, q x → pre x ∧ p (f x)) : Ev D m (tCall (SpF pre f) [] E ta) σ H p := fun H1 e c Q w =>
  h H1 e c _ fun x vs H2 e2 rx qx => ⟨m, x, (c.go e2).none, (by rw [List.append_nil]; exact rx), (hp x qx).1, fun v H' g r => w _ v H' (e2.trans (.pure g)) r (hp x qx).2⟩
theorem ev_callV {pre : A → Prop} {f : A → R} {E : XK} {x : A} (h : EvAr D m ta σ H fun y => y = x) (hp : pre x) : EvV D m (tCall (SpF pre f) [] E ta) σ H (f x) := ev_call h fun y e => by rw [e]; exact ⟨hp, rfl⟩
theorem el_call {pre : A → Prop} {f : A → List β} {E : XK} {q : A → Prop} {p : List β → Prop} (h : EvAr D m ta σ H q) (hp : ∀ x, q x → pre x ∧ p (f x)) : EvL D m (tCall (SpL pre f) [] E ta) σ H p := fun H1 e c Q w =>
  h H1 e c _ fun x vs H2 e2 rx qx => ⟨m, x, (c.go e2).none, (by rw [List.append_nil]; exact rx), (hp x qx).1, fun a H' n g r => w _ a H' (e2.gr.dom a n) (e2.trans (.pure g)) r (hp x qx).2⟩
theorem el_callV {pre : A → Prop} {f : A → List β} {E : XK} {x : A} (h : EvAr D m ta σ H fun y => y = x) (hp : pre x) : EvLV D m (tCall (SpL pre f) [] E ta) σ H (f x) := el_call h fun y e => by rw [e]; exact ⟨hp, rfl⟩
/-- te comes to what r tells, or raises it -/
def EvX (T : Er) (D : Dst) (m : List Addr) (te : TE) (σ : St) (H : Hp) (E : XK) (r : Except Err α) : Prop :=
  ∀ H1, Gd D H H1 → Cc D m H1 → ∀ Q : VK, (∀ x, r = .ok x → ∀ v H2, Gd D H1 H2 → Rp.rp m H2 x v → Q v H2) → (∀ e, r = .error e → ∀ c d H2, Gd D H1 H2 → ErrAt T H1 H2 e c d → E c d H2) → te σ H1 Q
def EvXL (T : Er) (D : Dst) (m : List Addr) (te : TE) (σ : St) (H : Hp) (E : XK) (r : Except Err (List α)) : Prop :=
  ∀ H1, Gd D H H1 → Cc D m H1 → ∀ Q : VK, (∀ x, r = .ok x → ∀ a H2, H1 a = none → Gd D H1 H2 → Own m H2 a x → Q (.ref a) H2) → (∀ e, r = .error e → ∀ c d H2, Gd D H1 H2 → ErrAt T H1 H2 e c d → E c d H2) → te σ H1 Q
theorem EvX.ok {E : XK} {r : Except Err α} {x : α} (h : EvX T D m te σ H E r) (e : r = .ok x) : EvV D m te σ H x := fun H1 g c Q w => h H1 g c Q (fun y ey v H2 g2 ry => by rw [e] at ey; cases ey; exact w x v H2 g2 ry rfl) fun y ey => by rw [e] at ey; cases ey
theorem EvXL.ok {E : XK} {r : Except Err (List α)} {x : List α} (h : EvXL T D m te σ H E r) (e : r = .ok x) : EvLV D m te σ H x := fun H1 g c Q w => h H1 g c Q (fun y ey a H2 n g2 ry => by rw [e] at ey; cases ey; exact w x a H2 n g2 ry rfl) fun y ey => by rw [e] at ey; cases ey
theorem ex_call {pre : A → Prop} {f : A → Except Err R} {E : XK} {x : A} (h : EvAr D m ta σ H fun y => y = x) (hp : pre x) : EvX T D m (tCall (SpX T pre f) [] E ta) σ H E (f x) := fun H1 e c Q w1 w2 =>
  h H1 e c _ fun y vs H2 e2 rx qx => by
    cases qx
    exact ⟨m, x, (c.go e2).none, (by rw [List.append_nil]; exact rx), hp, fun y ey v H' g r => w1 y ey v H' (e2.trans (.pure g)) r, fun y ey c d H' g r => w2 y ey c d H' (e2.trans (.pure g)) (r.from e2.gr)⟩
theorem ex_callL {pre : A → Prop} {f : A → Except Err (List β)} {E : XK} {x : A} (h : EvAr D m ta σ H fun y => y = x) (hp : pre x) : EvXL T D m (tCall (SpXL T pre f) [] E ta) σ H E (f x) := fun H1 e c Q w1 w2 =>
  h H1 e c _ fun y vs H2 e2 rx qx => by
    cases qx
    exact ⟨m, x, (c.go e2).none, (by rw [List.append_nil]; exact rx), hp, fun y ey a H' n g r => w1 y ey a H' (e2.gr.dom a n) (e2.trans (.pure g)) r, fun y ey c d H' g r => w2 y ey c d H' (e2.trans (.pure g)) (r.from e2.gr)⟩
/-- the same in a try, where what is wished hangs on the slots -/
theorem ex_callS {pre : A → Prop} {f : A → Except Err R} {E : St → XK} {x : A} (h : EvAr D m ta σ H fun y => y = x) (hp : pre x) : EvX T D m (tCallS (SpX T pre f) E ta) σ H (E σ) (f x) := fun H1 e c Q w1 w2 =>
  h H1 e c _ fun y vs H2 e2 rx qx => by
    cases qx
    exact ⟨m, x, (c.go e2).none, rx, hp, fun y ey v H' g r => w1 y ey v H' (e2.trans (.pure g)) r, fun y ey c d H' g r => w2 y ey c d H' (e2.trans (.pure g)) (r.from e2.gr)⟩
theorem ex_callLS {pre : A → Prop} {f : A → Except Err (List β)} {E : St → XK} {x : A} (h : EvAr D m ta σ H fun y => y = x) (hp : pre x) : EvXL T D m (tCallS (SpXL T pre f) E ta) σ H (E σ) (f x) := fun H1 e c Q w1 w2 =>
  h H1 e c _ fun y vs H2 e2 rx qx => by
    cases qx
    exact ⟨m, x, (c.go e2).none, rx, hp, fun y ey a H' n g r => w1 y ey a H' (e2.gr.dom a n) (e2.trans (.pure g)) r, fun y ey c d H' g r => w2 y ey c d H' (e2.trans (.pure g)) (r.from e2.gr)⟩
theorem EvXL.x {E : XK} {r : Except Err (List α)} (h : EvXL T D m te σ H E r) : EvX T D m te σ H E r := fun H1 g c Q w1 w2 => h H1 g c Q (fun x ex a H2 _ g2 o => w1 x ex _ H2 g2 o.rp) w2
variable {En : Ends} {E : XK} {i : Nat}
theorem s_dropX {r : Except Err α} (c : Cc D m H) (h : EvX T D m te σ H E r) (k1 : ∀ x, r = .ok x → ∀ H1, Gd D H H1 → En.nx σ H1) (k2 : ∀ e, r = .error e → ∀ c d H1, Gd D H H1 → ErrAt T H H1 e c d → E c d H1) : tDrop te En σ H :=
  h H .refl c _ (fun x ex v H1 g _ => k1 x ex H1 g) k2
theorem s_setX {r : Except Err α} (c : Cc D m H) (h : EvX T D m te σ H E r) (k1 : ∀ x, r = .ok x → ∀ v H1, Gd D H H1 → Rp.rp m H1 x v → En.nx (σ.set i (some v)) H1) (k2 : ∀ e, r = .error e → ∀ c d H1, Gd D H H1 → ErrAt T H H1 e c d → E c d H1) : tAsg te (gName i) En σ H :=
  h H .refl c _ (fun x ex v H1 g r => k1 x ex v H1 g r) k2
theorem s_setXL {r : Except Err (List α)} (c : Cc D m H) (h : EvXL T D m te σ H E r) (k1 : ∀ x, r = .ok x → ∀ a H1, H a = none → Gd D H H1 → Own m H1 a x → En.nx (σ.set i (some (.ref a))) H1) (k2 : ∀ e, r = .error e → ∀ c d H1, Gd D H H1 → ErrAt T H H1 e c d → E c d H1) : tAsg te (gName i) En σ H :=
  h H .refl c _ (fun x ex a H1 n g r => k1 x ex a H1 n g r) k2
theorem s_retX {r : Except Err α} (c : Cc D m H) (h : EvX T D m te σ H E r) (k1 : ∀ x, r = .ok x → ∀ v H1, Gd D H H1 → Rp.rp m H1 x v → En.rt v H1) (k2 : ∀ e, r = .error e → ∀ c d H1, Gd D H H1 → ErrAt T H H1 e c d → E c d H1) : tRet te En σ H :=
  h H .refl c _ (fun x ex v H1 g r => k1 x ex v H1 g r) k2
theorem s_retXL {r : Except Err (List α)} (c : Cc D m H) (h : EvXL T D m te σ H E r) (k1 : ∀ x, r = .ok x → ∀ a H1, H a = none → Gd D H H1 → Own m H1 a x → En.rt (.ref a) H1) (k2 : ∀ e, r = .error e → ∀ c d H1, Gd D H H1 → ErrAt T H H1 e c d → E c d H1) : tRet te En σ H :=
  h H .refl c _ (fun x ex a H1 n g r => k1 x ex a H1 n g r) k2
/-! the same, more statements behind -/
theorem q_dropX {z : TS} {r : Except Err α} (c : Cc D m H) (h : EvX T D m te σ H E r) (k1 : ∀ x, r = .ok x → ∀ H1, Gd D H H1 → z En σ H1) (k2 : ∀ e, r = .error e → ∀ c d H1, Gd D H H1 → ErrAt T H H1 e c d → E c d H1) : tSeq (tDrop te) z En σ H := s_dropX (En := { En with nx := z En }) c h k1 k2
theorem q_setX {z : TS} {r : Except Err α} (c : Cc D m H) (h : EvX T D m te σ H E r) (k1 : ∀ x, r = .ok x → ∀ v H1, Gd D H H1 → Rp.rp m H1 x v → z En (σ.set i (some v)) H1) (k2 : ∀ e, r = .error e → ∀ c d H1, Gd D H H1 → ErrAt T H H1 e c d → E c d H1) : tSeq (tAsg te (gName i)) z En σ H := s_setX (En := { En with nx := z En }) c h k1 k2
theorem q_setXL {z : TS} {r : Except Err (List α)} (c : Cc D m H) (h : EvXL T D m te σ H E r) (k1 : ∀ x, r = .ok x → ∀ a H1, H a = none → Gd D H H1 → Own m H1 a x → z En (σ.set i (some (.ref a))) H1) (k2 : ∀ e, r = .error e → ∀ c d H1, Gd D H H1 → ErrAt T H H1 e c d → E c d H1) : tSeq (tAsg te (gName i)) z En σ H := s_setXL (En := { En with nx := z En }) c h k1 k2
end
/-! in the def that may raise: what a callee raises leaves it, too -/
theorem passX {X : Cx} {E : XK} {E₁ : Value → Shared → Prop} (hs : X.stack = X.env :: X.outer) (hf : X.env.frame = some X.env.locals) (hex : X.ex = [])
    (hx : X.xe = fun e s' => wpAny (model X.prog X.w) X.A (leaving X.env e) (fun _ s'' => L2.CX X.prog X.w X.outer X.H_0 X.s_0 E e s'') E₁ s') : Passes (L2.CX X.prog X.w) X E :=
  passes_call (takes_of hs hf hex hx) fun _ _ _ _ h => h
/-- the method of an object called in a try -/
def tMethS (C : Addr) (m : Str) (sp : Sp) (E : St → XK) (ta : TE) (t : TA) : TE := fun σ H Q => ta σ H fun x H1 => ∃ a dx fs, x = .ref a ∧ H1 a = some (.ins C dx fs) ∧ fs.lookup m = none ∧
  t σ H1 fun vs H2 => sp (x :: vs) H2 Q (E σ)
theorem pe_methE {X : Cx} {CX : CXT} {k : Nat} {f C : Addr} {fd : FuncData} {ps : List Str} {sp : Sp} {E : St → XK} {m : Str} {pos apos : Pos} {e o : Expr} {es : List Expr} {ta : TE} {t : TA}
    {pl : Sem Bool} (he : PE X o ta) (c : Cls X.K C) (hm : Meth X.K C m f) (F : FnOk X.prog X.w X.K X.mg X.base CX k f fd ps sp) (hr : Room k X.A) (hb : Binds X.K fd ps []) (hx : ∀ σ, PassesAt CX X σ (E σ)) (ha : PA X (e :: es) t)
    (hst : starEach (e :: es) X.env = (false, eval e X.env) :: starEach es X.env := by rfl) (hpl : (backTo pos (starEach es X.env)).any (·.1) = false := by rfl)
    (ht : eval (.Call (.Attribute o m apos) (e :: es) [] pos) X.env = (do
      let ov ← eval o X.env
      standAt apos.atName
      let (f, first) ← holding [ov] (getMethod ov m pl)
      callWith pos f first (backTo pos (starEach (e :: es) X.env)) (backToKw pos (keywordEach [] X.env))) := by rfl) :
    PE X (.Call (.Attribute o m apos) (e :: es) [] pos) (tMethS C m sp E ta t) := by
  refine ⟨fun pins s σ H Q I h => ?_⟩
  refine PySem.W.methodCall_KW (pl := pl) (thn (he.run pins s σ H _ I h) fun u s1 ⟨x, H1, I1, rx, a, dx, fs, ex, ea, l, q⟩ => ?_) ht
  subst ex
  obtain rfl : u = Value.ref a := rx
  refine getmeth_ok I1 ea c hm l ?_
  refine PySem.W.callWith_K (first := [.ref a]) (h₀ := X.base) I.ok.mod.kin hm.kp (thn (ha.run pos pins s1 σ H1 _ I1 q) fun us s2 ⟨vs, H2, I2, r, q2⟩ => ⟨I2.kIn, ?_⟩) hst hpl
  exact run_fnS (us := .ref a :: us) (vs := .ref a :: vs) F hr hb (hx σ) I2 (.cons rfl r) q2

theorem g_name {i : Nat} {v : V} {σ : St} {H : Hp} {R : St → Hp → Prop} (h : R (σ.set i (some v)) H) : gName i v σ H R := h
/-- raw readings, more statements behind -/
theorem q_rawA {te : TE} {g : TG} {z : TS} {En : Ends} {σ : St} {H : Hp} (h : te σ H fun x H1 => g x σ H1 (z En)) : tSeq (tAsg te g) z En σ H := h
theorem q_rawD {te : TE} {z : TS} {En : Ends} {σ : St} {H : Hp} (h : te σ H fun _ H1 => z En σ H1) : tSeq (tDrop te) z En σ H := h
theorem q_rawIf {c : TT} {t u z : TS} {En : Ends} {σ : St} {H : Hp} (h : c σ H fun b H1 => if b = true then t { En with nx := z En } σ H1 else u { En with nx := z En } σ H1) : tSeq (tIfS c t u) z En σ H := h
theorem q_rawWhen {c : TT} {t z : TS} {En : Ends} {σ : St} {H : Hp} (h : c σ H fun b H1 => if b = true then t { En with nx := z En } σ H1 else z En σ H1) : tSeq (tIfS c t tNext) z En σ H := h
section
variable {D : Dst} {m : List Addr} {σ : St} {H : Hp} {tt : TT} {t z : TS} {En : Ends}
/-- an if without else -/
theorem q_when {p : Bool → Prop} (c : Cc D m H) (h : EvT D m tt σ H p) (h1 : p true → ∀ H1, Gd D H H1 → t { En with nx := z En } σ H1) (h2 : p false → ∀ H1, Gd D H H1 → z En σ H1) : tSeq (tIfS tt t tNext) z En σ H := s_if (En := { En with nx := z En }) c h h1 h2
theorem q_whenV {b : Bool} (c : Cc D m H) (h : EvB D m tt σ H b) (h1 : b = true → ∀ H1, Gd D H H1 → t { En with nx := z En } σ H1) (h2 : b = false → ∀ H1, Gd D H H1 → z En σ H1) : tSeq (tIfS tt t tNext) z En σ H := s_ifV (En := { En with nx := z En }) c h h1 h2
theorem s_when {p : Bool → Prop} (c : Cc D m H) (h : EvT D m tt σ H p) (h1 : p true → ∀ H1, Gd D H H1 → t En σ H1) (h2 : p false → ∀ H1, Gd D H H1 → En.nx σ H1) : tIfS tt t tNext En σ H := s_if c h h1 h2
theorem s_whenV {b : Bool} (c : Cc D m H) (h : EvB D m tt σ H b) (h1 : b = true → ∀ H1, Gd D H H1 → t En σ H1) (h2 : b = false → ∀ H1, Gd D H H1 → En.nx σ H1) : tIfS tt t tNext En σ H := s_ifV c h h1 h2
/-- a test that comes out false: what hangs on it is not asked -/
theorem q_skip {p : Bool → Prop} (c : Cc D m H) (h : EvT D m tt σ H p) (hf : ∀ b, p b → b = false) (h2 : ∀ H1, Gd D H H1 → z En σ H1) : tSeq (tIfS tt t tNext) z En σ H := q_when c h (fun q => by cases hf _ q) fun _ => h2
theorem s_skip {p : Bool → Prop} (c : Cc D m H) (h : EvT D m tt σ H p) (hf : ∀ b, p b → b = false) (h2 : ∀ H1, Gd D H H1 → En.nx σ H1) : tIfS tt t tNext En σ H := s_when c h (fun q => by cases hf _ q) fun _ => h2
end
/-- if t: x = e, x holding something as good already -/
theorem q_ifset {α : Type} [Rp α] {D : Dst} {m : List Addr} {σ : St} {H : Hp} {tt : TT} {te : TE} {z : TS} {En : Ends} {i : Nat} {q : Bool → Prop} {p : α → Prop} (c : Cc D m H) (h : EvT D m tt σ H q) (h1 : q true → Ev D m te σ H p) (h0 : q false → ∃ x v, σ[i]? = some (some v) ∧ Rp.rp m H x v ∧ p x)
    (k : ∀ x v H1, Gd D H H1 → Rp.rp m H1 x v → p x → z En (σ.set i (some v)) H1) : tSeq (tIfS tt (tAsg te (gName i)) tNext) z En σ H :=
  q_when c h (fun z H1 g => s_set (c.go g) ((h1 z).mono g) fun x v H2 g2 r px => k x v H2 (g.trans g2) r px) fun z H1 g => by
    obtain ⟨x, v, e, r, px⟩ := h0 z
    have q := k x v H1 g (rp_gd r c g) px
    have e2 : σ.set i (some v) = σ := by
      apply List.ext_getElem?
      intro j
      rw [List.getElem?_set]
      split
      · rename_i ej
        subst ej
        rw [e]
        have hlt := (List.getElem?_eq_some_iff.mp e).1
        simp [hlt]
      · rfl
    rw [e2] at q
    exact q
/-- try: what is wished of the body's errors hangs on what follows -/
theorem q_try {tb : WX → TS} {W : Ends → WX} {z : TS} {En : Ends} {σ : St} {H : Hp} (h : tb (W { En with nx := z En }) { En with nx := z En } σ H) : tSeq (fun D σ H => tb (W D) D σ H) z En σ H := h
/-- a statement ahead of others -/
theorem sq {t u : TS} {En : Ends} {σ : St} {H : Hp} (h : t { En with nx := u En } σ H) : tSeq t u En σ H := h
/-! ### draws -/
/-- what the law promises -/
def spLaw (K : PySem.W.Frag) : Sp := fun vs H Q _ => ∃ (a : Addr) (ns : List Int), vs = [.ref a] ∧ SqL K H a (ns.map V.int) ∧ ns.length ≤ 63 ∧ ∀ H', Q (.bl true) H'
def spMix (K : PySem.W.Frag) : Sp := fun vs H Q _ => ∃ (a : Addr) (ns : List Int) (seed : Int), vs = [.ref a, .int seed] ∧ SqL K H a (ns.map V.int) ∧ ns.length ≤ 63 ∧
  ∀ p q H', H p = none → H q = none → p ≠ q → Gr [] H H' → DrawAt p q H' → Q (.ref p) H'
/-- a draw: some number below many -/
def spNext : Sp := fun vs H Q _ => ∃ (p q : Addr) (many : Int), vs = [.ref p, .int many] ∧ DrawAt p q H ∧ 0 < many ∧ many < 1073741824 ∧ ∀ n H', 0 ≤ n → n < many → Gr [p, q] H H' → DrawAt p q H' → Q (.int n) H'
/-- drawn data: a value by the draws of p, q and further arguments; m: what else may not be touched by the answer -/
def SpD {A R : Type} [RpA A] [Rp R] (pre : A → Prop) (res : A → R → Prop) : Sp := fun vs H Q _ => ∃ (p q : Addr) (m : List Addr) (x : A) (ws : List V), vs = .ref p :: ws ∧ Cc (some (p, q)) m H ∧ RpA.rpa m H x ws ∧ pre x ∧
  ∀ y v H', Gd (some (p, q)) H H' → Rp.rp m H' y v → res x y → Q v H'
def SpDL {A β : Type} [RpA A] [Rp β] (pre : A → Prop) (res : A → List β → Prop) : Sp := fun vs H Q _ => ∃ (p q : Addr) (m : List Addr) (x : A) (ws : List V), vs = .ref p :: ws ∧ Cc (some (p, q)) m H ∧ RpA.rpa m H x ws ∧ pre x ∧
  ∀ ys a H', H a = none → Gd (some (p, q)) H H' → Own m H' a ys → res x ys → Q (.ref a) H'
section
variable {α β A R : Type} [Rp α] [Rp β] [RpA A] [Rp R] {K : PySem.W.Frag} {m : List Addr} {σ : St} {H H' : Hp} {te : TE} {ta : TA} {p q : Addr} {i : Nat} {E : XK}
theorem gd_of {H H' : Hp} (g : Gr [p, q] H H') (d : DrawAt p q H') : Gd (some (p, q)) H H' := ⟨g, fun _ => d⟩
/-- _law_next(h, many) -/
theorem ev_next {s : Int → Prop} {r : Int → Prop} (hv : σ[i]? = some (some (.ref p))) (h : Ev (some (p, q)) m te σ H s) (hb : ∀ n, s n → 0 < n ∧ n < 1073741824) (k : ∀ n j, s n → 0 ≤ j → j < n → r j) :
    Ev (some (p, q)) m (tCall spNext [] E (tCons (tVar i) (tCons te tNil))) σ H r := fun H1 e c Q w => ⟨_, hv, h H1 e c _ fun n v H2 e2 rn sn => by
  cases rp_int rn
  exact ⟨p, q, n, rfl, (c.go e2).ok, (hb n sn).1, (hb n sn).2, fun j H' h0 h1 g d => w j _ H' (e2.trans (gd_of g d)) rfl (k n j sn h0 h1)⟩⟩
/-- .. a written bound -/
theorem ev_nextC {b : Int} (hv : σ[i]? = some (some (.ref p))) (hb : 0 < b ∧ b < 1073741824) : Ev (some (p, q)) m (tCall spNext [] E (tCons (tVar i) (tCons (tC (.int b)) tNil))) σ H (fun n : Int => 0 ≤ n ∧ n < b) :=
  ev_next hv ev_c (fun n e => by rw [e]; exact hb) fun n j e h0 h1 => ⟨h0, by rw [← e]; exact h1⟩
theorem ev_drawn {pre : A → Prop} {res : A → R → Prop} {s : A → Prop} {r : R → Prop} (hv : σ[i]? = some (some (.ref p))) (h : EvAr (some (p, q)) m ta σ H s) (hp : ∀ x, s x → pre x ∧ ∀ y, res x y → r y) :
    Ev (some (p, q)) m (tCall (SpD pre res) [] E (tCons (tVar i) ta)) σ H r := fun H1 e c Q w => ⟨_, hv, h H1 e c _ fun x vs H2 e2 rx sx => ⟨p, q, m, x, vs ++ [], rfl, c.go e2, (by rw [List.append_nil]; exact rx), (hp x sx).1, fun y v H' g ry z => w y v H' (e2.trans g) ry ((hp x sx).2 y z)⟩⟩
theorem el_drawn {pre : A → Prop} {res : A → List β → Prop} {s : A → Prop} {r : List β → Prop} (hv : σ[i]? = some (some (.ref p))) (h : EvAr (some (p, q)) m ta σ H s) (hp : ∀ x, s x → pre x ∧ ∀ y, res x y → r y) :
    EvL (some (p, q)) m (tCall (SpDL pre res) [] E (tCons (tVar i) ta)) σ H r := fun H1 e c Q w => ⟨_, hv, h H1 e c _ fun x vs H2 e2 rx sx => ⟨p, q, m, x, vs ++ [], rfl, c.go e2, (by rw [List.append_nil]; exact rx), (hp x sx).1, fun y a H' n g ry z => w y a H' (e2.gr.dom a n) (e2.trans g) ry ((hp x sx).2 y z)⟩⟩
theorem Cc.draw (c : Cc (some (p, q)) m H) : DrawAt p q H := c.ok
theorem cc_draw (d : DrawAt p q H) : Cc (some (p, q)) [p, q] H := ⟨fun _ h => h, fun a h => by
  obtain ⟨_, cs, _, h1, h2, _⟩ := d
  rcases List.mem_cons.mp h with z | z
  · rw [z, h1]; simp
  · rw [List.mem_singleton.mp z, h2]; simp, d⟩
end

/-! ### rules within a comprehension: the written part by its name -/
section
variable {X : Cx} {K : PySem.W.Frag} {e : Expr} {ta : TE} {f : Str} {pos : Pos}
theorem pe_fldK (he : PE X e ta) (hb : attributeBase e f X.env (eval e X.env) = eval e X.env) (hk : X.K = K := by rfl) : PE X (.Attribute e f pos) (tFld K ta f) := hk ▸ pe_fld he hb
theorem pi_listK {tg l : Expr} {tl : TE} (hl : PE X l tl) (hk : X.K = K := by rfl) : PI X tg l (iList K tl) := hk ▸ pi_list hl
theorem pi_tupK {tg l : Expr} {tl : TE} (hl : PE X l tl) (hk : X.K = K := by rfl) : PI X tg l (iTup K tl) := hk ▸ pi_tup hl
variable {o : Expr} {es : List Expr} {to : TE} {t : TA} {name : Str} {apos cpos : Pos} {T id : String} {r : V → List V → Hp → VK → Prop}
theorem pe_bm0K (pa : PySem.PlainAttrs T) (slot : PySem.Slot T name id) (hty : typeOf (.builtin id) = pure (.type "method_descriptor")) (hm : MtR X id r) (ho : PE X o to)
    (hbase : attributeBase o name X.env (eval o X.env) = eval o X.env := by rfl) (hline : (apos.endLine == cpos.line) = true := by rfl) (hk : X.K = K := by rfl) : PE X (.Call (.Attribute o name apos) [] [] cpos) (tBM0 K T r to) := hk ▸ pe_bm0 pa slot hty hm ho hbase hline
end

/-! ### the top's facts -/
section
variable {K : PySem.W.Frag} {h : Heap} {mg : Str → Option Value} {x qual : Str} {st : Stmt} {f c : Addr} {oc kV dc pm cd ct : Value} {od an : Option Addr} {sl : Array (Option Value)}
theorem clsX (X : K.In h) (G : h.Ns mainGlobals mg) (a : PySem.W.nsIn K mainGlobals x = some (some (.ref c))) : ∃ c, PySem.W.nsIn K mainGlobals x = some (some (.ref c)) ∧ mg x = some (.ref c) := ⟨c, a, PySem.W.mg_of X G a⟩
theorem fnX (X : K.In h) (G : h.Ns mainGlobals mg) (a : PySem.W.nsIn K mainGlobals x = some (some (.ref f))) (l : K.lookup f = some ⟨oc, od, .func (PySem.W.fnOf x x (defArgs st) (defBody st) (defScope st) .none kV dc pm an cd ct), sl⟩)
    (hc : PySem.W.codeIn K cd x = true) (k : PySem.W.keepIn K (.ref f) = true) : ∃ f d, mg x = some (.ref f) ∧ Fun K x x st f d := ⟨f, _, PySem.W.mg_of X G a, fun_mk (st := st) l hc k⟩
theorem meX {C : Addr} (a : PySem.W.findIn K (.ref C) x = some (some (.ref f))) (i : PySem.W.isFn K (.ref f) = true) (l : K.lookup f = some ⟨oc, od, .func (PySem.W.fnOf x qual (defArgs st) (defBody st) (defScope st) .none kV dc pm an cd ct), sl⟩)
    (hc : PySem.W.codeIn K cd qual = true) (k : PySem.W.keepIn K (.ref f) = true) : ∃ f d, Meth K C x f ∧ Fun K x qual st f d := ⟨f, _, ⟨a, i, k⟩, fun_mk (st := st) l hc k⟩
theorem intX {i : Int} {t : Tok} (X : K.In h) (G : h.Ns mainGlobals mg) (a : PySem.W.nsIn K mainGlobals x = some (some (.int i t))) : ∃ t, mg x = some (.int i t) := ⟨t, PySem.W.mg_of X G a⟩
theorem strX {i : Str} {t : Tok} (X : K.In h) (G : h.Ns mainGlobals mg) (a : PySem.W.nsIn K mainGlobals x = some (some (.str i t))) : ∃ t, mg x = some (.str i t) := ⟨t, PySem.W.mg_of X G a⟩
end
/-- the law's one parameter is bound -/
theorem law_binds {K : PySem.W.Frag} {x qual : Str} {st : Stmt} {f : Addr} {fd : FuncData} {p : Str} (F : Fun K x qual st f fd)
    (h : ∀ (kV doc pm : Value) (an : Option Addr) (cdv ct : Value) (u : Value), bindArgs (PySem.W.fnOf x qual (defArgs st) (defBody st) (defScope st) .none kV doc pm an cdv ct) ⟨[u], []⟩ = pure [(p, u)]) (s : Shared) (u : Value) : BindsTo s fd ⟨[u], []⟩ [(p, u)] := by
  obtain ⟨oc, od, kV, doc, pm, an, cdv, ct, osl, rfl, lk, hcd⟩ := F.ex
  exact .of_eq (h kV doc pm an cdv ct u)

/-! ### data as a whole: == of any depth -/
class Dat (α : Type) [Rp α] where
  dat : α → PyData
  okd : α → Prop
  dep : Nat
  dp : ∀ {K : PySem.W.Frag} {m : List Addr} {H : Hp} {x : α} {v : V}, Rp.rp m H x v → Dp K H v (dat x)
  can : ∀ x : α, okd x → (dat x).canLay0 = true
  depth : ∀ x : α, (dat x).depth ≤ dep
  eq : ∀ x y : α, PyData.eqv (dat x) (dat y) = true ↔ x = y
instance : Dat Int := ⟨fun i => .int i, fun _ => True, 0, fun {K m H x v} r => by cases rp_int r; exact .int x, fun _ _ => by simp only [PyData.canLay0], fun _ => by simp [PyData.depth], fun x y => by simp [PyData.eqv]⟩
instance : Dat Bool := ⟨fun i => .bool i, fun _ => True, 0, fun {K m H x v} r => by cases rp_bool r; exact .bl x, fun _ _ => by simp only [PyData.canLay0], fun _ => by simp [PyData.depth], fun x y => by simp [PyData.eqv]⟩
instance : Dat Str := ⟨fun i => .str i, fun i => PyData.strOk i = true, 0, fun {K m H x v} r => by cases rp_str r; exact .str x, fun _ h => by simp only [PyData.canLay0]; exact h, fun _ => by simp [PyData.depth], fun x y => by simp [PyData.eqv]⟩
section
variable {α β γ : Type} [Rp α] [Rp β] [Rp γ] [Dat α] [Dat β] [Dat γ] {K : PySem.W.Frag} {m : List Addr} {H : Hp}
theorem dpAll_of {xs : List α} {vs : List V} (h : Paired (Rp.rp m H) xs vs) : DpAll K H vs (xs.map Dat.dat) := by
  induction h with
  | nil => exact .nil
  | cons r _ ih => exact .cons (Dat.dp r) ih
theorem canAll {xs : List α} (h : ∀ x, x ∈ xs → Dat.okd x) : PyData.canLayAll0 (xs.map Dat.dat) = true := by
  induction xs with
  | nil => simp [PyData.canLayAll0]
  | cons x xs ih =>
    rw [List.map_cons, PyData.canLayAll0, Dat.can x (h x (by simp)), ih fun y hy => h y (by simp [hy])]
    rfl
theorem depAll (xs : List α) : PyData.depthAll (xs.map Dat.dat) ≤ Dat.dep α := by
  induction xs with
  | nil => simp [PyData.depthAll]
  | cons x xs ih =>
    rw [List.map_cons, PyData.depthAll]
    exact Nat.max_le.mpr ⟨Dat.depth x, ih⟩
theorem eqAll : ∀ xs ys : List α, PyData.eqvAll (xs.map Dat.dat) (ys.map Dat.dat) = true ↔ xs = ys
  | [], [] => by simp [PyData.eqvAll]
  | [], y :: ys => by simp [PyData.eqvAll]
  | x :: xs, [] => by simp [PyData.eqvAll]
  | x :: xs, y :: ys => by rw [List.map_cons, List.map_cons, PyData.eqvAll, Bool.and_eq_true, Dat.eq, eqAll xs ys]; simp
instance : Dat (List α) := ⟨fun xs => .list (xs.map Dat.dat), fun xs => ∀ x, x ∈ xs → Dat.okd x, Dat.dep α + 1, fun ⟨a, vs, e, n, h, ps⟩ => by rw [e]; exact .lst (.of h) (dpAll_of ps), fun xs h => by rw [PyData.canLay0]; exact canAll h, fun xs => by
  rw [PyData.depth]; have := depAll xs; omega, fun xs ys => by rw [PyData.eqv]; exact eqAll xs ys⟩
instance : Dat (Tp α) := ⟨fun xs => .tuple (xs.l.map Dat.dat), fun xs => ∀ x, x ∈ xs.l → Dat.okd x, Dat.dep α + 1, fun ⟨a, vs, e, h, ps⟩ => by rw [e]; exact .tup (.of h) (dpAll_of ps), fun xs h => by rw [PyData.canLay0]; exact canAll h, fun xs => by
  rw [PyData.depth]; have := depAll xs.l; omega, fun xs ys => by rw [PyData.eqv, eqAll xs.l ys.l]; cases xs; cases ys; simp⟩
instance : Dat (α × β) := ⟨fun x => .tuple [Dat.dat x.1, Dat.dat x.2], fun x => Dat.okd x.1 ∧ Dat.okd x.2, max (Dat.dep α) (Dat.dep β) + 1, fun ⟨a, u, w, e, h, r1, r2⟩ => by rw [e]; exact .tup (.of h) (.cons (Dat.dp r1) (.cons (Dat.dp r2) .nil)), fun x h => by
  rw [PyData.canLay0, PyData.canLayAll0, PyData.canLayAll0, PyData.canLayAll0, Dat.can _ h.1, Dat.can _ h.2]; rfl, fun x => by
  rw [PyData.depth, PyData.depthAll, PyData.depthAll, PyData.depthAll]; have h1 := Dat.depth x.1; have h2 := Dat.depth x.2; omega, fun x y => by
  rw [PyData.eqv, PyData.eqvAll, PyData.eqvAll, PyData.eqvAll, Bool.and_true, Bool.and_eq_true, Dat.eq, Dat.eq]; cases x; cases y; simp⟩
instance : Dat (Tri α β γ) := ⟨fun x => .tuple [Dat.dat x.a, Dat.dat x.b, Dat.dat x.c], fun x => Dat.okd x.a ∧ Dat.okd x.b ∧ Dat.okd x.c, max (Dat.dep α) (max (Dat.dep β) (Dat.dep γ)) + 1, fun ⟨a, u, w, z, e, h, r1, r2, r3⟩ => by rw [e]; exact .tup (.of h) (.cons (Dat.dp r1) (.cons (Dat.dp r2) (.cons (Dat.dp r3) .nil))), fun x h => by
  rw [PyData.canLay0, PyData.canLayAll0, PyData.canLayAll0, PyData.canLayAll0, PyData.canLayAll0, Dat.can _ h.1, Dat.can _ h.2.1, Dat.can _ h.2.2]; rfl, fun x => by
  rw [PyData.depth, PyData.depthAll, PyData.depthAll, PyData.depthAll, PyData.depthAll]; have h1 := Dat.depth x.a; have h2 := Dat.depth x.b; have h3 := Dat.depth x.c; omega, fun x y => by
  rw [PyData.eqv, PyData.eqvAll, PyData.eqvAll, PyData.eqvAll, PyData.eqvAll, Bool.and_true, Bool.and_eq_true, Bool.and_eq_true, Dat.eq, Dat.eq, Dat.eq]; cases x; cases y; simp⟩
theorem eqv_dec [DecidableEq α] (x y : α) : PyData.eqv (Dat.dat x) (Dat.dat y) = decide (x = y) := by
  by_cases h : x = y
  · rw [decide_eq_true h]; exact (Dat.eq x y).mpr h
  · rw [decide_eq_false h]; exact Bool.eq_false_iff.mpr fun z => h ((Dat.eq x y).mp z)
theorem shaped_of {x : α} (h : Dat.okd x) (hd : Dat.dep α ≤ 64) : SeqAt.shaped (Dat.dat x) = true := Bool.and_eq_true_iff.mpr ⟨Dat.can x h, decide_eq_true (Nat.le_trans (Dat.depth x) hd)⟩
variable {D : Dst} {σ : St} {ta tb : TE}
theorem ev_eqD [DecidableEq α] {p q : α → Prop} {r : Bool → Prop} (ha : Ev D m ta σ H p) (hb : Ev D m tb σ H q) (ok : ∀ x y, p x → q y → Dat.okd x ∧ Dat.okd y) (k : ∀ x y, p x → q y → r (decide (x = y))) (hd : Dat.dep α ≤ 64 := by decide) : Ev D m (tOp (rEqD K) ta tb) σ H r := fun H1 e c Q w =>
  ha H1 e c _ fun x v H2 e2 rx px => hb H2 (e.trans e2) (c.go e2) _ fun y u H3 e3 ry qy => ⟨_, _, Dat.dp (rp_gd rx (c.go e2) e3), Dat.dp ry, shaped_of (ok x y px qy).1 hd, shaped_of (ok x y px qy).2 hd, w _ _ H3 (e2.trans e3) (show V.bl _ = V.bl _ by rw [eqv_dec]) (k x y px qy)⟩
theorem ev_neD [DecidableEq α] {p q : α → Prop} {r : Bool → Prop} (ha : Ev D m ta σ H p) (hb : Ev D m tb σ H q) (ok : ∀ x y, p x → q y → Dat.okd x ∧ Dat.okd y) (k : ∀ x y, p x → q y → r (!decide (x = y))) (hd : Dat.dep α ≤ 64 := by decide) : Ev D m (tOp (rNeD K) ta tb) σ H r := fun H1 e c Q w =>
  ha H1 e c _ fun x v H2 e2 rx px => hb H2 (e.trans e2) (c.go e2) _ fun y u H3 e3 ry qy => ⟨_, _, Dat.dp (rp_gd rx (c.go e2) e3), Dat.dp ry, shaped_of (ok x y px qy).1 hd, shaped_of (ok x y px qy).2 hd, w _ _ H3 (e2.trans e3) (show V.bl _ = V.bl _ by rw [eqv_dec]) (k x y px qy)⟩
theorem ev_eqDV [DecidableEq α] {x y : α} (ha : EvV D m ta σ H x) (hb : EvV D m tb σ H y) (o1 : Dat.okd x) (o2 : Dat.okd y) (hd : Dat.dep α ≤ 64 := by decide) : EvV D m (tOp (rEqD K) ta tb) σ H (decide (x = y)) :=
  ev_eqD ha hb (fun _ _ a b => by rw [a, b]; exact ⟨o1, o2⟩) (fun _ _ a b => by rw [a, b]) hd
theorem ev_neDV [DecidableEq α] {x y : α} (ha : EvV D m ta σ H x) (hb : EvV D m tb σ H y) (o1 : Dat.okd x) (o2 : Dat.okd y) (hd : Dat.dep α ≤ 64 := by decide) : EvV D m (tOp (rNeD K) ta tb) σ H (!decide (x = y)) :=
  ev_neD ha hb (fun _ _ a b => by rw [a, b]; exact ⟨o1, o2⟩) (fun _ _ a b => by rw [a, b]) hd
end
theorem ok_ints (xs : List Int) : Dat.okd xs := fun _ _ => trivial
theorem ok_hands (xs : List (Int × Int)) : Dat.okd xs := fun _ _ => ⟨trivial, trivial⟩
/-- [] as any list -/
theorem el_nil {α : Type} [Rp α] {D : Dst} {m : List Addr} {σ : St} {H : Hp} : EvLV D m (tLst tNil) σ H ([] : List α) := el_lst ei_nil fun xs e => by rw [e]; simp

/-! ### isinstance -/
section
variable {D : Dst} {m : List Addr} {σ : St} {H : Hp} {ta : TE} {K : PySem.W.Frag} {n : String} {b : Bool}
theorem ev_isT {α : Type} [Rp α] {t : String} {p : α → Prop} (ha : Ev D m ta σ H p) (ty : ∀ x v H', Rp.rp m H' x v → p x → TyX K H' v (.type t)) (h : kitB t n = some b) : EvV D m (tCB (rIsi K) (tCons ta (tCons (tC (.ty n)) tNil))) σ H b := fun H1 e c Q w =>
  ha H1 e c _ fun x v H2 e2 r px => ⟨v, _, _, _, b, rfl, .ty n, ty x v H2 r px, kit_ty h, w b _ H2 e2 rfl rfl⟩
theorem ty_list {α : Type} [Rp α] {m : List Addr} {H : Hp} {x : List α} {v : V} (r : Rp.rp m H x v) : TyX K H v (.type "list") := by
  obtain ⟨a, vs, rfl, n, h, _⟩ := r
  exact .base (.lst h)
theorem ty_int {m : List Addr} {H : Hp} {x : Int} {v : V} (r : Rp.rp m H x v) : TyX K H v (.type "int") := by cases rp_int r; exact .base (.int x)
theorem ty_bool {m : List Addr} {H : Hp} {x : Bool} {v : V} (r : Rp.rp m H x v) : TyX K H v (.type "bool") := by cases rp_bool r; exact .base (.bl x)
theorem ty_str {m : List Addr} {H : Hp} {x : Str} {v : V} (r : Rp.rp m H x v) : TyX K H v (.type "str") := by cases rp_str r; exact .base (.str x)
theorem ty_tp {α : Type} [Rp α] {m : List Addr} {H : Hp} {x : Tp α} {v : V} (r : Rp.rp m H x v) : TyX K H v (.type "tuple") := by
  obtain ⟨a, vs, rfl, h, _⟩ := r
  exact .base (.tup h)
theorem ty_pair {α β : Type} [Rp α] [Rp β] {m : List Addr} {H : Hp} {x : α × β} {v : V} (r : Rp.rp m H x v) : TyX K H v (.type "tuple") := by
  obtain ⟨a, u, w, rfl, h, _⟩ := r
  exact .base (.tup h)
theorem ev_isL {α : Type} [Rp α] {x : List α} (ha : EvV D m ta σ H x) (h : kitB "list" n = some b := by decide +kernel) : EvV D m (tCB (rIsi K) (tCons ta (tCons (tC (.ty n)) tNil))) σ H b := ev_isT ha (fun _ _ _ r _ => ty_list r) h
theorem ev_isI {p : Int → Prop} (ha : Ev D m ta σ H p) (h : kitB "int" n = some b := by decide +kernel) : EvV D m (tCB (rIsi K) (tCons ta (tCons (tC (.ty n)) tNil))) σ H b := ev_isT ha (fun _ _ _ r _ => ty_int r) h
theorem ev_isB {p : Bool → Prop} (ha : Ev D m ta σ H p) (h : kitB "bool" n = some b := by decide +kernel) : EvV D m (tCB (rIsi K) (tCons ta (tCons (tC (.ty n)) tNil))) σ H b := ev_isT ha (fun _ _ _ r _ => ty_bool r) h
end

/-- xs + ys -/
theorem el_catP {α : Type} [Rp α] {D : Dst} {m : List Addr} {σ : St} {H : Hp} {ta tb : TE} {p q r : List α → Prop} (ha : Ev D m ta σ H p) (hb : Ev D m tb σ H q) (hl : ∀ xs ys, p xs → q ys → xs.length ≤ 100000 ∧ ys.length ≤ 100000) (k : ∀ xs ys, p xs → q ys → r (xs ++ ys)) : EvL D m (tOp rCat ta tb) σ H r :=
  rCat_ok (fun a b us ws H Q h1 h2 l1 l2 k => ⟨a, b, us, ws, rfl, rfl, h1, h2, Nat.le_trans (Nat.add_le_add l1 l2) (by decide), k⟩) ha hb hl k
theorem el_catV {α : Type} [Rp α] {D : Dst} {m : List Addr} {σ : St} {H : Hp} {ta tb : TE} {xs ys : List α} (ha : EvV D m ta σ H xs) (hb : EvV D m tb σ H ys) (hl : xs.length ≤ 100000 ∧ ys.length ≤ 100000) : EvLV D m (tOp rCat ta tb) σ H (xs ++ ys) :=
  el_catP ha hb (fun _ _ a b => by rw [a, b]; exact hl) fun _ _ a b => by rw [a, b]

/-! ### isinstance of a caught error -/
/-- the dict of a caught error is told by H -/
def DcOk (H : Hp) : Option Addr → Prop
  | none => True
  | some d => ∃ fs, H d = some (.xd fs)
def rIsX (K : PySem.W.Frag) (cls : Value) (d : Option Addr) (a : Addr) : List V → Hp → VK → Prop := fun xs H Q => ∃ (D : Addr) (c : V) (cv : Value) (b : Bool), cls = .ref D ∧ ExcC K D ∧ DcOk H d ∧ xs = [.ref a, c] ∧ ClsV c cv ∧ PySem.W.kitOne K (.ref D) cv = some b ∧ Q (.bl b) H
def rIsXT (K : PySem.W.Frag) (cls : Value) (d : Option Addr) (a : Addr) : List V → Hp → VK → Prop := fun xs H Q => ∃ (D tp : Addr) (cs : List V) (us : List Value) (b : Bool), cls = .ref D ∧ ExcC K D ∧ DcOk H d ∧ xs = [.ref a, .ref tp] ∧ H tp = some (.tup cs) ∧ Paired ClsV cs us ∧ PySem.W.kitAny K (.ref D) us = some b ∧ Q (.bl b) H
section
variable {X : Cx} {a : Addr} {oe : Obj} {cls : Value} {d : Option Addr} {pn : List (Addr × Obj)}
theorem exc_at {pins : List (Addr × Obj)} {σ : St} {H : Hp} {s : Shared} (hz : Zc cls d oe) (hf : ∃ vs, oe.data = .fields vs) (I : Inv (X.suite a ((a, oe) :: pn)) pins σ H s) {D : Addr} (e : cls = .ref D) (hd : DcOk H d) :
    ∃ od, PySem.W.InstAt s.heap a oe D od := by
  obtain ⟨ha, _⟩ := I.pin (a, oe) (List.mem_append_left _ List.mem_cons_self)
  obtain ⟨vs, hv⟩ := hf
  subst e
  cases d with
  | none => exact ⟨none, ha, hz.1, by unfold PySem.W.notCls; rw [hv] <;> rfl, by rw [hz.2]; trivial⟩
  | some dd =>
    obtain ⟨fs, h⟩ := hd
    have hx : ObjOk X.prog X.w H s.heap dd (.xd fs) := I.hok dd _ h
    obtain ⟨mA, hns, hr⟩ := hx
    obtain ⟨od, ho, hl⟩ := lookIn_ns hns
    exact ⟨some od, ha, hz.1, by unfold PySem.W.notCls; rw [hv] <;> rfl, by rw [hz.2]; exact ho⟩
theorem kitX_of {D : Addr} {K : PySem.W.Frag} {od : Option Obj} (C : ExcC K D) : PySem.W.KitX K (.ref a) (.ref D) (fun h => PySem.W.InstAt h a oe D od) :=
  PySem.W.kitx_exc (by obtain ⟨cd, hc, _⟩ := PySem.W.any_some C.hd; rw [hc]; rfl) C.hg C.hk C.hs C.ha C.hn C.ht C.hm
theorem call_isX (hz : Zc cls d oe) (hf : ∃ vs, oe.data = .fields vs) : CallR (X.suite a ((a, oe) :: pn)) (.builtin "isinstance") (rIsX X.K cls d a) := by
  intro pins s σ H xs us Q I r h
  obtain ⟨D, c, cv, b, ec, C, hd, rfl, hcv, e, q⟩ := h
  obtain ⟨u1, u2, rfl, r1, r2⟩ := vals2 r
  cases (show u1 = Value.ref a from r1)
  cases hcv.eq r2
  obtain ⟨od, J⟩ := exc_at hz hf I ec hd
  exact PySem.W.kia_one (kitX_of C) I.kIn J e (fun z => nomatch z) fun tk => ⟨.bl b, H, I.kept (t' := tk) fun _ _ z => z, rfl, q⟩
theorem call_isXT (hz : Zc cls d oe) (hf : ∃ vs, oe.data = .fields vs) : CallR (X.suite a ((a, oe) :: pn)) (.builtin "isinstance") (rIsXT X.K cls d a) := by
  intro pins s σ H xs us Q I r h
  obtain ⟨D, tp, cs, ws, b, ec, C, hd, rfl, hT, k, e, q⟩ := h
  obtain ⟨u1, u2, rfl, r1, r2⟩ := vals2 r
  cases (show u1 = Value.ref a from r1)
  cases (show u2 = Value.ref tp from r2)
  obtain ⟨od, J⟩ := exc_at hz hf I ec hd
  obtain ⟨_, its, rv, o, h1, h2, n, h3⟩ := (show ObjOk X.prog X.w H s.heap tp (.tup cs) from I.hok tp _ hT)
  have e3 := ClsV.all k rv
  subst e3
  obtain ⟨oc, od', dt, sl⟩ := o
  simp only at h2 h3
  subst h2 h3
  exact PySem.W.kia_tup (kitX_of C) I.kIn J h1 e (fun z => nomatch z) fun tk => ⟨.bl b, H, I.kept (t' := tk) fun _ _ z => z, rfl, q⟩
end
section
variable {D : Dst} {m : List Addr} {σ : St} {H : Hp} {K : PySem.W.Frag} {cls : Value} {d : Option Addr} {a C : Addr} {i : Nat} {b : Bool}
/-- isinstance(e, c) in the suite -/
theorem ev_isX {c : V} {cv : Value} (hv : σ[i]? = some (some (.ref a))) (ec : cls = .ref C) (X : ExcC K C) (hd : DcOk H d) (nd : ∀ x, d = some x → x ∉ D.m) (hc : ClsV c cv) (e : PySem.W.kitOne K (.ref C) cv = some b) : EvV D m (tCB (rIsX K cls d a) (tCons (tVar i) (tCons (tC c) tNil))) σ H b := fun H1 g cc Q w =>
  ⟨_, hv, C, c, cv, b, ec, X, (by
    cases d with
    | none => trivial
    | some x => obtain ⟨fs, h⟩ := hd; exact ⟨fs, g.gr.keep x _ h (nd x rfl)⟩), rfl, hc, e, w b _ H1 .refl rfl rfl⟩
theorem ev_isXT {cs : List V} {us : List Value} {ta : TA} (hta : ∀ (H : Hp) (Q : List V → Hp → Prop), Q cs H → ta σ H Q) (hv : σ[i]? = some (some (.ref a))) (ec : cls = .ref C) (X : ExcC K C) (hd : DcOk H d) (nd : ∀ x, d = some x → x ∉ D.m) (hl : cs.length ≤ 100) (hc : Paired ClsV cs us) (e : PySem.W.kitAny K (.ref C) us = some b) :
    EvV D m (tCB (rIsXT K cls d a) (tCons (tVar i) (tCons (tTup ta) tNil))) σ H b := fun H1 g cc Q w =>
  ⟨_, hv, hta H1 _ ⟨Evl.sz_of (Nat.le_trans hl (by decide)), fun tp hp => ⟨C, tp, cs, us, b, ec, X, (by
    cases d with
    | none => trivial
    | some x => obtain ⟨fs, h⟩ := hd; exact ⟨fs, (Gr.new (m := []) hp).at0 (g.gr.keep x _ h (nd x rfl))⟩), rfl, upd_same, hc, e, w b _ _ (.new hp) rfl rfl⟩⟩⟩
theorem kany_f {t c : Value} {cs : List Value} (h : PySem.W.kitOne K t c = some false) (r : PySem.W.kitAny K t cs = some b) : PySem.W.kitAny K t (c :: cs) = some b := kitAny_cons h (fun _ => r) fun z => by cases z
theorem kany_t {t c : Value} {cs : List Value} (h : PySem.W.kitOne K t c = some true) : PySem.W.kitAny K t (c :: cs) = some true := kitAny_cons h (fun z => by cases z) fun _ => rfl
end

section
variable {X : Cx} {K : PySem.W.Frag} {o e : Expr} {es : List Expr} {to : TE} {t : TA} {name : Str} {apos cpos : Pos} {T id : String} {r : V → List V → Hp → VK → Prop}
theorem pe_bmK (pa : PySem.PlainAttrs T) (slot : PySem.Slot T name id) (hty : typeOf (.builtin id) = pure (.type "method_descriptor")) (hm : MtR X id r) (ho : PE X o to) (ha : PA X (e :: es) t)
    (hbase : attributeBase o name X.env (eval o X.env) = eval o X.env := by rfl)
    (hfew : ((backTo cpos (starEach (e :: es) X.env)).all (fun x => !x.1) && (backToKw cpos (keywordEach [] X.env)).all (fun x => x.1.isSome)
      && decide ((e :: es).length + ([] : List Keyword).length + (if ([] : List Keyword).isEmpty then 0 else 1) < 30)) = true := by rfl)
    (hline : (apos.endLine == cpos.line) = true := by rfl) (hs : starEach (e :: es) X.env = (false, eval e X.env) :: starEach es X.env := by rfl) (hplain : (backTo cpos (starEach es X.env)).any (·.1) = false := by rfl) (hk : X.K = K := by rfl) :
    PE X (.Call (.Attribute o name apos) (e :: es) [] cpos) (tBM K T r to t) := hk ▸ pe_bm pa slot hty hm ho ha hbase hfew hline hs hplain
end

/-! ### more rules -/
section
variable {α β : Type} [Rp α] [Rp β] {K : PySem.W.Frag} {D : Dst} {m m' : List Addr} {σ : St} {H H' : Hp} {ta tb te : TE} {tt : TT} {v : V} {En : Ends} {i : Nat} {t u z : TS} {a p : Addr}
/-- an if whose both ways come to what is asked ahead of what follows -/
theorem q_ifJ {pb : Bool → Prop} (J : St → Hp → Prop) (c : Cc D m H) (h : EvT D m tt σ H pb) (hz : ∀ σ1 H1, J σ1 H1 → z En σ1 H1) (h1 : (∀ σ1 H1, J σ1 H1 → z En σ1 H1) → pb true → ∀ H1, Gd D H H1 → t { En with nx := z En } σ H1) (h2 : (∀ σ1 H1, J σ1 H1 → z En σ1 H1) → pb false → ∀ H1, Gd D H H1 → u { En with nx := z En } σ H1) :
    tSeq (tIfS tt t u) z En σ H := q_if c h (h1 hz) (h2 hz)
theorem Own.more [Nl α] {xs : List α} (o : Own m H a xs) (hp : H p = none) : Own (p :: m) H a xs := by
  obtain ⟨n, vs, h, q⟩ := o
  refine ⟨?_, vs, h, paired_go q fun _ _ r => rp_nl r fun _ _ e => e⟩
  intro z
  rcases List.mem_cons.mp z with z | z
  · rw [z, hp] at h; cases h
  · exact n z
theorem Own.less [Nl α] {xs : List α} (o : Own m H a xs) (h : ∀ x, x ∈ m' → x ∈ m) : Own m' H a xs := by
  obtain ⟨n, vs, e, q⟩ := o
  exact ⟨fun z => n (h a z), vs, e, paired_go q fun _ _ r => rp_nl r fun _ _ e => e⟩
theorem Own.ne_new {xs : List α} (o : Own m H a xs) (hp : H p = none) : a ≠ p := by
  obtain ⟨vs, h, _⟩ := o.ex
  exact ne_of_none h hp
theorem Cc.goM (c : Cc D m H) (g : Gr m H H') (ok : D.ok H') : Cc D m H' := ⟨c.sub, fun a h z => c.dm a h (g.dom a z), ok⟩
/-- a list that is new stands apart from all that was there -/
theorem Own.mem_more [Nl α] {xs : List α} (o : Own m H' a xs) (hp : H a = none) (h : ∀ b, b ∈ m' → H b ≠ none) : Own m' H' a xs := by
  obtain ⟨n, vs, e, q⟩ := o
  exact ⟨fun z => h a z hp, vs, e, paired_go q fun _ _ r => rp_nl r fun _ _ e => e⟩
/-- x is not True -/
theorem ev_notB {x y : Bool} (ha : EvV D m ta σ H x) (hb : EvV D m tb σ H y) : EvV D m (tOp rNotB ta tb) σ H (!decide (x = y)) := fun H1 e c Q w =>
  ha H1 e c _ fun x' v H2 e2 ri pi => hb H2 (e.trans e2) (c.go e2) _ fun y' u H3 e3 rj qj => by
    subst pi qj
    cases rp_bool ri
    cases rp_bool rj
    exact ⟨x', y', rfl, rfl, w _ _ H3 (e2.trans e3) rfl rfl⟩
theorem ev_isB' {x y : Bool} (ha : EvV D m ta σ H x) (hb : EvV D m tb σ H y) : EvV D m (tOp rIsB ta tb) σ H (decide (x = y)) := fun H1 e c Q w =>
  ha H1 e c _ fun x' v H2 e2 ri pi => hb H2 (e.trans e2) (c.go e2) _ fun y' u H3 e3 rj qj => by
    subst pi qj
    cases rp_bool ri
    cases rp_bool rj
    exact ⟨x', y', rfl, rfl, w _ _ H3 (e2.trans e3) rfl rfl⟩
/-- x is None, is not None -/
theorem ev_isN (hv : σ[i]? = some (some v)) : EvV D m (tOp (fun x y H Q => y = .non ∧ Q (.bl (decide (x = .non))) H) (tVar i) (tC .non)) σ H (decide (v = .non)) := fun H1 e c Q w => ⟨_, hv, rfl, w _ _ H1 .refl rfl rfl⟩
theorem ev_notN (hv : σ[i]? = some (some v)) : EvV D m (tOp (fun x y H Q => y = .non ∧ Q (.bl (!decide (x = .non))) H) (tVar i) (tC .non)) σ H (!decide (v = .non)) := fun H1 e c Q w => ⟨_, hv, rfl, w _ _ H1 .refl rfl rfl⟩
theorem ev_isN0 (hv : σ[i]? = some (some .non)) : EvV D m (tOp (fun x y H Q => y = .non ∧ Q (.bl (decide (x = .non))) H) (tVar i) (tC .non)) σ H true := (ev_isN hv).imp fun b e => by rw [e]; rfl
theorem ev_isN1 (hv : σ[i]? = some (some (.ref a))) : EvV D m (tOp (fun x y H Q => y = .non ∧ Q (.bl (decide (x = .non))) H) (tVar i) (tC .non)) σ H false := (ev_isN hv).imp fun b e => by rw [e]; rfl
theorem ev_notN0 (hv : σ[i]? = some (some .non)) : EvV D m (tOp (fun x y H Q => y = .non ∧ Q (.bl (!decide (x = .non))) H) (tVar i) (tC .non)) σ H false := (ev_notN hv).imp fun b e => by rw [e]; rfl
theorem ev_notN1 (hv : σ[i]? = some (some (.ref a))) : EvV D m (tOp (fun x y H Q => y = .non ∧ Q (.bl (!decide (x = .non))) H) (tVar i) (tC .non)) σ H true := (ev_notN hv).imp fun b e => by rw [e]; rfl
/-- None == [..] -/
theorem ev_eqNL [Dat α] {xs : List α} (hv : σ[i]? = some (some .non)) (hb : EvV D m tb σ H xs) (ok : Dat.okd xs) (hd : Dat.dep (List α) ≤ 64 := by decide) : EvV D m (tOp (rEqD K) (tVar i) tb) σ H false := fun H1 e c Q w => ⟨_, hv, hb H1 e c _ fun xs' u H2 e2 r q => by
  subst q
  exact ⟨.none, _, .non, Dat.dp r, rfl, shaped_of ok hd, w false _ H2 e2 rfl rfl⟩⟩
/-- e.append(x), e a new list -/
theorem s_appL [Nl α] {xs : List α} {x : α} (c : Cc D m H) (h : EvLV D m te σ H xs) (hb : EvV D m tb σ H x) (hz : xs.length < 100000) (k : ∀ H2, Gd D H H2 → En.nx σ H2) : tDrop (tBM K "list" rAppend te (tCons tb tNil)) En σ H := h H .refl c _ fun ys a H1 n g o e => by
  subst e
  obtain ⟨_, vs, ha, ps⟩ := id o
  refine ⟨.inl ⟨rfl, _, .inl (.inl ha)⟩, hb H1 g (c.go g) _ fun x v H2 g2 r z => ?_⟩
  have h2 : H2 a = some (.lst vs) := g2.gr.keep a _ ha fun q => o.1 (c.sub a q)
  exact ⟨a, vs, v, rfl, rfl, h2, by rw [← ps.length]; exact Evl.sz_lt hz, k _ (mut_gd (g.trans g2) c n)⟩
theorem q_appL [Nl α] {xs : List α} {x : α} (c : Cc D m H) (h : EvLV D m te σ H xs) (hb : EvV D m tb σ H x) (hz : xs.length < 100000) (k : ∀ H2, Gd D H H2 → z En σ H2) : tSeq (tDrop (tBM K "list" rAppend te (tCons tb tNil))) z En σ H := s_appL (En := { En with nx := z En }) c h hb hz k
/-- xs.clear() -/
theorem q_clear {xs : List α} (o : Own m H a xs) (hv : σ[i]? = some (some (.ref a))) (k : z En σ (upd H a (.lst []))) : tSeq (tDrop (tBM0 K "list" rClear (tVar i))) z En σ H := by
  obtain ⟨n, vs, ha, ps⟩ := o
  exact ⟨_, hv, .inl ⟨rfl, _, .inl (.inl ha)⟩, a, vs, rfl, rfl, ha, k⟩
theorem first_at {l : List Int} {k : Int} (h : k ∈ l) : ∃ n, l[n]? = some k ∧ ∀ m : Nat, m < n → l[m]? ≠ some k := by
  induction l with
  | nil => simp at h
  | cons a r ih =>
    by_cases e : a = k
    · exact ⟨0, by simp [e], fun m h => by omega⟩
    · have hr : k ∈ r := by
        rcases List.mem_cons.mp h with z | z
        · exact absurd z.symm e
        · exact z
      obtain ⟨n, h1, h2⟩ := ih hr
      refine ⟨n + 1, by simpa using h1, fun m hm => ?_⟩
      cases m with
      | zero => simpa using e
      | succ m => simpa using h2 m (by omega)
end
/-! ### [a, b, ..][i], each item well -/
section
variable {K : PySem.W.Frag} {D : Dst} {m : List Addr} {σ : St} {H : Hp} {ta te : TE} {ti tr : TA} {P : Int → Prop} {n : Nat}
def AllN (n : Nat) (P : Int → Prop) (xs : List Int) : Prop := xs.length = n ∧ ∀ x, x ∈ xs → P x
theorem ei_all0 : EvI D m tNil σ H (AllN 0 P) := fun H1 _ _ Q w => w [] [] H1 .refl .nil ⟨rfl, by simp⟩
theorem ei_allS (h : Ev D m ta σ H P) (hr : EvI D m tr σ H (AllN n P)) : EvI D m (tCons ta tr) σ H (AllN (n + 1) P) := ei_cons h hr fun x xs hx hxs => ⟨by rw [List.length_cons, hxs.1], fun y hy => by
  rcases List.mem_cons.mp hy with z | z
  · rw [z]; exact hx
  · exact hxs.2 y z⟩
theorem ev_pick {q : Int → Prop} (h : EvI D m ti σ H (AllN n P)) (hi : Ev D m te σ H q) (hq : ∀ i, q i → 0 ≤ i ∧ i < (n : Int)) (hn : n ≤ 1000 := by decide) : Ev D m (tOp (rIxL K) (tLst ti) te) σ H P :=
  ev_ixL' (EvL.ev (el_lst h fun xs e => by rw [e.1]; omega)) hi fun xs i hxs hi' => by
    obtain ⟨b0, b1⟩ := hq i hi'
    have hlt : i.toNat < xs.length := by rw [hxs.1]; omega
    have e := atI_nat (List.getElem?_eq_getElem hlt)
    rw [show ((i.toNat : Nat) : Int) = i by omega] at e
    exact ⟨_, e, hxs.2 _ (List.getElem_mem hlt)⟩
theorem ev_cP {i : Int} (h : P i) : Ev D m (tC (.int i)) σ H P := ev_c.imp fun j e => by rw [e]; exact h
end
end KS
set_option Elab.async false
set_option linter.all false
set_option maxRecDepth 100000
set_option maxHeartbeats 4000000
namespace KS
open PySem L2
/-! ### errors with a field of their own -/
/-- what an own error's __init__ does: self.f = v -/
def spErrI (C : Addr) (f : Str) : Sp := fun vs H Q _ => ∃ (a : Addr) (v : V), vs = [.ref a, v] ∧ H a = some (exo a C none) ∧ ∀ dx, H dx = none → dx ≠ a → Q .non (upd (upd H dx (exd dx [(f, v)])) a (exo a C (some dx)))
theorem mk_err {α : Type} [Rp α] {D : Dst} {m : List Addr} {C : Addr} {f : Str} {te : TE} {σ : St} {H : Hp} {Q : XK} {p : α → Prop} (c : Cc D m H) (h : Ev D m te σ H p)
    (k : ∀ x v H1, Gd D H H1 → Rp.rp m H1 x v → p x → ∀ d, H1 d = none → Q (.ref C) (some d) (upd H1 d (.xd [(f, v)]))) : tMkO C (spErrI C f) [] (tCons te tNil) σ H Q := h H .refl c _ fun x v H1 g r px => by
  refine ⟨(by show 1 ≤ 1000; decide), fun a ha => ⟨a, v, rfl, upd_same, fun dx hd hne => ⟨rfl, dx, [(f, v)], upd_same, by rw [upd_ne hne]; exact upd_same, by rw [upd_ne hne] at hd; exact hd, ?_⟩⟩⟩
  rw [upd_ne hne] at hd
  have e : upd (del (upd (upd (upd H1 a (exo a C none)) dx (exd dx [(f, v)])) a (exo a C (some dx))) a) dx (.xd [(f, v)]) = upd H1 dx (.xd [(f, v)]) := by
    funext b
    by_cases hb : b = dx
    · rw [hb, upd_same, upd_same]
    · rw [upd_ne hb, upd_ne hb]
      by_cases hba : b = a
      · rw [hba, del_same, ha]
      · rw [del_ne hba, upd_ne hba, upd_ne hb, upd_ne hba]
  rw [e]
  exact k x v H1 g r px dx hd

theorem mk_errV {C : Addr} {f : Str} {i : Nat} {v : V} {σ : St} {H : Hp} {Q : XK} (hv : σ[i]? = some (some v)) (k : ∀ d, H d = none → Q (.ref C) (some d) (upd H d (.xd [(f, v)]))) : tMkO C (spErrI C f) [] (tCons (tVar i) tNil) σ H Q := by
  refine ⟨v, hv, (by show 1 ≤ 1000; decide), fun a ha => ⟨a, v, rfl, upd_same, fun dx hd hne => ⟨rfl, dx, [(f, v)], upd_same, by rw [upd_ne hne]; exact upd_same, by rw [upd_ne hne] at hd; exact hd, ?_⟩⟩⟩
  rw [upd_ne hne] at hd
  have e : upd (del (upd (upd (upd H a (exo a C none)) dx (exd dx [(f, v)])) a (exo a C (some dx))) a) dx (.xd [(f, v)]) = upd H dx (.xd [(f, v)]) := by
    funext b
    by_cases hb : b = dx
    · rw [hb, upd_same, upd_same]
    · rw [upd_ne hb, upd_ne hb]
      by_cases hba : b = a
      · rw [hba, del_same, ha]
      · rw [del_ne hba, upd_ne hba, upd_ne hb, upd_ne hba]
  rw [e]
  exact k dx hd

/-- from the left, item by item -/
theorem snoc_ind {α : Type} {P : List α → Prop} (nil : P []) (snoc : ∀ l a, P l → P (l ++ [a])) (l : List α) : P l := by
  have h : ∀ r : List α, P r.reverse := by
    intro r
    induction r with
    | nil => exact nil
    | cons a r ih => rw [List.reverse_cons]; exact snoc _ _ ih
  have q := h l.reverse
  rw [List.reverse_reverse] at q
  exact q

/-! ### dicts of whole numbers -/
/-- a dict from numbers to numbers, in its order -/
structure Dc where
  l : List (Int × Int)
def dK (l : List (Int × Int)) : List (Key × V) := l.map fun kv => (Sum.inl kv.1, V.int kv.2)
instance : Rp Dc := ⟨fun m H x v => ∃ a, v = .ref a ∧ a ∉ m ∧ H a = some (.dK (dK x.l)), fun k _ ⟨a, e, n, h⟩ => ⟨a, e, (k a _ h n).1, (k a _ h n).2⟩⟩
def look (l : List (Int × Int)) (k : Int) : Option Int := (l.find? fun kv => decide (kv.1 = k)).map (·.2)
def put (l : List (Int × Int)) (k v : Int) : List (Int × Int) := if (l.any fun kv => decide (kv.1 = k)) = true then l.map (fun kv => if kv.1 = k then (kv.1, v) else kv) else l ++ [(k, v)]
theorem val_dK (l : List (Int × Int)) (k : Int) : valV (dK l) (Sum.inl k) = (look l k).map V.int := by
  induction l with
  | nil => rfl
  | cons p r ih =>
    by_cases e : p.1 = k
    · have e1 : valV (dK (p :: r)) (Sum.inl k) = some (V.int p.2) := valV_pos (congrArg Sum.inl e)
      have e2 : look (p :: r) k = some p.2 := by unfold look; rw [List.find?_cons, decide_eq_true e]; rfl
      rw [e1, e2]; rfl
    · have e1 : valV (dK (p :: r)) (Sum.inl k) = valV (dK r) (Sum.inl k) := valV_neg fun z => e (Sum.inl.inj z)
      have e2 : look (p :: r) k = look r k := by unfold look; rw [List.find?_cons, decide_eq_false e]
      rw [e1, e2, ih]
theorem any_dK (l : List (Int × Int)) (k : Int) : ((dK l).any fun kv => decide (kv.1 = (Sum.inl k : Key))) = l.any fun kv => decide (kv.1 = k) := by
  unfold dK
  rw [List.any_map]
  congr 1
  funext kv
  show decide ((Sum.inl kv.1 : Key) = Sum.inl k) = decide (kv.1 = k)
  by_cases e : kv.1 = k
  · rw [decide_eq_true e, decide_eq_true (congrArg Sum.inl e)]
  · rw [decide_eq_false e, decide_eq_false fun z => e (Sum.inl.inj z)]
theorem put_dK (l : List (Int × Int)) (k v : Int) : putK (dK l) (Sum.inl k) (.int v) = dK (put l k v) := by
  unfold putK put
  rw [any_dK]
  by_cases h : (l.any fun kv => decide (kv.1 = k)) = true
  · rw [if_pos h, if_pos h]
    unfold dK
    rw [List.map_map, List.map_map]
    refine List.map_congr_left fun kv _ => ?_
    show (if (Sum.inl kv.1 : Key) = Sum.inl k then ((Sum.inl kv.1 : Key), V.int v) else (Sum.inl kv.1, V.int kv.2)) = (Sum.inl (if kv.1 = k then (kv.1, v) else kv).1, V.int (if kv.1 = k then (kv.1, v) else kv).2)
    by_cases e : kv.1 = k
    · rw [if_pos e, if_pos (congrArg Sum.inl e)]
    · rw [if_neg e, if_neg fun z => e (Sum.inl.inj z)]
  · rw [if_neg h, if_neg h]
    unfold dK
    rw [List.map_append]
    rfl
theorem look_put (l : List (Int × Int)) (k j v : Int) : look (put l k v) j = if j = k then some v else look l j := by
  have h := valV_put (dK l) (Sum.inl k) (Sum.inl j) (V.int v)
  rw [put_dK, val_dK, val_dK] at h
  by_cases e : j = k
  · rw [if_pos (congrArg Sum.inl e)] at h
    rw [if_pos e]
    cases q : look (put l k v) j with
    | none => rw [q] at h; cases h
    | some y => rw [q] at h; simpa using h
  · rw [if_neg fun z => e (Sum.inl.inj z)] at h
    rw [if_neg e]
    cases q : look (put l k v) j with
    | none =>
      rw [q] at h
      cases q2 : look l j with
      | none => rfl
      | some z => rw [q2] at h; cases h
    | some y =>
      rw [q] at h
      cases q2 : look l j with
      | none => rw [q2] at h; cases h
      | some z => rw [q2] at h; simpa using h
theorem put_len (l : List (Int × Int)) (k v : Int) : (put l k v).length ≤ l.length + 1 := by
  unfold put
  split <;> simp
/-- how often each is met, in the order of the first times -/
def tally (cs : List Int) : List (Int × Int) := cs.foldl (fun d c => put d c ((look d c).getD 0 + 1)) []
theorem tally_snoc (cs : List Int) (c : Int) : tally (cs ++ [c]) = put (tally cs) c ((look (tally cs) c).getD 0 + 1) := by
  unfold tally
  rw [List.foldl_append]
  rfl
theorem tally_len (cs : List Int) : (tally cs).length ≤ cs.length := by
  induction cs using snoc_ind with
  | nil => decide
  | snoc cs c ih =>
    rw [tally_snoc, List.length_append]
    exact Nat.le_trans (put_len _ _ _) (Nat.add_le_add_right ih 1)
theorem look_tally (cs : List Int) (c : Int) : look (tally cs) c = if c ∈ cs then some (cs.count c : Int) else none := by
  induction cs using snoc_ind with
  | nil => simp [tally, look]
  | snoc cs d ih =>
    rw [tally_snoc, look_put]
    by_cases e : c = d
    · subst e
      have hm : c ∈ cs ++ [c] := List.mem_append_right _ List.mem_cons_self
      have h1 : List.count c [c] = 1 := by simp
      rw [if_pos rfl, ih, if_pos hm, List.count_append, h1]
      by_cases h : c ∈ cs
      · rw [if_pos h]; simp
      · rw [if_neg h, List.count_eq_zero.mpr h]; simp
    · rw [if_neg e, ih, List.count_append]
      have h1 : (c ∈ cs ++ [d]) ↔ c ∈ cs := by simp [e]
      have h2 : List.count c [d] = 0 := List.count_eq_zero.mpr (by simp [e])
      rw [h2]
      by_cases h : c ∈ cs
      · rw [if_pos h, if_pos (h1.mpr h)]; simp
      · rw [if_neg h, if_neg fun z => h (h1.mp z)]
theorem put_keys (l : List (Int × Int)) (k v : Int) : (put l k v).map (·.1) = if k ∈ l.map (·.1) then l.map (·.1) else l.map (·.1) ++ [k] := by
  unfold put
  have e : ((l.any fun kv => decide (kv.1 = k)) = true) ↔ k ∈ l.map (·.1) := by
    rw [List.any_eq_true]
    constructor
    · rintro ⟨kv, h1, h2⟩
      exact List.mem_map.mpr ⟨kv, h1, of_decide_eq_true h2⟩
    · intro h
      obtain ⟨kv, h1, h2⟩ := List.mem_map.mp h
      exact ⟨kv, h1, decide_eq_true h2⟩
  by_cases h : k ∈ l.map (·.1)
  · rw [if_pos (e.mpr h), if_pos h, List.map_map]
    refine List.map_congr_left fun kv _ => ?_
    show (if kv.1 = k then (kv.1, v) else kv).1 = kv.1
    split <;> rfl
  · rw [if_neg (fun z => h (e.mp z)), if_neg h, List.map_append]
    rfl
theorem tally_keys_nodup (cs : List Int) : ((tally cs).map (·.1)).Nodup := by
  induction cs using snoc_ind with
  | nil => simp [tally]
  | snoc cs c ih =>
    rw [tally_snoc, put_keys]
    split
    · exact ih
    · rename_i h
      rw [List.nodup_append]
      refine ⟨ih, by simp, ?_⟩
      intro a ha b hb e
      rw [List.mem_singleton.mp hb] at e
      exact h (e ▸ ha)
theorem tally_mem (cs : List Int) (c n : Int) : (c, n) ∈ tally cs ↔ c ∈ cs ∧ n = (cs.count c : Int) := by
  have hn := tally_keys_nodup cs
  have key : ∀ (l : List (Int × Int)), (l.map (·.1)).Nodup → ((c, n) ∈ l ↔ look l c = some n) := by
    intro l
    induction l with
    | nil => intro _; simp [look]
    | cons p r ih =>
      intro h
      rw [List.map_cons, List.nodup_cons] at h
      by_cases e : p.1 = c
      · have e2 : look (p :: r) c = some p.2 := by unfold look; rw [List.find?_cons, decide_eq_true e]; rfl
        rw [e2, List.mem_cons]
        constructor
        · rintro (z | z)
          · rw [← z]
          · exact absurd (List.mem_map.mpr ⟨_, z, rfl⟩) (e ▸ h.1)
        · intro z
          left
          rw [← e, ← Option.some.inj z]
      · have e2 : look (p :: r) c = look r c := by unfold look; rw [List.find?_cons, decide_eq_false e]
        rw [e2, ← ih h.2, List.mem_cons]
        constructor
        · rintro (z | z)
          · rw [← z] at e; exact absurd rfl e
          · exact z
        · exact Or.inr
  rw [key _ hn, look_tally]
  constructor
  · intro h
    by_cases hc : c ∈ cs
    · rw [if_pos hc] at h; exact ⟨hc, (Option.some.inj h).symm⟩
    · rw [if_neg hc] at h; cases h
  · rintro ⟨hc, rfl⟩
    rw [if_pos hc]

/-! ### any walk, in a comprehension and in a loop -/
theorem lc_gen {J : It} {n : Nat} {g : TG} {tt : TT} {te : TE} {vs : List Nat} {σ : St} {H1 : Hp} {D : Addr} {Qd : Hp → Prop} (Pv : Nat → Hp → Prop) (h0 : Pv 0 (upd H1 D (.lst []))) (hst : ∀ H, Pv n H → J.stop n H) (hgo : ∀ i H, i < n → Pv i H → J.go i H)
    (hs : ∀ i x H H', i < n → Pv i H → J.yld i H x H' → g x (wipe σ vs) H' fun σ2 H2 => wipe σ2 vs = wipe σ vs ∧ tt σ2 H2 fun b H3 =>
      if b = true then te σ2 H3 fun y H4 => ∃ acc, H4 D = some (.lst acc) ∧ acc.length < sizeLine ∧ Pv (i + 1) (upd H4 D (.lst (acc ++ [y]))) else Pv (i + 1) H3) (hd : ∀ H, Pv n H → Qd H) :
    ∃ W : Nat → Nat → Hp → Prop, (∃ m, W 0 m (upd H1 D (.lst []))) ∧ ∀ i m H, W i m H →
      (J.stop i H ∧ Qd H) ∨ (J.go i H ∧ ∃ Nx : Hp → Prop, (∀ H', Nx H' → ∃ m', m' < m ∧ W (i + 1) m' H') ∧ ∀ x H', J.yld i H x H' → g x (wipe σ vs) H' fun σ2 H2 => wipe σ2 vs = wipe σ vs ∧ tt σ2 H2 fun b H3 =>
        if b = true then te σ2 H3 fun y H4 => ∃ acc, H4 D = some (.lst acc) ∧ acc.length < sizeLine ∧ Nx (upd H4 D (.lst (acc ++ [y]))) else Nx H3) := by
  refine ⟨fun i k H => k = n - i ∧ i ≤ n ∧ Pv i H, ⟨n, by simp, Nat.zero_le _, h0⟩, ?_⟩
  rintro i k H ⟨rfl, hi, p⟩
  by_cases hlt : i < n
  · exact .inr ⟨hgo i H hlt p, Pv (i + 1), fun H' p' => ⟨n - (i + 1), by omega, rfl, hlt, p'⟩, fun x H' y => hs i x H H' hlt p y⟩
  · have e : i = n := by omega
    subst e
    exact .inl ⟨hst H p, hd H p⟩
theorem for_gen {J : It} {n : Nat} {g : TG} {tb : TS} {D : Ends} {σ : St} {H : Hp} (Pv : Nat → St → Hp → Prop) (h0 : Pv 0 σ H) (hst : ∀ σ H, Pv n σ H → J.stop n H) (hgo : ∀ i σ H, i < n → Pv i σ H → J.go i H)
    (hs : ∀ i x σ H H', i < n → Pv i σ H → J.yld i H x H' → g x σ H' fun σ2 H2 => tb { D with nx := Pv (i + 1), ct := Pv (i + 1), bk := D.nx } σ2 H2) (hd : ∀ σ H, Pv n σ H → D.nx σ H) :
    ∃ W : Nat → Nat → St → Hp → Prop, (∃ m, W 0 m σ H) ∧ ∀ i m σ H, W i m σ H →
      (J.stop i H ∧ D.nx σ H) ∨ (J.go i H ∧ ∃ N : St → Hp → Prop, (∀ σ' H', N σ' H' → ∃ m', m' < m ∧ W (i + 1) m' σ' H') ∧ ∀ x H', J.yld i H x H' → g x σ H' fun σ2 H2 => tb { D with nx := N, ct := N, bk := D.nx } σ2 H2) := by
  refine ⟨fun i k σ H => k = n - i ∧ i ≤ n ∧ Pv i σ H, ⟨n, by simp, Nat.zero_le _, h0⟩, ?_⟩
  rintro i k σ H ⟨rfl, hi, p⟩
  by_cases hlt : i < n
  · exact .inr ⟨hgo i σ H hlt p, Pv (i + 1), fun σ' H' p' => ⟨n - (i + 1), by omega, rfl, hlt, p'⟩, fun x H' y => hs i x σ H H' hlt p y⟩
  · have e : i = n := by omega
    subst e
    exact .inl ⟨hst σ H p, hd σ H p⟩

/-! ### a dict of numbers: read, written, walked -/
section
variable {D : Dst} {m : List Addr} {σ : St} {H H' : Hp} {td ty tx : TE} {d : Addr} {l : List (Int × Int)} {i : Nat}
/-- the dict at d; what changes it is told elsewhere -/
structure DAt (m : List Addr) (H : Hp) (d : Addr) (l : List (Int × Int)) : Prop where
  nm : d ∉ m
  at_ : H d = some (.dK (dK l))
theorem DAt.rp (h : DAt m H d l) : Rp.rp m H (Dc.mk l) (.ref d) := ⟨d, rfl, h.nm, h.at_⟩
theorem DAt.gd (h : DAt m H d l) (c : Cc D m H) (g : Gd D H H') : DAt m H' d l := ⟨h.nm, g.gr.keep d _ h.at_ fun z => h.nm (c.sub d z)⟩
/-- d.get(k, x) -/
theorem ev_dget2 {k v : Int} (hv : σ[i]? = some (some (.ref d))) (hd : H d = some (.dK (dK l))) (nd : d ∉ D.m) (hk : EvV D m ty σ H k) (hx : EvV D m tx σ H v) : EvV D m (tDGet2 (tVar i) ty tx) σ H ((look l k).getD v) := fun H1 g c Q w => by
  have h1 := g.gr.keep d _ hd nd
  refine ⟨_, hv, d, rfl, .inl ⟨_, .inl h1⟩, hk H1 g c _ fun k' u H2 g2 rk ek => hx H2 (g.trans g2) (c.go g2) _ fun v' u' H3 g3 rx ex => ?_⟩
  subst ek ex
  cases rp_int rk
  cases rp_int rx
  have h3 := g3.gr.keep d _ (g2.gr.keep d _ h1 nd) nd
  refine ⟨_, DGet.k (k := Sum.inl _) h3, ?_⟩
  rw [val_dK]
  refine w _ _ H3 (g2.trans g3) ?_ rfl
  cases look l k' <;> rfl
/-- d[k], there; d perhaps locked by a walk -/
theorem ev_dget {k v : Int} (hv : σ[i]? = some (some (.ref d))) (hd : Rd H d (.dK (dK l))) (nd : d ∉ D.m) (hk : EvV D m ty σ H k) (hl : look l k = some v) : EvV D m (tDGet (tVar i) ty) σ H v := fun H1 g c Q w => by
  refine ⟨_, hv, hk H1 g c _ fun k' u H2 g2 rk ek => ?_⟩
  subst ek
  cases rp_int rk
  have h2 : Rd H2 d (.dK (dK l)) := by
    rcases hd with h | ⟨o, h⟩
    · exact .inl (g2.gr.keep d _ (g.gr.keep d _ h nd) nd)
    · exact .inr ⟨o, g2.gr.keep d _ (g.gr.keep d _ h nd) nd⟩
  exact ⟨d, .int v, rfl, .inl ⟨_, Sum.inl k', h2, rfl, by rw [val_dK, hl]; rfl⟩, w v _ H2 g2 rfl rfl⟩
/-- d[k] = e -/
theorem s_dput {En : Ends} {tv : TE} {k v : Int} (c : Cc D m H) (hv : σ[i]? = some (some (.ref d))) (hd : H d = some (.dK (dK l))) (nd : d ∉ D.m) (he : EvV D m tv σ H v) (hk : EvV D m ty σ H k) (hl : l.length < 100000)
    (kk : ∀ H1, Gd D H H1 → En.nx σ (upd H1 d (.dK (dK (put l k v))))) : sDPut (tVar i) ty tv En σ H := he H .refl c _ fun v' u H1 g r ev => ⟨_, hv, hk H1 g (c.go g) _ fun k' u' H2 g2 r' ek => by
  subst ev ek
  cases rp_int r
  cases rp_int r'
  have h2 := g2.gr.keep d _ (g.gr.keep d _ hd nd) nd
  refine ⟨d, _, rfl, DPut.k (k := Sum.inl _) h2 (by unfold dK; rw [List.length_map]; exact Evl.sz_lt hl), ?_⟩
  rw [put_dK]
  exact kk H2 (g.trans g2)⟩
/-- {} -/
theorem s_dnew {En : Ends} (c : Cc D m H) (k : ∀ d H1, H d = none → Gd D H H1 → DAt m H1 d [] → En.nx (σ.set i (some (.ref d))) H1) : tAsg tDNewK (gName i) En σ H := fun d hd => k d _ hd (.new hd) ⟨c.free hd, upd_same⟩
variable {β : Type} [Rp β] [Nl β] {g : TG} {tt : TT} {te : TE} {ws : List Nat}
/-- [e for k in d if t]: the dict stands under a lock meanwhile -/
theorem el_lcKeys {p : List β → Prop} (I : Nat → List β → Prop) (hv : σ[i]? = some (some (.ref d))) (hd : H d = some (.dK (dK l))) (hdm : d ∈ m) (hz : l.length ≤ 90000) (h0 : I 0 [])
    (hs : ∀ (j : Nat) kv od H1 acc, l[j]? = some kv → Gr [d] H H1 → H1 d = some (.frz od (.dK (dK l))) → Cc none m H1 → I j acc → ∃ pt py, LcT none m g tt te ws σ (.int kv.1) H1 pt py ∧ (∀ y, pt true → py y → I (j + 1) (acc ++ [y])) ∧ (pt false → I (j + 1) acc))
    (hp : ∀ acc, I l.length acc → p acc) : EvL none m (tLockE (tLc (iKeys (tVar i)) g tt te ws)) σ H p := fun H0 g0 c0 Q w => by
  have hd0 := g0.gr0.at0 hd
  refine ⟨d, _, hd0, trivial, fun od => ⟨_, hv, d, od, rfl, .inl ⟨dK l, upd_same, fun Dl hD => ?_⟩⟩⟩
  have nDd : Dl ≠ d := fun z => by rw [z, upd_same] at hD; cases hD
  have hDl : H0 Dl = none := by rw [upd_ne nDd] at hD; exact hD
  have nD : Dl ∉ m := c0.free hDl
  have lk : Gr [d] H0 (upd H0 d (.frz od (.dK (dK l)))) := Gr.refl.put (by simp) hd0 (fun _ z => by cases z)
  have cl : Cc none m (upd H0 d (.frz od (.dK (dK l)))) := ⟨fun _ h => absurd h (by simp [Dst.m]), fun a ha => by
    by_cases z : a = d
    · rw [z, upd_same]; simp
    · rw [upd_ne z]; exact c0.dm a ha, trivial⟩
  have hlen : (dK l).length = l.length := by unfold dK; rw [List.length_map]
  have goal := lc_gen (J := Itk d od (dK l)) (n := l.length) (g := g) (tt := tt) (te := te) (vs := ws) (σ := σ) (H1 := upd H0 d (.frz od (.dK (dK l)))) (D := Dl) (Qd := fun H' => H' d = some (.frz od (.dK (dK l))) ∧ Q (.ref Dl) (upd H' d (.dK (dK l))))
    (fun j H' => ∃ acc, Gd none (upd H0 d (.frz od (.dK (dK l)))) H' ∧ Own m H' Dl acc ∧ acc.length ≤ j ∧ I j acc) ⟨[], .new hD, .nil nD upd_same, Nat.zero_le _, h0⟩
    (fun H' ⟨acc, g', _⟩ => ⟨g'.gr0.at0 upd_same, by rw [hlen]; exact Nat.le_refl _⟩) (fun j H' hj ⟨acc, g', _⟩ => ⟨g'.gr0.at0 upd_same, by rw [hlen]; exact hj⟩)
    (fun j x H' H'' hj ⟨acc, g', o, hl, hI⟩ y => ?_) (fun H' ⟨acc, g', o, hl, hI⟩ => ?_)
  · exact goal
  · obtain ⟨rfl, k, v, hkv, rfl⟩ := y
    have hkl : l[j]? = some l[j] := List.getElem?_eq_getElem hj
    have e : k = Sum.inl l[j].1 := by
      unfold dK at hkv
      rw [List.getElem?_map, hkl] at hkv
      simp at hkv
      exact hkv.1.symm
    subst e
    have gall : Gr [d] H H'' := (g0.gr0.any).trans (lk.trans g'.gr0.any)
    obtain ⟨pt, py, hT, k1, k2⟩ := hs j l[j] od H'' acc hkl gall (g'.gr0.at0 upd_same) (cl.go g') hI
    exact lc_turn hT (cl.go g') .refl o (by omega) (fun y ws H4 g4 z py o4 => ⟨acc ++ [y], mut_gd (g'.trans g4) cl hD, o4, by simp; omega, k1 y z py⟩) (fun H4 g4 z => ⟨acc, g'.trans g4, o.gd (cl.go g') g4, by omega, k2 z⟩)
  · have hd' := g'.gr0.at0 (upd_same (H := H0) (a := d) (o := .frz od (.dK (dK l))))
    refine ⟨hd', w acc Dl _ hDl (.pure ⟨fun a u e _ => ?_, fun a xs e => ?_, fun a e => ?_⟩) (o.upd_ne nDd hd' (fun _ z => by cases z)) (hp acc hI)⟩
    · by_cases z : a = d
      · rw [z, upd_same]; rw [z, hd0] at e; exact e
      · rw [upd_ne z]; exact g'.gr0.at0 (by rw [upd_ne z]; exact e)
    · have z : a ≠ d := fun z => by rw [z, hd0] at e; cases e
      rw [upd_ne z]; exact g'.gr0.at0 (by rw [upd_ne z]; exact e)
    · by_cases z : a = d
      · rw [z, upd_same] at e; cases e
      · rw [upd_ne z] at e
        have q := g'.gr.dom a e
        rw [upd_ne z] at q; exact q
end

/-! ### sorted -/
def isort (xs : List Int) : List Int := xs.mergeSort fun a b => decide (a ≤ b)
theorem isort_perm (xs : List Int) : (isort xs).Perm xs := List.mergeSort_perm _ _
theorem isort_le (xs : List Int) : (isort xs).Pairwise (· ≤ ·) := by
  have h := List.pairwise_mergeSort (le := fun a b : Int => decide (a ≤ b)) (fun a b c h1 h2 => by simp at *; omega) (fun a b => by simp; omega) xs
  exact h.imp fun h => by simpa using h
theorem isort_mem {xs : List Int} {x : Int} : x ∈ isort xs ↔ x ∈ xs := (isort_perm xs).mem_iff
theorem lt_unique : ∀ {a b : List Int}, a.Pairwise (· < ·) → b.Pairwise (· < ·) → (∀ x, x ∈ a ↔ x ∈ b) → a = b
  | [], [], _, _, _ => rfl
  | [], y :: b, _, _, h => absurd ((h y).mpr (by simp)) (by simp)
  | x :: a, [], _, _, h => absurd ((h x).mp (by simp)) (by simp)
  | x :: a, y :: b, ha, hb, h => by
    rw [List.pairwise_cons] at ha hb
    have e : x = y := by
      rcases List.mem_cons.mp ((h x).mp (by simp)) with z | z
      · exact z
      · rcases List.mem_cons.mp ((h y).mpr (by simp)) with z' | z'
        · exact z'.symm
        · have h1 := hb.1 x z
          have h2 := ha.1 y z'
          omega
    subst e
    congr 1
    refine lt_unique ha.2 hb.2 fun z => ?_
    constructor
    · intro hz
      rcases List.mem_cons.mp ((h z).mp (List.mem_cons_of_mem _ hz)) with q | q
      · rw [q] at hz; exact absurd (ha.1 x hz) (by omega)
      · exact q
    · intro hz
      rcases List.mem_cons.mp ((h z).mpr (List.mem_cons_of_mem _ hz)) with q | q
      · rw [q] at hz; exact absurd (hb.1 x hz) (by omega)
      · exact q
/-- the members, each once, rising -/
def once : List Int → List Int
  | [] => []
  | x :: xs => if x ∈ xs then once xs else x :: once xs
theorem once_mem {x : Int} : ∀ {xs : List Int}, x ∈ once xs ↔ x ∈ xs
  | [] => by simp [once]
  | y :: xs => by
    unfold once
    by_cases h : y ∈ xs
    · rw [if_pos h, once_mem, List.mem_cons]
      constructor
      · exact .inr
      · rintro (rfl | z)
        · exact h
        · exact z
    · rw [if_neg h, List.mem_cons, List.mem_cons, once_mem]
theorem once_nodup : ∀ xs : List Int, (once xs).Nodup
  | [] => by simp [once]
  | y :: xs => by
    unfold once
    by_cases h : y ∈ xs
    · rw [if_pos h]; exact once_nodup xs
    · rw [if_neg h, List.nodup_cons, once_mem]
      exact ⟨h, once_nodup xs⟩
def sset (xs : List Int) : List Int := isort (once xs)
theorem sset_lt (xs : List Int) : (sset xs).Pairwise (· < ·) := by
  have h1 := isort_le (once xs)
  have h2 : (isort (once xs)).Nodup := (isort_perm _).nodup_iff.mpr (once_nodup xs)
  unfold sset
  have := h1.and h2
  exact this.imp fun ⟨a, b⟩ => by omega
theorem sset_mem {xs : List Int} {x : Int} : x ∈ sset xs ↔ x ∈ xs := by
  unfold sset
  rw [isort_mem, once_mem]
section
variable {D : Dst} {m : List Addr} {σ : St} {H : Hp} {te : TE} {K : PySem.W.Frag}
/-- sorted(xs) -/
theorem el_sorted {xs : List Int} (h : EvV D m te σ H xs) : EvLV D m (tCB (rSortedI K) (tCons te tNil)) σ H (isort xs) := fun H1 g c Q w => h H1 g c _ fun xs' v H2 g2 r e => by
  subst e
  obtain ⟨a, vs, rfl, n, ha, ps⟩ := rp_lst r
  have := paired_ints ps
  subst this
  refine ⟨a, xs', rfl, .of ha, fun ns p hp hs hn => ?_⟩
  have e : ns = isort xs' := PySem.W.ksm_same (hp.trans (isort_perm xs').symm) hs (isort_le xs')
  subst e
  exact w _ p _ (g2.gr.dom p hn) (g2.trans (.new hn)) (.of_ints ((c.go g2).free hn) upd_same) rfl
end
/-! ### the program's mathematics -/
def needKey (k : Int) : Except Err Unit := if 0 ≤ k ∧ k < 10007 then .ok () else .error .badKey
def pointed (hands : List (Int × Int)) (size key : Int) : List Int := hands.map fun h => (key * h.1 + h.2) % 10007 % size
def places (hands : List (Int × Int)) (size key : Int) : Except Err (List Int) := if 0 ≤ key ∧ key < 10007 then .ok (pointed hands size key) else .error .badKey
def HandOk (h : Int × Int) : Prop := 1 ≤ h.1 ∧ h.1 ≤ 10006 ∧ 0 ≤ h.2 ∧ h.2 ≤ 10006
def HandsOk (most : Int) (hs : List (Int × Int)) : Prop := 1 ≤ hs.length ∧ (hs.length : Int) ≤ most ∧ ∀ h, h ∈ hs → HandOk h
def KeyOk (k : Int) : Prop := 0 ≤ k ∧ k < 10007
def KeysOk (many : Int) (ks : List Int) : Prop := (ks.length : Int) = many ∧ ∀ k, k ∈ ks → KeyOk k
end KS
set_option Elab.async false
set_option linter.all false
set_option maxRecDepth 100000
set_option maxHeartbeats 4000000
namespace KS
open PySem L2
/-! ### sieves -/
/-- what a sieve of the class at C tells -/
structure Sv (C : Addr) where
  size : Int
  hands : List (Int × Int)
  cap : Int
  cells : List Int
def svf (size : Int) (a : Addr) (cap : Int) (c : Addr) : List (Str × V) := [("many", .int size), ("pointers", .ref a), ("most", .int cap), ("cells", .ref c)]
/-- the sieve at s, its counts at c -/
structure SvAt {C : Addr} (m : List Addr) (H : Hp) (s c : Addr) (x : Sv C) : Prop where
  ns : s ∉ m
  nc : c ∉ m
  cl : H c = some (.lst (x.cells.map V.int))
  ob : ∃ dx a, H s = some (.ins C dx (svf x.size a x.cap c)) ∧ a ≠ c ∧ Rp.rp m H x.hands (.ref a)
theorem SvAt.go {C : Addr} {m m' : List Addr} {H H' : Hp} {s c : Addr} {x : Sv C} (k : ∀ a o, H a = some o → a ∉ m → a ∉ m' ∧ H' a = some o) (t : ∀ a xs, H a = some (.tup xs) → H' a = some (.tup xs)) (h : SvAt m H s c x) : SvAt m' H' s c x := by
  obtain ⟨ns, nc, cl, dx, a, ho, na, r⟩ := h
  exact ⟨(k s _ ho ns).1, (k c _ cl nc).1, (k c _ cl nc).2, dx, a, (k s _ ho ns).2, na, Rp.go k t r⟩
instance {C : Addr} : Rp (Sv C) := ⟨fun m H x v => ∃ s c, v = .ref s ∧ SvAt m H s c x, fun k t ⟨s, c, e, h⟩ => ⟨s, c, e, h.go k t⟩⟩
section
variable {C : Addr} {D : Dst} {m m' : List Addr} {H H' : Hp} {s c : Addr} {x : Sv C} {v : V}
theorem SvAt.rp (h : SvAt m H s c x) : Rp.rp m H x (.ref s) := ⟨s, c, rfl, h⟩
theorem SvAt.gr {ms : List Addr} (h : SvAt m H s c x) (g : Gr ms H H') (z : ∀ a, a ∈ ms → a ∈ m) : SvAt m H' s c x := h.go (fun a o e n => ⟨n, g.keep a o e fun q => n (z a q)⟩) fun a xs e => g.tup a xs e
theorem SvAt.gd (h : SvAt m H s c x) (k : Cc D m H) (g : Gd D H H') : SvAt m H' s c x := h.gr g.gr k.sub
theorem SvAt.less (h : SvAt m H s c x) (z : ∀ a, a ∈ m' → a ∈ m) : SvAt m' H s c x := h.go (fun a o e n => ⟨fun q => n (z a q), e⟩) fun _ _ e => e
theorem SvAt.sc (h : SvAt m H s c x) : s ≠ c := by
  obtain ⟨ns, nc, cl, dx, a, ho, na, r⟩ := h
  exact ne_of ho cl fun z => by cases z
theorem SvAt.here (h : SvAt m H s c x) : H c ≠ none := by rw [h.cl]; simp
theorem SvAt.here' (h : SvAt m H s c x) : H s ≠ none := by
  obtain ⟨dx, a, ho, _⟩ := h.ob
  rw [ho]; simp
/-- its counts change -/
theorem SvAt.set {l : List Int} (h : SvAt m H s c x) (g : Gr [c] H H') (e : H' c = some (.lst (l.map V.int))) : SvAt m H' s c ({ x with cells := l } : Sv C) := by
  have sc := h.sc
  obtain ⟨ns, nc, cl, dx, a, ho, na, r⟩ := h
  refine ⟨ns, nc, e, dx, a, g.keep s _ ho (by simpa using sc), na, ?_⟩
  obtain ⟨a', vs, e', n, ha, ps⟩ := rp_lst r
  cases e'
  exact ⟨a, vs, rfl, n, g.keep a _ ha (by simpa using na), paired_go ps fun _ _ r => rp_nl r g.tup⟩
/-- the counts of one number -/
def cat (l : List Int) (i : Int) : Int := l[i.toNat]?.getD 0
def inc (cap : Int) (l : List Int) (i : Int) : List Int := l.set i.toNat (min cap (cat l i + 1))
def dec1 (l : List Int) (i : Int) : List Int := l.set i.toNat (cat l i - 1)
def wanted (x : Sv C) (key : Int) : List (Int × Int) := tally (pointed x.hands x.size key)
def poorB (cap : Int) (cells : List Int) (kv : Int × Int) : Bool := decide (cat cells kv.1 < min cap kv.2)
def Sv.yes (x : Sv C) (key : Int) : Bool := decide (((wanted x key).filter (poorB x.cap x.cells)).map (·.1) = [])
def Sv.stuck (x : Sv C) (key : Int) : List Int := isort (((wanted x key).filter fun kv => decide (cat x.cells kv.1 = x.cap)).map (·.1))
def Sv.says (x : Sv C) (key : Int) : Except Err Bool := if 0 ≤ key ∧ key < 10007 then .ok (x.yes key) else .error .badKey
def Sv.may (x : Sv C) (key : Int) : Except Err Unit := if 0 ≤ key ∧ key < 10007 then if x.yes key = true then if x.stuck key = [] then .ok () else .error (.stuck (x.stuck key)) else .error .notIn else .error .badKey
def Sv.put1 (x : Sv C) (key : Int) : Sv C := { x with cells := (pointed x.hands x.size key).foldl (inc x.cap) x.cells }
def Sv.take1 (x : Sv C) (key : Int) : Sv C := { x with cells := (pointed x.hands x.size key).foldl dec1 x.cells }
def Sv.put (x : Sv C) (key : Int) : Except Err (Sv C) := if 0 ≤ key ∧ key < 10007 then .ok (x.put1 key) else .error .badKey
def Sv.take (x : Sv C) (key : Int) : Except Err (Sv C) := match x.may key with
  | .ok _ => .ok (x.take1 key)
  | .error e => .error e
/-- what the walks need -/
structure Sv.Ok (x : Sv C) : Prop where
  s0 : 0 < x.size
  s1 : x.size ≤ 1000
  h : x.hands.length ≤ 1000
  n : (x.cells.length : Int) = x.size
def handsB (hs : List (Int × Int)) : Bool := decide (1 ≤ hs.length ∧ hs.length ≤ 6) && hs.all fun h => decide (1 ≤ h.1 ∧ h.1 < 10007) && decide (0 ≤ h.2 ∧ h.2 < 10007)
def chkSize (size : Int) : Except Err Unit := if 1 ≤ size ∧ size ≤ 96 then .ok () else .error (.badSieve "size")
def chkHands (hs : List (Int × Int)) : Except Err Unit := if handsB hs = true then .ok () else .error (.badSieve "hands")
def chkCap (cap : Int) : Except Err Unit := if 1 ≤ cap ∧ cap ≤ 9 then .ok () else .error (.badSieve "cap")
def Sv.new (C : Addr) (size : Int) (hands : List (Int × Int)) (cap : Int) : Sv C := ⟨size, hands, cap, List.replicate size.toNat 0⟩
def mkS (C : Addr) (size : Int) (hands : List (Int × Int)) (cap : Int) : Except Err (Sv C) := do
  chkSize size
  chkHands hands
  chkCap cap
  return Sv.new C size hands cap
theorem pointed_mem {hands : List (Int × Int)} {size key i : Int} (h0 : 0 < size) (h : i ∈ pointed hands size key) : 0 ≤ i ∧ i < size := by
  unfold pointed at h
  obtain ⟨p, _, e⟩ := List.mem_map.mp h
  subst e
  exact ⟨Int.emod_nonneg _ (by omega), Int.emod_lt_of_pos _ h0⟩
theorem foldl_len {f : List Int → Int → List Int} (hf : ∀ l i, (f l i).length = l.length) (ps : List Int) (l : List Int) : (ps.foldl f l).length = l.length := by
  induction ps generalizing l with
  | nil => rfl
  | cons p ps ih => rw [List.foldl_cons, ih, hf]
theorem inc_len (cap : Int) (l : List Int) (i : Int) : (inc cap l i).length = l.length := by unfold inc; simp
theorem dec1_len (l : List Int) (i : Int) : (dec1 l i).length = l.length := by unfold dec1; simp
theorem Sv.Ok.put1 (h : x.Ok) (key : Int) : (x.put1 key).Ok := ⟨h.s0, h.s1, h.h, by unfold Sv.put1; dsimp only; rw [foldl_len (inc_len _)]; exact h.n⟩
theorem Sv.Ok.take1 (h : x.Ok) (key : Int) : (x.take1 key).Ok := ⟨h.s0, h.s1, h.h, by unfold Sv.take1; dsimp only; rw [foldl_len dec1_len]; exact h.n⟩
theorem Sv.Ok.put {key : Int} {y : Sv C} (h : x.Ok) (e : x.put key = .ok y) : y.Ok := by
  unfold Sv.put at e
  split at e
  · cases e; exact h.put1 key
  · cases e
theorem Sv.Ok.take {key : Int} {y : Sv C} (h : x.Ok) (e : x.take key = .ok y) : y.Ok := by
  unfold Sv.take at e
  split at e
  · cases e; exact h.take1 key
  · cases e
end

/-! ### reading a sieve -/
section
variable {C : Addr} {α β A R : Type} [Rp α] [Rp β] [RpA A] [Rp R] {K : PySem.W.Frag} {D : Dst} {m m' : List Addr} {σ : St} {H H' : Hp} {s c : Addr} {x : Sv C} {v : V} {ta te : TE} {t : TA} {T : Er} {En : Ends} {i : Nat} {E : XK}
theorem ev_many (h : EvV D m ta σ H x) (cl : Cls K C) (na : NoAttr K C "many") : EvV D m (tFld K ta "many") σ H x.size := fun H1 g c Q w => h H1 g c _ fun x' v H2 g2 r e => by
  subst e
  obtain ⟨s, cc, rfl, a⟩ := r
  obtain ⟨dx, b, ho, _, _⟩ := a.ob
  exact ⟨s, C, dx, _, _, rfl, ho, cl, na, rfl, w _ _ H2 g2 rfl rfl⟩
theorem ev_most (h : EvV D m ta σ H x) (cl : Cls K C) (na : NoAttr K C "most") : EvV D m (tFld K ta "most") σ H x.cap := fun H1 g c Q w => h H1 g c _ fun x' v H2 g2 r e => by
  subst e
  obtain ⟨s, cc, rfl, a⟩ := r
  obtain ⟨dx, b, ho, _, _⟩ := a.ob
  exact ⟨s, C, dx, _, _, rfl, ho, cl, na, rfl, w _ _ H2 g2 rfl rfl⟩
theorem ev_hands (h : EvV D m ta σ H x) (cl : Cls K C) (na : NoAttr K C "pointers") : EvV D m (tFld K ta "pointers") σ H x.hands := fun H1 g c Q w => h H1 g c _ fun x' v H2 g2 r e => by
  subst e
  obtain ⟨s, cc, rfl, a⟩ := r
  obtain ⟨dx, b, ho, _, r2⟩ := a.ob
  exact ⟨s, C, dx, _, _, rfl, ho, cl, na, rfl, w _ _ H2 g2 r2 rfl⟩
theorem ev_cells (h : EvV D m ta σ H x) (cl : Cls K C) (na : NoAttr K C "cells") : EvV D m (tFld K ta "cells") σ H x.cells := fun H1 g c Q w => h H1 g c _ fun x' v H2 g2 r e => by
  subst e
  obtain ⟨s, cc, rfl, a⟩ := r
  obtain ⟨dx, b, ho, _, _⟩ := id a.ob
  exact ⟨s, C, dx, _, _, rfl, ho, cl, na, rfl, w _ _ H2 g2 (Own.of_ints a.nc a.cl).rp rfl⟩
/-- self.cells[i] -/
theorem ev_cell {tb : TE} {i : Int} (h : EvV D m ta σ H x) (cl : Cls K C) (na : NoAttr K C "cells") (hi : EvV D m tb σ H i) (h0 : 0 ≤ i) (h1 : i < x.cells.length) : EvV D m (tOp (rIxL K) (tFld K ta "cells") tb) σ H (cat x.cells i) := by
  refine ev_ixLV (ev_cells h cl na) hi ?_
  have hl : i.toNat < x.cells.length := by omega
  have : i = (i.toNat : Int) := by omega
  rw [this, atI_nat (List.getElem?_eq_getElem hl)]
  unfold cat
  rw [← this, List.getElem?_eq_getElem hl]
  rfl
/-- min(a, b) -/
theorem ev_min {tb : TE} {i j : Int} (ha : EvV D m ta σ H i) (hb : EvV D m tb σ H j) : EvV D m (tCB (fun xs H Q => ∃ i j, xs = [.int i, .int j] ∧ Q (.int (if j < i then j else i)) H) (tCons ta (tCons tb tNil))) σ H (min i j) := fun H1 e c Q w =>
  ha H1 e c _ fun i' v H2 e2 ri pi => hb H2 (e.trans e2) (c.go e2) _ fun j' u H3 e3 rj qj => by
    subst pi qj
    cases rp_int ri
    cases rp_int rj
    exact ⟨i', j', rfl, w _ _ H3 (e2.trans e3) (by show V.int _ = V.int _; congr 1; split <;> omega) rfl⟩
theorem ev_max {tb : TE} {i j : Int} (ha : EvV D m ta σ H i) (hb : EvV D m tb σ H j) : EvV D m (tCB (fun xs H Q => ∃ i j, xs = [.int i, .int j] ∧ Q (.int (if j > i then j else i)) H) (tCons ta (tCons tb tNil))) σ H (max i j) := fun H1 e c Q w =>
  ha H1 e c _ fun i' v H2 e2 ri pi => hb H2 (e.trans e2) (c.go e2) _ fun j' u H3 e3 rj qj => by
    subst pi qj
    cases rp_int ri
    cases rp_int rj
    exact ⟨i', j', rfl, w _ _ H3 (e2.trans e3) (by show V.int _ = V.int _; congr 1; split <;> omega) rfl⟩

/-! ### the methods that only read -/
variable {n : Str}
theorem svf_none (hn : n ≠ "many" ∧ n ≠ "pointers" ∧ n ≠ "most" ∧ n ≠ "cells") (z : Int) (a : Addr) (k : Int) (c : Addr) : (svf z a k c).lookup n = none := by
  obtain ⟨h1, h2, h3, h4⟩ := hn
  have f : ∀ {y : Str}, n ≠ y → (n == y) = false := fun {y} h => by simpa using h
  unfold svf
  rw [List.lookup_cons, f h1, List.lookup_cons, f h2, List.lookup_cons, f h3, List.lookup_cons, f h4]
  rfl
theorem meth_arg {sp : Sp} {p : A → Prop} (h : EvV D m ta σ H x) (ha : EvAr D m t σ H p) (hn : n ≠ "many" ∧ n ≠ "pointers" ∧ n ≠ "most" ∧ n ≠ "cells") {H1 : Hp} (g : Gd D H H1) (c : Cc D m H1) {Q : VK}
    (k : ∀ y s cc vs H2, Gd D H1 H2 → SvAt m H2 s cc x → RpA.rpa m H2 y vs → p y → sp (.ref s :: (vs ++ [])) H2 Q E) : tMeth C n sp [] E ta t σ H1 Q := h H1 g c _ fun x' v H2 g2 r e => by
  subst e
  obtain ⟨s, cc, rfl, a⟩ := r
  obtain ⟨dx, b, ho, _, _⟩ := id a.ob
  exact ⟨s, dx, _, rfl, ho, svf_none hn _ _ _ _, ha H2 (g.trans g2) (c.go g2) _ fun y vs H3 g3 ry py => k y s cc vs H3 (g2.trans g3) (a.gd (c.go g2) g3) ry py⟩
theorem ev_meth {pre : Sv C × A → Prop} {f : Sv C × A → R} {y : A} (h : EvV D m ta σ H x) (ha : EvAr D m t σ H fun z => z = y) (hp : pre (x, y)) (hn : n ≠ "many" ∧ n ≠ "pointers" ∧ n ≠ "most" ∧ n ≠ "cells" := by decide) : EvV D m (tMeth C n (SpF pre f) [] E ta t) σ H (f (x, y)) := fun H1 g c Q w =>
  meth_arg h ha hn g c fun y' s cc vs H2 g2 a ry e => by
    subst e
    exact ⟨m, (x, y'), (c.go g2).none, ⟨_, _, by rw [List.append_nil], ⟨s, cc, rfl, a⟩, ry⟩, hp, fun v H' g3 r => w _ v H' (g2.trans (.pure g3)) r rfl⟩
theorem el_meth {pre : Sv C × A → Prop} {f : Sv C × A → List β} {y : A} (h : EvV D m ta σ H x) (ha : EvAr D m t σ H fun z => z = y) (hp : pre (x, y)) (hn : n ≠ "many" ∧ n ≠ "pointers" ∧ n ≠ "most" ∧ n ≠ "cells" := by decide) : EvLV D m (tMeth C n (SpL pre f) [] E ta t) σ H (f (x, y)) := fun H1 g c Q w =>
  meth_arg h ha hn g c fun y' s cc vs H2 g2 a ry e => by
    subst e
    exact ⟨m, (x, y'), (c.go g2).none, ⟨_, _, by rw [List.append_nil], ⟨s, cc, rfl, a⟩, ry⟩, hp, fun v H' n g3 r => w _ v H' (g2.gr.dom v n) (g2.trans (.pure g3)) r rfl⟩
theorem ex_meth {pre : Sv C × A → Prop} {f : Sv C × A → Except Err R} {y : A} (h : EvV D m ta σ H x) (ha : EvAr D m t σ H fun z => z = y) (hp : pre (x, y)) (hn : n ≠ "many" ∧ n ≠ "pointers" ∧ n ≠ "most" ∧ n ≠ "cells" := by decide) : EvX T D m (tMeth C n (SpX T pre f) [] E ta t) σ H E (f (x, y)) := fun H1 g c Q w1 w2 =>
  meth_arg h ha hn g c fun y' s cc vs H2 g2 a ry e => by
    subst e
    exact ⟨m, (x, y'), (c.go g2).none, ⟨_, _, by rw [List.append_nil], ⟨s, cc, rfl, a⟩, ry⟩, hp, fun z ez v H' g3 r => w1 z ez v H' (g2.trans (.pure g3)) r, fun e ee cl d H' g3 r => w2 e ee cl d H' (g2.trans (.pure g3)) (r.from g2.gr)⟩
theorem ex_methL {pre : Sv C × A → Prop} {f : Sv C × A → Except Err (List β)} {y : A} (h : EvV D m ta σ H x) (ha : EvAr D m t σ H fun z => z = y) (hp : pre (x, y)) (hn : n ≠ "many" ∧ n ≠ "pointers" ∧ n ≠ "most" ∧ n ≠ "cells" := by decide) : EvXL T D m (tMeth C n (SpXL T pre f) [] E ta t) σ H E (f (x, y)) := fun H1 g c Q w1 w2 =>
  meth_arg h ha hn g c fun y' s cc vs H2 g2 a ry e => by
    subst e
    exact ⟨m, (x, y'), (c.go g2).none, ⟨_, _, by rw [List.append_nil], ⟨s, cc, rfl, a⟩, ry⟩, hp, fun z ez v H' n g3 r => w1 z ez v H' (g2.gr.dom v n) (g2.trans (.pure g3)) r, fun e ee cl d H' g3 r => w2 e ee cl d H' (g2.trans (.pure g3)) (r.from g2.gr)⟩

/-! ### put, take: the counts change -/
def SpMut (C : Addr) (T : Er) (f : Sv C → Int → Except Err (Sv C)) : Sp := fun vs H Q E => ∃ (m : List Addr) (s c : Addr) (x : Sv C) (key : Int), vs = [.ref s, .int key] ∧ Cc none m H ∧ SvAt m H s c x ∧ x.Ok ∧
  (∀ y, f x key = .ok y → ∀ H', Gr [c] H H' → SvAt m H' s c y → Q .non H') ∧ ∀ e, f x key = .error e → ∀ cl d H', Gr [] H H' → ErrAt T H H' e cl d → E cl d H'
variable {f : Sv C → Int → Except Err (Sv C)} {key : Int} {tk : TE} {cc : Addr}
theorem s_mut (c : Cc D m H) (hv : σ[i]? = some (some (.ref s))) (a : SvAt m H s cc x) (ok : x.Ok) (hk : EvV D m tk σ H key) (hn : n ≠ "many" ∧ n ≠ "pointers" ∧ n ≠ "most" ∧ n ≠ "cells")
    (k1 : ∀ y, f x key = .ok y → ∀ H1 H2, Gd D H H1 → Gr [cc] H1 H2 → SvAt m H2 s cc y → En.nx σ H2) (k2 : ∀ e, f x key = .error e → ∀ cl d H1, Gd D H H1 → ErrAt T H H1 e cl d → E cl d H1) :
    tDrop (tMeth C n (SpMut C T f) [] E (tVar i) (tCons tk tNil)) En σ H := by
  obtain ⟨dx, b, ho, _, _⟩ := id a.ob
  refine ⟨_, hv, s, dx, _, rfl, ho, svf_none hn _ _ _ _, hk H .refl c _ fun k v H1 g r e => ?_⟩
  subst e
  cases rp_int r
  exact ⟨m, s, cc, x, k, rfl, (c.go g).none, a.gd c g, ok, fun y ey H' g2 a2 => k1 y ey H1 H' g g2 a2, fun e ee cl d H' g2 z => k2 e ee cl d H' (g.trans (.pure g2)) (z.from g.gr)⟩
theorem s_mutS {E : St → XK} (c : Cc D m H) (hv : σ[i]? = some (some (.ref s))) (a : SvAt m H s cc x) (ok : x.Ok) (hk : EvV D m tk σ H key) (hn : n ≠ "many" ∧ n ≠ "pointers" ∧ n ≠ "most" ∧ n ≠ "cells")
    (k1 : ∀ y, f x key = .ok y → ∀ H1 H2, Gd D H H1 → Gr [cc] H1 H2 → SvAt m H2 s cc y → En.nx σ H2) (k2 : ∀ e, f x key = .error e → ∀ cl d H1, Gd D H H1 → ErrAt T H H1 e cl d → E σ cl d H1) :
    tDrop (tMethS C n (SpMut C T f) E (tVar i) (tCons tk tNil)) En σ H := by
  obtain ⟨dx, b, ho, _, _⟩ := id a.ob
  refine ⟨_, hv, s, dx, _, rfl, ho, svf_none hn _ _ _ _, hk H .refl c _ fun k v H1 g r e => ?_⟩
  subst e
  cases rp_int r
  exact ⟨m, s, cc, x, k, rfl, (c.go g).none, a.gd c g, ok, fun y ey H' g2 a2 => k1 y ey H1 H' g g2 a2, fun e ee cl d H' g2 z => k2 e ee cl d H' (g.trans (.pure g2)) (z.from g.gr)⟩
/-- self.cells[i] = e -/
theorem s_cell {i0 j : Nat} {tv : TE} {n k : Int} (c : Cc none m H) (hv : σ[i0]? = some (some (.ref s))) (hi : σ[j]? = some (some (.int k))) (a : SvAt m H s cc x) (cl : Cls K C) (na : NoAttr K C "cells") (h0 : 0 ≤ k) (h1 : k < x.cells.length) (he : EvV none m tv σ H n)
    (kk : ∀ H1, Gr [cc] H H1 → SvAt m H1 s cc ({ x with cells := x.cells.set k.toNat n } : Sv C) → En.nx σ H1) : tAsg tv (gSub (tFld K (tVar i0) "cells") (tVar j) rSetL) En σ H := he H .refl c _ fun y v H1 g r e => by
  subst e
  cases rp_int r
  have a1 := a.gd c g
  obtain ⟨dx, b, ho, _, _⟩ := id a1.ob
  refine ⟨_, hv, s, C, dx, _, _, rfl, ho, cl, na, rfl, _, hi, cc, _, k, k.toNat, rfl, rfl, a1.cl, ?_, ?_⟩
  · unfold ixN
    rw [if_pos h0, if_pos (by rw [List.length_map]; exact h1)]
  · have g2 : Gr [cc] H (upd H1 cc (.lst ((x.cells.map V.int).set k.toNat (.int y)))) := (g.gr0.any).put (by simp) a1.cl fun _ z => by cases z
    refine kk _ g2 (a.set g2 (l := x.cells.set k.toNat y) ?_)
    rw [upd_same, List.map_set]
/-- for x in e, e a new list -/
theorem s_forLL {g : TG} {t : TS} {xs : List α} (c : Cc D m H) (h : EvLV D m te σ H xs)
    (k : ∀ a vs H1, H a = none → Gd D H H1 → a ∉ m → H1 a = some (.lst vs) → Paired (Rp.rp m H1) xs vs → ∃ Pv : Nat → St → Hp → Prop, Pv 0 σ H1 ∧ (∀ j σ' H', Pv j σ' H' → H' a = some (.lst vs)) ∧
      (∀ (j : Nat) x v σ' H', xs[j]? = some x → Rp.rp m H1 x v → Pv j σ' H' → g v σ' H' fun σ2 H2 => t { En with nx := Pv (j + 1), ct := Pv (j + 1), bk := En.nx } σ2 H2) ∧ ∀ σ' H', Pv xs.length σ' H' → En.nx σ' H') :
    tFor (iList K te) g t En σ H := h H .refl c _ fun xs' a H1 nh gd o z => by
  subst z
  obtain ⟨n, vs, ha, ps⟩ := o
  obtain ⟨Pv, h0, hl, hs, hd⟩ := k a vs H1 nh gd n ha ps
  refine ⟨a, rfl, ⟨vs, .of ha⟩, for_list (K := K) (a := a) (xs := vs) Pv h0 (fun j σ' H' _ hp => .of (hl j σ' H' hp)) (fun j w σ' H' hj hp => ?_) (fun σ' H' hp => hd σ' H' (by rw [ps.length]; exact hp))⟩
  have hlt : j < xs'.length := by rw [ps.length]; exact (List.getElem?_eq_some_iff.mp hj).1
  obtain ⟨y, hy, ry⟩ := paired_at ps (List.getElem?_eq_getElem hlt)
  rw [hj] at hy
  cases hy
  exact hs j _ w σ' H' (List.getElem?_eq_getElem hlt) ry hp

/-! ### a new sieve -/
/-- all of it is new -/
def SvNew (H H' : Hp) (s c : Addr) (x : Sv C) : Prop := ∀ m', (∀ b, b ∈ m' → H b ≠ none) → SvAt m' H' s c x
theorem SvNew.at_ {c : Addr} (h : SvNew H H' s c x) (k : Cc D m H) : SvAt m H' s c x := h m k.dm
theorem SvNew.go {H2 : Hp} (h : SvNew H H' s c x) (g : Gr m' H' H2) (k : ∀ a, a ∈ m' → H a ≠ none) : SvNew H H2 s c x := fun m hm => ((h (m' ++ m) fun b hb => by
  rcases List.mem_append.mp hb with z | z
  · exact k b z
  · exact hm b z).gr g fun a ha => List.mem_append_left _ ha).less fun a ha => List.mem_append_right _ ha
/-- te comes to a new sieve, or raises -/
def EvS (T : Er) (D : Dst) (m : List Addr) (te : TE) (σ : St) (H : Hp) (E : XK) (r : Except Err (Sv C)) : Prop :=
  ∀ H1, Gd D H H1 → Cc D m H1 → ∀ Q : VK, (∀ x, r = .ok x → ∀ s c H2, H1 s = none → H1 c = none → Gd D H1 H2 → SvNew H1 H2 s c x → Q (.ref s) H2) → (∀ e, r = .error e → ∀ c d H2, Gd D H1 H2 → ErrAt T H1 H2 e c d → E c d H2) → te σ H1 Q
/-- Sieve.__init__ -/
def SpMk (C : Addr) (T : Er) : Sp := fun vs H Q E => ∃ (m : List Addr) (s dx : Addr) (size : Int) (hands : List (Int × Int)) (cap : Int) (hv : V), vs = [.ref s, .int size, hv, .int cap] ∧ Cc none m H ∧ s ∉ m ∧ H s = some (.ins C dx []) ∧ Rp.rp m H hands hv ∧ hands.length ≤ 90000 ∧
  (∀ y, mkS C size hands cap = .ok y → ∀ c H', H c = none → Gr [s] H H' → (∀ m', (∀ b, b ∈ m' → H b ≠ none) → s ∉ m' → SvAt m' H' s c y) → Q .non H') ∧ ∀ e, mkS C size hands cap = .error e → ∀ cl d H', Gr [s] H H' → ErrAt T H H' e cl d → E cl d H'
theorem gr_made {H1 H2 : Hp} {s dx : Addr} {u w : HO} (h : H s = none) (hd : H dx = none) (n : dx ≠ s) (g : Gr [s] (upd (upd H dx u) s w) H2) : Gr [] H H2 := by
  refine ⟨fun a o e _ => g.keep a o ?_ (by simpa using ne_of_none e h), fun a xs e => g.tup a xs ?_, fun a e => ?_⟩
  · rw [upd_ne (ne_of_none e h), upd_ne (ne_of_none e hd)]; exact e
  · rw [upd_ne (ne_of_none e h), upd_ne (ne_of_none e hd)]; exact e
  · have q := g.dom a e
    by_cases z : a = s
    · rw [z, upd_same] at q; cases q
    · rw [upd_ne z] at q
      by_cases z2 : a = dx
      · rw [z2, upd_same] at q; cases q
      · rw [upd_ne z2] at q; exact q
theorem es_make {size cap : Int} {hands : List (Int × Int)} (h : EvAr D m t σ H fun y => y = (size, hands, cap, ())) (hl : hands.length ≤ 90000) : EvS T D m (tMake C (SpMk C T) [] E t) σ H E (mkS C size hands cap) := fun H1 g c Q w1 w2 => h H1 g c _ fun y vs H2 g2 r e => by
  subst e
  obtain ⟨v, r1, rfl, rs, v2, r2, rfl, rh, v3, r3, rfl, rc, rfl⟩ := r
  cases (show v = V.int size from rs)
  cases (show v3 = V.int cap from rc)
  intro s dx hs hd ne
  have c2 := c.go g2
  have gm : Gr [] H2 (upd (upd H2 dx (.own s)) s (.ins C dx [])) := (Gr.new hd).mut hs
  refine ⟨m, s, dx, size, hands, cap, v2, rfl, (c2.go (.pure gm)).none, c2.free hs, upd_same, rp_g0 rh gm, hl, fun y ey cc H' hc g3 a => ⟨rfl, ?_⟩, fun e ee cl d H' g3 z => ?_⟩
  · refine w1 y ey s cc H' (g2.gr.dom s hs) (g2.gr.dom cc (gm.dom cc hc)) (g2.trans (.pure (gr_made (H1 := H2) hs hd ne g3))) fun m' hm' => ?_
    have hm2 : ∀ b, b ∈ m' → H2 b ≠ none := fun b hb z => hm' b hb (g2.gr.dom b z)
    exact a m' (fun b hb z => hm2 b hb (gm.dom b z)) fun z => hm2 s z hs
  · exact w2 e ee cl d H' (g2.trans (.pure (gr_made (H1 := H2) hs hd ne g3))) ((z.from gm).from g2.gr)
theorem EvS.ok {E : XK} {r : Except Err (Sv C)} {x : Sv C} (h : EvS T D m te σ H E r) (e : r = .ok x) (c : Cc D m H) {P : St → Hp → Prop} (k : ∀ s c H1, H s = none → H c = none → Gd D H H1 → SvNew H H1 s c x → P (σ.set i (some (.ref s))) H1) : te σ H fun v H1 => gName i v σ H1 P :=
  h H .refl c _ (fun y ey s cc H2 n1 n2 g a => by rw [e] at ey; cases ey; exact k s cc H2 n1 n2 g a) fun y ey => by rw [e] at ey; cases ey
theorem s_setS {r : Except Err (Sv C)} (c : Cc D m H) (h : EvS T D m te σ H E r) (k1 : ∀ x, r = .ok x → ∀ s cc H1, H s = none → H cc = none → Gd D H H1 → SvNew H H1 s cc x → En.nx (σ.set i (some (.ref s))) H1) (k2 : ∀ e, r = .error e → ∀ c d H1, Gd D H H1 → ErrAt T H H1 e c d → E c d H1) : tAsg te (gName i) En σ H :=
  h H .refl c _ (fun x ex s cc H1 n1 n2 g a => k1 x ex s cc H1 n1 n2 g a) k2
theorem q_setS {z : TS} {r : Except Err (Sv C)} (c : Cc D m H) (h : EvS T D m te σ H E r) (k1 : ∀ x, r = .ok x → ∀ s cc H1, H s = none → H cc = none → Gd D H H1 → SvNew H H1 s cc x → z En (σ.set i (some (.ref s))) H1) (k2 : ∀ e, r = .error e → ∀ c d H1, Gd D H H1 → ErrAt T H H1 e c d → E c d H1) : tSeq (tAsg te (gName i)) z En σ H := s_setS (En := { En with nx := z En }) c h k1 k2
theorem q_mkS {z : TS} {r : Except Err (Sv C)} {x : Sv C} (c : Cc D m H) (h : EvS T D m te σ H E r) (e : r = .ok x) (k1 : ∀ s cc H1, H s = none → H cc = none → Gd D H H1 → SvNew H H1 s cc x → z En (σ.set i (some (.ref s))) H1) : tSeq (tAsg te (gName i)) z En σ H := q_setS c h (fun y ey => by rw [e] at ey; cases ey; exact k1) fun y ey => by rw [e] at ey; cases ey
theorem s_retS {r : Except Err (Sv C)} (c : Cc D m H) (h : EvS T D m te σ H E r) (k1 : ∀ x, r = .ok x → ∀ s cc H1, H s = none → H cc = none → Gd D H H1 → SvNew H H1 s cc x → En.rt (.ref s) H1) (k2 : ∀ e, r = .error e → ∀ c d H1, Gd D H H1 → ErrAt T H H1 e c d → E c d H1) : tRet te En σ H :=
  h H .refl c _ (fun x ex s cc H1 n1 n2 g a => k1 x ex s cc H1 n1 n2 g a) k2
/-- fewer places that may change: for data without lists -/
theorem Cc.less (c : Cc D m H) (h : ∀ a, a ∈ m' → a ∈ m) (hd : ∀ a, a ∈ D.m → a ∈ m') : Cc D m' H := ⟨hd, fun a z => c.dm a (h a z), c.ok⟩
theorem Ev.less [Nl α] {p : α → Prop} (hv : Ev D m' te σ H p) (h : ∀ a, a ∈ m' → a ∈ m) (hd : ∀ a, a ∈ D.m → a ∈ m') : Ev D m te σ H p := fun H1 g c Q w => hv H1 g (c.less h hd) Q fun x v H2 g2 r => w x v H2 g2 (rp_nl r fun _ _ e => e)
theorem EvL.less [Nl α] {p : List α → Prop} (hv : EvL D m' te σ H p) (h : ∀ a, a ∈ m' → a ∈ m) (hd : ∀ a, a ∈ D.m → a ∈ m') : EvL D m te σ H p := fun H1 g c Q w => hv H1 g (c.less h hd) Q fun xs a H2 n g2 ⟨_, vs, e, ps⟩ => w xs a H2 n g2 ⟨c.free n, vs, e, paired_go ps fun _ _ r => rp_nl r fun _ _ e => e⟩
theorem EvT.less {tt : TT} {p : Bool → Prop} (hv : EvT D m' tt σ H p) (h : ∀ a, a ∈ m' → a ∈ m) (hd : ∀ a, a ∈ D.m → a ∈ m') : EvT D m tt σ H p := fun H1 g c Q w => hv H1 g (c.less h hd) Q w
end
/-! ### more statements -/
section
variable {C : Addr} {α β A R : Type} [Rp α] [Rp β] [RpA A] [Rp R] {K : PySem.W.Frag} {D : Dst} {m m' : List Addr} {σ : St} {H H' : Hp} {s c : Addr} {x : Sv C} {v : V} {ta tb te : TE} {t : TA} {T : Er} {En : Ends} {i : Nat} {E : XK} {z u : TS}
theorem q_dnew (c : Cc D m H) (k : ∀ d H1, H d = none → Gd D H H1 → DAt m H1 d [] → z En (σ.set i (some (.ref d))) H1) : tSeq (tAsg tDNewK (gName i)) z En σ H := s_dnew (En := { En with nx := z En }) c k
/-- a new dict of numbers is answered -/
def SpDc (pre : A → Prop) (f : A → List (Int × Int)) : Sp := fun vs H Q _ => ∃ m x, Cc none m H ∧ RpA.rpa m H x vs ∧ pre x ∧ ∀ d H', H d = none → Gr [] H H' → DAt m H' d (f x) → Q (.ref d) H'
theorem q_setD {pre : A → Prop} {f : A → List (Int × Int)} {y : A} (c : Cc D m H) (h : EvAr D m t σ H fun x => x = y) (hp : pre y) (k : ∀ d H1, H d = none → Gd D H H1 → DAt m H1 d (f y) → z En (σ.set i (some (.ref d))) H1) : tSeq (tAsg (tCall (SpDc pre f) [] E t) (gName i)) z En σ H := h H .refl c _ fun x vs H1 g r e => by
  subst e
  exact ⟨m, x, (c.go g).none, (by rw [List.append_nil]; exact r), hp, fun d H2 n g2 a => k d H2 (g.gr.dom d n) (g.trans (.pure g2)) a⟩
theorem look_of_mem {cs : List Int} {kv : Int × Int} (h : kv ∈ tally cs) : look (tally cs) kv.1 = some kv.2 := by
  obtain ⟨h1, h2⟩ := (tally_mem cs kv.1 kv.2).mp h
  rw [look_tally, if_pos h1, h2]
/-- tuple(x) of a pair -/
def rTuple (K : PySem.W.Frag) : List V → Hp → VK → Prop := fun xs H Q => ∃ p ys, xs = [.ref p] ∧ ((SqL K H p ys ∧ ∀ l, H l = none → Q (.ref l) (upd H l (.tup ys))) ∨ (SqT K H p ys ∧ Q (.ref p) H))
theorem ev_tupleP {p : α × β} (h : EvV D m ta σ H p) : EvV D m (tCB (rTuple K) (tCons ta tNil)) σ H p := fun H1 g c Q w => h H1 g c _ fun p' v H2 g2 r e => by
  obtain ⟨a, u, w', rfl, ha, r1, r2⟩ := id r
  exact ⟨a, _, rfl, .inr ⟨.of ha, w p' _ H2 g2 r e⟩⟩
/-- [x] * n -/
theorem el_rep0 {n k : Int} (h : EvV D m ta σ H k) (hb : EvV D m tb σ H n) (h0 : 0 ≤ n) (h1 : n ≤ 100000) : EvLV D m (tOp rRep (tLst (tCons ta tNil)) tb) σ H (List.replicate n.toNat k) := fun H1 g c Q w =>
  (el_lst (ei_consV h ei_nil) (fun xs e => by rw [e]; show 1 ≤ 100000; decide)).ev H1 g c _ fun xs v H2 g2 r e => hb H2 (g.trans g2) (c.go g2) _ fun n' v' H3 g3 r' e' => by
    subst e e'
    cases rp_int r'
    obtain ⟨a, vs, rfl, nm, ha, ps⟩ := rp_lst (rp_gd r (c.go g2) g3)
    have := paired_ints ps
    subst this
    refine ⟨a, n', _, rfl, rfl, ha, by omega, by omega, ?_, fun p hp => ?_⟩
    · rw [List.length_map, List.length_singleton, Nat.one_mul]; exact Evl.sz_of (by omega)
    · refine w _ p _ ((g2.trans g3).gr.dom p hp) ((g2.trans g3).trans (.new hp)) (.of_ints (((c.go g2).go g3).free hp) ?_) rfl
      rw [upd_same]
      congr 2
      generalize n'.toNat = j
      induction j with
      | zero => rfl
      | succ j ih => rw [List.replicate_succ, List.flatten_cons, ih, List.replicate_succ]; rfl
/-- an instance is no list -/
theorem rp_insL [Nl α] {xs : List α} {Cl dx : Addr} {fs : List (Str × V)} (r : Rp.rp m H xs v) (h : H s = some (.ins Cl dx fs)) : Rp.rp (s :: m) H xs v := by
  obtain ⟨a, vs, e, n, ha, ps⟩ := r
  refine ⟨a, vs, e, ?_, ha, paired_go ps fun _ _ r => rp_nl r fun _ _ e => e⟩
  intro z
  rcases List.mem_cons.mp z with z | z
  · rw [z, h] at ha; cases ha
  · exact n z
/-- if not e: .., e perhaps raising -/
theorem q_whenNX {w : TS} {r : Except Err Bool} (c : Cc D m H) (h : EvX T D m te σ H E r) (k1 : r = .ok true → ∀ H1, Gd D H H1 → z En σ H1) (k0 : r = .ok false → ∀ H1, Gd D H H1 → w { En with nx := z En } σ H1) (k2 : ∀ e, r = .error e → ∀ c d H1, Gd D H H1 → ErrAt T H H1 e c d → E c d H1) : tSeq (tIfS (tNot (tB te)) w tNext) z En σ H :=
  h H .refl c _ (fun b e v H1 g rb => by
    cases rp_bool rb
    refine ⟨b, rfl, ?_⟩
    cases b with
    | true => exact k1 e H1 g
    | false => exact k0 e H1 g) k2
/-- xs[i] = e -/
theorem s_item {i0 j : Nat} {tv : TE} {n k : Int} {a : Addr} {l : List Int} (c : Cc D m H) (hv : σ[i0]? = some (some (.ref a))) (hi : σ[j]? = some (some (.int k))) (o : Own m H a l) (h0 : 0 ≤ k) (h1 : k < l.length) (he : EvV D m tv σ H n)
    (kk : ∀ H1 H2, Gd D H H1 → (∃ o, H2 = upd H1 a o) → Own m H2 a (l.set k.toNat n) → En.nx σ H2) : tAsg tv (gSub (tVar i0) (tVar j) rSetL) En σ H := he H .refl c _ fun y v H1 g r e => by
  subst e
  cases rp_int r
  have o1 := o.gd c g
  refine ⟨_, hv, _, hi, a, _, k, k.toNat, rfl, rfl, o1.ints, ?_, ?_⟩
  · unfold ixN
    rw [if_pos h0, if_pos (by rw [List.length_map]; exact h1)]
  · refine kk H1 _ g ⟨_, rfl⟩ ?_
    rw [show (l.map V.int).set k.toNat (V.int y) = (l.set k.toNat y).map V.int by rw [List.map_set]]
    exact .of_ints o.1 upd_same
theorem q_forLL {g : TG} {t : TS} {xs : List α} (c : Cc D m H) (h : EvLV D m te σ H xs)
    (k : ∀ a vs H1, H a = none → Gd D H H1 → a ∉ m → H1 a = some (.lst vs) → Paired (Rp.rp m H1) xs vs → ∃ Pv : Nat → St → Hp → Prop, Pv 0 σ H1 ∧ (∀ j σ' H', Pv j σ' H' → H' a = some (.lst vs)) ∧
      (∀ (j : Nat) x v σ' H', xs[j]? = some x → Rp.rp m H1 x v → Pv j σ' H' → g v σ' H' fun σ2 H2 => t { En with nx := Pv (j + 1), ct := Pv (j + 1), bk := z En } σ2 H2) ∧ ∀ σ' H', Pv xs.length σ' H' → z En σ' H') :
    tSeq (tFor (iList K te) g t) z En σ H := s_forLL (En := { En with nx := z En }) c h k
/-- a call whose answer is no list, its arguments known by fewer places that may change -/
theorem SvAt.more {p : Addr} (h : SvAt m H s c x) (hp : H p = none) : SvAt (p :: m) H s c x := h.go (fun a o e n => ⟨fun q => (List.mem_cons.mp q).elim (fun q => ne_of_none e hp q) n, e⟩) fun _ _ e => e
/-- s.f = e, e a new list -/
theorem s_fldLV {f : Str} {Cl dx : Addr} {fs : List (Str × V)} {xs : List α} (c : Cc none m H) (hv : σ[i]? = some (some (.ref s))) (hs : H s = some (.ins Cl dx fs)) (cl : Cls K Cl) (na : NoAttr K Cl f) (hl : fs.length < 1000) (h : EvLV none m te σ H xs)
    (k : ∀ a H1, H a = none → Gd none H H1 → Own m H1 a xs → En.nx σ (upd H1 s (.ins Cl dx (putF f (.ref a) fs)))) : sFld K (tVar i) te f En σ H := h H .refl c _ fun ys a H1 n g o e => by
  subst e
  exact ⟨_, hv, s, Cl, dx, fs, rfl, g.gr0.at0 hs, cl, na, hl, k a H1 n g o⟩
theorem q_fldLV {f : Str} {Cl dx : Addr} {fs : List (Str × V)} {xs : List α} (c : Cc none m H) (hv : σ[i]? = some (some (.ref s))) (hs : H s = some (.ins Cl dx fs)) (cl : Cls K Cl) (na : NoAttr K Cl f) (hl : fs.length < 1000) (h : EvLV none m te σ H xs)
    (k : ∀ a H1, H a = none → Gd none H H1 → Own m H1 a xs → z En σ (upd H1 s (.ins Cl dx (putF f (.ref a) fs)))) : tSeq (sFld K (tVar i) te f) z En σ H := s_fldLV (En := { En with nx := z En }) c hv hs cl na hl h k
/-- for x in xs, xs a name's list at a -/
theorem s_forV {H0 : Hp} {g : TG} {t : TS} {xs : List α} {a : Addr} {vs : List V} (hv : σ[i]? = some (some (.ref a))) (ha : H a = some (.lst vs)) (ps : Paired (Rp.rp m H0) xs vs) (Pv : Nat → St → Hp → Prop) (h0 : Pv 0 σ H) (hl : ∀ j σ' H', Pv j σ' H' → H' a = some (.lst vs))
    (hs : ∀ (j : Nat) x v σ' H', xs[j]? = some x → Rp.rp m H0 x v → Pv j σ' H' → g v σ' H' fun σ2 H2 => t { En with nx := Pv (j + 1), ct := Pv (j + 1), bk := En.nx } σ2 H2) (hd : ∀ σ' H', Pv xs.length σ' H' → En.nx σ' H') : tFor (iList K (tVar i)) g t En σ H := by
  refine ⟨_, hv, a, rfl, ⟨vs, .of ha⟩, for_list (K := K) (a := a) (xs := vs) Pv h0 (fun j σ' H' _ hp => .of (hl j σ' H' hp)) (fun j w σ' H' hj hp => ?_) (fun σ' H' hp => hd σ' H' (by rw [ps.length]; exact hp))⟩
  have hlt : j < xs.length := by rw [ps.length]; exact (List.getElem?_eq_some_iff.mp hj).1
  obtain ⟨y, hy, ry⟩ := paired_at ps (List.getElem?_eq_getElem hlt)
  rw [hj] at hy
  cases hy
  exact hs j _ w σ' H' (List.getElem?_eq_getElem hlt) ry hp
theorem q_forV {H0 : Hp} {g : TG} {t : TS} {xs : List α} {a : Addr} {vs : List V} (hv : σ[i]? = some (some (.ref a))) (ha : H a = some (.lst vs)) (ps : Paired (Rp.rp m H0) xs vs) (Pv : Nat → St → Hp → Prop) (h0 : Pv 0 σ H) (hl : ∀ j σ' H', Pv j σ' H' → H' a = some (.lst vs))
    (hs : ∀ (j : Nat) x v σ' H', xs[j]? = some x → Rp.rp m H0 x v → Pv j σ' H' → g v σ' H' fun σ2 H2 => t { En with nx := Pv (j + 1), ct := Pv (j + 1), bk := z En } σ2 H2) (hd : ∀ σ' H', Pv xs.length σ' H' → z En σ' H') : tSeq (tFor (iList K (tVar i)) g t) z En σ H := s_forV (En := { En with nx := z En }) hv ha ps Pv h0 hl hs hd
theorem take_snoc {xs : List α} {j : Nat} {y : α} (h : xs[j]? = some y) : xs.take (j + 1) = xs.take j ++ [y] := by rw [List.take_add_one, h]; rfl
end
end KS
set_option Elab.async false
set_option linter.all false
set_option maxRecDepth 100000
set_option maxHeartbeats 4000000
namespace KS
open PySem L2
/-! ### what cells count: plain laws -/
def plus (l : List Int) (i : Int) : List Int := l.set i.toNat (cat l i + 1)
theorem plus_len (l : List Int) (i : Int) : (plus l i).length = l.length := by unfold plus; simp
/-- how often the keys point to each cell -/
def raw (keys : List Int) (size : Int) (hands : List (Int × Int)) : List Int := keys.foldl (fun l k => (pointed hands size k).foldl plus l) (List.replicate size.toNat 0)
def counts (keys : List Int) (size : Int) (hands : List (Int × Int)) (cap : Int) : List Int := (raw keys size hands).map fun n => min cap n
theorem cat_set {l : List Int} {i j v : Int} (h0 : 0 ≤ i) (h1 : i < l.length) (hj : 0 ≤ j) : cat (l.set i.toNat v) j = if j = i then v else cat l j := by
  unfold cat
  rw [List.getElem?_set]
  by_cases e : j = i
  · subst e
    rw [if_pos rfl, if_pos rfl, if_pos (by omega)]
    rfl
  · rw [if_neg (by omega), if_neg e]
theorem atI_cat {l : List Int} {i : Int} (h0 : 0 ≤ i) (h1 : i < l.length) : atI l i = some (cat l i) := by
  have hl : i.toNat < l.length := by omega
  have : i = (i.toNat : Int) := by omega
  rw [this, atI_nat (List.getElem?_eq_getElem hl)]
  unfold cat
  rw [← this, List.getElem?_eq_getElem hl]
  rfl
theorem ext_cat {a b : List Int} (hl : a.length = b.length) (h : ∀ i : Int, 0 ≤ i → i < a.length → cat a i = cat b i) : a = b := by
  refine List.ext_getElem hl fun n h1 h2 => ?_
  have q := h (n : Int) (by omega) (by omega)
  unfold cat at q
  rw [show ((n : Int)).toNat = n by omega, List.getElem?_eq_getElem h1, List.getElem?_eq_getElem h2] at q
  exact q
theorem cat_map {l : List Int} {f : Int → Int} {i : Int} (h0 : 0 ≤ i) (h1 : i < l.length) : cat (l.map f) i = f (cat l i) := by
  have hl : i.toNat < l.length := by omega
  unfold cat
  rw [List.getElem?_map, List.getElem?_eq_getElem hl]
  rfl
theorem cat_rep {n : Nat} {i k : Int} (h : i.toNat < n) : cat (List.replicate n k) i = k := by
  unfold cat
  rw [List.getElem?_replicate, if_pos h]
  rfl
def InR (n : Nat) (ps : List Int) : Prop := ∀ p, p ∈ ps → 0 ≤ p ∧ p < (n : Int)
theorem cat_plus {l : List Int} {ps : List Int} {j : Int} (h : InR l.length ps) (hj : 0 ≤ j) : cat (ps.foldl plus l) j = cat l j + (ps.count j : Int) := by
  induction ps generalizing l with
  | nil => simp
  | cons p ps ih =>
    rw [List.foldl_cons, ih (fun q hq => by rw [plus_len]; exact h q (by simp [hq]))]
    have hp := h p (by simp)
    unfold plus
    rw [cat_set hp.1 hp.2 hj, List.count_cons]
    by_cases e : j = p
    · subst e; simp; omega
    · have : ¬ (p = j) := fun z => e z.symm
      simp [e, this]
theorem cat_dec {l : List Int} {ps : List Int} {j : Int} (h : InR l.length ps) (hj : 0 ≤ j) : cat (ps.foldl dec1 l) j = cat l j - (ps.count j : Int) := by
  induction ps generalizing l with
  | nil => simp
  | cons p ps ih =>
    rw [List.foldl_cons, ih (fun q hq => by rw [dec1_len]; exact h q (by simp [hq]))]
    have hp := h p (by simp)
    unfold dec1
    rw [cat_set hp.1 hp.2 hj, List.count_cons]
    by_cases e : j = p
    · subst e; simp; omega
    · have : ¬ (p = j) := fun z => e z.symm
      simp [e, this]
theorem cat_inc {cap : Int} {l : List Int} {ps : List Int} {j : Int} (h : InR l.length ps) (hj : 0 ≤ j) (hc : cat l j ≤ cap) : cat (ps.foldl (inc cap) l) j = min cap (cat l j + (ps.count j : Int)) := by
  induction ps generalizing l with
  | nil => simp; omega
  | cons p ps ih =>
    have hp := h p (by simp)
    have e1 : cat (inc cap l p) j = if j = p then min cap (cat l p + 1) else cat l j := by unfold inc; rw [cat_set hp.1 hp.2 hj]
    rw [List.foldl_cons, ih (fun q hq => by rw [inc_len]; exact h q (by simp [hq])) (by rw [e1]; split <;> omega), e1, List.count_cons]
    by_cases e : j = p
    · subst e; simp; omega
    · have : ¬ (p = j) := fun z => e z.symm
      simp [e, this]
/-- how often keys point to j -/
def cnt (keys : List Int) (size : Int) (hands : List (Int × Int)) (j : Int) : Int := (keys.map fun k => ((pointed hands size k).count j : Int)).sum
theorem inR_pointed {n : Nat} {size key : Int} {hands : List (Int × Int)} (h0 : 0 < size) (hn : (n : Int) = size) : InR n (pointed hands size key) := fun p hp => by
  have := pointed_mem h0 hp
  omega
theorem raw_len (keys : List Int) (size : Int) (hands : List (Int × Int)) : (raw keys size hands).length = size.toNat := by
  have inner : ∀ (keys : List Int) (l : List Int), (keys.foldl (fun l k => (pointed hands size k).foldl plus l) l).length = l.length := fun keys => by
    induction keys with
    | nil => intro l; rfl
    | cons a r ih => intro l; rw [List.foldl_cons, ih, foldl_len plus_len]
  unfold raw
  rw [inner, List.length_replicate]
theorem raw_snoc (keys : List Int) (k size : Int) (hands : List (Int × Int)) : raw (keys ++ [k]) size hands = (pointed hands size k).foldl plus (raw keys size hands) := by
  unfold raw
  rw [List.foldl_append]
  rfl
theorem cat_raw {keys : List Int} {size : Int} {hands : List (Int × Int)} {j : Int} (h0 : 0 < size) (hj : 0 ≤ j) (hj1 : j < size) : cat (raw keys size hands) j = cnt keys size hands j := by
  induction keys using snoc_ind with
  | nil => unfold raw cnt; rw [List.foldl_nil, cat_rep (by omega)]; rfl
  | snoc keys k ih =>
    rw [raw_snoc, cat_plus (inR_pointed h0 (by rw [raw_len]; omega)) hj, ih]
    unfold cnt
    rw [List.map_append, List.sum_append]
    simp
theorem counts_len (keys : List Int) (size : Int) (hands : List (Int × Int)) (cap : Int) : (counts keys size hands cap).length = size.toNat := by unfold counts; rw [List.length_map, raw_len]
theorem cat_counts {keys : List Int} {size : Int} {hands : List (Int × Int)} {cap j : Int} (h0 : 0 < size) (hj : 0 ≤ j) (hj1 : j < size) : cat (counts keys size hands cap) j = min cap (cnt keys size hands j) := by
  unfold counts
  rw [cat_map hj (by rw [raw_len]; omega), cat_raw h0 hj hj1]
theorem cnt_nonneg (keys : List Int) (size : Int) (hands : List (Int × Int)) (j : Int) : 0 ≤ cnt keys size hands j := by
  unfold cnt
  induction keys with
  | nil => simp
  | cons a r ih => rw [List.map_cons, List.sum_cons]; omega
theorem cnt_append (a b : List Int) (size : Int) (hands : List (Int × Int)) (j : Int) : cnt (a ++ b) size hands j = cnt a size hands j + cnt b size hands j := by
  unfold cnt
  rw [List.map_append, List.sum_append]
theorem cnt_one (k size : Int) (hands : List (Int × Int)) (j : Int) : cnt [k] size hands j = ((pointed hands size k).count j : Int) := by unfold cnt; simp
/-- one of the keys taken out of the list -/
theorem cnt_erase {keys : List Int} {n : Nat} {k size : Int} {hands : List (Int × Int)} {j : Int} (h : keys[n]? = some k) : cnt keys size hands j = cnt (keys.eraseIdx n) size hands j + ((pointed hands size k).count j : Int) := by
  induction keys generalizing n with
  | nil => simp at h
  | cons a r ih =>
    cases n with
    | zero =>
      simp at h
      subst h
      rw [List.eraseIdx_cons_zero, ← cnt_one, ← List.singleton_append, cnt_append]
      omega
    | succ n =>
      rw [List.eraseIdx_cons_succ, ← List.singleton_append, cnt_append, ih (by simpa using h), ← List.singleton_append (l := r.eraseIdx n), cnt_append]
      omega
theorem cnt_mem {keys : List Int} {k size : Int} {hands : List (Int × Int)} {j : Int} (h : k ∈ keys) : ((pointed hands size k).count j : Int) ≤ cnt keys size hands j := by
  obtain ⟨n, hn⟩ := List.mem_iff_getElem?.mp h
  rw [cnt_erase hn]
  have := cnt_nonneg (keys.eraseIdx n) size hands j
  omega
section
variable {C : Addr}
/-- the sieve with just these keys in -/
def svOf (C : Addr) (keys : List Int) (size : Int) (hands : List (Int × Int)) (cap : Int) : Sv C := ⟨size, hands, cap, counts keys size hands cap⟩
variable {keys : List Int} {size cap k : Int} {hands : List (Int × Int)}
theorem svOf_new (h0 : 0 < size) (hc : 0 ≤ cap) : Sv.new C size hands cap = svOf C [] size hands cap := by
  unfold Sv.new svOf counts raw
  rw [List.foldl_nil, List.map_replicate, show min cap 0 = 0 by omega]
theorem svOf_ok (h0 : 0 < size) (h1 : size ≤ 1000) (hh : hands.length ≤ 1000) : (svOf C keys size hands cap).Ok := ⟨h0, h1, hh, by unfold svOf; dsimp only; rw [counts_len]; omega⟩
theorem svOf_put (h0 : 0 < size) (k : Int) : (svOf C keys size hands cap).put1 k = svOf C (keys ++ [k]) size hands cap := by
  unfold Sv.put1 svOf
  dsimp only
  congr 1
  have hr : InR (counts keys size hands cap).length (pointed hands size k) := inR_pointed h0 (by rw [counts_len]; omega)
  refine ext_cat (by rw [foldl_len (inc_len _), counts_len, counts_len]) fun i hi hi1 => ?_
  rw [foldl_len (inc_len _), counts_len] at hi1
  rw [cat_inc hr hi (by rw [cat_counts h0 hi (by omega)]; omega), cat_counts h0 hi (by omega), cat_counts h0 hi (by omega), cnt_append, cnt_one]
  omega
theorem yes_iff {x : Sv C} {k : Int} : x.yes k = true ↔ ∀ c, c ∈ pointed x.hands x.size k → min x.cap ((pointed x.hands x.size k).count c : Int) ≤ cat x.cells c := by
  unfold Sv.yes
  rw [decide_eq_true_eq, List.map_eq_nil_iff, List.filter_eq_nil_iff]
  unfold poorB wanted
  constructor
  · intro h c hc
    have q := h (c, _) ((tally_mem _ c _).mpr ⟨hc, rfl⟩)
    simp at q
    omega
  · rintro h ⟨c, n⟩ hm
    obtain ⟨hc, rfl⟩ := (tally_mem _ c n).mp hm
    have := h c hc
    simp
    omega
theorem svOf_yes (h0 : 0 < size) (h : k ∈ keys) : (svOf C keys size hands cap).yes k = true := by
  rw [yes_iff]
  unfold svOf
  dsimp only
  intro c hc
  have hp := pointed_mem h0 hc
  rw [cat_counts h0 hp.1 hp.2]
  have := cnt_mem (size := size) (hands := hands) (j := c) h
  omega
theorem stuck_eq (x : Sv C) (k : Int) : x.stuck k = sset ((pointed x.hands x.size k).filter fun c => decide (cat x.cells c = x.cap)) := by
  refine lt_unique ?_ (sset_lt _) fun c => ?_
  · unfold Sv.stuck
    have h1 := isort_le (((wanted x k).filter fun kv => decide (cat x.cells kv.1 = x.cap)).map (·.1))
    have h2 : (isort (((wanted x k).filter fun kv => decide (cat x.cells kv.1 = x.cap)).map (·.1))).Nodup := (isort_perm _).nodup_iff.mpr (by
      have q := tally_keys_nodup (pointed x.hands x.size k)
      exact q.sublist (List.Sublist.map _ List.filter_sublist))
    have := h1.and h2
    exact this.imp fun ⟨a, b⟩ => by omega
  · rw [sset_mem]
    unfold Sv.stuck
    rw [isort_mem, List.mem_filter, List.mem_map]
    constructor
    · rintro ⟨⟨c', n⟩, hm, rfl⟩
      obtain ⟨h1, h2⟩ := List.mem_filter.mp hm
      exact ⟨((tally_mem _ c' n).mp h1).1, h2⟩
    · rintro ⟨hc, h2⟩
      exact ⟨(c, _), List.mem_filter.mpr ⟨(tally_mem _ c _).mpr ⟨hc, rfl⟩, h2⟩, rfl⟩
theorem stuck_nil {x : Sv C} {k : Int} : x.stuck k = [] ↔ ∀ c, c ∈ pointed x.hands x.size k → cat x.cells c ≠ x.cap := by
  rw [stuck_eq]
  constructor
  · intro h c hc e
    have : c ∈ sset ((pointed x.hands x.size k).filter fun c => decide (cat x.cells c = x.cap)) := sset_mem.mpr (List.mem_filter.mpr ⟨hc, by simpa using e⟩)
    rw [h] at this
    simp at this
  · intro h
    refine List.eq_nil_iff_forall_not_mem.mpr fun c hc => ?_
    obtain ⟨h1, h2⟩ := List.mem_filter.mp (sset_mem.mp hc)
    exact h c h1 (by simpa using h2)
theorem svOf_take {n : Nat} (h0 : 0 < size) (hn : keys[n]? = some k) (hs : (svOf C keys size hands cap).stuck k = []) : (svOf C keys size hands cap).take1 k = svOf C (keys.eraseIdx n) size hands cap := by
  have hs' := stuck_nil.mp hs
  unfold svOf at hs'
  dsimp only at hs'
  unfold Sv.take1 svOf
  dsimp only
  congr 1
  have hr : InR (counts keys size hands cap).length (pointed hands size k) := inR_pointed h0 (by rw [counts_len]; omega)
  refine ext_cat (by rw [foldl_len dec1_len, counts_len, counts_len]) fun i hi hi1 => ?_
  rw [foldl_len dec1_len, counts_len] at hi1
  rw [cat_dec hr hi, cat_counts h0 hi (by omega), cat_counts h0 hi (by omega), cnt_erase hn]
  have nn := cnt_nonneg (keys.eraseIdx n) size hands i
  by_cases hm : i ∈ pointed hands size k
  · have q := hs' i hm
    rw [cat_counts h0 hi (by omega), cnt_erase hn] at q
    omega
  · rw [List.count_eq_zero.mpr hm]
    omega
theorem says_ok {x : Sv C} (h : KeyOk k) : x.says k = .ok (x.yes k) := if_pos h
theorem put_ok {x : Sv C} (h : KeyOk k) : x.put k = .ok (x.put1 k) := if_pos h
theorem take_ok {x : Sv C} (h : KeyOk k) (hy : x.yes k = true) (hs : x.stuck k = []) : x.take k = .ok (x.take1 k) := by
  have : x.may k = .ok () := by
    unfold Sv.may
    rw [if_pos (show 0 ≤ k ∧ k < 10007 from h), if_pos hy, if_pos hs]
  unfold Sv.take
  rw [this]
theorem mkS_ok (h0 : 1 ≤ size) (h1 : size ≤ 96) (hh : HandsOk 6 hands) (c0 : 1 ≤ cap) (c1 : cap ≤ 9) : mkS C size hands cap = .ok (Sv.new C size hands cap) := by
  have e1 : chkSize size = .ok () := if_pos ⟨h0, h1⟩
  have e2 : chkHands hands = .ok () := if_pos (by
    unfold handsB
    obtain ⟨a, b, d⟩ := hh
    rw [Bool.and_eq_true, List.all_eq_true]
    refine ⟨decide_eq_true ⟨a, by omega⟩, fun h hm => ?_⟩
    obtain ⟨z1, z2, z3, z4⟩ := d h hm
    simp
    omega)
  have e3 : chkCap cap = .ok () := if_pos ⟨c0, c1⟩
  unfold mkS
  rw [e1]
  show (do chkHands hands; chkCap cap; return Sv.new C size hands cap : Except Err _) = _
  rw [e2]
  show (do chkCap cap; return Sv.new C size hands cap : Except Err _) = _
  rw [e3]
  rfl
end
end KS
set_option Elab.async false
set_option linter.all false
set_option maxRecDepth 100000
set_option maxHeartbeats 4000000
namespace KS
open PySem L2
/-! ### defs that answer new sieves; keys put in, one by one -/
section
variable {C : Addr} {α β A R : Type} [Rp α] [Rp β] [RpA A] [Rp R] {K : PySem.W.Frag} {D : Dst} {m m' ms : List Addr} {σ : St} {H H' H2 : Hp} {s c : Addr} {x y : Sv C} {v : V} {ta tb te : TE} {t : TA} {T : Er} {En : Ends} {i : Nat} {E : XK} {z u : TS}
def SpNew (pre : A → Prop) (f : A → Sv C) : Sp := fun vs H Q _ => ∃ m x, Cc none m H ∧ RpA.rpa m H x vs ∧ pre x ∧ ∀ s c H', H s = none → H c = none → Gr [] H H' → SvNew H H' s c (f x) → Q (.ref s) H'
def SpNewX (T : Er) (pre : A → Prop) (f : A → Except Err (Sv C)) : Sp := fun vs H Q E => ∃ m x, Cc none m H ∧ RpA.rpa m H x vs ∧ pre x ∧ (∀ y, f x = .ok y → ∀ s c H', H s = none → H c = none → Gr [] H H' → SvNew H H' s c y → Q (.ref s) H') ∧
  ∀ e, f x = .error e → ∀ c d H', Gr [] H H' → ErrAt T H H' e c d → E c d H'
theorem SvNew.from (h : SvNew H' H2 s c x) (g : Gr ms H H') : SvNew H H2 s c x := fun m' hm => h m' fun b hb q => hm b hb (g.dom b q)
theorem es_call {pre : A → Prop} {f : A → Sv C} {a : A} (h : EvAr D m t σ H fun y => y = a) (hp : pre a) : EvS T D m (tCall (SpNew pre f) [] E t) σ H E (.ok (f a)) := fun H1 g c Q w1 w2 => h H1 g c _ fun y vs H2 g2 r e => by
  subst e
  exact ⟨m, y, (c.go g2).none, (by rw [List.append_nil]; exact r), hp, fun s cc H' n1 n2 g3 sn => w1 _ rfl s cc H' (g2.gr.dom s n1) (g2.gr.dom cc n2) (g2.trans (.pure g3)) (sn.from g2.gr)⟩
theorem es_callX {pre : A → Prop} {f : A → Except Err (Sv C)} {a : A} (h : EvAr D m t σ H fun y => y = a) (hp : pre a) : EvS T D m (tCall (SpNewX T pre f) [] E t) σ H E (f a) := fun H1 g c Q w1 w2 => h H1 g c _ fun y vs H2 g2 r e => by
  subst e
  exact ⟨m, y, (c.go g2).none, (by rw [List.append_nil]; exact r), hp, fun x hx s cc H' n1 n2 g3 sn => w1 x hx s cc H' (g2.gr.dom s n1) (g2.gr.dom cc n2) (g2.trans (.pure g3)) (sn.from g2.gr), fun e he cl d H' g3 z => w2 e he cl d H' (g2.trans (.pure g3)) (z.from g2.gr)⟩
theorem SvNew.upd (h : SvNew H H' s c x) (g : Gr [c] H' H2) (a : SvAt m H2 s c y) (e : y.size = x.size ∧ y.hands = x.hands ∧ y.cap = x.cap) : SvNew H H2 s c y := fun m' hm' => by
  have q := (h m' hm').set g a.cl
  obtain ⟨e1, e2, e3⟩ := e
  cases x
  cases y
  simp only at e1 e2 e3
  subst e1 e2 e3
  exact q
theorem gr_absorb (g : Gr ms H H') (g2 : Gr [c] H' H2) (n : H c = none) : Gr ms H H2 :=
  ⟨fun a o e q => g2.keep a o (g.keep a o e q) (by simpa using ne_of_none e n), fun a xs e => g2.tup a xs (g.tup a xs e), fun a e => g.dom a (g2.dom a e)⟩
theorem gd_absorb (g : Gd D H H') (g2 : Gr [c] H' H2) (n : H c = none) (k : Cc D m H) : Gd D H H2 := ⟨gr_absorb g.gr g2 n, fun ok => by
  have ok' := g.ok ok
  rcases D with _ | ⟨p, q⟩
  · trivial
  · refine DrawAt.go ok' (fun o e => g2.keep p o e fun z => ?_) (fun o e => g2.keep q o e fun z => ?_)
    · exact k.dm p (k.sub p (by simp [Dst.m])) (by rw [List.mem_singleton.mp z]; exact n)
    · exact k.dm q (k.sub q (by simp [Dst.m])) (by rw [List.mem_singleton.mp z]; exact n)⟩
theorem put_same {k : Int} (h : x.put k = .ok y) : y.size = x.size ∧ y.hands = x.hands ∧ y.cap = x.cap := by
  unfold Sv.put at h
  split at h
  · cases h; exact ⟨rfl, rfl, rfl⟩
  · cases h
theorem take_same {k : Int} (h : x.take k = .ok y) : y.size = x.size ∧ y.hands = x.hands ∧ y.cap = x.cap := by
  unfold Sv.take at h
  split at h
  · cases h; exact ⟨rfl, rfl, rfl⟩
  · cases h
theorem q_mut {f : Sv C → Int → Except Err (Sv C)} {key : Int} {tk : TE} {cc : Addr} {n : Str} (c : Cc D m H) (hv : σ[i]? = some (some (.ref s))) (a : SvAt m H s cc x) (ok : x.Ok) (hk : EvV D m tk σ H key) (hn : n ≠ "many" ∧ n ≠ "pointers" ∧ n ≠ "most" ∧ n ≠ "cells")
    (k1 : ∀ y, f x key = .ok y → ∀ H1 H2, Gd D H H1 → Gr [cc] H1 H2 → SvAt m H2 s cc y → z En σ H2) (k2 : ∀ e, f x key = .error e → ∀ cl d H1, Gd D H H1 → ErrAt T H H1 e cl d → E cl d H1) :
    tSeq (tDrop (tMeth C n (SpMut C T f) [] E (tVar i) (tCons tk tNil))) z En σ H := s_mut (En := { En with nx := z En }) c hv a ok hk hn k1 k2
/-- keys put in -/
def puts : List Int → Sv C → Except Err (Sv C)
  | [], x => .ok x
  | k :: ks, x => match x.put k with
    | .ok y => puts ks y
    | .error e => .error e
def bld (C : Addr) (keys : List Int) (size : Int) (hands : List (Int × Int)) (cap : Int) : Except Err (Sv C) := match mkS C size hands cap with
  | .ok x => puts keys x
  | .error e => .error e
theorem puts_snoc (ks : List Int) (k : Int) (x : Sv C) : puts (ks ++ [k]) x = match puts ks x with
  | .ok y => y.put k
  | .error e => .error e := by
  induction ks generalizing x with
  | nil =>
    show puts [k] x = x.put k
    unfold puts
    cases h : x.put k with
    | ok y => rfl
    | error e => rfl
  | cons a ks ih =>
    rw [List.cons_append]
    unfold puts
    cases h : x.put a with
    | ok y => exact ih y
    | error e => rfl
theorem puts_err {ks : List Int} {j : Nat} {k : Int} {x y : Sv C} {e : Err} (h : ks[j]? = some k) (h1 : puts (ks.take j) x = .ok y) (h2 : y.put k = .error e) : puts ks x = .error e := by
  induction ks generalizing j x with
  | nil => simp at h
  | cons a ks ih =>
    cases j with
    | zero =>
      simp at h
      subst h
      rw [List.take_zero] at h1
      cases h1
      unfold puts
      rw [h2]
    | succ j =>
      rw [List.take_succ_cons] at h1
      unfold puts at h1 ⊢
      cases h' : x.put a with
      | error e => rw [h'] at h1; cases h1
      | ok x' =>
        rw [h'] at h1
        exact ih (by simpa using h) h1
structure Sv.Good (x : Sv C) : Prop where
  s0 : 1 ≤ x.size
  s1 : x.size ≤ 96
  h : HandsOk 6 x.hands
  c0 : 1 ≤ x.cap
  c1 : x.cap ≤ 9
  n : (x.cells.length : Int) = x.size
theorem Sv.Good.ok (h : x.Good) : x.Ok := ⟨by have := h.s0; omega, by have := h.s1; omega, by have := h.h.2.1; omega, h.n⟩
theorem Sv.Good.to (h : x.Good) (e : y.size = x.size ∧ y.hands = x.hands ∧ y.cap = x.cap) (n : (y.cells.length : Int) = y.size) : y.Good := by
  obtain ⟨e1, e2, e3⟩ := e
  exact ⟨by rw [e1]; exact h.s0, by rw [e1]; exact h.s1, by rw [e2]; exact h.h, by rw [e3]; exact h.c0, by rw [e3]; exact h.c1, n⟩
theorem mkS_good {size cap : Int} {hands : List (Int × Int)} (h : mkS C size hands cap = .ok x) : x = Sv.new C size hands cap ∧ x.Good := by
  unfold mkS at h
  cases q1 : chkSize size with
  | error e1 => rw [q1] at h; cases h
  | ok _ =>
    rw [q1] at h
    cases q2 : chkHands hands with
    | error e1 => rw [q2] at h; cases h
    | ok _ =>
      rw [q2] at h
      cases q3 : chkCap cap with
      | error e1 => rw [q3] at h; cases h
      | ok _ =>
        rw [q3] at h
        cases h
        unfold chkSize at q1
        unfold chkHands at q2
        unfold chkCap at q3
        split at q1
        · split at q2
          · split at q3
            · rename_i h1 h2 h3
              unfold handsB at h2
              rw [Bool.and_eq_true, List.all_eq_true] at h2
              obtain ⟨h2, h4⟩ := h2
              have h2 := of_decide_eq_true h2
              refine ⟨rfl, h1.1, h1.2, ⟨h2.1, by show (hands.length : Int) ≤ 6; omega, fun hd hm => ?_⟩, h3.1, h3.2, by unfold Sv.new; simp; omega⟩
              have := h4 hd hm
              simp at this
              unfold HandOk
              omega
            · cases q3
          · cases q2
        · cases q1
theorem mkS_of_good (h : x.Good) : mkS C x.size x.hands x.cap = .ok (Sv.new C x.size x.hands x.cap) := mkS_ok h.s0 h.s1 h.h h.c0 h.c1
variable {keys : List Int} {size cap k : Int} {hands : List (Int × Int)}
theorem svOf_good (h0 : 1 ≤ size) (h1 : size ≤ 96) (hh : HandsOk 6 hands) (c0 : 1 ≤ cap) (c1 : cap ≤ 9) : (svOf C keys size hands cap).Good := ⟨h0, h1, hh, c0, c1, by show ((counts keys size hands cap).length : Int) = size; rw [counts_len]; omega⟩
theorem bld_ok (h0 : 1 ≤ size) (h1 : size ≤ 96) (hh : HandsOk 6 hands) (c0 : 1 ≤ cap) (c1 : cap ≤ 9) (hk : ∀ k, k ∈ keys → KeyOk k) : bld C keys size hands cap = .ok (svOf C keys size hands cap) := by
  unfold bld
  rw [mkS_ok h0 h1 hh c0 c1, svOf_new (by omega) (by omega)]
  show puts keys (svOf C [] size hands cap) = _
  induction keys using snoc_ind with
  | nil => rfl
  | snoc ks k ih =>
    rw [puts_snoc, ih fun k h => hk k (by simp [h])]
    show (svOf C ks size hands cap).put k = _
    rw [put_ok (hk k (by simp)), svOf_put (by omega)]
/-! ### keys -/
def needKeys (ks : List Int) : Except Err Unit := if (ks.all fun k => decide (0 ≤ k ∧ k < 10007)) = true then .ok () else .error .badKey
theorem needKeys_ok {ks : List Int} (h : ∀ k, k ∈ ks → KeyOk k) : needKeys ks = .ok () := if_pos (by rw [List.all_eq_true]; exact fun k hk => decide_eq_true (show 0 ≤ k ∧ k < 10007 from h k hk))
theorem needKeys_inv {ks : List Int} {u : Unit} (h : needKeys ks = .ok u) : ∀ k, k ∈ ks → KeyOk k := by
  unfold needKeys at h
  split at h
  · rename_i q
    rw [List.all_eq_true] at q
    exact fun k hk => of_decide_eq_true (p := 0 ≤ k ∧ k < 10007) (q k hk)
  · cases h
def uniq (ks : List Int) : List Int := ks.foldl (fun acc k => if k ∈ acc then acc else acc ++ [k]) []
theorem uniq_snoc (ks : List Int) (k : Int) : uniq (ks ++ [k]) = if k ∈ uniq ks then uniq ks else uniq ks ++ [k] := by
  unfold uniq
  rw [List.foldl_append]
  rfl
theorem uniq_mem {ks : List Int} {k : Int} : k ∈ uniq ks ↔ k ∈ ks := by
  induction ks using snoc_ind with
  | nil => simp [uniq]
  | snoc ks a ih =>
    rw [uniq_snoc]
    split
    · rename_i h
      rw [List.mem_append, List.mem_singleton, ih]
      constructor
      · exact .inl
      · rintro (z | rfl)
        · exact z
        · exact ih.mp h
    · rw [List.mem_append, List.mem_append, ih]
theorem uniq_len (ks : List Int) : (uniq ks).length ≤ ks.length := by
  induction ks using snoc_ind with
  | nil => simp [uniq]
  | snoc ks a ih =>
    rw [uniq_snoc, List.length_append]
    split
    · omega
    · rw [List.length_append]; exact Nat.add_le_add_right ih _
theorem inV_ints (k : Int) (ns : List Int) : inV (.int k) (ns.map V.int) = decide (k ∈ ns) := by
  unfold inV
  rw [List.any_map]
  induction ns with
  | nil => rfl
  | cons a r ih =>
    rw [List.any_cons, ih]
    show (eqV (.int a) (.int k) || decide (k ∈ r)) = decide (k ∈ a :: r)
    have e : eqV (V.int a) (V.int k) = decide (k = a) := by
      show _ = _
      by_cases h : k = a
      · subst h; simp [eqV]
      · have h' : ¬ a = k := fun z => h z.symm
        simp [eqV, h, h']
    rw [e]
    by_cases h : k = a <;> simp [h]
theorem ev_in {ns : List Int} (ha : EvV D m ta σ H k) (hb : EvV D m tb σ H ns) : EvV D m (tOp (rIn K false) ta tb) σ H (decide (k ∈ ns)) := fun H1 e c Q w => ha H1 e c _ fun k' v H2 e2 rk ek => hb H2 (e.trans e2) (c.go e2) _ fun ns' u H3 e3 rn en => by
  subst ek en
  cases rp_int rk
  obtain ⟨a, vs, rfl, n, ha, ps⟩ := rp_lst rn
  have := paired_ints ps
  subst this
  exact ⟨a, _, rfl, .inl (.of ha), rfl, by rw [List.all_map]; exact List.all_eq_true.mpr fun _ _ => rfl, w _ _ H3 (e2.trans e3) (by show V.bl _ = V.bl _; rw [inV_ints]; rfl) rfl⟩
theorem ev_nin {ns : List Int} (ha : EvV D m ta σ H k) (hb : EvV D m tb σ H ns) : EvV D m (tOp (rIn K true) ta tb) σ H (!decide (k ∈ ns)) := fun H1 e c Q w => ha H1 e c _ fun k' v H2 e2 rk ek => hb H2 (e.trans e2) (c.go e2) _ fun ns' u H3 e3 rn en => by
  subst ek en
  cases rp_int rk
  obtain ⟨a, vs, rfl, n, ha, ps⟩ := rp_lst rn
  have := paired_ints ps
  subst this
  exact ⟨a, _, rfl, .inl (.of ha), rfl, by rw [List.all_map]; exact List.all_eq_true.mpr fun _ _ => rfl, w _ _ H3 (e2.trans e3) (by show V.bl _ = V.bl _; rw [inV_ints]; rfl) rfl⟩
/-- what taking a key out harms -/
def harms (x : Sv C) (k : Int) (ks : List Int) : Except Err (List Int) := match needKey k with
  | .ok _ => match needKeys ks with
    | .ok _ => match x.take k with
      | .ok z => .ok ((uniq ks).filter fun o => !z.yes o)
      | .error e => .error e
    | .error e => .error e
  | .error e => .error e
/-! ### deeds -/
def deed (x : Sv C) (w : Str) (k : Int) : Str × Sv C := if w = "put" then ("done", x.put1 k) else if x.yes k = true then if x.stuck k = [] then ("done", x.take1 k) else ("stuck", x) else ("no", x)
def run (x : Sv C) (ds : List (Str × Int)) : List Str × Sv C := ds.foldl (fun a d => (a.1 ++ [(deed a.2 d.1 d.2).1], (deed a.2 d.1 d.2).2)) ([], x)
theorem run_snoc (x : Sv C) (ds : List (Str × Int)) (d : Str × Int) : run x (ds ++ [d]) = ((run x ds).1 ++ [(deed (run x ds).2 d.1 d.2).1], (deed (run x ds).2 d.1 d.2).2) := by
  unfold run
  rw [List.foldl_append]
  rfl
theorem deed_same (x : Sv C) (w : Str) (k : Int) : (deed x w k).2.size = x.size ∧ (deed x w k).2.hands = x.hands ∧ (deed x w k).2.cap = x.cap := by
  unfold deed
  split
  · exact ⟨rfl, rfl, rfl⟩
  · split
    · split
      · exact ⟨rfl, rfl, rfl⟩
      · exact ⟨rfl, rfl, rfl⟩
    · exact ⟨rfl, rfl, rfl⟩
theorem deed_ok {x : Sv C} (h : x.Ok) (w : Str) (k : Int) : (deed x w k).2.Ok := by
  unfold deed
  split
  · exact h.put1 k
  · split
    · split
      · exact h.take1 k
      · exact h
    · exact h
theorem run_len (x : Sv C) (ds : List (Str × Int)) : (run x ds).1.length = ds.length := by
  induction ds using snoc_ind with
  | nil => rfl
  | snoc ds d ih => rw [run_snoc, List.length_append, List.length_append, ih]; rfl
def play (C : Addr) (size : Int) (hands : List (Int × Int)) (cap : Int) (ds : List (Str × Int)) : Except Err (List Str × Sv C) := match mkS C size hands cap with
  | .ok x => match needKeys (ds.map (·.2)) with
    | .ok _ => .ok (run x ds)
    | .error e => .error e
  | .error e => .error e
/-- what is in, by how often -/
def often (ds : List (Str × Int)) (ws : List Str) : List (Int × Int) := (ds.zip ws).foldl (fun l dw => if dw.2 = ("done" : Str) then KS.put l dw.1.2 ((look l dw.1.2).getD 0 + if dw.1.1 = ("put" : Str) then 1 else -1) else l) []
def stillIn (ds : List (Str × Int)) (ws : List Str) : List Int := (uniq (ds.map (·.2))).filter fun k => decide (0 < (look (often ds ws) k).getD 0)
def SpWord (C : Addr) : Sp := fun vs H Q _ => ∃ (m : List Addr) (s c : Addr) (x : Sv C) (wd : Str) (k : Int) (dv : V), vs = [.ref s, dv] ∧ Cc none m H ∧ SvAt m H s c x ∧ x.Ok ∧ Rp.rp m H (wd, k) dv ∧ KeyOk k ∧ ∀ H', Gr [c] H H' → SvAt m H' s c (deed x wd k).2 → Q (.str (deed x wd k).1) H'
def SpPlay (C : Addr) (T : Er) : Sp := fun vs H Q E => ∃ (m : List Addr) (size : Int) (hands : List (Int × Int)) (cap : Int) (ds : List (Str × Int)) (hv dv : V), vs = [.int size, hv, .int cap, dv] ∧ Cc none m H ∧ Rp.rp m H hands hv ∧ Rp.rp m H ds dv ∧ hands.length ≤ 90000 ∧ ds.length ≤ 90000 ∧
  (∀ r, play C size hands cap ds = .ok r → ∀ t wl s c H', H t = none → H wl = none → H s = none → H c = none → Gr [] H H' → H' t = some (.tup [.ref wl, .ref s]) → (∀ m', (∀ b, b ∈ m' → H b ≠ none) → Own m' H' wl r.1 ∧ SvAt (wl :: m') H' s c r.2) → Q (.ref t) H') ∧
  ∀ e, play C size hands cap ds = .error e → ∀ cl d H', Gr [] H H' → ErrAt T H H' e cl d → E cl d H'
theorem take_eq {x : Sv C} {k : Int} (h : KeyOk k) : x.take k = if x.yes k = true then if x.stuck k = [] then .ok (x.take1 k) else .error (.stuck (x.stuck k)) else .error .notIn := by
  unfold Sv.take Sv.may
  rw [if_pos (show 0 ≤ k ∧ k < 10007 from h)]
  by_cases hy : x.yes k = true
  · rw [if_pos hy, if_pos hy]
    by_cases hs : x.stuck k = []
    · rw [if_pos hs, if_pos hs]
    · rw [if_neg hs, if_neg hs]
  · rw [if_neg hy, if_neg hy]
theorem SvAt.upd {m2 : List Addr} (h : SvAt m H s c x) (g : Gr [c] H H2) (a : SvAt m2 H2 s c y) (e : y.size = x.size ∧ y.hands = x.hands ∧ y.cap = x.cap) : SvAt m H2 s c y := by
  have q := h.set g a.cl
  obtain ⟨e1, e2, e3⟩ := e
  cases x
  cases y
  simp only at e1 e2 e3
  subst e1 e2 e3
  exact q
def lostF (C : Addr) (size : Int) (hands : List (Int × Int)) (cap : Int) (ds : List (Str × Int)) : Except Err (List Int) := match play C size hands cap ds with
  | .ok r => .ok ((stillIn ds r.1).filter fun k => !r.2.yes k)
  | .error e => .error e
/-- a, b = e -/
theorem q_set2 {j : Nat} {p : α × β} (c : Cc D m H) (h : EvV D m te σ H p) (k : ∀ u w H1, Gd D H H1 → Rp.rp m H1 p.1 u → Rp.rp m H1 p.2 w → z En ((σ.set i (some u)).set j (some w)) H1) : tSeq (tAsg te (gTup K 2 (gCons (gName i) (gCons (gName j) gNil)))) z En σ H := h H .refl c _ fun x v H1 g r e => by
  subst e
  exact g_pair r fun u w r1 r2 => k u w H1 g r1 r2
theorem t_yes {A B : Hp → Prop} (h : A H) : tYes σ H fun b H3 => if b = true then A H3 else B H3 := by
  show (if true = true then A H else B H)
  rw [if_pos rfl]
  exact h
theorem often_snoc {ds : List (Str × Int)} {ws : List Str} (h : ds.length = ws.length) (d : Str × Int) (wd : Str) : often (ds ++ [d]) (ws ++ [wd]) = if wd = ("done" : Str) then KS.put (often ds ws) d.2 ((look (often ds ws) d.2).getD 0 + if d.1 = ("put" : Str) then 1 else -1) else often ds ws := by
  unfold often
  rw [List.zip_append h, List.foldl_append]
  rfl
theorem run_ok {x : Sv C} (h : x.Ok) (ds : List (Str × Int)) : (run x ds).2.Ok := by
  induction ds using snoc_ind with
  | nil => exact h
  | snoc ds d ih => rw [run_snoc]; exact deed_ok ih _ _
theorem play_inv {ds : List (Str × Int)} {r : List Str × Sv C} (h : play C size hands cap ds = .ok r) : (∀ d, d ∈ ds → KeyOk d.2) ∧ r.2.Ok ∧ r.1.length = ds.length := by
  unfold play at h
  cases q : mkS C size hands cap with
  | error e => rw [q] at h; cases h
  | ok x =>
    rw [q] at h
    dsimp only at h
    cases q2 : needKeys (ds.map (·.2)) with
    | error e => rw [q2] at h; cases h
    | ok u =>
      rw [q2] at h
      cases h
      exact ⟨fun d hd => needKeys_inv q2 d.2 (List.mem_map.mpr ⟨d, hd, rfl⟩), run_ok (mkS_good q).2.ok ds, run_len _ _⟩
theorem stillIn_len (ds : List (Str × Int)) (ws : List Str) : (stillIn ds ws).length ≤ ds.length := by
  unfold stillIn
  have h1 := List.length_filter_le (fun k => decide (0 < (look (often ds ws) k).getD 0)) (uniq (ds.map (·.2)))
  have h2 := uniq_len (ds.map (·.2))
  rw [List.length_map] at h2
  omega
theorem stillIn_ok {ds : List (Str × Int)} {ws : List Str} {k : Int} (h : ∀ d, d ∈ ds → KeyOk d.2) (hm : k ∈ stillIn ds ws) : KeyOk k := by
  unfold stillIn at hm
  have := uniq_mem.mp (List.mem_filter.mp hm).1
  obtain ⟨d, hd, rfl⟩ := List.mem_map.mp this
  exact h d hd
end
/-! ### slices, walks with numbers, more lists -/
section
variable {C : Addr} {α β γ A R : Type} [Rp α] [Rp β] [RpA A] [Rp R] {K : PySem.W.Frag} {D : Dst} {m m' ms : List Addr} {σ : St} {H H' H2 : Hp} {s c : Addr} {v : V} {ta tb te tl : TE} {t : TA} {T : Er} {En : Ends} {i : Nat} {E : XK} {z u : TS} {g : TG} {tt : TT} {ws : List Nat}
theorem paired_take {F : α → V → Prop} : ∀ {l : List α} {r : List V} (n : Nat), Paired F l r → Paired F (l.take n) (r.take n)
  | _, _, 0, _ => by rw [List.take_zero, List.take_zero]; exact .nil
  | _, _, n + 1, .nil => by rw [List.take_nil, List.take_nil]; exact .nil
  | _, _, n + 1, .cons h t => by rw [List.take_succ_cons, List.take_succ_cons]; exact .cons h (paired_take n t)
theorem cut_hi (vs : List V) {n : Int} (h : 0 ≤ n) : cutV vs none (some n) = vs.take n.toNat := by
  have e : HT.sIx vs.length vs.length (some n) = min n.toNat vs.length := by
    show (if n < 0 then _ else _) = _
    rw [if_neg (by omega)]
  have e0 : HT.sIx vs.length 0 none = 0 := rfl
  unfold cutV
  rw [e, e0, List.drop_zero, Nat.sub_zero]
  by_cases q : n.toNat ≤ vs.length
  · rw [Nat.min_eq_left q]
  · rw [Nat.min_eq_right (by omega), List.take_length, List.take_of_length_le (by omega)]
/-- xs[:n] -/
theorem el_cutHi {xs : List α} {n : Int} (ha : EvV D m ta σ H xs) (hb : EvV D m tb σ H n) (h : 0 ≤ n) : EvLV D m (tSl (rSlL K) ta tNoPart (tPart tb)) σ H (xs.take n.toNat) := fun H1 g1 c Q w => ha H1 g1 c _ fun xs' v H2 g2 r e => hb H2 (g1.trans g2) (c.go g2) _ fun n' v' H3 g3 r' e' => by
  subst e e'
  cases rp_int r'
  obtain ⟨a, vs, rfl, nm, ha, ps⟩ := rp_lst (rp_gd r (c.go g2) g3)
  refine ⟨n', rfl, a, vs, rfl, .of ha, fun p hp => ?_⟩
  rw [cut_hi vs h]
  exact w _ p _ ((g2.trans g3).gr.dom p hp) ((g2.trans g3).trans (.new hp)) ⟨((c.go g2).go g3).free hp, _, upd_same, paired_go (paired_take _ ps) fun _ _ r => rp_g0 r (.new hp)⟩ rfl
theorem el_cutHiP {p : Int → Prop} {xs : List α} {r : List α → Prop} (ha : EvV D m ta σ H xs) (hb : Ev D m tb σ H p) (h : ∀ n, p n → 0 ≤ n ∧ r (xs.take n.toNat)) : EvL D m (tSl (rSlL K) ta tNoPart (tPart tb)) σ H r := fun H1 g1 c Q w => ha H1 g1 c _ fun xs' v H2 g2 r1 e => hb H2 (g1.trans g2) (c.go g2) _ fun n' v' H3 g3 r' e' => by
  subst e
  cases rp_int r'
  obtain ⟨a, vs, rfl, nm, ha, ps⟩ := rp_lst (rp_gd r1 (c.go g2) g3)
  obtain ⟨h0, hr⟩ := h n' e'
  refine ⟨n', rfl, a, vs, rfl, .of ha, fun p hp => ?_⟩
  rw [cut_hi vs h0]
  exact w _ p _ ((g2.trans g3).gr.dom p hp) ((g2.trans g3).trans (.new hp)) ⟨((c.go g2).go g3).free hp, _, upd_same, paired_go (paired_take _ ps) fun _ _ r => rp_g0 r (.new hp)⟩ hr
/-- [s] * n -/
theorem el_repS {n : Int} {k : Str} (h : EvV D m ta σ H k) (hb : EvV D m tb σ H n) (h0 : 0 ≤ n) (h1 : n ≤ 100000) : EvLV D m (tOp rRep (tLst (tCons ta tNil)) tb) σ H (List.replicate n.toNat k) := fun H1 g c Q w =>
  (el_lst (ei_consV h ei_nil) (fun xs e => by rw [e]; show 1 ≤ 100000; decide)).ev H1 g c _ fun xs v H2 g2 r e => hb H2 (g.trans g2) (c.go g2) _ fun n' v' H3 g3 r' e' => by
    subst e e'
    cases rp_int r'
    obtain ⟨a, vs, rfl, nm, ha, ps⟩ := rp_lst (rp_gd r (c.go g2) g3)
    have hvs : vs = [V.str k] := by
      cases ps with
      | cons h t => cases t; rw [rp_str h]
    subst hvs
    refine ⟨a, n', _, rfl, rfl, ha, by omega, by omega, ?_, fun p hp => ?_⟩
    · rw [List.length_singleton, Nat.one_mul]; exact Evl.sz_of (by omega)
    · have e : (List.replicate n'.toNat [V.str k]).flatten = (List.replicate n'.toNat k).map V.str := by
        generalize n'.toNat = j
        induction j with
        | zero => rfl
        | succ j ih => rw [List.replicate_succ, List.flatten_cons, ih, List.replicate_succ]; rfl
      refine w _ p _ ((g2.trans g3).gr.dom p hp) ((g2.trans g3).trans (.new hp)) ⟨((c.go g2).go g3).free hp, _, upd_same, ?_⟩ rfl
      rw [e]
      generalize List.replicate n'.toNat k = l
      induction l with
      | nil => exact .nil
      | cons a l ih => exact .cons rfl ih
/-- int(b) -/
theorem ev_int1b {b : Bool} (h : EvV D m ta σ H b) : EvV D m (tCB (fun xs H Q => (∃ i, xs = [.int i] ∧ Q (.int i) H) ∨ ∃ k, xs = [.bl k] ∧ Q (.int (if k then 1 else 0)) H) (tCons ta tNil)) σ H (if b then 1 else 0 : Int) := fun H1 g c Q w => h H1 g c _ fun b' v H2 g2 r e => by
  subst e
  cases rp_bool r
  exact .inr ⟨b', rfl, w _ _ H2 g2 rfl rfl⟩
/-- [e for i, x in enumerate(xs) if t] -/
theorem el_lcEnum [Nl β] {xs : List α} {p : List β → Prop} (I : Nat → List β → Prop) (h : EvV D m tl σ H xs) (hz : xs.length ≤ 90000) (h0 : I 0 [])
    (hs : ∀ (j : Nat) x v H1 acc, xs[j]? = some x → Gd D H H1 → Cc D m H1 → Rp.rp m H1 ((j : Int), x) v → I j acc → ∃ pt py, LcT D m g tt te ws σ v H1 pt py ∧ (∀ y, pt true → py y → I (j + 1) (acc ++ [y])) ∧ (pt false → I (j + 1) acc))
    (hd : ∀ acc, I xs.length acc → p acc) : EvL D m (tLc (iEnum K (tCons tl tNil)) g tt te ws) σ H p := fun H1 e c Q w => h H1 e c _ fun xs' v H2 e2 r z => by
  subst z
  obtain ⟨a, vs, rfl, n, ha, ps⟩ := rp_lst r
  have c2 := c.go e2
  refine ⟨a, vs, rfl, .of ha, fun Dl hD => ?_⟩
  have nD : Dl ∉ m := c2.free hD
  have keepA : ∀ {H'}, Gd D H2 H' → H' a = some (.lst vs) := fun g' => g'.gr.keep a _ ha fun q => n (c2.sub a q)
  have goal := lc_gen (J := Ite K a) (n := vs.length) (g := g) (tt := tt) (te := te) (vs := ws) (σ := σ) (H1 := H2) (D := Dl) (Qd := fun H' => Q (.ref Dl) H')
    (fun j H' => ∃ acc, Gd D H2 H' ∧ Own m H' Dl acc ∧ acc.length ≤ j ∧ I j acc) ⟨[], .new hD, .nil nD upd_same, Nat.zero_le _, h0⟩
    (fun H' ⟨acc, g', _⟩ => ⟨vs, .of (keepA g'), Nat.le_refl _⟩) (fun j H' hj ⟨acc, g', _⟩ => ⟨vs, vs[j], .of (keepA g'), List.getElem?_eq_getElem hj⟩)
    (fun j x H' H'' hj ⟨acc, g', o, hl, hI⟩ y => ?_) (fun H' ⟨acc, g', o, hl, hI⟩ => w acc Dl H' (e2.gr.dom Dl hD) (e2.trans g') o (hd acc (by rw [ps.length]; exact hI)))
  · exact goal
  · obtain ⟨t, x', rfl, ht, rfl, hx⟩ := y
    have hx' := hx vs (.of (keepA g'))
    have hlt : j < xs'.length := by rw [ps.length]; exact hj
    obtain ⟨y, hy, ry⟩ := paired_at ps (List.getElem?_eq_getElem hlt)
    rw [hx'] at hy
    cases hy
    have gt : Gd D H' (upd H' t (.tup [.int (j : Nat), x'])) := .new ht
    have ct := (c2.go g').go gt
    obtain ⟨pt, py, hT, k1, k2⟩ := hs j _ (.ref t) _ acc (List.getElem?_eq_getElem hlt) (((e.trans e2).trans g').trans gt) ct ⟨t, _, _, rfl, upd_same, rfl, rp_gd (rp_gd ry c2 g') (c2.go g') gt⟩ hI
    exact lc_turn hT ct .refl (o.gd (c2.go g') gt) (by omega) (fun y ws H4 g4 z py o4 => ⟨acc ++ [y], mut_gd ((g'.trans gt).trans g4) c2 hD, o4, by simp; omega, k1 y z py⟩) (fun H4 g4 z => ⟨acc, (g'.trans gt).trans g4, (o.gd (c2.go g') gt).gd ct g4, by omega, k2 z⟩)
/-- [e for x in xs if t], xs any list of some kind -/
theorem el_lcLP [Nl β] {p0 : List α → Prop} {p : List β → Prop} (I : List α → Nat → List β → Prop) (h : Ev D m tl σ H p0) (hz : ∀ xs, p0 xs → xs.length ≤ 90000) (h0 : ∀ xs, p0 xs → I xs 0 [])
    (hs : ∀ xs (j : Nat) x v H1 acc, p0 xs → xs[j]? = some x → Gd D H H1 → Cc D m H1 → Rp.rp m H1 x v → I xs j acc → ∃ pt py, LcT D m g tt te ws σ v H1 pt py ∧ (∀ y, pt true → py y → I xs (j + 1) (acc ++ [y])) ∧ (pt false → I xs (j + 1) acc))
    (hd : ∀ xs acc, p0 xs → I xs xs.length acc → p acc) : EvL D m (tLc (iList K tl) g tt te ws) σ H p := fun H1 e c Q w => h H1 e c _ fun xs v H2 e2 r z => by
  have hv : EvV D m (fun _ H Q => Q v H) σ H2 xs := fun H3 g3 c3 Q w => w xs v H3 .refl (rp_gr r g3.gr c3.sub) rfl
  exact el_lcL (K := K) (tl := fun _ H Q => Q v H) (I xs) hv (hz xs z) (h0 xs z) (fun j x v H1 acc hx g' c' r hI => hs xs j x v H1 acc z hx ((e.trans e2).trans g') c' r hI) (fun acc hI => hd xs acc z hI) H2 .refl (c.go e2) Q fun ys a H3 n g3 o py => w ys a H3 (e2.gr.dom a n) (e2.trans g3) o py
/-- xs.count(k) -/
theorem ev_count {ns : List Int} {k : Int} (ha : EvV D m ta σ H ns) (hb : EvV D m tb σ H k) : EvV D m (tBM K "list" (rCntI K) ta (tCons tb tNil)) σ H ((ns.count k : Nat) : Int) := fun H1 g1 c Q w => ha H1 g1 c _ fun ns' v H2 g2 r e => by
  subst e
  obtain ⟨a, vs, rfl, nm, ha, ps⟩ := rp_lst r
  have := paired_ints ps
  subst this
  refine ⟨.inl ⟨rfl, _, .of ha⟩, hb H2 (g1.trans g2) (c.go g2) _ fun k' v' H3 g3 r' e' => ?_⟩
  subst e'
  cases rp_int r'
  exact ⟨a, ns', k', rfl, rfl, .of (g3.gr.keep a _ ha fun q => nm (c.sub a q)), w _ _ H3 (g2.trans g3) rfl rfl⟩
theorem Own.kept [Nl α] {xs : List α} {a : Addr} (o : Own m H a xs) (g : Gr [c] H H') (n : a ≠ c) : Own m H' a xs := by
  obtain ⟨h, vs, e, q⟩ := o
  exact ⟨h, vs, g.keep a _ e (by simpa using n), paired_go q fun _ _ r => rp_nl r g.tup⟩
theorem DAt.kept {a : Addr} {l : List (Int × Int)} (o : DAt m H a l) (g : Gr [c] H H') (n : a ≠ c) : DAt m H' a l := ⟨o.nm, g.keep a _ o.at_ (by simpa using n)⟩
/-- for i in ps: l[i] = e -/
theorem q_forSet {ia il ic : Nat} {tv : TE} {ac cl : Addr} {ps l : List Int} (f : List Int → Int → List Int) (gg : List Int → Int → Int) (hf : ∀ l p, f l p = l.set p.toNat (gg l p)) (k0 : Cc none m H) (hac : σ[ia]? = some (some (.ref ac))) (hcl : σ[il]? = some (some (.ref cl))) (hil : il ≠ ic) (hic : ic < σ.length)
    (oa : Own m H ac ps) (ol : Own m H cl l) (n : ac ≠ cl) (hr : InR l.length ps) (h0 : ∃ o, σ = σ.set ic o)
    (hv : ∀ p l' H', l'.length = l.length → p ∈ ps → Gr [cl] H H' → Own m H' cl l' → Cc none m H' → EvV none m tv (σ.set ic (some (.int p))) H' (gg l' p))
    (k : ∀ o H', Gr [cl] H H' → Own m H' cl (ps.foldl f l) → z En (σ.set ic o) H') : tSeq (tFor (iList K (tVar ia)) (gName ic) (tAsg tv (gSub (tVar il) (tVar ic) rSetL))) z En σ H := by
  obtain ⟨_, vs, ha, pa⟩ := id oa
  have hfl : ∀ l p, (f l p).length = l.length := fun l p => by rw [hf]; simp
  refine q_forV (xs := ps) (m := m) (vs := vs) hac ha pa (fun j s2 H' => ∃ o, s2 = σ.set ic o ∧ Gr [cl] H H' ∧ Own m H' cl ((ps.take j).foldl f l)) ?_ (fun j s2 H' ⟨_, _, g', _⟩ => g'.keep ac _ ha (by simpa using n)) ?_ ?_
  · obtain ⟨o, e⟩ := h0
    exact ⟨o, e, Gr.refl, ol⟩
  · rintro j p w s2 H' hj rp ⟨o, rfl, g', o'⟩
    cases rp_int rp
    refine g_name ?_
    rw [List.set_set]
    have hm := List.mem_of_getElem? hj
    have hb := hr p hm
    have hl' : ((ps.take j).foldl f l).length = l.length := foldl_len hfl _ _
    have c' : Cc none m H' := ⟨fun _ h => absurd h (by simp [Dst.m]), fun b hb z => k0.dm b hb (g'.dom b z), trivial⟩
    refine s_item c' (by rw [List.getElem?_set_ne (Ne.symm hil)]; exact hcl) (by rw [List.getElem?_set_self hic]) o' hb.1 (by rw [hl']; exact hb.2) (hv p _ H' hl' hm g' o' c') fun H1 H2 g1 e2 o2 => ?_
    obtain ⟨ob, rfl⟩ := e2
    obtain ⟨_, vs1, h1, _⟩ := o'.gd c' g1
    refine ⟨_, rfl, (g'.trans g1.gr0.any).put (by simp) h1 (fun _ z => by cases z), ?_⟩
    rw [take_snoc hj, List.foldl_append]
    show Own m _ cl (f _ p)
    rw [hf]
    exact o2
  · rintro s2 H' ⟨o, rfl, g', o'⟩
    rw [List.take_length] at o'
    exact k o H' g' o'
/-- [e] * n -/
theorem el_repG {p : α → Prop} {q : Int → Prop} (h : Ev D m ta σ H p) (hb : Ev D m tb σ H q) (hq : ∀ n, q n → 0 ≤ n ∧ n ≤ 1000) {r : List α → Prop} (k : ∀ x n, p x → q n → r (List.replicate n.toNat x)) : EvL D m (tOp rRep (tLst (tCons ta tNil)) tb) σ H r := fun H1 g c Q w =>
  (el_lst (p := fun xs => ∃ x, xs = [x] ∧ p x) (ei_cons (q := fun xs => xs = []) h ei_nil fun x xs hx e => ⟨x, by rw [e], hx⟩) (fun xs ⟨x, e, _⟩ => by rw [e]; show 1 ≤ 100000; decide)).ev H1 g c _ fun xs v H2 g2 r1 ⟨x, e, hx⟩ => hb H2 (g.trans g2) (c.go g2) _ fun n' v' H3 g3 r' e' => by
    subst e
    cases rp_int r'
    obtain ⟨a, vs, rfl, nm, ha, ps⟩ := rp_lst (rp_gd r1 (c.go g2) g3)
    obtain ⟨b1, b2⟩ := hq n' e'
    cases ps with
    | @cons _ u _ us hu t =>
      cases t
      refine ⟨a, n', _, rfl, rfl, ha, by omega, by omega, ?_, fun p hp => ?_⟩
      · rw [List.length_singleton, Nat.one_mul]; exact Evl.sz_of (by omega)
      · have e : (List.replicate n'.toNat [u]).flatten = List.replicate n'.toNat u := by
          generalize n'.toNat = j
          induction j with
          | zero => rfl
          | succ j ih => rw [List.replicate_succ, List.flatten_cons, ih, List.replicate_succ]; rfl
        refine w _ p _ ((g2.trans g3).gr.dom p hp) ((g2.trans g3).trans (.new hp)) ⟨((c.go g2).go g3).free hp, _, upd_same, ?_⟩ (k x n' hx e')
        rw [e]
        have hu' := rp_g0 hu (.new (o := .lst (List.replicate n'.toNat u)) hp)
        generalize n'.toNat = j at *
        have go : ∀ i, Paired (Rp.rp m (upd H3 p (.lst (List.replicate j u)))) (List.replicate i x) (List.replicate i u) := fun i => by
          induction i with
          | zero => exact .nil
          | succ i ih => rw [List.replicate_succ, List.replicate_succ]; exact .cons hu' ih
        exact go j
theorem paired_drop {F : α → V → Prop} : ∀ {l : List α} {r : List V} (n : Nat), Paired F l r → Paired F (l.drop n) (r.drop n)
  | _, _, 0, h => by rw [List.drop_zero, List.drop_zero]; exact h
  | _, _, n + 1, .nil => by rw [List.drop_nil, List.drop_nil]; exact .nil
  | _, _, n + 1, .cons h t => by rw [List.drop_succ_cons, List.drop_succ_cons]; exact paired_drop n t
theorem cut_lo (vs : List V) {n : Int} (h : 0 ≤ n) : cutV vs (some n) none = vs.drop n.toNat := by
  have e : HT.sIx vs.length 0 (some n) = min n.toNat vs.length := by
    show (if n < 0 then _ else _) = _
    rw [if_neg (by omega)]
  have e0 : HT.sIx vs.length vs.length none = vs.length := rfl
  unfold cutV
  rw [e, e0]
  by_cases q : n.toNat ≤ vs.length
  · rw [Nat.min_eq_left q, List.take_of_length_le (by rw [List.length_drop]; exact Nat.le_refl _)]
  · rw [Nat.min_eq_right (by omega), List.drop_length, List.drop_of_length_le (by omega), List.take_nil]
/-- xs[n:] -/
theorem el_cutLo {p : Int → Prop} {xs : List α} {r : List α → Prop} (ha : EvV D m ta σ H xs) (hb : Ev D m tb σ H p) (h : ∀ n, p n → 0 ≤ n ∧ r (xs.drop n.toNat)) : EvL D m (tSl (rSlL K) ta (tPart tb) tNoPart) σ H r := fun H1 g1 c Q w => ha H1 g1 c _ fun xs' v H2 g2 r1 e => hb H2 (g1.trans g2) (c.go g2) _ fun n' v' H3 g3 r' e' => by
  subst e
  cases rp_int r'
  obtain ⟨a, vs, rfl, nm, ha, ps⟩ := rp_lst (rp_gd r1 (c.go g2) g3)
  obtain ⟨h0, hr⟩ := h n' e'
  refine ⟨n', rfl, a, vs, rfl, .of ha, fun p hp => ?_⟩
  rw [cut_lo vs h0]
  exact w _ p _ ((g2.trans g3).gr.dom p hp) ((g2.trans g3).trans (.new hp)) ⟨((c.go g2).go g3).free hp, _, upd_same, paired_go (paired_drop _ ps) fun _ _ r => rp_g0 r (.new hp)⟩ hr
/-- a, b = e, f -/
theorem q_par2 {j : Nat} {p : α × β × Unit → Prop} (c : Cc D m H) (h : EvAr D m t σ H p) (k : ∀ x y u w H1, Gd D H H1 → Rp.rp m H1 x u → Rp.rp m H1 y w → p (x, y, ()) → z En ((σ.set i (some u)).set j (some w)) H1) : tSeq (tPar i j t) z En σ H := h H .refl c _ fun x vs H1 g r e => by
  obtain ⟨x, y, w0⟩ := x
  obtain ⟨u, _, rfl, r1, w, _, rfl, r2, rfl⟩ := r
  exact ⟨u, w, rfl, k x y u w H1 g r1 r2 e⟩
theorem s_par2 {j : Nat} {p : α × β × Unit → Prop} (c : Cc D m H) (h : EvAr D m t σ H p) (k : ∀ x y u w H1, Gd D H H1 → Rp.rp m H1 x u → Rp.rp m H1 y w → p (x, y, ()) → En.nx ((σ.set i (some u)).set j (some w)) H1) : tPar i j t En σ H := h H .refl c _ fun x vs H1 g r e => by
  obtain ⟨x, y, w0⟩ := x
  obtain ⟨u, _, rfl, r1, w, _, rfl, r2, rfl⟩ := r
  exact ⟨u, w, rfl, k x y u w H1 g r1 r2 e⟩
theorem ea_any {p : A → Prop} (h : EvAr D m t σ H p) : EvAr D m t σ H fun _ : A => True := fun H1 e c Q w => h H1 e c Q fun x vs H2 g r _ => w x vs H2 g r trivial
/-- found = played(..) -/
theorem q_play1 {size cap : Int} {hands : List (Int × Int)} {ds : List (Str × Int)} {r : List Str × Sv C} (c : Cc D m H) (h : EvAr D m t σ H fun y => y = (size, hands, cap, ds, ())) (hl : hands.length ≤ 90000 ∧ ds.length ≤ 90000) (hr : play C size hands cap ds = .ok r)
    (k : ∀ tt wl s cc H1, H tt = none → H wl = none → H s = none → H cc = none → Gd D H H1 → H1 tt = some (.tup [.ref wl, .ref s]) → (∀ m', (∀ b, b ∈ m' → H b ≠ none) → Own m' H1 wl r.1 ∧ SvAt (wl :: m') H1 s cc r.2) → z En (σ.set i (some (.ref tt))) H1) : tSeq (tAsg (tCall (SpPlay C T) [] E t) (gName i)) z En σ H := h H .refl c _ fun y vs H1 g1 ra e => by
  subst e
  obtain ⟨v1, _, rfl, r1, v2, _, rfl, r2, v3, _, rfl, r3, v4, _, rfl, r4, rfl⟩ := ra
  cases (show v1 = V.int size from r1)
  cases (show v3 = V.int cap from r3)
  refine ⟨m, size, hands, cap, ds, v2, v4, rfl, (c.go g1).none, r2, r4, hl.1, hl.2, fun r' hr' t wl s cc H2 nt nwl ns nc g2 ht hI => ?_, fun e he => by rw [hr] at he; cases he⟩
  rw [hr] at hr'
  cases hr'
  exact k t wl s cc H2 (g1.gr.dom t nt) (g1.gr.dom wl nwl) (g1.gr.dom s ns) (g1.gr.dom cc nc) (g1.trans (.pure g2)) ht fun m' hm' => hI m' fun b hb q => hm' b hb (g1.gr.dom b q)
/-- isinstance(sieve, Sieve) -/
theorem ev_isSv {x : Sv C} (h : EvV D m ta σ H x) (cl : Cls K C) (ic : C8.InsC K C) (ki : PySem.W.kitOne K (.ref C) (.ref C) = some true) : EvV D m (tCB (rIsi K) (tCons ta (tCons (tC (.ref C)) tNil))) σ H true := fun H1 g c Q w => h H1 g c _ fun x' v H2 g2 r e => by
  subst e
  obtain ⟨s, cc, rfl, a⟩ := r
  obtain ⟨dx, b, ho, _, _⟩ := id a.ob
  exact ⟨_, _, _, _, true, rfl, .own C, .base (.ins ho cl ic.ha ic.hn ic.htk ic.hm), ki, w true _ H2 g2 rfl rfl⟩
theorem ev_isP {p : α × β} (h : EvV D m ta σ H p) : EvV D m (tCB (rIsi K) (tCons ta (tCons (tC (.ty "tuple")) tNil))) σ H true := ev_isT h (fun _ _ _ r _ => ty_pair r) (by decide +kernel)
/-- words, sieve = played(..) -/
theorem q_play {j : Nat} {size cap : Int} {hands : List (Int × Int)} {ds : List (Str × Int)} {r : List Str × Sv C} (c : Cc D m H) (h : EvAr D m t σ H fun y => y = (size, hands, cap, ds, ())) (hl : hands.length ≤ 90000 ∧ ds.length ≤ 90000) (hr : play C size hands cap ds = .ok r)
    (k : ∀ wl s cc H1, H wl = none → H s = none → H cc = none → Gd D H H1 → Own m H1 wl r.1 → SvAt (wl :: m) H1 s cc r.2 → z En ((σ.set i (some (.ref wl))).set j (some (.ref s))) H1) : tSeq (tAsg (tCall (SpPlay C T) [] E t) (gTup K 2 (gCons (gName i) (gCons (gName j) gNil)))) z En σ H := h H .refl c _ fun y vs H1 g1 ra e => by
  subst e
  obtain ⟨v1, _, rfl, r1, v2, _, rfl, r2, v3, _, rfl, r3, v4, _, rfl, r4, rfl⟩ := ra
  cases (show v1 = V.int size from r1)
  cases (show v3 = V.int cap from r3)
  refine ⟨m, size, hands, cap, ds, v2, v4, rfl, (c.go g1).none, r2, r4, hl.1, hl.2, fun r' hr' t wl s cc H2 nt nwl ns nc g2 ht hI => ?_, fun e he => by rw [hr] at he; cases he⟩
  rw [hr] at hr'
  cases hr'
  obtain ⟨ow, sv⟩ := hI m (c.go g1).dm
  exact ⟨t, _, rfl, .of ht, rfl, _, _, rfl, _, _, rfl, rfl, k wl s cc H2 (g1.gr.dom wl nwl) (g1.gr.dom s ns) (g1.gr.dom cc nc) (g1.trans (.pure g2)) ow sv⟩
end
/-! ### what is lost: plain laws -/
section
variable {C : Addr} {keys ts : List Int} {size cap k : Int} {hands : List (Int × Int)}
def putsOf (ks : List Int) : List (Str × Int) := ks.map fun k => (("put" : Str), k)
def takesOf (ks : List Int) : List (Str × Int) := ks.map fun k => (("take" : Str), k)
theorem run_append (x : Sv C) (a b : List (Str × Int)) : run x (a ++ b) = ((run x a).1 ++ (run (run x a).2 b).1, (run (run x a).2 b).2) := by
  induction b using snoc_ind with
  | nil => simp [run]
  | snoc b d ih => rw [← List.append_assoc, run_snoc, ih, run_snoc]; simp
theorem run_puts (h0 : 0 < size) (ks : List Int) : run (svOf C [] size hands cap) (putsOf ks) = (List.replicate ks.length ("done" : Str), svOf C ks size hands cap) := by
  induction ks using snoc_ind with
  | nil => rfl
  | snoc ks k ih =>
    unfold putsOf at ih ⊢
    rw [List.map_append]
    show run _ (_ ++ [(("put" : Str), k)]) = _
    rw [run_snoc, ih]
    have hd : deed (svOf C ks size hands cap) "put" k = (("done" : Str), (svOf C ks size hands cap).put1 k) := by unfold deed; rw [if_pos rfl]
    rw [hd, svOf_put h0, List.length_append, List.length_singleton, List.replicate_succ']
theorem play_ok {ds : List (Str × Int)} (h0 : 1 ≤ size) (h1 : size ≤ 96) (hh : HandsOk 6 hands) (c0 : 1 ≤ cap) (c1 : cap ≤ 9) (hk : ∀ d, d ∈ ds → KeyOk d.2) : play C size hands cap ds = .ok (run (svOf C [] size hands cap) ds) := by
  unfold play
  rw [mkS_ok h0 h1 hh c0 c1, svOf_new (by omega) (by omega)]
  dsimp only
  rw [needKeys_ok (fun k hm => by obtain ⟨d, hd, rfl⟩ := List.mem_map.mp hm; exact hk d hd)]
def val (l : List (Int × Int)) (k : Int) : Int := (look l k).getD 0
theorem val_put (l : List (Int × Int)) (a v k : Int) : val (KS.put l a v) k = if k = a then v else val l k := by
  unfold val
  rw [look_put]
  split <;> rfl
theorem often_puts (ks : List Int) : ∀ k, val (often (putsOf ks) (List.replicate ks.length ("done" : Str))) k = (ks.count k : Int) := by
  induction ks using snoc_ind with
  | nil => intro k; rfl
  | snoc ks a ih =>
    intro k
    unfold putsOf at ih ⊢
    rw [List.map_append, List.length_append, List.length_singleton, List.replicate_succ']
    show val (often (_ ++ [(("put" : Str), a)]) _) k = _
    rw [often_snoc (by simp), if_pos rfl, val_put, List.count_append]
    have e : val (often (ks.map fun k => (("put" : Str), k)) (List.replicate ks.length ("done" : Str))) a = (ks.count a : Int) := ih a
    unfold val at e
    by_cases h : k = a
    · subst h
      rw [if_pos rfl, e]
      simp
    · have h' : ¬ a = k := fun z => h z.symm
      rw [if_neg h, ih k]
      simp [h']
theorem often_takes (A : List (Str × Int)) (W : List Str) (hl : A.length = W.length) (ts : List Int) : ∀ (ws : List Str), ws.length = ts.length → ∀ k, val (often (A ++ takesOf ts) (W ++ ws)) k ≤ val (often A W) k ∧ (k ∉ ts → val (often (A ++ takesOf ts) (W ++ ws)) k = val (often A W) k) := by
  induction ts using snoc_ind with
  | nil =>
    intro ws h k
    have : ws = [] := List.length_eq_zero_iff.mp h
    subst this
    simp [takesOf]
  | snoc ts a ih =>
    intro ws h k
    rw [List.length_append, List.length_singleton] at h
    have hne : ws ≠ [] := fun z => by rw [z] at h; simp at h
    obtain ⟨ws', w, rfl⟩ : ∃ ws' w, ws = ws' ++ [w] := ⟨ws.dropLast, ws.getLast hne, (List.dropLast_concat_getLast hne).symm⟩
    rw [List.length_append, List.length_singleton] at h
    obtain ⟨h1, h2⟩ := ih ws' (by omega) k
    have e : takesOf (ts ++ [a]) = takesOf ts ++ [(("take" : Str), a)] := by unfold takesOf; rw [List.map_append]; rfl
    have hlen : (A ++ takesOf ts).length = (W ++ ws').length := by unfold takesOf; simp; omega
    rw [e, ← List.append_assoc, ← List.append_assoc, often_snoc hlen]
    by_cases hw : w = ("done" : Str)
    · rw [if_pos hw, val_put]
      have hne' : ¬ (("take" : Str) = ("put" : Str)) := by decide
      by_cases hk : k = a
      · subst hk
        rw [if_pos rfl, if_neg hne']
        dsimp only
        unfold val at h1
        unfold val
        refine ⟨by omega, fun hn => absurd (by simp) hn⟩
      · rw [if_neg hk]
        exact ⟨h1, fun hn => h2 fun z => hn (by simp [z])⟩
    · rw [if_neg hw]
      exact ⟨h1, fun hn => h2 fun z => hn (by simp [z])⟩
theorem uniq_more {P : Int → Bool} (hp : ∀ k, k ∈ keys → P k = true) (hn : ∀ t, t ∈ ts → P t = false) : (uniq (keys ++ ts)).filter P = uniq keys := by
  induction ts using snoc_ind with
  | nil =>
    rw [List.append_nil, List.filter_eq_self]
    exact fun a ha => hp a (uniq_mem.mp ha)
  | snoc ts a ih =>
    rw [← List.append_assoc, uniq_snoc]
    have := ih fun t ht => hn t (by simp [ht])
    split
    · exact this
    · rw [List.filter_append, this]
      simp [hn a (by simp)]
theorem stillIn_take {ws : List Str} (hw : ws.length = ts.length) (hts : ∀ t, t ∈ ts → t ∉ keys) : stillIn (putsOf keys ++ takesOf ts) (List.replicate keys.length ("done" : Str) ++ ws) = uniq keys := by
  unfold stillIn
  have e : (putsOf keys ++ takesOf ts).map (·.2) = keys ++ ts := by
    unfold putsOf takesOf
    rw [List.map_append, List.map_map, List.map_map]
    show keys.map (fun k => k) ++ ts.map (fun k => k) = _
    rw [List.map_id', List.map_id']
  rw [e]
  have ho := often_takes (putsOf keys) (List.replicate keys.length ("done" : Str)) (by unfold putsOf; simp) ts ws hw
  refine uniq_more (fun k hk => ?_) fun t ht => ?_
  · have h1 := (ho k).2 fun z => hts k z hk
    rw [often_puts] at h1
    have h2 : 0 < keys.count k := List.count_pos_iff.mpr hk
    unfold val at h1
    exact decide_eq_true (by omega)
  · have h1 := (ho t).1
    rw [often_puts, List.count_eq_zero.mpr (hts t ht)] at h1
    unfold val at h1
    exact decide_eq_false (by simp at h1; omega)
theorem lost_take (h0 : 1 ≤ size) (h1 : size ≤ 96) (hh : HandsOk 6 hands) (c0 : 1 ≤ cap) (c1 : cap ≤ 9) (hk : ∀ k, k ∈ keys → KeyOk k) (ht : ∀ t, t ∈ ts → KeyOk t ∧ t ∉ keys) :
    lostF C size hands cap (putsOf keys ++ takesOf ts) = .ok ((uniq keys).filter fun k => !(run (svOf C keys size hands cap) (takesOf ts)).2.yes k) := by
  unfold lostF
  rw [play_ok h0 h1 hh c0 c1 fun d hd => ?_]
  · dsimp only
    rw [run_append, run_puts (by omega)]
    dsimp only
    rw [stillIn_take (by rw [run_len]; unfold takesOf; simp) fun t h => (ht t h).2]
  · rcases List.mem_append.mp hd with z | z
    · obtain ⟨k, hk', rfl⟩ := List.mem_map.mp z
      exact hk k hk'
    · obtain ⟨k, hk', rfl⟩ := List.mem_map.mp z
      exact (ht k hk').1
/-- what is told of taking out -/
def toldT (x : Sv C) (k : Int) (ks : List Int) : Str × List Int := if x.yes k = true then if x.stuck k = [] then (("done" : Str), (uniq ks).filter fun o => !(x.take1 k).yes o) else (("stuck" : Str), []) else (("no" : Str), [])
theorem deed_take (x : Sv C) (k : Int) : deed x "take" k = if x.yes k = true then if x.stuck k = [] then (("done" : Str), x.take1 k) else (("stuck" : Str), x) else (("no" : Str), x) := if_neg (by decide)
theorem toldT_word (x : Sv C) (k : Int) (ks : List Int) : (deed x "take" k).1 = (toldT x k ks).1 := by
  rw [deed_take]
  unfold toldT
  by_cases hy : x.yes k = true
  · rw [if_pos hy, if_pos hy]
    by_cases hs : x.stuck k = []
    · rw [if_pos hs, if_pos hs]
    · rw [if_neg hs, if_neg hs]
  · rw [if_neg hy, if_neg hy]
theorem toldT_done {x : Sv C} {k : Int} {ks : List Int} (h : (toldT x k ks).1 = ("done" : Str)) : (toldT x k ks).2 = (uniq ks).filter fun o => !(deed x "take" k).2.yes o := by
  unfold toldT at h ⊢
  rw [deed_take]
  by_cases hy : x.yes k = true
  · rw [if_pos hy] at h
    rw [if_pos hy, if_pos hy]
    by_cases hs : x.stuck k = []
    · rw [if_pos hs, if_pos hs]
    · rw [if_neg hs] at h
      exact absurd h (by show ¬ ("stuck" : Str) = "done"; decide)
  · rw [if_neg hy] at h
    exact absurd h (by show ¬ ("no" : Str) = "done"; decide)
theorem toldT_not {x : Sv C} {k : Int} {ks : List Int} (h : ¬ (toldT x k ks).1 = ("done" : Str)) : (toldT x k ks).2 = [] ∧ (deed x "take" k).2 = x := by
  unfold toldT at h ⊢
  rw [deed_take]
  by_cases hy : x.yes k = true
  · rw [if_pos hy] at h
    rw [if_pos hy, if_pos hy]
    by_cases hs : x.stuck k = []
    · rw [if_pos hs] at h
      exact absurd rfl h
    · rw [if_neg hs, if_neg hs]
      exact ⟨rfl, rfl⟩
  · rw [if_neg hy, if_neg hy]
    exact ⟨rfl, rfl⟩
theorem toldT_w (x : Sv C) (k : Int) (ks : List Int) : (toldT x k ks).1 = ("done" : Str) ∨ (toldT x k ks).1 = ("stuck" : Str) ∨ (toldT x k ks).1 = ("no" : Str) := by
  unfold toldT
  by_cases hy : x.yes k = true
  · rw [if_pos hy]
    by_cases hs : x.stuck k = []
    · rw [if_pos hs]; exact .inl rfl
    · rw [if_neg hs]; exact .inr (.inl rfl)
  · rw [if_neg hy]; exact .inr (.inr rfl)
theorem toldT_ok (x : Sv C) (k : Int) (ks : List Int) : PyData.strOk (toldT x k ks).1 = true := by
  rcases toldT_w x k ks with h | h | h <;> rw [h] <;> decide +kernel
/-- deeds of good keys -/
def DsOk (n : Nat) (ds : List (Str × Int)) : Prop := ds.length ≤ n ∧ ∀ d, d ∈ ds → KeyOk d.2 ∧ PyData.strOk d.1 = true
theorem dsOk_app {a b n : Nat} {x y : List (Str × Int)} (h1 : DsOk a x) (h2 : DsOk b y) (h : a + b ≤ n) : DsOk n (x ++ y) := ⟨by rw [List.length_append]; have := h1.1; have := h2.1; omega, fun d hd => by
  rcases List.mem_append.mp hd with z | z
  · exact h1.2 d z
  · exact h2.2 d z⟩
/-! ### what the laws reckon anew -/
def saysL (cs : List Int) (hands : List (Int × Int)) (cap key : Int) : Bool := decide ((pointed hands (cs.length : Int) key).filter (fun c => decide (cat cs c < min cap (((pointed hands (cs.length : Int) key).count c : Nat) : Int))) = [])
theorem saysL_eq (x : Sv C) (hn : (x.cells.length : Int) = x.size) (key : Int) : saysL x.cells x.hands x.cap key = x.yes key := by
  rw [Bool.eq_iff_iff, yes_iff]
  unfold saysL
  rw [decide_eq_true_eq, List.filter_eq_nil_iff, hn]
  constructor
  · intro h c hc
    have := h c hc
    simp at this
    omega
  · intro h c hc
    have := h c hc
    simp
    omega
theorem deed_wok (x : Sv C) (w : Str) (k : Int) : PyData.strOk (deed x w k).1 = true := by
  have : (deed x w k).1 = ("done" : Str) ∨ (deed x w k).1 = ("stuck" : Str) ∨ (deed x w k).1 = ("no" : Str) := by
    unfold deed
    by_cases h : w = ("put" : Str)
    · rw [if_pos h]; exact .inl rfl
    · rw [if_neg h]
      by_cases hy : x.yes k = true
      · rw [if_pos hy]
        by_cases hs : x.stuck k = []
        · rw [if_pos hs]; exact .inl rfl
        · rw [if_neg hs]; exact .inr (.inl rfl)
      · rw [if_neg hy]; exact .inr (.inr rfl)
  rcases this with h | h | h <;> rw [h] <;> decide +kernel
def oddStep (r : List Str × Sv C) (pre : List (Str × Int)) (d : Str × Int) : Bool := !decide (d.1 = ("put" : Str)) && (decide ((deed r.2 d.1 d.2).1 = ("done" : Str)) && decide (val (often pre r.1) d.2 < 1))
def odds (x : Sv C) (ds : List (Str × Int)) : Bool := (ds.foldl (fun (a : List (Str × Int) × Bool) d => (a.1 ++ [d], a.2 || oddStep (run x a.1) a.1 d)) ([], false)).2
theorem odds_fst (x : Sv C) (ds : List (Str × Int)) : (ds.foldl (fun (a : List (Str × Int) × Bool) d => (a.1 ++ [d], a.2 || oddStep (run x a.1) a.1 d)) ([], false)).1 = ds := by
  induction ds using snoc_ind with
  | nil => rfl
  | snoc ds d ih => rw [List.foldl_append]; show _ ++ [d] = _; rw [ih]
theorem odds_snoc (x : Sv C) (ds : List (Str × Int)) (d : Str × Int) : odds x (ds ++ [d]) = (odds x ds || oddStep (run x ds) ds d) := by
  have h := odds_fst x ds
  unfold odds
  rw [List.foldl_append]
  show (_ || oddStep (run x _) _ d) = _
  rw [h]
theorem count_erase {l : List Int} {n : Nat} {k : Int} (h : l[n]? = some k) (j : Int) : (l.count j : Int) = ((l.eraseIdx n).count j : Int) + (if j = k then 1 else 0) := by
  induction l generalizing n with
  | nil => simp at h
  | cons a r ih =>
    cases n with
    | zero =>
      simp at h
      subst h
      rw [List.eraseIdx_cons_zero, List.count_cons]
      by_cases e : j = a
      · subst e; simp
      · have e' : ¬ a = j := fun z => e z.symm
        simp [e, e']
    | succ n =>
      have := ih (n := n) (by simpa using h)
      rw [List.eraseIdx_cons_succ, List.count_cons, List.count_cons]
      omega
/-- where no key was taken that wasn't in, the counts are those of the keys that are in -/
theorem run_even (h0 : 0 < size) (ds : List (Str × Int)) : odds (svOf C [] size hands cap) ds = false → ∃ ins, (run (svOf C [] size hands cap) ds).2 = svOf C ins size hands cap ∧ ∀ k, (ins.count k : Int) = val (often ds (run (svOf C [] size hands cap) ds).1) k := by
  induction ds using snoc_ind with
  | nil => exact fun _ => ⟨[], rfl, fun k => rfl⟩
  | snoc ds d ih =>
    rw [odds_snoc, Bool.or_eq_false_iff]
    rintro ⟨h1, h2⟩
    obtain ⟨ins, e, hc⟩ := ih h1
    rw [run_snoc]
    have hlen : ds.length = (run (svOf C [] size hands cap) ds).1.length := (run_len _ _).symm
    obtain ⟨w, key⟩ := d
    dsimp only at *
    unfold oddStep at h2
    dsimp only at h2
    rw [often_snoc hlen, e] at *
    dsimp only
    by_cases hp : w = ("put" : Str)
    · have hd : deed (svOf C ins size hands cap) w key = (("done" : Str), (svOf C ins size hands cap).put1 key) := by unfold deed; rw [if_pos hp]
      rw [hd]
      refine ⟨ins ++ [key], svOf_put h0 key, fun k => ?_⟩
      dsimp only
      rw [if_pos rfl, val_put, if_pos hp, List.count_append]
      have := hc k
      have hk := hc key
      unfold val at this hk ⊢
      by_cases ek : k = key
      · subst ek
        rw [if_pos rfl]
        simp
        omega
      · have ek' : ¬ key = k := fun z => ek z.symm
        rw [if_neg ek]
        simp [ek']
        omega
    · have hd : deed (svOf C ins size hands cap) w key = if (svOf C ins size hands cap).yes key = true then if (svOf C ins size hands cap).stuck key = [] then (("done" : Str), (svOf C ins size hands cap).take1 key) else (("stuck" : Str), svOf C ins size hands cap) else (("no" : Str), svOf C ins size hands cap) := by unfold deed; rw [if_neg hp]
      rw [hd] at h2 ⊢
      by_cases hy : (svOf C ins size hands cap).yes key = true
      · rw [if_pos hy] at h2 ⊢
        by_cases hs : (svOf C ins size hands cap).stuck key = []
        · rw [if_pos hs] at h2 ⊢
          dsimp only at h2 ⊢
          have hv : ¬ val (often ds (run (svOf C [] size hands cap) ds).1) key < 1 := by
            intro z
            rw [decide_eq_false hp, decide_eq_true z] at h2
            simp at h2
          have hin : key ∈ ins := by
            have := hc key
            exact List.count_pos_iff.mp (by omega)
          obtain ⟨n, hn⟩ := List.mem_iff_getElem?.mp hin
          refine ⟨ins.eraseIdx n, svOf_take h0 hn hs, fun k => ?_⟩
          rw [if_pos rfl, val_put, if_neg hp]
          have hk := count_erase hn k
          have h3 := hc k
          have h4 := hc key
          unfold val at h3 h4 ⊢
          by_cases ek : k = key
          · subst ek
            rw [if_pos rfl] at hk ⊢
            omega
          · rw [if_neg ek] at hk ⊢
            omega
        · rw [if_neg hs]
          dsimp only
          rw [if_neg (by decide)]
          exact ⟨ins, rfl, hc⟩
      · rw [if_neg hy]
        dsimp only
        rw [if_neg (by decide)]
        exact ⟨ins, rfl, hc⟩
theorem lost_even (h0 : 0 < size) {ds : List (Str × Int)} (h : odds (svOf C [] size hands cap) ds = false) : (stillIn ds (run (svOf C [] size hands cap) ds).1).filter (fun k => !(run (svOf C [] size hands cap) ds).2.yes k) = [] := by
  obtain ⟨ins, e, hc⟩ := run_even h0 ds h
  rw [List.filter_eq_nil_iff]
  intro k hk
  unfold stillIn at hk
  have h1 := of_decide_eq_true (List.mem_filter.mp hk).2
  have h2 := hc k
  unfold val at h2
  have hin : k ∈ ins := List.count_pos_iff.mp (by omega)
  rw [e, svOf_yes h0 hin]
  decide
/-- keys of some kind, each once: found one by one -/
theorem uniq_filter_snoc (P : Int → Bool) (ks : List Int) (k : Int) : (uniq (ks ++ [k])).filter P = if (P k && !decide (k ∈ (uniq ks).filter P)) = true then (uniq ks).filter P ++ [k] else (uniq ks).filter P := by
  rw [uniq_snoc]
  by_cases hm : k ∈ uniq ks
  · rw [if_pos hm]
    cases hp : P k with
    | true =>
      have : k ∈ (uniq ks).filter P := List.mem_filter.mpr ⟨hm, hp⟩
      rw [if_neg]
      simp [hm, hp]
    | false => rw [if_neg (by simp)]
  · rw [if_neg hm, List.filter_append]
    have hn : k ∉ (uniq ks).filter P := fun z => hm (List.mem_filter.mp z).1
    cases hp : P k with
    | true => rw [if_pos (by simp [hm])]; simp [hp]
    | false => rw [if_neg (by simp)]; simp [hp]
end
/-! ### what comes of taking a key out, as a law tells it -/
inductive Out where
  | no
  | full (l : List Int)
  | list (l : List Int)
  deriving DecidableEq
instance : Rp Out := ⟨fun m H x v => match x with
  | .no => v = .str "no"
  | .full l => ∃ a u, v = .ref a ∧ H a = some (.tup [u]) ∧ Rp.rp m H l u
  | .list l => Rp.rp m H l v, fun {m m' H H' x v} k t h => by
    cases x with
    | no => exact h
    | full l =>
      obtain ⟨a, u, e, h1, h2⟩ := h
      exact ⟨a, u, e, t a _ h1, Rp.go k t h2⟩
    | list l => exact Rp.go (α := List Int) k t h⟩
instance : Dat Out := ⟨fun x => match x with
  | .no => .str "no"
  | .full l => .tuple [Dat.dat l]
  | .list l => Dat.dat l, fun _ => True, 3, fun {K m H x v} r => by
    cases x with
    | no => cases (show v = V.str "no" from r); exact .str "no"
    | full l =>
      obtain ⟨a, u, e, h1, h2⟩ := r
      rw [e]
      exact .tup (.of h1) (.cons (Dat.dp h2) .nil)
    | list l => exact Dat.dp (α := List Int) (x := l) r, fun x _ => by
    cases x with
    | no => simp only [PyData.canLay0]; decide +kernel
    | full l => show PyData.canLay0 (.tuple [Dat.dat l]) = true; rw [PyData.canLay0, PyData.canLayAll0, PyData.canLayAll0, Dat.can l (ok_ints l)]; rfl
    | list l => exact Dat.can l (ok_ints l), fun x => by
    cases x with
    | no => simp [PyData.depth]
    | full l => show PyData.depth (.tuple [Dat.dat l]) ≤ 3; rw [PyData.depth, PyData.depthAll, PyData.depthAll]; have := Dat.depth l; have h : Dat.dep (List Int) = 1 := rfl; omega
    | list l => show PyData.depth (Dat.dat l) ≤ 3; have := Dat.depth l; have h : Dat.dep (List Int) = 1 := rfl; omega, fun x y => by
    cases x with
    | no =>
      cases y with
      | no => show PyData.eqv (.str "no") (.str "no") = true ↔ _; simp [PyData.eqv]
      | full l => show PyData.eqv (.str "no") (.tuple [Dat.dat l]) = true ↔ _; simp [PyData.eqv]
      | list l => show PyData.eqv (.str "no") (.list (l.map Dat.dat)) = true ↔ _; simp [PyData.eqv]
    | full l =>
      cases y with
      | no => show PyData.eqv (.tuple [Dat.dat l]) (.str "no") = true ↔ _; simp [PyData.eqv]
      | full l2 => show PyData.eqv (.tuple [Dat.dat l]) (.tuple [Dat.dat l2]) = true ↔ _; rw [PyData.eqv, PyData.eqvAll, PyData.eqvAll, Bool.and_true, Dat.eq]; simp
      | list l2 => show PyData.eqv (.tuple [Dat.dat l]) (.list (l2.map Dat.dat)) = true ↔ _; simp [PyData.eqv]
    | list l =>
      cases y with
      | no => show PyData.eqv (.list (l.map Dat.dat)) (.str "no") = true ↔ _; simp [PyData.eqv]
      | full l2 => show PyData.eqv (.list (l.map Dat.dat)) (.tuple [Dat.dat l2]) = true ↔ _; simp [PyData.eqv]
      | list l2 => show PyData.eqv (Dat.dat l) (Dat.dat l2) = true ↔ _; rw [Dat.eq]; simp⟩
section
variable {C : Addr} {A : Type} [RpA A] {D : Dst} {m : List Addr} {σ : St} {H : Hp} {te : TE} {En : Ends} {z : TS} {i : Nat} {t : TA} {E : XK}
def outOf (x : Sv C) (k : Int) (ks : List Int) : Out := if x.yes k = true then if x.stuck k = [] then .list ((uniq ks).filter fun o => !(x.take1 k).yes o) else .full (x.stuck k) else .no
/-- the list that is told is new -/
def SpOut (pre : A → Prop) (f : A → Out) : Sp := fun vs H Q _ => ∃ m x, Cc none m H ∧ RpA.rpa m H x vs ∧ pre x ∧ ∀ v H', Gr [] H H' → Rp.rp m H' (f x) v → (∀ l, f x = .list l → ∃ a, v = .ref a ∧ H a = none ∧ Own m H' a l) → Q v H'
theorem q_setOut {pre : A → Prop} {f : A → Out} {y : A} (c : Cc D m H) (h : EvAr D m t σ H fun x => x = y) (hp : pre y) (k : ∀ v H1, Gd D H H1 → Rp.rp m H1 (f y) v → (∀ l, f y = .list l → ∃ a, v = .ref a ∧ H a = none ∧ Own m H1 a l) → z En (σ.set i (some v)) H1) : tSeq (tAsg (tCall (SpOut pre f) [] E t) (gName i)) z En σ H := h H .refl c _ fun x vs H1 g r e => by
  subst e
  refine ⟨m, x, (c.go g).none, (by rw [List.append_nil]; exact r), hp, fun v H2 g2 rv hl => k v H2 (g.trans (.pure g2)) rv fun l hl' => ?_⟩
  obtain ⟨a, e, n, o⟩ := hl l hl'
  exact ⟨a, e, g.gr.dom a n, o⟩
theorem s_retO {α : Type} [Rp α] {p : α → Prop} (c : Cc D m H) (h : Ev D m te σ H p) (k : ∀ x v H1, Gd D H H1 → Rp.rp m H1 x v → p x → En.rt v H1) : tRet te En σ H := s_ret c h k
def Out.isList : Out → Bool
  | .list _ => true
  | _ => false
theorem Out.list_of {x : Out} (h : x.isList = true) : ∃ l, x = .list l := by
  cases x with
  | no => cases h
  | full l => cases h
  | list l => exact ⟨l, rfl⟩
theorem outOf_len {x : Sv C} {k : Int} {ks l : List Int} (h : outOf x k ks = .list l) : l.length ≤ ks.length := by
  unfold outOf at h
  by_cases hy : x.yes k = true
  · rw [if_pos hy] at h
    by_cases hs : x.stuck k = []
    · rw [if_pos hs] at h
      cases h
      exact Nat.le_trans (List.length_filter_le _ _) (uniq_len ks)
    · rw [if_neg hs] at h
      cases h
  · rw [if_neg hy] at h
    cases h
theorem ev_isOut {K : PySem.W.Frag} {ta : TE} {x : Out} (h : EvV D m ta σ H x) : EvV D m (tCB (rIsi K) (tCons ta (tCons (tC (.ty "list")) tNil))) σ H x.isList := fun H1 g c Q w => h H1 g c _ fun x' v H2 g2 r e => by
  subst e
  cases x' with
  | no =>
    cases (show v = V.str "no" from r)
    exact ⟨_, _, _, _, false, rfl, .ty "list", .base (.str _), kit_ty (by decide +kernel : kitB "str" "list" = some false), w false _ H2 g2 rfl rfl⟩
  | full l =>
    obtain ⟨a, u, rfl, h1, _⟩ := r
    exact ⟨_, _, _, _, false, rfl, .ty "list", .base (.tup h1), kit_ty (by decide +kernel : kitB "tuple" "list" = some false), w false _ H2 g2 rfl rfl⟩
  | list l =>
    have r' : Rp.rp m H2 l v := r
    exact ⟨_, _, _, _, true, rfl, .ty "list", ty_list r', kit_ty (by decide +kernel : kitB "list" "list" = some true), w true _ H2 g2 rfl rfl⟩
end
/-! ### none, "no", or the stuck cells -/
inductive Out3 where
  | non
  | no
  | list (l : List Int)
  deriving DecidableEq
instance : Rp Out3 := ⟨fun m H x v => match x with
  | .non => v = .non
  | .no => v = .str "no"
  | .list l => Rp.rp m H l v, fun {m m' H H' x v} k t h => by
    cases x with
    | non => exact h
    | no => exact h
    | list l => exact Rp.go (α := List Int) k t h⟩
instance : Dat Out3 := ⟨fun x => match x with
  | .non => .none
  | .no => .str "no"
  | .list l => Dat.dat l, fun _ => True, 3, fun {K m H x v} r => by
    cases x with
    | non => cases (show v = V.non from r); exact .non
    | no => cases (show v = V.str "no" from r); exact .str "no"
    | list l => exact Dat.dp (α := List Int) (x := l) r, fun x _ => by
    cases x with
    | non => simp only [PyData.canLay0]
    | no => simp only [PyData.canLay0]; decide +kernel
    | list l => exact Dat.can l (ok_ints l), fun x => by
    cases x with
    | non => simp [PyData.depth]
    | no => simp [PyData.depth]
    | list l => show PyData.depth (Dat.dat l) ≤ 3; have := Dat.depth l; have h : Dat.dep (List Int) = 1 := rfl; omega, fun x y => by
    cases x with
    | non =>
      cases y with
      | non => show PyData.eqv .none .none = true ↔ _; simp [PyData.eqv]
      | no => show PyData.eqv .none (.str "no") = true ↔ _; simp [PyData.eqv]
      | list l => show PyData.eqv .none (.list (l.map Dat.dat)) = true ↔ _; simp [PyData.eqv]
    | no =>
      cases y with
      | non => show PyData.eqv (.str "no") .none = true ↔ _; simp [PyData.eqv]
      | no => show PyData.eqv (.str "no") (.str "no") = true ↔ _; simp [PyData.eqv]
      | list l => show PyData.eqv (.str "no") (.list (l.map Dat.dat)) = true ↔ _; simp [PyData.eqv]
    | list l =>
      cases y with
      | non => show PyData.eqv (.list (l.map Dat.dat)) .none = true ↔ _; simp [PyData.eqv]
      | no => show PyData.eqv (.list (l.map Dat.dat)) (.str "no") = true ↔ _; simp [PyData.eqv]
      | list l2 => show PyData.eqv (Dat.dat l) (Dat.dat l2) = true ↔ _; rw [Dat.eq]; simp⟩
def Out3.isList : Out3 → Bool
  | .list _ => true
  | _ => false
theorem Out3.list_of {x : Out3} (h : x.isList = true) : ∃ l, x = .list l := by
  cases x with
  | non => cases h
  | no => cases h
  | list l => exact ⟨l, rfl⟩
section
variable {C : Addr} {D : Dst} {m : List Addr} {σ : St} {H : Hp}
theorem ev_isOut3 {K : PySem.W.Frag} {ta : TE} {x : Out3} (h : EvV D m ta σ H x) : EvV D m (tCB (rIsi K) (tCons ta (tCons (tC (.ty "list")) tNil))) σ H x.isList := fun H1 g c Q w => h H1 g c _ fun x' v H2 g2 r e => by
  subst e
  cases x' with
  | non =>
    cases (show v = V.non from r)
    exact ⟨_, _, _, _, false, rfl, .ty "list", .base .non, kit_ty (by decide +kernel : kitB "NoneType" "list" = some false), w false _ H2 g2 rfl rfl⟩
  | no =>
    cases (show v = V.str "no" from r)
    exact ⟨_, _, _, _, false, rfl, .ty "list", .base (.str _), kit_ty (by decide +kernel : kitB "str" "list" = some false), w false _ H2 g2 rfl rfl⟩
  | list l =>
    have r' : Rp.rp m H2 l v := r
    exact ⟨_, _, _, _, true, rfl, .ty "list", ty_list r', kit_ty (by decide +kernel : kitB "list" "list" = some true), w true _ H2 g2 rfl rfl⟩
end
/-! ### more rules -/
section
variable {α β : Type} [Rp α] [Rp β] {K : PySem.W.Frag} {D : Dst} {m : List Addr} {σ : St} {H H' : Hp} {ta tb : TE} {En : Ends} {i : Nat} {t z : TS} {tt : TT}
theorem ev_neB {x y : Bool} (ha : EvV D m ta σ H x) (hb : EvV D m tb σ H y) : EvV D m (tOp rNe ta tb) σ H (!decide (x = y)) := fun H1 e c Q w =>
  ha H1 e c _ fun x' v H2 e2 ri pi => hb H2 (e.trans e2) (c.go e2) _ fun y' u H3 e3 rj qj => by
    subst pi qj
    cases rp_bool ri
    cases rp_bool rj
    exact ⟨rfl, w _ _ H3 (e2.trans e3) (by cases x' <;> cases y' <;> rfl) rfl⟩
theorem ev_eqB {x y : Bool} (ha : EvV D m ta σ H x) (hb : EvV D m tb σ H y) : EvV D m (tOp rEq ta tb) σ H (decide (x = y)) := fun H1 e c Q w =>
  ha H1 e c _ fun x' v H2 e2 ri pi => hb H2 (e.trans e2) (c.go e2) _ fun y' u H3 e3 rj qj => by
    subst pi qj
    cases rp_bool ri
    cases rp_bool rj
    exact ⟨rfl, w _ _ H3 (e2.trans e3) (by cases x' <;> cases y' <;> rfl) rfl⟩
/-- an if without else, what follows told by J -/
theorem q_whenJ (J : St → Hp → Prop) (hz : ∀ σ1 H1, J σ1 H1 → z En σ1 H1) (h : (∀ σ1 H1, J σ1 H1 → z En σ1 H1) → tt σ H fun b H1 => if b = true then t { En with nx := z En } σ H1 else z En σ H1) : tSeq (tIfS tt t tNext) z En σ H := h hz
/-- for told in [e1, e2]: told.append(0) -/
theorem q_told2 {xs : List α} {ys : List β} (c : Cc D m H) (h1 : EvLV D m ta σ H xs) (h2 : EvLV D m tb σ H ys) (l1 : xs.length ≤ 1000) (l2 : ys.length ≤ 1000) (hi : i < σ.length) (k : ∀ o H', Gd D H H' → z En (σ.set i o) H') :
    tSeq (tFor (iList K (tLst (tCons ta (tCons tb tNil)))) (gName i) (tDrop (tBM K "list" rAppend (tVar i) (tCons (tC (.int 0)) tNil)))) z En σ H := by
  refine h1 H .refl c _ fun xs' a1 H1 n1 g1 o1 e1 => h2 H1 g1 (c.go g1) _ fun ys' a2 H2 n2 g2 o2 e2 => ⟨(by show 2 ≤ sizeLine; decide), fun l hl => ?_⟩
  subst e1 e2
  obtain ⟨_, v1, ha1, p1⟩ := o1.gd (c.go g1) g2
  obtain ⟨_, v2, ha2, p2⟩ := o2
  have e1 := p1.length
  have e2 := p2.length
  have na1l : a1 ≠ l := ne_of_none ha1 hl
  have na2l : a2 ≠ l := ne_of_none ha2 hl
  have na12 : a1 ≠ a2 := by
    obtain ⟨w1, hw1, _⟩ := o1.ex
    exact ne_of_none hw1 n2
  have nH2 : H a2 = none := g1.gr.dom a2 n2
  have nHl : H l = none := (g1.trans g2).gr.dom l hl
  refine ⟨l, rfl, ⟨_, .of upd_same⟩, for_list (K := K) (a := l) (xs := [.ref a1, .ref a2]) (fun j s' H' => ∃ o, s' = σ.set i o ∧ Gd D H H' ∧ H' l = some (.lst [.ref a1, .ref a2]) ∧ (∃ u1, H' a1 = some (.lst u1) ∧ u1.length ≤ 1000 + j) ∧ ∃ u2, H' a2 = some (.lst u2) ∧ u2.length ≤ 1000 + j) ?_ ?_ ?_ ?_⟩
  · exact ⟨σ[i], by simp, (g1.trans g2).trans (.new hl), upd_same, ⟨v1, by rw [upd_ne na1l]; exact ha1, by omega⟩, ⟨v2, by rw [upd_ne na2l]; exact ha2, by omega⟩⟩
  · rintro j s' H' _ ⟨o, _, _, h, _⟩
    exact .of h
  · rintro j w s' H' hj ⟨o, rfl, g', hl', ⟨u1, h1', b1⟩, u2, h2', b2⟩
    have hj2 : j < 2 := (List.getElem?_eq_some_iff.mp hj).1
    refine g_name ?_
    rw [List.set_set]
    match j, hj2, hj, b1, b2 with
    | 0, _, hj, b1, b2 =>
      cases hj
      refine ⟨_, List.getElem?_set_self hi, .inl ⟨rfl, _, .inl (.inl h1')⟩, a1, u1, _, rfl, rfl, h1', Evl.sz_lt (by omega), ?_⟩
      refine ⟨_, rfl, mut_gd g' c n1, ?_, ⟨_, upd_same, by rw [List.length_append]; show u1.length + 1 ≤ _; omega⟩, ⟨u2, ?_, by omega⟩⟩
      · rw [upd_ne na1l.symm]; exact hl'
      · rw [upd_ne na12.symm]; exact h2'
    | 1, _, hj, b1, b2 =>
      cases hj
      refine ⟨_, List.getElem?_set_self hi, .inl ⟨rfl, _, .inl (.inl h2')⟩, a2, u2, _, rfl, rfl, h2', Evl.sz_lt (by omega), ?_⟩
      refine ⟨_, rfl, mut_gd g' c nH2, ?_, ⟨u1, ?_, by omega⟩, ⟨_, upd_same, by rw [List.length_append]; show u2.length + 1 ≤ _; omega⟩⟩
      · rw [upd_ne na2l.symm]; exact hl'
      · rw [upd_ne na12]; exact h1'
  · rintro s' H' ⟨o, rfl, g', _⟩
    exact k o H' g'
end
section
variable {C : Addr}
def o3 (x : Sv C) (k : Int) : Out3 := if x.yes k = true then if x.stuck k = [] then .non else .list (x.stuck k) else .no
theorem stuck_len (x : Sv C) (k : Int) : (x.stuck k).length ≤ x.hands.length := by
  unfold Sv.stuck
  rw [(isort_perm _).length_eq, List.length_map]
  have h1 := List.length_filter_le (fun kv : Int × Int => decide (cat x.cells kv.1 = x.cap)) (wanted x k)
  have h2 : (wanted x k).length ≤ (pointed x.hands x.size k).length := tally_len _
  have h3 : (pointed x.hands x.size k).length = x.hands.length := by unfold pointed; simp
  omega
theorem Sv.Good.take1 {x : Sv C} (h : x.Good) (k : Int) : (x.take1 k).Good := h.to ⟨rfl, rfl, rfl⟩ (by
  have := h.n
  unfold Sv.take1
  dsimp only
  rw [foldl_len dec1_len]
  exact this)
theorem Sv.Good.put1 {x : Sv C} (h : x.Good) (k : Int) : (x.put1 k).Good := h.to ⟨rfl, rfl, rfl⟩ (by
  have := h.n
  unfold Sv.put1
  dsimp only
  rw [foldl_len (inc_len _)]
  exact this)
/-- the counts of a sieve out of which a key was taken, one by one -/
theorem take1_at {x : Sv C} (h : x.Good) (k : Int) {j : Nat} {n : Int} (hj : x.cells[j]? = some n) : (x.take1 k).cells[j]? = some (n - ((pointed x.hands x.size k).count (j : Int) : Int)) := by
  have hn := h.n
  have h0 := h.s0
  have hin : InR x.cells.length (pointed x.hands x.size k) := inR_pointed (by omega) hn
  have hjl : j < x.cells.length := (List.getElem?_eq_some_iff.mp hj).1
  have hlen : (x.take1 k).cells.length = x.cells.length := by unfold Sv.take1; dsimp only; rw [foldl_len dec1_len]
  have hn' : n = cat x.cells (j : Int) := by
    unfold cat
    rw [show ((j : Int)).toNat = j by omega, hj]
    rfl
  have hc : cat (x.take1 k).cells (j : Int) = cat x.cells (j : Int) - ((pointed x.hands x.size k).count (j : Int) : Int) := by
    unfold Sv.take1
    dsimp only
    rw [cat_dec hin (by omega)]
  rw [hn', ← hc]
  unfold cat
  rw [show ((j : Int)).toNat = j by omega, List.getElem?_eq_getElem (by omega)]
  rfl
end
end KS
set_option Elab.async false
set_option linter.all false
set_option maxRecDepth 100000
set_option maxHeartbeats 4000000
/-! ### set(xs) of a list of whole numbers -/
namespace L2
open PySem PySem.Spec PyProof.Rows
/-- the empty set as the model lays it -/
abbrev set0 (w : World) : Obj := { cls := .type "set", dict := none, data := .set #[] 0 (.fresh 0 0 (!w.params.followText "set-order")) }
section
variable {P : Program} {w : World} {A : Around} {E : Value → Shared → Prop} {s : Shared}
set_option maxHeartbeats 3200000 in
theorem call_set_listI {l : Addr} {items : Array Value} (ns : List Int) {Q : Value → Shared → Prop} (hh : A.handled = none) (hl : s.heap.IsList l items) (hit : IntsAre items.toList ns) (hb : ns.length + 1 < scanBound)
    (h : ∀ (h' : Heap) (tk c : Nat), SetR w h' s.heap.objs.size (fun j => decide (j ∈ ns)) c → c ≤ ns.length → (∀ b o, s.heap.get? b = some o → h'.get? b = some o) → Q (.ref s.heap.objs.size) { s with heap := h', toks := tk }) :
    wpAny (model P w) A (call (.type "set") [.ref l]) Q E s := by
  have hisz : items.size = ns.length := by have q := IntsAre.length hit; rw [Array.length_toList] at q; exact q
  obtain ⟨c, tl, hmro⟩ := F.called_set.mro
  have hmade := F.called_set.made
  have hsub := F.called_set.sub
  refine wpAny_call (codeAny_of_tree ?_)
  show wpAny _ _ (callAny (.type "set") _) _ _ _
  refine wpAny_pure ⟨Code.quiet_builtin _ (by decide +kernel), codeAny_builtin F.entry_type_call ?_⟩
  rw [Around.under_plain (weight_type_call_type "set" [.ref l] []) rfl]
  have h1 := F.called_set.notType
  have h2 := F.called_set.canCreate
  have hct := F.typeCall_set_1 (.ref l)
  repeat (any_goals (first | assumption | wp_step))
  refine codeAny_mono (code_set_led1 (.ref l) (E := E) (Q₁ := fun obj s₁ => obj = .ref s.heap.objs.size ∧ s₁ = { s with heap := s.heap.push (set0 w) }) ⟨rfl, rfl⟩) fun r s₁ hr => ?_
  cases r with
  | error e => exact hr
  | ok fl =>
    cases fl with
    | next => exact hr
    | brk => exact hr
    | cont => exact hr
    | ret obj =>
      obtain ⟨rfl, rfl⟩ := hr
      have hS : (s.heap.push (set0 w)).get? s.heap.objs.size = some (set0 w) := Heap.get?_push_size _ rfl
      have hT : Shared.TypeIs { s with heap := s.heap.push (set0 w) } (.ref s.heap.objs.size) "set" := ⟨_, hS, rfl⟩
      have hli := F.called_set.init.lookup
      have hbi := F.called_set.init.bind (.ref s.heap.objs.size)
      repeat (any_goals (first | assumption | wp_step))
      refine codeAny_mono (codeAny_call_builtin (R := wants (fun r s₂ => r = .none ∧ ∃ h' tk c, s₂ = { s with heap := h', toks := tk } ∧ SetR w h' s.heap.objs.size (fun j => decide (j ∈ ns)) c ∧ c ≤ ns.length ∧ (∀ b o, s.heap.get? b = some o → h'.get? b = some o)) E)
        F.called_set.init.plain F.entry_set_init (check_set_init_1 hT ?_)) fun r₂ s₂ hr₂ => ?_
      · obtain ⟨⟨ocls, odict, odata, oslots⟩, hol, hcl, nl, hdl⟩ := hl
        simp only at hcl hdl
        subst hcl hdl
        have hol' : (s.heap.push (set0 w)).get? l = some { cls := .type "list", dict := odict, data := .seq items nl, slots := oslots } := Heap.get?_push_of_some _ hol
        have hsls := F.sub_list_set
        have hslf := F.sub_list_frozenset
        have hne : (Value.type "list" == Value.type "dict") = false := by decide
        have hl1 : (s.heap.push (set0 w)).IsList l items := ⟨_, hol', rfl, nl, rfl⟩
        unfold Builtin.«set.__init__» noKeywords Builtin.Frozenset.updateFrom
        generalize hPI : pyIter = PI
        wp_walk
        subst hPI
        refine wpAny_pyIter_list hl1 (wpAny_bind (wpAny_runValue ?_))
        have hlS : l < s.heap.objs.size := Heap.lt_size hol
        have hz : (s.heap.push (set0 w)).objs.size = s.heap.objs.size + 1 := Heap.size_push ..
        have hh3 : A.in1.in1.in1.handled = none := by simp [hh]
        have hneI : l ≠ (s.heap.push (set0 w)).objs.size := by rw [hz]; exact Nat.ne_of_lt (Nat.lt_succ_of_lt hlS)
        have hSf : s.heap.objs.size ∉ [(s.heap.push (set0 w)).objs.size, l] := by
          rw [hz]
          simp only [List.mem_cons, List.not_mem_nil, or_false, not_or]
          exact ⟨Nat.ne_of_lt (Nat.lt_succ_self _), Nat.ne_of_gt hlS⟩
        have hval : ∀ (i : Nat) (v : Value), items[i]? = some v → ∃ k t, ns[i]? = some k ∧ v = .int k t := fun i v hv => by
          have hi : i < ns.length := by rw [← hisz]; exact (Array.getElem?_eq_some_iff.mp hv).1
          obtain ⟨t, e⟩ := IntsAre.int_at hit i v (by rw [Array.getElem?_toList]; exact hv)
          refine ⟨ns[i], t, List.getElem?_eq_getElem hi, ?_⟩
          rw [e, List.getD_eq_getElem?_getD, List.getElem?_eq_getElem hi]
          rfl
        refine set_update_ints ((Walks.list hh3 _ l hneI items).toS) s.heap.objs.size hSf ns hisz hb hval (items.size - 0) 0 _ (by omega) (Nat.zero_le _) ⟨⟨_, Heap.get?_push_size _ rfl, rfl, rfl⟩, (hl1.push _)⟩ ?z0 ?zR
        case z0 => exact ⟨0, Nat.le_refl 0, setR_new_at (Heap.get?_push_of_some _ hS)⟩
        case zR =>
          rintro ⟨h', g2, d', tk', os'⟩ c' hm hc' hS'
          have eg : g2 = s.gens := hm.gens
          have ed : d' = s.drawn := hm.drawn
          have eo : os' = s.os := hm.os
          subst eg ed eo
          refine wpAny_pure ?_
          show wpAny _ _ (ret Value.none) _ _ _
          rw [hisz] at hc'
          refine wpAny_pure ⟨rfl, h', tk', c', rfl, hS', hc', fun b o e => ?_⟩
          have hb0 : b < s.heap.objs.size := Heap.lt_size e
          refine hm.heap b o ?_ (Heap.get?_push_of_some _ (Heap.get?_push_of_some _ e))
          simp only [List.mem_cons, List.not_mem_nil, or_false, not_or]
          exact ⟨Nat.ne_of_lt hb0, by rw [hz]; exact Nat.ne_of_lt (Nat.lt_succ_of_lt hb0)⟩
      · cases r₂ with
        | error e => exact hr₂
        | ok fl₂ =>
          cases fl₂ with
          | next => exact hr₂
          | brk => exact hr₂
          | cont => exact hr₂
          | ret r =>
            obtain ⟨rfl, h', tk', c', rfl, hS', hc', hk⟩ := hr₂
            repeat (any_goals (first | assumption | wp_step))
            exact h h' tk' c' hS' hc' hk
end
/-- set(xs) -/
def rSetOfI (K : PySem.W.Frag) (w : World) : List V → Hp → VK → Prop := fun xs H Q => ∃ (a : Addr) (ns : List Int), xs = [.ref a] ∧ SqL K H a (ns.map V.int) ∧ ns.length ≤ 1000 ∧
  ∀ (p : Addr) (c : Nat), H p = none → c ≤ ns.length → Q (.ref p) (upd H p (SetO w p (fun j => decide (j ∈ ns)) c))
theorem call_set_of {X : Cx} (hc : X.calm = true) : CallR X (.type "set") (rSetOfI X.K X.w) := by
  intro pins s σ H xs us Q I r h
  obtain ⟨a, ns, rfl, hq, hl, q⟩ := h
  obtain ⟨u, rfl, ru⟩ := vals1 r
  cases ru
  obtain ⟨its, rv, pl, hz⟩ := I.list hq
  refine call_set_listI ns (I.ok.hd hc) pl.isList (by simpa using ints_of_vals rv) (by unfold scanBound; omega) fun h' tk c R1 hcn k => ?_
  exact ⟨.ref _, upd H s.heap.objs.size (SetO X.w s.heap.objs.size (fun j => decide (j ∈ ns)) c), I.laid (t' := tk) k (Nat.le_refl _) (setO_new R1), rfl, q _ c (I.hok.fresh (Nat.le_refl _)) hcn⟩
end L2

namespace KS
open PySem L2
/-- sorted(set(xs)) -/
theorem el_sortedSet {D : Dst} {m : List Addr} {σ : St} {H : Hp} {te : TE} {K : PySem.W.Frag} {w : World} {xs : List Int} (h : EvV D m te σ H xs) (hl : xs.length < 64) : EvLV D m (tCB (rSortedSet w) (tCons (tCB (rSetOfI K w) (tCons te tNil)) tNil)) σ H (sset xs) := fun H1 g c Q k => h H1 g c _ fun xs' v H2 g2 r e => by
  subst e
  obtain ⟨a, vs, rfl, n, ha, ps⟩ := rp_lst r
  have := paired_ints ps
  subst this
  refine ⟨a, xs', rfl, .of ha, by omega, fun p cn hp hc => ⟨p, _, cn, rfl, upd_same, by omega, fun ns q hs hm hn hq => ?_⟩⟩
  have e : ns = sset xs' := lt_unique hs (sset_lt xs') fun x => by rw [hm, sset_mem]; simp
  subst e
  have gp : Gd D H2 (upd H2 p (SetO w p (fun j => decide (j ∈ xs')) cn)) := .new hp
  exact k _ q _ (g2.gr.dom q (gp.gr.dom q hq)) ((g2.trans gp).trans (.new hq)) (.of_ints (((c.go g2).go gp).free hq) upd_same) rfl
end KS
set_option Elab.async false
set_option linter.all false
set_option maxRecDepth 100000
set_option maxHeartbeats 4000000
/-! ### xs[::e]: some of the items -/
namespace L2
open PySem PySem.Spec PyProof.Rows
theorem vals_pick {xs : List V} {us : List Value} (r : Vals xs us) (is : List Nat) : Vals (is.filterMap fun i => xs[i]?) (is.filterMap fun i => us[i]?) := by
  induction is with
  | nil => exact .nil
  | cons i is ih =>
    cases h : xs[i]? with
    | none =>
      have h2 : us[i]? = none := by
        rw [List.getElem?_eq_none_iff] at h ⊢
        rw [← r.length]; exact h
      rw [List.filterMap_cons_none (by rw [h]), List.filterMap_cons_none (by rw [h2])]
      exact ih
    | some x =>
      obtain ⟨u, hu, ru⟩ := r.get h
      rw [List.filterMap_cons_some (by rw [h]), List.filterMap_cons_some (by rw [hu])]
      exact .cons ru ih
def tSlS (K : PySem.W.Frag) (te ts : TE) : TE := fun σ H Q => te σ H fun x H1 => tPart ts σ H1 fun o H2 => ∃ a xs k, x = .ref a ∧ o = some k ∧ k ≠ 0 ∧ SqL K H2 a xs ∧
  ∀ (p : Addr) (is : List Nat), H2 p = none → (is.filterMap fun i => xs[i]?).length ≤ xs.length → (k = 1 ∨ k = -1 → is.Nodup) → (k = 1 ∨ k = -1 → xs ≠ [] → (is.filterMap fun i => xs[i]?) ≠ []) → Q (.ref p) (upd H2 p (.lst (is.filterMap fun i => xs[i]?)))
theorem pick_nodup {n : Nat} {k : Int} (h : k = 1 ∨ k = -1) : (sliceRange (sliceBounds none none (some k) n).1 (sliceBounds none none (some k) n).2.1 (sliceBounds none none (some k) n).2.2).Nodup := by
  unfold sliceRange sliceBounds List.Nodup
  rw [List.pairwise_map]
  rcases h with rfl | rfl
  · refine List.Pairwise.imp_of_mem (fun ha hb hlt => ?_) List.pairwise_lt_range
    simp only [Option.getD_some] at *
    simp
    omega
  · refine List.Pairwise.imp_of_mem (fun ha hb hlt => ?_) List.pairwise_lt_range
    have ha' := List.mem_range.mp ha
    have hb' := List.mem_range.mp hb
    simp at ha' hb'
    simp
    split at ha'
    · split at hb'
      · omega
      · omega
    · omega
theorem pick_some {n : Nat} {k : Int} (hk : k = 1 ∨ k = -1) (hn : 0 < n) : ∃ i, i < n ∧ i ∈ sliceRange (sliceBounds none none (some k) n).1 (sliceBounds none none (some k) n).2.1 (sliceBounds none none (some k) n).2.2 := by
  unfold sliceRange sliceBounds
  rcases hk with rfl | rfl
  · refine ⟨0, hn, List.mem_map.mpr ⟨0, List.mem_range.mpr ?_, ?_⟩⟩
    · simp
      omega
    · simp
  · refine ⟨n - 1, by omega, List.mem_map.mpr ⟨0, List.mem_range.mpr ?_, ?_⟩⟩
    · simp
      omega
    · simp
theorem pe_slStep {X : Cx} {e st : Expr} {te ts : TE} {p3 pos : Pos} (he : PE X e te) (hs : PE X st ts) : PE X (.Subscript e (.Slice none none (some st) p3) pos) (tSlS X.K te ts) := by
  refine ⟨fun pins s σ H Q I h => ?_⟩
  refine Subscript_ (thn (he.run pins s σ H _ I h) fun v s1 ⟨x, H1, I1, r1, q1⟩ => ?_)
  refine wpAny_Slice (thn (po_none.run pins s1 σ H1 (fun o H2 => o = none ∧ H2 = H1) I1 ⟨rfl, rfl⟩) fun vl s2 ⟨l, H2, I2, pl, el, e2⟩ => ?_)
  subst el e2
  refine thn (po_none.run pins s2 σ H2 (fun o H3 => o = none ∧ H3 = H2) I2 ⟨rfl, rfl⟩) fun vu s3 ⟨u, H3, I3, pu, eu, e3⟩ => ?_
  subst eu e3
  refine thn ((po_some hs).run pins s3 σ H3 _ I3 q1) fun vs s4 ⟨o, H4, I4, ps, a, xs, k, ex, eo, hk, hx, q⟩ => ?_
  subst eo ex
  cases r1
  have I5 : Inv X pins σ H4 { s4 with heap := s4.heap.push { cls := .type "slice", data := .fields #[vl, vu, vs] } } := I4.kept (t' := s4.toks) fun b ob q => Heap.get?_push_of_some _ q
  obtain ⟨its, r, ht, hz⟩ := I5.list hx
  have hlen := r.length
  show wpAny (model X.prog X.w) X.A (subscriptTail e (.Slice none none (some st) p3) (.ref a) (.ref s4.heap.objs.size)) (EP X pins σ Q) X.xe { s4 with heap := s4.heap.push { cls := .type "slice", data := .fields #[vl, vu, vs] } }
  refine tail_any (ops := [.ref a, .ref s4.heap.objs.size]) ht.isList.typeIs (PySem.slot_list_getitem.lookup) ?_ (by with_unfolding_all rfl)
  refine wpAny_getItem_list_slice ht.isList (Heap.IsSliceOf.new _ vl vu vs) pl pu ps (fun z => hk (Option.some.inj z)) ?_ (by rw [List.size_toArray]; omega)
  have hsz := slicePick_size_le its.toArray none none (some k)
  obtain ⟨is, eis, hnd, hne⟩ : ∃ is : List Nat, slicePick its.toArray none none (some k) = (is.filterMap fun i => its[i]?).toArray ∧ (k = 1 ∨ k = -1 → is.Nodup) ∧ (k = 1 ∨ k = -1 → 0 < its.toArray.size → ∃ i, i < its.toArray.size ∧ i ∈ is) := ⟨sliceRange (sliceBounds none none (some k) its.toArray.size).1 (sliceBounds none none (some k) its.toArray.size).2.1 (sliceBounds none none (some k) its.toArray.size).2.2, by
    unfold slicePick
    simp only [List.getElem?_toArray], pick_nodup, pick_some⟩
  rw [eis] at hsz ⊢
  have rv := vals_pick r is
  rw [List.size_toArray, List.size_toArray, ← rv.length] at hsz
  refine ⟨.ref _, _, I5.laid (t' := s4.toks) (o := .lst (is.filterMap fun i => xs[i]?)) (fun b ob q => Heap.get?_push_of_some _ q) (Nat.le_refl _) ?_, rfl, q _ is (I5.hok.fresh (Nat.le_refl _)) (by omega) hnd fun hk1 hx z => ?_⟩
  · exact ⟨by omega, _, 0, rv, Heap.get?_push_size _ rfl⟩
  · have hl := List.length_pos_iff.mpr hx
    obtain ⟨i, hi, him⟩ := hne hk1 (by rw [List.size_toArray]; omega)
    rw [List.size_toArray] at hi
    have := List.filterMap_eq_nil_iff.mp z i him
    rw [List.getElem?_eq_none_iff] at this
    omega
end L2
namespace KS
open PySem L2
/-- xs[::k]: items of xs -/
theorem el_step {α : Type} [Rp α] {D : Dst} {m : List Addr} {σ : St} {H : Hp} {ta tb : TE} {K : PySem.W.Frag} {p : List α → Prop} {q : Int → Prop} {r : List α → Prop} (ha : Ev D m ta σ H p) (hb : Ev D m tb σ H q) (hq : ∀ k, q k → k ≠ 0) (h : ∀ xs ys : List α, p xs → (∀ y, y ∈ ys → y ∈ xs) → ys.length ≤ xs.length → ((∀ k, q k → k = 1 ∨ k = -1) → xs.Nodup → ys.Nodup) → r ys) : EvL D m (tSlS K ta tb) σ H r := fun H1 g1 c Q w => ha H1 g1 c _ fun xs v H2 g2 r1 px => hb H2 (g1.trans g2) (c.go g2) _ fun k v' H3 g3 r' qk => by
  cases rp_int r'
  obtain ⟨a, vs, rfl, nm, ha, ps⟩ := rp_lst (rp_gd r1 (c.go g2) g3)
  refine ⟨k, rfl, a, vs, k, rfl, rfl, hq k qk, .of ha, fun pp is hp hl hnd hne => ?_⟩
  have pick : ∀ is : List Nat, Paired (Rp.rp m H3) (is.filterMap fun i => xs[i]?) (is.filterMap fun i => vs[i]?) := fun is => by
    induction is with
    | nil => exact .nil
    | cons i is ih =>
      cases h : xs[i]? with
      | none =>
        have h2 : vs[i]? = none := by
          rw [List.getElem?_eq_none_iff] at h ⊢
          rw [← ps.length]; exact h
        rw [List.filterMap_cons_none (by rw [h]), List.filterMap_cons_none (by rw [h2])]
        exact ih
      | some x =>
        obtain ⟨u, hu, ru⟩ := paired_at ps h
        rw [List.filterMap_cons_some (by rw [h]), List.filterMap_cons_some (by rw [hu])]
        exact .cons ru ih
  have pp1 := pick is
  refine w _ pp _ ((g2.trans g3).gr.dom pp hp) ((g2.trans g3).trans (.new hp)) ⟨((c.go g2).go g3).free hp, _, upd_same, paired_go pp1 fun _ _ r => rp_g0 r (.new hp)⟩ (h xs _ px (fun y hy => ?_) ?_ fun hk hx => ?_)
  · obtain ⟨i, _, hi⟩ := List.mem_filterMap.mp hy
    exact List.mem_of_getElem? hi
  · rw [pp1.length, ps.length]; exact hl
  · unfold List.Nodup
    rw [List.pairwise_filterMap]
    refine List.Pairwise.imp_of_mem (fun {i j} hi hj hne => ?_) (hnd (hk k qk))
    intro b hb b' hb' e
    subst e
    have hlt := (List.getElem?_eq_some_iff.mp hb).1
    exact hne (List.getElem?_inj hlt hx |>.mp (hb.trans hb'.symm))
/-- xs[::k]: items of xs, some where xs has some -/
theorem el_stepN {α : Type} [Rp α] {D : Dst} {m : List Addr} {σ : St} {H : Hp} {ta tb : TE} {K : PySem.W.Frag} {p : List α → Prop} {q : Int → Prop} {r : List α → Prop} (ha : Ev D m ta σ H p) (hb : Ev D m tb σ H q) (hq : ∀ k, q k → k ≠ 0) (h : ∀ xs ys : List α, p xs → (∀ y, y ∈ ys → y ∈ xs) → ys.length ≤ xs.length → ((∀ k, q k → k = 1 ∨ k = -1) → xs.Nodup → ys.Nodup) → ((∀ k, q k → k = 1 ∨ k = -1) → xs ≠ [] → ys ≠ []) → r ys) : EvL D m (tSlS K ta tb) σ H r := fun H1 g1 c Q w => ha H1 g1 c _ fun xs v H2 g2 r1 px => hb H2 (g1.trans g2) (c.go g2) _ fun k v' H3 g3 r' qk => by
  cases rp_int r'
  obtain ⟨a, vs, rfl, nm, ha, ps⟩ := rp_lst (rp_gd r1 (c.go g2) g3)
  refine ⟨k, rfl, a, vs, k, rfl, rfl, hq k qk, .of ha, fun pp is hp hl hnd hne => ?_⟩
  have pick : ∀ is : List Nat, Paired (Rp.rp m H3) (is.filterMap fun i => xs[i]?) (is.filterMap fun i => vs[i]?) := fun is => by
    induction is with
    | nil => exact .nil
    | cons i is ih =>
      cases h : xs[i]? with
      | none =>
        have h2 : vs[i]? = none := by
          rw [List.getElem?_eq_none_iff] at h ⊢
          rw [← ps.length]; exact h
        rw [List.filterMap_cons_none (by rw [h]), List.filterMap_cons_none (by rw [h2])]
        exact ih
      | some x =>
        obtain ⟨u, hu, ru⟩ := paired_at ps h
        rw [List.filterMap_cons_some (by rw [h]), List.filterMap_cons_some (by rw [hu])]
        exact .cons ru ih
  have pp1 := pick is
  refine w _ pp _ ((g2.trans g3).gr.dom pp hp) ((g2.trans g3).trans (.new hp)) ⟨((c.go g2).go g3).free hp, _, upd_same, paired_go pp1 fun _ _ r => rp_g0 r (.new hp)⟩ (h xs _ px (fun y hy => ?_) ?_ (fun hk hx => ?_) fun hk hx => ?_)
  · obtain ⟨i, _, hi⟩ := List.mem_filterMap.mp hy
    exact List.mem_of_getElem? hi
  · rw [pp1.length, ps.length]; exact hl
  · unfold List.Nodup
    rw [List.pairwise_filterMap]
    refine List.Pairwise.imp_of_mem (fun {i j} hi hj hne => ?_) (hnd (hk k qk))
    intro b hb b' hb' e
    subst e
    have hlt := (List.getElem?_eq_some_iff.mp hb).1
    exact hne (List.getElem?_inj hlt hx |>.mp (hb.trans hb'.symm))
  · intro z
    have e : vs ≠ [] := fun e => hx (List.eq_nil_of_length_eq_zero (by rw [ps.length, e]; rfl))
    have l := pp1.length
    rw [z] at l
    exact hne (hk k qk) e (List.eq_nil_of_length_eq_zero l.symm)
end KS
set_option Elab.async false
set_option linter.all false
set_option maxRecDepth 100000
set_option maxHeartbeats 4000000
namespace KS
open PySem L2
/-! ### sums over what leaves a rest: plain laws -/
def sumR (n : Nat) (f : Nat → Int) : Int := ((List.range n).map f).sum
theorem sumR_succ (n : Nat) (f : Nat → Int) : sumR (n + 1) f = sumR n f + f n := by
  unfold sumR
  rw [List.range_succ, List.map_append, List.sum_append]
  simp
theorem sumR_congr {n : Nat} {f g : Nat → Int} (h : ∀ k, k < n → f k = g k) : sumR n f = sumR n g := by
  induction n with
  | zero => rfl
  | succ n ih => rw [sumR_succ, sumR_succ, ih fun k hk => h k (by omega), h n (by omega)]
theorem sumR_add (n : Nat) (f g : Nat → Int) : sumR n (fun k => f k + g k) = sumR n f + sumR n g := by
  induction n with
  | zero => rfl
  | succ n ih => rw [sumR_succ, sumR_succ, sumR_succ, ih]; omega
theorem sumR_zero (n : Nat) : sumR n (fun _ => 0) = 0 := by
  induction n with
  | zero => rfl
  | succ n ih => rw [sumR_succ, ih]; rfl
theorem sumR_le {n : Nat} {f g : Nat → Int} (h : ∀ k, k < n → f k ≤ g k) : sumR n f ≤ sumR n g := by
  induction n with
  | zero => exact Int.le_refl _
  | succ n ih =>
    rw [sumR_succ, sumR_succ]
    have := ih fun k hk => h k (by omega)
    have := h n (by omega)
    omega
theorem sumR_nonneg {n : Nat} {f : Nat → Int} (h : ∀ k, k < n → 0 ≤ f k) : 0 ≤ sumR n f := by
  have := sumR_le (n := n) (f := fun _ => 0) (g := f) h
  rw [sumR_zero] at this
  exact this
theorem sumR_ge {n j : Nat} {f : Nat → Int} (h : ∀ k, k < n → 0 ≤ f k) (hj : j < n) : f j ≤ sumR n f := by
  induction n with
  | zero => omega
  | succ n ih =>
    rw [sumR_succ]
    by_cases e : j = n
    · subst e
      have := sumR_nonneg (n := j) (f := f) fun k hk => h k (by omega)
      omega
    · have := ih (fun k hk => h k (by omega)) (by omega)
      have := h n (by omega)
      omega
theorem sumR_one (n k0 : Nat) : sumR n (fun k => if k = k0 then 1 else 0) = if k0 < n then 1 else 0 := by
  induction n with
  | zero => rfl
  | succ n ih =>
    rw [sumR_succ, ih]
    by_cases h1 : k0 < n
    · rw [if_pos h1, if_neg (by omega), if_pos (by omega)]; rfl
    · rw [if_neg h1]
      by_cases h2 : n = k0
      · rw [if_pos h2, if_pos (by omega)]; rfl
      · rw [if_neg h2, if_neg (by omega)]; rfl
/-- what is capped one by one, capped together -/
theorem sumR_min {cap : Int} (h0 : 0 ≤ cap) {n : Nat} {f : Nat → Int} (h : ∀ k, k < n → 0 ≤ f k) : min cap (sumR n fun k => min cap (f k)) = min cap (sumR n f) := by
  induction n with
  | zero => rfl
  | succ n ih =>
    rw [sumR_succ, sumR_succ]
    have i1 := ih fun k hk => h k (by omega)
    have h1 := h n (by omega)
    have h2 := sumR_nonneg (n := n) (f := f) fun k hk => h k (by omega)
    have h3 := sumR_nonneg (n := n) (f := fun k => min cap (f k)) fun k hk => by
      have := h k (by omega)
      omega
    omega
/-- the sum over all cells that leave the rest i by less -/
def fibs (g : Int → Int) (size less i : Int) : Int := sumR (size / less).toNat fun k => g (i + (k : Int) * less)
theorem fib_one {p size less i : Int} (h0 : 0 < less) (hd : size % less = 0) (hp : 0 ≤ p ∧ p < size) (hi : 0 ≤ i ∧ i < less) : fibs (fun j => if p = j then 1 else 0) size less i = if p % less = i then 1 else 0 := by
  have e1 : p = less * (p / less) + p % less := (Int.mul_ediv_add_emod p less).symm
  have e2 : size = less * (size / less) := by have := Int.mul_ediv_add_emod size less; omega
  have b1 := Int.emod_nonneg p (show less ≠ 0 by omega)
  have b2 := Int.emod_lt_of_pos p h0
  have q0 : 0 ≤ p / less := Int.ediv_nonneg hp.1 (by omega)
  have q1 : p / less < size / less := by
    refine Int.ediv_lt_of_lt_mul h0 ?_
    rw [Int.mul_comm, ← e2]
    exact hp.2
  unfold fibs
  by_cases h : p % less = i
  · rw [if_pos h]
    have : sumR (size / less).toNat (fun k => if p = i + (k : Int) * less then 1 else 0) = sumR (size / less).toNat (fun k => if k = (p / less).toNat then 1 else 0) := sumR_congr fun k _ => by
      by_cases z : k = (p / less).toNat
      · rw [if_pos z, if_pos]
        rw [z, show (((p / less).toNat : Nat) : Int) = p / less by omega, Int.mul_comm, ← h]
        omega
      · rw [if_neg z, if_neg]
        intro q
        apply z
        have : p / less = (k : Int) := by
          rw [q, Int.add_mul_ediv_right _ _ (by omega), Int.ediv_eq_zero_of_lt hi.1 hi.2]
          omega
        omega
    rw [this, sumR_one, if_pos (by omega)]
  · rw [if_neg h]
    have : sumR (size / less).toNat (fun k => if p = i + (k : Int) * less then 1 else 0) = sumR (size / less).toNat (fun _ => 0) := sumR_congr fun k _ => by
      rw [if_neg]
      intro q
      apply h
      rw [q, Int.add_mul_emod_self_right, Int.emod_eq_of_lt hi.1 hi.2]
    rw [this, sumR_zero]
theorem fibs_add (f g : Int → Int) (size less i : Int) : fibs (fun j => f j + g j) size less i = fibs f size less i + fibs g size less i := sumR_add _ _ _
theorem fibs_count {ps : List Int} {size less i : Int} (h0 : 0 < less) (hd : size % less = 0) (hp : ∀ p, p ∈ ps → 0 ≤ p ∧ p < size) (hi : 0 ≤ i ∧ i < less) : ((ps.map (· % less)).count i : Int) = fibs (fun j => (ps.count j : Int)) size less i := by
  induction ps with
  | nil => unfold fibs; simp [sumR_zero]
  | cons p r ih =>
    rw [List.map_cons, List.count_cons]
    have e : (fun j : Int => (((p :: r).count j : Nat) : Int)) = fun j => ((r.count j : Nat) : Int) + (if p = j then 1 else 0) := by
      funext j
      rw [List.count_cons]
      by_cases h : p = j
      · simp [h]
      · simp [h]
    rw [e, fibs_add, fib_one h0 hd (hp p (by simp)) hi, ← ih fun q hq => hp q (by simp [hq])]
    by_cases h : p % less = i
    · simp [h]
    · simp [h]
theorem pointed_less {hands : List (Int × Int)} {size less key : Int} (h0 : 0 < less) (hd : size % less = 0) : pointed hands less key = (pointed hands size key).map (· % less) := by
  unfold pointed
  rw [List.map_map]
  refine List.map_congr_left fun h _ => ?_
  show (key * h.1 + h.2) % 10007 % less = (key * h.1 + h.2) % 10007 % size % less
  rw [Int.emod_emod_of_dvd _ (Int.dvd_of_emod_eq_zero hd)]
theorem cnt_less {keys : List Int} {hands : List (Int × Int)} {size less i : Int} (hs : 0 < size) (h0 : 0 < less) (hd : size % less = 0) (hi : 0 ≤ i ∧ i < less) : cnt keys less hands i = fibs (fun j => cnt keys size hands j) size less i := by
  induction keys with
  | nil => unfold fibs cnt; simp [sumR_zero]
  | cons k r ih =>
    have e : (fun j => cnt (k :: r) size hands j) = fun j => ((pointed hands size k).count j : Int) + cnt r size hands j := by
      funext j
      unfold cnt
      rw [List.map_cons, List.sum_cons]
    rw [e, fibs_add, ← ih, ← fibs_count h0 hd (fun p hp => pointed_mem hs hp) hi, ← pointed_less h0 hd]
    unfold cnt
    rw [List.map_cons, List.sum_cons]
section
variable {C : Addr}
/-! ### joined, cut -/
def joins (x y : Sv C) : Sv C := ⟨x.size, x.hands, x.cap, (x.cells.zip y.cells).map fun p => min x.cap (p.1 + p.2)⟩
abbrev kindOf (x : Sv C) : Tri Int (List (Int × Int)) Int := ⟨x.size, x.hands, x.cap⟩
def joinF (x y : Sv C) : Except Err (Sv C) := if kindOf x = kindOf y then .ok (joins x y) else .error .unlike
def cuts (x : Sv C) (less : Int) : Sv C := ⟨less, x.hands, x.cap, (List.range less.toNat).map fun (i : Nat) => min x.cap (fibs (cat x.cells) x.size less (i : Int))⟩
def cutB (size less : Int) : Bool := decide (1 ≤ less) && (decide (less ≤ size) && decide (size % less = 0))
def cutF (x : Sv C) (less : Int) : Except Err (Sv C) := if cutB x.size less = true then .ok (cuts x less) else .error (.badSieve "size")
variable {keys more : List Int} {size cap k less : Int} {hands : List (Int × Int)}
theorem joins_of (h0 : 0 < size) (hc : 0 ≤ cap) : joins (svOf C keys size hands cap) (svOf C more size hands cap) = svOf C (keys ++ more) size hands cap := by
  unfold joins svOf
  dsimp only
  congr 1
  have hz : ((counts keys size hands cap).zip (counts more size hands cap)).length = size.toNat := by rw [List.length_zip, counts_len, counts_len]; omega
  refine ext_cat (by rw [List.length_map, hz, counts_len]) fun i hi hi1 => ?_
  rw [List.length_map, hz] at hi1
  rw [cat_counts h0 hi (by omega), cnt_append]
  have n1 := cnt_nonneg keys size hands i
  have n2 := cnt_nonneg more size hands i
  have c1 := cat_counts (keys := keys) (hands := hands) (cap := cap) h0 hi (by omega)
  have c2 := cat_counts (keys := more) (hands := hands) (cap := cap) h0 hi (by omega)
  have l1 : i.toNat < (counts keys size hands cap).length := by rw [counts_len]; omega
  have l2 : i.toNat < (counts more size hands cap).length := by rw [counts_len]; omega
  unfold cat at c1 c2 ⊢
  rw [List.getElem?_eq_getElem l1] at c1
  rw [List.getElem?_eq_getElem l2] at c2
  rw [List.getElem?_map, List.getElem?_eq_getElem (by rw [hz]; omega), List.getElem_zip]
  simp only [Option.map_some, Option.getD_some] at c1 c2 ⊢
  rw [c1, c2]
  omega
theorem joinF_of (h0 : 0 < size) (hc : 0 ≤ cap) : joinF (svOf C keys size hands cap) (svOf C more size hands cap) = .ok (svOf C (keys ++ more) size hands cap) := by
  unfold joinF
  rw [if_pos (show kindOf (svOf C keys size hands cap) = kindOf (svOf C more size hands cap) from rfl), joins_of h0 hc]
theorem cnt_comm (j : Int) : cnt (keys ++ more) size hands j = cnt (more ++ keys) size hands j := by rw [cnt_append, cnt_append]; omega
theorem counts_comm (h0 : 0 < size) : counts (keys ++ more) size hands cap = counts (more ++ keys) size hands cap := by
  refine ext_cat (by rw [counts_len, counts_len]) fun i hi hi1 => ?_
  rw [counts_len] at hi1
  rw [cat_counts h0 hi (by omega), cat_counts h0 hi (by omega), cnt_comm]
theorem cuts_of (h0 : 0 < size) (hc : 0 ≤ cap) (h1 : 1 ≤ less) (hd : size % less = 0) : cuts (svOf C keys size hands cap) less = svOf C keys less hands cap := by
  unfold cuts svOf
  dsimp only
  congr 1
  refine ext_cat (by rw [List.length_map, List.length_range, counts_len]) fun i hi hi1 => ?_
  rw [List.length_map, List.length_range] at hi1
  rw [cat_counts (by omega) hi (by omega), cnt_less h0 (by omega) hd ⟨hi, by omega⟩]
  unfold cat
  rw [List.getElem?_map, List.getElem?_eq_getElem (by rw [List.length_range]; omega), List.getElem_range]
  show min cap (fibs (cat (counts keys size hands cap)) size less ((i.toNat : Nat) : Int)) = _
  rw [show ((i.toNat : Nat) : Int) = i by omega]
  have e2 : size = less * (size / less) := by have := Int.mul_ediv_add_emod size less; omega
  have : fibs (cat (counts keys size hands cap)) size less i = sumR (size / less).toNat fun k => min cap (cnt keys size hands (i + (k : Int) * less)) := sumR_congr fun k hk => by
    have hk' : ((k : Int) + 1) * less ≤ (size / less) * less := Int.mul_le_mul_of_nonneg_right (by omega) (by omega)
    rw [Int.add_mul, Int.one_mul, Int.mul_comm (size / less), ← e2] at hk'
    have hk0 : 0 ≤ (k : Int) * less := Int.mul_nonneg (by omega) (by omega)
    exact cat_counts h0 (by omega) (by omega)
  rw [this, sumR_min hc fun k _ => cnt_nonneg _ _ _ _]
  rfl
theorem cutB_ok (h0 : 0 < size) (h1 : 1 ≤ less) (hd : size % less = 0) : cutB size less = true := by
  unfold cutB
  have : less ≤ size := Int.le_of_dvd h0 (Int.dvd_of_emod_eq_zero hd)
  simp [h1, hd, this]
theorem cutF_of (h0 : 0 < size) (hc : 0 ≤ cap) (h1 : 1 ≤ less) (hd : size % less = 0) : cutF (svOf C keys size hands cap) less = .ok (svOf C keys less hands cap) := by
  unfold cutF
  rw [if_pos (show cutB (svOf C keys size hands cap).size less = true from cutB_ok h0 h1 hd), cuts_of h0 hc h1 hd]
theorem joins_good {x y : Sv C} (hx : x.Good) (hy : y.Good) (e : kindOf x = kindOf y) : (joins x y).Good := hx.to ⟨rfl, rfl, rfl⟩ (by
  unfold joins
  dsimp only
  have h1 := hx.n
  have h2 := hy.n
  have h3 : x.size = y.size := congrArg Tri.a e
  rw [List.length_map, List.length_zip]
  omega)
theorem cuts_good {x : Sv C} (hx : x.Good) (h : cutB x.size less = true) : (cuts x less).Good := by
  unfold cutB at h
  simp at h
  have h1 := hx.s1
  exact ⟨h.1, by show less ≤ 96; omega, hx.h, hx.c0, hx.c1, by unfold cuts; dsimp only; rw [List.length_map, List.length_range]; omega⟩
/-- where one says yes, joined does -/
theorem yes_mono (h0 : 0 < size) (h : ∀ j, cnt keys size hands j ≤ cnt more size hands j) (hy : (svOf C keys size hands cap).yes k = true) : (svOf C more size hands cap).yes k = true := by
  rw [yes_iff] at hy ⊢
  unfold svOf at hy ⊢
  dsimp only at hy ⊢
  intro c hc
  have hp := pointed_mem h0 hc
  have q := hy c hc
  rw [cat_counts h0 hp.1 hp.2] at q ⊢
  have := h c
  omega
/-- where the greater one says yes, cut does -/
theorem yes_cut (h0 : 0 < size) (h1 : 1 ≤ less) (hd : size % less = 0) (hy : (svOf C keys size hands cap).yes k = true) : (svOf C keys less hands cap).yes k = true := by
  rw [yes_iff] at hy ⊢
  unfold svOf at hy ⊢
  dsimp only at hy ⊢
  intro c hc
  have hp := pointed_mem (size := less) (by omega) hc
  rw [cat_counts (by omega) hp.1 hp.2]
  by_cases hlt : cnt keys less hands c < cap
  · have e2 : size = less * (size / less) := by have := Int.mul_ediv_add_emod size less; omega
    have hb : ∀ k : Nat, k < (size / less).toNat → 0 ≤ c + (k : Int) * less ∧ c + (k : Int) * less < size := fun k hk => by
      have hk' : ((k : Int) + 1) * less ≤ (size / less) * less := Int.mul_le_mul_of_nonneg_right (by omega) (by omega)
      rw [Int.add_mul, Int.one_mul, Int.mul_comm (size / less), ← e2] at hk'
      have hk0 : 0 ≤ (k : Int) * less := Int.mul_nonneg (by omega) (by omega)
      omega
    have hc2 := cnt_less (keys := keys) (hands := hands) h0 (by omega) hd hp
    have hn : ((pointed hands less k).count c : Int) ≤ cnt keys less hands c := by
      rw [pointed_less (by omega) hd, fibs_count (by omega) hd (fun p hp => pointed_mem h0 hp) hp, hc2]
      refine sumR_le fun j hj => ?_
      have b := hb j hj
      have g : cnt keys size hands (c + (j : Int) * less) ≤ cnt keys less hands c := by
        rw [hc2]
        exact sumR_ge (f := fun k => cnt keys size hands (c + (k : Int) * less)) (fun _ _ => cnt_nonneg _ _ _ _) hj
      by_cases hm : (c + (j : Int) * less) ∈ pointed hands size k
      · have q := hy _ hm
        rw [cat_counts h0 b.1 b.2] at q
        show ((pointed hands size k).count (c + (j : Int) * less) : Int) ≤ cnt keys size hands (c + (j : Int) * less)
        omega
      · show ((pointed hands size k).count (c + (j : Int) * less) : Int) ≤ cnt keys size hands (c + (j : Int) * less)
        rw [List.count_eq_zero.mpr hm]
        exact cnt_nonneg _ _ _ _
    omega
  · omega
/-- with cap 1 each yes is stuck -/
theorem stuck_one (h0 : 0 < size) (hh : hands ≠ []) (hy : (svOf C keys size hands 1).yes k = true) : (svOf C keys size hands 1).stuck k ≠ [] := by
  intro z
  rw [stuck_nil] at z
  rw [yes_iff] at hy
  obtain ⟨h, r, e⟩ := List.exists_cons_of_ne_nil hh
  have hm : (k * h.1 + h.2) % 10007 % size ∈ pointed hands size k := by rw [e]; simp [pointed]
  have h1 := hy _ hm
  have h2 := z _ hm
  have hp := pointed_mem h0 hm
  have h3 : 0 < (pointed hands size k).count ((k * h.1 + h.2) % 10007 % size) := List.count_pos_iff.mpr hm
  unfold svOf at h1 h2
  dsimp only at h1 h2
  rw [cat_counts h0 hp.1 hp.2] at h1 h2
  omega
end
/-! ### more rules -/
section
variable {C : Addr} {α β A R : Type} [Rp α] [Rp β] [RpA A] [Rp R] {K : PySem.W.Frag} {D : Dst} {m m' ms : List Addr} {σ : St} {H H' H2 : Hp} {ta tb tc te tl : TE} {t : TA} {T : Er} {En : Ends} {i : Nat} {E : XK} {z u : TS} {g : TG} {tt : TT} {ws : List Nat}
theorem EvS.ev {x : Sv C} (h : EvS T D m te σ H E (.ok x)) : EvV D m te σ H x := fun H1 g c Q w => h H1 g c _ (fun y ey s cc H2 _ _ g2 sn => by cases ey; exact w x _ H2 g2 (sn.at_ c).rp rfl) fun e ee => by cases ee
theorem EvS.evX {r : Except Err (Sv C)} {x : Sv C} (h : EvS T D m te σ H E r) (e : r = .ok x) : EvV D m te σ H x := by
  rw [e] at h
  exact h.ev
/-- sum(xs) -/
theorem ev_sum {xs : List Int} (h : EvV D m te σ H xs) : EvV D m (tCB (rSum K) (tCons te tNil)) σ H xs.sum := fun H1 g c Q w => h H1 g c _ fun xs' v H2 g2 r e => by
  subst e
  obtain ⟨a, vs, rfl, n, ha, ps⟩ := rp_lst r
  have := paired_ints ps
  subst this
  exact ⟨a, xs', rfl, .of ha, w _ _ H2 g2 rfl rfl⟩
/-- max(xs) -/
theorem ev_maxL {xs : List Int} (h : EvV D m te σ H xs) (hn : 0 < xs.length) : Ev D m (tCB (rMax K) (tCons te tNil)) σ H (fun n : Int => n ∈ xs ∧ ∀ y, y ∈ xs → y ≤ n) := fun H1 g c Q w => h H1 g c _ fun xs' v H2 g2 r e => by
  subst e
  obtain ⟨a, vs, rfl, n, ha, ps⟩ := rp_lst r
  have := paired_ints ps
  subst this
  exact ⟨a, xs', rfl, .of ha, hn, fun n hm hl => w n _ H2 g2 rfl ⟨hm, hl⟩⟩
/-- [e for x, y in zip(xs, ys) if t] -/
theorem el_lcZip {γ : Type} [Rp γ] [Nl γ] {xs : List α} {ys : List β} {p : List γ → Prop} (I : Nat → List γ → Prop) (h1 : EvV D m ta σ H xs) (h2 : EvV D m tb σ H ys) (hl : xs.length = ys.length) (hz : xs.length ≤ 90000) (h0 : I 0 [])
    (hs : ∀ (j : Nat) x y v H1 acc, xs[j]? = some x → ys[j]? = some y → Gd D H H1 → Cc D m H1 → Rp.rp m H1 (x, y) v → I j acc → ∃ pt py, LcT D m g tt te ws σ v H1 pt py ∧ (∀ y, pt true → py y → I (j + 1) (acc ++ [y])) ∧ (pt false → I (j + 1) acc))
    (hd : ∀ acc, I xs.length acc → p acc) : EvL D m (tLc (iZip K (tCons ta (tCons tb tNil))) g tt te ws) σ H p := fun H1 e c Q w => h1 H1 e c _ fun xs' v H2 e2 r z => h2 H2 (e.trans e2) (c.go e2) _ fun ys' v' H3 e3 r' z' => by
  subst z z'
  have c2 := (c.go e2).go e3
  obtain ⟨a, vs, rfl, n, ha, ps⟩ := rp_lst (rp_gd r (c.go e2) e3)
  obtain ⟨b, us, rfl, n', hb, pu⟩ := rp_lst r'
  have e23 := e2.trans e3
  refine ⟨a, b, vs, us, rfl, .of ha, .of hb, fun Dl hD => ?_⟩
  have nD : Dl ∉ m := c2.free hD
  have keepA : ∀ {H'}, Gd D H3 H' → H' a = some (.lst vs) := fun g' => g'.gr.keep a _ ha fun q => n (c2.sub a q)
  have keepB : ∀ {H'}, Gd D H3 H' → H' b = some (.lst us) := fun g' => g'.gr.keep b _ hb fun q => n' (c2.sub b q)
  have lv := ps.length
  have lu := pu.length
  have goal := lc_gen (J := Itz K a b) (n := vs.length) (g := g) (tt := tt) (te := te) (vs := ws) (σ := σ) (H1 := H3) (D := Dl) (Qd := fun H' => Q (.ref Dl) H')
    (fun j H' => ∃ acc, Gd D H3 H' ∧ Own m H' Dl acc ∧ acc.length ≤ j ∧ I j acc) ⟨[], .new hD, .nil nD upd_same, Nat.zero_le _, h0⟩
    (fun H' ⟨acc, g', _⟩ => ⟨vs, us, .of (keepA g'), .of (keepB g'), .inl (Nat.le_refl _)⟩) (fun j H' hj ⟨acc, g', _⟩ => ⟨vs, us, vs[j], us[j]'(by omega), .of (keepA g'), .of (keepB g'), List.getElem?_eq_getElem hj, List.getElem?_eq_getElem (by omega)⟩)
    (fun j x H' H'' hj ⟨acc, g', o, hl, hI⟩ y => ?_) (fun H' ⟨acc, g', o, hl, hI⟩ => w acc Dl H' (e23.gr.dom Dl hD) (e23.trans g') o (hd acc (by rw [ps.length]; exact hI)))
  · exact goal
  · obtain ⟨tp, x', y', rfl, ht, rfl, hx, hy⟩ := y
    have hx' := hx vs (.of (keepA g'))
    have hy' := hy us (.of (keepB g'))
    have hlt : j < xs'.length := by omega
    obtain ⟨y1, hy1, ry1⟩ := paired_at ps (List.getElem?_eq_getElem hlt)
    rw [hx'] at hy1
    cases hy1
    obtain ⟨y2, hy2, ry2⟩ := paired_at pu (List.getElem?_eq_getElem (i := j) (by omega))
    rw [hy'] at hy2
    cases hy2
    have gt : Gd D H' (upd H' tp (.tup [x', y'])) := .new ht
    have ct := (c2.go g').go gt
    obtain ⟨pt, py, hT, k1, k2⟩ := hs j _ _ (.ref tp) _ acc (List.getElem?_eq_getElem hlt) (List.getElem?_eq_getElem (i := j) (by omega)) (((e.trans e23).trans g').trans gt) ct ⟨tp, _, _, rfl, upd_same, rp_gd (rp_gd ry1 c2 g') (c2.go g') gt, rp_gd (rp_gd ry2 c2 g') (c2.go g') gt⟩ hI
    exact lc_turn hT ct .refl (o.gd (c2.go g') gt) (by omega) (fun y ws H4 g4 z py o4 => ⟨acc ++ [y], mut_gd ((g'.trans gt).trans g4) c2 hD, o4, by simp; omega, k1 y z py⟩) (fun H4 g4 z => ⟨acc, (g'.trans gt).trans g4, (o.gd (c2.go g') gt).gd ct g4, by omega, k2 z⟩)
/-- [e for x in range(a, b) if t] -/
theorem el_lcR2 [Nl β] {lo hi : Int} {p : List β → Prop} (I : Nat → List β → Prop) (h1 : EvV D m ta σ H lo) (h2 : EvV D m tb σ H hi) (hb : -(2 ^ 62) ≤ lo ∧ lo < 2 ^ 62 ∧ -(2 ^ 62) ≤ hi ∧ hi < 2 ^ 62) (hz : hi - lo ≤ 90000) (h0 : I 0 [])
    (hs : ∀ (j : Nat) H1 acc, lo + (j : Int) < hi → Gd D H H1 → Cc D m H1 → I j acc → ∃ pt py, LcT D m g tt te ws σ (.int (lo + (j : Int))) H1 pt py ∧ (∀ y, pt true → py y → I (j + 1) (acc ++ [y])) ∧ (pt false → I (j + 1) acc))
    (hd : ∀ acc, I (hi - lo).toNat acc → p acc) : EvL D m (tLc (iRng2 (tCons ta (tCons tb tNil))) g tt te ws) σ H p := fun H1 e c Q w => h1 H1 e c _ fun lo' v H2 e2 r z => h2 H2 (e.trans e2) (c.go e2) _ fun hi' v' H3 e3 r' z' => by
  subst z z'
  cases rp_int r
  cases rp_int r'
  have c2 := (c.go e2).go e3
  have e23 := e2.trans e3
  refine ⟨lo', hi', rfl, hb, fun Dl hD => ?_⟩
  have nD : Dl ∉ m := c2.free hD
  refine lc_range (lo := lo') (n := (hi' - lo').toNat) (fun j H' => ∃ acc, Gd D H3 H' ∧ Own m H' Dl acc ∧ acc.length ≤ j ∧ I j acc) ⟨[], .new hD, .nil nD upd_same, Nat.zero_le _, h0⟩ (fun j H' hj ⟨acc, g', o, hl, hI⟩ => ?_) (fun H' ⟨acc, g', o, hl, hI⟩ => ?_)
  · obtain ⟨pt, py, hT, k1, k2⟩ := hs j H' acc (by omega) ((e.trans e23).trans g') (c2.go g') hI
    refine lc_turn hT (c2.go g') .refl o (by omega) (fun y ws H4 g4 z py o4 => ⟨acc ++ [y], mut_gd (g'.trans g4) c2 hD, o4, by simp; omega, k1 y z py⟩) (fun H4 g4 z => ⟨acc, g'.trans g4, o.gd (c2.go g') g4, by omega, k2 z⟩)
  · exact w acc Dl H' (e23.gr.dom Dl hD) (e23.trans g') o (hd acc hI)
theorem rgC_up {i j c : Int} (hi : 0 ≤ i ∧ i ≤ 1000) (hj : 0 ≤ j ∧ j ≤ 1000) (hc : 1 ≤ c ∧ c ≤ 1000) : RgC i j c (Builtin.Range.rangeSize i j c).toNat := by
  have hn : 0 ≤ Builtin.Range.rangeSize i j c ∧ Builtin.Range.rangeSize i j c ≤ 1000 := by
    unfold Builtin.Range.rangeSize
    rw [if_pos (by omega)]
    split
    · have h1 : 0 ≤ (j - i - 1) / c := Int.ediv_nonneg (by omega) (by omega)
      have h2 : (j - i - 1) / c ≤ j - i - 1 := Int.ediv_le_self _ (by omega)
      omega
    · omega
  refine ⟨by omega, by omega, ?_, by omega⟩
  unfold Builtin.Range.small
  generalize Builtin.Range.rangeSize i j c = n at hn
  have hp : n * c ≤ 1000 * 1000 := Int.mul_le_mul hn.2 hc.2 (by omega) (by omega)
  have hp0 : 0 ≤ n * c := Int.mul_nonneg hn.1 (by omega)
  have hcp : c > 0 := by omega
  simp only [Builtin.Range.rangeFitsLong, Bool.and_eq_true, Bool.or_eq_true, decide_eq_true_eq, beq_iff_eq, hcp, if_true]
  omega
/-- [e for x in range(a, b, c)], c above 0 -/
theorem el_lcR3 [Nl β] {lo hi st : Int} {p : List β → Prop} (I : Nat → List β → Prop) (h1 : EvV D m ta σ H lo) (h2 : EvV D m tb σ H hi) (h3 : EvV D m tc σ H st) (b1 : 0 ≤ lo ∧ lo ≤ 1000) (b2 : 0 ≤ hi ∧ hi ≤ 1000) (b3 : 1 ≤ st ∧ st ≤ 1000) {n : Nat} (hn : Builtin.Range.rangeSize lo hi st = n) (hn2 : n ≤ 90000) (h0 : I 0 [])
    (hs : ∀ (j : Nat) H1 acc, j < n → Gd D H H1 → Cc D m H1 → I j acc → ∃ pt py, LcT D m g tt te ws σ (.int (lo + (j : Int) * st)) H1 pt py ∧ (∀ y, pt true → py y → I (j + 1) (acc ++ [y])) ∧ (pt false → I (j + 1) acc))
    (hd : ∀ acc, I n acc → p acc) : EvL D m (tLc (iRng3 (tCons ta (tCons tb (tCons tc tNil)))) g tt te ws) σ H p := fun H1 e c Q w => h1 H1 e c _ fun lo' v H2 e2 r z => h2 H2 (e.trans e2) (c.go e2) _ fun hi' v' H3 e3 r' z' => h3 H3 ((e.trans e2).trans e3) ((c.go e2).go e3) _ fun st' v'' H4 e4 r'' z'' => by
  subst z z' z''
  cases rp_int r
  cases rp_int r'
  cases rp_int r''
  have c2 := ((c.go e2).go e3).go e4
  have e24 := (e2.trans e3).trans e4
  have rg := rgC_up b1 b2 b3
  rw [hn] at rg
  refine ⟨lo', hi', st', n, rfl, rg, fun Dl hD => ?_⟩
  have nD : Dl ∉ m := c2.free hD
  have goal := lc_gen (J := Itc lo' st' n) (n := n) (g := g) (tt := tt) (te := te) (vs := ws) (σ := σ) (H1 := H4) (D := Dl) (Qd := fun H' => Q (.ref Dl) H')
    (fun j H' => ∃ acc, Gd D H4 H' ∧ Own m H' Dl acc ∧ acc.length ≤ j ∧ I j acc) ⟨[], .new hD, .nil nD upd_same, Nat.zero_le _, h0⟩
    (fun H' _ => Nat.le_refl _) (fun j H' hj _ => hj)
    (fun j x H' H'' hj ⟨acc, g', o, hl, hI⟩ y => ?_) (fun H' ⟨acc, g', o, hl, hI⟩ => w acc Dl H' (e24.gr.dom Dl hD) (e24.trans g') o (hd acc hI))
  · exact goal
  · obtain ⟨rfl, rfl⟩ := y
    obtain ⟨pt, py, hT, k1, k2⟩ := hs j H'' acc hj ((e.trans e24).trans g') (c2.go g') hI
    exact lc_turn hT (c2.go g') .refl o (by omega) (fun y ws H4 g4 z py o4 => ⟨acc ++ [y], mut_gd (g'.trans g4) c2 hD, o4, by simp; omega, k1 y z py⟩) (fun H4 g4 z => ⟨acc, g'.trans g4, o.gd (c2.go g') g4, by omega, k2 z⟩)
end
/-! ### lists whose items are lists -/
section
variable {C : Addr} {α β A R : Type} [Rp α] [Rp β] [RpA A] [Rp R] {K : PySem.W.Frag} {D : Dst} {m m' ms : List Addr} {σ : St} {H H' H2 : Hp} {ta tb tc te tl : TE} {t : TA} {T : Er} {En : Ends} {i : Nat} {E : XK} {z u : TS} {g : TG} {tt : TT} {ws : List Nat} {a b : Addr} {xs : List α} {x : α} {v : V}
theorem ev_triV {γ : Type} [Rp γ] {x : α} {y : β} {z : γ} (ha : EvV D m ta σ H x) (hb : EvV D m tb σ H y) (hc : EvV D m tc σ H z) : EvV D m (tTup (tCons ta (tCons tb (tCons tc tNil)))) σ H (⟨x, y, z⟩ : Tri α β γ) := ev_tri ha hb hc fun _ _ _ a b c => by rw [a, b, c]
/-- a list of its own at a; no item stands at a -/
def OwnN (m : List Addr) (H : Hp) (a : Addr) (xs : List α) : Prop := a ∉ m ∧ ∃ vs, H a = some (.lst vs) ∧ Paired (Rp.rp (a :: m) H) xs vs
theorem OwnN.own (o : OwnN m H a xs) : Own m H a xs := let ⟨n, vs, h, ps⟩ := o; ⟨n, vs, h, paired_go ps fun _ _ r => rp_less r fun _ z => List.mem_cons_of_mem _ z⟩
theorem OwnN.nil (h : a ∉ m) (e : H a = some (.lst [])) : OwnN m H a ([] : List α) := ⟨h, [], e, .nil⟩
theorem OwnN.go (o : OwnN m H a xs) (g : Gr ms H H') (s : ∀ b, b ∈ ms → b ∈ m) : OwnN m H' a xs := let ⟨n, vs, h, ps⟩ := o
  ⟨n, vs, g.keep a _ h fun z => n (s a z), paired_go ps fun _ _ r => rp_gr r g fun b z => List.mem_cons_of_mem _ (s b z)⟩
theorem OwnN.gd (o : OwnN m H a xs) (c : Cc D m H) (g : Gd D H H') : OwnN m H' a xs := o.go g.gr c.sub
theorem OwnN.app {vs : List V} (o : OwnN m H a xs) (h : H a = some (.lst vs)) (r : Rp.rp (a :: m) H x v) : OwnN m (upd H a (.lst (vs ++ [v]))) a (xs ++ [x]) := by
  obtain ⟨n, vs', h', ps⟩ := o
  rw [h] at h'
  cases h'
  have go : ∀ {y : α} {w : V}, Rp.rp (a :: m) H y w → Rp.rp (a :: m) (upd H a (.lst (vs ++ [v]))) y w := fun {y w} r => Rp.go (fun b o e nb => ⟨nb, by rw [upd_ne (fun z => nb (by rw [z]; simp))]; exact e⟩) (fun b xs e => by rw [upd_ne (fun z => by rw [z, h] at e; cases e)]; exact e) r
  exact ⟨n, _, upd_same, (paired_go ps fun _ _ r => go r).snoc (go r)⟩
theorem OwnN.here (o : OwnN m H a xs) : H a ≠ none := by
  obtain ⟨_, vs, h, _⟩ := o
  rw [h]; simp
/-- xs.append(e), items that may be lists -/
theorem s_appN {p : α → Prop} (c : Cc D m H) (o : OwnN m H a xs) (hv : σ[i]? = some (some (.ref a))) (h : Ev D (a :: m) te σ H p) (hz : xs.length < 100000)
    (k : ∀ x H1 H2, Gd D H H1 → p x → OwnN m H2 a (xs ++ [x]) → (∃ vs, H2 = upd H1 a (.lst vs)) → En.nx σ H2) : tDrop (tBM K "list" rAppend (tVar i) (tCons te tNil)) En σ H := by
  obtain ⟨n, vs, ha, ps⟩ := id o
  have ca : Cc D (a :: m) H := c.cons ha
  refine ⟨_, hv, .inl ⟨rfl, _, .inl (.inl ha)⟩, h H .refl ca _ fun x v H1 g r z => ?_⟩
  have o1 := o.gd c g
  have ha1 : H1 a = some (.lst vs) := g.gr.keep a _ ha fun q => n (c.sub a q)
  exact ⟨a, vs, v, rfl, rfl, ha1, by rw [← ps.length]; exact Evl.sz_lt hz, k x H1 _ g z (o1.app ha1 r) ⟨_, rfl⟩⟩
/-- all of the answer is new -/
def SpXLN (T : Er) (pre : A → Prop) (f : A → Except Err (List β)) : Sp := fun vs H Q E => ∃ m x, Cc none m H ∧ RpA.rpa m H x vs ∧ pre x ∧ (∀ y, f x = .ok y → ∀ a H', H a = none → Gr [] H H' → (∀ m', (∀ b, b ∈ m' → H b ≠ none) → OwnN m' H' a y) → Q (.ref a) H') ∧
  ∀ e, f x = .error e → ∀ c d H', Gr [] H H' → ErrAt T H H' e c d → E c d H'
theorem ex_callLN {pre : A → Prop} {f : A → Except Err (List β)} {x : A} (h : EvAr D m t σ H fun y => y = x) (hp : pre x) : EvXL T D m (tCall (SpXLN T pre f) [] E t) σ H E (f x) := fun H1 e c Q w1 w2 =>
  h H1 e c _ fun y vs H2 e2 rx qx => by
    cases qx
    exact ⟨m, x, (c.go e2).none, (by rw [List.append_nil]; exact rx), hp, fun y ey a H' n g r => w1 y ey a H' (e2.gr.dom a n) (e2.trans (.pure g)) (r m (c.go e2).dm).own, fun y ey c d H' g r => w2 y ey c d H' (e2.trans (.pure g)) (r.from e2.gr)⟩
/-- for x in e, e a new list of some kind -/
theorem s_forLLP {t : TS} {p : List α → Prop} (c : Cc D m H) (h : EvL D m te σ H p)
    (k : ∀ xs a vs H1, p xs → H a = none → Gd D H H1 → a ∉ m → H1 a = some (.lst vs) → Paired (Rp.rp m H1) xs vs → ∃ Pv : Nat → St → Hp → Prop, Pv 0 σ H1 ∧ (∀ j σ' H', Pv j σ' H' → H' a = some (.lst vs)) ∧
      (∀ (j : Nat) x v σ' H', xs[j]? = some x → Rp.rp m H1 x v → Pv j σ' H' → g v σ' H' fun σ2 H2 => t { En with nx := Pv (j + 1), ct := Pv (j + 1), bk := En.nx } σ2 H2) ∧ ∀ σ' H', Pv xs.length σ' H' → En.nx σ' H') :
    tFor (iList K te) g t En σ H := h H .refl c _ fun xs a H1 nh gd o z => by
  obtain ⟨n, vs, ha, ps⟩ := o
  obtain ⟨Pv, h0, hl, hs, hd⟩ := k xs a vs H1 z nh gd n ha ps
  refine ⟨a, rfl, ⟨vs, .of ha⟩, for_list (K := K) (a := a) (xs := vs) Pv h0 (fun j σ' H' _ hp => .of (hl j σ' H' hp)) (fun j w σ' H' hj hp => ?_) (fun σ' H' hp => hd σ' H' (by rw [ps.length]; exact hp))⟩
  have hlt : j < xs.length := by rw [ps.length]; exact (List.getElem?_eq_some_iff.mp hj).1
  obtain ⟨y, hy, ry⟩ := paired_at ps (List.getElem?_eq_getElem hlt)
  rw [hj] at hy
  cases hy
  exact hs j _ w σ' H' (List.getElem?_eq_getElem hlt) ry hp
theorem q_forLLP {t : TS} {p : List α → Prop} (c : Cc D m H) (h : EvL D m te σ H p)
    (k : ∀ xs a vs H1, p xs → H a = none → Gd D H H1 → a ∉ m → H1 a = some (.lst vs) → Paired (Rp.rp m H1) xs vs → ∃ Pv : Nat → St → Hp → Prop, Pv 0 σ H1 ∧ (∀ j σ' H', Pv j σ' H' → H' a = some (.lst vs)) ∧
      (∀ (j : Nat) x v σ' H', xs[j]? = some x → Rp.rp m H1 x v → Pv j σ' H' → g v σ' H' fun σ2 H2 => t { En with nx := Pv (j + 1), ct := Pv (j + 1), bk := z En } σ2 H2) ∧ ∀ σ' H', Pv xs.length σ' H' → z En σ' H') :
    tSeq (tFor (iList K te) g t) z En σ H := s_forLLP (En := { En with nx := z En }) c h k
theorem nd_t {p : Prop} [Decidable p] (h : (!decide p) = true) : ¬ p := by simpa using h
theorem nd_f {p : Prop} [Decidable p] (h : (!decide p) = false) : p := by simpa using h
/-! ### what is told of a universe -/
def othersF (us ks : List Int) : List Int := us.filter fun k => !decide (k ∈ ks)
def yesesF (x : Sv C) (us : List Int) : Except Err (List Int) := match needKeys us with
  | .ok _ => .ok (us.filter x.yes)
  | .error e => .error e
def wrongF (x : Sv C) (us ks : List Int) : Except Err (List Int) := match needKeys us with
  | .ok _ => match needKeys ks with
    | .ok _ => .ok ((othersF us ks).filter x.yes)
    | .error e => .error e
  | .error e => .error e
def shareF (x : Sv C) (us ks : List Int) : Except Err (Int × Int) := match wrongF x us ks with
  | .ok l => .ok ((l.length : Int), ((othersF us ks).length : Int))
  | .error e => .error e
def stucks (x : Sv C) (ks : List Int) : List (Int × List Int) := ks.filterMap fun k => if x.stuck k = [] then none else some (k, x.stuck k)
def stuckF (x : Sv C) (us : List Int) : Except Err (List (Int × List Int)) := match yesesF x us with
  | .ok l => .ok (stucks x l)
  | .error e => .error e
theorem othersF_len (us ks : List Int) : (othersF us ks).length ≤ us.length := List.length_filter_le _ _
theorem wrongF_ok {x : Sv C} {us ks : List Int} (h1 : ∀ k, k ∈ us → KeyOk k) (h2 : ∀ k, k ∈ ks → KeyOk k) : wrongF x us ks = .ok ((othersF us ks).filter x.yes) := by
  unfold wrongF
  rw [needKeys_ok h1]
  dsimp only
  rw [needKeys_ok h2]
theorem yesesF_ok {x : Sv C} {us : List Int} (h1 : ∀ k, k ∈ us → KeyOk k) : yesesF x us = .ok (us.filter x.yes) := by
  unfold yesesF
  rw [needKeys_ok h1]
theorem shareF_ok {x : Sv C} {us ks : List Int} (h1 : ∀ k, k ∈ us → KeyOk k) (h2 : ∀ k, k ∈ ks → KeyOk k) : shareF x us ks = .ok ((((othersF us ks).filter x.yes).length : Int), ((othersF us ks).length : Int)) := by
  unfold shareF
  rw [wrongF_ok h1 h2]
theorem stuckF_ok {x : Sv C} {us : List Int} (h1 : ∀ k, k ∈ us → KeyOk k) : stuckF x us = .ok (stucks x (us.filter x.yes)) := by
  unfold stuckF
  rw [yesesF_ok h1]
theorem stucks_snoc (x : Sv C) (ks : List Int) (k : Int) : stucks x (ks ++ [k]) = if x.stuck k = [] then stucks x ks else stucks x ks ++ [(k, x.stuck k)] := by
  unfold stucks
  rw [List.filterMap_append]
  by_cases h : x.stuck k = []
  · rw [if_pos h]; simp [h]
  · rw [if_neg h]; simp [h]
theorem stucks_len (x : Sv C) (ks : List Int) : (stucks x ks).length ≤ ks.length := List.length_filterMap_le _ _
theorem stucks_mem {x : Sv C} {ks : List Int} {k : Int} (h : k ∈ (stucks x ks).map (·.1)) : k ∈ ks := by
  obtain ⟨p, hp, rfl⟩ := List.mem_map.mp h
  obtain ⟨j, hj, e⟩ := List.mem_filterMap.mp hp
  split at e
  · cases e
  · cases e; exact hj
theorem stucks_all {x : Sv C} {ks : List Int} (h : ∀ k, k ∈ ks → x.stuck k ≠ []) : (stucks x ks).map (·.1) = ks := by
  induction ks with
  | nil => rfl
  | cons k r ih =>
    unfold stucks at ih ⊢
    rw [List.filterMap_cons_some (by rw [if_neg (h k (by simp))]), List.map_cons, ih fun j hj => h j (by simp [hj])]
theorem within_ok {a b : List Int} (h : ∀ k, k ∈ a → k ∈ b) : decide (a.filter (fun k => !decide (k ∈ b)) = []) = true := by
  rw [decide_eq_true_eq, List.filter_eq_nil_iff]
  intro k hk
  simp [h k hk]
theorem rangeSize_fib {size less i : Int} (h1 : 1 ≤ less) (hd : size % less = 0) (hi : 0 ≤ i ∧ i < less) (h0 : 0 < size) : Builtin.Range.rangeSize i size less = ((size / less).toNat : Int) := by
  have e2 : size = less * (size / less) := by have := Int.mul_ediv_add_emod size less; omega
  have hle : less ≤ size := Int.le_of_dvd h0 (Int.dvd_of_emod_eq_zero hd)
  have hq : 0 ≤ size / less := Int.ediv_nonneg (by omega) (by omega)
  unfold Builtin.Range.rangeSize
  rw [if_pos (by omega), if_pos (by omega)]
  have : size - i - 1 = (less - i - 1) + (size / less - 1) * less := by
    rw [Int.sub_mul, Int.one_mul, Int.mul_comm (size / less), ← e2]; omega
  rw [this, Int.add_mul_ediv_right _ _ (by omega), Int.ediv_eq_zero_of_lt (by omega) (by omega)]
  omega
/-- what is put in behind all is taken out again, where nothing is stuck -/
theorem back_ok {x : Sv C} (g : x.Good) {k : Int} (hb : ∀ i : Int, 0 ≤ i → i < x.size → 0 ≤ cat x.cells i ∧ cat x.cells i ≤ x.cap) {n : Int} (hn : n ∈ (x.put1 k).cells ∧ ∀ y, y ∈ (x.put1 k).cells → y ≤ n) (ne : n ≠ x.cap) :
    (x.put1 k).yes k = true ∧ (x.put1 k).stuck k = [] ∧ ((x.put1 k).take1 k).cells = x.cells := by
  have h0 : 0 < x.size := by have := g.s0; omega
  have hl : (x.cells.length : Int) = x.size := g.n
  have hr : InR x.cells.length (pointed x.hands x.size k) := inR_pointed h0 hl
  have hlen : (x.put1 k).cells.length = x.cells.length := by unfold Sv.put1; dsimp only; rw [foldl_len (inc_len _)]
  have hc : ∀ i : Int, 0 ≤ i → i < x.size → cat (x.put1 k).cells i = min x.cap (cat x.cells i + ((pointed x.hands x.size k).count i : Int)) := fun i hi hi1 => by
    unfold Sv.put1
    dsimp only
    exact cat_inc hr hi (hb i hi hi1).2
  have mem : ∀ i : Int, 0 ≤ i → i < x.size → cat (x.put1 k).cells i ∈ (x.put1 k).cells := fun i hi hi1 => by
    have hlt : i.toNat < (x.put1 k).cells.length := by omega
    unfold cat
    rw [List.getElem?_eq_getElem hlt]
    exact List.getElem_mem hlt
  have top : ∀ y, y ∈ (x.put1 k).cells → y ≤ x.cap := fun y hy => by
    obtain ⟨j, hj, e⟩ := List.mem_iff_getElem.mp hy
    have := hc (j : Int) (by omega) (by omega)
    unfold cat at this
    rw [show ((j : Int)).toNat = j by omega, List.getElem?_eq_getElem hj] at this
    simp only [Option.getD_some] at this
    omega
  have lt : ∀ i : Int, 0 ≤ i → i < x.size → cat (x.put1 k).cells i < x.cap := fun i hi hi1 => by
    have h1 := hn.2 _ (mem i hi hi1)
    have h2 := top n hn.1
    omega
  refine ⟨?_, ?_, ?_⟩
  · rw [yes_iff]
    intro c hcm
    have hp := pointed_mem h0 hcm
    have h1 := hc c hp.1 hp.2
    have h2 := lt c hp.1 hp.2
    have h3 := hb c hp.1 hp.2
    show min x.cap ((pointed x.hands x.size k).count c : Int) ≤ cat (x.put1 k).cells c
    omega
  · rw [stuck_nil]
    intro c hcm
    have hp := pointed_mem h0 hcm
    have h2 := lt c hp.1 hp.2
    show cat (x.put1 k).cells c ≠ x.cap
    omega
  · have hr2 : InR (x.put1 k).cells.length (pointed x.hands x.size k) := by rw [hlen]; exact hr
    have hlen2 : ((x.put1 k).take1 k).cells.length = x.cells.length := by unfold Sv.take1; dsimp only; rw [foldl_len dec1_len, hlen]
    refine ext_cat hlen2 fun i hi hi1 => ?_
    rw [hlen2] at hi1
    have h1 := hc i hi (by omega)
    have h2 := lt i hi (by omega)
    have h4 : cat ((x.put1 k).take1 k).cells i = cat (x.put1 k).cells i - ((pointed x.hands x.size k).count i : Int) := by
      have q := cat_dec hr2 hi
      unfold Sv.take1
      exact q
    omega
end
end KS
set_option Elab.async false
set_option linter.all false
set_option maxRecDepth 100000
set_option maxHeartbeats 4000000
/-! ### len(set(xs)) of whole numbers -/
namespace L2
open PySem PySem.Spec PyProof.Rows
theorem intsAre_ofV : ∀ {ns : List Int} {us : List Value}, Vals (ns.map V.int) us → PyProof.Rows.IntsAre us ns
  | [], _, .nil => .nil
  | n :: ns, _, .cons r t => by
    obtain ⟨k, rfl⟩ := r
    exact .cons n k (intsAre_ofV t)
def tLenSetU (K : PySem.W.Frag) (ta : TE) : TE := fun σ H Q => ta σ H fun x H1 => ∃ (l : Addr) (ns : List Int), x = .ref l ∧ SqL K H1 l (ns.map V.int) ∧ ns.length ≤ 1000 ∧ ∀ n : Nat, n = (PyProof.Rows.firstMet (fun i => ns.getD i 0) ns.length).length → Q (.int (n : Int)) H1
theorem pe_lenSetU {X : Cx} {a : Expr} {ta : TE} {p p2 q pos : Pos} (hg : Gl X "len") (hm : X.mg "len" = none) (hg2 : Gl X "set") (hm2 : X.mg "set" = none) (ha : PE X a ta) (hc : X.calm = true := by rfl)
    (na : starEach [a] X.env = (false, eval a X.env) :: starEach [] X.env := by rfl) : PE X (.Call (.Name "len" p) [.Call (.Name "set" p2) [a] [] q] [] pos) (tLenSetU X.K ta) := by
  refine ⟨fun pins s σ H Q I h => ?_⟩
  refine Call_ (ld_blt I hg hm boot_len ?_)
  refine PyProof.Rows.callWith_builtin1 (PyProof.Rows.args_cons ?_ rfl) rfl rfl
  refine Call_ (ld_blt I hg2 hm2 boot_set ?_)
  refine PyProof.Rows.callWith_type1 (PyProof.Rows.args_cons (thn (ha.run pins s σ H _ I h) fun v s1 ⟨x, H1, I1, r1, q1⟩ => PyProof.Rows.args_nil ?_) na) na rfl
  obtain ⟨l, ns, rfl, hq, hl, q1⟩ := q1
  cases r1
  obtain ⟨its, r, pl, hz⟩ := I1.list hq
  have hlen : its.toArray.size = ns.length := by rw [List.size_toArray, ← r.length, List.length_map]
  refine call_set_list (I1.ok.hd hc) pl.isList (by simpa using intsAre_ofV r) (by rw [hlen]; unfold scanBound; omega) fun h' tk hS hk => ?_
  refine PyProof.Rows.args_nil ?_
  rw [hlen] at hS
  have hle : (PyProof.Rows.firstMet (fun i => ns.getD i 0) ns.length).length ≤ ns.length := by
    have : ∀ i, (PyProof.Rows.firstMet (fun i => ns.getD i 0) i).length ≤ i := fun i => by
      induction i with
      | zero => exact Nat.le_refl _
      | succ i ih =>
        rw [PyProof.Rows.firstMet_succ]
        unfold PyProof.Rows.step_dedup
        split
        · omega
        · rw [List.length_append]; show _ + 1 ≤ _; omega
    exact this _
  obtain ⟨o, es, ep, t, ho, hex, hd, _, _, _, hf, hn⟩ := hS
  have I2 : Inv X pins σ H1 { s1 with heap := h', toks := tk } := I1.kept fun b o e => hk b o (Heap.lt_size e) e
  exact call_len_set ho hex hd hf (by rw [hn] <;> omega) ⟨.int ((PyProof.Rows.firstMet (fun i => ns.getD i 0) ns.length).length : Nat), H1, I2.tok _, ⟨_, by rw [hn]⟩, q1 _ rfl⟩
end L2
namespace KS
open PySem L2
theorem firstMet_uniq (ns : List Int) : ∀ i, i ≤ ns.length → PyProof.Rows.firstMet (fun i => ns.getD i 0) i = uniq (ns.take i)
  | 0, _ => rfl
  | i + 1, hi => by
    have hlt : i < ns.length := hi
    have e1 : ns.getD i 0 = ns[i] := by
      rw [List.getD_eq_getElem?_getD, List.getElem?_eq_getElem hlt] <;> rfl
    rw [PyProof.Rows.firstMet_succ, firstMet_uniq ns i (by omega), take_snoc (List.getElem?_eq_getElem hlt), uniq_snoc]
    unfold PyProof.Rows.step_dedup
    show (if (uniq (ns.take i)).any (· == ns.getD i 0) = true then _ else uniq (ns.take i) ++ [ns.getD i 0]) = _
    rw [e1]
    have : ((uniq (ns.take i)).any (· == ns[i]) = true) ↔ ns[i] ∈ uniq (ns.take i) := by
      rw [List.any_eq_true]
      constructor
      · rintro ⟨y, h1, h2⟩
        rw [← eq_of_beq h2]; exact h1
      · intro h
        exact ⟨_, h, beq_self_eq_true _⟩
    by_cases h : ns[i] ∈ uniq (ns.take i)
    · rw [if_pos (this.mpr h), if_pos h]
    · rw [if_neg (fun z => h (this.mp z)), if_neg h]
theorem uniq_nodup (ns : List Int) : (uniq ns).Nodup := by
  induction ns using snoc_ind with
  | nil => simp [uniq]
  | snoc ns a ih =>
    rw [uniq_snoc]
    split
    · exact ih
    · rename_i h
      rw [List.nodup_append]
      exact ⟨ih, by simp, fun x hx b hb e => h (by rw [List.mem_singleton.mp hb] at e; rw [← e]; exact hx)⟩
theorem uniq_of_nodup {ns : List Int} (h : ns.Nodup) : uniq ns = ns := by
  induction ns using snoc_ind with
  | nil => rfl
  | snoc ns a ih =>
    rw [List.nodup_append] at h
    rw [uniq_snoc, ih h.1, if_neg]
    intro z
    exact h.2.2 a z a (by simp) rfl
theorem uniq_len_eq {ns : List Int} : (uniq ns).length = ns.length ↔ ns.Nodup := by
  constructor
  · intro h
    have key : ∀ ns : List Int, (uniq ns).length = ns.length → uniq ns = ns := fun ns => by
      induction ns using snoc_ind with
      | nil => exact fun _ => rfl
      | snoc ns a ih =>
        intro h
        rw [uniq_snoc] at h ⊢
        have hl := uniq_len ns
        split at h
        · rw [List.length_append, List.length_singleton] at h; omega
        · rename_i hn
          rw [List.length_append, List.length_append] at h
          rw [if_neg hn, ih (by simpa using h)]
    rw [← key ns h]
    exact uniq_nodup ns
  · intro h
    rw [uniq_of_nodup h]
/-! ### own objects: methods and fields -/
theorem look_none {n : Str} : ∀ {fs : List (Str × V)} {names : List Str}, fs.map (·.1) = names → n ∉ names → fs.lookup n = none
  | [], _, _, _ => rfl
  | (a, b) :: r, _, h, hn => by
    subst h
    have h1 : (n == a) = false := by
      have : n ≠ a := fun z => hn (by simp [z])
      simpa using this
    rw [List.lookup_cons, h1]
    exact look_none rfl fun z => hn (by simp at z ⊢; exact .inr z)
class InsR (α : Type) [Rp α] (C : outParam Addr) where
  names : List Str
  ins : ∀ {m : List Addr} {H : Hp} {x : α} {v : V}, Rp.rp m H x v → ∃ s dx fs, v = .ref s ∧ H s = some (.ins C dx fs) ∧ fs.map (·.1) = names
section
variable {C : Addr} {α β A R : Type} [Rp α] [Rp β] [RpA A] [Rp R] [InsR α C] {K : PySem.W.Frag} {D : Dst} {m m' ms : List Addr} {σ : St} {H H' H2 : Hp} {ta tb tc te tl : TE} {t : TA} {T : Er} {En : Ends} {i : Nat} {E : XK} {z u : TS} {g : TG} {tt : TT} {ws : List Nat} {n : Str} {x : α}
theorem gmeth_arg {sp : Sp} {p : A → Prop} (h : EvV D m ta σ H x) (ha : EvAr D m t σ H p) (hn : n ∉ InsR.names α) {H1 : Hp} (g : Gd D H H1) (c : Cc D m H1) {Q : VK}
    (k : ∀ y v vs H2, Gd D H1 H2 → Rp.rp m H2 x v → RpA.rpa m H2 y vs → p y → sp (v :: (vs ++ [])) H2 Q E) : tMeth C n sp [] E ta t σ H1 Q := h H1 g c _ fun x' v H2 g2 r e => by
  subst e
  obtain ⟨s, dx, fs, rfl, hs, hf⟩ := InsR.ins r
  exact ⟨s, dx, fs, rfl, hs, look_none hf hn, ha H2 (g.trans g2) (c.go g2) _ fun y vs H3 g3 ry py => k y _ vs H3 (g2.trans g3) (rp_gd r (c.go g2) g3) ry py⟩
theorem ev_methG {pre : α × A → Prop} {f : α × A → R} {y : A} (h : EvV D m ta σ H x) (ha : EvAr D m t σ H fun z => z = y) (hp : pre (x, y)) (hn : n ∉ InsR.names α) : EvV D m (tMeth C n (SpF pre f) [] E ta t) σ H (f (x, y)) := fun H1 g c Q w =>
  gmeth_arg h ha hn g c fun y' v vs H2 g2 a ry e => by
    subst e
    exact ⟨m, (x, y'), (c.go g2).none, ⟨_, _, by rw [List.append_nil], a, ry⟩, hp, fun v H' g3 r => w _ v H' (g2.trans (.pure g3)) r rfl⟩
theorem el_methG {pre : α × A → Prop} {f : α × A → List β} {y : A} (h : EvV D m ta σ H x) (ha : EvAr D m t σ H fun z => z = y) (hp : pre (x, y)) (hn : n ∉ InsR.names α) : EvLV D m (tMeth C n (SpL pre f) [] E ta t) σ H (f (x, y)) := fun H1 g c Q w =>
  gmeth_arg h ha hn g c fun y' v vs H2 g2 a ry e => by
    subst e
    exact ⟨m, (x, y'), (c.go g2).none, ⟨_, _, by rw [List.append_nil], a, ry⟩, hp, fun v H' n g3 r => w _ v H' (g2.gr.dom v n) (g2.trans (.pure g3)) r rfl⟩
theorem ex_methG {pre : α × A → Prop} {f : α × A → Except Err R} {y : A} (h : EvV D m ta σ H x) (ha : EvAr D m t σ H fun z => z = y) (hp : pre (x, y)) (hn : n ∉ InsR.names α) : EvX T D m (tMeth C n (SpX T pre f) [] E ta t) σ H E (f (x, y)) := fun H1 g c Q w1 w2 =>
  gmeth_arg h ha hn g c fun y' v vs H2 g2 a ry e => by
    subst e
    exact ⟨m, (x, y'), (c.go g2).none, ⟨_, _, by rw [List.append_nil], a, ry⟩, hp, fun z ez v H' g3 r => w1 z ez v H' (g2.trans (.pure g3)) r, fun e ee cl d H' g3 r => w2 e ee cl d H' (g2.trans (.pure g3)) (r.from g2.gr)⟩
/-- x.f -/
theorem ev_fldG {f : Str} {y : β} (h : EvV D m ta σ H x) (cl : Cls K C) (na : NoAttr K C f) (hf : ∀ {m : List Addr} {H : Hp} {v : V}, Rp.rp m H x v → ∃ s dx fs u, v = .ref s ∧ H s = some (.ins C dx fs) ∧ fs.lookup f = some u ∧ Rp.rp m H y u) : EvV D m (tFld K ta f) σ H y := fun H1 g c Q w => h H1 g c _ fun x' v H2 g2 r e => by
  subst e
  obtain ⟨s, dx, fs, u, rfl, hs, hl, ru⟩ := hf r
  exact ⟨s, C, dx, fs, u, rfl, hs, cl, na, hl, w _ _ H2 g2 ru rfl⟩
end
/-! ### Wants -/
structure Wn (C : Addr) where
  inside : List Int
  univ : List Int
  hands : List (Int × Int)
  top : Int
  most : Int
def wnf (a b c : Addr) (top most : Int) : List (Str × V) := [("inside", .ref a), ("universe", .ref b), ("pointers", .ref c), ("top", .int top), ("most", .int most)]
instance {C : Addr} : Rp (Wn C) := ⟨fun m H x v => ∃ s dx a b c, v = .ref s ∧ s ∉ m ∧ H s = some (.ins C dx (wnf a b c x.top x.most)) ∧ Rp.rp m H x.inside (.ref a) ∧ Rp.rp m H x.univ (.ref b) ∧ Rp.rp m H x.hands (.ref c),
  fun k t ⟨s, dx, a, b, c, e, n, h, h1, h2, h3⟩ => ⟨s, dx, a, b, c, e, (k s _ h n).1, (k s _ h n).2, Rp.go k t h1, Rp.go k t h2, Rp.go k t h3⟩⟩
instance {C : Addr} : InsR (Wn C) C := ⟨["inside", "universe", "pointers", "top", "most"], fun ⟨s, dx, a, b, c, e, n, h, _⟩ => ⟨s, dx, _, e, h, rfl⟩⟩
theorem nmW {C : Addr} {n : Str} (h : n ∉ (["inside", "universe", "pointers", "top", "most"] : List Str)) : n ∉ InsR.names (Wn C) := h
section
variable {C : Addr} {D : Dst} {m : List Addr} {σ : St} {H : Hp} {ta : TE} {K : PySem.W.Frag} {x : Wn C}
theorem ev_inside (h : EvV D m ta σ H x) (cl : Cls K C) (na : NoAttr K C "inside") : EvV D m (tFld K ta "inside") σ H x.inside := ev_fldG h cl na fun ⟨s, dx, a, b, c, e, n, h, h1, h2, h3⟩ => ⟨s, dx, _, _, e, h, rfl, h1⟩
theorem ev_universe (h : EvV D m ta σ H x) (cl : Cls K C) (na : NoAttr K C "universe") : EvV D m (tFld K ta "universe") σ H x.univ := ev_fldG h cl na fun ⟨s, dx, a, b, c, e, n, h, h1, h2, h3⟩ => ⟨s, dx, _, _, e, h, rfl, h2⟩
theorem ev_wpointers (h : EvV D m ta σ H x) (cl : Cls K C) (na : NoAttr K C "pointers") : EvV D m (tFld K ta "pointers") σ H x.hands := ev_fldG h cl na fun ⟨s, dx, a, b, c, e, n, h, h1, h2, h3⟩ => ⟨s, dx, _, _, e, h, rfl, h3⟩
theorem ev_top (h : EvV D m ta σ H x) (cl : Cls K C) (na : NoAttr K C "top") : EvV D m (tFld K ta "top") σ H x.top := ev_fldG h cl na fun ⟨s, dx, a, b, c, e, n, h, h1, h2, h3⟩ => ⟨s, dx, _, _, e, h, rfl, rfl⟩
theorem ev_wmost (h : EvV D m ta σ H x) (cl : Cls K C) (na : NoAttr K C "most") : EvV D m (tFld K ta "most") σ H x.most := ev_fldG h cl na fun ⟨s, dx, a, b, c, e, n, h, h1, h2, h3⟩ => ⟨s, dx, _, _, e, h, rfl, rfl⟩
end
section
variable {C : Addr}
structure Wn.Ok (x : Wn C) : Prop where
  h : HandsOk 6 x.hands
  c0 : 1 ≤ x.top
  c1 : x.top ≤ 9
  k : ∀ k, k ∈ x.inside → KeyOk k
  u : ∀ k, k ∈ x.univ → KeyOk k
  l1 : x.inside.length ≤ 90000
  l2 : x.univ.length ≤ 90000
def mkW (C : Addr) (keys us : List Int) (hands : List (Int × Int)) (cap most : Int) : Except Err (Wn C) := match chkHands hands with
  | .ok _ => match chkCap cap with
    | .ok _ => match needKeys keys with
      | .ok _ => match needKeys us with
        | .ok _ => .ok ⟨keys, us, hands, cap, most⟩
        | .error e => .error e
      | .error e => .error e
    | .error e => .error e
  | .error e => .error e
theorem chkHands_inv {hands : List (Int × Int)} {u : Unit} (h : chkHands hands = .ok u) : HandsOk 6 hands := by
  unfold chkHands at h
  split at h
  · rename_i h2
    unfold handsB at h2
    rw [Bool.and_eq_true, List.all_eq_true] at h2
    obtain ⟨h2, h4⟩ := h2
    have h2 := of_decide_eq_true h2
    refine ⟨h2.1, by omega, fun hd hm => ?_⟩
    have := h4 hd hm
    simp at this
    unfold HandOk
    omega
  · cases h
theorem chkCap_inv {cap : Int} {u : Unit} (h : chkCap cap = .ok u) : 1 ≤ cap ∧ cap ≤ 9 := by
  unfold chkCap at h
  split at h
  · assumption
  · cases h
theorem chkSize_inv {size : Int} {u : Unit} (h : chkSize size = .ok u) : 1 ≤ size ∧ size ≤ 96 := by
  unfold chkSize at h
  split at h
  · assumption
  · cases h
theorem chkHands_ok {hands : List (Int × Int)} (h : HandsOk 6 hands) : chkHands hands = .ok () := if_pos (by
  unfold handsB
  obtain ⟨a, b, d⟩ := h
  rw [Bool.and_eq_true, List.all_eq_true]
  refine ⟨decide_eq_true ⟨a, by omega⟩, fun h hm => ?_⟩
  obtain ⟨z1, z2, z3, z4⟩ := d h hm
  simp
  omega)
theorem mkW_inv {keys us : List Int} {hands : List (Int × Int)} {cap most : Int} {y : Wn C} (h : mkW C keys us hands cap most = .ok y) (l1 : keys.length ≤ 90000) (l2 : us.length ≤ 90000) : y = ⟨keys, us, hands, cap, most⟩ ∧ y.Ok := by
  unfold mkW at h
  cases q1 : chkHands hands with
  | error e => rw [q1] at h; cases h
  | ok _ =>
    rw [q1] at h
    dsimp only at h
    cases q2 : chkCap cap with
    | error e => rw [q2] at h; cases h
    | ok _ =>
      rw [q2] at h
      dsimp only at h
      cases q3 : needKeys keys with
      | error e => rw [q3] at h; cases h
      | ok _ =>
        rw [q3] at h
        dsimp only at h
        cases q4 : needKeys us with
        | error e => rw [q4] at h; cases h
        | ok _ =>
          rw [q4] at h
          cases h
          exact ⟨rfl, chkHands_inv q1, (chkCap_inv q2).1, (chkCap_inv q2).2, needKeys_inv q3, needKeys_inv q4, l1, l2⟩
theorem mkW_ok {keys us : List Int} {hands : List (Int × Int)} {cap most : Int} (hh : HandsOk 6 hands) (c0 : 1 ≤ cap) (c1 : cap ≤ 9) (hk : ∀ k, k ∈ keys → KeyOk k) (hu : ∀ k, k ∈ us → KeyOk k) : mkW C keys us hands cap most = .ok ⟨keys, us, hands, cap, most⟩ := by
  unfold mkW
  rw [chkHands_ok hh]
  dsimp only
  rw [show chkCap cap = .ok () from if_pos ⟨c0, c1⟩]
  dsimp only
  rw [needKeys_ok hk]
  dsimp only
  rw [needKeys_ok hu]
/-- the wrong yeses of a universe -/
def wrongL (keys us : List Int) (hands : List (Int × Int)) (cap size : Int) : List Int := (othersF us keys).filter (svOf 0 keys size hands cap).yes
def wrongBy (x : Wn C) (size : Int) (hands : List (Int × Int)) : List Int := wrongL x.inside x.univ hands x.top size
theorem wrongL_len (keys us : List Int) (hands : List (Int × Int)) (cap size : Int) : (wrongL keys us hands cap size).length ≤ us.length := Nat.le_trans (List.length_filter_le _ _) (othersF_len us keys)
def SpMkW (C : Addr) (T : Er) : Sp := fun vs H Q E => ∃ (m : List Addr) (s dx : Addr) (keys us : List Int) (hands : List (Int × Int)) (cap most : Int) (kv uv hv : V), vs = [.ref s, kv, uv, hv, .int cap, .int most] ∧ Cc none m H ∧ s ∉ m ∧ H s = some (.ins C dx []) ∧ Rp.rp m H keys kv ∧ Rp.rp m H us uv ∧ Rp.rp m H hands hv ∧ (keys.length ≤ 90000 ∧ us.length ≤ 90000 ∧ hands.length ≤ 90000) ∧
  (∀ y, mkW C keys us hands cap most = .ok y → ∀ H', Gr [s] H H' → Rp.rp m H' y (.ref s) → Q .non H') ∧ ∀ e, mkW C keys us hands cap most = .error e → ∀ cl d H', Gr [s] H H' → ErrAt T H H' e cl d → E cl d H'
section
variable {α β A R : Type} [Rp α] [Rp β] [RpA A] [Rp R] {K : PySem.W.Frag} {D : Dst} {m m' ms : List Addr} {σ : St} {H H' H2 : Hp} {ta tb tc te tl : TE} {t : TA} {T : Er} {En : Ends} {i : Nat} {E : XK} {z u : TS}
theorem ex_makeW {keys us : List Int} {hands : List (Int × Int)} {cap most : Int} (h : EvAr D m t σ H fun y => y = (keys, us, hands, cap, most, ())) (hl : keys.length ≤ 90000 ∧ us.length ≤ 90000 ∧ hands.length ≤ 90000) : EvX T D m (tMake C (SpMkW C T) [] E t) σ H E (mkW C keys us hands cap most) := fun H1 g c Q w1 w2 => h H1 g c _ fun y vs H2 g2 r e => by
  subst e
  obtain ⟨v1, r1, rfl, k1, v2, r2, rfl, k2, v3, r3, rfl, k3, v4, r4, rfl, k4, v5, r5, rfl, k5, rfl⟩ := r
  cases (show v4 = V.int cap from k4)
  cases (show v5 = V.int most from k5)
  intro s dx hs hd ne
  have c2 := c.go g2
  have gm : Gr [] H2 (upd (upd H2 dx (.own s)) s (.ins C dx [])) := (Gr.new hd).mut hs
  refine ⟨m, s, dx, keys, us, hands, cap, most, v1, v2, v3, rfl, (c2.go (.pure gm)).none, c2.free hs, upd_same, rp_g0 k1 gm, rp_g0 k2 gm, rp_g0 k3 gm, hl, fun y ey H' g3 a => ⟨rfl, ?_⟩, fun e ee cl d H' g3 z => ?_⟩
  · exact w1 y ey (.ref s) H' (g2.trans (.pure (gr_made (H1 := H2) hs hd ne g3))) a
  · exact w2 e ee cl d H' (g2.trans (.pure (gr_made (H1 := H2) hs hd ne g3))) ((z.from gm).from g2.gr)
end
/-! ### rows of papers -/
abbrev PRow := Tri Int Int (List Int)
/-- the place of a size and a count of hands, and what stands there: nh hands -/
def pairAt (nh k : Nat) : Int × Int := (((k / nh + 1 : Nat) : Int), ((k % nh + 1 : Nat) : Int))
def pairsN (nh n : Nat) : List (Int × Int) := (List.range n).map (pairAt nh)
theorem pairsN_succ (nh n : Nat) : pairsN nh (n + 1) = pairsN nh n ++ [pairAt nh n] := by
  unfold pairsN
  rw [List.range_succ, List.map_append]
  rfl
theorem pairsN_len (nh n : Nat) : (pairsN nh n).length = n := by unfold pairsN; simp
theorem pairsN_get {nh n k : Nat} (h : k < n) : (pairsN nh n)[k]? = some (pairAt nh k) := by
  unfold pairsN
  rw [List.getElem?_map, List.getElem?_range h]
  rfl
theorem pairAt_eq {nh j i : Nat} (h : i < nh) : pairAt nh (j * nh + i) = ((1 + (j : Int)), (1 + (i : Int))) := by
  unfold pairAt
  have h0 : 0 < nh := by omega
  have e1 : (j * nh + i) / nh = j := by
    rw [Nat.add_comm, Nat.add_mul_div_right _ _ h0, Nat.div_eq_of_lt h]; omega
  have e2 : (j * nh + i) % nh = i := by
    rw [Nat.add_comm, Nat.add_mul_mod_self_right, Nat.mod_eq_of_lt h]
  rw [e1, e2]
  congr 1 <;> omega
theorem pairAt_ok {nh k N : Nat} (h0 : 0 < nh) (h : k < N * nh) : 1 ≤ (pairAt nh k).1 ∧ (pairAt nh k).1 ≤ N ∧ 1 ≤ (pairAt nh k).2 ∧ (pairAt nh k).2 ≤ nh := by
  unfold pairAt
  have h1 : k / nh < N := Nat.div_lt_of_lt_mul (by rw [Nat.mul_comm]; exact h)
  have h2 := Nat.mod_lt k h0
  generalize k / nh = a at *
  generalize k % nh = b at *
  dsimp only
  omega
/-- how many sizes and counts of hands are less -/
def lessN (nh : Nat) (size many : Int) : Nat := (size - 1).toNat * nh + (many - 1).toNat
theorem lessN_ok {nh : Nat} {size many : Int} (hm : 1 ≤ many) (hm2 : many ≤ nh) (hs : 1 ≤ size) : lessN nh size many < size.toNat * nh := by
  unfold lessN
  have : size.toNat = (size - 1).toNat + 1 := by omega
  rw [this, Nat.succ_mul]
  omega
theorem less_iff {nh j i : Nat} {size many : Int} (hi : i < nh) (hj : (j : Int) < size) (hm : 1 ≤ many) (hm2 : many ≤ nh) : ((1 + (j : Int) < size) ∨ (1 + (j : Int) = size ∧ 1 + (i : Int) < many)) ↔ j * nh + i < lessN nh size many := by
  unfold lessN
  by_cases h : 1 + (j : Int) < size
  · have h1 : (j + 1) * nh ≤ (size - 1).toNat * nh := Nat.mul_le_mul_right _ (by omega)
    rw [Nat.succ_mul] at h1
    constructor
    · intro _; omega
    · intro _; exact .inl h
  · have h2 : (size - 1).toNat = j := by omega
    rw [h2]
    constructor
    · rintro (z | ⟨_, z⟩)
      · exact absurd z h
      · omega
    · intro z
      exact .inr ⟨by omega, by omega⟩
def isRowF (x : Wn C) (r : PRow) (p : Int × Int) : Bool := decide ((r.a, r.b) = p) && (decide ((r.c.length : Int) = x.most + 1) && (decide (r.c.Nodup) && r.c.all fun k => decide (k ∈ wrongBy x p.1 (x.hands.take p.2.toNat))))
def showsB (x : Wn C) (ps : List (Int × Int)) (paper : List PRow) : Bool := decide (paper.length = ps.length) && (paper.zip ps).all fun rp => isRowF x rp.1 rp.2
def showsF (C : Addr) (keys us : List Int) (hands : List (Int × Int)) (cap most size many : Int) (paper : List PRow) : Except Err Bool := match chkSize size with
  | .ok _ => match mkW C keys us hands cap most with
    | .ok x => .ok (showsB x (pairsN hands.length (lessN hands.length size many)) paper)
    | .error e => .error e
  | .error e => .error e
theorem handsOk_take {hands : List (Int × Int)} (h : HandsOk 6 hands) {n : Nat} (hn : 1 ≤ n) : HandsOk 6 (hands.take n) := ⟨by
  have := h.1
  rw [List.length_take]; omega, by have := h.2.1; rw [List.length_take]; omega, fun x hx => h.2.2 x (List.mem_of_mem_take hx)⟩
end
/-! ### more rules: triples, zip, order of pairs -/
section
variable {C : Addr} {α β γ A R : Type} [Rp α] [Rp β] [Rp γ] [RpA A] [Rp R] {K : PySem.W.Frag} {D : Dst} {m m' ms : List Addr} {σ : St} {H H' H2 : Hp} {ta tb tc te tl : TE} {t : TA} {T : Er} {En : Ends} {i : Nat} {E : XK} {z u : TS} {g : TG} {tt : TT} {ws : List Nat}
theorem ev_tri0 {x : Tri α β γ} (ha : EvV D m ta σ H x) : EvV D m (tOp (rIxT K) ta (tC (.int 0))) σ H x.a := fun H1 e c Q w => ha H1 e c _ fun x' v H2 e2 rx px => by
  subst px
  obtain ⟨a, u, y, z, rfl, h, r1, r2, r3⟩ := rx
  exact ⟨a, _, 0, u, rfl, rfl, .of h, rfl, w _ _ H2 e2 r1 rfl⟩
theorem ev_tri1 {x : Tri α β γ} (ha : EvV D m ta σ H x) : EvV D m (tOp (rIxT K) ta (tC (.int 1))) σ H x.b := fun H1 e c Q w => ha H1 e c _ fun x' v H2 e2 rx px => by
  subst px
  obtain ⟨a, u, y, z, rfl, h, r1, r2, r3⟩ := rx
  exact ⟨a, _, 1, y, rfl, rfl, .of h, rfl, w _ _ H2 e2 r2 rfl⟩
theorem ev_tri2 {x : Tri α β γ} (ha : EvV D m ta σ H x) : EvV D m (tOp (rIxT K) ta (tC (.int 2))) σ H x.c := fun H1 e c Q w => ha H1 e c _ fun x' v H2 e2 rx px => by
  subst px
  obtain ⟨a, u, y, z, rfl, h, r1, r2, r3⟩ := rx
  exact ⟨a, _, 2, z, rfl, rfl, .of h, rfl, w _ _ H2 e2 r3 rfl⟩
theorem ev_lenTri {x : Tri α β γ} (ha : EvV D m ta σ H x) : EvV D m (tCB (rLen K) (tCons ta tNil)) σ H (3 : Int) := fun H1 e c Q w => ha H1 e c _ fun x' v H2 e2 rx px => by
  subst px
  obtain ⟨a, u, y, z, rfl, h, r1, r2, r3⟩ := rx
  exact ⟨a, _, rfl, .inr (.of h), w _ _ H2 e2 rfl rfl⟩
theorem ev_lenP {x : α × β} (ha : EvV D m ta σ H x) : EvV D m (tCB (rLen K) (tCons ta tNil)) σ H (2 : Int) := fun H1 e c Q w => ha H1 e c _ fun x' v H2 e2 rx px => by
  subst px
  obtain ⟨a, u, y, rfl, h, r1, r2⟩ := rx
  exact ⟨a, _, rfl, .inr (.of h), w _ _ H2 e2 rfl rfl⟩
/-- row[:2] -/
theorem ev_sl2 {x : Tri α β γ} (ha : EvV D m ta σ H x) : EvV D m (tSl (rSlT K) ta tNoPart (tPart (tC (.int 2)))) σ H (x.a, x.b) := fun H1 e c Q w => ha H1 e c _ fun x' v H2 e2 rx px => by
  subst px
  obtain ⟨a, u, y, z, rfl, h, r1, r2, r3⟩ := rx
  refine ⟨2, rfl, a, _, rfl, .of h, (by show ¬ ((0 : Nat) = 0 ∧ (2 : Nat) = 3); decide), fun p hp => ?_⟩
  rw [cut_hi _ (by decide)]
  exact w (x'.a, x'.b) (.ref p) _ (e2.trans (.new hp)) ⟨p, u, y, rfl, upd_same, rp_g0 r1 (.new hp), rp_g0 r2 (.new hp)⟩ rfl
/-- (a, b) < (c, d) -/
theorem ev_ltP {x y : Int × Int} (ha : EvV D m ta σ H x) (hb : EvV D m tb σ H y) : EvV D m (tOp (rLtT K) ta tb) σ H (decide (x.1 < y.1 ∨ (x.1 = y.1 ∧ x.2 < y.2))) := fun H1 e c Q w => ha H1 e c _ fun x' v H2 e2 rx px => hb H2 (e.trans e2) (c.go e2) _ fun y' u H3 e3 ry py => by
  subst px py
  obtain ⟨a, u1, u2, rfl, h, r1, r2⟩ := rp_gd rx (c.go e2) e3
  obtain ⟨b, w1, w2, rfl, h', q1, q2⟩ := ry
  cases rp_int r1
  cases rp_int r2
  cases rp_int q1
  cases rp_int q2
  refine ⟨a, b, [x'.1, x'.2], [y'.1, y'.2], rfl, rfl, .of h, .of h', w _ _ H3 (e2.trans e3) ?_ rfl⟩
  show V.bl _ = V.bl _
  congr 1
  rw [HT.lexLt_cons, HT.lexLt_cons, HT.lexLt_nil_nil]
  by_cases h1 : x'.1 = y'.1
  · rw [if_pos h1]
    by_cases h2 : x'.2 = y'.2
    · rw [if_pos h2]; symm; apply decide_eq_false; omega
    · rw [if_neg h2]; apply decide_eq_decide.mpr; omega
  · rw [if_neg h1]; apply decide_eq_decide.mpr; omega
/-- for a, b in zip(xs, ys) -/
theorem s_forZip {j1 j2 : Nat} {xs : List α} {ys : List β} (c : Cc D m H) (h1 : EvV D m ta σ H xs) (h2 : EvV D m tb σ H ys) (hl : xs.length = ys.length)
    (k : ∀ a vs b us H1, Gd D H H1 → a ∉ m → b ∉ m → H1 a = some (.lst vs) → H1 b = some (.lst us) → ∃ Pv : Nat → St → Hp → Prop, Pv 0 σ H1 ∧ (∀ j σ' H', Pv j σ' H' → H' a = some (.lst vs) ∧ H' b = some (.lst us)) ∧
      (∀ (j : Nat) x y vx vy t σ' H', xs[j]? = some x → ys[j]? = some y → Rp.rp m H1 x vx → Rp.rp m H1 y vy → Pv j σ' H' → H' t = none → u { En with nx := Pv (j + 1), ct := Pv (j + 1), bk := En.nx } ((σ'.set j1 (some vx)).set j2 (some vy)) (upd H' t (.tup [vx, vy]))) ∧ ∀ σ' H', Pv xs.length σ' H' → En.nx σ' H') :
    tFor (iZip K (tCons ta (tCons tb tNil))) (gTup K 2 (gCons (gName j1) (gCons (gName j2) gNil))) u En σ H := h1 H .refl c _ fun xs' v H1 g1 r e => h2 H1 g1 (c.go g1) _ fun ys' v' H2 g2 r' e' => by
  subst e e'
  obtain ⟨a, vs, rfl, na, ha, ps⟩ := rp_lst (rp_gd r (c.go g1) g2)
  obtain ⟨b, us, rfl, nb, hb, pu⟩ := rp_lst r'
  obtain ⟨Pv, p0, pl, ps', pd⟩ := k a vs b us H2 (g1.trans g2) na nb ha hb
  refine ⟨a, b, vs, us, rfl, .of ha, .of hb, RZ.for_zipL (K := K) (by rw [← ps.length, ← pu.length, hl]) Pv p0 (fun j s2 H' hp => ⟨.of (pl j s2 H' hp).1, .of (pl j s2 H' hp).2⟩) ?_ (fun s2 H' hp => pd s2 H' (by rw [ps.length]; exact hp))⟩
  rintro j x y t s2 H' hx hy hp ht
  have hlt : j < xs'.length := by rw [ps.length]; exact (List.getElem?_eq_some_iff.mp hx).1
  obtain ⟨x', hx', rx⟩ := paired_at ps (List.getElem?_eq_getElem hlt)
  rw [hx] at hx'
  cases hx'
  obtain ⟨y', hy', ry⟩ := paired_at pu (List.getElem?_eq_getElem (i := j) (by omega))
  rw [hy] at hy'
  cases hy'
  exact ⟨t, _, rfl, .of upd_same, rfl, x, _, rfl, y, _, rfl, rfl, ps' j _ _ x y t s2 H' (List.getElem?_eq_getElem hlt) (List.getElem?_eq_getElem (i := j) (by omega)) rx ry hp ht⟩
theorem q_forZip {j1 j2 : Nat} {xs : List α} {ys : List β} (c : Cc D m H) (h1 : EvV D m ta σ H xs) (h2 : EvV D m tb σ H ys) (hl : xs.length = ys.length)
    (k : ∀ a vs b us H1, Gd D H H1 → a ∉ m → b ∉ m → H1 a = some (.lst vs) → H1 b = some (.lst us) → ∃ Pv : Nat → St → Hp → Prop, Pv 0 σ H1 ∧ (∀ j σ' H', Pv j σ' H' → H' a = some (.lst vs) ∧ H' b = some (.lst us)) ∧
      (∀ (j : Nat) x y vx vy t σ' H', xs[j]? = some x → ys[j]? = some y → Rp.rp m H1 x vx → Rp.rp m H1 y vy → Pv j σ' H' → H' t = none → u { En with nx := Pv (j + 1), ct := Pv (j + 1), bk := z En } ((σ'.set j1 (some vx)).set j2 (some vy)) (upd H' t (.tup [vx, vy]))) ∧ ∀ σ' H', Pv xs.length σ' H' → z En σ' H') :
    tSeq (tFor (iZip K (tCons ta (tCons tb tNil))) (gTup K 2 (gCons (gName j1) (gCons (gName j2) gNil))) u) z En σ H := s_forZip (En := { En with nx := z En }) c h1 h2 hl k
/-- len(set(xs)) -/
theorem ev_lenSetU {xs : List Int} (h : EvV D m ta σ H xs) (hl : xs.length ≤ 1000) : EvV D m (tLenSetU K ta) σ H ((uniq xs).length : Int) := fun H1 g c Q w => h H1 g c _ fun xs' v H2 g2 r e => by
  subst e
  obtain ⟨a, vs, rfl, n, ha, ps⟩ := rp_lst r
  have := paired_ints ps
  subst this
  refine ⟨a, xs', rfl, .of ha, hl, fun n hn => w _ _ H2 g2 ?_ rfl⟩
  rw [hn, firstMet_uniq _ _ (Nat.le_refl _), List.take_length]
  rfl
end
end KS
set_option Elab.async false
set_option linter.all false
set_option maxRecDepth 100000
set_option maxHeartbeats 4000000
namespace KS
open PySem L2
/-! ### a if t else b, as a test -/
section
variable {X : Cx} {a b : Expr} {pos : Pos} {tA tB' tC : TT} {α : Type} [Rp α] {D : Dst} {m : List Addr} {σ : St} {H : Hp}
def tIfT (t u w : TT) : TT := fun σ H Q => t σ H fun c H1 => if c = true then u σ H1 Q else w σ H1 Q
theorem pt_ifExp {c : Expr} (hc : PT X c tC) (ha : PT X a tA) (hb : PT X b tB') : PT X (.IfExp c a b pos) (tIfT tC tA tB') := by
  refine ⟨fun pins s σ H Q I h => ?_⟩
  refine PyProof.Rows.isTrue_IfExp (thn (hc.run pins s σ H _ I h) fun d s1 ⟨H1, I1, q1⟩ => ?_)
  cases d with
  | true => exact ha.run pins s1 σ H1 Q I1 q1
  | false => exact hb.run pins s1 σ H1 Q I1 q1
theorem et_if {b : Bool} {p : Bool → Prop} (h : EvB D m tC σ H b) (h1 : b = true → EvT D m tA σ H p) (h2 : b = false → EvT D m tB' σ H p) : EvT D m (tIfT tC tA tB') σ H p := fun H1 e c Q w => h H1 e c _ fun b' H2 e2 z => by
  cases z
  cases b with
  | true => rw [if_pos rfl]; exact h1 rfl H2 (e.trans e2) (c.go e2) Q fun x H3 e3 => w x H3 (e2.trans e3)
  | false => rw [if_neg Bool.false_ne_true]; exact h2 rfl H2 (e.trans e2) (c.go e2) Q fun x H3 e3 => w x H3 (e2.trans e3)
end
/-! ### lists whose items may be lists: changed in place -/
section
variable {α β γ δ A R : Type} [Rp α] [Rp β] [Rp γ] [Rp δ] [RpA A] [Rp R] {K : PySem.W.Frag} {D : Dst} {m m' ms : List Addr} {σ : St} {H H' H2 : Hp} {ta tb tc te ti tl : TE} {t : TA} {T : Er} {En : Ends} {i j : Nat} {E : XK} {z u : TS} {g : TG} {tt : TT} {ws : List Nat} {a : Addr} {xs : List α} {v : V}
theorem OwnN.put {ys : List α} {us vs : List V} (n : a ∉ m) (h : H a = some (.lst vs)) (ps : Paired (Rp.rp (a :: m) H) ys us) : OwnN m (upd H a (.lst us)) a ys :=
  ⟨n, us, upd_same, paired_go ps fun _ _ r => Rp.go (fun b o e nb => ⟨nb, by rw [upd_ne (fun z => nb (by rw [z]; simp))]; exact e⟩) (fun b xs e => by rw [upd_ne (fun z => by rw [z, h] at e; cases e)]; exact e) r⟩
theorem paired_eraseIdx {F : α → V → Prop} : ∀ {l : List α} {r : List V} (n : Nat), Paired F l r → Paired F (l.eraseIdx n) (r.eraseIdx n)
  | _, _, _, .nil => by simp; exact .nil
  | _, _, 0, .cons h t => by simpa using t
  | _, _, n + 1, .cons h t => by rw [List.eraseIdx_cons_succ, List.eraseIdx_cons_succ]; exact .cons h (paired_eraseIdx n t)
theorem paired_set {F : α → V → Prop} {x : α} {w : V} (hx : F x w) : ∀ {l : List α} {r : List V} (n : Nat), Paired F l r → Paired F (l.set n x) (r.set n w)
  | _, _, _, .nil => by simp; exact .nil
  | _, _, 0, .cons h t => by rw [List.set_cons_zero, List.set_cons_zero]; exact .cons hx t
  | _, _, n + 1, .cons h t => by rw [List.set_cons_succ, List.set_cons_succ]; exact .cons h (paired_set hx n t)
theorem paired_app {F : α → V → Prop} {l1 l2 : List α} {r1 r2 : List V} (h1 : Paired F l1 r1) (h2 : Paired F l2 r2) : Paired F (l1 ++ l2) (r1 ++ r2) := by
  induction h1 with
  | nil => exact h2
  | cons a _ ih => exact .cons a ih
theorem OwnN.ex (o : OwnN m H a xs) : ∃ vs, H a = some (.lst vs) ∧ Paired (Rp.rp (a :: m) H) xs vs ∧ xs.length = vs.length := let ⟨_, vs, h, q⟩ := o; ⟨vs, h, q, q.length⟩
theorem OwnN.cc (o : OwnN m H a xs) (c : Cc D m H) : Cc D (a :: m) H := let ⟨_, vs, h, _⟩ := o; c.cons h
/-- te comes to a new list -/
def EvLN (D : Dst) (m : List Addr) (te : TE) (σ : St) (H : Hp) (p : List α → Prop) : Prop :=
  ∀ H1, Gd D H H1 → Cc D m H1 → ∀ Q : VK, (∀ xs a H2, H1 a = none → Gd D H1 H2 → OwnN m H2 a xs → p xs → Q (.ref a) H2) → te σ H1 Q
theorem EvLN.el {p : List α → Prop} (h : EvLN D m te σ H p) : EvL D m te σ H p := fun H1 g c Q w => h H1 g c Q fun xs a H2 n g2 o z => w xs a H2 n g2 o.own z
theorem q_setLN {p : List α → Prop} (c : Cc D m H) (h : EvLN D m te σ H p) (k : ∀ xs a H1, H a = none → Gd D H H1 → OwnN m H1 a xs → p xs → z En (σ.set i (some (.ref a))) H1) : tSeq (tAsg te (gName i)) z En σ H := h H .refl c _ fun x a H1 n g r z => k x a H1 n g r z
theorem q_nilN (c : Cc D m H) (k : ∀ a H1, H a = none → Gd D H H1 → OwnN m H1 a ([] : List α) → z En (σ.set i (some (.ref a))) H1) : tSeq (tAsg (tLst tNil) (gName i)) z En σ H :=
  ⟨(by show 0 ≤ sizeLine; decide), fun a ha => k a _ ha (.new ha) (.nil (c.free ha) upd_same)⟩
theorem lc_turnN {H1 : Hp} {acc : List β} {pt : Bool → Prop} {py : β → Prop} {P : Hp → Prop} (hT : LcT D (a :: m) g tt te ws σ v H pt py) (c : Cc D m H1) (gh : Gd D H H1) (o : OwnN m H1 a acc) (hz : acc.length < 100000)
    (k1 : ∀ y vs H2, Gd D H1 H2 → pt true → py y → OwnN m (upd H2 a (.lst vs)) a (acc ++ [y]) → P (upd H2 a (.lst vs))) (k2 : ∀ H2, Gd D H1 H2 → pt false → P H2) :
    g v (wipe σ ws) H1 fun σ2 H2 => wipe σ2 ws = wipe σ ws ∧ tt σ2 H2 fun b H3 => if b = true then te σ2 H3 fun y H4 => ∃ acc, H4 a = some (.lst acc) ∧ acc.length < sizeLine ∧ P (upd H4 a (.lst (acc ++ [y]))) else P H3 := by
  obtain ⟨σ2, hg, hw, ht, he⟩ := hT
  refine hg _ _ gh.gr.tup ⟨hw, ht H1 gh (o.cc c) _ fun b H3 g3 z => ?_⟩
  cases b with
  | true =>
    rw [if_pos rfl]
    refine he z H3 (gh.trans g3) ((o.gd c g3).cc (c.go g3)) _ fun y w H4 g4 r py => ?_
    have o4 := (o.gd c g3).gd (c.go g3) g4
    obtain ⟨vs, h4, ps, hl⟩ := o4.ex
    exact ⟨vs, h4, by rw [← hl]; exact Evl.sz_lt hz, k1 y _ H4 (g3.trans g4) z py (o4.app h4 r)⟩
  | false =>
    rw [if_neg Bool.false_ne_true]
    exact k2 H3 g3 z
/-- [e for x in xs if t], items that may be lists -/
theorem el_lcLN {p : List β → Prop} (I : Nat → List β → Prop) (h : EvV D m tl σ H xs) (hz : xs.length ≤ 90000) (h0 : I 0 [])
    (hs : ∀ (j : Nat) x v a H1 acc, xs[j]? = some x → Gd D H H1 → Cc D (a :: m) H1 → H a = none → Rp.rp (a :: m) H1 x v → I j acc → ∃ pt py, LcT D (a :: m) g tt te ws σ v H1 pt py ∧ (∀ y, pt true → py y → I (j + 1) (acc ++ [y])) ∧ (pt false → I (j + 1) acc))
    (hd : ∀ acc, I xs.length acc → p acc) : EvLN D m (tLc (iList K tl) g tt te ws) σ H p := fun H1 e c Q w => h H1 e c _ fun xs' v H2 e2 r z => by
  cases z
  obtain ⟨a, vs, rfl, n, ha, ps⟩ := rp_lst r
  have c2 := c.go e2
  refine ⟨a, rfl, ⟨vs, .of ha⟩, fun Dl hD => ?_⟩
  have nD : Dl ∉ m := c2.free hD
  have hDH : H Dl = none := (e.trans e2).gr.dom Dl hD
  have psN : ∀ {x w}, Rp.rp m H2 x w → Rp.rp (Dl :: m) H2 x w := fun {x w} r => rp_more (α := α) r hD
  refine lc_list (K := K) (a := a) (xs := vs) (fun j H' => ∃ acc, Gd D H2 H' ∧ OwnN m H' Dl acc ∧ acc.length ≤ j ∧ I j acc) ⟨[], .new hD, .nil nD upd_same, Nat.zero_le _, h0⟩ (fun j H' hj ⟨acc, g', _⟩ => .of (g'.gr.keep a _ ha fun q => n (c2.sub a q))) (fun j u H' hj ⟨acc, g', o, hl, hI⟩ => ?_) (fun H' ⟨acc, g', o, hl, hI⟩ => ?_)
  · have hlt : j < xs.length := by rw [ps.length]; exact (List.getElem?_eq_some_iff.mp hj).1
    obtain ⟨y, hy, ry⟩ := paired_at ps (List.getElem?_eq_getElem hlt)
    rw [hj] at hy
    cases hy
    obtain ⟨pt, py, hT, k1, k2⟩ := hs j _ u Dl H' acc (List.getElem?_eq_getElem hlt) ((e.trans e2).trans g') (o.cc (c2.go g')) hDH (rp_gr (psN ry) g'.gr fun b hb => List.mem_cons_of_mem _ (c2.sub b hb)) hI
    refine lc_turnN hT (c2.go g') .refl o (by omega) (fun y ws H4 g4 z py o4 => ⟨acc ++ [y], mut_gd (g'.trans g4) c2 hD, o4, by simp; omega, k1 y z py⟩) (fun H4 g4 z => ⟨acc, g'.trans g4, o.gd (c2.go g') g4, by omega, k2 z⟩)
  · exact w acc Dl H' (e2.gr.dom Dl hD) (e2.trans g') o (hd acc (by rw [ps.length]; exact hI))
/-- xs[k] of such a list -/
theorem ev_itemN {x : α} {k : Int} (c : Cc D m H) (o : OwnN m H a xs) (hv : σ[i]? = some (some (.ref a))) (hj : σ[j]? = some (some (.int k))) (h0 : 0 ≤ k) (hx : xs[k.toNat]? = some x) : EvV D (a :: m) (tOp (rIxL K) (tVar i) (tVar j)) σ H x := fun H1 g c1 Q w => by
  have o1 := o.gd c g
  obtain ⟨vs, h, ps, hl⟩ := o1.ex
  obtain ⟨y, hy, ry⟩ := paired_at ps hx
  have hlt := (List.getElem?_eq_some_iff.mp hy).1
  refine ⟨_, hv, _, hj, a, vs, k, y, rfl, rfl, .of h, ?_, w x y H1 .refl ry rfl⟩
  rw [show k = ((k.toNat : Nat) : Int) by omega]
  exact atI_nat hy
theorem ev_lenN (c : Cc D m H) (o : OwnN m H a xs) (hv : σ[i]? = some (some (.ref a))) : EvV D (a :: m) (tCB (rLen K) (tCons (tVar i) tNil)) σ H (xs.length : Int) := fun H1 g c1 Q w => by
  obtain ⟨vs, h, ps, hl⟩ := (o.gd c g).ex
  exact ⟨_, hv, a, vs, rfl, .inl (.of h), w _ _ H1 .refl (by rw [hl]; rfl) rfl⟩
/-- xs.insert(n, e) -/
theorem s_insN {p : Int → Prop} {q : α → Prop} (c : Cc D m H) (o : OwnN m H a xs) (hv : σ[i]? = some (some (.ref a))) (hi : Ev D (a :: m) ti σ H p) (hp : ∀ n, p n → 0 ≤ n ∧ n < 2 ^ 62) (he : Ev D (a :: m) te σ H q) (hz : xs.length < 100000)
    (k : ∀ n x H1 H2, p n → q x → Gd D H H1 → OwnN m H2 a (xs.take n.toNat ++ [x] ++ xs.drop n.toNat) → (∃ vs, H2 = upd H1 a (.lst vs)) → En.nx σ H2) :
    tDrop (tBM K "list" (fun x vs H Q => ∃ (l : Addr) (xs : List V) (i : Int) (y : V), x = .ref l ∧ vs = [.int i, y] ∧ H l = some (.lst xs) ∧ xs.length < sizeLine ∧ 0 ≤ i ∧ i < 2 ^ 63 ∧ Q .non (upd H l (.lst (xs.take i.toNat ++ [y] ++ xs.drop i.toNat)))) (tVar i) (tCons ti (tCons te tNil))) En σ H := by
  obtain ⟨vs, ha, ps, hl⟩ := o.ex
  refine ⟨_, hv, .inl ⟨rfl, _, .inl (.inl ha)⟩, hi H .refl (o.cc c) _ fun n v1 H1 g1 r1 z1 => he H1 g1 ((o.gd c g1).cc (c.go g1)) _ fun x v2 H2 g2 r2 z2 => ?_⟩
  cases rp_int r1
  have g12 := g1.trans g2
  obtain ⟨vs2, ha2, ps2, hl2⟩ := (o.gd c g12).ex
  have b := hp n z1
  refine ⟨a, vs2, n, v2, rfl, rfl, ha2, by rw [← hl2]; exact Evl.sz_lt hz, b.1, by omega, ?_⟩
  exact k n x H2 _ z1 z2 g12 (.put o.1 ha2 (paired_app (paired_app (paired_take _ ps2) (.cons r2 .nil)) (paired_drop _ ps2))) ⟨_, rfl⟩
/-- xs.pop(n) -/
theorem s_popN {p : Int → Prop} (c : Cc D m H) (o : OwnN m H a xs) (hv : σ[i]? = some (some (.ref a))) (hi : Ev D (a :: m) ti σ H p) (hp : ∀ n, p n → 0 ≤ n ∧ n < xs.length ∧ n < 2 ^ 62)
    (k : ∀ n H1 H2, p n → Gd D H H1 → OwnN m H2 a (xs.eraseIdx n.toNat) → (∃ vs, H2 = upd H1 a (.lst vs)) → En.nx σ H2) : tDrop (tBM K "list" rPopAt (tVar i) (tCons ti tNil)) En σ H := by
  obtain ⟨vs, ha, ps, hl⟩ := o.ex
  refine ⟨_, hv, .inl ⟨rfl, _, .inl (.inl ha)⟩, hi H .refl (o.cc c) _ fun n v1 H1 g1 r1 z1 => ?_⟩
  cases rp_int r1
  obtain ⟨vs1, ha1, ps1, hl1⟩ := (o.gd c g1).ex
  obtain ⟨b0, b1, b2⟩ := hp n z1
  have hlt : n.toNat < vs1.length := by omega
  refine ⟨a, vs1, n, n.toNat, vs1[n.toNat], rfl, rfl, ha1, by omega, by omega, PySem.seqIndex_of b0 (by omega), List.getElem?_eq_getElem hlt, ?_⟩
  exact k n H1 _ z1 g1 (.put o.1 ha1 (paired_eraseIdx _ ps1)) ⟨_, rfl⟩
/-- xs.append(xs.pop(n)) -/
theorem s_appPopN {p : Int → Prop} (c : Cc D m H) (o : OwnN m H a xs) (hv : σ[i]? = some (some (.ref a))) (hi : Ev D (a :: m) ti σ H p) (hp : ∀ n, p n → 0 ≤ n ∧ n < xs.length ∧ n < 2 ^ 62) (hz : xs.length < 100000)
    (k : ∀ n x H1 H2, p n → xs[n.toNat]? = some x → Gd D H H1 → OwnN m H2 a (xs.eraseIdx n.toNat ++ [x]) → (∃ vs, H2 = upd H1 a (.lst vs)) → En.nx σ H2) : tDrop (tBM K "list" rAppend (tVar i) (tCons (tBM K "list" rPopAt (tVar i) (tCons ti tNil)) tNil)) En σ H := by
  obtain ⟨vs, ha, ps, hl⟩ := o.ex
  refine ⟨_, hv, .inl ⟨rfl, _, .inl (.inl ha)⟩, _, hv, .inl ⟨rfl, _, .inl (.inl ha)⟩, hi H .refl (o.cc c) _ fun n v1 H1 g1 r1 z1 => ?_⟩
  cases rp_int r1
  obtain ⟨vs1, ha1, ps1, hl1⟩ := (o.gd c g1).ex
  obtain ⟨b0, b1, b2⟩ := hp n z1
  have hlt : n.toNat < vs1.length := by omega
  refine ⟨a, vs1, n, n.toNat, vs1[n.toNat], rfl, rfl, ha1, by omega, by omega, PySem.seqIndex_of b0 (by omega), List.getElem?_eq_getElem hlt, ?_⟩
  have hx : xs[n.toNat]? = some xs[n.toNat] := List.getElem?_eq_getElem (by omega)
  obtain ⟨y, hy, ry⟩ := paired_at ps1 hx
  rw [List.getElem?_eq_getElem hlt] at hy
  cases hy
  refine ⟨a, vs1.eraseIdx n.toNat, _, rfl, rfl, upd_same, ?_, ?_⟩
  · have := List.length_eraseIdx_le vs1 n.toNat
    exact Evl.sz_lt (by omega)
  · rw [upd_upd]
    exact k n _ H1 _ z1 hx g1 (.put o.1 ha1 (paired_app (paired_eraseIdx _ ps1) (.cons ry .nil))) ⟨_, rfl⟩
/-- xs[k] = e -/
theorem s_setN {q : α → Prop} {k : Int} (c : Cc D m H) (o : OwnN m H a xs) (hv : σ[i]? = some (some (.ref a))) (hj : σ[j]? = some (some (.int k))) (h0 : 0 ≤ k) (h1 : k < xs.length) (he : Ev D (a :: m) te σ H q)
    (kk : ∀ x H1 H2, q x → Gd D H H1 → OwnN m H2 a (xs.set k.toNat x) → (∃ vs, H2 = upd H1 a (.lst vs)) → En.nx σ H2) : tAsg te (gSub (tVar i) (tVar j) rSetL) En σ H := he H .refl (o.cc c) _ fun x v H1 g1 r z1 => by
  obtain ⟨vs1, ha1, ps1, hl1⟩ := (o.gd c g1).ex
  refine ⟨_, hv, _, hj, a, vs1, k, k.toNat, rfl, rfl, ha1, ?_, ?_⟩
  · unfold ixN
    rw [if_pos h0, if_pos (by omega)]
  · exact kk x H1 _ z1 g1 (.put o.1 ha1 (paired_set r _ ps1)) ⟨_, rfl⟩
/-- xs.extend(e), flat items -/
theorem s_ext [Nl α] {ys : List α} (c : Cc D m H) (o : Own m H a xs) (hv : σ[i]? = some (some (.ref a))) (he : EvLV D m te σ H ys) (hz : xs.length + ys.length ≤ 100000)
    (k : ∀ H1 H2, Gd D H H1 → Own m H2 a (xs ++ ys) → (∃ vs, H2 = upd H1 a (.lst vs)) → En.nx σ H2) : tDrop (tBM K "list" rExtend (tVar i) (tCons te tNil)) En σ H := by
  obtain ⟨n, vs, ha, ps⟩ := id o
  refine ⟨_, hv, .inl ⟨rfl, _, .inl (.inl ha)⟩, he H .refl c _ fun ys' b H1 nb g1 ob e => ?_⟩
  subst e
  obtain ⟨_, vs1, ha1, ps1⟩ := o.gd c g1
  obtain ⟨_, us, hb, pu⟩ := ob
  have l1 := ps1.length
  have l2 := pu.length
  refine ⟨a, b, vs1, us, rfl, rfl, ha1, hb, Evl.sz_of (by omega), ?_⟩
  have t := upd_tup (o := .lst (vs1 ++ us)) ha1 (fun xs z => by cases z)
  exact k H1 _ g1 ⟨n, _, upd_same, paired_app (paired_go ps1 fun _ _ r => rp_nl r t) (paired_go pu fun _ _ r => rp_nl r t)⟩ ⟨_, rfl⟩
/-! four at once -/
structure Q4 (α β γ δ : Type) where
  a : α
  b : β
  c : γ
  d : δ
instance : Rp (Q4 α β γ δ) := ⟨fun m H x v => ∃ p u1 u2 u3 u4, v = .ref p ∧ H p = some (.tup [u1, u2, u3, u4]) ∧ Rp.rp m H x.a u1 ∧ Rp.rp m H x.b u2 ∧ Rp.rp m H x.c u3 ∧ Rp.rp m H x.d u4,
  fun k t ⟨p, u1, u2, u3, u4, e, h, h1, h2, h3, h4⟩ => ⟨p, u1, u2, u3, u4, e, t p _ h, Rp.go k t h1, Rp.go k t h2, Rp.go k t h3, Rp.go k t h4⟩⟩
theorem ev_q4 {td : TE} {x : α} {y : β} {w : γ} {o : δ} (h1 : EvV D m ta σ H x) (h2 : EvV D m tb σ H y) (h3 : EvV D m tc σ H w) (h4 : EvV D m td σ H o) : EvV D m (tTup (tCons ta (tCons tb (tCons tc (tCons td tNil))))) σ H (⟨x, y, w, o⟩ : Q4 α β γ δ) := fun H1 e c Q k =>
  h1 H1 e c _ fun x' v1 H2 e2 r1 z1 => h2 H2 (e.trans e2) (c.go e2) _ fun y' v2 H3 e3 r2 z2 => h3 H3 ((e.trans e2).trans e3) ((c.go e2).go e3) _ fun w' v3 H4 e4 r3 z3 => h4 H4 (((e.trans e2).trans e3).trans e4) (((c.go e2).go e3).go e4) _ fun o' v4 H5 e5 r4 z4 => by
    subst z1 z2 z3 z4
    have c2 := c.go e2
    have c3 := c2.go e3
    have c4 := c3.go e4
    exact ⟨(by show 4 ≤ sizeLine; decide), fun p hp => k ⟨x', y', w', o'⟩ _ _ ((((e2.trans e3).trans e4).trans e5).trans (.new hp)) ⟨p, v1, v2, v3, v4, rfl, upd_same, rp_g0 (rp_gd (rp_gd (rp_gd r1 c2 e3) c3 e4) c4 e5) (.new hp), rp_g0 (rp_gd (rp_gd r2 c3 e4) c4 e5) (.new hp), rp_g0 (rp_gd r3 c4 e5) (.new hp), rp_g0 r4 (.new hp)⟩ rfl⟩
theorem q_set4 {i1 i2 i3 i4 : Nat} {x : Q4 α β γ δ} (c : Cc D m H) (h : EvV D m te σ H x) (k : ∀ u1 u2 u3 u4 H1, Gd D H H1 → Rp.rp m H1 x.a u1 → Rp.rp m H1 x.b u2 → Rp.rp m H1 x.c u3 → Rp.rp m H1 x.d u4 → z En ((((σ.set i1 (some u1)).set i2 (some u2)).set i3 (some u3)).set i4 (some u4)) H1) :
    tSeq (tAsg te (gTup K 4 (gCons (gName i1) (gCons (gName i2) (gCons (gName i3) (gCons (gName i4) gNil)))))) z En σ H := h H .refl c _ fun x' v H1 g r e => by
  subst e
  obtain ⟨p, u1, u2, u3, u4, rfl, h, r1, r2, r3, r4⟩ := r
  exact ⟨p, _, rfl, .of h, rfl, u1, _, rfl, u2, _, rfl, u3, _, rfl, u4, _, rfl, rfl, k u1 u2 u3 u4 H1 g r1 r2 r3 r4⟩
theorem g_tri {i1 i2 i3 : Nat} {x : Tri α β γ} {R : St → Hp → Prop} (r : Rp.rp m H x v) (k : ∀ u1 u2 u3, Rp.rp m H x.a u1 → Rp.rp m H x.b u2 → Rp.rp m H x.c u3 → R (((σ.set i1 (some u1)).set i2 (some u2)).set i3 (some u3)) H) : gTup K 3 (gCons (gName i1) (gCons (gName i2) (gCons (gName i3) gNil))) v σ H R := by
  obtain ⟨p, u1, u2, u3, rfl, h, r1, r2, r3⟩ := r
  exact ⟨p, _, rfl, .of h, rfl, u1, _, rfl, u2, _, rfl, u3, _, rfl, rfl, k u1 u2 u3 r1 r2 r3⟩
/-- xs[lo:hi] with both ends -/
theorem cut_both (vs : List V) {lo hi : Int} (h0 : 0 ≤ lo) (h1 : lo ≤ hi) : cutV vs (some lo) (some hi) = (vs.take hi.toNat).drop lo.toNat := by
  have e1 : HT.sIx vs.length 0 (some lo) = min lo.toNat vs.length := by
    show (if lo < 0 then _ else _) = _
    rw [if_neg (by omega)]
  have e2 : HT.sIx vs.length vs.length (some hi) = min hi.toNat vs.length := by
    show (if hi < 0 then _ else _) = _
    rw [if_neg (by omega)]
  unfold cutV
  rw [e1, e2]
  apply List.ext_getElem?
  intro n
  rw [List.getElem?_take, List.getElem?_drop, List.getElem?_drop, List.getElem?_take]
  by_cases hn : n < min hi.toNat vs.length - min lo.toNat vs.length
  · rw [if_pos hn, if_pos (by omega), Nat.min_eq_left (by omega)]
  · rw [if_neg hn]
    by_cases q : lo.toNat + n < hi.toNat
    · rw [if_pos q, List.getElem?_eq_none (by omega)]
    · rw [if_neg q]
theorem el_cutLH {lo hi : Int} (ha : EvV D m ta σ H xs) (h0 : EvV D m tb σ H lo) (h1 : EvV D m tc σ H hi) (b : 0 ≤ lo ∧ lo ≤ hi) : EvLV D m (tSl (rSlL K) ta (tPart tb) (tPart tc)) σ H ((xs.take hi.toNat).drop lo.toNat) := fun H1 g1 c Q w => ha H1 g1 c _ fun xs' v H2 g2 r e => h0 H2 (g1.trans g2) (c.go g2) _ fun n' v' H3 g3 r' e' => by
  subst e e'
  cases rp_int r'
  refine ⟨n', rfl, h1 H3 ((g1.trans g2).trans g3) ((c.go g2).go g3) _ fun n'' v'' H4 g4 r'' e'' => ?_⟩
  subst e''
  cases rp_int r''
  have c2 := c.go g2
  have c3 := c2.go g3
  obtain ⟨a, vs, rfl, nm, ha, ps⟩ := rp_lst (rp_gd (rp_gd r c2 g3) c3 g4)
  refine ⟨n'', rfl, a, vs, rfl, .of ha, fun p hp => ?_⟩
  rw [cut_both vs b.1 b.2]
  have g24 := (g2.trans g3).trans g4
  exact w _ p _ (g24.gr.dom p hp) (g24.trans (.new hp)) ⟨(c3.go g4).free hp, _, upd_same, paired_go (paired_drop _ (paired_take _ ps)) fun _ _ r => rp_g0 r (.new hp)⟩ rfl
/-- xs[n:], exactly -/
theorem el_cutLoV {n : Int} (ha : EvV D m ta σ H xs) (hb : EvV D m tb σ H n) (h : 0 ≤ n) : EvLV D m (tSl (rSlL K) ta (tPart tb) tNoPart) σ H (xs.drop n.toNat) := el_cutLo ha hb fun n' e => by rw [e]; exact ⟨h, rfl⟩
/-- (xs)[n:], n of some kind -/
theorem el_cutLoP {p : Int → Prop} {q r : List α → Prop} (ha : Ev D m ta σ H q) (hb : Ev D m tb σ H p) (h : ∀ n xs, p n → q xs → 0 ≤ n ∧ r (xs.drop n.toNat)) : EvL D m (tSl (rSlL K) ta (tPart tb) tNoPart) σ H r := fun H1 g1 c Q w => ha H1 g1 c _ fun xs' v H2 g2 r1 e => hb H2 (g1.trans g2) (c.go g2) _ fun n' v' H3 g3 r' e' => by
  cases rp_int r'
  obtain ⟨a, vs, rfl, nm, ha, ps⟩ := rp_lst (rp_gd r1 (c.go g2) g3)
  obtain ⟨h0, hr⟩ := h n' xs' e' e
  refine ⟨n', rfl, a, vs, rfl, .of ha, fun p hp => ?_⟩
  rw [cut_lo vs h0]
  exact w _ p _ ((g2.trans g3).gr.dom p hp) ((g2.trans g3).trans (.new hp)) ⟨((c.go g2).go g3).free hp, _, upd_same, paired_go (paired_drop _ ps) fun _ _ r => rp_g0 r (.new hp)⟩ hr
end
/-! ### what a law finds of papers -/
def rowOkF (keys us : List Int) (hands : List (Int × Int)) (cap most : Int) (r : PRow) : Bool := decide ((r.c.length : Int) = most + 1) && (decide (r.c.Nodup) && r.c.all fun k => decide (k ∈ wrongL keys us (hands.take r.b.toNat) cap r.a))
def holdsF (paper : List PRow) (pairs : List (Int × Int)) (keys us : List Int) (hands : List (Int × Int)) (cap most : Int) : Bool := decide (paper.map (fun r => (r.a, r.b)) = pairs) && paper.all (rowOkF keys us hands cap most)
theorem holds_shows {C : Addr} (x : Wn C) (paper : List PRow) (ps : List (Int × Int)) : showsB x ps paper = holdsF paper ps x.inside x.univ x.hands x.top x.most := by
  unfold showsB holdsF
  induction paper generalizing ps with
  | nil =>
    cases ps with
    | nil => rfl
    | cons p ps => simp
  | cons r rs ih =>
    cases ps with
    | nil => simp
    | cons p ps =>
      have h := ih ps
      rw [List.length_cons, List.length_cons, List.zip_cons_cons, List.all_cons, List.all_cons, List.map_cons]
      have e1 : decide (rs.length + 1 = ps.length + 1) = decide (rs.length = ps.length) := decide_eq_decide.mpr (by omega)
      rw [e1]
      by_cases hp : (r.a, r.b) = p
      · have e2 : decide ((r.a, r.b) :: rs.map (fun r => (r.a, r.b)) = p :: ps) = decide (rs.map (fun r => (r.a, r.b)) = ps) := decide_eq_decide.mpr (by simp [hp])
        have e3 : isRowF x r p = rowOkF x.inside x.univ x.hands x.top x.most r := by
          unfold isRowF rowOkF wrongBy
          subst hp
          simp
        rw [e2, e3]
        cases rowOkF x.inside x.univ x.hands x.top x.most r with
        | true => simpa using h
        | false => simp
      · have e2 : decide ((r.a, r.b) :: rs.map (fun r => (r.a, r.b)) = p :: ps) = false := decide_eq_false (by simp [hp])
        have e3 : isRowF x r p = false := by
          unfold isRowF
          rw [decide_eq_false hp, Bool.false_and]
        rw [e2, e3]
        simp
theorem rp_updN {α : Type} [Rp α] {m : List Addr} {H : Hp} {a : Addr} {x : α} {v : V} {vs us : List V} (r : Rp.rp (a :: m) H x v) (h : H a = some (.lst vs)) : Rp.rp (a :: m) (upd H a (.lst us)) x v :=
  Rp.go (fun b o e nb => ⟨nb, by rw [upd_ne (fun z => nb (by rw [z]; simp))]; exact e⟩) (fun b xs e => by rw [upd_ne (fun z => by rw [z, h] at e; cases e)]; exact e) r
theorem pairsN_row {nh j n : Nat} (h : n ≤ nh) : pairsN nh (j * nh + n) = pairsN nh (j * nh) ++ (List.range n).map fun (i : Nat) => (1 + (j : Int), 1 + (i : Int)) := by
  induction n with
  | zero => simp
  | succ n ih =>
    rw [show j * nh + (n + 1) = j * nh + n + 1 by omega, pairsN_succ, ih (by omega), pairAt_eq (by omega), List.range_succ, List.map_append, List.append_assoc]
    rfl
theorem ok_rows (xs : List PRow) : Dat.okd xs := fun _ _ => ⟨trivial, trivial, ok_ints _⟩
theorem shows_ok {C : Addr} {keys us : List Int} {hands : List (Int × Int)} {cap most size many : Int} {paper : List PRow} (hh : HandsOk 6 hands) (c0 : 1 ≤ cap) (c1 : cap ≤ 9) (hk : ∀ k, k ∈ keys → KeyOk k) (hu : ∀ k, k ∈ us → KeyOk k) (s0 : 1 ≤ size) (s1 : size ≤ 96) :
    showsF C keys us hands cap most size many paper = .ok (holdsF paper (pairsN hands.length (lessN hands.length size many)) keys us hands cap most) := by
  unfold showsF
  rw [show chkSize size = .ok () from if_pos ⟨s0, s1⟩]
  dsimp only
  rw [mkW_ok (C := C) hh c0 c1 hk hu]
  dsimp only
  rw [holds_shows]
/-! ### the first that does -/
def FirstAt (N : Nat) (g : Nat → Bool) : Option Nat → Prop
  | some k => k < N ∧ g k = true ∧ ∀ j, j < k → g j = false
  | none => ∀ j, j < N → g j = false
theorem FirstAt.same {N : Nat} {g : Nat → Bool} {o o' : Option Nat} (h : FirstAt N g o) (h' : FirstAt N g o') : o = o' := by
  cases o with
  | none =>
    cases o' with
    | none => rfl
    | some k => have := h k h'.1; rw [h'.2.1] at this; cases this
  | some k =>
    cases o' with
    | none => have := h' k h.1; rw [h.2.1] at this; cases this
    | some k' =>
      congr 1
      rcases Nat.lt_trichotomy k k' with z | z | z
      · have := h'.2.2 k z; rw [h.2.1] at this; cases this
      · exact z
      · have := h.2.2 k' z; rw [h'.2.1] at this; cases this
/-- the wrong yeses at a place -/
def wrongAt (x : Wn 0) (k : Nat) : List Int := wrongL x.inside x.univ (x.hands.take (pairAt x.hands.length k).2.toNat) x.top (pairAt x.hands.length k).1
def goodAt (x : Wn 0) (k : Nat) : Bool := decide (((wrongAt x k).length : Int) ≤ x.most)
def rowAt (x : Wn 0) (k : Nat) : PRow := ⟨(pairAt x.hands.length k).1, (pairAt x.hands.length k).2, (wrongAt x k).take (x.most + 1).toNat⟩
def rowsN (x : Wn 0) (n : Nat) : List PRow := (List.range n).map (rowAt x)
theorem rowsN_succ (x : Wn 0) (n : Nat) : rowsN x (n + 1) = rowsN x n ++ [rowAt x n] := by
  unfold rowsN
  rw [List.range_succ, List.map_append]
  rfl
theorem rowsN_len (x : Wn 0) (n : Nat) : (rowsN x n).length = n := by unfold rowsN; simp
theorem rowsN_get {x : Wn 0} {n k : Nat} (h : k < n) : (rowsN x n)[k]? = some (rowAt x k) := by
  unfold rowsN
  rw [List.getElem?_map, List.getElem?_range h]
  rfl
theorem wrongAt_len (x : Wn 0) (k : Nat) : (wrongAt x k).length ≤ x.univ.length := wrongL_len _ _ _ _ _
theorem wrongAt_nodup {x : Wn 0} (h : x.univ.Nodup) (k : Nat) : (wrongAt x k).Nodup := by
  unfold wrongAt wrongL othersF
  exact (h.sublist List.filter_sublist).sublist List.filter_sublist
theorem lessN_pair {nh k : Nat} (h : 0 < nh) : lessN nh (pairAt nh k).1 (pairAt nh k).2 = k := by
  unfold lessN pairAt
  have := Nat.div_add_mod' k nh
  generalize k / nh = a at *
  generalize k % nh = b at *
  dsimp only
  rw [show (((a + 1 : Nat) : Int) - 1).toNat = a by omega, show (((b + 1 : Nat) : Int) - 1).toNat = b by omega]
  exact this
theorem rowAt_ok {x : Wn 0} (hu : x.univ.Nodup) (h0 : 0 ≤ x.most) {k : Nat} (hb : goodAt x k = false) : ((rowAt x k).c.length : Int) = x.most + 1 ∧ (rowAt x k).c.Nodup ∧ ∀ j, j ∈ (rowAt x k).c → j ∈ wrongAt x k := by
  unfold goodAt at hb
  have hb' := of_decide_eq_false hb
  refine ⟨?_, ?_, fun j hj => List.mem_of_mem_take hj⟩
  · show (((wrongAt x k).take (x.most + 1).toNat).length : Int) = _
    rw [List.length_take]
    omega
  · exact (wrongAt_nodup hu k).sublist (List.take_sublist _ _)
theorem rows_hold {x : Wn 0} (hu : x.univ.Nodup) (h0 : 0 ≤ x.most) {k : Nat} (hb : ∀ j, j < k → goodAt x j = false) : holdsF (rowsN x k) (pairsN x.hands.length k) x.inside x.univ x.hands x.top x.most = true := by
  unfold holdsF
  rw [Bool.and_eq_true]
  refine ⟨decide_eq_true ?_, ?_⟩
  · unfold rowsN pairsN
    rw [List.map_map]
    rfl
  · rw [List.all_eq_true]
    intro r hr
    obtain ⟨j, hj, rfl⟩ := List.mem_map.mp hr
    obtain ⟨h1, h2, h3⟩ := rowAt_ok hu h0 (hb j (List.mem_range.mp hj))
    unfold rowOkF
    rw [decide_eq_true h1, decide_eq_true h2, Bool.true_and, Bool.true_and, List.all_eq_true]
    exact fun i hi => decide_eq_true (h3 i hi)
/-- a paper with a row that has not so many keys -/
theorem hold_not {paper : List PRow} {ps : List (Int × Int)} {keys us : List Int} {hands : List (Int × Int)} {cap most : Int} {r : PRow} (h : r ∈ paper) (hl : (r.c.length : Int) ≠ most + 1) : holdsF paper ps keys us hands cap most = false := by
  unfold holdsF
  have : paper.all (rowOkF keys us hands cap most) = false := by
    rw [List.all_eq_false]
    refine ⟨r, h, ?_⟩
    unfold rowOkF
    rw [decide_eq_false hl, Bool.false_and]
    exact Bool.false_ne_true
  rw [this, Bool.and_false]
def SpLeast (T : Er) (C : Addr) : Sp := fun vs H Q E => ∃ (m : List Addr) (x : Wn 0), Cc none m H ∧ RpA.rpa m H (x.inside, x.univ, x.hands, x.top, x.most, ()) vs ∧ (x.inside.length ≤ 90000 ∧ x.univ.length ≤ 90000 ∧ x.hands.length ≤ 90000 ∧ 0 ≤ x.most ∧ x.most ≤ 90000) ∧
  (∀ y, mkW C x.inside x.univ x.hands x.top x.most = .ok y → ∀ o, FirstAt (96 * x.hands.length) (goodAt x) o → ∀ ap H', H ap = none → Gr [] H H' → (∀ m', (∀ b, b ∈ m' → H b ≠ none) → OwnN m' H' ap (rowsN x (o.getD (96 * x.hands.length)))) →
    match o with
    | some k => ∀ t, H t = none → H' t = some (.tup [.int (pairAt x.hands.length k).1, .int (pairAt x.hands.length k).2, .ref ap]) → Q (.ref t) H'
    | none => ∀ d, H' d = some (.xd [("paper", .ref ap)]) → E (.ref T.noSieve) (some d) H') ∧
  ∀ e, mkW C x.inside x.univ x.hands x.top x.most = .error e → ∀ c d H', Gr [] H H' → ErrAt T H H' e c d → E c d H'
def ov1 (nh : Nat) : Option Nat → V
  | some k => .int (pairAt nh k).1
  | none => .non
def ov2 (nh : Nat) : Option Nat → V
  | some k => .int (pairAt nh k).2
  | none => .non
section
variable {α β γ : Type} [Rp α] [Rp β] [Rp γ] {K : PySem.W.Frag} {D : Dst} {m m' ms : List Addr} {σ : St} {H H' H2 : Hp} {ta tb tc te : TE} {En : Ends} {i j : Nat} {z : TS}
/-- list(t) of a pair of whole numbers -/
theorem el_listP {x : Int × Int} (h : EvV D m ta σ H x) : EvLV D m (tCB (rList K) (tCons ta tNil)) σ H [x.1, x.2] := fun H1 g c Q w => h H1 g c _ fun x' v H2 g2 r e => by
  subst e
  obtain ⟨a, u1, u2, rfl, h, r1, r2⟩ := r
  cases rp_int r1
  cases rp_int r2
  exact ⟨a, _, rfl, .inr (.of h), fun l hl => w [x'.1, x'.2] l _ (g2.gr.dom l hl) (g2.trans (.new hl)) (.of_ints ((c.go g2).free hl) upd_same) rfl⟩
theorem ev_isTri {x : Tri α β γ} (h : EvV D m ta σ H x) : EvV D m (tCB (rIsi K) (tCons ta (tCons (tC (.ty "tuple")) tNil))) σ H true := ev_isT h (fun _ _ _ r _ => by
  obtain ⟨a, u, w, z, rfl, h, _⟩ := r
  exact .base (.tup h)) (by decide +kernel)
/-- a, b = e, of some kind -/
theorem q_set2P {p : α × β → Prop} (c : Cc D m H) (h : Ev D m te σ H p) (k : ∀ x u w H1, p x → Gd D H H1 → Rp.rp m H1 x.1 u → Rp.rp m H1 x.2 w → z En ((σ.set i (some u)).set j (some w)) H1) : tSeq (tAsg te (gTup K 2 (gCons (gName i) (gCons (gName j) gNil)))) z En σ H := h H .refl c _ fun x v H1 g r e => g_pair r fun u w r1 r2 => k x u w H1 e g r1 r2
/-- a, b, c = e -/
theorem q_set3 {i1 i2 i3 : Nat} {x : Tri α β γ} (c : Cc D m H) (h : EvV D m te σ H x) (k : ∀ u1 u2 u3 H1, Gd D H H1 → Rp.rp m H1 x.a u1 → Rp.rp m H1 x.b u2 → Rp.rp m H1 x.c u3 → z En (((σ.set i1 (some u1)).set i2 (some u2)).set i3 (some u3)) H1) :
    tSeq (tAsg te (gTup K 3 (gCons (gName i1) (gCons (gName i2) (gCons (gName i3) gNil))))) z En σ H := h H .refl c _ fun x' v H1 g r e => by
  subst e
  exact g_tri r fun u1 u2 u3 r1 r2 r3 => k u1 u2 u3 H1 g r1 r2 r3
end
section
variable {α β γ A : Type} [Rp α] [Rp β] [Rp γ] [RpA A] {K : PySem.W.Frag} {D : Dst} {m m' ms : List Addr} {σ : St} {H H' H2 : Hp} {ta tb tc te : TE} {En : Ends} {i j : Nat} {z : TS} {t : TA}
theorem ev_some {x : α} (h : EvV D m ta σ H x) : EvV D m ta σ H (some x) := fun H1 g c Q w => h H1 g c _ fun y v H2 g2 r e => w (some y) v H2 g2 r (by rw [e])
instance : Dat (Option Int) := ⟨fun x => match x with
  | none => .none
  | some i => .int i, fun _ => True, 0, fun {K m H x v} r => by
    cases x with
    | none => cases (show v = V.non from r); exact .non
    | some i => cases (show v = V.int i from r); exact .int i, fun x _ => by cases x <;> simp only [PyData.canLay0], fun x => by cases x <;> simp [PyData.depth], fun x y => by cases x <;> cases y <;> simp [PyData.eqv]⟩
/-- list(t) of a pair -/
theorem el_listPG {x : α × α} (h : EvV D m ta σ H x) : EvLV D m (tCB (rList K) (tCons ta tNil)) σ H [x.1, x.2] := fun H1 g c Q w => h H1 g c _ fun x' v H2 g2 r e => by
  subst e
  obtain ⟨a, u1, u2, rfl, h, r1, r2⟩ := r
  exact ⟨a, _, rfl, .inr (.of h), fun l hl => w [x'.1, x'.2] l _ (g2.gr.dom l hl) (g2.trans (.new hl)) ⟨(c.go g2).free hl, _, upd_same, .cons (rp_g0 r1 (.new hl)) (.cons (rp_g0 r2 (.new hl)) .nil)⟩ rfl⟩
/-- what a list of new rows is made of -/
theorem rows_new {rows : List PRow} {ap : Addr} (h : ∀ m', (∀ b, b ∈ m' → H b ≠ none) → OwnN m' H' ap rows) : ∃ vs, H' ap = some (.lst vs) ∧ vs.length = rows.length ∧ ∀ (i : Nat) (v : V), vs[i]? = some v → ∃ t u w a l, v = .ref t ∧ H' t = some (.tup [u, w, .ref a]) ∧ H a = none ∧ a ≠ ap ∧ H' a = some (.lst l) := by
  obtain ⟨_, vs, hv, ps⟩ := h [] (by simp)
  refine ⟨vs, hv, ps.length.symm, fun i v hi => ?_⟩
  have hlt : i < rows.length := by rw [ps.length]; exact (List.getElem?_eq_some_iff.mp hi).1
  obtain ⟨y, hy, ry⟩ := paired_at ps (List.getElem?_eq_getElem hlt)
  rw [hi] at hy
  cases hy
  obtain ⟨t, u, w, z, rfl, ht, _, _, r3⟩ := ry
  obtain ⟨a, l, rfl, na, ha, _⟩ := rp_lst r3
  refine ⟨t, u, w, a, l, rfl, ht, ?_, fun e => na (by rw [e]; simp), ha⟩
  cases hHa : H a with
  | none => rfl
  | some o =>
    obtain ⟨_, vs2, hv2, ps2⟩ := h [a] (by simp [hHa])
    rw [hv] at hv2
    cases hv2
    obtain ⟨y2, hy2, ry2⟩ := paired_at ps2 (List.getElem?_eq_getElem hlt)
    rw [hi] at hy2
    cases hy2
    obtain ⟨t', u', w', z', e, ht', _, _, r3'⟩ := ry2
    cases e
    rw [ht] at ht'
    cases ht'
    obtain ⟨a', l', e', na', _, _⟩ := rp_lst r3'
    cases e'
    exact absurd (by simp) na'
/-- for row in t[2]: row[2].clear(), then t[2].clear(): all new since H0 -/
theorem q_clearRows {H0 : Hp} {tt ap : Addr} {u0 w0 : V} {vs : List V} (c : Cc D m H0) (g : Gd D H0 H) (nap : H0 ap = none) (hi : σ[i]? = some (some (.ref tt))) (hij : i ≠ j) (hjl : j < σ.length) (ht : H tt = some (.tup [u0, w0, .ref ap])) (hv : H ap = some (.lst vs))
    (hr : ∀ (n : Nat) (v : V), vs[n]? = some v → ∃ t u w a l, v = .ref t ∧ H t = some (.tup [u, w, .ref a]) ∧ H0 a = none ∧ a ≠ ap ∧ H a = some (.lst l))
    (k : ∀ o H', Gd D H0 H' → En.nx (σ.set j o) H') :
    tSeq (tFor (iList K (tOp (rIxT K) (tVar i) (tC (.int 2)))) (gName j) (tDrop (tBM0 K "list" rClear (tOp (rIxT K) (tVar j) (tC (.int 2)))))) (tDrop (tBM0 K "list" rClear (tOp (rIxT K) (tVar i) (tC (.int 2))))) En σ H := by
  refine sq ?_
  refine ⟨_, hi, tt, _, 2, _, rfl, rfl, .of ht, rfl, ap, rfl, ⟨vs, .of hv⟩, for_list (K := K) (a := ap) (xs := vs) (fun n s' H' => ∃ o, s' = σ.set j o ∧ Gd D H0 H' ∧ H' tt = some (.tup [u0, w0, .ref ap]) ∧ H' ap = some (.lst vs) ∧ ∀ (n : Nat) (v : V), vs[n]? = some v → ∃ t u w a l, v = .ref t ∧ H' t = some (.tup [u, w, .ref a]) ∧ H0 a = none ∧ a ≠ ap ∧ H' a = some (.lst l)) ?_ (fun n s' H' _ ⟨_, _, _, _, h, _⟩ => .of h) ?_ ?_⟩
  · exact ⟨σ[j], by simp, g, ht, hv, hr⟩
  · rintro n v s' H' hn ⟨o, rfl, g', ht', hv', hr'⟩
    obtain ⟨t, u, w, a, l, rfl, h1, h2, h3, h4⟩ := hr' n v hn
    refine g_name ?_
    rw [List.set_set]
    refine ⟨_, List.getElem?_set_self hjl, t, _, 2, _, rfl, rfl, .of h1, rfl, .inl ⟨rfl, _, .inl (.inl h4)⟩, a, l, rfl, rfl, h4, ?_⟩
    have tu : ∀ b xs, H' b = some (.tup xs) → upd H' a (.lst []) b = some (.tup xs) := upd_tup h4 fun xs z => by cases z
    refine ⟨_, rfl, mut_gd g' c h2, tu _ _ ht', by rw [upd_ne h3.symm]; exact hv', fun n2 v2 hn2 => ?_⟩
    obtain ⟨t2, u2, w2, a2, l2, e2, q1, q2, q3, q4⟩ := hr' n2 v2 hn2
    by_cases e : a2 = a
    · exact ⟨t2, u2, w2, a2, [], e2, tu _ _ q1, q2, q3, by rw [e]; exact upd_same⟩
    · exact ⟨t2, u2, w2, a2, l2, e2, tu _ _ q1, q2, q3, by rw [upd_ne e]; exact q4⟩
  · rintro s' H' ⟨o, rfl, g', ht', hv', hr'⟩
    exact ⟨_, by rw [List.getElem?_set_ne hij.symm]; exact hi, tt, _, 2, _, rfl, rfl, .of ht', rfl, .inl ⟨rfl, _, .inl (.inl hv')⟩, ap, vs, rfl, rfl, hv', k o _ (mut_gd g' c nap)⟩
end
def lessAt (x : Wn 0) (k : Nat) : List Int × List Int := ([(pairAt x.hands.length k).1, (pairAt x.hands.length k).2], wrongAt x k)
def lessL (x : Wn 0) (n : Nat) : List (List Int × List Int) := (List.range n).map (lessAt x)
theorem lessL_succ (x : Wn 0) (n : Nat) : lessL x (n + 1) = lessL x n ++ [lessAt x n] := by
  unfold lessL
  rw [List.range_succ, List.map_append]
  rfl
theorem lessL_len (x : Wn 0) (n : Nat) : (lessL x n).length = n := by unfold lessL; simp
theorem lessL_get {x : Wn 0} {n k : Nat} (h : k < n) : (lessL x n)[k]? = some (lessAt x k) := by
  unfold lessL
  rw [List.getElem?_map, List.getElem?_range h]
  rfl
structure Wn.Fine (x : Wn 0) : Prop where
  h : HandsOk 6 x.hands
  c0 : 1 ≤ x.top
  c1 : x.top ≤ 9
  k : ∀ k, k ∈ x.inside → KeyOk k
  u : ∀ k, k ∈ x.univ → KeyOk k
  l1 : x.inside.length ≤ 1000
  l2 : x.univ.length ≤ 1000
  nd : x.univ.Nodup
  m0 : 0 ≤ x.most
  m1 : x.most ≤ 900
end KS
set_option Elab.async false
set_option linter.all false
set_option maxRecDepth 100000
set_option maxHeartbeats 4000000
namespace KS
open PySem L2
/-! ### tuples of any length -/
section
variable {α β γ δ A R : Type} [Rp α] [Rp β] [Rp γ] [Rp δ] [RpA A] [Rp R] {K : PySem.W.Frag} {D : Dst} {m m' ms : List Addr} {σ : St} {H H' H2 : Hp} {ta tb tc te ti tl : TE} {t u : TA} {T : Er} {En : Ends} {i j : Nat} {E : XK} {z : TS} {g : TG} {tt : TT} {ws : List Nat} {a : Addr} {v : V}
theorem paired_nil {F : α → V → Prop} {xs : List α} {vs : List V} (p : Paired F xs vs) (h : vs = []) : xs = [] := by
  have l := p.length
  rw [h] at l
  cases xs with
  | nil => rfl
  | cons x xs => simp at l
/-- t + u, t not empty -/
theorem ev_catT {xs ys : Tp α} (ha : EvV D m ta σ H xs) (hb : EvV D m tb σ H ys) (hn : xs.l ≠ []) (hz : xs.l.length + ys.l.length ≤ 100000) : EvV D m (tOp (rCatT K) ta tb) σ H (⟨xs.l ++ ys.l⟩ : Tp α) := fun H1 e c Q w =>
  ha H1 e c _ fun xs' v H2 e2 rx px => hb H2 (e.trans e2) (c.go e2) _ fun ys' w' H3 e3 ry py => by
  subst px py
  obtain ⟨a, vs, rfl, h, ps⟩ := rp_gd rx (c.go e2) e3
  obtain ⟨b, us, rfl, h', pu⟩ := ry
  refine ⟨a, b, vs, us, rfl, rfl, .of h, .of h', fun q => hn (paired_nil ps q), Evl.sz_of (by rw [← ps.length, ← pu.length]; exact hz), fun q => ?_, fun q p hp => ?_⟩
  · have e' := paired_nil pu q
    exact w _ _ H3 (e2.trans e3) ⟨a, vs, rfl, h, by rw [e', List.append_nil]; exact ps⟩ rfl
  · exact w _ _ _ ((e2.trans e3).trans (.new hp)) ⟨p, _, rfl, upd_same, paired_app (paired_go ps fun _ _ r => rp_g0 r (.new hp)) (paired_go pu fun _ _ r => rp_g0 r (.new hp))⟩ rfl
/-- t + u -/
theorem ev_catA {xs ys : Tp α} (ha : EvV D m ta σ H xs) (hb : EvV D m tb σ H ys) (hz : xs.l.length + ys.l.length ≤ 100000) : EvV D m (tOp (rCatA K) ta tb) σ H (⟨xs.l ++ ys.l⟩ : Tp α) := fun H1 e c Q w =>
  ha H1 e c _ fun xs' v H2 e2 rx px => hb H2 (e.trans e2) (c.go e2) _ fun ys' w' H3 e3 ry py => by
  subst px py
  obtain ⟨a, vs, rfl, h, ps⟩ := rp_gd rx (c.go e2) e3
  obtain ⟨b, us, rfl, h', pu⟩ := ry
  refine ⟨a, b, vs, us, rfl, rfl, .of h, .of h', Evl.sz_of (by rw [← ps.length, ← pu.length]; exact hz), fun q => ?_, fun _ q => ?_, fun _ q p hp => ?_⟩
  · have e' := paired_nil ps q
    exact w _ _ H3 (e2.trans e3) ⟨b, us, rfl, h', by rw [e', List.nil_append]; exact pu⟩ rfl
  · have e' := paired_nil pu q
    exact w _ _ H3 (e2.trans e3) ⟨a, vs, rfl, h, by rw [e', List.append_nil]; exact ps⟩ rfl
  · exact w _ _ _ ((e2.trans e3).trans (.new hp)) ⟨p, _, rfl, upd_same, paired_app (paired_go ps fun _ _ r => rp_g0 r (.new hp)) (paired_go pu fun _ _ r => rp_g0 r (.new hp))⟩ rfl
/-- [f(x) for x in t] -/
theorem el_mapT [Nl β] {xs : Tp α} (f : α → β) (h : EvV D m tl σ H xs) (hz : xs.l.length ≤ 90000) (hs : ∀ x v H1, x ∈ xs.l → Gd D H H1 → Cc D m H1 → Rp.rp m H1 x v → LcT D m g tYes te ws σ v H1 (fun b => b = true) (fun y => y = f x)) :
    EvLV D m (tLc (iTup K tl) g tYes te ws) σ H (xs.l.map f) := fun H1 e c Q w => h H1 e c _ fun xs' v H2 e2 r q => by
  subst q
  obtain ⟨a, vs, rfl, ha, ps⟩ := r
  have c2 := c.go e2
  refine ⟨a, rfl, ⟨vs, .of ha⟩, fun Dl hD => ?_⟩
  have nD : Dl ∉ m := c2.free hD
  refine lc_tup (K := K) (a := a) (xs := vs) (fun j H' => ∃ acc, Gd D H2 H' ∧ Own m H' Dl acc ∧ acc.length ≤ j ∧ acc = (xs'.l.take j).map f) ⟨[], .new hD, .nil nD upd_same, Nat.zero_le _, rfl⟩ (fun j H' hj ⟨acc, g', _⟩ => .of (g'.gr.tup a _ ha)) (fun j u H' hj ⟨acc, g', o, hl, hI⟩ => ?_) (fun H' ⟨acc, g', o, hl, hI⟩ => ?_)
  · have hlt : j < xs'.l.length := by rw [ps.length]; exact (List.getElem?_eq_some_iff.mp hj).1
    have hx := List.getElem?_eq_getElem hlt
    obtain ⟨y, hy, ry⟩ := paired_at ps hx
    rw [hj] at hy
    cases hy
    have hT := hs _ u H' (List.mem_of_getElem? hx) ((e.trans e2).trans g') (c2.go g') (rp_gd ry c2 g')
    refine lc_turn hT (c2.go g') .refl o (by omega) (fun y ws H4 g4 z py o4 => ⟨acc ++ [y], mut_gd (g'.trans g4) c2 hD, o4, by simp; omega, by rw [hI, py, List.take_add_one, hx, List.map_append]; rfl⟩) (fun H4 g4 z => by cases z)
  · exact w acc Dl H' (e2.gr.dom Dl hD) (e2.trans g') o (by rw [hI, ← ps.length, List.take_length])
/-- for i, x in enumerate(xs) -/
theorem s_forEnum {j1 j2 : Nat} {xs : List α} {u : TS} (c : Cc D m H) (h1 : EvV D m ta σ H xs)
    (k : ∀ a vs H1, Gd D H H1 → a ∉ m → H1 a = some (.lst vs) → ∃ Pv : Nat → St → Hp → Prop, Pv 0 σ H1 ∧ (∀ j σ' H', Pv j σ' H' → H' a = some (.lst vs)) ∧
      (∀ (j : Nat) x vx t σ' H', xs[j]? = some x → Rp.rp m H1 x vx → Pv j σ' H' → H' t = none → u { En with nx := Pv (j + 1), ct := Pv (j + 1), bk := En.nx } ((σ'.set j1 (some (.int (j : Int)))).set j2 (some vx)) (upd H' t (.tup [.int (j : Int), vx]))) ∧ ∀ σ' H', Pv xs.length σ' H' → En.nx σ' H') :
    tFor (iEnum K (tCons ta tNil)) (gTup K 2 (gCons (gName j1) (gCons (gName j2) gNil))) u En σ H := h1 H .refl c _ fun xs' v H1 g1 r e => by
  subst e
  obtain ⟨a, vs, rfl, na, ha, ps⟩ := rp_lst r
  obtain ⟨Pv, p0, pl, ps', pd⟩ := k a vs H1 g1 na ha
  refine ⟨a, vs, rfl, .of ha, for_it (walk_enum (K := K) (a := a) (xs := vs)) Pv p0 (fun j s2 H' _ hp => .of (pl j s2 H' hp)) ?_ (fun s2 H' hp => pd s2 H' (by rw [ps.length]; exact hp))⟩
  rintro j x s2 H' H'' hlt hp ⟨T, x1, y1, rfl, hT, rfl, hx1, hy1⟩
  cases hx1
  have hlt' : j < xs'.length := by rw [ps.length]; exact hlt
  obtain ⟨y', hy', ry⟩ := paired_at ps (List.getElem?_eq_getElem hlt')
  have hy2 : vs[j]? = some y1 := hy1
  rw [hy2] at hy'
  cases hy'
  exact ⟨T, _, rfl, .of upd_same, rfl, _, _, rfl, _, _, rfl, rfl, ps' j _ _ T s2 H' (List.getElem?_eq_getElem hlt') ry hp hT⟩
theorem q_forEnum {j1 j2 : Nat} {xs : List α} {u : TS} (c : Cc D m H) (h1 : EvV D m ta σ H xs)
    (k : ∀ a vs H1, Gd D H H1 → a ∉ m → H1 a = some (.lst vs) → ∃ Pv : Nat → St → Hp → Prop, Pv 0 σ H1 ∧ (∀ j σ' H', Pv j σ' H' → H' a = some (.lst vs)) ∧
      (∀ (j : Nat) x vx t σ' H', xs[j]? = some x → Rp.rp m H1 x vx → Pv j σ' H' → H' t = none → u { En with nx := Pv (j + 1), ct := Pv (j + 1), bk := z En } ((σ'.set j1 (some (.int (j : Int)))).set j2 (some vx)) (upd H' t (.tup [.int (j : Int), vx]))) ∧ ∀ σ' H', Pv xs.length σ' H' → z En σ' H') :
    tSeq (tFor (iEnum K (tCons ta tNil)) (gTup K 2 (gCons (gName j1) (gCons (gName j2) gNil))) u) z En σ H := s_forEnum (En := { En with nx := z En }) c h1 k
/-- list(range(n)) -/
def upto (n : Nat) : List Int := (List.range n).map fun i : Nat => (i : Int)
theorem rgV_upto (n : Nat) : rgV 0 (n : Int) = (upto n).map V.int := by
  unfold rgV upto
  rw [List.map_map, Int.sub_zero, Int.toNat_natCast]
  apply List.map_congr_left
  intro i _
  show V.int (0 + (i : Int)) = V.int (i : Int)
  rw [Int.zero_add]
theorem el_listRg {n : Nat} (h : EvV D m ta σ H (n : Int)) (hn : n ≤ 90000) : EvLV D m (tLstRg (tRg1 ta)) σ H (upto n) := fun H1 e c Q w => h H1 e c _ fun x v H2 e2 r q => by
  subst q
  cases rp_int r
  refine ⟨_, rfl, RgOk.of_le (by omega) (by omega) (by omega) (by omega), fun p hp => w _ p _ (e2.gr.dom p hp) (e2.trans (.new hp)) (Own.of_ints ((c.go e2).free hp) ?_) rfl⟩
  rw [upd_same, rgV_upto]
theorem ev_tupRg {n : Nat} (h : EvV D m ta σ H (n : Int)) (hn : n ≤ 90000) : EvV D m (tTupRg (tRg1 ta)) σ H (⟨upto n⟩ : Tp Int) := fun H1 e c Q w => h H1 e c _ fun x v H2 e2 r q => by
  subst q
  cases rp_int r
  refine ⟨_, rfl, RgOk.of_le (by omega) (by omega) (by omega) (by omega), fun p hp => w _ _ _ (e2.trans (.new hp)) ⟨p, _, rfl, upd_same, ?_⟩ rfl⟩
  rw [rgV_upto]
  exact ints_paired _
end

/-! ### min of a list of data -/
section
variable {X : Cx}
def rMinD (K : PySem.W.Frag) : List V → Hp → VK → Prop := fun vs H Q => ∃ (p : Addr) (x0 : V) (xs : List V) (d : PyData) (ds : List PyData), vs = [.ref p] ∧ SqL K H p (x0 :: xs) ∧ DpAll K H (x0 :: xs) (d :: ds) ∧ PySem.W.AlikeAll (d :: ds) ∧ PyData.depthAll (d :: ds) ≤ 60 ∧
  ∀ (i : Nat) (z : V), (x0 :: xs)[i]? = some z → (d :: ds)[i]? = some (PySem.W.minD d ds) → Q z H
theorem call_minD (hc : X.calm = true) (hu : X.A.units + 64 < cLine) : CallR X (.builtin "min") (rMinD X.K) := by
  intro pins s σ H vs us Q I r h
  obtain ⟨p, x0, xs, d, ds, rfl, hs, hd, ha, hz, q⟩ := h
  obtain ⟨its, rv, hl, _⟩ := I.list hs
  rw [Vals.ref1 r]
  obtain ⟨as, hr⟩ := Dp.readsAll I (d :: ds) _ its hd rv
  refine PySem.W.min_list_data (I.ok.hd hc) hl.isList (by simpa using hr) ha (by omega) fun i v h' tk bs hv hrd hk => ?_
  have hv' : its[i]? = some v := by simpa using hv
  have hlt : i < (x0 :: xs).length := by rw [rv.length]; exact (List.getElem?_eq_some_iff.mp hv').1
  obtain ⟨u, hu', ru⟩ := rv.get (List.getElem?_eq_getElem hlt)
  rw [hv'] at hu'
  cases hu'
  refine ⟨_, H, I.kept hk, ru, q i _ (List.getElem?_eq_getElem hlt) ?_⟩
  obtain ⟨cs, r1, _⟩ := PySem.W.readsAll_atA hr i v (by simpa using hv)
  have hlt2 : i < (d :: ds).length := by
    have e1 := PySem.W.readsAll_len (vs := its.toArray) (by simpa using hr)
    rw [← e1, List.size_toArray]
    exact (List.getElem?_eq_some_iff.mp hv').1
  have r2 := PySem.W.reads_keeps hk r1
  have e2 := (Reads.unique hrd _ _ r2).1
  rw [e2, List.getD_eq_getElem?_getD, List.getElem?_eq_getElem hlt2]
  rfl
end

/-! ### the order of data -/
section
open PySem.W PyProof.Rows
theorem dLt_irrefl (x : PyData) : dataLt x x = false := lex_irrefl _
theorem dLt_trans {x y z : PyData} (h1 : dataLt x y = true) (h2 : dataLt y z = true) : dataLt x z = true := lex_trans _ _ _ h1 h2
theorem minD_go : ∀ (ys : List PyData) (a : PyData) (S : PyData → Prop), (∀ x, S x → dataLt x a = false) → ∀ x, (S x ∨ x ∈ ys) → dataLt x (ys.foldl (fun a y => if dataLt y a then y else a) a) = false
  | [], a, S, h, x, hx => by
    rcases hx with hx | hx
    · exact h x hx
    · cases hx
  | y :: ys, a, S, h, x, hx => by
    rw [List.foldl_cons]
    refine minD_go ys _ (fun x => S x ∨ x = y) (fun x hx => ?_) x ?_
    · by_cases hy : dataLt y a = true
      · rw [if_pos hy]
        rcases hx with hx | rfl
        · cases hz : dataLt x y with
          | false => rfl
          | true => have := dLt_trans hz hy; rw [h x hx] at this; cases this
        · exact dLt_irrefl _
      · rw [if_neg hy]
        rcases hx with hx | rfl
        · exact h x hx
        · exact Bool.eq_false_iff.mpr hy
    · rcases hx with hx | hx
      · exact .inl (.inl hx)
      · rcases List.mem_cons.mp hx with z | z
        · exact .inl (.inr z)
        · exact .inr z
theorem minD_least {d : PyData} {ds : List PyData} : ∀ x, x ∈ d :: ds → dataLt x (minD d ds) = false := fun x hx => minD_go ds d (fun x => x = d) (fun x e => by rw [e]; exact dLt_irrefl _) x (List.mem_cons.mp hx)
theorem alike_ints : ∀ xs ys : List Int, alikeAll (xs.map PyData.int) (ys.map PyData.int) = true
  | [], [] => by simp [alikeAll]
  | [], _ :: _ => by simp [alikeAll]
  | _ :: _, [] => by simp [alikeAll]
  | x :: xs, y :: ys => by simp [alikeAll, alike, alike_ints xs ys]
theorem eqv_ints : ∀ xs ys : List Int, PyData.eqvAll (xs.map PyData.int) (ys.map PyData.int) = true ↔ xs = ys
  | [], [] => by simp [PyData.eqvAll]
  | [], y :: ys => by simp [PyData.eqvAll]
  | x :: xs, [] => by simp [PyData.eqvAll]
  | x :: xs, y :: ys => by rw [List.map_cons, List.map_cons, PyData.eqvAll, Bool.and_eq_true, eqv_ints xs ys]; simp [PyData.eqv]
theorem dLt_ints : ∀ xs ys : List Int, HT.lexLt xs ys = true → PyProof.Rows.lexLt itemOrd (keyToksAll (xs.map PyData.int)) (keyToksAll (ys.map PyData.int)) = true
  | [], [], h => by rw [HT.lexLt_nil_nil] at h; cases h
  | [], y :: ys, _ => by
    have := firstLt_toks [] ((y :: ys).map PyData.int) (by simp [alikeAll])
    rw [List.map_nil, ← this]
    rfl
  | x :: xs, [], h => by cases h
  | x :: xs, y :: ys, h => by
    rw [HT.lexLt_cons] at h
    by_cases e : x = y
    · rw [if_pos e] at h
      subst e
      rw [List.map_cons, List.map_cons, dataLt_all_yes (by simp [alike]) (by simp [PyData.eqv])]
      exact dLt_ints xs ys h
    · rw [if_neg e] at h
      rw [List.map_cons, List.map_cons, dataLt_all_no (by simp [alike]) (by simp [PyData.eqv, e]), dataLt_int]
      exact h
abbrev Pick := Int × Tp Int
def pkd (x : Pick) : PyData := Dat.dat x
theorem pkd_eq (x : Pick) : pkd x = .tuple [.int x.1, .tuple (x.2.l.map PyData.int)] := rfl
theorem pkd_lt {x y : Pick} (h : x.1 < y.1 ∨ (x.1 = y.1 ∧ HT.lexLt x.2.l y.2.l = true)) : dataLt (pkd x) (pkd y) = true := by
  rw [pkd_eq, pkd_eq, dataLt_tuple]
  by_cases e : x.1 = y.1
  · have hl : HT.lexLt x.2.l y.2.l = true := by
      rcases h with h | h
      · omega
      · exact h.2
    rw [dataLt_all_yes (by simp [alike]) (by simp [PyData.eqv, e])]
    by_cases e2 : x.2.l = y.2.l
    · rw [e2] at hl
      have := dLt_ints _ _ hl
      rw [lex_irrefl] at this
      cases this
    · rw [dataLt_all_no (by simpa [alike] using alike_ints _ _) (by rw [PyData.eqv]; exact Bool.eq_false_iff.mpr fun z => e2 ((eqv_ints _ _).mp z)), dataLt_tuple]
      exact dLt_ints _ _ hl
  · rw [dataLt_all_no (by simp [alike]) (by simp [PyData.eqv, e]), dataLt_int]
    exact decide_eq_true (by omega)
theorem pkd_alike (xs : List Pick) : AlikeAll (xs.map pkd) := by
  refine ⟨fun x hx y hy => ?_, fun x hx => ?_⟩
  · obtain ⟨p, _, rfl⟩ := List.mem_map.mp hx
    obtain ⟨q, _, rfl⟩ := List.mem_map.mp hy
    rw [pkd_eq, pkd_eq]
    simp [alike, alikeAll, alike_ints]
  · obtain ⟨p, _, rfl⟩ := List.mem_map.mp hx
    rw [pkd_eq]
    simp
/-- the least of what min is handed -/
theorem ev_minP {K : PySem.W.Frag} {D : Dst} {m : List Addr} {σ : L2.St} {H : Hp} {ta : TE} {xs : List Pick} {y : Pick} (ha : EvV D m ta σ H xs) (hy : y ∈ xs) (hl : ∀ x, x ∈ xs → x ≠ y → y.1 < x.1 ∨ (y.1 = x.1 ∧ HT.lexLt y.2.l x.2.l = true)) : EvV D m (tCB (rMinD K) (tCons ta tNil)) σ H y := fun H1 e c Q w => ha H1 e c _ fun xs' v H2 e2 r q => by
  subst q
  obtain ⟨a, vs, rfl, n, h, ps⟩ := rp_lst r
  cases xs' with
  | nil => cases hy
  | cons x0 xs =>
    cases ps with
    | @cons _ v0 _ vs r0 ps =>
      refine ⟨a, v0, vs, pkd x0, xs.map pkd, rfl, .of h, dpAll_of (.cons r0 ps), pkd_alike (x0 :: xs), Nat.le_trans (depAll (x0 :: xs)) (by decide), fun i z hz hi => ?_⟩
      have hlt : i < (x0 :: xs).length := by
        have := (List.getElem?_eq_some_iff.mp hi).1
        simpa using this
      obtain ⟨z', hz', rz⟩ := paired_at (Paired.cons r0 ps) (List.getElem?_eq_getElem hlt)
      rw [hz] at hz'
      cases hz'
      have e3 : pkd (x0 :: xs)[i] = minD (pkd x0) (xs.map pkd) := by
        have e4 : (pkd x0 :: xs.map pkd)[i]? = some (pkd (x0 :: xs)[i]) := by
          rw [← List.map_cons, List.getElem?_map, List.getElem?_eq_getElem hlt]
          rfl
        rw [hi] at e4
        exact (Option.some.inj e4).symm
      have e5 : (x0 :: xs)[i] = y := by
        by_cases z9 : (x0 :: xs)[i] = y
        · exact z9
        · have h1 := pkd_lt (hl _ (List.getElem_mem hlt) z9)
          have h2 := minD_least (d := pkd x0) (ds := xs.map pkd) (pkd y) (by rw [← List.map_cons]; exact List.mem_map.mpr ⟨y, hy, rfl⟩)
          rw [← e3, h1] at h2
          cases h2
      exact w _ z H2 e2 (by rw [← e5]; exact rz) rfl
end

/-! ### hands chosen -/
def someF : Nat → List Int → List (List Int)
  | 0, _ => [[]]
  | k + 1, xs => (List.range xs.length).flatMap fun j => (someF k (xs.drop (j + 1))).map (xs.getD j 0 :: ·)
def someT (k : Nat) (xs : List Int) : List (Tp Int) := (someF k xs).map Tp.mk
theorem someF_len : ∀ (k : Nat) (xs : List Int), xs.length ≤ 6 → (someF k xs).length ≤ 6 ^ k
  | 0, xs, _ => by simp [someF]
  | k + 1, xs, h => by
    unfold someF
    rw [List.length_flatMap]
    have : ∀ n : Nat, ((List.range n).map fun j => ((someF k (xs.drop (j + 1))).map (xs.getD j 0 :: ·)).length).sum ≤ n * 6 ^ k := by
      intro n
      induction n with
      | zero => simp
      | succ n ih =>
        rw [List.range_succ, List.map_append, List.sum_append, Nat.succ_mul]
        have h2 := someF_len k (xs.drop (n + 1)) (by simp; omega)
        simp
        simp at ih
        omega
    refine Nat.le_trans (this _) ?_
    rw [Nat.pow_succ, Nat.mul_comm (6 ^ k)]
    exact Nat.mul_le_mul_right _ h
theorem someF_lenEach : ∀ (k : Nat) (xs : List Int) (r : List Int), r ∈ someF k xs → r.length = k
  | 0, xs, r, h => by rw [List.mem_singleton.mp h]; rfl
  | k + 1, xs, r, h => by
    unfold someF at h
    obtain ⟨j, hj, hr⟩ := List.mem_flatMap.mp h
    obtain ⟨r', hr', rfl⟩ := List.mem_map.mp hr
    rw [List.length_cons, someF_lenEach k _ r' hr']
/-- some of them, as far as the first j are told -/
def someUp (k : Nat) (xs : List Int) (j : Nat) : List (Tp Int) := ((List.range j).flatMap fun j => (someF k (xs.drop (j + 1))).map (xs.getD j 0 :: ·)).map Tp.mk
theorem someUp_succ (k : Nat) (xs : List Int) (j : Nat) : someUp k xs (j + 1) = someUp k xs j ++ (someT k (xs.drop (j + 1))).map fun r => ⟨xs.getD j 0 :: r.l⟩ := by
  unfold someUp someT
  rw [List.range_succ, List.flatMap_append, List.map_append]
  simp
theorem someUp_all (k : Nat) (xs : List Int) : someUp k xs xs.length = someT (k + 1) xs := rfl
theorem someUp_len {k : Nat} {xs : List Int} (h : xs.length ≤ 6) (j : Nat) : (someUp k xs j).length ≤ j * 6 ^ k := by
  induction j with
  | zero => simp [someUp]
  | succ j ih =>
    rw [someUp_succ, List.length_append, List.length_map, Nat.succ_mul]
    have : (someT k (xs.drop (j + 1))).length ≤ 6 ^ k := by
      unfold someT
      rw [List.length_map]
      exact someF_len k _ (by simp; omega)
    omega
def bestStep (c : Tp Int → Int) (b : Option Pick) (g : Tp Int) : Option Pick := match b with
  | none => some (c g, g)
  | some x => if c g < x.1 then some (c g, g) else some x
def bestOf (c : Tp Int → Int) (l : List (Tp Int)) : Option Pick := l.foldl (bestStep c) none
theorem best_go (c : Tp Int → Int) : ∀ (l : List (Tp Int)) (S : Tp Int → Prop) (g : Tp Int), (∀ x, S x → c g < c x ∨ (c g = c x ∧ (g = x ∨ HT.lexLt g.l x.l = true))) → S g → (∀ x, S x → ∀ y, y ∈ l → HT.lexLt x.l y.l = true) → l.Pairwise (fun x y => HT.lexLt x.l y.l = true) →
    ∃ g2, l.foldl (bestStep c) (some (c g, g)) = some (c g2, g2) ∧ (S g2 ∨ g2 ∈ l) ∧ ∀ x, (S x ∨ x ∈ l) → c g2 < c x ∨ (c g2 = c x ∧ (g2 = x ∨ HT.lexLt g2.l x.l = true))
  | [], S, g, h, hg, _, _ => ⟨g, rfl, .inl hg, fun x hx => by
    rcases hx with hx | hx
    · exact h x hx
    · cases hx⟩
  | y :: l, S, g, h, hg, ho, hp => by
    rw [List.pairwise_cons] at hp
    rw [List.foldl_cons]
    have step : ∃ g1, bestStep c (some (c g, g)) y = some (c g1, g1) ∧ (S g1 ∨ g1 = y) ∧ ∀ x, (S x ∨ x = y) → c g1 < c x ∨ (c g1 = c x ∧ (g1 = x ∨ HT.lexLt g1.l x.l = true)) := by
      unfold bestStep
      dsimp only
      by_cases q : c y < c g
      · rw [if_pos q]
        refine ⟨y, rfl, .inr rfl, fun x hx => ?_⟩
        rcases hx with hx | rfl
        · rcases h x hx with z | z
          · exact .inl (by omega)
          · exact .inl (by omega)
        · exact .inr ⟨rfl, .inl rfl⟩
      · rw [if_neg q]
        refine ⟨g, rfl, .inl hg, fun x hx => ?_⟩
        rcases hx with hx | rfl
        · exact h x hx
        · by_cases q2 : c g < c x
          · exact .inl q2
          · exact .inr ⟨by omega, .inr (ho g hg x (by simp))⟩
    obtain ⟨g1, e1, m1, h1⟩ := step
    rw [e1]
    obtain ⟨g2, e2, m2, h2⟩ := best_go c l (fun x => S x ∨ x = y) g1 h1 m1 (fun x hx z hz => by
      rcases hx with hx | rfl
      · exact ho x hx z (by simp [hz])
      · exact hp.1 z hz) hp.2
    refine ⟨g2, e2, ?_, fun x hx => h2 x ?_⟩
    · rcases m2 with (m | m) | m
      · exact .inl m
      · exact .inr (by simp [m])
      · exact .inr (by simp [m])
    · rcases hx with hx | hx
      · exact .inl (.inl hx)
      · rcases List.mem_cons.mp hx with z | z
        · exact .inl (.inr z)
        · exact .inr z
theorem best_ok (c : Tp Int → Int) {l : List (Tp Int)} (hn : l ≠ []) (hp : l.Pairwise (fun x y => HT.lexLt x.l y.l = true)) : ∃ g, bestOf c l = some (c g, g) ∧ g ∈ l ∧ ∀ x, x ∈ l → c g < c x ∨ (c g = c x ∧ (g = x ∨ HT.lexLt g.l x.l = true)) := by
  cases l with
  | nil => exact absurd rfl hn
  | cons y l =>
    rw [List.pairwise_cons] at hp
    obtain ⟨g, e, m, h⟩ := best_go c l (fun x => x = y) y (fun x hx => by rw [hx]; exact .inr ⟨rfl, .inl rfl⟩) rfl (fun x hx z hz => by rw [hx]; exact hp.1 z hz) hp.2
    exact ⟨g, e, by rcases m with m | m <;> simp [m], fun x hx => h x (by rcases List.mem_cons.mp hx with z | z <;> simp [z])⟩
/-- all groups of the first n, by doubling -/
def groupsF : Nat → List (List Int)
  | 0 => [[]]
  | n + 1 => groupsF n ++ (groupsF n).map (· ++ [(n : Int)])
theorem groups_len : ∀ n : Nat, (groupsF n).length = 2 ^ n
  | 0 => rfl
  | n + 1 => by unfold groupsF; rw [List.length_append, List.length_map, groups_len n, Nat.pow_succ]; omega
def someGood (n k : Nat) : Bool := !(someF k (upto n)).isEmpty && decide ((someF k (upto n)).Pairwise fun x y => HT.lexLt x y = true) && ((someF k (upto n)).all fun g => g.length == k && (groupsF n).contains g && g.all fun i => decide (0 ≤ i) && decide (i < (n : Int))) &&
  (groupsF n).all fun g => g.length != k || (someF k (upto n)).contains g
theorem some_good : ((List.range 7).all fun n => (List.range (n + 1)).all fun k => someGood n k) = true := by decide +kernel
theorem some_facts {n k : Nat} (hn : n < 7) (hk : k ≤ n) : (someF k (upto n)) ≠ [] ∧ (someF k (upto n)).Pairwise (fun x y => HT.lexLt x y = true) ∧ (∀ g, g ∈ someF k (upto n) → g.length = k ∧ g ∈ groupsF n ∧ ∀ i, i ∈ g → 0 ≤ i ∧ i < (n : Int)) ∧ ∀ g, g ∈ groupsF n → g.length = k → g ∈ someF k (upto n) := by
  have h := List.all_eq_true.mp (List.all_eq_true.mp some_good n (List.mem_range.mpr hn)) k (List.mem_range.mpr (by omega))
  unfold someGood at h
  rw [Bool.and_eq_true, Bool.and_eq_true, Bool.and_eq_true] at h
  obtain ⟨⟨⟨h1, h2⟩, h3⟩, h4⟩ := h
  refine ⟨fun z => by rw [z] at h1; simp at h1, of_decide_eq_true h2, fun g hg => ?_, fun g hg hl => ?_⟩
  · have := List.all_eq_true.mp h3 g hg
    rw [Bool.and_eq_true, Bool.and_eq_true] at this
    obtain ⟨⟨a, b⟩, d⟩ := this
    refine ⟨by simpa using a, by simpa using b, fun i hi => ?_⟩
    have := List.all_eq_true.mp d i hi
    simpa using this
  · have := List.all_eq_true.mp h4 g hg
    simpa [hl] using this
theorem groups_in : ∀ n : Nat, ∀ g, g ∈ groupsF n → g.length ≤ n ∧ ∀ i, i ∈ g → 0 ≤ i ∧ i < (n : Int)
  | 0, g, h => by
    rcases List.mem_singleton.mp h with rfl
    exact ⟨by simp, fun i hi => by cases hi⟩
  | n + 1, g, h => by
    rcases List.mem_append.mp h with h | h
    · obtain ⟨a, b⟩ := groups_in n g h
      exact ⟨by omega, fun i hi => by have := b i hi; omega⟩
    · obtain ⟨g', h', rfl⟩ := List.mem_map.mp h
      obtain ⟨a, b⟩ := groups_in n g' h'
      refine ⟨by simp; omega, fun i hi => ?_⟩
      rcases List.mem_append.mp hi with z | z
      · have := b i z; omega
      · rw [List.mem_singleton.mp z]; omega
def pickF (hands : List (Int × Int)) (g : List Int) : List (Int × Int) := g.map fun i => hands.getD i.toNat (0, 0)
theorem pickF_ok {hands : List (Int × Int)} {g : List Int} (h : HandsOk 6 hands) (h0 : 1 ≤ g.length) (h1 : g.length ≤ 6) (hg : ∀ i, i ∈ g → 0 ≤ i ∧ i < (hands.length : Int)) : HandsOk 6 (pickF hands g) := by
  refine ⟨by unfold pickF; simpa using h0, by unfold pickF; rw [List.length_map]; omega, fun x hx => ?_⟩
  obtain ⟨i, hi, rfl⟩ := List.mem_map.mp hx
  obtain ⟨a, b⟩ := hg i hi
  have hlt : i.toNat < hands.length := by omega
  refine h.2.2 _ ?_
  rw [List.getD_eq_getElem?_getD, List.getElem?_eq_getElem hlt]
  exact List.getElem_mem hlt
def cntF {C : Addr} (x : Wn C) (size : Int) (g : Tp Int) : Int := ((wrongBy x size (pickF x.hands g.l)).length : Nat)
def chosenF (C : Addr) (keys us : List Int) (hands : List (Int × Int)) (cap size many : Int) : Except Err (Option Pick) := match chkSize size with
  | .ok _ => match mkW C keys us hands cap 0 with
    | .ok x => .ok (bestOf (cntF x size) (someT many.toNat (upto hands.length)))
    | .error e => .error e
  | .error e => .error e
end KS
set_option Elab.async false
set_option linter.all false
set_option maxRecDepth 100000
set_option maxHeartbeats 4000000
namespace KS
open PySem L2
/-! ### values that are some data, of any kind, to a depth -/
def At : Nat → Hp → V → PyData → Prop
  | 0, _, _, _ => False
  | _ + 1, _, v, .int i => v = .int i
  | _ + 1, _, v, .str s => v = .str s ∧ PyData.strOk s = true
  | n + 1, H, v, .list ds => ∃ a xs, v = .ref a ∧ H a = some (.lst xs) ∧ ds.length ≤ 90000 ∧ Paired (fun d u => At n H u d) ds xs
  | n + 1, H, v, .tuple ds => ∃ a xs, v = .ref a ∧ H a = some (.tup xs) ∧ ds.length ≤ 90000 ∧ Paired (fun d u => At n H u d) ds xs
  | _ + 1, _, _, _ => False
theorem At.go {H H1 : Hp} (g : Gr [] H H1) : ∀ {n : Nat} {v : V} {d : PyData}, At n H v d → At n H1 v d
  | 0, _, _, h => h.elim
  | _ + 1, _, .int _, h => h
  | _ + 1, _, .str _, h => h
  | n + 1, _, .list ds, ⟨a, xs, e, h, hl, p⟩ => ⟨a, xs, e, g.at0 h, hl, paired_go p fun _ _ q => At.go g q⟩
  | n + 1, _, .tuple ds, ⟨a, xs, e, h, hl, p⟩ => ⟨a, xs, e, g.at0 h, hl, paired_go p fun _ _ q => At.go g q⟩
  | _ + 1, _, .none, h => h
  | _ + 1, _, .bool _, h => h
  | _ + 1, _, .dict _, h => h
theorem at_list {α : Type} [Rp α] {m : List Addr} {H : Hp} {n : Nat} {xs : List α} {v : V} {f : α → PyData} (r : Rp.rp m H xs v) (hl : xs.length ≤ 90000) (h : ∀ x u, x ∈ xs → Rp.rp m H x u → At n H u (f x)) : At (n + 1) H v (.list (xs.map f)) := by
  obtain ⟨a, vs, rfl, na, ha, ps⟩ := rp_lst r
  refine ⟨a, vs, rfl, ha, by rw [List.length_map]; exact hl, ?_⟩
  clear ha hl r na
  induction ps with
  | nil => exact .nil
  | cons q _ ih => exact .cons (h _ _ (by simp) q) (ih fun x u hx => h x u (by simp [hx]))
theorem at_pair {α β : Type} [Rp α] [Rp β] {m : List Addr} {H : Hp} {n : Nat} {x : α × β} {v : V} {d1 d2 : PyData} (r : Rp.rp m H x v) (h1 : ∀ u, Rp.rp m H x.1 u → At n H u d1) (h2 : ∀ u, Rp.rp m H x.2 u → At n H u d2) : At (n + 1) H v (.tuple [d1, d2]) := by
  obtain ⟨a, u, w, rfl, ha, r1, r2⟩ := r
  exact ⟨a, _, rfl, ha, by show 2 ≤ 90000; decide, .cons (h1 _ r1) (.cons (h2 _ r2) .nil)⟩
theorem at_int {m : List Addr} {H : Hp} {n : Nat} {i : Int} {v : V} (r : Rp.rp m H i v) : At (n + 1) H v (.int i) := rp_int r
theorem at_ints {m : List Addr} {H : Hp} {n : Nat} {xs : List Int} {v : V} (r : Rp.rp m H xs v) (hl : xs.length ≤ 90000) : At (n + 2) H v (.list (xs.map PyData.int)) := at_list r hl fun _ _ _ q => at_int q
/-- two values of the same data are alike -/
def SpAlike (n : Nat) : Sp := fun vs H Q _ => ∃ v1 v2 d, vs = [v1, v2] ∧ At n H v1 d ∧ At n H v2 d ∧ ∀ H', Gr [] H H' → Q (.bl true) H'
section
variable {K : PySem.W.Frag} {m : List Addr} {σ : St} {H : Hp} {i j : Nat} {n : Nat} {v : V} {d : PyData} {ds : List PyData}
theorem ev_isAt {t k : String} {b : Bool} (hv : σ[i]? = some (some v)) (ty : ∀ H1, Gr [] H H1 → TyX K H1 v (.type t)) (h : kitB t k = some b := by decide +kernel) : EvV none m (tCB (rIsi K) (tCons (tVar i) (tCons (tC (.ty k)) tNil))) σ H b := fun H1 g c Q w =>
  ⟨_, hv, v, _, _, _, b, rfl, .ty k, ty H1 g.gr0, kit_ty h, w b _ H1 .refl rfl rfl⟩
theorem ev_isAtT {t k1 k2 : String} {b : Bool} (hv : σ[i]? = some (some v)) (ty : ∀ H1, Gr [] H H1 → TyX K H1 v (.type t)) (h : ∀ K : PySem.W.Frag, PySem.W.kitAny K (.type t) [.type k1, .type k2] = some b) : EvV none m (tCB (rIsiT K) (tCons (tVar i) (tCons (tTup (tCons (tC (.ty k1)) (tCons (tC (.ty k2)) tNil))) tNil))) σ H b := fun H1 g c Q w =>
  ⟨_, hv, (by show 2 ≤ sizeLine; decide), fun tp hp => ⟨v, tp, _, _, _, b, rfl, upd_same, .cons (.ty k1) (.cons (.ty k2) .nil), ty _ (g.gr0.trans (.new hp)), h K, w b _ _ (.new hp) rfl rfl⟩⟩
theorem kany2 {K : PySem.W.Frag} {t k1 k2 : String} {a b : Bool} (h1 : kitB t k1 = some a) (h2 : a = false → kitB t k2 = some b) (h3 : a = true → b = true) : PySem.W.kitAny K (.type t) [.type k1, .type k2] = some b := by
  cases a with
  | true => rw [h3 rfl]; exact kany_t (kit_ty h1)
  | false => exact kitAny_cons (kit_ty h1) (fun _ => by
      cases b with
      | true => exact kany_t (kit_ty (h2 rfl))
      | false => exact kitAny_cons (kit_ty (h2 rfl)) (fun _ => rfl) fun z => by cases z) fun z => by cases z
def seqT (l : Bool) (ds : List PyData) : PyData := if l then .list ds else .tuple ds
theorem at_seq {l : Bool} (h : At (n + 1) H v (seqT l ds)) : ∃ a xs, v = .ref a ∧ H a = some (if l then .lst xs else .tup xs) ∧ ds.length ≤ 90000 ∧ Paired (fun d u => At n H u d) ds xs := by
  cases l with
  | true => exact h
  | false => exact h
theorem ty_seq {l : Bool} (h : At (n + 1) H v (seqT l ds)) : TyX K H v (.type (if l then "list" else "tuple")) := by
  obtain ⟨a, xs, rfl, ha, _, _⟩ := at_seq h
  cases l with
  | true => exact .base (.lst ha)
  | false => exact .base (.tup ha)
theorem ev_lenAt {l : Bool} (hv : σ[i]? = some (some v)) (h : At (n + 1) H v (seqT l ds)) : EvV none m (tCB (rLen K) (tCons (tVar i) tNil)) σ H (ds.length : Int) := fun H1 g c Q w => by
  obtain ⟨a, xs, rfl, ha, _, ps⟩ := at_seq (h.go g.gr0)
  refine ⟨_, hv, a, xs, rfl, ?_, w _ _ H1 .refl (by rw [ps.length]; rfl) rfl⟩
  cases l with
  | true => exact .inl (.of ha)
  | false => exact .inr (.of ha)
theorem ix_at {l : Bool} {k : Nat} {Q : VK} (hv : σ[i]? = some (some v)) (hj : σ[j]? = some (some (.int (k : Int)))) (h : At (n + 1) H v (seqT l ds)) (hk : k < ds.length) (w : ∀ u, At n H u ds[k] → Q u H) : tOp (rIx K) (tVar i) (tVar j) σ H Q := by
  obtain ⟨a, xs, rfl, ha, _, ps⟩ := at_seq h
  obtain ⟨u, hu, hAt⟩ := paired_at ps (List.getElem?_eq_getElem hk)
  refine ⟨_, hv, _, hj, ?_⟩
  cases l with
  | true => exact .inl ⟨a, xs, k, u, rfl, rfl, .of ha, atI_nat hu, w u hAt⟩
  | false => exact .inr (.inl ⟨a, xs, k, u, rfl, rfl, .of ha, atI_nat hu, w u hAt⟩)
end
end KS
set_option Elab.async false
set_option linter.all false
set_option maxRecDepth 100000
set_option maxHeartbeats 4000000
namespace KS
open PySem L2
/-! ### what is new since H0: it stands apart from all that H0 knows -/
structure Nw (H0 : Hp) (α : Type) where
  x : α
instance nwRp {H0 : Hp} {α : Type} [Rp α] : Rp (Nw H0 α) := ⟨fun m H y v => ∀ m', (∀ b, b ∈ m' → H0 b ≠ none ∨ b ∈ m) → Rp.rp m' H y.x v, fun {m m' H H' x v} k t h m3 h3 => by
  have h1 := h (m ++ m3.filter (fun b => (H0 b).isSome)) (fun b hb => by
    rcases List.mem_append.mp hb with z | z
    · exact .inr z
    · have := (List.mem_filter.mp z).2
      exact .inl fun q => by rw [q] at this; cases this)
  refine Rp.go (fun a o e n => ⟨fun z => ?_, (k a o e fun q => n (List.mem_append_left _ q)).2⟩) t h1
  rcases h3 a z with q | q
  · refine n (List.mem_append_right _ (List.mem_filter.mpr ⟨z, ?_⟩))
    cases e2 : H0 a with
    | none => exact absurd e2 q
    | some _ => rfl
  · exact (k a o e fun q => n (List.mem_append_left _ q)).1 q⟩
section
variable {α β γ A : Type} [Rp α] [Rp β] [Rp γ] [RpA A] {K : PySem.W.Frag} {D : Dst} {m : List Addr} {σ : St} {H H' H0 : Hp} {te : TE} {t : TA} {a : Addr} {i : Nat} {v : V} {En : Ends} {z : TS}
theorem nw_rp {y : Nw H0 α} (r : Rp.rp m H y v) : Rp.rp m H y.x v := r m fun b h => .inr h
theorem ev_unw {y : Nw H0 α} (h : EvV D m te σ H y) : EvV D m te σ H y.x := fun H1 g c Q w => h H1 g c Q fun x v H2 g2 r e => by
  subst e
  exact w _ v H2 g2 (nw_rp r) rfl
theorem ev_nw [Nl α] {xs : List α} (h : EvLV D m te σ H xs) (k : ∀ b, H0 b ≠ none → H b ≠ none) : EvV D m te σ H (Nw.mk xs : Nw H0 (List α)) := fun H1 g c Q w => h H1 g c Q fun ys a H2 n g2 o e => by
  subst e
  obtain ⟨na, vs, ha, ps⟩ := o
  exact w ⟨ys⟩ (.ref a) H2 g2 (fun m' hm' => ⟨a, vs, rfl, fun z => (hm' a z).elim (fun q => k a q (g.gr.dom a n)) na, ha, paired_go ps fun _ _ r => rp_nl r fun _ _ e => e⟩) rfl
theorem paired_all {ι : Type} {P : ι → Prop} {F0 : α → V → Prop} {F : ι → α → V → Prop} {ys : List α} {vs : List V} (h0 : Paired F0 ys vs) (h : ∀ i, P i → Paired (F i) ys vs) : Paired (fun y v => ∀ i, P i → F i y v) ys vs := by
  induction h0 with
  | nil => exact .nil
  | cons _ _ ih => exact .cons (fun i hi => by cases h i hi with | cons q _ => exact q) (ih fun i hi => by cases h i hi with | cons _ t => exact t)
theorem paired_map {F : β → V → Prop} {f : α → β} {ys : List α} {vs : List V} (h : Paired (fun y v => F (f y) v) ys vs) : Paired F (ys.map f) vs := by
  induction h with
  | nil => exact .nil
  | cons q _ ih => exact .cons q ih
theorem nw_ofN {H2 : Hp} {ys : List β} (r : ∀ m', (∀ b, b ∈ m' → H2 b ≠ none) → OwnN m' H' a ys) (km : ∀ b, b ∈ m → H2 b ≠ none) (k0 : ∀ b, H0 b ≠ none → H2 b ≠ none) : OwnN m H' a (ys.map fun y => (⟨y⟩ : Nw H0 β)) := by
  obtain ⟨na, vs, ha, ps⟩ := r m km
  refine ⟨na, vs, ha, paired_map ?_⟩
  refine paired_all (P := fun m' : List Addr => ∀ b, b ∈ m' → H0 b ≠ none ∨ b ∈ a :: m) (F := fun m' y v => Rp.rp m' H' y v) ps fun m' hm' => ?_
  obtain ⟨_, vs', ha', ps'⟩ := r (m'.filter fun b => decide (b ≠ a)) (fun b hb => by
    obtain ⟨h1, h2⟩ := List.mem_filter.mp hb
    have h2 := of_decide_eq_true h2
    rcases hm' b h1 with z | z
    · exact k0 b z
    · rcases List.mem_cons.mp z with z | z
      · exact absurd z h2
      · exact km b z)
  rw [ha] at ha'
  cases ha'
  refine paired_go ps' fun _ _ r => rp_less r fun z hz => ?_
  by_cases e : z = a
  · rw [e]; simp
  · exact List.mem_cons_of_mem _ (List.mem_filter.mpr ⟨hz, decide_eq_true e⟩)
theorem own_nwL {ys : List (Nw H0 β)} (o : OwnN m H' a ys) (h0 : H0 a = none) : ∀ m', (∀ b, b ∈ m' → H0 b ≠ none) → OwnN m' H' a (ys.map (·.x)) := fun m' hm' => by
  obtain ⟨na, vs, ha, ps⟩ := o
  refine ⟨fun z => hm' a z h0, vs, ha, paired_map (paired_go ps fun y v r => ?_)⟩
  exact r (a :: m') fun b hb => by
    rcases List.mem_cons.mp hb with z | z
    · exact .inr (by rw [z]; simp)
    · exact .inl (hm' b z)
theorem own_nwP [Nl γ] {ys : List (γ × Nw H0 β)} (o : OwnN m H' a ys) (h0 : H0 a = none) : ∀ m', (∀ b, b ∈ m' → H0 b ≠ none) → OwnN m' H' a (ys.map fun y => (y.1, y.2.x)) := fun m' hm' => by
  obtain ⟨na, vs, ha, ps⟩ := o
  refine ⟨fun z => hm' a z h0, vs, ha, paired_map (paired_go ps fun y v r => ?_)⟩
  obtain ⟨p, u, w, rfl, hp, r1, r2⟩ := r
  exact ⟨p, u, w, rfl, hp, rp_nl r1 fun _ _ e => e, r2 (a :: m') fun b hb => by
    rcases List.mem_cons.mp hb with z | z
    · exact .inr (by rw [z]; simp)
    · exact .inl (hm' b z)⟩
/-- all of the answer is new; nothing is raised -/
def SpLN (pre : A → Prop) (f : A → List β) : Sp := fun vs H Q _ => ∃ m x, Cc none m H ∧ RpA.rpa m H x vs ∧ pre x ∧ ∀ a H', H a = none → Gr [] H H' → (∀ m', (∀ b, b ∈ m' → H b ≠ none) → OwnN m' H' a (f x)) → Q (.ref a) H'
theorem el_callN {pre : A → Prop} {f : A → List β} {E : XK} {x : A} (h : EvAr D m t σ H fun y => y = x) (hp : pre x) (k : ∀ b, H0 b ≠ none → H b ≠ none) : EvLN D m (tCall (SpLN pre f) [] E t) σ H (fun ys : List (Nw H0 β) => ys = (f x).map fun y => (⟨y⟩ : Nw H0 β)) := fun H1 e c Q w =>
  h H1 e c _ fun y vs H2 e2 rx qx => by
    cases qx
    exact ⟨m, x, (c.go e2).none, (by rw [List.append_nil]; exact rx), hp, fun a H' n g r => w _ a H' (e2.gr.dom a n) (e2.trans (.pure g)) (nw_ofN r (c.go e2).dm fun b hb q => k b hb ((e.trans e2).gr.dom b q)) rfl⟩
/-- xs.extend(e), e a new list of items that may be lists -/
theorem s_extN {xs : List α} {p : List α → Prop} (c : Cc D m H) (o : OwnN m H a xs) (hv : σ[i]? = some (some (.ref a))) (he : EvLN D (a :: m) te σ H p) (hz : ∀ ys, p ys → xs.length + ys.length ≤ 100000)
    (k : ∀ ys H1 H2, p ys → Gd D H H1 → OwnN m H2 a (xs ++ ys) → (∃ vs, H2 = upd H1 a (.lst vs)) → En.nx σ H2) : tDrop (tBM K "list" rExtend (tVar i) (tCons te tNil)) En σ H := by
  obtain ⟨vs, ha, ps, hl⟩ := o.ex
  refine ⟨_, hv, .inl ⟨rfl, _, .inl (.inl ha)⟩, he H .refl (o.cc c) _ fun ys b H1 nb g1 ob py => ?_⟩
  have o1 := o.gd c g1
  obtain ⟨na, vs1, ha1, ps1⟩ := o1
  obtain ⟨nb', us, hb, pu⟩ := ob
  have l1 := ps1.length
  have l2 := pu.length
  have lz := hz ys py
  refine ⟨a, b, vs1, us, rfl, rfl, ha1, hb, Evl.sz_of (by omega), ?_⟩
  have go : ∀ {x : α} {w : V}, Rp.rp (a :: m) H1 x w → Rp.rp (a :: m) (upd H1 a (.lst (vs1 ++ us))) x w := fun r => Rp.go (fun b o e n => ⟨n, by rw [upd_ne (fun z => n (by rw [z]; simp))]; exact e⟩) (upd_tup ha1 (fun xs z => by cases z)) r
  exact k ys H1 _ py g1 ⟨na, _, upd_same, paired_app (paired_go ps1 fun _ _ r => go r) (paired_go pu fun _ _ r => go (rp_less r fun z hz => List.mem_cons_of_mem _ hz))⟩ ⟨_, rfl⟩
end
theorem nw_ofNP {α β γ : Type} [Rp α] [Rp β] [Rp γ] [Nl γ] {m : List Addr} {H' H0 H2 : Hp} {a : Addr} {ys : List (γ × β)} (r : ∀ m', (∀ b, b ∈ m' → H2 b ≠ none) → OwnN m' H' a ys) (km : ∀ b, b ∈ m → H2 b ≠ none) (k0 : ∀ b, H0 b ≠ none → H2 b ≠ none) : OwnN m H' a (ys.map fun y => (y.1, (⟨y.2⟩ : Nw H0 β))) := by
  obtain ⟨na, vs, ha, ps⟩ := r m km
  refine ⟨na, vs, ha, paired_map ?_⟩
  have al : Paired (fun y v => ∀ m' : List Addr, (∀ b, b ∈ m' → H0 b ≠ none ∨ b ∈ a :: m) → Rp.rp m' H' y v) ys vs := by
    refine paired_all (P := fun m' : List Addr => ∀ b, b ∈ m' → H0 b ≠ none ∨ b ∈ a :: m) (F := fun m' y v => Rp.rp m' H' y v) ps fun m' hm' => ?_
    obtain ⟨_, vs', ha', ps'⟩ := r (m'.filter fun b => decide (b ≠ a)) (fun b hb => by
      obtain ⟨h1, h2⟩ := List.mem_filter.mp hb
      have h2 := of_decide_eq_true h2
      rcases hm' b h1 with z | z
      · exact k0 b z
      · rcases List.mem_cons.mp z with z | z
        · exact absurd z h2
        · exact km b z)
    rw [ha] at ha'
    cases ha'
    refine paired_go ps' fun _ _ r => rp_less r fun z hz => ?_
    by_cases e : z = a
    · rw [e]; simp
    · exact List.mem_cons_of_mem _ (List.mem_filter.mpr ⟨hz, decide_eq_true e⟩)
  refine paired_go al fun y v r => ?_
  obtain ⟨p, u, w, rfl, hp, r1, _⟩ := r [] (by simp)
  refine ⟨p, u, w, rfl, hp, rp_nl r1 fun _ _ e => e, fun m' hm' => ?_⟩
  obtain ⟨p', u', w', e1, hp', _, r2⟩ := r m' hm'
  cases e1
  rw [hp] at hp'
  cases hp'
  exact r2
/-- .. an answer of pairs -/
theorem el_callXP {β γ A : Type} [Rp β] [Rp γ] [Nl γ] [RpA A] {D : Dst} {m : List Addr} {σ : St} {H H0 : Hp} {t : TA} {T : Er} {pre : A → Prop} {f : A → Except Err (List (γ × β))} {E : XK} {x : A} {y : List (γ × β)} (h : EvAr D m t σ H fun y => y = x) (hp : pre x) (hy : f x = .ok y) (k : ∀ b, H0 b ≠ none → H b ≠ none) : EvLN D m (tCall (SpXLN T pre f) [] E t) σ H (fun ys : List (γ × Nw H0 β) => ys = y.map fun y => (y.1, (⟨y.2⟩ : Nw H0 β))) := fun H1 e c Q w =>
  h H1 e c _ fun z vs H2 e2 rx qx => by
    cases qx
    exact ⟨m, x, (c.go e2).none, (by rw [List.append_nil]; exact rx), hp, fun y' ey a H' n g r => by
      rw [hy] at ey
      cases ey
      exact w _ a H' (e2.gr.dom a n) (e2.trans (.pure g)) (nw_ofNP (α := β) r (c.go e2).dm fun b hb q => k b hb ((e.trans e2).gr.dom b q)) rfl, fun e ey => by rw [hy] at ey; cases ey⟩
/-- what is new is not known -/
theorem nw_new {α : Type} [Rp α] {H0 H : Hp} {m : List Addr} {xs : List α} {a : Addr} (r : Rp.rp m H (⟨xs⟩ : Nw H0 (List α)) (.ref a)) : H0 a = none := by
  cases h : H0 a with
  | none => rfl
  | some o =>
    obtain ⟨a', vs, e, n, _, _⟩ := r [a] (fun b hb => by rw [List.mem_singleton.mp hb]; exact .inl (by rw [h]; simp))
    cases e
    exact absurd (List.mem_singleton.mpr rfl) n
theorem ix1_raw {K : PySem.W.Frag} {σ : St} {H : Hp} {i : Nat} {t : Addr} {u w : V} {Q : VK} (hv : σ[i]? = some (some (.ref t))) (ht : H t = some (.tup [u, w])) (q : Q w H) : tOp (rIxT K) (tVar i) (tC (.int 1)) σ H Q :=
  ⟨_, hv, t, [u, w], 1, w, rfl, rfl, .of ht, atI_nat (j := 1) rfl, q⟩
/-! ### a comprehension within a comprehension -/
def relS (scope sc : Scope) : Scope := { scope with names := scope.names.map fun (n, k) => if (k == .free && sc.kind == .function && sc.names.lookup n == some .cell) then (n, .cell) else (n, k) }
theorem blk_in {N : List Str} {sc0 sc1 scope : Scope} {own : List (Str × Nat)} {X : Cx} {s : Shared} {H : Hp} {cl : List (Str × Addr)} {C : Addr} {fp : List Addr} (hN : X.N = N) (hs : X.env.scope = sc0) (h : blkC N (relS sc1 sc0) scope own = true) :
    BlkOk (X.blk s H sc1 (compEnvC sc1 cl C X.env) fp).N (X.blk s H sc1 (compEnvC sc1 cl C X.env) fp).env.scope scope own := by
  subst hN hs
  exact blkOk_by h
/-- xs.extend(e), flat items, told by a promise -/
theorem s_extP {α : Type} [Rp α] [Nl α] {D : Dst} {m : List Addr} {σ : St} {H : Hp} {K : PySem.W.Frag} {te : TE} {a : Addr} {i : Nat} {En : Ends} {xs : List α} {p : List α → Prop} (c : Cc D m H) (o : Own m H a xs) (hv : σ[i]? = some (some (.ref a))) (he : EvL D m te σ H p) (hz : ∀ ys, p ys → xs.length + ys.length ≤ 100000)
    (k : ∀ ys H1 H2, p ys → Gd D H H1 → Own m H2 a (xs ++ ys) → (∃ vs, H2 = upd H1 a (.lst vs)) → En.nx σ H2) : tDrop (tBM K "list" rExtend (tVar i) (tCons te tNil)) En σ H := by
  obtain ⟨n, vs, ha, ps⟩ := id o
  refine ⟨_, hv, .inl ⟨rfl, _, .inl (.inl ha)⟩, he H .refl c _ fun ys' b H1 nb g1 ob e => ?_⟩
  obtain ⟨_, vs1, ha1, ps1⟩ := o.gd c g1
  obtain ⟨_, us, hb, pu⟩ := ob
  have l1 := ps1.length
  have l2 := pu.length
  have lz := hz ys' e
  refine ⟨a, b, vs1, us, rfl, rfl, ha1, hb, Evl.sz_of (by omega), ?_⟩
  have t := upd_tup (o := .lst (vs1 ++ us)) ha1 (fun xs z => by cases z)
  exact k ys' H1 _ e g1 ⟨n, _, upd_same, paired_app (paired_go ps1 fun _ _ r => rp_nl r t) (paired_go pu fun _ _ r => rp_nl r t)⟩ ⟨_, rfl⟩
/-! ### what is due -/
def touchB (size : Int) (hands : List (Int × Int)) (key other : Int) : Bool := !decide ((pointed hands size other).filter (fun c => decide (c ∈ pointed hands size key)) = [])
def whyL (keys : List Int) (size : Int) (hands : List (Int × Int)) (key : Int) : List (Int × List Int) := (sset (pointed hands size key)).map fun c => (c, (uniq keys).filter fun o => decide (c ∈ pointed hands size o))
def whyF (keys : List Int) (size : Int) (hands : List (Int × Int)) (key : Int) : Except Err (List (Int × List Int)) := match chkSize size with
  | .error e => .error e
  | .ok _ => match chkHands hands with
    | .error e => .error e
    | .ok _ => match needKeys keys with
      | .error e => .error e
      | .ok _ => match needKey key with
        | .error e => .error e
        | .ok _ => .ok (whyL keys size hands key)
theorem needKey_inv {k : Int} {u : Unit} (h : needKey k = .ok u) : KeyOk k := by
  unfold needKey at h
  split at h
  · assumption
  · cases h
theorem once_le : ∀ xs : List Int, (once xs).length ≤ xs.length
  | [] => Nat.le_refl _
  | x :: xs => by
    have ih := once_le xs
    unfold once
    split
    · rw [List.length_cons]; omega
    · rw [List.length_cons, List.length_cons]; omega
theorem sset_le (xs : List Int) : (sset xs).length ≤ xs.length := by
  unfold sset
  rw [(isort_perm _).length_eq]
  exact once_le xs
/-! groups by size -/
def upL (k : Nat) (xs : List Int) (j : Nat) : List (List Int) := (List.range j).flatMap fun j => (someF k (xs.drop (j + 1))).map (xs.getD j 0 :: ·)
theorem upL_succ (k : Nat) (xs : List Int) (j : Nat) : upL k xs (j + 1) = upL k xs j ++ (someF k (xs.drop (j + 1))).map (xs.getD j 0 :: ·) := by
  unfold upL
  rw [List.range_succ, List.flatMap_append]
  simp
theorem upL_all (k : Nat) (xs : List Int) : upL k xs xs.length = someF (k + 1) xs := rfl
theorem someF_two : ∀ (k : Nat) (xs : List Int), (someF k xs).length ≤ 2 ^ xs.length
  | 0, xs => by
    show 1 ≤ 2 ^ xs.length
    exact Nat.one_le_two_pow
  | k + 1, xs => by
    have h : ∀ j, j ≤ xs.length → (upL k xs j).length + 2 ^ (xs.length - j) ≤ 2 ^ xs.length := by
      intro j
      induction j with
      | zero => intro _; show 0 + _ ≤ _; simp
      | succ j ih =>
        intro hj
        have i1 := ih (by omega)
        have i2 := someF_two k (xs.drop (j + 1))
        rw [List.length_drop] at i2
        have e : xs.length - j = (xs.length - (j + 1)) + 1 := by omega
        rw [e, Nat.pow_succ] at i1
        rw [upL_succ, List.length_append, List.length_map]
        omega
    have := h xs.length (Nat.le_refl _)
    rw [upL_all] at this
    exact Nat.le_trans (Nat.le_add_right _ _) this
theorem upL_len {k : Nat} {xs : List Int} {j : Nat} (h : xs.length ≤ 16) (hj : j ≤ xs.length) : (upL k xs j).length ≤ 65536 := by
  have h : ∀ j, j ≤ xs.length → (upL k xs j).length + 2 ^ (xs.length - j) ≤ 2 ^ xs.length := by
    intro j
    induction j with
    | zero => intro _; show 0 + _ ≤ _; simp
    | succ j ih =>
      intro hj
      have i1 := ih (by omega)
      have i2 := someF_two k (xs.drop (j + 1))
      rw [List.length_drop] at i2
      have e : xs.length - j = (xs.length - (j + 1)) + 1 := by omega
      rw [e, Nat.pow_succ] at i1
      rw [upL_succ, List.length_append, List.length_map]
      omega
  have p : 2 ^ xs.length ≤ 2 ^ 16 := Nat.pow_le_pow_right (by decide) (by assumption)
  exact Nat.le_trans (Nat.le_add_right _ _) (Nat.le_trans (h j hj) (Nat.le_trans p (by decide)))
/-! the first group that says yes -/
def firstG (p : List Int → Bool) (us : List Int) : Option (List Int) := ((List.range (us.length + 1)).flatMap fun k => someF k us).find? p
theorem firstG_none {p : List Int → Bool} {us : List Int} (h : ∀ k, k < us.length + 1 → ∀ g, g ∈ someF k us → p g = false) : firstG p us = none := by
  unfold firstG
  rw [List.find?_eq_none]
  intro g hg
  obtain ⟨k, hk, hg⟩ := List.mem_flatMap.mp hg
  rw [h k (List.mem_range.mp hk) g hg]
  exact Bool.false_ne_true
theorem firstG_hit {p : List Int → Bool} {us g : List Int} {j i : Nat} (hj : j < us.length + 1) (h : ∀ k, k < j → ∀ g, g ∈ someF k us → p g = false) (h2 : ∀ g, g ∈ (someF j us).take i → p g = false) (h3 : (someF j us)[i]? = some g) (h4 : p g = true) : firstG p us = some g := by
  unfold firstG
  have e : List.range (us.length + 1) = List.range j ++ j :: (List.range (us.length - j)).map (fun x => j + 1 + x) := by
    rw [show us.length + 1 = (j + 1) + (us.length - j) by omega, List.range_add, List.range_succ, List.append_assoc]
    rfl
  have hs : someF j us = (someF j us).take i ++ g :: (someF j us).drop (i + 1) := by
    have hl := (List.getElem?_eq_some_iff.mp h3).1
    rw [List.getElem?_eq_getElem hl] at h3
    cases h3
    rw [← List.drop_eq_getElem_cons, List.take_append_drop]
  rw [e, List.flatMap_append, List.flatMap_cons, List.find?_append, List.find?_append]
  have n1 : ((List.range j).flatMap fun k => someF k us).find? p = none := by
    rw [List.find?_eq_none]
    intro g hg
    obtain ⟨k, hk, hg⟩ := List.mem_flatMap.mp hg
    rw [h k (List.mem_range.mp hk) g hg]
    exact Bool.false_ne_true
  have n2 : (someF j us).find? p = some g := by
    rw [hs, List.find?_append]
    have : ((someF j us).take i).find? p = none := by
      rw [List.find?_eq_none]
      intro g hg
      rw [h2 g hg]
      exact Bool.false_ne_true
    rw [this, List.find?_cons_of_pos h4]
    rfl
  rw [n1, n2]
  rfl
def blameL (C : Addr) (keys : List Int) (size : Int) (hands : List (Int × Int)) (cap key : Int) : Option (List Int) := if (svOf C (uniq keys) size hands cap).yes key = true then firstG (fun g => (svOf C g size hands cap).yes key) ((uniq keys).filter fun o => touchB size hands key o) else none
def blameF (C : Addr) (keys : List Int) (size : Int) (hands : List (Int × Int)) (cap key : Int) : Except Err (Option (List Int)) := match chkSize size with
  | .error e => .error e
  | .ok _ => match chkHands hands with
    | .error e => .error e
    | .ok _ => match chkCap cap with
      | .error e => .error e
      | .ok _ => match needKeys keys with
        | .error e => .error e
        | .ok _ => match needKey key with
          | .error e => .error e
          | .ok _ => .ok (blameL C keys size hands cap key)
section
variable {A R : Type} [RpA A] [Rp R]
/-- the answer is new -/
def SpXW (T : Er) (pre : A → Prop) (f : A → Except Err R) : Sp := fun vs H Q E => ∃ m x, Cc none m H ∧ RpA.rpa m H x vs ∧ pre x ∧ (∀ y, f x = .ok y → ∀ v H', Gr [] H H' → (∀ m', (∀ b, b ∈ m' → H b ≠ none) → Rp.rp m' H' y v) → Q v H') ∧
  ∀ e, f x = .error e → ∀ c d H', Gr [] H H' → ErrAt T H H' e c d → E c d H'
end
theorem someF_mem : ∀ {k : Nat} {xs g : List Int} {x : Int}, g ∈ someF k xs → x ∈ g → x ∈ xs
  | 0, xs, g, x, h, hx => by
    have h : g ∈ [[]] := h
    rw [List.mem_singleton.mp h] at hx
    cases hx
  | k + 1, xs, g, x, h, hx => by
    have h : g ∈ (List.range xs.length).flatMap fun j => (someF k (xs.drop (j + 1))).map (xs.getD j 0 :: ·) := h
    obtain ⟨j, hj, h⟩ := List.mem_flatMap.mp h
    obtain ⟨r, hr, rfl⟩ := List.mem_map.mp h
    have hj := List.mem_range.mp hj
    rcases List.mem_cons.mp hx with z | z
    · rw [z, List.getD_eq_getElem?_getD, List.getElem?_eq_getElem hj]
      exact List.getElem_mem hj
    · exact List.mem_of_mem_drop (someF_mem hr z)
/-! ### what the law says of why -/
def dueWhy (mine : List Int) (size : Int) (hands : List (Int × Int)) (key : Int) : List (Int × List Int) := ((upto size.toNat).filter fun c => decide (c ∈ pointed hands size key)).map fun c => (c, mine.filter fun o => decide (c ∈ pointed hands size o))
theorem upto_lt (n : Nat) : (upto n).Pairwise (· < ·) := by
  unfold upto
  rw [List.pairwise_map]
  exact List.Pairwise.imp (fun h => by omega) List.pairwise_lt_range
theorem upto_mem {n : Nat} {x : Int} : x ∈ upto n ↔ 0 ≤ x ∧ x < n := by
  unfold upto
  rw [List.mem_map]
  constructor
  · rintro ⟨i, hi, rfl⟩
    have := List.mem_range.mp hi
    omega
  · intro h
    exact ⟨x.toNat, List.mem_range.mpr (by omega), by omega⟩
theorem due_why {keys : List Int} {size key : Int} {hands : List (Int × Int)} (h0 : 0 < size) : dueWhy (uniq keys) size hands key = whyL keys size hands key := by
  unfold dueWhy whyL
  congr 1
  refine lt_unique (List.Pairwise.filter _ (upto_lt _)) (sset_lt _) fun x => ?_
  rw [List.mem_filter, sset_mem, upto_mem, decide_eq_true_eq]
  constructor
  · exact fun h => h.2
  · intro h
    have := pointed_mem h0 h
    exact ⟨by omega, h⟩
theorem upto_at {n j : Nat} (h : j < n) : (upto n)[j]? = some (j : Int) := by
  unfold upto
  rw [List.getElem?_map, List.getElem?_range h]
  rfl
end KS
set_option Elab.async false
set_option linter.all false
set_option maxRecDepth 100000
set_option maxHeartbeats 4000000
namespace KS
open PySem L2
/-! ### some new list, whatever it holds -/
structure Pl (H0 : Hp) where
instance plRp {H0 : Hp} : Rp (Pl H0) := ⟨fun m H _ v => ∃ a vs, v = .ref a ∧ H0 a = none ∧ a ∉ m ∧ H a = some (.lst vs) ∧ vs.length ≤ 90000, fun k _ ⟨a, vs, e, n0, n, h, l⟩ => ⟨a, vs, e, n0, (k a _ h n).1, (k a _ h n).2, l⟩⟩
theorem pl_items {H0 H : Hp} {m : List Addr} {ys : List (Nw H0 (List Int))} {vs : List V} (ps : Paired (Rp.rp m H) ys vs) (hl : ∀ y, y ∈ ys → y.x.length ≤ 90000) : Paired (Rp.rp m H) (ys.map fun _ => (⟨⟩ : Pl H0)) vs := by
  induction ps with
  | nil => exact .nil
  | cons q _ ih =>
    refine .cons ?_ (ih fun y hy => hl y (by simp [hy]))
    rename_i y v _ _ _
    obtain ⟨zs⟩ := y
    obtain ⟨l, lvs, rfl, nl, hlv, pl⟩ := rp_lst (nw_rp q)
    have h1 : zs.length ≤ 90000 := hl ⟨zs⟩ (by simp)
    exact ⟨l, lvs, rfl, nw_new q, nl, hlv, by rw [← pl.length]; exact h1⟩
section
variable {β A R : Type} [Rp β] [RpA A] [Rp R] {D : Dst} {m : List Addr} {σ : St} {H H0 : Hp} {t : TA} {T : Er} {E : XK} {x : A}
/-- an answer that is new, perhaps None -/
theorem ev_callXW {pre : A → Prop} {f : A → Except Err (Option R)} {y : Option R} (h : EvAr D m t σ H fun y => y = x) (hp : pre x) (hy : f x = .ok y) (k : ∀ b, H0 b ≠ none → H b ≠ none) : EvV D m (tCall (SpXW T pre f) [] E t) σ H (y.map fun y => (⟨y⟩ : Nw H0 R)) := fun H1 e c Q w =>
  h H1 e c _ fun z vs H2 e2 rx qx => by
    cases qx
    have c2 := c.go e2
    refine ⟨m, x, c2.none, (by rw [List.append_nil]; exact rx), hp, fun y' ey v H' g r => ?_, fun e ey => by rw [hy] at ey; cases ey⟩
    rw [hy] at ey
    cases ey
    refine w _ v H' (e2.trans (.pure g)) ?_ rfl
    cases y with
    | none => exact r [] (by simp)
    | some y =>
      intro m' hm'
      refine r m' fun b hb => ?_
      rcases hm' b hb with q | q
      · exact fun z => k b q ((e.trans e2).gr.dom b z)
      · exact c2.dm b q
theorem el_callXN {pre : A → Prop} {f : A → Except Err (List β)} {y : List β} (h : EvAr D m t σ H fun y => y = x) (hp : pre x) (hy : f x = .ok y) (k : ∀ b, H0 b ≠ none → H b ≠ none) : EvLN D m (tCall (SpXLN T pre f) [] E t) σ H (fun ys : List (Nw H0 β) => ys = y.map fun y => (⟨y⟩ : Nw H0 β)) := fun H1 e c Q w =>
  h H1 e c _ fun z vs H2 e2 rx qx => by
    cases qx
    exact ⟨m, x, (c.go e2).none, (by rw [List.append_nil]; exact rx), hp, fun y' ey a H' n g r => by
      rw [hy] at ey
      cases ey
      exact w _ a H' (e2.gr.dom a n) (e2.trans (.pure g)) (nw_ofN r (c.go e2).dm fun b hb q => k b hb ((e.trans e2).gr.dom b q)) rfl, fun e ey => by rw [hy] at ey; cases ey⟩
end
section
variable {α : Type} [Rp α] {K : PySem.W.Frag} {D : Dst} {m : List Addr} {σ : St} {H : Hp} {ta tb te : TE} {g : TG} {t : TS} {En : Ends} {xs ys : List α}
/-- xs + ys, a new list of items that may be lists -/
theorem el_catLN (ha : EvV D m ta σ H xs) (hb : EvV D m tb σ H ys) (hl : xs.length ≤ 100000 ∧ ys.length ≤ 100000) : EvLN D m (tOp rCat ta tb) σ H (fun zs => zs = xs ++ ys) := fun H1 e c Q w =>
  ha H1 e c _ fun xs' v H2 e2 rx px => hb H2 (e.trans e2) (c.go e2) _ fun ys' u H3 e3 ry qy => by
    subst px qy
    obtain ⟨a, vs, rfl, n, h, ps⟩ := rp_lst (rp_gd rx (c.go e2) e3)
    obtain ⟨b, us, rfl, n', h', ps'⟩ := rp_lst ry
    have l1 := ps.length
    have l2 := ps'.length
    refine ⟨a, b, vs, us, rfl, rfl, h, h', Nat.le_trans (show vs.length + us.length ≤ 200000 by omega) (by decide), fun l hl => ?_⟩
    exact w (xs' ++ ys') l _ ((e2.trans e3).gr.dom l hl) ((e2.trans e3).trans (.new hl)) ⟨((c.go e2).go e3).free hl, _, upd_same, paired_app (paired_go ps fun _ _ r => rp_g0 (rp_more r hl) (.new hl)) (paired_go ps' fun _ _ r => rp_g0 (rp_more r hl) (.new hl))⟩ rfl
/-- for x in e, e a new list of items that may be lists -/
theorem s_forLN {p : List α → Prop} (c : Cc D m H) (h : EvLN D m te σ H p)
    (k : ∀ xs a vs H1, p xs → H a = none → Gd D H H1 → a ∉ m → H1 a = some (.lst vs) → Paired (Rp.rp (a :: m) H1) xs vs → ∃ Pv : Nat → St → Hp → Prop, Pv 0 σ H1 ∧ (∀ j σ' H', Pv j σ' H' → H' a = some (.lst vs)) ∧
      (∀ (j : Nat) x v σ' H', xs[j]? = some x → Rp.rp (a :: m) H1 x v → Pv j σ' H' → g v σ' H' fun σ2 H2 => t { En with nx := Pv (j + 1), ct := Pv (j + 1), bk := En.nx } σ2 H2) ∧ ∀ σ' H', Pv xs.length σ' H' → En.nx σ' H') :
    tFor (iList K te) g t En σ H := h H .refl c _ fun xs a H1 nh gd o z => by
  obtain ⟨n, vs, ha, ps⟩ := o
  obtain ⟨Pv, h0, hl, hs, hd⟩ := k xs a vs H1 z nh gd n ha ps
  refine ⟨a, rfl, ⟨vs, .of ha⟩, for_list (K := K) (a := a) (xs := vs) Pv h0 (fun j σ' H' _ hp => .of (hl j σ' H' hp)) (fun j w σ' H' hj hp => ?_) (fun σ' H' hp => hd σ' H' (by rw [ps.length]; exact hp))⟩
  have hlt : j < xs.length := by rw [ps.length]; exact (List.getElem?_eq_some_iff.mp hj).1
  obtain ⟨y, hy, ry⟩ := paired_at ps (List.getElem?_eq_getElem hlt)
  rw [hj] at hy
  cases hy
  exact hs j _ w σ' H' (List.getElem?_eq_getElem hlt) ry hp
end
section
variable {α : Type} [Rp α] {K : PySem.W.Frag} {D : Dst} {m : List Addr} {σ : St} {H : Hp} {ta tb : TE} {p q r : List α → Prop}
/-- xs + ys, a new list of items that may be lists, by promises -/
theorem el_catLNP (ha : Ev D m ta σ H p) (hb : Ev D m tb σ H q) (hl : ∀ xs ys, p xs → q ys → xs.length ≤ 100000 ∧ ys.length ≤ 100000) (k : ∀ xs ys, p xs → q ys → r (xs ++ ys)) : EvLN D m (tOp rCat ta tb) σ H r := fun H1 e c Q w =>
  ha H1 e c _ fun xs v H2 e2 rx px => hb H2 (e.trans e2) (c.go e2) _ fun ys u H3 e3 ry qy => by
    obtain ⟨a, vs, rfl, n, h, ps⟩ := rp_lst (rp_gd rx (c.go e2) e3)
    obtain ⟨b, us, rfl, n', h', ps'⟩ := rp_lst ry
    have l1 := ps.length
    have l2 := ps'.length
    have z := hl xs ys px qy
    refine ⟨a, b, vs, us, rfl, rfl, h, h', Nat.le_trans (show vs.length + us.length ≤ 200000 by omega) (by decide), fun l hl => ?_⟩
    exact w (xs ++ ys) l _ ((e2.trans e3).gr.dom l hl) ((e2.trans e3).trans (.new hl)) ⟨((c.go e2).go e3).free hl, _, upd_same, paired_app (paired_go ps fun _ _ r => rp_g0 (rp_more r hl) (.new hl)) (paired_go ps' fun _ _ r => rp_g0 (rp_more r hl) (.new hl))⟩ (k xs ys px qy)
end
end KS
set_option Elab.async false
set_option linter.all false
set_option maxRecDepth 100000
set_option maxHeartbeats 4000000
namespace KS
open PySem PySem.Spec PyProof.Rows L2
/-! ### defs that make lambdas -/
/-- a def by its body, its code object known -/
theorem fn_okC {P : Program} {w : World} {K : PySem.W.Frag} {mg : Str → Option Value} {base : Heap} {x qual : Str} {st : Stmt} {f : Addr} {fd : FuncData} {N ps : List Str} {k : Nat} {sp : Sp} (F : Fun K x qual st f fd) (S : FnScope N ps (defScope st)) (len : ∀ vs H Q E, sp vs H Q E → vs.length = ps.length)
    (hbody : ∀ (cdv : Value) (A : Around) (outer : List Env) (s : Shared) (H : Hp) (vs : List V) (Q : VK) (E : XK), fd.code = cdv → Room k (A.deeper (envOfC qual (defScope st) s.heap.objs.size f cdv)) → sp vs H Q E →
      ∃ t, PSs (cxOf CX0 P w K mg base N qual (defScope st) f cdv A outer s H E).nox (defBody st) t ∧ t { nx := fun _ H' => Q .non H', rt := Q } (start N vs) H) : FnOk P w K mg base CX0 (k + 1) f fd ps sp := by
  obtain ⟨oc, od, kV, doc, pm, an, cdv, ct, osl, rfl, lk, hcd⟩ := F.ex
  refine fn_of lk hcd S len fun A outer s H vs Q E hr hsp => ?_
  obtain ⟨t, h, q⟩ := hbody cdv A outer s H vs Q E rfl hr hsp
  exact ⟨t, h.nox, q⟩
/-- what a raise asks, at as many slots as there are names -/
theorem takes_len {X : Cx} {W : WX} (t : Takes X W) : Takes X fun c d σ H => σ.length = X.N.length → W c d σ H := fun u s' ⟨a, B, sI, pins, σ, H, cls, d, e, I, nb, up, sky, na, os, ag, w⟩ =>
  t u s' ⟨a, B, sI, pins, σ, H, cls, d, e, I, nb, up, sky, na, os, ag, w I.len⟩
/-- x(lambda: body), x a def of the text -/
theorem pe_lamF {X : Cx} {TT : (XK → Hp → VK → Prop) → Hp → VK → Prop} {x a : Str} {st : Stmt} {g c P : Addr} {fd : FuncData} {k : Nat} {Ng : List Str} {params : Arguments} {body : Expr} {scope : Scope} {t : XK → TE} {p lpos pos : Pos} (F : Fun X.K x x st g fd) (hm : X.mg x = some (.ref g)) (hb : Binds X.K fd [a] [])
    (Sg : FnScope Ng [a] (defScope st)) (hG : ∀ cdv : Value, LamX.GivesTo X Ng x (defScope st) g cdv (defBody st) a (X.env.qual ++ "<lambda>") TT) (TB : LamX.TabB X.base X.mg c P) (hcode : X.env.code = .ref c) (hr : Room (k + 2) X.A)
    (hbody : ∀ (A : Around) (outer : List Env) (s : Shared) (H : Hp) (E : XK) (f c' : Addr), Room k (A.deeper (LamX.lamEnv X scope s.heap.objs.size f c')) → PE (LamX.lamCx X A outer s H E scope f c') body (t E))
    (hNg : Ng[0]? = some a := by rfl) (hva : Vis (defScope st) a := by first | exact Or.inl rfl | exact Or.inr (Or.inl rfl)) (hg : Gl X x := by rfl) (L : LamX.LamS X.env.scope scope := by exact LamX.lamS_by (by decide +kernel)) (hdef : defaultsOf params X.env = ([], []) := by rfl)
    (hbind : ∀ (q : Str) (cl : List (Str × Addr)) (pm cv ctv : Value), bindArgs (PySem.W.kla_fn "<lambda>" q params body scope cl pm cv ctv) ⟨[], []⟩ = pure [] := by intros; rfl)
    (hdb : (x == ("__debug__" : Str)) = false := by decide) (hd : (a == ("__debug__" : Str)) = false := by decide) (hcd : (a == ("__classdict__" : Str)) = false := by decide) :
    PE X (.Call (.Name x p) [.Lambda params body scope lpos] [] pos) (LamX.tLam [(P, X.env.qual ++ "<lambda>")] TT t) := by
  obtain ⟨oc, od, kV, doc, pm, an, cdv, ct, osl, rfl, lk, hcg⟩ := F.ex
  exact LamX.pe_lamcall hg hm F.kp lk hcg hb Sg hNg hva (hG cdv) TB hcode (List.mem_singleton.mpr rfl) (fun q hq _ => by rw [List.mem_singleton.mp hq]) hr L hdef hbind hbody hdb hd hcd
/-! ### what stays where tables grow -/
/-- lists and instances -/
def Dt (o : HO) : Prop := (∃ xs, o = .lst xs) ∨ ∃ C dx fs, o = .ins C dx fs
theorem Dt.nt {o : HO} (h : Dt o) : ∀ ps, o ≠ .tbl ps := fun ps z => by
  rcases h with ⟨xs, rfl⟩ | ⟨C, dx, fs, rfl⟩ <;> cases z
theorem Dt.nx {o : HO} (h : Dt o) : ∀ φ, o ≠ .ext φ := fun ps z => by
  rcases h with ⟨xs, rfl⟩ | ⟨C, dx, fs, rfl⟩ <;> cases z
class Rn (α : Type) [Rp α] where
  goN : ∀ {m m' : List Addr} {H H' : Hp} {x : α} {v : V}, (∀ a o, H a = some o → Dt o → a ∉ m → a ∉ m' ∧ H' a = some o) → (∀ a xs, H a = some (.tup xs) → H' a = some (.tup xs)) → Rp.rp m H x v → Rp.rp m' H' x v
theorem nt_l {xs : List V} : ∀ ps, HO.lst xs ≠ .tbl ps := fun _ z => by cases z
theorem nt_t {xs : List V} : ∀ ps, HO.tup xs ≠ .tbl ps := fun _ z => by cases z
instance : Rn Int := ⟨fun _ _ h => h⟩
instance : Rn Bool := ⟨fun _ _ h => h⟩
instance : Rn Str := ⟨fun _ _ h => h⟩
instance {α β : Type} [Rp α] [Rp β] [Rn α] [Rn β] : Rn (α × β) := ⟨fun k t ⟨a, u, w, e, h, h1, h2⟩ => ⟨a, u, w, e, t a _ h, Rn.goN k t h1, Rn.goN k t h2⟩⟩
instance {α : Type} [Rp α] [Rn α] : Rn (List α) := ⟨fun k t ⟨a, vs, e, n, h, ps⟩ => ⟨a, vs, e, (k a _ h (.inl ⟨_, rfl⟩) n).1, (k a _ h (.inl ⟨_, rfl⟩) n).2, paired_go ps fun _ _ r => Rn.goN k t r⟩⟩
instance {C : Addr} : Rn (Sv C) := ⟨fun {m m' H H' x v} k t ⟨s, c, e, h⟩ => by
  obtain ⟨ns, nc, cl, dx, a, ho, na, r⟩ := h
  have ks := k s _ ho (.inr ⟨_, _, _, rfl⟩) ns
  have kc := k c _ cl (.inl ⟨_, rfl⟩) nc
  exact ⟨s, c, e, ks.1, kc.1, kc.2, dx, a, ks.2, na, Rn.goN k t r⟩⟩
section
variable {α : Type} [Rp α] [Rn α] {m : List Addr} {H H' : Hp} {x : α} {v : V} {T : List (Addr × Str)}
theorem rn_ext (r : Rp.rp m H x v) (e : LamX.ExtN H H') : Rp.rp m H' x v := Rn.goN (fun a o h n nm => ⟨nm, e a o h n.nt⟩) (fun a xs h => e a _ h nt_t) r
theorem extN_gr (g : Gr [] H H') : LamX.ExtN H H' := .of fun b o h => g.at0 h
theorem tabs_gr (t : LamX.Tabs T H) (g : Gr [] H H') : LamX.Tabs T H' := t.ext fun b o h => g.at0 h
/-- a thing made on the way changes -/
theorem gr_own {H1 H2 : Hp} {a : Addr} (g : Gr [] H H1) (g2 : Gr [a] H1 H2) (n : H a = none) : Gr [] H H2 := by
  refine ⟨fun b o h _ => g2.keep b o (g.at0 h) fun z => ?_, fun b xs h => g2.tup b xs (g.tup b xs h), fun b h => g.dom b (g2.dom b h)⟩
  rw [List.mem_singleton.mp z, n] at h
  cases h
end
theorem extN_upd {H H1 H2 : Hp} {a : Addr} {o : HO} (e1 : LamX.ExtN H H1) (n : H1 a = none) (e2 : LamX.ExtN H H2) : LamX.ExtN H (upd H2 a o) := fun b u h nt => by
  rw [upd_ne (ne_of_none (e1 b u h nt) n)]
  exact e2 b u h nt
theorem tabs_upd {T : List (Addr × Str)} {H : Hp} {a : Addr} {vs ws : List V} (t : LamX.Tabs T H) (h : H a = some (.lst vs)) : LamX.Tabs T (upd H a (.lst ws)) := fun p hp => by
  obtain ⟨ps, h1, h2, h3⟩ := t p hp
  refine ⟨ps, by rw [upd_ne (fun z => by rw [z, h] at h1; cases h1)]; exact h1, h2, fun pos cv hc => ?_⟩
  obtain ⟨c, e1, e2⟩ := h3 pos cv hc
  refine ⟨c, e1, ?_⟩
  rw [upd_ne (fun z => by rw [z, h] at e2; cases e2)]
  exact e2
/-! ### a def that calls what it got and tells the error by a word -/
def wordE : Err → Str
  | .unlike => "unlike"
  | .badSieve w => w
  | _ => "other"
def TTe (T : Er) (Q : VK) : XK := fun c d H' => ∃ (H0 : Hp) (e : Err), (e = .unlike ∨ ∃ w, e = .badSieve w) ∧ ErrAt T H0 H' e c d ∧ ∀ H2, Gr [] H' H2 → Q (.str (wordE e)) H2
def TTw (T : Er) : (XK → Hp → VK → Prop) → Hp → VK → Prop := fun tl H Q => tl (TTe T Q) H (fun _ H' => Q (.str "") H')
/-- word(lambda: body), body raises -/
theorem lam_word {C : Addr} {T : Er} {PT : Addr} {q : Str} {σ : L2.St} {H : Hp} {Q : VK} {tl : XK → TE} {r : Except Err (Sv C)} {e : Err} (hT : LamX.Tabs [(PT, q)] H) (hr : r = .error e) (he : e = .unlike ∨ ∃ w, e = .badSieve w) (h : ∀ H1, LamX.ExtN H H1 → ∀ E, ∃ m, Cc none m H1 ∧ EvS T none m (tl E) σ H1 E r)
    (k : ∀ H2, LamX.ExtN H H2 → LamX.Tabs [(PT, q)] H2 → Q (.str (wordE e)) H2) : LamX.tLam [(PT, q)] (TTw T) tl σ H Q := ⟨hT, fun H1 eN T1 => by
  obtain ⟨m, c, ev⟩ := h H1 eN (TTe T Q)
  refine ev H1 .refl c _ (fun x hx => by rw [hr] at hx; cases hx) fun e' he' cl d H2 g z => ?_
  rw [hr] at he'
  cases he'
  exact ⟨H1, _, he, z, fun H3 g3 => k H3 (eN.trans (extN_gr (g.gr0.trans g3))) (tabs_gr T1 (g.gr0.trans g3))⟩⟩
/-! ### the law's promise and its end, where the law holds lambdas -/
def spLawT (K : PySem.W.Frag) (PT : Addr) : Sp := fun vs H Q _ => ∃ (a : Addr) (ns : List Int), vs = [.ref a] ∧ SqL K H a (ns.map V.int) ∧ ns.length ≤ 63 ∧ H PT = some (.tbl #[]) ∧ ∀ H', Q (.bl true) H'
structure CodeF (K : PySem.W.Frag) (fd : FuncData) (fa c PT : Addr) : Prop where
  fn : ∃ oc od sl, K.lookup fa = some ⟨oc, od, .func fd, sl⟩
  cd : fd.code = .ref c
  ob : ∃ (dd : Option Addr) (vs : Array Value) (sl : Array (Option Value)) (file : Str) (tf : Tok) (flags : Int) (tg : Tok) (inF : Bool) (text : Int) (tt : Tok), K.lookup c = some ⟨.type "code", dd, .fields vs, sl⟩ ∧ vs[11]? = some (.ref PT) ∧ vs.getD 18 .none = .str file tf ∧ vs.getD 7 .none = .int flags tg ∧ vs.getD 9 .none = .bool inF ∧ vs.getD 10 .none = .int text tt
  ne : c ≠ PT
  nt : K.lookup PT = none
/-- a code object of K with its table, that K does not hold -/
structure CodeT (K : PySem.W.Frag) (c PT : Addr) : Prop where
  ob : ∃ (dd : Option Addr) (vs : Array Value) (sl : Array (Option Value)) (file : Str) (tf : Tok) (flags : Int) (tg : Tok) (inF : Bool) (text : Int) (tt : Tok), K.lookup c = some ⟨.type "code", dd, .fields vs, sl⟩ ∧ vs[11]? = some (.ref PT) ∧ vs.getD 18 .none = .str file tf ∧ vs.getD 7 .none = .int flags tg ∧ vs.getD 9 .none = .bool inF ∧ vs.getD 10 .none = .int text tt
  ne : c ≠ PT
  nt : K.lookup PT = none
theorem CodeT.hd {K : PySem.W.Frag} {c PT : Addr} {h : Heap} (F : CodeT K c PT) (X : K.In h) : PySem.W.CodeHd h c PT := by
  obtain ⟨dd, vs, sl, file, tf, flags, tg, inF, text, tt, hl, h11, h18, h7, h9, h10⟩ := F.ob
  refine ⟨_, vs, file, tf, flags, tg, inF, text, tt, X c _ hl, rfl, rfl, h11, ?_, h18, h7, h9, h10, F.ne⟩
  rw [Array.getD_eq_getD_getElem?, h11]
  rfl
theorem CodeF.hd {K : PySem.W.Frag} {fd : FuncData} {fa c PT : Addr} {h : Heap} (F : CodeF K fd fa c PT) (X : K.In h) : PySem.W.CodeHd h c PT := by
  obtain ⟨dd, vs, sl, file, tf, flags, tg, inF, text, tt, hl, h11, h18, h7, h9, h10⟩ := F.ob
  refine ⟨_, vs, file, tf, flags, tg, inF, text, tt, X c _ hl, rfl, rfl, h11, ?_, h18, h7, h9, h10, F.ne⟩
  rw [Array.getD_eq_getD_getElem?, h11]
  rfl
end KS
set_option Elab.async false
set_option linter.all false
set_option maxRecDepth 100000
set_option maxHeartbeats 4000000
namespace KS
open PySem PySem.Spec PyProof.Rows L2
/-! ### lambdas that outlive the def that made them -/
/-- the object at f is ob; the cell at c holds v -/
def FnO (f : Addr) (ob : Obj) : HO := .ext fun h => h.get? f = some ob
def CelO (c : Addr) (v : V) : HO := .ext fun h => ∃ u, RelV v u ∧ h.IsCell c (some u)
theorem fnO_ne {f : Addr} {ob : Obj} {u : HO} (h : ∀ φ, u ≠ .ext φ) : FnO f ob ≠ u := fun z => h _ z.symm
theorem celO_ok {P : Program} {w : World} {H : Hp} {h : Heap} {c : Addr} {v : V} {u : Value} (r : RelV v u) (i : h.IsCell c (some u)) : ObjOk P w H h c (CelO c v) :=
  ⟨⟨u, r, i⟩, (by obtain ⟨o, ho, _⟩ := i; exact ⟨o, ho⟩), fun h1 h2 ⟨u, r, o, ho, hd⟩ st => ⟨u, r, o, st o ho, hd⟩⟩
theorem fnO_ok {P : Program} {w : World} {H : Hp} {h : Heap} {f : Addr} {ob : Obj} (e : h.get? f = some ob) : ObjOk P w H h f (FnO f ob) := ⟨e, ⟨ob, e⟩, fun h1 h2 e st => st _ e⟩
/-- a table, one code object more -/
abbrev growT (H : Hp) (P c' : Addr) (ps : Array Value) (pos : Pos) (q : Str) : Hp :=
  upd (upd H P (.tbl (ps ++ #[rawInt pos.line, rawInt pos.col, .ref c']))) c' (LamX.CodeO c' q)
section
variable {H : Hp} {P c' : Addr} {ps : Array Value} {pos : Pos} {q : Str} {T : List (Addr × Str)}
theorem grow_at {b : Addr} {o : HO} (nC : H c' = none) (e : H b = some o) (nb : b ≠ P) : growT H P c' ps pos q b = some o :=
  (upd_ne (ne_of_none e nC)).trans ((upd_ne nb).trans e)
theorem extN_grow (hP : H P = some (.tbl ps)) (nC : H c' = none) : LamX.ExtN H (growT H P c' ps pos q) := fun b o e n =>
  grow_at nC e (by rintro rfl; rw [hP] at e; cases e; exact n ps rfl)
theorem tabs_grow (hT : LamX.Tabs T H) (hu : ∀ p ∈ T, p.1 = P → p.2 = q) (hP : H P = some (.tbl ps)) (nC : H c' = none) : LamX.Tabs T (growT H P c' ps pos q) := by
  intro ⟨a, r⟩ hp
  obtain ⟨us, a1, a2, a3⟩ := hT (a, r) hp
  have E := extN_grow (pos := pos) (q := q) hP nC
  have keepC : ∀ {c : Addr}, H c = some (LamX.CodeO c r) → growT H P c' ps pos q c = some (LamX.CodeO c r) := fun e => E _ _ e LamX.codeO_ne
  by_cases ea : a = P
  · have er : r = q := hu (a, r) hp ea
    subst ea er
    cases a1.symm.trans hP
    have eL : (ps ++ #[rawInt pos.line, rawInt pos.col, .ref c']).toList = ps.toList ++ [rawInt pos.line, rawInt pos.col, .ref c'] := by
      simp
    refine ⟨ps ++ #[rawInt pos.line, rawInt pos.col, .ref c'], (upd_ne (ne_of_none hP nC)).trans upd_same, ?_, ?_⟩
    · rw [eL]
      exact PySem.TriplesOk_snoc _ _ _ _ a2
    · intro pos' cv found
      rw [eL] at found
      refine (LamX.among_app ps.toList a2 found).elim (fun old => ?_) fun new => ⟨c', new, upd_same⟩
      exact (a3 pos' cv old).elim fun c0 k => ⟨c0, k.1, keepC k.2⟩
  · refine ⟨us, grow_at nC a1 ea, a2, ?_⟩
    intro pos' cv found
    exact (a3 pos' cv found).elim fun c0 k => ⟨c0, k.1, keepC k.2⟩
end
section
variable {X : Cx} {pins : List (Addr × Obj)} {σ : L2.St} {H : Hp} {s : Shared}
/-- the function object of such a lambda -/
abbrev lamOb (X : Cx) (params : Arguments) (body : Expr) (scope : Scope) (pm : Value) (c' : Addr) (ctv : Value) : Obj := PySem.W.kla_obj "<lambda>" (X.env.qual ++ "<lambda>") params body scope (cloFrom X.env.cells scope.names []) pm c' ctv
theorem lam_new {T : List (Addr × Str)} {c P : Addr} {params : Arguments} {body : Expr} {scope : Scope} {pos : Pos} {E Q : Value → Shared → Prop} (I : Inv X pins σ H s) (TB : LamX.TabB X.base X.mg c P) (hcode : X.env.code = .ref c)
    (hm : (P, X.env.qual ++ "<lambda>") ∈ T) (hu : ∀ p ∈ T, p.1 = P → p.2 = X.env.qual ++ "<lambda>") (hT : LamX.Tabs T H) (hdef : defaultsOf params X.env = ([], [])) (hfree : ∀ y ∈ scope.names, y.2 = .free → ∃ c, X.env.cells.lookup y.1 = some c)
    (h : ∀ (f c' : Addr) (pm ctv : Value) (H1 : Hp) (s' : Shared), Inv X pins σ (upd H1 f (FnO f (lamOb X params body scope pm c' ctv))) s' → LamX.ExtN H H1 → LamX.Tabs T H1 → H1 f = none → H1 c' = some (LamX.CodeO c' (X.env.qual ++ "<lambda>")) → Q (.ref f) s') :
    wpAny (model X.prog X.w) X.A (eval (.Lambda params body scope pos) X.env) Q E s := by
  obtain ⟨ps, hP, ht, ha⟩ := hT _ hm
  have bP := TB.bm.keeps I.bk
  have cP := TB.code.keeps I.bk
  have gP := I.mod.glob.keeps I.bk
  have clo := closure_ok (scope := scope) (env := X.env) hfree
  have tP : s.heap.get? P = some { cls := .none, data := .fields ps } := I.hok P _ hP
  refine PySem.W.kla_eval hdef ?_
  cases hc : codeAmong pos ps.toList with
  | some cv =>
    obtain ⟨c', rfl, hco⟩ := ha pos cv hc
    refine PySem.W.kla_makeFunctionHit (mg := X.mg) clo I.ok.glob gP hcode cP tP ht hc bP ?_
    intro ctv h' tk kp hsz
    have J : Inv X pins σ H { s with heap := h', toks := tk } := I.kept kp
    have J2 := J.laid (t' := tk) (a := h'.objs.size) (o := FnO h'.objs.size (lamOb X params body scope ((X.mg "__name__").getD .none) c' ctv)) (fun b o e => Heap.get?_push_of_some _ e) (Nat.le_refl _) (fnO_ok (Heap.get?_push_size _ rfl))
    exact h _ c' _ ctv H _ J2 (.refl H) hT (I.hok.fresh hsz) hco
  | none =>
    refine PySem.W.kla_makeFunction (mg := X.mg) clo I.ok.glob gP hcode cP tP ht hc TB.gP bP ?_
    intro c' ctv h' tk hx hge hlt hrec htb
    obtain ⟨c2, oc, vs, t, e2, hoc, hd, hv⟩ := hrec
    cases e2
    have nC : H c' = none := I.hok.fresh hge
    have J := LamX.inv_table (t' := tk) (more := #[rawInt pos.line, rawInt pos.col, .ref c']) I hP (fun b o hb e => hx b o hb e) htb hge ⟨oc, vs, t, hoc, hd, hv⟩
    have J2 := J.laid (t' := tk) (a := h'.objs.size) (o := FnO h'.objs.size (lamOb X params body scope ((X.mg "__name__").getD .none) c' ctv)) (fun b o e => Heap.get?_push_of_some _ e) (Nat.le_refl _) (fnO_ok (Heap.get?_push_size _ rfl))
    have eN := extN_grow (pos := pos) (q := X.env.qual ++ "<lambda>") hP nC
    exact h _ c' _ ctv _ _ J2 eN (tabs_grow hT hu hP nC) (J.hok.fresh (Nat.le_refl _)) upd_same
end
/-- lambda: body -/
def tLamN (X : Cx) (T : List (Addr × Str)) (params : Arguments) (body : Expr) (scope : Scope) : TE := fun σ H Q => LamX.Tabs T H ∧ ∀ (f c' : Addr) (pm ctv : Value) (H1 : Hp), LamX.ExtN H H1 → LamX.Tabs T H1 → H1 f = none → H1 c' = some (LamX.CodeO c' (X.env.qual ++ "<lambda>")) → Q (.ref f) (upd H1 f (FnO f (lamOb X params body scope pm c' ctv)))
theorem pe_lamN {X : Cx} {c P : Addr} {params : Arguments} {body : Expr} {scope : Scope} {pos : Pos} (TB : LamX.TabB X.base X.mg c P) (hcode : X.env.code = .ref c) (L : LamX.LamS X.env.scope scope) (hdef : defaultsOf params X.env = ([], []) := by rfl) :
    PE X (.Lambda params body scope pos) (tLamN X [(P, X.env.qual ++ "<lambda>")] params body scope) := by
  refine ⟨fun pins s σ H Q I h => ?_⟩
  refine lam_new I TB hcode (T := [(P, X.env.qual ++ "<lambda>")]) (by simp) (by simp) h.1 hdef (L.has I.ok) fun f c' pm ctv H1 s' J eN T1 n hco => ?_
  exact ⟨.ref f, _, J, rfl, h.2 f c' pm ctv H1 eN T1 n hco⟩
/-! ### a def's body, its end told with its slots -/
structure PR (X : Cx) (st : List Stmt) (t : (L2.St → V → Hp → Prop) → L2.St → Hp → Prop) : Prop where
  run : ∀ (s : Shared) (σ : L2.St) (H : Hp) (D : L2.St → V → Hp → Prop), Inv X [] σ H s → t D σ H → wpAny (model X.prog X.w) X.A (execs st X.env) (fun fl s' => ∃ u v σ' H', fl = .ret u ∧ Inv X [] σ' H' s' ∧ RelV v u ∧ D σ' v H') X.xe s
section
variable {X : Cx} {st : Stmt} {rest : List Stmt} {t : TS} {u : (L2.St → V → Hp → Prop) → L2.St → Hp → Prop} {e : Expr} {te : TE} {pos : Pos}
theorem pr_cons (h1 : PS X st t) (h2 : PR X rest u) : PR X (st :: rest) (fun D σ H => t { nx := u D, rt := fun _ _ => False } σ H) := by
  refine ⟨fun s σ H D I h => wpAny_execs_cons (thn (h1.run [] s σ H _ I h) fun f s1 q => ?_)⟩
  cases f with
  | next => exact q.elim fun σ' q => q.elim fun H' q => h2.run s1 σ' H' D q.1 q.2
  | ret v => exact (q.elim fun _ q => q.elim fun _ q => q.elim fun _ q => q.2.2).elim
  | brk => exact (q.elim fun _ q => q.elim fun _ q => q.2).elim
  | cont => exact (q.elim fun _ q => q.elim fun _ q => q.2).elim
theorem pr_ret (he : PE X e te) : PR X [.Return (some e) pos] (fun D σ H => te σ H fun v H' => D σ v H') := by
  refine ⟨fun s σ H D I h => ?_⟩
  have r : wpAny (model X.prog X.w) X.A (exec (.Return (some e) pos) X.env) (fun fl s' => ∃ u v σ' H', fl = .ret u ∧ Inv X [] σ' H' s' ∧ RelV v u ∧ D σ' v H') X.xe s :=
    wpAny_Return_some (thn (he.run [] s σ H _ I h) fun v s1 q => q.elim fun x q => q.elim fun H1 q => ⟨v, x, σ, H1, rfl, q.1, q.2.1, q.2.2⟩)
  refine wpAny_execs_cons (thn r fun f s1 q => ?_)
  obtain ⟨w, v, σ', H', rfl, J, r, q⟩ := q
  exact ⟨w, v, σ', H', rfl, J, r, q⟩
theorem PR.nox {ss : List Stmt} (h : PR X.nox ss u) : PR X ss u := by
  refine ⟨fun s σ H D I hw => wpAny_mono (h.run s σ H D (I.wish _) hw) (fun f s' q => ?_) fun _ _ z => False.elim z⟩
  obtain ⟨w, v, σ', H', e, J, r, q⟩ := q
  exact ⟨w, v, σ', H', e, J.unwish, r, q⟩
end
/-! ### cells known from the def's end on -/
def CelV (X : Cx) (σ : L2.St) (a : Addr) (v : V) : Prop := ∃ (x : Str) (i : Nat), X.env.cells.lookup x = some a ∧ X.env.kindOf x = some .cell ∧ X.N[i]? = some x ∧ σ[i]? = some (some v)
structure Trk (X : Cx) (σ : L2.St) (H H' : Hp) : Prop where
  inj : ∀ x y c, X.env.cells.lookup x = some c → X.env.cells.lookup y = some c → x = y
  has : ∀ x, X.env.kindOf x = some .cell → ∃ c, X.env.cells.lookup x = some c
  ext : ∀ a o, H a = some o → H' a = some o
  dom : ∀ a, H' a = none → H a = none
  cel : ∀ a v, CelV X σ a v → H' a = some (CelO a v)
open Classical in
noncomputable def trkH (X : Cx) (σ : L2.St) (H : Hp) : Hp := fun a => if h : ∃ v, CelV X σ a v then some (CelO a h.choose) else H a
section
variable {X : Cx} {σ : L2.St} {H : Hp} {s : Shared}
theorem celV_one (ok : X.Ok) (nd : X.N.Nodup) {a : Addr} {v w : V} (h1 : CelV X σ a v) (h2 : CelV X σ a w) : v = w := by
  obtain ⟨x, i, a1, _, b1, c1⟩ := h1
  obtain ⟨y, j, a2, _, b2, c2⟩ := h2
  cases ok.inj x y a a1 a2
  cases nodup_ix nd b1 b2
  rw [c1] at c2
  cases c2
  rfl
theorem trk_ext (I : Inv X [] σ H s) : ∀ a o, H a = some o → trkH X σ H a = some o := fun a o e => by
  unfold trkH
  rw [dif_neg]
  · exact e
  · rintro ⟨v, x, i, a1, _⟩
    rw [I.freeC x a a1] at e
    cases e
theorem trk_of (I : Inv X [] σ H s) (nd : X.N.Nodup) : Trk X σ H (trkH X σ H) := by
  refine ⟨I.ok.inj, fun x h => I.ok.has x (.inl h), trk_ext I, fun a e => ?_, fun a v h => ?_⟩
  · unfold trkH at e
    split at e
    · cases e
    · exact e
  · have hx : ∃ v, CelV X σ a v := ⟨v, h⟩
    unfold trkH
    rw [dif_pos hx, celV_one I.ok nd hx.choose_spec h]
theorem trk_ok (I : Inv X [] σ H s) (nd : X.N.Nodup) : HOk X.prog X.w (trkH X σ H) s.heap := fun a o e => by
  by_cases hx : ∃ v, CelV X σ a v
  · obtain ⟨v, h⟩ := hx
    rw [(trk_of I nd).cel a v h] at e
    cases e
    obtain ⟨x, i, a1, a2, a3, a4⟩ := h
    obtain ⟨m, _, hl⟩ := I.loc
    obtain ⟨u, r, k⟩ := hl i x v a3 a4 (.inr (.inl a2))
    rcases k with ⟨k, _⟩ | ⟨_, c, k1, k2⟩
    · rw [a2] at k
      cases k
    · rw [a1] at k1
      cases k1
      exact celO_ok r k2
  · have e' : H a = some o := by
      unfold trkH at e
      rw [dif_neg hx] at e
      exact e
    exact (I.hok a o e').stay (fun _ _ _ q => q) (fun b q => trk_ext I b _ q) fun b xs q => trk_ext I b _ q
theorem trk_un (I : Inv X [] σ H s) (hf : ∀ x, X.fn x = true) : Un X.fs X.ex X.H_0 (trkH X σ H) X.s_0.heap s.heap := by
  have U := I.base
  refine ⟨U.keep, U.slot, fun b o e n nx => ?_, U.there, fun b xs e => trk_ext I b _ (U.tups b xs e), fun b o u e => trk_ext I b _ (U.frzs b o u e), fun b ps e => ?_⟩
  · unfold trkH
    rw [dif_neg]
    · exact U.free b o e n nx
    · rintro ⟨v, x, i, a1, _⟩
      exact Nat.lt_irrefl _ (Nat.lt_of_lt_of_le (Heap.lt_size e) (I.ok.cab x b (hf x) a1))
  · obtain ⟨more, k⟩ := U.tbls b ps e
    exact ⟨more, trk_ext I b _ k⟩
end
/-- a def by its body; what its cells hold is known behind it -/
theorem fn_okV {P : Program} {w : World} {K : PySem.W.Frag} {mg : Str → Option Value} {base : Heap} {x qual : Str} {st : Stmt} {f : Addr} {fd : FuncData} {N ps : List Str} {k : Nat} {sp : Sp} (F : Fun K x qual st f fd) (S : FnScope N ps (defScope st)) (len : ∀ vs H Q E, sp vs H Q E → vs.length = ps.length)
    (hbody : ∀ (cdv : Value) (A : Around) (outer : List Env) (s : Shared) (H : Hp) (vs : List V) (Q : VK) (E : XK), fd.code = cdv → Room k (A.deeper (envOfC qual (defScope st) s.heap.objs.size f cdv)) → sp vs H Q E →
      ∃ t, PR (cxOf CX0 P w K mg base N qual (defScope st) f cdv A outer s H E).nox (defBody st) t ∧ t (fun σ' v H' => ∀ H2, Trk (cxOf CX0 P w K mg base N qual (defScope st) f cdv A outer s H E) σ' H' H2 → Q v H2) (start N vs) H) : FnOk P w K mg base CX0 (k + 1) f fd ps sp := by
  obtain ⟨oc, od, kV, doc, pm, an, cdv, ct, osl, rfl, lk, hcd⟩ := F.ex
  refine ⟨len, ?_⟩
  intro A outer s H args us vs Q E hr e0 hb r hsp
  have KX : K.In s.heap := e0.mod.kin.keeps fun b o e => (e0.bs b o e).1
  have kinds : ∀ y ∈ ps.zip us, (defScope st).names.lookup y.1 = some .local ∨ ((defScope st).names.lookup y.1 = some .cell ∧ ((cellsFrom (s.heap.objs.size + 1) (defScope st).names []).lookup y.1).isSome = true) := by
    intro ⟨n, v⟩ hy
    exact (S.par n (List.of_mem_zip hy).1).imp_right fun q => ⟨q, PySem.W.cellsFrom_some _ _ _ (.inl q)⟩
  refine codeAny_call_function hr.depth (KX _ _ lk) rfl S.co S.gen rfl (PySem.W.codeRec_of KX hcd) (hb _ _ _ _ (wpAny_newFunctionEnv_cells S.kind kinds ?_))
  intro env he s1 x
  subst he
  obtain ⟨t, ht, hq⟩ := hbody cdv A outer s H vs Q E rfl (hr.deeper _) hsp
  have I := inv_start (CX := CX0) (P := P) (w := w) (K := K) (mg := mg) (base := base) (qual := qual) (f := f) (cd := cdv) (E := E) S hr.hd e0 (len _ _ _ _ hsp) r x
  refine ⟨Heap.NoLimit.keeps (e0.mod.nolimit.keeps fun b o e => (e0.bs b o e).1) x.toInCall.keep, codeAny_func (wpAny_mono (ht.nox.run s1 (start N vs) H _ I hq) (fun fl s' hs => ?_) fun e s' z => z)⟩
  obtain ⟨u, v, σ', H', rfl, J, rv, q⟩ := hs
  exact ⟨v, _, J.os, J.bare, trk_un J fun _ => rfl, trk_ok J S.nd, rv, q _ (trk_of J S.nd)⟩
/-! ### such a lambda called -/
/-- the lambda at f: its body, the cells that it captured and what they hold (by the places of N in σ) -/
structure LamAt (H : Hp) (f : Addr) (q : Str) (body : Expr) (scope : Scope) (cl : List (Str × Addr)) (c' : Addr) (N : List Str) (σ : L2.St) : Prop where
  ob : ∃ (params : Arguments) (pm ctv : Value), H f = some (FnO f (PySem.W.kla_obj "<lambda>" q params body scope cl pm c' ctv)) ∧ bindArgs (PySem.W.kla_fn "<lambda>" q params body scope cl pm (.ref c') ctv) ⟨[], []⟩ = pure []
  co : H c' = some (LamX.CodeO c' q)
  kind : scope.kind = .function
  cor : scope.isCoroutine = false
  gen : scope.isGenerator = false
  own : ∀ y ∈ scope.names, y.2 ≠ .local ∧ y.2 ≠ .cell
  free : ∀ y, scope.names.lookup y = some .free → ∃ c, cl.lookup y = some c
  cells : ∀ y c, cl.lookup y = some c → ∃ (i : Nat) (v : V), N[i]? = some y ∧ σ[i]? = some (some v) ∧ H c = some (CelO c v)
  inj : ∀ x y c, cl.lookup x = some c → cl.lookup y = some c → x = y
  len : σ.length = N.length
  nd : N.Nodup
theorem LamAt.go {H H1 : Hp} {f : Addr} {q : Str} {body : Expr} {scope : Scope} {cl : List (Str × Addr)} {c' : Addr} {N : List Str} {σ : L2.St} (L : LamAt H f q body scope cl c' N σ) (e : LamX.ExtN H H1) : LamAt H1 f q body scope cl c' N σ := by
  obtain ⟨params, pm, ctv, h1, h2⟩ := L.ob
  refine ⟨⟨params, pm, ctv, e _ _ h1 (fun ps => fnO_ne fun _ z => by cases z), h2⟩, e _ _ L.co LamX.codeO_ne, L.kind, L.cor, L.gen, L.own, L.free, fun y c hc => ?_, L.inj, L.len, L.nd⟩
  obtain ⟨i, v, a1, a2, a3⟩ := L.cells y c hc
  exact ⟨i, v, a1, a2, e _ _ a3 fun ps z => by cases z⟩
abbrev envL (q : Str) (scope : Scope) (L f c' : Addr) (cl : List (Str × Addr)) : Env := PySem.W.envX q scope L f (.ref c') cl
/-- the context of its body -/
def lcx (P : Program) (w : World) (K : PySem.W.Frag) (mg : Str → Option Value) (base : Heap) (N : List Str) (q : Str) (scope : Scope) (cl : List (Str × Addr)) (c' f : Addr) (A : Around) (outer : List Env) (s : Shared) (H : Hp) (E : XK) : Cx where
  prog := P
  w := w
  K := K
  mg := mg
  base := base
  A := A.deeper (envL q scope s.heap.objs.size f c' cl)
  N := N
  s_0 := s
  H_0 := H
  env := envL q scope s.heap.objs.size f c' cl
  outer := outer
  stack := envL q scope s.heap.objs.size f c' cl :: outer
  ex := []
  fn := fun _ => false
  calm := true
  pn := []
  xe := fun e s' => wpAny (model P w) (A.deeper (envL q scope s.heap.objs.size f c' cl)) (leaving (envL q scope s.heap.objs.size f c' cl) e) (fun _ s2 => L2.CX P w outer H s E e s2) (fun e2 s2 => L2.CX P w outer H s E e2 s2) s'
open Classical in
noncomputable def dropC (cl : List (Str × Addr)) (H : Hp) : Hp := fun a => if ∃ y, cl.lookup y = some a then none else H a
open Classical in
noncomputable def backC (cl : List (Str × Addr)) (H H' : Hp) : Hp := fun a => if ∃ y, cl.lookup y = some a then H a else H' a
section
variable {cl : List (Str × Addr)} {H H' : Hp} {a c : Addr} {y : Str} {o : HO}
theorem drop_c (h : cl.lookup y = some c) : dropC cl H c = none := if_pos ⟨y, h⟩
theorem back_c (h : cl.lookup y = some c) : backC cl H H' c = H c := if_pos ⟨y, h⟩
theorem drop_o (h : ¬ ∃ y, cl.lookup y = some a) : dropC cl H a = H a := if_neg h
theorem back_o (h : ¬ ∃ y, cl.lookup y = some a) : backC cl H H' a = H' a := if_neg h
theorem drop_some (h : dropC cl H a = some o) : (¬ ∃ y, cl.lookup y = some a) ∧ H a = some o := by
  by_cases z : ∃ y, cl.lookup y = some a
  · obtain ⟨y, hy⟩ := z
    rw [drop_c hy] at h
    cases h
  · exact ⟨z, by rw [drop_o z] at h; exact h⟩
theorem drop_none (h : H a = none) : dropC cl H a = none := by
  by_cases z : ∃ y, cl.lookup y = some a
  · obtain ⟨y, hy⟩ := z
    exact drop_c hy
  · rw [drop_o z]; exact h
theorem drop_keep (hc : ∀ y c, cl.lookup y = some c → ∃ v, H c = some (CelO c v)) (h : H a = some o) (no : ∀ v, o ≠ CelO a v) : (¬ ∃ y, cl.lookup y = some a) ∧ dropC cl H a = some o := by
  have z : ¬ ∃ y, cl.lookup y = some a := by
    rintro ⟨y, hy⟩
    obtain ⟨v, hv⟩ := hc y a hy
    rw [hv] at h
    exact no v (Option.some.inj h).symm
  exact ⟨z, by rw [drop_o z]; exact h⟩
end
section
variable {P : Program} {w : World} {K : PySem.W.Frag} {mg : Str → Option Value} {base : Heap} {A : Around} {outer : List Env} {s : Shared} {H : Hp} {f c' : Addr} {q : Str} {body : Expr} {scope : Scope} {cl : List (Str × Addr)} {N : List Str} {σ : L2.St} {E : XK}
theorem LamAt.cel (L : LamAt H f q body scope cl c' N σ) : ∀ y c, cl.lookup y = some c → ∃ v, H c = some (CelO c v) := fun y c h => (L.cells y c h).elim fun _ k => k.elim fun v k => ⟨v, k.2.2⟩
theorem inv_startL {h₁ : Heap} {tk : Nat} (L : LamAt H f q body scope cl c' N σ) (hd : A.handled = none) (e0 : Env0 P w K mg base A outer s H) (hns : h₁.Ns s.heap.objs.size fun y => ([] : List (Str × Value)).reverse.lookup y) (kp : ∀ b o, s.heap.get? b = some o → h₁.get? b = some o) :
    Inv (lcx P w K mg base N q scope cl c' f A outer s (dropC cl H) E) [] σ (dropC cl H) { s with heap := h₁, toks := tk } := by
  have noA : ∀ b : Addr, b ∉ (lcx P w K mg base N q scope cl c' f A outer s (dropC cl H) E).ex := fun b => List.not_mem_nil
  have look : ∀ {y : Str} {k : NameKind}, scope.names.lookup y = some k → (y, k) ∈ scope.names := fun h => PySem.mem_of_lookup h
  have celAt : ∀ {c : Addr} {v : V}, H c = some (CelO c v) → ∃ u, RelV v u ∧ h₁.IsCell c (some u) := fun {c v} h => by
    obtain ⟨⟨u, r, o, ho, hd⟩, _, _⟩ := e0.hok c _ h
    exact ⟨u, r, o, kp _ _ ho, hd⟩
  have hasC : ∀ y c, cl.lookup y = some c → ∃ v, h₁.IsCell c v := fun y c h => by
    obtain ⟨v, hv⟩ := L.cel y c h
    obtain ⟨u, _, k⟩ := celAt hv
    exact ⟨_, k⟩
  refine ⟨⟨e0.mod, L.kind, rfl, rfl, Nat.le_refl _, L.inj, fun y hy => ?_, fun y c z _ => absurd (show false = true from z) Bool.false_ne_true, fun _ => hd, Around.frames_deeper e0.frames, .inr ⟨rfl, rfl⟩, fun b z => absurd z (noA b), fun b o e => ⟨(e0.bs b o e).1, drop_none (e0.bs b o e).2⟩, e0.bsz, fun b _ _ => noA b, fun b z => absurd z (noA b), e0.funs, fun b hb => drop_none (e0.frf b hb)⟩,
    rfl, e0.bare, Un.kept kp, ⟨_, hns, fun i y v e1 e2 e3 => ?_⟩, hasC, drop_none (e0.hok.fresh (Nat.le_refl _)), fun y c h => drop_c h, fun p hp => absurd (show p ∈ ([] : List (Addr × Obj)) ++ [] from hp) (by simp), fun a o e => ?_, L.len⟩
  · rcases (show scope.names.lookup y = some .cell ∨ scope.names.lookup y = some .free from hy) with z | z
    · exact absurd rfl (L.own _ (look z)).2
    · exact L.free y z
  · rcases (show Vis scope y from e3) with z | z | z
    · exact absurd rfl (L.own _ (look z)).1
    · exact absurd rfl (L.own _ (look z)).2
    · obtain ⟨c, hc⟩ := L.free y z
      obtain ⟨j, v', b1, b2, b3⟩ := L.cells y c hc
      cases nodup_ix L.nd e1 b1
      rw [e2] at b2
      cases b2
      obtain ⟨u, r, k⟩ := celAt b3
      exact ⟨u, r, .inr ⟨.inr z, c, hc, k⟩⟩
  · obtain ⟨nc, e'⟩ := drop_some e
    refine (e0.hok a o e').stay (fun b u _ k => kp b u k) (fun b k => (drop_keep L.cel k fun v z => by cases z).2) fun b xs k => (drop_keep L.cel k fun v z => by cases z).2
/-- what holds behind the call, the cells known again -/
theorem backC_ok {H' : Hp} {B : Heap} (L : LamAt H f q body scope cl c' N σ) (hok : HOk P w H s.heap) (hok' : HOk P w H' B) (none' : ∀ y c, cl.lookup y = some c → H' c = none) (keep : ∀ y c o, cl.lookup y = some c → s.heap.get? c = some o → B.get? c = some o) : HOk P w (backC cl H H') B := fun a o e => by
  by_cases z : ∃ y, cl.lookup y = some a
  · obtain ⟨y, hy⟩ := z
    rw [back_c hy] at e
    obtain ⟨v, hv⟩ := L.cel y a hy
    rw [hv] at e
    cases e
    obtain ⟨⟨u, r, ob, ho, hd⟩, _, _⟩ := hok a _ hv
    exact celO_ok r ⟨ob, keep y a ob hy ho, hd⟩
  · rw [back_o z] at e
    have st : ∀ {b : Addr} {u : HO}, H' b = some u → backC cl H H' b = some u := fun {b u} k => by
      rw [back_o]
      · exact k
      · rintro ⟨y, hy⟩
        rw [none' y b hy] at k
        cases k
    exact (hok' a o e).stay (fun _ _ _ k => k) (fun b k => st k) fun b xs k => st k
end
section
variable {Z : Cx} {W : WX} {E : XK} {i k : Nat} {a : Str} {p1 p2 : Pos}
/-- a(), a a name that holds such a lambda -/
def tLamC (P : Program) (w : World) (K : PySem.W.Frag) (mg : Str → Option Value) (base : Heap) (k i : Nat) (E : XK) : TE := fun σ H Q => ∃ (f : Addr) (q : Str) (body : Expr) (scope : Scope) (cl : List (Str × Addr)) (c' : Addr) (N : List Str) (σ0 : L2.St) (tb : XK → TE),
  σ[i]? = some (some (.ref f)) ∧ LamAt H f q body scope cl c' N σ0 ∧ (∀ (A : Around) (outer : List Env) (s : Shared) (H : Hp) (E : XK), Room k (A.deeper (envL q scope s.heap.objs.size f c' cl)) → PE (lcx P w K mg base N q scope cl c' f A outer s H E) body (tb E)) ∧
    tb (fun cls d H' => (∀ y c, cl.lookup y = some c → H' c = none) → E cls d (backC cl H H')) σ0 (dropC cl H) fun v H' => (∀ y c, cl.lookup y = some c → H' c = none) → Q v (backC cl H H')
theorem pe_lamC (tk : Takes Z W) (hW : ∀ cls d σ' H', E cls d H' → W cls d σ' H') (hr : Room (k + 1) Z.A) (hN : Z.N[i]? = some a := by rfl) (hv : Vis Z.env.scope a := by first | exact Or.inl rfl | exact Or.inr (Or.inl rfl)) (hd : (a == ("__debug__" : Str)) = false := by decide) (hcd : (a == ("__classdict__" : Str)) = false := by decide) :
    PE Z (.Call (.Name a p1) [] [] p2) (tLamC Z.prog Z.w Z.K Z.mg Z.base k i E) := by
  refine ⟨fun pins s σ H Q I h => ?_⟩
  obtain ⟨f, q, body, scope, cl, c', N, σ0, tb, hs, L, hb, ht⟩ := h
  obtain ⟨params, pm, ctv, hof, hbind⟩ := L.ob
  refine wpAny_Call_Name_kw (thn ((pe_var (pos := p1) (i := i) hN hv hd hcd).run pins s σ H (fun v H1 => v = .ref f ∧ H1 = H) I ⟨.ref f, hs, rfl, rfl⟩) fun u s1 r => ?_)
  obtain ⟨v, H1, I1, r1, rfl, rfl⟩ := r
  obtain rfl : u = Value.ref f := r1
  obtain ⟨of1, _, _⟩ := I1.hok f _ hof
  refine PySem.W.callWith_F0 ⟨_, _, _, _, of1⟩ ?_
  have e0 := I1.env0
  obtain ⟨⟨oc, vs, t, hoc, hdc, hvc⟩, _, _⟩ := I1.hok c' _ L.co
  have nfs : ∀ y c, cl.lookup y = some c → c ∉ frs Z.stack := fun y c h z => by
    obtain ⟨v, hv⟩ := L.cel y c h
    rw [e0.frf c z] at hv
    cases hv
  have rc : codeAny (model Z.prog Z.w) Z.A (.call (.ref f) ⟨[], []⟩) (CR (L2.CX Z.prog Z.w) Z.stack Z.prog Z.w H1 s1 Q E) s1 := by
    refine PySem.W.kla_callFunE hr.depth of1 rfl L.cor L.gen rfl ⟨c', oc, vs, t, rfl, hoc, hdc, hvc⟩ ?_
    rw [hbind]
    refine wpAny_pure (wpAny_newFunctionEnv (fun y hy => (L.own y hy).2) (fun y hy => absurd hy List.not_mem_nil) (fun h₁ hns hsb => ⟨I1.nolimit.fresh _ hsb, ?_⟩) L.kind)
    have kp : ∀ b o, s1.heap.get? b = some o → h₁.get? b = some o := fun b o e => hsb.extBut b o (Nat.ne_of_lt (Heap.lt_size e)) (Heap.get?_push_of_some _ e)
    have J := inv_startL (tk := s1.toks + ([] : List (Str × Value)).length) (E := fun cls d H' => (∀ y c, cl.lookup y = some c → H' c = none) → E cls d (backC cl H1 H')) L hr.hd e0 hns kp
    refine PySem.W.kla_codeExpr (wpAny_mono ((hb _ _ s1 _ _ (hr.deeper _)).run [] _ σ0 _ _ J ht) (fun v s' hq => ?_) fun e s' hq => ?_)
    · obtain ⟨w', H', J', rv, q⟩ := hq
      have no : ∀ y c, cl.lookup y = some c → H' c = none := fun y c h => J'.freeC y c h
      have st : ∀ {b : Addr} {u : HO}, H' b = some u → backC cl H1 H' b = some u := fun {b u} k => by
        rw [back_o]
        · exact k
        · rintro ⟨y, hy⟩
          rw [no y b hy] at k
          cases k
      have U := J'.base
      have keepC : ∀ y c o, cl.lookup y = some c → s1.heap.get? c = some o → s'.heap.get? c = some o := fun y c o h e => U.keep c o e (drop_c h) (nfs y c h) List.not_mem_nil
      refine ⟨w', _, J'.os, J'.bare, ⟨fun b o e n => U.keep b o e (drop_none n), fun b o e n => U.slot b o e (drop_none n), fun b o e n nx => ?_, U.there, fun b xs e => st (U.tups b xs (drop_keep L.cel e fun v z => by cases z).2), fun b o u e => st (U.frzs b o u (drop_keep L.cel e fun v z => by cases z).2), fun b ps e => ?_⟩, backC_ok L I1.hok J'.hok no keepC, rv, q no⟩
      · have n' := U.free b o e (drop_none n) nx
        by_cases z : ∃ y, cl.lookup y = some b
        · obtain ⟨y, hy⟩ := z
          rw [back_c hy]; exact n
        · rw [back_o z]; exact n'
      · obtain ⟨more, k⟩ := U.tbls b ps (drop_keep L.cel e fun v z => by cases z).2
        exact ⟨more, st k⟩
    · have goal : ∀ e2 s2, L2.CX Z.prog Z.w Z.stack (dropC cl H1) s1 (fun cls d H' => (∀ y c, cl.lookup y = some c → H' c = none) → E cls d (backC cl H1 H')) e2 s2 → L2.CX Z.prog Z.w Z.stack H1 s1 E e2 s2 := fun e2 s2 x => by
        obtain ⟨ea, B, H', cls, d, rfl, fl, hok, U, na, os, ag, hE⟩ := x
        have keepC : ∀ y c o, cl.lookup y = some c → s1.heap.get? c = some o → B.get? c = some o := fun y c o h e => U.keep c o e (drop_c h) (nfs y c h)
        have objC : ∀ y c, cl.lookup y = some c → ∃ o, s1.heap.get? c = some o := fun y c h => by
          obtain ⟨v, hv⟩ := L.cel y c h
          obtain ⟨_, o, _⟩ := I1.hok c _ hv
          exact o
        have no : ∀ y c, cl.lookup y = some c → H' c = none := fun y c h => (objC y c h).elim fun o e => U.free c o e (drop_c h)
        have st : ∀ {b : Addr} {u : HO}, H' b = some u → backC cl H1 H' b = some u := fun {b u} k => by
          rw [back_o]
          · exact k
          · rintro ⟨y, hy⟩
            rw [no y b hy] at k
            cases k
        have nea : ¬ ∃ y, cl.lookup y = some ea := by
          rintro ⟨y, hy⟩
          obtain ⟨o, e⟩ := objC y ea hy
          have k := keepC y ea o hy e
          rw [fl.2.1] at k
          cases k
        refine ⟨ea, B, _, cls, d, rfl, fl, backC_ok L I1.hok hok no keepC, ⟨fun b o e n => U.keep b o e (drop_none n), U.slot, fun b o e n => ?_, U.there, fun b xs e => st (U.tups b xs (drop_keep L.cel e fun v z => by cases z).2), fun b o u e => st (U.frzs b o u (drop_keep L.cel e fun v z => by cases z).2), fun b ps e => ?_⟩, by rw [back_o nea]; exact na, os, ag, hE no⟩
        · have n' := U.free b o e (drop_none n)
          by_cases z : ∃ y, cl.lookup y = some b
          · obtain ⟨y, hy⟩ := z
            rw [back_c hy]; exact n
          · rw [back_o z]; exact n'
        · obtain ⟨more, k⟩ := U.tbls b ps (drop_keep L.cel e fun v z => by cases z).2
          exact ⟨more, st k⟩
      exact wpAny_mono hq (fun _ s2 x => goal _ s2 x) fun e2 s2 x => goal e2 s2 x
  have hx : Passes (L2.CX Z.prog Z.w) Z E := passes_call tk hW
  refine wpAny_call (codeAny_mono rc fun r s' hq => ?_)
  match r, hq with
  | .error e, hq => exact hx pins σ H1 s1 e s' I1 hq
  | .ok (.ret u), hq => exact I1.after hq
end
/-! ### what a lambda that is kept says when it is called -/
/-- called, it comes to r: nothing is changed -/
def LamSays (P : Program) (w : World) (K : PySem.W.Frag) (mg : Str → Option Value) (base : Heap) (k : Nat) (T : Er) (H : Hp) (v : V) (r : Except Err Unit) : Prop := ∃ (f : Addr) (q : Str) (body : Expr) (scope : Scope) (cl : List (Str × Addr)) (c' : Addr) (N : List Str) (σ : L2.St) (tb : XK → TE),
  v = .ref f ∧ LamAt H f q body scope cl c' N σ ∧ (∀ (A : Around) (outer : List Env) (s : Shared) (H : Hp) (E : XK), Room k (A.deeper (envL q scope s.heap.objs.size f c' cl)) → PE (lcx P w K mg base N q scope cl c' f A outer s H E) body (tb E)) ∧
    ∀ H1, Gr [] H H1 → ∀ (E : XK) (Q : VK), (r = .ok () → ∀ v H', Gr [] (dropC cl H1) H' → Q v H') → (∀ e, r = .error e → ∀ c d H', Gr [] (dropC cl H1) H' → ErrAt T (dropC cl H1) H' e c d → E c d H') → tb E σ (dropC cl H1) Q
section
variable {P : Program} {w : World} {K : PySem.W.Frag} {mg : Str → Option Value} {base : Heap} {k : Nat} {T : Er} {H H1 H2 : Hp} {v : V} {r : Except Err Unit} {cl : List (Str × Addr)}
theorem LamSays.go (h : LamSays P w K mg base k T H v r) (g : Gr [] H H1) : LamSays P w K mg base k T H1 v r := by
  obtain ⟨f, q, body, scope, cl, c', N, σ, tb, e, L, hb, ht⟩ := h
  exact ⟨f, q, body, scope, cl, c', N, σ, tb, e, L.go (extN_gr g), hb, fun H2 g2 => ht H2 (g.trans g2)⟩
theorem back_gr {H' : Hp} (no : ∀ y c, cl.lookup y = some c → H' c = none) (hc : ∀ y c, cl.lookup y = some c → ∃ v, H c = some (CelO c v)) (g : Gr [] (dropC cl H) H') : Gr [] H (backC cl H H') := by
  refine ⟨fun a o e _ => ?_, fun a xs e => ?_, fun a e => ?_⟩
  · by_cases z : ∃ y, cl.lookup y = some a
    · obtain ⟨y, hy⟩ := z
      rw [back_c hy]; exact e
    · rw [back_o z]; exact g.at0 (by rw [drop_o z]; exact e)
  · obtain ⟨z, k⟩ := drop_keep hc e fun v z => by cases z
    rw [back_o z]; exact g.tup a xs k
  · by_cases z : ∃ y, cl.lookup y = some a
    · obtain ⟨y, hy⟩ := z
      rw [back_c hy] at e; exact e
    · rw [back_o z] at e
      have k := g.dom a e
      rw [drop_o z] at k; exact k
/-- data is read as well without the cells -/
theorem rn_drop {α : Type} [Rp α] [Rn α] {x : α} (hc : ∀ y c, cl.lookup y = some c → ∃ v, H c = some (CelO c v)) (h : Rp.rp [] H x v) : Rp.rp [] (dropC cl H) x v :=
  Rn.goN (fun a o e d n => ⟨n, (drop_keep hc e fun v z => d.nx _ z).2⟩) (fun a xs e => (drop_keep hc e fun v z => by cases z).2) h
/-- an error's dict, the cells known again -/
theorem errAt_back {H' : Hp} {e : Err} {c : Value} {d : Option Addr} (he : e = .badKey ∨ e = .unlike ∨ e = .notIn ∨ ∃ w, e = .badSieve w) (no : ∀ y c, cl.lookup y = some c → H' c = none) (h : ErrAt T H1 H' e c d) : ErrAt T H (backC cl H2 H') e c d := by
  rcases he with rfl | rfl | rfl | ⟨ww, rfl⟩
  · exact h
  · exact h
  · exact h
  · obtain ⟨h1, a, h2, h3⟩ := h
    refine ⟨h1, a, h2, ?_⟩
    rw [back_o]
    · exact h3
    · rintro ⟨y, hy⟩
      rw [no y a hy] at h3
      cases h3
end
theorem paired_mem {α : Type} {F : α → V → Prop} {bs : List α} {ws : List V} {v : V} (p : Paired F bs ws) (h : v ∈ ws) : ∃ b, b ∈ bs ∧ F b v := by
  induction p with
  | nil => cases h
  | cons q _ ih =>
    rcases List.mem_cons.mp h with z | z
    · subst z; exact ⟨_, by simp, q⟩
    · obtain ⟨b, hb, m⟩ := ih z
      exact ⟨b, List.mem_cons_of_mem _ hb, m⟩
/-! ### a list of lambdas in the making -/
/-- v is a lambda with that body and scope, made by X's def -/
def MadeAt (X : Cx) (H : Hp) (b : Expr × Scope) (v : V) : Prop := ∃ (f c' : Addr) (params : Arguments) (pm ctv : Value), v = .ref f ∧ H f = some (FnO f (lamOb X params b.1 b.2 pm c' ctv)) ∧ H c' = some (LamX.CodeO c' (X.env.qual ++ "<lambda>")) ∧
  bindArgs (PySem.W.kla_fn "<lambda>" (X.env.qual ++ "<lambda>") params b.1 b.2 (cloFrom X.env.cells b.2.names []) pm (.ref c') ctv) ⟨[], []⟩ = pure []
def ExtA (a : Addr) (H H' : Hp) : Prop := ∀ b o, H b = some o → (∀ ps, o ≠ .tbl ps) → b ≠ a → H' b = some o
theorem ExtA.trans {a : Addr} {H H1 H2 : Hp} (e1 : ExtA a H H1) (e2 : ExtA a H1 H2) : ExtA a H H2 := fun b o h n nb => e2 b o (e1 b o h n nb) n nb
theorem extA_n {a : Addr} {H H1 : Hp} (e : LamX.ExtN H H1) : ExtA a H H1 := fun b o h n _ => e b o h n
theorem extA_upd {a : Addr} {H : Hp} {o : HO} : ExtA a H (upd H a o) := fun b u h _ nb => by rw [upd_ne nb]; exact h
theorem rn_extA {α : Type} [Rp α] [Rn α] {a : Addr} {H H' : Hp} {x : α} {v : V} (r : Rp.rp [a] H x v) (e : ExtA a H H') {ws : List V} (ha : H a = some (.lst ws)) : Rp.rp [a] H' x v :=
  Rn.goN (fun b o h d nm => ⟨nm, e b o h d.nt fun z => nm (by rw [z]; simp)⟩) (fun b xs h => e b _ h nt_t fun z => by rw [z, ha] at h; cases h) r
theorem rn_more {α : Type} [Rp α] [Rn α] {a : Addr} {H H' : Hp} {x : α} {v : V} (r : Rp.rp [] H x v) (na : ∀ o, H a = some o → ∃ ps, o = .tbl ps) (e : LamX.ExtN H H') : Rp.rp [a] H' x v :=
  Rn.goN (fun b o h d _ => ⟨fun z => by
    rw [List.mem_singleton.mp z] at h
    obtain ⟨ps, q⟩ := na o h
    exact d.nt ps q, e b o h d.nt⟩) (fun b xs h => e b _ h nt_t) r
section
variable {X : Cx} {H H' : Hp} {a : Addr} {b : Expr × Scope} {bs : List (Expr × Scope)} {v : V} {σ : L2.St} {En : Ends} {i : Nat} {T : List (Addr × Str)}
theorem MadeAt.go (h : MadeAt X H b v) (e : ExtA a H H') {xs : List V} (ha : H a = some (.lst xs)) : MadeAt X H' b v := by
  obtain ⟨f, c', params, pm, ctv, e1, h1, h2, h3⟩ := h
  refine ⟨f, c', params, pm, ctv, e1, e _ _ h1 (fun ps => fnO_ne fun _ z => by cases z) (fun z => ?_), e _ _ h2 LamX.codeO_ne (fun z => ?_), h3⟩
  · rw [z, ha] at h1; cases h1
  · rw [z, ha] at h2; cases h2
def Works (X : Cx) (H : Hp) (a : Addr) (bs : List (Expr × Scope)) : Prop := ∃ ws, H a = some (.lst ws) ∧ Paired (MadeAt X H) bs ws
theorem made_new {params : Arguments} {body : Expr} {scope : Scope} {pm ctv : Value} {f c' : Addr} {H1 : Hp} (nf : H1 f = none) (hc : H1 c' = some (LamX.CodeO c' (X.env.qual ++ "<lambda>")))
    (hb : bindArgs (PySem.W.kla_fn "<lambda>" (X.env.qual ++ "<lambda>") params body scope (cloFrom X.env.cells scope.names []) pm (.ref c') ctv) ⟨[], []⟩ = pure []) : MadeAt X (upd H1 f (FnO f (lamOb X params body scope pm c' ctv))) (body, scope) (.ref f) :=
  ⟨f, c', params, pm, ctv, rfl, upd_same, by rw [upd_ne (ne_of_none hc nf)]; exact hc, hb⟩
/-- the list's first lambda -/
theorem q_works {z : TS} {params : Arguments} {body : Expr} {scope : Scope} (hT : LamX.Tabs T H) (hb : ∀ (pm cv ctv : Value), bindArgs (PySem.W.kla_fn "<lambda>" (X.env.qual ++ "<lambda>") params body scope (cloFrom X.env.cells scope.names []) pm cv ctv) ⟨[], []⟩ = pure [])
    (k : ∀ a H', (∀ o, H a = some o → ∃ ps, o = .tbl ps) → LamX.ExtN H H' → Works X H' a [(body, scope)] → LamX.Tabs T H' → z En (σ.set i (some (.ref a))) H') : tSeq (tAsg (tLst (tCons (tLamN X T params body scope) tNil)) (gName i)) z En σ H := by
  refine ⟨hT, fun f c' pm ctv H1 eN T1 nf hc => ⟨by show 1 ≤ sizeLine; decide, fun a na => ?_⟩⟩
  have nf' : a ≠ f := fun z => by rw [z, upd_same] at na; cases na
  have na1 : H1 a = none := by rw [upd_ne nf'] at na; exact na
  have T2 : LamX.Tabs T (upd H1 f (FnO f (lamOb X params body scope pm c' ctv))) := tabs_gr T1 (.new nf)
  have M := made_new nf hc (hb pm (.ref c') ctv)
  have g : Gr [] (upd H1 f (FnO f (lamOb X params body scope pm c' ctv))) (upd (upd H1 f (FnO f (lamOb X params body scope pm c' ctv))) a (.lst [.ref f])) := .new na
  have e2 := eN.trans (extN_gr ((Gr.new (m := []) nf).trans g))
  refine k a _ ?_ e2 ⟨_, upd_same, .cons ?_ .nil⟩ (tabs_gr T2 g)
  · intro o h
    by_cases z : ∃ ps, o = .tbl ps
    · exact z
    · have := eN a o h fun ps e => z ⟨ps, e⟩
      rw [na1] at this
      cases this
  · obtain ⟨f2, c2, p2, pm2, ct2, e1, h1, h2, h3⟩ := M
    exact ⟨f2, c2, p2, pm2, ct2, e1, g.at0 h1, g.at0 h2, h3⟩
/-- one lambda more -/
theorem s_works {params : Arguments} {body : Expr} {scope : Scope} (hv : σ[i]? = some (some (.ref a))) (W : Works X H a bs) (hT : LamX.Tabs T H) (hl : bs.length < 1000) (hb : ∀ (pm cv ctv : Value), bindArgs (PySem.W.kla_fn "<lambda>" (X.env.qual ++ "<lambda>") params body scope (cloFrom X.env.cells scope.names []) pm cv ctv) ⟨[], []⟩ = pure [])
    (k : ∀ H', ExtA a H H' → Works X H' a (bs ++ [(body, scope)]) → LamX.Tabs T H' → En.nx σ H') : tDrop (tBM X.K "list" rAppend (tVar i) (tCons (tLamN X T params body scope) tNil)) En σ H := by
  obtain ⟨ws, ha, ps⟩ := W
  refine ⟨_, hv, .inl ⟨rfl, _, .inl (.inl ha)⟩, hT, fun f c' pm ctv H1 eN T1 nf hc => ?_⟩
  have ha1 := eN _ _ ha nt_l
  have nfa : a ≠ f := ne_of_none ha1 nf
  have T2 : LamX.Tabs T (upd H1 f (FnO f (lamOb X params body scope pm c' ctv))) := tabs_gr T1 (.new nf)
  have ha2 : upd H1 f (FnO f (lamOb X params body scope pm c' ctv)) a = some (.lst ws) := by rw [upd_ne nfa]; exact ha1
  have M := made_new nf hc (hb pm (.ref c') ctv)
  have e2 : ExtA a H (upd H1 f (FnO f (lamOb X params body scope pm c' ctv))) := extA_n (eN.trans (extN_gr (.new nf)))
  have lp := ps.length
  refine ⟨a, ws, .ref f, rfl, rfl, ha2, Evl.sz_lt (by omega), k _ (e2.trans extA_upd) ⟨_, upd_same, ?_⟩ (tabs_upd T2 ha2)⟩
  exact (paired_go ps fun b v m => (m.go e2 ha).go extA_upd ha2).snoc (M.go extA_upd ha2)
/-- the captured names stand in the maker's slots js -/
def capB (names : List (Str × NameKind)) (sc : Scope) (N : List Str) (js : List Nat) : Bool := names.all fun y => !decide (y.2 = .free) || (decide (sc.names.lookup y.1 = some .cell) && js.any fun i => decide (N[i]? = some y.1))
/-- what such a lambda says, once the def has ended -/
theorem says_of {P : Program} {w : World} {k : Nat} {Tr : Er} {σ' : L2.St} {H2 : Hp} {r : Except Err Unit} {body : Expr} {scope sc : Scope} {N : List Str} {js : List Nat} {tb : XK → TE} (hs : X.env.scope = sc) (hN : X.N = N) (M : MadeAt X H (body, scope) v) (Tk : Trk X σ' H H2) (hj : ∀ i, i ∈ js → ∃ v, σ'[i]? = some (some v)) (hl : σ'.length = N.length) (nd : N.Nodup)
    (hb : ∀ (q : Str) (cl : List (Str × Addr)) (c' f : Addr) (A : Around) (outer : List Env) (s : Shared) (H : Hp) (E : XK), Room k (A.deeper (envL q scope s.heap.objs.size f c' cl)) → PE (lcx P w X.K X.mg X.base N q scope cl c' f A outer s H E) body (tb E))
    (hr : ∀ cl H1, (∀ y c, cl.lookup y = some c → ∃ v, H1 c = some (CelO c v)) → Gr [] H2 H1 → ∀ (E : XK) (Q : VK), (r = .ok () → ∀ v H', Gr [] (dropC cl H1) H' → Q v H') → (∀ e, r = .error e → ∀ c d H', Gr [] (dropC cl H1) H' → ErrAt Tr (dropC cl H1) H' e c d → E c d H') → tb E σ' (dropC cl H1) Q)
    (L : LamX.LamS sc scope := by exact LamX.lamS_by (by decide +kernel)) (hf : capB scope.names sc N js = true := by decide +kernel) : LamSays P w X.K X.mg X.base k Tr H2 v r := by
  subst hs hN
  obtain ⟨f, c', params, pm, ctv, e1, h1, h2, h3⟩ := M
  have free : ∀ y ∈ scope.names, y.2 = .free → X.env.kindOf y.1 = some .cell ∧ ∃ (i : Nat) (v : V), X.N[i]? = some y.1 ∧ σ'[i]? = some (some v) := fun y hy e => by
    unfold capB at hf
    have q := List.all_eq_true.mp hf y hy
    rw [decide_eq_true e] at q
    simp only [Bool.not_true, Bool.false_or, Bool.and_eq_true, decide_eq_true_eq, List.any_eq_true] at q
    obtain ⟨q1, i, q2, q3⟩ := q
    obtain ⟨v, hv⟩ := hj i q2
    exact ⟨q1, i, v, q3, hv⟩
  have hfree : ∀ y ∈ scope.names, y.2 = .free → ∃ c, X.env.cells.lookup y.1 = some c := fun y hy e => Tk.has _ (free y hy e).1
  have cells : ∀ y c, (cloFrom X.env.cells scope.names []).lookup y = some c → ∃ (i : Nat) (v : V), X.N[i]? = some y ∧ σ'[i]? = some (some v) ∧ H2 c = some (CelO c v) := fun y c h => by
    rcases cloFrom_mem (PySem.mem_of_lookup h) with z | ⟨z, _⟩
    · cases z
    · obtain ⟨kd, i, v, a1, a2⟩ := free (y, .free) z rfl
      exact ⟨i, v, a1, a2, Tk.cel c v ⟨y, i, NdefX.clo_cm hfree h, kd, a1, a2⟩⟩
  have LA : LamAt H2 f (X.env.qual ++ "<lambda>") body scope (cloFrom X.env.cells scope.names []) c' X.N σ' := ⟨⟨params, pm, ctv, Tk.ext _ _ h1, h3⟩, Tk.ext _ _ h2, L.kind, L.co, L.gen, L.own, fun y h => by
    have hm := PySem.mem_of_lookup h
    obtain ⟨c, hc⟩ := hfree _ hm rfl
    exact ⟨c, NdefX.clo_has hfree hm hc⟩, cells, fun x y c h1 h2 => Tk.inj x y c (NdefX.clo_cm hfree h1) (NdefX.clo_cm hfree h2), hl, nd⟩
  refine ⟨f, _, body, scope, _, c', X.N, σ', tb, e1, LA, fun A outer s H E => hb _ _ _ _ A outer s H E, fun H1 g => hr _ H1 (fun y c h => ?_) g⟩
  obtain ⟨v, hv⟩ := LA.cel y c h
  exact ⟨v, g.at0 hv⟩
theorem Trk.gr {σ' : L2.St} {H2 : Hp} (Tk : Trk X σ' H H2) : Gr [] H H2 := ⟨fun a o h _ => Tk.ext a o h, fun a xs h => Tk.ext _ _ h, Tk.dom⟩
theorem Trk.un {σ' : L2.St} {H2 : Hp} {E : Value → Shared → Prop} (Tk : Trk X σ' H H2) : Trk (X.wish E) σ' H H2 := ⟨Tk.inj, Tk.has, Tk.ext, Tk.dom, Tk.cel⟩
end
theorem lam_call {P : Program} {w : World} {K : PySem.W.Frag} {mg : Str → Option Value} {base : Heap} {k i : Nat} {T : Er} {σ : L2.St} {H : Hp} {v : V} {r : Except Err Unit} {E : XK} {Q : VK} (h : LamSays P w K mg base k T H v r) (hv : σ[i]? = some (some v)) (hk : ∀ e, r = .error e → e = .badKey ∨ e = .unlike ∨ e = .notIn ∨ ∃ w, e = .badSieve w)
    (k1 : r = .ok () → ∀ u H', Gr [] H H' → Q u H') (k2 : ∀ e, r = .error e → ∀ c d H', Gr [] H H' → ErrAt T H H' e c d → E c d H') : tLamC P w K mg base k i E σ H Q := by
  obtain ⟨f, q, body, scope, cl, c', N, σ0, tb, rfl, L, hb, ht⟩ := h
  exact ⟨f, q, body, scope, cl, c', N, σ0, tb, hv, L, hb, ht H .refl _ _ (fun e u H' g no => k1 e u _ (back_gr no L.cel g)) fun e he c d H' g z no => k2 e he c d _ (back_gr no L.cel g) (errAt_back (hk e he) no z)⟩
/-- a def that takes such a lambda and says whether it is refused -/
def SpRef (P : Program) (w : World) (K : PySem.W.Frag) (mg : Str → Option Value) (base : Heap) (k : Nat) (T : Er) : Sp := fun vs H Q _ => ∃ v, vs = [v] ∧ LamSays P w K mg base k T H v (.error .badKey) ∧ ∀ H', Gr [] H H' → Q (.bl true) H'
/-- [e for x in xs if t], no test true -/
theorem el_lcNone {K : PySem.W.Frag} {σ : L2.St} {H : Hp} {i : Nat} {a : Addr} {vs : List V} {g : TG} {tt : TT} {te : TE} {ws : List Nat} (hv : σ[i]? = some (some (.ref a))) (ha : H a = some (.lst vs))
    (hs : ∀ v, v ∈ vs → ∀ H1, Gr [] H H1 → ∀ R : L2.St → Bool → Hp → Prop, (∀ σ2 H3, Gr [] H1 H3 → R σ2 false H3) → g v (wipe σ ws) H1 fun σ2 H2 => wipe σ2 ws = wipe σ ws ∧ tt σ2 H2 (R σ2)) : EvLV none [] (tLc (iList K (tVar i)) g tt te ws) σ H ([] : List Int) := fun H0 g0 c0 Q w => by
  have ha0 := g0.gr0.at0 ha
  refine ⟨_, hv, a, rfl, ⟨vs, .of ha0⟩, fun Dl hD => ?_⟩
  refine lc_list (K := K) (a := a) (xs := vs) (fun j H' => Gr [] H0 H' ∧ H' Dl = some (.lst [])) ⟨.new hD, upd_same⟩ (fun j H' _ p => .of (p.1.at0 ha0)) (fun j u H' hj p => ?_) (fun H' p => w [] Dl H' hD (.pure p.1) ⟨by simp, [], p.2, .nil⟩ rfl)
  exact hs u (List.mem_of_getElem? hj) H' (g0.gr0.trans p.1) (fun σ2 b H3 => if b = true then te σ2 H3 fun y H4 => ∃ acc, H4 Dl = some (.lst acc) ∧ acc.length < sizeLine ∧ (Gr [] H0 (upd H4 Dl (.lst (acc ++ [y]))) ∧ upd H4 Dl (.lst (acc ++ [y])) Dl = some (.lst [])) else Gr [] H0 H3 ∧ H3 Dl = some (.lst [])) fun σ2 H3 g3 => ⟨p.1.trans g3, g3.at0 p.2⟩
end KS
set_option Elab.async false
set_option linter.all false
set_option maxRecDepth 100000
set_option maxHeartbeats 4000000
namespace KW
open PySem L2 KS
def topS (i : Nat) : Stmt := PySem.Challenge.pw_keysieve_k05_yeses_of_a_universe.main.body.getD i (.Pass ⟨0, 0, 0, 0⟩)
abbrev s_need_key : Stmt := topS 14
abbrev N_need_key : List Str := ["key"]
theorem sc_need_key : FnScope N_need_key ["key"] (defScope s_need_key) := ⟨rfl, rfl, rfl, by decide +kernel, rfl, by decide +kernel, by decide +kernel⟩
abbrev s_pointed : Stmt := topS 20
abbrev N_pointed : List Str := ["hands", "size", "key", "times", "more"]
theorem sc_pointed : FnScope N_pointed ["hands", "size", "key"] (defScope s_pointed) := ⟨rfl, rfl, rfl, by decide +kernel, rfl, by decide +kernel, by decide +kernel⟩
abbrev s__law_mix : Stmt := topS 36
abbrev N__law_mix : List Str := ["_law_script", "_law_seed", "_law_mixed", "_law_cell"]
theorem sc__law_mix : FnScope N__law_mix ["_law_script", "_law_seed"] (defScope s__law_mix) := ⟨rfl, rfl, rfl, by decide +kernel, rfl, by decide +kernel, by decide +kernel⟩
abbrev s__law_next : Stmt := topS 37
abbrev N__law_next : List Str := ["_law_h", "_law_many", "_law_at", "_law_cell"]
theorem sc__law_next : FnScope N__law_next ["_law_h", "_law_many"] (defScope s__law_next) := ⟨rfl, rfl, rfl, by decide +kernel, rfl, by decide +kernel, by decide +kernel⟩
abbrev s__law_hands : Stmt := topS 38
abbrev N__law_hands : List Str := ["_law_h", "_law_most", "_law_found", "_law_way", "_law_k", "_law_hand"]
theorem sc__law_hands : FnScope N__law_hands ["_law_h", "_law_most"] (defScope s__law_hands) := ⟨rfl, rfl, rfl, by decide +kernel, rfl, by decide +kernel, by decide +kernel⟩
abbrev s__law_keys : Stmt := topS 39
abbrev N__law_keys : List Str := ["_law_h", "_law_many", "_law_few", "_law_k", "_law_way", "_law_found"]
theorem sc__law_keys : FnScope N__law_keys ["_law_h", "_law_many"] (defScope s__law_keys) := ⟨rfl, rfl, rfl, by decide +kernel, rfl, by decide +kernel, by decide +kernel⟩
abbrev s__law_cells : Stmt := topS 41
abbrev N__law_cells : List Str := ["_law_hands_here", "_law_size", "_law_key", "_law_hand"]
theorem sc__law_cells : FnScope N__law_cells ["_law_hands_here", "_law_size", "_law_key"] (defScope s__law_cells) := ⟨rfl, rfl, rfl, by decide +kernel, rfl, by decide +kernel, by decide +kernel⟩
abbrev s__law_are : Stmt := topS 44
abbrev N__law_are : List Str := ["_law_found", "_law_due", "_law_k"]
theorem sc__law_are : FnScope N__law_are ["_law_found", "_law_due"] (defScope s__law_are) := ⟨rfl, rfl, rfl, by decide +kernel, rfl, by decide +kernel, by decide +kernel⟩
abbrev s_BadSieve_init : Stmt := inClass (topS 2) 0
abbrev N_BadSieve_init : List Str := ["self", "why"]
theorem sc_BadSieve_init : FnScope N_BadSieve_init ["self", "why"] (defScope s_BadSieve_init) := ⟨rfl, rfl, rfl, by decide +kernel, rfl, by decide +kernel, by decide +kernel⟩
abbrev s_Stuck_init : Stmt := inClass (topS 5) 0
abbrev N_Stuck_init : List Str := ["self", "cells"]
theorem sc_Stuck_init : FnScope N_Stuck_init ["self", "cells"] (defScope s_Stuck_init) := ⟨rfl, rfl, rfl, by decide +kernel, rfl, by decide +kernel, by decide +kernel⟩
abbrev s_need : Stmt := topS 16
abbrev N_need : List Str := ["good", "why"]
theorem sc_need : FnScope N_need ["good", "why"] (defScope s_need) := ⟨rfl, rfl, rfl, by decide +kernel, rfl, by decide +kernel, by decide +kernel⟩
abbrev s_need_size : Stmt := topS 17
abbrev N_need_size : List Str := ["size"]
theorem sc_need_size : FnScope N_need_size ["size"] (defScope s_need_size) := ⟨rfl, rfl, rfl, by decide +kernel, rfl, by decide +kernel, by decide +kernel⟩
abbrev s_need_cap : Stmt := topS 19
abbrev N_need_cap : List Str := ["cap"]
theorem sc_need_cap : FnScope N_need_cap ["cap"] (defScope s_need_cap) := ⟨rfl, rfl, rfl, by decide +kernel, rfl, by decide +kernel, by decide +kernel⟩
abbrev s_need_hands : Stmt := topS 18
abbrev N_need_hands : List Str := ["hands", "times", "more"]
theorem sc_need_hands : FnScope N_need_hands ["hands"] (defScope s_need_hands) := ⟨rfl, rfl, rfl, by decide +kernel, rfl, by decide +kernel, by decide +kernel⟩
abbrev s_hands_by_cell : Stmt := topS 21
abbrev N_hands_by_cell : List Str := ["hands", "size", "key", "found", "cell"]
theorem sc_hands_by_cell : FnScope N_hands_by_cell ["hands", "size", "key"] (defScope s_hands_by_cell) := ⟨rfl, rfl, rfl, by decide +kernel, rfl, by decide +kernel, by decide +kernel⟩
abbrev s_Sieve_size : Stmt := inClass (topS 23) 1
abbrev N_Sieve_size : List Str := ["self"]
theorem sc_Sieve_size : FnScope N_Sieve_size ["self"] (defScope s_Sieve_size) := ⟨rfl, rfl, rfl, by decide +kernel, rfl, by decide +kernel, by decide +kernel⟩
abbrev s_Sieve_cap : Stmt := inClass (topS 23) 2
abbrev N_Sieve_cap : List Str := ["self"]
theorem sc_Sieve_cap : FnScope N_Sieve_cap ["self"] (defScope s_Sieve_cap) := ⟨rfl, rfl, rfl, by decide +kernel, rfl, by decide +kernel, by decide +kernel⟩
abbrev s_Sieve_hands : Stmt := inClass (topS 23) 3
abbrev N_Sieve_hands : List Str := ["self"]
theorem sc_Sieve_hands : FnScope N_Sieve_hands ["self"] (defScope s_Sieve_hands) := ⟨rfl, rfl, rfl, by decide +kernel, rfl, by decide +kernel, by decide +kernel⟩
abbrev s_Sieve_counts : Stmt := inClass (topS 23) 4
abbrev N_Sieve_counts : List Str := ["self"]
theorem sc_Sieve_counts : FnScope N_Sieve_counts ["self"] (defScope s_Sieve_counts) := ⟨rfl, rfl, rfl, by decide +kernel, rfl, by decide +kernel, by decide +kernel⟩
abbrev s_Sieve_init : Stmt := inClass (topS 23) 0
abbrev N_Sieve_init : List Str := ["self", "size", "hands", "cap", "hand"]
theorem sc_Sieve_init : FnScope N_Sieve_init ["self", "size", "hands", "cap"] (defScope s_Sieve_init) := ⟨rfl, rfl, rfl, by decide +kernel, rfl, by decide +kernel, by decide +kernel⟩
abbrev s_Sieve_put : Stmt := inClass (topS 23) 5
abbrev N_Sieve_put : List Str := ["self", "key", "cell"]
theorem sc_Sieve_put : FnScope N_Sieve_put ["self", "key"] (defScope s_Sieve_put) := ⟨rfl, rfl, rfl, by decide +kernel, rfl, by decide +kernel, by decide +kernel⟩
abbrev s_Sieve_says : Stmt := inClass (topS 23) 6
abbrev N_Sieve_says : List Str := ["self", "key", "wanted", "cell"]
theorem sc_Sieve_says : FnScope N_Sieve_says ["self", "key"] (defScope s_Sieve_says) := ⟨rfl, rfl, rfl, by decide +kernel, rfl, by decide +kernel, by decide +kernel⟩
abbrev s_Sieve_stuck_cells : Stmt := inClass (topS 23) 7
abbrev N_Sieve_stuck_cells : List Str := ["self", "key", "wanted", "cell"]
theorem sc_Sieve_stuck_cells : FnScope N_Sieve_stuck_cells ["self", "key"] (defScope s_Sieve_stuck_cells) := ⟨rfl, rfl, rfl, by decide +kernel, rfl, by decide +kernel, by decide +kernel⟩
abbrev s_Sieve_need_takeable : Stmt := inClass (topS 23) 8
abbrev N_Sieve_need_takeable : List Str := ["self", "key", "cells"]
theorem sc_Sieve_need_takeable : FnScope N_Sieve_need_takeable ["self", "key"] (defScope s_Sieve_need_takeable) := ⟨rfl, rfl, rfl, by decide +kernel, rfl, by decide +kernel, by decide +kernel⟩
abbrev s_Sieve_take : Stmt := inClass (topS 23) 9
abbrev N_Sieve_take : List Str := ["self", "key", "cell"]
theorem sc_Sieve_take : FnScope N_Sieve_take ["self", "key"] (defScope s_Sieve_take) := ⟨rfl, rfl, rfl, by decide +kernel, rfl, by decide +kernel, by decide +kernel⟩
abbrev s__law_counts : Stmt := topS 42
abbrev N__law_counts : List Str := ["_law_keys_here", "_law_size", "_law_hands_here", "_law_cap", "_law_found", "_law_key", "_law_cell", "_law_count"]
theorem sc__law_counts : FnScope N__law_counts ["_law_keys_here", "_law_size", "_law_hands_here", "_law_cap"] (defScope s__law_counts) := ⟨rfl, rfl, rfl, by decide +kernel, rfl, by decide +kernel, by decide +kernel⟩
abbrev s_need_keys : Stmt := topS 15
abbrev N_need_keys : List Str := ["keys", "key"]
theorem sc_need_keys : FnScope N_need_keys ["keys"] (defScope s_need_keys) := ⟨rfl, rfl, rfl, by decide +kernel, rfl, by decide +kernel, by decide +kernel⟩
abbrev s_with_counts : Stmt := topS 24
abbrev N_with_counts : List Str := ["sieve", "size", "counts", "made"]
theorem sc_with_counts : FnScope N_with_counts ["sieve", "size", "counts"] (defScope s_with_counts) := ⟨rfl, rfl, rfl, by decide +kernel, rfl, by decide +kernel, by decide +kernel⟩
abbrev s_copied : Stmt := topS 25
abbrev N_copied : List Str := ["sieve"]
theorem sc_copied : FnScope N_copied ["sieve"] (defScope s_copied) := ⟨rfl, rfl, rfl, by decide +kernel, rfl, by decide +kernel, by decide +kernel⟩
abbrev s_built : Stmt := topS 26
abbrev N_built : List Str := ["keys", "size", "hands", "cap", "found", "key"]
theorem sc_built : FnScope N_built ["keys", "size", "hands", "cap"] (defScope s_built) := ⟨rfl, rfl, rfl, by decide +kernel, rfl, by decide +kernel, by decide +kernel⟩
abbrev s_unlike : Stmt := topS 33
abbrev N_unlike : List Str := ["keys", "found", "key"]
theorem sc_unlike : FnScope N_unlike ["keys"] (defScope s_unlike) := ⟨rfl, rfl, rfl, by decide +kernel, rfl, by decide +kernel, by decide +kernel⟩
abbrev s_yeses : Stmt := topS 28
abbrev N_yeses : List Str := ["sieve", "universe", "key"]
theorem sc_yeses : FnScope N_yeses ["sieve", "universe"] (defScope s_yeses) := ⟨rfl, rfl, rfl, by decide +kernel, rfl, by decide +kernel, by decide +kernel⟩
abbrev s_harm : Stmt := topS 34
abbrev N_harm : List Str := ["sieve", "key", "keys", "less", "other"]
theorem sc_harm : FnScope N_harm ["sieve", "key", "keys"] (defScope s_harm) := ⟨rfl, rfl, rfl, by decide +kernel, rfl, by decide +kernel, by decide +kernel⟩
abbrev s__law_says : Stmt := topS 43
abbrev N__law_says : List Str := ["_law_counts_here", "_law_hands_here", "_law_cap", "_law_key", "_law_cells_here", "_law_cell"]
theorem sc__law_says : FnScope N__law_says ["_law_counts_here", "_law_hands_here", "_law_cap", "_law_key"] (defScope s__law_says) := ⟨rfl, rfl, rfl, by decide +kernel, rfl, by decide +kernel, by decide +kernel⟩
abbrev s_others : Stmt := topS 30
abbrev N_others : List Str := ["universe", "keys", "key"]
theorem sc_others : FnScope N_others ["universe", "keys"] (defScope s_others) := ⟨rfl, rfl, rfl, by decide +kernel, rfl, by decide +kernel, by decide +kernel⟩
abbrev s_wrong : Stmt := topS 29
abbrev N_wrong : List Str := ["sieve", "universe", "keys", "key"]
theorem sc_wrong : FnScope N_wrong ["sieve", "universe", "keys"] (defScope s_wrong) := ⟨rfl, rfl, rfl, by decide +kernel, rfl, by decide +kernel, by decide +kernel⟩
abbrev s_share : Stmt := topS 31
abbrev N_share : List Str := ["sieve", "universe", "keys", "found"]
theorem sc_share : FnScope N_share ["sieve", "universe", "keys"] (defScope s_share) := ⟨rfl, rfl, rfl, by decide +kernel, rfl, by decide +kernel, by decide +kernel⟩
abbrev s_stuck : Stmt := topS 32
abbrev N_stuck : List Str := ["sieve", "universe", "found", "key", "cells"]
theorem sc_stuck : FnScope N_stuck ["sieve", "universe"] (defScope s_stuck) := ⟨rfl, rfl, rfl, by decide +kernel, rfl, by decide +kernel, by decide +kernel⟩
abbrev s__law_universe : Stmt := topS 40
abbrev N__law_universe : List Str := ["_law_h", "_law_many", "_law_keys_here", "_law_found", "_law_key", "_law_k"]
theorem sc__law_universe : FnScope N__law_universe ["_law_h", "_law_many", "_law_keys_here"] (defScope s__law_universe) := ⟨rfl, rfl, rfl, by decide +kernel, rfl, by decide +kernel, by decide +kernel⟩
abbrev s_NoSieve_init : Stmt := inClass (topS 7) 0
abbrev N_NoSieve_init : List Str := ["self", "paper"]
theorem sc_NoSieve_init : FnScope N_NoSieve_init ["self", "paper"] (defScope s_NoSieve_init) := ⟨rfl, rfl, rfl, by decide +kernel, rfl, by decide +kernel, by decide +kernel⟩
abbrev s_BadText_init : Stmt := inClass (topS 8) 0
abbrev N_BadText_init : List Str := ["self", "row"]
theorem sc_BadText_init : FnScope N_BadText_init ["self", "row"] (defScope s_BadText_init) := ⟨rfl, rfl, rfl, by decide +kernel, rfl, by decide +kernel, by decide +kernel⟩
abbrev s__law_alike : Stmt := topS 45
abbrev N__law_alike : List Str := ["_law_found", "_law_due", "_law_k"]
theorem sc__law_alike : FnScope N__law_alike ["_law_found", "_law_due"] (defScope s__law_alike) := ⟨rfl, rfl, rfl, by decide +kernel, rfl, by decide +kernel, by decide +kernel⟩
abbrev s__law_refused : Stmt := topS 46
abbrev N__law_refused : List Str := ["_law_work", "e", "_law_odd"]
theorem sc__law_refused : FnScope N__law_refused ["_law_work"] (defScope s__law_refused) := ⟨rfl, rfl, rfl, by decide +kernel, rfl, by decide +kernel, by decide +kernel⟩
abbrev s__law_due_stuck : Stmt := topS 48
abbrev N__law_due_stuck : List Str := ["_law_yes", "_law_counts_here", "_law_hands_here", "_law_cap", "_law_found", "_law_key", "_law_full", "_law_cell"]
theorem sc__law_due_stuck : FnScope N__law_due_stuck ["_law_yes", "_law_counts_here", "_law_hands_here", "_law_cap"] (defScope s__law_due_stuck) := ⟨rfl, rfl, rfl, by decide +kernel, rfl, by decide +kernel, by decide +kernel⟩
abbrev s__law_works : Stmt := topS 47
abbrev N__law_works : List Str := ["_law_sieve", "_law_universe_here", "_law_keys_here", "_law_odd", "_law_bad", "_law_works_here"]
theorem sc__law_works : FnScope N__law_works ["_law_sieve", "_law_universe_here", "_law_keys_here", "_law_odd"] (defScope s__law_works) := ⟨rfl, rfl, rfl, by decide +kernel, rfl, by decide +kernel, by decide +kernel⟩
abbrev s_law : Stmt := topS 49
abbrev N_law : List Str := ["_law_script", "_law_h", "_law_hands_here", "_law_size", "_law_cap", "_law_keys_here", "_law_universe_here", "_law_sieve", "_law_counts_here", "_law_yes", "_law_key", "_law_handed", "_law_turn", "_law_told", "_law_parts", "_law_outside", "_law_found", "_law_one", "_law_pair", "_law_works_here", "_law_work"]
theorem sc_law : FnScope N_law ["_law_script"] (defScope s_law) := ⟨rfl, rfl, rfl, by decide +kernel, rfl, by decide +kernel, by decide +kernel⟩
structure Txt (K : PySem.W.Frag) (mg : Str → Option Value) where
  c_SieveError : Addr
  m_SieveError : mg "SieveError" = some (.ref c_SieveError)
  c_BadSieve : Addr
  m_BadSieve : mg "BadSieve" = some (.ref c_BadSieve)
  c_BadKey : Addr
  m_BadKey : mg "BadKey" = some (.ref c_BadKey)
  c_NotIn : Addr
  m_NotIn : mg "NotIn" = some (.ref c_NotIn)
  c_Stuck : Addr
  m_Stuck : mg "Stuck" = some (.ref c_Stuck)
  c_Unlike : Addr
  m_Unlike : mg "Unlike" = some (.ref c_Unlike)
  c_NoSieve : Addr
  m_NoSieve : mg "NoSieve" = some (.ref c_NoSieve)
  c_BadText : Addr
  m_BadText : mg "BadText" = some (.ref c_BadText)
  c_Sieve : Addr
  m_Sieve : mg "Sieve" = some (.ref c_Sieve)
  cl_Sieve : Cls K c_Sieve
  na_Sieve_many : NoAttr K c_Sieve "many"
  na_Sieve_pointers : NoAttr K c_Sieve "pointers"
  na_Sieve_most : NoAttr K c_Sieve "most"
  na_Sieve_cells : NoAttr K c_Sieve "cells"
  f_need_key : Addr
  d_need_key : FuncData
  m_need_key : mg "need_key" = some (.ref f_need_key)
  F_need_key : Fun K "need_key" "need_key" s_need_key f_need_key d_need_key
  f_pointed : Addr
  d_pointed : FuncData
  m_pointed : mg "pointed" = some (.ref f_pointed)
  F_pointed : Fun K "pointed" "pointed" s_pointed f_pointed d_pointed
  f__law_mix : Addr
  d__law_mix : FuncData
  m__law_mix : mg "_law_mix" = some (.ref f__law_mix)
  F__law_mix : Fun K "_law_mix" "_law_mix" s__law_mix f__law_mix d__law_mix
  f__law_next : Addr
  d__law_next : FuncData
  m__law_next : mg "_law_next" = some (.ref f__law_next)
  F__law_next : Fun K "_law_next" "_law_next" s__law_next f__law_next d__law_next
  f__law_hands : Addr
  d__law_hands : FuncData
  m__law_hands : mg "_law_hands" = some (.ref f__law_hands)
  F__law_hands : Fun K "_law_hands" "_law_hands" s__law_hands f__law_hands d__law_hands
  f__law_keys : Addr
  d__law_keys : FuncData
  m__law_keys : mg "_law_keys" = some (.ref f__law_keys)
  F__law_keys : Fun K "_law_keys" "_law_keys" s__law_keys f__law_keys d__law_keys
  f__law_cells : Addr
  d__law_cells : FuncData
  m__law_cells : mg "_law_cells" = some (.ref f__law_cells)
  F__law_cells : Fun K "_law_cells" "_law_cells" s__law_cells f__law_cells d__law_cells
  f__law_are : Addr
  d__law_are : FuncData
  m__law_are : mg "_law_are" = some (.ref f__law_are)
  F__law_are : Fun K "_law_are" "_law_are" s__law_are f__law_are d__law_are
  f_BadSieve_init : Addr
  d_BadSieve_init : FuncData
  me_BadSieve_init : Meth K c_BadSieve "__init__" f_BadSieve_init
  F_BadSieve_init : Fun K "__init__" "BadSieve.__init__" s_BadSieve_init f_BadSieve_init d_BadSieve_init
  f_Stuck_init : Addr
  d_Stuck_init : FuncData
  me_Stuck_init : Meth K c_Stuck "__init__" f_Stuck_init
  F_Stuck_init : Fun K "__init__" "Stuck.__init__" s_Stuck_init f_Stuck_init d_Stuck_init
  f_need : Addr
  d_need : FuncData
  m_need : mg "need" = some (.ref f_need)
  F_need : Fun K "need" "need" s_need f_need d_need
  f_need_size : Addr
  d_need_size : FuncData
  m_need_size : mg "need_size" = some (.ref f_need_size)
  F_need_size : Fun K "need_size" "need_size" s_need_size f_need_size d_need_size
  f_need_cap : Addr
  d_need_cap : FuncData
  m_need_cap : mg "need_cap" = some (.ref f_need_cap)
  F_need_cap : Fun K "need_cap" "need_cap" s_need_cap f_need_cap d_need_cap
  f_need_hands : Addr
  d_need_hands : FuncData
  m_need_hands : mg "need_hands" = some (.ref f_need_hands)
  F_need_hands : Fun K "need_hands" "need_hands" s_need_hands f_need_hands d_need_hands
  f_hands_by_cell : Addr
  d_hands_by_cell : FuncData
  m_hands_by_cell : mg "hands_by_cell" = some (.ref f_hands_by_cell)
  F_hands_by_cell : Fun K "hands_by_cell" "hands_by_cell" s_hands_by_cell f_hands_by_cell d_hands_by_cell
  f_Sieve_size : Addr
  d_Sieve_size : FuncData
  me_Sieve_size : Meth K c_Sieve "size" f_Sieve_size
  F_Sieve_size : Fun K "size" "Sieve.size" s_Sieve_size f_Sieve_size d_Sieve_size
  f_Sieve_cap : Addr
  d_Sieve_cap : FuncData
  me_Sieve_cap : Meth K c_Sieve "cap" f_Sieve_cap
  F_Sieve_cap : Fun K "cap" "Sieve.cap" s_Sieve_cap f_Sieve_cap d_Sieve_cap
  f_Sieve_hands : Addr
  d_Sieve_hands : FuncData
  me_Sieve_hands : Meth K c_Sieve "hands" f_Sieve_hands
  F_Sieve_hands : Fun K "hands" "Sieve.hands" s_Sieve_hands f_Sieve_hands d_Sieve_hands
  f_Sieve_counts : Addr
  d_Sieve_counts : FuncData
  me_Sieve_counts : Meth K c_Sieve "counts" f_Sieve_counts
  F_Sieve_counts : Fun K "counts" "Sieve.counts" s_Sieve_counts f_Sieve_counts d_Sieve_counts
  f_Sieve_init : Addr
  d_Sieve_init : FuncData
  me_Sieve_init : Meth K c_Sieve "__init__" f_Sieve_init
  F_Sieve_init : Fun K "__init__" "Sieve.__init__" s_Sieve_init f_Sieve_init d_Sieve_init
  f_Sieve_put : Addr
  d_Sieve_put : FuncData
  me_Sieve_put : Meth K c_Sieve "put" f_Sieve_put
  F_Sieve_put : Fun K "put" "Sieve.put" s_Sieve_put f_Sieve_put d_Sieve_put
  f_Sieve_says : Addr
  d_Sieve_says : FuncData
  me_Sieve_says : Meth K c_Sieve "says" f_Sieve_says
  F_Sieve_says : Fun K "says" "Sieve.says" s_Sieve_says f_Sieve_says d_Sieve_says
  f_Sieve_stuck_cells : Addr
  d_Sieve_stuck_cells : FuncData
  me_Sieve_stuck_cells : Meth K c_Sieve "stuck_cells" f_Sieve_stuck_cells
  F_Sieve_stuck_cells : Fun K "stuck_cells" "Sieve.stuck_cells" s_Sieve_stuck_cells f_Sieve_stuck_cells d_Sieve_stuck_cells
  f_Sieve_need_takeable : Addr
  d_Sieve_need_takeable : FuncData
  me_Sieve_need_takeable : Meth K c_Sieve "need_takeable" f_Sieve_need_takeable
  F_Sieve_need_takeable : Fun K "need_takeable" "Sieve.need_takeable" s_Sieve_need_takeable f_Sieve_need_takeable d_Sieve_need_takeable
  f_Sieve_take : Addr
  d_Sieve_take : FuncData
  me_Sieve_take : Meth K c_Sieve "take" f_Sieve_take
  F_Sieve_take : Fun K "take" "Sieve.take" s_Sieve_take f_Sieve_take d_Sieve_take
  f__law_counts : Addr
  d__law_counts : FuncData
  m__law_counts : mg "_law_counts" = some (.ref f__law_counts)
  F__law_counts : Fun K "_law_counts" "_law_counts" s__law_counts f__law_counts d__law_counts
  f_need_keys : Addr
  d_need_keys : FuncData
  m_need_keys : mg "need_keys" = some (.ref f_need_keys)
  F_need_keys : Fun K "need_keys" "need_keys" s_need_keys f_need_keys d_need_keys
  f_with_counts : Addr
  d_with_counts : FuncData
  m_with_counts : mg "with_counts" = some (.ref f_with_counts)
  F_with_counts : Fun K "with_counts" "with_counts" s_with_counts f_with_counts d_with_counts
  f_copied : Addr
  d_copied : FuncData
  m_copied : mg "copied" = some (.ref f_copied)
  F_copied : Fun K "copied" "copied" s_copied f_copied d_copied
  f_built : Addr
  d_built : FuncData
  m_built : mg "built" = some (.ref f_built)
  F_built : Fun K "built" "built" s_built f_built d_built
  f_unlike : Addr
  d_unlike : FuncData
  m_unlike : mg "unlike" = some (.ref f_unlike)
  F_unlike : Fun K "unlike" "unlike" s_unlike f_unlike d_unlike
  f_yeses : Addr
  d_yeses : FuncData
  m_yeses : mg "yeses" = some (.ref f_yeses)
  F_yeses : Fun K "yeses" "yeses" s_yeses f_yeses d_yeses
  f_harm : Addr
  d_harm : FuncData
  m_harm : mg "harm" = some (.ref f_harm)
  F_harm : Fun K "harm" "harm" s_harm f_harm d_harm
  f__law_says : Addr
  d__law_says : FuncData
  m__law_says : mg "_law_says" = some (.ref f__law_says)
  F__law_says : Fun K "_law_says" "_law_says" s__law_says f__law_says d__law_says
  f_others : Addr
  d_others : FuncData
  m_others : mg "others" = some (.ref f_others)
  F_others : Fun K "others" "others" s_others f_others d_others
  f_wrong : Addr
  d_wrong : FuncData
  m_wrong : mg "wrong" = some (.ref f_wrong)
  F_wrong : Fun K "wrong" "wrong" s_wrong f_wrong d_wrong
  f_share : Addr
  d_share : FuncData
  m_share : mg "share" = some (.ref f_share)
  F_share : Fun K "share" "share" s_share f_share d_share
  f_stuck : Addr
  d_stuck : FuncData
  m_stuck : mg "stuck" = some (.ref f_stuck)
  F_stuck : Fun K "stuck" "stuck" s_stuck f_stuck d_stuck
  f__law_universe : Addr
  d__law_universe : FuncData
  m__law_universe : mg "_law_universe" = some (.ref f__law_universe)
  F__law_universe : Fun K "_law_universe" "_law_universe" s__law_universe f__law_universe d__law_universe
  f_NoSieve_init : Addr
  d_NoSieve_init : FuncData
  me_NoSieve_init : Meth K c_NoSieve "__init__" f_NoSieve_init
  F_NoSieve_init : Fun K "__init__" "NoSieve.__init__" s_NoSieve_init f_NoSieve_init d_NoSieve_init
  f_BadText_init : Addr
  d_BadText_init : FuncData
  me_BadText_init : Meth K c_BadText "__init__" f_BadText_init
  F_BadText_init : Fun K "__init__" "BadText.__init__" s_BadText_init f_BadText_init d_BadText_init
  f__law_alike : Addr
  d__law_alike : FuncData
  m__law_alike : mg "_law_alike" = some (.ref f__law_alike)
  F__law_alike : Fun K "_law_alike" "_law_alike" s__law_alike f__law_alike d__law_alike
  f__law_refused : Addr
  d__law_refused : FuncData
  m__law_refused : mg "_law_refused" = some (.ref f__law_refused)
  F__law_refused : Fun K "_law_refused" "_law_refused" s__law_refused f__law_refused d__law_refused
  f__law_due_stuck : Addr
  d__law_due_stuck : FuncData
  m__law_due_stuck : mg "_law_due_stuck" = some (.ref f__law_due_stuck)
  F__law_due_stuck : Fun K "_law_due_stuck" "_law_due_stuck" s__law_due_stuck f__law_due_stuck d__law_due_stuck
  f__law_works : Addr
  d__law_works : FuncData
  m__law_works : mg "_law_works" = some (.ref f__law_works)
  F__law_works : Fun K "_law_works" "_law_works" s__law_works f__law_works d__law_works
  mk_Sieve : Mk K c_Sieve f_Sieve_init
  em_BadKey_SieveError : PySem.W.exmOne K (.ref c_BadKey) (.ref c_SieveError) = some true
  tg_MOST_CAP : Tok
  g_MOST_CAP : mg "MOST_CAP" = some (.int 9 tg_MOST_CAP)
  tg_MOST_HANDS : Tok
  g_MOST_HANDS : mg "MOST_HANDS" = some (.int 6 tg_MOST_HANDS)
  tg_MOST_SIZE : Tok
  g_MOST_SIZE : mg "MOST_SIZE" = some (.int 96 tg_MOST_SIZE)
  tg_RING : Tok
  g_RING : mg "RING" = some (.int 10007 tg_RING)
  is_BadKey : ExcC K c_BadKey
  kc_BadKey : PySem.W.keepIn K (.ref c_BadKey) = true
  kc_NotIn : PySem.W.keepIn K (.ref c_NotIn) = true
  ki_BadKey_BadKey : PySem.W.kitOne K (.ref c_BadKey) (.ref c_BadKey) = some true
  ki_BadKey_BadSieve : PySem.W.kitOne K (.ref c_BadKey) (.ref c_BadSieve) = some false
  ki_BadKey_BadText : PySem.W.kitOne K (.ref c_BadKey) (.ref c_BadText) = some false
  ki_BadKey_NoSieve : PySem.W.kitOne K (.ref c_BadKey) (.ref c_NoSieve) = some false
  ki_BadKey_NotIn : PySem.W.kitOne K (.ref c_BadKey) (.ref c_NotIn) = some false
  ki_BadKey_Stuck : PySem.W.kitOne K (.ref c_BadKey) (.ref c_Stuck) = some false
  ki_BadKey_Unlike : PySem.W.kitOne K (.ref c_BadKey) (.ref c_Unlike) = some false
  ki_BadKey_ValueError : PySem.W.kitOne K (.ref c_BadKey) (.type "ValueError") = some true
  n_ValueError : mg "ValueError" = none
  n_bool : mg "bool" = none
  n_int : mg "int" = none
  n_isinstance : mg "isinstance" = none
  n_len : mg "len" = none
  n_list : mg "list" = none
  n_max : mg "max" = none
  n_min : mg "min" = none
  n_range : mg "range" = none
  n_set : mg "set" = none
  n_sorted : mg "sorted" = none
  n_tuple : mg "tuple" = none
  ox_BadSieve : OexC K c_BadSieve
  ox_BadText : OexC K c_BadText
  ox_NoSieve : OexC K c_NoSieve
  ox_Stuck : OexC K c_Stuck
  tf_BadSieve_init : PySem.W.typeIn K (.ref f_BadSieve_init) = some (.type "function")
  tf_Stuck_init : PySem.W.typeIn K (.ref f_Stuck_init) = some (.type "function")
  x_BadKey : PySem.W.excIn K c_BadKey [.type "ValueError", .type "Exception", .type "BaseException", .type "object"] "ValueError.__new__" = true
  x_NotIn : PySem.W.excIn K c_NotIn [.type "ValueError", .type "Exception", .type "BaseException", .type "object"] "ValueError.__new__" = true
  xb_BadKey : PySem.W.subIn K (.ref c_BadKey) (.type "BaseException") = some true
  xb_NotIn : PySem.W.subIn K (.ref c_NotIn) (.type "BaseException") = some true
  xn_BadSieve_why : PySem.W.findIn K (.ref c_BadSieve) "why" = some none
  xn_BadText_row : PySem.W.findIn K (.ref c_BadText) "row" = some none
  xn_NoSieve_paper : PySem.W.findIn K (.ref c_NoSieve) "paper" = some none
  xn_Stuck_cells : PySem.W.findIn K (.ref c_Stuck) "cells" = some none
  xt_BadKey : PySem.W.typeIn K (.ref c_BadKey) = some (.type "type")
  xt_NotIn : PySem.W.typeIn K (.ref c_NotIn) = some (.type "type")
def Txt.er {K : PySem.W.Frag} {mg : Str → Option Value} (T : Txt K mg) : KS.Er := ⟨T.c_SieveError, T.c_BadSieve, T.c_BadKey, T.c_NotIn, T.c_Stuck, T.c_Unlike, T.c_NoSieve, T.c_BadText⟩
theorem Txt.b_need_key {K : PySem.W.Frag} {mg : Str → Option Value} (T : Txt K mg) : Binds K T.d_need_key ["key"] [] := T.F_need_key.binds fun _ _ _ _ _ _ us hl => match us, hl with | [_], _ => rfl
theorem Txt.k_need_key {K : PySem.W.Frag} {mg : Str → Option Value} (T : Txt K mg) : PySem.W.keepIn K (.ref T.f_need_key) = true := T.F_need_key.kp
theorem Txt.b_pointed {K : PySem.W.Frag} {mg : Str → Option Value} (T : Txt K mg) : Binds K T.d_pointed ["hands", "size", "key"] [] := T.F_pointed.binds fun _ _ _ _ _ _ us hl => match us, hl with | [_, _, _], _ => rfl
theorem Txt.k_pointed {K : PySem.W.Frag} {mg : Str → Option Value} (T : Txt K mg) : PySem.W.keepIn K (.ref T.f_pointed) = true := T.F_pointed.kp
theorem Txt.b__law_mix {K : PySem.W.Frag} {mg : Str → Option Value} (T : Txt K mg) : Binds K T.d__law_mix ["_law_script", "_law_seed"] [] := T.F__law_mix.binds fun _ _ _ _ _ _ us hl => match us, hl with | [_, _], _ => rfl
theorem Txt.k__law_mix {K : PySem.W.Frag} {mg : Str → Option Value} (T : Txt K mg) : PySem.W.keepIn K (.ref T.f__law_mix) = true := T.F__law_mix.kp
theorem Txt.b__law_next {K : PySem.W.Frag} {mg : Str → Option Value} (T : Txt K mg) : Binds K T.d__law_next ["_law_h", "_law_many"] [] := T.F__law_next.binds fun _ _ _ _ _ _ us hl => match us, hl with | [_, _], _ => rfl
theorem Txt.k__law_next {K : PySem.W.Frag} {mg : Str → Option Value} (T : Txt K mg) : PySem.W.keepIn K (.ref T.f__law_next) = true := T.F__law_next.kp
theorem Txt.b__law_hands {K : PySem.W.Frag} {mg : Str → Option Value} (T : Txt K mg) : Binds K T.d__law_hands ["_law_h", "_law_most"] [] := T.F__law_hands.binds fun _ _ _ _ _ _ us hl => match us, hl with | [_, _], _ => rfl
theorem Txt.k__law_hands {K : PySem.W.Frag} {mg : Str → Option Value} (T : Txt K mg) : PySem.W.keepIn K (.ref T.f__law_hands) = true := T.F__law_hands.kp
theorem Txt.b__law_keys {K : PySem.W.Frag} {mg : Str → Option Value} (T : Txt K mg) : Binds K T.d__law_keys ["_law_h", "_law_many"] [] := T.F__law_keys.binds fun _ _ _ _ _ _ us hl => match us, hl with | [_, _], _ => rfl
theorem Txt.k__law_keys {K : PySem.W.Frag} {mg : Str → Option Value} (T : Txt K mg) : PySem.W.keepIn K (.ref T.f__law_keys) = true := T.F__law_keys.kp
theorem Txt.b__law_cells {K : PySem.W.Frag} {mg : Str → Option Value} (T : Txt K mg) : Binds K T.d__law_cells ["_law_hands_here", "_law_size", "_law_key"] [] := T.F__law_cells.binds fun _ _ _ _ _ _ us hl => match us, hl with | [_, _, _], _ => rfl
theorem Txt.k__law_cells {K : PySem.W.Frag} {mg : Str → Option Value} (T : Txt K mg) : PySem.W.keepIn K (.ref T.f__law_cells) = true := T.F__law_cells.kp
theorem Txt.b__law_are {K : PySem.W.Frag} {mg : Str → Option Value} (T : Txt K mg) : Binds K T.d__law_are ["_law_found", "_law_due"] [] := T.F__law_are.binds fun _ _ _ _ _ _ us hl => match us, hl with | [_, _], _ => rfl
theorem Txt.k__law_are {K : PySem.W.Frag} {mg : Str → Option Value} (T : Txt K mg) : PySem.W.keepIn K (.ref T.f__law_are) = true := T.F__law_are.kp
theorem Txt.b_BadSieve_init {K : PySem.W.Frag} {mg : Str → Option Value} (T : Txt K mg) : Binds K T.d_BadSieve_init ["self", "why"] [] := T.F_BadSieve_init.binds fun _ _ _ _ _ _ us hl => match us, hl with | [_, _], _ => rfl
theorem Txt.k_BadSieve_init {K : PySem.W.Frag} {mg : Str → Option Value} (T : Txt K mg) : PySem.W.keepIn K (.ref T.f_BadSieve_init) = true := T.F_BadSieve_init.kp
theorem Txt.b_Stuck_init {K : PySem.W.Frag} {mg : Str → Option Value} (T : Txt K mg) : Binds K T.d_Stuck_init ["self", "cells"] [] := T.F_Stuck_init.binds fun _ _ _ _ _ _ us hl => match us, hl with | [_, _], _ => rfl
theorem Txt.k_Stuck_init {K : PySem.W.Frag} {mg : Str → Option Value} (T : Txt K mg) : PySem.W.keepIn K (.ref T.f_Stuck_init) = true := T.F_Stuck_init.kp
theorem Txt.b_need {K : PySem.W.Frag} {mg : Str → Option Value} (T : Txt K mg) : Binds K T.d_need ["good", "why"] [] := T.F_need.binds fun _ _ _ _ _ _ us hl => match us, hl with | [_, _], _ => rfl
theorem Txt.k_need {K : PySem.W.Frag} {mg : Str → Option Value} (T : Txt K mg) : PySem.W.keepIn K (.ref T.f_need) = true := T.F_need.kp
theorem Txt.b_need_size {K : PySem.W.Frag} {mg : Str → Option Value} (T : Txt K mg) : Binds K T.d_need_size ["size"] [] := T.F_need_size.binds fun _ _ _ _ _ _ us hl => match us, hl with | [_], _ => rfl
theorem Txt.k_need_size {K : PySem.W.Frag} {mg : Str → Option Value} (T : Txt K mg) : PySem.W.keepIn K (.ref T.f_need_size) = true := T.F_need_size.kp
theorem Txt.b_need_cap {K : PySem.W.Frag} {mg : Str → Option Value} (T : Txt K mg) : Binds K T.d_need_cap ["cap"] [] := T.F_need_cap.binds fun _ _ _ _ _ _ us hl => match us, hl with | [_], _ => rfl
theorem Txt.k_need_cap {K : PySem.W.Frag} {mg : Str → Option Value} (T : Txt K mg) : PySem.W.keepIn K (.ref T.f_need_cap) = true := T.F_need_cap.kp
theorem Txt.b_need_hands {K : PySem.W.Frag} {mg : Str → Option Value} (T : Txt K mg) : Binds K T.d_need_hands ["hands"] [] := T.F_need_hands.binds fun _ _ _ _ _ _ us hl => match us, hl with | [_], _ => rfl
theorem Txt.k_need_hands {K : PySem.W.Frag} {mg : Str → Option Value} (T : Txt K mg) : PySem.W.keepIn K (.ref T.f_need_hands) = true := T.F_need_hands.kp
theorem Txt.b_hands_by_cell {K : PySem.W.Frag} {mg : Str → Option Value} (T : Txt K mg) : Binds K T.d_hands_by_cell ["hands", "size", "key"] [] := T.F_hands_by_cell.binds fun _ _ _ _ _ _ us hl => match us, hl with | [_, _, _], _ => rfl
theorem Txt.k_hands_by_cell {K : PySem.W.Frag} {mg : Str → Option Value} (T : Txt K mg) : PySem.W.keepIn K (.ref T.f_hands_by_cell) = true := T.F_hands_by_cell.kp
theorem Txt.b_Sieve_size {K : PySem.W.Frag} {mg : Str → Option Value} (T : Txt K mg) : Binds K T.d_Sieve_size ["self"] [] := T.F_Sieve_size.binds fun _ _ _ _ _ _ us hl => match us, hl with | [_], _ => rfl
theorem Txt.k_Sieve_size {K : PySem.W.Frag} {mg : Str → Option Value} (T : Txt K mg) : PySem.W.keepIn K (.ref T.f_Sieve_size) = true := T.F_Sieve_size.kp
theorem Txt.b_Sieve_cap {K : PySem.W.Frag} {mg : Str → Option Value} (T : Txt K mg) : Binds K T.d_Sieve_cap ["self"] [] := T.F_Sieve_cap.binds fun _ _ _ _ _ _ us hl => match us, hl with | [_], _ => rfl
theorem Txt.k_Sieve_cap {K : PySem.W.Frag} {mg : Str → Option Value} (T : Txt K mg) : PySem.W.keepIn K (.ref T.f_Sieve_cap) = true := T.F_Sieve_cap.kp
theorem Txt.b_Sieve_hands {K : PySem.W.Frag} {mg : Str → Option Value} (T : Txt K mg) : Binds K T.d_Sieve_hands ["self"] [] := T.F_Sieve_hands.binds fun _ _ _ _ _ _ us hl => match us, hl with | [_], _ => rfl
theorem Txt.k_Sieve_hands {K : PySem.W.Frag} {mg : Str → Option Value} (T : Txt K mg) : PySem.W.keepIn K (.ref T.f_Sieve_hands) = true := T.F_Sieve_hands.kp
theorem Txt.b_Sieve_counts {K : PySem.W.Frag} {mg : Str → Option Value} (T : Txt K mg) : Binds K T.d_Sieve_counts ["self"] [] := T.F_Sieve_counts.binds fun _ _ _ _ _ _ us hl => match us, hl with | [_], _ => rfl
theorem Txt.k_Sieve_counts {K : PySem.W.Frag} {mg : Str → Option Value} (T : Txt K mg) : PySem.W.keepIn K (.ref T.f_Sieve_counts) = true := T.F_Sieve_counts.kp
theorem Txt.b_Sieve_init {K : PySem.W.Frag} {mg : Str → Option Value} (T : Txt K mg) : Binds K T.d_Sieve_init ["self", "size", "hands", "cap"] [] := T.F_Sieve_init.binds fun _ _ _ _ _ _ us hl => match us, hl with | [_, _, _, _], _ => rfl
theorem Txt.k_Sieve_init {K : PySem.W.Frag} {mg : Str → Option Value} (T : Txt K mg) : PySem.W.keepIn K (.ref T.f_Sieve_init) = true := T.F_Sieve_init.kp
theorem Txt.b_Sieve_put {K : PySem.W.Frag} {mg : Str → Option Value} (T : Txt K mg) : Binds K T.d_Sieve_put ["self", "key"] [] := T.F_Sieve_put.binds fun _ _ _ _ _ _ us hl => match us, hl with | [_, _], _ => rfl
theorem Txt.k_Sieve_put {K : PySem.W.Frag} {mg : Str → Option Value} (T : Txt K mg) : PySem.W.keepIn K (.ref T.f_Sieve_put) = true := T.F_Sieve_put.kp
theorem Txt.b_Sieve_says {K : PySem.W.Frag} {mg : Str → Option Value} (T : Txt K mg) : Binds K T.d_Sieve_says ["self", "key"] [] := T.F_Sieve_says.binds fun _ _ _ _ _ _ us hl => match us, hl with | [_, _], _ => rfl
theorem Txt.k_Sieve_says {K : PySem.W.Frag} {mg : Str → Option Value} (T : Txt K mg) : PySem.W.keepIn K (.ref T.f_Sieve_says) = true := T.F_Sieve_says.kp
theorem Txt.b_Sieve_stuck_cells {K : PySem.W.Frag} {mg : Str → Option Value} (T : Txt K mg) : Binds K T.d_Sieve_stuck_cells ["self", "key"] [] := T.F_Sieve_stuck_cells.binds fun _ _ _ _ _ _ us hl => match us, hl with | [_, _], _ => rfl
theorem Txt.k_Sieve_stuck_cells {K : PySem.W.Frag} {mg : Str → Option Value} (T : Txt K mg) : PySem.W.keepIn K (.ref T.f_Sieve_stuck_cells) = true := T.F_Sieve_stuck_cells.kp
theorem Txt.b_Sieve_need_takeable {K : PySem.W.Frag} {mg : Str → Option Value} (T : Txt K mg) : Binds K T.d_Sieve_need_takeable ["self", "key"] [] := T.F_Sieve_need_takeable.binds fun _ _ _ _ _ _ us hl => match us, hl with | [_, _], _ => rfl
theorem Txt.k_Sieve_need_takeable {K : PySem.W.Frag} {mg : Str → Option Value} (T : Txt K mg) : PySem.W.keepIn K (.ref T.f_Sieve_need_takeable) = true := T.F_Sieve_need_takeable.kp
theorem Txt.b_Sieve_take {K : PySem.W.Frag} {mg : Str → Option Value} (T : Txt K mg) : Binds K T.d_Sieve_take ["self", "key"] [] := T.F_Sieve_take.binds fun _ _ _ _ _ _ us hl => match us, hl with | [_, _], _ => rfl
theorem Txt.k_Sieve_take {K : PySem.W.Frag} {mg : Str → Option Value} (T : Txt K mg) : PySem.W.keepIn K (.ref T.f_Sieve_take) = true := T.F_Sieve_take.kp
theorem Txt.b__law_counts {K : PySem.W.Frag} {mg : Str → Option Value} (T : Txt K mg) : Binds K T.d__law_counts ["_law_keys_here", "_law_size", "_law_hands_here", "_law_cap"] [] := T.F__law_counts.binds fun _ _ _ _ _ _ us hl => match us, hl with | [_, _, _, _], _ => rfl
theorem Txt.k__law_counts {K : PySem.W.Frag} {mg : Str → Option Value} (T : Txt K mg) : PySem.W.keepIn K (.ref T.f__law_counts) = true := T.F__law_counts.kp
theorem Txt.b_need_keys {K : PySem.W.Frag} {mg : Str → Option Value} (T : Txt K mg) : Binds K T.d_need_keys ["keys"] [] := T.F_need_keys.binds fun _ _ _ _ _ _ us hl => match us, hl with | [_], _ => rfl
theorem Txt.k_need_keys {K : PySem.W.Frag} {mg : Str → Option Value} (T : Txt K mg) : PySem.W.keepIn K (.ref T.f_need_keys) = true := T.F_need_keys.kp
theorem Txt.b_with_counts {K : PySem.W.Frag} {mg : Str → Option Value} (T : Txt K mg) : Binds K T.d_with_counts ["sieve", "size", "counts"] [] := T.F_with_counts.binds fun _ _ _ _ _ _ us hl => match us, hl with | [_, _, _], _ => rfl
theorem Txt.k_with_counts {K : PySem.W.Frag} {mg : Str → Option Value} (T : Txt K mg) : PySem.W.keepIn K (.ref T.f_with_counts) = true := T.F_with_counts.kp
theorem Txt.b_copied {K : PySem.W.Frag} {mg : Str → Option Value} (T : Txt K mg) : Binds K T.d_copied ["sieve"] [] := T.F_copied.binds fun _ _ _ _ _ _ us hl => match us, hl with | [_], _ => rfl
theorem Txt.k_copied {K : PySem.W.Frag} {mg : Str → Option Value} (T : Txt K mg) : PySem.W.keepIn K (.ref T.f_copied) = true := T.F_copied.kp
theorem Txt.b_built {K : PySem.W.Frag} {mg : Str → Option Value} (T : Txt K mg) : Binds K T.d_built ["keys", "size", "hands", "cap"] [] := T.F_built.binds fun _ _ _ _ _ _ us hl => match us, hl with | [_, _, _, _], _ => rfl
theorem Txt.k_built {K : PySem.W.Frag} {mg : Str → Option Value} (T : Txt K mg) : PySem.W.keepIn K (.ref T.f_built) = true := T.F_built.kp
theorem Txt.b_unlike {K : PySem.W.Frag} {mg : Str → Option Value} (T : Txt K mg) : Binds K T.d_unlike ["keys"] [] := T.F_unlike.binds fun _ _ _ _ _ _ us hl => match us, hl with | [_], _ => rfl
theorem Txt.k_unlike {K : PySem.W.Frag} {mg : Str → Option Value} (T : Txt K mg) : PySem.W.keepIn K (.ref T.f_unlike) = true := T.F_unlike.kp
theorem Txt.b_yeses {K : PySem.W.Frag} {mg : Str → Option Value} (T : Txt K mg) : Binds K T.d_yeses ["sieve", "universe"] [] := T.F_yeses.binds fun _ _ _ _ _ _ us hl => match us, hl with | [_, _], _ => rfl
theorem Txt.k_yeses {K : PySem.W.Frag} {mg : Str → Option Value} (T : Txt K mg) : PySem.W.keepIn K (.ref T.f_yeses) = true := T.F_yeses.kp
theorem Txt.b_harm {K : PySem.W.Frag} {mg : Str → Option Value} (T : Txt K mg) : Binds K T.d_harm ["sieve", "key", "keys"] [] := T.F_harm.binds fun _ _ _ _ _ _ us hl => match us, hl with | [_, _, _], _ => rfl
theorem Txt.k_harm {K : PySem.W.Frag} {mg : Str → Option Value} (T : Txt K mg) : PySem.W.keepIn K (.ref T.f_harm) = true := T.F_harm.kp
theorem Txt.b__law_says {K : PySem.W.Frag} {mg : Str → Option Value} (T : Txt K mg) : Binds K T.d__law_says ["_law_counts_here", "_law_hands_here", "_law_cap", "_law_key"] [] := T.F__law_says.binds fun _ _ _ _ _ _ us hl => match us, hl with | [_, _, _, _], _ => rfl
theorem Txt.k__law_says {K : PySem.W.Frag} {mg : Str → Option Value} (T : Txt K mg) : PySem.W.keepIn K (.ref T.f__law_says) = true := T.F__law_says.kp
theorem Txt.b_others {K : PySem.W.Frag} {mg : Str → Option Value} (T : Txt K mg) : Binds K T.d_others ["universe", "keys"] [] := T.F_others.binds fun _ _ _ _ _ _ us hl => match us, hl with | [_, _], _ => rfl
theorem Txt.k_others {K : PySem.W.Frag} {mg : Str → Option Value} (T : Txt K mg) : PySem.W.keepIn K (.ref T.f_others) = true := T.F_others.kp
theorem Txt.b_wrong {K : PySem.W.Frag} {mg : Str → Option Value} (T : Txt K mg) : Binds K T.d_wrong ["sieve", "universe", "keys"] [] := T.F_wrong.binds fun _ _ _ _ _ _ us hl => match us, hl with | [_, _, _], _ => rfl
theorem Txt.k_wrong {K : PySem.W.Frag} {mg : Str → Option Value} (T : Txt K mg) : PySem.W.keepIn K (.ref T.f_wrong) = true := T.F_wrong.kp
theorem Txt.b_share {K : PySem.W.Frag} {mg : Str → Option Value} (T : Txt K mg) : Binds K T.d_share ["sieve", "universe", "keys"] [] := T.F_share.binds fun _ _ _ _ _ _ us hl => match us, hl with | [_, _, _], _ => rfl
theorem Txt.k_share {K : PySem.W.Frag} {mg : Str → Option Value} (T : Txt K mg) : PySem.W.keepIn K (.ref T.f_share) = true := T.F_share.kp
theorem Txt.b_stuck {K : PySem.W.Frag} {mg : Str → Option Value} (T : Txt K mg) : Binds K T.d_stuck ["sieve", "universe"] [] := T.F_stuck.binds fun _ _ _ _ _ _ us hl => match us, hl with | [_, _], _ => rfl
theorem Txt.k_stuck {K : PySem.W.Frag} {mg : Str → Option Value} (T : Txt K mg) : PySem.W.keepIn K (.ref T.f_stuck) = true := T.F_stuck.kp
theorem Txt.b__law_universe {K : PySem.W.Frag} {mg : Str → Option Value} (T : Txt K mg) : Binds K T.d__law_universe ["_law_h", "_law_many", "_law_keys_here"] [] := T.F__law_universe.binds fun _ _ _ _ _ _ us hl => match us, hl with | [_, _, _], _ => rfl
theorem Txt.k__law_universe {K : PySem.W.Frag} {mg : Str → Option Value} (T : Txt K mg) : PySem.W.keepIn K (.ref T.f__law_universe) = true := T.F__law_universe.kp
theorem Txt.b_NoSieve_init {K : PySem.W.Frag} {mg : Str → Option Value} (T : Txt K mg) : Binds K T.d_NoSieve_init ["self", "paper"] [] := T.F_NoSieve_init.binds fun _ _ _ _ _ _ us hl => match us, hl with | [_, _], _ => rfl
theorem Txt.k_NoSieve_init {K : PySem.W.Frag} {mg : Str → Option Value} (T : Txt K mg) : PySem.W.keepIn K (.ref T.f_NoSieve_init) = true := T.F_NoSieve_init.kp
theorem Txt.b_BadText_init {K : PySem.W.Frag} {mg : Str → Option Value} (T : Txt K mg) : Binds K T.d_BadText_init ["self", "row"] [] := T.F_BadText_init.binds fun _ _ _ _ _ _ us hl => match us, hl with | [_, _], _ => rfl
theorem Txt.k_BadText_init {K : PySem.W.Frag} {mg : Str → Option Value} (T : Txt K mg) : PySem.W.keepIn K (.ref T.f_BadText_init) = true := T.F_BadText_init.kp
theorem Txt.b__law_alike {K : PySem.W.Frag} {mg : Str → Option Value} (T : Txt K mg) : Binds K T.d__law_alike ["_law_found", "_law_due"] [] := T.F__law_alike.binds fun _ _ _ _ _ _ us hl => match us, hl with | [_, _], _ => rfl
theorem Txt.k__law_alike {K : PySem.W.Frag} {mg : Str → Option Value} (T : Txt K mg) : PySem.W.keepIn K (.ref T.f__law_alike) = true := T.F__law_alike.kp
theorem Txt.b__law_refused {K : PySem.W.Frag} {mg : Str → Option Value} (T : Txt K mg) : Binds K T.d__law_refused ["_law_work"] [] := T.F__law_refused.binds fun _ _ _ _ _ _ us hl => match us, hl with | [_], _ => rfl
theorem Txt.k__law_refused {K : PySem.W.Frag} {mg : Str → Option Value} (T : Txt K mg) : PySem.W.keepIn K (.ref T.f__law_refused) = true := T.F__law_refused.kp
theorem Txt.b__law_due_stuck {K : PySem.W.Frag} {mg : Str → Option Value} (T : Txt K mg) : Binds K T.d__law_due_stuck ["_law_yes", "_law_counts_here", "_law_hands_here", "_law_cap"] [] := T.F__law_due_stuck.binds fun _ _ _ _ _ _ us hl => match us, hl with | [_, _, _, _], _ => rfl
theorem Txt.k__law_due_stuck {K : PySem.W.Frag} {mg : Str → Option Value} (T : Txt K mg) : PySem.W.keepIn K (.ref T.f__law_due_stuck) = true := T.F__law_due_stuck.kp
theorem Txt.b__law_works {K : PySem.W.Frag} {mg : Str → Option Value} (T : Txt K mg) : Binds K T.d__law_works ["_law_sieve", "_law_universe_here", "_law_keys_here", "_law_odd"] [] := T.F__law_works.binds fun _ _ _ _ _ _ us hl => match us, hl with | [_, _, _, _], _ => rfl
theorem Txt.k__law_works {K : PySem.W.Frag} {mg : Str → Option Value} (T : Txt K mg) : PySem.W.keepIn K (.ref T.f__law_works) = true := T.F__law_works.kp
section
variable {P : Program} {w : World} {K : PySem.W.Frag} {mg : Str → Option Value} {base : Heap}
theorem ok_need_key (T : Txt K mg) : FnOk P w K mg base (L2.CX P w) 1 T.f_need_key T.d_need_key ["key"] (SpX T.er (fun _ => True) fun x : Int × Unit => needKey x.1) := by
  refine T.F_need_key.okX sc_need_key (fun vs H Q E h => ?_) (fun cdv A outer s H vs Q E hr h => ?_)
  · obtain ⟨m, x, c, ⟨v, r, rfl, rk, rfl⟩, _⟩ := h
    rfl
  · obtain ⟨m, ⟨key, u⟩, c, ⟨v, r, rfl, rk, rfl⟩, -, k1, k2⟩ := h
    cases rp_int rk
    refine ⟨_, (pss_one (ps_if (pt_not (pt_chain op_le op_lt pe_int (pv 0) (pe_glob (v := .int 10007) rfl T.g_RING ⟨_, rfl⟩)))
  (pss_one (ps_raise rfl (takes_of rfl rfl rfl rfl) (pmk_own PySem.F.excBase_ValueError T.x_BadKey T.m_BadKey T.kc_BadKey (raises_own T.xb_BadKey T.xt_BadKey) rfl)))
  pss_nil)), ?_⟩
    refine s_ifV c (et_notV (et_e (ev_chain ev_c ev_vi ev_c))) (fun e H1 g => ?_) (fun e H1 g => ?_)
    · refine k2 .badKey ?_ _ _ H1 g.gr0 ⟨rfl, rfl⟩
      show needKey key = _
      unfold needKey
      rw [if_neg]
      intro z
      simp [z.1, z.2] at e
    · refine k1 () ?_ _ H1 g.gr0 rfl
      show needKey key = _
      unfold needKey
      rw [if_pos]
      simpa using e
theorem ok_pointed (T : Txt K mg) : FnOk P w K mg base CX0 1 T.f_pointed T.d_pointed ["hands", "size", "key"]
    (SpL (fun x : List (Int × Int) × Int × Int × Unit => x.1.length ≤ 90000 ∧ 0 < x.2.1 ∧ -(2 ^ 64) < x.2.2.1 ∧ x.2.2.1 < 2 ^ 64) fun x => pointed x.1 x.2.1 x.2.2.1) := by
  refine T.F_pointed.ok sc_pointed (fun vs H Q E h => ?_) (fun cdv A outer s H vs Q E hr h => ?_)
  · obtain ⟨m, x, c, ⟨v, r, rfl, rk, ⟨v2, r2, rfl, rk2, ⟨v3, r3, rfl, rk3, rfl⟩⟩⟩, _⟩ := h
    rfl
  · obtain ⟨m, ⟨hands, size, key, u⟩, c, ⟨v, r, rfl, rk, ⟨v2, r2, rfl, rk2, ⟨v3, r3, rfl, rk3, rfl⟩⟩⟩, ⟨hl, h1, h2⟩, k⟩ := h
    cases (show v2 = V.int size from rk2)
    cases (show v3 = V.int key from rk3)
    refine ⟨_, (pss_one (ps_ret (pe_lc (own := [("times", 3), ("more", 4)]) (g := gTup K 2 (gCons (gName 3) (gCons (gName 4) gNil))) (tt := tYes) (by rfl) sc_pointed.nd (pi_list (pv 0)) (blkOk_by (own := [("times", 3), ("more", 4)]) (N := N_pointed) (sc := defScope s_pointed) (by decide +kernel)) (fun _ _ _ _ _ => (pg_tup rfl (pgs_cons (pg_name (i := 3) sc_pointed.nd rfl (Or.inl rfl) (.inr rfl)) (pgs_cons (pg_name (i := 4) sc_pointed.nd rfl (Or.inl rfl) (.inr rfl)) pgs_nil)))) (fun _ _ _ _ _ => pts_nil) (fun _ _ _ _ _ => (pe_op op_mod (pe_op op_mod (pe_op op_add (pe_op op_mul (pv 2) (pv 3)) (pv 4)) (pe_glob (v := .int 10007) rfl T.g_RING ⟨_, rfl⟩)) (pv 1)))))), ?_⟩
    refine s_retLV c (el_map (fun h : Int × Int => (key * h.1 + h.2) % 10007 % size) (ev_v rfl rk) hl fun x v H1 _ g c1 r => lcT_pair r fun u w ru rw => ?_) fun a H1 n g o => k a H1 n g.gr0 o
    cases rp_int ru
    cases rp_int rw
    exact ⟨rfl, tYes_ok, fun _ => ev_oC (ev_oC (ev_o (ev_oC ev_vi ev_vi (.inl h2)) ev_vi) ev_c (by decide)) ev_vi h1⟩
theorem ok__law_mix (T : Txt K mg) : FnOk P w K mg base CX0 1 T.f__law_mix T.d__law_mix ["_law_script", "_law_seed"] (spMix K) := by
  refine T.F__law_mix.ok sc__law_mix (fun vs H Q E h => ?_) (fun cdv A outer s H vs Q E hr h => ?_)
  · obtain ⟨a, ns, seed, rfl, _⟩ := h
    rfl
  · obtain ⟨a, ns, seed, rfl, hS, hl, k⟩ := h
    refine ⟨_, (pss_cons (ps_set (i := 2) sc__law_mix.nd rfl (Or.inl rfl) (pv 1))
  (pss_cons (ps_for PassesOwn.never rfl (pi_list (pv 0)) (pg_name (i := 3) sc__law_mix.nd rfl (Or.inl rfl))
  (pss_one (ps_set (i := 2) sc__law_mix.nd rfl (Or.inl rfl) (pe_op op_mod (pe_op op_add (pe_op op_add (pe_op op_mul (pv 2) pe_int) (pe_op op_mod (pv 3) pe_int)) pe_int) pe_int))))
  (pss_one (ps_ret (pe_lst (pa_cons (pv 2) (pa_cons (pe_callTy call_list_of (by rfl) T.n_list (by decide +kernel) (pa_cons (pv 0) pa_nil)) (pa_cons pe_int pa_nil)))))))), ?_⟩
    refine ⟨_, rfl, ?_⟩
    refine ⟨_, rfl, a, rfl, ⟨_, hS⟩, for_list (K := K) (a := a) (xs := ns.map V.int) (fun i s2 H2 => ∃ (n : Int) (v : Option V), s2 = [some (.ref a), some (.int seed), some (.int n), v] ∧ H2 = H) ⟨seed, none, rfl, rfl⟩ (fun i s2 H2 _ ⟨_, _, _, e⟩ => by rw [e]; exact hS) ?_ ?_⟩
    · rintro i y s2 H2 hi ⟨n, v, rfl, rfl⟩
      obtain ⟨z, rfl⟩ : ∃ z, y = V.int z := by
        rw [List.getElem?_map] at hi
        cases e : ns[i]? with
        | none => rw [e] at hi; cases hi
        | some z => rw [e] at hi; exact ⟨z, (Option.some.inj hi).symm⟩
      refine ⟨_, rfl, _, _, rfl, rfl, .inr (by decide), _, rfl, _, _, rfl, rfl, (by show (0 : Int) < 2147483629; decide), _, _, rfl, rfl, _, _, rfl, rfl, _, _, rfl, rfl, (by show (0 : Int) < 2147483647; decide), ?_⟩
      exact ⟨_, _, rfl, rfl⟩
    · rintro s2 H2 ⟨n, v, rfl, rfl⟩
      refine ⟨_, rfl, _, rfl, a, _, rfl, .inl hS, fun l hl' => ⟨(by show 3 ≤ sizeLine; decide), fun p hp => ?_⟩⟩
      have hlp : l ≠ p := ne_of_none upd_same hp
      have hp' : H2 p = none := by rw [upd_ne hlp.symm] at hp; exact hp
      refine k p l _ hp' hl' hlp.symm ((Gr.new hl').trans (Gr.new hp)) ⟨n, ns, 0, upd_same, ?_, hl⟩
      rw [upd_ne hlp]
      exact upd_same
theorem ok__law_next (T : Txt K mg) : FnOk P w K mg base CX0 1 T.f__law_next T.d__law_next ["_law_h", "_law_many"] spNext := by
  refine T.F__law_next.ok sc__law_next (fun vs H Q E h => ?_) (fun cdv A outer s H vs Q E hr h => ?_)
  · obtain ⟨p, q, many, rfl, _⟩ := h
    rfl
  · obtain ⟨p, q, many, rfl, ⟨m, cs, i, hp, hq, hl⟩, h0, h1, k⟩ := h
    have npq : p ≠ q := ne_of hp hq (by
      intro z
      have z2 := HO.lst.inj z
      cases cs with
      | nil => cases z2
      | cons a r =>
        cases r with
        | nil => cases z2
        | cons b r => cases z2)
    have hlen : ((cs.map V.int).length : Int) = (cs.length : Int) := by rw [List.length_map]
    refine ⟨_, (pss_cons (ps_set (i := 2) sc__law_next.nd rfl (Or.inl rfl) (pe_op op_mod (pe_ix ix_list (pv 0) pe_int (fun _ _ => rfl)) (pe_callB (call_max2 rfl) (by rfl) T.n_max (by decide +kernel) (pa_cons pe_int (pa_cons (pe_callB call_len_seq (by rfl) T.n_len (by decide +kernel) (pa_cons (pe_ix ix_list (pv 0) pe_int (fun _ _ => rfl)) pa_nil)) pa_nil)))))
  (pss_cons (ps_set (i := 3) sc__law_next.nd rfl (Or.inl rfl) (pe_ifExp (pt_cmpR (op_neD hr.units) (pe_ix ix_list (pv 0) pe_int (fun _ _ => rfl)) (pe_lst pa_nil) (nomark _)) (pe_ix ix_list (pe_ix ix_list (pv 0) pe_int (fun _ _ => rfl)) (pv 2) (fun _ _ => rfl)) pe_int))
  (pss_cons (ps_if (pt_cmpR op_ge (pv 3) (pe_op op_pow pe_int pe_int) (nomark _))
  (pss_cons (ps_asg (pe_op op_fdiv (pv 3) (pv 1)) (pg_sub (pe_ix ix_list (pv 0) pe_int (fun _ _ => rfl)) (pv 2) set_list))
  (pss_one (ps_ret (pe_op op_mod (pv 3) (pv 1)))))
  pss_nil)
  (pss_cons (ps_asg (pe_op op_mod (pe_op op_add (pe_op op_add (pe_op op_mul (pe_ix ix_list (pv 0) pe_int (fun _ _ => rfl)) pe_int) (pe_op op_mul (pv 3) pe_int)) pe_int) pe_int) (pg_sub (pv 0) pe_int set_list))
  (pss_cons (ps_asg (pe_op op_add (pe_ix ix_list (pv 0) pe_int (fun _ _ => rfl)) pe_int) (pg_sub (pv 0) pe_int set_list))
  (pss_one (ps_ret (pe_op op_mod (pe_op op_fdiv (pe_ix ix_list (pv 0) pe_int (fun _ _ => rfl)) pe_int) (pv 1))))))))), ?_⟩
    -- at = h[2] % max(1, len(h[1]))
    obtain ⟨w1, ew1, hw1⟩ : ∃ w1 : Int, w1 = (if ((cs.map V.int).length : Int) > 1 then ((cs.map V.int).length : Int) else 1) ∧ 0 < w1 := ⟨_, rfl, by split <;> omega⟩
    refine q_rawA ?_
    refine ⟨_, rfl, p, _, 2, _, rfl, rfl, .of hp, rfl, _, rfl, p, _, 1, _, rfl, rfl, .of hp, rfl, q, _, rfl, .inl (.of hq), 1, _, rfl, i, _, rfl, rfl, by rw [← ew1]; exact hw1, ?_⟩
    rw [← ew1]
    obtain ⟨at', eat, hat0, hat1⟩ : ∃ at' : Int, at' = i % w1 ∧ 0 ≤ at' ∧ at' < w1 := ⟨_, rfl, Int.emod_nonneg _ (by omega), Int.emod_lt_of_pos _ hw1⟩
    -- cell = h[1][at] if h[1] != [] else 0
    refine g_name ?_
    refine q_setI (D := none) (m := []) (p := fun cell : Int => (cs[at'.toNat]? = some cell ∧ at' < cs.length) ∨ cell = 0) .nil (fun H0 g0 c0 Q' w' => ?_) (fun cell H1 g1 hcell => ?_)
    · have hp0 := g0.gr0.at0 hp
      have hq0 := g0.gr0.at0 hq
      refine ⟨_, rfl, p, _, 1, _, rfl, rfl, .of hp0, rfl, (by show 0 ≤ sizeLine; decide), fun l hl' => ?_⟩
      have g1 : Gr [] H0 (upd H0 l (.lst [])) := Gr.new hl'
      have hp1 := g1.at0 hp0
      have hq1 := g1.at0 hq0
      refine ⟨_, _, Dat.dp (α := List Int) (m := []) ⟨q, _, rfl, by simp, hq1, ints_paired cs⟩, Dat.dp (α := List Int) (x := []) (m := []) ⟨l, _, rfl, by simp, upd_same, .nil⟩, shaped_of (ok_ints _) (by decide), shaped_of (ok_ints _) (by decide), _, rfl, ?_⟩
      rw [eqv_dec]
      by_cases hc : cs = []
      · rw [decide_eq_true hc]
        exact iteF (w' 0 _ _ (.pure g1) rfl (.inr rfl))
      · rw [decide_eq_false hc]
        refine iteT ?_
        have hpos : 0 < cs.length := List.length_pos_iff.mpr hc
        have hw : w1 = (cs.length : Int) := by
          rw [ew1, List.length_map]; split <;> omega
        have hlt : at'.toNat < cs.length := by omega
        refine ⟨_, rfl, p, _, 1, _, rfl, rfl, .of hp1, rfl, _, rfl, q, _, at', .int cs[at'.toNat], rfl, by rw [eat], .of hq1, at_of (j := at'.toNat) (by omega) (by rw [List.getElem?_map, List.getElem?_eq_getElem hlt]; rfl), ?_⟩
        exact w' _ _ _ (.pure g1) rfl (.inl ⟨List.getElem?_eq_getElem hlt, by omega⟩)
    · have hp1 := g1.gr0.at0 hp
      have hq1 := g1.gr0.at0 hq
      -- if cell >= 10 ** 18
      refine q_rawWhen ?_
      refine ⟨_, rfl, _, _, rfl, rfl, ⟨by decide, by decide, by decide⟩, _, _, rfl, rfl, _, rfl, ite2 (fun hge => ?_) (fun hge => ?_)⟩
      · have hge' : (1000000000000000000 : Int) ≤ cell := by simpa using hge
        obtain ⟨hc1, hc2⟩ : cs[at'.toNat]? = some cell ∧ at' < cs.length := hcell.elim (fun z => z) fun z => by omega
        -- h[1][at] = cell // many; return cell % many
        have hix : ixN (cs.map V.int).length at' = some at'.toNat := by
          unfold ixN
          rw [if_pos hat0, if_pos (by rw [List.length_map]; exact hc2)]
        refine q_rawA ?_
        refine ⟨_, rfl, _, rfl, _, _, rfl, rfl, ⟨h0, h1⟩, _, rfl, p, _, 1, _, rfl, rfl, .of hp1, rfl, _, rfl, q, _, at', at'.toNat, rfl, by rw [eat], hq1, hix, ?_⟩
        refine ⟨_, rfl, _, rfl, _, _, rfl, rfl, h0, ?_⟩
        refine k _ _ (Int.emod_nonneg _ (by omega)) (Int.emod_lt_of_pos _ h0) ((g1.gr0.any).put (by simp) hq1 (fun _ z => by cases z)) ⟨m, cs.set at'.toNat (cell / many), i, by rw [upd_ne npq]; exact hp1, ?_, by rw [List.length_set]; exact hl⟩
        rw [upd_same, List.map_set]
      · -- h[0] = ..; h[2] = h[2] + 1; return h[0] // 7 % many
        refine q_rawA ?_
        refine ⟨_, rfl, p, _, 0, _, rfl, rfl, .of hp1, rfl, _, _, rfl, rfl, .inr (by decide), _, rfl, _, _, rfl, rfl, .inr (by decide), _, _, rfl, rfl, _, _, rfl, rfl, _, _, rfl, rfl, (by show (0 : Int) < 2147483647; decide), _, rfl, p, _, 0, 0, rfl, rfl, hp1, rfl, ?_⟩
        refine q_rawA ?_
        refine ⟨_, rfl, p, _, 2, _, rfl, rfl, .of upd_same, rfl, _, _, rfl, rfl, _, rfl, p, _, 2, 2, rfl, rfl, upd_same, rfl, ?_⟩
        rw [upd_upd]
        refine ⟨_, rfl, p, _, 0, _, rfl, rfl, .of upd_same, rfl, _, _, rfl, rfl, ⟨by decide, by decide⟩, _, rfl, _, _, rfl, rfl, h0, ?_⟩
        refine k _ _ (Int.emod_nonneg _ (by omega)) (Int.emod_lt_of_pos _ h0) ((g1.gr0.any).put (by simp) hp1 (fun _ z => by cases z)) ⟨_, cs, _, upd_same, ?_, hl⟩
        rw [upd_ne npq.symm]
        exact hq1
/-! ### what is drawn -/
abbrev spHands : Sp := SpDL (fun x : Int × Unit => 0 < x.1 ∧ x.1 ≤ 100) fun x ys => HandsOk x.1 ys
abbrev spKeys : Sp := SpDL (fun x : Int × Unit => 0 ≤ x.1 ∧ x.1 ≤ 1000) fun x ys => KeysOk x.1 ys
theorem at_ofA {α : Type} {xs : List α} {z : Int} {j : Nat} {v : α} (e : z = (j : Int)) (h : xs[j]? = some v) : atI xs z = some v := by
  rw [e]
  exact atI_nat h
theorem atI_of {α : Type} {xs : List α} {i : Int} (h0 : 0 ≤ i) (h1 : i < xs.length) : ∃ x, atI xs i = some x ∧ x ∈ xs := by
  have hl : i.toNat < xs.length := by omega
  exact ⟨xs[i.toNat], at_ofA (j := i.toNat) (by omega) (List.getElem?_eq_getElem hl), List.getElem_mem hl⟩
theorem ok__law_hands (T : Txt K mg) : FnOk P w K mg base CX0 2 T.f__law_hands T.d__law_hands ["_law_h", "_law_most"] spHands := by
  refine T.F__law_hands.ok sc__law_hands (fun vs H Q E h => ?_) (fun cdv A outer s H vs Q E hr h => ?_)
  · obtain ⟨p, q, m, x, ws, rfl, _, ⟨v, r, rfl, rk, rfl⟩, _⟩ := h
    rfl
  · obtain ⟨p, q, m, ⟨most, u⟩, ws, rfl, c, ⟨v, r, rfl, rk, rfl⟩, ⟨h0, h1⟩, k⟩ := h
    cases (show v = V.int most from rk)
    replace h0 : 0 < most := h0
    replace h1 : most ≤ 100 := h1
    refine ⟨_, (pss_cons (ps_set (i := 2) sc__law_hands.nd rfl (Or.inl rfl) (pe_lst pa_nil))
  (pss_cons (ps_set (i := 3) sc__law_hands.nd rfl (Or.inl rfl) (pe_call (ok__law_next T) (hr.mono (by decide)) rfl T.m__law_next T.k__law_next T.b__law_next .nil pass0 (pa_cons (pv 0) (pa_cons pe_int pa_nil))))
  (pss_cons (ps_for PassesOwn.never rfl (pi_range1 rfl T.n_range (pa_cons (pe_op op_add pe_int (pe_call (ok__law_next T) (hr.mono (by decide)) rfl T.m__law_next T.k__law_next T.b__law_next .nil pass0 (pa_cons (pv 0) (pa_cons (pv 1) pa_nil)))) pa_nil)) (pg_name (i := 4) sc__law_hands.nd rfl (Or.inl rfl))
  (pss_cons (ps_set (i := 5) sc__law_hands.nd rfl (Or.inl rfl) (pe_tup (pa_cons (pe_op op_add pe_int (pe_call (ok__law_next T) (hr.mono (by decide)) rfl T.m__law_next T.k__law_next T.b__law_next .nil pass0 (pa_cons (pv 0) (pa_cons pe_int pa_nil)))) (pa_cons (pe_call (ok__law_next T) (hr.mono (by decide)) rfl T.m__law_next T.k__law_next T.b__law_next .nil pass0 (pa_cons (pv 0) (pa_cons pe_int pa_nil))) pa_nil))))
  (pss_cons (ps_if (pt_cmpR op_eq (pv 3) pe_int (nomark _))
  (pss_one (ps_set (i := 5) sc__law_hands.nd rfl (Or.inl rfl) (pe_tup (pa_cons (pe_ix ix_list (pe_lst (pa_cons pe_int (pa_cons pe_int (pa_cons pe_int pa_nil)))) (pe_call (ok__law_next T) (hr.mono (by decide)) rfl T.m__law_next T.k__law_next T.b__law_next .nil pass0 (pa_cons (pv 0) (pa_cons pe_int pa_nil))) (fun _ _ => rfl)) (pa_cons (pe_ix ix_list (pe_lst (pa_cons pe_int (pa_cons pe_int (pa_cons pe_int pa_nil)))) (pe_call (ok__law_next T) (hr.mono (by decide)) rfl T.m__law_next T.k__law_next T.b__law_next .nil pass0 (pa_cons (pv 0) (pa_cons pe_int pa_nil))) (fun _ _ => rfl)) pa_nil)))))
  pss_nil)
  (pss_cons (ps_if (PW.pt (pw_and (pt_cmpR op_eq (pv 3) pe_int (nomark _)) (pw_and (pt_cmpR (op_neD hr.units) (pv 2) (pe_lst pa_nil) (nomark _)) (pw_and1 (pt_cmpR op_eq (pe_call (ok__law_next T) (hr.mono (by decide)) rfl T.m__law_next T.k__law_next T.b__law_next .nil pass0 (pa_cons (pv 0) (pa_cons pe_int pa_nil))) pe_int (nomark _))))))
  (pss_one (ps_set (i := 5) sc__law_hands.nd rfl (Or.inl rfl) (pe_ix ix_list (pv 2) pe_int (fun _ _ => rfl))))
  pss_nil)
  (pss_one (ps_expr (pe_bm PySem.F.plainAttrs_list PySem.F.slot_list_append PySem.F.type_list_append mt_append (pv 2) (pa_cons (pv 5) pa_nil))))))))
  (pss_one (ps_ret (pv 2)))))), ?_⟩
    refine q_setLV (α := Int × Int) c el_nil fun a H1 na g1 o1 => ?_
    have c1 := c.go g1
    refine q_setI c1 (ev_nextC rfl (by decide)) fun way H2 g2 hway => ?_
    have c2 := c1.go g2
    have o2 := o1.gd c1 g2
    refine q_forR1 c2 (ev_i0 (r := fun n => 1 ≤ n ∧ n ≤ most) ev_c (ev_next (r := fun j => 0 ≤ j ∧ j < most) rfl ev_vi (fun n e => by rw [e]; omega) fun n j e a b => ⟨a, by rw [← e]; exact b⟩) (fun i j e b => by subst e; omega)) fun n H3 g3 hn => ⟨by omega, ?_⟩
    refine ⟨fun j s2 H' => ∃ (ys : List (Int × Int)) (x y : Option V), s2 = [some (.ref p), some (.int most), some (.ref a), some (.int way), x, y] ∧ Gd (some (p, q)) H H' ∧ Own m H' a ys ∧ ys.length = j ∧ ∀ h, h ∈ ys → HandOk h,
      ⟨[], none, none, rfl, (g1.trans g2).trans g3, o2.gd c2 g3, rfl, by simp⟩, ?_, ?_⟩
    · rintro j s2 H' hj ⟨ys, x, y, rfl, g', o', hl, hy⟩
      have c' := c.go g'
      refine g_name ?_
      refine q_set (p := HandOk) c' (ev_pair (p := fun i : Int => 1 ≤ i ∧ i ≤ 10006) (q := fun i : Int => 0 ≤ i ∧ i ≤ 10006) (ev_i0 ev_c (ev_nextC rfl (by decide)) fun i j e b => by subst e; omega) ((ev_nextC rfl (by decide)).imp fun i e => by omega) fun i j a b => ⟨a.1, a.2, b.1, b.2⟩) fun hd v H4 g4 r4 hd4 => ?_
      have c4 := c'.go g4
      refine q_ifset (α := Int × Int) (p := HandOk) c4 (et_e (ev_eqV ev_vi ev_c)) (fun _ => ev_pair (p := fun i : Int => 1 ≤ i ∧ i ≤ 10006) (q := fun i : Int => 0 ≤ i ∧ i ≤ 10006)
        (ev_ixL (xs := [1, 2, 10006]) (el_lst (ei_consV ev_c (ei_consV ev_c (ei_consV ev_c ei_nil))) (fun xs e => by rw [e]; decide)).ev (ev_nextC rfl (by decide)) fun i b => ?_)
        (ev_ixL (xs := [0, 1, 10006]) (el_lst (ei_consV ev_c (ei_consV ev_c (ei_consV ev_c ei_nil))) (fun xs e => by rw [e]; decide)).ev (ev_nextC rfl (by decide)) fun i b => ?_) (fun i j a b => ⟨a.1, a.2, b.1, b.2⟩)) (fun _ => ⟨hd, v, rfl, r4, hd4⟩) fun hd v H5 g5 r5 hd5 => ?_
      · obtain ⟨x, hx, hm⟩ := atI_of (xs := ([1, 2, 10006] : List Int)) b.1 b.2
        refine ⟨x, hx, ?_⟩
        simp at hm
        omega
      · obtain ⟨x, hx, hm⟩ := atI_of (xs := ([0, 1, 10006] : List Int)) b.1 b.2
        refine ⟨x, hx, ?_⟩
        simp at hm
        omega
      have c5 := c4.go g5
      have o5 := (o'.gd c' g4).gd c4 g5
      refine q_ifset (α := Int × Int) (p := HandOk) (q := fun b => b = true → ys ≠ []) c5 (et_and (p := fun _ => True) (q := fun b => b = true → ys ≠ []) (et_e (ev_eqI (p := fun _ => True) (q := fun _ => True) (Ev.any ev_vi) (Ev.any ev_c) fun _ _ _ _ => trivial)) (fun _ => et_and (p := fun b => b = true → ys ≠ []) (q := fun _ => True)
        (et_e ((ev_neDV (ev_v rfl o5.rp) el_nil.ev (ok_hands _) (ok_hands _)).imp fun b e z => by rw [z] at e; simpa using e.symm)) (fun _ => et_e (ev_eqI (p := fun _ => True) (q := fun _ => True) (Ev.any (ev_nextC rfl (by decide))) (Ev.any ev_c) fun _ _ _ _ => trivial)) (fun _ z => by cases z) (fun b e _ _ => e rfl)) (fun _ z => by cases z) (fun b _ e => e))
        (fun e => ?_) (fun _ => ⟨hd, v, rfl, r5, hd5⟩) fun hd v H6 g6 r6 hd6 => ?_
      · have hne := e rfl
        have hpos : 0 < ys.length := List.length_pos_iff.mpr hne
        refine ev_ixL (xs := ys) (ev_v rfl o5.rp) ev_c fun i e => ?_
        subst e
        obtain ⟨x, hx, hm⟩ := atI_of (xs := ys) (i := 0) (by omega) (by omega)
        exact ⟨x, hx, hy x hm⟩
      have c6 := c5.go g6
      have o6 := o5.gd c5 g6
      refine s_app (α := Int × Int) (p := HandOk) c6 o6 rfl ((ev_v rfl r6).to hd6) (by omega) fun x H7 H8 g7 hx o8 e8 => ?_
      obtain ⟨vs, rfl⟩ := e8
      refine ⟨ys ++ [x], _, _, rfl, ?_, o8, by simp [hl], ?_⟩
      · exact mut_gd ((((g'.trans g4).trans g5).trans g6).trans g7) c na
      · intro h hh
        rcases List.mem_append.mp hh with z | z
        · exact hy h z
        · rw [List.mem_singleton.mp z]; exact hx
    · rintro s2 H' ⟨ys, x, y, rfl, g', o', hl, hy⟩
      refine ⟨_, rfl, k ys a H' na g' o' ⟨by omega, by show (ys.length : Int) ≤ most; omega, hy⟩⟩
theorem ok__law_keys (T : Txt K mg) : FnOk P w K mg base CX0 2 T.f__law_keys T.d__law_keys ["_law_h", "_law_many"] spKeys := by
  refine T.F__law_keys.ok sc__law_keys (fun vs H Q E h => ?_) (fun cdv A outer s H vs Q E hr h => ?_)
  · obtain ⟨p, q, m, x, ws, rfl, _, ⟨v, r, rfl, rk, rfl⟩, _⟩ := h
    rfl
  · obtain ⟨p, q, m, ⟨many, u⟩, ws, rfl, c, ⟨v, r, rfl, rk, rfl⟩, ⟨h0, h1⟩, k⟩ := h
    cases (show v = V.int many from rk)
    replace h0 : 0 ≤ many := h0
    replace h1 : many ≤ 1000 := h1
    refine ⟨_, (pss_cons (ps_setLc (i := 2) (own := [("_law_k", 3)]) (g := gName 3) (tt := tYes) rfl sc__law_keys.nd rfl rfl (sw_true rfl rfl rfl (by decide +kernel)) (pi_range1 rfl T.n_range (pa_cons pe_int pa_nil)) (blkOk_by (own := [("_law_k", 3)]) (N := N__law_keys) (sc := defScope s__law_keys) (by decide +kernel)) (fun _ _ _ _ _ => (pg_name (i := 3) sc__law_keys.nd rfl (Or.inl rfl) (.inr rfl))) (fun _ _ _ _ _ => pts_nil) (fun _ _ _ _ _ => (pe_call (ok__law_next T) (hr.mono (by decide)) rfl T.m__law_next T.k__law_next T.b__law_next .nil pass0 (pa_cons (pv 0) (pa_cons pe_int pa_nil)))))
  (pss_cons (ps_set (i := 4) sc__law_keys.nd rfl (Or.inl rfl) (pe_call (ok__law_next T) (hr.mono (by decide)) rfl T.m__law_next T.k__law_next T.b__law_next .nil pass0 (pa_cons (pv 0) (pa_cons pe_int pa_nil))))
  (pss_cons (ps_set (i := 5) sc__law_keys.nd rfl (Or.inl rfl) (pe_lst pa_nil))
  (pss_cons (ps_for PassesOwn.never rfl (pi_range1 rfl T.n_range (pa_cons (pv 1) pa_nil)) (pg_name (i := 3) sc__law_keys.nd rfl (Or.inl rfl))
  (pss_one (ps_expr (pe_bm PySem.F.plainAttrs_list PySem.F.slot_list_append PySem.F.type_list_append mt_append (pv 5) (pa_cons (pe_ix ix_list (pe_lst (pa_cons (pe_ix ix_list (pv 2) (pe_call (ok__law_next T) (hr.mono (by decide)) rfl T.m__law_next T.k__law_next T.b__law_next .nil pass0 (pa_cons (pv 0) (pa_cons pe_int pa_nil))) (fun _ _ => rfl)) (pa_cons (pe_call (ok__law_next T) (hr.mono (by decide)) rfl T.m__law_next T.k__law_next T.b__law_next .nil pass0 (pa_cons (pv 0) (pa_cons pe_int pa_nil))) (pa_cons (pe_call (ok__law_next T) (hr.mono (by decide)) rfl T.m__law_next T.k__law_next T.b__law_next .nil pass0 (pa_cons (pv 0) (pa_cons pe_int pa_nil))) pa_nil)))) (pv 4) (fun _ _ => rfl)) pa_nil)))))
  (pss_one (ps_ret (pv 5))))))), ?_⟩
    refine q_setL (p := KeysOk 4) c (el_lcR1 (β := Int) (q := fun n => n = 4) (fun n j acc => acc.length = j ∧ ∀ y, y ∈ acc → KeyOk y) ev_c (fun n e => by subst e; decide) (fun n e => ⟨rfl, by simp⟩) (fun n j H1 acc e hj g c1 hI => ⟨fun b => b = true, KeyOk, lcT_name rfl tYes_ok fun _ => (ev_nextC rfl (by decide)), fun y _ hy => ⟨by simp [hI.1], fun z hz => ?_⟩, fun z => by cases z⟩) fun n acc e hI => ⟨by rw [hI.1, e]; rfl, hI.2⟩) fun few af H1 nf g1 of hfew => ?_
    · rcases List.mem_append.mp hz with z1 | z1
      · exact hI.2 z z1
      · rw [List.mem_singleton.mp z1]; exact hy
    have c1 := c.go g1
    refine q_setI c1 (ev_nextC rfl (by decide)) fun way H2 g2 hway => ?_
    have c2 := c1.go g2
    have of2 := of.gd c1 g2
    refine q_setLV (α := Int) c2 el_nil fun a H3 na g3 o3 => ?_
    have c3 := c2.go g3
    have of3 := of2.gd c2 g3
    have na0 : H a = none := g1.gr.dom a (g2.gr.dom a na)
    refine q_forR1 c3 ev_vi fun n H4 g4 hn => ⟨by subst hn; omega, ?_⟩
    subst hn
    have g04 : Gd (some (p, q)) H H4 := ((g1.trans g2).trans g3).trans g4
    have c4 := c3.go g4
    have of4 := of3.gd c3 g4
    have hlf : (few.length : Int) = 4 := hfew.1
    refine ⟨fun j s2 H' => ∃ (ys : List Int) (x : Option V), s2 = [some (.ref p), some (.int n), some (.ref af), x, some (.int way), some (.ref a)] ∧ Gd (some (p, q)) H H' ∧ Own m H' af few ∧ Own m H' a ys ∧ ys.length = j ∧ ∀ h, h ∈ ys → KeyOk h,
      ⟨[], none, rfl, g04, of4, o3.gd c3 g4, rfl, by simp⟩, ?_, ?_⟩
    · rintro j s2 H' hj ⟨ys, x, rfl, g', off, o', hl, hy⟩
      have c' := c.go g'
      refine g_name ?_
      refine s_app (α := Int) (p := KeyOk) c' o' rfl (ev_ixL' (el_lst (p := fun xs : List Int => xs.length = 3 ∧ ∀ y, y ∈ xs → KeyOk y) (ei_cons (p := KeyOk) (q := fun xs : List Int => xs.length = 2 ∧ ∀ y, y ∈ xs → KeyOk y) (ev_ixL (xs := few) (ev_v rfl off.rp) (ev_nextC rfl (by decide)) fun i b => ?_)
        (ei_cons (p := KeyOk) (q := fun xs : List Int => xs.length = 1 ∧ ∀ y, y ∈ xs → KeyOk y) ((ev_nextC rfl (by decide)).imp fun i b => ⟨b.1, by omega⟩) (ei_cons (p := KeyOk) (q := fun xs : List Int => xs = []) (ev_nextC rfl (by decide)) ei_nil fun x xs hx e => by subst e; simp [hx]) fun x xs hx e => ⟨by simp [e.1], by simpa [hx] using e.2⟩)
        fun x xs hx e => ⟨by simp [e.1], by simpa [hx] using e.2⟩) fun xs e => by omega).ev ev_vi fun xs i hxs e => ?_) (by omega) fun x H7 H8 g7 hx o8 e8 => ?_
      · obtain ⟨x, hx, hm⟩ := atI_of (xs := few) b.1 (by omega)
        exact ⟨x, hx, hfew.2 x hm⟩
      · obtain ⟨x, hx, hm⟩ := atI_of (xs := xs) (i := way) hway.1 (by omega)
        exact ⟨x, by rw [e]; exact hx, hxs.2 x hm⟩
      · obtain ⟨vs, rfl⟩ := e8
        have off7 := off.gd c' g7
        have nfa : af ≠ a := fun e => by
          obtain ⟨vf, hvf, _⟩ := of2.ex
          rw [e, na] at hvf
          cases hvf
        obtain ⟨va, ha7, _⟩ := (o'.gd c' g7).ex
        refine ⟨ys ++ [x], _, rfl, mut_gd (g'.trans g7) c na0, off7.upd_ne nfa ha7 (fun _ z => by cases z), o8, by simp [hl], ?_⟩
        · intro h hh
          rcases List.mem_append.mp hh with z | z
          · exact hy h z
          · rw [List.mem_singleton.mp z]; exact hx
    · rintro s2 H' ⟨ys, x, rfl, g', off, o', hl, hy⟩
      refine ⟨_, rfl, k ys a H' na0 g' o' ⟨by show (ys.length : Int) = n; omega, hy⟩⟩
theorem ok__law_cells (T : Txt K mg) : FnOk P w K mg base CX0 1 T.f__law_cells T.d__law_cells ["_law_hands_here", "_law_size", "_law_key"]
    (SpL (fun x : List (Int × Int) × Int × Int × Unit => x.1.length ≤ 90000 ∧ 0 < x.2.1 ∧ -(2 ^ 64) < x.2.2.1 ∧ x.2.2.1 < 2 ^ 64) fun x => pointed x.1 x.2.1 x.2.2.1) := by
  refine T.F__law_cells.ok sc__law_cells (fun vs H Q E h => ?_) (fun cdv A outer s H vs Q E hr h => ?_)
  · obtain ⟨m, x, c, ⟨v, r, rfl, rk, ⟨v2, r2, rfl, rk2, ⟨v3, r3, rfl, rk3, rfl⟩⟩⟩, _⟩ := h
    rfl
  · obtain ⟨m, ⟨hands, size, key, u⟩, c, ⟨v, r, rfl, rk, ⟨v2, r2, rfl, rk2, ⟨v3, r3, rfl, rk3, rfl⟩⟩⟩, ⟨hl, h1, h2⟩, k⟩ := h
    cases (show v2 = V.int size from rk2)
    cases (show v3 = V.int key from rk3)
    refine ⟨_, (pss_one (ps_ret (pe_lc (own := [("_law_hand", 3)]) (g := gName 3) (tt := tYes) (by rfl) sc__law_cells.nd (pi_list (pv 0)) (blkOk_by (own := [("_law_hand", 3)]) (N := N__law_cells) (sc := defScope s__law_cells) (by decide +kernel)) (fun _ _ _ _ _ => (pg_name (i := 3) sc__law_cells.nd rfl (Or.inl rfl) (.inr rfl))) (fun _ _ _ _ _ => pts_nil) (fun _ _ _ _ _ => (pe_op op_mod (pe_op op_mod (pe_op op_add (pe_op op_mul (pv 2) (pe_ix (show IxR _ (rIxT K) from ix_tup) (pv 3) pe_int (fun _ _ => rfl))) (pe_ix (show IxR _ (rIxT K) from ix_tup) (pv 3) pe_int (fun _ _ => rfl))) pe_int) (pv 1)))))), ?_⟩
    refine s_retLV c (el_map (fun h : Int × Int => (key * h.1 + h.2) % 10007 % size) (ev_v rfl rk) hl fun x v H1 _ g c1 r => lcT_name rfl tYes_ok fun _ => ?_) fun a H1 n g o => k a H1 n g.gr0 o
    exact ev_oC (ev_oC (ev_o (ev_oC ev_vi (ev_ix0 (ev_v rfl r)) (.inl h2)) (ev_ix1 (ev_v rfl r))) ev_c (by decide)) ev_vi h1
theorem ok__law_are (T : Txt K mg) : FnOk P w K mg base CX0 1 T.f__law_are T.d__law_are ["_law_found", "_law_due"]
    (SpF (fun x : List Int × List Int × Unit => x.2.1.length ≤ 90000) fun x => decide (x.1 = x.2.1)) := by
  refine T.F__law_are.ok sc__law_are (fun vs H Q E h => ?_) (fun cdv A outer s H vs Q E hr h => ?_)
  · obtain ⟨m, x, c, ⟨v, r, rfl, rk, ⟨v2, r2, rfl, rk2, rfl⟩⟩, _⟩ := h
    rfl
  · obtain ⟨m, ⟨found, due, u⟩, c, ⟨v, r, rfl, rk, ⟨v2, r2, rfl, rk2, rfl⟩⟩, hl, k⟩ := h
    dsimp only at rk rk2 hl k
    refine ⟨_, (pss_cons (ps_if (PW.pt (pw_or (pt_not (pt_val (pe_callB call_isi (by rfl) T.n_isinstance (by decide +kernel) (pa_cons (pv 0) (pa_cons (pe_bltn (v := .ty "list") rfl T.n_list (by decide +kernel) rfl) pa_nil))))) (pw_or1 (pt_cmpR op_ne (pe_callB call_len_seq (by rfl) T.n_len (by decide +kernel) (pa_cons (pv 0) pa_nil)) (pe_callB call_len_seq (by rfl) T.n_len (by decide +kernel) (pa_cons (pv 1) pa_nil)) (nomark _)))))
  (pss_one (ps_ret pe_bl))
  pss_nil)
  (pss_cons (ps_for PassesOwn.never rfl (pi_range1 rfl T.n_range (pa_cons (pe_callB call_len_seq (by rfl) T.n_len (by decide +kernel) (pa_cons (pv 1) pa_nil)) pa_nil)) (pg_name (i := 2) sc__law_are.nd rfl (Or.inl rfl))
  (pss_one (ps_if (PW.pt (pw_or (pt_val (pe_callB call_isi (by rfl) T.n_isinstance (by decide +kernel) (pa_cons (pe_ix ix_list (pv 0) (pv 2) (fun _ _ => rfl)) (pa_cons (pe_bltn (v := .ty "bool") rfl T.n_bool (by decide +kernel) rfl) pa_nil)))) (pw_or (pt_not (pt_val (pe_callB call_isi (by rfl) T.n_isinstance (by decide +kernel) (pa_cons (pe_ix ix_list (pv 0) (pv 2) (fun _ _ => rfl)) (pa_cons (pe_bltn (v := .ty "int") rfl T.n_int (by decide +kernel) rfl) pa_nil))))) (pw_or1 (pt_cmpR op_ne (pe_ix ix_list (pv 0) (pv 2) (fun _ _ => rfl)) (pe_ix ix_list (pv 1) (pv 2) (fun _ _ => rfl)) (nomark _))))))
  (pss_one (ps_ret pe_bl))
  pss_nil)))
  (pss_one (ps_ret pe_bl)))), ?_⟩
    refine q_whenV c (et_orV (et_notV (et_B (ev_isL (b := true) (ev_v rfl rk)))) fun _ => et_e (ev_neV (ev_len (ev_v rfl rk)) (ev_len (ev_v rfl rk2)))) (fun e H1 g => ?_) (fun e H1 g => ?_)
    · refine s_retV (c.go g) ev_b fun v H2 g2 rb => k v H2 (g.trans g2).gr0 ?_
      have : found ≠ due := fun z => by simp [z] at e
      show Rp.rp m H2 (decide (found = due)) v
      rw [decide_eq_false this]; exact rb
    · have hlen : found.length = due.length := by
        simp at e
        omega
      have c1 := c.go g
      refine q_forR1 c1 (ev_len (ev_v rfl (rp_gd rk2 c g))) fun n H2 g2 hn => ⟨by subst hn; omega, ?_⟩
      subst hn
      refine ⟨fun j s2 H' => ∃ x : Option V, s2 = [some v, some v2, x] ∧ Gd none H H' ∧ found.take j = due.take j, ⟨none, rfl, g.trans g2, rfl⟩, ?_, ?_⟩
      · rintro j s2 H' hj ⟨x, rfl, g', he⟩
        have hj1 : j < found.length := by omega
        have hj2 : j < due.length := by omega
        have c' := c.go g'
        have r1 := rp_gd rk c g'
        have r2 := rp_gd rk2 c g'
        refine g_name ?_
        have i1 : EvV none m (tOp (rIxL K) (tVar 0) (tVar 2)) [some v, some v2, some (V.int (j : Int))] H' found[j] := ev_ixLV (ev_v rfl r1) ev_vi (atI_nat (List.getElem?_eq_getElem hj1))
        have i2 : EvV none m (tOp (rIxL K) (tVar 1) (tVar 2)) [some v, some v2, some (V.int (j : Int))] H' due[j] := ev_ixLV (ev_v rfl r2) ev_vi (atI_nat (List.getElem?_eq_getElem hj2))
        refine s_whenV c' (et_orV (et_B (ev_isI (b := false) i1)) fun _ => et_orV (et_notV (et_B (ev_isI (b := true) i1))) fun _ => et_e (ev_neV i1 i2)) (fun e H3 g3 => ?_) (fun e H3 g3 => ?_)
        · refine s_retV (c'.go g3) ev_b fun v H4 g4 rb => k v H4 ((g'.trans g3).trans g4).gr0 ?_
          have : found ≠ due := fun z => by simp [z] at e
          show Rp.rp m H4 (decide (found = due)) v
          rw [decide_eq_false this]; exact rb
        · refine ⟨_, rfl, g'.trans g3, ?_⟩
          have e' : found[j] = due[j] := by simpa using e
          rw [List.take_add_one, List.take_add_one, he, List.getElem?_eq_getElem hj1, List.getElem?_eq_getElem hj2, e']
      · rintro s2 H' ⟨x, rfl, g', he⟩
        refine s_retV (c.go g') ev_b fun v H4 g4 rb => k v H4 (g'.trans g4).gr0 ?_
        have hz : ((due.length : Int)).toNat = due.length := by omega
        rw [hz, List.take_length, ← hlen, List.take_length] at he
        show Rp.rp m H4 (decide (found = due)) v
        rw [decide_eq_true he]; exact rb

theorem ok_BadSieve_init (T : Txt K mg) : FnOk P w K mg base CX0 1 T.f_BadSieve_init T.d_BadSieve_init ["self", "why"] (spErrI T.c_BadSieve "why") := by
  refine T.F_BadSieve_init.ok sc_BadSieve_init (fun vs H Q E h => ?_) (fun cdv A outer s H vs Q E hr h => ?_)
  · obtain ⟨a, v, rfl, _⟩ := h
    rfl
  · obtain ⟨a, v, rfl, ha, k⟩ := h
    refine ⟨_, (pss_one (ps_ost (pv 0) (pv 1))), ?_⟩
    exact ⟨_, rfl, _, rfl, a, T.c_BadSieve, rfl, T.ox_BadSieve, T.xn_BadSieve_why, .inl ⟨ha, fun dx hd ne => k dx hd ne⟩⟩
theorem ok_Stuck_init (T : Txt K mg) : FnOk P w K mg base CX0 1 T.f_Stuck_init T.d_Stuck_init ["self", "cells"] (spErrI T.c_Stuck "cells") := by
  refine T.F_Stuck_init.ok sc_Stuck_init (fun vs H Q E h => ?_) (fun cdv A outer s H vs Q E hr h => ?_)
  · obtain ⟨a, v, rfl, _⟩ := h
    rfl
  · obtain ⟨a, v, rfl, ha, k⟩ := h
    refine ⟨_, (pss_one (ps_ost (pv 0) (pv 1))), ?_⟩
    exact ⟨_, rfl, _, rfl, a, T.c_Stuck, rfl, T.ox_Stuck, T.xn_Stuck_cells, .inl ⟨ha, fun dx hd ne => k dx hd ne⟩⟩
theorem ok_need (T : Txt K mg) : FnOk P w K mg base (L2.CX P w) 3 T.f_need T.d_need ["good", "why"] (SpX T.er (fun _ => True) fun x : Bool × Str × Unit => if x.1 = true then .ok () else .error (.badSieve x.2.1)) := by
  refine T.F_need.okX sc_need (fun vs H Q E h => ?_) (fun cdv A outer s H vs Q E hr h => ?_)
  · obtain ⟨m, x, c, ⟨v, r, rfl, rk, ⟨v2, r2, rfl, rk2, rfl⟩⟩, _⟩ := h
    rfl
  · obtain ⟨m, ⟨good, why, u⟩, c, ⟨v, r, rfl, rk, ⟨v2, r2, rfl, rk2, rfl⟩⟩, -, k1, k2⟩ := h
    cases (show v = V.bl good from rk)
    cases (show v2 = V.str why from rk2)
    refine ⟨_, (pss_one (ps_if (pt_not (pt_val (pv 0)))
  (pss_one (ps_raise rfl (takes_of rfl rfl rfl rfl) (pmk_oex T.ox_BadSieve T.me_BadSieve_init.at_ T.tf_BadSieve_init (ok_BadSieve_init T) (hr.mono (by decide)) T.b_BadSieve_init .nil pass0 rfl T.m_BadSieve (pa_cons (pv 1) pa_nil))))
  pss_nil)), ?_⟩
    refine s_whenV c (et_notV (et_B ev_vb)) (fun e H1 g => ?_) (fun e H1 g => ?_)
    · refine mk_err (α := Str) (p := fun y => y = why) (c.go g) ev_vs fun y v H2 g2 r e2 d hd => ?_
      subst e2
      cases rp_str r
      refine k2 (.badSieve y) ?_ _ _ _ ((g.trans g2).gr0.trans (.new hd)) ⟨rfl, d, rfl, upd_same⟩
      dsimp only
      rw [if_neg]
      intro z
      rw [z] at e
      cases e
    · refine k1 () ?_ _ H1 g.gr0 rfl
      dsimp only
      rw [if_pos]
      simpa using e
theorem ok_need_size (T : Txt K mg) : FnOk P w K mg base (L2.CX P w) 4 T.f_need_size T.d_need_size ["size"] (SpX T.er (fun _ => True) fun x : Int × Unit => chkSize x.1) := by
  refine T.F_need_size.okX sc_need_size (fun vs H Q E h => ?_) (fun cdv A outer s H vs Q E hr h => ?_)
  · obtain ⟨m, x, c, ⟨v, r, rfl, rk, rfl⟩, _⟩ := h
    rfl
  · obtain ⟨m, ⟨size, u⟩, c, ⟨v, r, rfl, rk, rfl⟩, -, k1, k2⟩ := h
    cases (show v = V.int size from rk)
    refine ⟨_, (pss_one (ps_expr (pe_call (ok_need T) (hr.mono (by decide)) rfl T.m_need T.k_need T.b_need .nil (passX rfl rfl rfl rfl) (pa_cons (pe_chain op_le op_le pe_int (pv 0) (pe_glob (v := .int 96) rfl T.g_MOST_SIZE ⟨_, rfl⟩)) (pa_cons pe_str pa_nil))))), ?_⟩
    have e : (if (decide ((1 : Int) ≤ size) && decide (size ≤ 96)) = true then .ok () else .error (.badSieve "size") : Except Err Unit) = chkSize size := by
      unfold chkSize
      simp only [Bool.and_eq_true, decide_eq_true_eq]
    exact s_dropX c (ex_call (ea_c (ev_chain ev_c ev_vi ev_c) (ea_c ev_s ea_nil)) trivial) (fun y hy H1 g => k1 () (e.symm.trans hy) _ H1 g.gr0 rfl) (fun e' he cl d H1 g z => k2 e' (e.symm.trans he) cl d H1 g.gr0 z)
theorem ok_need_cap (T : Txt K mg) : FnOk P w K mg base (L2.CX P w) 4 T.f_need_cap T.d_need_cap ["cap"] (SpX T.er (fun _ => True) fun x : Int × Unit => chkCap x.1) := by
  refine T.F_need_cap.okX sc_need_cap (fun vs H Q E h => ?_) (fun cdv A outer s H vs Q E hr h => ?_)
  · obtain ⟨m, x, c, ⟨v, r, rfl, rk, rfl⟩, _⟩ := h
    rfl
  · obtain ⟨m, ⟨cap, u⟩, c, ⟨v, r, rfl, rk, rfl⟩, -, k1, k2⟩ := h
    cases (show v = V.int cap from rk)
    refine ⟨_, (pss_one (ps_expr (pe_call (ok_need T) (hr.mono (by decide)) rfl T.m_need T.k_need T.b_need .nil (passX rfl rfl rfl rfl) (pa_cons (pe_chain op_le op_le pe_int (pv 0) (pe_glob (v := .int 9) rfl T.g_MOST_CAP ⟨_, rfl⟩)) (pa_cons pe_str pa_nil))))), ?_⟩
    have e : (if (decide ((1 : Int) ≤ cap) && decide (cap ≤ 9)) = true then .ok () else .error (.badSieve "cap") : Except Err Unit) = chkCap cap := by
      unfold chkCap
      simp only [Bool.and_eq_true, decide_eq_true_eq]
    exact s_dropX c (ex_call (ea_c (ev_chain ev_c ev_vi ev_c) (ea_c ev_s ea_nil)) trivial) (fun y hy H1 g => k1 () (e.symm.trans hy) _ H1 g.gr0 rfl) (fun e' he cl d H1 g z => k2 e' (e.symm.trans he) cl d H1 g.gr0 z)
theorem ok_need_hands (T : Txt K mg) : FnOk P w K mg base (L2.CX P w) 4 T.f_need_hands T.d_need_hands ["hands"] (SpX T.er (fun x => x.1.length ≤ 90000) fun x : List (Int × Int) × Unit => chkHands x.1) := by
  refine T.F_need_hands.okX sc_need_hands (fun vs H Q E h => ?_) (fun cdv A outer s H vs Q E hr h => ?_)
  · obtain ⟨m, x, c, ⟨v, r, rfl, rk, rfl⟩, _⟩ := h
    rfl
  · obtain ⟨m, ⟨hands, u⟩, c, ⟨v, r, rfl, rk, rfl⟩, hl, k1, k2⟩ := h
    dsimp only at rk hl k1 k2
    refine ⟨_, (pss_cons (ps_expr (pe_call (ok_need T) (hr.mono (by decide)) rfl T.m_need T.k_need T.b_need .nil (passX rfl rfl rfl rfl) (pa_cons (pe_chain op_le op_le pe_int (pe_callB call_len_seq (by rfl) T.n_len (by decide +kernel) (pa_cons (pv 0) pa_nil)) (pe_glob (v := .int 6) rfl T.g_MOST_HANDS ⟨_, rfl⟩)) (pa_cons pe_str pa_nil))))
  (pss_one (ps_for (passes_of rfl) rfl (pi_list (pv 0)) (pg_tup rfl (pgs_cons (pg_name (i := 1) sc_need_hands.nd rfl (Or.inl rfl)) (pgs_cons (pg_name (i := 2) sc_need_hands.nd rfl (Or.inl rfl)) pgs_nil)))
  (pss_one (ps_expr (pe_call (ok_need T) (hr.mono (by decide)) rfl T.m_need T.k_need T.b_need .nil (passX rfl rfl rfl rfl) (pa_cons (pe_and (pe_chain op_le op_lt pe_int (pv 1) (pe_glob (v := .int 10007) rfl T.g_RING ⟨_, rfl⟩)) (pe_one (pe_chain op_le op_lt pe_int (pv 2) (pe_glob (v := .int 10007) rfl T.g_RING ⟨_, rfl⟩)))) (pa_cons pe_str pa_nil)))))))), ?_⟩
    have bad : handsB hands = false → chkHands hands = .error (.badSieve "hands") := fun e => by unfold chkHands; rw [e]; rfl
    refine q_dropX c (ex_call (ea_c (ev_chain ev_c (ev_len (ev_v rfl rk)) ev_c) (ea_c ev_s ea_nil)) trivial) (fun y hy H1 g => ?_) (fun e' he cl d H1 g z => ?_)
    · dsimp only at hy
      have c1 := c.go g
      have hn : 1 ≤ hands.length ∧ hands.length ≤ 6 := by
        split at hy
        · rename_i h
          simp at h
          omega
        · cases hy
      refine s_forL c1 (ev_v rfl (rp_gd rk c g)) fun a vs H2 g2 na ha ps => ⟨fun j s2 H' => ∃ x y : Option V, s2 = [some v, x, y] ∧ Gd none H2 H' ∧ ∀ h, h ∈ hands.take j → (decide (1 ≤ h.1 ∧ h.1 < 10007) && decide (0 ≤ h.2 ∧ h.2 < 10007)) = true,
        ⟨none, none, rfl, .refl, by simp⟩, fun j s2 H' ⟨_, _, _, g', _⟩ => g'.gr0.at0 ha, ?_, ?_⟩
      · rintro j h w s2 H' hj rh ⟨x, y, rfl, g', hI⟩
        have c' := (c1.go g2).go g'
        refine g_pair (x := h) (m := m) (H := H') (rp_nl rh g'.gr.tup) fun u w ru rw => ?_
        cases rp_int ru
        cases rp_int rw
        refine s_dropX c' (ex_call (ea_c (ev_andV (ev_chain ev_c ev_vi ev_c) fun _ => ev_chain ev_c ev_vi ev_c) (ea_c ev_s ea_nil)) trivial) (fun y hy H3 g3 => ?_) (fun e' he cl d H3 g3 z => ?_)
        · refine ⟨_, _, rfl, g'.trans g3, fun h' hh => ?_⟩
          rw [take_snoc hj] at hh
          rcases List.mem_append.mp hh with q | q
          · exact hI h' q
          · rw [List.mem_singleton.mp q]
            dsimp only at hy
            split at hy
            · rename_i hh2
              simpa using hh2
            · cases hy
        · refine k2 e' ?_ cl d H3 (((g.trans g2).trans g').trans g3).gr0 (z.from ((g.trans g2).trans g').gr)
          dsimp only at he
          split at he
          · cases he
          · rename_i hh2
            cases he
            refine bad ?_
            unfold handsB
            rw [Bool.and_eq_false_iff]
            right
            rw [List.all_eq_false]
            exact ⟨h, List.mem_of_getElem? hj, by simpa using hh2⟩
      · rintro s2 H' ⟨x, y, rfl, g', hI⟩
        refine k1 () ?_ _ H' ((g.trans g2).trans g').gr0 rfl
        rw [List.take_length] at hI
        unfold chkHands
        rw [if_pos]
        unfold handsB
        rw [decide_eq_true hn, Bool.true_and, List.all_eq_true]
        exact hI
    · refine k2 e' ?_ cl d H1 g.gr0 z
      dsimp only at he
      split at he
      · cases he
      · rename_i h
        cases he
        refine bad ?_
        unfold handsB
        have hn : ¬ (1 ≤ hands.length ∧ hands.length ≤ 6) := fun q => h (by simp; omega)
        rw [decide_eq_false hn, Bool.false_and]
theorem ok_hands_by_cell (T : Txt K mg) : FnOk P w K mg base CX0 2 T.f_hands_by_cell T.d_hands_by_cell ["hands", "size", "key"]
    (SpDc (fun x : List (Int × Int) × Int × Int × Unit => x.1.length ≤ 90000 ∧ 0 < x.2.1 ∧ -(2 ^ 64) < x.2.2.1 ∧ x.2.2.1 < 2 ^ 64) fun x => tally (pointed x.1 x.2.1 x.2.2.1)) := by
  refine T.F_hands_by_cell.ok sc_hands_by_cell (fun vs H Q E h => ?_) (fun cdv A outer s H vs Q E hr h => ?_)
  · obtain ⟨m, x, c, ⟨v, r, rfl, rk, ⟨v2, r2, rfl, rk2, ⟨v3, r3, rfl, rk3, rfl⟩⟩⟩, _⟩ := h
    rfl
  · obtain ⟨m, ⟨hands, size, key, u⟩, c, ⟨v, r, rfl, rk, ⟨v2, r2, rfl, rk2, ⟨v3, r3, rfl, rk3, rfl⟩⟩⟩, ⟨hl, h1, h2⟩, k⟩ := h
    cases (show v2 = V.int size from rk2)
    cases (show v3 = V.int key from rk3)
    dsimp only at rk hl h1 h2 k
    refine ⟨_, (pss_cons (ps_set (i := 3) sc_hands_by_cell.nd rfl (Or.inl rfl) pe_dnewK)
  (pss_cons (ps_for PassesOwn.never rfl (pi_list (pe_call (ok_pointed T) (hr.mono (by decide)) rfl T.m_pointed T.k_pointed T.b_pointed .nil pass0 (pa_cons (pv 0) (pa_cons (pv 1) (pa_cons (pv 2) pa_nil))))) (pg_name (i := 4) sc_hands_by_cell.nd rfl (Or.inl rfl))
  (pss_one (ps_dput (hu_of hr) (pv 3) (pv 4) (pe_op op_add (pe_dget2 (hu_of hr) (pv 3) (pv 4) pe_int ⟨rfl, rfl, rfl, rfl⟩) pe_int) rfl)))
  (pss_one (ps_ret (pv 3))))), ?_⟩
    refine q_dnew c fun d H1 nd g1 d1 => ?_
    have c1 := c.go g1
    refine q_forLL c1 (el_callV (x := (hands, size, key, ())) (ea_c (ev_v rfl (rp_gd rk c g1)) (ea_c ev_vi (ea_c ev_vi ea_nil))) ⟨hl, h1, h2⟩) fun a vs H2 n2 g2 na ha ps => ⟨fun j s2 H' => ∃ x : Option V, s2 = [some v, some (.int size), some (.int key), some (.ref d), x] ∧ Gd none H H' ∧ H' a = some (.lst vs) ∧ DAt m H' d (tally ((pointed hands size key).take j)),
      ⟨none, rfl, g1.trans g2, ha, d1.gd c1 g2⟩, fun j s2 H' ⟨_, _, _, h, _⟩ => h, ?_, ?_⟩
    · rintro j y w s2 H' hj rh ⟨x, rfl, g', ha', d'⟩
      cases rp_int rh
      have c' := c.go g'
      refine g_name ?_
      refine s_dput c' rfl d'.at_ (by simp [Dst.m]) (ev_o (ev_dget2 rfl d'.at_ (by simp [Dst.m]) ev_vi ev_c) ev_c) ev_vi (Nat.lt_of_le_of_lt (tally_len _) ?_) fun H3 g3 => ?_
      · rw [List.length_take]
        have : (pointed hands size key).length = hands.length := by unfold pointed; simp
        omega
      · have nad : a ≠ d := ne_of_none d1.at_ n2 |>.symm
        refine ⟨_, rfl, mut_gd (g'.trans g3) c nd, ?_, d'.nm, ?_⟩
        · rw [upd_ne nad]; exact g3.gr0.at0 ha'
        · rw [upd_same, take_snoc hj, tally_snoc]
    · rintro s2 H' ⟨x, rfl, g', ha', d'⟩
      rw [List.take_length] at d'
      exact ⟨_, rfl, k d H' nd g'.gr0 d'⟩
theorem ok_Sieve_size (T : Txt K mg) : FnOk P w K mg base CX0 1 T.f_Sieve_size T.d_Sieve_size ["self"] (SpF (fun _ => True) fun x : Sv T.c_Sieve × Unit => x.1.size) := by
  refine T.F_Sieve_size.ok sc_Sieve_size (fun vs H Q E h => ?_) (fun cdv A outer s H vs Q E hr h => ?_)
  · obtain ⟨m, x, c, ⟨v, r, rfl, rk, rfl⟩, _⟩ := h
    rfl
  · obtain ⟨m, ⟨x, u⟩, c, ⟨v, r, rfl, rk, rfl⟩, -, k⟩ := h
    refine ⟨_, (pss_one (ps_ret (pe_fld (pv 0) rfl))), ?_⟩
    exact s_retV c (ev_many (ev_v rfl rk) T.cl_Sieve T.na_Sieve_many) fun v H1 g r => k v H1 g.gr0 r
theorem ok_Sieve_cap (T : Txt K mg) : FnOk P w K mg base CX0 1 T.f_Sieve_cap T.d_Sieve_cap ["self"] (SpF (fun _ => True) fun x : Sv T.c_Sieve × Unit => x.1.cap) := by
  refine T.F_Sieve_cap.ok sc_Sieve_cap (fun vs H Q E h => ?_) (fun cdv A outer s H vs Q E hr h => ?_)
  · obtain ⟨m, x, c, ⟨v, r, rfl, rk, rfl⟩, _⟩ := h
    rfl
  · obtain ⟨m, ⟨x, u⟩, c, ⟨v, r, rfl, rk, rfl⟩, -, k⟩ := h
    refine ⟨_, (pss_one (ps_ret (pe_fld (pv 0) rfl))), ?_⟩
    exact s_retV c (ev_most (ev_v rfl rk) T.cl_Sieve T.na_Sieve_most) fun v H1 g r => k v H1 g.gr0 r
theorem ok_Sieve_hands (T : Txt K mg) : FnOk P w K mg base CX0 1 T.f_Sieve_hands T.d_Sieve_hands ["self"] (SpL (fun _ => True) fun x : Sv T.c_Sieve × Unit => x.1.hands) := by
  refine T.F_Sieve_hands.ok sc_Sieve_hands (fun vs H Q E h => ?_) (fun cdv A outer s H vs Q E hr h => ?_)
  · obtain ⟨m, x, c, ⟨v, r, rfl, rk, rfl⟩, _⟩ := h
    rfl
  · obtain ⟨m, ⟨x, u⟩, c, ⟨v, r, rfl, rk, rfl⟩, -, k⟩ := h
    refine ⟨_, (pss_one (ps_ret (pe_callTy call_list_of (by rfl) T.n_list (by decide +kernel) (pa_cons (pe_fld (pv 0) rfl) pa_nil)))), ?_⟩
    exact s_retLV c (el_list (ev_hands (ev_v rfl rk) T.cl_Sieve T.na_Sieve_pointers)) fun a H1 n g o => k a H1 n g.gr0 o
theorem ok_Sieve_counts (T : Txt K mg) : FnOk P w K mg base CX0 1 T.f_Sieve_counts T.d_Sieve_counts ["self"] (SpL (fun _ => True) fun x : Sv T.c_Sieve × Unit => x.1.cells) := by
  refine T.F_Sieve_counts.ok sc_Sieve_counts (fun vs H Q E h => ?_) (fun cdv A outer s H vs Q E hr h => ?_)
  · obtain ⟨m, x, c, ⟨v, r, rfl, rk, rfl⟩, _⟩ := h
    rfl
  · obtain ⟨m, ⟨x, u⟩, c, ⟨v, r, rfl, rk, rfl⟩, -, k⟩ := h
    refine ⟨_, (pss_one (ps_ret (pe_callTy call_list_of (by rfl) T.n_list (by decide +kernel) (pa_cons (pe_fld (pv 0) rfl) pa_nil)))), ?_⟩
    exact s_retLV c (el_list (ev_cells (ev_v rfl rk) T.cl_Sieve T.na_Sieve_cells)) fun a H1 n g o => k a H1 n g.gr0 o
theorem ok_Sieve_init (T : Txt K mg) : FnOk P w K mg base (L2.CX P w) 5 T.f_Sieve_init T.d_Sieve_init ["self", "size", "hands", "cap"] (SpMk T.c_Sieve T.er) := by
  refine T.F_Sieve_init.okX sc_Sieve_init (fun vs H Q E h => ?_) (fun cdv A outer s H vs Q E hr h => ?_)
  · obtain ⟨m, s, dx, size, hands, cap, hv, rfl, _⟩ := h
    rfl
  · obtain ⟨m, s, dx, size, hands, cap, hv, rfl, c, ns, hs, rh, hl, k1, k2⟩ := h
    have rh1 := rp_insL rh hs
    have c1 : Cc none (s :: m) H := c.cons hs
    refine ⟨_, (pss_cons (ps_expr (pe_call (ok_need_size T) (hr.mono (by decide)) rfl T.m_need_size T.k_need_size T.b_need_size .nil (passX rfl rfl rfl rfl) (pa_cons (pv 1) pa_nil)))
  (pss_cons (ps_expr (pe_call (ok_need_hands T) (hr.mono (by decide)) rfl T.m_need_hands T.k_need_hands T.b_need_hands .nil (passX rfl rfl rfl rfl) (pa_cons (pv 2) pa_nil)))
  (pss_cons (ps_expr (pe_call (ok_need_cap T) (hr.mono (by decide)) rfl T.m_need_cap T.k_need_cap T.b_need_cap .nil (passX rfl rfl rfl rfl) (pa_cons (pv 3) pa_nil)))
  (pss_cons (ps_fld (pv 0) (pv 1) rfl)
  (pss_cons (ps_fld (pv 0) (pe_lc (own := [("hand", 4)]) (g := gName 4) (tt := tYes) (by rfl) sc_Sieve_init.nd (pi_list (pv 2)) (blkOk_by (own := [("hand", 4)]) (N := N_Sieve_init) (sc := defScope s_Sieve_init) (by decide +kernel)) (fun _ _ _ _ _ => (pg_name (i := 4) sc_Sieve_init.nd rfl (Or.inl rfl) (.inr rfl))) (fun _ _ _ _ _ => pts_nil) (fun _ _ _ _ _ => (pe_callTy (show CallR _ (.type "tuple") (KS.rTuple K) from call_tuple_of) (by rfl) T.n_tuple (by decide +kernel) (pa_cons (pv 4) pa_nil)))) rfl)
  (pss_cons (ps_fld (pv 0) (pv 3) rfl)
  (pss_one (ps_fld (pv 0) (pe_op op_rep (pe_lst (pa_cons pe_int pa_nil)) (pv 1)) rfl)))))))), ?_⟩
    have bad : ∀ {e : Err} {cl : Value} {d : Option Addr} {H' : Hp}, mkS T.c_Sieve size hands cap = .error e → Gr [] H H' → ErrAt T.er H H' e cl d → E cl d H' := fun {e cl d H'} h g z => k2 e h cl d H' g.any (by
      have e1 : ∀ {x : Except Err Unit} {w : Str}, (x = .ok () ∨ x = .error (.badSieve w)) → ∀ e, x = .error e → e = .badSieve w := fun h e q => by
        rcases h with h | h
        · rw [h] at q; cases q
        · rw [h] at q; cases q; rfl
      have : ∃ w, e = .badSieve w := by
        unfold mkS at h
        cases q1 : chkSize size with
        | error e1 =>
          rw [q1] at h
          cases h
          unfold chkSize at q1
          split at q1 <;> cases q1
          exact ⟨_, rfl⟩
        | ok _ =>
          rw [q1] at h
          cases q2 : chkHands hands with
          | error e1 =>
            rw [q2] at h
            cases h
            unfold chkHands at q2
            split at q2 <;> cases q2
            exact ⟨_, rfl⟩
          | ok _ =>
            rw [q2] at h
            cases q3 : chkCap cap with
            | error e1 =>
              rw [q3] at h
              cases h
              unfold chkCap at q3
              split at q3 <;> cases q3
              exact ⟨_, rfl⟩
            | ok _ =>
              rw [q3] at h
              cases h
      obtain ⟨w, rfl⟩ := this
      exact z)
    refine q_dropX c1 (ex_call (ea_c ev_vi ea_nil) trivial) (fun _ h1 H1 g1 => ?_) (fun e he cl d H1 g z => bad (by unfold mkS; dsimp only at he; rw [he]; rfl) g.gr0 z)
    have c2 := c1.go g1
    have rh2 := rp_gd rh1 c1 g1
    refine q_dropX c2 (ex_call (ea_c (ev_v rfl rh2) ea_nil) hl) (fun _ h2 H2 g2 => ?_) (fun e he cl d H2 g z => bad (by unfold mkS; dsimp only at he h1; rw [h1]; show (do chkHands hands; chkCap cap; return Sv.new T.c_Sieve size hands cap : Except Err _) = _; rw [he]; rfl) (g1.trans g).gr0 (z.from g1.gr))
    have c3 := c2.go g2
    have rh3 := rp_gd rh2 c2 g2
    refine q_dropX c3 (ex_call (ea_c ev_vi ea_nil) trivial) (fun _ h3 H3 g3 => ?_) (fun e he cl d H3 g z => bad (by unfold mkS; dsimp only at he h1 h2; rw [h1]; show (do chkHands hands; chkCap cap; return Sv.new T.c_Sieve size hands cap : Except Err _) = _; rw [h2]; show (do chkCap cap; return Sv.new T.c_Sieve size hands cap : Except Err _) = _; rw [he]; rfl) ((g1.trans g2).trans g).gr0 (z.from (g1.trans g2).gr))
    have c4 := c3.go g3
    have rh4 := rp_gd rh3 c3 g3
    dsimp only at h1 h2 h3
    have good : mkS T.c_Sieve size hands cap = .ok (Sv.new T.c_Sieve size hands cap) := by
      unfold mkS
      rw [h1]
      show (do chkHands hands; chkCap cap; return Sv.new T.c_Sieve size hands cap : Except Err _) = _
      rw [h2]
      show (do chkCap cap; return Sv.new T.c_Sieve size hands cap : Except Err _) = _
      rw [h3]
      rfl
    have hsz : 1 ≤ size ∧ size ≤ 96 := by
      unfold chkSize at h1
      split at h1
      · assumption
      · cases h1
    have g13 : Gr [] H H3 := ((g1.trans g2).trans g3).gr0
    have hs3 := g13.at0 hs
    -- self.many = size
    refine sq ?_
    refine ⟨_, rfl, _, rfl, s, T.c_Sieve, dx, [], rfl, hs3, T.cl_Sieve, T.na_Sieve_many, by decide, ?_⟩
    have g4 : Gr [s] H3 (upd H3 s (.ins T.c_Sieve dx (putF "many" (.int size) []))) := Gr.refl.put (by simp) hs3 fun _ z => by cases z
    have c5 : Cc none (s :: m) (upd H3 s (.ins T.c_Sieve dx (putF "many" (.int size) []))) := ⟨fun _ h => absurd h (by simp [Dst.m]), fun a ha z => c4.dm a ha (g4.dom a z), trivial⟩
    have rh5 := rp_gr rh4 g4 (by simp)
    -- self.pointers
    refine q_fldLV (α := Int × Int) (xs := hands.map fun h => h) c5 rfl upd_same T.cl_Sieve T.na_Sieve_pointers (by show 1 < 1000; decide) (el_map (α := Int × Int) (β := Int × Int) (fun h => h) (ev_v (i := 2) rfl rh5) hl
      fun x v H1 _ g c1 r => lcT_name rfl tYes_ok fun _ => ev_tupleP (ev_v rfl r)) fun a H4 na g5 o => ?_
    have hs4 := g5.gr0.at0 (upd_same (H := H3) (a := s) (o := HO.ins T.c_Sieve dx (putF "many" (.int size) [])))
    rw [show hands.map (fun h => h) = hands from List.map_id' hands] at o
    have nas : a ≠ s := fun z => o.1 (by rw [z]; simp)
    -- self.most = cap
    refine sq ?_
    refine ⟨_, rfl, _, rfl, s, T.c_Sieve, dx, _, rfl, upd_same, T.cl_Sieve, T.na_Sieve_most, by show 2 < 1000; decide, ?_⟩
    rw [upd_upd]
    have g6 : Gr [s] H4 (upd H4 s (.ins T.c_Sieve dx (putF "most" (.int cap) (putF "pointers" (.ref a) (putF "many" (.int size) []))))) := Gr.refl.put (by simp) hs4 fun _ z => by cases z
    have c6 : Cc none (s :: m) (upd H4 s (.ins T.c_Sieve dx (putF "most" (.int cap) (putF "pointers" (.ref a) (putF "many" (.int size) []))))) := ⟨fun _ h => absurd h (by simp [Dst.m]), fun a ha z => (c5.go g5).dm a ha (g6.dom a z), trivial⟩
    have o6 := o.go g6 (by simp)
    -- self.cells = [0] * size
    refine s_fldLV (α := Int) c6 rfl upd_same T.cl_Sieve T.na_Sieve_cells (by show 3 < 1000; decide) (el_rep0 (k := 0) (n := size) ev_c ev_vi (by omega) (by omega)) fun b H5 nb g7 o7 => ?_
    have hs5 := g7.gr0.at0 (upd_same (H := H4) (a := s) (o := HO.ins T.c_Sieve dx (putF "most" (.int cap) (putF "pointers" (.ref a) (putF "many" (.int size) [])))))
    have g8 : Gr [s] H5 (upd H5 s (.ins T.c_Sieve dx (svf size a cap b))) := Gr.refl.put (by simp) hs5 fun _ z => by cases z
    have gH5 : Gr [s] H (upd H5 s (.ins T.c_Sieve dx (svf size a cap b))) := ((((g13.any.trans g4).trans g5.gr0.any).trans g6).trans g7.gr0.any).trans g8
    have nbs : b ≠ s := fun z => o7.1 (by rw [z]; simp)
    have nab : a ≠ b := fun z => by
      obtain ⟨vs, h, _⟩ := o6.ex
      have nb' := nb
      rw [← z] at nb'
      rw [nb'] at h
      cases h
    have nbH : H b = none := ((((g13.any.trans g4).trans g5.gr0.any).trans g6)).dom b nb
    have naH : H a = none := (g13.any.trans g4).dom a na
    refine k1 _ good b _ nbH gH5 fun m' hm' ns' => ⟨ns', fun z => hm' b z nbH, ?_, dx, a, upd_same, nab, ?_⟩
    · show upd H5 s (.ins T.c_Sieve dx (svf size a cap b)) b = _
      rw [upd_ne nbs]
      exact o7.ints
    · obtain ⟨_, vs, e, ps⟩ := (o6.gd c6 g7).go g8 (by simp)
      exact ⟨a, vs, rfl, fun z => hm' a z naH, e, paired_go ps fun _ _ r => rp_nl r fun _ _ e => e⟩
theorem ok_Sieve_put (T : Txt K mg) : FnOk P w K mg base (L2.CX P w) 2 T.f_Sieve_put T.d_Sieve_put ["self", "key"] (SpMut T.c_Sieve T.er Sv.put) := by
  refine T.F_Sieve_put.okX sc_Sieve_put (fun vs H Q E h => ?_) (fun cdv A outer s H vs Q E hr h => ?_)
  · obtain ⟨m, s, cc, x, key, rfl, _⟩ := h
    rfl
  · obtain ⟨m, s, cc, x, key, rfl, c, a, ok, k1, k2⟩ := h
    refine ⟨_, (pss_cons (ps_expr (pe_call (ok_need_key T) (hr.mono (by decide)) rfl T.m_need_key T.k_need_key T.b_need_key .nil (passX rfl rfl rfl rfl) (pa_cons (pv 1) pa_nil)))
  (pss_one (ps_for (passes_of rfl) rfl (pi_list (pe_call (ok_pointed T) (hr.mono (by decide)) rfl T.m_pointed T.k_pointed T.b_pointed .nil pass0 (pa_cons (pe_fld (pv 0) rfl) (pa_cons (pe_fld (pv 0) rfl) (pa_cons (pv 1) pa_nil))))) (pg_name (i := 2) sc_Sieve_put.nd rfl (Or.inl rfl))
  (pss_one (ps_asg (pe_callB (call_min2 rfl) (by rfl) T.n_min (by decide +kernel) (pa_cons (pe_fld (pv 0) rfl) (pa_cons (pe_op op_add (pe_ix ix_list (pe_fld (pv 0) rfl) (pv 2) (fun _ _ => rfl)) pe_int) pa_nil))) (pg_sub (pe_fld (pv 0) rfl) (pv 2) set_list)))))), ?_⟩
    refine q_dropX c (ex_call (ea_c ev_vi ea_nil) trivial) (fun y hy H1 g1 => ?_) (fun e he cl d H1 g z => ?_)
    · have hk : 0 ≤ key ∧ key < 10007 := by
        dsimp only at hy
        unfold needKey at hy
        split at hy
        · assumption
        · cases hy
      have c1 := c.go g1
      have a1 := a.gd c g1
      have hpl : (pointed x.hands x.size key).length = x.hands.length := by unfold pointed; simp
      refine s_forLL c1 (el_callV (x := (x.hands, x.size, key, ())) (ea_c (ev_hands (ev_v rfl a1.rp) T.cl_Sieve T.na_Sieve_pointers) (ea_c (ev_many (ev_v rfl a1.rp) T.cl_Sieve T.na_Sieve_many) (ea_c ev_vi ea_nil))) ⟨by have := ok.h; show x.hands.length ≤ 90000; omega, ok.s0, by show -(2 ^ 64) < key; omega, by show key < 2 ^ 64; omega⟩) fun al vs H2 n2 g2 na ha ps =>
        ⟨fun j s2 H' => ∃ z : Option V, s2 = [some (.ref s), some (.int key), z] ∧ Gr [cc] H2 H' ∧ SvAt m H' s cc ({ x with cells := ((pointed x.hands x.size key).take j).foldl (inc x.cap) x.cells } : Sv T.c_Sieve),
        ⟨none, rfl, Gr.refl, a1.gd c1 g2⟩, fun j s2 H' ⟨_, _, g, _⟩ => g.keep al _ ha (by simpa using (ne_of_none a1.cl n2).symm), ?_, ?_⟩
      · rintro j y w s2 H' hj ry ⟨z, rfl, g', a'⟩
        cases rp_int ry
        refine g_name ?_
        have hy := pointed_mem ok.s0 (List.mem_of_getElem? hj)
        have cH' : Cc none m H' := ⟨fun _ h => absurd h (by simp [Dst.m]), fun b hb z => (c1.go g2).dm b hb (g'.dom b z), trivial⟩
        have hlen : ((((pointed x.hands x.size key).take j).foldl (inc x.cap) x.cells).length : Int) = x.size := by rw [foldl_len (inc_len _)]; exact ok.n
        refine s_cell cH' rfl rfl a' T.cl_Sieve T.na_Sieve_cells hy.1 (by show y < ((((pointed x.hands x.size key).take j).foldl (inc x.cap) x.cells).length : Int); omega) (ev_min (ev_most (ev_v rfl a'.rp) T.cl_Sieve T.na_Sieve_most) (ev_o (ev_cell (ev_v rfl a'.rp) T.cl_Sieve T.na_Sieve_cells ev_vi hy.1 (by show y < ((((pointed x.hands x.size key).take j).foldl (inc x.cap) x.cells).length : Int); omega)) ev_c)) fun H3 g3 a3 => ?_
        refine ⟨_, rfl, g'.trans g3, ?_⟩
        rw [take_snoc hj, List.foldl_append]
        exact a3
      · rintro s2 H' ⟨z, rfl, g', a'⟩
        rw [List.take_length] at a'
        exact k1 (x.put1 key) (by unfold Sv.put; rw [if_pos hk]) H' (((g1.trans g2).gr0.any).trans g') a'
    · refine k2 e ?_ cl d H1 g.gr0 z
      dsimp only at he
      unfold needKey at he
      unfold Sv.put
      split at he
      · cases he
      · rename_i hk
        cases he
        rw [if_neg hk]
theorem ok_Sieve_says (T : Txt K mg) : FnOk P w K mg base (L2.CX P w) 3 T.f_Sieve_says T.d_Sieve_says ["self", "key"] (SpX T.er (fun x => x.1.Ok) fun x : Sv T.c_Sieve × Int × Unit => x.1.says x.2.1) := by
  refine T.F_Sieve_says.okX sc_Sieve_says (fun vs H Q E h => ?_) (fun cdv A outer s H vs Q E hr h => ?_)
  · obtain ⟨m, x, c, ⟨v, r, rfl, rk, ⟨v2, r2, rfl, rk2, rfl⟩⟩, _⟩ := h
    rfl
  · obtain ⟨m, ⟨x, key, u⟩, c, ⟨v, r, rfl, rk, ⟨v2, r2, rfl, rk2, rfl⟩⟩, ok, k1, k2⟩ := h
    cases (show v2 = V.int key from rk2)
    dsimp only at rk ok k1 k2
    refine ⟨_, (pss_cons (ps_expr (pe_call (ok_need_key T) (hr.mono (by decide)) rfl T.m_need_key T.k_need_key T.b_need_key .nil (passX rfl rfl rfl rfl) (pa_cons (pv 1) pa_nil)))
  (pss_cons (ps_set (i := 2) sc_Sieve_says.nd rfl (Or.inr rfl) (pe_call (ok_hands_by_cell T) (hr.mono (by decide)) rfl T.m_hands_by_cell T.k_hands_by_cell T.b_hands_by_cell .nil pass0 (pa_cons (pe_fld (pv 0) rfl) (pa_cons (pe_fld (pv 0) rfl) (pa_cons (pv 1) pa_nil)))))
  (pss_one (ps_ret (pe_cmpR (op_eqD hr.units) (pe_lock (pe_lc (own := [("cell", 3)]) (g := gName 3) (by rfl) sc_Sieve_says.nd (pi_keys (pv 2)) (blkOk_by (own := [("cell", 3)]) (N := N_Sieve_says) (sc := defScope s_Sieve_says) (by decide +kernel)) (fun _ _ _ _ _ => (pg_name (i := 3) sc_Sieve_says.nd rfl (Or.inl rfl) (.inr rfl))) (fun _ _ _ _ _ => (pts_one (pt_cmpR op_lt (pe_ix (show IxR _ (rIxL K) from ix_list) (pe_fldK (pv 0) rfl) (pv 3) (fun _ _ => rfl)) (pe_callB (call_min2 rfl) (by rfl) T.n_min (by decide +kernel) (pa_cons (pe_fldK (pv 0) rfl) (pa_cons (pe_dget (hu_of hr) (pv 2) (pv 3) (fun _ _ => rfl)) pa_nil))) (nomark _)))) (fun _ _ _ _ _ => (pv 3)))) (pe_lst pa_nil) (nomark _)))))), ?_⟩
    refine q_dropX c (ex_call (ea_c ev_vi ea_nil) trivial) (fun y hy H1 g1 => ?_) (fun e he cl d H1 g z => ?_)
    · have hk : 0 ≤ key ∧ key < 10007 := by
        dsimp only at hy
        unfold needKey at hy
        split at hy
        · assumption
        · cases hy
      have c1 := c.go g1
      have r1 := rp_gd rk c g1
      have hpl : (pointed x.hands x.size key).length = x.hands.length := by unfold pointed; simp
      refine q_setD c1 (ea_c (ev_hands (ev_v rfl r1) T.cl_Sieve T.na_Sieve_pointers) (ea_c (ev_many (ev_v rfl r1) T.cl_Sieve T.na_Sieve_many) (ea_c ev_vi ea_nil))) ⟨by have := ok.h; show x.hands.length ≤ 90000; omega, ok.s0, by show -(2 ^ 64) < key; omega, by show key < 2 ^ 64; omega⟩ fun d H2 nd g2 d2 => ?_
      have r2 := rp_g0 (rp_more r1 nd) g2.gr0
      have c2 : Cc none (d :: m) H2 := (c1.go g2).cons d2.at_
      have tl := tally_len (pointed x.hands x.size key)
      have hh := ok.h
      have hin : ∀ kv, kv ∈ wanted x key → 0 ≤ kv.1 ∧ kv.1 < (x.cells.length : Int) := fun kv h => by
        obtain ⟨q, _⟩ := (tally_mem _ kv.1 kv.2).mp h
        have := pointed_mem ok.s0 q
        have := ok.n
        omega
      refine s_retV c2 (ev_eqDV (x := ((wanted x key).filter (poorB x.cap x.cells)).map (·.1)) (y := []) (EvL.ev (el_lcKeys (β := Int) (l := wanted x key) (p := fun acc => acc = ((wanted x key).filter (poorB x.cap x.cells)).map (·.1)) (fun j acc => acc = (((wanted x key).take j).filter (poorB x.cap x.cells)).map (·.1)) rfl d2.at_ (by simp) (by show (tally _).length ≤ _; omega) rfl (fun j kv od H3 acc hj g3 hf c3 hI => ?_) (fun acc hI => by rw [hI, List.take_length]))) el_nil.ev (ok_ints _) (ok_ints _)) fun v H3 g3 r => ?_
      · have hm := List.mem_of_getElem? hj
        have r3 := rp_gr r2 g3 (by simp)
        refine ⟨fun b => b = poorB x.cap x.cells kv, fun y => y = kv.1, lcT_name rfl (et_B (ev_ob (ev_cell (ev_v rfl r3) T.cl_Sieve T.na_Sieve_cells ev_vi (hin kv hm).1 (hin kv hm).2) (ev_min (ev_most (ev_v rfl r3) T.cl_Sieve T.na_Sieve_most) (ev_dget rfl (.inr ⟨od, hf⟩) (by simp [Dst.m]) ev_vi (look_of_mem hm))))) fun _ => ev_vi, fun y z e => ?_, fun z => ?_⟩
        · rw [hI, e, take_snoc hj, List.filter_append, List.map_append]
          simp [← z]
        · rw [hI, take_snoc hj, List.filter_append, List.map_append]
          simp [← z]
      · refine k1 (x.yes key) (by unfold Sv.says; rw [if_pos hk]) v H3 ((g1.trans g2).trans g3).gr0 r
    · refine k2 e ?_ cl d H1 g.gr0 z
      dsimp only at he
      unfold needKey at he
      unfold Sv.says
      split at he
      · cases he
      · rename_i hk
        cases he
        rw [if_neg hk]
theorem ok_Sieve_stuck_cells (T : Txt K mg) : FnOk P w K mg base CX0 3 T.f_Sieve_stuck_cells T.d_Sieve_stuck_cells ["self", "key"] (SpL (fun x => x.1.Ok ∧ 0 ≤ x.2.1 ∧ x.2.1 < 10007) fun x : Sv T.c_Sieve × Int × Unit => x.1.stuck x.2.1) := by
  refine T.F_Sieve_stuck_cells.ok sc_Sieve_stuck_cells (fun vs H Q E h => ?_) (fun cdv A outer s H vs Q E hr h => ?_)
  · obtain ⟨m, x, c, ⟨v, r, rfl, rk, ⟨v2, r2, rfl, rk2, rfl⟩⟩, _⟩ := h
    rfl
  · obtain ⟨m, ⟨x, key, u⟩, c, ⟨v, r, rfl, rk, ⟨v2, r2, rfl, rk2, rfl⟩⟩, ⟨ok, hk⟩, k⟩ := h
    cases (show v2 = V.int key from rk2)
    dsimp only at rk ok hk k
    refine ⟨_, (pss_cons (ps_set (i := 2) sc_Sieve_stuck_cells.nd rfl (Or.inl rfl) (pe_call (ok_hands_by_cell T) (hr.mono (by decide)) rfl T.m_hands_by_cell T.k_hands_by_cell T.b_hands_by_cell .nil pass0 (pa_cons (pe_fld (pv 0) rfl) (pa_cons (pe_fld (pv 0) rfl) (pa_cons (pv 1) pa_nil)))))
  (pss_one (ps_ret (pe_callB cr_sortedI (by rfl) T.n_sorted (by decide +kernel) (pa_cons (pe_lock (pe_lc (own := [("cell", 3)]) (g := gName 3) (by rfl) sc_Sieve_stuck_cells.nd (pi_keys (pv 2)) (blkOk_by (own := [("cell", 3)]) (N := N_Sieve_stuck_cells) (sc := defScope s_Sieve_stuck_cells) (by decide +kernel)) (fun _ _ _ _ _ => (pg_name (i := 3) sc_Sieve_stuck_cells.nd rfl (Or.inl rfl) (.inr rfl))) (fun _ _ _ _ _ => (pts_one (pt_cmpR op_eq (pe_ix (show IxR _ (rIxL K) from ix_list) (pe_fldK (pv 0) rfl) (pv 3) (fun _ _ => rfl)) (pe_fldK (pv 0) rfl) (nomark _)))) (fun _ _ _ _ _ => (pv 3)))) pa_nil))))), ?_⟩
    · have c1 := c
      have r1 := rk
      have g1 : Gd none H H := .refl
      have hpl : (pointed x.hands x.size key).length = x.hands.length := by unfold pointed; simp
      refine q_setD c1 (ea_c (ev_hands (ev_v rfl r1) T.cl_Sieve T.na_Sieve_pointers) (ea_c (ev_many (ev_v rfl r1) T.cl_Sieve T.na_Sieve_many) (ea_c ev_vi ea_nil))) ⟨by have := ok.h; show x.hands.length ≤ 90000; omega, ok.s0, by show -(2 ^ 64) < key; omega, by show key < 2 ^ 64; omega⟩ fun d H2 nd g2 d2 => ?_
      have r2 := rp_g0 (rp_more r1 nd) g2.gr0
      have c2 : Cc none (d :: m) H2 := (c1.go g2).cons d2.at_
      have tl := tally_len (pointed x.hands x.size key)
      have hh := ok.h
      have hin : ∀ kv, kv ∈ wanted x key → 0 ≤ kv.1 ∧ kv.1 < (x.cells.length : Int) := fun kv h => by
        obtain ⟨q, _⟩ := (tally_mem _ kv.1 kv.2).mp h
        have := pointed_mem ok.s0 q
        have := ok.n
        omega
      refine s_retLV c2 (el_sorted (xs := ((wanted x key).filter fun kv => decide (cat x.cells kv.1 = x.cap)).map (·.1)) (EvL.ev (el_lcKeys (β := Int) (l := wanted x key) (p := fun acc => acc = ((wanted x key).filter fun kv => decide (cat x.cells kv.1 = x.cap)).map (·.1)) (fun j acc => acc = (((wanted x key).take j).filter fun kv => decide (cat x.cells kv.1 = x.cap)).map (·.1)) rfl d2.at_ (by simp) (by show (tally _).length ≤ _; omega) rfl (fun j kv od H3 acc hj g3 hf c3 hI => ?_) (fun acc hI => by rw [hI, List.take_length])))) fun a H3 n3 g3 o => ?_
      · have hm := List.mem_of_getElem? hj
        have r3 := rp_gr r2 g3 (by simp)
        refine ⟨fun b => b = decide (cat x.cells kv.1 = x.cap), fun y => y = kv.1, lcT_name rfl (et_B (ev_eqV (ev_cell (ev_v rfl r3) T.cl_Sieve T.na_Sieve_cells ev_vi (hin kv hm).1 (hin kv hm).2) (ev_most (ev_v rfl r3) T.cl_Sieve T.na_Sieve_most))) fun _ => ev_vi, fun y z e => ?_, fun z => ?_⟩
        · rw [hI, e, take_snoc hj, List.filter_append, List.map_append]
          have z' : cat x.cells kv.1 = x.cap := by simpa using z.symm
          simp [z']
        · rw [hI, take_snoc hj, List.filter_append, List.map_append]
          have z' : ¬ cat x.cells kv.1 = x.cap := by simpa using z.symm
          simp [z']
      · refine k a H3 (g2.gr.dom a n3) (g2.trans g3).gr0 ⟨fun z => o.1 (List.mem_cons_of_mem _ z), ?_⟩
        obtain ⟨_, vs, e, ps⟩ := o
        exact ⟨vs, e, paired_go ps fun _ _ r => r⟩
theorem ok_Sieve_need_takeable (T : Txt K mg) : FnOk P w K mg base (L2.CX P w) 4 T.f_Sieve_need_takeable T.d_Sieve_need_takeable ["self", "key"] (SpX T.er (fun x => x.1.Ok) fun x : Sv T.c_Sieve × Int × Unit => x.1.may x.2.1) := by
  refine T.F_Sieve_need_takeable.okX sc_Sieve_need_takeable (fun vs H Q E h => ?_) (fun cdv A outer s H vs Q E hr h => ?_)
  · obtain ⟨m, x, c, ⟨v, r, rfl, rk, ⟨v2, r2, rfl, rk2, rfl⟩⟩, _⟩ := h
    rfl
  · obtain ⟨m, ⟨x, key, u⟩, c, ⟨v, r, rfl, rk, ⟨v2, r2, rfl, rk2, rfl⟩⟩, ok, k1, k2⟩ := h
    cases (show v2 = V.int key from rk2)
    dsimp only at rk ok k1 k2
    refine ⟨_, (pss_cons (ps_if (pt_not (pt_val (pe_meth (pv 0) T.cl_Sieve T.me_Sieve_says (ok_Sieve_says T) (hr.mono (by decide)) T.b_Sieve_says .nil (passX rfl rfl rfl rfl) (pa_cons (pv 1) pa_nil))))
  (pss_one (ps_raise rfl (takes_of rfl rfl rfl rfl) (pmk_own PySem.F.excBase_ValueError T.x_NotIn T.m_NotIn T.kc_NotIn (raises_own T.xb_NotIn T.xt_NotIn) rfl)))
  pss_nil)
  (pss_cons (ps_set (i := 2) sc_Sieve_need_takeable.nd rfl (Or.inl rfl) (pe_meth (pv 0) T.cl_Sieve T.me_Sieve_stuck_cells (ok_Sieve_stuck_cells T) (hr.mono (by decide)) T.b_Sieve_stuck_cells .nil pass0 (pa_cons (pv 1) pa_nil)))
  (pss_one (ps_if (pt_cmpR (op_neD hr.units) (pv 2) (pe_lst pa_nil) (nomark _))
  (pss_one (ps_raise rfl (takes_of rfl rfl rfl rfl) (pmk_oex T.ox_Stuck T.me_Stuck_init.at_ T.tf_Stuck_init (ok_Stuck_init T) (hr.mono (by decide)) T.b_Stuck_init .nil pass0 rfl T.m_Stuck (pa_cons (pv 2) pa_nil))))
  pss_nil)))), ?_⟩
    refine q_whenNX c (ex_meth (x := x) (y := (key, ())) (ev_v rfl rk) (ea_c ev_vi ea_nil) ok) (fun hy H1 g1 => ?_) (fun hy H1 g1 => ?_) (fun e he cl d H1 g z => ?_)
    · obtain ⟨hk, hyes⟩ : (0 ≤ key ∧ key < 10007) ∧ x.yes key = true := by
        dsimp only at hy
        unfold Sv.says at hy
        split at hy
        · exact ⟨by assumption, by simpa using hy⟩
        · cases hy
      have c1 := c.go g1
      have r1 := rp_gd rk c g1
      refine q_setLV c1 (el_meth (x := x) (y := (key, ())) (ev_v rfl r1) (ea_c ev_vi ea_nil) ⟨ok, hk⟩) fun a H2 n2 g2 o => ?_
      have c2 := c1.go g2
      refine s_whenV c2 (et_B (ev_neDV (ev_v rfl o.rp) el_nil.ev (ok_ints _) (ok_ints _))) (fun e H3 g3 => ?_) (fun e H3 g3 => ?_)
      · have o3 := o.gd c2 g3
        refine mk_errV rfl fun d hd => ?_
        obtain ⟨nb, vs, hb, ps⟩ := o3
        have nd : Gr (m := []) H3 (upd H3 d (.xd [("cells", .ref a)])) := .new hd
        refine k2 (.stuck (x.stuck key)) ?_ _ _ _ (((g1.trans g2).trans g3).gr0.trans nd) ⟨rfl, d, a, rfl, upd_same, fun m' hm' => ⟨fun z => hm' a z (g1.gr.dom a n2), vs, nd.at0 hb, paired_go ps fun _ _ r => r⟩⟩
        unfold Sv.may
        rw [if_pos hk, if_pos hyes, if_neg]
        simpa using e
      · refine k1 () ?_ _ H3 ((g1.trans g2).trans g3).gr0 rfl
        unfold Sv.may
        rw [if_pos hk, if_pos hyes, if_pos]
        simpa using e
    · refine k2 .notIn ?_ _ _ H1 g1.gr0 ⟨rfl, rfl⟩
      dsimp only at hy
      unfold Sv.says at hy
      unfold Sv.may
      split at hy
      · rename_i hk
        have : x.yes key = false := by simpa using hy
        rw [if_pos hk, if_neg (by rw [this]; decide)]
      · cases hy
    · refine k2 e ?_ cl d H1 g.gr0 z
      dsimp only at he
      unfold Sv.says at he
      unfold Sv.may
      split at he
      · cases he
      · rename_i hk
        cases he
        rw [if_neg hk]
theorem ok_Sieve_take (T : Txt K mg) : FnOk P w K mg base (L2.CX P w) 5 T.f_Sieve_take T.d_Sieve_take ["self", "key"] (SpMut T.c_Sieve T.er Sv.take) := by
  refine T.F_Sieve_take.okX sc_Sieve_take (fun vs H Q E h => ?_) (fun cdv A outer s H vs Q E hr h => ?_)
  · obtain ⟨m, s, cc, x, key, rfl, _⟩ := h
    rfl
  · obtain ⟨m, s, cc, x, key, rfl, c, a, ok, k1, k2⟩ := h
    refine ⟨_, (pss_cons (ps_expr (pe_meth (pv 0) T.cl_Sieve T.me_Sieve_need_takeable (ok_Sieve_need_takeable T) (hr.mono (by decide)) T.b_Sieve_need_takeable .nil (passX rfl rfl rfl rfl) (pa_cons (pv 1) pa_nil)))
  (pss_one (ps_for (passes_of rfl) rfl (pi_list (pe_call (ok_pointed T) (hr.mono (by decide)) rfl T.m_pointed T.k_pointed T.b_pointed .nil pass0 (pa_cons (pe_fld (pv 0) rfl) (pa_cons (pe_fld (pv 0) rfl) (pa_cons (pv 1) pa_nil))))) (pg_name (i := 2) sc_Sieve_take.nd rfl (Or.inl rfl))
  (pss_one (ps_asg (pe_op op_sub (pe_ix ix_list (pe_fld (pv 0) rfl) (pv 2) (fun _ _ => rfl)) pe_int) (pg_sub (pe_fld (pv 0) rfl) (pv 2) set_list)))))), ?_⟩
    refine q_dropX c (ex_meth (x := x) (y := (key, ())) (ev_v rfl a.rp) (ea_c ev_vi ea_nil) ok) (fun y hy H1 g1 => ?_) (fun e he cl d H1 g z => ?_)
    · dsimp only at hy
      have hk : 0 ≤ key ∧ key < 10007 := by
        unfold Sv.may at hy
        split at hy
        · assumption
        · cases hy
      have c1 := c.go g1
      have a1 := a.gd c g1
      refine s_forLL c1 (el_callV (x := (x.hands, x.size, key, ())) (ea_c (ev_hands (ev_v rfl a1.rp) T.cl_Sieve T.na_Sieve_pointers) (ea_c (ev_many (ev_v rfl a1.rp) T.cl_Sieve T.na_Sieve_many) (ea_c ev_vi ea_nil))) ⟨by have := ok.h; show x.hands.length ≤ 90000; omega, ok.s0, by show -(2 ^ 64) < key; omega, by show key < 2 ^ 64; omega⟩) fun al vs H2 n2 g2 na ha ps =>
        ⟨fun j s2 H' => ∃ z : Option V, s2 = [some (.ref s), some (.int key), z] ∧ Gr [cc] H2 H' ∧ SvAt m H' s cc ({ x with cells := ((pointed x.hands x.size key).take j).foldl dec1 x.cells } : Sv T.c_Sieve),
        ⟨none, rfl, Gr.refl, a1.gd c1 g2⟩, fun j s2 H' ⟨_, _, g, _⟩ => g.keep al _ ha (by simpa using (ne_of_none a1.cl n2).symm), ?_, ?_⟩
      · rintro j y w s2 H' hj ry ⟨z, rfl, g', a'⟩
        cases rp_int ry
        refine g_name ?_
        have hy := pointed_mem ok.s0 (List.mem_of_getElem? hj)
        have cH' : Cc none m H' := ⟨fun _ h => absurd h (by simp [Dst.m]), fun b hb z => (c1.go g2).dm b hb (g'.dom b z), trivial⟩
        have hlen : ((((pointed x.hands x.size key).take j).foldl dec1 x.cells).length : Int) = x.size := by rw [foldl_len dec1_len]; exact ok.n
        refine s_cell cH' rfl rfl a' T.cl_Sieve T.na_Sieve_cells hy.1 (by show y < ((((pointed x.hands x.size key).take j).foldl dec1 x.cells).length : Int); omega) (ev_o (ev_cell (ev_v rfl a'.rp) T.cl_Sieve T.na_Sieve_cells ev_vi hy.1 (by show y < ((((pointed x.hands x.size key).take j).foldl dec1 x.cells).length : Int); omega)) ev_c) fun H3 g3 a3 => ?_
        refine ⟨_, rfl, g'.trans g3, ?_⟩
        rw [take_snoc hj, List.foldl_append]
        exact a3
      · rintro s2 H' ⟨z, rfl, g', a'⟩
        rw [List.take_length] at a'
        exact k1 (x.take1 key) (by unfold Sv.take; rw [hy]) H' (((g1.trans g2).gr0.any).trans g') a'
    · refine k2 e ?_ cl d H1 g.gr0 z
      dsimp only at he
      unfold Sv.take
      rw [he]
theorem ok__law_counts (T : Txt K mg) : FnOk P w K mg base CX0 2 T.f__law_counts T.d__law_counts ["_law_keys_here", "_law_size", "_law_hands_here", "_law_cap"]
    (SpL (fun x : List Int × Int × List (Int × Int) × Int × Unit => x.1.length ≤ 90000 ∧ 0 < x.2.1 ∧ x.2.1 ≤ 1000 ∧ x.2.2.1.length ≤ 1000 ∧ ∀ k, k ∈ x.1 → KeyOk k) fun x => counts x.1 x.2.1 x.2.2.1 x.2.2.2.1) := by
  refine T.F__law_counts.ok sc__law_counts (fun vs H Q E h => ?_) (fun cdv A outer s H vs Q E hr h => ?_)
  · obtain ⟨m, x, c, ⟨v, r, rfl, rk, ⟨v2, r2, rfl, rk2, ⟨v3, r3, rfl, rk3, ⟨v4, r4, rfl, rk4, rfl⟩⟩⟩⟩, _⟩ := h
    rfl
  · obtain ⟨m, ⟨keys, size, hands, cap, u⟩, c, ⟨v, r, rfl, rk, ⟨v2, r2, rfl, rk2, ⟨v3, r3, rfl, rk3, ⟨v4, r4, rfl, rk4, rfl⟩⟩⟩⟩, ⟨hl, h0, h1, hh, hk⟩, k⟩ := h
    cases (show v2 = V.int size from rk2)
    cases (show v4 = V.int cap from rk4)
    dsimp only at rk rk3 hl h0 h1 hh hk k
    refine ⟨_, (pss_cons (ps_set (i := 4) sc__law_counts.nd rfl (Or.inl rfl) (pe_op op_rep (pe_lst (pa_cons pe_int pa_nil)) (pv 1)))
  (pss_cons (ps_for PassesOwn.never rfl (pi_list (pv 0)) (pg_name (i := 5) sc__law_counts.nd rfl (Or.inl rfl))
  (pss_one (ps_for PassesOwn.never rfl (pi_list (pe_call (ok__law_cells T) (hr.mono (by decide)) rfl T.m__law_cells T.k__law_cells T.b__law_cells .nil pass0 (pa_cons (pv 2) (pa_cons (pv 1) (pa_cons (pv 5) pa_nil))))) (pg_name (i := 6) sc__law_counts.nd rfl (Or.inl rfl))
  (pss_one (ps_asg (pe_op op_add (pe_ix ix_list (pv 4) (pv 6) (fun _ _ => rfl)) pe_int) (pg_sub (pv 4) (pv 6) set_list))))))
  (pss_one (ps_ret (pe_lc (own := [("_law_count", 7)]) (g := gName 7) (tt := tYes) (by rfl) sc__law_counts.nd (pi_list (pv 4)) (blkOk_by (own := [("_law_count", 7)]) (N := N__law_counts) (sc := defScope s__law_counts) (by decide +kernel)) (fun _ _ _ _ _ => (pg_name (i := 7) sc__law_counts.nd rfl (Or.inl rfl) (.inr rfl))) (fun _ _ _ _ _ => pts_nil) (fun _ _ _ _ _ => (pe_callB (call_min2 rfl) (by rfl) T.n_min (by decide +kernel) (pa_cons (pv 3) (pa_cons (pv 7) pa_nil))))))))), ?_⟩
    refine q_setLV (α := Int) c (el_rep0 (k := 0) (n := size) ev_c ev_vi (by omega) (by omega)) fun af H1 nf g1 o1 => ?_
    have c1 := c.go g1
    obtain ⟨a, vs, rfl, na, ha, ps⟩ := rp_lst rk
    have naf : a ≠ af := ne_of_none ha nf
    have ha1 := g1.gr0.at0 ha
    refine q_forV (xs := keys) (m := m) (vs := vs) rfl ha1 (paired_go ps fun _ _ r => rp_nl r g1.gr.tup) (fun j s2 H' => ∃ x5 x6 x7 : Option V, s2 = [some (.ref a), some (.int size), some v3, some (.int cap), some (.ref af), x5, x6, x7] ∧ Gd none H H' ∧ H' a = some (.lst vs) ∧ Own m H' af (raw (keys.take j) size hands))
      ⟨none, none, none, rfl, g1, ha1, o1⟩ (fun j s2 H' ⟨_, _, _, _, _, h, _⟩ => h) ?_ ?_
    · rintro j key w s2 H' hj ry ⟨x5, x6, x7, rfl, g', ha', o'⟩
      cases rp_int ry
      have c' := c.go g'
      have hkey := hk key (List.mem_of_getElem? hj)
      refine g_name ?_
      refine s_forLL c' (el_callV (x := (hands, size, key, ())) (ea_c (ev_v rfl (rp_gd rk3 c g')) (ea_c ev_vi (ea_c ev_vi ea_nil))) ⟨by show hands.length ≤ 90000; omega, h0, by have := hkey.1; show -(2 ^ 64) < key; omega, by have := hkey.2; show key < 2 ^ 64; omega⟩) fun b ws H3 nb g3 nbm hb pb =>
        ⟨fun i s2 H4 => ∃ x6 x7 : Option V, s2 = [some (.ref a), some (.int size), some v3, some (.int cap), some (.ref af), some (.int key), x6, x7] ∧ Gd none H H4 ∧ H4 a = some (.lst vs) ∧ H4 b = some (.lst ws) ∧ Own m H4 af (((pointed hands size key).take i).foldl plus (raw (keys.take j) size hands)),
        ⟨x6, x7, rfl, g'.trans g3, g3.gr0.at0 ha', hb, o'.gd c' g3⟩, fun i s2 H4 ⟨_, _, _, _, _, h, _⟩ => h, ?_, ?_⟩
      · rintro i y w s2 H4 hi ry ⟨x6, x7, rfl, g4, ha4, hb4, o4⟩
        cases rp_int ry
        refine g_name ?_
        have c4 := c.go g4
        have hy := pointed_mem h0 (List.mem_of_getElem? hi)
        have hlen : ((((pointed hands size key).take i).foldl plus (raw (keys.take j) size hands)).length : Int) = size := by
          rw [foldl_len plus_len, raw_len]
          omega
        have nbf : b ≠ af := fun z => by
          obtain ⟨vf, hvf, _⟩ := o'.ex
          rw [z, hvf] at nb
          cases nb
        refine s_item c4 rfl rfl o4 hy.1 (by omega) (ev_o (ev_ixLV (x := cat (((pointed hands size key).take i).foldl plus (raw (keys.take j) size hands)) y) (ev_v rfl o4.rp) ev_vi (atI_cat hy.1 (by omega))) ev_c) fun H5 H6 g5 e6 o6 => ?_
        obtain ⟨o, rfl⟩ := e6
        refine ⟨_, _, rfl, mut_gd (g4.trans g5) c nf, ?_, ?_, ?_⟩
        · rw [upd_ne naf]; exact g5.gr0.at0 ha4
        · rw [upd_ne nbf]; exact g5.gr0.at0 hb4
        · rw [take_snoc hi, List.foldl_append]; exact o6
      · rintro s2 H4 ⟨x6, x7, rfl, g4, ha4, hb4, o4⟩
        refine ⟨_, _, _, rfl, g4, ha4, ?_⟩
        rw [List.take_length] at o4
        rw [take_snoc hj, raw_snoc]
        exact o4
    · rintro s2 H' ⟨x5, x6, x7, rfl, g', ha', o'⟩
      have c' := c.go g'
      rw [List.take_length] at o'
      refine s_retLV c' (el_map (fun n => min cap n) (ev_v rfl o'.rp) (by rw [raw_len]; omega) fun x v H4 _ g4 c4 r => ?_) fun b H5 nb g5 o5 => k b H5 (g'.gr.dom b nb) (g'.trans g5).gr0 o5
      cases rp_int r
      exact lcT_name rfl tYes_ok fun _ => ev_min ev_vi ev_vi
theorem ok_need_keys (T : Txt K mg) : FnOk P w K mg base (L2.CX P w) 2 T.f_need_keys T.d_need_keys ["keys"] (SpX T.er (fun x => x.1.length ≤ 90000) fun x : List Int × Unit => needKeys x.1) := by
  refine T.F_need_keys.okX sc_need_keys (fun vs H Q E h => ?_) (fun cdv A outer s H vs Q E hr h => ?_)
  · obtain ⟨m, x, c, ⟨v, r, rfl, rk, rfl⟩, _⟩ := h
    rfl
  · obtain ⟨m, ⟨keys, u⟩, c, ⟨v, r, rfl, rk, rfl⟩, hl, k1, k2⟩ := h
    dsimp only at rk hl k1 k2
    refine ⟨_, (pss_one (ps_for (passes_of rfl) rfl (pi_list (pv 0)) (pg_name (i := 1) sc_need_keys.nd rfl (Or.inl rfl))
  (pss_one (ps_expr (pe_call (ok_need_key T) (hr.mono (by decide)) rfl T.m_need_key T.k_need_key T.b_need_key .nil (passX rfl rfl rfl rfl) (pa_cons (pv 1) pa_nil)))))), ?_⟩
    obtain ⟨a, vs, rfl, na, ha, ps⟩ := rp_lst rk
    refine s_forV (xs := keys) (m := m) (vs := vs) rfl ha ps (fun j s2 H' => ∃ x : Option V, s2 = [some (.ref a), x] ∧ Gd none H H' ∧ ∀ k, k ∈ keys.take j → KeyOk k) ⟨none, rfl, .refl, by simp⟩ (fun j s2 H' ⟨_, _, g, _⟩ => g.gr0.at0 ha) ?_ ?_
    · rintro j key w s2 H' hj ry ⟨x, rfl, g', hI⟩
      cases rp_int ry
      refine g_name ?_
      refine s_dropX (c.go g') (ex_call (ea_c ev_vi ea_nil) trivial) (fun y hy H3 g3 => ⟨_, rfl, g'.trans g3, fun k hk => ?_⟩) (fun e he cl d H3 g3 z => k2 e ?_ cl d H3 (g'.trans g3).gr0 (z.from g'.gr))
      · rw [take_snoc hj] at hk
        rcases List.mem_append.mp hk with z | z
        · exact hI k z
        · rw [List.mem_singleton.mp z]
          dsimp only at hy
          unfold needKey at hy
          split at hy
          · assumption
          · cases hy
      · dsimp only at he
        unfold needKey at he
        split at he
        · cases he
        · rename_i hk
          cases he
          unfold needKeys
          rw [if_neg]
          intro z
          rw [List.all_eq_true] at z
          exact hk (of_decide_eq_true (p := 0 ≤ key ∧ key < 10007) (z key (List.mem_of_getElem? hj)))
    · rintro s2 H' ⟨x, rfl, g', hI⟩
      rw [List.take_length] at hI
      exact k1 () (needKeys_ok hI) _ H' g'.gr0 rfl
theorem ok_with_counts (T : Txt K mg) : FnOk P w K mg base CX0 7 T.f_with_counts T.d_with_counts ["sieve", "size", "counts"] (SpNew (C := T.c_Sieve) (fun x : Sv T.c_Sieve × Int × List Int × Unit => (1 ≤ x.2.1 ∧ x.2.1 ≤ 96 ∧ HandsOk 6 x.1.hands ∧ 1 ≤ x.1.cap ∧ x.1.cap ≤ 9) ∧ x.2.2.1.length ≤ 90000) fun x => ⟨x.2.1, x.1.hands, x.1.cap, x.2.2.1⟩) := by
  refine T.F_with_counts.ok sc_with_counts (fun vs H Q E h => ?_) (fun cdv A outer s H vs Q E hr h => ?_)
  · obtain ⟨m, x, c, ⟨v, r, rfl, rk, ⟨v2, r2, rfl, rk2, ⟨v3, r3, rfl, rk3, rfl⟩⟩⟩, _⟩ := h
    rfl
  · obtain ⟨m, ⟨x, size, cs, u⟩, c, ⟨v, r, rfl, rk, ⟨v2, r2, rfl, rk2, ⟨v3, r3, rfl, rk3, rfl⟩⟩⟩, ⟨⟨h0, h1, hh, h2, h3⟩, hl⟩, k⟩ := h
    cases (show v2 = V.int size from rk2)
    dsimp only at rk rk3 h0 h1 hh h2 h3 hl k
    refine ⟨_, (pss_cons (ps_set (i := 3) sc_with_counts.nd rfl (Or.inl rfl) (pe_make T.mk_Sieve (ok_Sieve_init T) (hr.mono (by decide)) rfl T.m_Sieve T.b_Sieve_init .nil passL (pa_cons (pv 1) (pa_cons (pe_meth0 (pv 0) T.cl_Sieve T.me_Sieve_hands (ok_Sieve_hands T) (hr.mono (by decide)) T.b_Sieve_hands .nil pass0) (pa_cons (pe_meth0 (pv 0) T.cl_Sieve T.me_Sieve_cap (ok_Sieve_cap T) (hr.mono (by decide)) T.b_Sieve_cap .nil pass0) pa_nil)))))
  (pss_cons (ps_fld (pv 3) (pe_callTy call_list_of (by rfl) T.n_list (by decide +kernel) (pa_cons (pv 2) pa_nil)) rfl)
  (pss_one (ps_ret (pv 3))))), ?_⟩
    have hlh := hh.2.1
    refine q_mkS c (es_make (ea_c ev_vi (ea_c (el_meth (x := x) (y := ()) (ev_v rfl rk) ea_nil trivial).ev (ea_c (ev_meth (x := x) (y := ()) (ev_v rfl rk) ea_nil trivial) ea_nil))) (by show x.hands.length ≤ 90000; omega)) (mkS_ok h0 h1 hh h2 h3) fun s cc H1 ns nc g1 sn => ?_
    obtain ⟨dx, a, hs, nac, rh⟩ := (sn.at_ c).ob
    have c1 := c.go g1
    refine q_fldLV (α := Int) c1 rfl hs T.cl_Sieve T.na_Sieve_cells (by show 4 < 1000; decide) (el_list (ev_v rfl (rp_gd rk3 c g1))) fun l H2 nl g2 ol => ?_
    have nls : l ≠ s := fun z => by rw [z, hs] at nl; cases nl
    have hs2 := g2.gr0.at0 hs
    refine ⟨_, rfl, k s l _ ns (g1.gr.dom l nl) (((g1.trans g2).gr0).mut ns) fun m' hm' => ?_⟩
    obtain ⟨dx', a', hs', nac', rh'⟩ := (sn m' hm').ob
    rw [hs] at hs'
    cases hs'
    obtain ⟨_, vs, e', na, ha, ps⟩ := rp_lst rh'
    cases e'
    have nas : a ≠ s := fun z => by rw [z, hs] at ha; cases ha
    have up : ∀ b xs, H1 b = some (.tup xs) → upd H2 s (.ins T.c_Sieve dx (svf size a x.cap l)) b = some (.tup xs) := fun b xs e => by
      rw [upd_ne (fun z => by rw [z, hs] at e; cases e)]
      exact g2.gr.tup b xs e
    refine ⟨(sn m' hm').ns, fun z => hm' l z (g1.gr.dom l nl), ?_, dx, a, upd_same, fun z => ?_, a, vs, rfl, na, ?_, paired_go ps fun _ _ r => rp_nl r up⟩
    · show upd H2 s _ l = _
      rw [upd_ne nls]
      exact ol.ints
    · rw [z, nl] at ha; cases ha
    · show upd H2 s _ a = _
      rw [upd_ne nas]
      exact g2.gr0.at0 ha
theorem ok_copied (T : Txt K mg) : FnOk P w K mg base CX0 8 T.f_copied T.d_copied ["sieve"] (SpNew (C := T.c_Sieve) (fun x : Sv T.c_Sieve × Unit => x.1.Good) fun x => x.1) := by
  refine T.F_copied.ok sc_copied (fun vs H Q E h => ?_) (fun cdv A outer s H vs Q E hr h => ?_)
  · obtain ⟨m, x, c, ⟨v, r, rfl, rk, rfl⟩, _⟩ := h
    rfl
  · obtain ⟨m, ⟨x, u⟩, c, ⟨v, r, rfl, rk, rfl⟩, good, k⟩ := h
    dsimp only at rk good k
    refine ⟨_, (pss_one (ps_ret (pe_call (ok_with_counts T) (hr.mono (by decide)) rfl T.m_with_counts T.k_with_counts T.b_with_counts .nil pass0 (pa_cons (pv 0) (pa_cons (pe_meth0 (pv 0) T.cl_Sieve T.me_Sieve_size (ok_Sieve_size T) (hr.mono (by decide)) T.b_Sieve_size .nil pass0) (pa_cons (pe_meth0 (pv 0) T.cl_Sieve T.me_Sieve_counts (ok_Sieve_counts T) (hr.mono (by decide)) T.b_Sieve_counts .nil pass0) pa_nil)))))), ?_⟩
    have hn := good.n
    have hs1 := good.s1
    exact s_retS c (es_call (T := T.er) (a := (x, x.size, x.cells, ())) (ea_c (ev_v rfl rk) (ea_c (ev_meth (x := x) (y := ()) (ev_v rfl rk) ea_nil trivial) (ea_c (el_meth (x := x) (y := ()) (ev_v rfl rk) ea_nil trivial).ev ea_nil))) ⟨⟨good.s0, good.s1, good.h, good.c0, good.c1⟩, by show x.cells.length ≤ 90000; omega⟩)
      (fun y hy s cc H1 ns nc g1 sn => by cases hy; exact k s cc H1 ns nc g1.gr0 sn) (fun e he => by cases he)
theorem ok_built (T : Txt K mg) : FnOk P w K mg base (L2.CX P w) 7 T.f_built T.d_built ["keys", "size", "hands", "cap"] (SpNewX T.er (fun x : List Int × Int × List (Int × Int) × Int × Unit => x.2.2.1.length ≤ 90000) fun x => bld T.c_Sieve x.1 x.2.1 x.2.2.1 x.2.2.2.1) := by
  refine T.F_built.okX sc_built (fun vs H Q E h => ?_) (fun cdv A outer s H vs Q E hr h => ?_)
  · obtain ⟨m, x, c, ⟨v, r, rfl, rk, ⟨v2, r2, rfl, rk2, ⟨v3, r3, rfl, rk3, ⟨v4, r4, rfl, rk4, rfl⟩⟩⟩⟩, _⟩ := h
    rfl
  · obtain ⟨m, ⟨keys, size, hands, cap, u⟩, c, ⟨v, r, rfl, rk, ⟨v2, r2, rfl, rk2, ⟨v3, r3, rfl, rk3, ⟨v4, r4, rfl, rk4, rfl⟩⟩⟩⟩, hl, k1, k2⟩ := h
    cases (show v2 = V.int size from rk2)
    cases (show v4 = V.int cap from rk4)
    dsimp only at rk rk3 hl k1 k2
    refine ⟨_, (pss_cons (ps_set (i := 4) sc_built.nd rfl (Or.inl rfl) (pe_make T.mk_Sieve (ok_Sieve_init T) (hr.mono (by decide)) rfl T.m_Sieve T.b_Sieve_init .nil (passX rfl rfl rfl rfl) (pa_cons (pv 1) (pa_cons (pv 2) (pa_cons (pv 3) pa_nil)))))
  (pss_cons (ps_for (passes_of rfl) rfl (pi_list (pv 0)) (pg_name (i := 5) sc_built.nd rfl (Or.inl rfl))
  (pss_one (ps_expr (pe_meth (pv 4) T.cl_Sieve T.me_Sieve_put (ok_Sieve_put T) (hr.mono (by decide)) T.b_Sieve_put .nil (passX rfl rfl rfl rfl) (pa_cons (pv 5) pa_nil)))))
  (pss_one (ps_ret (pv 4))))), ?_⟩
    refine q_setS c (es_make (ea_c ev_vi (ea_c (ev_v rfl rk3) (ea_c ev_vi ea_nil))) hl) (fun x0 hx0 s cc H1 ns nc g1 sn => ?_) (fun e he cl d H1 g z => k2 e (by unfold bld; rw [he]) cl d H1 g.gr0 z)
    obtain ⟨a, vs, rfl, na, ha, ps⟩ := rp_lst rk
    have ha1 := g1.gr0.at0 ha
    have nac : a ≠ cc := ne_of_none ha nc
    have ok0 := (mkS_good hx0).2.ok
    refine q_forV (xs := keys) (m := m) (vs := vs) rfl ha1 (paired_go ps fun _ _ r => rp_nl r g1.gr.tup) (fun j s2 H' => ∃ (z : Option V) (x : Sv T.c_Sieve), s2 = [some (.ref a), some (.int size), some v3, some (.int cap), some (.ref s), z] ∧ Gd none H H' ∧ H' a = some (.lst vs) ∧ SvNew H H' s cc x ∧ x.Ok ∧ puts (keys.take j) x0 = .ok x)
      ⟨none, x0, rfl, g1, ha1, sn, ok0, rfl⟩ (fun j s2 H' ⟨_, _, _, _, h, _⟩ => h) ?_ ?_
    · rintro j key w s2 H' hj ry ⟨z, x, rfl, g', ha', sn', ok', hp⟩
      cases rp_int ry
      refine g_name ?_
      refine s_mut (c.go g') rfl (sn'.at_ c) ok' ev_vi (by decide) (fun y ey H2 H3 g2 g3 a3 => ?_) (fun e he cl d H2 g2 z => k2 e ?_ cl d H2 (g'.trans g2).gr0 (z.from g'.gr))
      · refine ⟨_, y, rfl, gd_absorb (g'.trans g2) g3 nc c, g3.keep a _ (g2.gr0.at0 ha') (by simpa using nac), ?_, ok'.put ey, ?_⟩
        · exact (sn'.go (m' := []) g2.gr0 (by simp)).upd g3 a3 (put_same ey)
        · rw [take_snoc hj, puts_snoc, hp]
          exact ey
      · unfold bld
        rw [hx0]
        exact puts_err hj hp he
    · rintro s2 H' ⟨z, x, rfl, g', ha', sn', ok', hp⟩
      rw [List.take_length] at hp
      exact ⟨_, rfl, k1 x (by unfold bld; rw [hx0]; exact hp) s cc H' ns nc g'.gr0 sn'⟩
theorem ok_unlike (T : Txt K mg) : FnOk P w K mg base CX0 1 T.f_unlike T.d_unlike ["keys"] (SpL (fun x : List Int × Unit => x.1.length ≤ 90000) fun x => uniq x.1) := by
  refine T.F_unlike.ok sc_unlike (fun vs H Q E h => ?_) (fun cdv A outer s H vs Q E hr h => ?_)
  · obtain ⟨m, x, c, ⟨v, r, rfl, rk, rfl⟩, _⟩ := h
    rfl
  · obtain ⟨m, ⟨keys, u⟩, c, ⟨v, r, rfl, rk, rfl⟩, hl, k⟩ := h
    dsimp only at rk hl k
    refine ⟨_, (pss_cons (ps_set (i := 1) sc_unlike.nd rfl (Or.inl rfl) (pe_lst pa_nil))
  (pss_cons (ps_for PassesOwn.never rfl (pi_list (pv 0)) (pg_name (i := 2) sc_unlike.nd rfl (Or.inl rfl))
  (pss_one (ps_if (pt_cmpR op_notIn_seq (pv 2) (pv 1) (by rfl))
  (pss_one (ps_expr (pe_bm PySem.F.plainAttrs_list PySem.F.slot_list_append PySem.F.type_list_append mt_append (pv 1) (pa_cons (pv 2) pa_nil))))
  pss_nil)))
  (pss_one (ps_ret (pv 1))))), ?_⟩
    refine q_setLV (α := Int) c el_nil fun f H1 nf g1 o1 => ?_
    obtain ⟨a, vs, rfl, na, ha, ps⟩ := rp_lst rk
    have ha1 := g1.gr0.at0 ha
    have naf : a ≠ f := ne_of_none ha nf
    refine q_forV (xs := keys) (m := m) (vs := vs) rfl ha1 (paired_go ps fun _ _ r => rp_nl r g1.gr.tup) (fun j s2 H' => ∃ (z : Option V), s2 = [some (.ref a), some (.ref f), z] ∧ Gd none H H' ∧ H' a = some (.lst vs) ∧ Own m H' f (uniq (keys.take j)))
      ⟨none, rfl, g1, ha1, o1⟩ (fun j s2 H' ⟨_, _, _, h, _⟩ => h) ?_ ?_
    · rintro j key w s2 H' hj ry ⟨z, rfl, g', ha', o'⟩
      cases rp_int ry
      refine g_name ?_
      have c' := c.go g'
      have hul := uniq_len (keys.take j)
      rw [List.length_take] at hul
      refine s_whenV c' (et_B (ev_nin ev_vi (ev_v rfl o'.rp))) (fun e H2 g2 => ?_) (fun e H2 g2 => ?_)
      · refine s_app (α := Int) (p := fun y => y = key) (c'.go g2) (o'.gd c' g2) rfl ev_vi (by omega) fun x H3 H4 g3 hx o4 e4 => ?_
        obtain ⟨ws, rfl⟩ := e4
        subst hx
        refine ⟨_, rfl, mut_gd ((g'.trans g2).trans g3) c nf, ?_, ?_⟩
        · rw [upd_ne naf]; exact (g2.trans g3).gr0.at0 ha'
        · rw [take_snoc hj, uniq_snoc, if_neg (by simpa using e)]
          exact o4
      · refine ⟨_, rfl, g'.trans g2, g2.gr0.at0 ha', ?_⟩
        rw [take_snoc hj, uniq_snoc, if_pos (by simpa using e)]
        exact o'.gd c' g2
    · rintro s2 H' ⟨z, rfl, g', ha', o'⟩
      rw [List.take_length] at o'
      exact ⟨_, rfl, k f H' nf g'.gr0 o'⟩
theorem ok_yeses (T : Txt K mg) : FnOk P w K mg base (L2.CX P w) 4 T.f_yeses T.d_yeses ["sieve", "universe"] (SpXL T.er (fun x => x.1.Ok ∧ x.2.1.length ≤ 90000) fun x : Sv T.c_Sieve × List Int × Unit => match needKeys x.2.1 with
    | .ok _ => .ok (x.2.1.filter x.1.yes)
    | .error e => .error e) := by
  refine T.F_yeses.okX sc_yeses (fun vs H Q E h => ?_) (fun cdv A outer s H vs Q E hr h => ?_)
  · obtain ⟨m, x, c, ⟨v, r, rfl, rk, ⟨v2, r2, rfl, rk2, rfl⟩⟩, _⟩ := h
    rfl
  · obtain ⟨m, ⟨x, us, u⟩, c, ⟨v, r, rfl, rk, ⟨v2, r2, rfl, rk2, rfl⟩⟩, ⟨ok, hl⟩, k1, k2⟩ := h
    dsimp only at rk rk2 ok hl k1 k2
    refine ⟨_, (pss_cons (ps_expr (pe_call (ok_need_keys T) (hr.mono (by decide)) rfl T.m_need_keys T.k_need_keys T.b_need_keys .nil (passX rfl rfl rfl rfl) (pa_cons (pv 1) pa_nil)))
  (pss_one (ps_ret (pe_lc (own := [("key", 2)]) (g := gName 2) (by rfl) sc_yeses.nd (pi_list (pv 1)) (blkOk_by (own := [("key", 2)]) (N := N_yeses) (sc := defScope s_yeses) (by decide +kernel)) (fun _ _ _ _ _ => (pg_name (i := 2) sc_yeses.nd rfl (Or.inl rfl) (.inr rfl))) (fun _ _ _ _ _ => (pts_one (pt_val (pe_meth (pv 0) T.cl_Sieve T.me_Sieve_says (ok_Sieve_says T) (hr.mono (by decide)) T.b_Sieve_says .nil passL (pa_cons (pv 2) pa_nil))))) (fun _ _ _ _ _ => (pv 2)))))), ?_⟩
    refine q_dropX c (ex_call (x := (us, ())) (ea_c (ev_v rfl rk2) ea_nil) hl) (fun y hy H1 g1 => ?_) (fun e he cl d H1 g z => k2 e (by dsimp only at he; rw [he]) cl d H1 g.gr0 z)
    have hk := needKeys_inv hy
    have c1 := c.go g1
    have r1 := rp_gd rk c g1
    have r2 := rp_gd rk2 c g1
    refine s_retLV c1 (el_filterMap x.yes (fun k : Int => k) (ev_v rfl r2) hl fun key v H2 hm g2 c2 r => ?_) fun a H2 n g2 o => ?_
    · cases rp_int r
      refine lcT_name rfl (et_B ((ex_meth (x := x) (y := (key, ())) (ev_v rfl (rp_gd r1 c1 g2)) (ea_c ev_vi ea_nil) ok).ok (says_ok (hk key hm)))) fun _ => ev_vi
    · rw [List.map_id'] at o
      exact k1 _ (by dsimp only at hy; rw [hy]) a H2 (g1.gr.dom a n) (g1.trans g2).gr0 o
theorem ok_harm (T : Txt K mg) : FnOk P w K mg base (L2.CX P w) 9 T.f_harm T.d_harm ["sieve", "key", "keys"] (SpXL T.er (fun x => x.1.Good ∧ x.2.2.1.length ≤ 90000) fun x : Sv T.c_Sieve × Int × List Int × Unit => harms x.1 x.2.1 x.2.2.1) := by
  refine T.F_harm.okX sc_harm (fun vs H Q E h => ?_) (fun cdv A outer s H vs Q E hr h => ?_)
  · obtain ⟨m, x, c, ⟨v, r, rfl, rk, ⟨v2, r2, rfl, rk2, ⟨v3, r3, rfl, rk3, rfl⟩⟩⟩, _⟩ := h
    rfl
  · obtain ⟨m, ⟨x, key, keys, u⟩, c, ⟨v, r, rfl, rk, ⟨v2, r2, rfl, rk2, ⟨v3, r3, rfl, rk3, rfl⟩⟩⟩, ⟨good, hl⟩, k1, k2⟩ := h
    cases (show v2 = V.int key from rk2)
    dsimp only at rk rk3 good hl k1 k2
    refine ⟨_, (pss_cons (ps_expr (pe_call (ok_need_key T) (hr.mono (by decide)) rfl T.m_need_key T.k_need_key T.b_need_key .nil (passX rfl rfl rfl rfl) (pa_cons (pv 1) pa_nil)))
  (pss_cons (ps_expr (pe_call (ok_need_keys T) (hr.mono (by decide)) rfl T.m_need_keys T.k_need_keys T.b_need_keys .nil (passX rfl rfl rfl rfl) (pa_cons (pv 2) pa_nil)))
  (pss_cons (ps_set (i := 3) sc_harm.nd rfl (Or.inr rfl) (pe_call (ok_copied T) (hr.mono (by decide)) rfl T.m_copied T.k_copied T.b_copied .nil pass0 (pa_cons (pv 0) pa_nil)))
  (pss_cons (ps_expr (pe_meth (pv 3) T.cl_Sieve T.me_Sieve_take (ok_Sieve_take T) (hr.mono (by decide)) T.b_Sieve_take .nil (passX rfl rfl rfl rfl) (pa_cons (pv 1) pa_nil)))
  (pss_one (ps_ret (pe_lc (own := [("other", 4)]) (g := gName 4) (by rfl) sc_harm.nd (pi_list (pe_call (ok_unlike T) (hr.mono (by decide)) rfl T.m_unlike T.k_unlike T.b_unlike .nil pass0 (pa_cons (pv 2) pa_nil))) (blkOk_by (own := [("other", 4)]) (N := N_harm) (sc := defScope s_harm) (by decide +kernel)) (fun _ _ _ _ _ => (pg_name (i := 4) sc_harm.nd rfl (Or.inl rfl) (.inr rfl))) (fun _ _ _ _ _ => (pts_one (pt_not (pt_val (pe_meth (pv 3) T.cl_Sieve T.me_Sieve_says (ok_Sieve_says T) (hr.mono (by decide)) T.b_Sieve_says .nil passL (pa_cons (pv 4) pa_nil)))))) (fun _ _ _ _ _ => (pv 4))))))))), ?_⟩
    refine q_dropX c (ex_call (x := (key, ())) (ea_c ev_vi ea_nil) trivial) (fun y hy H1 g1 => ?_) (fun e he cl d H1 g z => k2 e (by dsimp only at he; unfold harms; rw [he]) cl d H1 g.gr0 z)
    have c1 := c.go g1
    refine q_dropX c1 (ex_call (x := (keys, ())) (ea_c (ev_v rfl (rp_gd rk3 c g1)) ea_nil) hl) (fun y2 hy2 H2 g2 => ?_) (fun e he cl d H2 g z => k2 e (by dsimp only at he hy; unfold harms; rw [hy]; dsimp only; rw [he]) cl d H2 (g1.trans g).gr0 (z.from g1.gr))
    have hk := needKeys_inv hy2
    have c2 := c1.go g2
    have g12 := g1.trans g2
    refine q_mkS c2 (es_call (T := T.er) (a := (x, ())) (ea_c (ev_v rfl (rp_gd rk c g12)) ea_nil) good) rfl fun s cc H3 ns nc g3 sn => ?_
    have c3 := c2.go g3
    refine q_mut c3 rfl (sn.at_ c2) good.ok ev_vi (by decide) (fun z ez H4 H5 g4 g5 a5 => ?_) (fun e he cl d H4 g z => k2 e (by dsimp only at hy hy2; unfold harms; rw [hy]; dsimp only; rw [hy2]; dsimp only; rw [he]) cl d H4 ((g12.trans g3).trans g).gr0 (z.from (g12.trans g3).gr))
    have g25 : Gd none H2 H5 := gd_absorb (g3.trans g4) g5 nc c2
    have c5 := c2.go g25
    have rk5 : Rp.rp m H5 keys v3 := rp_gd (rp_gd rk3 c g12) c2 g25
    refine s_retLV c5 (el_filterMap (fun o => !z.yes o) (fun k : Int => k) (el_callV (x := (keys, ())) (ea_c (ev_v rfl rk5) ea_nil) hl).ev (by have := uniq_len keys; show (uniq keys).length ≤ 90000; omega) fun o v H6 hm g6 c6 r => ?_) fun a H6 n g6 o => ?_
    · cases rp_int r
      have ho : KeyOk o := hk o (uniq_mem.mp hm)
      refine lcT_name rfl (et_notV (et_B ((ex_meth (x := z) (y := (o, ())) (ev_v rfl (a5.gd c5 g6).rp) (ea_c ev_vi ea_nil) (good.ok.take ez)).ok (says_ok ho)))) fun _ => ev_vi
    · rw [List.map_id'] at o
      refine k1 _ ?_ a H6 (g12.gr.dom a (g25.gr.dom a n)) ((g12.trans g25).trans g6).gr0 o
      dsimp only at hy hy2
      unfold harms
      rw [hy]
      dsimp only
      rw [hy2]
      dsimp only
      rw [ez]
theorem ok__law_says (T : Txt K mg) : FnOk P w K mg base CX0 2 T.f__law_says T.d__law_says ["_law_counts_here", "_law_hands_here", "_law_cap", "_law_key"] (SpF (fun x : List Int × List (Int × Int) × Int × Int × Unit => 0 < x.1.length ∧ x.1.length ≤ 1000 ∧ x.2.1.length ≤ 1000 ∧ KeyOk x.2.2.2.1) fun x => saysL x.1 x.2.1 x.2.2.1 x.2.2.2.1) := by
  refine T.F__law_says.ok sc__law_says (fun vs H Q E h => ?_) (fun cdv A outer s H vs Q E hr h => ?_)
  · obtain ⟨m, x, c, ⟨v, r, rfl, rk, ⟨v2, r2, rfl, rk2, ⟨v3, r3, rfl, rk3, ⟨v4, r4, rfl, rk4, rfl⟩⟩⟩⟩, _⟩ := h
    rfl
  · obtain ⟨m, ⟨cs, hands, cap, key, u⟩, c, ⟨v, r, rfl, rk, ⟨v2, r2, rfl, rk2, ⟨v3, r3, rfl, rk3, ⟨v4, r4, rfl, rk4, rfl⟩⟩⟩⟩, ⟨h0, h1, hh, hk⟩, k⟩ := h
    cases (show v3 = V.int cap from rk3)
    cases (show v4 = V.int key from rk4)
    dsimp only at rk rk2 h0 h1 hh hk k
    refine ⟨_, (pss_cons (ps_set (i := 4) sc__law_says.nd rfl (Or.inr rfl) (pe_call (ok__law_cells T) (hr.mono (by decide)) rfl T.m__law_cells T.k__law_cells T.b__law_cells .nil pass0 (pa_cons (pv 1) (pa_cons (pe_callB call_len_seq (by rfl) T.n_len (by decide +kernel) (pa_cons (pv 0) pa_nil)) (pa_cons (pv 3) pa_nil)))))
  (pss_one (ps_ret (pe_cmpR (op_eqD hr.units) (pe_lc (own := [("_law_cell", 5)]) (g := gName 5) (by rfl) sc__law_says.nd (pi_list (pv 4)) (blkOk_by (own := [("_law_cell", 5)]) (N := N__law_says) (sc := defScope s__law_says) (by decide +kernel)) (fun _ _ _ _ _ => (pg_name (i := 5) sc__law_says.nd rfl (Or.inl rfl) (.inr rfl))) (fun _ _ _ _ _ => (pts_one (pt_cmpR op_lt (pe_ix (show IxR _ (rIxL K) from ix_list) (pv 0) (pv 5) (fun _ _ => rfl)) (pe_callB (call_min2 rfl) (by rfl) T.n_min (by decide +kernel) (pa_cons (pv 2) (pa_cons (pe_bmK PySem.F.plainAttrs_list PySem.F.slot_list_count PySem.F.type_list_count (show MtR _ "list.count" (rCntI K) from mt_lcount) (pv 4) (pa_cons (pv 5) pa_nil)) pa_nil))) (nomark _)))) (fun _ _ _ _ _ => (pv 5))) (pe_lst pa_nil) (nomark _))))), ?_⟩
    have hk1 := hk.1
    have hk2 := hk.2
    refine q_setLV c (el_callV (x := (hands, (cs.length : Int), key, ())) (ea_c (ev_v rfl rk2) (ea_c (ev_len (ev_v rfl rk)) (ea_c ev_vi ea_nil))) ⟨by show hands.length ≤ 90000; omega, by show (0 : Int) < cs.length; omega, by show -(2 ^ 64) < key; omega, by show key < 2 ^ 64; omega⟩) fun a H1 na g1 oa => ?_
    have c1 := c.go g1
    have r1 := rp_gd rk c g1
    have hpl : (pointed hands (cs.length : Int) key).length = hands.length := by unfold pointed; simp
    refine s_retV c1 (ev_eqDV (x := (pointed hands (cs.length : Int) key).filter fun c => decide (cat cs c < min cap (((pointed hands (cs.length : Int) key).count c : Nat) : Int))) (y := []) (EvL.ev (EvL.imp (el_filterMap (fun c => decide (cat cs c < min cap (((pointed hands (cs.length : Int) key).count c : Nat) : Int))) (fun c : Int => c) (ev_v rfl oa.rp) (by show (pointed hands (cs.length : Int) key).length ≤ 90000; omega) ?_) fun l e => e.trans (List.map_id' _))) el_nil.ev (ok_ints _) (ok_ints _)) fun v H2 g2 r => k v H2 (g1.trans g2).gr0 r
    rintro i v H2 hi g2 c2 r
    cases rp_int r
    have hb := pointed_mem (show (0 : Int) < cs.length by omega) hi
    exact lcT_name rfl (et_B (ev_ob (ev_ixLV (x := cat cs i) (ev_v rfl (rp_gd r1 c1 g2)) ev_vi (atI_cat hb.1 hb.2)) (ev_min ev_vi (ev_count (ev_v rfl (oa.gd c1 g2).rp) ev_vi)))) fun _ => ev_vi
theorem ok_others (T : Txt K mg) : FnOk P w K mg base CX0 1 T.f_others T.d_others ["universe", "keys"] (SpL (fun x : List Int × List Int × Unit => x.1.length ≤ 90000) fun x => othersF x.1 x.2.1) := by
  refine T.F_others.ok sc_others (fun vs H Q E h => ?_) (fun cdv A outer s H vs Q E hr h => ?_)
  · obtain ⟨m, x, c, ⟨v, r, rfl, rk, ⟨v2, r2, rfl, rk2, rfl⟩⟩, _⟩ := h
    rfl
  · obtain ⟨m, ⟨us, ks, u⟩, c, ⟨v, r, rfl, rk, ⟨v2, r2, rfl, rk2, rfl⟩⟩, hl, k⟩ := h
    dsimp only at rk rk2 hl k
    refine ⟨_, (pss_one (ps_ret (pe_lc (own := [("key", 2)]) (g := gName 2) (by rfl) sc_others.nd (pi_list (pv 0)) (blkOk_by (own := [("key", 2)]) (N := N_others) (sc := defScope s_others) (by decide +kernel)) (fun _ _ _ _ _ => (pg_name (i := 2) sc_others.nd rfl (Or.inl rfl) (.inr rfl))) (fun _ _ _ _ _ => (pts_one (pt_cmpR (show OpR _ (compareOp .NotIn) (rIn K true) from op_notIn_seq) (pv 2) (pv 1) (by rfl)))) (fun _ _ _ _ _ => (pv 2))))), ?_⟩
    refine s_retLV c (el_filterMap (fun k => !decide (k ∈ ks)) (fun k : Int => k) (ev_v rfl rk) hl fun key v H2 hm g2 c2 r => ?_) fun a H2 n g2 o => ?_
    · cases rp_int r
      exact lcT_name rfl (et_B (ev_nin ev_vi (ev_v rfl (rp_gd rk2 c g2)))) fun _ => ev_vi
    · rw [List.map_id'] at o
      exact k a H2 n g2.gr0 o
theorem ok_wrong (T : Txt K mg) : FnOk P w K mg base (L2.CX P w) 4 T.f_wrong T.d_wrong ["sieve", "universe", "keys"] (SpXL T.er (fun x => x.1.Ok ∧ x.2.1.length ≤ 90000 ∧ x.2.2.1.length ≤ 90000) fun x : Sv T.c_Sieve × List Int × List Int × Unit => wrongF x.1 x.2.1 x.2.2.1) := by
  refine T.F_wrong.okX sc_wrong (fun vs H Q E h => ?_) (fun cdv A outer s H vs Q E hr h => ?_)
  · obtain ⟨m, x, c, ⟨v, r, rfl, rk, ⟨v2, r2, rfl, rk2, ⟨v3, r3, rfl, rk3, rfl⟩⟩⟩, _⟩ := h
    rfl
  · obtain ⟨m, ⟨x, us, ks, u⟩, c, ⟨v, r, rfl, rk, ⟨v2, r2, rfl, rk2, ⟨v3, r3, rfl, rk3, rfl⟩⟩⟩, ⟨ok, hl, hl2⟩, k1, k2⟩ := h
    dsimp only at rk rk2 rk3 ok hl hl2 k1 k2
    refine ⟨_, (pss_cons (ps_expr (pe_call (ok_need_keys T) (hr.mono (by decide)) rfl T.m_need_keys T.k_need_keys T.b_need_keys .nil (passX rfl rfl rfl rfl) (pa_cons (pv 1) pa_nil)))
  (pss_cons (ps_expr (pe_call (ok_need_keys T) (hr.mono (by decide)) rfl T.m_need_keys T.k_need_keys T.b_need_keys .nil (passX rfl rfl rfl rfl) (pa_cons (pv 2) pa_nil)))
  (pss_one (ps_ret (pe_lc (own := [("key", 3)]) (g := gName 3) (by rfl) sc_wrong.nd (pi_list (pe_call (ok_others T) (hr.mono (by decide)) rfl T.m_others T.k_others T.b_others .nil pass0 (pa_cons (pv 1) (pa_cons (pv 2) pa_nil)))) (blkOk_by (own := [("key", 3)]) (N := N_wrong) (sc := defScope s_wrong) (by decide +kernel)) (fun _ _ _ _ _ => (pg_name (i := 3) sc_wrong.nd rfl (Or.inl rfl) (.inr rfl))) (fun _ _ _ _ _ => (pts_one (pt_val (pe_meth (pv 0) T.cl_Sieve T.me_Sieve_says (ok_Sieve_says T) (hr.mono (by decide)) T.b_Sieve_says .nil passL (pa_cons (pv 3) pa_nil))))) (fun _ _ _ _ _ => (pv 3))))))), ?_⟩
    refine q_dropX c (ex_call (x := (us, ())) (ea_c (ev_v rfl rk2) ea_nil) hl) (fun y hy H1 g1 => ?_) (fun e he cl d H1 g z => k2 e (by dsimp only at he; unfold wrongF; rw [he]) cl d H1 g.gr0 z)
    have hu := needKeys_inv hy
    have c1 := c.go g1
    refine q_dropX c1 (ex_call (x := (ks, ())) (ea_c (ev_v rfl (rp_gd rk3 c g1)) ea_nil) hl2) (fun y2 hy2 H2 g2 => ?_) (fun e he cl d H2 g z => k2 e (by dsimp only at he hy; unfold wrongF; rw [hy]; dsimp only; rw [he]) cl d H2 (g1.trans g).gr0 (z.from g1.gr))
    have hk := needKeys_inv hy2
    have c2 := c1.go g2
    have g12 := g1.trans g2
    have rs := rp_gd rk c g12
    refine s_retLV c2 (el_filterMap x.yes (fun k : Int => k) (el_callV (x := (us, ks, ())) (ea_c (ev_v rfl (rp_gd rk2 c g12)) (ea_c (ev_v rfl (rp_gd rk3 c g12)) ea_nil)) hl).ev (Nat.le_trans (othersF_len us ks) hl) fun key v H3 hm g3 c3 r => ?_) fun a H3 n g3 o => ?_
    · cases rp_int r
      have hkey : KeyOk key := hu key (List.mem_filter.mp hm).1
      exact lcT_name rfl (et_B ((ex_meth (x := x) (y := (key, ())) (ev_v rfl (rp_gd rs c2 g3)) (ea_c ev_vi ea_nil) ok).ok (says_ok hkey))) fun _ => ev_vi
    · rw [List.map_id'] at o
      exact k1 _ (wrongF_ok hu hk) a H3 (g12.gr.dom a n) (g12.trans g3).gr0 o
theorem ok_share (T : Txt K mg) : FnOk P w K mg base (L2.CX P w) 5 T.f_share T.d_share ["sieve", "universe", "keys"] (SpX T.er (fun x => x.1.Ok ∧ x.2.1.length ≤ 90000 ∧ x.2.2.1.length ≤ 90000) fun x : Sv T.c_Sieve × List Int × List Int × Unit => shareF x.1 x.2.1 x.2.2.1) := by
  refine T.F_share.okX sc_share (fun vs H Q E h => ?_) (fun cdv A outer s H vs Q E hr h => ?_)
  · obtain ⟨m, x, c, ⟨v, r, rfl, rk, ⟨v2, r2, rfl, rk2, ⟨v3, r3, rfl, rk3, rfl⟩⟩⟩, _⟩ := h
    rfl
  · obtain ⟨m, ⟨x, us, ks, u⟩, c, ⟨v, r, rfl, rk, ⟨v2, r2, rfl, rk2, ⟨v3, r3, rfl, rk3, rfl⟩⟩⟩, ⟨ok, hl, hl2⟩, k1, k2⟩ := h
    dsimp only at rk rk2 rk3 ok hl hl2 k1 k2
    refine ⟨_, (pss_cons (ps_set (i := 3) sc_share.nd rfl (Or.inl rfl) (pe_call (ok_wrong T) (hr.mono (by decide)) rfl T.m_wrong T.k_wrong T.b_wrong .nil (passX rfl rfl rfl rfl) (pa_cons (pv 0) (pa_cons (pv 1) (pa_cons (pv 2) pa_nil)))))
  (pss_one (ps_ret (pe_tup (pa_cons (pe_callB call_len_seq (by rfl) T.n_len (by decide +kernel) (pa_cons (pv 3) pa_nil)) (pa_cons (pe_callB call_len_seq (by rfl) T.n_len (by decide +kernel) (pa_cons (pe_call (ok_others T) (hr.mono (by decide)) rfl T.m_others T.k_others T.b_others .nil pass0 (pa_cons (pv 1) (pa_cons (pv 2) pa_nil))) pa_nil)) pa_nil)))))), ?_⟩
    refine q_setXL c (ex_callL (x := (x, us, ks, ())) (ea_c (ev_v rfl rk) (ea_c (ev_v rfl rk2) (ea_c (ev_v rfl rk3) ea_nil))) ⟨ok, hl, hl2⟩) (fun l hl' a H1 n g1 o => ?_) (fun e he cl d H1 g z => k2 e (by dsimp only at he; unfold shareF; rw [he]) cl d H1 g.gr0 z)
    have c1 := c.go g1
    refine s_retV c1 (ev_pairV (ev_len (ev_v rfl o.rp)) (ev_len (el_callV (x := (us, ks, ())) (ea_c (ev_v rfl (rp_gd rk2 c g1)) (ea_c (ev_v rfl (rp_gd rk3 c g1)) ea_nil)) hl).ev)) fun v H2 g2 r => ?_
    exact k1 _ (by dsimp only at hl'; unfold shareF; rw [hl']) v H2 (g1.trans g2).gr0 r
theorem ok_stuck (T : Txt K mg) : FnOk P w K mg base (L2.CX P w) 5 T.f_stuck T.d_stuck ["sieve", "universe"] (SpXLN T.er (fun x => x.1.Ok ∧ x.2.1.length ≤ 90000) fun x : Sv T.c_Sieve × List Int × Unit => stuckF x.1 x.2.1) := by
  refine T.F_stuck.okX sc_stuck (fun vs H Q E h => ?_) (fun cdv A outer s H vs Q E hr h => ?_)
  · obtain ⟨m, x, c, ⟨v, r, rfl, rk, ⟨v2, r2, rfl, rk2, rfl⟩⟩, _⟩ := h
    rfl
  · obtain ⟨m, ⟨x, us, u⟩, c, ⟨v, r, rfl, rk, ⟨v2, r2, rfl, rk2, rfl⟩⟩, ⟨ok, hl⟩, k1, k2⟩ := h
    dsimp only at rk rk2 ok hl k1 k2
    refine ⟨_, (pss_cons (ps_set (i := 2) sc_stuck.nd rfl (Or.inl rfl) (pe_lst pa_nil))
  (pss_cons (ps_for (passes_of rfl) rfl (pi_list (pe_call (ok_yeses T) (hr.mono (by decide)) rfl T.m_yeses T.k_yeses T.b_yeses .nil (passX rfl rfl rfl rfl) (pa_cons (pv 0) (pa_cons (pv 1) pa_nil)))) (pg_name (i := 3) sc_stuck.nd rfl (Or.inl rfl))
  (pss_cons (ps_set (i := 4) sc_stuck.nd rfl (Or.inl rfl) (pe_meth (pv 0) T.cl_Sieve T.me_Sieve_stuck_cells (ok_Sieve_stuck_cells T) (hr.mono (by decide)) T.b_Sieve_stuck_cells .nil pass0 (pa_cons (pv 3) pa_nil)))
  (pss_one (ps_if (pt_cmpR (op_neD hr.units) (pv 4) (pe_lst pa_nil) (nomark _))
  (pss_one (ps_expr (pe_bm PySem.F.plainAttrs_list PySem.F.slot_list_append PySem.F.type_list_append mt_append (pv 2) (pa_cons (pe_tup (pa_cons (pv 3) (pa_cons (pv 4) pa_nil))) pa_nil))))
  pss_nil))))
  (pss_one (ps_ret (pv 2))))), ?_⟩
    refine q_rawA ⟨(by show 0 ≤ sizeLine; decide), fun af naf => g_name ?_⟩
    have g1 : Gd none H (upd H af (.lst [])) := .new naf
    have c1 := c.go g1
    have haf1 : upd H af (.lst []) af = some (.lst []) := upd_same
    generalize upd H af (.lst []) = H1 at *
    have cf1 : Cc none (af :: m) H1 := c1.cons haf1
    have rs := rp_g0 (rp_more rk naf) g1.gr0
    refine sq ?_
    show tFor _ _ _ _ _ _
    refine ex_callL (T := T.er) (x := (x, us, ())) (ea_c (ev_v rfl rs) (ea_c (ev_v rfl (rp_g0 (rp_more rk2 naf) g1.gr0)) ea_nil)) ⟨ok, hl⟩ H1 .refl cf1 _ (fun ys hys a H2 na g2 o => ?_) (fun e he cl d H2 g z => k2 e ?_ cl d H2 (g1.trans g).gr0 (z.from g1.gr))
    · have hy : yesesF x us = .ok ys := hys
      have hu : ∀ k, k ∈ us → KeyOk k := by
        unfold yesesF at hy
        split at hy
        · rename_i h; exact needKeys_inv h
        · cases hy
      rw [yesesF_ok hu] at hy
      cases hy
      have hlen : (us.filter x.yes).length ≤ 90000 := Nat.le_trans (List.length_filter_le _ _) hl
      obtain ⟨nam, vs, ha, ps⟩ := id o
      have hints := paired_ints ps
      subst hints
      have naaf : a ≠ af := fun z => nam (by rw [z]; simp)
      have haf2 := g2.gr0.at0 haf1
      have g02 := g1.trans g2
      refine ⟨a, rfl, ⟨_, .of ha⟩, for_list (K := K) (a := a) (xs := (us.filter x.yes).map V.int) (fun j s2 H' => ∃ x3 x4 : Option V, s2 = [some v, some v2, some (.ref af), x3, x4] ∧ Gd none H H' ∧ H' a = some (.lst ((us.filter x.yes).map V.int)) ∧ Rp.rp (af :: m) H' x v ∧ ∀ m', (∀ b, b ∈ m' → H b ≠ none) → OwnN m' H' af (stucks x ((us.filter x.yes).take j)))
        ⟨none, none, rfl, g02, ha, rp_gd rs cf1 g2, fun m' hm' => .nil (fun z => hm' af z naf) haf2⟩ (fun j s2 H' _ ⟨_, _, _, _, h, _⟩ => .of h) ?_ ?_⟩
      · rintro j w s2 H' hj ⟨x3, x4, rfl, g', ha', rs', oN⟩
        have hlt : j < (us.filter x.yes).length := by have := (List.getElem?_eq_some_iff.mp hj).1; rwa [List.length_map] at this
        have hk' : (us.filter x.yes)[j]? = some (us.filter x.yes)[j] := List.getElem?_eq_getElem hlt
        rw [List.getElem?_map, hk'] at hj
        generalize (us.filter x.yes)[j] = key at *
        cases hj
        have hkey : KeyOk key := hu key (List.mem_filter.mp (List.mem_of_getElem? hk')).1
        have c' := c.go g'
        have oNm := oN m c.dm
        have cf' : Cc none (af :: m) H' := by
          obtain ⟨_, vv, hv, _⟩ := oNm
          exact c'.cons hv
        refine g_name ?_
        refine q_setLV cf' (el_meth (x := x) (y := (key, ())) (ev_v rfl rs') (ea_c ev_vi ea_nil) ⟨ok, hkey⟩) fun ac H3 nac g3 oc => ?_
        have cf3 := cf'.go g3
        have snoc := stucks_snoc x ((us.filter x.yes).take j) key
        rw [← take_snoc hk'] at snoc
        refine s_whenV cf3 (et_B (ev_neDV (x := x.stuck key) (y := []) (ev_v rfl oc.rp) el_nil.ev (ok_ints _) (ok_ints _))) (fun e H4 g4 => ?_) (fun e H4 g4 => ?_)
        · have hs : ¬ x.stuck key = [] := by simpa using e
          rw [if_neg hs] at snoc
          have g34 := g3.trans g4
          have oc4 := oc.gd cf3 g4
          have hac4 := oc4.ints
          have nacH : H ac = none := g'.gr.dom ac nac
          have nacf : ac ≠ af := fun z => oc.1 (by rw [z]; simp)
          obtain ⟨_, ws, haf', pw⟩ := id oNm
          have haf4 := g34.gr0.at0 haf'
          have hwl := pw.length
          have hsl := stucks_len x ((us.filter x.yes).take j)
          rw [List.length_take] at hsl
          refine ⟨_, rfl, .inl ⟨rfl, _, .inl (.inl haf4)⟩, _, rfl, _, rfl, (by show 2 ≤ sizeLine; decide), fun t ht => ?_⟩
          have gt : Gr (m := []) H4 (upd H4 t (.tup [.int key, .ref ac])) := .new ht
          have haf5 := gt.at0 haf4
          have hac5 := gt.at0 hac4
          have ht5 : upd H4 t (.tup [.int key, .ref ac]) t = some (.tup [.int key, .ref ac]) := upd_same
          generalize upd H4 t (.tup [.int key, .ref ac]) = H5 at *
          have g5 : Gd none H H5 := (g'.trans g34).trans (.pure gt)
          refine ⟨af, ws, _, rfl, rfl, haf5, Evl.sz_lt (by omega), ?_⟩
          refine ⟨_, _, rfl, mut_gd g5 c naf, ?_, ?_, fun m' hm' => ?_⟩
          · rw [upd_ne naaf]; exact (g34.gr0.trans gt).at0 ha'
          · refine Rp.go (m := af :: m) (m' := af :: m) (H := H5) (fun b o e nb => ⟨nb, by rw [upd_ne (fun z => nb (by rw [z]; simp))]; exact e⟩) (fun b xs e => by rw [upd_ne (fun z => by rw [z, haf5] at e; cases e)]; exact e) (rp_g0 rs' (g34.gr0.trans gt))
          · rw [snoc]
            have oN5 : OwnN m' H5 af (stucks x ((us.filter x.yes).take j)) := (oN m' hm').go (g34.gr0.trans gt) (by simp)
            refine oN5.app haf5 (x := (key, x.stuck key)) (v := .ref t) ⟨t, _, _, rfl, ht5, rfl, ac, _, rfl, ?_, hac5, ints_paired _⟩
            intro z
            rcases List.mem_cons.mp z with z | z
            · exact nacf z
            · exact hm' ac z nacH
        · have hs : x.stuck key = [] := by simpa using e
          rw [if_pos hs] at snoc
          have g34 := g3.trans g4
          refine ⟨_, _, rfl, g'.trans g34, g34.gr0.at0 ha', rp_gd rs' cf' g34, fun m' hm' => ?_⟩
          rw [snoc]
          exact (oN m' hm').go g34.gr0 (by simp)
      · rintro s2 H' ⟨x3, x4, rfl, g', ha', rs', oN⟩
        rw [List.length_map, List.take_length] at oN
        exact ⟨_, rfl, k1 _ (stuckF_ok hu) af H' naf g'.gr0 oN⟩
    · have he' : yesesF x us = .error e := he
      unfold stuckF
      rw [he']
theorem ok__law_universe (T : Txt K mg) : FnOk P w K mg base CX0 3 T.f__law_universe T.d__law_universe ["_law_h", "_law_many", "_law_keys_here"] (SpDL (fun x : Int × List Int × Unit => 0 ≤ x.1 ∧ x.1 ≤ 100 ∧ x.2.1.length ≤ 1000 ∧ ∀ k, k ∈ x.2.1 → KeyOk k) fun x ys => ys.Nodup ∧ (ys.length : Int) ≤ x.2.1.length + 2 * x.1 ∧ ∀ k, k ∈ ys → KeyOk k) := by
  refine T.F__law_universe.ok sc__law_universe (fun vs H Q E h => ?_) (fun cdv A outer s H vs Q E hr h => ?_)
  · obtain ⟨p, q, m, x, ws, rfl, _, ⟨v, r, rfl, rk, ⟨v2, r2, rfl, rk2, rfl⟩⟩, _⟩ := h
    rfl
  · obtain ⟨p, q, m, ⟨many, keys, u⟩, ws, rfl, c, ⟨v, r, rfl, rk, ⟨v2, r2, rfl, rk2, rfl⟩⟩, ⟨h0, h1, hl, hk⟩, k⟩ := h
    cases (show v = V.int many from rk)
    dsimp only at rk2 h0 h1 hl hk k
    refine ⟨_, (pss_cons (ps_set (i := 3) sc__law_universe.nd rfl (Or.inl rfl) (pe_lst pa_nil))
  (pss_cons (ps_for PassesOwn.never rfl (pi_list (pe_op op_cat (pe_op op_cat (pv 2) (pe_call (ok__law_keys T) (hr.mono (by decide)) rfl T.m__law_keys T.k__law_keys T.b__law_keys .nil pass0 (pa_cons (pv 0) (pa_cons (pv 1) pa_nil)))) (pe_lc (own := [("_law_k", 5)]) (g := gName 5) (tt := tYes) (by rfl) sc__law_universe.nd (pi_range1 rfl T.n_range (pa_cons (pv 1) pa_nil)) (blkOk_by (own := [("_law_k", 5)]) (N := N__law_universe) (sc := defScope s__law_universe) (by decide +kernel)) (fun _ _ _ _ _ => (pg_name (i := 5) sc__law_universe.nd rfl (Or.inl rfl) (.inr rfl))) (fun _ _ _ _ _ => pts_nil) (fun _ _ _ _ _ => (pe_call (ok__law_next T) (hr.mono (by decide)) rfl T.m__law_next T.k__law_next T.b__law_next .nil pass0 (pa_cons (pv 0) (pa_cons pe_int pa_nil))))))) (pg_name (i := 4) sc__law_universe.nd rfl (Or.inl rfl))
  (pss_one (ps_if (PW.pt (pw_and (pt_cmpR op_notIn_seq (pv 4) (pv 3) (by rfl)) (pw_and1 (pt_cmpR op_gt (pe_call (ok__law_next T) (hr.mono (by decide)) rfl T.m__law_next T.k__law_next T.b__law_next .nil pass0 (pa_cons (pv 0) (pa_cons pe_int pa_nil))) pe_int (nomark _)))))
  (pss_one (ps_expr (pe_bm PySem.F.plainAttrs_list PySem.F.slot_list_append PySem.F.type_list_append mt_append (pv 3) (pa_cons (pv 4) pa_nil))))
  pss_nil)))
  (pss_one (ps_ret (pe_slStep (pv 3) (pe_ix ix_list (pe_lst (pa_cons pe_int (pa_cons (pe_un un_neg pe_int) pa_nil))) (pe_call (ok__law_next T) (hr.mono (by decide)) rfl T.m__law_next T.k__law_next T.b__law_next .nil pass0 (pa_cons (pv 0) (pa_cons pe_int pa_nil))) (fun _ _ => rfl))))))), ?_⟩
    refine q_setLV (α := Int) c el_nil fun af H1 naf g1 of => ?_
    have c1 := c.go g1
    refine q_forLLP (p := fun l : List Int => (l.length : Int) ≤ keys.length + 2 * many ∧ ∀ k, k ∈ l → KeyOk k) c1 (el_catP (p := fun l : List Int => (l.length : Int) ≤ keys.length + many ∧ ∀ k, k ∈ l → KeyOk k) (q := fun l : List Int => (l.length : Int) ≤ many ∧ ∀ k, k ∈ l → KeyOk k)
      (EvL.ev (el_catP (p := fun l : List Int => l = keys) (q := KeysOk many) (ev_v rfl (rp_gd rk2 c g1)) (EvL.ev (el_drawn rfl (ea_c ev_vi ea_nil) fun x e => by subst e; exact ⟨⟨h0, by show many ≤ 1000; omega⟩, fun y z => z⟩)) (fun xs ys a b => by subst a; have := b.1; exact ⟨by omega, by omega⟩) fun xs ys a b => ?_))
      (EvL.ev (el_lcR1 (β := Int) (q := fun n => n = many) (fun n j acc => acc.length = j ∧ ∀ y, y ∈ acc → KeyOk y) ev_vi (fun n e => by subst e; omega) (fun n e => ⟨rfl, by simp⟩) (fun n j H1 acc e hj g c1 hI => ⟨fun b => b = true, KeyOk, lcT_name rfl tYes_ok fun _ => (ev_nextC rfl (by decide)), fun y _ hy => ⟨by simp [hI.1], fun z hz => ?_⟩, fun z => by cases z⟩) fun n acc e hI => ⟨by rw [hI.1, e]; omega, hI.2⟩)) (fun xs ys a b => by have := a.1; have := b.1; exact ⟨by omega, by omega⟩) fun xs ys a b => ?_) fun ks aks vks H2 hks nks g2 nm haks pk => ?_
    · subst a
      refine ⟨by rw [List.length_append]; have := b.1; omega, fun k hk' => ?_⟩
      rcases List.mem_append.mp hk' with z | z
      · exact hk k z
      · exact b.2 k z
    · rcases List.mem_append.mp hz with z1 | z1
      · exact hI.2 z z1
      · rw [List.mem_singleton.mp z1]; exact hy
    · refine ⟨by rw [List.length_append]; have := a.1; have := b.1; omega, fun k hk' => ?_⟩
      rcases List.mem_append.mp hk' with z | z
      · exact a.2 k z
      · exact b.2 k z
    · have c2 := c1.go g2
      have naks : aks ≠ af := fun z => by
        obtain ⟨vf, hf, _⟩ := of.ex
        rw [z, hf] at nks
        cases nks
      refine ⟨fun j s2 H' => ∃ (ys : List Int) (x4 x5 : Option V), s2 = [some (.ref p), some (.int many), some v2, some (.ref af), x4, x5] ∧ Gd (some (p, q)) H H' ∧ H' aks = some (.lst vks) ∧ Own m H' af ys ∧ ys.length ≤ j ∧ ys.Nodup ∧ ∀ k, k ∈ ys → KeyOk k,
        ⟨[], none, none, rfl, g1.trans g2, haks, of.gd c1 g2, Nat.le_refl _, List.nodup_nil, by simp⟩, fun j s2 H' ⟨_, _, _, _, _, h, _⟩ => h, ?_, ?_⟩
      · rintro j key w s2 H' hj ry ⟨ys, x4, x5, rfl, g', hks', of', hlj, hnd, hy⟩
        cases rp_int ry
        have c' := c.go g'
        have hkey := hks.2 key (List.mem_of_getElem? hj)
        have hjl : j < ks.length := (List.getElem?_eq_some_iff.mp hj).1
        have hkl := hks.1
        refine g_name ?_
        refine s_when (p := fun b => b = true → key ∉ ys) c' (et_and (p := fun b => b = true → key ∉ ys) (q := fun _ => True) (et_B ((ev_nin ev_vi (ev_v rfl of'.rp)).imp fun b e z => by rw [e] at z; simpa using z)) (fun _ => et_B (ev_ib (p := fun _ => True) (q := fun _ => True) (ev_nextC rfl (by decide)).any ev_c.any fun _ _ _ _ => trivial)) (fun _ z => by cases z) (fun b e _ _ => e rfl)) (fun e H3 g3 => ?_) (fun _ H3 g3 => ?_)
        · have hn := e rfl
          refine s_app (α := Int) (p := fun y => y = key) (c'.go g3) (of'.gd c' g3) rfl ev_vi (by omega) fun x H4 H5 g4 hx o5 e5 => ?_
          obtain ⟨vs5, rfl⟩ := e5
          subst hx
          refine ⟨ys ++ [x], _, _, rfl, mut_gd ((g'.trans g3).trans g4) c naf, ?_, o5, by rw [List.length_append]; show ys.length + 1 ≤ _; omega, ?_, fun z hz => ?_⟩
          · rw [upd_ne naks]
            exact (g3.trans g4).gr.keep aks _ hks' fun z => nm (c.sub aks z)
          · rw [List.nodup_append]
            exact ⟨hnd, by simp, fun a ha b hb e => hn (by rw [List.mem_singleton.mp hb] at e; rw [← e]; exact ha)⟩
          · rcases List.mem_append.mp hz with z1 | z1
            · exact hy z z1
            · rw [List.mem_singleton.mp z1]; exact hkey
        · exact ⟨ys, _, _, rfl, g'.trans g3, g3.gr.keep aks _ hks' fun z => nm (c.sub aks z), of'.gd c' g3, by omega, hnd, hy⟩
      · rintro s2 H' ⟨ys, x4, x5, rfl, g', hks', of', hlj, hnd, hy⟩
        have c' := c.go g'
        have hkl := hks.1
        refine s_retL (α := Int) (p := fun zs => zs.Nodup ∧ (zs.length : Int) ≤ keys.length + 2 * many ∧ ∀ k, k ∈ zs → KeyOk k) c' (el_step (p := fun l => l = ys) (q := fun k => k = 1 ∨ k = -1) (ev_v rfl of'.rp) (ev_ixL (xs := [1, -1]) (q := fun i => 0 ≤ i ∧ i < 2) (el_lst (ei_consV ev_c (ei_consV (ev_un (r := fun i => i = -1) ev_c fun i e => by rw [e]) ei_nil)) (fun xs e => by rw [e]; show 2 ≤ 100000; decide)).ev (ev_nextC rfl (by decide)) fun i b => ?_) (fun k e => by omega) fun xs zs e hm hl2 hn2 => by subst e; exact ⟨hn2 (fun k h => h) hnd, by omega, fun k hk' => hy k (hm k hk')⟩) fun zs a H3 na g3 o3 hz => ?_
        · obtain ⟨x, hx, hm⟩ := atI_of (xs := ([1, -1] : List Int)) b.1 b.2
          refine ⟨x, hx, ?_⟩
          simpa using hm
        · exact k zs a H3 (g'.gr.dom a na) (g'.trans g3) o3 hz
theorem ok_NoSieve_init (T : Txt K mg) : FnOk P w K mg base CX0 1 T.f_NoSieve_init T.d_NoSieve_init ["self", "paper"] (spErrI T.c_NoSieve "paper") := by
  refine T.F_NoSieve_init.ok sc_NoSieve_init (fun vs H Q E h => ?_) (fun cdv A outer s H vs Q E hr h => ?_)
  · obtain ⟨a, v, rfl, _⟩ := h
    rfl
  · obtain ⟨a, v, rfl, ha, k⟩ := h
    refine ⟨_, (pss_one (ps_ost (pv 0) (pv 1))), ?_⟩
    exact ⟨_, rfl, _, rfl, a, T.c_NoSieve, rfl, T.ox_NoSieve, T.xn_NoSieve_paper, .inl ⟨ha, fun dx hd ne => k dx hd ne⟩⟩
theorem ok_BadText_init (T : Txt K mg) : FnOk P w K mg base CX0 1 T.f_BadText_init T.d_BadText_init ["self", "row"] (spErrI T.c_BadText "row") := by
  refine T.F_BadText_init.ok sc_BadText_init (fun vs H Q E h => ?_) (fun cdv A outer s H vs Q E hr h => ?_)
  · obtain ⟨a, v, rfl, _⟩ := h
    rfl
  · obtain ⟨a, v, rfl, ha, k⟩ := h
    refine ⟨_, (pss_one (ps_ost (pv 0) (pv 1))), ?_⟩
    exact ⟨_, rfl, _, rfl, a, T.c_BadText, rfl, T.ox_BadText, T.xn_BadText_row, .inl ⟨ha, fun dx hd ne => k dx hd ne⟩⟩
theorem rec__law_alike (T : Txt K mg) : ∀ n : Nat, FnOk P w K mg base CX0 (n + 1) T.f__law_alike T.d__law_alike ["_law_found", "_law_due"] (SpAlike n) := by
  intro n
  induction n with
  | zero => exact ⟨fun vs H Q E ⟨v1, v2, d, _, h, _⟩ => h.elim, fun A outer s H args us vs Q E hr he hb hv ⟨v1, v2, d, _, h, _⟩ => h.elim⟩
  | succ n ih =>
  refine T.F__law_alike.ok sc__law_alike (fun vs H Q E h => ?_) (fun cdv A outer s H vs Q E hr h => ?_)
  · obtain ⟨v1, v2, d, rfl, _⟩ := h
    rfl
  · obtain ⟨v1, v2, d, rfl, a1, a2, k⟩ := h
    refine ⟨_, (pss_cons (ps_if (pt_val (pe_callB call_isiT (by rfl) T.n_isinstance (by decide +kernel) (pa_cons (pv 1) (pa_cons (pe_tup (pa_cons (pe_bltn (v := .ty "list") rfl T.n_list (by decide +kernel) rfl) (pa_cons (pe_bltn (v := .ty "tuple") rfl T.n_tuple (by decide +kernel) rfl) pa_nil))) pa_nil))))
  (pss_cons (ps_if (PW.pt (pw_or (pt_not (pt_val (pe_callB call_isiT (by rfl) T.n_isinstance (by decide +kernel) (pa_cons (pv 0) (pa_cons (pe_tup (pa_cons (pe_bltn (v := .ty "list") rfl T.n_list (by decide +kernel) rfl) (pa_cons (pe_bltn (v := .ty "tuple") rfl T.n_tuple (by decide +kernel) rfl) pa_nil))) pa_nil))))) (pw_or1 (pt_cmpR op_ne (pe_callB call_isi (by rfl) T.n_isinstance (by decide +kernel) (pa_cons (pv 0) (pa_cons (pe_bltn (v := .ty "list") rfl T.n_list (by decide +kernel) rfl) pa_nil))) (pe_callB call_isi (by rfl) T.n_isinstance (by decide +kernel) (pa_cons (pv 1) (pa_cons (pe_bltn (v := .ty "list") rfl T.n_list (by decide +kernel) rfl) pa_nil))) (nomark _)))))
  (pss_one (ps_ret pe_bl))
  pss_nil)
  (pss_cons (ps_if (pt_cmpR op_ne (pe_callB call_len_seq (by rfl) T.n_len (by decide +kernel) (pa_cons (pv 0) pa_nil)) (pe_callB call_len_seq (by rfl) T.n_len (by decide +kernel) (pa_cons (pv 1) pa_nil)) (nomark _))
  (pss_one (ps_ret pe_bl))
  pss_nil)
  (pss_one (ps_ret (pe_cmpR (op_eqD hr.units) (pe_lc (own := [("_law_k", 2)]) (g := gName 2) (by rfl) sc__law_alike.nd (pi_range1 rfl T.n_range (pa_cons (pe_callB call_len_seq (by rfl) T.n_len (by decide +kernel) (pa_cons (pv 1) pa_nil)) pa_nil)) (blkOk_by (own := [("_law_k", 2)]) (N := N__law_alike) (sc := defScope s__law_alike) (by decide +kernel)) (fun _ _ _ _ _ => (pg_name (i := 2) sc__law_alike.nd rfl (Or.inl rfl) (.inr rfl))) (fun _ _ _ _ _ => (pts_one (pt_not (pt_val (pe_call ih (hr.mono (Nat.le_refl _)) rfl T.m__law_alike T.k__law_alike T.b__law_alike .nil pass0 (pa_cons (pe_ix (show IxR _ (rIx K) from ix_seq) (pv 0) (pv 2) (fun _ _ => rfl)) (pa_cons (pe_ix (show IxR _ (rIx K) from ix_seq) (pv 1) (pv 2) (fun _ _ => rfl)) pa_nil))))))) (fun _ _ _ _ _ => (pv 2))) (pe_lst pa_nil) (nomark _))))))
  pss_nil)
  (pss_cons (ps_if (PW.pt (pw_and (pt_val (pe_callB call_isi (by rfl) T.n_isinstance (by decide +kernel) (pa_cons (pv 1) (pa_cons (pe_bltn (v := .ty "int") rfl T.n_int (by decide +kernel) rfl) pa_nil)))) (pw_and1 (PW.pt (pw_or (pt_not (pt_val (pe_callB call_isi (by rfl) T.n_isinstance (by decide +kernel) (pa_cons (pv 0) (pa_cons (pe_bltn (v := .ty "int") rfl T.n_int (by decide +kernel) rfl) pa_nil))))) (pw_or1 (pt_cmpR op_ne (pe_callB call_isi (by rfl) T.n_isinstance (by decide +kernel) (pa_cons (pv 0) (pa_cons (pe_bltn (v := .ty "bool") rfl T.n_bool (by decide +kernel) rfl) pa_nil))) (pe_callB call_isi (by rfl) T.n_isinstance (by decide +kernel) (pa_cons (pv 1) (pa_cons (pe_bltn (v := .ty "bool") rfl T.n_bool (by decide +kernel) rfl) pa_nil))) (nomark _))))))))
  (pss_one (ps_ret pe_bl))
  pss_nil)
  (pss_one (ps_ret (pe_cmpR (op_eqD hr.units) (pv 0) (pv 1) (nomark _)))))), ?_⟩
    have c : Cc none [] H := .nil
    cases d with
    | none => exact a1.elim
    | bool b => exact a1.elim
    | dict kvs => exact a1.elim
    | int i =>
      cases (show v1 = V.int i from a1)
      cases (show v2 = V.int i from a2)
      have ti : ∀ {H1 : Hp}, TyX K H1 (V.int i) (.type "int") := .base (.int i)
      refine q_skip c (et_B (ev_isAtT (b := false) rfl (fun _ _ => ti) fun K => kany2 (a := false) (by decide +kernel) (fun _ => by decide +kernel) fun z => by cases z)) (fun b e => e) fun H1 g1 => ?_
      have c1 := c.go g1
      refine q_skip c1 (et_andV (a := true) (b := false) (et_B (ev_isAt (b := true) rfl fun _ _ => ti)) fun _ => et_orV (a := false) (b := false) (et_notV (a := true) (et_B (ev_isAt (b := true) rfl fun _ _ => ti))) fun _ => et_B ((ev_neB (ev_isAt (b := false) rfl fun _ _ => ti) (ev_isAt (b := false) rfl fun _ _ => ti)).imp fun b e => e)) (fun b e => e) fun H2 g2 => ?_
      refine s_retV (x := true) (c1.go g2) ((ev_eqDV (α := Int) (x := i) (y := i) ev_vi ev_vi trivial trivial).imp fun b e => by rw [e, decide_eq_true rfl]) fun v H3 g3 r => ?_
      cases rp_bool r
      exact k _ ((g1.trans g2).trans g3).gr0
    | str x =>
      obtain ⟨rfl, hx⟩ := (show v1 = V.str x ∧ PyData.strOk x = true from a1)
      obtain ⟨rfl, _⟩ := (show v2 = V.str x ∧ PyData.strOk x = true from a2)
      have ti : ∀ {H1 : Hp}, TyX K H1 (V.str x) (.type "str") := .base (.str x)
      refine q_skip c (et_B (ev_isAtT (b := false) rfl (fun _ _ => ti) fun K => kany2 (a := false) (by decide +kernel) (fun _ => by decide +kernel) fun z => by cases z)) (fun b e => e) fun H1 g1 => ?_
      have c1 := c.go g1
      refine q_skip c1 (et_andV (a := false) (b := false) (et_B (ev_isAt (b := false) rfl fun _ _ => ti)) fun z => by cases z) (fun b e => e) fun H2 g2 => ?_
      have evs : ∀ {σ : St} {i : Nat} {Hx : Hp}, σ[i]? = some (some (.str x)) → EvV none [] (tVar i) σ Hx x := fun h H1 _ _ Q w => ⟨_, h, w _ _ H1 .refl rfl rfl⟩
      refine s_retV (x := true) (c1.go g2) ((ev_eqDV (α := Str) (x := x) (y := x) (evs rfl) (evs rfl) hx hx).imp fun b e => by rw [e, decide_eq_true rfl]) fun v H3 g3 r => ?_
      cases rp_bool r
      exact k _ ((g1.trans g2).trans g3).gr0
    | list ds =>
      have b1 : At (n + 1) H v1 (seqT true ds) := a1
      have b2 : At (n + 1) H v2 (seqT true ds) := a2
      have hl : ds.length ≤ 90000 := (at_seq b1).choose_spec.choose_spec.2.2.1
      refine q_when (p := fun b => b = true) c (et_B (ev_isAtT (b := true) rfl (fun H1 g => ty_seq (b2.go g)) fun K => kany2 (a := true) (by decide +kernel) (fun z => by cases z) fun _ => rfl)) (fun _ H1 g1 => ?_) (fun z => by cases z)
      have c1 := c.go g1
      refine q_skip c1 (et_orV (a := false) (b := false) (et_notV (a := true) (et_B (ev_isAtT (b := true) rfl (fun H2 g => ty_seq (b1.go (g1.gr0.trans g))) fun K => kany2 (a := true) (by decide +kernel) (fun z => by cases z) fun _ => rfl))) fun _ => et_B ((ev_neB (ev_isAt (b := true) rfl (fun H2 g => ty_seq (b1.go (g1.gr0.trans g))) (by decide +kernel)) (ev_isAt (b := true) rfl (fun H2 g => ty_seq (b2.go (g1.gr0.trans g))) (by decide +kernel))).imp fun b e => e)) (fun b e => e) fun H2 g2 => ?_
      have c2 := c1.go g2
      have g12 := (g1.trans g2).gr0
      refine q_skip c2 (et_B ((ev_neV (ev_lenAt rfl (b1.go g12)) (ev_lenAt rfl (b2.go g12))).imp fun b e => by rw [e, decide_eq_true rfl]; rfl)) (fun b e => e) fun H3 g3 => ?_
      have c3 := c2.go g3
      have g13 := g12.trans g3.gr0
      refine s_retV (x := true) c3 ((ev_eqDV (x := ([] : List Int)) (y := ([] : List Int)) (EvL.ev (el_lcR1 (β := Int) (q := fun n => n = (ds.length : Int)) (p := fun acc => acc = []) (fun _ _ acc => acc = []) (ev_lenAt rfl (b2.go g13)) (fun n e => by subst e; omega) (fun _ _ => rfl) (fun n j H4 acc hn hj g4 c4 hI => ⟨fun b => b = false, fun _ => True, lcT_name rfl (et_notV (a := true) (et_B (fun H5 g5 c5 Q w => by
        have hn' : n = (ds.length : Int) := hn
        refine ix_at rfl rfl (b1.go ((g13.trans g4.gr0).trans g5.gr0)) (by omega) fun u hu => ?_
        refine ix_at rfl rfl (b2.go ((g13.trans g4.gr0).trans g5.gr0)) (by omega) fun u' hu' => ?_
        exact ⟨u, u', _, rfl, hu, hu', fun H6 g6 => w true _ H6 (.pure g6) rfl rfl⟩))) (fun z => by cases z), (fun y z => by cases z), fun _ => hI⟩) fun n acc _ hI => hI)) el_nil.ev (ok_ints _) (ok_ints _)).imp fun b e => by rw [e]; exact decide_eq_true rfl) fun v H4 g4 r => ?_
      cases rp_bool r
      exact k _ (g13.trans g4.gr0)
    | tuple ds =>
      have b1 : At (n + 1) H v1 (seqT false ds) := a1
      have b2 : At (n + 1) H v2 (seqT false ds) := a2
      have hl : ds.length ≤ 90000 := (at_seq b1).choose_spec.choose_spec.2.2.1
      refine q_when (p := fun b => b = true) c (et_B (ev_isAtT (b := true) rfl (fun H1 g => ty_seq (b2.go g)) fun K => kany2 (a := false) (by decide +kernel) (fun _ => by decide +kernel) fun z => by cases z)) (fun _ H1 g1 => ?_) (fun z => by cases z)
      have c1 := c.go g1
      refine q_skip c1 (et_orV (a := false) (b := false) (et_notV (a := true) (et_B (ev_isAtT (b := true) rfl (fun H2 g => ty_seq (b1.go (g1.gr0.trans g))) fun K => kany2 (a := false) (by decide +kernel) (fun _ => by decide +kernel) fun z => by cases z))) fun _ => et_B ((ev_neB (ev_isAt (b := false) rfl (fun H2 g => ty_seq (b1.go (g1.gr0.trans g))) (by decide +kernel)) (ev_isAt (b := false) rfl (fun H2 g => ty_seq (b2.go (g1.gr0.trans g))) (by decide +kernel))).imp fun b e => e)) (fun b e => e) fun H2 g2 => ?_
      have c2 := c1.go g2
      have g12 := (g1.trans g2).gr0
      refine q_skip c2 (et_B ((ev_neV (ev_lenAt rfl (b1.go g12)) (ev_lenAt rfl (b2.go g12))).imp fun b e => by rw [e, decide_eq_true rfl]; rfl)) (fun b e => e) fun H3 g3 => ?_
      have c3 := c2.go g3
      have g13 := g12.trans g3.gr0
      refine s_retV (x := true) c3 ((ev_eqDV (x := ([] : List Int)) (y := ([] : List Int)) (EvL.ev (el_lcR1 (β := Int) (q := fun n => n = (ds.length : Int)) (p := fun acc => acc = []) (fun _ _ acc => acc = []) (ev_lenAt rfl (b2.go g13)) (fun n e => by subst e; omega) (fun _ _ => rfl) (fun n j H4 acc hn hj g4 c4 hI => ⟨fun b => b = false, fun _ => True, lcT_name rfl (et_notV (a := true) (et_B (fun H5 g5 c5 Q w => by
        have hn' : n = (ds.length : Int) := hn
        refine ix_at rfl rfl (b1.go ((g13.trans g4.gr0).trans g5.gr0)) (by omega) fun u hu => ?_
        refine ix_at rfl rfl (b2.go ((g13.trans g4.gr0).trans g5.gr0)) (by omega) fun u' hu' => ?_
        exact ⟨u, u', _, rfl, hu, hu', fun H6 g6 => w true _ H6 (.pure g6) rfl rfl⟩))) (fun z => by cases z), (fun y z => by cases z), fun _ => hI⟩) fun n acc _ hI => hI)) el_nil.ev (ok_ints _) (ok_ints _)).imp fun b e => by rw [e]; exact decide_eq_true rfl) fun v H4 g4 r => ?_
      cases rp_bool r
      exact k _ (g13.trans g4.gr0)
theorem ok__law_alike (T : Txt K mg) : FnOk P w K mg base CX0 6 T.f__law_alike T.d__law_alike ["_law_found", "_law_due"] (SpAlike 5) := rec__law_alike T 5
theorem ok__law_refused (T : Txt K mg) : FnOk P w K mg base CX0 12 T.f__law_refused T.d__law_refused ["_law_work"] (SpRef P w K mg base 10 T.er) := by
  refine T.F__law_refused.ok sc__law_refused (fun vs H Q E h => ?_) (fun cdv A outer s H vs Q E hr h => ?_)
  · obtain ⟨v, rfl, _⟩ := h
    rfl
  · obtain ⟨v, rfl, hv, k⟩ := h
    refine ⟨_, pss_cons (ps_try_as (i := 1) (c := .ref T.c_SieveError) (tb := fun W D σ H => ∃ Ech : XK, (∀ cls d σ' H', σ'.length = 3 → Ech cls d H' → W cls d σ' H') ∧ tLamC P w K mg base 10 0 Ech σ H (fun _ H' => D.nx σ H')) rfl rfl sc__law_refused.nd rfl rfl ⟨rfl, by decide, .inl T.m_SieveError⟩ takes0 (fun W pn xe tk po => ?_) (fun a oe cls d pn hz hf => (pss_cons (ps_set (i := 2) sc__law_refused.nd rfl (Or.inl rfl) (pe_callB (call_isXT hz hf) (by rfl) T.n_isinstance (by decide +kernel) (pa_cons (pv 1) (pa_cons (pe_tup (pa_cons (pe_glob (v := .ref T.c_BadSieve) rfl T.m_BadSieve rfl) (pa_cons (pe_glob (v := .ref T.c_BadText) rfl T.m_BadText rfl) (pa_cons (pe_glob (v := .ref T.c_NoSieve) rfl T.m_NoSieve rfl) (pa_cons (pe_glob (v := .ref T.c_NotIn) rfl T.m_NotIn rfl) (pa_cons (pe_glob (v := .ref T.c_Stuck) rfl T.m_Stuck rfl) (pa_cons (pe_glob (v := .ref T.c_Unlike) rfl T.m_Unlike rfl) pa_nil))))))) pa_nil))))
  (pss_one (ps_ret (pe_and (pe_callB (call_isX hz hf) (by rfl) T.n_isinstance (by decide +kernel) (pa_cons (pv 1) (pa_cons (pe_glob (v := .ref T.c_BadKey) rfl T.m_BadKey rfl) pa_nil))) (pe_and (pe_callB (call_isX hz hf) (by rfl) T.n_isinstance (by decide +kernel) (pa_cons (pv 1) (pa_cons (pe_bltn (v := .ty "ValueError") rfl T.n_ValueError (by decide +kernel) rfl) pa_nil))) (pe_one (pe_not (pv 2)))))))))) (pss_one (ps_ret pe_bl)), ?_⟩
    · refine ⟨fun pins s' σ H' D I h' => ?_⟩
      obtain ⟨Ech, hW, h1⟩ := h'
      exact (pss_one (ps_expr (pe_lamC (k := 10) (i := 0) (E := Ech) (takes_len tk) (fun cls d σ' H' he hl => hW cls d σ' H' hl he) (hr.mono (by decide))))).run pins s' σ H' D I h1
    · refine ⟨fun c d H' => (c = .ref T.c_BadKey ∧ d = none) ∧ Gr [] H H', fun cls d σ' H' hl he => ?_, ?_⟩
      · obtain ⟨⟨rfl, rfl⟩, g⟩ := he
        obtain ⟨x0, x1, x2, rfl⟩ : ∃ x0 x1 x2, σ' = [x0, x1, x2] := by
          match σ', hl with
          | [x0, x1, x2], _ => exact ⟨x0, x1, x2, rfl⟩
        have c1 : Cc none [] H' := .nil
        refine ⟨true, T.em_BadKey_SieveError, (fun _ a ha => ?_), fun z => by cases z⟩
        refine q_setBV (b := false) c1 (ev_isXT (C := T.c_BadKey) (fun _ _ h => h) rfl rfl T.is_BadKey trivial (fun _ z => by cases z) (by show 6 ≤ 100; decide) (.cons (.own _) (.cons (.own _) (.cons (.own _) (.cons (.own _) (.cons (.own _) (.cons (.own _) .nil))))))
          (kany_f T.ki_BadKey_BadSieve (kany_f T.ki_BadKey_BadText (kany_f T.ki_BadKey_NoSieve (kany_f T.ki_BadKey_NotIn (kany_f T.ki_BadKey_Stuck (kany_f T.ki_BadKey_Unlike kitAny_nil))))))) fun H2 g2 => ?_
        have c2 := c1.go g2
        exact s_retV (x := true) c2 (ev_andV (a := true) (b := true) (ev_isX (C := T.c_BadKey) rfl rfl T.is_BadKey trivial (fun _ z => by cases z) (.own _) T.ki_BadKey_BadKey) fun _ => ev_andV (a := true) (b := true) (ev_isX (C := T.c_BadKey) rfl rfl T.is_BadKey trivial (fun _ z => by cases z) (.ty _) T.ki_BadKey_ValueError) fun _ => (ev_notV (a := false) (ev_vb rfl)).imp fun b e => by rw [e]; rfl) fun w1 H3 g3 r3 => by
          cases rp_bool r3
          exact k H3 ((g.trans g2.gr0).trans g3.gr0)
      · exact lam_call (T := T.er) hv rfl (fun e he => by cases he; exact .inl rfl) (fun z => by cases z) fun e he c d H' g z => by
          cases he
          exact ⟨z, g⟩
def SpWorks (C : Addr) (P : Program) (w : World) (K : PySem.W.Frag) (mg : Str → Option Value) (base : Heap) (k : Nat) (T : Er) (PT : Addr) : Sp := fun vs H Q _ => ∃ (sv : V) (x : Sv C) (uv : V) (us : List Int) (kv : V) (ks : List Int) (odd : Int), vs = [sv, uv, kv, .int odd] ∧ Rp.rp [] H x sv ∧ Rp.rp [] H us uv ∧ Rp.rp [] H ks kv ∧ x.Good ∧ us.length ≤ 1000 ∧ ks.length ≤ 1000 ∧ (∀ k, k ∈ us → KeyOk k) ∧ (∀ k, k ∈ ks → KeyOk k) ∧ ¬ KeyOk odd ∧
  LamX.Tabs [(PT, "_law_works.<locals>.<lambda>")] H ∧ ∀ a ws H', LamX.ExtN H H' → H' a = some (.lst ws) → (∀ v, v ∈ ws → LamSays P w K mg base k T H' v (.error .badKey)) → ws.length ≤ 1000 → Q (.ref a) H'
theorem needKeys_bad {ks : List Int} {k : Int} (h : k ∈ ks) (b : ¬ KeyOk k) : needKeys ks = .error .badKey := by
  unfold needKeys
  rw [if_neg]
  intro z
  exact b (of_decide_eq_true (p := 0 ≤ k ∧ k < 10007) (List.all_eq_true.mp z k h))
theorem needKey_bad {k : Int} (b : ¬ KeyOk k) : needKey k = .error .badKey := if_neg b
theorem ex_mutB {C : Addr} {T : Er} {f : Sv C → Int → Except Err (Sv C)} {x : Sv C} {key : Int} {i : Nat} {n : Str} {tk : TE} {E : XK} {σ : St} {H : Hp} {v : V} {Q : VK} (hv : σ[i]? = some (some v)) (a : Rp.rp [] H x v) (ok : x.Ok) (hk : EvV none [] tk σ H key) (hn : n ≠ "many" ∧ n ≠ "pointers" ∧ n ≠ "most" ∧ n ≠ "cells") (hf : f x key = .error .badKey)
    (k2 : ∀ cl d H1, Gr [] H H1 → ErrAt T H H1 .badKey cl d → E cl d H1) : tMeth C n (SpMut C T f) [] E (tVar i) (tCons tk tNil) σ H Q := by
  obtain ⟨s, cc, rfl, sa⟩ := a
  obtain ⟨dx, b, ho, _, _⟩ := id sa.ob
  refine ⟨_, hv, s, dx, _, rfl, ho, svf_none hn _ _ _ _, hk H .refl .nil _ fun k v H1 g r e => ?_⟩
  subst e
  cases rp_int r
  refine ⟨[], s, cc, x, k, rfl, .nil, sa.gd .nil g, ok, (fun y ey => by rw [hf] at ey; cases ey), fun e ee cl d H' g2 z => ?_⟩
  rw [hf] at ee
  cases ee
  exact k2 cl d H' (g.gr0.trans g2) (z.from g.gr0)
theorem ok__law_due_stuck (T : Txt K mg) : FnOk P w K mg base CX0 2 T.f__law_due_stuck T.d__law_due_stuck ["_law_yes", "_law_counts_here", "_law_hands_here", "_law_cap"] (SpF (fun x : List Int × List Int × List (Int × Int) × Int × Unit => x.1.length ≤ 1000 ∧ (∀ k, k ∈ x.1 → KeyOk k) ∧ 0 < x.2.1.length ∧ x.2.1.length ≤ 1000 ∧ x.2.2.1.length ≤ 6) fun x => stucks (⟨(x.2.1.length : Int), x.2.2.1, x.2.2.2.1, x.2.1⟩ : Sv T.c_Sieve) x.1) := by
  refine T.F__law_due_stuck.ok sc__law_due_stuck (fun vs H Q E h => ?_) (fun cdv A outer s H vs Q E hr h => ?_)
  · obtain ⟨m, x, c, ⟨v, r, rfl, rk, ⟨v2, r2, rfl, rk2, ⟨v3, r3, rfl, rk3, ⟨v4, r4, rfl, rk4, rfl⟩⟩⟩⟩, _⟩ := h
    rfl
  · obtain ⟨m, ⟨ys, cn, hands, cap, u⟩, c, ⟨v, r, rfl, rk, ⟨v2, r2, rfl, rk2, ⟨v3, r3, rfl, rk3, ⟨v4, r4, rfl, rk4, rfl⟩⟩⟩⟩, ⟨hyl, hyk, h0, h1, hh⟩, k⟩ := h
    cases (show v4 = V.int cap from rk4)
    dsimp only at rk rk2 rk3 hyl hyk h0 h1 hh k
    obtain ⟨x, hx⟩ : ∃ x : Sv T.c_Sieve, x = ⟨(cn.length : Int), hands, cap, cn⟩ := ⟨_, rfl⟩
    rw [← hx] at k
    refine ⟨_, (pss_cons (ps_set (i := 4) sc__law_due_stuck.nd rfl (Or.inl rfl) (pe_lst pa_nil))
  (pss_cons (ps_for PassesOwn.never rfl (pi_list (pv 0)) (pg_name (i := 5) sc__law_due_stuck.nd rfl (Or.inl rfl))
  (pss_cons (ps_set (i := 6) sc__law_due_stuck.nd rfl (Or.inl rfl) (pe_callB (cr_sortedSet rfl) (by rfl) T.n_sorted (by decide +kernel) (pa_cons (pe_callTy (call_set_of rfl) (by rfl) T.n_set (by decide +kernel) (pa_cons (pe_lc (own := [("_law_cell", 7)]) (g := gName 7) (by rfl) sc__law_due_stuck.nd (pi_list (pe_call (ok__law_cells T) (hr.mono (by decide)) rfl T.m__law_cells T.k__law_cells T.b__law_cells .nil pass0 (pa_cons (pv 2) (pa_cons (pe_callB call_len_seq (by rfl) T.n_len (by decide +kernel) (pa_cons (pv 1) pa_nil)) (pa_cons (pv 5) pa_nil))))) (blkOk_by (own := [("_law_cell", 7)]) (N := N__law_due_stuck) (sc := defScope s__law_due_stuck) (by decide +kernel)) (fun _ _ _ _ _ => (pg_name (i := 7) sc__law_due_stuck.nd rfl (Or.inl rfl) (.inr rfl))) (fun _ _ _ _ _ => (pts_one (pt_cmpR op_eq (pe_ix (show IxR _ (rIxL K) from ix_list) (pv 1) (pv 7) (fun _ _ => rfl)) (pv 3) (nomark _)))) (fun _ _ _ _ _ => (pv 7))) pa_nil)) pa_nil)))
  (pss_one (ps_if (pt_cmpR (op_neD hr.units) (pv 6) (pe_lst pa_nil) (nomark _))
  (pss_one (ps_expr (pe_bm PySem.F.plainAttrs_list PySem.F.slot_list_append PySem.F.type_list_append mt_append (pv 4) (pa_cons (pe_tup (pa_cons (pv 5) (pa_cons (pv 6) pa_nil))) pa_nil))))
  pss_nil))))
  (pss_one (ps_ret (pv 4))))), ?_⟩
    refine q_nilN (α := Int × List Int) c fun af H1 naf g1 o1 => ?_
    have c1 := c.go g1
    have rkf : Rp.rp (af :: m) H ys v := rp_more rk naf
    have rcf : Rp.rp (af :: m) H cn v2 := rp_more rk2 naf
    have rhf : Rp.rp (af :: m) H hands v3 := rp_more rk3 naf
    have hlen : ∀ key, (pointed hands (cn.length : Int) key).length ≤ 6 := fun key => by unfold pointed; rw [List.length_map]; exact hh
    refine q_forL (o1.cc c1) (ev_v rfl (rp_g0 rkf g1.gr0)) fun a vs H4 g4 na ha ps => ⟨fun j s2 H5 => ∃ x5 x6 x7 : Option V, s2 = [some v, some v2, some v3, some (.int cap), some (.ref af), x5, x6, x7] ∧ Gd none H H5 ∧ OwnN m H5 af (stucks x (ys.take j)) ∧ (stucks x (ys.take j)).length ≤ j ∧ H5 a = some (.lst vs),
      ⟨none, none, none, rfl, g1.trans g4, o1.gd c1 g4, Nat.le_refl _, ha⟩, fun j s2 H' ⟨_, _, _, _, _, _, _, h⟩ => h, ?_, ?_⟩
    · rintro j key w1 s2 H' hj rx ⟨x5, x6, x7, rfl, g', o', hlj, ha'⟩
      cases rp_int rx
      refine g_name ?_
      have c' := c.go g'
      have cf' := o'.cc c'
      have hkey := hyk key (List.mem_of_getElem? hj)
      have hjl := (List.getElem?_eq_some_iff.mp hj).1
      have hne : a ≠ af := fun z => na (by simp [z])
      refine q_setLV (xs := x.stuck key) cf' (EvL.imp (el_sortedSet (xs := ((pointed hands (cn.length : Int) key).filter fun c => decide (cat cn c = cap)).map fun c => c) (EvL.ev (el_filterMap (β := Int) (fun c => decide (cat cn c = cap)) (fun c => c) (EvL.ev (el_callV (x := (hands, (cn.length : Int), key, ())) (ea_c (ev_v rfl (rp_g0 rhf g'.gr0)) (ea_c (ev_len (ev_v rfl (rp_g0 rcf g'.gr0))) (ea_c ev_vi ea_nil))) ⟨by show hands.length ≤ 90000; omega, by show 0 < (cn.length : Int); omega, by show -(2 ^ 64) < key; have := hkey.1; omega, by show key < 2 ^ 64; have := hkey.2; omega⟩)) (by have := hlen key; omega) fun i u H3 hi g3 c3 r => ?_)) (by
          rw [List.length_map]
          have := List.length_filter_le (fun c => decide (cat cn c = cap)) (pointed hands (cn.length : Int) key)
          have := hlen key
          omega)) fun l e => by rw [e, List.map_id', stuck_eq, hx]) fun a6 H6 n6 g6 o6 => ?_
      · cases rp_int r
        have hb := pointed_mem (show 0 < (cn.length : Int) by omega) hi
        exact lcT_name rfl (et_B (ev_eqV (ev_ixLV (x := cat cn i) (ev_v rfl (rp_g0 rcf (g'.trans g3).gr0)) ev_vi (atI_cat hb.1 hb.2)) ev_vi)) fun _ => ev_vi
      have c6 := cf'.go g6
      have g06 := g'.trans g6
      have o6' := o'.gd c' g6
      have es : stucks x (ys.take (j + 1)) = stucks x (ys.take j) ++ (if x.stuck key = [] then [] else [(key, x.stuck key)]) := by
        unfold stucks
        rw [take_snoc hj, List.filterMap_append]
        congr 1
        by_cases z : x.stuck key = []
        · rw [List.filterMap_cons_none (by rw [if_pos z]), if_pos z]; rfl
        · rw [List.filterMap_cons_some (by rw [if_neg z]), if_neg z]; rfl
      refine s_whenV c6 (et_B (ev_neDV (x := x.stuck key) (y := []) (ev_v rfl o6.rp) el_nil.ev (ok_ints _) (ok_ints _))) (fun e H8 g8 => ?_) (fun e H8 g8 => ?_)
      · have hs : ¬ x.stuck key = [] := by simpa using e
        rw [if_neg hs] at es
        refine s_appN (α := Int × List Int) (p := fun y => y = (key, x.stuck key)) (c'.go (g6.trans g8)) (o6'.gd (c'.go g6) g8) rfl (ev_pairV ev_vi (ev_v rfl (o6.gd c6 g8).rp)) (by omega) fun y H9 H10 g9 hy o10 e10 => ?_
        obtain ⟨vs10, rfl⟩ := e10
        subst hy
        refine ⟨_, _, _, rfl, mut_gd ((g06.trans g8).trans g9) c naf, by rw [es]; exact o10, by rw [es, List.length_append, List.length_singleton]; omega, ?_⟩
        rw [upd_ne hne]
        exact ((g6.trans g8).trans g9).gr0.at0 ha'
      · have hs : x.stuck key = [] := by simpa using e
        rw [if_pos hs, List.append_nil] at es
        exact ⟨_, _, _, rfl, g06.trans g8, by rw [es]; exact o6'.gd (c'.go g6) g8, by rw [es]; omega, (g6.trans g8).gr0.at0 ha'⟩
    · rintro s2 H' ⟨x5, x6, x7, rfl, g', o', hlj, ha'⟩
      rw [List.take_length] at o'
      exact ⟨_, rfl, k _ H' g'.gr0 o'.own.rp⟩
theorem el_listP {K : PySem.W.Frag} {D : Dst} {m : List Addr} {σ : St} {H : Hp} {ta : TE} {x : Int × Int} (ha : EvV D m ta σ H x) : EvLV D m (tCB (rList K) (tCons ta tNil)) σ H [x.1, x.2] := fun H1 e c Q w => ha H1 e c _ fun x' v H2 e2 r z => by
  subst z
  obtain ⟨a, u, w', rfl, h, r1, r2⟩ := r
  refine ⟨a, [u, w'], rfl, .inr (.of h), fun l hl => ?_⟩
  exact w _ l _ (e2.gr.dom l hl) (e2.trans (.new hl)) ⟨(c.go e2).free hl, _, upd_same, .cons r1 (.cons r2 .nil)⟩ rfl
theorem wrongF_due (us keys : List Int) (f : Int → Bool) : (us.filter f).filter (fun k => !decide (k ∈ keys)) = (othersF us keys).filter f := by
  unfold othersF
  rw [List.filter_filter, List.filter_filter]
  congr 1
  funext k
  exact Bool.and_comm _ _
theorem stucks_len {C : Addr} (x : Sv C) (ks : List Int) : (stucks x ks).length ≤ ks.length := List.length_filterMap_le _ _
theorem stuck_len {C : Addr} (x : Sv C) (k : Int) (h : x.hands.length ≤ 1000) : (x.stuck k).length ≤ 1000 := by
  rw [stuck_eq]
  refine Nat.le_trans (sset_le _) (Nat.le_trans (List.length_filter_le _ _) ?_)
  unfold pointed
  rw [List.length_map]
  exact h
theorem stucks_mem {C : Addr} {x : Sv C} {ks : List Int} {p : Int × List Int} (h : p ∈ stucks x ks) : ∃ k, p.2 = x.stuck k := by
  unfold stucks at h
  obtain ⟨k, _, e⟩ := List.mem_filterMap.mp h
  split at e
  · cases e
  · cases e
    exact ⟨k, rfl⟩
theorem ok__law_works (T : Txt K mg) {c PT : Addr} (TB : LamX.TabB base mg c PT) (hcode0 : T.d__law_works.code = .ref c) : FnOk P w K mg base CX0 10 T.f__law_works T.d__law_works ["_law_sieve", "_law_universe_here", "_law_keys_here", "_law_odd"] (SpWorks T.c_Sieve P w K mg base 10 T.er PT) := by
  refine fn_okV T.F__law_works sc__law_works (fun vs H Q E h => ?_) (fun cdv A outer s H vs Q E ec hr h => ?_)
  · obtain ⟨sv, x, uv, us, kv, ks, odd, rfl, _⟩ := h
    rfl
  · obtain ⟨sv, x, uv, us, kv, ks, odd, rfl, rs, ru, rk, good, hul, hkl, hu, hk, hodd, hT, k⟩ := h
    have hcode : cdv = .ref c := ec.symm.trans hcode0
    refine ⟨_, (pr_cons (ps_set (i := 4) sc__law_works.nd rfl (Or.inr rfl) (pe_op op_cat (pv 1) (pe_lst (pa_cons (pv 3) pa_nil))))
  (pr_cons (ps_set (i := 5) sc__law_works.nd rfl (Or.inl rfl) (pe_lst (pa_cons (pe_lamN TB hcode (LamX.lamS_by (sc := defScope s__law_works) (by decide +kernel))) pa_nil)))
  (pr_cons (ps_expr (pe_bm PySem.F.plainAttrs_list PySem.F.slot_list_append PySem.F.type_list_append mt_append (pv 5) (pa_cons (pe_lamN TB hcode (LamX.lamS_by (sc := defScope s__law_works) (by decide +kernel))) pa_nil)))
  (pr_cons (ps_expr (pe_bm PySem.F.plainAttrs_list PySem.F.slot_list_append PySem.F.type_list_append mt_append (pv 5) (pa_cons (pe_lamN TB hcode (LamX.lamS_by (sc := defScope s__law_works) (by decide +kernel))) pa_nil)))
  (pr_cons (ps_expr (pe_bm PySem.F.plainAttrs_list PySem.F.slot_list_append PySem.F.type_list_append mt_append (pv 5) (pa_cons (pe_lamN TB hcode (LamX.lamS_by (sc := defScope s__law_works) (by decide +kernel))) pa_nil)))
  (pr_cons (ps_expr (pe_bm PySem.F.plainAttrs_list PySem.F.slot_list_append PySem.F.type_list_append mt_append (pv 5) (pa_cons (pe_lamN TB hcode (LamX.lamS_by (sc := defScope s__law_works) (by decide +kernel))) pa_nil)))
  (pr_cons (ps_expr (pe_bm PySem.F.plainAttrs_list PySem.F.slot_list_append PySem.F.type_list_append mt_append (pv 5) (pa_cons (pe_lamN TB hcode (LamX.lamS_by (sc := defScope s__law_works) (by decide +kernel))) pa_nil)))
  (pr_cons (ps_expr (pe_bm PySem.F.plainAttrs_list PySem.F.slot_list_append PySem.F.type_list_append mt_append (pv 5) (pa_cons (pe_lamN TB hcode (LamX.lamS_by (sc := defScope s__law_works) (by decide +kernel))) pa_nil)))
  (pr_cons (ps_expr (pe_bm PySem.F.plainAttrs_list PySem.F.slot_list_append PySem.F.type_list_append mt_append (pv 5) (pa_cons (pe_lamN TB hcode (LamX.lamS_by (sc := defScope s__law_works) (by decide +kernel))) pa_nil)))
  (pr_cons (ps_expr (pe_bm PySem.F.plainAttrs_list PySem.F.slot_list_append PySem.F.type_list_append mt_append (pv 5) (pa_cons (pe_lamN TB hcode (LamX.lamS_by (sc := defScope s__law_works) (by decide +kernel))) pa_nil)))
  (pr_cons (ps_expr (pe_bm PySem.F.plainAttrs_list PySem.F.slot_list_append PySem.F.type_list_append mt_append (pv 5) (pa_cons (pe_lamN TB hcode (LamX.lamS_by (sc := defScope s__law_works) (by decide +kernel))) pa_nil)))
  (pr_cons (ps_expr (pe_bm PySem.F.plainAttrs_list PySem.F.slot_list_append PySem.F.type_list_append mt_append (pv 5) (pa_cons (pe_lamN TB hcode (LamX.lamS_by (sc := defScope s__law_works) (by decide +kernel))) pa_nil)))
  (pr_ret (pv 5)))))))))))))), ?_⟩
    have c0 : Cc none [] H := .nil
    refine s_setLV c0 (el_catV (ev_v rfl ru) (EvL.ev (el_lst (ei_consV ev_vi ei_nil) fun l e => by rw [e]; simp)) ⟨by omega, by simp⟩) fun ab H1 nb g1 ob => ?_
    have g1' := g1.gr0
    refine q_works (tabs_gr hT g1') (fun _ _ _ => rfl) fun aw H2 naw e2 W2 T2 => ?_
    have rs2 := rn_more (rp_g0 rs g1') naw e2
    have ru2 := rn_more (rp_g0 ru g1') naw e2
    have rk2 := rn_more (rp_g0 rk g1') naw e2
    have rb2 := rn_more ob.rp naw e2
    obtain ⟨ws2, ha2, _⟩ := id W2
    refine s_works rfl W2 T2 (by decide) (fun _ _ _ => rfl) fun H3 e3 W3 T3 => ?_
    refine s_works rfl W3 T3 (by decide) (fun _ _ _ => rfl) fun H4 e4 W4 T4 => ?_
    refine s_works rfl W4 T4 (by decide) (fun _ _ _ => rfl) fun H5 e5 W5 T5 => ?_
    refine s_works rfl W5 T5 (by decide) (fun _ _ _ => rfl) fun H6 e6 W6 T6 => ?_
    refine s_works rfl W6 T6 (by decide) (fun _ _ _ => rfl) fun H7 e7 W7 T7 => ?_
    refine s_works rfl W7 T7 (by decide) (fun _ _ _ => rfl) fun H8 e8 W8 T8 => ?_
    refine s_works rfl W8 T8 (by decide) (fun _ _ _ => rfl) fun H9 e9 W9 T9 => ?_
    refine s_works rfl W9 T9 (by decide) (fun _ _ _ => rfl) fun H10 e10 W10 T10 => ?_
    refine s_works rfl W10 T10 (by decide) (fun _ _ _ => rfl) fun H11 e11 W11 T11 => ?_
    refine s_works rfl W11 T11 (by decide) (fun _ _ _ => rfl) fun H12 e12 W12 T12 => ?_
    have eA := (((((((((e3.trans e4).trans e5).trans e6).trans e7).trans e8).trans e9).trans e10).trans e11).trans e12)
    have e212 := LamX.ExtN.trans (extN_gr g1') e2
    refine ⟨_, rfl, ?_⟩
    intro H13 Tk
    have gT := Tk.gr
    obtain ⟨ws, ha, ps⟩ := W12
    have ha13 := gT.at0 ha
    have fin : ∀ {α : Type} [Rp α] [Rn α] {x : α} {v : V}, Rp.rp [aw] H2 x v → Rp.rp [] H13 x v := fun r => rp_g0 (rp_less (rn_extA r eA ha2) (by simp)) gT
    have rsF := fin rs2
    have ruF := fin ru2
    have rkF := fin rk2
    have rbF := fin rb2
    have hbad : odd ∈ us ++ [odd] := List.mem_append_right _ (by simp)
    have hbl : (us ++ [odd]).length ≤ 90000 := by rw [List.length_append, List.length_singleton]; omega
    have hj : ∀ i, i ∈ [0, 1, 2, 3, 4] → ∃ v, ([some sv, some uv, some kv, some (.int odd), some (.ref ab), some (.ref aw)] : St)[i]? = some (some v) := fun i hi => by
      simp only [List.mem_cons, List.not_mem_nil, or_false] at hi
      rcases hi with rfl | rfl | rfl | rfl | rfl <;> exact ⟨_, rfl⟩
    have nU : needKeys (us ++ [odd]) = .error .badKey := needKeys_bad hbad hodd
    have nOk : needKeys us = .ok () := needKeys_ok hu
    have nO : needKey odd = .error .badKey := needKey_bad hodd
    have wr1 : wrongF x (us ++ [odd]) ks = .error .badKey := by unfold wrongF; rw [nU]
    have wr2 : wrongF x us (us ++ [odd]) = .error .badKey := by unfold wrongF; rw [nOk]; dsimp only; rw [nU]
    have sh1 : shareF x (us ++ [odd]) ks = .error .badKey := by unfold shareF; rw [wr1]
    have sh2 : shareF x us (us ++ [odd]) = .error .badKey := by unfold shareF; rw [wr2]
    have st1 : stuckF x (us ++ [odd]) = .error .badKey := by unfold stuckF yesesF; rw [nU]
    have ha1 : harms x odd ks = .error .badKey := by unfold harms; rw [nO]
    have ha2 : harms x 5 (us ++ [odd]) = .error .badKey := by unfold harms; rw [show needKey 5 = .ok () from if_pos ⟨by decide, by decide⟩]; dsimp only; rw [nU]
    have pu1 : x.put odd = .error .badKey := if_neg hodd
    have sy1 : x.says odd = .error .badKey := if_neg hodd
    have my1 : x.may odd = .error .badKey := if_neg hodd
    have tk1 : x.take odd = .error .badKey := by unfold Sv.take; rw [my1]
    have ok := good.ok
    have nd : N__law_works.Nodup := sc__law_works.nd
    have go : ∀ {α : Type} [Rp α] [Rn α] {y : α} {v : V} {cl : List (Str × Addr)} {H1 : Hp}, Rp.rp [] H13 y v → (∀ y c, cl.lookup y = some c → ∃ v, H1 c = some (CelO c v)) → Gr [] H13 H1 → Rp.rp [] (dropC cl H1) y v := fun r hc g => rn_drop hc (rp_g0 r g)
    refine k aw _ H13 (fun b o h n => gT.at0 (eA b o (e212 b o h n) n fun z => ?_)) ha13 (fun v hv => ?_) (by rw [← ps.length]; show 11 ≤ 1000; decide)
    · obtain ⟨ps, q⟩ := naw o (by rw [← z]; exact g1'.at0 h)
      exact n ps q
    · obtain ⟨b, hb, m⟩ := paired_mem ps hv
      rcases List.mem_append.mp hb with hb | hb
      rotate_left
      · obtain rfl := List.mem_singleton.mp hb
        refine says_of (sc := defScope s__law_works) (N := N__law_works) (js := [0, 1, 2, 3, 4]) rfl rfl m Tk.un hj rfl nd (fun q cl c' f A outer s H E hr2 => (pe_meth (pv 0) T.cl_Sieve T.me_Sieve_take (ok_Sieve_take T) (hr2.mono (by decide)) T.b_Sieve_take .nil (passX rfl rfl rfl rfl) (pa_cons (pv 3) pa_nil))) (fun cl H1 hc g E Q k1 k2 => ?_)
        exact ex_mutB (x := x) rfl (go rsF hc g) ok ev_vi (by decide) tk1 fun cl d H' g' z => k2 .badKey rfl cl d H' g' z
      rcases List.mem_append.mp hb with hb | hb
      rotate_left
      · obtain rfl := List.mem_singleton.mp hb
        refine says_of (sc := defScope s__law_works) (N := N__law_works) (js := [0, 1, 2, 3, 4]) rfl rfl m Tk.un hj rfl nd (fun q cl c' f A outer s H E hr2 => (pe_meth (pv 0) T.cl_Sieve T.me_Sieve_says (ok_Sieve_says T) (hr2.mono (by decide)) T.b_Sieve_says .nil (passX rfl rfl rfl rfl) (pa_cons (pv 3) pa_nil))) (fun cl H1 hc g E Q k1 k2 => ?_)
        exact (ex_meth (T := T.er) (x := x) (y := (odd, ())) (ev_v rfl (go rsF hc g)) (ea_c ev_vi ea_nil) ok) _ .refl .nil Q (fun y ey => by cases ey.symm.trans sy1) (fun e ee cl d H' g' z => by cases ee.symm.trans sy1; exact k2 _ rfl cl d H' g'.gr0 z)
      rcases List.mem_append.mp hb with hb | hb
      rotate_left
      · obtain rfl := List.mem_singleton.mp hb
        refine says_of (sc := defScope s__law_works) (N := N__law_works) (js := [0, 1, 2, 3, 4]) rfl rfl m Tk.un hj rfl nd (fun q cl c' f A outer s H E hr2 => (pe_meth (pv 0) T.cl_Sieve T.me_Sieve_put (ok_Sieve_put T) (hr2.mono (by decide)) T.b_Sieve_put .nil (passX rfl rfl rfl rfl) (pa_cons (pv 3) pa_nil))) (fun cl H1 hc g E Q k1 k2 => ?_)
        exact ex_mutB (x := x) rfl (go rsF hc g) ok ev_vi (by decide) pu1 fun cl d H' g' z => k2 .badKey rfl cl d H' g' z
      rcases List.mem_append.mp hb with hb | hb
      rotate_left
      · obtain rfl := List.mem_singleton.mp hb
        refine says_of (sc := defScope s__law_works) (N := N__law_works) (js := [0, 1, 2, 3, 4]) rfl rfl m Tk.un hj rfl nd (fun q cl c' f A outer s H E hr2 => (pe_call (ok_harm T) (hr2.mono (by decide)) rfl T.m_harm T.k_harm T.b_harm .nil (passX rfl rfl rfl rfl) (pa_cons (pv 0) (pa_cons pe_int (pa_cons (pv 4) pa_nil))))) (fun cl H1 hc g E Q k1 k2 => ?_)
        exact (ex_callL (T := T.er) (x := (x, 5, us ++ [odd], ())) (ea_c (ev_v rfl (go rsF hc g)) (ea_c ev_c (ea_c (ev_v rfl (go rbF hc g)) ea_nil))) ⟨good, hbl⟩) _ .refl .nil Q (fun y ey => by cases ey.symm.trans ha2) (fun e ee cl d H' g' z => by cases ee.symm.trans ha2; exact k2 _ rfl cl d H' g'.gr0 z)
      rcases List.mem_append.mp hb with hb | hb
      rotate_left
      · obtain rfl := List.mem_singleton.mp hb
        refine says_of (sc := defScope s__law_works) (N := N__law_works) (js := [0, 1, 2, 3, 4]) rfl rfl m Tk.un hj rfl nd (fun q cl c' f A outer s H E hr2 => (pe_call (ok_harm T) (hr2.mono (by decide)) rfl T.m_harm T.k_harm T.b_harm .nil (passX rfl rfl rfl rfl) (pa_cons (pv 0) (pa_cons (pv 3) (pa_cons (pv 2) pa_nil))))) (fun cl H1 hc g E Q k1 k2 => ?_)
        exact (ex_callL (T := T.er) (x := (x, odd, ks, ())) (ea_c (ev_v rfl (go rsF hc g)) (ea_c ev_vi (ea_c (ev_v rfl (go rkF hc g)) ea_nil))) ⟨good, by show ks.length ≤ 90000; omega⟩) _ .refl .nil Q (fun y ey => by cases ey.symm.trans ha1) (fun e ee cl d H' g' z => by cases ee.symm.trans ha1; exact k2 _ rfl cl d H' g'.gr0 z)
      rcases List.mem_append.mp hb with hb | hb
      rotate_left
      · obtain rfl := List.mem_singleton.mp hb
        refine says_of (sc := defScope s__law_works) (N := N__law_works) (js := [0, 1, 2, 3, 4]) rfl rfl m Tk.un hj rfl nd (fun q cl c' f A outer s H E hr2 => (pe_call (ok_stuck T) (hr2.mono (by decide)) rfl T.m_stuck T.k_stuck T.b_stuck .nil (passX rfl rfl rfl rfl) (pa_cons (pv 0) (pa_cons (pv 4) pa_nil)))) (fun cl H1 hc g E Q k1 k2 => ?_)
        exact (ex_callLN (T := T.er) (x := (x, us ++ [odd], ())) (ea_c (ev_v rfl (go rsF hc g)) (ea_c (ev_v rfl (go rbF hc g)) ea_nil)) ⟨ok, hbl⟩) _ .refl .nil Q (fun y ey => by cases ey.symm.trans st1) (fun e ee cl d H' g' z => by cases ee.symm.trans st1; exact k2 _ rfl cl d H' g'.gr0 z)
      rcases List.mem_append.mp hb with hb | hb
      rotate_left
      · obtain rfl := List.mem_singleton.mp hb
        refine says_of (sc := defScope s__law_works) (N := N__law_works) (js := [0, 1, 2, 3, 4]) rfl rfl m Tk.un hj rfl nd (fun q cl c' f A outer s H E hr2 => (pe_call (ok_share T) (hr2.mono (by decide)) rfl T.m_share T.k_share T.b_share .nil (passX rfl rfl rfl rfl) (pa_cons (pv 0) (pa_cons (pv 1) (pa_cons (pv 4) pa_nil))))) (fun cl H1 hc g E Q k1 k2 => ?_)
        exact (ex_call (T := T.er) (x := (x, us, us ++ [odd], ())) (ea_c (ev_v rfl (go rsF hc g)) (ea_c (ev_v rfl (go ruF hc g)) (ea_c (ev_v rfl (go rbF hc g)) ea_nil))) ⟨ok, by show us.length ≤ 90000; omega, hbl⟩) _ .refl .nil Q (fun y ey => by cases ey.symm.trans sh2) (fun e ee cl d H' g' z => by cases ee.symm.trans sh2; exact k2 _ rfl cl d H' g'.gr0 z)
      rcases List.mem_append.mp hb with hb | hb
      rotate_left
      · obtain rfl := List.mem_singleton.mp hb
        refine says_of (sc := defScope s__law_works) (N := N__law_works) (js := [0, 1, 2, 3, 4]) rfl rfl m Tk.un hj rfl nd (fun q cl c' f A outer s H E hr2 => (pe_call (ok_share T) (hr2.mono (by decide)) rfl T.m_share T.k_share T.b_share .nil (passX rfl rfl rfl rfl) (pa_cons (pv 0) (pa_cons (pv 4) (pa_cons (pv 2) pa_nil))))) (fun cl H1 hc g E Q k1 k2 => ?_)
        exact (ex_call (T := T.er) (x := (x, us ++ [odd], ks, ())) (ea_c (ev_v rfl (go rsF hc g)) (ea_c (ev_v rfl (go rbF hc g)) (ea_c (ev_v rfl (go rkF hc g)) ea_nil))) ⟨ok, hbl, by show ks.length ≤ 90000; omega⟩) _ .refl .nil Q (fun y ey => by cases ey.symm.trans sh1) (fun e ee cl d H' g' z => by cases ee.symm.trans sh1; exact k2 _ rfl cl d H' g'.gr0 z)
      rcases List.mem_append.mp hb with hb | hb
      rotate_left
      · obtain rfl := List.mem_singleton.mp hb
        refine says_of (sc := defScope s__law_works) (N := N__law_works) (js := [0, 1, 2, 3, 4]) rfl rfl m Tk.un hj rfl nd (fun q cl c' f A outer s H E hr2 => (pe_call (ok_wrong T) (hr2.mono (by decide)) rfl T.m_wrong T.k_wrong T.b_wrong .nil (passX rfl rfl rfl rfl) (pa_cons (pv 0) (pa_cons (pv 1) (pa_cons (pv 4) pa_nil))))) (fun cl H1 hc g E Q k1 k2 => ?_)
        exact (ex_callL (T := T.er) (x := (x, us, us ++ [odd], ())) (ea_c (ev_v rfl (go rsF hc g)) (ea_c (ev_v rfl (go ruF hc g)) (ea_c (ev_v rfl (go rbF hc g)) ea_nil))) ⟨ok, by show us.length ≤ 90000; omega, hbl⟩) _ .refl .nil Q (fun y ey => by cases ey.symm.trans wr2) (fun e ee cl d H' g' z => by cases ee.symm.trans wr2; exact k2 _ rfl cl d H' g'.gr0 z)
      rcases List.mem_append.mp hb with hb | hb
      rotate_left
      · obtain rfl := List.mem_singleton.mp hb
        refine says_of (sc := defScope s__law_works) (N := N__law_works) (js := [0, 1, 2, 3, 4]) rfl rfl m Tk.un hj rfl nd (fun q cl c' f A outer s H E hr2 => (pe_call (ok_wrong T) (hr2.mono (by decide)) rfl T.m_wrong T.k_wrong T.b_wrong .nil (passX rfl rfl rfl rfl) (pa_cons (pv 0) (pa_cons (pv 4) (pa_cons (pv 2) pa_nil))))) (fun cl H1 hc g E Q k1 k2 => ?_)
        exact (ex_callL (T := T.er) (x := (x, us ++ [odd], ks, ())) (ea_c (ev_v rfl (go rsF hc g)) (ea_c (ev_v rfl (go rbF hc g)) (ea_c (ev_v rfl (go rkF hc g)) ea_nil))) ⟨ok, hbl, by show ks.length ≤ 90000; omega⟩) _ .refl .nil Q (fun y ey => by cases ey.symm.trans wr1) (fun e ee cl d H' g' z => by cases ee.symm.trans wr1; exact k2 _ rfl cl d H' g'.gr0 z)
      obtain rfl := List.mem_singleton.mp hb
      refine says_of (sc := defScope s__law_works) (N := N__law_works) (js := [0, 1, 2, 3, 4]) rfl rfl m Tk.un hj rfl nd (fun q cl c' f A outer s H E hr2 => (pe_call (ok_yeses T) (hr2.mono (by decide)) rfl T.m_yeses T.k_yeses T.b_yeses .nil (passX rfl rfl rfl rfl) (pa_cons (pv 0) (pa_cons (pv 4) pa_nil)))) (fun cl H1 hc g E Q k1 k2 => ?_)
      exact (ex_callL (T := T.er) (x := (x, us ++ [odd], ())) (ea_c (ev_v rfl (go rsF hc g)) (ea_c (ev_v rfl (go rbF hc g)) ea_nil)) ⟨ok, hbl⟩) _ .refl .nil Q (fun y ey => by dsimp only at ey; rw [nU] at ey; cases ey) (fun e ee cl d H' g' z => by dsimp only at ee; rw [nU] at ee; cases ee; exact k2 _ rfl cl d H' g'.gr0 z)
theorem ok_law (T : Txt K mg) {f c PT : Addr} {fd : FuncData} (F : Fun K "law" "law" s_law f fd) (TB : LamX.TabB base mg c PT) (hcw : T.d__law_works.code = .ref c) : FnOk P w K mg base CX0 14 f fd ["_law_script"] (spLawT K PT) := by
  refine F.ok sc_law (fun vs H Q E h => ?_) (fun cdv A outer s0 H vs Q E hr h => ?_)
  · obtain ⟨a, ns, rfl, _⟩ := h
    rfl
  · obtain ⟨a, ns, rfl, hS, hl, hPT, k⟩ := h
    refine ⟨_, (pss_cons (ps_set (i := 1) sc_law.nd rfl (Or.inl rfl) (pe_call (ok__law_mix T) (hr.mono (by decide)) rfl T.m__law_mix T.k__law_mix T.b__law_mix .nil pass0 (pa_cons (pv 0) (pa_cons pe_int pa_nil))))
  (pss_cons (ps_set (i := 2) sc_law.nd rfl (Or.inr rfl) (pe_call (ok__law_hands T) (hr.mono (by decide)) rfl T.m__law_hands T.k__law_hands T.b__law_hands .nil pass0 (pa_cons (pv 1) (pa_cons pe_int pa_nil))))
  (pss_cons (ps_set (i := 3) sc_law.nd rfl (Or.inl rfl) (pe_op op_add pe_int (pe_call (ok__law_next T) (hr.mono (by decide)) rfl T.m__law_next T.k__law_next T.b__law_next .nil pass0 (pa_cons (pv 1) (pa_cons (pe_ix ix_list (pe_lst (pa_cons pe_int (pa_cons pe_int (pa_cons pe_int pa_nil)))) (pe_call (ok__law_next T) (hr.mono (by decide)) rfl T.m__law_next T.k__law_next T.b__law_next .nil pass0 (pa_cons (pv 1) (pa_cons pe_int pa_nil))) (fun _ _ => rfl)) pa_nil)))))
  (pss_cons (ps_set (i := 4) sc_law.nd rfl (Or.inr rfl) (pe_op op_add pe_int (pe_call (ok__law_next T) (hr.mono (by decide)) rfl T.m__law_next T.k__law_next T.b__law_next .nil pass0 (pa_cons (pv 1) (pa_cons pe_int pa_nil)))))
  (pss_cons (ps_set (i := 5) sc_law.nd rfl (Or.inr rfl) (pe_call (ok__law_keys T) (hr.mono (by decide)) rfl T.m__law_keys T.k__law_keys T.b__law_keys .nil pass0 (pa_cons (pv 1) (pa_cons (pe_call (ok__law_next T) (hr.mono (by decide)) rfl T.m__law_next T.k__law_next T.b__law_next .nil pass0 (pa_cons (pv 1) (pa_cons pe_int pa_nil))) pa_nil))))
  (pss_cons (ps_set (i := 6) sc_law.nd rfl (Or.inl rfl) (pe_call (ok__law_universe T) (hr.mono (by decide)) rfl T.m__law_universe T.k__law_universe T.b__law_universe .nil pass0 (pa_cons (pv 1) (pa_cons pe_int (pa_cons (pv 5) pa_nil)))))
  (pss_cons (ps_set (i := 7) sc_law.nd rfl (Or.inl rfl) (pe_call (ok_built T) (hr.mono (by decide)) rfl T.m_built T.k_built T.b_built .nil passL (pa_cons (pv 5) (pa_cons (pv 3) (pa_cons (pv 2) (pa_cons (pv 4) pa_nil))))))
  (pss_cons (ps_set (i := 8) sc_law.nd rfl (Or.inr rfl) (pe_call (ok__law_counts T) (hr.mono (by decide)) rfl T.m__law_counts T.k__law_counts T.b__law_counts .nil pass0 (pa_cons (pv 5) (pa_cons (pv 3) (pa_cons (pv 2) (pa_cons (pv 4) pa_nil))))))
  (pss_cons (ps_setLc (i := 9) (own := [("_law_key", 10)]) (g := gName 10) rfl sc_law.nd rfl rfl (sw_true rfl rfl rfl (by decide +kernel)) (pi_list (pv 6)) (blkOk_by (own := [("_law_key", 10)]) (N := N_law) (sc := defScope s_law) (by decide +kernel)) (fun _ _ _ _ _ => (pg_name (i := 10) sc_law.nd rfl (Or.inl rfl) (.inr rfl))) (fun _ _ _ _ _ => (pts_one (pt_val (pe_call (ok__law_says T) (hr.mono (by decide)) rfl T.m__law_says T.k__law_says T.b__law_says .nil pass0 (pa_cons (pv 8) (pa_cons (pv 2) (pa_cons (pv 4) (pa_cons (pv 10) pa_nil)))))))) (fun _ _ _ _ _ => (pv 10)))
  (pss_cons (ps_set (i := 11) sc_law.nd rfl (Or.inl rfl) (pe_tup (pa_cons (pe_callTy call_list_of (by rfl) T.n_list (by decide +kernel) (pa_cons (pv 6) pa_nil)) (pa_cons (pe_callTy call_list_of (by rfl) T.n_list (by decide +kernel) (pa_cons (pv 5) pa_nil)) pa_nil))))
  (pss_cons (ps_for PassesOwn.never rfl (pi_range1 rfl T.n_range (pa_cons pe_int pa_nil)) (pg_name (i := 12) sc_law.nd rfl (Or.inl rfl))
  (pss_cons (ps_set (i := 13) sc_law.nd rfl (Or.inl rfl) (pe_lst (pa_cons (pe_call (ok_yeses T) (hr.mono (by decide)) rfl T.m_yeses T.k_yeses T.b_yeses .nil passL (pa_cons (pv 7) (pa_cons (pe_ix ix_tup (pv 11) pe_int (fun _ _ => rfl)) pa_nil))) (pa_cons (pe_call (ok_wrong T) (hr.mono (by decide)) rfl T.m_wrong T.k_wrong T.b_wrong .nil passL (pa_cons (pv 7) (pa_cons (pe_ix ix_tup (pv 11) pe_int (fun _ _ => rfl)) (pa_cons (pe_ix ix_tup (pv 11) pe_int (fun _ _ => rfl)) pa_nil)))) pa_nil))))
  (pss_cons (ps_if (PW.pt (pw_or (pt_not (pt_val (pe_call (ok__law_are T) (hr.mono (by decide)) rfl T.m__law_are T.k__law_are T.b__law_are .nil pass0 (pa_cons (pe_ix ix_list (pv 13) pe_int (fun _ _ => rfl)) (pa_cons (pv 9) pa_nil))))) (pw_or1 (pt_not (pt_val (pe_call (ok__law_are T) (hr.mono (by decide)) rfl T.m__law_are T.k__law_are T.b__law_are .nil pass0 (pa_cons (pe_ix ix_list (pv 13) pe_int (fun _ _ => rfl)) (pa_cons (pe_lc (own := [("_law_key", 10)]) (g := gName 10) (by rfl) sc_law.nd (pi_list (pv 9)) (blkOk_by (own := [("_law_key", 10)]) (N := N_law) (sc := defScope s_law) (by decide +kernel)) (fun _ _ _ _ _ => (pg_name (i := 10) sc_law.nd rfl (Or.inl rfl) (.inr rfl))) (fun _ _ _ _ _ => (pts_one (pt_cmpR (show OpR _ (compareOp .NotIn) (rIn K true) from op_notIn_seq) (pv 10) (pv 5) (by rfl)))) (fun _ _ _ _ _ => (pv 10))) pa_nil))))))))
  (pss_one (ps_ret pe_bl))
  pss_nil)
  (pss_cons (ps_set (i := 14) sc_law.nd rfl (Or.inl rfl) (pe_call (ok_share T) (hr.mono (by decide)) rfl T.m_share T.k_share T.b_share .nil passL (pa_cons (pv 7) (pa_cons (pe_ix ix_tup (pv 11) pe_int (fun _ _ => rfl)) (pa_cons (pe_ix ix_tup (pv 11) pe_int (fun _ _ => rfl)) pa_nil)))))
  (pss_cons (ps_setLc (i := 15) (own := [("_law_key", 10)]) (g := gName 10) rfl sc_law.nd rfl rfl (sw_true rfl rfl rfl (by decide +kernel)) (pi_list (pv 6)) (blkOk_by (own := [("_law_key", 10)]) (N := N_law) (sc := defScope s_law) (by decide +kernel)) (fun _ _ _ _ _ => (pg_name (i := 10) sc_law.nd rfl (Or.inl rfl) (.inr rfl))) (fun _ _ _ _ _ => (pts_one (pt_cmpR (show OpR _ (compareOp .NotIn) (rIn K true) from op_notIn_seq) (pv 10) (pv 5) (by rfl)))) (fun _ _ _ _ _ => (pv 10)))
  (pss_cons (ps_if (PW.pt (pw_or (pt_not (pt_val (pe_callB call_isi (by rfl) T.n_isinstance (by decide +kernel) (pa_cons (pv 14) (pa_cons (pe_bltn (v := .ty "tuple") rfl T.n_tuple (by decide +kernel) rfl) pa_nil))))) (pw_or1 (pt_not (pt_val (pe_call (ok__law_are T) (hr.mono (by decide)) rfl T.m__law_are T.k__law_are T.b__law_are .nil pass0 (pa_cons (pe_callTy call_list_of (by rfl) T.n_list (by decide +kernel) (pa_cons (pv 14) pa_nil)) (pa_cons (pe_lst (pa_cons (pe_callB call_len_seq (by rfl) T.n_len (by decide +kernel) (pa_cons (pe_ix ix_list (pv 13) pe_int (fun _ _ => rfl)) pa_nil)) (pa_cons (pe_callB call_len_seq (by rfl) T.n_len (by decide +kernel) (pa_cons (pv 15) pa_nil)) pa_nil))) pa_nil))))))))
  (pss_one (ps_ret pe_bl))
  pss_nil)
  (pss_cons (ps_set (i := 16) sc_law.nd rfl (Or.inl rfl) (pe_call (ok_stuck T) (hr.mono (by decide)) rfl T.m_stuck T.k_stuck T.b_stuck .nil passL (pa_cons (pv 7) (pa_cons (pe_ix ix_tup (pv 11) pe_int (fun _ _ => rfl)) pa_nil))))
  (pss_cons (ps_if (pt_not (pt_val (pe_call (ok__law_alike T) (hr.mono (by decide)) rfl T.m__law_alike T.k__law_alike T.b__law_alike .nil pass0 (pa_cons (pv 16) (pa_cons (pe_call (ok__law_due_stuck T) (hr.mono (by decide)) rfl T.m__law_due_stuck T.k__law_due_stuck T.b__law_due_stuck .nil pass0 (pa_cons (pv 9) (pa_cons (pv 8) (pa_cons (pv 2) (pa_cons (pv 4) pa_nil))))) pa_nil)))))
  (pss_one (ps_ret pe_bl))
  pss_nil)
  (pss_one (ps_for PassesOwn.never rfl (pi_list (pe_op op_cat (pe_op op_cat (pv 13) (pe_lc (own := [("_law_pair", 18)]) (g := gName 18) (tt := tYes) (by rfl) sc_law.nd (pi_list (pv 16)) (blkOk_by (own := [("_law_pair", 18)]) (N := N_law) (sc := defScope s_law) (by decide +kernel)) (fun _ _ _ _ _ => (pg_name (i := 18) sc_law.nd rfl (Or.inl rfl) (.inr rfl))) (fun _ _ _ _ _ => pts_nil) (fun _ _ _ _ _ => (pe_ix (show IxR _ (rIxT K) from ix_tup) (pv 18) pe_int (fun _ _ => rfl))))) (pe_lst (pa_cons (pv 16) pa_nil)))) (pg_name (i := 17) sc_law.nd rfl (Or.inl rfl))
  (pss_one (ps_expr (pe_bm PySem.F.plainAttrs_list PySem.F.slot_list_append PySem.F.type_list_append mt_append (pv 17) (pa_cons pe_int pa_nil))))))))))))))
  (pss_cons (ps_set (i := 19) sc_law.nd rfl (Or.inl rfl) (pe_call (ok__law_works T TB hcw) (hr.mono (by decide)) rfl T.m__law_works T.k__law_works T.b__law_works .nil pass0 (pa_cons (pv 7) (pa_cons (pv 6) (pa_cons (pv 5) (pa_cons (pe_ix ix_list (pe_lst (pa_cons (pe_un un_neg pe_int) (pa_cons pe_int pa_nil))) (pe_call (ok__law_next T) (hr.mono (by decide)) rfl T.m__law_next T.k__law_next T.b__law_next .nil pass0 (pa_cons (pv 1) (pa_cons pe_int pa_nil))) (fun _ _ => rfl)) pa_nil))))))
  (pss_cons (ps_if (pt_cmpR (op_neD hr.units) (pe_lc (own := [("_law_work", 20)]) (g := gName 20) (by rfl) sc_law.nd (pi_list (pv 19)) (blkOk_by (own := [("_law_work", 20)]) (N := N_law) (sc := defScope s_law) (by decide +kernel)) (fun _ _ _ _ _ => (pg_name (i := 20) sc_law.nd rfl (Or.inl rfl) (.inr rfl))) (fun _ _ _ _ _ => (pts_one (pt_not (pt_val (pe_call (ok__law_refused (P := P) (w := w) (base := base) T) (hr.mono (by decide)) rfl T.m__law_refused T.k__law_refused T.b__law_refused .nil pass0 (pa_cons (pv 20) pa_nil)))))) (fun _ _ _ _ _ => (pv 20))) (pe_lst pa_nil) (nomark _))
  (pss_one (ps_ret pe_bl))
  pss_nil)
  (pss_one (ps_ret (pe_and (pe_cmpR (op_eqD hr.units) (pv 11) (pe_tup (pa_cons (pv 6) (pa_cons (pv 5) pa_nil))) (nomark _)) (pe_one (pe_call (ok__law_are T) (hr.mono (by decide)) rfl T.m__law_are T.k__law_are T.b__law_are .nil pass0 (pa_cons (pe_meth0 (pv 7) T.cl_Sieve T.me_Sieve_counts (ok_Sieve_counts T) (hr.mono (by decide)) T.b_Sieve_counts .nil pass0) (pa_cons (pv 8) pa_nil)))))))))))))))))))), ?_⟩
    refine q_rawA ⟨_, rfl, a, ns, 23, rfl, hS, hl, fun p q H1 np nq npq g1 d1 => g_name ?_⟩
    have c1 := cc_draw d1
    have hPT1 := g1.at0 hPT
    have nPT : PT ∉ [p, q] := fun z => by
      simp only [List.mem_cons, List.not_mem_nil, or_false] at z
      rcases z with z | z
      · rw [z, np] at hPT; cases hPT
      · rw [z, nq] at hPT; cases hPT
    refine q_setL (p := HandsOk 6) c1 (el_drawn rfl (ea_c ev_c ea_nil) fun x e => by subst e; exact ⟨⟨by decide, by decide⟩, fun y z => z⟩) fun hands ah H2 nh g2 oh hh => ?_
    have c2 := c1.go g2
    have hlen : hands.length ≤ 6 := by have := hh.2.1; omega
    refine q_setI (p := fun n => 1 ≤ n ∧ n ≤ 96) c2 (ev_i0 (p := fun n => n = 1) (q := fun n => 0 ≤ n ∧ n < 96) ev_c (ev_next (s := fun n : Int => 0 < n ∧ n ≤ 96) rfl (ev_pick (n := 3) (ei_allS (ev_cP (by decide)) (ei_allS (ev_cP (by decide)) (ei_allS (ev_cP (by decide)) ei_all0))) (ev_nextC (b := 3) rfl (by decide)) (fun i b => b)) (fun n b => by omega) fun n i b h0 h1 => by omega) fun i j e b => by subst e; omega) fun size H3 g3 hsz => ?_
    have c3 := c2.go g3
    refine q_setI (p := fun n => 1 ≤ n ∧ n ≤ 9) c3 (ev_i0 ev_c (ev_nextC rfl (by decide)) fun i j e b => by subst e; omega) fun cap H4 g4 hcp => ?_
    have c4 := c3.go g4
    refine q_setL (p := fun ks : List Int => ks.length ≤ 15 ∧ ∀ k, k ∈ ks → KeyOk k) c4 (el_drawn (s := fun x : Int × Unit => 0 ≤ x.1 ∧ x.1 ≤ 15) rfl (ea_cons (p := fun n : Int => 0 ≤ n ∧ n ≤ 15) (q := fun y => y = ()) ((ev_nextC rfl (by decide)).imp fun n b => (show 0 ≤ n ∧ n ≤ 15 by omega)) ea_nil fun x y hx _ => hx) fun x e => ⟨⟨e.1, by show x.1 ≤ 1000; omega⟩, fun y z => ⟨by have := z.1; omega, z.2⟩⟩) fun keys ak H5 nak g5 okk hks => ?_
    have c5 := c4.go g5
    obtain ⟨hkl, hk⟩ := hks
    refine q_setL (p := fun us : List Int => us.length ≤ 55 ∧ ∀ k, k ∈ us → KeyOk k) c5 (el_drawn (s := fun x : Int × List Int × Unit => x = (20, keys, ())) rfl (ea_c ev_c (ea_c (ev_v rfl okk.rp) ea_nil)) fun x e => by subst e; exact ⟨⟨by show (0 : Int) ≤ 20; decide, by show (20 : Int) ≤ 100; decide, by show keys.length ≤ 1000; omega, hk⟩, fun y z => ⟨by have := z.2.1; dsimp only at this; omega, z.2.2⟩⟩) fun us au H6 nau g6 ou hus => ?_
    have c6 := c5.go g6
    obtain ⟨hul, hu⟩ := hus
    have oh6 := ((((oh.gd c2 g3).gd c3 g4).gd c4 g5).gd c5 g6).rp
    have ok6 := (okk.gd c5 g6).rp
    have good : (svOf T.c_Sieve keys size hands cap).Good := svOf_good hsz.1 hsz.2 hh hcp.1 hcp.2
    refine q_mkS c6 (es_callX (T := T.er) (a := (keys, size, hands, cap, ())) (ea_c (ev_v rfl ok6) (ea_c ev_vi (ea_c (ev_v rfl oh6) (ea_c ev_vi ea_nil)))) (by show hands.length ≤ 90000; omega)) (bld_ok (C := T.c_Sieve) hsz.1 hsz.2 hh hcp.1 hcp.2 hk) fun s1 cc1 H7 ns1 nc1 g7 sn1 => ?_
    have c7 := c6.go g7
    have rs7 : Rp.rp [p, q] H7 (svOf T.c_Sieve keys size hands cap) (.ref s1) := ⟨s1, cc1, rfl, sn1.at_ c6⟩
    have oh7 := rp_gd oh6 c6 g7
    have ok7 := rp_gd ok6 c6 g7
    have ou7 := (ou.gd c6 g7).rp
    obtain ⟨sv, hsv⟩ : ∃ sv, sv = svOf T.c_Sieve keys size hands cap := ⟨_, rfl⟩
    have hcl : (counts keys size hands cap).length = size.toNat := counts_len keys size hands cap
    refine q_setLV (xs := counts keys size hands cap) c7 (el_callV (x := (keys, size, hands, cap, ())) (ea_c (ev_v rfl ok7) (ea_c ev_vi (ea_c (ev_v rfl oh7) (ea_c ev_vi ea_nil)))) ⟨by show keys.length ≤ 90000; omega, by show 0 < size; omega, by show size ≤ 1000; omega, by show hands.length ≤ 1000; omega, hk⟩) fun acn H8 nacn g8 ocn => ?_
    have c8 := c7.go g8
    have ou8 := rp_gd ou7 c7 g8
    have oh8 := rp_gd oh7 c7 g8
    have hsay : ∀ key, saysL (counts keys size hands cap) hands cap key = sv.yes key := fun key => by rw [hsv]; exact saysL_eq (svOf T.c_Sieve keys size hands cap) (by show ((counts keys size hands cap).length : Int) = size; omega) key
    refine q_setLV (xs := us.filter sv.yes) c8 (EvL.imp (el_filterMap (β := Int) sv.yes (fun c => c) (ev_v rfl ou8) (by omega) fun i u H9 hi g9 c9 r => ?_) fun l e => by rw [e, List.map_id']) fun ay H9 nay g9 oy => ?_
    · cases rp_int r
      exact lcT_name rfl (et_B ((ev_callV (x := (counts keys size hands cap, hands, cap, i, ())) (ea_c (ev_v rfl (ocn.gd c8 g9).rp) (ea_c (ev_v rfl (rp_gd oh8 c8 g9)) (ea_c ev_vi (ea_c ev_vi ea_nil)))) ⟨by show 0 < (counts keys size hands cap).length; omega, by show (counts keys size hands cap).length ≤ 1000; omega, by show hands.length ≤ 1000; omega, hu i hi⟩).imp fun b e => e.trans (hsay i))) fun _ => ev_vi
    have c9 := c8.go g9
    have g79 := g8.trans g9
    have ou9 := rp_gd ou8 c8 g9
    have ok9 := rp_gd ok7 c7 g79
    refine q_setV (x := (us, keys)) c9 (ev_pairV (el_list (ev_v rfl ou9)).ev (el_list (ev_v rfl ok9)).ev) fun vt H10 g10 rt => ?_
    have c10 := c9.go g10
    have g710 := g79.trans g10
    have ou10 := rp_gd ou9 c9 g10
    have ok10 := rp_gd ok9 c9 g10
    have oh10 := rp_gd oh8 c8 (g9.trans g10)
    have rs10 := rp_gd rs7 c7 g710
    have on10 := (ocn.gd c8 (g9.trans g10)).rp
    have oy10 := (oy.gd c9 g10).rp
    rw [← hsv] at rs10 good
    have hPT10 : H10 PT = some (.tbl #[]) := ((((((g2.trans g3).trans g4).trans g5).trans g6).trans g7).trans g710).gr.keep PT _ hPT1 nPT
    have ok := good.ok
    have hyl : (us.filter sv.yes).length ≤ us.length := List.length_filter_le _ _
    have hyk : ∀ k, k ∈ us.filter sv.yes → KeyOk k := fun k h => hu k (List.mem_filter.mp h).1
    have hol : (othersF us keys).length ≤ us.length := othersF_len us keys
    have hwl : ((othersF us keys).filter sv.yes).length ≤ (othersF us keys).length := List.length_filter_le _ _
    have esv : (⟨((counts keys size hands cap).length : Int), hands, cap, counts keys size hands cap⟩ : Sv T.c_Sieve) = sv := by
      rw [hsv, show ((counts keys size hands cap).length : Int) = size by omega]
      rfl
    have fst : stuckF sv us = .ok (stucks sv (us.filter sv.yes)) := by unfold stuckF yesesF; rw [needKeys_ok hu]
    have fsh : shareF sv us keys = .ok ((((othersF us keys).filter sv.yes).length : Int), ((othersF us keys).length : Int)) := by unfold shareF; rw [wrongF_ok hu hk]
    have hstl := stucks_len sv (us.filter sv.yes)
    have hsth : ∀ pr, pr ∈ stucks sv (us.filter sv.yes) → pr.2.length ≤ 1000 := fun pr h => by
      obtain ⟨k, e⟩ := stucks_mem h
      rw [e]
      exact stuck_len sv k (by rw [hsv]; show hands.length ≤ 1000; omega)
    -- twice
    refine q_forR1 (p := fun n => n = 2) c10 ev_c fun n2 H11 g11 hn2 => ⟨by omega, fun i s2 H' => ∃ x12 x13 x14 x15 x16 x17 : Option V, s2 = [some (.ref a), some (.ref p), some (.ref ah), some (.int size), some (.int cap), some (.ref ak), some (.ref au), some (.ref s1), some (.ref acn), some (.ref ay), none, some vt, x12, x13, x14, x15, x16, x17, none, none, none] ∧ Gd (some (p, q)) H10 H',
      ⟨none, none, none, none, none, none, rfl, g11⟩, ?_, ?_⟩
    · rintro i s2 H' hi ⟨x12, x13, x14, x15, x16, x17, rfl, gi⟩
      refine g_name ?_
      have ci := c10.go gi
      have rti := rp_gd rt c10 gi
      have rsi := rp_gd rs10 c10 gi
      have oui := rp_gd ou10 c10 gi
      have oki := rp_gd ok10 c10 gi
      have ohi := rp_gd oh10 c10 gi
      have oni := rp_gd on10 c10 gi
      have oyi := rp_gd oy10 c10 gi
      refine q_setLV (xs := [(⟨us.filter sv.yes⟩ : Nw H' (List Int)), ⟨(othersF us keys).filter sv.yes⟩]) ci (EvL.imp (el_lst (ei_consV (ev_nw (H0 := H') ((ex_callL (T := T.er) (x := (sv, us, ())) (ea_c (ev_v rfl rsi) (ea_c (ev_ix0 (ev_v rfl rti)) ea_nil)) ⟨ok, by show us.length ≤ 90000; omega⟩).ok (by dsimp only; rw [needKeys_ok hu])) fun b q => q) (ei_consV (ev_nw (H0 := H') ((ex_callL (T := T.er) (x := (sv, us, keys, ())) (ea_c (ev_v rfl rsi) (ea_c (ev_ix0 (ev_v rfl rti)) (ea_c (ev_ix1 (ev_v rfl rti)) ea_nil))) ⟨ok, by show us.length ≤ 90000; omega, by show keys.length ≤ 90000; omega⟩).ok (wrongF_ok hu hk)) fun b q => q) ei_nil)) fun l e => by rw [e]; simp) fun l e => e) fun at_ H12 nat g12 oT => ?_
      have c12 := ci.go g12
      have oy12 := rp_gd oyi ci g12
      have ok12 := rp_gd oki ci g12
      refine q_skip c12 (et_orV (a := false) (b := false) (et_notV (a := true) (et_B ((ev_callV (x := (us.filter sv.yes, us.filter sv.yes, ())) (ea_c (ev_unw (ev_ixLV (x := (⟨us.filter sv.yes⟩ : Nw H' (List Int))) (ev_v rfl oT.rp) ev_c rfl)) (ea_c (ev_v rfl oy12) ea_nil)) (by show (us.filter sv.yes).length ≤ 90000; omega)).imp fun b e => by rw [e]; exact decide_eq_true rfl))) fun _ => et_notV (a := true) (et_B ((ev_callV (x := ((othersF us keys).filter sv.yes, (othersF us keys).filter sv.yes, ())) (ea_c (ev_unw (ev_ixLV (x := (⟨(othersF us keys).filter sv.yes⟩ : Nw H' (List Int))) (ev_v rfl oT.rp) ev_c rfl)) (ea_c (EvL.ev (EvL.imp (el_filterMap (β := Int) (fun k => !decide (k ∈ keys)) (fun c => c) (ev_v rfl oy12) (by omega) fun i u H9 hi g9 c9 r => by
          cases rp_int r
          exact lcT_name rfl (et_B (ev_nin ev_vi (ev_v rfl (rp_gd ok12 c12 g9)))) fun _ => ev_vi) fun l e => by rw [e, List.map_id', wrongF_due])) ea_nil)) (by show ((othersF us keys).filter sv.yes).length ≤ 90000; omega)).imp fun b e => by rw [e]; exact decide_eq_true rfl))) (fun b e => e) fun H13 g13 => ?_
      have c13 := c12.go g13
      have gi13 := g12.trans g13
      have rt13 := rp_gd rti ci gi13
      have rs13 := rp_gd rsi ci gi13
      refine q_setV (x := ((((othersF us keys).filter sv.yes).length : Int), ((othersF us keys).length : Int))) c13 ((ex_call (T := T.er) (x := (sv, us, keys, ())) (ea_c (ev_v rfl rs13) (ea_c (ev_ix0 (ev_v rfl rt13)) (ea_c (ev_ix1 (ev_v rfl rt13)) ea_nil))) ⟨ok, by show us.length ≤ 90000; omega, by show keys.length ≤ 90000; omega⟩).ok fsh) fun vp H14 g14 rpa => ?_
      have c14 := c13.go g14
      have gi14 := gi13.trans g14
      have ou14 := rp_gd oui ci gi14
      have ok14 := rp_gd oki ci gi14
      refine q_setLV (xs := othersF us keys) c14 (EvL.imp (el_filterMap (β := Int) (fun k => !decide (k ∈ keys)) (fun c => c) (ev_v rfl ou14) (by omega) fun i u H9 hi g9 c9 r => by
          cases rp_int r
          exact lcT_name rfl (et_B (ev_nin ev_vi (ev_v rfl (rp_gd ok14 c14 g9)))) fun _ => ev_vi) fun l e => by rw [e, List.map_id']; rfl) fun aou H15 naou g15 oO => ?_
      have c15 := c14.go g15
      have gi15 := gi14.trans g15
      have rp15 := rp_gd rpa c14 g15
      have oT15 := (oT.gd c12 (g13.trans (g14.trans g15)))
      refine q_skip c15 (et_orV (a := false) (b := false) (et_notV (a := true) (et_B (ev_isT (p := fun y => y = ((((othersF us keys).filter sv.yes).length : Int), ((othersF us keys).length : Int))) (ev_v rfl rp15) (fun x v H' r _ => ty_pair r) (by decide +kernel)))) fun _ => et_notV (a := true) (et_B ((ev_callV (x := ([(((othersF us keys).filter sv.yes).length : Int), ((othersF us keys).length : Int)], [(((othersF us keys).filter sv.yes).length : Int), ((othersF us keys).length : Int)], ())) (ea_c (el_listP (ev_v rfl rp15)).ev (ea_c (EvL.ev (el_lst (ei_consV (ev_len (ev_unw (ev_ixLV (x := (⟨(othersF us keys).filter sv.yes⟩ : Nw H' (List Int))) (ev_v rfl oT15.rp) ev_c rfl))) (ei_consV (ev_len (ev_v rfl oO.rp)) ei_nil)) fun l e => by rw [e]; simp)) ea_nil)) (by show 2 ≤ 90000; decide)).imp fun b e => by rw [e]; exact decide_eq_true rfl))) (fun b e => e) fun H16 g16 => ?_
      have c16 := c15.go g16
      have gi16 := gi15.trans g16
      have rt16 := rp_gd rti ci gi16
      have rs16 := rp_gd rsi ci gi16
      refine q_setLN (α := Int × Nw H' (List Int)) c16 (el_callXP (H0 := H') (x := (sv, us, ())) (ea_c (ev_v rfl rs16) (ea_c (ev_ix0 (ev_v rfl rt16)) ea_nil)) ⟨ok, by show us.length ≤ 90000; omega⟩ fst fun b q z => q (gi16.gr.dom b z)) fun ys ad H17 nad g17 oN eys => ?_
      have c17 := c16.go g17
      have gi17 := gi16.trans g17
      have nad0 : H10 ad = none := gi.gr.dom ad (gi16.gr.dom ad nad)
      have nadH : H' ad = none := gi16.gr.dom ad nad
      have ysl : ys.length = (stucks sv (us.filter sv.yes)).length := by rw [eys, List.length_map]
      have ymem : ∀ y, y ∈ ys → y.2.x.length ≤ 1000 := fun y hy => by
        rw [eys] at hy
        obtain ⟨g, hg, rfl⟩ := List.mem_map.mp hy
        exact hsth g hg
      have oy17 := rp_gd oyi ci gi17
      have on17 := rp_gd oni ci gi17
      have oh17 := rp_gd ohi ci gi17
      have al : EvV (some (p, q)) [p, q] (tCall (SpAlike 5) [] E0 (tCons (tVar 16) (tCons (tCall (SpF (fun x : List Int × List Int × List (Int × Int) × Int × Unit => x.1.length ≤ 1000 ∧ (∀ k, k ∈ x.1 → KeyOk k) ∧ 0 < x.2.1.length ∧ x.2.1.length ≤ 1000 ∧ x.2.2.1.length ≤ 6) fun x => stucks (⟨(x.2.1.length : Int), x.2.2.1, x.2.2.2.1, x.2.1⟩ : Sv T.c_Sieve) x.1) [] E0 (tCons (tVar 9) (tCons (tVar 8) (tCons (tVar 2) (tCons (tVar 4) tNil))))) tNil))) [some (.ref a), some (.ref p), some (.ref ah), some (.int size), some (.int cap), some (.ref ak), some (.ref au), some (.ref s1), some (.ref acn), some (.ref ay), none, some vt, some (.int (i : Int)), some (.ref at_), some vp, some (.ref aou), some (.ref ad), x17, none, none, none] H17 true := fun H3 g3 c3 Q w => ⟨_, rfl, ((ev_callV (x := (us.filter sv.yes, counts keys size hands cap, hands, cap, ())) (ea_c (ev_v rfl oy17) (ea_c (ev_v rfl on17) (ea_c (ev_v rfl oh17) (ea_c ev_vi ea_nil)))) ⟨by show (us.filter sv.yes).length ≤ 1000; omega, hyk, by show 0 < (counts keys size hands cap).length; omega, by show (counts keys size hands cap).length ≤ 1000; omega, hlen⟩).imp fun b e => e.trans (show stucks _ _ = stucks sv (us.filter sv.yes) by rw [esv])) H3 g3 c3 _ fun x v H4 g4 r e => by
        subst e
        refine ⟨.ref ad, v, .list ((stucks sv (us.filter sv.yes)).map fun p => .tuple [.int p.1, .list (p.2.map PyData.int)]), rfl, ?_, at_list (n := 4) r (by omega) fun x u hx r => at_pair r (fun u r => at_int r) fun u r => at_ints r (by have := hsth x hx; omega), fun H5 g5 => w true _ H5 (g4.trans (.pure g5)) rfl rfl⟩
        have := at_list (n := 4) (f := fun p : Int × Nw H' (List Int) => .tuple [.int p.1, .list (p.2.x.map PyData.int)]) (rp_gd (rp_gd oN.own.rp c17 g3) c3 g4) (by omega) fun x u hx r => at_pair r (fun u r => at_int r) fun u r => at_ints (nw_rp r) (by have := ymem x hx; omega)
        rw [eys, List.map_map] at this
        exact this⟩
      refine q_skip c17 (et_notV (a := true) (et_B al)) (fun b e => by rw [e]; rfl) fun H18 g18 => ?_
      have c18 := c17.go g18
      have oT18 := oT15.gd c15 ((g16.trans g17).trans g18)
      have oN18 := oN.gd c17 g18
      obtain ⟨nadm, vs, hvs, ps⟩ := oN18.own
      obtain ⟨natm, tvs, htv, tps⟩ := oT18
      have psl := ps.length
      have tpl : Paired (Rp.rp [p, q] H18) [(⟨⟩ : Pl H'), ⟨⟩] tvs := pl_items tps fun y hy => by
        simp only [List.mem_cons, List.not_mem_nil, or_false] at hy
        rcases hy with rfl | rfl
        · show (us.filter sv.yes).length ≤ 90000; omega
        · show ((othersF us keys).filter sv.yes).length ≤ 90000; omega
      refine s_forLN (p := fun zs : List (Pl H') => zs.length ≤ 60) c18 (el_catLNP (p := fun zs : List (Pl H') => zs.length ≤ 57) (q := fun zs : List (Pl H') => zs.length = 1) (EvL.ev (EvLN.el (el_catLNP (p := fun zs : List (Pl H') => zs = [⟨⟩, ⟨⟩]) (q := fun zs : List (Pl H') => zs.length ≤ 55) (r := fun zs : List (Pl H') => zs.length ≤ 57) (ev_v rfl ⟨at_, tvs, rfl, natm, htv, tpl⟩) (EvL.ev (EvLN.el (el_lcLN (xs := ys) (β := Pl H') (fun j acc => acc.length ≤ j) (ev_v rfl ⟨ad, vs, rfl, nadm, hvs, ps⟩) (by omega) (Nat.le_refl _) (fun j x v al Hl acc hj gl cl nal rx hI => ⟨fun b => b = true, fun _ => True, lcT_name rfl tYes_ok fun _ => fun Hz gz cz Q w => (ev_ix1 (ev_v rfl rx)) Hz gz cz Q fun y v2 Hy gy ry ey => w ⟨⟩ v2 Hy gy (by
          subst ey
          obtain ⟨l, lvs, rfl, nl, hlv, pl⟩ := rp_lst (nw_rp ry)
          have hm := ymem x (List.mem_of_getElem? hj)
          exact ⟨l, lvs, rfl, nw_new ry, nl, hlv, by rw [← pl.length]; omega⟩) trivial, fun y _ _ => by rw [List.length_append, List.length_singleton]; omega, fun z => by cases z⟩) fun acc hI => by omega))) (fun xs ys a b => by subst a; exact ⟨by simp, by omega⟩) fun xs ys a b => by subst a; rw [List.length_append]; simp; omega))) (EvL.ev (el_lst (p := fun l : List (Pl H') => l.length = 1) (ei_cons (p := fun _ => True) (q := fun l : List (Pl H') => l = []) (Ev.any (ev_v (x := (⟨⟩ : Pl H')) rfl ⟨ad, vs, rfl, nadH, nadm, hvs, by omega⟩)) ei_nil fun x xs _ e => by subst e; rfl) fun l e => by omega)) (fun xs ys a b => ⟨by omega, by omega⟩) fun xs ys a b => by rw [List.length_append]; omega) fun xs2 al2 vs2 H19 exs n19 g19 nal2 hal2 ps2 => ?_
      have psl2 := ps2.length
      have n19' : H10 al2 = none := gi.gr.dom al2 ((gi17.trans g18).gr.dom al2 n19)
      refine ⟨fun i2 s2 Hb => ∃ x17 : Option V, s2 = [some (.ref a), some (.ref p), some (.ref ah), some (.int size), some (.int cap), some (.ref ak), some (.ref au), some (.ref s1), some (.ref acn), some (.ref ay), none, some vt, some (.int (i : Int)), some (.ref at_), some vp, some (.ref aou), some (.ref ad), x17, none, none, none] ∧ Gd (some (p, q)) H10 Hb ∧ Hb al2 = some (.lst vs2) ∧ ∀ l, (∃ zs, H19 l = some (.lst zs) ∧ zs.length ≤ 90000) → l ≠ al2 → ∃ zs, Hb l = some (.lst zs) ∧ zs.length ≤ 90000 + i2,
        ⟨_, rfl, ((gi.trans gi17).trans g18).trans g19, hal2, fun l h _ => h⟩, fun i2 s2 Hb ⟨_, _, _, h, _⟩ => h, ?_, ?_⟩
      · rintro i2 y w1 s2 Hi hi2 rx ⟨x17, rfl, g20, hal, hls⟩
        obtain ⟨l, lvs, rfl, nl0, nl, hlv, hll⟩ := rx
        have hil := (List.getElem?_eq_some_iff.mp hi2).1
        have hl00 : H10 l = none := gi.gr.dom l nl0
        have hne : l ≠ al2 := fun z => nl (by rw [z]; simp)
        obtain ⟨zs2, hz2, hz2l⟩ := hls l ⟨lvs, hlv, hll⟩ hne
        refine g_name ?_
        refine ⟨_, rfl, .inl ⟨rfl, _, .inl (.inl hz2)⟩, l, zs2, .int 0, rfl, rfl, hz2, Evl.sz_lt (by omega), ?_⟩
        refine ⟨_, rfl, mut_gd g20 c10 hl00, by rw [upd_ne (Ne.symm hne)]; exact hal, fun l' hl' hne' => ?_⟩
        by_cases z : l' = l
        · rw [z]
          exact ⟨_, upd_same, by rw [List.length_append, List.length_singleton]; omega⟩
        · obtain ⟨zs3, h3, h4⟩ := hls l' hl' hne'
          exact ⟨zs3, by rw [upd_ne z]; exact h3, by omega⟩
      · rintro s2 Hi ⟨x17, rfl, g20, hal, hls⟩
        exact ⟨_, _, _, _, _, _, rfl, g20⟩
    · rintro s2 H' ⟨x12, x13, x14, x15, x16, x17, rfl, gi⟩
      have ci := c10.go gi
      refine ⟨_, rfl, _, rfl, _, rfl, ?_⟩
      refine (ev_pick (P := fun n : Int => ¬ KeyOk n) (n := 2) (D := some (p, q)) (m := [p, q]) (ei_allS (Ev.imp (ev_un (r := fun i : Int => i = -1) ev_c fun i e => by rw [e]) fun n e z => by have := z.1; omega) (ei_allS (ev_cP fun z => by have := z.2; omega) ei_all0)) (ev_nextC (b := 2) rfl (by decide)) fun i h => h) H' .refl ci _ fun odd v H20 g20 r hodd => ?_
      cases rp_int r
      have gA := gi.trans g20
      have rt20 := rp_nil (rp_gd rt c10 gA)
      have rs20 := rp_nil (rp_gd rs10 c10 gA)
      have ou20 := rp_nil (rp_gd ou10 c10 gA)
      have ok20 := rp_nil (rp_gd ok10 c10 gA)
      have on20 := rp_nil (rp_gd on10 c10 gA)
      have T20 : LamX.Tabs [(PT, "_law_works.<locals>.<lambda>")] H20 := fun x hx => by
        rw [List.mem_singleton.mp hx]
        exact .nil (gA.gr.keep PT _ hPT10 nPT)
      refine ⟨_, sv, _, us, _, keys, odd, rfl, rs20, ou20, ok20, good, by omega, by omega, hu, hk, hodd, T20, fun aw ws H21 eN haw hws hwl2 => ?_⟩
      have c21 : Cc none [] H21 := .nil
      refine q_skip c21 (et_B ((ev_neDV (x := ([] : List Int)) (y := []) (EvL.ev (el_lcNone rfl haw fun v hv Hx gx R kR => ⟨rfl, ⟨_, rfl, v, rfl, (hws v hv).go gx, fun Hy gy => ⟨true, rfl, kR _ Hy gy⟩⟩⟩)) el_nil.ev (ok_ints _) (ok_ints _)).imp fun b e => by rw [e]; simp)) (fun b e => e) fun H22 g22 => ?_
      have c22 : Cc none [] H22 := .nil
      have rt22 := rp_g0 (rn_ext rt20 eN) g22.gr0
      have rs22 := rp_g0 (rn_ext rs20 eN) g22.gr0
      have ou22 := rp_g0 (rn_ext ou20 eN) g22.gr0
      have ok22 := rp_g0 (rn_ext ok20 eN) g22.gr0
      have on22 := rp_g0 (rn_ext on20 eN) g22.gr0
      refine s_retV (x := true) c22 (ev_andV (a := true) (b := true) ((ev_eqDV (x := (us, keys)) (y := (us, keys)) (ev_v rfl rt22) (ev_pairV (ev_v rfl ou22) (ev_v rfl ok22)) (by exact ⟨ok_ints _, ok_ints _⟩) (by exact ⟨ok_ints _, ok_ints _⟩)).imp fun b e => by rw [e]; simp) fun _ => (ev_callV (x := (counts keys size hands cap, counts keys size hands cap, ())) (ea_c ((el_meth (x := sv) (y := ()) (ev_v rfl rs22) ea_nil trivial).ev.imp fun l e => (by rw [e, hsv]; rfl)) (ea_c (ev_v rfl on22) ea_nil)) (by show (counts keys size hands cap).length ≤ 90000; omega)).imp fun b e => by rw [e]; exact decide_eq_true rfl) fun v H23 g23 r => by
        cases rp_bool r
        exact k _

end
end KW

namespace KW
open PySem L2 KS
theorem all_mk {P : Program} {w : World} {K : PySem.W.Frag} {h : Heap} {mg : Str → Option Value} {fa : Addr} (X : K.In h) (G : h.Ns mainGlobals mg) (hfa : mg "law" = some (.ref fa))
    {c_SieveError : Addr} {c_BadSieve : Addr} {c_BadKey : Addr} {c_NotIn : Addr} {c_Stuck : Addr} {c_Unlike : Addr} {c_NoSieve : Addr} {c_BadText : Addr} {c_Sieve : Addr} {f_need_key : Addr} {od_need_key an_need_key : Option Addr} {sl_need_key : Array (Option Value)} {oc_need_key kV_need_key dc_need_key pm_need_key cd_need_key ct_need_key : Value} {f_pointed : Addr} {od_pointed an_pointed : Option Addr} {sl_pointed : Array (Option Value)} {oc_pointed kV_pointed dc_pointed pm_pointed cd_pointed ct_pointed : Value} {f__law_mix : Addr} {od__law_mix an__law_mix : Option Addr} {sl__law_mix : Array (Option Value)} {oc__law_mix kV__law_mix dc__law_mix pm__law_mix cd__law_mix ct__law_mix : Value} {f__law_next : Addr} {od__law_next an__law_next : Option Addr} {sl__law_next : Array (Option Value)} {oc__law_next kV__law_next dc__law_next pm__law_next cd__law_next ct__law_next : Value} {f__law_hands : Addr} {od__law_hands an__law_hands : Option Addr} {sl__law_hands : Array (Option Value)} {oc__law_hands kV__law_hands dc__law_hands pm__law_hands cd__law_hands ct__law_hands : Value} {f__law_keys : Addr} {od__law_keys an__law_keys : Option Addr} {sl__law_keys : Array (Option Value)} {oc__law_keys kV__law_keys dc__law_keys pm__law_keys cd__law_keys ct__law_keys : Value} {f__law_cells : Addr} {od__law_cells an__law_cells : Option Addr} {sl__law_cells : Array (Option Value)} {oc__law_cells kV__law_cells dc__law_cells pm__law_cells cd__law_cells ct__law_cells : Value} {f__law_are : Addr} {od__law_are an__law_are : Option Addr} {sl__law_are : Array (Option Value)} {oc__law_are kV__law_are dc__law_are pm__law_are cd__law_are ct__law_are : Value} {f_BadSieve_init : Addr} {od_BadSieve_init an_BadSieve_init : Option Addr} {sl_BadSieve_init : Array (Option Value)} {oc_BadSieve_init kV_BadSieve_init dc_BadSieve_init pm_BadSieve_init cd_BadSieve_init ct_BadSieve_init : Value} {f_Stuck_init : Addr} {od_Stuck_init an_Stuck_init : Option Addr} {sl_Stuck_init : Array (Option Value)} {oc_Stuck_init kV_Stuck_init dc_Stuck_init pm_Stuck_init cd_Stuck_init ct_Stuck_init : Value} {f_need : Addr} {od_need an_need : Option Addr} {sl_need : Array (Option Value)} {oc_need kV_need dc_need pm_need cd_need ct_need : Value} {f_need_size : Addr} {od_need_size an_need_size : Option Addr} {sl_need_size : Array (Option Value)} {oc_need_size kV_need_size dc_need_size pm_need_size cd_need_size ct_need_size : Value} {f_need_cap : Addr} {od_need_cap an_need_cap : Option Addr} {sl_need_cap : Array (Option Value)} {oc_need_cap kV_need_cap dc_need_cap pm_need_cap cd_need_cap ct_need_cap : Value} {f_need_hands : Addr} {od_need_hands an_need_hands : Option Addr} {sl_need_hands : Array (Option Value)} {oc_need_hands kV_need_hands dc_need_hands pm_need_hands cd_need_hands ct_need_hands : Value} {f_hands_by_cell : Addr} {od_hands_by_cell an_hands_by_cell : Option Addr} {sl_hands_by_cell : Array (Option Value)} {oc_hands_by_cell kV_hands_by_cell dc_hands_by_cell pm_hands_by_cell cd_hands_by_cell ct_hands_by_cell : Value} {f_Sieve_size : Addr} {od_Sieve_size an_Sieve_size : Option Addr} {sl_Sieve_size : Array (Option Value)} {oc_Sieve_size kV_Sieve_size dc_Sieve_size pm_Sieve_size cd_Sieve_size ct_Sieve_size : Value} {f_Sieve_cap : Addr} {od_Sieve_cap an_Sieve_cap : Option Addr} {sl_Sieve_cap : Array (Option Value)} {oc_Sieve_cap kV_Sieve_cap dc_Sieve_cap pm_Sieve_cap cd_Sieve_cap ct_Sieve_cap : Value} {f_Sieve_hands : Addr} {od_Sieve_hands an_Sieve_hands : Option Addr} {sl_Sieve_hands : Array (Option Value)} {oc_Sieve_hands kV_Sieve_hands dc_Sieve_hands pm_Sieve_hands cd_Sieve_hands ct_Sieve_hands : Value} {f_Sieve_counts : Addr} {od_Sieve_counts an_Sieve_counts : Option Addr} {sl_Sieve_counts : Array (Option Value)} {oc_Sieve_counts kV_Sieve_counts dc_Sieve_counts pm_Sieve_counts cd_Sieve_counts ct_Sieve_counts : Value} {f_Sieve_init : Addr} {od_Sieve_init an_Sieve_init : Option Addr} {sl_Sieve_init : Array (Option Value)} {oc_Sieve_init kV_Sieve_init dc_Sieve_init pm_Sieve_init cd_Sieve_init ct_Sieve_init : Value} {f_Sieve_put : Addr} {od_Sieve_put an_Sieve_put : Option Addr} {sl_Sieve_put : Array (Option Value)} {oc_Sieve_put kV_Sieve_put dc_Sieve_put pm_Sieve_put cd_Sieve_put ct_Sieve_put : Value} {f_Sieve_says : Addr} {od_Sieve_says an_Sieve_says : Option Addr} {sl_Sieve_says : Array (Option Value)} {oc_Sieve_says kV_Sieve_says dc_Sieve_says pm_Sieve_says cd_Sieve_says ct_Sieve_says : Value} {f_Sieve_stuck_cells : Addr} {od_Sieve_stuck_cells an_Sieve_stuck_cells : Option Addr} {sl_Sieve_stuck_cells : Array (Option Value)} {oc_Sieve_stuck_cells kV_Sieve_stuck_cells dc_Sieve_stuck_cells pm_Sieve_stuck_cells cd_Sieve_stuck_cells ct_Sieve_stuck_cells : Value} {f_Sieve_need_takeable : Addr} {od_Sieve_need_takeable an_Sieve_need_takeable : Option Addr} {sl_Sieve_need_takeable : Array (Option Value)} {oc_Sieve_need_takeable kV_Sieve_need_takeable dc_Sieve_need_takeable pm_Sieve_need_takeable cd_Sieve_need_takeable ct_Sieve_need_takeable : Value} {f_Sieve_take : Addr} {od_Sieve_take an_Sieve_take : Option Addr} {sl_Sieve_take : Array (Option Value)} {oc_Sieve_take kV_Sieve_take dc_Sieve_take pm_Sieve_take cd_Sieve_take ct_Sieve_take : Value} {f__law_counts : Addr} {od__law_counts an__law_counts : Option Addr} {sl__law_counts : Array (Option Value)} {oc__law_counts kV__law_counts dc__law_counts pm__law_counts cd__law_counts ct__law_counts : Value} {f_need_keys : Addr} {od_need_keys an_need_keys : Option Addr} {sl_need_keys : Array (Option Value)} {oc_need_keys kV_need_keys dc_need_keys pm_need_keys cd_need_keys ct_need_keys : Value} {f_with_counts : Addr} {od_with_counts an_with_counts : Option Addr} {sl_with_counts : Array (Option Value)} {oc_with_counts kV_with_counts dc_with_counts pm_with_counts cd_with_counts ct_with_counts : Value} {f_copied : Addr} {od_copied an_copied : Option Addr} {sl_copied : Array (Option Value)} {oc_copied kV_copied dc_copied pm_copied cd_copied ct_copied : Value} {f_built : Addr} {od_built an_built : Option Addr} {sl_built : Array (Option Value)} {oc_built kV_built dc_built pm_built cd_built ct_built : Value} {f_unlike : Addr} {od_unlike an_unlike : Option Addr} {sl_unlike : Array (Option Value)} {oc_unlike kV_unlike dc_unlike pm_unlike cd_unlike ct_unlike : Value} {f_yeses : Addr} {od_yeses an_yeses : Option Addr} {sl_yeses : Array (Option Value)} {oc_yeses kV_yeses dc_yeses pm_yeses cd_yeses ct_yeses : Value} {f_harm : Addr} {od_harm an_harm : Option Addr} {sl_harm : Array (Option Value)} {oc_harm kV_harm dc_harm pm_harm cd_harm ct_harm : Value} {f__law_says : Addr} {od__law_says an__law_says : Option Addr} {sl__law_says : Array (Option Value)} {oc__law_says kV__law_says dc__law_says pm__law_says cd__law_says ct__law_says : Value} {f_others : Addr} {od_others an_others : Option Addr} {sl_others : Array (Option Value)} {oc_others kV_others dc_others pm_others cd_others ct_others : Value} {f_wrong : Addr} {od_wrong an_wrong : Option Addr} {sl_wrong : Array (Option Value)} {oc_wrong kV_wrong dc_wrong pm_wrong cd_wrong ct_wrong : Value} {f_share : Addr} {od_share an_share : Option Addr} {sl_share : Array (Option Value)} {oc_share kV_share dc_share pm_share cd_share ct_share : Value} {f_stuck : Addr} {od_stuck an_stuck : Option Addr} {sl_stuck : Array (Option Value)} {oc_stuck kV_stuck dc_stuck pm_stuck cd_stuck ct_stuck : Value} {f__law_universe : Addr} {od__law_universe an__law_universe : Option Addr} {sl__law_universe : Array (Option Value)} {oc__law_universe kV__law_universe dc__law_universe pm__law_universe cd__law_universe ct__law_universe : Value} {f_NoSieve_init : Addr} {od_NoSieve_init an_NoSieve_init : Option Addr} {sl_NoSieve_init : Array (Option Value)} {oc_NoSieve_init kV_NoSieve_init dc_NoSieve_init pm_NoSieve_init cd_NoSieve_init ct_NoSieve_init : Value} {f_BadText_init : Addr} {od_BadText_init an_BadText_init : Option Addr} {sl_BadText_init : Array (Option Value)} {oc_BadText_init kV_BadText_init dc_BadText_init pm_BadText_init cd_BadText_init ct_BadText_init : Value} {f__law_alike : Addr} {od__law_alike an__law_alike : Option Addr} {sl__law_alike : Array (Option Value)} {oc__law_alike kV__law_alike dc__law_alike pm__law_alike cd__law_alike ct__law_alike : Value} {f__law_refused : Addr} {od__law_refused an__law_refused : Option Addr} {sl__law_refused : Array (Option Value)} {oc__law_refused kV__law_refused dc__law_refused pm__law_refused cd__law_refused ct__law_refused : Value} {f__law_due_stuck : Addr} {od__law_due_stuck an__law_due_stuck : Option Addr} {sl__law_due_stuck : Array (Option Value)} {oc__law_due_stuck kV__law_due_stuck dc__law_due_stuck pm__law_due_stuck cd__law_due_stuck ct__law_due_stuck : Value} {f__law_works : Addr} {od__law_works an__law_works : Option Addr} {sl__law_works : Array (Option Value)} {oc__law_works kV__law_works dc__law_works pm__law_works cd__law_works ct__law_works : Value} {f_law : Addr} {od_law an_law : Option Addr} {sl_law : Array (Option Value)} {oc_law kV_law dc_law pm_law cd_law ct_law : Value} {tg_MOST_CAP : Tok} {tg_MOST_HANDS : Tok} {tg_MOST_SIZE : Tok} {tg_RING : Tok} {nm_BadSieve q_BadSieve : Str} {N_BadSieve : Addr} {bs_BadSieve sub_BadSieve : List Value} {sn_BadSieve : List Str} {ab_BadSieve : Bool} {col_BadSieve : Option Bool} {dd_BadSieve : Option Addr} {m0_BadSieve m1_BadSieve m2_BadSieve m3_BadSieve m5_BadSieve : Option Value} {nm_BadText q_BadText : Str} {N_BadText : Addr} {bs_BadText sub_BadText : List Value} {sn_BadText : List Str} {ab_BadText : Bool} {col_BadText : Option Bool} {dd_BadText : Option Addr} {m0_BadText m1_BadText m2_BadText m3_BadText m5_BadText : Option Value} {nm_NoSieve q_NoSieve : Str} {N_NoSieve : Addr} {bs_NoSieve sub_NoSieve : List Value} {sn_NoSieve : List Str} {ab_NoSieve : Bool} {col_NoSieve : Option Bool} {dd_NoSieve : Option Addr} {m0_NoSieve m1_NoSieve m2_NoSieve m3_NoSieve m5_NoSieve : Option Value} {nm_Stuck q_Stuck : Str} {N_Stuck : Addr} {bs_Stuck sub_Stuck : List Value} {sn_Stuck : List Str} {ab_Stuck : Bool} {col_Stuck : Option Bool} {dd_Stuck : Option Addr} {m0_Stuck m1_Stuck m2_Stuck m3_Stuck m5_Stuck : Option Value} {xc_law PT_law : Addr} {xd_law : Option Addr} {xv_law : Array Value} {xs_law : Array (Option Value)} {xf_law : Str} {xt_law xt2_law xt3_law : Tok} {xg_law xk_law : Int} {xb_law : Bool} {ts : List Addr}
    (a_SieveError : PySem.W.nsIn K mainGlobals "SieveError" = some (some (.ref c_SieveError)))
    (a_BadSieve : PySem.W.nsIn K mainGlobals "BadSieve" = some (some (.ref c_BadSieve)))
    (a_BadKey : PySem.W.nsIn K mainGlobals "BadKey" = some (some (.ref c_BadKey)))
    (a_NotIn : PySem.W.nsIn K mainGlobals "NotIn" = some (some (.ref c_NotIn)))
    (a_Stuck : PySem.W.nsIn K mainGlobals "Stuck" = some (some (.ref c_Stuck)))
    (a_Unlike : PySem.W.nsIn K mainGlobals "Unlike" = some (some (.ref c_Unlike)))
    (a_NoSieve : PySem.W.nsIn K mainGlobals "NoSieve" = some (some (.ref c_NoSieve)))
    (a_BadText : PySem.W.nsIn K mainGlobals "BadText" = some (some (.ref c_BadText)))
    (a_Sieve : PySem.W.nsIn K mainGlobals "Sieve" = some (some (.ref c_Sieve)))
    (pg_Sieve : PySem.W.plainGet K c_Sieve Str.empty = true)
    (hd_Sieve : PySem.W.hasDictIn K c_Sieve = true)
    (po_Sieve : PySem.W.plainOver K c_Sieve = true)
    (sa_Sieve : PySem.W.findIn K (.ref c_Sieve) "__setattr__" = some (some (.builtin "object.__setattr__")))
    (na_Sieve_many : PySem.W.findIn K (.ref c_Sieve) "many" = some none)
    (na_Sieve_pointers : PySem.W.findIn K (.ref c_Sieve) "pointers" = some none)
    (na_Sieve_most : PySem.W.findIn K (.ref c_Sieve) "most" = some none)
    (na_Sieve_cells : PySem.W.findIn K (.ref c_Sieve) "cells" = some none)
    (a_need_key : PySem.W.nsIn K mainGlobals "need_key" = some (some (.ref f_need_key)))
    (l_need_key : K.lookup f_need_key = some ⟨oc_need_key, od_need_key, .func (PySem.W.fnOf "need_key" "need_key" (defArgs s_need_key) (defBody s_need_key) (defScope s_need_key) .none kV_need_key dc_need_key pm_need_key an_need_key cd_need_key ct_need_key), sl_need_key⟩)
    (o_need_key : PySem.W.codeIn K cd_need_key "need_key" = true)
    (q_need_key : PySem.W.keepIn K (.ref f_need_key) = true)
    (a_pointed : PySem.W.nsIn K mainGlobals "pointed" = some (some (.ref f_pointed)))
    (l_pointed : K.lookup f_pointed = some ⟨oc_pointed, od_pointed, .func (PySem.W.fnOf "pointed" "pointed" (defArgs s_pointed) (defBody s_pointed) (defScope s_pointed) .none kV_pointed dc_pointed pm_pointed an_pointed cd_pointed ct_pointed), sl_pointed⟩)
    (o_pointed : PySem.W.codeIn K cd_pointed "pointed" = true)
    (q_pointed : PySem.W.keepIn K (.ref f_pointed) = true)
    (a__law_mix : PySem.W.nsIn K mainGlobals "_law_mix" = some (some (.ref f__law_mix)))
    (l__law_mix : K.lookup f__law_mix = some ⟨oc__law_mix, od__law_mix, .func (PySem.W.fnOf "_law_mix" "_law_mix" (defArgs s__law_mix) (defBody s__law_mix) (defScope s__law_mix) .none kV__law_mix dc__law_mix pm__law_mix an__law_mix cd__law_mix ct__law_mix), sl__law_mix⟩)
    (o__law_mix : PySem.W.codeIn K cd__law_mix "_law_mix" = true)
    (q__law_mix : PySem.W.keepIn K (.ref f__law_mix) = true)
    (a__law_next : PySem.W.nsIn K mainGlobals "_law_next" = some (some (.ref f__law_next)))
    (l__law_next : K.lookup f__law_next = some ⟨oc__law_next, od__law_next, .func (PySem.W.fnOf "_law_next" "_law_next" (defArgs s__law_next) (defBody s__law_next) (defScope s__law_next) .none kV__law_next dc__law_next pm__law_next an__law_next cd__law_next ct__law_next), sl__law_next⟩)
    (o__law_next : PySem.W.codeIn K cd__law_next "_law_next" = true)
    (q__law_next : PySem.W.keepIn K (.ref f__law_next) = true)
    (a__law_hands : PySem.W.nsIn K mainGlobals "_law_hands" = some (some (.ref f__law_hands)))
    (l__law_hands : K.lookup f__law_hands = some ⟨oc__law_hands, od__law_hands, .func (PySem.W.fnOf "_law_hands" "_law_hands" (defArgs s__law_hands) (defBody s__law_hands) (defScope s__law_hands) .none kV__law_hands dc__law_hands pm__law_hands an__law_hands cd__law_hands ct__law_hands), sl__law_hands⟩)
    (o__law_hands : PySem.W.codeIn K cd__law_hands "_law_hands" = true)
    (q__law_hands : PySem.W.keepIn K (.ref f__law_hands) = true)
    (a__law_keys : PySem.W.nsIn K mainGlobals "_law_keys" = some (some (.ref f__law_keys)))
    (l__law_keys : K.lookup f__law_keys = some ⟨oc__law_keys, od__law_keys, .func (PySem.W.fnOf "_law_keys" "_law_keys" (defArgs s__law_keys) (defBody s__law_keys) (defScope s__law_keys) .none kV__law_keys dc__law_keys pm__law_keys an__law_keys cd__law_keys ct__law_keys), sl__law_keys⟩)
    (o__law_keys : PySem.W.codeIn K cd__law_keys "_law_keys" = true)
    (q__law_keys : PySem.W.keepIn K (.ref f__law_keys) = true)
    (a__law_cells : PySem.W.nsIn K mainGlobals "_law_cells" = some (some (.ref f__law_cells)))
    (l__law_cells : K.lookup f__law_cells = some ⟨oc__law_cells, od__law_cells, .func (PySem.W.fnOf "_law_cells" "_law_cells" (defArgs s__law_cells) (defBody s__law_cells) (defScope s__law_cells) .none kV__law_cells dc__law_cells pm__law_cells an__law_cells cd__law_cells ct__law_cells), sl__law_cells⟩)
    (o__law_cells : PySem.W.codeIn K cd__law_cells "_law_cells" = true)
    (q__law_cells : PySem.W.keepIn K (.ref f__law_cells) = true)
    (a__law_are : PySem.W.nsIn K mainGlobals "_law_are" = some (some (.ref f__law_are)))
    (l__law_are : K.lookup f__law_are = some ⟨oc__law_are, od__law_are, .func (PySem.W.fnOf "_law_are" "_law_are" (defArgs s__law_are) (defBody s__law_are) (defScope s__law_are) .none kV__law_are dc__law_are pm__law_are an__law_are cd__law_are ct__law_are), sl__law_are⟩)
    (o__law_are : PySem.W.codeIn K cd__law_are "_law_are" = true)
    (q__law_are : PySem.W.keepIn K (.ref f__law_are) = true)
    (a_BadSieve_init : PySem.W.findIn K (.ref c_BadSieve) "__init__" = some (some (.ref f_BadSieve_init)))
    (i_BadSieve_init : PySem.W.isFn K (.ref f_BadSieve_init) = true)
    (l_BadSieve_init : K.lookup f_BadSieve_init = some ⟨oc_BadSieve_init, od_BadSieve_init, .func (PySem.W.fnOf "__init__" "BadSieve.__init__" (defArgs s_BadSieve_init) (defBody s_BadSieve_init) (defScope s_BadSieve_init) .none kV_BadSieve_init dc_BadSieve_init pm_BadSieve_init an_BadSieve_init cd_BadSieve_init ct_BadSieve_init), sl_BadSieve_init⟩)
    (o_BadSieve_init : PySem.W.codeIn K cd_BadSieve_init "BadSieve.__init__" = true)
    (q_BadSieve_init : PySem.W.keepIn K (.ref f_BadSieve_init) = true)
    (a_Stuck_init : PySem.W.findIn K (.ref c_Stuck) "__init__" = some (some (.ref f_Stuck_init)))
    (i_Stuck_init : PySem.W.isFn K (.ref f_Stuck_init) = true)
    (l_Stuck_init : K.lookup f_Stuck_init = some ⟨oc_Stuck_init, od_Stuck_init, .func (PySem.W.fnOf "__init__" "Stuck.__init__" (defArgs s_Stuck_init) (defBody s_Stuck_init) (defScope s_Stuck_init) .none kV_Stuck_init dc_Stuck_init pm_Stuck_init an_Stuck_init cd_Stuck_init ct_Stuck_init), sl_Stuck_init⟩)
    (o_Stuck_init : PySem.W.codeIn K cd_Stuck_init "Stuck.__init__" = true)
    (q_Stuck_init : PySem.W.keepIn K (.ref f_Stuck_init) = true)
    (a_need : PySem.W.nsIn K mainGlobals "need" = some (some (.ref f_need)))
    (l_need : K.lookup f_need = some ⟨oc_need, od_need, .func (PySem.W.fnOf "need" "need" (defArgs s_need) (defBody s_need) (defScope s_need) .none kV_need dc_need pm_need an_need cd_need ct_need), sl_need⟩)
    (o_need : PySem.W.codeIn K cd_need "need" = true)
    (q_need : PySem.W.keepIn K (.ref f_need) = true)
    (a_need_size : PySem.W.nsIn K mainGlobals "need_size" = some (some (.ref f_need_size)))
    (l_need_size : K.lookup f_need_size = some ⟨oc_need_size, od_need_size, .func (PySem.W.fnOf "need_size" "need_size" (defArgs s_need_size) (defBody s_need_size) (defScope s_need_size) .none kV_need_size dc_need_size pm_need_size an_need_size cd_need_size ct_need_size), sl_need_size⟩)
    (o_need_size : PySem.W.codeIn K cd_need_size "need_size" = true)
    (q_need_size : PySem.W.keepIn K (.ref f_need_size) = true)
    (a_need_cap : PySem.W.nsIn K mainGlobals "need_cap" = some (some (.ref f_need_cap)))
    (l_need_cap : K.lookup f_need_cap = some ⟨oc_need_cap, od_need_cap, .func (PySem.W.fnOf "need_cap" "need_cap" (defArgs s_need_cap) (defBody s_need_cap) (defScope s_need_cap) .none kV_need_cap dc_need_cap pm_need_cap an_need_cap cd_need_cap ct_need_cap), sl_need_cap⟩)
    (o_need_cap : PySem.W.codeIn K cd_need_cap "need_cap" = true)
    (q_need_cap : PySem.W.keepIn K (.ref f_need_cap) = true)
    (a_need_hands : PySem.W.nsIn K mainGlobals "need_hands" = some (some (.ref f_need_hands)))
    (l_need_hands : K.lookup f_need_hands = some ⟨oc_need_hands, od_need_hands, .func (PySem.W.fnOf "need_hands" "need_hands" (defArgs s_need_hands) (defBody s_need_hands) (defScope s_need_hands) .none kV_need_hands dc_need_hands pm_need_hands an_need_hands cd_need_hands ct_need_hands), sl_need_hands⟩)
    (o_need_hands : PySem.W.codeIn K cd_need_hands "need_hands" = true)
    (q_need_hands : PySem.W.keepIn K (.ref f_need_hands) = true)
    (a_hands_by_cell : PySem.W.nsIn K mainGlobals "hands_by_cell" = some (some (.ref f_hands_by_cell)))
    (l_hands_by_cell : K.lookup f_hands_by_cell = some ⟨oc_hands_by_cell, od_hands_by_cell, .func (PySem.W.fnOf "hands_by_cell" "hands_by_cell" (defArgs s_hands_by_cell) (defBody s_hands_by_cell) (defScope s_hands_by_cell) .none kV_hands_by_cell dc_hands_by_cell pm_hands_by_cell an_hands_by_cell cd_hands_by_cell ct_hands_by_cell), sl_hands_by_cell⟩)
    (o_hands_by_cell : PySem.W.codeIn K cd_hands_by_cell "hands_by_cell" = true)
    (q_hands_by_cell : PySem.W.keepIn K (.ref f_hands_by_cell) = true)
    (a_Sieve_size : PySem.W.findIn K (.ref c_Sieve) "size" = some (some (.ref f_Sieve_size)))
    (i_Sieve_size : PySem.W.isFn K (.ref f_Sieve_size) = true)
    (l_Sieve_size : K.lookup f_Sieve_size = some ⟨oc_Sieve_size, od_Sieve_size, .func (PySem.W.fnOf "size" "Sieve.size" (defArgs s_Sieve_size) (defBody s_Sieve_size) (defScope s_Sieve_size) .none kV_Sieve_size dc_Sieve_size pm_Sieve_size an_Sieve_size cd_Sieve_size ct_Sieve_size), sl_Sieve_size⟩)
    (o_Sieve_size : PySem.W.codeIn K cd_Sieve_size "Sieve.size" = true)
    (q_Sieve_size : PySem.W.keepIn K (.ref f_Sieve_size) = true)
    (a_Sieve_cap : PySem.W.findIn K (.ref c_Sieve) "cap" = some (some (.ref f_Sieve_cap)))
    (i_Sieve_cap : PySem.W.isFn K (.ref f_Sieve_cap) = true)
    (l_Sieve_cap : K.lookup f_Sieve_cap = some ⟨oc_Sieve_cap, od_Sieve_cap, .func (PySem.W.fnOf "cap" "Sieve.cap" (defArgs s_Sieve_cap) (defBody s_Sieve_cap) (defScope s_Sieve_cap) .none kV_Sieve_cap dc_Sieve_cap pm_Sieve_cap an_Sieve_cap cd_Sieve_cap ct_Sieve_cap), sl_Sieve_cap⟩)
    (o_Sieve_cap : PySem.W.codeIn K cd_Sieve_cap "Sieve.cap" = true)
    (q_Sieve_cap : PySem.W.keepIn K (.ref f_Sieve_cap) = true)
    (a_Sieve_hands : PySem.W.findIn K (.ref c_Sieve) "hands" = some (some (.ref f_Sieve_hands)))
    (i_Sieve_hands : PySem.W.isFn K (.ref f_Sieve_hands) = true)
    (l_Sieve_hands : K.lookup f_Sieve_hands = some ⟨oc_Sieve_hands, od_Sieve_hands, .func (PySem.W.fnOf "hands" "Sieve.hands" (defArgs s_Sieve_hands) (defBody s_Sieve_hands) (defScope s_Sieve_hands) .none kV_Sieve_hands dc_Sieve_hands pm_Sieve_hands an_Sieve_hands cd_Sieve_hands ct_Sieve_hands), sl_Sieve_hands⟩)
    (o_Sieve_hands : PySem.W.codeIn K cd_Sieve_hands "Sieve.hands" = true)
    (q_Sieve_hands : PySem.W.keepIn K (.ref f_Sieve_hands) = true)
    (a_Sieve_counts : PySem.W.findIn K (.ref c_Sieve) "counts" = some (some (.ref f_Sieve_counts)))
    (i_Sieve_counts : PySem.W.isFn K (.ref f_Sieve_counts) = true)
    (l_Sieve_counts : K.lookup f_Sieve_counts = some ⟨oc_Sieve_counts, od_Sieve_counts, .func (PySem.W.fnOf "counts" "Sieve.counts" (defArgs s_Sieve_counts) (defBody s_Sieve_counts) (defScope s_Sieve_counts) .none kV_Sieve_counts dc_Sieve_counts pm_Sieve_counts an_Sieve_counts cd_Sieve_counts ct_Sieve_counts), sl_Sieve_counts⟩)
    (o_Sieve_counts : PySem.W.codeIn K cd_Sieve_counts "Sieve.counts" = true)
    (q_Sieve_counts : PySem.W.keepIn K (.ref f_Sieve_counts) = true)
    (a_Sieve_init : PySem.W.findIn K (.ref c_Sieve) "__init__" = some (some (.ref f_Sieve_init)))
    (i_Sieve_init : PySem.W.isFn K (.ref f_Sieve_init) = true)
    (l_Sieve_init : K.lookup f_Sieve_init = some ⟨oc_Sieve_init, od_Sieve_init, .func (PySem.W.fnOf "__init__" "Sieve.__init__" (defArgs s_Sieve_init) (defBody s_Sieve_init) (defScope s_Sieve_init) .none kV_Sieve_init dc_Sieve_init pm_Sieve_init an_Sieve_init cd_Sieve_init ct_Sieve_init), sl_Sieve_init⟩)
    (o_Sieve_init : PySem.W.codeIn K cd_Sieve_init "Sieve.__init__" = true)
    (q_Sieve_init : PySem.W.keepIn K (.ref f_Sieve_init) = true)
    (a_Sieve_put : PySem.W.findIn K (.ref c_Sieve) "put" = some (some (.ref f_Sieve_put)))
    (i_Sieve_put : PySem.W.isFn K (.ref f_Sieve_put) = true)
    (l_Sieve_put : K.lookup f_Sieve_put = some ⟨oc_Sieve_put, od_Sieve_put, .func (PySem.W.fnOf "put" "Sieve.put" (defArgs s_Sieve_put) (defBody s_Sieve_put) (defScope s_Sieve_put) .none kV_Sieve_put dc_Sieve_put pm_Sieve_put an_Sieve_put cd_Sieve_put ct_Sieve_put), sl_Sieve_put⟩)
    (o_Sieve_put : PySem.W.codeIn K cd_Sieve_put "Sieve.put" = true)
    (q_Sieve_put : PySem.W.keepIn K (.ref f_Sieve_put) = true)
    (a_Sieve_says : PySem.W.findIn K (.ref c_Sieve) "says" = some (some (.ref f_Sieve_says)))
    (i_Sieve_says : PySem.W.isFn K (.ref f_Sieve_says) = true)
    (l_Sieve_says : K.lookup f_Sieve_says = some ⟨oc_Sieve_says, od_Sieve_says, .func (PySem.W.fnOf "says" "Sieve.says" (defArgs s_Sieve_says) (defBody s_Sieve_says) (defScope s_Sieve_says) .none kV_Sieve_says dc_Sieve_says pm_Sieve_says an_Sieve_says cd_Sieve_says ct_Sieve_says), sl_Sieve_says⟩)
    (o_Sieve_says : PySem.W.codeIn K cd_Sieve_says "Sieve.says" = true)
    (q_Sieve_says : PySem.W.keepIn K (.ref f_Sieve_says) = true)
    (a_Sieve_stuck_cells : PySem.W.findIn K (.ref c_Sieve) "stuck_cells" = some (some (.ref f_Sieve_stuck_cells)))
    (i_Sieve_stuck_cells : PySem.W.isFn K (.ref f_Sieve_stuck_cells) = true)
    (l_Sieve_stuck_cells : K.lookup f_Sieve_stuck_cells = some ⟨oc_Sieve_stuck_cells, od_Sieve_stuck_cells, .func (PySem.W.fnOf "stuck_cells" "Sieve.stuck_cells" (defArgs s_Sieve_stuck_cells) (defBody s_Sieve_stuck_cells) (defScope s_Sieve_stuck_cells) .none kV_Sieve_stuck_cells dc_Sieve_stuck_cells pm_Sieve_stuck_cells an_Sieve_stuck_cells cd_Sieve_stuck_cells ct_Sieve_stuck_cells), sl_Sieve_stuck_cells⟩)
    (o_Sieve_stuck_cells : PySem.W.codeIn K cd_Sieve_stuck_cells "Sieve.stuck_cells" = true)
    (q_Sieve_stuck_cells : PySem.W.keepIn K (.ref f_Sieve_stuck_cells) = true)
    (a_Sieve_need_takeable : PySem.W.findIn K (.ref c_Sieve) "need_takeable" = some (some (.ref f_Sieve_need_takeable)))
    (i_Sieve_need_takeable : PySem.W.isFn K (.ref f_Sieve_need_takeable) = true)
    (l_Sieve_need_takeable : K.lookup f_Sieve_need_takeable = some ⟨oc_Sieve_need_takeable, od_Sieve_need_takeable, .func (PySem.W.fnOf "need_takeable" "Sieve.need_takeable" (defArgs s_Sieve_need_takeable) (defBody s_Sieve_need_takeable) (defScope s_Sieve_need_takeable) .none kV_Sieve_need_takeable dc_Sieve_need_takeable pm_Sieve_need_takeable an_Sieve_need_takeable cd_Sieve_need_takeable ct_Sieve_need_takeable), sl_Sieve_need_takeable⟩)
    (o_Sieve_need_takeable : PySem.W.codeIn K cd_Sieve_need_takeable "Sieve.need_takeable" = true)
    (q_Sieve_need_takeable : PySem.W.keepIn K (.ref f_Sieve_need_takeable) = true)
    (a_Sieve_take : PySem.W.findIn K (.ref c_Sieve) "take" = some (some (.ref f_Sieve_take)))
    (i_Sieve_take : PySem.W.isFn K (.ref f_Sieve_take) = true)
    (l_Sieve_take : K.lookup f_Sieve_take = some ⟨oc_Sieve_take, od_Sieve_take, .func (PySem.W.fnOf "take" "Sieve.take" (defArgs s_Sieve_take) (defBody s_Sieve_take) (defScope s_Sieve_take) .none kV_Sieve_take dc_Sieve_take pm_Sieve_take an_Sieve_take cd_Sieve_take ct_Sieve_take), sl_Sieve_take⟩)
    (o_Sieve_take : PySem.W.codeIn K cd_Sieve_take "Sieve.take" = true)
    (q_Sieve_take : PySem.W.keepIn K (.ref f_Sieve_take) = true)
    (a__law_counts : PySem.W.nsIn K mainGlobals "_law_counts" = some (some (.ref f__law_counts)))
    (l__law_counts : K.lookup f__law_counts = some ⟨oc__law_counts, od__law_counts, .func (PySem.W.fnOf "_law_counts" "_law_counts" (defArgs s__law_counts) (defBody s__law_counts) (defScope s__law_counts) .none kV__law_counts dc__law_counts pm__law_counts an__law_counts cd__law_counts ct__law_counts), sl__law_counts⟩)
    (o__law_counts : PySem.W.codeIn K cd__law_counts "_law_counts" = true)
    (q__law_counts : PySem.W.keepIn K (.ref f__law_counts) = true)
    (a_need_keys : PySem.W.nsIn K mainGlobals "need_keys" = some (some (.ref f_need_keys)))
    (l_need_keys : K.lookup f_need_keys = some ⟨oc_need_keys, od_need_keys, .func (PySem.W.fnOf "need_keys" "need_keys" (defArgs s_need_keys) (defBody s_need_keys) (defScope s_need_keys) .none kV_need_keys dc_need_keys pm_need_keys an_need_keys cd_need_keys ct_need_keys), sl_need_keys⟩)
    (o_need_keys : PySem.W.codeIn K cd_need_keys "need_keys" = true)
    (q_need_keys : PySem.W.keepIn K (.ref f_need_keys) = true)
    (a_with_counts : PySem.W.nsIn K mainGlobals "with_counts" = some (some (.ref f_with_counts)))
    (l_with_counts : K.lookup f_with_counts = some ⟨oc_with_counts, od_with_counts, .func (PySem.W.fnOf "with_counts" "with_counts" (defArgs s_with_counts) (defBody s_with_counts) (defScope s_with_counts) .none kV_with_counts dc_with_counts pm_with_counts an_with_counts cd_with_counts ct_with_counts), sl_with_counts⟩)
    (o_with_counts : PySem.W.codeIn K cd_with_counts "with_counts" = true)
    (q_with_counts : PySem.W.keepIn K (.ref f_with_counts) = true)
    (a_copied : PySem.W.nsIn K mainGlobals "copied" = some (some (.ref f_copied)))
    (l_copied : K.lookup f_copied = some ⟨oc_copied, od_copied, .func (PySem.W.fnOf "copied" "copied" (defArgs s_copied) (defBody s_copied) (defScope s_copied) .none kV_copied dc_copied pm_copied an_copied cd_copied ct_copied), sl_copied⟩)
    (o_copied : PySem.W.codeIn K cd_copied "copied" = true)
    (q_copied : PySem.W.keepIn K (.ref f_copied) = true)
    (a_built : PySem.W.nsIn K mainGlobals "built" = some (some (.ref f_built)))
    (l_built : K.lookup f_built = some ⟨oc_built, od_built, .func (PySem.W.fnOf "built" "built" (defArgs s_built) (defBody s_built) (defScope s_built) .none kV_built dc_built pm_built an_built cd_built ct_built), sl_built⟩)
    (o_built : PySem.W.codeIn K cd_built "built" = true)
    (q_built : PySem.W.keepIn K (.ref f_built) = true)
    (a_unlike : PySem.W.nsIn K mainGlobals "unlike" = some (some (.ref f_unlike)))
    (l_unlike : K.lookup f_unlike = some ⟨oc_unlike, od_unlike, .func (PySem.W.fnOf "unlike" "unlike" (defArgs s_unlike) (defBody s_unlike) (defScope s_unlike) .none kV_unlike dc_unlike pm_unlike an_unlike cd_unlike ct_unlike), sl_unlike⟩)
    (o_unlike : PySem.W.codeIn K cd_unlike "unlike" = true)
    (q_unlike : PySem.W.keepIn K (.ref f_unlike) = true)
    (a_yeses : PySem.W.nsIn K mainGlobals "yeses" = some (some (.ref f_yeses)))
    (l_yeses : K.lookup f_yeses = some ⟨oc_yeses, od_yeses, .func (PySem.W.fnOf "yeses" "yeses" (defArgs s_yeses) (defBody s_yeses) (defScope s_yeses) .none kV_yeses dc_yeses pm_yeses an_yeses cd_yeses ct_yeses), sl_yeses⟩)
    (o_yeses : PySem.W.codeIn K cd_yeses "yeses" = true)
    (q_yeses : PySem.W.keepIn K (.ref f_yeses) = true)
    (a_harm : PySem.W.nsIn K mainGlobals "harm" = some (some (.ref f_harm)))
    (l_harm : K.lookup f_harm = some ⟨oc_harm, od_harm, .func (PySem.W.fnOf "harm" "harm" (defArgs s_harm) (defBody s_harm) (defScope s_harm) .none kV_harm dc_harm pm_harm an_harm cd_harm ct_harm), sl_harm⟩)
    (o_harm : PySem.W.codeIn K cd_harm "harm" = true)
    (q_harm : PySem.W.keepIn K (.ref f_harm) = true)
    (a__law_says : PySem.W.nsIn K mainGlobals "_law_says" = some (some (.ref f__law_says)))
    (l__law_says : K.lookup f__law_says = some ⟨oc__law_says, od__law_says, .func (PySem.W.fnOf "_law_says" "_law_says" (defArgs s__law_says) (defBody s__law_says) (defScope s__law_says) .none kV__law_says dc__law_says pm__law_says an__law_says cd__law_says ct__law_says), sl__law_says⟩)
    (o__law_says : PySem.W.codeIn K cd__law_says "_law_says" = true)
    (q__law_says : PySem.W.keepIn K (.ref f__law_says) = true)
    (a_others : PySem.W.nsIn K mainGlobals "others" = some (some (.ref f_others)))
    (l_others : K.lookup f_others = some ⟨oc_others, od_others, .func (PySem.W.fnOf "others" "others" (defArgs s_others) (defBody s_others) (defScope s_others) .none kV_others dc_others pm_others an_others cd_others ct_others), sl_others⟩)
    (o_others : PySem.W.codeIn K cd_others "others" = true)
    (q_others : PySem.W.keepIn K (.ref f_others) = true)
    (a_wrong : PySem.W.nsIn K mainGlobals "wrong" = some (some (.ref f_wrong)))
    (l_wrong : K.lookup f_wrong = some ⟨oc_wrong, od_wrong, .func (PySem.W.fnOf "wrong" "wrong" (defArgs s_wrong) (defBody s_wrong) (defScope s_wrong) .none kV_wrong dc_wrong pm_wrong an_wrong cd_wrong ct_wrong), sl_wrong⟩)
    (o_wrong : PySem.W.codeIn K cd_wrong "wrong" = true)
    (q_wrong : PySem.W.keepIn K (.ref f_wrong) = true)
    (a_share : PySem.W.nsIn K mainGlobals "share" = some (some (.ref f_share)))
    (l_share : K.lookup f_share = some ⟨oc_share, od_share, .func (PySem.W.fnOf "share" "share" (defArgs s_share) (defBody s_share) (defScope s_share) .none kV_share dc_share pm_share an_share cd_share ct_share), sl_share⟩)
    (o_share : PySem.W.codeIn K cd_share "share" = true)
    (q_share : PySem.W.keepIn K (.ref f_share) = true)
    (a_stuck : PySem.W.nsIn K mainGlobals "stuck" = some (some (.ref f_stuck)))
    (l_stuck : K.lookup f_stuck = some ⟨oc_stuck, od_stuck, .func (PySem.W.fnOf "stuck" "stuck" (defArgs s_stuck) (defBody s_stuck) (defScope s_stuck) .none kV_stuck dc_stuck pm_stuck an_stuck cd_stuck ct_stuck), sl_stuck⟩)
    (o_stuck : PySem.W.codeIn K cd_stuck "stuck" = true)
    (q_stuck : PySem.W.keepIn K (.ref f_stuck) = true)
    (a__law_universe : PySem.W.nsIn K mainGlobals "_law_universe" = some (some (.ref f__law_universe)))
    (l__law_universe : K.lookup f__law_universe = some ⟨oc__law_universe, od__law_universe, .func (PySem.W.fnOf "_law_universe" "_law_universe" (defArgs s__law_universe) (defBody s__law_universe) (defScope s__law_universe) .none kV__law_universe dc__law_universe pm__law_universe an__law_universe cd__law_universe ct__law_universe), sl__law_universe⟩)
    (o__law_universe : PySem.W.codeIn K cd__law_universe "_law_universe" = true)
    (q__law_universe : PySem.W.keepIn K (.ref f__law_universe) = true)
    (a_NoSieve_init : PySem.W.findIn K (.ref c_NoSieve) "__init__" = some (some (.ref f_NoSieve_init)))
    (i_NoSieve_init : PySem.W.isFn K (.ref f_NoSieve_init) = true)
    (l_NoSieve_init : K.lookup f_NoSieve_init = some ⟨oc_NoSieve_init, od_NoSieve_init, .func (PySem.W.fnOf "__init__" "NoSieve.__init__" (defArgs s_NoSieve_init) (defBody s_NoSieve_init) (defScope s_NoSieve_init) .none kV_NoSieve_init dc_NoSieve_init pm_NoSieve_init an_NoSieve_init cd_NoSieve_init ct_NoSieve_init), sl_NoSieve_init⟩)
    (o_NoSieve_init : PySem.W.codeIn K cd_NoSieve_init "NoSieve.__init__" = true)
    (q_NoSieve_init : PySem.W.keepIn K (.ref f_NoSieve_init) = true)
    (a_BadText_init : PySem.W.findIn K (.ref c_BadText) "__init__" = some (some (.ref f_BadText_init)))
    (i_BadText_init : PySem.W.isFn K (.ref f_BadText_init) = true)
    (l_BadText_init : K.lookup f_BadText_init = some ⟨oc_BadText_init, od_BadText_init, .func (PySem.W.fnOf "__init__" "BadText.__init__" (defArgs s_BadText_init) (defBody s_BadText_init) (defScope s_BadText_init) .none kV_BadText_init dc_BadText_init pm_BadText_init an_BadText_init cd_BadText_init ct_BadText_init), sl_BadText_init⟩)
    (o_BadText_init : PySem.W.codeIn K cd_BadText_init "BadText.__init__" = true)
    (q_BadText_init : PySem.W.keepIn K (.ref f_BadText_init) = true)
    (a__law_alike : PySem.W.nsIn K mainGlobals "_law_alike" = some (some (.ref f__law_alike)))
    (l__law_alike : K.lookup f__law_alike = some ⟨oc__law_alike, od__law_alike, .func (PySem.W.fnOf "_law_alike" "_law_alike" (defArgs s__law_alike) (defBody s__law_alike) (defScope s__law_alike) .none kV__law_alike dc__law_alike pm__law_alike an__law_alike cd__law_alike ct__law_alike), sl__law_alike⟩)
    (o__law_alike : PySem.W.codeIn K cd__law_alike "_law_alike" = true)
    (q__law_alike : PySem.W.keepIn K (.ref f__law_alike) = true)
    (a__law_refused : PySem.W.nsIn K mainGlobals "_law_refused" = some (some (.ref f__law_refused)))
    (l__law_refused : K.lookup f__law_refused = some ⟨oc__law_refused, od__law_refused, .func (PySem.W.fnOf "_law_refused" "_law_refused" (defArgs s__law_refused) (defBody s__law_refused) (defScope s__law_refused) .none kV__law_refused dc__law_refused pm__law_refused an__law_refused cd__law_refused ct__law_refused), sl__law_refused⟩)
    (o__law_refused : PySem.W.codeIn K cd__law_refused "_law_refused" = true)
    (q__law_refused : PySem.W.keepIn K (.ref f__law_refused) = true)
    (a__law_due_stuck : PySem.W.nsIn K mainGlobals "_law_due_stuck" = some (some (.ref f__law_due_stuck)))
    (l__law_due_stuck : K.lookup f__law_due_stuck = some ⟨oc__law_due_stuck, od__law_due_stuck, .func (PySem.W.fnOf "_law_due_stuck" "_law_due_stuck" (defArgs s__law_due_stuck) (defBody s__law_due_stuck) (defScope s__law_due_stuck) .none kV__law_due_stuck dc__law_due_stuck pm__law_due_stuck an__law_due_stuck cd__law_due_stuck ct__law_due_stuck), sl__law_due_stuck⟩)
    (o__law_due_stuck : PySem.W.codeIn K cd__law_due_stuck "_law_due_stuck" = true)
    (q__law_due_stuck : PySem.W.keepIn K (.ref f__law_due_stuck) = true)
    (a__law_works : PySem.W.nsIn K mainGlobals "_law_works" = some (some (.ref f__law_works)))
    (l__law_works : K.lookup f__law_works = some ⟨oc__law_works, od__law_works, .func (PySem.W.fnOf "_law_works" "_law_works" (defArgs s__law_works) (defBody s__law_works) (defScope s__law_works) .none kV__law_works dc__law_works pm__law_works an__law_works cd__law_works ct__law_works), sl__law_works⟩)
    (o__law_works : PySem.W.codeIn K cd__law_works "_law_works" = true)
    (q__law_works : PySem.W.keepIn K (.ref f__law_works) = true)
    (a_law : PySem.W.nsIn K mainGlobals "law" = some (some (.ref f_law)))
    (l_law : K.lookup f_law = some ⟨oc_law, od_law, .func (PySem.W.fnOf "law" "law" (defArgs s_law) (defBody s_law) (defScope s_law) .none kV_law dc_law pm_law an_law cd_law ct_law), sl_law⟩)
    (o_law : PySem.W.codeIn K cd_law "law" = true)
    (q_law : PySem.W.keepIn K (.ref f_law) = true)
    (ms_Sieve : PySem.W.makesIn K c_Sieve = true)
    (kc_Sieve : PySem.W.keepIn K (.ref c_Sieve) = true)
    (eb_SieveError : PySem.W.subIn K (.ref c_SieveError) (.type "BaseException") = some true)
    (ed_SieveError : PySem.W.hasDictIn K c_SieveError = true)
    (et_SieveError : PySem.W.typeIn K (.ref c_SieveError) = some (.type "type"))
    (es_BadKey_SieveError : PySem.W.subIn K (.ref c_BadKey) (.ref c_SieveError) = some true)
    (zg_MOST_CAP : PySem.W.nsIn K mainGlobals "MOST_CAP" = some (some (.int 9 tg_MOST_CAP)))
    (zg_MOST_HANDS : PySem.W.nsIn K mainGlobals "MOST_HANDS" = some (some (.int 6 tg_MOST_HANDS)))
    (zg_MOST_SIZE : PySem.W.nsIn K mainGlobals "MOST_SIZE" = some (some (.int 96 tg_MOST_SIZE)))
    (zg_RING : PySem.W.nsIn K mainGlobals "RING" = some (some (.int 10007 tg_RING)))
    (zis_BadKey0 : PySem.W.findIn K (.ref c_BadKey) "__getattribute__" = some (some (.builtin "BaseException.__getattribute__")))
    (zis_BadKey1 : PySem.W.findIn K (.ref c_BadKey) "__getattr__" = some none)
    (zis_BadKey2 : PySem.W.subIn K (.ref c_BadKey) (.type "BaseException") = some true)
    (zis_BadKey3 : PySem.W.hasDictIn K c_BadKey = true)
    (zis_BadKey4 : PySem.W.findIn K (.ref c_BadKey) "__class__" = some (some (.builtin "object.__class__")))
    (zis_BadKey5 : PySem.W.specialIn K (.builtin "object.__class__") "__get__" = some (some (.builtin "getset_descriptor.__get__")))
    (zis_BadKey6 : PySem.W.takesIn K (.builtin "object.__class__") = some true)
    (zis_BadKey7 : PySem.W.mroIn K c_BadKey (.type "object") = some true)
    (zkc_BadKey : PySem.W.keepIn K (.ref c_BadKey) = true)
    (zkc_NotIn : PySem.W.keepIn K (.ref c_NotIn) = true)
    (zki_BadKey_BadKey : PySem.W.kitOne K (.ref c_BadKey) (.ref c_BadKey) = some true)
    (zki_BadKey_BadSieve : PySem.W.kitOne K (.ref c_BadKey) (.ref c_BadSieve) = some false)
    (zki_BadKey_BadText : PySem.W.kitOne K (.ref c_BadKey) (.ref c_BadText) = some false)
    (zki_BadKey_NoSieve : PySem.W.kitOne K (.ref c_BadKey) (.ref c_NoSieve) = some false)
    (zki_BadKey_NotIn : PySem.W.kitOne K (.ref c_BadKey) (.ref c_NotIn) = some false)
    (zki_BadKey_Stuck : PySem.W.kitOne K (.ref c_BadKey) (.ref c_Stuck) = some false)
    (zki_BadKey_Unlike : PySem.W.kitOne K (.ref c_BadKey) (.ref c_Unlike) = some false)
    (zki_BadKey_ValueError : PySem.W.kitOne K (.ref c_BadKey) (.type "ValueError") = some true)
    (zn_ValueError : PySem.W.nsIn K mainGlobals "ValueError" = some none)
    (zn_bool : PySem.W.nsIn K mainGlobals "bool" = some none)
    (zn_int : PySem.W.nsIn K mainGlobals "int" = some none)
    (zn_isinstance : PySem.W.nsIn K mainGlobals "isinstance" = some none)
    (zn_len : PySem.W.nsIn K mainGlobals "len" = some none)
    (zn_list : PySem.W.nsIn K mainGlobals "list" = some none)
    (zn_max : PySem.W.nsIn K mainGlobals "max" = some none)
    (zn_min : PySem.W.nsIn K mainGlobals "min" = some none)
    (zn_range : PySem.W.nsIn K mainGlobals "range" = some none)
    (zn_set : PySem.W.nsIn K mainGlobals "set" = some none)
    (zn_sorted : PySem.W.nsIn K mainGlobals "sorted" = some none)
    (zn_tuple : PySem.W.nsIn K mainGlobals "tuple" = some none)
    (zl_BadSieve : K.lookup c_BadSieve = some (PySem.excClassObj nm_BadSieve q_BadSieve c_BadSieve N_BadSieve bs_BadSieve [.ref c_SieveError, .type "ValueError", .type "Exception", .type "BaseException", .type "object"] true sn_BadSieve sub_BadSieve ab_BadSieve col_BadSieve dd_BadSieve m0_BadSieve m1_BadSieve m2_BadSieve m3_BadSieve m5_BadSieve "ValueError.__new__"))
    (zs_BadSieve : PySem.W.findIn K (.ref c_BadSieve) "__setattr__" = some (some (.builtin "object.__setattr__")))
    (eb_BadSieve : PySem.W.subIn K (.ref c_BadSieve) (.type "BaseException") = some true)
    (et_BadSieve : PySem.W.typeIn K (.ref c_BadSieve) = some (.type "type"))
    (ek_BadSieve : PySem.W.keepIn K (.ref c_BadSieve) = true)
    (zl_BadText : K.lookup c_BadText = some (PySem.excClassObj nm_BadText q_BadText c_BadText N_BadText bs_BadText [.ref c_SieveError, .type "ValueError", .type "Exception", .type "BaseException", .type "object"] true sn_BadText sub_BadText ab_BadText col_BadText dd_BadText m0_BadText m1_BadText m2_BadText m3_BadText m5_BadText "ValueError.__new__"))
    (zs_BadText : PySem.W.findIn K (.ref c_BadText) "__setattr__" = some (some (.builtin "object.__setattr__")))
    (eb_BadText : PySem.W.subIn K (.ref c_BadText) (.type "BaseException") = some true)
    (et_BadText : PySem.W.typeIn K (.ref c_BadText) = some (.type "type"))
    (ek_BadText : PySem.W.keepIn K (.ref c_BadText) = true)
    (zl_NoSieve : K.lookup c_NoSieve = some (PySem.excClassObj nm_NoSieve q_NoSieve c_NoSieve N_NoSieve bs_NoSieve [.ref c_SieveError, .type "ValueError", .type "Exception", .type "BaseException", .type "object"] true sn_NoSieve sub_NoSieve ab_NoSieve col_NoSieve dd_NoSieve m0_NoSieve m1_NoSieve m2_NoSieve m3_NoSieve m5_NoSieve "ValueError.__new__"))
    (zs_NoSieve : PySem.W.findIn K (.ref c_NoSieve) "__setattr__" = some (some (.builtin "object.__setattr__")))
    (eb_NoSieve : PySem.W.subIn K (.ref c_NoSieve) (.type "BaseException") = some true)
    (et_NoSieve : PySem.W.typeIn K (.ref c_NoSieve) = some (.type "type"))
    (ek_NoSieve : PySem.W.keepIn K (.ref c_NoSieve) = true)
    (zl_Stuck : K.lookup c_Stuck = some (PySem.excClassObj nm_Stuck q_Stuck c_Stuck N_Stuck bs_Stuck [.ref c_SieveError, .type "ValueError", .type "Exception", .type "BaseException", .type "object"] true sn_Stuck sub_Stuck ab_Stuck col_Stuck dd_Stuck m0_Stuck m1_Stuck m2_Stuck m3_Stuck m5_Stuck "ValueError.__new__"))
    (zs_Stuck : PySem.W.findIn K (.ref c_Stuck) "__setattr__" = some (some (.builtin "object.__setattr__")))
    (eb_Stuck : PySem.W.subIn K (.ref c_Stuck) (.type "BaseException") = some true)
    (et_Stuck : PySem.W.typeIn K (.ref c_Stuck) = some (.type "type"))
    (ek_Stuck : PySem.W.keepIn K (.ref c_Stuck) = true)
    (ztf_BadSieve_init : PySem.W.typeIn K (.ref f_BadSieve_init) = some (.type "function"))
    (ztf_Stuck_init : PySem.W.typeIn K (.ref f_Stuck_init) = some (.type "function"))
    (zx_BadKey : PySem.W.excIn K c_BadKey [.type "ValueError", .type "Exception", .type "BaseException", .type "object"] "ValueError.__new__" = true)
    (zx_NotIn : PySem.W.excIn K c_NotIn [.type "ValueError", .type "Exception", .type "BaseException", .type "object"] "ValueError.__new__" = true)
    (zxb_BadKey : PySem.W.subIn K (.ref c_BadKey) (.type "BaseException") = some true)
    (zxb_NotIn : PySem.W.subIn K (.ref c_NotIn) (.type "BaseException") = some true)
    (zxn_BadSieve_why : PySem.W.findIn K (.ref c_BadSieve) "why" = some none)
    (zxn_BadText_row : PySem.W.findIn K (.ref c_BadText) "row" = some none)
    (zxn_NoSieve_paper : PySem.W.findIn K (.ref c_NoSieve) "paper" = some none)
    (zxn_Stuck_cells : PySem.W.findIn K (.ref c_Stuck) "cells" = some none)
    (zxt_BadKey : PySem.W.typeIn K (.ref c_BadKey) = some (.type "type"))
    (zxt_NotIn : PySem.W.typeIn K (.ref c_NotIn) = some (.type "type"))
    (xo_law : cd__law_works = .ref xc_law)
    (xl_law : K.lookup xc_law = some ⟨.type "code", xd_law, .fields xv_law, xs_law⟩)
    (x11_law : xv_law[11]? = some (.ref PT_law))
    (x18_law : xv_law.getD 18 .none = .str xf_law xt_law)
    (x7_law : xv_law.getD 7 .none = .int xg_law xt2_law)
    (x9_law : xv_law.getD 9 .none = .bool xb_law)
    (x10_law : xv_law.getD 10 .none = .int xk_law xt3_law)
    (xne_law : xc_law ≠ PT_law)
    (xnt_law : K.lookup PT_law = none)
    (xin_law : PT_law ∈ ts) :
    ∃ (fd : FuncData) (c PT : Addr), KS.CodeT K c PT ∧ PT ∈ ts ∧ (∀ (s : Shared) (u : Value), BindsTo s fd ⟨[u], []⟩ [("_law_script", u)]) ∧ ∀ base : Heap, K.In base → base.Ns mainGlobals mg → LamX.TabB base mg c PT → FnOk P w K mg base CX0 14 fa fd ["_law_script"] (KS.spLawT K PT) := by
  have e := hfa.symm.trans (PySem.W.mg_of X G a_law)
  cases e
  cases xo_law
  obtain ⟨T, hcw⟩ : ∃ T : Txt K mg, T.d__law_works.code = .ref xc_law := ⟨{ c_SieveError := c_SieveError, m_SieveError := PySem.W.mg_of X G a_SieveError, c_BadSieve := c_BadSieve, m_BadSieve := PySem.W.mg_of X G a_BadSieve, c_BadKey := c_BadKey, m_BadKey := PySem.W.mg_of X G a_BadKey, c_NotIn := c_NotIn, m_NotIn := PySem.W.mg_of X G a_NotIn, c_Stuck := c_Stuck, m_Stuck := PySem.W.mg_of X G a_Stuck, c_Unlike := c_Unlike, m_Unlike := PySem.W.mg_of X G a_Unlike, c_NoSieve := c_NoSieve, m_NoSieve := PySem.W.mg_of X G a_NoSieve, c_BadText := c_BadText, m_BadText := PySem.W.mg_of X G a_BadText, c_Sieve := c_Sieve, m_Sieve := PySem.W.mg_of X G a_Sieve, cl_Sieve := ⟨pg_Sieve, hd_Sieve, po_Sieve, sa_Sieve⟩, na_Sieve_many := na_Sieve_many, na_Sieve_pointers := na_Sieve_pointers, na_Sieve_most := na_Sieve_most, na_Sieve_cells := na_Sieve_cells, f_need_key := f_need_key, d_need_key := _, m_need_key := PySem.W.mg_of X G a_need_key, F_need_key := fun_mk (st := s_need_key) l_need_key o_need_key q_need_key, f_pointed := f_pointed, d_pointed := _, m_pointed := PySem.W.mg_of X G a_pointed, F_pointed := fun_mk (st := s_pointed) l_pointed o_pointed q_pointed, f__law_mix := f__law_mix, d__law_mix := _, m__law_mix := PySem.W.mg_of X G a__law_mix, F__law_mix := fun_mk (st := s__law_mix) l__law_mix o__law_mix q__law_mix, f__law_next := f__law_next, d__law_next := _, m__law_next := PySem.W.mg_of X G a__law_next, F__law_next := fun_mk (st := s__law_next) l__law_next o__law_next q__law_next, f__law_hands := f__law_hands, d__law_hands := _, m__law_hands := PySem.W.mg_of X G a__law_hands, F__law_hands := fun_mk (st := s__law_hands) l__law_hands o__law_hands q__law_hands, f__law_keys := f__law_keys, d__law_keys := _, m__law_keys := PySem.W.mg_of X G a__law_keys, F__law_keys := fun_mk (st := s__law_keys) l__law_keys o__law_keys q__law_keys, f__law_cells := f__law_cells, d__law_cells := _, m__law_cells := PySem.W.mg_of X G a__law_cells, F__law_cells := fun_mk (st := s__law_cells) l__law_cells o__law_cells q__law_cells, f__law_are := f__law_are, d__law_are := _, m__law_are := PySem.W.mg_of X G a__law_are, F__law_are := fun_mk (st := s__law_are) l__law_are o__law_are q__law_are, f_BadSieve_init := f_BadSieve_init, d_BadSieve_init := _, me_BadSieve_init := ⟨a_BadSieve_init, i_BadSieve_init, q_BadSieve_init⟩, F_BadSieve_init := fun_mk (st := s_BadSieve_init) l_BadSieve_init o_BadSieve_init q_BadSieve_init, f_Stuck_init := f_Stuck_init, d_Stuck_init := _, me_Stuck_init := ⟨a_Stuck_init, i_Stuck_init, q_Stuck_init⟩, F_Stuck_init := fun_mk (st := s_Stuck_init) l_Stuck_init o_Stuck_init q_Stuck_init, f_need := f_need, d_need := _, m_need := PySem.W.mg_of X G a_need, F_need := fun_mk (st := s_need) l_need o_need q_need, f_need_size := f_need_size, d_need_size := _, m_need_size := PySem.W.mg_of X G a_need_size, F_need_size := fun_mk (st := s_need_size) l_need_size o_need_size q_need_size, f_need_cap := f_need_cap, d_need_cap := _, m_need_cap := PySem.W.mg_of X G a_need_cap, F_need_cap := fun_mk (st := s_need_cap) l_need_cap o_need_cap q_need_cap, f_need_hands := f_need_hands, d_need_hands := _, m_need_hands := PySem.W.mg_of X G a_need_hands, F_need_hands := fun_mk (st := s_need_hands) l_need_hands o_need_hands q_need_hands, f_hands_by_cell := f_hands_by_cell, d_hands_by_cell := _, m_hands_by_cell := PySem.W.mg_of X G a_hands_by_cell, F_hands_by_cell := fun_mk (st := s_hands_by_cell) l_hands_by_cell o_hands_by_cell q_hands_by_cell, f_Sieve_size := f_Sieve_size, d_Sieve_size := _, me_Sieve_size := ⟨a_Sieve_size, i_Sieve_size, q_Sieve_size⟩, F_Sieve_size := fun_mk (st := s_Sieve_size) l_Sieve_size o_Sieve_size q_Sieve_size, f_Sieve_cap := f_Sieve_cap, d_Sieve_cap := _, me_Sieve_cap := ⟨a_Sieve_cap, i_Sieve_cap, q_Sieve_cap⟩, F_Sieve_cap := fun_mk (st := s_Sieve_cap) l_Sieve_cap o_Sieve_cap q_Sieve_cap, f_Sieve_hands := f_Sieve_hands, d_Sieve_hands := _, me_Sieve_hands := ⟨a_Sieve_hands, i_Sieve_hands, q_Sieve_hands⟩, F_Sieve_hands := fun_mk (st := s_Sieve_hands) l_Sieve_hands o_Sieve_hands q_Sieve_hands, f_Sieve_counts := f_Sieve_counts, d_Sieve_counts := _, me_Sieve_counts := ⟨a_Sieve_counts, i_Sieve_counts, q_Sieve_counts⟩, F_Sieve_counts := fun_mk (st := s_Sieve_counts) l_Sieve_counts o_Sieve_counts q_Sieve_counts, f_Sieve_init := f_Sieve_init, d_Sieve_init := _, me_Sieve_init := ⟨a_Sieve_init, i_Sieve_init, q_Sieve_init⟩, F_Sieve_init := fun_mk (st := s_Sieve_init) l_Sieve_init o_Sieve_init q_Sieve_init, f_Sieve_put := f_Sieve_put, d_Sieve_put := _, me_Sieve_put := ⟨a_Sieve_put, i_Sieve_put, q_Sieve_put⟩, F_Sieve_put := fun_mk (st := s_Sieve_put) l_Sieve_put o_Sieve_put q_Sieve_put, f_Sieve_says := f_Sieve_says, d_Sieve_says := _, me_Sieve_says := ⟨a_Sieve_says, i_Sieve_says, q_Sieve_says⟩, F_Sieve_says := fun_mk (st := s_Sieve_says) l_Sieve_says o_Sieve_says q_Sieve_says, f_Sieve_stuck_cells := f_Sieve_stuck_cells, d_Sieve_stuck_cells := _, me_Sieve_stuck_cells := ⟨a_Sieve_stuck_cells, i_Sieve_stuck_cells, q_Sieve_stuck_cells⟩, F_Sieve_stuck_cells := fun_mk (st := s_Sieve_stuck_cells) l_Sieve_stuck_cells o_Sieve_stuck_cells q_Sieve_stuck_cells, f_Sieve_need_takeable := f_Sieve_need_takeable, d_Sieve_need_takeable := _, me_Sieve_need_takeable := ⟨a_Sieve_need_takeable, i_Sieve_need_takeable, q_Sieve_need_takeable⟩, F_Sieve_need_takeable := fun_mk (st := s_Sieve_need_takeable) l_Sieve_need_takeable o_Sieve_need_takeable q_Sieve_need_takeable, f_Sieve_take := f_Sieve_take, d_Sieve_take := _, me_Sieve_take := ⟨a_Sieve_take, i_Sieve_take, q_Sieve_take⟩, F_Sieve_take := fun_mk (st := s_Sieve_take) l_Sieve_take o_Sieve_take q_Sieve_take, f__law_counts := f__law_counts, d__law_counts := _, m__law_counts := PySem.W.mg_of X G a__law_counts, F__law_counts := fun_mk (st := s__law_counts) l__law_counts o__law_counts q__law_counts, f_need_keys := f_need_keys, d_need_keys := _, m_need_keys := PySem.W.mg_of X G a_need_keys, F_need_keys := fun_mk (st := s_need_keys) l_need_keys o_need_keys q_need_keys, f_with_counts := f_with_counts, d_with_counts := _, m_with_counts := PySem.W.mg_of X G a_with_counts, F_with_counts := fun_mk (st := s_with_counts) l_with_counts o_with_counts q_with_counts, f_copied := f_copied, d_copied := _, m_copied := PySem.W.mg_of X G a_copied, F_copied := fun_mk (st := s_copied) l_copied o_copied q_copied, f_built := f_built, d_built := _, m_built := PySem.W.mg_of X G a_built, F_built := fun_mk (st := s_built) l_built o_built q_built, f_unlike := f_unlike, d_unlike := _, m_unlike := PySem.W.mg_of X G a_unlike, F_unlike := fun_mk (st := s_unlike) l_unlike o_unlike q_unlike, f_yeses := f_yeses, d_yeses := _, m_yeses := PySem.W.mg_of X G a_yeses, F_yeses := fun_mk (st := s_yeses) l_yeses o_yeses q_yeses, f_harm := f_harm, d_harm := _, m_harm := PySem.W.mg_of X G a_harm, F_harm := fun_mk (st := s_harm) l_harm o_harm q_harm, f__law_says := f__law_says, d__law_says := _, m__law_says := PySem.W.mg_of X G a__law_says, F__law_says := fun_mk (st := s__law_says) l__law_says o__law_says q__law_says, f_others := f_others, d_others := _, m_others := PySem.W.mg_of X G a_others, F_others := fun_mk (st := s_others) l_others o_others q_others, f_wrong := f_wrong, d_wrong := _, m_wrong := PySem.W.mg_of X G a_wrong, F_wrong := fun_mk (st := s_wrong) l_wrong o_wrong q_wrong, f_share := f_share, d_share := _, m_share := PySem.W.mg_of X G a_share, F_share := fun_mk (st := s_share) l_share o_share q_share, f_stuck := f_stuck, d_stuck := _, m_stuck := PySem.W.mg_of X G a_stuck, F_stuck := fun_mk (st := s_stuck) l_stuck o_stuck q_stuck, f__law_universe := f__law_universe, d__law_universe := _, m__law_universe := PySem.W.mg_of X G a__law_universe, F__law_universe := fun_mk (st := s__law_universe) l__law_universe o__law_universe q__law_universe, f_NoSieve_init := f_NoSieve_init, d_NoSieve_init := _, me_NoSieve_init := ⟨a_NoSieve_init, i_NoSieve_init, q_NoSieve_init⟩, F_NoSieve_init := fun_mk (st := s_NoSieve_init) l_NoSieve_init o_NoSieve_init q_NoSieve_init, f_BadText_init := f_BadText_init, d_BadText_init := _, me_BadText_init := ⟨a_BadText_init, i_BadText_init, q_BadText_init⟩, F_BadText_init := fun_mk (st := s_BadText_init) l_BadText_init o_BadText_init q_BadText_init, f__law_alike := f__law_alike, d__law_alike := _, m__law_alike := PySem.W.mg_of X G a__law_alike, F__law_alike := fun_mk (st := s__law_alike) l__law_alike o__law_alike q__law_alike, f__law_refused := f__law_refused, d__law_refused := _, m__law_refused := PySem.W.mg_of X G a__law_refused, F__law_refused := fun_mk (st := s__law_refused) l__law_refused o__law_refused q__law_refused, f__law_due_stuck := f__law_due_stuck, d__law_due_stuck := _, m__law_due_stuck := PySem.W.mg_of X G a__law_due_stuck, F__law_due_stuck := fun_mk (st := s__law_due_stuck) l__law_due_stuck o__law_due_stuck q__law_due_stuck, f__law_works := f__law_works, d__law_works := _, m__law_works := PySem.W.mg_of X G a__law_works, F__law_works := fun_mk (st := s__law_works) l__law_works o__law_works q__law_works, mk_Sieve := ⟨ms_Sieve, a_Sieve_init, i_Sieve_init, kc_Sieve⟩, em_BadKey_SieveError := PySem.W.exm_ref eb_SieveError ed_SieveError et_SieveError es_BadKey_SieveError, tg_MOST_CAP := tg_MOST_CAP, g_MOST_CAP := PySem.W.mg_of X G zg_MOST_CAP, tg_MOST_HANDS := tg_MOST_HANDS, g_MOST_HANDS := PySem.W.mg_of X G zg_MOST_HANDS, tg_MOST_SIZE := tg_MOST_SIZE, g_MOST_SIZE := PySem.W.mg_of X G zg_MOST_SIZE, tg_RING := tg_RING, g_RING := PySem.W.mg_of X G zg_RING, is_BadKey := ⟨zis_BadKey0, zis_BadKey1, zis_BadKey2, zis_BadKey3, zis_BadKey4, zis_BadKey5, zis_BadKey6, zis_BadKey7⟩, kc_BadKey := zkc_BadKey, kc_NotIn := zkc_NotIn, ki_BadKey_BadKey := zki_BadKey_BadKey, ki_BadKey_BadSieve := zki_BadKey_BadSieve, ki_BadKey_BadText := zki_BadKey_BadText, ki_BadKey_NoSieve := zki_BadKey_NoSieve, ki_BadKey_NotIn := zki_BadKey_NotIn, ki_BadKey_Stuck := zki_BadKey_Stuck, ki_BadKey_Unlike := zki_BadKey_Unlike, ki_BadKey_ValueError := zki_BadKey_ValueError, n_ValueError := PySem.W.mg_none_of X G zn_ValueError, n_bool := PySem.W.mg_none_of X G zn_bool, n_int := PySem.W.mg_none_of X G zn_int, n_isinstance := PySem.W.mg_none_of X G zn_isinstance, n_len := PySem.W.mg_none_of X G zn_len, n_list := PySem.W.mg_none_of X G zn_list, n_max := PySem.W.mg_none_of X G zn_max, n_min := PySem.W.mg_none_of X G zn_min, n_range := PySem.W.mg_none_of X G zn_range, n_set := PySem.W.mg_none_of X G zn_set, n_sorted := PySem.W.mg_none_of X G zn_sorted, n_tuple := PySem.W.mg_none_of X G zn_tuple, ox_BadSieve := ⟨⟨_, _, _, _, _, _, _, _, _, _, _, _, _, _, _, zl_BadSieve, rfl⟩, zs_BadSieve, eb_BadSieve, et_BadSieve, ek_BadSieve⟩, ox_BadText := ⟨⟨_, _, _, _, _, _, _, _, _, _, _, _, _, _, _, zl_BadText, rfl⟩, zs_BadText, eb_BadText, et_BadText, ek_BadText⟩, ox_NoSieve := ⟨⟨_, _, _, _, _, _, _, _, _, _, _, _, _, _, _, zl_NoSieve, rfl⟩, zs_NoSieve, eb_NoSieve, et_NoSieve, ek_NoSieve⟩, ox_Stuck := ⟨⟨_, _, _, _, _, _, _, _, _, _, _, _, _, _, _, zl_Stuck, rfl⟩, zs_Stuck, eb_Stuck, et_Stuck, ek_Stuck⟩, tf_BadSieve_init := ztf_BadSieve_init, tf_Stuck_init := ztf_Stuck_init, x_BadKey := zx_BadKey, x_NotIn := zx_NotIn, xb_BadKey := zxb_BadKey, xb_NotIn := zxb_NotIn, xn_BadSieve_why := zxn_BadSieve_why, xn_BadText_row := zxn_BadText_row, xn_NoSieve_paper := zxn_NoSieve_paper, xn_Stuck_cells := zxn_Stuck_cells, xt_BadKey := zxt_BadKey, xt_NotIn := zxt_NotIn }, rfl⟩
  have F_law := fun_mk (st := s_law) l_law o_law q_law
  exact ⟨_, xc_law, PT_law, ⟨⟨_, _, _, _, _, _, _, _, _, _, xl_law, x11_law, x18_law, x7_law, x9_law, x10_law⟩, xne_law, xnt_law⟩, xin_law, KS.law_binds F_law (fun _ _ _ _ _ _ _ => rfl), fun base _ _ TB => ok_law T F_law TB hcw⟩
theorem walk {l : PySem.W.OpenLaw} {q : Program} {loose : List Str} {XP : (Str → Option Value) → Heap → Prop} {YP : World → Heap → Prop} {d : DefRec} {K : Params → PySem.W.Frag} {ts : List Addr} (hn : l.most = some 63) (hdf : d.params.defaults = [])
    (hY : ∀ (w : World) (h : Heap), YP w h → (K w.params).In h) (hT : ∀ (w : World) (h : Heap), YP w h → ∀ p ∈ ts, h.get? p = some { cls := .none, data := .fields #[] })
    (F : ∀ (w : World) (mg : Str → Option Value) (fa : Addr) (h : Heap), (K w.params).In h → h.Ns mainGlobals mg → mg d.name = some (.ref fa) →
      ∃ (fd : FuncData) (c PT : Addr), KS.CodeT (K w.params) c PT ∧ PT ∈ ts ∧ (∀ (s : Shared) (u : Value), BindsTo s fd ⟨[u], []⟩ [("_law_script", u)]) ∧ ∀ base : Heap, (K w.params).In base → base.Ns mainGlobals mg → LamX.TabB base mg c PT → FnOk l.prog w (K w.params) mg base CX0 14 fa fd ["_law_script"] (KS.spLawT (K w.params) PT)) :
    PySem.W.WalkO q loose XP YP l.row.toRowW d [] (fun f vs => PySem.call f vs) :=
  LamX.walk_ofTs (n := 63) (k := 14) (x := "_law_script") (CX := fun _ => CX0) hn (by decide) hdf ⟨rfl, by decide, by decide⟩ hY (fun w mg fa h Y X G hfa => by
    obtain ⟨fd, c, PT, C, hin, hb, hF⟩ := F w mg fa h X G hfa
    refine ⟨fd, [(c, PT)], KS.spLawT (K w.params) PT, fun p hp => ?_, fun p hp => ?_, fun p hp => ?_, hb, fun H a ns hl _ hH hS => ⟨a, ns, rfl, hS, hl, hH _ (List.mem_singleton.mpr rfl), fun _ => rfl⟩, fun base hK hN hTB => hF base hK hN (hTB _ (List.mem_singleton.mpr rfl))⟩
    · rw [List.mem_singleton.mp hp]
      exact hT w h Y _ hin
    · rw [List.mem_singleton.mp hp]
      exact C.nt
    · rw [List.mem_singleton.mp hp]
      exact C.hd X) fun _ _ _ _ _ z => z
end KW
open PySem PySem.W PyProof.Rows
set_option maxRecDepth 100000 in
set_option maxHeartbeats 0 in
theorem PySem.Challenge.cw_keysieve_k05_yeses_of_a_universe_holds : PySem.Challenge.rw_keysieve_k05_yeses_of_a_universe.Holds := by
  w_on; o_law; k_head; (case hw => w_witness2)
  k_fill
  refine KW.walk (l := PySem.Challenge.rw_keysieve_k05_yeses_of_a_universe) rfl rfl (fun w h Y => PySem.W.km_in_of Y) (fun w h Y => PySem.W.km_tabs_of Y) ?F
  case F =>
    intro w mg fa h KX G hmg
    refine' KW.all_mk KX G hmg ?a_SieveError ?a_BadSieve ?a_BadKey ?a_NotIn ?a_Stuck ?a_Unlike ?a_NoSieve ?a_BadText ?a_Sieve ?pg_Sieve ?hd_Sieve ?po_Sieve ?sa_Sieve ?na_Sieve_many ?na_Sieve_pointers ?na_Sieve_most ?na_Sieve_cells ?a_need_key ?l_need_key ?o_need_key ?q_need_key ?a_pointed ?l_pointed ?o_pointed ?q_pointed ?a__law_mix ?l__law_mix ?o__law_mix ?q__law_mix ?a__law_next ?l__law_next ?o__law_next ?q__law_next ?a__law_hands ?l__law_hands ?o__law_hands ?q__law_hands ?a__law_keys ?l__law_keys ?o__law_keys ?q__law_keys ?a__law_cells ?l__law_cells ?o__law_cells ?q__law_cells ?a__law_are ?l__law_are ?o__law_are ?q__law_are ?a_BadSieve_init ?i_BadSieve_init ?l_BadSieve_init ?o_BadSieve_init ?q_BadSieve_init ?a_Stuck_init ?i_Stuck_init ?l_Stuck_init ?o_Stuck_init ?q_Stuck_init ?a_need ?l_need ?o_need ?q_need ?a_need_size ?l_need_size ?o_need_size ?q_need_size ?a_need_cap ?l_need_cap ?o_need_cap ?q_need_cap ?a_need_hands ?l_need_hands ?o_need_hands ?q_need_hands ?a_hands_by_cell ?l_hands_by_cell ?o_hands_by_cell ?q_hands_by_cell ?a_Sieve_size ?i_Sieve_size ?l_Sieve_size ?o_Sieve_size ?q_Sieve_size ?a_Sieve_cap ?i_Sieve_cap ?l_Sieve_cap ?o_Sieve_cap ?q_Sieve_cap ?a_Sieve_hands ?i_Sieve_hands ?l_Sieve_hands ?o_Sieve_hands ?q_Sieve_hands ?a_Sieve_counts ?i_Sieve_counts ?l_Sieve_counts ?o_Sieve_counts ?q_Sieve_counts ?a_Sieve_init ?i_Sieve_init ?l_Sieve_init ?o_Sieve_init ?q_Sieve_init ?a_Sieve_put ?i_Sieve_put ?l_Sieve_put ?o_Sieve_put ?q_Sieve_put ?a_Sieve_says ?i_Sieve_says ?l_Sieve_says ?o_Sieve_says ?q_Sieve_says ?a_Sieve_stuck_cells ?i_Sieve_stuck_cells ?l_Sieve_stuck_cells ?o_Sieve_stuck_cells ?q_Sieve_stuck_cells ?a_Sieve_need_takeable ?i_Sieve_need_takeable ?l_Sieve_need_takeable ?o_Sieve_need_takeable ?q_Sieve_need_takeable ?a_Sieve_take ?i_Sieve_take ?l_Sieve_take ?o_Sieve_take ?q_Sieve_take ?a__law_counts ?l__law_counts ?o__law_counts ?q__law_counts ?a_need_keys ?l_need_keys ?o_need_keys ?q_need_keys ?a_with_counts ?l_with_counts ?o_with_counts ?q_with_counts ?a_copied ?l_copied ?o_copied ?q_copied ?a_built ?l_built ?o_built ?q_built ?a_unlike ?l_unlike ?o_unlike ?q_unlike ?a_yeses ?l_yeses ?o_yeses ?q_yeses ?a_harm ?l_harm ?o_harm ?q_harm ?a__law_says ?l__law_says ?o__law_says ?q__law_says ?a_others ?l_others ?o_others ?q_others ?a_wrong ?l_wrong ?o_wrong ?q_wrong ?a_share ?l_share ?o_share ?q_share ?a_stuck ?l_stuck ?o_stuck ?q_stuck ?a__law_universe ?l__law_universe ?o__law_universe ?q__law_universe ?a_NoSieve_init ?i_NoSieve_init ?l_NoSieve_init ?o_NoSieve_init ?q_NoSieve_init ?a_BadText_init ?i_BadText_init ?l_BadText_init ?o_BadText_init ?q_BadText_init ?a__law_alike ?l__law_alike ?o__law_alike ?q__law_alike ?a__law_refused ?l__law_refused ?o__law_refused ?q__law_refused ?a__law_due_stuck ?l__law_due_stuck ?o__law_due_stuck ?q__law_due_stuck ?a__law_works ?l__law_works ?o__law_works ?q__law_works ?a_law ?l_law ?o_law ?q_law ?ms_Sieve ?kc_Sieve ?eb_SieveError ?ed_SieveError ?et_SieveError ?es_BadKey_SieveError ?zg_MOST_CAP ?zg_MOST_HANDS ?zg_MOST_SIZE ?zg_RING ?zis_BadKey0 ?zis_BadKey1 ?zis_BadKey2 ?zis_BadKey3 ?zis_BadKey4 ?zis_BadKey5 ?zis_BadKey6 ?zis_BadKey7 ?zkc_BadKey ?zkc_NotIn ?zki_BadKey_BadKey ?zki_BadKey_BadSieve ?zki_BadKey_BadText ?zki_BadKey_NoSieve ?zki_BadKey_NotIn ?zki_BadKey_Stuck ?zki_BadKey_Unlike ?zki_BadKey_ValueError ?zn_ValueError ?zn_bool ?zn_int ?zn_isinstance ?zn_len ?zn_list ?zn_max ?zn_min ?zn_range ?zn_set ?zn_sorted ?zn_tuple ?zl_BadSieve ?zs_BadSieve ?eb_BadSieve ?et_BadSieve ?ek_BadSieve ?zl_BadText ?zs_BadText ?eb_BadText ?et_BadText ?ek_BadText ?zl_NoSieve ?zs_NoSieve ?eb_NoSieve ?et_NoSieve ?ek_NoSieve ?zl_Stuck ?zs_Stuck ?eb_Stuck ?et_Stuck ?ek_Stuck ?ztf_BadSieve_init ?ztf_Stuck_init ?zx_BadKey ?zx_NotIn ?zxb_BadKey ?zxb_NotIn ?zxn_BadSieve_why ?zxn_BadText_row ?zxn_NoSieve_paper ?zxn_Stuck_cells ?zxt_BadKey ?zxt_NotIn ?xo_law ?xl_law ?x11_law ?x18_law ?x7_law ?x9_law ?x10_law ?xne_law ?xnt_law ?xin_law
    (case a_SieveError => k_is)
    (case a_BadSieve => k_is)
    (case a_BadKey => k_is)
    (case a_NotIn => k_is)
    (case a_Stuck => k_is)
    (case a_Unlike => k_is)
    (case a_NoSieve => k_is)
    (case a_BadText => k_is)
    (case a_Sieve => k_is)
    (case pg_Sieve => k_is)
    (case hd_Sieve => k_is)
    (case po_Sieve => k_is)
    (case sa_Sieve => k_is)
    (case na_Sieve_many => k_is)
    (case na_Sieve_pointers => k_is)
    (case na_Sieve_most => k_is)
    (case na_Sieve_cells => k_is)
    (case a_need_key => k_is)
    (case l_need_key => k_is)
    (case o_need_key => k_is)
    (case q_need_key => k_is)
    (case a_pointed => k_is)
    (case l_pointed => k_is)
    (case o_pointed => k_is)
    (case q_pointed => k_is)
    (case a__law_mix => k_is)
    (case l__law_mix => k_is)
    (case o__law_mix => k_is)
    (case q__law_mix => k_is)
    (case a__law_next => k_is)
    (case l__law_next => k_is)
    (case o__law_next => k_is)
    (case q__law_next => k_is)
    (case a__law_hands => k_is)
    (case l__law_hands => k_is)
    (case o__law_hands => k_is)
    (case q__law_hands => k_is)
    (case a__law_keys => k_is)
    (case l__law_keys => k_is)
    (case o__law_keys => k_is)
    (case q__law_keys => k_is)
    (case a__law_cells => k_is)
    (case l__law_cells => k_is)
    (case o__law_cells => k_is)
    (case q__law_cells => k_is)
    (case a__law_are => k_is)
    (case l__law_are => k_is)
    (case o__law_are => k_is)
    (case q__law_are => k_is)
    (case a_BadSieve_init => k_is)
    (case i_BadSieve_init => k_is)
    (case l_BadSieve_init => k_is)
    (case o_BadSieve_init => k_is)
    (case q_BadSieve_init => k_is)
    (case a_Stuck_init => k_is)
    (case i_Stuck_init => k_is)
    (case l_Stuck_init => k_is)
    (case o_Stuck_init => k_is)
    (case q_Stuck_init => k_is)
    (case a_need => k_is)
    (case l_need => k_is)
    (case o_need => k_is)
    (case q_need => k_is)
    (case a_need_size => k_is)
    (case l_need_size => k_is)
    (case o_need_size => k_is)
    (case q_need_size => k_is)
    (case a_need_cap => k_is)
    (case l_need_cap => k_is)
    (case o_need_cap => k_is)
    (case q_need_cap => k_is)
    (case a_need_hands => k_is)
    (case l_need_hands => k_is)
    (case o_need_hands => k_is)
    (case q_need_hands => k_is)
    (case a_hands_by_cell => k_is)
    (case l_hands_by_cell => k_is)
    (case o_hands_by_cell => k_is)
    (case q_hands_by_cell => k_is)
    (case a_Sieve_size => k_is)
    (case i_Sieve_size => k_is)
    (case l_Sieve_size => k_is)
    (case o_Sieve_size => k_is)
    (case q_Sieve_size => k_is)
    (case a_Sieve_cap => k_is)
    (case i_Sieve_cap => k_is)
    (case l_Sieve_cap => k_is)
    (case o_Sieve_cap => k_is)
    (case q_Sieve_cap => k_is)
    (case a_Sieve_hands => k_is)
    (case i_Sieve_hands => k_is)
    (case l_Sieve_hands => k_is)
    (case o_Sieve_hands => k_is)
    (case q_Sieve_hands => k_is)
    (case a_Sieve_counts => k_is)
    (case i_Sieve_counts => k_is)
    (case l_Sieve_counts => k_is)
    (case o_Sieve_counts => k_is)
    (case q_Sieve_counts => k_is)
    (case a_Sieve_init => k_is)
    (case i_Sieve_init => k_is)
    (case l_Sieve_init => k_is)
    (case o_Sieve_init => k_is)
    (case q_Sieve_init => k_is)
    (case a_Sieve_put => k_is)
    (case i_Sieve_put => k_is)
    (case l_Sieve_put => k_is)
    (case o_Sieve_put => k_is)
    (case q_Sieve_put => k_is)
    (case a_Sieve_says => k_is)
    (case i_Sieve_says => k_is)
    (case l_Sieve_says => k_is)
    (case o_Sieve_says => k_is)
    (case q_Sieve_says => k_is)
    (case a_Sieve_stuck_cells => k_is)
    (case i_Sieve_stuck_cells => k_is)
    (case l_Sieve_stuck_cells => k_is)
    (case o_Sieve_stuck_cells => k_is)
    (case q_Sieve_stuck_cells => k_is)
    (case a_Sieve_need_takeable => k_is)
    (case i_Sieve_need_takeable => k_is)
    (case l_Sieve_need_takeable => k_is)
    (case o_Sieve_need_takeable => k_is)
    (case q_Sieve_need_takeable => k_is)
    (case a_Sieve_take => k_is)
    (case i_Sieve_take => k_is)
    (case l_Sieve_take => k_is)
    (case o_Sieve_take => k_is)
    (case q_Sieve_take => k_is)
    (case a__law_counts => k_is)
    (case l__law_counts => k_is)
    (case o__law_counts => k_is)
    (case q__law_counts => k_is)
    (case a_need_keys => k_is)
    (case l_need_keys => k_is)
    (case o_need_keys => k_is)
    (case q_need_keys => k_is)
    (case a_with_counts => k_is)
    (case l_with_counts => k_is)
    (case o_with_counts => k_is)
    (case q_with_counts => k_is)
    (case a_copied => k_is)
    (case l_copied => k_is)
    (case o_copied => k_is)
    (case q_copied => k_is)
    (case a_built => k_is)
    (case l_built => k_is)
    (case o_built => k_is)
    (case q_built => k_is)
    (case a_unlike => k_is)
    (case l_unlike => k_is)
    (case o_unlike => k_is)
    (case q_unlike => k_is)
    (case a_yeses => k_is)
    (case l_yeses => k_is)
    (case o_yeses => k_is)
    (case q_yeses => k_is)
    (case a_harm => k_is)
    (case l_harm => k_is)
    (case o_harm => k_is)
    (case q_harm => k_is)
    (case a__law_says => k_is)
    (case l__law_says => k_is)
    (case o__law_says => k_is)
    (case q__law_says => k_is)
    (case a_others => k_is)
    (case l_others => k_is)
    (case o_others => k_is)
    (case q_others => k_is)
    (case a_wrong => k_is)
    (case l_wrong => k_is)
    (case o_wrong => k_is)
    (case q_wrong => k_is)
    (case a_share => k_is)
    (case l_share => k_is)
    (case o_share => k_is)
    (case q_share => k_is)
    (case a_stuck => k_is)
    (case l_stuck => k_is)
    (case o_stuck => k_is)
    (case q_stuck => k_is)
    (case a__law_universe => k_is)
    (case l__law_universe => k_is)
    (case o__law_universe => k_is)
    (case q__law_universe => k_is)
    (case a_NoSieve_init => k_is)
    (case i_NoSieve_init => k_is)
    (case l_NoSieve_init => k_is)
    (case o_NoSieve_init => k_is)
    (case q_NoSieve_init => k_is)
    (case a_BadText_init => k_is)
    (case i_BadText_init => k_is)
    (case l_BadText_init => k_is)
    (case o_BadText_init => k_is)
    (case q_BadText_init => k_is)
    (case a__law_alike => k_is)
    (case l__law_alike => k_is)
    (case o__law_alike => k_is)
    (case q__law_alike => k_is)
    (case a__law_refused => k_is)
    (case l__law_refused => k_is)
    (case o__law_refused => k_is)
    (case q__law_refused => k_is)
    (case a__law_due_stuck => k_is)
    (case l__law_due_stuck => k_is)
    (case o__law_due_stuck => k_is)
    (case q__law_due_stuck => k_is)
    (case a__law_works => k_is)
    (case l__law_works => k_is)
    (case o__law_works => k_is)
    (case q__law_works => k_is)
    (case a_law => k_is)
    (case l_law => k_is)
    (case o_law => k_is)
    (case q_law => k_is)
    (case ms_Sieve => k_is)
    (case kc_Sieve => k_is)
    (case eb_SieveError => k_is)
    (case ed_SieveError => k_is)
    (case et_SieveError => k_is)
    (case es_BadKey_SieveError => first | rfl | k_is)
    (case zg_MOST_CAP => k_is)
    (case zg_MOST_HANDS => k_is)
    (case zg_MOST_SIZE => k_is)
    (case zg_RING => k_is)
    (case zis_BadKey0 => k_is)
    (case zis_BadKey1 => k_is)
    (case zis_BadKey2 => k_is)
    (case zis_BadKey3 => k_is)
    (case zis_BadKey4 => k_is)
    (case zis_BadKey5 => k_is)
    (case zis_BadKey6 => k_is)
    (case zis_BadKey7 => k_is)
    (case zkc_BadKey => k_is)
    (case zkc_NotIn => k_is)
    (case zki_BadKey_BadKey => first | rfl | kit_is)
    (case zki_BadKey_BadSieve => first | rfl | kit_is)
    (case zki_BadKey_BadText => first | rfl | kit_is)
    (case zki_BadKey_NoSieve => first | rfl | kit_is)
    (case zki_BadKey_NotIn => first | rfl | kit_is)
    (case zki_BadKey_Stuck => first | rfl | kit_is)
    (case zki_BadKey_Unlike => first | rfl | kit_is)
    (case zki_BadKey_ValueError => first | rfl | kit_is)
    (case zn_ValueError => k_is)
    (case zn_bool => k_is)
    (case zn_int => k_is)
    (case zn_isinstance => k_is)
    (case zn_len => k_is)
    (case zn_list => k_is)
    (case zn_max => k_is)
    (case zn_min => k_is)
    (case zn_range => k_is)
    (case zn_set => k_is)
    (case zn_sorted => k_is)
    (case zn_tuple => k_is)
    (case zl_BadSieve => k_is)
    (case zs_BadSieve => k_is)
    (case eb_BadSieve => k_is)
    (case et_BadSieve => k_is)
    (case ek_BadSieve => k_is)
    (case zl_BadText => k_is)
    (case zs_BadText => k_is)
    (case eb_BadText => k_is)
    (case et_BadText => k_is)
    (case ek_BadText => k_is)
    (case zl_NoSieve => k_is)
    (case zs_NoSieve => k_is)
    (case eb_NoSieve => k_is)
    (case et_NoSieve => k_is)
    (case ek_NoSieve => k_is)
    (case zl_Stuck => k_is)
    (case zs_Stuck => k_is)
    (case eb_Stuck => k_is)
    (case et_Stuck => k_is)
    (case ek_Stuck => k_is)
    (case ztf_BadSieve_init => k_is)
    (case ztf_Stuck_init => k_is)
    (case zx_BadKey => k_exc)
    (case zx_NotIn => k_exc)
    (case zxb_BadKey => k_is)
    (case zxb_NotIn => k_is)
    (case zxn_BadSieve_why => k_is)
    (case zxn_BadText_row => k_is)
    (case zxn_NoSieve_paper => k_is)
    (case zxn_Stuck_cells => k_is)
    (case zxt_BadKey => k_is)
    (case zxt_NotIn => k_is)
    (case xo_law => exact rfl)
    (case xl_law => k_is)
    (case x11_law => exact rfl)
    (case x18_law => exact rfl)
    (case x7_law => exact rfl)
    (case x9_law => exact rfl)
    (case x10_law => exact rfl)
    (case xne_law => decide)
    (case xnt_law => kernel_rfl)
    (case xin_law => decide)
#print axioms PySem.Challenge.cw_keysieve_k05_yeses_of_a_universe_holds
